import PyProof.Rows.All
import Wide.All
import OpenK.AllK
import Wide.FinOn
import HandS.ForMost
import HandS.Exc
import HandS.WordsExc
import HandS.Flow
import HandS.IsInst
import HandS.FStr
import HandS.TupAny
import HandS.Style
import PyProof.ReprRoads
import KE.GoesMore
import PyProof.FString3
import PyProof.Rows.StrIntSpec
import KE.KFmtOwn
import PyProof.StrBlock2
import HandS.Property
import HandS.Text
import PyProof.Rows.Range3
import PyProof.Conv_bool
import HandS.Small
import PyProof.InstEq
import HandS.EndBits
import HandS.Codes
import PyProof.ReprLen
import HandS.Dict
import KE.KExcSuper
import HandS.ExcInit
import HandS.ExcField
import HandS.ExcIs
import PyProof.RowDictHeap
import PyProof.Rows.SeqMore
import PyProof.FitsInt
import KE.KExcInit
import HandS.DictComp
import HandS.Wide
import PyProof.NeKinds
import KE.KDictZip
import KE.GoesEnum
import HandS.Star
import HandS.ExcValue
import PyProof.RulesMatch
import KE.KTryMore
import HandS.Lambda
import HandS.EndTab
import HandS.ClsMeth
import HandS.GenList
import HandS.SortInts
import HandS.Defaults
import HandS.DeepEq
import KE.KDflt
import KE.KSuper
import HandS.More
import KE.KRevSl
import HandS.TryMany
import HandS.Deep
import HandS.DictEq
import PyProof.EqKinds
import PyProof.FactsAll.dict_1
import PyProof.FactsAll.subtypes_4
import PyProof.DictUpdate
import HandS.GenYield
import HandS.DictSub
import HandS.Set
import HandS.SetFor
import HandS.Strs
import KE.KCallOwn
import OpenK.KMeth
import OpenK.KOps
import PyProof.StrLawsRepr
import KE.IntTextLaws
import HandS.Conv
import PyProof.ReprBulk
import KE.KExcLine
import PySem.Challenge.RW_recordshelf_k27_texts_of_records
import PyProof.PureStr
set_option Elab.async false
set_option linter.all false
set_option maxRecDepth 100000
set_option maxHeartbeats 0
namespace RSmall
open Lean Elab Tactic Meta PySem PySem.W PyProof.Rows
/-- what some addresses reach; a class's names lead on only where the list says so -/
def close (hp : Heap) (only : List (Addr × List String)) : Nat → List Addr → Std.HashSet Addr → Std.HashSet Addr
  | 0, _, got => got
  | _, [], got => got
  | n + 1, a :: todo, got =>
    if got.contains a || a == mainNs || a == builtinsNs || a == sysModules then close hp only n todo got else
    match hp.get? a with
    | none => close hp only n todo got
    | some o =>
      let next : List Addr := match only.lookup a, o.data with
        | some names, .dict es _ => es.toList.flatMap fun e => match e.key with
          | .str x _ => if names.contains x.toString then refOf e.val else []
          | _ => []
        | _, _ => refsOf o
      close hp only n (next ++ todo) (got.insert a)
def globalsOf (hp : Heap) : List (String × Addr) := match (hp.get? mainNs).map Obj.data with
  | some (.dict rows _) => rows.toList.filterMap fun row => match row.key, row.val with
    | .str word _, .ref place => some (word.toString, place)
    | _, _ => none
  | _ => []
def nsOf (hp : Heap) (a : Addr) : List Addr := match hp.get? a with
  | some ⟨_, _, .cls c, _⟩ => [c.ns]
  | _ => []
/-- the head with a small written part: what the names reach -/
elab "rs_head" names:str* ";" cut:str* : tactic => withMainContext do
  let asked ← instantiateMVars (← getMainTarget)
  let t ← whnfR asked
  let rowE ← if t.isAppOfArity ``OpenRow.Holds 1 then mkAppM ``OpenRow.toRowW #[t.appArg!]
    else do
      let c ← mkAppM ``OpenRowC.toRowC #[t.appArg!]
      mkAppM ``RowC.toRowW #[c]
  let prog ← progOf (← whnfR (← mkAppM ``RowW.prog #[rowE]))
  let some (one, two) ← twoRuns prog | throwError "rs_head: the top"
  let gl := globalsOf one
  let start := names.toList.filterMap fun n => gl.lookup n.getString
  let only := cut.toList.flatMap fun n => match n.getString.splitOn ":" with
    | [c, ms] => (match gl.lookup c with
      | some a => (nsOf one a).map fun d => (d, ms.splitOn ",")
      | none => [])
    | _ => []
  let got := close one only 1000000 start {}
  let pairT := mkApp2 (mkConst ``Prod [0, 0]) (mkConst ``Nat) (mkConst ``Obj)
  let mk (q : Lean.Expr) := (fragOf q (some "law") one two).filter fun x => got.contains x.1 || x.1 == mainNs || x.1 == cStatics
  let val ← withLocalDeclD `P (mkConst ``Params) fun q => mkLambdaFVars #[q] (listE pairT ((mk q).map fun x => mkApp4 (mkConst ``Prod.mk [0, 0]) (mkConst ``Nat) (mkConst ``Obj) (mkRawNatLit x.1) x.2.2))
  let part := mk (mkConst ``Params)
  let ty ← mkArrow (mkConst ``Params) (mkConst ``Frag)
  let K ← mkAuxDefinition (← mkAuxDeclName `heap) ty val (compile := false)
  fragNow.modify fun l => (K.constName!, part.map fun x => (x.1, x.2.1)) :: l
  logInfo m!"rs_head: {part.length} objects of {(fragOf (mkConst ``Params) (some "law") one two).length}; names lacking: {names.toList.filterMap fun n => if (gl.lookup n.getString).isSome then none else some n.getString}"
  let kS ← Term.exprToSyntax K
  let aS ← Term.exprToSyntax (listE (mkConst ``Nat) (part.map fun x => mkRawNatLit x.1))
  evalTactic (← `(tactic| o_head (kHook $kS $aS fun _ => by kernel_rfl)))
end RSmall
def PySem.W.Fast.tw1677841483026702561 : Unit := ()
def PySem.W.Fast.tw2478917199290808418 : Unit := ()
def PySem.W.Fast.tw4039846798435390338 : Unit := ()
def PySem.W.Fast.tw11882137091717791523 : Unit := ()
def PySem.W.Fast.tw7695856129673821381 : Unit := ()
def PySem.W.Fast.tw16562831787320035557 : Unit := ()
def PySem.W.Fast.tw18297618812664763941 : Unit := ()
def PySem.W.Fast.tw13315177045638571878 : Unit := ()
def PySem.W.Fast.tw10567095756063767112 : Unit := ()
def PySem.W.Fast.tw14403820025859636840 : Unit := ()
def PySem.W.Fast.tw8250013651857121128 : Unit := ()
def PySem.W.Fast.tw14831255060265908200 : Unit := ()
def PySem.W.Fast.tw17516073894555916521 : Unit := ()
def PySem.W.Fast.tw1885349140228829001 : Unit := ()
def PySem.W.Fast.tw9993909390671361962 : Unit := ()
def PySem.W.Fast.tw13184278896139624843 : Unit := ()
def PySem.W.Fast.tw9433475235693795915 : Unit := ()
def PySem.W.Fast.tw7183021687790812749 : Unit := ()
def PySem.W.Fast.tw262116460063013262 : Unit := ()
def PySem.W.Fast.tw15386524176650451664 : Unit := ()
def PySem.W.Fast.tw17339694228582262577 : Unit := ()
def PySem.W.Fast.tw16180682446190779698 : Unit := ()
def PySem.W.Fast.tw5081485915944653330 : Unit := ()
def PySem.W.Fast.tw1762376655219527443 : Unit := ()
def PySem.W.Fast.tw7345631452521770005 : Unit := ()
def PySem.W.Fast.tw14776076540863372694 : Unit := ()
def PySem.W.Fast.tw6016267675199049494 : Unit := ()
def PySem.W.Fast.tw4789162586621862742 : Unit := ()
def PySem.W.Fast.tw6005775429985363224 : Unit := ()
def PySem.W.Fast.tw13365695692441429561 : Unit := ()
def PySem.W.Fast.tw15895321987740971098 : Unit := ()
def PySem.W.Fast.tw18226871742331861402 : Unit := ()
def PySem.W.Fast.tw15093149382422271546 : Unit := ()
def PySem.W.Fast.tw8762944177972453050 : Unit := ()
def PySem.W.Fast.tw1842675564057436987 : Unit := ()
def PySem.W.Fast.tw5864131890972782012 : Unit := ()
def PySem.W.Fast.tw4086846162684911612 : Unit := ()
def PySem.W.Fast.tw10815225842700826781 : Unit := ()
def PySem.W.Fast.tw190345831017310397 : Unit := ()
def PySem.W.Fast.tw14886531230502795965 : Unit := ()
def PySem.W.Fast.tw10121285016161139709 : Unit := ()
def PySem.W.Fast.tw3066800878294963934 : Unit := ()
def PySem.W.Fast.tw2140867493546819359 : Unit := ()
section
open PySem PySem.W PyProof.Rows
local macro_rules | `(tactic| k_head) => `(tactic| rs_head "is_key" "items_of" "is_wrong_part" "wrong_path" "check_value" "is_value" "spelled" "text_of" "check_string" "values_in" "TextReader" "InvalidText" "is_deed" "row_in" "pieces_of" "number_in" "parsed" "check_deeds" "batch_text" "reading_of" "check_record" "page_count" "Shelf" "_law_begin" "_law_draw" "_law_pick" "_law_word" "_law_thing" "_law_spelled" "_law_batch" "_law_pages" "_law_after" "_law_deeds" "_law_composed" "_law_shape" "_law_again" "_law_bent" "_law_bent_right" "law" ; "Shelf:cost")
open_top hd_recordshelf_k27_texts_of_records for PySem.Challenge.rw_recordshelf_k27_texts_of_records
end
set_option Elab.async false
set_option linter.all false
set_option maxRecDepth 100000
set_option maxHeartbeats 4000000
namespace RS
open PySem PySem.Spec L2
/-- what a law's text is, as it stands behind its top -/
structure Wd where
  P : Program
  w : World
  K : PySem.W.Frag
  mg : Str → Option Value
  base : Heap
/-- a def that keeps its promise wherever no repr is under way -/
structure FnG (g : Wd) (k : Nat) (f : Addr) (fd : FuncData) (ps : List Str) (sp : Sp) : Prop where
  len : ∀ vs H Q E, sp vs H Q E → vs.length = ps.length
  run : ∀ (A : Around) (outer : List Env) (s : Shared) (H : Hp) (args : Args) (us : List Value) (vs : List V) (Q : VK) (E : XK),
    Room k A → A.guards = some [] → Env0 g.P g.w g.K g.mg g.base A outer s H → BindsTo s fd args (ps.zip us) → Vals vs us → sp vs H Q E →
      codeAny (model g.P g.w) A (.call (.ref f) args) (CR (L2.CX g.P g.w) outer g.P g.w H s Q E) s
theorem FnG.mono {g : Wd} {j k : Nat} {f : Addr} {fd : FuncData} {ps : List Str} {sp : Sp} (F : FnG g j f fd ps sp) (h : j ≤ k) : FnG g k f fd ps sp :=
  ⟨F.len, fun A outer s H args us vs Q E hr => F.run A outer s H args us vs Q E (hr.mono h)⟩
theorem FnG.imp {g : Wd} {k : Nat} {f : Addr} {fd : FuncData} {ps : List Str} {sp sp' : Sp} (F : FnG g k f fd ps sp) (h : ∀ vs H Q E, sp' vs H Q E → sp vs H Q E) : FnG g k f fd ps sp' :=
  ⟨fun vs H Q E q => F.len vs H Q E (h _ _ _ _ q), fun A outer s H args us vs Q E hr hg he hb hv hs => F.run A outer s H args us vs Q E hr hg he hb hv (h _ _ _ _ hs)⟩
/-- a def of the text, with the value of its defaults -/
structure Df (K : PySem.W.Frag) (x qual : Str) (st : Stmt) (f : Addr) (fd : FuncData) (dV : Value) : Prop where
  ex : ∃ (oc : Value) (od : Option Addr) (kV doc pm : Value) (an : Option Addr) (cdv ct : Value) (osl : Array (Option Value)),
    fd = PySem.W.fnOf x qual (defArgs st) (defBody st) (defScope st) dV kV doc pm an cdv ct ∧ K.lookup f = some ⟨oc, od, .func fd, osl⟩ ∧ PySem.W.codeIn K cdv qual = true
  kp : PySem.W.keepIn K (.ref f) = true
/-- the context of its body -/
abbrev cx (g : Wd) (N : List Str) (qual : Str) (st : Stmt) (f : Addr) (cdv : Value) (A : Around) (outer : List Env) (s : Shared) (H : Hp) (E : XK) : Cx :=
  cxOf (L2.CX g.P g.w) g.P g.w g.K g.mg g.base N qual (defScope st) f cdv A outer s H E
/-- what a body may lean on: room, and no repr under way -/
structure Rm (k : Nat) (X : Cx) : Prop where
  room : Room k X.A
  gd : X.A.guards = some []
theorem Rm.mono {j k : Nat} {X : Cx} (r : Rm k X) (h : j ≤ k) : Rm j X := ⟨r.room.mono h, r.gd⟩
theorem Df.ok {g : Wd} {x qual : Str} {st : Stmt} {f : Addr} {fd : FuncData} {dV : Value} {N ps : List Str} {k : Nat} {sp : Sp} (F : Df g.K x qual st f fd dV) (S : FnScope N ps (defScope st))
    (len : ∀ vs H Q E, sp vs H Q E → vs.length = ps.length)
    (hbody : ∀ (cdv : Value) (A : Around) (outer : List Env) (s : Shared) (H : Hp) (vs : List V) (Q : VK) (E : XK), Rm k (cx g N qual st f cdv A outer s H E) → sp vs H Q E →
      ∃ t, PSs (cx g N qual st f cdv A outer s H E) (defBody st) t ∧ t { nx := fun _ H' => Q .non H', rt := Q } (start N vs) H) : FnG g (k + 1) f fd ps sp := by
  obtain ⟨oc, od, kV, doc, pm, an, cdv, ct, osl, rfl, lk, hcd⟩ := F.ex
  refine ⟨len, fun A outer s H args us vs Q E hr hg e0 hb rv hsp => ?_⟩
  have kept : ∀ b o, g.base.get? b = some o → s.heap.get? b = some o := fun b o e => (e0.bs b o e).1
  have KX := e0.mod.kin.keeps kept
  have par : ∀ y ∈ ps.zip us, (defScope st).names.lookup y.1 = some .local ∨ ((defScope st).names.lookup y.1 = some .cell ∧ ((cellsFrom (s.heap.objs.size + 1) (defScope st).names []).lookup y.1).isSome = true) := by
    rintro ⟨n, v⟩ hy
    exact (S.par n (List.of_mem_zip hy).1).imp id fun q => ⟨q, PySem.W.cellsFrom_some _ _ _ (.inl q)⟩
  refine codeAny_call_function hr.depth (KX _ _ lk) rfl S.co S.gen rfl (PySem.W.codeRec_of KX hcd) (hb _ _ _ _ (wpAny_newFunctionEnv_cells S.kind par ?_))
  rintro env rfl s1 ic
  refine ⟨(e0.mod.nolimit.keeps kept).keeps ic.toInCall.keep, codeAny_func ?_⟩
  obtain ⟨t, ht, hq⟩ := hbody cdv A outer s H vs Q E ⟨hr.deeper _, hg⟩ hsp
  have J := inv_start (CX := L2.CX g.P g.w) (E := E) (qual := qual) (f := f) (cd := cdv) S hr.hd e0 (len _ _ _ _ hsp) rv ic
  refine wpAny_mono (ht.run [] s1 _ H _ J hq) ?_ fun _ _ z => z
  rintro fl s' hs
  cases fl with
  | ret u => obtain ⟨v, σ', H', I, r, q⟩ := hs; exact ⟨v, H', I.os, I.bare, I.base, I.hok, r, q⟩
  | next => obtain ⟨σ', H', I, q⟩ := hs; exact ⟨.non, H', I.os, I.bare, I.base, I.hok, rfl, q⟩
  | brk => obtain ⟨_, _, _, q⟩ := hs; exact q.elim
  | cont => obtain ⟨_, _, _, q⟩ := hs; exact q.elim
/-- X stands in the world g -/
structure At (g : Wd) (X : Cx) : Prop where
  P : X.prog = g.P
  w : X.w = g.w
  K : X.K = g.K
  mg : X.mg = g.mg
  base : X.base = g.base
section
variable {g : Wd} {X : Cx} {k : Nat} {f : Addr} {fd : FuncData} {ps : List Str} {sp : Sp} {W : WX}
/-- the callee runs, its arguments bound somehow -/
theorem runG (a : At g X) (F : FnG g k f fd ps sp) (hr : Rm k X) (tk : Takes X W) {pins : List (Addr × Obj)} {σ : St} {H : Hp} {s : Shared} {Q : VK} {args : Args} {us : List Value} {vs : List V}
    (I : Inv X pins σ H s) (hb : BindsTo s fd args (ps.zip us)) (r : Vals vs us) (h : sp vs H Q (fun c d H' => W c d σ H')) :
    codeAny (model X.prog X.w) X.A (.call (.ref f) args) (fun res s' => match res with | .ok fl => (match fl with | .ret u => EP X pins σ Q u s' | _ => False) | .error e => X.xe e s') s := by
  obtain ⟨P, w, K, mg, base⟩ := g
  obtain ⟨rfl, rfl, rfl, rfl, rfl⟩ := a
  refine codeAny_mono (F.run X.A X.stack s H args us vs Q _ hr.room hr.gd I.env0 hb r h) fun res s' hq => ?_
  cases res with
  | error e => exact tk e s' (XE.of_call (E := fun c d H' => W c d σ H') I (fun _ _ _ z => z) hq)
  | ok fl =>
    cases fl with
    | ret u => exact I.after hq
    | _ => exact hq.elim
end
end RS
namespace RS
open PySem PySem.Spec L2
def S0 (g : Hp → VK → XK → Prop) : Sp := fun vs H Q E => vs = [] ∧ g H Q E
def S1 (g : V → Hp → VK → XK → Prop) : Sp := fun vs H Q E => ∃ a, vs = [a] ∧ g a H Q E
def S2 (g : V → V → Hp → VK → XK → Prop) : Sp := fun vs H Q E => ∃ a b, vs = [a, b] ∧ g a b H Q E
def S3 (g : V → V → V → Hp → VK → XK → Prop) : Sp := fun vs H Q E => ∃ a b c, vs = [a, b, c] ∧ g a b c H Q E
def S4 (g : V → V → V → V → Hp → VK → XK → Prop) : Sp := fun vs H Q E => ∃ a b c d, vs = [a, b, c, d] ∧ g a b c d H Q E
def S5 (g : V → V → V → V → V → Hp → VK → XK → Prop) : Sp := fun vs H Q E => ∃ a b c d e, vs = [a, b, c, d, e] ∧ g a b c d e H Q E
theorem S0.len {g} {vs : List V} {H Q E} (h : S0 g vs H Q E) : vs.length = 0 := by obtain ⟨rfl, _⟩ := h; rfl
theorem S1.len {g} {vs : List V} {H Q E} (h : S1 g vs H Q E) : vs.length = 1 := by obtain ⟨_, rfl, _⟩ := h; rfl
theorem S2.len {g} {vs : List V} {H Q E} (h : S2 g vs H Q E) : vs.length = 2 := by obtain ⟨_, _, rfl, _⟩ := h; rfl
theorem S3.len {g} {vs : List V} {H Q E} (h : S3 g vs H Q E) : vs.length = 3 := by obtain ⟨_, _, _, rfl, _⟩ := h; rfl
theorem S4.len {g} {vs : List V} {H Q E} (h : S4 g vs H Q E) : vs.length = 4 := by obtain ⟨_, _, _, _, rfl, _⟩ := h; rfl
theorem S5.len {g} {vs : List V} {H Q E} (h : S5 g vs H Q E) : vs.length = 5 := by obtain ⟨_, _, _, _, _, rfl, _⟩ := h; rfl
/-- what the module's name x holds is worth v -/
def Gv (g : Wd) (x : Str) (v : V) : Prop := ∃ u, g.mg x = some u ∧ RelV v u
/-- the module's name x holds a def that keeps sp; ds: its defaults that fill up -/
def Kn (g : Wd) (x : Str) (k : Nat) (ps : List Str) (ds : List V) (sp : Sp) : Prop :=
  ∃ f fd dsV, g.mg x = some (.ref f) ∧ PySem.W.keepIn g.K (.ref f) = true ∧ FnG g k f fd ps sp ∧ Binds g.K fd ps dsV ∧ Vals ds dsV
section
variable {g : Wd} {X : Cx} {k : Nat} {f : Addr} {fd : FuncData} {ps : List Str} {sp : Sp} {W : WX} {ds : List V} {x : Str} {p pos : Pos} {e : Expr} {es : List Expr} {t : TA}
theorem e_g {v : V} (h : Gv g x v) (hg : Gl X x := by rfl) (hd : (x == ("__debug__" : Str)) = false := by decide) (a : At g X := by exact ⟨rfl, rfl, rfl, rfl, rfl⟩) : PE X (.Name x pos) (tC v) := by
  obtain ⟨u, hm, r⟩ := h
  exact pe_glob hg (by rw [a.mg]; exact hm) r hd
def tCallG (sp : Sp) (ds : List V) (W : WX) (t : TA) : TE := fun σ H Q => t σ H fun vs H1 => sp (vs ++ ds) H1 Q (fun c d H' => W c d σ H')
/-- the call itself, the arguments at hand -/
theorem callG {dsV : List Value} (a : At g X) (F : FnG g k f fd ps sp) (hr : Rm k X) (tk : Takes X W) (hb : Binds g.K fd ps dsV) (rd : Vals ds dsV) {pins : List (Addr × Obj)} {σ : L2.St} {H : Hp} {s : Shared} {Q : VK} {us : List Value} {vs : List V}
    (I : Inv X pins σ H s) (r : Vals vs us) (h : sp (vs ++ ds) H Q (fun c d H' => W c d σ H')) : wpAny (model X.prog X.w) X.A (call (.ref f) us) (EP X pins σ Q) X.xe s := by
  have r2 := Vals.append r rd
  have hl : (us ++ dsV).length = ps.length := by rw [← r2.length]; exact F.len _ _ _ _ h
  have KI : g.K.In s.heap := by rw [← a.K]; exact I.kIn
  refine wpAny_call (codeAny_mono (runG a F hr tk I (hb s us KI hl) r2 h) fun res s' hq => ?_)
  cases res with
  | error e => exact hq
  | ok fl => cases fl with
    | ret u => exact hq
    | _ => exact hq.elim
theorem pe_callG (F : Kn g x k ps ds sp) (hr : Rm k X) (tk : Takes X W) (ha : PA X (e :: es) t) (hg : Gl X x := by rfl) (hdb : (x == ("__debug__" : Str)) = false := by decide)
    (he : starEach (e :: es) X.env = (false, eval e X.env) :: starEach es X.env := by rfl) (hpl : (backTo pos (starEach es X.env)).any (·.1) = false := by rfl) (a : At g X := by exact ⟨rfl, rfl, rfl, rfl, rfl⟩) :
    PE X (.Call (.Name x p) (e :: es) [] pos) (tCallG sp ds W t) := by
  obtain ⟨f, fd, dsV, hm, hk, F, hb, rd⟩ := F
  refine ⟨fun pins s σ H Q I h => wpAny_Call_Name_kw (ld_glob I hg (by rw [a.mg]; exact hm) ?_ hdb)⟩
  refine PySem.W.callWith_K (h₀ := X.base) I.ok.mod.kin (by rw [a.K]; exact hk) (thn (ha.run pos pins s σ H _ I h) ?_) he hpl
  rintro us s1 ⟨vs, H1, I1, r, q⟩
  exact ⟨I1.kIn, callG a F hr tk hb rd I1 r q⟩
end
section
variable {X : Cx} {k : Nat}
mutual
theorem Dp.noDict {K : PySem.W.Frag} {H : Hp} : ∀ {d : PyData} {v : V}, Dp K H v d → d.hasDict = false
  | .none, _, _ => rfl
  | .bool _, _, _ => rfl
  | .int _, _, _ => rfl
  | .str _, _, _ => rfl
  | .list ds, _, h => by cases h with | lst _ ha => simp only [PyData.hasDict]; exact DpAll.noDict ha
  | .tuple ds, _, h => by cases h with | tup _ ha => simp only [PyData.hasDict]; exact DpAll.noDict ha
  | .dict _, _, h => by cases h
theorem DpAll.noDict {K : PySem.W.Frag} {H : Hp} : ∀ {ds : List PyData} {vs : List V}, DpAll K H vs ds → PyData.hasDictAll ds = false
  | [], _, _ => rfl
  | d :: ds, _, h => by cases h with | cons h1 h2 => simp only [PyData.hasDictAll, Dp.noDict h1, DpAll.noDict h2, Bool.or_self]
end
def rRepr (K : PySem.W.Frag) : List V → Hp → VK → Prop := fun xs H Q => ∃ a d, xs = [.ref a] ∧ Dp K H (.ref a) d ∧ d.showable = true ∧ d.depth ≤ 60 ∧ d.shown.length ≤ sizeLine ∧ Q (.str d.shown) H
theorem c_repr {K : PySem.W.Frag} (hr : Rm k X) (hK : X.K = K := by rfl) : CallR X (.builtin "repr") (rRepr K) := by
  subst hK
  intro pins s σ H xs us Q I r h
  obtain ⟨a, d, rfl, hd, hs, hz, hl, q⟩ := h
  obtain ⟨u, rfl, ru⟩ := vals1 r
  cases ru
  obtain ⟨as, rd⟩ := Dp.reads I d (.ref a) (.ref a) hd rfl
  refine repr_of_reads' (h₀ := s.heap) rd hs (PyData.noDict_hsm (Dp.noDict hd)) hr.gd (by have := hr.room.un; omega) (fun _ _ e => e) (fun h' u tk kp => ?_) hl
  exact ⟨.str _, H, I.kept kp, ⟨_, rfl⟩, q⟩
end
end RS
namespace RS
open PySem PySem.Spec L2
/-- the signs of x, each with its index in a new pair -/
def ItEs (x : Str) : It :=
  ⟨fun i _ => i < x.cps.size, fun i H v H' => ∃ T c, v = .ref T ∧ H T = none ∧ H' = upd H T (.tup [.int (i : Nat), .str ⟨#[c]⟩]) ∧ x.cps[i]? = some c, fun i _ => i = x.cps.size⟩
def iEnumS (ta : TA) : TI := fun σ H R => ta σ H fun vs H1 => ∃ x, vs = [.str x] ∧ R (ItEs x) H1
/-- i with zeros in front, W signs at least -/
def padZ (W : Nat) (i : Int) : Str := ⟨(List.replicate (W - (Nat.toDigits 10 i.natAbs).length) 48).toArray⟩ ++ Str.ofString (toString i)
section
variable {X : Cx} {e spec : Expr} {te : TE} {pos : Pos} {sp : Str}
def tFmtZ (W : Nat) (te : TE) : TE := fun σ H Q => te σ H fun x H1 => ∃ i : Int, x = .int i ∧ 0 ≤ i ∧ i < 10 ^ 12 ∧ Q (.str (padZ W i)) H1
end
end RS
namespace RS
open PySem PySem.Spec L2
section
variable {X : Cx}
def rAdd (K : PySem.W.Frag) : R2 := fun x y H Q => match x, y with
  | .int i, .int j => Q (.int (i + j)) H
  | .str a, .str b => a.length + b.length ≤ sizeLine ∧ Q (.str (a ++ b)) H
  | .ref p, .ref q => rCat (.ref p) (.ref q) H Q ∨ rCatA K (.ref p) (.ref q) H Q
  | _, _ => False
theorem o_add {K : PySem.W.Frag} (hK : X.K = K := by rfl) : OpR X (binaryOp .Add) (rAdd K) := by
  subst hK
  intro pins s σ H x y v u Q I rx ry h
  cases x <;> cases y <;> first
    | exact (show False from h).elim
    | exact op_add pins s σ H _ _ v u Q I rx ry ⟨_, _, rfl, rfl, h⟩
    | exact op_add_str pins s σ H _ _ v u Q I rx ry ⟨_, _, rfl, rfl, h.1, h.2⟩
    | exact (show _ ∨ _ from h).elim (op_cat pins s σ H _ _ v u Q I rx ry) (op_catA pins s σ H _ _ v u Q I rx ry)
/-- a, n times -/
def repS (a : Str) (n : Nat) : Str := ⟨(List.replicate n a.cps.toList).flatten.toArray⟩
theorem foldl_app (a : Array Nat) : ∀ (n : Nat) (acc : Array Nat), (List.replicate n a).foldl (· ++ ·) acc = acc ++ (List.replicate n a.toList).flatten.toArray
  | 0, acc => by simp
  | n + 1, acc => by
    rw [List.replicate_succ, List.foldl_cons, foldl_app a n (acc ++ a), List.replicate_succ, List.flatten_cons]
    apply Array.ext'
    simp [Array.toList_append, List.append_assoc]
theorem txt_mul (a : Str) (n : Int) : Txt.mul a n = repS a n.toNat := by
  unfold Txt.mul repS
  by_cases h1 : n < 1
  · rw [if_pos h1]
    have e : n.toNat = 0 := by omega
    rw [e]
    rfl
  · rw [if_neg h1]
    have e : ({ cps := (List.replicate n.toNat a.cps).foldl (· ++ ·) #[] } : Str) = { cps := (List.replicate n.toNat a.cps.toList).flatten.toArray } := by
      rw [foldl_app]
      congr 1
      apply Array.ext'
      simp
    split
    · rename_i c
      rcases Bool.or_eq_true_iff.mp c with c | c
      · have : n = 1 := by simpa using c
        subst this
        obtain ⟨l⟩ := a
        simp
      · have : a.cps.size = 0 := by simpa [Str.length] using c
        obtain ⟨⟨l⟩⟩ := a
        have : l = [] := by simpa using this
        subst this
        simp
    · exact e
def rMul : R2 := fun x y H Q => match x, y with
  | .int i, .int j => CMul i j ∧ Q (.int (i * j)) H
  | .str a, .int n => n < 2 ^ 31 ∧ -(2 ^ 31) < n ∧ a.length * n.toNat ≤ sizeLine ∧ Q (.str (repS a n.toNat)) H
  | .ref p, .int n => rRep (.ref p) (.int n) H Q
  | _, _ => False
theorem o_mul : OpR X (binaryOp .Mult) rMul := by
  intro pins s σ H x y v u Q I rx ry h
  cases x <;> cases y <;> first
    | exact (show False from h).elim
    | exact op_mul pins s σ H _ _ v u Q I rx ry ⟨_, _, rfl, rfl, h.1, h.2⟩
    | exact op_rep pins s σ H _ _ v u Q I rx ry h
    | skip
  rename_i a n
  obtain ⟨t, rfl⟩ := rx
  obtain ⟨t', rfl⟩ := ry
  obtain ⟨h1, h2, h3, q⟩ := h
  have hs : sizeLine = 16777216 := sizeLine_eq
  refine SB.mul (x := a) (n := n) ⟨?_, fun hn hc => ?_, fun hn hc => ?_⟩ fun t' k => ?_
  · rw [decide_eq_false (by omega), decide_eq_false (by omega)]; rfl
  · have h4 : (a.length : Int) * n ≤ 16777216 := by
      have : ((a.length * n.toNat : Nat) : Int) ≤ 16777216 := by omega
      rw [Int.natCast_mul] at this
      have e : ((n.toNat : Nat) : Int) = n := by omega
      rw [e] at this
      exact this
    have h5 : (a.length : Int) ≤ a.length * n := by
      have e : (a.length : Int) * 1 ≤ a.length * n := Int.mul_le_mul_of_nonneg_left (by omega) (by omega)
      omega
    have h6 : (4294967296 : Int) ≤ (2 ^ 63 - 1) / n := by
      rw [Int.le_ediv_iff_mul_le (by omega)]
      omega
    omega
  · unfold Builtin.Str.tooLong
    simp
    omega
  · rw [txt_mul]
    exact ⟨.str _, H, I.tok k, ⟨t', rfl⟩, q⟩
def rEqU (K : PySem.W.Frag) : R2 := fun x y H Q => match x, y with
  | .ref a, .ref b => rEqD K (.ref a) (.ref b) H Q
  | x, y => rEq x y H Q
theorem o_eq {K : PySem.W.Frag} {k : Nat} (hr : Rm k X) (hK : X.K = K := by rfl) : OpR X (compareOp .Eq) (rEqU K) := by
  subst hK
  intro pins s σ H x y v u Q I rx ry h
  cases x <;> cases y <;> first
    | exact op_eqD hr.room.units pins s σ H _ _ v u Q I rx ry h
    | exact op_eq pins s σ H _ _ v u Q I rx ry h
def rNeU (K : PySem.W.Frag) : R2 := fun x y H Q => match x, y with
  | .ref a, .ref b => rNeD K (.ref a) (.ref b) H Q
  | x, y => rNe x y H Q
theorem o_ne {K : PySem.W.Frag} {k : Nat} (hr : Rm k X) (hK : X.K = K := by rfl) : OpR X (compareOp .NotEq) (rNeU K) := by
  subst hK
  intro pins s σ H x y v u Q I rx ry h
  cases x <;> cases y <;> first
    | exact op_neD hr.room.units pins s σ H _ _ v u Q I rx ry h
    | exact op_ne pins s σ H _ _ v u Q I rx ry h
def hasS (z y : Str) : Bool := !(Builtin.Str.occurrences y z 0 y.length 1).isEmpty
def rInU (K : PySem.W.Frag) : R2 := fun x y H Q => match x, y with
  | .str z, .str y => Q (.bl (hasS z y)) H
  | x, .ref p => rIn K false x (.ref p) H Q
  | _, _ => False
theorem o_in {K : PySem.W.Frag} (hK : X.K = K := by rfl) : OpR X (compareOp .In) (rInU K) := by
  subst hK
  intro pins s σ H x y v u Q I rx ry h
  cases x <;> cases y <;> first
    | exact (show False from h).elim
    | exact op_in_str pins s σ H _ _ v u Q I rx ry ⟨_, _, rfl, rfl, h⟩
    | exact op_in_seq pins s σ H _ _ v u Q I rx ry h
def rNinU (K : PySem.W.Frag) : R2 := fun x y H Q => match x, y with
  | .str z, .str y => Q (.bl (!hasS z y)) H
  | x, .ref p => rIn K true x (.ref p) H Q
  | _, _ => False
theorem o_nin {K : PySem.W.Frag} (hK : X.K = K := by rfl) : OpR X (compareOp .NotIn) (rNinU K) := by
  subst hK
  intro pins s σ H x y v u Q I rx ry h
  cases x <;> cases y <;> first
    | exact (show False from h).elim
    | exact op_notin_str pins s σ H _ _ v u Q I rx ry ⟨_, _, rfl, rfl, h⟩
    | exact op_notIn_seq pins s σ H _ _ v u Q I rx ry h
def rLen (K : PySem.W.Frag) : List V → Hp → VK → Prop := fun xs H Q => match xs with
  | [.str y] => y.length ≤ sizeLine ∧ Q (.int y.length) H
  | [.ref p] => (∃ xs, (SqL K H p xs ∨ SqT K H p xs) ∧ Q (.int xs.length) H) ∨ ∃ kvs, H p = some (.dK kvs) ∧ Q (.int kvs.length) H
  | _ => False
theorem c_len {K : PySem.W.Frag} (hK : X.K = K := by rfl) : CallR X (.builtin "len") (rLen K) := by
  subst hK
  intro pins s σ H xs us Q I r h
  cases xs with
  | nil => exact (show False from h).elim
  | cons x xs =>
    cases xs with
    | cons y ys => cases x <;> exact (show False from h).elim
    | nil =>
      cases x with
      | str y => exact call_len pins s σ H _ us Q I r ⟨_, y.length, rfl, ⟨h.1, rfl⟩, h.2⟩
      | ref p =>
        rcases (show _ ∨ _ from h) with ⟨xs, hx | hx, q⟩ | ⟨kvs, hk, q⟩
        · exact call_len pins s σ H _ us Q I r ⟨_, xs.length, rfl, .inl ⟨xs, hx, rfl⟩, q⟩
        · exact call_len pins s σ H _ us Q I r ⟨_, xs.length, rfl, .inr ⟨xs, hx, rfl⟩, q⟩
        · exact call_lenD pins s σ H _ us Q I r ⟨p, kvs, rfl, hk, q⟩
      | _ => exact (show False from h).elim
/-- the name of a value's built-in type -/
def tyN (x : V) (H : Hp) : Option String := match x with
  | .non => some "NoneType"
  | .bl _ => some "bool"
  | .int _ => some "int"
  | .str _ => some "str"
  | .ref a => match H a with
    | some (.lst _) => some "list"
    | some (.tup _) => some "tuple"
    | some (.dK _) => some "dict"
    | some (.frz _ (.lst _)) => some "list"
    | some (.frz _ (.dK _)) => some "dict"
    | _ => none
  | _ => none
def isB (t T : String) : Bool := t == T || (t == "bool" && T == "int")
theorem kitB_tab : ∀ t ∈ ["NoneType", "bool", "int", "str", "list", "tuple", "dict"], ∀ T ∈ ["bool", "int", "str", "list", "tuple", "dict", "float"], kitB t T = some (isB t T) := by decide +kernel
theorem tyN_tyX {K : PySem.W.Frag} {H : Hp} {x : V} {t : String} (h : tyN x H = some t) : TyX K H x (.type t) ∧ t ∈ ["NoneType", "bool", "int", "str", "list", "tuple", "dict"] := by
  cases x with
  | non => cases h; exact ⟨.base .non, by simp⟩
  | bl b => cases h; exact ⟨.base (.bl b), by simp⟩
  | int i => cases h; exact ⟨.base (.int i), by simp⟩
  | str y => cases h; exact ⟨.base (.str y), by simp⟩
  | ref a =>
    unfold tyN at h
    simp only at h
    split at h <;> first | (cases h; done) | skip
    · rename_i e; cases h; exact ⟨.base (.lst e), by simp⟩
    · rename_i e; cases h; exact ⟨.base (.tup e), by simp⟩
    · rename_i e; cases h; exact ⟨.base (.dK e), by simp⟩
    · rename_i e; cases h; exact ⟨.base (.frz e), by simp⟩
    · rename_i e; cases h; exact ⟨.fDict e, by simp⟩
  | _ => cases h
def rIs (T : String) : List V → Hp → VK → Prop := fun xs H Q => match xs with
  | [x, .ty T'] => T' = T ∧ ∃ t, tyN x H = some t ∧ Q (.bl (isB t T)) H
  | _ => False
theorem c_is (T : String) (hT : T ∈ ["bool", "int", "str", "list", "tuple", "dict", "float"] := by decide) : CallR X (.builtin "isinstance") (rIs T) := by
  intro pins s σ H xs us Q I r h
  unfold rIs at h
  split at h
  · obtain ⟨rfl, t, ht, q⟩ := h
    obtain ⟨ty, m⟩ := tyN_tyX (K := X.K) ht
    exact call_isi pins s σ H _ us Q I r ⟨_, _, _, _, _, rfl, .ty _, ty, kit_ty (kitB_tab _ m _ hT), q⟩
  · exact h.elim
end
end RS
namespace RS
open PySem PySem.Spec L2
/-- another surrounding of the same frames -/
structure Rb (k : Nat) (X : Cx) (B : Around) : Prop where
  room : Room k B
  gd : B.guards = some []
  fr : B.frames = X.A.frames
theorem Rm.here {k : Nat} {X : Cx} (r : Rm k X) : Rb k X X.A := ⟨r.room, r.gd, rfl⟩
theorem Rb.in1 {k : Nat} {X : Cx} {B : Around} (r : Rb (k + 1) X B) : Rb k X B.in1 := ⟨r.room.in1, r.gd, r.fr⟩
theorem Rb.mono {j k : Nat} {X : Cx} {B : Around} (r : Rb k X B) (h : j ≤ k) : Rb j X B := ⟨r.room.mono h, r.gd, r.fr⟩
theorem Rb.make {k : Nat} {X : Cx} {B : Around} (r : Rb (k + 1) X B) (C : Addr) (us : List Value) (kw : List (Str × Value)) : Rb k X (B.under (.builtin "type.__call__" ⟨.ref C :: us, kw⟩)) := by
  refine ⟨r.room.make C us kw, ?_, ?_⟩
  · have g : (Code.builtin "type.__call__" ⟨.ref C :: us, kw⟩).isGuard = false := by show guardIds.contains "type.__call__" = false; decide +kernel
    simp [Around.under, Code.guards, g, pushGuards, r.gd]
  · have e : (B.under (.builtin "type.__call__" ⟨.ref C :: us, kw⟩)).frames = B.frames := by
      first | rfl | simp [Around.under, Code.envs, Code.isFrame, pushEnvs]
    rw [e]; exact r.fr
section
variable {g : Wd} {X : Cx} {k : Nat} {f C : Addr} {fd : FuncData} {ps : List Str} {sp : Sp} {W : WX}
/-- the callee runs in another surrounding of the same frames -/
theorem runB {B : Around} (a : At g X) (F : FnG g k f fd ps sp) (hr : Rb k X B) (tk : Takes X W) {pins : List (Addr × Obj)} {σ : L2.St} {H : Hp} {s : Shared} {Q : VK} {args : Args} {us : List Value} {vs : List V}
    (I : Inv X pins σ H s) (hb : BindsTo s fd args (ps.zip us)) (r : Vals vs us) (h : sp vs H Q (fun c d H' => W c d σ H')) :
    codeAny (model X.prog X.w) B (.call (.ref f) args) (fun res s' => match res with | .ok fl => (match fl with | .ret u => EP X pins σ Q u s' | _ => False) | .error e => X.xe e s') s := by
  obtain ⟨P, w, K, mg, base⟩ := g
  obtain ⟨rfl, rfl, rfl, rfl, rfl⟩ := a
  have e := I.env0
  have e' : Env0 X.prog X.w X.K X.mg X.base B X.stack s H := ⟨hr.fr.trans e.frames, e.mod, e.bs, e.bsz, e.funs, e.frf, e.hok, e.bare⟩
  refine codeAny_mono (F.run B X.stack s H args us vs Q _ hr.room hr.gd e' hb r h) fun res s' hq => ?_
  cases res with
  | error e => exact tk e s' (XE.of_call (E := fun c d H' => W c d σ H') I (fun _ _ _ z => z) hq)
  | ok fl =>
    cases fl with
    | ret u => exact I.after hq
    | _ => exact hq.elim
/-- a method of the class at C -/
def Km (g : Wd) (C : Addr) (m : Str) (k : Nat) (ps : List Str) (ds : List V) (sp : Sp) : Prop :=
  ∃ f fd dsV, PySem.W.findIn g.K (.ref C) m = some (some (.ref f)) ∧ PySem.W.isFn g.K (.ref f) = true ∧ PySem.W.keepIn g.K (.ref f) = true ∧ FnG g k f fd ps sp ∧ Binds g.K fd ps dsV ∧ Vals ds dsV
variable {m : Str} {ds : List V} {o e : Expr} {es : List Expr} {ta : TE} {t : TA} {p pos apos : Pos}
def tMethG (C : Addr) (m : Str) (sp : Sp) (ds : List V) (W : WX) (ta : TE) (t : TA) : TE := fun σ H Q => ta σ H fun x H1 => ∃ a dx fs, x = .ref a ∧ H1 a = some (.ins C dx fs) ∧ fs.lookup m = none ∧
  t σ H1 fun vs H2 => sp (x :: (vs ++ ds)) H2 Q (fun c d H' => W c d σ H')
theorem pe_methG {pl : Sem Bool} (he : PE X o ta) (c : Cls g.K C) (F : Km g C m k ps ds sp) (hr : Rm k X) (tk : Takes X W) (ha : PA X (e :: es) t)
    (hst : starEach (e :: es) X.env = (false, eval e X.env) :: starEach es X.env := by rfl) (hpl : (backTo pos (starEach es X.env)).any (·.1) = false := by rfl)
    (ht : eval (.Call (.Attribute o m apos) (e :: es) [] pos) X.env = (do
      let ov ← eval o X.env
      standAt apos.atName
      let (f, first) ← holding [ov] (getMethod ov m pl)
      callWith pos f first (backTo pos (starEach (e :: es) X.env)) (backToKw pos (keywordEach [] X.env))) := by rfl) (a : At g X := by exact ⟨rfl, rfl, rfl, rfl, rfl⟩) :
    PE X (.Call (.Attribute o m apos) (e :: es) [] pos) (tMethG C m sp ds W ta t) := by
  obtain ⟨f, fd, dsV, hf, hi, hk, F, hb, rd⟩ := F
  refine ⟨fun pins s σ H Q I h => PySem.W.methodCall_KW (pl := pl) (thn (he.run pins s σ H _ I h) ?_) ht⟩
  rintro u s1 ⟨x, H1, I1, rx, q, dx, fs, rfl, ea, l, h1⟩
  obtain rfl : u = Value.ref q := rx
  refine getmeth_ok I1 ea (by rw [a.K]; exact c) (g := f) (by rw [a.K]; exact ⟨hf, hi, hk⟩) l ?_
  refine PySem.W.callWith_K (first := [.ref q]) (h₀ := X.base) I.ok.mod.kin (by rw [a.K]; exact hk) (thn (ha.run pos pins s1 σ H1 _ I1 h1) ?_) hst hpl
  rintro us s2 ⟨vs, H2, I2, r, q2⟩
  exact ⟨I2.kIn, callG (vs := .ref q :: vs) (us := .ref q :: us) a F hr tk hb rd I2 (.cons rfl r) q2⟩
theorem pe_methG0 {pl : Sem Bool} (he : PE X o ta) (c : Cls g.K C) (F : Km g C m k ps ds sp) (hr : Rm k X) (tk : Takes X W)
    (ht : eval (.Call (.Attribute o m apos) [] [] pos) X.env = (do
      let ov ← eval o X.env
      standAt apos.atName
      let (f, first) ← holding [ov] (getMethod ov m pl)
      callWith pos f first (backTo pos (starEach [] X.env)) (backToKw pos (keywordEach [] X.env))) := by rfl) (a : At g X := by exact ⟨rfl, rfl, rfl, rfl, rfl⟩) :
    PE X (.Call (.Attribute o m apos) [] [] pos) (tMethG C m sp ds W ta tNil) := by
  obtain ⟨f, fd, dsV, hf, hi, hk, F, hb, rd⟩ := F
  refine ⟨fun pins s σ H Q I h => PySem.W.methodCall_KW (pl := pl) (thn (he.run pins s σ H _ I h) ?_) ht⟩
  rintro u s1 ⟨x, H1, I1, rx, q, dx, fs, rfl, ea, l, h1⟩
  obtain rfl : u = Value.ref q := rx
  refine getmeth_ok I1 ea (by rw [a.K]; exact c) (g := f) (by rw [a.K]; exact ⟨hf, hi, hk⟩) l ?_
  exact PySem.W.callWith_K0 (first := [.ref q]) I1.kIn (by rw [a.K]; exact hk) (callG (vs := [.ref q]) (us := [.ref q]) a F hr tk hb rd I1 (.cons rfl .nil) h1)
/-- the class at C, made by its own __init__ -/
def Kc (g : Wd) (x : Str) (C : Addr) (k : Nat) (ps : List Str) (ds : List V) (sp : Sp) : Prop :=
  g.mg x = some (.ref C) ∧ ∃ f fd dsV, Mk g.K C f ∧ FnG g k f fd ps sp ∧ Binds g.K fd ps dsV ∧ Vals ds dsV
theorem makeG {dsV : List Value} (a : At g X) (M : Mk g.K C f) (F : FnG g k f fd ps sp) (hr : Rm (k + 1) X) (tk : Takes X W) (rd : Vals ds dsV) {pins : List (Addr × Obj)} {σ : L2.St} {H : Hp} {s : Shared} {Q : VK} {us : List Value} {kw : List (Str × Value)} {all : List Value} {vs : List V}
    (I : Inv X pins σ H s) (r : Vals vs all)
    (hb : ∀ s' : Shared, g.K.In s'.heap → BindsTo s' fd ⟨.ref (s.heap.objs.size + 1) :: us, kw⟩ (ps.zip (.ref (s.heap.objs.size + 1) :: all)))
    (h : ∀ y dy, H y = none → H dy = none → dy ≠ y → sp (.ref y :: vs) (upd (upd H dy (.own y)) y (.ins C dy [])) (fun v H2 => v = .non ∧ Q (.ref y) H2) (fun c d H' => W c d σ H')) :
    wpAny (model X.prog X.w) X.A (call (.ref C) us kw) (EP X pins σ Q) X.xe s := by
  have hq := h (s.heap.objs.size + 1) s.heap.objs.size (I.hok.fresh (Nat.le_succ _)) (I.hok.fresh (Nat.le_refl _)) (Nat.ne_of_lt (Nat.lt_succ_self _))
  have J := Inv.made (C := C) I
  have KI := J.kIn
  rw [a.K] at KI
  have rr : Vals (V.ref (s.heap.objs.size + 1) :: vs) (Value.ref (s.heap.objs.size + 1) :: all) := .cons rfl r
  refine wpAny_call (make_map (K := X.K) (f := f) I.kIn (by rw [a.K]; exact M.makes) (by rw [a.K]; exact M.init) (by rw [a.K]; exact beq_iff_eq.mp M.fn) (codeAny_mono (runB a F (hr.here.make C us kw) tk J (hb _ KI) rr hq) fun res s' hz => ?_))
  cases res with
  | error e => exact hz
  | ok fl => cases fl with
    | ret u =>
      obtain ⟨v, H', I3, rv, rfl, q3⟩ := hz
      exact ⟨rv, ⟨.ref (s.heap.objs.size + 1), H', I3, rfl, q3⟩⟩
    | _ => exact hz.elim
def tMakeG (C : Addr) (sp : Sp) (ds : List V) (W : WX) (t : TA) : TE := fun σ H Q => t σ H fun vs H1 => ∀ y dy, H1 y = none → H1 dy = none → dy ≠ y →
  sp (.ref y :: (vs ++ ds)) (upd (upd H1 dy (.own y)) y (.ins C dy [])) (fun v H2 => v = .non ∧ Q (.ref y) H2) (fun c d H' => W c d σ H')
variable {x : Str}
theorem pe_makeG (F : Kc g x C k ps ds sp) (hr : Rm (k + 1) X) (tk : Takes X W) (ha : PA X (e :: es) t) (hg : Gl X x := by rfl) (hdb : (x == ("__debug__" : Str)) = false := by decide)
    (he : starEach (e :: es) X.env = (false, eval e X.env) :: starEach es X.env := by rfl) (hpl : (backTo pos (starEach es X.env)).any (·.1) = false := by rfl) (a : At g X := by exact ⟨rfl, rfl, rfl, rfl, rfl⟩) :
    PE X (.Call (.Name x p) (e :: es) [] pos) (tMakeG C sp ds W t) := by
  obtain ⟨hm, f, fd, dsV, M, F, hb, rd⟩ := F
  refine ⟨fun pins s σ H Q I h => wpAny_Call_Name_kw (ld_glob I hg (by rw [a.mg]; exact hm) ?_ hdb)⟩
  refine PySem.W.callWith_K (h₀ := X.base) I.ok.mod.kin (by rw [a.K]; exact M.kp) (thn (ha.run pos pins s σ H _ I h) ?_) he hpl
  rintro us s1 ⟨vs, H1, I1, r, q⟩
  have r2 := Vals.append r rd
  refine ⟨I1.kIn, makeG a M F hr tk rd I1 r2 (fun s' KI => ?_) q⟩
  have hl := F.len _ _ _ _ (q (s1.heap.objs.size + 1) s1.heap.objs.size (I1.hok.fresh (Nat.le_succ _)) (I1.hok.fresh (Nat.le_refl _)) (Nat.ne_of_lt (Nat.lt_succ_self _)))
  exact hb s' (.ref (s1.heap.objs.size + 1) :: us) KI (by
    rw [← hl]
    show (us ++ dsV).length + 1 = (vs ++ ds).length + 1
    rw [← r2.length])
end
end RS
namespace RS
open PySem PySem.Spec L2
section
variable {g : Wd} {X : Cx} {k : Nat} {f C : Addr} {fd : FuncData} {ps ks : List Str} {sp : Sp} {W : WX} {ds : List V} {x : Str} {p pos : Pos} {kws : List Keyword} {tk' : TA} {pm : List Nat}
def Kk (g : Wd) (x : Str) (k : Nat) (ps ks : List Str) (pm : List Nat) (sp : Sp) : Prop :=
  ∃ f fd, g.mg x = some (.ref f) ∧ PySem.W.keepIn g.K (.ref f) = true ∧ FnG g k f fd ps sp ∧
    ∀ (s : Shared) (ws : List Value), ws.length = ks.length → BindsTo s fd ⟨[], ks.zip ws⟩ (ps.zip (pm.map fun i => ws.getD i .none))
theorem vals_getD {zs : List V} {ws : List Value} (r : Vals zs ws) (i : Nat) : RelV (zs.getD i .non) (ws.getD i .none) := by
  cases e : zs[i]? with
  | none =>
    have e2 := Vals.none_of r e
    rw [List.getD_eq_getElem?_getD, List.getD_eq_getElem?_getD, e, e2]
    exact rfl
  | some v =>
    obtain ⟨u, e2, rv⟩ := r.get e
    rw [List.getD_eq_getElem?_getD, List.getD_eq_getElem?_getD, e, e2]
    exact rv
theorem vals_pm {zs : List V} {ws : List Value} (r : Vals zs ws) : ∀ pm : List Nat, Vals (pm.map fun i => zs.getD i .non) (pm.map fun i => ws.getD i .none)
  | [] => .nil
  | i :: pm => .cons (vals_getD r i) (vals_pm r pm)
def tCallK (n : Nat) (sp : Sp) (pm : List Nat) (W : WX) (t : TA) : TE := fun σ H Q => t σ H fun zs H1 => zs.length = n ∧ sp (pm.map fun i => zs.getD i .non) H1 Q (fun c d H' => W c d σ H')
theorem pe_callK (F : Kk g x k ps ks pm sp) (hr : Rm k X) (tk : Takes X W) (hkw : PK X kws tk') (hg : Gl X x := by rfl)
    (hall : (backToKw pos (keywordEach kws X.env)).all (·.1.isSome) = true := by rfl) (hks : (backToKw pos (keywordEach kws X.env)).filterMap (·.1) = ks := by rfl) (hdb : (x == ("__debug__" : Str)) = false := by decide)
    (hpl : ((backTo pos (starEach [] X.env)).any (·.1) || (backToKw pos (keywordEach kws X.env)).any (·.1.isNone)) = false := by rfl) (a : At g X := by exact ⟨rfl, rfl, rfl, rfl, rfl⟩) :
    PE X (.Call (.Name x p) [] kws pos) (tCallK ks.length sp pm W tk') := by
  obtain ⟨f, fd, hm, hk, F, hb⟩ := F
  refine ⟨fun pins s σ H Q I h => wpAny_Call_Name_kw (ld_glob I hg (by rw [a.mg]; exact hm) ?_ hdb)⟩
  refine PySem.W.callWith_KW0 (h₀ := X.base) I.ok.mod.kin (by rw [a.K]; exact hk) hall (thn (hkw.run pos pins s σ H _ I h) ?_) hpl
  rintro ws s2 ⟨zs, H2, I2, rz, lz, q⟩
  refine ⟨I2.kIn, ?_⟩
  rw [hks]
  refine wpAny_call (codeAny_mono (runG a F hr tk I2 (hb s2 ws (by rw [← rz.length]; exact lz)) (vals_pm rz pm) q) fun res s' hq => ?_)
  cases res with
  | error e => exact hq
  | ok fl => cases fl with
    | ret u => exact hq
    | _ => exact hq.elim
def tMakeK (n : Nat) (C : Addr) (sp : Sp) (pm : List Nat) (W : WX) (t : TA) : TE := fun σ H Q => t σ H fun zs H1 => zs.length = n ∧ ∀ y dy, H1 y = none → H1 dy = none → dy ≠ y →
  sp (.ref y :: pm.map fun i => zs.getD i .non) (upd (upd H1 dy (.own y)) y (.ins C dy [])) (fun v H2 => v = .non ∧ Q (.ref y) H2) (fun c d H' => W c d σ H')
def gFld (K : PySem.W.Frag) (ta : TE) (f : Str) : TG := fun v σ H Q => ta σ H fun x H1 => ∃ a C dx fs, x = .ref a ∧ H1 a = some (.ins C dx fs) ∧ Cls K C ∧ NoAttr K C f ∧ fs.length < 1000 ∧ Q σ (upd H1 a (.ins C dx (putF f v fs)))
/-- what may stand on the other side: a plain thing, or an instance of the same class -/
def Oth (C : Addr) (H : Hp) (y : V) : Prop := (∃ t, tyN y H = some t) ∨ ∃ b dx fs, y = .ref b ∧ H b = some (.ins C dx fs)
def rEqOwn (C : Addr) (sp : Sp) (ds : List V) (W : WX) (neg : Bool) : L2.St → R2 := fun σ x y H Q => ∃ a dx fs, x = .ref a ∧ H a = some (.ins C dx fs) ∧ Oth C H y ∧
  sp ([x, y] ++ ds) H (fun v H' => ∃ b, v = .bl b ∧ Q (.bl (if neg then !b else b)) H') (fun c d H' => W c d σ H')
end
section
variable {g : Wd} {X : Cx} {k : Nat} {C : Addr} {ps : List Str} {sp : Sp} {W : WX} {ds : List V} {p pos : Pos} {a b : Expr} {ta tb : TE}
def tEqOwn (C : Addr) (sp : Sp) (ds : List V) (W : WX) (neg : Bool) (ta tb : TE) : TE := fun σ H Q => ta σ H fun x H1 => tb σ H1 fun y H2 => rEqOwn C sp ds W neg σ x y H2 Q
end
end RS
namespace RS
open PySem PySem.Spec L2
section
variable {g : Wd} {X : Cx} {k : Nat} {C : Addr} {ps : List Str} {sp : Sp} {W : WX} {ds : List V} {p pos : Pos} {a b : Expr} {ta tb : TE}
def rBoolOwn (C : Addr) (sp : Sp) (ds : List V) (W : WX) : L2.St → List V → Hp → VK → Prop := fun σ xs H Q => ∃ q dx fs, xs = [.ref q] ∧ H q = some (.ins C dx fs) ∧
  sp ([.ref q] ++ ds) H (fun v H' => ∃ b, v = .bl b ∧ Q (.bl b) H') (fun c d H' => W c d σ H')
def tBoolOwn (C : Addr) (sp : Sp) (ds : List V) (W : WX) (ta : TA) : TE := fun σ H Q => ta σ H fun xs H1 => rBoolOwn C sp ds W σ xs H1 Q
end
end RS
namespace RS
open PySem PySem.Spec PyProof.Rows L2
/-- the law's call, from its promise, where no repr is under way -/
theorem lawG {P : Program} {w : World} {K : PySem.W.Frag} {mg mb : Str → Option Value} {k : Nat} {fa a : Addr} {fd : FuncData} {x : Str} {sp : Sp} {s₁ : Shared} {vs : List Value} {ns : List Int}
    (KX : K.In s₁.heap) (gl : s₁.heap.Ns mainGlobals mg) (bl : s₁.heap.Ns builtinsNs mb) (bb : ∀ x : Str, x ≠ "__name__" → mb x = bootBuiltins x) (lim : s₁.heap.NoLimit) (ge : s₁.gens = #[])
    (ha : s₁.heap.get? a = some { cls := .type "list", data := .seq vs.toArray }) (hi : IntsAre vs ns) (hl : ns.length ≤ sizeLine) (hr : Room k callerA)
    (F : ∀ base : Heap, K.In base → base.Ns mainGlobals mg → FnG ⟨P, w, K, mg, base⟩ k fa fd [x] sp) (bd : ∀ (s : Shared) (u : Value), BindsTo s fd ⟨[u], []⟩ [(x, u)])
    (hsp : ∀ H : Hp, Only H → SqL K H a (ns.map V.int) → sp [.ref a] H (fun v _ => v = .bl true) fun _ _ _ => False) :
    codeAny (model P w) callerA (.call (.ref fa) ⟨[.ref a], []⟩) (fun r s' => r = .ok (.ret (.bool true)) ∧ OldK s₁.heap s'.heap ∧ s'.os = s₁.os ∧ AllBare s'.gens) s₁ := by
  have rv := vals_ints hi
  -- H tracks the script, or nothing
  have go : ∀ H : Hp, Only H → SqL K H a (ns.map V.int) → HOk P w H s₁.heap → (∀ b o, s₁.heap.get? b = some o → (∃ u, H b = some u) → b = a ∧ K.lookup a = none) →
      codeAny (model P w) callerA (.call (.ref fa) ⟨[.ref a], []⟩) (fun r s' => r = .ok (.ret (.bool true)) ∧ OldK s₁.heap s'.heap ∧ s'.os = s₁.os ∧ AllBare s'.gens) s₁ := by
    intro H hO hS hok hA
    have free : ∀ {b : Addr} {o : Obj}, s₁.heap.get? b = some o → (∀ v n, o.data ≠ .seq v n) → H b = none := by
      intro b o e nd
      cases q : H b with
      | none => rfl
      | some u =>
        obtain ⟨rfl, _⟩ := hA b o e ⟨u, q⟩
        rw [ha] at e
        cases e
        exact absurd rfl (nd _ _)
    have ns1 : ∀ {b : Addr} {m : Str → Option Value}, s₁.heap.Ns b m → (hidT s₁.heap H).Ns b m := by
      rintro b m ⟨o, es, ep, e, d, r⟩
      exact ⟨o, es, ep, hidT_get e (free e fun v n z => by rw [d] at z; cases z), d, r⟩
    have K1 : K.In (hidT s₁.heap H) := by
      intro b o e
      refine hidT_get (KX b o e) ?_
      cases q : H b with
      | none => rfl
      | some u =>
        obtain ⟨rfl, z⟩ := hA b o (KX b o e) ⟨u, q⟩
        rw [z] at e
        cases e
    have md : Mod K mg (hidT s₁.heap H) := by
      obtain ⟨mc, l1, l2⟩ := lim
      exact ⟨K1, ns1 gl, ⟨mb, ns1 bl, bb⟩, mc, ns1 l1, l2⟩
    have e0 : Env0 P w K mg (hidT s₁.heap H) callerA [] s₁ H :=
      { frames := rfl, mod := md, bs := fun b o e => of_hidT e, bsz := Nat.le_of_eq (hidT_size _ _), funs := trivial, frf := fun b hb => (nomatch hb), hok := hok, bare := .of_eq ge }
    refine codeAny_mono ((F _ K1 (ns1 gl)).run callerA [] s₁ H ⟨[.ref a], []⟩ [.ref a] [.ref a] _ _ hr rfl e0 (bd s₁ (.ref a)) (.cons rfl .nil) (hsp H hO hS)) ?_
    rintro r s' h
    cases r with
    | error e =>
      obtain ⟨_, _, _, _, _, _, _, _, _, _, _, _, z⟩ := h
      exact z.elim
    | ok fl => cases fl with
      | ret u =>
        obtain ⟨v, H', os, bare, un, hok', r', q⟩ := h
        obtain rfl : v = .bl true := q
        obtain rfl : u = Value.bool true := r'
        refine ⟨rfl, OldK.of_keep fun b o e => ?_, os, bare⟩
        rcases hO b with z | ⟨ob, xs, z⟩
        · exact un.keep b o e z (fun y => (nomatch y)) (fun y => (nomatch y))
        · have z2 := un.frzs b ob _ z
          have e1 := (hok b _ z).1
          rw [e] at e1
          cases e1
          exact (hok' b _ z2).1
      | _ => exact h.elim
  cases hk : K.lookup a with
  | some o =>
    have e := KX a o hk
    rw [ha] at e
    cases e
    refine go (fun _ => none) (fun _ => .inl rfl) (.inr ⟨_, vs.toArray, _, hk, rfl, rfl, rfl, by rw [List.size_toArray, hi.length]; exact hl, by simpa using rv⟩) (fun b u z => nomatch z) fun b o _ z => ?_
    obtain ⟨u, z⟩ := z
    cases z
  | none =>
    refine go (upd (fun _ => none) a (.frz { cls := .type "list", data := .seq vs.toArray } (.lst (ns.map V.int)))) (fun b => ?_) (.inl (.inr ⟨_, upd_same⟩)) (fun b u z => ?_) fun b o e z => ?_
    · by_cases hb : b = a
      · subst hb; exact .inr ⟨_, _, upd_same⟩
      · exact .inl (upd_ne hb)
    · by_cases hb : b = a
      · subst hb
        rw [upd_same] at z
        cases z
        exact ⟨ha, by rw [List.length_map]; exact hl, vs, _, rv, ha⟩
      · rw [upd_ne hb] at z
        cases z
    · obtain ⟨u, z⟩ := z
      by_cases hb : b = a
      · exact ⟨hb, hk⟩
      · rw [upd_ne hb] at z
        cases z
/-- the goal that k_head leaves, from the law's promise -/
theorem walkG {l : PySem.W.OpenLaw} {n k : Nat} {q : Program} {loose : List Str} {XP : (Str → Option Value) → Heap → Prop} {YP : World → Heap → Prop} {d : DefRec} {K : Params → PySem.W.Frag} {sp : World → Sp} {x : Str}
    (hn : l.most = some n) (hn2 : n ≤ sizeLine) (hdf : d.params.defaults = []) (hr : Room k callerA)
    (hY : ∀ (w : World) (h : Heap), YP w h → (K w.params).In h)
    (F : ∀ (w : World) (mg : Str → Option Value) (fa : Addr) (h : Heap), (K w.params).In h → h.Ns mainGlobals mg → mg d.name = some (.ref fa) →
      ∃ fd : FuncData, (∀ (s : Shared) (u : Value), BindsTo s fd ⟨[u], []⟩ [(x, u)]) ∧
        ∀ base : Heap, (K w.params).In base → base.Ns mainGlobals mg → FnG ⟨l.prog, w, K w.params, mg, base⟩ k fa fd [x] (sp w))
    (hsp : ∀ (w : World) (H : Hp) (a : Addr) (ns : List Int), ns.length ≤ n → (∀ z ∈ ns, Builtin.Int.intBits z ≤ 1048576) → Only H → SqL (K w.params) H a (ns.map V.int) → sp w [.ref a] H (fun v _ => v = .bl true) fun _ _ _ => False) :
    PySem.W.WalkO q loose XP YP l.row.toRowW d [] (fun f vs => PySem.call f vs) := by
  refine Att.attach_callB hn hdf fun w s₀ s₁ mg mb fa o pm cd doc a vs ns G Y ho hd hcd hmg hobj hints hlen hbits hg => ?_
  obtain ⟨fd, hb, hF⟩ := F w mg fa _ (hY w _ Y) G.T.g hmg
  exact lawG (hY w _ Y) G.T.g G.T.b G.T.builtins G.T.nolimit hg hobj hints (Nat.le_trans hlen hn2) hr hF hb fun H hO hS => hsp w H a ns hlen hbits hO hS
end RS
namespace RS
open PySem PySem.Spec L2
/-- in a def's body: what is raised goes on to the caller -/
theorem tkD {g : Wd} {N : List Str} {qual : Str} {st : Stmt} {f : Addr} {cdv : Value} {A : Around} {outer : List Env} {s : Shared} {H : Hp} {E : XK} : Takes (cx g N qual st f cdv A outer s H E) (fun c d _ H' => E c d H') := takes_of rfl rfl rfl rfl
theorem psD {g : Wd} {N : List Str} {qual : Str} {st : Stmt} {f : Addr} {cdv : Value} {A : Around} {outer : List Env} {s : Shared} {H : Hp} {E : XK} :
    PassesOwn (model (cx g N qual st f cdv A outer s H E).prog (cx g N qual st f cdv A outer s H E).w) (cx g N qual st f cdv A outer s H E).A (cx g N qual st f cdv A outer s H E).env (cx g N qual st f cdv A outer s H E).xe := passes_of rfl
theorem bb_len : bootBuiltins "len" = some (.builtin "len") := by decide +kernel
theorem bb_isinstance : bootBuiltins "isinstance" = some (.builtin "isinstance") := by decide +kernel
theorem bb_abs : bootBuiltins "abs" = some (.builtin "abs") := by decide +kernel
theorem bb_repr : bootBuiltins "repr" = some (.builtin "repr") := by decide +kernel
theorem bb_all : bootBuiltins "all" = some (.builtin "all") := by decide +kernel
theorem bb_any : bootBuiltins "any" = some (.builtin "any") := by decide +kernel
theorem bb_str : bootBuiltins "str" = some (.type "str") := by decide +kernel
theorem bb_int : bootBuiltins "int" = some (.type "int") := by decide +kernel
theorem bb_list : bootBuiltins "list" = some (.type "list") := by decide +kernel
theorem bb_tuple : bootBuiltins "tuple" = some (.type "tuple") := by decide +kernel
theorem bb_bool : bootBuiltins "bool" = some (.type "bool") := by decide +kernel
section
variable {X : Cx}
def rIxU (K : PySem.W.Frag) : R2 := fun x y H Q => match x, y with
  | .str z, .int i => z.length ≤ sizeLine ∧ ∃ c, atI z.cps.toList i = some c ∧ Q (.str ⟨#[c]⟩) H
  | .ref p, .int i => ∃ xs, (SqL K H p xs ∨ SqT K H p xs) ∧ ∃ v, atI xs i = some v ∧ Q v H
  | _, _ => False
theorem o_ix {K : PySem.W.Frag} (hK : X.K = K := by rfl) : IxR X (rIxU K) := by
  subst hK
  intro ve se pins s σ H x y v u Q I rx ry h hsub
  cases x <;> cases y <;> first
    | exact (show False from h).elim
    | (obtain ⟨h1, c, h2, q⟩ := h; exact ix_str ve se pins s σ H _ _ v u Q I rx ry ⟨_, _, c, rfl, rfl, h1, h2, q⟩ hsub)
    | skip
  obtain ⟨xs, hx | hx, w, h2, q⟩ := h
  · exact ix_list ve se pins s σ H _ _ v u Q I rx ry ⟨_, xs, _, w, rfl, rfl, hx, h2, q⟩ hsub
  · exact ix_tup ve se pins s σ H _ _ v u Q I rx ry ⟨_, xs, _, w, rfl, rfl, hx, h2, q⟩ hsub
def rSlU (K : PySem.W.Frag) : V → Option Int → Option Int → Hp → VK → Prop := fun x lo hi H Q => match x with
  | .str z => z.length ≤ sizeLine ∧ Q (.str (cutS z lo hi)) H
  | .ref p => rSlL K (.ref p) lo hi H Q ∨ rSlA K (.ref p) lo hi H Q
  | _ => False
theorem o_sl {K : PySem.W.Frag} (hK : X.K = K := by rfl) : SlR X (rSlU K) := by
  subst hK
  intro pins s σ H x v vl vu lo hi sl Q I rx hs pl pu h
  cases x <;> first
    | exact (show False from h).elim
    | exact sl_str pins s σ H _ v vl vu lo hi sl Q I rx hs pl pu ⟨_, rfl, h.1, h.2⟩
    | exact (show _ ∨ _ from h).elim (sl_list pins s σ H _ v vl vu lo hi sl Q I rx hs pl pu) (sl_tupA pins s σ H _ v vl vu lo hi sl Q I rx hs pl pu)
variable {K : PySem.W.Frag} {p pos tpos : Pos} {e o : Expr} {es : List Expr} {ta te : TE} {t : TA}
theorem c_all (hK : X.K = K := by rfl) (hc : X.calm = true := by rfl) : CallR X (.builtin "all") (rAll K) := by subst hK; exact cr_all hc
theorem c_any (hK : X.K = K := by rfl) (hc : X.calm = true := by rfl) : CallR X (.builtin "any") (rAny K) := by subst hK; exact cr_any hc
theorem e_fld {f : Str} (he : PE X e ta) (hb : attributeBase e f X.env (eval e X.env) = eval e X.env := by rfl) (hK : X.K = K := by rfl) : PE X (.Attribute e f pos) (tFld K ta f) := by subst hK; exact pe_fld he hb
theorem t_truth (ha : PE X e ta) (he : ∀ whole, isTrue e X.env whole = (do let v ← whole; standAt e.pos; holding [v] (truthy v)) := by intro _; rfl) (hK : X.K = K := by rfl) :
    PT X e (fun σ H Q => ta σ H fun x H' => ∃ k, TruV K x H' k ∧ Q k H') := by subst hK; exact pt_truth ha he
theorem g_tup {k : Nat} {t : TGs} {n : Nat} (h : PGs X es t) (hc : X.calm = true := by rfl) (hn : (assignEach es X.env).length = n := by rfl) (hst : (assignEach es X.env).findIdx? (·.1) = none := by rfl) (hK : X.K = K := by rfl) :
    PG X (.Tuple es k pos) (gTup K n t) := by subst hK; exact pg_tup hc h hn hst
theorem e_bm {T id : String} {name : Str} {apos cpos : Pos} {to : TE} {r : V → List V → Hp → VK → Prop} (pa : PlainAttrs T) (slot : Slot T name id) (hty : typeOf (.builtin id) = pure (.type "method_descriptor")) (hm : MtR X id r) (ho : PE X o to) (ha : PA X (e :: es) t)
    (hbase : attributeBase o name X.env (eval o X.env) = eval o X.env := by rfl)
    (hfew : ((backTo cpos (starEach (e :: es) X.env)).all (fun x => !x.1) && (backToKw cpos (keywordEach [] X.env)).all (fun x => x.1.isSome)
      && decide ((e :: es).length + ([] : List Keyword).length + (if ([] : List Keyword).isEmpty then 0 else 1) < 30)) = true := by rfl)
    (hline : (apos.endLine == cpos.line) = true := by rfl) (hs : starEach (e :: es) X.env = (false, eval e X.env) :: starEach es X.env := by rfl) (hplain : (backTo cpos (starEach es X.env)).any (·.1) = false := by rfl) (hK : X.K = K := by rfl) :
    PE X (.Call (.Attribute o name apos) (e :: es) [] cpos) (tBM K T r to t) := by subst hK; exact pe_bm pa slot hty hm ho ha hbase hfew hline hs hplain
theorem i_list {tg : Expr} (hl : PE X e te) (hK : X.K = K := by rfl) : PI X tg e (iList K te) := by subst hK; exact pi_list hl
theorem i_tup {tg : Expr} (hl : PE X e te) (hK : X.K = K := by rfl) : PI X tg e (iTup K te) := by subst hK; exact pi_tup hl
theorem i_enum {kk : Nat} (hm : X.mg "enumerate" = none) (ha : PA X [e] t) (hg : Gl X "enumerate" := by rfl) (hs : starEach [e] X.env = [(false, eval e X.env)] := by rfl) (hK : X.K = K := by rfl) :
    PI X (.Tuple es kk tpos) (.Call (.Name "enumerate" p) [e] [] pos) (iEnum K t) := by subst hK; exact pi_enum hg hm ha hs
theorem s_fld {f : Str} {value : Expr} {tv : TE} {pos' : Pos} (ha : PE X o ta) (hv : PE X value tv) (hs : swapsWith value (some (.Attribute o f pos')) pos.line X.env = pure false := by rfl) (hK : X.K = K := by rfl) :
    PS X (.Assign [.Attribute o f pos'] value pos) (sFld K ta tv f) := by subst hK; exact ps_fld ha hv hs
end
end RS
namespace RS
open PySem PySem.Spec L2
theorem same_new {H H1 : Hp} {p : Addr} {o : HO} (h : Same H H1) (n : H1 p = none) : Same H (upd H1 p o) := fun b u e => by
  rw [upd_ne (ne_of_none (h b u e) n)]; exact h b u e
theorem same_upd {H : Hp} {p : Addr} {o : HO} (n : H p = none) : Same H (L2.upd H p o) := same_new (Same.refl H) n
def ForB (J : It) (g : TG) (tb : TS) (D : Ends) (σ : L2.St) (H : Hp) : Prop := ∃ W : Nat → Nat → L2.St → Hp → Prop, (∃ m, W 0 m σ H) ∧ ∀ i m σ H, W i m σ H →
  (J.stop i H ∧ D.nx σ H) ∨ (J.go i H ∧ ∃ N : L2.St → Hp → Prop, (∀ σ' H', N σ' H' → ∃ m', m' < m ∧ W (i + 1) m' σ' H') ∧ ∀ x H', J.yld i H x H' → g x σ H' fun σ2 H2 => tb { D with nx := N, ct := N, bk := D.nx } σ2 H2)
theorem tFor_eq (wi : TI) (g : TG) (tb : TS) (D : Ends) (σ : L2.St) (H : Hp) : tFor wi g tb D σ H = wi σ H fun J H1 => ForB J g tb D σ H1 := rfl
def LcB (J : It) (g : TG) (tt : TT) (te : TE) (vs : List Nat) (σ : L2.St) (H1 : Hp) (Q : VK) : Prop := ∀ D, H1 D = none → ∃ W : Nat → Nat → Hp → Prop, (∃ m, W 0 m (upd H1 D (.lst []))) ∧ ∀ i m H, W i m H →
  (J.stop i H ∧ Q (.ref D) H) ∨ (J.go i H ∧ ∃ Nx : Hp → Prop, (∀ H', Nx H' → ∃ m', m' < m ∧ W (i + 1) m' H') ∧ ∀ x H', J.yld i H x H' → g x (wipe σ vs) H' fun σ2 H2 => wipe σ2 vs = wipe σ vs ∧ tt σ2 H2 fun b H3 =>
    if b = true then te σ2 H3 fun y H4 => ∃ acc, H4 D = some (.lst acc) ∧ acc.length < sizeLine ∧ Nx (upd H4 D (.lst (acc ++ [y]))) else Nx H3)
theorem tLc_eq (wi : TI) (g : TG) (tt : TT) (te : TE) (vs : List Nat) (σ : L2.St) (H : Hp) (Q : VK) : tLc wi g tt te vs σ H Q = wi σ H fun J H1 => LcB J g tt te vs σ H1 Q := rfl
theorem for_by {J : It} {g : TG} {tb : TS} {D : Ends} {σ : L2.St} {H : Hp} (n : Nat) (Pv : Nat → L2.St → Hp → Prop) (h0 : Pv 0 σ H) (hgo : ∀ i σ H, i < n → Pv i σ H → J.go i H) (hst : ∀ σ H, Pv n σ H → J.stop n H)
    (hs : ∀ i σ H x H', i < n → Pv i σ H → J.yld i H x H' → g x σ H' fun σ2 H2 => tb { D with nx := Pv (i + 1), ct := Pv (i + 1), bk := D.nx } σ2 H2) (hd : ∀ σ H, Pv n σ H → D.nx σ H) :
    ForB J g tb D σ H := by
  refine ⟨fun i m σ H => m = n - i ∧ i ≤ n ∧ Pv i σ H, ⟨n, by omega, Nat.zero_le _, h0⟩, ?_⟩
  rintro i m σ H ⟨rfl, hi, p⟩
  by_cases lt : i < n
  · exact .inr ⟨hgo i σ H lt p, Pv (i + 1), fun σ' H' p' => ⟨n - (i + 1), by omega, rfl, lt, p'⟩, fun x H' y => hs i σ H x H' lt p y⟩
  · have e : i = n := by omega
    subst e
    exact .inl ⟨hst σ H p, hd σ H p⟩
theorem lc_kept {J : It} {g : TG} {tt : TT} {te : TE} {vs : List Nat} {σ : L2.St} {H1 : Hp} {Qf : VK} (n : Nat) (kept : Nat → Option V) (hn : n ≤ sizeLine)
    (hgo : ∀ i H, i < n → Same H1 H → J.go i H) (hst : ∀ H, Same H1 H → J.stop n H)
    (hs : ∀ i H x H' (K : VK) (K0 : Hp → Prop), i < n → Same H1 H → J.yld i H x H' → (∀ v H4, kept i = some v → Same H H4 → K v H4) → (kept i = none → ∀ H4, Same H H4 → K0 H4) →
      g x (wipe σ vs) H' fun σ2 H2 => wipe σ2 vs = wipe σ vs ∧ tt σ2 H2 fun b H3 => if b = true then te σ2 H3 K else K0 H3)
    (hd : ∀ D H, H1 D = none → Same H1 H → H D = some (.lst ((List.range n).filterMap kept)) → Qf (.ref D) H) :
    LcB J g tt te vs σ H1 Qf := by
  intro D hD
  have len : ∀ i, ((List.range i).filterMap kept).length ≤ i := fun i => Nat.le_trans (List.length_filterMap_le _ _) (by rw [List.length_range]; exact Nat.le_refl _)
  have succ : ∀ i, (List.range (i + 1)).filterMap kept = (List.range i).filterMap kept ++ (match kept i with | some v => [v] | none => []) := fun i => by
    rw [List.range_succ, List.filterMap_append]
    cases e : kept i <;> simp [List.filterMap_cons, e]
  let Pv : Nat → Hp → Prop := fun i H => Same H1 H ∧ H D = some (.lst ((List.range i).filterMap kept))
  have store : ∀ i H4 v, Same H1 H4 → H4 D = some (.lst ((List.range i).filterMap kept)) → kept i = some v → Pv (i + 1) (upd H4 D (.lst ((List.range i).filterMap kept ++ [v]))) := fun i H4 v s e k =>
    ⟨fun b o q => by rw [upd_ne (ne_of_none q hD)]; exact s b o q, by rw [upd_same, succ, k]⟩
  refine ⟨fun i m H => m = n - i ∧ i ≤ n ∧ Pv i H, ⟨n, by omega, Nat.zero_le _, fun b o q => by rw [upd_ne (ne_of_none q hD)]; exact q, upd_same⟩, ?_⟩
  rintro i m H ⟨rfl, hi, s, eD⟩
  by_cases lt : i < n
  · refine .inr ⟨hgo i H lt s, Pv (i + 1), fun H' p' => ⟨n - (i + 1), by omega, rfl, lt, p'⟩, fun x H' y => ?_⟩
    refine hs i H x H' _ (Pv (i + 1)) lt s y (fun v H4 k s4 => ⟨_, s4 D _ eD, by have := len i; omega, store i H4 v (s.trans s4) (s4 D _ eD) k⟩) fun k H4 s4 => ⟨s.trans s4, ?_⟩
    rw [succ, k, s4 D _ eD, List.append_nil]
  · have e : i = n := by omega
    subst e
    exact .inl ⟨hst H s, hd D H hD s eD⟩
/-- .. where all are kept -/
theorem lc_all {J : It} {g : TG} {te : TE} {vs : List Nat} {σ : L2.St} {H1 : Hp} {Qf : VK} (n : Nat) (val : Nat → V) (hn : n ≤ sizeLine)
    (hgo : ∀ i H, i < n → Same H1 H → J.go i H) (hst : ∀ H, Same H1 H → J.stop n H)
    (hs : ∀ i H x H' (K : VK), i < n → Same H1 H → J.yld i H x H' → (∀ H4, Same H H4 → K (val i) H4) →
      g x (wipe σ vs) H' fun σ2 H2 => wipe σ2 vs = wipe σ vs ∧ te σ2 H2 K)
    (hd : ∀ D H, H1 D = none → Same H1 H → H D = some (.lst ((List.range n).map val)) → Qf (.ref D) H) :
    LcB J g tYes te vs σ H1 Qf := by
  refine lc_kept n (fun i => some (val i)) hn hgo hst (fun i H x H' K K0 lt s y k _ => ?_) (fun D H h1 h2 h3 => hd D H h1 h2 ?_)
  · have e : (fun (σ2 : L2.St) (H2 : Hp) => wipe σ2 vs = wipe σ vs ∧ tYes σ2 H2 fun b H3 => if b = true then te σ2 H3 K else K0 H3) = fun σ2 H2 => wipe σ2 vs = wipe σ vs ∧ te σ2 H2 K := by
      funext σ2 H2
      simp only [tYes, if_true]
    rw [e]
    exact hs i H x H' K lt s y fun H4 s4 => k _ H4 rfl s4
  · rw [h3]
    congr 2
    rw [show (fun i => some (val i)) = some ∘ val from rfl, ← List.filterMap_eq_map]
end RS
namespace RS
open PySem PySem.Spec L2
section
variable {K : PySem.W.Frag} {H : Hp} {Q : VK} {i j : Int} {a b z : Str} {p q : Addr} {c d : Bool} {x : V}
theorem add_ii : rAdd K (.int i) (.int j) H Q = Q (.int (i + j)) H := rfl
theorem add_ss : rAdd K (.str a) (.str b) H Q = (a.length + b.length ≤ sizeLine ∧ Q (.str (a ++ b)) H) := rfl
theorem add_rr : rAdd K (.ref p) (.ref q) H Q = (rCat (.ref p) (.ref q) H Q ∨ rCatA K (.ref p) (.ref q) H Q) := rfl
theorem mul_ii : rMul (.int i) (.int j) H Q = (CMul i j ∧ Q (.int (i * j)) H) := rfl
theorem mul_si : rMul (.str a) (.int i) H Q = (i < 2 ^ 31 ∧ -(2 ^ 31) < i ∧ a.length * i.toNat ≤ sizeLine ∧ Q (.str (repS a i.toNat)) H) := rfl
theorem mul_ri : rMul (.ref p) (.int i) H Q = rRep (.ref p) (.int i) H Q := rfl
theorem eq_of {x y : V} {k : Bool} (h : scal x y = true) (e : decide (x = y) = k) : rEq x y H Q = Q (.bl k) H := by
  unfold rEq; rw [h, e]; simp
theorem ne_of' {x y : V} {k : Bool} (h : scal x y = true) (e : decide (x = y) = k) : rNe x y H Q = Q (.bl (!k)) H := by
  unfold rNe; rw [h, e]; simp
theorem eq_ii : rEqU K (.int i) (.int j) H Q = Q (.bl (decide (i = j))) H := eq_of rfl (by simp)
theorem eq_ss : rEqU K (.str a) (.str b) H Q = Q (.bl (decide (a = b))) H := eq_of rfl (by simp)
theorem eq_bb : rEqU K (.bl c) (.bl d) H Q = Q (.bl (decide (c = d))) H := eq_of rfl (by simp)
theorem eq_nn : rEqU K .non .non H Q = Q (.bl true) H := eq_of rfl (by simp)
theorem eq_sn : rEqU K (.str a) .non H Q = Q (.bl false) H := eq_of rfl (by simp)
theorem eq_ns : rEqU K .non (.str a) H Q = Q (.bl false) H := eq_of rfl (by simp)
theorem eq_in : rEqU K (.int i) .non H Q = Q (.bl false) H := eq_of rfl (by simp)
theorem eq_ni : rEqU K .non (.int i) H Q = Q (.bl false) H := eq_of rfl (by simp)
theorem eq_bn : rEqU K (.bl c) .non H Q = Q (.bl false) H := eq_of rfl (by simp)
theorem eq_nb : rEqU K .non (.bl c) H Q = Q (.bl false) H := eq_of rfl (by simp)
theorem eq_is : rEqU K (.int i) (.str a) H Q = Q (.bl false) H := eq_of rfl (by simp)
theorem eq_si : rEqU K (.str a) (.int i) H Q = Q (.bl false) H := eq_of rfl (by simp)
theorem eq_rr : rEqU K (.ref p) (.ref q) H Q = rEqD K (.ref p) (.ref q) H Q := rfl
theorem ne_ii : rNeU K (.int i) (.int j) H Q = Q (.bl (!decide (i = j))) H := ne_of' rfl (by simp)
theorem ne_ss : rNeU K (.str a) (.str b) H Q = Q (.bl (!decide (a = b))) H := ne_of' rfl (by simp)
theorem ne_bb : rNeU K (.bl c) (.bl d) H Q = Q (.bl (!decide (c = d))) H := ne_of' rfl (by simp)
theorem ne_nn : rNeU K .non .non H Q = Q (.bl false) H := ne_of' (k := true) rfl (by simp)
theorem ne_sn : rNeU K (.str a) .non H Q = Q (.bl true) H := ne_of' (k := false) rfl (by simp)
theorem ne_ns : rNeU K .non (.str a) H Q = Q (.bl true) H := ne_of' (k := false) rfl (by simp)
theorem ne_in : rNeU K (.int i) .non H Q = Q (.bl true) H := ne_of' (k := false) rfl (by simp)
theorem ne_ni : rNeU K .non (.int i) H Q = Q (.bl true) H := ne_of' (k := false) rfl (by simp)
theorem ne_is : rNeU K (.int i) (.str a) H Q = Q (.bl true) H := ne_of' (k := false) rfl (by simp)
theorem ne_si : rNeU K (.str a) (.int i) H Q = Q (.bl true) H := ne_of' (k := false) rfl (by simp)
theorem ne_rr : rNeU K (.ref p) (.ref q) H Q = rNeD K (.ref p) (.ref q) H Q := rfl
theorem in_ss : rInU K (.str a) (.str b) H Q = Q (.bl (hasS a b)) H := rfl
theorem in_r : rInU K x (.ref p) H Q = ∃ xs, (SqL K H p xs ∨ SqT K H p xs) ∧ flatV x = true ∧ xs.all flatV = true ∧ Q (.bl (inV x xs)) H := by
  cases x <;> simp [rInU, rIn]
theorem nin_ss : rNinU K (.str a) (.str b) H Q = Q (.bl (!hasS a b)) H := rfl
theorem nin_r : rNinU K x (.ref p) H Q = ∃ xs, (SqL K H p xs ∨ SqT K H p xs) ∧ flatV x = true ∧ xs.all flatV = true ∧ Q (.bl (!inV x xs)) H := by
  cases x <;> simp [rNinU, rIn]
theorem len_s : rLen K [.str a] H Q = (a.length ≤ sizeLine ∧ Q (.int a.length) H) := rfl
theorem len_r : rLen K [.ref p] H Q = ((∃ xs, (SqL K H p xs ∨ SqT K H p xs) ∧ Q (.int xs.length) H) ∨ ∃ kvs, H p = some (.dK kvs) ∧ Q (.int kvs.length) H) := rfl
theorem ix_s : rIxU K (.str a) (.int i) H Q = (a.length ≤ sizeLine ∧ ∃ c, atI a.cps.toList i = some c ∧ Q (.str ⟨#[c]⟩) H) := rfl
theorem ix_r : rIxU K (.ref p) (.int i) H Q = ∃ xs, (SqL K H p xs ∨ SqT K H p xs) ∧ ∃ v, atI xs i = some v ∧ Q v H := rfl
theorem sl_s {lo hi : Option Int} : rSlU K (.str a) lo hi H Q = (a.length ≤ sizeLine ∧ Q (.str (cutS a lo hi)) H) := rfl
theorem sl_r {lo hi : Option Int} : rSlU K (.ref p) lo hi H Q = (rSlL K (.ref p) lo hi H Q ∨ rSlA K (.ref p) lo hi H Q) := rfl
theorem is_eq {T T' : String} : rIs T [x, .ty T'] H Q = (T' = T ∧ ∃ t, tyN x H = some t ∧ Q (.bl (isB t T)) H) := rfl
theorem tyN_n : tyN .non H = some "NoneType" := rfl
theorem tyN_b : tyN (.bl c) H = some "bool" := rfl
theorem tyN_i : tyN (.int i) H = some "int" := rfl
theorem tyN_s : tyN (.str a) H = some "str" := rfl
theorem tru_b {k : Bool} : TruV K (.bl c) H k = (k = c) := rfl
theorem tru_i {k : Bool} : TruV K (.int i) H k = (k = (i != 0)) := rfl
theorem tru_n {k : Bool} : TruV K .non H k = (k = false) := rfl
end
end RS
namespace RS
open PySem PySem.Spec L2
open SX (S S_len S_cat S_tl S_inj)
theorem sIx_nat (n d : Nat) {i : Int} (h : 0 ≤ i) : HT.sIx n d (some i) = min i.toNat n := by
  unfold HT.sIx
  simp only
  split <;> omega
theorem cut_to (a : List Nat) {i : Int} (h : 0 ≤ i) : cutS (S a) none (some i) = S (a.take i.toNat) := by
  unfold cutS
  rw [sIx_nat _ _ h, S_len]
  show (⟨_⟩ : Str) = _
  congr 2
  simp [HT.sIx]
theorem cut_from (a : List Nat) {i : Int} (h : 0 ≤ i) : cutS (S a) (some i) none = S (a.drop i.toNat) := by
  unfold cutS
  rw [sIx_nat _ _ h, S_len]
  show (⟨_⟩ : Str) = _
  congr 2
  simp only [HT.sIx]
  by_cases c : i.toNat ≤ a.length
  · rw [Nat.min_eq_left c, List.take_of_length_le (by simp)]
  · rw [Nat.min_eq_right (by omega), List.drop_of_length_le (Nat.le_refl _), List.drop_of_length_le (by omega)]; simp
theorem cut_both (a : List Nat) {i j : Int} (h : 0 ≤ i) (h2 : 0 ≤ j) : cutS (S a) (some i) (some j) = S ((a.drop i.toNat).take (j.toNat - i.toNat)) := by
  unfold cutS
  rw [sIx_nat _ _ h, sIx_nat _ _ h2, S_len]
  show (⟨_⟩ : Str) = _
  congr 2
  by_cases c : i.toNat ≤ a.length
  · rw [Nat.min_eq_left c, List.take_eq_take_iff]; simp; omega
  · rw [show min i.toNat a.length = a.length by omega, List.drop_of_length_le (Nat.le_refl _), List.drop_of_length_le (by omega)]; simp
theorem rep_S (a : List Nat) (n : Nat) : repS (S a) n = S (List.replicate n a).flatten := rfl
theorem rep_one (c n : Nat) : repS (S [c]) n = S (List.replicate n c) := by
  rw [rep_S]
  congr 2
  induction n with
  | zero => rfl
  | succ n ih => rw [List.replicate_succ, List.flatten_cons, ih, List.replicate_succ]; rfl
theorem has_one (c : Nat) (a : List Nat) : hasS (S [c]) (S a) = decide (c ∈ a) := SX.in_one a c
theorem S_eq {a b : List Nat} : (S a = S b) = (a = b) := propext ⟨S_inj, fun h => by rw [h]⟩
theorem at_lt {a : List Nat} {i : Nat} (h : i < a.length) : atI (S a).cps.toList (i : Int) = some (a.getD i 0) := by
  refine atI_nat ?_
  show a.toArray.toList[i]? = _
  rw [List.getD_eq_getElem?_getD, List.getElem?_eq_getElem (by simpa using h)]
  simp
theorem num_int {i : Int} (h : 0 ≤ i) : (Str.ofString (toString i)) = S (TL.numL i.toNat) := by
  obtain ⟨n, rfl⟩ := Int.eq_ofNat_of_zero_le h
  exact SX.num_S n
theorem ofS_tl (a : String) : (Str.ofString a).cps.toList = a.toList.map Char.toNat := PyProof.Rows.signs_ofString a
theorem ofS_eq {a b : String} : (Str.ofString a = Str.ofString b) = (a = b) := by
  refine propext ⟨fun h => ?_, fun h => by rw [h]⟩
  have e : a.toList.map Char.toNat = b.toList.map Char.toNat := by rw [← ofS_tl, ← ofS_tl, h]
  have inj : ∀ l m : List Char, l.map Char.toNat = m.map Char.toNat → l = m := by
    intro l
    induction l with
    | nil => intro m h; cases m with | nil => rfl | cons => simp at h
    | cons c l ih =>
      intro m h
      cases m with
      | nil => simp at h
      | cons d m =>
        simp only [List.map_cons, List.cons.injEq] at h
        rw [ih m h.2, show c = d from Char.toNat_inj.mp h.1]
  exact String.toList_inj.mp (inj _ _ e)
theorem lk_nil {a : Str} : List.lookup a ([] : List (Str × V)) = none := rfl
theorem lk_cons {a k : Str} {v : V} {es : List (Str × V)} : List.lookup a ((k, v) :: es) = if a = k then some v else List.lookup a es := by
  rw [List.lookup_cons]
  by_cases h : a = k
  · subst h; simp
  · rw [if_neg h, beq_eq_false_iff_ne.mpr h]
theorem pu_nil {f : Str} {v : V} : putF f v [] = [(f, v)] := rfl
theorem pu_cons {f k : Str} {v x : V} {r : List (Str × V)} : putF f v ((k, x) :: r) = if k = f then (k, v) :: r else (k, x) :: putF f v r := rfl
end RS
namespace RS
open PySem PySem.Spec L2
def tPr (C : Addr) (f : Str) (ta : TE) : TE := fun σ H Q => ta σ H fun x H1 => ∃ a dx fs v, x = .ref a ∧ H1 a = some (.ins C dx fs) ∧ fs.lookup f = some v ∧ Q v H1
end RS
namespace RS
open PySem PySem.Spec L2
theorem dget_of {H : Hp} {a : Addr} {kvs : List (Key × V)} {k : Key} {o : Option V} (e : H a = some (.dK kvs)) : DGet H a (kV k) o = (valV kvs k = o) := by
  refine propext ⟨?_, fun h => .inl ⟨kvs, k, .inl e, rfl, h.symm⟩⟩
  rintro (⟨kvs', k', h, ek, rfl⟩ | ⟨kvs', k', b, h, ek, _⟩)
  · have : k' = k := by cases k <;> cases k' <;> simp_all [kV]
    subst this
    rcases h with h | ⟨o, h⟩
    · rw [e] at h; cases h; rfl
    · rw [e] at h; cases h
  · cases k <;> cases ek
theorem dget_s {H : Hp} {a : Addr} {kvs : List (Key × V)} {k : Str} {o : Option V} (e : H a = some (.dK kvs)) : DGet H a (.str k) o = (valV kvs (.inr k) = o) := dget_of (k := .inr k) e
theorem dget_us {H : Hp} {a : Addr} {kvs : List (Key × V)} {k : Str} {o : Option V} : DGet (upd H a (.dK kvs)) a (.str k) o = (valV kvs (.inr k) = o) := dget_s upd_same
theorem dput_of {H : Hp} {a : Addr} {kvs : List (Key × V)} {k : Key} {v : V} {P : Hp → Prop} (e : H a = some (.dK kvs)) : (∃ H4, DPut H a (kV k) v H4 ∧ P H4) = (kvs.length < sizeLine ∧ P (upd H a (.dK (putK kvs k v)))) := by
  refine propext ⟨?_, fun h => ⟨_, .k e h.1, h.2⟩⟩
  rintro ⟨H4, (⟨kvs', k', h, ek, hl, rfl⟩ | ⟨kvs', k', b, h, ek, _⟩), q⟩
  · have : k' = k := by cases k <;> cases k' <;> simp_all [kV]
    subst this
    rw [e] at h; cases h
    exact ⟨hl, q⟩
  · cases k <;> cases ek
theorem dput_s {H : Hp} {a : Addr} {kvs : List (Key × V)} {k : Str} {v : V} {P : Hp → Prop} (e : H a = some (.dK kvs)) : (∃ H4, DPut H a (.str k) v H4 ∧ P H4) = (kvs.length < sizeLine ∧ P (upd H a (.dK (putK kvs (.inr k) v)))) := dput_of (k := .inr k) e
theorem dput_us {H : Hp} {a : Addr} {kvs : List (Key × V)} {k : Str} {v : V} {P : Hp → Prop} : (∃ H4, DPut (upd H a (.dK kvs)) a (.str k) v H4 ∧ P H4) = (kvs.length < sizeLine ∧ P (upd (upd H a (.dK kvs)) a (.dK (putK kvs (.inr k) v)))) := dput_s upd_same
theorem vv_nil {k : Key} : valV ([] : List (Key × V)) k = none := rfl
theorem vv_cons {p k : Key} {v : V} {r : List (Key × V)} : valV ((p, v) :: r) k = if p = k then some v else valV r k := by
  by_cases h : p = k
  · rw [valV_pos (p := (p, v)) h, if_pos h]
  · rw [valV_neg (p := (p, v)) h, if_neg h]
theorem pk_nil {k : Key} {v : V} : putK ([] : List (Key × V)) k v = [(k, v)] := rfl
theorem pk_cons {p k : Key} {v x : V} {r : List (Key × V)} (hr : valV r p = none := by first | rfl | decide) : putK ((p, x) :: r) k v = if p = k then (p, v) :: r else (p, x) :: putK r k v := by
  unfold putK
  by_cases h : p = k
  · subst h
    rw [if_pos rfl, if_pos (by simp)]
    simp only [List.map_cons, if_true]
    congr 1
    have : ∀ q ∈ r, q.1 ≠ p := fun q hq e => by
      have := valV_any p r
      rw [hr] at this
      have t : (r.any fun kv => decide (kv.1 = p)) = true := List.any_eq_true.mpr ⟨q, hq, by simp [e]⟩
      rw [this] at t; cases t
    have e : r.map (fun kv => if kv.1 = p then (kv.1, v) else kv) = r.map id := List.map_congr_left fun q hq => by simp [this q hq]
    rw [e, List.map_id]
  · rw [if_neg h]
    by_cases c : (r.any fun kv => decide (kv.1 = k)) = true
    · rw [if_pos (by simp [c]), if_pos c]
      simp [h]
    · rw [if_neg (by simp [c, h]), if_neg c]; rfl
theorem pk_one {p k : Key} {v x : V} : putK [(p, x)] k v = if p = k then [(p, v)] else [(p, x), (k, v)] := pk_cons (hr := rfl)
theorem inr_eq {a b : Str} : ((.inr a : Key) = .inr b) = (a = b) := by simp
end RS
namespace RS
open PySem PySem.Spec L2
def Leaf (d : PyData) : Prop := match d with
  | .none => True
  | .bool _ => True
  | .int i => i.natAbs < 10 ^ 12
  | .str x => (∀ c ∈ x.cps.toList, c < 16 ^ 8) ∧ x.length ≤ 10000
  | _ => False
theorem log2_small {n : Nat} (h : n < 10 ^ 12) : n.log2 ≤ 40 := by
  rcases Nat.eq_zero_or_pos n with rfl | h0
  · simp
  · have : n.log2 < 41 := (Nat.log2_lt (by omega)).mpr (show n < 2 ^ 41 by omega)
    omega
theorem Leaf.all {d : PyData} (h : Leaf d) : d.showable = true ∧ d.leavesShort 13 = true ∧ d.weight ≤ 10000 ∧ d.depth ≤ 1 := by
  cases d with
  | none => exact ⟨rfl, rfl, by decide, by decide⟩
  | bool b => exact ⟨rfl, rfl, by simp [PyData.weight], by simp [PyData.depth]⟩
  | int i =>
    have h : i.natAbs < 10 ^ 12 := h
    have l := log2_small h
    refine ⟨?_, ?_, ?_, by simp [PyData.depth]⟩
    · simp only [PyData.showable, decide_eq_true_eq]; omega
    · simp only [PyData.leavesShort, decide_eq_true_eq]; exact PyData.shown_int_le h
    · simp only [PyData.weight]; split <;> omega
  | str x =>
    refine ⟨rfl, ?_, ?_, by simp [PyData.depth]⟩
    · simp only [PyData.leavesShort, List.all_eq_true, decide_eq_true_eq]; exact h.1
    · simp only [PyData.weight]; exact h.2
  | list _ => exact h.elim
  | tuple _ => exact h.elim
  | dict _ => exact h.elim
end RS
namespace RS
open PySem PySem.Spec L2
theorem sq_same {K : PySem.W.Frag} {H H' : Hp} {a : Addr} {xs : List V} (h : SqL K H a xs) (s : Same H H') : SqL K H' a xs := by
  rcases h with (h | ⟨o, h⟩) | h
  · exact .inl (.inl (s _ _ h))
  · exact .inl (.inr ⟨o, s _ _ h⟩)
  · exact .inr h
theorem dp_ints {K : PySem.W.Frag} {H : Hp} : ∀ ns : List Int, DpAll K H (ns.map V.int) (ns.map PyData.int)
  | [] => .nil
  | n :: ns => .cons (.int n) (dp_ints ns)
theorem lay_ints : ∀ ns : List Int, PyData.canLayAll0 (ns.map PyData.int) = true ∧ PyData.depthAll (ns.map PyData.int) = 0
  | [] => ⟨rfl, rfl⟩
  | n :: ns => by
    have h := lay_ints ns
    simp [PyData.canLayAll0, PyData.canLay0, PyData.depthAll, PyData.depth, h]
theorem shaped_ints (ns : List Int) : SeqAt.shaped (.list (ns.map PyData.int)) = true := by
  have h := lay_ints ns
  simp [SeqAt.shaped, PyData.canLay0, PyData.depth, h]
theorem eqv_nil (ns : List Int) : PyData.eqv (.list (ns.map PyData.int)) (.list []) = ns.isEmpty := by
  cases ns <;> rfl
/-- ns != [] -/
theorem ne_empty {K : PySem.W.Frag} {H : Hp} {Q : VK} {a p : Addr} {ns : List Int} (h : SqL K H a (ns.map V.int)) (hp : H p = some (.lst [])) (q : Q (.bl (!ns.isEmpty)) H) : rNeD K (.ref a) (.ref p) H Q := by
  refine ⟨.list (ns.map PyData.int), .list [], .lst h (dp_ints ns), .lst (SqL.of hp) .nil, shaped_ints ns, rfl, ?_⟩
  rw [eqv_nil]; exact q
theorem ty_list {K : PySem.W.Frag} {p : Addr} {H : Hp} : tyV K "list" (.ref p) H = ∃ xs, SqL K H p xs := by simp [tyV]
theorem ty_str {K : PySem.W.Frag} {x : Str} {H : Hp} : tyV K "str" (.str x) H = True := by simp [tyV]
/-- a statement, then the rest, with a word between them that the simp set leaves alone -/
def tMid (t u : TS) : TS := fun D σ H => ∃ Mid : L2.St → Hp → Prop, t { D with nx := Mid } σ H ∧ ∀ σ' H', Mid σ' H' → u D σ' H'
theorem pss_mid {X : Cx} {st : Stmt} {rest : List Stmt} {t u : TS} (h1 : PS X st t) (h2 : PSs X rest u) : PSs X (st :: rest) (tMid t u) := C8.pss_cut h1 h2
theorem mid_at {t u : TS} {D : Ends} {σ : L2.St} {H : Hp} (Mid : L2.St → Hp → Prop) (h1 : t { D with nx := Mid } σ H) (h2 : ∀ σ' H', Mid σ' H' → u D σ' H') : tMid t u D σ H := ⟨Mid, h1, h2⟩
/-- .. where one state alone is left -/
theorem mid_one {t u : TS} {D : Ends} {σ : L2.St} {H : Hp} (σ1 : L2.St) (R : Hp → Prop) (h1 : t { D with nx := fun σ' H' => σ' = σ1 ∧ R H' } σ H) (h2 : ∀ H', R H' → u D σ1 H') : tMid t u D σ H :=
  ⟨_, h1, fun _ _ ⟨e, r⟩ => by subst e; exact h2 _ r⟩
end RS
namespace RS
open PySem PySem.Spec PySem.W PySem.Calls PyProof.Rows
/-- what the text says of an own exception class C: its __init__ at fI is one that says super().__init__(..) -/
structure XC (P : Program) (K : Frag) (C fI cda cc : Addr) (qual : Str) (st : Stmt) (B newId initId : String) (bmB : List Value) : Prop where
  FB : ExcBaseFacts B newId initId bmB
  KF : KxsFacts B initId
  SF : StoreFacts B bmB "object.__setattr__" "object"
  q : excInitIn K C bmB newId = true
  ov : excOver K C bmB = true
  sup : ks_superIn K C C "__init__" = some (some (.builtin initId))
  sub : subIn K (.ref C) (.type B) = some true
  ini : findIn K (.ref C) "__init__" = some (some (.ref fI))
  fn : typeIn K (.ref fI) = some (.type "function")
  lk : ∃ oc od kV doc pm an ct osl, K.lookup fI = some ⟨oc, od, .func (ksFn "__init__" qual (L2.defArgs st) (L2.defBody st) (L2.defScope st) .none kV doc pm an (.ref cda) ct cc), osl⟩
  cd : codeIn K (.ref cda) qual = true
  co : ∃ ccl cdd vs ccs file tf, K.lookup cda = some ⟨ccl, cdd, .fields vs, ccs⟩ ∧ vs[2]? = some (.str file tf) ∧ ((P.main.file : Str) == file) = true
  ce : ∃ cl cld csl, K.lookup cc = some ⟨cl, cld, .cell (some (.ref C)), csl⟩
  me : mroIn K C (.ref C) = some true
  op : nsIn K cStatics "thirdparty.any" = some none
  nt : (P.main.scope.names.lookup ("super" : Str)).isSome = false
section
variable {prog : Program} {w : World} {A : Around} {E : Value → Shared → Prop} {h : Heap} {g : Array GenState} {d : Drawn} {t : Nat} {os : OsState} {K : Frag} {C fI cda cc e u t0 : Addr} {B newId initId : String} {bmB : List Value} {qual : Str} {st : Stmt}
/-- the bound __init__, called: the args are laid anew -/
theorem call_mw {rest : List Value} {Q : Value → Shared → Prop} (KX : K.In h) (FB : ExcBaseFacts B newId initId bmB) (q : excInitIn K C bmB newId = true) (hu : h.get? u = some (kxs_mw initId e)) (he : h.get? e = some (HandSPX.excO C t0)) (hz : rest.length ≤ sizeLine)
    (hq : ∀ h' t1, (∀ b o, b ≠ e → h.get? b = some o → h'.get? b = some o) → h'.get? e = some (HandSPX.excO C t1) → Q .none ⟨h', g, d, t, os⟩) :
    wpAny (model prog w) A (call (.ref u) rest) Q E ⟨h, g, d, t, os⟩ := by
  obtain ⟨nm, N', qn, bs, bm, hdct, sn, sub, ab, col, dd, k0, k1, k2, k3, k5, hC, hT⟩ := excInit_of KX q
  refine wpAny_call (codeAny_of_tree ?_)
  show wpAny _ A.in1 (callAny (.ref u) ⟨rest, []⟩) _ _ _
  simp only [callAny]
  refine wpAny_bind (wpAny_load hu ?_)
  have m1 : (Value.type "method-wrapper" == Value.type "method" || Value.type "method-wrapper" == Value.type "builtin_function_or_method" || Value.type "method-wrapper" == Value.type "method-wrapper") = true := by decide
  simp only [kxs_mw, m1, if_true]
  refine KFB.if_so (by decide) ?_
  refine wpAny_bind (check_bound_init FB.toExcCallFacts hC he rfl ?_)
  refine wpAny_bind (wpAny_pure (wpAny_pure ?_))
  refine ⟨plainId_quiet FB.init.plain _, codeAny_builtin FB.initEntry ?_⟩
  exact exc_init_tree (cls := .ref C) (t0 := t0) (dv := none) (c2 := .none) (c3 := .none) (b4 := .bool false) he hz fun h' k e' t' => hq h' _ k e'
end
end RS
namespace RS
open PySem PySem.Spec PySem.W PySem.Calls PyProof.Rows
section
variable {prog : Program} {w : World} {A : Around} {E : Value → Shared → Prop} {h : Heap} {g : Array GenState} {d : Drawn} {t : Nat} {os : OsState} {K : Frag} {C fI cda cc e t0 L : Addr} {B newId initId : String} {bmB : List Value} {qual : Str} {st : Stmt} {mg mb m : Str → Option Value}
/-- super().__init__('..') in the own __init__ -/
theorem sup_init {body : List Stmt} {ar : Arg} {msg : Str} {j : _} {pc p0 p1 p2 p3 p4 : Pos} {Q : Flow → Shared → Prop} (X : XC prog K C fI cda cc qual st B newId initId bmB) (KX : K.In h) (hns : h.Ns L m) (hp : ((L2.defArgs st).posonlyargs ++ (L2.defArgs st).args).head? = some ar) (hv : m ar.arg = some (.ref e))
    (he : h.get? e = some (HandSPX.excO C t0)) (hg : h.Ns mainGlobals mg) (hm : mg "super" = none) (hb : h.Ns builtinsNs mb) (bb : ∀ x : Str, x ≠ "__name__" → mb x = bootBuiltins x)
    (hks : (L2.defScope st).names.lookup ("super" : Str) = some .globalImplicit) (hkc : (L2.defScope st).names.lookup ("__class__" : Str) = some .free) (hka : (L2.defScope st).names.lookup ar.arg = some .local) (hk : (L2.defScope st).kind = .function)
    {pl : Sem Bool} (hi : interactive (ksEnv qual (L2.defScope st) L fI (.ref cda) cc) = false) (hsw : swapsWith (.Call (.Attribute (.Call (.Name "super" p0) [] [] p1) "__init__" p2) [.Constant (.str msg) j pc] [] p3) none p4.line (ksEnv qual (L2.defScope st) L fI (.ref cda) cc) = pure false)
    (hst : starEach [.Constant (.str msg) j pc] (ksEnv qual (L2.defScope st) L fI (.ref cda) cc) = [(false, eval (.Constant (.str msg) j pc) (ksEnv qual (L2.defScope st) L fI (.ref cda) cc))])
    (hev : eval (.Call (.Attribute (.Call (.Name "super" p0) [] [] p1) "__init__" p2) [.Constant (.str msg) j pc] [] p3) (ksEnv qual (L2.defScope st) L fI (.ref cda) cc) = (do
      let ov ← attributeBase (.Call (.Name "super" p0) [] [] p1) "__init__" (ksEnv qual (L2.defScope st) L fI (.ref cda) cc) (eval (.Call (.Name "super" p0) [] [] p1) (ksEnv qual (L2.defScope st) L fI (.ref cda) cc))
      standAt p2.atName
      let (f, first) ← holding [ov] (getMethod ov "__init__" pl)
      callWith p3 f first (backTo p3 (starEach [.Constant (.str msg) j pc] (ksEnv qual (L2.defScope st) L fI (.ref cda) cc))) []))
    (hq : ∀ h' t1 tk, (∀ b o, b ≠ e → h.get? b = some o → h'.get? b = some o) → h'.get? e = some (HandSPX.excO C t1) → Q .next ⟨h', g, d, tk, os⟩) :
    _root_.PySem.wpAt (model prog w) A (.func body (ksEnv qual (L2.defScope st) L fI (.ref cda) cc)) (exec (.Expr (.Call (.Attribute (.Call (.Name "super" p0) [] [] p1) "__init__" p2) [.Constant (.str msg) j pc] [] p3) p4) (ksEnv qual (L2.defScope st) L fI (.ref cda) cc)) Q E ⟨h, g, d, t, os⟩ := by
  obtain ⟨oc, od, kV, doc, pm, an, ct, osl, lk⟩ := X.lk
  obtain ⟨ccl, cdd, vs, ccs, file, tf, lc, hvs, hfile⟩ := X.co
  obtain ⟨cl, cld, csl, lce⟩ := X.ce
  obtain ⟨nm, N', qn, bs, bm, hdct, sn, sub, ab, col, dd, k0, k1, k2, k3, k5, hC, hT⟩ := excInit_of KX X.q
  refine ks_wpAt_Expr_any (ks_wpAt_MethodCall (pl := pl) ?_ hev) hi hsw
  refine ks_wpAt_super_base (env := ksEnv qual (L2.defScope st) L fI (.ref cda) cc) hks hkc (by decide) rfl (KX _ _ lk) rfl hp rfl (KX _ _ lc) rfl hvs hfile X.nt ?_
  refine ks_loadName_global hk hks (loadGlobal_builtin (env := ksEnv qual (L2.defScope st) L fI (.ref cda) cc) hg hm hb ((bb _ (by decide +kernel)).trans (by decide +kernel)) ⟨rfl, ?_⟩)
  refine wpAny_loadName_free hk hkc rfl ⟨_, KX _ _ lce, rfl⟩ ?_
  refine wpAny_loadName_local hk hka hns hv ?_
  refine ks_wpAny_isType_cls hC rfl ⟨rfl, ?_⟩
  refine ks_wpAny_call_super hC rfl he rfl (fun c z => nomatch z) (looks_mroIn KX X.me) (fun h1 hso k1 => ?_)
  have KX1 : K.In h1 := fun b o z => k1 b o (KX b o z)
  have he1 := k1 _ _ he
  have I1 : InstAt h1 e (HandSPX.excO C t0) C none := ⟨he1, rfl, rfl, trivial⟩
  have hI : Looks (model prog w) h1 (isInstance (.ref e) (.type B)) true := I1.type.andThen (looks_subIn KX1 X.sub)
  have sup := X.sup
  cases hc : clsIn K C with
  | none => unfold ks_superIn at sup; rw [hc] at sup; cases sup
  | some cd =>
    unfold ks_superIn at sup
    rw [hc] at sup
    refine kxs_getMethod X.KF hso (looks_opaque KX1 X.op) (l₀ := cd.mro) (fun A Q E s k q => wpAny_bind ((looks_clsIn KX1 hc) A _ E s k (wpAny_pure q))) rfl KX1 sup hI (ks_ne KX1 I1 hc) (by decide) ?_
    have k2 : ∀ b o, h1.get? b = some o → (h1.push (kxs_mw initId e)).get? b = some o := fun b o z => Heap.get?_push_of_some _ z
    have hu : (h1.push (kxs_mw initId e)).get? h1.objs.size = some (kxs_mw initId e) := Heap.get?_push_at rfl rfl
    rw [hst]
    refine kxs_callWith (i := initId) (x := e) rfl ?_
    show wpAny (model prog w) A (evalArgs (.ref h1.objs.size) true ((false, eval (.Constant (.str msg) j pc) _) :: backTo p3 []) []) _ E _
    refine evalArgs_plain (spliced_cons (Calls.Constant_str ?_))
    refine spliced_nil ⟨hu, ?_⟩
    refine call_mw (t0 := t0) (fun b o z => k2 b o (KX1 b o z)) X.FB X.q hu (k2 _ _ he1) (by rw [sizeLine_eq]; simp) fun h' t1 k3 e3 => ?_
    exact hq h' t1 _ (fun b o hb z => k3 b o hb (k2 b o (k1 b o z))) e3
end
end RS
namespace RS
open PySem PySem.Spec PySem.W PySem.Calls PyProof.Rows Builtin Builtin.ObjectAttr
section
variable {prog : Program} {w : World} {A : Around} {E : Value → Shared → Prop} {R : Result → Shared → Prop} {hp : Heap} {g : Array GenState} {d : Drawn} {t : Nat} {os : OsState} {K : Frag} {C x : Addr} {B : String} {bmB : List Value}
/-- self.name = v on an exception that has no dict yet, over any built-in base -/
theorem osa_newX {name : Str} {tk : Tok} {v : Value} {fv : Array Value} {cd : ClassData} (SF : StoreFacts B bmB "object.__setattr__" "object") (KX : K.In hp) (hx : hp.get? x = some { cls := .ref C, data := .fields fv }) (hcd : clsIn K C = some cd) (hh : cd.hasDict = true) (ov : excOver K C bmB = true)
    (ha : findIn K (.ref C) name = some none)
    (hq : ∀ h' tk' dx, (∀ b o, b ≠ x → hp.get? b = some o → h'.get? b = some o) → hp.objs.size ≤ dx → dx ≠ x → h'.get? x = some { cls := .ref C, dict := some dx, data := .fields fv } →
      h'.Ns1 dx (fun y => if y = name then some v else none) → R (.ok (.ret .none)) ⟨h', g, d, tk', os⟩) :
    codeAny (model prog w) A (.call (.builtin "object.__setattr__") ⟨[.ref x, .str name tk, v], []⟩) R ⟨hp, g, d, t, os⟩ := by
  have I : InstAt hp x { cls := .ref C, data := .fields fv } C none := ⟨hx, rfl, rfl, trivial⟩
  have hxs : x ≠ hp.objs.size := Nat.ne_of_lt (Heap.lt_size hx)
  have ht : takerIn K C name = some none := L2.NoAttr.taker ha
  have hcls : Looks (model prog w) hp (classData C) cd := looks_clsIn KX hcd
  refine osa_openX (s := ⟨hp, g, d, t, os⟩) SF KX I ov ht fun b => ?_
  show wpAny _ _ (storeInOwnDict (.ref x) (.ref C) (.str name tk) name v b) _ _ _
  cases cd with | mk nm bs mro ns qn hd sn sb ab col del =>
  simp only at hh
  subst hh
  unfold storeInOwnDict
  unfold ownDictForStores
  repeat (first | with_reducible refine HandSPX.store_in_new ?_ ?_ | with_reducible refine wpAny_loadPart_at hx ?_ | with_reducible refine hcls.at ?_ | wp_step)
  · refine ⟨_, #[], _, (Heap.get?_update_ne _ _ _ _ hxs.symm).trans (Heap.get?_push_at rfl rfl), rfl, ?_, fun _ => rfl⟩
    exact fun z hz => absurd hz (by simp)
  · intro h2 tk2 hn2 same
    have up2 : ∀ b o, hp.get? b = some o → (hp.push { cls := .type "dict", data := .dict #[] }).get? b = some o := fun b o z => Heap.get?_push_of_some _ z
    refine hq h2 tk2 hp.objs.size (fun b o hb z => ?_) (Nat.le_refl _) hxs.symm ((same.2 x hxs).trans (Heap.get?_update_self _ (up2 _ _ hx) rfl)) hn2
    exact (same.2 b (Nat.ne_of_lt (Heap.lt_size z))).trans ((Heap.get?_update_ne _ _ _ _ hb).trans (up2 _ _ z))
end
end RS
namespace RS
open PySem PySem.Spec PySem.W PySem.Calls PyProof.Rows
/-- the form of such an __init__: super().__init__(msg), then self.f = x -/
structure XSt1 (qual : Str) (st : Stmt) (x f : Str) : Prop where
  bd : ∃ p0 p1 p2 p3 p4 p5 p6 p7 p8 pc msg, ∃ j : Nat, L2.defBody st = [.Expr (.Call (.Attribute (.Call (.Name "super" p0) [] [] p1) "__init__" p2) [.Constant (.str msg) j pc] [] p3) p4, .Assign [.Attribute (.Name "self" p5) f p6] (.Name x p7) p8] ∧
    ∀ (L fI cda cc : Addr), interactive (ksEnv qual (L2.defScope st) L fI (.ref cda) cc) = false ∧
      swapsWith (.Call (.Attribute (.Call (.Name "super" p0) [] [] p1) "__init__" p2) [.Constant (.str msg) j pc] [] p3) none p4.line (ksEnv qual (L2.defScope st) L fI (.ref cda) cc) = pure false ∧
      starEach [.Constant (.str msg) j pc] (ksEnv qual (L2.defScope st) L fI (.ref cda) cc) = [(false, eval (.Constant (.str msg) j pc) (ksEnv qual (L2.defScope st) L fI (.ref cda) cc))] ∧
      (∃ pl, eval (.Call (.Attribute (.Call (.Name "super" p0) [] [] p1) "__init__" p2) [.Constant (.str msg) j pc] [] p3) (ksEnv qual (L2.defScope st) L fI (.ref cda) cc) = (do
        let ov ← attributeBase (.Call (.Name "super" p0) [] [] p1) "__init__" (ksEnv qual (L2.defScope st) L fI (.ref cda) cc) (eval (.Call (.Name "super" p0) [] [] p1) (ksEnv qual (L2.defScope st) L fI (.ref cda) cc))
        standAt p2.atName
        let (f, first) ← holding [ov] (getMethod ov "__init__" pl)
        callWith p3 f first (backTo p3 (starEach [.Constant (.str msg) j pc] (ksEnv qual (L2.defScope st) L fI (.ref cda) cc))) [])) ∧
      swapsWith (.Name x p7) (some (.Attribute (.Name "self" p5) f p6)) p8.line (ksEnv qual (L2.defScope st) L fI (.ref cda) cc) = pure false
  ar : ∃ ar, ((L2.defArgs st).posonlyargs ++ (L2.defArgs st).args).head? = some ar ∧ ar.arg = "self"
  ks : (L2.defScope st).names.lookup ("super" : Str) = some .globalImplicit
  kc : (L2.defScope st).names.lookup ("__class__" : Str) = some .free
  ka : (L2.defScope st).names.lookup ("self" : Str) = some .local
  kx : (L2.defScope st).names.lookup x = some .local
  kd : (L2.defScope st).kind = .function
  co : (L2.defScope st).isCoroutine = false
  ge : (L2.defScope st).isGenerator = false
  ce : ∀ y ∈ (L2.defScope st).names, y.2 ≠ .cell
  bi : ∀ (oc : Value) (kV doc pm : Value) (an : Option Addr) (cdv ct : Value) (cc : Addr) (u v : Value), bindArgs (ksFn "__init__" qual (L2.defArgs st) (L2.defBody st) (L2.defScope st) .none kV doc pm an cdv ct cc) ⟨[u, v], []⟩ = pure ([("self", u), (x, v)] : List (Str × Value))
  ne : ¬ ("self" : Str) = x
  dbg : (x == ("__debug__" : Str)) = false
section
variable {prog : Program} {w : World} {A : Around} {R : Result → Shared → Prop} {h : Heap} {g : Array GenState} {d : Drawn} {t : Nat} {os : OsState} {K : Frag} {C fI cda cc e t0 : Addr} {B newId initId : String} {bmB : List Value} {qual x f : Str} {st : Stmt} {mg mb : Str → Option Value}
theorem xinit1 {v : Value} (X : XC prog K C fI cda cc qual st B newId initId bmB) (Y : XSt1 qual st x f) (hd : hasDictIn K C = true) (sa : findIn K (.ref C) "__setattr__" = some (some (.builtin "object.__setattr__"))) (nf : findIn K (.ref C) f = some none)
    (KX : K.In h) (ke : K.lookup e = none) (hroom : A.depth < recursionLimit) (hlim : h.NoLimit) (he : h.get? e = some (HandSPX.excO C t0)) (hg : h.Ns mainGlobals mg) (hm : mg "super" = none) (hb : h.Ns builtinsNs mb) (bb : ∀ x : Str, x ≠ "__name__" → mb x = bootBuiltins x)
    (hq : ∀ h' t1 dx tk, (∀ b o, b ≠ e → h.get? b = some o → h'.get? b = some o) → h.objs.size ≤ dx → dx ≠ e → h'.get? e = some { cls := .ref C, dict := some dx, data := .fields #[.ref t1, .none, .none, .none, .bool false, .none] } →
      h'.Ns1 dx (fun y => if y = f then some v else none) → R (.ok (.ret .none)) ⟨h', g, d, tk, os⟩) :
    codeAny (model prog w) A (.call (.ref fI) ⟨[.ref e, v], []⟩) R ⟨h, g, d, t, os⟩ := by
  obtain ⟨oc, od, kV, doc, pm, an, ct, osl, lk⟩ := X.lk
  obtain ⟨p0, p1, p2, p3, p4, p5, p6, p7, p8, pc, msg, j, hbd, hform⟩ := Y.bd
  obtain ⟨ar, har, harg⟩ := Y.ar
  obtain ⟨cd, hc, hh⟩ := any_some hd
  refine ks_codeAny_call_defAt (s := ⟨h, g, d, t, os⟩) (body := L2.defBody st) (binds := ([("self", .ref e), (x, v)] : List (Str × Value))) hroom (KX _ _ lk) rfl hlim (codeRec_of KX X.cd) rfl (.of_eq (Y.bi oc kV doc pm an _ ct cc _ _)) Y.ce (fun y hy => ?_) (fun h1 hns k1 => ?_) Y.co Y.ge Y.kd
  · simp only [List.mem_cons, List.not_mem_nil, or_false] at hy
    rcases hy with rfl | rfl
    · exact Y.ka
    · exact Y.kx
  obtain ⟨hi, hsw, hst, ⟨pl, hev⟩, hsw2⟩ := hform h.objs.size fI cda cc
  have KX1 : K.In h1 := fun b o z => k1 b o (KX b o z)
  have lt_e : e < h.objs.size := Heap.lt_size he
  rw [hbd]
  refine ks_wpAt_execs_cons ?_
  have hv1 : (fun y => ([("self", Value.ref e), (x, v)] : List (Str × Value)).reverse.lookup y) ar.arg = some (.ref e) := by
    rw [harg]
    show List.lookup ("self" : Str) ([(x, v), ("self", Value.ref e)] : List (Str × Value)) = _
    rw [List.lookup_cons, beq_eq_false_iff_ne.mpr Y.ne]
    rfl
  have hv2 : (fun y => ([("self", Value.ref e), (x, v)] : List (Str × Value)).reverse.lookup y) x = some v := by
    show List.lookup x ([(x, v), ("self", Value.ref e)] : List (Str × Value)) = _
    rw [List.lookup_cons, beq_self_eq_true]
  refine sup_init X KX1 hns har hv1 (k1 _ _ he) (hg.keeps k1) hm (hb.keeps k1) bb Y.ks Y.kc (by rw [harg]; exact Y.ka) Y.kd (pl := pl) hi hsw hst hev fun h2 t1 tk k2 e2 => ?_
  have hns2 : h2.Ns h.objs.size (fun y => ([("self", Value.ref e), (x, v)] : List (Str × Value)).reverse.lookup y) := by
    obtain ⟨oL, es, ep, hL, r⟩ := hns
    exact ⟨oL, es, ep, k2 _ _ (Nat.ne_of_gt lt_e) hL, r⟩
  refine ks_wpAt_execs_cons (ks_wpAt_Assign_Attr ?_ hsw2)
  have KX2 : K.In h2 := fun b o z => k2 b o (fun y => by rw [y, ke] at z; cases z) (KX1 b o z)
  refine wpAt_of_wpAny (wpAny_Name (wpAny_loadName_local Y.kd Y.kx hns2 hv2 ?_) Y.dbg)
  refine wpAny_Name (wpAny_loadName_local Y.kd Y.ka hns2 (by rw [harg] at hv1; exact hv1) ?_)
  refine set_plain (s := ⟨h2, g, d, tk, os⟩) (ox := HandSPX.excO C t1) (od := none) KX2 ⟨e2, rfl, rfl, trivial⟩ sa ?_
  refine osa_newX X.SF KX2 e2 hc hh X.ov nf fun h3 tk3 dx k3 ldx nex e3 n3 => ?_
  have sz : h.objs.size < h2.objs.size := by
    obtain ⟨oL, es, ep, hL, r⟩ := hns2
    exact Heap.lt_size hL
  refine wpAt_of_wpAny (wpAny_execs_nil ?_)
  exact hq h3 t1 dx _ (fun b o hb z => k3 b o hb (k2 b o hb (k1 b o z))) (Nat.le_trans (Nat.le_of_lt sz) ldx) nex e3 n3
end
end RS
namespace RS
open PySem PySem.Spec PySem.W PySem.Calls PyProof.Rows
end RS
namespace RS
open PySem PySem.Spec L2
/-- at e: an exception of the class at C, its dict at d -/
def exv (e C : Addr) (d : Option Addr) : HO := .ext fun h => ∃ oe vs, h.get? e = some oe ∧ oe.cls = .ref C ∧ oe.dict = d ∧ oe.data = .fields vs
end RS
namespace RS
open PySem PySem.Spec L2 PySem.W
/-- the class x at C: C(v) is a new exception whose field f is v -/
def XK1 (g : Wd) (x : Str) (C : Addr) (f : Str) : Prop := g.mg x = some (.ref C) ∧ g.mg "super" = none ∧ keepIn g.K (.ref C) = true ∧ hasDictIn g.K C = true ∧ findIn g.K (.ref C) "__setattr__" = some (some (.builtin "object.__setattr__")) ∧ findIn g.K (.ref C) f = some none ∧
  ∃ fI cda cc qual st B newId initId bmB xp, XC g.P g.K C fI cda cc qual st B newId initId bmB ∧ XSt1 qual st xp f
section
variable {g : Wd} {X : Cx} {C : Addr} {x f : Str} {e : Expr} {t : TA} {p pos : Pos}
def tMkX1 (C : Addr) (f : Str) (t : TA) : TE := fun σ H Q => t σ H fun vs H1 => ∃ v, vs = [v] ∧ ∀ y dy, H1 y = none → H1 dy = none → y ≠ dy → Q (.ref y) (upd (upd H1 dy (exd dy [(f, v)])) y (exv y C (some dy)))
end
end RS
namespace RS
open PySem PySem.Spec L2 PySem.W
section
variable {g : Wd} {X : Cx} {C : Addr} {x f : Str} {e o : Expr} {t : TA} {ta : TE} {p pos : Pos}
def tMkX0 (C : Addr) : TE := fun σ H Q => ∀ y, H y = none → Q (.ref y) (upd H y (exv y C none))
def tXfv (K : Frag) (C : Addr) (f : Str) (ta : TE) : TE := fun σ H Q => ta σ H fun x H1 => ∃ a dd fs v, x = .ref a ∧ H1 a = some (exv a C (some dd)) ∧ H1 dd = some (exd dd fs) ∧ fs.lookup f = some v ∧ Q v H1
end
end RS
namespace RS
open PySem PySem.Spec PySem.W PySem.Calls PyProof.Rows
end RS
namespace RS
open PySem PySem.Spec L2
end RS
namespace RS
open PySem PySem.Spec L2
def keyD : Key → PyData
  | .inl i => .int i
  | .inr x => .str x
mutual
/-- v stands for the data d -/
inductive DpX (K : PySem.W.Frag) (H : Hp) : V → PyData → Prop
  | non : DpX K H .non .none
  | bl (b : Bool) : DpX K H (.bl b) (.bool b)
  | int (i : Int) : DpX K H (.int i) (.int i)
  | str (x : Str) : DpX K H (.str x) (.str x)
  | lst {a : Addr} {xs : List V} {ds : List PyData} (h : SqL K H a xs) (hs : DpXs K H xs ds) : DpX K H (.ref a) (.list ds)
  | tup {a : Addr} {xs : List V} {ds : List PyData} (h : SqT K H a xs) (hs : DpXs K H xs ds) : DpX K H (.ref a) (.tuple ds)
  | dct {a : Addr} {kvs : List (Key × V)} {D : List (PyData × PyData)} (h : H a = some (.dK kvs)) (hs : DpXd K H kvs D) : DpX K H (.ref a) (.dict D)
inductive DpXs (K : PySem.W.Frag) (H : Hp) : List V → List PyData → Prop
  | nil : DpXs K H [] []
  | cons {v : V} {vs : List V} {d : PyData} {ds : List PyData} (h : DpX K H v d) (hs : DpXs K H vs ds) : DpXs K H (v :: vs) (d :: ds)
inductive DpXd (K : PySem.W.Frag) (H : Hp) : List (Key × V) → List (PyData × PyData) → Prop
  | nil : DpXd K H [] []
  | cons {k : Key} {v : V} {kvs : List (Key × V)} {d : PyData} {D : List (PyData × PyData)} (h : DpX K H v d) (hs : DpXd K H kvs D) : DpXd K H ((k, v) :: kvs) ((keyD k, d) :: D)
end
/-- sys.modules stands in the base, a dict -/
def SmB (base : Heap) : Prop := ∃ o es n, base.get? sysModules = some o ∧ o.data = .dict es n
theorem SmB.ne {X : Cx} {pins : List (Addr × Obj)} {σ : L2.St} {H : Hp} {s : Shared} {a : Addr} {its : Array Value} {n : Nat} {o : Obj} (I : Inv X pins σ H s) (sm : SmB X.base) (h : s.heap.get? a = some o) (hd : o.data = .seq its n) : sysModules ≠ a := fun z => by
  obtain ⟨o2, es, k, e, d⟩ := sm
  have e2 := (I.bs _ _ e).1
  rw [z, h] at e2
  cases e2
  rw [hd] at d
  cases d
section
variable {X : Cx} {pins : List (Addr × Obj)} {σ : L2.St} {H : Hp} {s : Shared}
theorem key_reads {h : Heap} (k : Key) (key : Value) (e : (mixKind X.prog X.w).is k key = true) : Reads h key (keyD k) [] := by
  rcases keyIs_shape e with ⟨i, t, rfl, rfl⟩ | ⟨x, t, rfl, rfl⟩
  · exact Reads.int i t
  · exact Reads.str x t
mutual
theorem DpX.reads (I : Inv X pins σ H s) (sm : SmB X.base) : ∀ {d : PyData} {v : V} {u : Value}, DpX X.K H v d → RelV v u → ∃ as, Reads s.heap u d as ∧ sysModules ∉ as
  | _, _, _, .non, r => by cases r; exact ⟨_, Reads.none, by simp⟩
  | _, _, _, .bl b, r => by cases r; exact ⟨_, Reads.bool b, by simp⟩
  | _, _, _, .int i, r => by obtain ⟨t, rfl⟩ := r; exact ⟨_, Reads.int i t, by simp⟩
  | _, _, _, .str x, r => by obtain ⟨t, rfl⟩ := r; exact ⟨_, Reads.str x t, by simp⟩
  | _, _, _, .lst hs ha, r => by
    cases r
    obtain ⟨its, rv, ⟨o, n, ho, hc, _, hd⟩, _⟩ := I.list hs
    obtain ⟨as, hr, na⟩ := DpXs.reads I sm ha rv
    refine ⟨_, Reads.list ho hc hd hr, fun z => ?_⟩
    rcases List.mem_cons.mp z with z | z
    · exact SmB.ne I sm ho hd z
    · exact na z
  | _, _, _, .tup hs ha, r => by
    cases r
    obtain ⟨its, rv, ⟨o, ho, hc, n, hd⟩, _⟩ := I.tuple hs
    obtain ⟨as, hr, na⟩ := DpXs.reads I sm ha rv
    exact ⟨_, Reads.tuple ho hc hd hr, na⟩
  | _, _, _, .dct hs ha, r => by
    cases r
    obtain ⟨_, ns, vs, kv, dd⟩ := dk_of I.hok hs
    obtain ⟨bs, hp, nb⟩ := DpXd.reads I sm ha kv
    refine ⟨_, PyProof.V.reads_dictOf (enc := keyD) (fun k key e => key_reads (X := X) k key e) dd hp, fun z => ?_⟩
    rcases List.mem_cons.mp z with z | z
    · rw [z] at ns; simp at ns
    · exact nb z
theorem DpXs.reads (I : Inv X pins σ H s) (sm : SmB X.base) : ∀ {ds : List PyData} {vs : List V} {us : List Value}, DpXs X.K H vs ds → Vals vs us → ∃ as, ReadsAll s.heap us ds as ∧ sysModules ∉ as
  | _, _, _, .nil, r => by cases r; exact ⟨_, ReadsAll.nil, by simp⟩
  | _, _, _, .cons h1 h2, r => by
    cases r with
    | cons r1 r2 =>
      obtain ⟨as, q1, n1⟩ := DpX.reads I sm h1 r1
      obtain ⟨bs, q2, n2⟩ := DpXs.reads I sm h2 r2
      exact ⟨_, ReadsAll.cons q1 q2, fun z => (List.mem_append.mp z).elim n1 n2⟩
theorem DpXd.reads (I : Inv X pins σ H s) (sm : SmB X.base) : ∀ {D : List (PyData × PyData)} {kvs : List (Key × V)} {vs : List (Key × Value)}, DpXd X.K H kvs D → KV kvs vs → ∃ bs, PyProof.V.PairsRead s.heap keyD vs D bs ∧ sysModules ∉ bs
  | _, _, _, .nil, r => by cases r; exact ⟨_, PyProof.V.PairsRead.nil, by simp⟩
  | _, _, _, .cons h1 h2, r => by
    cases r with
    | @cons _ q _ _ r1 r2 =>
      obtain ⟨k', v'⟩ := q
      obtain ⟨e1, e2⟩ := r1
      simp only at e1 e2
      subst e1
      obtain ⟨as, q1, n1⟩ := DpX.reads I sm h1 e2
      obtain ⟨bs, q2, n2⟩ := DpXd.reads I sm h2 r2
      exact ⟨_, PyProof.V.PairsRead.cons q1 q2, fun z => (List.mem_append.mp z).elim n1 n2⟩
end
end
end RS
namespace RS
open PySem PySem.Spec L2
end RS
namespace RS
open PySem PySem.Spec L2
theorem sqT_same {K : PySem.W.Frag} {H H' : Hp} {a : Addr} {xs : List V} (h : SqT K H a xs) (s : Same H H') : SqT K H' a xs := by
  rcases h with (h | ⟨o, h⟩) | h
  · exact .inl (.inl (s _ _ h))
  · exact .inl (.inr ⟨o, s _ _ h⟩)
  · exact .inr h
mutual
theorem DpX.same {K : PySem.W.Frag} {H H' : Hp} (s : Same H H') : ∀ {v : V} {d : PyData}, DpX K H v d → DpX K H' v d
  | _, _, .non => .non
  | _, _, .bl b => .bl b
  | _, _, .int i => .int i
  | _, _, .str x => .str x
  | _, _, .lst h hs => .lst (sq_same h s) (hs.same s)
  | _, _, .tup h hs => .tup (sqT_same h s) (hs.same s)
  | _, _, .dct h hs => .dct (s _ _ h) (hs.same s)
theorem DpXs.same {K : PySem.W.Frag} {H H' : Hp} (s : Same H H') : ∀ {vs : List V} {ds : List PyData}, DpXs K H vs ds → DpXs K H' vs ds
  | _, _, .nil => .nil
  | _, _, .cons h hs => .cons (h.same s) (hs.same s)
theorem DpXd.same {K : PySem.W.Frag} {H H' : Hp} (s : Same H H') : ∀ {kvs : List (Key × V)} {D : List (PyData × PyData)}, DpXd K H kvs D → DpXd K H' kvs D
  | _, _, .nil => .nil
  | _, _, .cons h hs => .cons (h.same s) (hs.same s)
end
end RS
namespace RS
open PySem PySem.Spec L2
end RS
namespace RS
open PySem PySem.Spec L2 PyProof.Rows
end RS
namespace RS
open PySem PySem.Spec L2
end RS
namespace RS
open PySem PySem.Spec PySem.W L2
/-- what the kernel tells of an own exception class -/
structure XB (K : Frag) (C fI cda : Addr) (qual : Str) (B newId initId : String) (bmB : List Value) : Prop where
  q : excInitIn K C bmB newId = true
  ov : excOver K C bmB = true
  sup : ks_superIn K C C "__init__" = some (some (.builtin initId))
  sub : subIn K (.ref C) (.type B) = some true
  fn : typeIn K (.ref fI) = some (.type "function")
  cd : codeIn K (.ref cda) qual = true
  me : mroIn K C (.ref C) = some true
  kp : keepIn K (.ref C) = true
  hd : hasDictIn K C = true
  sa : findIn K (.ref C) "__setattr__" = some (some (.builtin "object.__setattr__"))
  hg : findIn K (.ref C) "__getattribute__" = some (some (.builtin "BaseException.__getattribute__"))
  hk : findIn K (.ref C) "__getattr__" = some none
  hs : subIn K (.ref C) (.type "BaseException") = some true
  ha : findIn K (.ref C) "__class__" = some (some (.builtin "object.__class__"))
  hm : mroIn K C (.type "object") = some true
/-- what is common -/
structure XA (P : Program) (K : Frag) : Prop where
  op : nsIn K cStatics "thirdparty.any" = some none
  nt : (P.main.scope.names.lookup ("super" : Str)).isSome = false
  hn : specialIn K (.builtin "object.__class__") "__get__" = some (some (.builtin "getset_descriptor.__get__"))
  ht : takesIn K (.builtin "object.__class__") = some true
section
variable {P : Program} {K : Frag} {C fI cda cc : Addr} {qual : Str} {st : Stmt} {B newId initId : String} {bmB : List Value}
  {oc kV doc pm ct ccl cl : Value} {od an cdd cld : Option Addr} {osl ccs csl : Array (Option Value)} {vs : Array Value} {file : Str} {tf : Tok}
theorem xc_mk (FB : ExcBaseFacts B newId initId bmB) (KF : KxsFacts B initId) (SF : StoreFacts B bmB "object.__setattr__" "object") (A : XA P K) (b : XB K C fI cda qual B newId initId bmB) (ini : findIn K (.ref C) "__init__" = some (some (.ref fI)))
    (l : K.lookup fI = some ⟨oc, od, .func (ksFn "__init__" qual (L2.defArgs st) (L2.defBody st) (L2.defScope st) .none kV doc pm an (.ref cda) ct cc), osl⟩)
    (co : K.lookup cda = some ⟨ccl, cdd, .fields vs, ccs⟩) (fi : vs[2]? = some (.str file tf)) (fe : ((P.main.file : Str) == file) = true) (ce : K.lookup cc = some ⟨cl, cld, .cell (some (.ref C)), csl⟩) :
    XC P K C fI cda cc qual st B newId initId bmB :=
  ⟨FB, KF, SF, b.q, b.ov, b.sup, b.sub, ini, b.fn, ⟨_, _, _, _, _, _, _, _, l⟩, b.cd, ⟨_, _, _, _, _, _, co, fi, fe⟩, ⟨_, _, _, ce⟩, b.me, A.op, A.nt⟩
end
theorem df_mk {K : PySem.W.Frag} {x qual : Str} {st : Stmt} {f : Addr} {oc : Value} {od an : Option Addr} {osl : Array (Option Value)} {dV kV doc pm cdv ct : Value} (l : K.lookup f = some ⟨oc, od, .func (PySem.W.fnOf x qual (defArgs st) (defBody st) (defScope st) dV kV doc pm an cdv ct), osl⟩)
    (c : PySem.W.codeIn K cdv qual = true) (k : PySem.W.keepIn K (.ref f) = true) : Df K x qual st f (PySem.W.fnOf x qual (defArgs st) (defBody st) (defScope st) dV kV doc pm an cdv ct) dV := ⟨⟨oc, od, kV, doc, pm, an, cdv, ct, osl, rfl, l, c⟩, k⟩
end RS
namespace RS
open PySem PySem.Spec PyProof.Rows L2
end RS
namespace RS
open PySem PySem.Spec L2 PyProof.Rows
section
variable {X : Cx} {k : Nat}
def rNeE (K : PySem.W.Frag) : R2 := fun x y H Q => ∃ a b xs ys, x = .ref a ∧ y = .ref b ∧ SqL K H a xs ∧ SqL K H b ys ∧ (xs = [] ∨ ys = []) ∧ Q (.bl (decide (xs.length ≠ ys.length))) H
theorem op_neE {K : PySem.W.Frag} (hr : Rm k X) (hK : X.K = K := by rfl) : OpR X (compareOp .NotEq) (rNeE K) := by
  subst hK
  intro pins s σ H x y v u Q I rx ry h
  obtain ⟨a, b, xs, ys, rfl, rfl, ha, hb, he, q⟩ := h
  cases rx
  cases ry
  obtain ⟨its, r1, ⟨o1, n1, ho1, hc1, hdd1, hd1⟩, _⟩ := I.list ha
  obtain ⟨its2, r2, ⟨o2, n2, ho2, hc2, hdd2, hd2⟩, _⟩ := I.list hb
  have l1 := r1.length
  have l2 := r2.length
  have hu : X.A.units < cLine := by have := hr.room.un; omega
  by_cases hl : xs.length = ys.length
  · have z : its.toArray.size = its2.toArray.size := by simp; omega
    have zz : its.length = 0 := by
      rcases he with e | e
      · rw [← l1, e]; rfl
      · rw [← l1, hl, e]; rfl
    have := SeqAt.RcNeAt.lists (A := X.A) (s := s) (l := a) (b := b) (e := fun _ => true) ⟨o1, ho1, hc1, n1, hd1⟩ ⟨o2, ho2, hc2, n2, hd2⟩ z hu (fun j h1 _ => by simp [zz] at h1)
    refine this X.prog X.w X.xe _ ⟨.bl (decide (xs.length ≠ ys.length)), H, I, ?_, q⟩
    simp [hl, zz]; exact rfl
  · have z : (its.toArray.size != its2.toArray.size) = true := by simp; omega
    have := SeqAt.RcNeAt.lists_lengths (A := X.A) (s := s) (l := a) (b := b) ⟨o1, ho1, hc1, n1, hd1⟩ ⟨o2, ho2, hc2, n2, hd2⟩ z hu
    refine this X.prog X.w X.xe _ ⟨.bl (decide (xs.length ≠ ys.length)), H, I, ?_, q⟩
    simp [hl]; exact rfl
end
end RS
namespace RS
open PySem PySem.Spec
/-- an iterator whose turns give out no token -/
structure Dr (prog : Program) (w : World) (A : Around) (it : Addr) (fp : List Addr) (n : Nat) (P : Nat → Value → Prop) (St : Nat → Heap → Prop) : Prop where
  fr : ∀ i h h', St i h → (∀ b ∈ fp, ∀ o, h.get? b = some o → h'.get? b = some o) → St i h'
  nx : ∀ i (s : Shared) (Q : Value → Shared → Prop) (E : Value → Shared → Prop), i < n → St i s.heap → (∀ x h', P i x → St (i + 1) h' → Heap.SameBut it s.heap h' → Q x { s with heap := h' }) → wpAny (model prog w) A (Builtin.SmallTypes.nextOf (.ref it)) Q E s
  dn : ∀ (s : Shared) (Q : Value → Shared → Prop) (E : Value → Shared → Prop), St n s.heap → (∀ h' e, Heap.ExtBut it s.heap h' → (∃ o, h'.get? e = some o ∧ o.cls = .type "StopIteration") → E (.ref e) { s with heap := h' }) → wpAny (model prog w) A (Builtin.SmallTypes.nextOf (.ref it)) Q E s
section
variable {prog : Program} {w : World} {A : Around} {E : Value → Shared → Prop} {s : Shared}
theorem dr_list (hh : A.handled = none) (it l : Addr) (ne : l ≠ it) (xs : Array Value) : Dr prog w A it [it, l] xs.size (fun i v => xs[i]? = some v) (fun i h => h.IsListIter it l i ∧ h.IsList l xs) :=
  ⟨fun _ _ _ z k => ⟨z.1.at fun o e => k it (by simp) o e, z.2.at fun o e => k l (by simp) o e⟩,
   fun i s Q E lt z k => wpAny_nextOf_list_item z.1 z.2 (x := xs[i]) (by simp [lt]) fun h' a b => k _ h' (by simp [lt]) ⟨a, z.2.extBut b.extBut ne⟩ b,
   fun s Q E z k => wpAny_nextOf_list_end hh z.1 z.2 (by simp) k⟩
theorem dr_tup (hh : A.handled = none) (it l : Addr) (ne : l ≠ it) (xs : Array Value) : Dr prog w A it [it, l] xs.size (fun i v => xs[i]? = some v) (fun i h => h.IsTupleIter it l i ∧ h.IsTuple l xs) :=
  ⟨fun _ _ _ z k => ⟨z.1.at fun o e => k it (by simp) o e, z.2.at fun o e => k l (by simp) o e⟩,
   fun i s Q E lt z k => wpAny_nextOf_tuple_item z.1 z.2 (x := xs[i]) (by simp [lt]) fun h' a b => k _ h' (by simp [lt]) ⟨a, z.2.extBut b.extBut ne⟩ b,
   fun s Q E z k => wpAny_nextOf_tuple_end hh z.1 z.2 (by simp) k⟩
/-- an enumerate's record -/
abbrev enO (f0 f1 : Value) (it : Addr) (c : Int) (old : Value) : Obj := { cls := .type "enumerate", dict := none, data := .fields #[f0, f1, .ref it, rawInt c, .none, old], slots := #[] }
abbrev tupO (c : Int) (t : Tok) (x : Value) : Obj := { cls := .type "tuple", data := .seq #[.int c t, x] }
/-- its state: no tuple is out, or one is out and held -/
def EnS (h : Heap) (e it : Addr) (c : Int) : Prop := (∃ old, h.get? e = some (enO .none (.bool false) it c old)) ∨ ∃ (old : Value) (T : Addr) (f : Bool) (o : Obj), h.get? e = some (enO (rawInt T) (.bool f) it c old) ∧ h.get? T = some o ∧ T ≠ e ∧ T ≠ it ∧ o.cls = .type "tuple"
theorem en_next {e it : Addr} {fp : List Addr} {n i : Nat} {P : Nat → Value → Prop} {St : Nat → Heap → Prop} {Q : Value → Shared → Prop} (D : Dr prog w A it fp n P St) (he : EnS s.heap e it i) (hst : St i s.heap) (lt : i < n) (ne : e ≠ it) (nf : e ∉ fp) (hi : it < s.heap.objs.size)
    (k : ∀ x h', P i x → EnS h' e it (i + 1 : Nat) → St (i + 1) h' → h'.get? s.heap.objs.size = some (tupO i s.toks x) → h'.objs.size = s.heap.objs.size + 1 → (∀ b o, b ≠ e → b ≠ it → s.heap.get? b = some o → h'.get? b = some o) → Q (.ref s.heap.objs.size) { s with heap := h', toks := s.toks + 1 }) :
    wpAny (model prog w) A (Builtin.«enumerate.__next__» ⟨[.ref e], []⟩) (fun r z => ∃ v, r = .done (.ret v) ∧ Q v z) E s := by
  obtain ⟨H, gs, dr, tk, os⟩ := s
  have ec : ((i + 1 : Nat) : Int) = (i : Int) + 1 := by omega
  obtain ⟨f0, f1, old, hE⟩ : ∃ f0 f1 old, H.get? e = some (enO f0 f1 it i old) := by
    rcases he with ⟨old, z⟩ | ⟨old, T, f, o, z, _⟩
    · exact ⟨_, _, _, z⟩
    · exact ⟨_, _, _, z⟩
  have le : e < H.objs.size := Heap.lt_size hE
  unfold Builtin.«enumerate.__next__»
  refine wpAny_bind (wpAny_of_eq (a := ((Value.ref e : Value), ([] : List Value))) (by rfl) ?_)
  refine wpAny_bind (wpAny_field hE rfl (x := .ref it) rfl ?_)
  refine wpAny_bind (D.nx i ⟨H, gs, dr, tk, os⟩ _ _ lt hst fun x H1 px st1 m1 => ?_)
  have E1 : H1.get? e = some (enO f0 f1 it i old) := (m1.2 e ne).trans hE
  refine wpAny_bind (wpAny_field E1 rfl (x := rawInt i) rfl ?_)
  refine wpAny_bind (wpAny_field E1 rfl (x := .none) rfl ?_)
  show wpAny _ _ ((mkInt (i : Int)) >>= _) _ _ ⟨H1, gs, dr, tk, os⟩
  refine wpAny_bind (wpAny_mkInt ?_)
  refine wpAny_bind (wpAny_setField_rec (s := ⟨H1, gs, dr, tk + 1, os⟩) E1 (by simp) fun H2 E2 m2 => ?_)
  have E2' : H2.get? e = some (enO f0 f1 it ((i : Int) + 1) old) := E2
  refine wpAny_bind (wpAny_setField_rec (s := ⟨H2, gs, dr, tk + 1, os⟩) E2' (by simp) fun H3 E3 m3 => ?_)
  have E3' : H3.get? e = some (enO f0 f1 it ((i : Int) + 1) old) := E3
  have m2' : Heap.SameBut e H1 H2 := m2
  have m3' : Heap.SameBut e H2 H3 := m3
  have m1' : Heap.SameBut it H H1 := m1
  have z3 : H3.objs.size = H.objs.size := by rw [m3'.1, m2'.1, m1'.1]
  refine wpAny_bind (wpAny_newTuple ?_)
  have keep4 : ∀ b o, b ≠ e → b ≠ it → H.get? b = some o → (H3.push (tupO i tk x)).get? b = some o := fun b o x1 x2 z => Heap.get?_push_of_some _ (m3'.extBut b o x1 (m2'.extBut b o x1 (m1'.extBut b o x2 z)))
  have E4 : (H3.push (tupO i tk x)).get? e = some (enO f0 f1 it ((i : Int) + 1) old) := Heap.get?_push_of_some _ E3'
  have T4 : (H3.push (tupO i tk x)).get? H.objs.size = some (tupO i tk x) := by rw [← z3]; exact Heap.get?_push_size _ rfl
  have st4 : St (i + 1) (H3.push (tupO i tk x)) := D.fr _ _ _ st1 fun b hb o z => by
    have x1 : b ≠ e := fun q => nf (q ▸ hb)
    exact Heap.get?_push_of_some _ (m3'.extBut b o x1 (m2'.extBut b o x1 z))
  have z4 : (H3.push (tupO i tk x)).objs.size = H.objs.size + 1 := by rw [Heap.size_push, z3]
  have keepT : ∀ T o, T ≠ e → T ≠ it → H.get? T = some o → (H3.push (tupO i tk x)).get? T = some o := keep4
  show wpAny _ _ (Builtin.SmallTypes.ownedTupleIsFree (.ref e) >>= _) _ _ ⟨H3.push (tupO i tk x), gs, dr, tk + 1, os⟩
  rw [z3]
  generalize H3.push (tupO i tk x) = H4 at keep4 E4 T4 st4 z4 keepT ⊢
  have nT : H.objs.size ≠ e := Nat.ne_of_gt le
  have nI : H.objs.size ≠ it := Nat.ne_of_gt hi
  rcases he with ⟨old', z⟩ | ⟨old', T, f, oT, z, hT, n1, n2, ct⟩
  · have q : enO f0 f1 it i old = enO .none (.bool false) it i old' := Option.some.inj (hE.symm.trans z)
    have qq := congrArg (fun o : Obj => match o.data with | .fields vs => vs.toList | _ => []) q
    simp only [List.cons.injEq] at qq
    have q0 : f0 = .none := qq.1
    have q1 : f1 = .bool false := qq.2.1
    subst q0 q1
    refine wpAny_bind ?_
    unfold Builtin.SmallTypes.ownedTupleIsFree
    refine wpAny_bind (wpAny_field E4 rfl (x := .none) rfl (wpAny_pure ?_))
    simp only [if_true]
    refine wpAny_bind (wpAny_rule ?_)
    refine wpAny_bind (wpAny_field E4 rfl (x := old) rfl ?_)
    refine wpAny_bind (wpAny_setField_rec E4 (by simp) fun H5 E5 m5 => ?_)
    have E5' : H5.get? e = some (enO .none (.bool false) it ((i : Int) + 1) x) := E5
    have m5' : Heap.SameBut e H4 H5 := m5
    refine wpAny_bind ?_
    unfold Builtin.SmallTypes.ownedTupleHandOut
    refine wpAny_bind (wpAny_setField_rec E5' (by simp) fun H6 E6 m6 => ?_)
    have m6' : Heap.SameBut e H5 H6 := m6
    refine wpAny_setField_rec E6 (by simp) fun H7 E7 m7 => ?_
    have m7' : Heap.SameBut e H6 H7 := m7
    have E7' : H7.get? e = some (enO (rawInt H.objs.size) (.bool false) it ((i + 1 : Nat) : Int) x) := by rw [ec]; exact E7
    have kk : ∀ b o, b ≠ e → H4.get? b = some o → H7.get? b = some o := fun b o x1 z => m7'.extBut b o x1 (m6'.extBut b o x1 (m5'.extBut b o x1 z))
    refine wpAny_bind (wpAny_letGo (wpAny_pure ⟨_, rfl, k x H7 px (.inr ⟨x, H.objs.size, false, _, E7', kk _ _ nT T4, nT, nI, rfl⟩) (D.fr _ _ _ st4 fun b hb o z => kk b o (fun q => nf (q ▸ hb)) z) (kk _ _ nT T4) ?_ fun b o x1 x2 z => kk b o x1 (keep4 b o x1 x2 z)⟩))
    show H7.objs.size = H.objs.size + 1
    rw [m7'.1, m6'.1, m5'.1, z4]
  · have q : enO f0 f1 it i old = enO (rawInt T) (.bool f) it i old' := Option.some.inj (hE.symm.trans z)
    have qq := congrArg (fun o : Obj => match o.data with | .fields vs => vs.toList | _ => []) q
    simp only [List.cons.injEq] at qq
    have q0 : f0 = rawInt T := qq.1
    have q1 : f1 = .bool f := qq.2.1
    subst q0 q1
    refine wpAny_bind (wpAny_tupleHeld_enum (s := ⟨H4, gs, dr, tk + 1, os⟩) E4 (keepT T oT n1 n2 hT) fun H5 E5 m5 => ?_)
    have m5' : Heap.SameBut e H4 H5 := m5
    simp only [Bool.false_eq_true, if_false]
    have kk : ∀ b o, b ≠ e → H4.get? b = some o → H5.get? b = some o := fun b o x1 z => m5'.extBut b o x1 z
    refine wpAny_pure ⟨_, rfl, k x H5 px (.inr ⟨old, T, true, oT, by rw [ec]; exact E5, kk _ _ n1 (keepT T oT n1 n2 hT), n1, n2, ct⟩) (D.fr _ _ _ st4 fun b hb o z => kk b o (fun q => nf (q ▸ hb)) z) (kk _ _ nT T4) ?_ fun b o x1 x2 z => kk b o x1 (keep4 b o x1 x2 z)⟩
    show H5.objs.size = H.objs.size + 1
    rw [m5'.1, z4]
end
end RS
namespace RS
open PySem PySem.Spec
section
variable {prog : Program} {w : World} {A : Around} {E : Value → Shared → Prop} {s : Shared} {e it : Addr} {fp : List Addr} {n i : Nat} {P : Nat → Value → Prop} {St : Nat → Heap → Prop}
theorem EnS.ty {h : Heap} {c : Int} (x : EnS h e it c) : ∃ o, h.get? e = some o ∧ o.cls = .type "enumerate" := by
  rcases x with ⟨old, z⟩ | ⟨old, T, f, o, z, _⟩
  · exact ⟨_, z, rfl⟩
  · exact ⟨_, z, rfl⟩
theorem en_item {Q : Option Value → Shared → Prop} (D : Dr prog w A.in1 it fp n P St) (he : EnS s.heap e it i) (hst : St i s.heap) (lt : i < n) (ne : e ≠ it) (nf : e ∉ fp) (hi : it < s.heap.objs.size)
    (k : ∀ x h', P i x → EnS h' e it (i + 1 : Nat) → St (i + 1) h' → h'.get? s.heap.objs.size = some (tupO i s.toks x) → h'.objs.size = s.heap.objs.size + 1 → (∀ b o, b ≠ e → b ≠ it → s.heap.get? b = some o → h'.get? b = some o) → Q (some (.ref s.heap.objs.size)) { s with heap := h', toks := s.toks + 1 }) :
    wpAny (model prog w) A (pyNext (.ref e)) Q E s := by
  have ty : s.TypeIs (.ref e) "enumerate" := he.ty
  unfold pyNext
  refine wpAny_bind (wpAny_attempt (wpAny_callSpecial?_slot (name := ("__next__" : Str)) ty F.slot_enumerate_next (wpAny_call_entry F.slot_enumerate_next ty F.entry_enumerate_next ?_ (F.args_enumerate_next_1 _))))
  exact en_next D he hst lt ne nf hi fun x h' a b c d f g => wpAny_pure (k x h' a b c d f g)
theorem en_end {Q : Option Value → Shared → Prop} {c : Int} (D : Dr prog w A.in1 it fp n P St) (he : EnS s.heap e it c) (hst : St n s.heap) (k : ∀ h', Heap.ExtBut it s.heap h' → Q none { s with heap := h' }) : wpAny (model prog w) A (pyNext (.ref e)) Q E s := by
  have ty : s.TypeIs (.ref e) "enumerate" := he.ty
  obtain ⟨f0, f1, old, hE⟩ : ∃ f0 f1 old, s.heap.get? e = some (enO f0 f1 it c old) := by
    rcases he with ⟨old, z⟩ | ⟨old, T, f, o, z, _⟩
    · exact ⟨_, _, _, z⟩
    · exact ⟨_, _, _, z⟩
  unfold pyNext
  refine wpAny_bind (wpAny_attempt (wpAny_callSpecial?_slot (name := ("__next__" : Str)) ty F.slot_enumerate_next (wpAny_call_entry F.slot_enumerate_next ty F.entry_enumerate_next ?_ (F.args_enumerate_next_1 _))))
  unfold Builtin.«enumerate.__next__»
  refine wpAny_bind (wpAny_of_eq (a := ((Value.ref e : Value), ([] : List Value))) (by rfl) ?_)
  refine wpAny_bind (wpAny_field hE rfl (x := .ref it) rfl ?_)
  refine wpAny_bind (D.dn s _ _ hst fun h' x eb hx => ?_)
  obtain ⟨o, ho, hc⟩ := hx
  exact wpAny_bind (wpAny_isInstance (T := "StopIteration") (b := true) ⟨o, ho, hc⟩ isSubtype_stop (wpAny_pure (k _ eb)))
abbrev lstO (acc : Array Value) (c : Nat) : Obj := { cls := .type "list", dict := none, data := .seq acc c, slots := #[] }
/-- the tuples laid so far -/
def Laid (P : Nat → Value → Prop) (b0 m : Nat) (h : Heap) : Prop := ∀ j, j < m → ∃ t x, h.get? (b0 + j) = some (tupO j t x) ∧ P j x
def refsR (b0 m : Nat) : List Value := (List.range m).map fun j => .ref (b0 + j)
theorem refsR_succ (b0 m : Nat) : refsR b0 (m + 1) = refsR b0 m ++ [.ref (b0 + m)] := by simp [refsR, List.range_succ]
theorem en_loop {R : Result → Shared → Prop} {S : Addr} {b0 : Nat} {h₁ : Heap} {res : Value} (D : Dr prog w A.in1.in1 it fp n P St) (ne : e ≠ it) (nf : e ∉ fp) (Sf : S ∉ fp) (Se : S ≠ e) (Si : S ≠ it) (hn : n ≤ sizeLine) (lS : S < b0) (li : it < b0) (le : e < b0)
    (hR : ∀ h' tk c, (∀ b o, b ≠ S → b ≠ e → b ≠ it → h₁.get? b = some o → h'.get? b = some o) → h'.get? S = some (lstO (refsR b0 n).toArray c) → Laid P b0 n h' → R (.ok (.ret res)) { s with heap := h', toks := tk }) :
    ∀ (k i : Nat) (h : Heap) (tk c : Nat), n - i = k → i ≤ n → EnS h e it i → St i h → h.objs.size = b0 + i → (∀ b o, b ≠ S → b ≠ e → b ≠ it → h₁.get? b = some o → h.get? b = some o) → h.get? S = some (lstO (refsR b0 i).toArray c) → Laid P b0 i h →
      codeAny (model prog w) A (.builtin "list.extend.loop" ⟨[.ref S, .ref e, res], []⟩) R { s with heap := h, toks := tk } := by
  have nS : ∀ j : Nat, (b0 + j : Nat) ≠ S := fun j => Nat.ne_of_gt (Nat.lt_of_lt_of_le lS (Nat.le_add_right _ _))
  have nE : ∀ j : Nat, (b0 + j : Nat) ≠ e := fun j => Nat.ne_of_gt (Nat.lt_of_lt_of_le le (Nat.le_add_right _ _))
  have nI : ∀ j : Nat, (b0 + j : Nat) ≠ it := fun j => Nat.ne_of_gt (Nat.lt_of_lt_of_le li (Nat.le_add_right _ _))
  intro k
  induction k with
  | zero =>
    intro i h tk c hk hi he st sz kp hS la
    have : i = n := by omega
    subst this
    refine codeAny_builtin PySem.F.entry_extend_loop ?_
    rw [Around.under_plainId PySem.F.plain_extend_loop _]
    unfold Builtin.«list.extend.loop»
    refine wpAny_bind (en_end (s := { s with heap := h, toks := tk }) D he st fun h' eb => wpAny_pure (hR h' tk c (fun b o x1 x2 x3 z => eb b o x3 (kp b o x1 x2 x3 z)) (eb S _ Si hS) fun j hj => ?_))
    obtain ⟨t, x, z, p⟩ := la j hj
    exact ⟨t, x, eb _ _ (nI j) z, p⟩
  | succ k ih =>
    intro i h tk c hk hi he st sz kp hS la
    have lt : i < n := by omega
    refine codeAny_builtin PySem.F.entry_extend_loop ?_
    rw [Around.under_plainId PySem.F.plain_extend_loop _]
    unfold Builtin.«list.extend.loop»
    refine wpAny_bind (en_item (s := { s with heap := h, toks := tk }) D he st lt ne nf (by show it < h.objs.size; rw [sz]; exact Nat.lt_of_lt_of_le li (Nat.le_add_right _ _)) fun x h' px he' st' T' z' k' => ?_)
    have T2 : h'.get? (b0 + i) = some (tupO i tk x) := by rw [← sz]; exact T'
    have z2 : h'.objs.size = b0 + i + 1 := by rw [z']; show h.objs.size + 1 = _; rw [sz]
    have S2 := k' S _ Se Si hS
    have up : Heap.SameBut S h' (h'.update S (Obj.mapSeq (·.push (.ref (b0 + i))))) := Heap.SameBut.update ..
    have S3 := Heap.get?_update_self (Obj.mapSeq (·.push (Value.ref (b0 + i)))) S2 rfl
    have szr : (refsR b0 i).toArray.size = i := by simp [refsR]
    show wpAny _ A.in1 (updateSeq S (·.push (.ref h.objs.size)) >>= fun _ => _) _ _ _
    rw [sz]
    refine wpAny_bind (wpAny_updateSeq S2 rfl (wpAny_pure ⟨plainId_quiet PySem.F.plain_extend_loop _, ih (i + 1) _ _ (if ((refsR b0 i).toArray.push (Value.ref (b0 + i))).size == (refsR b0 i).toArray.size then c else c + 1) (by omega) lt ?_ ?_ ?_ ?_ ?_ ?_⟩) (by rw [szr]; omega) (by show ((refsR b0 i).toArray.push _).size ≤ sizeLine + 1; rw [Array.size_push, szr]; omega))
    · rcases he' with ⟨old, z⟩ | ⟨old, T, f, o, z, y1, y2, y3, y4⟩
      · exact .inl ⟨old, up.extBut _ _ (Ne.symm Se) z⟩
      · refine .inr ⟨old, T, f, o, up.extBut _ _ (Ne.symm Se) z, up.extBut _ _ (fun q => ?_) y1, y2, y3, y4⟩
        rw [q, S2] at y1
        cases y1
        exact absurd y4 (by show ¬ Value.type "list" = Value.type "tuple"; decide)
    · exact D.fr _ _ _ st' fun b hb o z => up.extBut _ _ (fun q => Sf (q ▸ hb)) z
    · rw [up.1, z2]; omega
    · exact fun b o x1 x2 x3 z => up.extBut b o x1 (k' b o x2 x3 (kp b o x1 x2 x3 z))
    · have : (refsR b0 (i + 1)).toArray = (refsR b0 i).toArray.push (.ref (b0 + i)) := by rw [refsR_succ]; simp
      rw [this]; exact S3
    · intro j hj
      by_cases q : j = i
      · subst q
        exact ⟨tk, x, up.extBut _ _ (nS _) T2, px⟩
      · obtain ⟨t, y, z, p⟩ := la j (by omega)
        exact ⟨t, y, up.extBut _ _ (nS _) (k' _ _ (nE _) (nI _) z), p⟩
end
end RS
namespace RS
open PySem PySem.Spec
abbrev en0 (it : Addr) : Obj := { cls := .type "enumerate", data := .fields #[.none, .bool false, .ref it, rawInt 0, .none, .none] }
theorem enew_meets {v : Value} {o : Obj} {H : Heap → Prop} (B : Begins v o H) :
    Meets (Builtin.«enumerate.__new__» ⟨[.type "enumerate", v], []⟩) (fun _ R s => H s.heap ∧ R (.ok (.ret (.ref (s.heap.push o).objs.size))) { s with heap := (s.heap.push o).push (en0 s.heap.objs.size) }) :=
  .of_wp fun prog w A R s h => by
    obtain ⟨hp, g, d, tk, os⟩ := s
    obtain ⟨h1, h⟩ := h
    have sub := sub_enumerate
    have go : ∀ {A' : Around} {E : Value → Shared → Prop} {Q : Value → Shared → Prop}, Q (.ref hp.objs.size) ⟨hp.push o, g, d, tk, os⟩ → wpAny (model prog w) A' (pyIter v) Q E ⟨hp, g, d, tk, os⟩ := fun q => B.iter prog w _ _ ⟨hp, g, d, tk, os⟩ _ h1 q
    wp_walk using go
    refine wpAny_stack_any fun st => wpAny_pure ?_
    split
    · rename_i c _ _ _ _ _
      cases (c == Value.type "enumerate")
      · wp_walk using go
        exact ⟨_, rfl, h⟩
      · wp_walk using go
        exact ⟨_, rfl, h⟩
    · wp_walk using go
      exact ⟨_, rfl, h⟩
section
variable {prog : Program} {w : World} {A : Around} {E : Value → Shared → Prop} {s : Shared}
theorem call_enumB {v : Value} {o : Obj} {H : Heap → Prop} {Q : Value → Shared → Prop} (B : Begins v o H) (h1 : H s.heap)
    (k : ∀ h', h'.get? (s.heap.objs.size + 1) = some (enO .none (.bool false) s.heap.objs.size (0 : Nat) .none) → h'.get? s.heap.objs.size = some o → h'.objs.size = s.heap.objs.size + 2 → (∀ b o, s.heap.get? b = some o → h'.get? b = some o) → Q (.ref (s.heap.objs.size + 1)) { s with heap := h' }) :
    wpAny (model prog w) A (call (.type "enumerate") [v]) Q E s := by
  refine callType_new F.called_enumerate (by decide) (F.typeCall_enumerate_1 _) (F.newCall_enumerate_1 _) (fun obj => F.args_object_init_2 obj _) F.entry_enumerate_new (enew_meets B) ⟨h1, ?_⟩
  have z : (s.heap.push o).objs.size = s.heap.objs.size + 1 := Heap.size_push ..
  show _ ∧ _
  rw [z]
  have he : ((s.heap.push o).push (en0 s.heap.objs.size)).get? (s.heap.objs.size + 1) = some (en0 s.heap.objs.size) := by
    have y := Heap.get?_push_size (s.heap.push o) (o := en0 s.heap.objs.size) rfl
    rw [z] at y
    exact y
  exact ⟨⟨_, he, rfl⟩, k _ he (Heap.get?_push_of_some _ (Heap.get?_push_size _ B.free)) (by rw [Heap.size_push, z]) fun b o x => Heap.get?_push_of_some _ (Heap.get?_push_of_some _ x)⟩
theorem en_no_len : typeLookup (.type "enumerate") "__len__" = pure none := am_miss_of_fast (by decide +kernel)
theorem en_no_hint : typeLookup (.type "enumerate") "__length_hint__" = pure none := am_miss_of_fast (by decide +kernel)
variable {e it : Addr} {fp : List Addr} {n : Nat} {P : Nat → Value → Prop} {St : Nat → Heap → Prop}
/-- list(e), e an enumerate that has not begun -/
theorem list_enum {Q : Value → Shared → Prop} (D : Dr prog w A.in1.in1.in1 it fp n P St) {old0 : Value} (he0 : s.heap.get? e = some (enO .none (.bool false) it (0 : Nat) old0)) (st : St 0 s.heap) (ne : e ≠ it) (nf : e ∉ fp) (hn : n ≤ sizeLine) (li : it < s.heap.objs.size) (lf : ∀ b ∈ fp, b < s.heap.objs.size)
    (k : ∀ h' tk c, (∀ b o, b ≠ e → b ≠ it → s.heap.get? b = some o → h'.get? b = some o) → h'.get? s.heap.objs.size = some (lstO (refsR (s.heap.objs.size + 1) n).toArray c) → Laid P (s.heap.objs.size + 1) n h' → Q (.ref s.heap.objs.size) { s with heap := h', toks := tk }) :
    wpAny (model prog w) A (call (.type "list") [.ref e]) Q E s := by
  have he : EnS s.heap e it (0 : Nat) := .inl ⟨_, he0⟩
  have le : e < s.heap.objs.size := Heap.lt_size he0
  refine callType_codes (Q₁ := fun obj z => obj = .ref s.heap.objs.size ∧ z = { s with heap := s.heap.push { cls := .type "list", data := .seq #[] } }) F.called_list (F.typeCall_list_1 _) F.entry_list_init (code_list_new _ ⟨rfl, rfl⟩) fun obj z hz => ?_
  obtain ⟨rfl, rfl⟩ := hz
  have hS : (s.heap.push (lstO #[] 0)).get? s.heap.objs.size = some (lstO #[] 0) := Heap.get?_push_size _ rfl
  have Se : s.heap.objs.size ≠ e := Nat.ne_of_gt le
  have Si : s.heap.objs.size ≠ it := Nat.ne_of_gt li
  have Sf : s.heap.objs.size ∉ fp := fun hm => Nat.lt_irrefl _ (lf _ hm)
  refine ⟨⟨_, hS, rfl⟩, F.args_list_init_2 _ _, ?_⟩
  have kp : ∀ (h : Heap), Heap.SameBut s.heap.objs.size (s.heap.push (lstO #[] 0)) h → EnS h e it (0 : Nat) ∧ St 0 h ∧ h.objs.size = s.heap.objs.size + 1 + 0 ∧ ∀ b o, b ≠ s.heap.objs.size → b ≠ e → b ≠ it → s.heap.get? b = some o → h.get? b = some o := fun h m => by
    have kk : ∀ b o, b ≠ s.heap.objs.size → s.heap.get? b = some o → h.get? b = some o := fun b o x z => m.extBut b o x (Heap.get?_push_of_some _ z)
    refine ⟨?_, D.fr _ _ _ st fun b hb o z => kk b o (fun q => Sf (q ▸ hb)) z, by rw [m.1, Heap.size_push], fun b o x _ _ z => kk b o x z⟩
    rcases he with ⟨old, z⟩ | ⟨old, T, f, o, z, y1, y2, y3, y4⟩
    · exact .inl ⟨old, kk _ _ (Ne.symm Se) z⟩
    · exact .inr ⟨old, T, f, o, kk _ _ (Ne.symm Se) z, kk _ _ (Nat.ne_of_lt (Heap.lt_size y1)) y1, y2, y3, y4⟩
  show wpAny _ A.in1.in1 (do let old ← Builtin.List.listItems (.ref s.heap.objs.size); Builtin.List.listUpdate (.ref s.heap.objs.size) (fun _ => #[]); letGo old.toList.reverse; Builtin.List.listExtendWith (.ref s.heap.objs.size) (.ref e) .none) _ _ _
  refine wpAny_bind ?_
  unfold Builtin.List.listItems
  refine wpAny_bind (wpAny_seqItems hS rfl (wpAny_pure ?_))
  show wpAny _ _ (updateSeq s.heap.objs.size (fun _ => #[]) >>= fun _ => _) _ _ _
  refine wpAny_bind (wpAny_updateSeq hS rfl ?_)
  have hS2 := Heap.get?_update_self (Obj.mapSeq (fun _ => (#[] : Array Value))) hS rfl
  refine wpAny_bind (wpAny_letGo ?_)
  unfold Builtin.List.listExtendWith
  obtain ⟨e2, s2, z2, k2⟩ := kp _ (Heap.SameBut.update ..)
  have ty2 := e2.ty
  refine wpAny_bind (wpAny_typeOf ty2 ?_)
  have h1 : Builtin.List.listSameRef (.ref s.heap.objs.size) (.ref e) = false := by simp [Builtin.List.listSameRef, Se]
  have h2 : (Value.type "enumerate" == Value.type "list") = false := by decide
  have h3 : (Value.type "enumerate" == Value.type "tuple") = false := by decide
  simp only [h1, h2, h3, Bool.or_false, Bool.false_eq_true, if_false]
  have e3 : ((s.heap.push (lstO #[] 0)).update s.heap.objs.size (Obj.mapSeq (fun _ => (#[] : Array Value)))).get? e = some (enO .none (.bool false) it (0 : Nat) old0) := (Heap.get?_update_other _ _ Se).trans (Heap.get?_push_of_some _ he0)
  refine wpAny_bind (wpAny_pyIter_enum e3 ?_)
  refine wpAny_bind (wpAny_holding ?_)
  unfold Builtin.List.listLengthHint
  refine wpAny_bind (wpAny_specialOf ty2 en_no_len ?_)
  show wpAny _ _ (specialOf (Value.ref e) (Str.ofString "__length_hint__") >>= _) _ _ _
  refine wpAny_bind (wpAny_specialOf ty2 en_no_hint ?_)
  refine wpAny_pure ?_
  rw [if_pos (by rfl)]
  refine wpAny_bind (wpAny_rule ?_)
  show wpAny _ _ ((updateSeq s.heap.objs.size (·.push .none) >>= fun _ => updateSeq s.heap.objs.size (·.pop)) >>= fun _ => _) _ _ _
  refine wpAny_bind (wpAny_bind (wpAny_updateSeq hS2 rfl ?_))
  have hS3 := Heap.get?_update_self (Obj.mapSeq (·.push Value.none)) hS2 rfl
  refine wpAny_updateSeq (hz := by seq_fits) hS3 rfl ?_
  have hS4 := Heap.get?_update_self (Obj.mapSeq (·.pop)) hS3 rfl
  refine wpAny_pure ⟨plainId_quiet PySem.F.plain_extend_loop _, ?_⟩
  have m : Heap.SameBut s.heap.objs.size (s.heap.push (lstO #[] 0)) ((((s.heap.push (lstO #[] 0)).update s.heap.objs.size (Obj.mapSeq (fun _ => (#[] : Array Value)))).update s.heap.objs.size (Obj.mapSeq (·.push Value.none))).update s.heap.objs.size (Obj.mapSeq (·.pop))) := by
    have a1 : Heap.SameBut s.heap.objs.size _ _ := Heap.SameBut.update (h := s.heap.push (lstO #[] 0)) (a := s.heap.objs.size) (f := Obj.mapSeq (fun _ => (#[] : Array Value)))
    have a2 : Heap.SameBut s.heap.objs.size _ _ := Heap.SameBut.update (h := (s.heap.push (lstO #[] 0)).update s.heap.objs.size (Obj.mapSeq (fun _ => (#[] : Array Value)))) (a := s.heap.objs.size) (f := Obj.mapSeq (·.push Value.none))
    have a3 : Heap.SameBut s.heap.objs.size _ _ := Heap.SameBut.update (h := ((s.heap.push (lstO #[] 0)).update s.heap.objs.size (Obj.mapSeq (fun _ => (#[] : Array Value)))).update s.heap.objs.size (Obj.mapSeq (·.push Value.none))) (a := s.heap.objs.size) (f := Obj.mapSeq (·.pop))
    exact ⟨a3.1.trans (a2.1.trans a1.1), fun b hb => (a3.2 b hb).trans ((a2.2 b hb).trans (a1.2 b hb))⟩
  obtain ⟨e5, s5, z5, k5⟩ := kp _ m
  exact en_loop (s := s) (h₁ := s.heap) (A := A.in1) D ne nf Sf Se Si hn (Nat.lt_succ_self _) (Nat.lt_succ_of_lt li) (Nat.lt_succ_of_lt le) (fun h' tk c y1 y2 y3 => ⟨rfl, k h' tk c (fun b o x1 x2 z => y1 b o (Nat.ne_of_lt (Heap.lt_size z)) x1 x2 z) y2 y3⟩) n 0 _ s.toks _ (Nat.sub_zero _) (Nat.zero_le _) e5 s5 z5 k5 hS4 fun j hj => absurd hj (Nat.not_lt_zero _)
end
end RS
namespace RS
open PySem PySem.Spec L2 PyProof.Rows
/-- the list at S and the pairs behind it, tracked -/
def enH (H : Hp) (S : Addr) (b0 : Nat) (xs : List V) : Hp := fun b =>
  if b = S then some (.lst ((List.range xs.length).map fun j => V.ref (b0 + j)))
  else if b0 ≤ b then (match xs[b - b0]? with | some x => some (.tup [.int ((b - b0 : Nat) : Int), x]) | none => H b) else H b
theorem enH_S {H : Hp} {S : Addr} {b0 : Nat} {xs : List V} : enH H S b0 xs S = some (.lst ((List.range xs.length).map fun j => V.ref (b0 + j))) := by simp [enH]
theorem enH_at {H : Hp} {S : Addr} {b0 : Nat} {xs : List V} {j : Nat} {x : V} (hS : S < b0) (h : xs[j]? = some x) : enH H S b0 xs (b0 + j) = some (.tup [.int (j : Nat), x]) := by
  unfold enH
  rw [if_neg (Nat.ne_of_gt (Nat.lt_of_lt_of_le hS (Nat.le_add_right _ _))), if_pos (Nat.le_add_right _ _)]
  have e : b0 + j - b0 = j := by omega
  rw [e, h]
theorem enH_lo {H : Hp} {S : Addr} {b0 : Nat} {xs : List V} {b : Addr} (h1 : b ≠ S) (h2 : b < b0) : enH H S b0 xs b = H b := by
  unfold enH
  rw [if_neg h1, if_neg (Nat.not_le.mpr h2)]
/-- list(enumerate(x)) -/
def tListEnum (K : PySem.W.Frag) (ta : TA) : TE := fun σ H Q => ta σ H fun vs H1 => ∃ a xs, vs = [.ref a] ∧ (SqL K H1 a xs ∨ SqT K H1 a xs) ∧
  ∀ (p : Addr) (ts : List Addr) (H' : Hp), Same H1 H' → H1 p = none → H' p = some (.lst (ts.map V.ref)) → ts.length = xs.length → (∀ (j : Nat) (x : V), xs[j]? = some x → ∃ t, ts[j]? = some t ∧ H1 t = none ∧ H' t = some (.tup [.int (j : Nat), x])) → Q (.ref p) H'
section
variable {X : Cx} {K : PySem.W.Frag} {e : Expr} {ta : TA} {p p2 pos pos2 : Pos}
theorem en_laid {pins : List (Addr × Obj)} {σ : L2.St} {H : Hp} {s : Shared} {Q : VK} {h' : Heap} {tk c : Nat} {xs : List V} {its : List Value} {q : Nat} (I : Inv X pins σ H s) (r : Vals xs its) (hz : xs.length ≤ sizeLine) (lo : s.heap.objs.size ≤ q)
    (kp : ∀ b o, s.heap.get? b = some o → h'.get? b = some o) (hS : h'.get? q = some (lstO (refsR (q + 1) its.toArray.size).toArray c)) (la : Laid (fun i v => its.toArray[i]? = some v) (q + 1) its.toArray.size h')
    (k : ∀ (p : Addr) (ts : List Addr) (H' : Hp), Same H H' → H p = none → H' p = some (.lst (ts.map V.ref)) → ts.length = xs.length → (∀ (j : Nat) (x : V), xs[j]? = some x → ∃ t, ts[j]? = some t ∧ H t = none ∧ H' t = some (.tup [.int (j : Nat), x])) → Q (.ref p) H') :
    EP X pins σ Q (.ref q) { s with heap := h', toks := tk } := by
  have ln := r.length
  have fr : ∀ b : Nat, s.heap.objs.size ≤ b → H b = none := fun b hb => I.hok.fresh hb
  have lt : ∀ b o, H b = some o → b < q := fun b o z => by
    rcases Nat.lt_or_ge b s.heap.objs.size with y | y
    · exact Nat.lt_of_lt_of_le y lo
    · rw [fr b y] at z; cases z
  have ltH : ∀ b o, s.heap.get? b = some o → b < q := fun b o z => Nat.lt_of_lt_of_le (Heap.lt_size z) lo
  have sm : Same H (enH H q (q + 1) xs) := fun b o z => by rw [enH_lo (Nat.ne_of_lt (lt b o z)) (Nat.lt_succ_of_lt (lt b o z))]; exact z
  have szits : its.toArray.size = xs.length := by simp; omega
  have J : Inv X pins σ (enH H q (q + 1) xs) { s with heap := h', toks := tk } := by
    have U : Un X.fs [] H (enH H q (q + 1) xs) s.heap h' := {
      keep := fun b o z _ _ _ => kp b o z
      slot := fun b o z _ _ _ => ⟨o.slots, kp b o z⟩
      free := fun b o z n _ => by rw [enH_lo (Nat.ne_of_lt (ltH b o z)) (Nat.lt_succ_of_lt (ltH b o z))]; exact n
      there := fun b o z _ => ⟨o, kp b o z⟩
      tups := fun b ys z => sm _ _ z
      frzs := fun b o v z => sm _ _ z
      tbls := fun b ps z => ⟨#[], by rw [sm _ _ z]; simp⟩ }
    refine I.un (t' := tk) U fun b z hb => ?_
    by_cases h1 : b = q
    · subst h1
      rw [enH_S] at hb
      cases hb
      refine ⟨by rw [List.length_map, List.length_range]; exact hz, refsR (b + 1) its.toArray.size, c, ?_, hS⟩
      rw [szits]
      show Vals _ ((List.range xs.length).map _)
      generalize List.range xs.length = l
      induction l with
      | nil => exact .nil
      | cons a l ih => exact .cons rfl ih
    · by_cases h2 : q + 1 ≤ b
      · obtain ⟨j, rfl⟩ : ∃ j, b = q + 1 + j := ⟨b - (q + 1), (Nat.add_sub_cancel' h2).symm⟩
        cases hx : xs[j]? with
        | none =>
          unfold enH at hb
          rw [if_neg h1, if_pos h2] at hb
          have ej : q + 1 + j - (q + 1) = j := by omega
          rw [ej, hx] at hb
          rw [fr _ (by omega)] at hb
          cases hb
        | some x =>
          rw [enH_at (Nat.lt_succ_self _) hx] at hb
          cases hb
          have jl : j < xs.length := (List.getElem?_eq_some_iff.mp hx).1
          obtain ⟨t, u, hT, pu⟩ := la j (by rw [szits]; exact jl)
          obtain ⟨u', hu', ru⟩ := r.get hx
          have : u = u' := by simp only [List.getElem?_toArray] at pu; rw [hu'] at pu; exact (Option.some.inj pu).symm
          subst this
          exact ⟨by show 2 ≤ sizeLine; decide, [.int (j : Nat) t, u], .cons ⟨_, rfl⟩ (.cons ru .nil), ⟨_, hT, rfl, _, rfl⟩⟩
      · rw [enH_lo h1 (Nat.lt_of_not_le h2)] at hb
        exact (I.hok b z hb).stay (fun y v _ w' => kp y v w') (fun y hy => sm _ _ hy) fun y ys hy => sm _ _ hy
  refine ⟨.ref q, _, J, rfl, k q ((List.range xs.length).map fun j => q + 1 + j) _ sm (fr q lo) ?_ (by simp) fun j x hx => ?_⟩
  · rw [enH_S, List.map_map]; rfl
  · have jl : j < xs.length := (List.getElem?_eq_some_iff.mp hx).1
    exact ⟨q + 1 + j, by simp [jl], fr _ (by omega), enH_at (Nat.lt_succ_self _) hx⟩
theorem pe_listEnum (hm : X.mg "list" = none) (hm2 : X.mg "enumerate" = none) (ha : PA X [e] ta) (hc : X.calm = true := by rfl) (hg : Gl X "list" := by rfl) (hg2 : Gl X "enumerate" := by rfl) (hs2 : starEach [e] X.env = [(false, eval e X.env)] := by rfl)
    (hs : starEach [.Call (.Name "enumerate" p2) [e] [] pos2] X.env = (false, eval (.Call (.Name "enumerate" p2) [e] [] pos2) X.env) :: starEach [] X.env := by rfl) (hK : X.K = K := by rfl) :
    PE X (.Call (.Name "list" p) [.Call (.Name "enumerate" p2) [e] [] pos2] [] pos) (tListEnum K ta) := by
  subst hK
  refine ⟨fun pins s σ H Q I hq => ?_⟩
  refine wpAny_Call_Name_kw (ld_blt I hg hm bb_list ?_)
  refine PyProof.Rows.callWith_type1 ?_ hs rfl
  rw [hs]
  refine Calls.spliced_cons ?_
  refine Call_ (ld_blt I hg2 hm2 boot_enumerate (PyProof.Rows.callWith_type1 (thn (ha.run pos2 pins s σ H _ I hq) fun us s1 ⟨vs, H1, I1, r1, q1⟩ => ?_) hs2 rfl))
  obtain ⟨a, xs, rfl, hx, k⟩ := q1
  obtain ⟨u, rfl, ru⟩ := vals1 r1
  cases ru
  rcases hx with hx | hx
  · obtain ⟨its, rv, pl, hz⟩ := I1.list hx
    have hl := pl.isList
    have la : a < s1.heap.objs.size := by obtain ⟨o, z, _⟩ := hl; exact Heap.lt_size z
    refine call_enumB (begins_list a its.toArray) hl fun h' he hi z kp => Calls.spliced_nil ?_
    have al : a ≠ s1.heap.objs.size := Nat.ne_of_lt la
    refine list_enum (s := { s1 with heap := h' }) (dr_list (A := X.A.in1.in1.in1) (I.ok.hd hc) s1.heap.objs.size a al its.toArray) he ⟨⟨_, hi, rfl, rfl⟩, hl.at fun o x => kp _ _ x⟩ (Nat.succ_ne_self _) ?_ (by simp; have := rv.length; omega) ?_ ?_ fun h'' tk c kp2 hS la2 => ?_
    · simp only [List.mem_cons, List.not_mem_nil, or_false, not_or]
      exact ⟨Nat.succ_ne_self _, Nat.ne_of_gt (Nat.lt_succ_of_lt la)⟩
    · show s1.heap.objs.size < h'.objs.size; rw [z]; omega
    · intro b hb
      simp only [List.mem_cons, List.not_mem_nil, or_false] at hb
      show b < h'.objs.size
      rw [z]
      rcases hb with rfl | rfl
      · exact Nat.lt_succ_of_lt (Nat.lt_succ_self _)
      · exact Nat.lt_succ_of_lt (Nat.lt_succ_of_lt la)
    · have z' : h'.objs.size = s1.heap.objs.size + 2 := z
      exact en_laid (s := s1) (h' := h'') (tk := tk) (c := c) (q := h'.objs.size) I1 rv hz (by rw [z']; omega) (fun b o y => kp2 b o (Nat.ne_of_lt (Nat.lt_succ_of_lt (Heap.lt_size y))) (Nat.ne_of_lt (Heap.lt_size y)) (kp b o y)) hS la2 k
  · obtain ⟨its, rv, pl, hz⟩ := I1.tuple hx
    have hl : s1.heap.IsTuple a its.toArray := pl
    have la : a < s1.heap.objs.size := by obtain ⟨o, z, _⟩ := hl; exact Heap.lt_size z
    refine call_enumB (begins_tuple a its.toArray) hl fun h' he hi z kp => Calls.spliced_nil ?_
    have al : a ≠ s1.heap.objs.size := Nat.ne_of_lt la
    refine list_enum (s := { s1 with heap := h' }) (dr_tup (A := X.A.in1.in1.in1) (I.ok.hd hc) s1.heap.objs.size a al its.toArray) he ⟨⟨_, hi, rfl, rfl⟩, hl.at fun o x => kp _ _ x⟩ (Nat.succ_ne_self _) ?_ (by simp; have := rv.length; omega) ?_ ?_ fun h'' tk c kp2 hS la2 => ?_
    · simp only [List.mem_cons, List.not_mem_nil, or_false, not_or]
      exact ⟨Nat.succ_ne_self _, Nat.ne_of_gt (Nat.lt_succ_of_lt la)⟩
    · show s1.heap.objs.size < h'.objs.size; rw [z]; omega
    · intro b hb
      simp only [List.mem_cons, List.not_mem_nil, or_false] at hb
      show b < h'.objs.size
      rw [z]
      rcases hb with rfl | rfl
      · exact Nat.lt_succ_of_lt (Nat.lt_succ_self _)
      · exact Nat.lt_succ_of_lt (Nat.lt_succ_of_lt la)
    · have z' : h'.objs.size = s1.heap.objs.size + 2 := z
      exact en_laid (s := s1) (h' := h'') (tk := tk) (c := c) (q := h'.objs.size) I1 rv hz (by rw [z']; omega) (fun b o y => kp2 b o (Nat.ne_of_lt (Nat.lt_succ_of_lt (Heap.lt_size y))) (Nat.ne_of_lt (Heap.lt_size y)) (kp b o y)) hS la2 k
end
end RS
namespace RS
open PySem PySem.Spec L2
mutual
inductive Tr (H : Hp) : V → PyData → List Addr → Prop
  | non : Tr H .non .none []
  | bl (b : Bool) : Tr H (.bl b) (.bool b) []
  | int (i : Int) : Tr H (.int i) (.int i) []
  | str (x : Str) : Tr H (.str x) (.str x) []
  | lst {a : Addr} {xs : List V} {ds : List PyData} {fp : List Addr} (h : H a = some (.lst xs)) (hs : TrL H xs ds fp) (na : a ∉ fp) : Tr H (.ref a) (.list ds) (a :: fp)
  | tup {a : Addr} {xs : List V} {ds : List PyData} {fp : List Addr} (h : H a = some (.tup xs)) (hs : TrL H xs ds fp) : Tr H (.ref a) (.tuple ds) fp
  | dct {a : Addr} {kvs : List (Key × V)} {D : List (PyData × PyData)} {fp : List Addr} (h : H a = some (.dK kvs)) (hs : TrD H kvs D fp) (na : a ∉ fp) (nd : (kvs.map (·.1)).Nodup) : Tr H (.ref a) (.dict D) (a :: fp)
inductive TrL (H : Hp) : List V → List PyData → List Addr → Prop
  | nil : TrL H [] [] []
  | cons {v : V} {vs : List V} {d : PyData} {ds : List PyData} {f1 f2 : List Addr} (h : Tr H v d f1) (hs : TrL H vs ds f2) : TrL H (v :: vs) (d :: ds) (f1 ++ f2)
inductive TrD (H : Hp) : List (Key × V) → List (PyData × PyData) → List Addr → Prop
  | nil : TrD H [] [] []
  | cons {x : Str} {v : V} {kvs : List (Key × V)} {d : PyData} {D : List (PyData × PyData)} {f1 f2 : List Addr} (h : Tr H v d f1) (hs : TrD H kvs D f2) : TrD H ((.inr x, v) :: kvs) ((.str x, d) :: D) (f1 ++ f2)
end
mutual
theorem Tr.keep {H H' : Hp} {S : Addr → Prop} (hS : ∀ c, S c → ∀ xs, H c ≠ some (.tup xs)) (hk : ∀ c o, ¬ S c → H c = some o → H' c = some o) : ∀ {v : V} {d : PyData} {fp : List Addr}, Tr H v d fp → (∀ c ∈ fp, ¬ S c) → Tr H' v d fp
  | _, _, _, .non, _ => .non
  | _, _, _, .bl b, _ => .bl b
  | _, _, _, .int i, _ => .int i
  | _, _, _, .str x, _ => .str x
  | _, _, _, .lst h hs na, f => .lst (hk _ _ (f _ (List.mem_cons_self ..)) h) (hs.keep hS hk fun c hc => f c (List.mem_cons_of_mem _ hc)) na
  | _, _, _, .tup h hs, f => .tup (hk _ _ (fun z => hS _ z _ h) h) (hs.keep hS hk f)
  | _, _, _, .dct h hs na nd, f => .dct (hk _ _ (f _ (List.mem_cons_self ..)) h) (hs.keep hS hk fun c hc => f c (List.mem_cons_of_mem _ hc)) na nd
theorem TrL.keep {H H' : Hp} {S : Addr → Prop} (hS : ∀ c, S c → ∀ xs, H c ≠ some (.tup xs)) (hk : ∀ c o, ¬ S c → H c = some o → H' c = some o) : ∀ {vs : List V} {ds : List PyData} {fp : List Addr}, TrL H vs ds fp → (∀ c ∈ fp, ¬ S c) → TrL H' vs ds fp
  | _, _, _, .nil, _ => .nil
  | _, _, _, .cons h hs, f => .cons (h.keep hS hk fun c hc => f c (List.mem_append_left _ hc)) (hs.keep hS hk fun c hc => f c (List.mem_append_right _ hc))
theorem TrD.keep {H H' : Hp} {S : Addr → Prop} (hS : ∀ c, S c → ∀ xs, H c ≠ some (.tup xs)) (hk : ∀ c o, ¬ S c → H c = some o → H' c = some o) : ∀ {kvs : List (Key × V)} {D : List (PyData × PyData)} {fp : List Addr}, TrD H kvs D fp → (∀ c ∈ fp, ¬ S c) → TrD H' kvs D fp
  | _, _, _, .nil, _ => .nil
  | _, _, _, .cons h hs, f => .cons (h.keep hS hk fun c hc => f c (List.mem_append_left _ hc)) (hs.keep hS hk fun c hc => f c (List.mem_append_right _ hc))
end
theorem Tr.same {H H' : Hp} (s : Same H H') {v : V} {d : PyData} {fp : List Addr} (h : Tr H v d fp) : Tr H' v d fp := h.keep (S := fun _ => False) (fun _ z => z.elim) (fun c o _ z => s c o z) fun _ _ z => z
theorem TrL.same {H H' : Hp} (s : Same H H') {v : List V} {d : List PyData} {fp : List Addr} (h : TrL H v d fp) : TrL H' v d fp := h.keep (S := fun _ => False) (fun _ z => z.elim) (fun c o _ z => s c o z) fun _ _ z => z
theorem TrD.same {H H' : Hp} (s : Same H H') {v : List (Key × V)} {d : List (PyData × PyData)} {fp : List Addr} (h : TrD H v d fp) : TrD H' v d fp := h.keep (S := fun _ => False) (fun _ z => z.elim) (fun c o _ z => s c o z) fun _ _ z => z
/-- one place alone changes -/
theorem keep_one {H H' : Hp} {p : Addr} (n : ∀ xs, H p ≠ some (.tup xs)) (k : ∀ c o, c ≠ p → H c = some o → H' c = some o) : (∀ c, c = p → ∀ xs, H c ≠ some (.tup xs)) ∧ ∀ c o, ¬ c = p → H c = some o → H' c = some o := ⟨fun c e => by subst e; exact n, k⟩
theorem Tr.but {H H' : Hp} {p : Addr} {v : V} {d : PyData} {fp : List Addr} (h : Tr H v d fp) (n : ∀ xs, H p ≠ some (.tup xs)) (k : ∀ c o, c ≠ p → H c = some o → H' c = some o) (np : p ∉ fp) : Tr H' v d fp :=
  h.keep (S := fun c => c = p) (keep_one n k).1 k fun c hc e => np (e ▸ hc)
theorem TrL.but {H H' : Hp} {p : Addr} {v : List V} {d : List PyData} {fp : List Addr} (h : TrL H v d fp) (n : ∀ xs, H p ≠ some (.tup xs)) (k : ∀ c o, c ≠ p → H c = some o → H' c = some o) (np : p ∉ fp) : TrL H' v d fp :=
  h.keep (S := fun c => c = p) (keep_one n k).1 k fun c hc e => np (e ▸ hc)
theorem TrD.but {H H' : Hp} {p : Addr} {v : List (Key × V)} {d : List (PyData × PyData)} {fp : List Addr} (h : TrD H v d fp) (n : ∀ xs, H p ≠ some (.tup xs)) (k : ∀ c o, c ≠ p → H c = some o → H' c = some o) (np : p ∉ fp) : TrD H' v d fp :=
  h.keep (S := fun c => c = p) (keep_one n k).1 k fun c hc e => np (e ▸ hc)
mutual
theorem Tr.there {H : Hp} : ∀ {v : V} {d : PyData} {fp : List Addr}, Tr H v d fp → ∀ c ∈ fp, (∃ xs, H c = some (.lst xs)) ∨ ∃ kvs, H c = some (.dK kvs)
  | _, _, _, .non, _, h => by cases h
  | _, _, _, .bl _, _, h => by cases h
  | _, _, _, .int _, _, h => by cases h
  | _, _, _, .str _, _, h => by cases h
  | _, _, _, .lst h hs _, c, m => (List.mem_cons.mp m).elim (fun e => .inl ⟨_, e ▸ h⟩) (hs.there c)
  | _, _, _, .tup h hs, c, m => hs.there c m
  | _, _, _, .dct h hs _ _, c, m => (List.mem_cons.mp m).elim (fun e => .inr ⟨_, e ▸ h⟩) (hs.there c)
theorem TrL.there {H : Hp} : ∀ {vs : List V} {ds : List PyData} {fp : List Addr}, TrL H vs ds fp → ∀ c ∈ fp, (∃ xs, H c = some (.lst xs)) ∨ ∃ kvs, H c = some (.dK kvs)
  | _, _, _, .nil, _, h => by cases h
  | _, _, _, .cons h hs, c, m => (List.mem_append.mp m).elim (h.there c) (hs.there c)
theorem TrD.there {H : Hp} : ∀ {kvs : List (Key × V)} {D : List (PyData × PyData)} {fp : List Addr}, TrD H kvs D fp → ∀ c ∈ fp, (∃ xs, H c = some (.lst xs)) ∨ ∃ kvs, H c = some (.dK kvs)
  | _, _, _, .nil, _, h => by cases h
  | _, _, _, .cons h hs, c, m => (List.mem_append.mp m).elim (h.there c) (hs.there c)
end
mutual
theorem Tr.dp {K : PySem.W.Frag} {H : Hp} : ∀ {v : V} {d : PyData} {fp : List Addr}, Tr H v d fp → DpX K H v d
  | _, _, _, .non => .non
  | _, _, _, .bl b => .bl b
  | _, _, _, .int i => .int i
  | _, _, _, .str x => .str x
  | _, _, _, .lst h hs _ => .lst (SqL.of h) hs.dp
  | _, _, _, .tup h hs => .tup (SqT.of h) hs.dp
  | _, _, _, .dct h hs _ _ => .dct h hs.dp
theorem TrL.dp {K : PySem.W.Frag} {H : Hp} : ∀ {vs : List V} {ds : List PyData} {fp : List Addr}, TrL H vs ds fp → DpXs K H vs ds
  | _, _, _, .nil => .nil
  | _, _, _, .cons h hs => .cons h.dp hs.dp
theorem TrD.dp {K : PySem.W.Frag} {H : Hp} : ∀ {kvs : List (Key × V)} {D : List (PyData × PyData)} {fp : List Addr}, TrD H kvs D fp → DpXd K H kvs D
  | _, _, _, .nil => .nil
  | _, _, _, .cons h hs => .cons (k := .inr _) h.dp hs.dp
end
theorem TrL.len {H : Hp} : ∀ {vs : List V} {ds : List PyData} {fp : List Addr}, TrL H vs ds fp → vs.length = ds.length
  | _, _, _, .nil => rfl
  | _, _, _, .cons _ hs => by simp [hs.len]
theorem TrD.len {H : Hp} : ∀ {vs : List (Key × V)} {ds : List (PyData × PyData)} {fp : List Addr}, TrD H vs ds fp → vs.length = ds.length
  | _, _, _, .nil => rfl
  | _, _, _, .cons _ hs => by simp [hs.len]
theorem TrL.get {H : Hp} : ∀ {vs : List V} {ds : List PyData} {fp : List Addr}, TrL H vs ds fp → ∀ {i : Nat}, i < vs.length → ∃ v d f, vs[i]? = some v ∧ ds[i]? = some d ∧ Tr H v d f ∧ ∀ c ∈ f, c ∈ fp
  | _, _, _, .cons h _, 0, _ => ⟨_, _, _, rfl, rfl, h, fun c hc => List.mem_append_left _ hc⟩
  | _, _, _, .cons _ hs, i + 1, l => by
    obtain ⟨v, d, f, h1, h2, h3, h4⟩ := hs.get (i := i) (by simpa using l)
    exact ⟨v, d, f, by simpa using h1, by simpa using h2, h3, fun c hc => List.mem_append_right _ (h4 c hc)⟩
theorem TrD.get {H : Hp} : ∀ {vs : List (Key × V)} {ds : List (PyData × PyData)} {fp : List Addr}, TrD H vs ds fp → ∀ {i : Nat}, i < vs.length → ∃ x v d f, vs[i]? = some (.inr x, v) ∧ ds[i]? = some (.str x, d) ∧ Tr H v d f ∧ ∀ c ∈ f, c ∈ fp
  | _, _, _, .cons h _, 0, _ => ⟨_, _, _, _, rfl, rfl, h, fun c hc => List.mem_append_left _ hc⟩
  | _, _, _, .cons _ hs, i + 1, l => by
    obtain ⟨x, v, d, f, h1, h2, h3, h4⟩ := hs.get (i := i) (by simpa using l)
    exact ⟨x, v, d, f, by simpa using h1, by simpa using h2, h3, fun c hc => List.mem_append_right _ (h4 c hc)⟩
/-- a key's own value -/
theorem valV_at : ∀ {kvs : List (Key × V)} {i : Nat} {k : Key} {v : V}, (kvs.map (·.1)).Nodup → kvs[i]? = some (k, v) → valV kvs k = some v
  | (k', v') :: r, 0, k, v, nd, h => by
    cases h
    rw [vv_cons, if_pos rfl]
  | (k', v') :: r, i + 1, k, v, nd, h => by
    have h' : r[i]? = some (k, v) := by simpa using h
    have nd' := List.nodup_cons.mp nd
    have ne : k' ≠ k := fun e => nd'.1 (by
      have := List.mem_of_getElem? h'
      rw [e]
      exact List.mem_map.mpr ⟨_, this, rfl⟩)
    rw [vv_cons, if_neg ne]
    exact valV_at nd'.2 h'
  | [], _, _, _, _, h => by simp at h
theorem depth_all {ds : List PyData} : ∀ {d : PyData} {i : Nat}, ds[i]? = some d → d.depth ≤ PyData.depthAll ds := by
  induction ds with
  | nil => intro d i h; simp at h
  | cons x xs ih =>
    intro d i h
    cases i with
    | zero => cases h; simp only [PyData.depthAll]; omega
    | succ i => have := ih (by simpa using h); simp only [PyData.depthAll]; omega
theorem depth_kv {D : List (PyData × PyData)} : ∀ {k d : PyData} {i : Nat}, D[i]? = some (k, d) → d.depth ≤ PyData.depthKv D := by
  induction D with
  | nil => intro k d i h; simp at h
  | cons x xs ih =>
    obtain ⟨x1, x2⟩ := x
    intro k d i h
    cases i with
    | zero => cases h; simp only [PyData.depthKv]; omega
    | succ i => have := ih (by simpa using h); simp only [PyData.depthKv]; omega
end RS
namespace RS
open PySem PySem.Spec L2
section
variable {X : Cx}
def rIsT (Ts : List String) : List V → Hp → VK → Prop := fun xs H Q => match xs with
  | [x, .ref tp] => H tp = some (.tup (Ts.map V.ty)) ∧ ∃ t, tyN x H = some t ∧ Q (.bl (Ts.any (isB t))) H
  | _ => False
theorem clsV_tys : ∀ Ts : List String, Paired ClsV (Ts.map V.ty) (Ts.map Value.type)
  | [] => .nil
  | T :: Ts => .cons (.ty T) (clsV_tys Ts)
theorem kitAny_tys {K : PySem.W.Frag} {t : String} (m : t ∈ ["NoneType", "bool", "int", "str", "list", "tuple", "dict"]) : ∀ {Ts : List String}, (∀ T ∈ Ts, T ∈ ["bool", "int", "str", "list", "tuple", "dict", "float"]) → PySem.W.kitAny K (.type t) (Ts.map Value.type) = some (Ts.any (isB t))
  | [], _ => rfl
  | T :: Ts, h => by
    have e1 : PySem.W.kitOne K (.type t) (.type T) = some (isB t T) := kit_ty (kitB_tab t m T (h T (List.mem_cons_self ..)))
    have e2 := kitAny_tys (K := K) m fun T' hT => h T' (List.mem_cons_of_mem _ hT)
    show PySem.W.kitAny K (.type t) (.type T :: Ts.map Value.type) = _
    unfold PySem.W.kitAny
    rw [e1]
    cases hb : isB t T with
    | true => simp [hb]
    | false => simp only [List.any_cons, hb, Bool.false_or]; exact e2
theorem c_isT (Ts : List String) (hT : ∀ T ∈ Ts, T ∈ ["bool", "int", "str", "list", "tuple", "dict", "float"] := by decide) : CallR X (.builtin "isinstance") (rIsT Ts) := by
  intro pins s σ H xs us Q I r h
  unfold rIsT at h
  split at h
  · obtain ⟨h1, t, ht, q⟩ := h
    obtain ⟨ty, m⟩ := tyN_tyX (K := X.K) ht
    exact call_isiT pins s σ H _ us Q I r ⟨_, _, _, _, _, _, rfl, h1, clsV_tys Ts, ty, kitAny_tys m hT, q⟩
  · exact h.elim
theorem pi_or {tg e : Expr} {w1 w2 : TI} (h1 : PI X tg e w1) (h2 : PI X tg e w2) : PI X tg e (fun σ H R => w1 σ H R ∨ w2 σ H R) :=
  ⟨fun pins s σ H R I h => h.elim (h1.run pins s σ H R I) (h2.run pins s σ H R I)⟩
end
def kindN : PyData → String
  | .none => "NoneType"
  | .bool _ => "bool"
  | .int _ => "int"
  | .str _ => "str"
  | .list _ => "list"
  | .tuple _ => "tuple"
  | .dict _ => "dict"
theorem tyN_l {H : Hp} {a : Addr} {xs : List V} (h : H a = some (.lst xs)) : tyN (.ref a) H = some "list" := by simp [tyN, h]
theorem tyN_t {H : Hp} {a : Addr} {xs : List V} (h : H a = some (.tup xs)) : tyN (.ref a) H = some "tuple" := by simp [tyN, h]
theorem tyN_d {H : Hp} {a : Addr} {xs : List (Key × V)} (h : H a = some (.dK xs)) : tyN (.ref a) H = some "dict" := by simp [tyN, h]
theorem Tr.ty {H : Hp} {v : V} {d : PyData} {fp : List Addr} (h : Tr H v d fp) : tyN v H = some (kindN d) := by
  cases h with
  | non => rfl
  | bl b => rfl
  | int i => rfl
  | str x => rfl
  | lst h _ _ => exact tyN_l h
  | tup h _ => exact tyN_t h
  | dct h _ _ _ => exact tyN_d h
/-- a tree's value is no new place -/
theorem Tr.ne {H : Hp} {a p : Addr} {d : PyData} {fp : List Addr} (h : Tr H (.ref a) d fp) (n : H p = none) : a ≠ p := fun e => by
  cases h with
  | lst h _ _ => rw [e, n] at h; cases h
  | tup h _ => rw [e, n] at h; cases h
  | dct h _ _ _ => rw [e, n] at h; cases h
theorem tyN_same {H H' : Hp} {v : V} {t : String} (s : Same H H') (h : tyN v H = some t) : tyN v H' = some t := by
  cases v with
  | ref a =>
    unfold tyN at h ⊢
    simp only at h ⊢
    split at h <;> first | (cases h; done) | skip
    all_goals (rename_i e; rw [s _ _ e]; exact h)
  | _ => exact h
/-- isinstance(v, (..)): the tuple is laid -/
theorem isT_new {Ts : List String} {H : Hp} {v : V} {t : String} {p : Addr} {Q : VK} (ht : tyN v H = some t) (n : H p = none) (q : Q (.bl (Ts.any (isB t))) (upd H p (.tup (Ts.map V.ty)))) : rIsT Ts [v, .ref p] (upd H p (.tup (Ts.map V.ty))) Q :=
  ⟨upd_same, t, tyN_same (same_upd n) ht, q⟩
theorem lc_inv {J : It} {g : TG} {tt : TT} {te : TE} {vs : List Nat} {σ : L2.St} {H1 : Hp} {Qf : VK} (n : Nat) (Pv : Addr → Nat → List V → Hp → Prop) (hn : n ≤ sizeLine)
    (h0 : ∀ D, H1 D = none → Pv D 0 [] (upd H1 D (.lst []))) (hgo : ∀ D i acc H, H1 D = none → i < n → Pv D i acc H → J.go i H) (hst : ∀ D acc H, H1 D = none → Pv D n acc H → J.stop n H)
    (hs : ∀ D i acc H x H' (K : VK) (K0 : Hp → Prop), H1 D = none → i < n → acc.length ≤ i → Pv D i acc H → H D = some (.lst acc) → J.yld i H x H' → (∀ y H4, H4 D = some (.lst acc) → Pv D (i + 1) (acc ++ [y]) (upd H4 D (.lst (acc ++ [y]))) → K y H4) → (∀ H4, H4 D = some (.lst acc) → Pv D (i + 1) acc H4 → K0 H4) →
      g x (wipe σ vs) H' fun σ2 H2 => wipe σ2 vs = wipe σ vs ∧ tt σ2 H2 fun b H3 => if b = true then te σ2 H3 K else K0 H3)
    (hd : ∀ D acc H, H1 D = none → Pv D n acc H → H D = some (.lst acc) → Qf (.ref D) H) : LcB J g tt te vs σ H1 Qf := by
  intro D hD
  let W : Nat → Hp → Prop := fun i H => ∃ acc, acc.length ≤ i ∧ Pv D i acc H ∧ H D = some (.lst acc)
  refine ⟨fun i m H => m = n - i ∧ i ≤ n ∧ W i H, ⟨n, by omega, Nat.zero_le _, [], Nat.le_refl _, h0 D hD, upd_same⟩, ?_⟩
  rintro i m H ⟨rfl, hi, acc, la, pv, eD⟩
  by_cases lt : i < n
  · refine .inr ⟨hgo D i acc H hD lt pv, W (i + 1), fun H' w => ⟨n - (i + 1), by omega, rfl, lt, w⟩, fun x H' y => ?_⟩
    refine hs D i acc H x H' _ (W (i + 1)) hD lt la pv eD y (fun v H4 e4 p4 => ⟨acc, e4, by omega, acc ++ [v], by simp; omega, p4, upd_same⟩) fun H4 e4 p4 => ⟨acc, by omega, p4, e4⟩
  · have e : i = n := by omega
    subst e
    exact .inl ⟨hst D acc H hD pv, hd D acc H hD pv eD⟩
/-- .. where all are kept -/
theorem lc_invA {J : It} {g : TG} {te : TE} {vs : List Nat} {σ : L2.St} {H1 : Hp} {Qf : VK} (n : Nat) (Pv : Addr → Nat → List V → Hp → Prop) (hn : n ≤ sizeLine)
    (h0 : ∀ D, H1 D = none → Pv D 0 [] (upd H1 D (.lst []))) (hgo : ∀ D i acc H, H1 D = none → i < n → Pv D i acc H → J.go i H) (hst : ∀ D acc H, H1 D = none → Pv D n acc H → J.stop n H)
    (hs : ∀ D i acc H x H' (K : VK), H1 D = none → i < n → acc.length ≤ i → Pv D i acc H → H D = some (.lst acc) → J.yld i H x H' → (∀ y H4, H4 D = some (.lst acc) → Pv D (i + 1) (acc ++ [y]) (upd H4 D (.lst (acc ++ [y]))) → K y H4) →
      g x (wipe σ vs) H' fun σ2 H2 => wipe σ2 vs = wipe σ vs ∧ te σ2 H2 K)
    (hd : ∀ D acc H, H1 D = none → Pv D n acc H → H D = some (.lst acc) → Qf (.ref D) H) : LcB J g tYes te vs σ H1 Qf := by
  refine lc_inv n Pv hn h0 hgo hst (fun D i acc H x H' K K0 hD lt la pv eD y k _ => ?_) hd
  have e : (fun (σ2 : L2.St) (H2 : Hp) => wipe σ2 vs = wipe σ vs ∧ tYes σ2 H2 fun b H3 => if b = true then te σ2 H3 K else K0 H3) = fun σ2 H2 => wipe σ2 vs = wipe σ vs ∧ te σ2 H2 K := by
    funext σ2 H2
    simp only [tYes, if_true]
  rw [e]
  exact hs D i acc H x H' K hD lt la pv eD y k
def DcB (J : It) (g : TG) (tt : TT) (tk tv : TE) (vs : List Nat) (σ : L2.St) (H1 : Hp) (Q : VK) : Prop := ∀ D, H1 D = none → ∃ W : Nat → Nat → Hp → Prop, (∃ m, W 0 m (upd H1 D (.dK []))) ∧ ∀ i m H, W i m H →
  (J.stop i H ∧ Q (.ref D) H) ∨ (J.go i H ∧ ∃ Nx : Hp → Prop, (∀ H', Nx H' → ∃ m', m' < m ∧ W (i + 1) m' H') ∧ ∀ x H', J.yld i H x H' → g x (wipe σ vs) H' fun σ2 H2 => wipe σ2 vs = wipe σ vs ∧ tt σ2 H2 fun b H3 =>
    if b = true then tk σ2 H3 fun y H4 => tv σ2 H4 fun z H5 => ∃ kvs k, y = kV k ∧ H5 D = some (.dK kvs) ∧ kvs.length < sizeLine ∧ Nx (upd H5 D (.dK (putK kvs k z))) else Nx H3)
theorem tDc_eq (wi : TI) (g : TG) (tt : TT) (tk tv : TE) (vs : List Nat) (σ : L2.St) (H : Hp) (Q : VK) : tDc wi g tt tk tv vs σ H Q = wi σ H fun J H1 => DcB J g tt tk tv vs σ H1 Q := rfl
end RS
namespace RS
open PySem PySem.Spec L2
section
variable {X : Cx}
/-- d.update(another dict) -/
def rUpdate : V → List V → Hp → VK → Prop := fun x xs H Q => ∃ d o kvs more, x = .ref d ∧ xs = [.ref o] ∧ d ≠ o ∧ H d = some (.dK kvs) ∧ H o = some (.dK more) ∧ kvs.length + more.length ≤ sizeLine ∧ Q .non (upd H d (.dK (mergeK kvs more)))
end
end RS
namespace RS
open PySem PySem.Spec L2
/-- a def that takes any number of arguments -/
def FnS (g : Wd) (k : Nat) (f : Addr) (sp : Sp) : Prop :=
  ∀ (A : Around) (outer : List Env) (s : Shared) (H : Hp) (us : List Value) (vs : List V) (Q : VK) (E : XK), Room k A → A.guards = some [] → Env0 g.P g.w g.K g.mg g.base A outer s H → Vals vs us → sp vs H Q E → codeAny (model g.P g.w) A (.call (.ref f) ⟨us, []⟩) (CR (L2.CX g.P g.w) outer g.P g.w H s Q E) s
theorem FnS.mono {g : Wd} {j k : Nat} {f : Addr} {sp : Sp} (F : FnS g j f sp) (h : j ≤ k) : FnS g k f sp := fun A outer s H us vs Q E hr => F A outer s H us vs Q E (hr.mono h)
/-- the module's name x holds such a def -/
def KnS (g : Wd) (x : Str) (k : Nat) (sp : Sp) : Prop := ∃ f, g.mg x = some (.ref f) ∧ PySem.W.keepIn g.K (.ref f) = true ∧ FnS g k f sp
def spS (n : Nat) (sp : Sp) : Sp := fun vs H Q E => ∃ ws rest, vs = ws ++ rest ∧ ws.length = n ∧ rest.length ≤ sizeLine ∧ ∀ p, H p = none → sp (ws ++ [V.ref p]) (upd H p (.tup rest)) Q E
theorem Df.okS {g : Wd} {x qual pv : Str} {st : Stmt} {f : Addr} {fd : FuncData} {dV : Value} {N ps : List Str} {k : Nat} {sp : Sp} (F : Df g.K x qual st f fd dV) (S : FnScope N (ps ++ [pv]) (defScope st))
    (hb : ∀ us rest : List Value, us.length = ps.length → bindArgs fd ⟨us ++ rest, []⟩ = (newTuple rest >>= fun t => pure (ps.zip us ++ [(pv, t)])))
    (hbody : ∀ (cdv : Value) (A : Around) (outer : List Env) (s : Shared) (H : Hp) (vs : List V) (Q : VK) (E : XK), Rm k (cx g N qual st f cdv A outer s H E) → sp vs H Q E →
      ∃ t, PSs (cx g N qual st f cdv A outer s H E) (defBody st) t ∧ t { nx := fun _ H' => Q .non H', rt := Q } (start N vs) H) : FnS g (k + 1) f (spS ps.length sp) := by
  obtain ⟨oc, od, kV, doc, pm, an, cdv, ct, osl, rfl, lk, hcd⟩ := F.ex
  intro A outer s H us vs Q E hr hg e0 r hsp
  obtain ⟨ws, rest, rfl, hl, hz, hq⟩ := hsp
  obtain ⟨u1, u2, rfl, r1, r2⟩ := StX.vals_split r
  have nH : H s.heap.objs.size = none := e0.hok.fresh (Nat.le_refl _)
  have l1 : u1.length = ps.length := by rw [← r1.length]; exact hl
  have l2 : u2.length ≤ sizeLine := by rw [← r2.length]; exact hz
  refine StX.run_bnd lk hcd S hr e0 (G := fun ys G => ∃ p, H p = none ∧ ys = ws ++ [V.ref p] ∧ G = upd H p (.tup rest)) (fun A' Ex Q' k => ?_) fun s2 G ys z hr2 => ?_
  · rw [hb u1 u2 l1]
    refine wpAny_bind (wpAny_newTuple (wpAny_pure ?_) l2)
    have new : ObjOk g.P g.w (upd H s.heap.objs.size (.tup rest)) (s.heap.push { cls := .type "tuple", data := .seq u2.toArray }) s.heap.objs.size (.tup rest) := ⟨hz, u2, r2, ⟨_, Heap.get?_push_size _ rfl, rfl, _, rfl⟩⟩
    have U := StX.un_laid (fs := frs outer) (s := s) (o := { cls := .type "tuple", data := .seq u2.toArray }) (u := .tup rest) nH
    have y := k _ _ (ws ++ [V.ref s.heap.objs.size]) (u1 ++ [Value.ref s.heap.objs.size]) (StX.env0_laid e0 new) U rfl (fun e s' => StX.cxUp outer s H _ _ E e s' U (fun b o q => Heap.get?_push_of_some _ q) rfl) (r1.append (.cons rfl .nil)) (by simp [hl]) ⟨_, nH, rfl, rfl⟩
    rw [List.zip_append l1.symm] at y
    exact y
  · obtain ⟨p, hp, rfl, rfl⟩ := z
    exact hbody cdv A outer s2 _ _ Q E ⟨hr2, hg⟩ (hq p hp)
section
variable {g : Wd} {X : Cx} {k : Nat} {f : Addr} {sp : Sp} {W : WX} {x : Str} {p pos : Pos} {e : Expr} {es : List Expr} {t : TA}
theorem callS (a : At g X) (F : FnS g k f sp) (hr : Rm k X) (tk : Takes X W) {pins : List (Addr × Obj)} {σ : L2.St} {H : Hp} {s : Shared} {Q : VK} {us : List Value} {vs : List V} (I : Inv X pins σ H s) (r : Vals vs us) (h : sp vs H Q (fun c d H' => W c d σ H')) :
    wpAny (model X.prog X.w) X.A (call (.ref f) us) (EP X pins σ Q) X.xe s := by
  obtain ⟨P, w, K, mg, base⟩ := g
  obtain ⟨rfl, rfl, rfl, rfl, rfl⟩ := a
  refine wpAny_call (codeAny_mono (F X.A X.stack s H us vs Q _ hr.room hr.gd I.env0 r h) fun res s' hq => ?_)
  cases res with
  | error e => exact tk e s' (XE.of_call (E := fun c d H' => W c d σ H') I (fun _ _ _ z => z) hq)
  | ok fl => cases fl with
    | ret u => exact I.after hq
    | _ => exact hq.elim
def tCallS (sp : Sp) (W : WX) (t : TA) : TE := fun σ H Q => t σ H fun vs H1 => sp vs H1 Q (fun c d H' => W c d σ H')
theorem pe_callS (F : KnS g x k sp) (hr : Rm k X) (tk : Takes X W) (ha : PA X (e :: es) t) (hg : Gl X x := by rfl) (hdb : (x == ("__debug__" : Str)) = false := by decide)
    (he : starEach (e :: es) X.env = (false, eval e X.env) :: starEach es X.env := by rfl) (hpl : (backTo pos (starEach es X.env)).any (·.1) = false := by rfl) (a : At g X := by exact ⟨rfl, rfl, rfl, rfl, rfl⟩) :
    PE X (.Call (.Name x p) (e :: es) [] pos) (tCallS sp W t) := by
  obtain ⟨f, hm, hk, F⟩ := F
  refine ⟨fun pins s σ H Q I h => wpAny_Call_Name_kw (ld_glob I hg (by rw [a.mg]; exact hm) ?_ hdb)⟩
  refine PySem.W.callWith_K (h₀ := X.base) I.ok.mod.kin (by rw [a.K]; exact hk) (thn (ha.run pos pins s σ H _ I h) ?_) he hpl
  rintro us s1 ⟨vs, H1, I1, r, q⟩
  exact ⟨I1.kIn, callS a F hr tk I1 r q⟩
theorem pe_callS0 (F : KnS g x k sp) (hr : Rm k X) (tk : Takes X W) (hg : Gl X x := by rfl) (hdb : (x == ("__debug__" : Str)) = false := by decide) (a : At g X := by exact ⟨rfl, rfl, rfl, rfl, rfl⟩) :
    PE X (.Call (.Name x p) [] [] pos) (tCallS sp W tNil) := by
  obtain ⟨f, hm, hk, F⟩ := F
  refine ⟨fun pins s σ H Q I h => wpAny_Call_Name_kw (ld_glob I hg (by rw [a.mg]; exact hm) ?_ hdb)⟩
  exact PySem.W.callWith_K0 I.kIn (by rw [a.K]; exact hk) (callS a F hr tk I .nil h)
end
end RS
namespace RS
open PySem PySem.Spec L2
/-- the items of the tuple at a, each with its index in a new pair -/
def ItEt (K : PySem.W.Frag) (a : Addr) : It :=
  ⟨fun i H => ∃ (xs : List V) (x : V), SqT K H a xs ∧ xs[i]? = some x, fun i H v H' => ∃ T x, v = .ref T ∧ H T = none ∧ H' = upd H T (.tup [.int (i : Nat), x]) ∧ ∀ xs, SqT K H a xs → xs[i]? = some x, fun i H => ∃ xs : List V, SqT K H a xs ∧ xs.length = i⟩
theorem turn_enumT {P : Program} {w : World} {K : PySem.W.Frag} {elts : List Expr} {kk : Nat} {tpos : Pos} (a e it : Addr) :
    Turn P w K (.Tuple elts kk tpos) (ItEt K a) [e, it] e (fun i h => (∃ old, IsEnum h e it ((i : Nat) : Int) old) ∧ h.IsTupleIter it a i ∧ e ≠ it ∧ a ≠ it ∧ a ≠ e) where
  mem := List.mem_cons_self
  obj := by
    rintro i h ⟨⟨old, he⟩, ⟨o, ho, hc, hd⟩, _⟩ b hb
    rcases List.mem_cons.mp hb with rfl | hb
    · exact ⟨_, he, fun v q => nomatch q⟩
    · obtain rfl := List.mem_singleton.mp hb
      exact ⟨o, ho, fun v q => by rw [hd] at q; cases q⟩
  keep := by
    rintro i h h' ⟨⟨old, he⟩, ⟨o, ho, hr⟩, hne⟩ k
    exact ⟨⟨old, k e (by simp) _ he⟩, ⟨o, k it (by simp) o ho, hr⟩, hne⟩
  item := by
    intro X hP hw hK hc i pins s σ H E I hf st hg
    subst hP hw hK
    obtain ⟨⟨old, he⟩, hit, hne, nai, nae⟩ := st
    obtain ⟨xs, x, hq, hx⟩ := hg
    obtain ⟨its, rv, pl, hz⟩ := I.tuple hq
    obtain ⟨u0, hu0, ru0⟩ := rv.get hx
    have ln := rv.length
    have li : i < its.toArray.size := by have := (List.getElem?_eq_some_iff.mp hx).1; simp; omega
    have hel : e < s.heap.objs.size := Heap.lt_size he
    have hil : it < s.heap.objs.size := by obtain ⟨_, q, _⟩ := hit; exact Heap.lt_size q
    refine wpAny_pyNext_enum_itemD (Draws.tuple (A := X.A.in1) (I.ok.hd hc) it a nai its.toArray) he ⟨hit, pl⟩ li hne (by simp only [List.mem_cons, List.not_mem_nil, or_false, not_or]; exact ⟨hne, Ne.symm nae⟩) fun u h' tk hp ho hit' hT hsz hk => ?_
    have eu : u = u0 := by simp only [List.getElem?_toArray] at hp; rw [hu0] at hp; exact (Option.some.inj hp).symm
    subst eu
    refine ⟨_, rfl, wpAny_letOwnedTupleGo_enum (s := { s with heap := h', toks := tk + 1 }) ho fun h2 he' sb => ?_⟩
    have hT2 : h2.get? s.heap.objs.size = some { cls := .type "tuple", data := .seq #[.int i tk, u] } := (sb.2 _ (Nat.ne_of_gt hel)).trans hT
    have lay : ObjOk X.prog X.w (upd H s.heap.objs.size (.tup [.int (i : Nat), x])) h2 s.heap.objs.size (.tup [.int (i : Nat), x]) :=
      ⟨by show 2 ≤ sizeLine; decide, _, .cons ⟨_, rfl⟩ (.cons ru0 .nil), _, hT2, rfl, _, rfl⟩
    have keepB : ∀ b o, b ∉ [e, it] → s.heap.get? b = some o → h2.get? b = some o := fun b o hb q => by
      have n1 : b ≠ e := fun z => hb (by simp [z])
      have n2 : b ≠ it := fun z => hb (by simp [z])
      exact (sb.2 b n1).trans (hk b o n1 n2 q)
    have I1 := I.turnedNew (t' := tk + 1) keepB hf (Nat.le_refl _) lay
    refine ⟨.ref s.heap.objs.size, _, I1, rfl, ⟨_, x, rfl, I.hok.fresh (Nat.le_refl _), rfl, fun ys hy => by rw [I.tuple_inj hy hq]; exact hx⟩, ⟨⟨_, by simpa using he'⟩, ?_, hne, nai, nae⟩, fun b hb => ?_⟩
    · obtain ⟨o, ho2, hr⟩ := hit'.1
      exact ⟨o, (sb.2 it (Ne.symm hne)).trans ho2, hr⟩
    · have lt : b < s.heap.objs.size := by
        rcases List.mem_cons.mp hb with rfl | hb
        · exact hel
        · rw [List.mem_singleton.mp hb]; exact hil
      rw [upd_ne (Nat.ne_of_lt lt)]
      exact (hf b hb).1
  done := by
    intro X hP hw hK hc i pins s σ H E I hf st hg
    subst hP hw hK
    obtain ⟨⟨old, he⟩, hit, hne, nai, nae⟩ := st
    obtain ⟨xs, hq, rfl⟩ := hg
    obtain ⟨its, rv, pl, hz⟩ := I.tuple hq
    have ln := rv.length
    obtain ⟨f0, f1, f2, f3, f4, f5⟩ := hf it (by simp)
    refine wpAny_pyNext_enum_endD (Draws.tuple (A := X.A.in1) (I.ok.hd hc) it a nai its.toArray) he (by rw [show its.toArray.size = xs.length by simp; omega]; exact ⟨hit, pl⟩) fun h' eb => ⟨rfl, ?_⟩
    exact I.turned (t' := s.toks) (fun b o hb q => eb b o hb q) f0 f1 f3 f4 f5
  self := fun A i s Q E st h => let ⟨⟨_, he⟩, _⟩ := st; wpAny_pyIter_enum he h
def iEnumT (K : PySem.W.Frag) (ta : TA) : TI := fun σ H R => ta σ H fun vs H1 => ∃ a xs, vs = [.ref a] ∧ SqT K H1 a xs ∧ R (ItEt K a) H1
theorem pi_enumT {X : Cx} {K : PySem.W.Frag} {e : Expr} {ta : TA} {p pos tpos : Pos} {elts : List Expr} {kk : Nat} (hm : X.mg "enumerate" = none) (ha : PA X [e] ta) (hg : Gl X "enumerate" := by rfl) (hs : starEach [e] X.env = [(false, eval e X.env)] := by rfl) (hK : X.K = K := by rfl) :
    PI X (.Tuple elts kk tpos) (.Call (.Name "enumerate" p) [e] [] pos) (iEnumT K ta) := by
  subst hK
  refine ⟨fun pins s σ H R I h => ?_⟩
  refine PyProof.Rows.Call_ (ld_blt I hg hm PyProof.Rows.boot_enumerate (PyProof.Rows.callWith_type1 (thn (ha.run pos pins s σ H _ I h) ?_) hs rfl))
  rintro us s1 ⟨vs, H1, I1, r1, a, xs, rfl, hx, q⟩
  obtain ⟨u, rfl, ru⟩ := vals1 r1
  cases ru
  obtain ⟨its, rv, pl, hz⟩ := I1.tuple hx
  have la : a < s1.heap.objs.size := by obtain ⟨o, z, _⟩ := pl; exact Heap.lt_size z
  refine call_enumB (begins_tuple a its.toArray) pl fun h' he hi z hk => wpAny_pyIter_enum he ?_
  refine ⟨s1.heap.objs.size + 1, [s1.heap.objs.size + 1, s1.heap.objs.size], _, _, H1, rfl, I1.kept (t' := s1.toks) hk, turn_enumT a _ _, ⟨⟨.none, he⟩, ⟨_, hi, rfl, rfl⟩, Nat.succ_ne_self _, Nat.ne_of_lt la, Nat.ne_of_lt (Nat.lt_succ_of_lt la)⟩, fun b hb => ?_, q⟩
  have le : s1.heap.objs.size ≤ b := by
    rcases List.mem_cons.mp hb with rfl | hb
    · exact Nat.le_succ _
    · rw [List.mem_singleton.mp hb]; exact Nat.le_refl _
  exact I1.fpOk le (I1.hok.fresh le)
end RS
namespace RS
open PySem PySem.Spec L2 PySem.W
section
variable {g : Wd} {X : Cx} {C : Addr} {x f : Str} {e : Expr} {t : TA} {p pos : Pos}
def tPm1 (C : Addr) (f : Str) (t : TA) : L2.St → Hp → XK → Prop := fun σ H Q => t σ H fun vs H1 => ∃ v, vs = [v] ∧ ∀ dy, H1 dy = none → Q (.ref C) (some dy) (upd H1 dy (.xd [(f, v)]))
theorem pmk_x1 (F : XK1 g x C f) (R : Raises X (.ref C)) (hr : Rm 2 X) (ha : PA X [e] t) (hg : Gl X x := by rfl) (hdb : (x == ("__debug__" : Str)) = false := by decide)
    (he : starEach [e] X.env = (false, eval e X.env) :: starEach [] X.env := by rfl) (hpl : (backTo pos (starEach [] X.env)).any (·.1) = false := by rfl) (a : At g X := by exact ⟨rfl, rfl, rfl, rfl, rfl⟩) :
    PMk X (.Call (.Name x p) [e] [] pos) (tPm1 C f t) := by
  obtain ⟨hm, ms, kp, hd, sa, nf, fI, cda, cc, qual, st, B, newId, initId, bmB, xp, XX, Y⟩ := F
  intro pins s σ H Q I h
  refine wpAny_Call_Name_kw (ld_glob I hg (by rw [a.mg]; exact hm) ?_ hdb)
  refine PySem.W.callWith_K (h₀ := X.base) I.ok.mod.kin (by rw [a.K]; exact kp) (thn (ha.run pos pins s σ H _ I h) ?_) he hpl
  rintro us s1 ⟨vs, H1, I1, r, v, rfl, q⟩
  obtain ⟨u, rfl, ru⟩ := vals1 r
  refine ⟨I1.kIn, ?_⟩
  have KI := I1.kIn
  rw [a.K] at KI
  obtain ⟨nm, N', qn, bs, bm, hdct, sn, sub, ab, col, dd, k0, k1, k2, k3, k5, hC, hT⟩ := excInit_of KI XX.q
  obtain ⟨oc, od, kV, doc, pm, an, ct, osl, lk⟩ := XX.lk
  have hfn : oc = .type "function" := by
    have z := XX.fn
    unfold typeIn at z
    simp only [lk] at z
    simpa using z
  have hglob : s1.heap.Ns mainGlobals g.mg := by rw [← a.mg]; exact I1.mod.glob.keeps I1.bk
  obtain ⟨mb, hblt, bb⟩ := I1.mod.blt
  have hblt2 := hblt.keeps I1.bk
  have hlim := I1.nolimit
  have bare := I1.bare
  obtain ⟨hp, gg, dr, tt, oo⟩ := s1
  have up : ∀ b o, hp.get? b = some o → ((hp.push (kdv_tup [u])).push (HandSPX.excO C hp.objs.size)).get? b = some o := fun b o z => Heap.get?_push_of_some _ (Heap.get?_push_of_some _ z)
  have hget : ((hp.push (kdv_tup [u])).push (HandSPX.excO C hp.objs.size)).get? (hp.objs.size + 1) = some (HandSPX.excO C hp.objs.size) := by heap_get
  refine wpAny_call (HandSPX.call_own XX.FB hT hC (looks_findIn KI XX.ini) (fun self => exc_bind (KI _ _ lk) hfn self) (by rw [sizeLine_eq]; simp) ?_)
  rw [a.P]
  refine xinit1 XX Y hd sa nf (fun b o z => up b o (KI b o z)) ?_ (hr.here.make C [u] []).room.depth (hlim.keeps up) hget (hglob.keeps up) ms (hblt2.keeps up) bb fun h' t1 dx tk k ldx nex e' n' => ⟨rfl, ?_⟩
  · cases z : g.K.lookup (hp.objs.size + 1) with
    | none => rfl
    | some o => exact absurd (Heap.lt_size (KI _ _ z)) (by show ¬ hp.objs.size + 1 < hp.objs.size; omega)
  have old : ∀ {b : Addr} {o : Obj}, hp.get? b = some o → b ≠ hp.objs.size + 1 := fun {b o} z y => by
    have := Heap.lt_size z
    rw [y] at this
    exact absurd this (by show ¬ hp.objs.size + 1 < hp.objs.size; omega)
  have k' : ∀ b o, hp.get? b = some o → h'.get? b = some o := fun b o z => k b o (old z) (up b o z)
  have ld2 : hp.objs.size + 2 ≤ dx := by
    have e2 : ((hp.push (kdv_tup ([] ++ [u]))).push (HandSPX.excO C hp.objs.size)).objs.size = hp.objs.size + 2 := by simp [Heap.size_push]
    rw [e2] at ldx
    exact ldx
  have n2 : hp.get? dx = none := by
    cases z : hp.get? dx with
    | none => rfl
    | some o => exact absurd (Heap.lt_size z) (by show ¬ dx < hp.objs.size; omega)
  have f1 : H1 (hp.objs.size + 1) = none := I1.hok.fresh (Nat.le_succ _)
  have f2 : H1 dx = none := I1.hok.fresh (by show hp.objs.size ≤ dx; omega)
  obtain ⟨G, g1, g2⟩ := restrict h' fun b => decide (b ≠ hp.objs.size + 1)
  have gk : ∀ b, b ≠ hp.objs.size + 1 → G.get? b = h'.get? b := fun b hb => g1 b (decide_eq_true hb)
  have ge : G.get? (hp.objs.size + 1) = none := g2 _ (by simp)
  have J := Inv.laidN (t' := tk) (a := dx) (o := HO.xd [(f, v)]) (h' := G) I1 (fun b o z => by rw [gk b (old z)]; exact k' b o z) n2 f2 ⟨_, n'.at fun o y => (gk dx nex).trans y, relO_put (fs := []) ru fun _ => True.intro⟩
  refine ⟨hp.objs.size + 1, _, _, _, _, .ref C, some dx, rfl, J, fun b o z => ?_, ge, e', ⟨rfl, rfl⟩, rfl, rfl, ?_, rfl, bare, R, q dx f2⟩
  · by_cases hb : b = hp.objs.size + 1
    · rw [hb] at z
      have z' : G.get? (hp.objs.size + 1) = some o := z
      rw [ge] at z'; cases z'
    · exact (gk b hb).symm.trans z
  · rw [upd_ne (Ne.symm nex)]; exact f1
end
end RS
namespace RS
open PySem PySem.Spec L2 PyProof.Rows
section
variable {X : Cx} {a b : Expr} {rest : List Expr} {pos : Pos}
def wOr (t u : TTw) : TTw := fun σ H Q => t σ H fun c σ1 H1 => if c = true then Q true σ1 H1 else u σ1 H1 Q
/-- (x := e) op f or .. -/
theorem ptw_or {t : TTw} {u : TT} (ha : PTw X a t) (hb : PW X (.BoolOp .Or (b :: rest) pos) u) : PTw X (.BoolOp .Or (a :: b :: rest) pos) (wOr t (wT u)) := by
  refine ⟨fun pins s σ H Q I h => ?_⟩
  refine isTrue_or (thn (ha.run pins s σ H _ I h) fun c s1 ⟨σ1, H1, I1, q1⟩ => ?_)
  cases c with
  | true => exact ⟨σ1, H1, I1, q1⟩
  | false => exact thn (hb.run _ pins s1 σ1 H1 (fun b H2 => Q b σ1 H2) I1 q1) fun b s2 ⟨H2, I2, q2⟩ => ⟨σ1, H2, I2, q2⟩
end
/-- the cases of a match over a value -/
structure PMc (X : Cx) (cs : List MatchCase) (t : V → TS) : Prop where
  run : ∀ (first : Bool) (pins : List (Addr × Obj)) (s : Shared) (σ : L2.St) (H : Hp) (x : V) (v : Value) (D : Ends), Inv X pins σ H s → RelV x v → t x D σ H → wpAny (model X.prog X.w) X.A (matchCases cs X.env v first) (SP X pins D) X.xe s
/-- a pattern that binds nothing, over a text -/
structure PPt (X : Cx) (p : Pattern) (m : Str → Bool) : Prop where
  run : ∀ (pins : List (Addr × Obj)) (s : Shared) (σ : L2.St) (H : Hp) (x : Str) (tk : Tok) (Q : Option (List (Str × Value)) → Shared → Prop), Inv X pins σ H s → (∀ s', Inv X pins σ H s' → Q (if m x = true then some [] else none) s') → wpAny (model X.prog X.w) X.A (matchPattern p X.env (.str x tk)) Q X.xe s
section
variable {X : Cx} {e : Expr} {te : TE} {pos : Pos} {p : Pattern} {ps : List Pattern} {m : Str → Bool} {body : List Stmt} {cs : List MatchCase} {tb : TS} {t : V → TS}
def tMatch (te : TE) (t : V → TS) : TS := fun D σ H => te σ H fun x H1 => t x D σ H1
theorem ps_match (he : PE X e te) (hc : PMc X cs t) : PS X (.Match e cs pos) (tMatch te t) :=
  ⟨fun pins s σ H D I h => wpAny_Match (thn (he.run pins s σ H _ I h) fun v s1 ⟨x, H1, I1, r1, q1⟩ => hc.run true pins s1 σ H1 x v D I1 r1 q1)⟩
def tCase (m : Str → Bool) (tb : TS) (t : V → TS) : V → TS := fun x D σ H => ∃ y, x = .str y ∧ if m y = true then tb D σ H else t x D σ H
theorem pmc_case (hp : PPt X p m) (hb : PSs X body tb) (hc : PMc X cs t) : PMc X (⟨p, none, body⟩ :: cs) (tCase m tb t) := by
  refine ⟨fun first pins s σ H x v D I r h => ?_⟩
  obtain ⟨y, rfl, h⟩ := h
  obtain ⟨tk, rfl⟩ := r
  refine wpAny_matchCases_cons (hp.run pins s σ H y tk _ I fun s1 I1 => ?_)
  cases hm : m y with
  | true =>
    rw [hm, if_pos rfl] at h
    rw [if_pos rfl]
    exact wpAny_assignInOrder_none (hb.run pins s1 σ H D I1 h)
  | false =>
    rw [hm, if_neg Bool.false_ne_true] at h
    rw [if_neg Bool.false_ne_true]
    exact hc.run false pins s1 σ H (.str y) _ D I1 ⟨tk, rfl⟩ h
/-- case _ -/
theorem pmc_rest (hb : PSs X body tb) {q : Pos} : PMc X [⟨.MatchAs none none q, none, body⟩] (fun _ => tb) :=
  ⟨fun first pins s σ H x v D I r h => wpAny_matchCases_cons (wpAny_matchPattern_Capture (wpAny_assignInOrder_none (hb.run pins s σ H D I h)))⟩
theorem ppt_str {z : Str} {j : Nat} {q q' : Pos} : PPt X (.MatchValue (.Constant (.str z) j q) q') (fun x => decide (x = z)) := by
  refine ⟨fun pins s σ H x tk Q I h => ?_⟩
  refine wpAny_matchPattern_Value (thn ((pe_str (X := X) (x := z) (j := j) (pos := q)).run pins s σ H (fun y H1 => y = .str z ∧ H1 = H) I ⟨rfl, rfl⟩) fun u s1 ⟨y, H1, I1, r1, e1, e2⟩ => ?_)
  subst e1
  subst e2
  refine thn (op_eq pins s1 σ H1 (.str x) (.str z) _ u (fun w H2 => w = .bl (decide (x = z)) ∧ H2 = H1) I1 ⟨tk, rfl⟩ r1 ?_) fun c s2 ⟨w, H2, I2, r2, e3, e4⟩ => ?_
  · exact ⟨rfl, by simp, rfl⟩
  · subst e3
    subst e4
    cases r2
    refine wpAny_truthy_bool ?_
    have := h s2 I2
    cases hm : decide (x = z) with
    | true => rw [hm] at this; exact this
    | false => rw [hm] at this; exact this
/-- some patterns that bind nothing -/
structure PPs (X : Cx) (ps : List Pattern) (m : Str → Bool) : Prop where
  run : ∀ (pins : List (Addr × Obj)) (s : Shared) (σ : L2.St) (H : Hp) (x : Str) (tk : Tok) (Q : Option (List (Str × Value)) → Shared → Prop), Inv X pins σ H s → (∀ s', Inv X pins σ H s' → Q (if m x = true then some [] else none) s') → wpAny (model X.prog X.w) X.A (matchFirst ps X.env (.str x tk)) Q X.xe s
theorem pps_nil : PPs X [] (fun _ => false) := ⟨fun pins s σ H x tk Q I h => wpAny_matchFirst_nil (h s I)⟩
theorem pps_cons {m' : Str → Bool} (hp : PPt X p m) (hs : PPs X ps m') : PPs X (p :: ps) (fun x => m x || m' x) := by
  refine ⟨fun pins s σ H x tk Q I h => ?_⟩
  refine wpAny_matchFirst_cons (hp.run pins s σ H x tk _ I fun s1 I1 => ?_)
  cases hm : m x with
  | true =>
    have := h s1 I1
    simp only [hm, Bool.true_or, if_true] at this
    exact this
  | false =>
    refine hs.run pins s1 σ H x tk Q I1 fun s2 I2 => ?_
    have := h s2 I2
    simpa only [hm, Bool.false_or] using this
theorem ppt_or (hs : PPs X ps m) {q : Pos} (hn : namesOfAll (ps.take 1) = [] := by rfl) : PPt X (.MatchOr ps q) m := by
  refine ⟨fun pins s σ H x tk Q I k => ?_⟩
  refine wpAny_matchPattern_Or (hs.run pins s σ H x tk _ I fun s1 I1 => ?_)
  have := k s1 I1
  cases hm : m x with
  | true =>
    rw [hm, if_pos rfl] at this
    rw [if_pos rfl]
    simpa [hn] using this
  | false =>
    rw [hm, if_neg Bool.false_ne_true] at this
    rw [if_neg Bool.false_ne_true]
    exact this
end
end RS
namespace RS
open PySem PySem.Spec L2 PyProof.Rows
section
variable {X : Cx}
theorem is_bool {M : Model} {A : Around} {E : Value → Shared → Prop} {s : Shared} {x : V} {u : Value} {b : Bool} {R : Bool → Shared → Prop} (r : RelV x u) (q : R (decide (x = .bl b)) s) : wpAny M A (isSame u (.bool b)) R E s := by
  have eq_ : ∀ {u : Value} {z : Bool}, plainIs u (.bool b) = true → (u == Value.bool b) = z → R z s → wpAny M A (isSame u (.bool b)) R E s := fun h1 h2 q => wpAny_isSame_plain h1 (by rw [h2]; exact q)
  have no : ∀ {u : Value}, plainIs u (.bool b) = true → (u == Value.bool b) = false → decide (x = .bl b) = false → wpAny M A (isSame u (.bool b)) R E s := fun h1 h2 h3 => eq_ h1 h2 (by rw [← h3]; exact q)
  cases x with
  | ref a => cases r; exact no rfl rfl (by simp)
  | non => cases r; exact no rfl rfl (by simp)
  | bl c =>
    cases r
    refine eq_ rfl rfl ?_
    have e : (Value.bool c == Value.bool b) = decide (V.bl c = V.bl b) := by cases c <;> cases b <;> rfl
    rw [e]; exact q
  | int i => obtain ⟨t, rfl⟩ := r; exact no rfl rfl (by simp)
  | str x => obtain ⟨t, rfl⟩ := r; exact no rfl rfl (by simp)
  | byt x => obtain ⟨t, rfl⟩ := r; exact no rfl rfl (by simp)
  | flt x => obtain ⟨t, rfl⟩ := r; exact no rfl rfl (by simp)
  | ty n => cases r; exact no rfl rfl (by simp)
/-- x is True, x is False -/
theorem op_isB : OpR X (compareOp .Is) (fun x y H Q => ∃ b, y = .bl b ∧ Q (.bl (decide (x = .bl b))) H) := by
  intro pins s σ H x y v u Q I rx ry h
  obtain ⟨b, rfl, q⟩ := h
  cases ry
  show wpAny _ _ ((isSame v (Value.bool b)) >>= fun z => pure (Value.bool z)) _ _ s
  exact wpAny_bind (is_bool rx (wpAny_pure (fin_bl I q rfl)))
theorem op_notB : OpR X (compareOp .IsNot) (fun x y H Q => ∃ b, y = .bl b ∧ Q (.bl (!decide (x = .bl b))) H) := by
  intro pins s σ H x y v u Q I rx ry h
  obtain ⟨b, rfl, q⟩ := h
  cases ry
  show wpAny _ _ ((isSame v (Value.bool b)) >>= fun z => pure (Value.bool (!z))) _ _ s
  exact wpAny_bind (is_bool rx (wpAny_pure (fin_bl I q rfl)))
end
/-- either promise -/
def SpOr (sp sp' : Sp) : Sp := fun vs H Q E => sp vs H Q E ∨ sp' vs H Q E
theorem FnG.or {g : Wd} {k : Nat} {f : Addr} {fd : FuncData} {ps : List Str} {sp sp' : Sp} (F : FnG g k f fd ps sp) (F' : FnG g k f fd ps sp') : FnG g k f fd ps (SpOr sp sp') :=
  ⟨fun vs H Q E h => h.elim (F.len vs H Q E) (F'.len vs H Q E), fun A outer s H args us vs Q E hr hg he hb hv h => h.elim (F.run A outer s H args us vs Q E hr hg he hb hv) (F'.run A outer s H args us vs Q E hr hg he hb hv)⟩
end RS
namespace RS
open PySem PySem.Spec L2 PyProof.Rows
end RS
namespace RS
open PySem PySem.Spec L2 PyProof.Rows LamX
end RS
namespace RS
open PySem PySem.Spec L2 PySem.W
/-- the fields of an exception, however they are known -/
def XdAt (H : Hp) (dd : Addr) (fs : List (Str × V)) : Prop := H dd = some (.xd fs) ∨ H dd = some (exd dd fs)
theorem XdAt.same {H H' : Hp} {dd : Addr} {fs : List (Str × V)} (h : XdAt H dd fs) (s : Same H H') : XdAt H' dd fs := h.imp (s _ _) (s _ _)
theorem XdAt.at {P : Program} {w : World} {H : Hp} {h : Heap} {dd : Addr} {fs : List (Str × V)} (hok : HOk P w H h) (e : XdAt H dd fs) : ∃ mA, h.Ns1 dd mA ∧ ∀ f, RelO (fs.lookup f) (mA f) := by
  rcases e with e | e
  · have x : ObjOk P w H h dd (.xd fs) := hok dd _ e
    exact x
  · exact exd_at hok e
section
variable {g : Wd} {X : Cx} {C : Addr} {x f : Str} {e o : Expr} {t : TA} {ta : TE} {p pos : Pos}
def tXfa (K : Frag) (f : Str) (ta : TE) : TE := fun σ H Q => ta σ H fun x H1 => ∃ a C dd fs v, x = .ref a ∧ H1 a = some (exv a C (some dd)) ∧ XdAt H1 dd fs ∧ fs.lookup f = some v ∧ XfC K C ∧ findIn K (.ref C) f = some none ∧ Q v H1
/-- raise C() -/
def tPm0 (C : Addr) : L2.St → Hp → XK → Prop := fun σ H Q => Q (.ref C) none H
end
end RS
namespace RS
open PySem PySem.Spec PyProof.Rows L2 LamX
end RS
namespace RS
open PySem PySem.Spec L2 PyProof.Rows ClX
section
variable {g : Wd} {X : Cx} {k : Nat} {C : Addr} {ps : List Str} {sp : Sp} {W : WX} {ds : List V} {p pos apos : Pos} {a b o i : Expr} {ta tb to ti : TE}
def tIxOwn (C : Addr) (sp : Sp) (ds : List V) (W : WX) (to ti : TE) : TE := fun σ H Q => to σ H fun x H1 => ti σ H1 fun y H2 => ∃ q dx fs, x = .ref q ∧ H2 q = some (.ins C dx fs) ∧ sp ([.ref q, y] ++ ds) H2 Q (fun c d H' => W c d σ H')
/-- the method that the class at C has under the name m is a def -/
def FnAtC (K : PySem.W.Frag) (C : Addr) (m : Str) : Prop := ∀ f, PySem.W.findIn K (.ref C) m = some (some (.ref f)) → PySem.W.fnIn K f = true
def tInOwn (C : Addr) (sp : Sp) (ds : List V) (W : WX) (n : Bool) (ta tb : TE) : TE := fun σ H Q => ta σ H fun y H1 => tb σ H1 fun x H2 => ∃ q dx fs, x = .ref q ∧ H2 q = some (.ins C dx fs) ∧
  sp ([.ref q, y] ++ ds) H2 (fun v H' => ∃ c, v = .bl c ∧ Q (.bl (n != c)) H') (fun c d H' => W c d σ H')
def tPropG (C : Addr) (sp : Sp) (W : WX) (ta : TE) : TE := fun σ H Q => ta σ H fun x H1 => ∃ q dx fs, x = .ref q ∧ H1 q = some (.ins C dx fs) ∧ sp [.ref q] H1 Q (fun c d H' => W c d σ H')
def tMethK (C : Addr) (m : Str) (n : Nat) (sp : Sp) (pm : List Nat) (dvs : List V) (W : WX) (ta : TE) (t : TA) : TE := fun σ H Q => ta σ H fun x H1 => ∃ q dx fs, x = .ref q ∧ H1 q = some (.ins C dx fs) ∧ fs.lookup m = none ∧
  t σ H1 fun zs H2 => zs.length = n ∧ sp (.ref q :: (pm.map fun i => zs.getD i .non) ++ dvs) H2 Q (fun c d H' => W c d σ H')
end
end RS
namespace RS
open PySem PySem.Spec L2 PyProof.Rows GenW
end RS
namespace RS
open PySem PySem.Spec L2 PyProof.Rows LamX
/-- a def of the text whose code object stands at c -/
structure DfC (K : PySem.W.Frag) (x qual : Str) (st : Stmt) (f : Addr) (fd : FuncData) (c : Addr) : Prop where
  ex : ∃ (oc : Value) (od : Option Addr) (kV doc pm : Value) (an : Option Addr) (ct : Value) (osl : Array (Option Value)),
    fd = PySem.W.fnOf x qual (defArgs st) (defBody st) (defScope st) .none kV doc pm an (.ref c) ct ∧ K.lookup f = some ⟨oc, od, .func fd, osl⟩ ∧ PySem.W.codeIn K (.ref c) qual = true
  kp : PySem.W.keepIn K (.ref f) = true
theorem DfC.ok {g : Wd} {x qual : Str} {st : Stmt} {f : Addr} {fd : FuncData} {c : Addr} {N ps : List Str} {k : Nat} {sp : Sp} (F : DfC g.K x qual st f fd c) (S : FnScope N ps (defScope st))
    (len : ∀ vs H Q E, sp vs H Q E → vs.length = ps.length)
    (hbody : ∀ (A : Around) (outer : List Env) (s : Shared) (H : Hp) (vs : List V) (Q : VK) (E : XK), Rm k (cx g N qual st f (.ref c) A outer s H E) → sp vs H Q E →
      ∃ t, PSs (cx g N qual st f (.ref c) A outer s H E) (defBody st) t ∧ t { nx := fun _ H' => Q .non H', rt := Q } (start N vs) H) : FnG g (k + 1) f fd ps sp := by
  obtain ⟨oc, od, kV, doc, pm, an, ct, osl, rfl, lk, hcd⟩ := F.ex
  refine ⟨len, fun A outer s H args us vs Q E hr hg e0 hb rv hsp => ?_⟩
  exact run_ofS (CX := L2.CX g.P g.w) lk hcd S hr e0 hb rv (len _ _ _ _ hsp) fun hr' => hbody A outer s H vs Q E ⟨hr', hg⟩ hsp
/-- but for the places fp and the tables all stays -/
def FrT (fp : List Addr) (H H' : Hp) : Prop := ∀ b o, b ∉ fp → (∀ ps, o ≠ .tbl ps) → H b = some o → H' b = some o
theorem FrT.refl {fp : List Addr} (H : Hp) : FrT fp H H := fun _ _ _ _ h => h
theorem FrT.trans {fp : List Addr} {H H1 H2 : Hp} (a : FrT fp H H1) (b : FrT fp H1 H2) : FrT fp H H2 := fun c o n t h => b c o n t (a c o n t h)
theorem FrT.of {fp : List Addr} {H H' : Hp} (s : Same H H') : FrT fp H H' := fun c o _ _ h => s c o h
theorem FrT.sub {fp fq : List Addr} {H H' : Hp} (a : FrT fp H H') (h : ∀ c ∈ fp, c ∈ fq ∨ H c = none) : FrT fq H H' := fun c o n t e => a c o (fun z => (h c z).elim n (fun y => by rw [y] at e; cases e)) t e
/-- but for the places fp all stays -/
def Fr1 (fp : List Addr) (H H' : Hp) : Prop := ∀ b o, b ∉ fp → H b = some o → H' b = some o
theorem Fr1.refl {fp : List Addr} (H : Hp) : Fr1 fp H H := fun _ _ _ h => h
theorem Fr1.trans {fp : List Addr} {H H1 H2 : Hp} (a : Fr1 fp H H1) (b : Fr1 fp H1 H2) : Fr1 fp H H2 := fun c o n h => b c o n (a c o n h)
theorem Fr1.of {fp : List Addr} {H H' : Hp} (s : Same H H') : Fr1 fp H H' := fun c o _ h => s c o h
theorem Fr1.sub {fp fq : List Addr} {H H' : Hp} (a : Fr1 fp H H') (h : ∀ c ∈ fp, c ∈ fq ∨ H c = none) : Fr1 fq H H' := fun c o n e => a c o (fun z => (h c z).elim n (fun y => by rw [y] at e; cases e)) e
theorem Fr1.upd {fp : List Addr} {H : Hp} {a : Addr} {o : HO} (h : a ∈ fp) : Fr1 fp H (L2.upd H a o) := fun c u n e => by rw [upd_ne (fun z : c = a => n (by rw [z]; exact h))]; exact e
/-- the tables stand where only other things change -/
theorem Tabs.fr {T : List (Addr × Str)} {fp : List Addr} {H H' : Hp} (t : Tabs T H) (n : ∀ c ∈ fp, ∀ o, H c = some o → (∀ ps, o ≠ .tbl ps) ∧ ∀ φ, o ≠ .ext φ) (f : Fr1 fp H H') : Tabs T H' := fun p hp => by
  obtain ⟨ps, h1, h2, h3⟩ := t p hp
  have k : ∀ c o, H c = some o → ((∃ ps, o = .tbl ps) ∨ ∃ φ, o = .ext φ) → H' c = some o := fun c o e z => f c o (fun m => by
    have := n c m o e
    rcases z with ⟨ps, z⟩ | ⟨φ, z⟩
    · exact this.1 ps z
    · exact this.2 φ z) e
  refine ⟨ps, k _ _ h1 (.inl ⟨_, rfl⟩), h2, fun pos cv hc => ?_⟩
  obtain ⟨c, e1, e2⟩ := h3 pos cv hc
  exact ⟨c, e1, k _ _ e2 (.inr ⟨_, rfl⟩)⟩
theorem Tabs.same {T : List (Addr × Str)} {H H' : Hp} (t : Tabs T H) (s : Same H H') : Tabs T H' := t.ext s
end RS
namespace RS
open PySem PySem.Spec L2 PyProof.Rows
section
variable {g : Wd} {X : Cx} {K : PySem.W.Frag} {C : Addr} {e o i f value : Expr} {ta te tv td ty tx : TE} {p pos apos cpos tpos : Pos} {k : Nat}
def tListGen (C : Addr) (m : Str) (sp : SpG) (ta : TE) : TE := fun σ H Q => ta σ H fun x H1 => ∃ a dx fs, x = .ref a ∧ H1 a = some (.ins C dx fs) ∧ fs.lookup m = none ∧ sp [.ref a] H1 (fun out H2 => ∀ p, H2 p = none → Q (.ref p) (upd H2 p (.lst out))) (fun _ _ _ => False)
end
end RS
namespace RS
open PySem PySem.Spec L2 PyProof.Rows
section
variable {X : Cx} {k : Nat}
/-- d != {} -/
def rNeD0 : R2 := fun x y H Q => ∃ a b ks, x = .ref a ∧ y = .ref b ∧ H a = some (.dK ks) ∧ H b = some (.dK []) ∧ Q (.bl (!ks.isEmpty)) H
/-- int(x): of an int, of a truth value, of a text -/
def rIntA : List V → Hp → VK → Prop := fun xs H Q => ((∃ i, xs = [.int i] ∧ Q (.int i) H) ∨ ∃ k, xs = [.bl k] ∧ Q (.int (if k then 1 else 0)) H) ∨ ∃ a n, xs = [.str a] ∧ PySem.intText? a = some n ∧ a.length ≤ 640 ∧ Q (.int n) H
theorem c_intA : CallR X (.type "int") rIntA := fun pins s σ H xs us Q I r h => h.elim (call_int1 pins s σ H xs us Q I r) (call_int_str pins s σ H xs us Q I r)
theorem intA_i {i : Int} {H : Hp} {Q : VK} : rIntA [.int i] H Q = Q (.int i) H := by
  refine propext ⟨fun h => ?_, fun q => .inl (.inl ⟨i, rfl, q⟩)⟩
  rcases h with (⟨j, e, q⟩ | ⟨k, e, q⟩) | ⟨a, n, e, _⟩
  · cases e; exact q
  · cases e
  · cases e
theorem intA_b {b : Bool} {H : Hp} {Q : VK} : rIntA [.bl b] H Q = Q (.int (if b then 1 else 0)) H := by
  refine propext ⟨fun h => ?_, fun q => .inl (.inr ⟨b, rfl, q⟩)⟩
  rcases h with (⟨j, e, q⟩ | ⟨k, e, q⟩) | ⟨a, n, e, _⟩
  · cases e
  · cases e; exact q
  · cases e
end
end RS
namespace RS
open PySem PySem.Spec L2 PyProof.Rows
section
variable {g : Wd} {X : Cx} {k : Nat} {C : Addr} {ps : List Str} {sp : Sp} {W : WX} {p pos apos : Pos} {o e : Expr} {es : List Expr} {ta : TE} {tp : TA}
def tMethP (C : Addr) (m : Str) (np n : Nat) (sp : Sp) (pm : List Nat) (dvs : List V) (W : WX) (ta : TE) (tp t : TA) : TE := fun σ H Q => ta σ H fun x H1 => ∃ q dx fs, x = .ref q ∧ H1 q = some (.ins C dx fs) ∧ fs.lookup m = none ∧
  tp σ H1 fun us H2 => t σ H2 fun zs H3 => us.length = np ∧ zs.length = n ∧ sp (.ref q :: us ++ (pm.map fun i => zs.getD i .non) ++ dvs) H3 Q (fun c d H' => W c d σ H')
end
end RS
namespace RS
open PySem PySem.Spec L2 LamX
theorem FnAtC.of {K : PySem.W.Frag} {C f : Addr} {m : Str} (h : PySem.W.findIn K (.ref C) m = some (some (.ref f))) (h2 : PySem.W.fnIn K f = true) : FnAtC K C m := fun f' e => by
  rw [h] at e
  cases e
  exact h2
end RS
namespace RS
open PySem PySem.Spec L2
section
variable {g : Wd} {X : Cx} {k : Nat} {C : Addr} {sp : Sp} {W : WX} {m : Str} {p pos apos : Pos} {o e : Expr} {es : List Expr} {ta : TE} {t : TA}
def tMethS (C : Addr) (m : Str) (sp : Sp) (W : WX) (ta : TE) (t : TA) : TE := fun σ H Q => ta σ H fun x H1 => ∃ a dx fs, x = .ref a ∧ H1 a = some (.ins C dx fs) ∧ fs.lookup m = none ∧
  t σ H1 fun vs H2 => sp (x :: vs) H2 Q (fun c d H' => W c d σ H')
end
end RS
namespace RS
open PySem PySem.Spec L2 PyProof.Rows LamX
/-- one parameter p of its own, else captured names and globals -/
structure LamD (p : Str) (sc scope : Scope) : Prop where
  kind : scope.kind = .function
  co : scope.isCoroutine = false
  gen : scope.isGenerator = false
  par : scope.names.lookup p = some .local
  own : ∀ y ∈ scope.names, (y.2 = .local → y.1 = p) ∧ y.2 ≠ .cell
  free : ∀ y ∈ scope.names, y.2 = .free → sc.names.lookup y.1 = some .cell ∨ sc.names.lookup y.1 = some .free
theorem LamD.has {p : Str} {X : Cx} {scope : Scope} (L : LamD p X.env.scope scope) (ok : X.Ok) : ∀ y ∈ scope.names, y.2 = .free → ∃ c, X.env.cells.lookup y.1 = some c := fun y hy e => by
  rcases L.free y hy e with k | k
  · exact ok.has _ (.inl k)
  · exact ok.has _ (.inr k)
end RS
namespace RS
open PySem PySem.Spec L2 PyProof.Rows ClX
section
variable {g : Wd} {X : Cx} {k : Nat} {f C q : Addr} {sp : Sp} {W : WX} {m : Str} {o e : Expr} {es : List Expr} {pos apos : Pos} {ta : TE} {t : TA} {pl : Sem Bool}
/-- e.m(..), e the class at C -/
def tCMethS (C : Addr) (sp : Sp) (W : WX) (ta : TE) (t : TA) : TE := fun σ H Q => ta σ H fun x H1 => x = .ref C ∧ t σ H1 fun vs H2 => sp (.ref C :: vs) H2 Q (fun c d H' => W c d σ H')
end
end RS
namespace RS
open PySem PySem.Spec L2 PyProof.Rows ClX
end RS
namespace RS
open PySem PySem.Spec L2 PyProof.Rows ClX
end RS
namespace RS
open PySem PySem.Spec L2 PyProof.Rows
end RS
namespace RS
open PySem PySem.Spec L2 PyProof.Rows ClX
end RS
namespace RS
open PySem PySem.Spec L2 PyProof.Rows
end RS
namespace RS
open PySem PySem.Spec L2 PyProof.Rows GenW
open Sem (wp)
/-- it looks the same, but cannot be woken -/
def dullOf : GenState → GenState
  | .suspended _ l c p fs cl => .suspended (fun _ => .unsupported "") l c p fs cl
  | x => x
def isSusp : GenState → Bool
  | .suspended .. => true
  | _ => false
/-- no generator's frame among its frames -/
def ngf : GenState → Prop
  | .suspended _ _ _ _ fs _ => splitAtGen fs = none
  | _ => True
def ngfE : End → Prop
  | .susp _ _ _ _ _ _ fs => splitAtGen fs = none
  | .ret _ => True
theorem ngf_state {e : End} (h : ngfE e) : ngf e.genState := by
  cases e with
  | ret r => trivial
  | susp v g l k c p fs => exact h
theorem dull_seen (x : GenState) : (dullOf x).seen = x.seen := by cases x <;> rfl
theorem dull_bare (x : GenState) : (dullOf x).bare = x.bare := by cases x <;> rfl
theorem split_cons {F : Frame} {fs : List Frame} (h : splitAtGen (F :: fs) = none) : splitAtGen fs = none ∧ ∀ g k l c p, F ≠ .gen g k l c p := by
  cases F with
  | gen g k l c p => cases h
  | ret k h' g l c p kp =>
    refine ⟨?_, fun _ _ _ _ _ z => by cases z⟩
    have h : (splitAtGen fs).map (fun (fs', b, r) => (Frame.ret k h' g l c p kp :: fs', b, r)) = none := h
    cases e : splitAtGen fs with
    | none => rfl
    | some x => rw [e] at h; cases h
theorem split_ret {fs : List Frame} {k h g l c p kp} (e : splitAtGen fs = none) : splitAtGen (.ret k h g l c p kp :: fs) = none := by
  show (splitAtGen fs).map _ = none
  rw [e]; rfl
theorem split_app : ∀ {fs gs : List Frame}, splitAtGen fs = none → splitAtGen gs = none → splitAtGen (fs ++ gs) = none
  | [], _, _, h => h
  | .gen .. :: _, _, h, _ => by cases h
  | .ret .. :: fs, gs, h, h2 => split_ret (split_app (split_cons h).1 h2)
/-- what is stuck ends nowhere -/
theorem no_unsup {M : Model} {wh : String} {Γ : PySem.Ctx} {p : Pos} {t : Sem PySem.Fin} {fs : List Frame} {s s' : Shared} {e : End} (r : Runs M Γ p t fs s e s') : t ≠ .unsupported wh := by
  induction r <;> first | (intro z; cases z; done) | assumption
def mend (Z : Nat → Option GenState) (G : Array GenState) : Array GenState := G.mapIdx fun i x => (Z i).getD x
theorem mend_size (Z : Nat → Option GenState) (G : Array GenState) : (mend Z G).size = G.size := by simp [mend]
theorem mend_get (Z : Nat → Option GenState) (G : Array GenState) (i : Nat) : (mend Z G)[i]? = G[i]?.map fun x => (Z i).getD x := by
  simp [mend, Array.getElem?_mapIdx]
theorem arr_ext {G G' : Array GenState} (h : ∀ i : Nat, G[i]? = G'[i]?) : G = G' := Array.ext_getElem? h
theorem mend_push {Z : Nat → Option GenState} {G : Array GenState} {x : GenState} (h : Z G.size = none) : mend Z (G.push x) = (mend Z G).push x := by
  refine arr_ext fun i => ?_
  rw [mend_get, Array.getElem?_push, Array.getElem?_push, mend_size, mend_get]
  by_cases e : i = G.size
  · rw [if_pos e, if_pos e, e, Option.map_some, h]; rfl
  · rw [if_neg e, if_neg e]
theorem mend_set {Z : Nat → Option GenState} {G : Array GenState} {i : Nat} {x : GenState} (h : Z i = none) : mend Z (G.setIfInBounds i x) = (mend Z G).setIfInBounds i x := by
  refine arr_ext fun j => ?_
  rw [mend_get, Array.getElem?_setIfInBounds, Array.getElem?_setIfInBounds, mend_size, mend_get]
  by_cases e : i = j
  · rw [if_pos e, if_pos e]
    subst e
    by_cases l : i < G.size
    · simp [l, h]
    · simp [l]
  · rw [if_neg e, if_neg e]
/-- the held places are dull, the others hold no generator's frame -/
structure Held (Z : Nat → Option GenState) (G : Array GenState) : Prop where
  at_ : ∀ i z, Z i = some z → isSusp z = true ∧ G[i]? = some (dullOf z)
  free : ∀ (i : Nat) (x : GenState), Z i = none → G[i]? = some x → ngf x
theorem Held.out {Z : Nat → Option GenState} {G : Array GenState} (h : Held Z G) : Z G.size = none := by
  cases e : Z G.size with
  | none => rfl
  | some z => have := (h.at_ _ z e).2; simp at this
theorem Held.push {Z : Nat → Option GenState} {G : Array GenState} (h : Held Z G) {x : GenState} (hx : ngf x) : Held Z (G.push x) := by
  refine ⟨fun i z e => ⟨(h.at_ i z e).1, ?_⟩, fun i y e q => ?_⟩
  · rw [Array.getElem?_push, if_neg (fun w => by rw [w, h.out] at e; cases e)]
    exact (h.at_ i z e).2
  · rw [Array.getElem?_push] at q
    split at q
    · cases q; exact hx
    · exact h.free i y e q
theorem Held.set {Z : Nat → Option GenState} {G : Array GenState} (h : Held Z G) {j : Nat} {x : GenState} (hj : Z j = none) (hx : ngf x) : Held Z (G.setIfInBounds j x) := by
  refine ⟨fun i z e => ⟨(h.at_ i z e).1, ?_⟩, fun i y e q => ?_⟩
  · rw [Array.getElem?_setIfInBounds, if_neg (fun w => by rw [w, e] at hj; cases hj)]
    exact (h.at_ i z e).2
  · rw [Array.getElem?_setIfInBounds] at q
    split at q
    · split at q
      · cases q; exact hx
      · cases q
    · exact h.free i y e q
def mendS (Z : Nat → Option GenState) (s : Shared) : Shared := { s with gens := mend Z s.gens }
theorem mendS_set {Z : Nat → Option GenState} {s : Shared} {i : Nat} {x : GenState} (h : Z i = none) : mendS Z (s.setGen i x) = (mendS Z s).setGen i x := by
  show ({ s with gens := _ } : Shared) = { s with gens := _ }
  congr 1
  exact mend_set h
/-- the place of what is no dull one is free -/
theorem Held.no {Z : Nat → Option GenState} {G : Array GenState} (h : Held Z G) {i : Nat} {x : GenState} (e : G[i]? = some x) (n : isSusp x = false) : Z i = none ∧ (mend Z G)[i]? = some x := by
  have hz : Z i = none := by
    cases q : Z i with
    | none => rfl
    | some z =>
      obtain ⟨h1, h2⟩ := h.at_ i z q
      rw [e] at h2
      cases h2
      cases z <;> simp [isSusp, dullOf] at h1 n
  exact ⟨hz, by rw [mend_get, e, Option.map_some, hz]; rfl⟩
theorem Held.seen {Z : Nat → Option GenState} {G : Array GenState} (h : Held Z G) {i : Nat} {x : GenState} (e : G[i]? = some x) : ∃ x', (mend Z G)[i]? = some x' ∧ x'.seen = x.seen := by
  refine ⟨(Z i).getD x, by rw [mend_get, e]; rfl, ?_⟩
  cases q : Z i with
  | none => rfl
  | some z =>
    have := (h.at_ i z q).2
    rw [e] at this
    cases this
    exact (dull_seen z).symm
theorem mendS_push {Z : Nat → Option GenState} {s : Shared} {x : GenState} (h : Z s.gens.size = none) : mendS Z { s with gens := s.gens.push x } = { mendS Z s with gens := (mendS Z s).gens.push x } := by
  show ({ s with gens := _ } : Shared) = { s with gens := _ }
  congr 1
  exact mend_push h
/-- THE REPLAY -/
theorem replay {M : Model} {Z : Nat → Option GenState} {Γ : PySem.Ctx} {p : Pos} {t : Sem PySem.Fin} {fs : List Frame} {s s' : Shared} {e : End} (r : Runs M Γ p t fs s e s') :
    splitAtGen fs = none → Held Z s.gens → Held Z s'.gens ∧ ngfE e ∧ Runs M Γ p t fs (mendS Z s) e (mendS Z s') := by
  induction r with
  | done => exact fun _ h => ⟨h, trivial, .done⟩
  | raise => exact fun _ h => ⟨h, trivial, .raise⟩
  | again q _ ih => exact fun f h => ⟨(ih f h).1, (ih f h).2.1, .again q (ih f h).2.2⟩
  | rule _ ih => exact fun f h => ⟨(ih f h).1, (ih f h).2.1, .rule (ih f h).2.2⟩
  | «at» _ ih => exact fun f h => ⟨(ih f h).1, (ih f h).2.1, .at (ih f h).2.2⟩
  | load e _ ih => exact fun f h => ⟨(ih f h).1, (ih f h).2.1, .load e (ih f h).2.2⟩
  | update e _ ih => exact fun f h => ⟨(ih f h).1, (ih f h).2.1, .update e (ih f h).2.2⟩
  | loadIfAlive _ ih => exact fun f h => ⟨(ih f h).1, (ih f h).2.1, .loadIfAlive (ih f h).2.2⟩
  | point _ ih => exact fun f h => ⟨(ih f h).1, (ih f h).2.1, .point (ih f h).2.2⟩
  | alloc _ ih => exact fun f h => ⟨(ih f h).1, (ih f h).2.1, .alloc (ih f h).2.2⟩
  | fresh _ ih => exact fun f h => ⟨(ih f h).1, (ih f h).2.1, .fresh (ih f h).2.2⟩
  | ask _ ih => exact fun f h => ⟨(ih f h).1, (ih f h).2.1, .ask (ih f h).2.2⟩
  | choose q _ ih => exact fun f h => ⟨(ih f h).1, (ih f h).2.1, .choose q (ih f h).2.2⟩
  | os _ ih => exact fun f h => ⟨(ih f h).1, (ih f h).2.1, .os (ih f h).2.2⟩
  | handled _ ih => exact fun f h => ⟨(ih f h).1, (ih f h).2.1, .handled (ih f h).2.2⟩
  | stack _ ih => exact fun f h => ⟨(ih f h).1, (ih f h).2.1, .stack (ih f h).2.2⟩
  | thread _ ih => exact fun f h => ⟨(ih f h).1, (ih f h).2.1, .thread (ih f h).2.2⟩
  | genState e1 _ ih =>
    intro f h
    obtain ⟨st', hm, es⟩ := h.seen e1
    refine ⟨(ih f h).1, (ih f h).2.1, .genState hm ?_⟩
    rw [es]
    exact (ih f h).2.2
  | newGen _ ih =>
    intro f h
    obtain ⟨a, b, q⟩ := ih f (h.push trivial)
    refine ⟨a, b, .newGen ?_⟩
    rw [mendS_push h.out] at q
    rw [show (mendS Z _).gens.size = _ from mend_size _ _]
    exact q
  | call _ _ ih1 ih2 =>
    intro f h
    obtain ⟨a1, _, q1⟩ := ih1 rfl h
    obtain ⟨a2, b2, q2⟩ := ih2 f a1
    exact ⟨a2, b2, .call q1 q2⟩
  | callSusp _ ih =>
    intro f h
    obtain ⟨a, b, q⟩ := ih rfl h
    exact ⟨a, split_app b (split_ret rfl), .callSusp q⟩
  | yield => exact fun _ h => ⟨h, rfl, .yield⟩
  | @resumeFresh Γ p g l k s c e₁ s₁ e s' e1 _ hq _ ih1 ih2 =>
    intro f h
    obtain ⟨hz, hm⟩ := h.no e1 rfl
    obtain ⟨a1, b1, q1⟩ := ih1 rfl (h.set hz trivial)
    obtain ⟨a2, b2, q2⟩ := ih2 f (a1.set hz (ngf_state b1))
    rw [mendS_set hz] at q1 q2
    exact ⟨a2, b2, .resumeFresh hm q1 hq q2⟩
  | @resumeSuspended Γ p g rr l k s k₀ l₀ c₀ p₀ fs cl e₁ s₁ e s' e1 r1 hq _ ih1 ih2 =>
    intro f h
    cases hz : Z g with
    | some z =>
      obtain ⟨h1, h2⟩ := h.at_ g z hz
      rw [e1] at h2
      cases z with
      | suspended k' l' c' p' fs' cl' =>
        have h3 := Option.some.inj h2
        injection h3 with h4
        rw [h4] at r1
        exact absurd rfl (no_unsup (wh := "") r1)
      | _ => simp [isSusp] at h1
    | none =>
      have hm : (mend Z s.gens)[g]? = some (.suspended k₀ l₀ c₀ p₀ fs cl) := by rw [mend_get, e1, Option.map_some, hz]; rfl
      obtain ⟨a1, b1, q1⟩ := ih1 (h.free g _ hz e1) (h.set hz trivial)
      obtain ⟨a2, b2, q2⟩ := ih2 f (a1.set hz (ngf_state b1))
      rw [mendS_set hz] at q1 q2
      exact ⟨a2, b2, .resumeSuspended hm q1 hq q2⟩
  | resumeJustStarted e1 hv _ ih =>
    intro f h
    obtain ⟨hz, hm⟩ := h.no e1 rfl
    exact ⟨(ih f h).1, (ih f h).2.1, .resumeJustStarted hm hv (ih f h).2.2⟩
  | resumeThrowFresh e1 _ ih =>
    intro f h
    obtain ⟨hz, hm⟩ := h.no e1 rfl
    obtain ⟨a, b, q⟩ := ih f (h.set hz trivial)
    rw [mendS_set hz] at q
    exact ⟨a, b, .resumeThrowFresh hm q⟩
  | resumeRunning e1 _ ih =>
    intro f h
    obtain ⟨hz, hm⟩ := h.no e1 rfl
    exact ⟨(ih f h).1, (ih f h).2.1, .resumeRunning hm (ih f h).2.2⟩
  | resumeFinished e1 _ ih =>
    intro f h
    obtain ⟨hz, hm⟩ := h.no e1 rfl
    exact ⟨(ih f h).1, (ih f h).2.1, .resumeFinished hm (ih f h).2.2⟩
  | segRet _ _ ih1 ih2 =>
    intro f h
    obtain ⟨a1, _, q1⟩ := ih1 rfl h
    obtain ⟨a2, b2, q2⟩ := ih2 (split_cons f).1 a1
    exact ⟨a2, b2, .segRet q1 q2⟩
  | segGen _ _ _ _ => intro f; cases f
  | segSuspOut f1 _ ih =>
    intro f h
    obtain ⟨a, b, q⟩ := ih rfl h
    exact ⟨a, split_app b f, .segSuspOut f1 q⟩
  | segSuspGen f1 _ _ _ _ _ => intro f; rw [f] at f1; cases f1
theorem wakes_mend {M : Model} {Z : Nat → Option GenState} {Γ : PySem.Ctx} {p : Pos} {g : Nat} {r : Resume} {s s' : Shared} {res : GenResult} (h : Held Z s.gens) (w : Wakes M Γ p g r s res s') :
    Held Z s'.gens ∧ Wakes M Γ p g r (mendS Z s) res (mendS Z s') := by
  cases e : s.gens[g]? with
  | none => unfold Wakes at w; rw [e] at w; exact w.elim
  | some x =>
    unfold Wakes at w ⊢
    rw [e] at w
    cases x with
    | fresh c =>
      obtain ⟨hz, hm⟩ := h.no e rfl
      rw [show (mendS Z s).gens[g]? = _ from hm]
      cases r with
      | throw x =>
        obtain ⟨w1, w2⟩ := w
        subst w2
        exact ⟨h.set hz trivial, w1, mendS_set hz⟩
      | send v =>
        cases v with
        | none =>
          obtain ⟨e1, s1, r1, q1, w1, w2⟩ := w
          subst w2
          obtain ⟨a, b, c1⟩ := replay r1 rfl (h.set hz trivial)
          rw [mendS_set hz] at c1
          exact ⟨a.set hz (ngf_state b), e1, _, c1, q1, w1, mendS_set hz⟩
        | _ => obtain ⟨w1, w2⟩ := w; subst w2; exact ⟨h, w1, rfl⟩
    | suspended k₀ l₀ c₀ p₀ fs cl =>
      obtain ⟨e1, s1, r1, q1, w1, w2⟩ := w
      cases hz : Z g with
      | some z =>
        obtain ⟨h1, h2⟩ := h.at_ g z hz
        rw [e] at h2
        cases z with
        | suspended k' l' c' p' fs' cl' =>
          have h3 := Option.some.inj h2
          injection h3 with h4
          rw [h4] at r1
          exact absurd rfl (no_unsup (wh := "") r1)
        | _ => simp [isSusp] at h1
      | none =>
        have hm : (mend Z s.gens)[g]? = some (.suspended k₀ l₀ c₀ p₀ fs cl) := by rw [mend_get, e, Option.map_some, hz]; rfl
        rw [show (mendS Z s).gens[g]? = _ from hm]
        obtain ⟨a, b, c1⟩ := replay r1 (h.free g _ hz e) (h.set hz trivial)
        rw [mendS_set hz] at c1
        subst w2
        exact ⟨a.set hz (ngf_state b), e1, _, c1, q1, w1, mendS_set hz⟩
    | running =>
      obtain ⟨hz, hm⟩ := h.no e rfl
      rw [show (mendS Z s).gens[g]? = _ from hm]
      obtain ⟨w1, w2⟩ := w
      subst w2
      exact ⟨h, w1, rfl⟩
    | finished =>
      obtain ⟨hz, hm⟩ := h.no e rfl
      rw [show (mendS Z s).gens[g]? = _ from hm]
      obtain ⟨w1, w2⟩ := w
      subst w2
      exact ⟨h, w1, rfl⟩
/-- what holds behind the dull run holds, mended -/
def Mended {α : Type} (Z : Nat → Option GenState) (Q : α → Pos → Shared → Prop) : α → Pos → Shared → Prop := fun a p s' => ∃ s1, Held Z s1.gens ∧ s' = mendS Z s1 ∧ Q a p s1
theorem wp_mend {α : Type} (M : Model) (Γ : PySem.Ctx) (Z : Nat → Option GenState) (t : Sem α) : ∀ (Q : α → Pos → Shared → Prop) (E : Value → Pos → Shared → Prop) (p : Pos) (s : Shared), Held Z s.gens → wp M Γ t Q E p s → wp M Γ t (Mended Z Q) (Mended Z E) p (mendS Z s) := by
  induction t with
  | pure a => intro Q E p s hn h; exact ⟨s, hn, rfl, h⟩
  | raise e => intro Q E p s hn h; exact ⟨s, hn, rfl, h⟩
  | unsupported _ => intro Q E p s _ h; exact h
  | finish _ => intro Q E p s _ h; exact h
  | rule _ k ih => intro Q E p s hn h; exact ih () Q E p s hn h
  | «at» p' k ih => intro Q E p s hn h; exact ih () Q E p' s hn h
  | load a _ k ih => intro Q E p s hn h; obtain ⟨o, ho, h⟩ := h; exact ⟨o, ho, ih o Q E p s hn h⟩
  | update a _ f k ih => intro Q E p s hn h; exact ⟨h.1, ih () Q E p { s with heap := s.heap.update a f } hn h.2⟩
  | loadIfAlive a k ih => intro Q E p s hn h; exact ih _ Q E p s hn h
  | point _ k ih => intro Q E p s hn h; exact ih () Q E p s hn h
  | register _ _ => intro Q E p s _ h; exact h
  | alloc o k ih => intro Q E p s hn h; exact ih _ Q E p { s with heap := s.heap.push o } hn h
  | fresh k ih => intro Q E p s hn h; exact ih _ Q E p { s with toks := s.toks + 1 } hn h
  | ask k ih => intro Q E p s hn h; exact ih _ Q E p s hn h
  | choose src m k ih => intro Q E p s hn h; exact ⟨h.1, ih _ Q E p { s with drawn := s.drawn.bump src } hn h.2⟩
  | os q _ k ih => intro Q E p s hn h; exact ih _ Q E p { s with os := (Os.step s.os q).1 } hn h
  | call c hd _ _ k ih =>
    intro Q E p s hn h
    obtain ⟨r, s', hr, h⟩ := h
    obtain ⟨a, _, q⟩ := replay hr rfl hn
    exact ⟨r, mendS Z s', q, ih r Q E p s' a h⟩
  | handled own k ih => intro Q E p s hn h; exact ih _ Q E p s hn h
  | genState g k ih =>
    intro Q E p s hn h
    obtain ⟨st, hs, h⟩ := h
    obtain ⟨st', hm, es⟩ := hn.seen hs
    exact ⟨st', hm, by rw [es]; exact ih _ Q E p s hn h⟩
  | newGen c k ih =>
    intro Q E p s hn h
    have q := ih _ Q E p _ (hn.push (x := .fresh c) trivial) h
    rw [mendS_push hn.out] at q
    show wp M Γ (k (mendS Z s).gens.size) _ _ p _
    rw [show (mendS Z s).gens.size = s.gens.size from mend_size _ _]
    exact q
  | resume g r _ k ih =>
    intro Q E p s hn h
    obtain ⟨res, s', hw, h⟩ := h
    obtain ⟨a, q⟩ := wakes_mend hn hw
    exact ⟨res, mendS Z s', q, ih res Q E p s' a h⟩
  | yield _ _ _ _ => intro Q E p s _ h; exact h
  | stack k ih => intro Q E p s hn h; exact ih _ Q E p s hn h
  | fork _ _ => intro Q E p s _ h; exact h
  | thread k ih => intro Q E p s hn h; exact ih _ Q E p s hn h
  | await _ _ _ _ _ => intro Q E p s _ h; exact h
/-- the places to be held: g's, and those that hold a generator's frame -/
def Zof (G : Array GenState) (g : Nat) : Nat → Option GenState := fun i => match G[i]? with
  | some (.suspended k l c p fs cl) => if i = g ∨ (splitAtGen fs).isSome then some (.suspended k l c p fs cl) else none
  | _ => none
def dullG (G : Array GenState) (g : Nat) : Array GenState := G.mapIdx fun i x => if (Zof G g i).isSome then dullOf x else x
theorem dullG_get (G : Array GenState) (g i : Nat) : (dullG G g)[i]? = G[i]?.map fun x => if (Zof G g i).isSome then dullOf x else x := by
  simp [dullG, Array.getElem?_mapIdx]
theorem zof_some {G : Array GenState} {g i : Nat} {z : GenState} (h : Zof G g i = some z) : isSusp z = true ∧ G[i]? = some z := by
  unfold Zof at h
  split at h
  · rename_i e
    split at h
    · cases h; exact ⟨rfl, e⟩
    · cases h
  · cases h
theorem zof_none {G : Array GenState} {g i : Nat} {x : GenState} (h : Zof G g i = none) (e : G[i]? = some x) : ngf x := by
  unfold Zof at h
  rw [e] at h
  cases x with
  | suspended k l c p fs cl =>
    simp only at h
    split at h
    · cases h
    · rename_i n
      show splitAtGen fs = none
      cases q : splitAtGen fs with
      | none => rfl
      | some y => exact absurd (.inr (by rw [q]; rfl)) n
  | _ => trivial
theorem held_dull (G : Array GenState) (g : Nat) : Held (Zof G g) (dullG G g) := by
  refine ⟨fun i z h => ?_, fun i x h e => ?_⟩
  · obtain ⟨h1, h2⟩ := zof_some h
    exact ⟨h1, by rw [dullG_get, h2, Option.map_some, h]; rfl⟩
  · rw [dullG_get] at e
    cases q : G[i]? with
    | none => rw [q] at e; cases e
    | some y =>
      rw [q, Option.map_some, h] at e
      cases e
      exact zof_none h q
theorem mend_dull (G : Array GenState) (g : Nat) : mend (Zof G g) (dullG G g) = G := by
  refine arr_ext fun i => ?_
  rw [mend_get, dullG_get]
  cases q : G[i]? with
  | none => rfl
  | some y =>
    rw [Option.map_some, Option.map_some]
    cases z : Zof G g i with
    | none => rfl
    | some w =>
      have := (zof_some z).2
      rw [q] at this
      cases this
      rfl
theorem bare_iff {G : Array GenState} : AllBare G ↔ ∀ (i : Nat) (x : GenState), G[i]? = some x → x.bare = true := by
  refine ⟨fun h i x e => h x (Array.mem_of_getElem? e), fun h x m => ?_⟩
  obtain ⟨i, hi, e⟩ := Array.mem_iff_getElem.mp m
  exact h i x (by rw [Array.getElem?_eq_getElem hi, e])
theorem bare_dull {G : Array GenState} {g : Nat} (h : AllBare G) : AllBare (dullG G g) := bare_iff.mpr fun i x e => by
  rw [dullG_get] at e
  cases q : G[i]? with
  | none => rw [q] at e; cases e
  | some y =>
    rw [q, Option.map_some] at e
    have hy := bare_iff.mp h i y q
    cases e
    split
    · rw [dull_bare]; exact hy
    · exact hy
theorem bare_mend {G G1 : Array GenState} {g : Nat} (h : AllBare G) (h1 : AllBare G1) : AllBare (mend (Zof G g) G1) := bare_iff.mpr fun i x e => by
  rw [mend_get] at e
  cases q : G1[i]? with
  | none => rw [q] at e; cases e
  | some y =>
    rw [q, Option.map_some] at e
    cases e
    cases z : Zof G g i with
    | none => exact bare_iff.mp h1 i y q
    | some w => exact bare_iff.mp h i w (zof_some z).2
/-- A SLEEPER IS KEPT: what is proved wherever the table is bare leaves g's place as it is -/
theorem asleep {α : Type} {M : Model} {A : Around} {t : Sem α} {Q : α → Shared → Prop} {E : Value → Shared → Prop} {s : Shared} {g : Nat} {gs : GenState} (hg : s.gens[g]? = some gs) (hs : isSusp gs = true) (hb : AllBare s.gens)
    (h : ∀ G, AllBare G → wpAny M A t Q E { s with gens := G }) :
    wpAny M A t (fun a s' => s'.gens[g]? = some gs ∧ ∃ G, Q a { s' with gens := G } ∧ (AllBare G → AllBare s'.gens)) (fun e s' => s'.gens[g]? = some gs ∧ ∃ G, E e { s' with gens := G } ∧ (AllBare G → AllBare s'.gens)) s := by
  intro Γ p hΓ
  have hz : Zof s.gens g g = some gs := by
    unfold Zof
    rw [hg]
    cases gs with
    | suspended k l c p fs cl => exact if_pos (.inl rfl)
    | _ => simp [isSusp] at hs
  have w := wp_mend M Γ (Zof s.gens g) t _ _ p { s with gens := dullG s.gens g } (held_dull s.gens g) (h _ (bare_dull hb) Γ p hΓ)
  have es : mendS (Zof s.gens g) { s with gens := dullG s.gens g } = s := by
    show ({ s with gens := mend (Zof s.gens g) (dullG s.gens g) } : Shared) = s
    rw [mend_dull]
  rw [es] at w
  have fin : ∀ {β : Type} {R : β → Shared → Prop} {b : β} {p' : Pos} {s' : Shared}, Mended (Zof s.gens g) (fun a _ s' => R a s') b p' s' → s'.gens[g]? = some gs ∧ ∃ G, R b { s' with gens := G } ∧ (AllBare G → AllBare s'.gens) := by
    rintro β R b p' s' ⟨s1, h1, rfl, q⟩
    refine ⟨?_, s1.gens, q, fun hb1 => bare_mend hb hb1⟩
    show (mend _ s1.gens)[g]? = _
    rw [mend_get, (h1.at_ g gs hz).2, Option.map_some, hz]
    rfl
  exact Sem.wp_mono M Γ t (fun a p' s' q => fin q) (fun e p' s' q => fin q) p s w
end RS
namespace RS
open PySem PySem.Spec L2 PyProof.Rows GenW
open Sem (wp)
theorem runs_one {M : Model} {Γ : PySem.Ctx} {p : Pos} {t : Sem PySem.Fin} {fs : List Frame} {s s' : Shared} {e : End} (r : Runs M Γ p t fs s e s') :
    ∀ {e2 : End} {s2 : Shared}, Runs M Γ p t fs s e2 s2 → e2 = e ∧ s2 = s' := by
  induction r with
  | done => intro e2 s2 q; cases q; exact ⟨rfl, rfl⟩
  | raise => intro e2 s2 q; cases q; exact ⟨rfl, rfl⟩
  | again _ _ ih => intro e2 s2 q; cases q with | again _ q => exact ih q
  | rule _ ih => intro e2 s2 q; cases q with | rule q => exact ih q
  | «at» _ ih => intro e2 s2 q; cases q with | «at» q => exact ih q
  | load e _ ih => intro e2 s2 q; cases q with | load e' q => rw [e] at e'; cases e'; exact ih q
  | update _ _ ih => intro e2 s2 q; cases q with | update _ q => exact ih q
  | loadIfAlive _ ih => intro e2 s2 q; cases q with | loadIfAlive q => exact ih q
  | point _ ih => intro e2 s2 q; cases q with | point q => exact ih q
  | alloc _ ih => intro e2 s2 q; cases q with | alloc q => exact ih q
  | fresh _ ih => intro e2 s2 q; cases q with | fresh q => exact ih q
  | ask _ ih => intro e2 s2 q; cases q with | ask q => exact ih q
  | choose _ _ ih => intro e2 s2 q; cases q with | choose _ q => exact ih q
  | os _ ih => intro e2 s2 q; cases q with | os q => exact ih q
  | handled _ ih => intro e2 s2 q; cases q with | handled q => exact ih q
  | genState e _ ih => intro e2 s2 q; cases q with | genState e' q => rw [e] at e'; cases e'; exact ih q
  | stack _ ih => intro e2 s2 q; cases q with | stack q => exact ih q
  | thread _ ih => intro e2 s2 q; cases q with | thread q => exact ih q
  | newGen _ ih => intro e2 s2 q; cases q with | newGen q => exact ih q
  | call _ _ ih1 ih2 =>
    intro e2 s2 q
    cases q with
    | call q1 q2 => obtain ⟨a, b⟩ := ih1 q1; cases a; subst b; exact ih2 q2
    | callSusp q1 => cases (ih1 q1).1
  | callSusp _ ih =>
    intro e2 s2 q
    cases q with
    | call q1 q2 => cases (ih q1).1
    | callSusp q1 => obtain ⟨a, b⟩ := ih q1; cases a; exact ⟨rfl, b⟩
  | yield => intro e2 s2 q; cases q; exact ⟨rfl, rfl⟩
  | resumeFresh e1 _ _ _ ih1 ih2 =>
    intro e2 s2 q
    cases q with
    | resumeFresh e1' q1 _ q2 => rw [e1] at e1'; cases e1'; obtain ⟨a, b⟩ := ih1 q1; cases a; subst b; exact ih2 q2
    | resumeSuspended e1' => rw [e1] at e1'; cases e1'
    | resumeJustStarted e1' hv => exact absurd rfl hv
    | resumeRunning e1' => rw [e1] at e1'; cases e1'
    | resumeFinished e1' => rw [e1] at e1'; cases e1'
  | resumeSuspended e1 _ _ _ ih1 ih2 =>
    intro e2 s2 q
    cases q with
    | resumeFresh e1' => rw [e1] at e1'; cases e1'
    | resumeSuspended e1' q1 _ q2 => rw [e1] at e1'; cases e1'; obtain ⟨a, b⟩ := ih1 q1; cases a; subst b; exact ih2 q2
    | resumeJustStarted e1' => rw [e1] at e1'; cases e1'
    | resumeThrowFresh e1' => rw [e1] at e1'; cases e1'
    | resumeRunning e1' => rw [e1] at e1'; cases e1'
    | resumeFinished e1' => rw [e1] at e1'; cases e1'
  | resumeJustStarted e1 hv _ ih =>
    intro e2 s2 q
    cases q with
    | resumeFresh e1' => exact absurd rfl hv
    | resumeSuspended e1' => rw [e1] at e1'; cases e1'
    | resumeJustStarted _ _ q => exact ih q
    | resumeRunning e1' => rw [e1] at e1'; cases e1'
    | resumeFinished e1' => rw [e1] at e1'; cases e1'
  | resumeThrowFresh e1 _ ih =>
    intro e2 s2 q
    cases q with
    | resumeSuspended e1' => rw [e1] at e1'; cases e1'
    | resumeThrowFresh _ q => exact ih q
    | resumeRunning e1' => rw [e1] at e1'; cases e1'
    | resumeFinished e1' => rw [e1] at e1'; cases e1'
  | resumeRunning e1 _ ih =>
    intro e2 s2 q
    cases q with
    | resumeFresh e1' => rw [e1] at e1'; cases e1'
    | resumeSuspended e1' => rw [e1] at e1'; cases e1'
    | resumeJustStarted e1' => rw [e1] at e1'; cases e1'
    | resumeThrowFresh e1' => rw [e1] at e1'; cases e1'
    | resumeRunning _ q => exact ih q
    | resumeFinished e1' => rw [e1] at e1'; cases e1'
  | resumeFinished e1 _ ih =>
    intro e2 s2 q
    cases q with
    | resumeFresh e1' => rw [e1] at e1'; cases e1'
    | resumeSuspended e1' => rw [e1] at e1'; cases e1'
    | resumeJustStarted e1' => rw [e1] at e1'; cases e1'
    | resumeThrowFresh e1' => rw [e1] at e1'; cases e1'
    | resumeRunning e1' => rw [e1] at e1'; cases e1'
    | resumeFinished _ q => exact ih q
  | segRet _ _ ih1 ih2 =>
    intro e2 s2 q
    cases q with
    | segRet q1 q2 => obtain ⟨a, b⟩ := ih1 q1; cases a; subst b; exact ih2 q2
    | segSuspOut _ q1 => cases (ih1 q1).1
    | segSuspGen _ q1 => cases (ih1 q1).1
  | segGen _ _ ih1 ih2 =>
    intro e2 s2 q
    cases q with
    | segGen q1 q2 => obtain ⟨a, b⟩ := ih1 q1; cases a; subst b; exact ih2 q2
    | segSuspOut _ q1 => cases (ih1 q1).1
    | segSuspGen _ q1 => cases (ih1 q1).1
  | segSuspOut f1 _ ih =>
    intro e2 s2 q
    cases q with
    | segRet q1 _ => cases (ih q1).1
    | segGen q1 _ => cases (ih q1).1
    | segSuspOut _ q1 => obtain ⟨a, b⟩ := ih q1; cases a; exact ⟨rfl, b⟩
    | segSuspGen f2 _ _ _ => rw [f1] at f2; cases f2
  | segSuspGen f1 _ _ _ ih1 ih2 =>
    intro e2 s2 q
    cases q with
    | segRet q1 _ => cases (ih1 q1).1
    | segGen q1 _ => cases (ih1 q1).1
    | segSuspOut f2 _ => rw [f1] at f2; cases f2
    | segSuspGen f2 q1 _ q2 => rw [f1] at f2; cases f2; obtain ⟨a, b⟩ := ih1 q1; cases a; subst b; exact ih2 q2
theorem wakes_one {M : Model} {Γ : PySem.Ctx} {p : Pos} {g : Nat} {r : Resume} {s s1 s2 : Shared} {a b : GenResult} (w : Wakes M Γ p g r s a s1) (w2 : Wakes M Γ p g r s b s2) : b = a ∧ s2 = s1 := by
  unfold Wakes at w w2
  cases e : s.gens[g]? with
  | none => rw [e] at w; exact w.elim
  | some x =>
    rw [e] at w w2
    cases x with
    | fresh c =>
      cases r with
      | throw y => exact ⟨w2.1.trans w.1.symm, w2.2.trans w.2.symm⟩
      | send v =>
        cases v with
        | none =>
          obtain ⟨e1, t1, r1, _, x1, y1⟩ := w
          obtain ⟨e2, t2, r2, _, x2, y2⟩ := w2
          obtain ⟨z1, z2⟩ := runs_one r1 r2
          subst z1 z2
          exact ⟨x2.trans x1.symm, y2.trans y1.symm⟩
        | _ => exact ⟨w2.1.trans w.1.symm, w2.2.trans w.2.symm⟩
    | suspended k l c p fs cl =>
      obtain ⟨e1, t1, r1, _, x1, y1⟩ := w
      obtain ⟨e2, t2, r2, _, x2, y2⟩ := w2
      obtain ⟨z1, z2⟩ := runs_one r1 r2
      subst z1 z2
      exact ⟨x2.trans x1.symm, y2.trans y1.symm⟩
    | running => exact ⟨w2.1.trans w.1.symm, w2.2.trans w.2.symm⟩
    | finished => exact ⟨w2.1.trans w.1.symm, w2.2.trans w.2.symm⟩
theorem wp_both {α : Type} (M : Model) (Γ : PySem.Ctx) (t : Sem α) : ∀ (Q Q' : α → Pos → Shared → Prop) (E E' : Value → Pos → Shared → Prop) (p : Pos) (s : Shared), wp M Γ t Q E p s → wp M Γ t Q' E' p s →
    wp M Γ t (fun a p s => Q a p s ∧ Q' a p s) (fun e p s => E e p s ∧ E' e p s) p s := by
  induction t with
  | pure a => exact fun _ _ _ _ _ _ h h' => ⟨h, h'⟩
  | raise e => exact fun _ _ _ _ _ _ h h' => ⟨h, h'⟩
  | unsupported _ => exact fun _ _ _ _ _ _ h _ => h
  | finish _ => exact fun _ _ _ _ _ _ h _ => h
  | rule _ k ih => exact fun _ _ _ _ _ _ h h' => ih () _ _ _ _ _ _ h h'
  | «at» p' k ih => exact fun _ _ _ _ _ _ h h' => ih () _ _ _ _ p' _ h h'
  | load a _ k ih =>
    rintro _ _ _ _ _ _ ⟨o, ho, h⟩ ⟨o', ho', h'⟩
    rw [ho] at ho'
    cases ho'
    exact ⟨o, ho, ih o _ _ _ _ _ _ h h'⟩
  | update a _ f k ih => exact fun _ _ _ _ _ _ h h' => ⟨h.1, ih () _ _ _ _ _ _ h.2 h'.2⟩
  | loadIfAlive a k ih => exact fun _ _ _ _ _ _ h h' => ih _ _ _ _ _ _ _ h h'
  | point _ k ih => exact fun _ _ _ _ _ _ h h' => ih () _ _ _ _ _ _ h h'
  | register _ _ => exact fun _ _ _ _ _ _ h _ => h
  | alloc o k ih => exact fun _ _ _ _ _ _ h h' => ih _ _ _ _ _ _ _ h h'
  | fresh k ih => exact fun _ _ _ _ _ _ h h' => ih _ _ _ _ _ _ _ h h'
  | ask k ih => exact fun _ _ _ _ _ _ h h' => ih _ _ _ _ _ _ _ h h'
  | choose src m k ih => exact fun _ _ _ _ _ _ h h' => ⟨h.1, ih _ _ _ _ _ _ _ h.2 h'.2⟩
  | os q _ k ih => exact fun _ _ _ _ _ _ h h' => ih _ _ _ _ _ _ _ h h'
  | call c hd _ _ k ih =>
    rintro _ _ _ _ _ _ ⟨r, s', hr, h⟩ ⟨r2, s2, hr2, h'⟩
    obtain ⟨a, b⟩ := runs_one hr hr2
    cases a
    subst b
    exact ⟨r, _, hr, ih r _ _ _ _ _ _ h h'⟩
  | handled own k ih => exact fun _ _ _ _ _ _ h h' => ih _ _ _ _ _ _ _ h h'
  | genState g k ih =>
    rintro _ _ _ _ _ _ ⟨st, hs, h⟩ ⟨st', hs', h'⟩
    rw [hs] at hs'
    cases hs'
    exact ⟨st, hs, ih _ _ _ _ _ _ _ h h'⟩
  | newGen c k ih => exact fun _ _ _ _ _ _ h h' => ih _ _ _ _ _ _ _ h h'
  | resume g r _ k ih =>
    rintro _ _ _ _ _ _ ⟨res, s', hw, h⟩ ⟨res', s2, hw', h'⟩
    obtain ⟨a, b⟩ := wakes_one hw hw'
    subst a b
    exact ⟨_, _, hw, ih _ _ _ _ _ _ _ h h'⟩
  | yield _ _ _ _ => exact fun _ _ _ _ _ _ h _ => h
  | stack k ih => exact fun _ _ _ _ _ _ h h' => ih _ _ _ _ _ _ _ h h'
  | fork _ _ => exact fun _ _ _ _ _ _ h _ => h
  | thread k ih => exact fun _ _ _ _ _ _ h h' => ih _ _ _ _ _ _ _ h h'
  | await _ _ _ _ _ => exact fun _ _ _ _ _ _ h _ => h
theorem wpAny_both {α : Type} {M : Model} {A : Around} {t : Sem α} {Q Q' : α → Shared → Prop} {E E' : Value → Shared → Prop} {s : Shared} (h : wpAny M A t Q E s) (h' : wpAny M A t Q' E' s) :
    wpAny M A t (fun a s => Q a s ∧ Q' a s) (fun e s => E e s ∧ E' e s) s := fun Γ p hΓ => wp_both M Γ t _ _ _ _ p s (h Γ p hΓ) (h' Γ p hΓ)
/-- what is proved wherever the table is bare holds here, and the sleeper is kept -/
theorem kept_asleep {α : Type} {M : Model} {A : Around} {t : Sem α} {Q Q' : α → Shared → Prop} {E E' : Value → Shared → Prop} {s : Shared} {g : Nat} {gs : GenState} (hg : s.gens[g]? = some gs) (hs : isSusp gs = true) (hb : AllBare s.gens)
    (h : wpAny M A t Q E s) (h' : ∀ G, AllBare G → wpAny M A t Q' E' { s with gens := G }) : wpAny M A t (fun a s' => Q a s' ∧ s'.gens[g]? = some gs) E s :=
  wpAny_mono (wpAny_both h (asleep hg hs hb h')) (fun _ _ q => ⟨q.1, q.2.1⟩) fun _ _ q => q.1
end RS
namespace RS
open PySem PySem.Spec L2 PyProof.Rows GenW
open Sem (wp)
section
variable {M : Model} {A : Around} {R : GenEnd} {Y : Protocol} {n g : Nat} {E : Value → Shared → Prop} {s : Shared} {gs : GenState} {r : Resume}
/-- what is asleep goes on by its protocol -/
abbrev Kap (M : Model) (A : Around) (R : GenEnd) (Y : Protocol) (n : Nat) (gs : GenState) : Resume → Shared → Prop := fun r' s'' => match n with
  | 0 => False
  | m + 1 => gs.Goes M A R Y m r' s''
theorem wpAny_wakeS {l : List Value} {α : Type} {k : GenResult → Sem α} {Q : α → Shared → Prop} (hg : s.gens[g]? = some gs) (hgo : gs.Goes M A R Y n r (s.setGen g .running))
    (hR : ∀ x s₁, R n (s.setGen g .running) x s₁ → wpAny M A (k (End.ret x).result) Q E (s₁.setGen g .finished))
    (hY : ∀ v s₁ gs', gs'.bare = true → isSusp gs' = true → Y (n - 1) (s.setGen g .running) v s₁ (Kap M A R Y n gs') → wpAny M A (k (.yielded v)) Q E (s₁.setGen g gs')) :
    wpAny M A (.resume g r l k) Q E s := by
  intro Γ p hΓ
  rw [Sem.wp_resume]
  have go : ∀ e s1, SegEnd R Y n (Seg.next M A R Y n) (s.setGen g .running) e s1 → e.quiet = true ∧ wp M Γ (k e.result) (fun a _ s' => Q a s') (fun e _ s' => E e s') p (s1.setGen g e.genState) := by
    intro e s1 he
    cases e with
    | ret x => exact ⟨rfl, hR x s1 he Γ p hΓ⟩
    | susp v b l0 k0 c0 p0 fs0 =>
      refine ⟨he.1, hY v s1 _ (End.bare_of_quiet he.1) rfl ?_ Γ p hΓ⟩
      cases n with
      | zero => exact he.2
      | succ m => exact he.2
  have fin : ∀ c p1 t fs e s1, Runs M (Γ.wake c p) p1 t fs (s.setGen g .running) e s1 → SegEnd R Y n (Seg.next M A R Y n) (s.setGen g .running) e s1 →
      (Runs M (Γ.wake c p) p1 t fs (s.setGen g .running) e s1 → Wakes M Γ p g r s e.result (s1.setGen g e.genState)) → ∃ res s', Wakes M Γ p g r s res s' ∧ wp M Γ (k res) (fun a _ s' => Q a s') (fun e _ s' => E e s') p s' :=
    fun c p1 t fs e s1 hr he hw => ⟨_, _, hw hr, (go e s1 he).2⟩
  cases gs with
  | running => exact hgo.elim
  | finished => exact hgo.elim
  | fresh c =>
    obtain ⟨er, hs⟩ := hgo
    subst er
    obtain ⟨e, s1, hr, he⟩ := seg_iff.mp hs (Γ.wake c p) p rfl (hΓ.wake c p)
    refine fin c _ _ _ e s1 hr he fun hr => ?_
    unfold Wakes
    rw [hg]
    exact ⟨e, s1, hr, (go e s1 he).1, rfl, rfl⟩
  | suspended k0 l0 c0 p0 fs0 cl =>
    obtain ⟨e, s1, hr, he⟩ := seg_iff.mp hgo (Γ.wake c0 p) p0 rfl (hΓ.wake c0 p)
    refine fin c0 _ _ _ e s1 hr he fun hr => ?_
    unfold Wakes
    rw [hg]
    exact ⟨e, s1, hr, (go e s1 he).1, rfl, rfl⟩
end
end RS
namespace RS
open PySem PySem.Spec L2 PyProof.Rows GenW
def frontH (L : Nat) (h : Heap) : Heap := { h with objs := h.objs.extract 0 L }
theorem ext_get {α : Type} (xs : Array α) {L b : Nat} (lt : b < L) : (xs.extract 0 L)[b]? = xs[b]? := by
  rw [Array.getElem?_extract]
  by_cases z : b < xs.size
  · rw [if_pos (by omega), Nat.zero_add]
  · rw [if_neg (by omega), Array.getElem?_eq_none (by omega)]
theorem front_get {L : Nat} {h : Heap} {b : Addr} (lt : b < L) : (frontH L h).get? b = h.get? b := by
  unfold frontH Heap.get?
  simp only [ext_get h.objs (show (b : Nat) < L from lt)]
theorem ext_size {α : Type} (xs : Array α) (L : Nat) : (xs.extract 0 L).size = min L xs.size := by simp
theorem front_some {L : Nat} {h : Heap} {b : Addr} {o : Obj} (e : (frontH L h).get? b = some o) : b < L ∧ h.get? b = some o := by
  have lt : (b : Nat) < (h.objs.extract 0 L).size := Heap.lt_size e
  rw [ext_size] at lt
  have l3 : b < L := Nat.lt_of_lt_of_le lt (Nat.min_le_left _ _)
  exact ⟨l3, by rw [← front_get l3]; exact e⟩
theorem front_size {L : Nat} {h : Heap} (l : L ≤ h.objs.size) : (frontH L h).objs.size = L := (ext_size _ _).trans (Nat.min_eq_left l)
theorem front_le {L : Nat} {h : Heap} : (frontH L h).objs.size ≤ L := Nat.le_trans (Nat.le_of_eq (ext_size _ _)) (Nat.min_le_left _ _)
def tr (L : Nat) (s : Shared) : Shared := { s with heap := frontH L s.heap }
/-- the context of a generator's body, woken at s0 with the heap H0; nothing is raised out of it -/
@[reducible] def reX (X : Cx) (s0 : Shared) (H0 : Hp) : Cx := { X with s_0 := tr X.env.locals s0, H_0 := H0, xe := fun _ _ => False }
structure GKE where
  nx : Nat → L2.St → L2.St → Hp → Prop
  rt : Nat → L2.St → VK
  yl : Nat → L2.St → V → Hp → (L2.St → Hp → Prop) → Prop
  bk : Nat → L2.St → L2.St → Hp → Prop := fun _ _ _ _ => False
  ct : Nat → L2.St → L2.St → Hp → Prop := fun _ _ _ _ => False
def GKE.at (D : GKE) (i : Nat) (k : L2.St) : Ends := { nx := D.nx i k, rt := D.rt i k, bk := D.bk i k, ct := D.ct i k }
/-- what holds of the consumer where the generator is woken -/
abbrev LkR := Shared → L2.St → Hp → Prop
def LkL (X : Cx) (Lk : LkR) : LkR := fun s k H => X.env.locals ≤ s.heap.objs.size ∧ Lk s k H
def KSP (X : Cx) (ip : List (Addr × Obj)) (D : GKE) (i : Nat) (k : L2.St) (H0 : Hp) (s₀ : Shared) (f : Flow) (s : Shared) : Prop := match f with
  | .next => ∃ σ H, Inv (reX X s₀ H0) ip σ H s ∧ D.nx i k σ H
  | .brk => ∃ σ H, Inv (reX X s₀ H0) ip σ H s ∧ D.bk i k σ H
  | .cont => ∃ σ H, Inv (reX X s₀ H0) ip σ H s ∧ D.ct i k σ H
  | .ret u => ∃ v σ H, Inv (reX X s₀ H0) ip σ H s ∧ RelV v u ∧ D.rt i k v H
def KYp (X : Cx) (Lk : LkR) (yl : Nat → L2.St → V → Hp → (L2.St → Hp → Prop) → Prop) : Protocol := fun n s₀ v s kap =>
  ∃ i k H0 x ip σ H res, n + 1 + i = sizeLine ∧ RelV x v ∧ LkL X Lk s₀ k H0 ∧ Inv (reX X s₀ H0) ip σ H s ∧ yl i k x H res ∧
    ∀ k' H' s', LkL X Lk s' k' H' → Inv (reX X s' H') ip σ H' s' → res k' H' → kap (.send .none) s'
/-- where the generator's code stands -/
structure GKc (X : Cx) (A : Around) (c : Code) (fs : List Frame) (gd : Bool → Bool) : Prop where
  over : A.over c fs = X.A
  split : splitAtGen fs = none
  guard : fs.any Frame.guarded = false
  gd : gd false = false
theorem gkc_loop {X : Cx} {A : Around} {c c' : Code} {fs : List Frame} {gd : Bool → Bool} {k : Result → Sem PySem.Fin} {l kp : List Value} {p : Pos} (g : GKc X A c fs gd) (hw : c'.weight = 0) (hu : c'.cUnits = 0) :
    GKc X A c' (.ret k none (gd false) l c p kp :: fs) id :=
  ⟨(over_loop hw hu).trans g.over, split_ret g.split, by show (gd false || fs.any Frame.guarded) = false; rw [g.gd, g.guard]; rfl, rfl⟩
/-- what follows -/
def GKk (X : Cx) (Lk : LkR) (ip : List (Addr × Obj)) (A : Around) (R : GenEnd) (c : Code) (fs : List Frame) (K : Flow → Sem PySem.Fin) (D : GKE) : Prop :=
  ∀ (n i : Nat) (k : L2.St) (H0 : Hp) (s₀ s : Shared) (f : Flow), n + i = sizeLine → LkL X Lk s₀ k H0 → KSP X ip D i k H0 s₀ f s → Seg (model X.prog X.w) A R (KYp X Lk D.yl) n s₀ c (K f) fs s
end RS
namespace RS
open PySem PySem.Spec L2 PyProof.Rows GenW
/-- the generator's own things stand as they did, all else is as its consumer knows it: its context, begun anew -/
theorem rebase {X : Cx} {a : Shared} {b : Hp} {xe : Value → Shared → Prop} {ip : List (Addr × Obj)} {σ : L2.St} {H1 H4 : Hp} {s1 s4 : Shared} {A : Around} {oL : Obj} (I : Inv { X with s_0 := a, H_0 := b, xe := xe } ip σ H1 s1) (hc : X.env.cells = []) (hx : X.ex = [])
    (e0 : Env0 X.prog X.w X.K X.mg X.base A X.outer s4 H4) (hb : X.base.objs.size ≤ X.env.locals) (hL : s1.heap.get? X.env.locals = some oL) (hL4 : s4.heap.get? X.env.locals = some oL) (nL : H4 X.env.locals = none) (fr : ∀ c ∈ frs X.outer, c < X.env.locals)
    (hp : ∀ p ∈ X.pn ++ ip, s4.heap.get? p.1 = some p.2 ∧ H4 p.1 = none) : Inv (reX X s4 H4) ip σ H4 s4 := by
  have le : X.env.locals ≤ s4.heap.objs.size := Nat.le_of_lt (Heap.lt_size hL4)
  have noc : ∀ {x : Str} {c : Addr}, X.env.cells.lookup x = some c → False := fun {x c} e => by rw [hc] at e; cases e
  have exm : ∀ {c : Addr}, c ∈ X.ex → False := fun {c} m => by rw [hx] at m; cases m
  refine ⟨⟨e0.mod, I.ok.kind, I.ok.glob, I.ok.blt, front_le, I.ok.inj, I.ok.has, fun x c _ e => (noc e).elim, I.ok.hd, I.ok.frames, I.ok.stk, fun c m => (exm m).elim, fun c o e => ?_, ?_, fun c o e m => exm m, fun c m => (exm m).elim, ?_, e0.frf⟩,
    rfl, e0.bare, Un.kept fun c o e => (front_some e).2, ?_, fun x c e => (noc e).elim, nL, fun x c e => (noc e).elim, fun p hm => ?_, e0.hok, I.len⟩
  · have lt : c < X.env.locals := Nat.lt_of_lt_of_le (Heap.lt_size e) hb
    exact ⟨(front_get lt).trans (e0.bs c o e).1, (e0.bs c o e).2⟩
  · show X.base.objs.size ≤ (frontH X.env.locals s4.heap).objs.size
    rw [front_size le]; exact hb
  · have go : ∀ l : List Env, (∀ c ∈ frs l, c < X.env.locals) → s4.heap.FunFrames X.base l → (frontH X.env.locals s4.heap).FunFrames X.base l := by
      intro l
      induction l with
      | nil => exact fun _ _ => trivial
      | cons env rest ih =>
        intro hf h
        obtain ⟨hk, ⟨L, o, ef, hn, ho, hd⟩, hr⟩ := h
        have mem : ∀ c ∈ frs rest, c ∈ frs (env :: rest) := fun c m => by
          show c ∈ List.filterMap _ (env :: rest)
          rw [List.filterMap_cons, ef]
          exact List.mem_cons_of_mem _ m
        have mL : L ∈ frs (env :: rest) := by
          show L ∈ List.filterMap _ (env :: rest)
          rw [List.filterMap_cons, ef]
          exact List.mem_cons_self ..
        exact ⟨hk, ⟨L, o, ef, hn, (front_get (hf L mL)).trans ho, hd⟩, ih (fun c m => hf c (mem c m)) hr⟩
    exact go _ fr e0.funs
  · obtain ⟨m, hn, hl⟩ := I.loc
    refine ⟨m, hn.at' fun o e => ?_, fun j x v h1 h2 h3 => ?_⟩
    · have e : s1.heap.get? X.env.locals = some o := e
      rw [hL] at e
      cases e
      exact hL4
    · obtain ⟨u, r, q⟩ := hl j x v h1 h2 h3
      refine ⟨u, r, q.imp id fun ⟨k, c, e, z⟩ => (noc e).elim⟩
  · obtain ⟨h1, h2⟩ := hp p hm
    obtain ⟨_, _, h3, h4, h5⟩ := I.pin p hm
    exact ⟨h1, h2, h3, h4, h5⟩
/-- the consumer, behind a stretch of the generator -/
theorem backY {Y X : Cx} {pins ip : List (Addr × Obj)} {k σ : L2.St} {H0 H : Hp} {s0 s : Shared} (IY : Inv Y pins k H0 s0) (IX : Inv (reX X s0 H0) ip σ H s) (ho : X.outer = Y.stack) (eP : X.prog = Y.prog) (ew : X.w = Y.w) (hx : X.ex = [])
    (l0 : Y.s_0.heap.objs.size ≤ X.env.locals) (l1 : Y.env.locals < X.env.locals) (l2 : ∀ x c, Y.env.cells.lookup x = some c → c < X.env.locals) (l3 : ∀ p ∈ Y.pn ++ pins, p.1 < X.env.locals) : Inv Y pins k H s := by
  have fsE : (reX X s0 H0).fs = frs Y.stack := by show frs X.outer = _; rw [ho]
  have U := IX.base
  have mem : ∀ {b : Addr} {o : Obj}, s0.heap.get? b = some o → b ∉ (List.range (s0.heap.objs.size - X.env.locals)).map (· + X.env.locals) → (frontH X.env.locals s0.heap).get? b = some o := fun {b o} e n => by
    by_cases lt : b < X.env.locals
    · rw [front_get lt]; exact e
    · refine absurd (List.mem_map.mpr ⟨b - X.env.locals, List.mem_range.mpr ?_, ?_⟩) n
      · have := Heap.lt_size e
        exact Nat.sub_lt_sub_right (Nat.le_of_not_lt lt) this
      · exact Nat.sub_add_cancel (Nat.le_of_not_lt lt)
  have nx : ∀ {b : Addr}, b ∉ (reX X s0 H0).ex := fun {b} m => by
    have m : b ∈ X.ex := m
    rw [hx] at m; cases m
  refine IY.call' (ch := (List.range (s0.heap.objs.size - X.env.locals)).map (· + X.env.locals)) IX.os ⟨fun b o e n hf hm => ?_, fun b o e n hf hm => ?_, fun b o e n hm => ?_, fun b o e hm => ?_, U.tups, U.frzs, U.tbls⟩ ?_ IX.bare fun b hm => ?_
  · exact U.keep b o (mem e hm) n (by rw [fsE]; exact hf) nx
  · exact U.slot b o (mem e hm) n (by rw [fsE]; exact hf) nx
  · exact U.free b o (mem e hm) n nx
  · exact U.there b o (mem e hm) nx
  · have := IX.hok
    have : HOk X.prog X.w H s.heap := this
    rw [eP, ew] at this; exact this
  · obtain ⟨j, _, rfl⟩ := List.mem_map.mp hm
    have ge : X.env.locals ≤ j + X.env.locals := Nat.le_add_left _ _
    exact ⟨.inr (Nat.le_trans l0 ge), fun z => absurd (Nat.lt_of_lt_of_le l1 ge) (by rw [z]; exact Nat.lt_irrefl _), fun x c e z => absurd (Nat.lt_of_lt_of_le (l2 x c e) ge) (by rw [z]; exact Nat.lt_irrefl _),
      fun p hp z => absurd (Nat.lt_of_lt_of_le (l3 p hp) ge) (by rw [z]; exact Nat.lt_irrefl _)⟩
/-- another table of generators -/
theorem inv_gens {X : Cx} {pins : List (Addr × Obj)} {σ : L2.St} {H : Hp} {s : Shared} (I : Inv X pins σ H s) {G : Array GenState} (h : AllBare G) : Inv X pins σ H { s with gens := G } :=
  ⟨I.ok, I.os, h, I.base, I.loc, I.cell, I.free, I.freeC, I.pin, I.hok, I.len⟩
abbrev YLk := Nat → L2.St → V → Hp → (L2.St → Hp → Prop) → Prop
abbrev SpV := L2.St → YLk → (L2.St → Hp → Prop) → Prop
def KFin (X : Cx) (Lk : LkR) (fin : L2.St → Hp → Prop) (s₀ s1 : Shared) : Prop := ∃ k H0 ip σ H', LkL X Lk s₀ k H0 ∧ Inv (reX X s₀ H0) ip σ H' s1 ∧ fin k H'
abbrev KEnd (X : Cx) (Lk : LkR) (fin : L2.St → Hp → Prop) : GenEnd := fun n s₀ r s1 => r = .ok (.ret .none) ∧ KFin X Lk fin s₀ s1
structure GCtx (P : Program) (w : World) (K : PySem.W.Frag) (mg : Str → Option Value) (base : Heap) (outer : List Env) (L a : Addr) (gn : Nat) (X : Cx) : Prop where
  P : X.prog = P
  w : X.w = w
  K : X.K = K
  mg : X.mg = mg
  base : X.base = base
  loc : X.env.locals = L
  cells : X.env.cells = []
  ex : X.ex = []
  outer : X.outer = outer
  pn : ∃ go, X.pn = [(a, go)] ∧ ∀ h : Heap, h.get? a = some go → h.IsGen a gn
def GMk (P : Program) (w : World) (K : PySem.W.Frag) (mg : Str → Option Value) (base : Heap) (k : Nat) (outer : List Env) (s : Shared) (H : Hp) (spv : SpV) (u : Value) (s' : Shared) : Prop :=
  ∃ (a L : Addr) (gn : Nat) (c : Code), u = .ref a ∧ s.heap.objs.size ≤ L ∧ s'.heap.IsGen a gn ∧ s'.gens[gn]? = some (.fresh c) ∧ s'.os = s.os ∧ AllBare s'.gens ∧ (∀ b o, s.heap.get? b = some o → s'.heap.get? b = some o) ∧
    ∀ (A : Around) (s2 : Shared), Room k A → A.guards = some [] → A.frames = some outer → (∀ b o, s'.heap.get? b = some o → s2.heap.get? b = some o) → s2.os = s.os → AllBare s2.gens →
      ∃ X, GCtx P w K mg base outer L a gn X ∧ ∀ (Lk : LkR) (k0 : L2.St) (yl : YLk) (fin : L2.St → Hp → Prop), Lk s2 k0 H → spv k0 yl fin → Seg (model P w) A (KEnd X Lk fin) (KYp X Lk yl) sizeLine s2 c ((model P w).den c) [] s2
abbrev SpK := List V → Hp → SpV
theorem cells_none : ∀ {names : List (Str × NameKind)} {n : Nat} {acc : List (Str × Addr)}, (∀ y ∈ names, y.2 ≠ .cell) → cellsFrom n names acc = acc
  | [], _, _, _ => rfl
  | (x, kd) :: r, n, acc, h => by
    have h1 := h (x, kd) (List.mem_cons_self ..)
    unfold cellsFrom
    rw [if_neg (by simpa using h1)]
    exact cells_none fun y m => h y (List.mem_cons_of_mem _ m)
/-- an expression whose value is a generator that has not begun -/
abbrev TGk := L2.St → Hp → (SpV → Hp → Prop) → Prop
structure PK (X : Cx) (k : Nat) (e : Expr) (tg : TGk) : Prop where
  run : ∀ (pins : List (Addr × Obj)) (s : Shared) (σ : L2.St) (H : Hp) (Q : SpV → Hp → Prop), Inv X pins σ H s → tg σ H Q → wpAny (model X.prog X.w) X.A (eval e X.env)
    (fun u s' => ∃ H1 sc spv, Inv X pins σ H1 sc ∧ GMk X.prog X.w X.K X.mg X.base k X.stack sc H1 spv u s' ∧ Q spv H1) X.xe s
def tForK (tg : TGk) (gt : TG) (tb : TS) : TS := fun D σ H => tg σ H fun spv H1 => spv σ (fun _ k x H2 res => gt x k H2 fun σ2 H3 => tb { D with nx := res, ct := res, bk := D.nx } σ2 H3) D.nx
end RS
namespace RS
open PySem PySem.Spec L2 PyProof.Rows GenW
def tKM (C : Addr) (m : Str) (n : Nat) (sp : SpK) (ds : List V) (ta : TE) (t : TA) : TGk := fun σ H Q => ta σ H fun x H1 => ∃ a dx fs, x = .ref a ∧ H1 a = some (.ins C dx fs) ∧ fs.lookup m = none ∧ t σ H1 fun vs H2 => (x :: (vs ++ ds)).length = n ∧ Q (sp (x :: (vs ++ ds)) H2) H2
def tKC (n : Nat) (sp : SpK) (ds : List V) (t : TA) : TGk := fun σ H Q => t σ H fun vs H1 => (vs ++ ds).length = n ∧ Q (sp (vs ++ ds) H1) H1
end RS
namespace RS
open PySem PySem.Spec L2 PyProof.Rows ClX
/-- the names of such a def: no cells of its own, __class__ alone is free -/
structure ScopeS (N P : List Str) (sc : Scope) : Prop where
  kind : sc.kind = .function
  co : sc.isCoroutine = false
  gen : sc.isGenerator = false
  nd : N.Nodup
  pre : N.take P.length = P
  par : ∀ x ∈ P, sc.names.lookup x = some .local
  cell : ∀ y ∈ sc.names, y.2 ≠ .cell
  free : ∀ y ∈ sc.names, y.2 = .free → y.1 = "__class__"
  cls : sc.names.lookup ("__class__" : Str) = some .free
  sup : sc.names.lookup ("super" : Str) = some .globalImplicit
abbrev envS (qual : Str) (scope : Scope) (L f cda cc : Addr) : Env := PySem.W.ksEnv qual scope L f (.ref cda) cc
/-- the context of its body -/
def cxS (g : Wd) (N : List Str) (qual : Str) (st : Stmt) (f cda cc : Addr) (A : Around) (outer : List Env) (s : Shared) (H : Hp) (E : XK) : Cx where
  prog := g.P
  w := g.w
  K := g.K
  mg := g.mg
  base := g.base
  A := A.deeper (envS qual (defScope st) s.heap.objs.size f cda cc)
  N := N
  s_0 := s
  H_0 := H
  env := envS qual (defScope st) s.heap.objs.size f cda cc
  outer := outer
  stack := envS qual (defScope st) s.heap.objs.size f cda cc :: outer
  ex := []
  calm := true
  fn := fun _ => false
  pn := []
  xe := fun e s' => wpAny (model g.P g.w) (A.deeper (envS qual (defScope st) s.heap.objs.size f cda cc)) (leaving (envS qual (defScope st) s.heap.objs.size f cda cc) e) (fun _ s'' => L2.CX g.P g.w outer H s E e s'') (fun e' s'' => L2.CX g.P g.w outer H s E e' s'') s'
/-- a method of the class at D, with super() in it -/
structure DfS (P : Program) (K : PySem.W.Frag) (x qual : Str) (st : Stmt) (f : Addr) (fd : FuncData) (cda cc D : Addr) : Prop where
  ex : ∃ (oc : Value) (od : Option Addr) (dV kV doc pm : Value) (an : Option Addr) (ct : Value) (osl : Array (Option Value)),
    fd = PySem.W.ksFn x qual (defArgs st) (defBody st) (defScope st) dV kV doc pm an (.ref cda) ct cc ∧ K.lookup f = some ⟨oc, od, .func fd, osl⟩ ∧ PySem.W.codeIn K (.ref cda) qual = true
  kp : PySem.W.keepIn K (.ref f) = true
  co : ∃ ccl cdd vs ccs file tf, K.lookup cda = some ⟨ccl, cdd, .fields vs, ccs⟩ ∧ vs[2]? = some (.str file tf) ∧ ((P.main.file : Str) == file) = true
  ce : ∃ cl cld csl, K.lookup cc = some ⟨cl, cld, .cell (some (.ref D)), csl⟩
  D : (PySem.W.clsIn K D).isSome = true
  op : PySem.W.nsIn K cStatics "thirdparty.any" = some none
  nt : (P.main.scope.names.lookup ("super" : Str)).isSome = false
theorem zip_rev_lookup : ∀ {ps : List Str} {us : List Value} {i : Nat} {p : Str} {u : Value}, ps.Nodup → ps[i]? = some p → us[i]? = some u → (ps.zip us).reverse.lookup p = some u
  | [], _, i, _, _, _, h, _ => by simp at h
  | _ :: _, [], i, _, _, _, _, h => by simp at h
  | q :: ps, w :: us, 0, p, u, nd, h1, h2 => by
    cases h1; cases h2
    rw [List.zip_cons_cons, List.reverse_cons, List.lookup_append]
    have : ((ps.zip us).reverse).lookup q = none := by
      rw [List.lookup_eq_none_iff]
      intro y hy
      have := (List.of_mem_zip (List.mem_reverse.mp hy)).1
      have ne : q ≠ y.1 := fun e => (List.nodup_cons.mp nd).1 (by rw [e]; exact this)
      simpa using ne
    rw [this]
    simp
  | q :: ps, w :: us, i + 1, p, u, nd, h1, h2 => by
    rw [List.zip_cons_cons, List.reverse_cons, List.lookup_append, zip_rev_lookup (List.nodup_cons.mp nd).2 (by simpa using h1) (by simpa using h2)]
    rfl
theorem inv_startS {g : Wd} {N ps : List Str} {qual : Str} {st : Stmt} {f cda cc D : Addr} {A : Around} {outer : List Env} {s : Shared} {H : Hp} {E : XK} {us : List Value} {vs : List V} {h₁ : Heap} {tk : Nat}
    (S : ScopeS N ps (defScope st)) (hce : ∃ cl cld csl, g.K.lookup cc = some ⟨cl, cld, .cell (some (.ref D)), csl⟩) (hd : A.handled = none) (e0 : Env0 g.P g.w g.K g.mg g.base A outer s H) (hl : vs.length = ps.length) (r : Vals vs us)
    (hns : h₁.Ns s.heap.objs.size fun y => (ps.zip us).reverse.lookup y) (kp : ∀ b o, s.heap.get? b = some o → h₁.get? b = some o) :
    Inv (cxS g N qual st f cda cc A outer s H E) [] (L2.start N vs) H { s with heap := h₁, toks := tk } := by
  have hpl : ps.length ≤ N.length := by have := congrArg List.length S.pre; rw [List.length_take] at this; omega
  have noA : ∀ b : Addr, b ∉ (cxS g N qual st f cda cc A outer s H E).ex := fun b z => absurd (show b ∈ ([] : List Addr) from z) (by simp)
  obtain ⟨cl, cld, csl, hcc⟩ := hce
  have hcb := e0.mod.kin _ _ hcc
  have one : ∀ {y : Str} {c : Addr}, (cxS g N qual st f cda cc A outer s H E).env.cells.lookup y = some c → y = "__class__" ∧ c = cc := fun {y c} h => by
    have h : ([("__class__", cc)] : List (Str × Addr)).lookup y = some c := h
    simp only [List.lookup_cons, List.lookup_nil] at h
    split at h
    · rename_i e
      cases h
      exact ⟨by simpa using e, rfl⟩
    · cases h
  refine ⟨⟨e0.mod, S.kind, rfl, rfl, Nat.le_refl _, fun y z c h1 h2 => (one h1).1.trans (one h2).1.symm, fun y hy => ?_, fun y c h _ => ?_, fun _ => hd, Around.frames_deeper e0.frames, .inr ⟨rfl, rfl⟩, fun b z => absurd z (noA b), e0.bs, e0.bsz, fun b _ _ => noA b, fun b z => absurd z (noA b), e0.funs, e0.frf⟩,
    rfl, e0.bare, Un.kept kp, ⟨_, hns, fun i y v h1 h2 h3 => ?_⟩, fun y c h => ?_, e0.hok.fresh (Nat.le_refl _), fun y c h => ?_, fun p hp => absurd (show p ∈ ([] : List (Addr × Obj)) from hp) (by simp), e0.hok.kept kp, ?_⟩
  · have hy : (defScope st).names.lookup y = some .cell ∨ (defScope st).names.lookup y = some .free := hy
    rcases hy with hy | hy
    · exact absurd rfl (S.cell _ (PySem.mem_of_lookup hy))
    · have e := S.free _ (PySem.mem_of_lookup hy) rfl
      have e : y = "__class__" := e
      subst e
      exact ⟨cc, rfl⟩
  · have h : false = true := h
    cases h
  · have hi : i < vs.length := by
      unfold L2.start at h2
      by_cases hi : i < vs.length
      · exact hi
      · rw [List.getElem?_append_right (by simpa using hi)] at h2
        rw [List.getElem?_replicate] at h2
        split at h2 <;> cases h2
    have ha : vs[i]? = some v := by
      unfold L2.start at h2
      rw [List.getElem?_append_left (by simpa using hi), List.getElem?_map] at h2
      cases e : vs[i]? with
      | none => rw [e] at h2; cases h2
      | some a => rw [e] at h2; cases h2; rfl
    obtain ⟨u, hu, rv⟩ := r.get ha
    have hp : ps[i]? = some y := by
      rw [← S.pre, List.getElem?_take_of_lt (by omega)]; exact h1
    have ndP : ps.Nodup := by rw [← S.pre]; exact S.nd.sublist (List.take_sublist _ _)
    exact ⟨u, rv, .inl ⟨S.par y (List.mem_of_getElem? hp), zip_rev_lookup ndP hp hu⟩⟩
  · obtain ⟨rfl, rfl⟩ := one h
    exact ⟨_, _, kp _ _ (e0.bs _ _ hcb).1, rfl⟩
  · obtain ⟨rfl, rfl⟩ := one h
    exact (e0.bs _ _ hcb).2
  · unfold L2.start
    show _ = N.length
    rw [List.length_append, List.length_map, List.length_replicate]
    omega
structure PSAs (X : Cx) (c : Code) (st : List Stmt) (t : TS) : Prop where
  run : ∀ (pins : List (Addr × Obj)) (s : Shared) (σ : L2.St) (H : Hp) (D : Ends), Inv X pins σ H s → t D σ H → PySem.wpAt (model X.prog X.w) X.A c (execs st X.env) (SP X pins D) X.xe s
/-- such a def keeps its promise -/
theorem DfS.ok {g : Wd} {x qual : Str} {st : Stmt} {f : Addr} {fd : FuncData} {cda cc D : Addr} {N ps : List Str} {k : Nat} {sp : Sp} (F : DfS g.P g.K x qual st f fd cda cc D) (S : ScopeS N ps (defScope st)) (len : ∀ vs H Q E, sp vs H Q E → vs.length = ps.length)
    (hbody : ∀ (A : Around) (outer : List Env) (s : Shared) (H : Hp) (vs : List V) (Q : VK) (E : XK), Rm k (cxS g N qual st f cda cc A outer s H E) → sp vs H Q E →
      ∃ t, PSAs (cxS g N qual st f cda cc A outer s H E) (.func (defBody st) (envS qual (defScope st) s.heap.objs.size f cda cc)) (defBody st) t ∧ t { nx := fun _ H' => Q .non H', rt := Q } (L2.start N vs) H) : FnG g (k + 1) f fd ps sp := by
  obtain ⟨oc, od, dV, kV, doc, pm, an, ct, osl, rfl, lk, hcd⟩ := F.ex
  refine ⟨len, fun A outer s H args us vs Q E hr hg e0 hb rv hsp => ?_⟩
  have kept : ∀ b o, g.base.get? b = some o → s.heap.get? b = some o := fun b o e => (e0.bs b o e).1
  have KX := e0.mod.kin.keeps kept
  refine ks_codeAny_call_defAt (fd := PySem.W.ksFn x qual (defArgs st) (defBody st) (defScope st) dV kV doc pm an (.ref cda) ct cc) (body := defBody st) (binds := ps.zip us) hr.depth (KX _ _ lk) rfl (e0.mod.nolimit.keeps kept) (PySem.W.codeRec_of KX hcd) rfl hb S.cell (fun y hy => S.par _ (List.of_mem_zip hy).1) (fun h₁ hns hk => ?_) S.co S.gen S.kind
  obtain ⟨t, ht, hq⟩ := hbody A outer s H vs Q E ⟨hr.deeper _, hg⟩ hsp
  have J : Inv (cxS g N qual st f cda cc A outer s H E) [] (L2.start N vs) H { s with heap := h₁, toks := s.toks + (ps.zip us).length } := inv_startS S F.ce hr.hd e0 (len _ _ _ _ hsp) rv hns hk
  refine ks_wpAt_mono (ht.run [] _ _ H _ J hq) ?_ fun _ _ z => z
  rintro fl s' hs
  cases fl with
  | ret u => obtain ⟨v, σ', H', I, r, q⟩ := hs; exact ⟨v, H', I.os, I.bare, I.base, I.hok, r, q⟩
  | next => obtain ⟨σ', H', I, q⟩ := hs; exact ⟨.non, H', I.os, I.bare, I.base, I.hok, rfl, q⟩
  | brk => obtain ⟨_, _, _, q⟩ := hs; exact q.elim
  | cont => obtain ⟨_, _, _, q⟩ := hs; exact q.elim
end RS
namespace RS
open PySem PySem.Spec L2 PyProof.Rows
end RS
namespace RS
open PySem PySem.Spec L2 PyProof.Rows GenW
/-- a generator that has not begun, to be woken in a later heap -/
def GMk2 (P : Program) (w : World) (K : PySem.W.Frag) (mg : Str → Option Value) (base : Heap) (k : Nat) (outer : List Env) (s : Shared) (spv : Hp → SpV) (u : Value) (s' : Shared) : Prop :=
  ∃ (a L : Addr) (gn : Nat) (c : Code), u = .ref a ∧ s.heap.objs.size ≤ L ∧ L < s'.heap.objs.size ∧ s.heap.objs.size ≤ a ∧ s'.heap.IsGen a gn ∧ s'.gens[gn]? = some (.fresh c) ∧ s'.os = s.os ∧ AllBare s'.gens ∧ (∀ b o, s.heap.get? b = some o → s'.heap.get? b = some o) ∧
    ∀ (A : Around) (s2 : Shared) (H2 : Hp), Room k A → A.guards = some [] → A.frames = some outer → (∀ b o, s'.heap.get? b = some o → s2.heap.get? b = some o) → s2.os = s.os → Env0 P w K mg base A outer s2 H2 → H2 L = none → H2 a = none →
      ∃ X, GCtx P w K mg base outer L a gn X ∧ ∀ (Lk : LkR) (k0 : L2.St) (yl : YLk) (fin : L2.St → Hp → Prop), Lk s2 k0 H2 → spv H2 k0 yl fin → Seg (model P w) A (KEnd X Lk fin) (KYp X Lk yl) sizeLine s2 c ((model P w).den c) [] s2
structure GKn2 (P : Program) (w : World) (K : PySem.W.Frag) (mg : Str → Option Value) (base : Heap) (k : Nat) (f : Addr) (fd : FuncData) (ps : List Str) (sp : SpK) : Prop where
  run : ∀ (A : Around) (outer : List Env) (s : Shared) (H : Hp) (args : Args) (us : List Value) (vs : List V), Room k A → A.guards = some [] → Env0 P w K mg base A outer s H → BindsTo s fd args (ps.zip us) → Vals vs us → vs.length = ps.length →
    codeAny (model P w) A (.call (.ref f) args) (fun r s' => match r with | .ok (.ret u) => GMk2 P w K mg base k outer s (sp vs) u s' | _ => False) s
/-- an expression whose value is such a generator -/
abbrev TGk2 := L2.St → Hp → ((Hp → SpV) → Hp → Prop) → Prop
/-- the module holds a generator def x -/
def Kgf2 (g : Wd) (x : Str) (k : Nat) (ps : List Str) (ds : List V) (sp : SpK) : Prop :=
  ∃ f fd dsV, g.mg x = some (.ref f) ∧ PySem.W.keepIn g.K (.ref f) = true ∧ GKn2 g.P g.w g.K g.mg g.base k f fd ps sp ∧ Binds g.K fd ps dsV ∧ Vals ds dsV
def tKM2 (C : Addr) (m : Str) (n : Nat) (sp : SpK) (ds : List V) (ta : TE) (t : TA) : TGk2 := fun σ H Q => ta σ H fun x H1 => ∃ a dx fs, x = .ref a ∧ H1 a = some (.ins C dx fs) ∧ fs.lookup m = none ∧ t σ H1 fun vs H2 => (x :: (vs ++ ds)).length = n ∧ Q (sp (x :: (vs ++ ds))) H2
def tKC2 (n : Nat) (sp : SpK) (ds : List V) (t : TA) : TGk2 := fun σ H Q => t σ H fun vs H1 => (vs ++ ds).length = n ∧ Q (sp (vs ++ ds)) H1
def rmH (H : Hp) (B : Addr) : Hp := fun b => if b = B then none else H b
def YLc (g : TG) (tt : TT) (te : TE) (vs : List Nat) (σ : L2.St) (D B : Addr) : YLk := fun _ _ x Hx res => (∃ xs, Hx D = some (.lst xs)) ∧ g x (wipe σ vs) (rmH Hx B) fun σ2 H2 => wipe σ2 vs = wipe σ vs ∧ tt σ2 H2 fun b H3 =>
  if b = true then te σ2 H3 fun y H4 => H4 B = none → ∃ acc, H4 D = some (.lst acc) ∧ acc.length < sizeLine ∧ ∀ o', res (wipe σ vs) (upd (upd H4 D (.lst (acc ++ [y]))) B (.frz o' (.own B))) else (∃ acc, H3 D = some (.lst acc)) ∧ ∀ o', res (wipe σ vs) (upd H3 B (.frz o' (.own B)))
def tLcK (tk : TGk2) (g : TG) (tt : TT) (te : TE) (vs : List Nat) : TE := fun σ H Q => tk σ H fun spv H1 => ∀ D, H1 D = none → ∀ B o, H1 B = none → B ≠ D → spv (upd (upd H1 D (.lst [])) B (.frz o (.own B))) (wipe σ vs) (YLc g tt te vs σ D B) (fun _ Hx => (∃ xs, Hx D = some (.lst xs)) ∧ Q (.ref D) (rmH Hx B))
end RS
namespace RS
open PySem PySem.Spec L2 PyProof.Rows
def tMethStar (K : PySem.W.Frag) (C : Addr) (m : Str) (sp : Sp) (W : WX) (ta te : TE) : TE := fun σ H Q => ta σ H fun x H1 => ∃ a dx fs, x = .ref a ∧ H1 a = some (.ins C dx fs) ∧ fs.lookup m = none ∧
  ∀ f q, H1 q = none → te σ (upd H1 q (.met f a)) fun y H2 => ∃ b vs, y = .ref b ∧ (SqT K H2 b vs ∨ SqL K H2 b vs) ∧ H2 q = some (.met f a) ∧ sp (.ref a :: vs) H2 Q (fun c d H' => W c d σ H')
def tKCK2 (n : Nat) (sp : SpK) (pm : List Nat) (t : TA) : TGk2 := fun σ H Q => t σ H fun zs H1 => zs.length = n ∧ Q (sp (pm.map fun i => zs.getD i .non)) H1
/-- a dict that is held fast from here on -/
def tLk (t : TE) : TE := fun σ H Q => t σ H fun x H1 => ∃ d u, x = .ref d ∧ H1 d = some u ∧ Mut (some u) ∧ ∀ o, Q x (upd H1 d (.frz o u))
end RS
namespace RS
open PySem PySem.Spec L2 PyProof.Rows HT
end RS
set_option autoImplicit true
namespace RS
open PySem PySem.Spec L2
section
variable {X : Cx} {o : Expr} {to : TE}
/-- x.isdigit(), of a text -/
def tDig (to : TE) : TE := fun σ H Q => to σ H fun x H1 => ∃ a, x = .str a ∧ Q (.bl (Txt.isdigit a)) H1
end
end RS
namespace RS
open PySem PySem.Spec L2 PyProof.Rows GenW
theorem inv_xe {X : Cx} {pins : List (Addr × Obj)} {σ : L2.St} {H : Hp} {s : Shared} (I : Inv X pins σ H s) (xe : Value → Shared → Prop) : Inv { X with xe := xe } pins σ H s :=
  ⟨⟨I.ok.mod, I.ok.kind, I.ok.glob, I.ok.blt, I.ok.above, I.ok.inj, I.ok.has, I.ok.cab, I.ok.hd, I.ok.frames, I.ok.stk, I.ok.exf, I.ok.bs, I.ok.bsz, I.ok.noex, I.ok.exfs, I.ok.funs, I.ok.frf⟩, I.os, I.bare, I.base, I.loc, I.cell, I.free, I.freeC, I.pin, I.hok, I.len⟩
abbrev SpX := List V → Hp → XK → Prop
/-- an expression whose value is such a generator -/
abbrev TGkX := L2.St → Hp → ((Hp → XK → Prop) → Hp → Prop) → Prop
def tKMX (C : Addr) (m : Str) (n : Nat) (sp : SpX) (ds : List V) (ta : TE) (t : TA) : TGkX := fun σ H Q => ta σ H fun x H1 => ∃ a dx fs, x = .ref a ∧ H1 a = some (.ins C dx fs) ∧ fs.lookup m = none ∧ t σ H1 fun vs H2 => (x :: (vs ++ ds)).length = n ∧ Q (sp (x :: (vs ++ ds))) H2
def tKCX (n : Nat) (sp : SpX) (ds : List V) (t : TA) : TGkX := fun σ H Q => t σ H fun vs H1 => (vs ++ ds).length = n ∧ Q (sp (vs ++ ds)) H1
def tLcX (K : PySem.W.Frag) (tk : TGkX) (W : WX) : TE := fun σ H _ => tk σ H fun spx H1 => ∀ D, H1 D = none → ∀ B o, H1 B = none → B ≠ D →
  spx (upd (upd H1 D (.lst [])) B (.frz o (.own B))) fun c d Hx => PySem.W.subIn K c (.type "StopIteration") = some false ∧ W c d σ (rmH Hx B)
end RS
namespace RS
open PySem PySem.Spec L2 PyProof.Rows
end RS
namespace RS
open PySem PySem.Spec L2 PyProof.Rows GenW
end RS
namespace RS
open PySem PySem.Spec L2 PyProof.Rows GenW
/-- the context of the body, woken at s0 with the heap H0; E: what is raised out of it -/
@[reducible] def reY (X : Cx) (s0 : Shared) (H0 : Hp) (E : XK) : Cx := { X with
  s_0 := tr X.env.locals s0, H_0 := H0
  xe := fun e s' => wpAny (model X.prog X.w) X.A (leaving X.env e) (fun _ s'' => CX X.prog X.w X.outer H0 (tr X.env.locals s0) E e s'' ∧ ∀ p ∈ X.pn, s''.heap.get? p.1 = some p.2) (fun _ _ => False) s' }
theorem inv_y {X : Cx} {s0 : Shared} {H0 : Hp} {E : XK} {ip : List (Addr × Obj)} {σ : L2.St} {H : Hp} {s : Shared} (I : Inv (reX X s0 H0) ip σ H s) : Inv (reY X s0 H0 E) ip σ H s := inv_xe I _
theorem inv_yx {X : Cx} {s0 : Shared} {H0 : Hp} {E : XK} {ip : List (Addr × Obj)} {σ : L2.St} {H : Hp} {s : Shared} (I : Inv (reY X s0 H0 E) ip σ H s) : Inv (reX X s0 H0) ip σ H s := inv_xe (X := reY X s0 H0 E) I _
theorem passes_y {X : Cx} {s0 : Shared} {H0 : Hp} {E : XK} : PassesOwn (model X.prog X.w) X.A X.env (reY X s0 H0 E).xe := passes_of (X := reY X s0 H0 E) rfl
structure GKF extends GKE where
  ex : L2.St → XK
abbrev TKy := GKF → Nat → L2.St → L2.St → Hp → Prop
theorem ksp_ofY {X : Cx} {ip : List (Addr × Obj)} {D : GKE} {i : Nat} {k : L2.St} {H0 : Hp} {E : XK} {s₀ : Shared} {f : Flow} {s : Shared} (h : SP (reY X s₀ H0 E) ip (D.at i k) f s) : KSP X ip D i k H0 s₀ f s := by
  cases f with
  | next => obtain ⟨σ, H, I, q⟩ := h; exact ⟨σ, H, inv_yx I, q⟩
  | brk => obtain ⟨σ, H, I, q⟩ := h; exact ⟨σ, H, inv_yx I, q⟩
  | cont => obtain ⟨σ, H, I, q⟩ := h; exact ⟨σ, H, inv_yx I, q⟩
  | ret u => obtain ⟨v, σ, H, I, r, q⟩ := h; exact ⟨v, σ, H, inv_yx I, r, q⟩
/-- where an exception goes -/
def GXk (X : Cx) (Lk : LkR) (A : Around) (R : GenEnd) (c : Code) (fs : List Frame) (J : Value → Sem PySem.Fin) (D : GKF) : Prop :=
  ∀ (n i : Nat) (k : L2.St) (H0 : Hp) (s₀ : Shared) (e : Value) (s : Shared), n + i = sizeLine → LkL X Lk s₀ k H0 → (reY X s₀ H0 (D.ex k)).xe e s → Seg (model X.prog X.w) A R (KYp X Lk D.yl) n s₀ c (J e) fs s
structure GKy (X : Cx) (st : Stmt) (t : TKy) : Prop where
  run : ∀ (Lk : LkR) (A : Around) (ip : List (Addr × Obj)) (R : GenEnd) (n i : Nat) (k : L2.St) (H0 : Hp) (s₀ : Shared) (c : Code) (fs : List Frame) (K : Flow → Sem PySem.Fin) (J : Value → Sem PySem.Fin) (gd : Bool → Bool) (lv : List Value → List Value) (s : Shared) (σ : L2.St) (H : Hp) (D : GKF),
    GKc X A c fs gd → n + i = sizeLine → LkL X Lk s₀ k H0 → GKk X Lk ip A R c fs K D.toGKE → GXk X Lk A R c fs J D → Inv (reX X s₀ H0) ip σ H s → t D i k σ H → Seg (model X.prog X.w) A R (KYp X Lk D.yl) n s₀ c ((exec st X.env).wrap K J gd lv) fs s
structure GKys (X : Cx) (st : List Stmt) (t : TKy) : Prop where
  run : ∀ (Lk : LkR) (A : Around) (ip : List (Addr × Obj)) (R : GenEnd) (n i : Nat) (k : L2.St) (H0 : Hp) (s₀ : Shared) (c : Code) (fs : List Frame) (K : Flow → Sem PySem.Fin) (J : Value → Sem PySem.Fin) (gd : Bool → Bool) (lv : List Value → List Value) (s : Shared) (σ : L2.St) (H : Hp) (D : GKF),
    GKc X A c fs gd → n + i = sizeLine → LkL X Lk s₀ k H0 → GKk X Lk ip A R c fs K D.toGKE → GXk X Lk A R c fs J D → Inv (reX X s₀ H0) ip σ H s → t D i k σ H → Seg (model X.prog X.w) A R (KYp X Lk D.yl) n s₀ c ((execs st X.env).wrap K J gd lv) fs s
section
variable {X : Cx} {st : Stmt} {rest : List Stmt}
def tYPlain (t : XK → TS) : TKy := fun D i k σ H => t (D.ex k) (D.at i k) σ H
theorem gy_ps {t : XK → TS} (h : ∀ s0 H0 E, PS (reY X s0 H0 E) st (t E)) : GKy X st (tYPlain t) := by
  refine ⟨fun Lk A ip R n i k H0 s₀ c fs K J gd lv s σ H D g hn lk kk kx I ht => seg_wrap ?_⟩
  rw [g.over]
  exact wpAny_mono ((h s₀ H0 (D.ex k)).run ip s σ H (D.at i k) (inv_y I) ht) (fun f s' hs => kk n i k H0 s₀ s' f hn lk (ksp_ofY hs)) fun e s' hx => kx n i k H0 s₀ e s' hn lk hx
def tY0 : TKy := fun D i k σ H => D.nx i k σ H
theorem gys_nil : GKys X [] tY0 := ⟨fun Lk A ip R n i k H0 s₀ c fs K J gd lv s σ H D g hn lk kk kx I ht => seg_execs_nil (kk n i k H0 s₀ s .next hn lk ⟨σ, H, I, ht⟩)⟩
def tYThen (t u : TKy) : TKy := fun D i k σ H => t { D with nx := fun i' k' σ' H' => u D i' k' σ' H' } i k σ H
theorem gys_cons {t u : TKy} (a : GKy X st t) (b : GKys X rest u) : GKys X (st :: rest) (tYThen t u) := by
  refine ⟨fun Lk A ip R n i k H0 s₀ c fs K J gd lv s σ H D g hn lk kk kx I ht => seg_execs_cons ?_⟩
  refine a.run Lk A ip R n i k H0 s₀ c fs _ J gd lv s σ H { D with nx := fun i' k' σ' H' => u D i' k' σ' H' } g hn lk (fun n' i' k' H0' s₀' s' f hn' lk' hs => ?_) kx I ht
  cases f with
  | next =>
    obtain ⟨σ', H', I', q⟩ := hs
    exact b.run Lk A ip R n' i' k' H0' s₀' c fs K J gd lv s' σ' H' D g hn' lk' kk kx I' q
  | brk => exact kk n' i' k' H0' s₀' s' .brk hn' lk' hs
  | cont => exact kk n' i' k' H0' s₀' s' .cont hn' lk' hs
  | ret u => exact kk n' i' k' H0' s₀' s' (.ret u) hn' lk' hs
def tYIf (c : XK → TT) (t u : TKy) : TKy := fun D i k σ H => c (D.ex k) σ H fun b H1 => if b = true then t D i k σ H1 else u D i k σ H1
def tYYield (te : XK → TE) : TKy := fun D i k σ H => i < sizeLine ∧ te (D.ex k) σ H fun x H1 => D.yl i k x H1 fun k' H2 => D.nx (i + 1) k' σ H2
theorem gy_yield {e : Expr} {yp pos : Pos} {te : XK → TE} (he : ∀ s0 H0 E, PE (reY X s0 H0 E) e (te E)) (hco : X.env.scope.isCoroutine = false := by rfl) (hi : interactive X.env = false := by rfl) (hJ : ∀ s0 H0 E, PassesOwn (model X.prog X.w) X.A X.env (reY X s0 H0 E).xe := by intros; exact passes_y) : GKy X (.Expr (.Yield (some e) yp) pos) (tYYield te) := by
  refine ⟨fun Lk A ip R n i k H0 s₀ c fs K J gd lv s σ H D g hn lk kk kx I ht => ?_⟩
  obtain ⟨hlt, ht⟩ := ht
  obtain ⟨m, rfl⟩ : ∃ m, n = m + 1 := ⟨n - 1, by omega⟩
  refine seg_Expr_Yield g.split g.gd g.guard ?_ hco hi
  rw [g.over]
  refine wpAny_mono ((he s₀ H0 (D.ex k)).run ip s σ H _ (inv_y I) ht) (fun v s' hv => ?_) fun e s' hx => kx _ i k H0 s₀ e s' hn lk hx
  obtain ⟨x, H1, I1, rv, q⟩ := hv
  intro kap hk
  refine ⟨i, k, H0, x, ip, σ, H1, _, by omega, rv, lk, inv_yx I1, q, fun k' H' s'' lk' I' hres => hk .none s'' ?_⟩
  exact kk m (i + 1) k' H' s'' s'' .next (by omega) lk' ⟨σ, H', I', hres⟩
def tYWhile (c : XK → TT) (tb : TKy) : TKy := fun D i k σ H => ∃ W : Nat → Nat → L2.St → L2.St → Hp → Prop, (∃ m, W m i k σ H) ∧ ∀ m i k σ H, W m i k σ H →
  c (D.ex k) σ H fun b H1 => if b = true then ∃ N : Nat → L2.St → L2.St → Hp → Prop, (∀ i' k' σ' H', N i' k' σ' H' → ∃ m', m' < m ∧ W m' i' k' σ' H') ∧ tb { D with nx := N, ct := N, bk := D.nx } i k σ H1 else D.nx i k σ H1
theorem seg_cameBackY {Lk : LkR} {A : Around} {R : GenEnd} {c : Code} {fs : List Frame} {J : Value → Sem PySem.Fin} {K : Flow → Sem PySem.Fin} {gd : Bool → Bool} {lv : List Value → List Value} {D : GKF} {n i : Nat} {k : L2.St} {H0 : Hp} {s₀ s : Shared} {e : Value}
    (g : GKc X A c fs gd) (kx : GXk X Lk A R c fs J D) (hn : n + i = sizeLine) (lk : LkL X Lk s₀ k H0) (h : cameBackBy (model X.prog X.w) X.A X.env (reY X s₀ H0 (D.ex k)).xe e s) :
    Seg (model X.prog X.w) A R (KYp X Lk D.yl) n s₀ c (((Sem.raise e : Sem Flow).onRaise (cameBack X.env)).wrap K J gd lv) fs s := by
  show Seg _ _ _ _ _ _ _ (((cameBack X.env e).bind fun _ => (Sem.raise e : Sem Flow)).wrap K J gd lv) _ _
  rw [Sem.bind_eq_wrap, Sem.wrap_wrap]
  refine seg_wrap ?_
  rw [g.over]
  exact wpAny_mono h (fun _ s' hx => kx n i k H0 s₀ e s' hn lk hx) fun x s' hx => kx n i k H0 s₀ x s' hn lk hx
theorem gy_while {test : Expr} {body : List Stmt} {pos : Pos} {tc : XK → TT} {tb : TKy} (hc : ∀ s0 H0 E, PT (reY X s0 H0 E) test (tc E)) (hb : GKys X body tb) : GKy X (.While test body [] pos) (tYWhile tc tb) := by
  refine ⟨fun Lk A ip R n i k H0 s₀ c fs K J gd lv s σ H D g hn lk kk kx I ht => ?_⟩
  obtain ⟨W, ⟨m0, w0⟩, turn⟩ := ht
  refine seg_While fun p => ?_
  have gl := fun (kk : Result → Sem PySem.Fin) => gkc_loop (k := kk) (c' := .whileLoop test body [] X.env) (l := lv []) (kp := []) (p := p) g rfl rfl
  have loop : ∀ (m n i : Nat) (k : L2.St) (H0 : Hp) (s₀ s : Shared) (σ : L2.St) (H : Hp), n + i = sizeLine → LkL X Lk s₀ k H0 → W m i k σ H → Inv (reX X s₀ H0) ip σ H s →
      Seg (model X.prog X.w) A R (KYp X Lk D.yl) n s₀ (.whileLoop test body [] X.env) ((model X.prog X.w).den (.whileLoop test body [] X.env))
        (.ret (fun r => ((match r with | .ok f => (.pure f : Sem Flow) | .error e => .raise e).onRaise (cameBack X.env)).wrap K J gd lv) none (gd false) (lv []) c p [] :: fs) s := by
    intro m
    induction m using Nat.strongRecOn with
    | ind m ih =>
      intro n i k H0 s₀ s σ H hn lk w I
      have ee : GXk X Lk A R (.whileLoop test body [] X.env) (.ret (fun r => ((match r with | .ok f => (.pure f : Sem Flow) | .error e => .raise e).onRaise (cameBack X.env)).wrap K J gd lv) none (gd false) (lv []) c p [] :: fs)
          (fun x => (do noteFrame x X.env; theTreesLotGoes x : Sem Unit).wrap (fun _ => .raise x) .raise id id) D := fun n i k H0 s₀ x s' hn lk hx => by
        refine seg_wrap ?_
        rw [(gl _).over]
        refine wpAny_bind (wpAny_mono (passes_y x s' hx) (fun _ s'' hcb => wpAny_theTreesLotGoes ?_) fun y s'' hcb => ?_)
        · exact seg_leaf (.error x) (seg_cameBackY g kx hn lk hcb)
        · exact seg_leaf (.error y) (seg_cameBackY g kx hn lk hcb)
      refine seg_whileLoop ?_
      rw [(gl _).over]
      refine wpAny_mono ((hc s₀ H0 (D.ex k)).run ip s σ H _ (inv_y I) (turn m i k σ H w)) (fun b s' hb' => ?_) fun x s' hx => ee n i k H0 s₀ x s' hn lk hx
      obtain ⟨H2, I2, q2⟩ := hb'
      cases b with
      | true =>
        obtain ⟨N, hN, q2⟩ := q2
        rw [if_pos rfl]
        refine hb.run Lk A ip R n i k H0 s₀ _ _ _ _ id id s' σ H2 { D with nx := N, ct := N, bk := D.nx } (gl _) hn lk (fun n' i' k' H0' s₀' s3 f hn' lk' hs => ?_) (fun n' i' k' H0' s₀' x s3 hn' lk' hx => ee n' i' k' H0' s₀' x s3 hn' lk' hx) (inv_yx I2) q2
        cases f with
        | next =>
          obtain ⟨σ3, H3, I3, n3⟩ := hs
          obtain ⟨m', hm, w3⟩ := hN i' k' σ3 H3 n3
          exact seg_again rfl (ih m' hm n' i' k' H0' s₀' s3 σ3 H3 hn' lk' w3 I3)
        | cont =>
          obtain ⟨σ3, H3, I3, n3⟩ := hs
          obtain ⟨m', hm, w3⟩ := hN i' k' σ3 H3 n3
          exact seg_again rfl (ih m' hm n' i' k' H0' s₀' s3 σ3 H3 hn' lk' w3 I3)
        | brk => exact seg_leaf (.ok .next) (kk n' i' k' H0' s₀' s3 .next hn' lk' hs)
        | ret v => exact seg_leaf (.ok (.ret v)) (kk n' i' k' H0' s₀' s3 (.ret v) hn' lk' hs)
      | false =>
        rw [if_neg Bool.false_ne_true]
        refine seg_execs_nil ?_
        exact seg_leaf (.ok .next) (kk n i k H0 s₀ s' .next hn lk ⟨σ, H2, inv_yx I2, q2⟩)
  exact loop m0 n i k H0 s₀ s σ H hn lk w0 I
end
end RS
namespace RS
open PySem PySem.Spec L2 PyProof.Rows GenW
section
variable {P : Program} {w : World} {A : Around} {E : Value → Shared → Prop} {s : Shared}
/-- next(g), of a generator that may raise -/
theorem nextSX {a : Addr} {g n : Nat} {gs : GenState} {F : Nat → Shared → Shared → Prop} {Er : Shared → Value → Shared → Prop} {Y : Protocol} {Q : Option Value → Shared → Prop} (hh : A.handled = none) (hl : s.heap.NoLimit) (hroom : A.depth < recursionLimit)
    (hg : s.heap.IsGen a g) (hgs : s.gens[g]? = some gs) (hgo : gs.Goes (model P w) A.in1 (fun n s₀ r s₁ => (r = .ok (.ret .none) ∧ F n s₀ s₁) ∨ ∃ e, r = .error e ∧ Er s₀ e s₁) Y n (.send .none) (s.setGen g .running))
    (hY : ∀ v s₁ gs', gs'.bare = true → isSusp gs' = true → Y (n - 1) (s.setGen g .running) v s₁ (Kap (model P w) A.in1 (fun n s₀ r s₁ => (r = .ok (.ret .none) ∧ F n s₀ s₁) ∨ ∃ e, r = .error e ∧ Er s₀ e s₁) Y n gs') → Q (some v) (s₁.setGen g gs'))
    (hP : ∀ s₁, F n (s.setGen g .running) s₁ → ∀ h', (∀ b o, s₁.heap.get? b = some o → h'.get? b = some o) → Q none { s₁.setGen g .finished with heap := h' })
    (hE : ∀ e s₁, Er (s.setGen g .running) e s₁ → s₁.heap.IsGen a g ∧ NotStop (model P w) e s₁.heap ∧ E e (s₁.setGen g .finished)) :
    wpAny (model P w) A (pyNext (.ref a)) Q E s := by
  unfold pyNext
  refine wpAny_bind (wpAny_attempt ?_)
  refine wpAny_callSpecial?_slot (name := Str.ofString "__next__") hg.typeIs slot_gen_next ?_
  refine wpAny_call_entry slot_gen_next hg.typeIs entry_gen_next ?_ (args_gen_next _)
  show wpAny _ A.in1 (Builtin.Generator.genWake (.ref a) (.send .none)) _ _ s
  unfold Builtin.Generator.genWake
  refine wpAny_bind (wpAny_holding ?_)
  refine wpAny_genNumber hg (wpAny_bind ?_)
  refine wpAny_genState hgs ?_
  cases gs with
  | running => exact hgo.elim
  | finished => exact hgo.elim
  | _ =>
    refine wpAny_bind (wpAny_roomToWake hl hroom ?_)
    show wpAny _ A.in1 (Sem.resume g (.send .none) [] _) _ _ s
    refine wpAny_wakeS hgs hgo (fun x s1 hx => ?_) fun v s1 gs' hb hsu hv => wpAny_pure ⟨v, rfl, wpAny_pure (hY v s1 gs' hb hsu hv)⟩
    rcases hx with ⟨hr, hp⟩ | ⟨e, rfl, he⟩
    · subst hr
      show wpAny _ A.in1 (newExc (.type "StopIteration") [] >>= _) _ _ _
      refine wpAny_bind ?_
      simp only [newExc, newTuple]
      refine wpAny_bind (wpAny_newObj_type ?_ (by size_fits))
      refine wpAny_bind (m := firstArgMember _ _) (wpAny_of_eq (a := Value.none) (by first | rfl | (simp only [firstArgMember]; rfl)) (wpAny_newObj_type ?_ (by size_fits)))
      simp only [raiseNew]
      refine wpAny_bind (wpAny_bind (wpAny_handled ?_))
      rw [show A.in1.handled = none from hh]
      refine wpAny_throw (wpAny_bind ?_)
      refine wpAny_isInstance (T := "StopIteration") (b := true) ⟨_, Heap.get?_push_size _ rfl, rfl⟩ isSubtype_stop ?_
      exact wpAny_pure (hP s1 hp _ fun b o hb => Heap.get?_push_of_some _ (Heap.get?_push_of_some _ hb))
    · obtain ⟨hg1, hns, hq⟩ := hE e s1 he
      obtain ⟨o, nm, qn, ho, hc, hd, hsl⟩ := hg1
      show wpAny _ A.in1 (Builtin.Generator.genLeft (.ref a) e) _ _ _
      unfold Builtin.Generator.genLeft Builtin.Generator.madeByALambda
      refine wpAny_bind (wpAny_bind (wpAny_load (o := o) ho (wpAny_pure ?_)))
      refine wpAny_bind (hns _ _ _ _ rfl ?_)
      rw [Bool.and_false, if_neg Bool.false_ne_true]
      unfold Builtin.Generator.genEscaped
      first
        | refine wpAny_bind (hns _ _ _ _ rfl ?_)
        | refine wpAny_bind (wpAny_pure (wpAny_bind (hns _ _ _ _ rfl ?_)))
      rw [if_pos (show (!false) = true from rfl)]
      first
        | refine wpAny_throw ?_
        | refine wpAny_bind (wpAny_throw ?_)
      refine wpAny_bind (hns _ _ _ _ rfl ?_)
      rw [if_neg Bool.false_ne_true]
      exact wpAny_throw hq
end
abbrev SpVY := L2.St → YLk → (L2.St → Hp → Prop) → (L2.St → XK) → Prop
abbrev SpY := List V → Hp → SpVY
abbrev KEndY (X : Cx) (Lk : LkR) (fin : L2.St → Hp → Prop) (ex : L2.St → XK) (a : Addr) (gn : Nat) : GenEnd := fun n s₀ r s1 => (r = .ok (.ret .none) ∧ KFin X Lk fin s₀ s1) ∨
  ∃ e, r = .error e ∧ ∃ k H0, LkL X Lk s₀ k H0 ∧ CX X.prog X.w X.outer H0 (tr X.env.locals s₀) (ex k) e s1 ∧ s1.heap.IsGen a gn
def GMkY (P : Program) (w : World) (K : PySem.W.Frag) (mg : Str → Option Value) (base : Heap) (k : Nat) (outer : List Env) (s : Shared) (spv : Hp → SpVY) (u : Value) (s' : Shared) : Prop :=
  ∃ (a L : Addr) (gn : Nat) (c : Code), u = .ref a ∧ s.heap.objs.size ≤ L ∧ L < s'.heap.objs.size ∧ s.heap.objs.size ≤ a ∧ s'.heap.IsGen a gn ∧ s'.gens[gn]? = some (.fresh c) ∧ s'.os = s.os ∧ AllBare s'.gens ∧ (∀ b o, s.heap.get? b = some o → s'.heap.get? b = some o) ∧
    ∀ (A : Around) (s2 : Shared) (H2 : Hp), Room k A → A.guards = some [] → A.frames = some outer → (∀ b o, s'.heap.get? b = some o → s2.heap.get? b = some o) → s2.os = s.os → Env0 P w K mg base A outer s2 H2 → H2 L = none → H2 a = none →
      ∃ X, GCtx P w K mg base outer L a gn X ∧ ∀ (Lk : LkR) (k0 : L2.St) (yl : YLk) (fin : L2.St → Hp → Prop) (ex : L2.St → XK), Lk s2 k0 H2 → spv H2 k0 yl fin ex → Seg (model P w) A (KEndY X Lk fin ex a gn) (KYp X Lk yl) sizeLine s2 c ((model P w).den c) [] s2
structure GKnY (P : Program) (w : World) (K : PySem.W.Frag) (mg : Str → Option Value) (base : Heap) (k : Nat) (f : Addr) (fd : FuncData) (ps : List Str) (sp : SpY) : Prop where
  run : ∀ (A : Around) (outer : List Env) (s : Shared) (H : Hp) (args : Args) (us : List Value) (vs : List V), Room k A → A.guards = some [] → Env0 P w K mg base A outer s H → BindsTo s fd args (ps.zip us) → Vals vs us → vs.length = ps.length →
    codeAny (model P w) A (.call (.ref f) args) (fun r s' => match r with | .ok (.ret u) => GMkY P w K mg base k outer s (sp vs) u s' | _ => False) s
/-- a generator def, by its body -/
theorem gknY_of {g : Wd} {k : Nat} {f : Addr} {name qual : Str} {st : Stmt} {fd : FuncData} {dV : Value} {N ps : List Str} {sp : SpY} (F : Df g.K name qual st f fd dV) (S : GScope N ps (defScope st)) (nc : ∀ y ∈ (defScope st).names, y.2 ≠ .cell)
    (hbody : ∀ (cdv : Value) (A : Around) (outer : List Env) (s : Shared) (H : Hp) (vs : List V) (pn : List (Addr × Obj)), Rm k (gcxOf g.P g.w g.K g.mg g.base N qual (defScope st) f cdv A outer s H (fun _ _ _ => False) pn) →
      ∃ t, GKys (gcxOf g.P g.w g.K g.mg g.base N qual (defScope st) f cdv A outer s H (fun _ _ _ => False) pn) (defBody st) t ∧ ∀ k0 yl fin ex, sp vs H k0 yl fin ex → t { nx := fun _ k' _ H' => fin k' H', rt := fun _ k' v H' => v = .non ∧ fin k' H', yl := yl, ex := ex } 0 k0 (start N vs) H) :
    GKnY g.P g.w g.K g.mg g.base (k + 1) f fd ps sp := by
  obtain ⟨oc, od, kV, doc, pm, an, cdv, ct, osl, rfl, lk, hcd⟩ := F.ex
  refine ⟨fun A outer s H args us vs hr hg e0 hb r hl => ?_⟩
  have kept : ∀ b o, g.base.get? b = some o → s.heap.get? b = some o := fun b o e => (e0.bs b o e).1
  have KX : g.K.In s.heap := e0.mod.kin.keeps kept
  have lim : s.heap.NoLimit := e0.mod.nolimit.keeps kept
  have hkind : ∀ y ∈ ps.zip us, (defScope st).names.lookup y.1 = some .local ∨ ((defScope st).names.lookup y.1 = some .cell ∧ ((cellsFrom (s.heap.objs.size + 1) (defScope st).names []).lookup y.1).isSome = true) := fun ⟨n, v⟩ hy =>
    (S.par n (List.of_mem_zip hy).1).imp id fun q => ⟨q, PySem.W.cellsFrom_some _ _ _ (.inl q)⟩
  refine codeAny_call_generator hr.depth (KX _ _ lk) rfl S.co S.gen rfl (PySem.W.codeRec_of KX hcd) (hb _ _ _ _ ?_)
  refine wpAny_newFunctionEnv_cells S.kind hkind ?_
  rintro env rfl s1 x
  refine ⟨lim.keeps x.toInCall.keep, ?_⟩
  obtain ⟨h1, tk, es1, hk1⟩ := x.done
  have kp1 : ∀ b o, s.heap.get? b = some o → s1.heap.get? b = some o := x.toInCall.keep
  have lt1 : s.heap.objs.size < s1.heap.objs.size := x.toInCall.ns.lt
  have main : ∀ (go : Obj) (nm qn : Value) (tk2 : Nat), go.cls = .type "generator" → go.data = .fields #[.int s1.gens.size 0, nm, qn] → go.slots = #[] → (∀ h : Heap, (h.push go).get? h.objs.size = some go) →
      GMkY g.P g.w g.K g.mg g.base (k + 1) outer s (sp vs) (.ref s1.heap.objs.size) { s1 with gens := s1.gens.push (.fresh (.func (defBody st) (envOfC qual (defScope st) s.heap.objs.size f cdv))), toks := tk2, heap := s1.heap.push go } := by
    intro go nm qn tk2 hgc hgd hgs hgp
    have hgen : ∀ h : Heap, h.get? s1.heap.objs.size = some go → h.IsGen s1.heap.objs.size s1.gens.size := fun h e => ⟨go, nm, qn, e, hgc, hgd, hgs⟩
    refine ⟨s1.heap.objs.size, s.heap.objs.size, s1.gens.size, _, rfl, Nat.le_refl _, by show s.heap.objs.size < (s1.heap.push go).objs.size; rw [Heap.size_push]; exact Nat.lt_succ_of_lt lt1, Nat.le_of_lt lt1, hgen _ (hgp _), Array.getElem?_push_size .., by rw [es1], AllBare.push (by rw [es1]; exact e0.bare) rfl, fun b o e => Heap.get?_push_of_some _ (kp1 b o e), ?_⟩
    intro Aw s2 H2 hrw hgw hfr hk2 hos e2 nL2 nA2
    have e0w : Env0 g.P g.w g.K g.mg g.base Aw outer s H := ⟨hfr, e0.mod, e0.bs, e0.bsz, e0.funs, e0.frf, e0.hok, e0.bare⟩
    have kp2 : ∀ b o, s1.heap.get? b = some o → s2.heap.get? b = some o := fun b o e => hk2 b o (Heap.get?_push_of_some _ e)
    have kp : ∀ b o, s.heap.get? b = some o → s2.heap.get? b = some o := fun b o e => kp2 b o (kp1 b o e)
    obtain ⟨t, ht, hq⟩ := hbody cdv Aw outer s H2 vs [(s1.heap.objs.size, go)] ⟨hrw.deeper _, hgw⟩
    have I1 : Inv (gcxOf g.P g.w g.K g.mg g.base N qual (defScope st) f cdv Aw outer s H (fun _ _ _ => False) []) [] (start N vs) H s1 := inv_startG S hrw.hd e0w hl r x
    have hcl : (gcxOf g.P g.w g.K g.mg g.base N qual (defScope st) f cdv Aw outer s H2 (fun _ _ _ => False) [(s1.heap.objs.size, go)]).env.cells = [] := cells_none nc
    have frl : ∀ c ∈ frs outer, c < s.heap.objs.size := fun c m => by
      obtain ⟨_, o, ho, _⟩ := e0.funs.mem m
      exact Heap.lt_size ho
    have hgs2 : s2.heap.get? s1.heap.objs.size = some go := hk2 _ _ (hgp s1.heap)
    have Hgo : H s1.heap.objs.size = none := I1.hok.fresh (Nat.le_refl _)
    have I1' : Inv (gcxOf g.P g.w g.K g.mg g.base N qual (defScope st) f cdv Aw outer s H (fun _ _ _ => False) [(s1.heap.objs.size, go)]) [] (start N vs) H { s1 with heap := s1.heap.push go } := by
      have I2 := I1.kept (t' := s1.toks) (h' := s1.heap.push go) fun b o e => Heap.get?_push_of_some _ e
      refine Inv.pinnedG I2 fun p hp => ?_
      rw [List.mem_singleton.mp (show p ∈ [(s1.heap.objs.size, go)] from by simpa using hp)]
      exact ⟨hgp _, Hgo, Nat.ne_of_gt lt1, I1.nofs (Nat.le_refl _), fun v q => by rw [hgd] at q; cases q⟩
    obtain ⟨m1, hns, _⟩ := I1.loc
    obtain ⟨oL, es, ep, hoL, hdL, _⟩ := hns
    have I3 := rebase (X := gcxOf g.P g.w g.K g.mg g.base N qual (defScope st) f cdv Aw outer s H2 (fun _ _ _ => False) [(s1.heap.objs.size, go)]) (a := s) (b := H) (A := Aw) (oL := oL) (s4 := s2) (H4 := H2) (show Inv { gcxOf g.P g.w g.K g.mg g.base N qual (defScope st) f cdv Aw outer s H2 (fun _ _ _ => False) [(s1.heap.objs.size, go)] with s_0 := s, H_0 := H, xe := _ } [] (start N vs) H { s1 with heap := s1.heap.push go } from I1') hcl rfl e2 e0.bsz (Heap.get?_push_of_some _ hoL) (kp2 _ _ hoL) nL2 frl
      fun p hp => by
        have z : p ∈ [(s1.heap.objs.size, go)] ++ ([] : List (Addr × Obj)) := hp
        rw [List.append_nil] at z
        rw [List.mem_singleton.mp z]
        exact ⟨hgs2, nA2⟩
    refine ⟨_, ⟨rfl, rfl, rfl, rfl, rfl, rfl, hcl, rfl, rfl, go, rfl, hgen⟩, fun Lk k0 yl fin ex hlk hsp => seg_func ?_⟩
    have lkl : LkL (gcxOf g.P g.w g.K g.mg g.base N qual (defScope st) f cdv Aw outer s H2 (fun _ _ _ => False) [(s1.heap.objs.size, go)]) Lk s2 k0 H2 := ⟨Nat.le_of_lt (Heap.lt_size (kp2 _ _ hoL)), hlk⟩
    refine ht.run Lk Aw [] _ sizeLine 0 k0 H2 s2 _ [] _ _ id id s2 (start N vs) H2 _ ⟨over_func, rfl, rfl, rfl⟩ rfl lkl (fun n i k' H0 s₀ s' fl hn lk' hs => ?_) (fun n i k' H0 s₀ e s' hn lk' hx => ?_) I3 (hq k0 yl fin ex hsp)
    rotate_left
    · refine seg_wrap ?_
      rw [over_func]
      refine wpAny_mono hx (fun _ s'' hc => ?_) fun _ _ z => z.elim
      exact seg_end (.error e) (.inr ⟨e, rfl, k', H0, lk', hc.1, hgen _ (hc.2 _ (List.mem_singleton.mpr rfl))⟩)
    cases fl with
    | next =>
      obtain ⟨σ', H', hI, hQ⟩ := hs
      exact seg_end (.ok (.ret .none)) (.inl ⟨rfl, k', H0, [], σ', H', lk', hI, hQ⟩)
    | brk => obtain ⟨_, _, _, q⟩ := hs; exact q.elim
    | cont => obtain ⟨_, _, _, q⟩ := hs; exact q.elim
    | ret u =>
      obtain ⟨v, σ', H', hI, rv, ev, hQ⟩ := hs
      subst ev
      have eu : u = Value.none := rv
      subst eu
      exact seg_end (.ok (.ret .none)) (.inl ⟨rfl, k', H0, [], σ', H', lk', hI, hQ⟩)
  exact main _ _ _ _ rfl rfl rfl fun h => Heap.get?_push_size _ rfl
abbrev TGkY := L2.St → Hp → ((Hp → SpVY) → Hp → Prop) → Prop
structure PKY (X : Cx) (k : Nat) (e : Expr) (tg : TGkY) : Prop where
  run : ∀ (pins : List (Addr × Obj)) (s : Shared) (σ : L2.St) (H : Hp) (Q : (Hp → SpVY) → Hp → Prop), Inv X pins σ H s → tg σ H Q → wpAny (model X.prog X.w) X.A (eval e X.env)
    (fun u s' => ∃ H1 sc spv, Inv X pins σ H1 sc ∧ GMkY X.prog X.w X.K X.mg X.base k X.stack sc spv u s' ∧ Q spv H1) X.xe s
def tForY (K : PySem.W.Frag) (tg : TGkY) (gt : TG) (tb : TS) (W : WX) : TS := fun D σ H => tg σ H fun spv H1 => spv H1 σ (fun _ k x H2 res => gt x k H2 fun σ2 H3 => tb { D with nx := res, ct := res, bk := D.nx } σ2 H3) D.nx
  fun k c d Hx => PySem.W.subIn K c (.type "StopIteration") = some false ∧ W c d k Hx
end RS
namespace RS
open PySem PySem.Spec L2 PyProof.Rows GenW
section
variable {Y : Cx} {pins : List (Addr × Obj)} {σ : L2.St} {H : Hp} {s s' : Shared} {E : XK} {W : WX} {u : Value} {L : Addr}
theorem XE.of_callL (I : Inv Y pins σ H s) (l0 : Y.s_0.heap.objs.size ≤ L) (l1 : Y.env.locals < L) (l2 : ∀ x c, Y.env.cells.lookup x = some c → c < L) (l3 : ∀ p ∈ Y.pn ++ pins, p.1 < L) (frl : ∀ c ∈ frs Y.stack, c < L) (hW : ∀ cls d H', E cls d H' → W cls d σ H')
    (c : CX Y.prog Y.w Y.stack H (tr L s) E u s') : XE Y W u s' := by
  obtain ⟨a, B, H', cls, d, rfl, fl, hok, ub, na, os, ag, hE⟩ := c
  obtain ⟨G, g1, g2⟩ := restrict s'.heap fun b => (B.get? b).isSome || decide (b ∈ frs Y.stack)
  have st : B.StaysIn s'.heap := fl.1
  have gB : ∀ b o, B.get? b = some o → G.get? b = some o := fun b o e => by
    rw [g1 b (by simp [e])]
    exact st b o e
  have gF : ∀ b, b ∈ frs Y.stack → G.get? b = s'.heap.get? b := fun b hb => g1 b (by simp [hb])
  have og : ∀ b o, G.get? b = some o → s'.heap.get? b = some o ∧ ((B.get? b).isSome = true ∨ b ∈ frs Y.stack) := fun b o e => by
    cases q : ((B.get? b).isSome || decide (b ∈ frs Y.stack)) with
    | false => rw [g2 b q] at e; cases e
    | true =>
      rw [g1 b q] at e
      exact ⟨e, by simpa [Bool.or_eq_true] using q⟩
  have mem : ∀ {b : Addr} {o : Obj}, s.heap.get? b = some o → b ∉ (List.range (s.heap.objs.size - L)).map (· + L) → (tr L s).heap.get? b = some o := fun {b o} e n => by
    by_cases lt : b < L
    · exact (front_get lt).trans e
    · refine absurd (List.mem_map.mpr ⟨b - L, List.mem_range.mpr ?_, ?_⟩) n
      · have := Heap.lt_size e
        exact Nat.sub_lt_sub_right (Nat.le_of_not_lt lt) this
      · exact Nat.sub_add_cancel (Nat.le_of_not_lt lt)
  refine ⟨a, B, { s with heap := G, gens := s'.gens, drawn := s'.drawn, toks := s'.toks }, pins, σ, H', cls, d, rfl, ?_, fun b o e hb => ?_, Heap.UpToSlots.of_keeps fun b o e => (og b o e).1, .inr (.inl fl), na, os, ag, hW _ _ _ hE⟩
  · refine I.call (ch := (List.range (s.heap.objs.size - L)).map (· + L)) ⟨fun b o e n hb hm => gB b o (ub.keep b o (mem e hm) n hb), fun b o e n hb hm => ?_, fun b o e n hm => ub.free b o (mem e hm) n, fun b o e hm => ?_, ub.tups, ub.frzs, ub.tbls⟩ (hok.kept gB) ag (fun b hm => ?_)
    · obtain ⟨sl, q⟩ := ub.slot b o (mem e hm) hb
      exact ⟨sl, by rw [gF b hb]; exact q⟩
    · by_cases hb : b ∈ frs Y.stack
      · obtain ⟨sl, q⟩ := ub.slot b o (mem e hm) hb
        exact ⟨_, by rw [gF b hb]; exact q⟩
      · obtain ⟨o', q⟩ := ub.there b o (mem e hm) hb
        exact ⟨o', gB b o' q⟩
    · obtain ⟨j, _, rfl⟩ := List.mem_map.mp hm
      have ge : L ≤ j + L := Nat.le_add_left _ _
      exact ⟨.inr (Nat.le_trans l0 ge), fun z => absurd (Nat.lt_of_lt_of_le l1 ge) (by rw [z]; exact Nat.lt_irrefl _), fun x c e z => absurd (Nat.lt_of_lt_of_le (l2 x c e) ge) (by rw [z]; exact Nat.lt_irrefl _),
        fun p hp z => absurd (Nat.lt_of_lt_of_le (l3 p hp) ge) (by rw [z]; exact Nat.lt_irrefl _)⟩
  · obtain ⟨e', h⟩ := og b o e
    rcases h with h | h
    · obtain ⟨o', q⟩ := Option.isSome_iff_exists.mp h
      have z := st b o' q
      rw [e'] at z; cases z
      exact q
    · exact absurd h hb
theorem XE.fin {gn : Nat} (x : XE Y W u s') (hb : AllBare s'.gens → AllBare (s'.setGen gn .finished).gens) : XE Y W u (s'.setGen gn .finished) := by
  obtain ⟨a, B, sI, pins, σ, H, cls, d, e, I, nb, up, sky, na, os, ag, w⟩ := x
  exact ⟨a, B, sI, pins, σ, H, cls, d, e, I, nb, up, sky, na, os, hb ag, w⟩
theorem kin_of_callL (I : Inv Y pins σ H s) (hst : Y.stack = Y.env :: Y.outer) (lb : Y.base.objs.size ≤ L) (c : CX Y.prog Y.w Y.stack H (tr L s) E u s') : Y.K.In s'.heap := by
  obtain ⟨a, B, H', cls, d, rfl, fl, hok, ub, na, os, ag, hE⟩ := c
  refine I.ok.mod.kin.keeps fun b o e => fl.1 b o ?_
  have e1 := I.bs b o e
  have lt : b < L := Nat.lt_of_lt_of_le (Heap.lt_size e) lb
  refine ub.keep b o ((front_get lt).trans e1.1) e1.2 (fun m => I.ok.nofr e (by
    have z : b = Y.env.locals ∨ b ∈ Y.fs := List.mem_cons.mp (I.stkSub b m)
    rcases z with y | y
    · have l1 := Heap.lt_size e
      have l2 := Nat.le_trans I.ok.bsz I.ok.above
      rw [y] at l1
      exact absurd (Nat.lt_of_lt_of_le l1 l2) (Nat.lt_irrefl _)
    · exact y))
end
theorem ps_forY {Y : Cx} {k : Nat} {tg iter : Expr} {body : List Stmt} {pos : Pos} {tk : TGkY} {gt : TG} {tb : TS} {W : WX} {KF : PySem.W.Frag} (hp : PassesOwn (model Y.prog Y.w) Y.A Y.env Y.xe) (hr : Rm (k + 1) Y) (tkX : Takes Y W) (he : PKY Y k iter tk) (hg : PG Y tg gt) (hb : PSs Y body tb)
    (hs : ∀ x, foldedSetIterable iter Y.env x = pure x := by intro _; rfl) (hst : Y.stack = Y.env :: Y.outer := by rfl) (hfr : Y.env.frame = some Y.env.locals := by rfl) (hK : Y.K = KF := by rfl) : PS Y (.For tg iter body [] pos) (tForY KF tk gt tb W) := by
  subst hK
  refine ⟨fun pins s σ H D I h => ?_⟩
  refine wpAny_For (thn (he.run pins s σ H _ I h) fun u s' hu => ?_) hs
  obtain ⟨H1, sc, spv, Isc, ⟨a, L, gn, c, rfl, hL, hL2, ha1, hig, hgs, hos, hba, hkp, wake⟩, hq⟩ := hu
  refine wpAny_pyIter_gen hig ?_
  have szg : ∀ {s : Shared} {x : GenState} {y : GenState}, s.gens[gn]? = some x → gn < s.gens.size := fun {s x y} e => (Array.getElem?_eq_some_iff.mp e).1
  have gsz : gn < s'.gens.size := (Array.getElem?_eq_some_iff.mp hgs).1
  have Is' : Inv Y pins σ H1 s' := Isc.call' (ch := []) hos (Un.kept hkp) (Isc.hok.kept hkp) hba fun b z => by simp at z
  have bareR : ∀ {s : Shared} {x : GenState}, AllBare s.gens → x.bare = true → AllBare (s.setGen gn x).gens := fun h hx => allBare_setGen h hx
  have r1 : Room k Y.A.in1 := ⟨hr.room.hd, by have := hr.room.dp; show Y.A.depth + 3 * k + 5 < _; omega, by have := hr.room.un; show Y.A.units + 1 + 16 * k + 200 < _; omega⟩
  have J0 : Inv Y pins σ H1 (s'.setGen gn .running) := inv_gens Is' (bareR hba rfl)
  obtain ⟨X, GX, seg⟩ := wake Y.A.in1 (s'.setGen gn .running) H1 r1 hr.gd Isc.ok.frames (fun b o e => e) hos J0.env0.in1 (Isc.hok.fresh hL) (Isc.hok.fresh ha1)
  have eL : X.env.locals = L := GX.loc
  let YL : YLk := fun _ k x H2 res => gt x k H2 fun σ2 H3 => tb { D with nx := res, ct := res, bk := D.nx } σ2 H3
  let Lk : LkR := fun s k H => Inv Y pins k H s
  let EX : L2.St → XK := fun k c d Hx => PySem.W.subIn Y.K c (.type "StopIteration") = some false ∧ W c d k Hx
  have S0 := seg Lk σ YL D.nx EX (inv_gens Is' (bareR hba rfl)) hq
  -- what is older than the generator
  have l0 : Y.s_0.heap.objs.size ≤ X.env.locals := by rw [eL]; exact Nat.le_trans Isc.sz hL
  have l1 : Y.env.locals < X.env.locals := by rw [eL]; exact Nat.lt_of_lt_of_le Isc.lt hL
  have l2 : ∀ x c, Y.env.cells.lookup x = some c → c < X.env.locals := fun x c e => by
    obtain ⟨v, o, ho, _⟩ := Isc.cell x c e
    rw [eL]; exact Nat.lt_of_lt_of_le (Heap.lt_size ho) hL
  have l3 : ∀ p ∈ Y.pn ++ pins, p.1 < X.env.locals := fun p m => by
    rw [eL]; exact Nat.lt_of_lt_of_le (Heap.lt_size (Isc.pin p m).1) hL
  have lb : X.base.objs.size ≤ X.env.locals := by rw [GX.base]; exact Nat.le_trans Isc.ok.bsz l0
  have frl : ∀ c ∈ frs X.outer, c < X.env.locals := fun c m => by
    rw [GX.outer] at m
    obtain ⟨_, o, ho, _⟩ := Isc.stack.mem m
    rw [eL]; exact Nat.lt_of_lt_of_le (Heap.lt_size ho) hL
  have mF : Y.env.locals ∈ frs X.outer ∧ ∀ b, b ∈ Y.fs → b ∈ frs X.outer := by
    rw [GX.outer, hst]
    have e : frs (Y.env :: Y.outer) = Y.env.locals :: frs Y.outer := by
      show List.filterMap _ (Y.env :: Y.outer) = _
      rw [List.filterMap_cons, hfr]
      rfl
    rw [e]
    exact ⟨List.mem_cons_self .., fun b m => List.mem_cons_of_mem _ m⟩
  refine codeAny_forLoop_any (fun m s1 => ∃ gs, s1.gens[gn]? = some gs ∧ gs.Goes (model Y.prog Y.w) Y.A.in1 (KEndY X Lk D.nx EX a gn) (KYp X (Lk) YL) m (.send .none) (s1.setGen gn .running) ∧ s1.heap.IsGen a gn ∧ s1.heap.NoLimit) ?_ sizeLine
    ⟨.fresh c, hgs, ⟨rfl, S0⟩, hig, Is'.nolimit⟩
  rintro m s1 ⟨gs, hg1, hgo, hig1, hl1⟩
  have sz1 : gn < s1.gens.size := (Array.getElem?_eq_some_iff.mp hg1).1
  refine wpAny_passesOwn hp (wpAny_gsz (n := gn + 1) sz1 ?_)
  refine nextSX (F := fun _ s₀ s1 => KFin X Lk D.nx s₀ s1) (Er := fun s₀ e t => ∃ k H0, LkL X Lk s₀ k H0 ∧ CX X.prog X.w X.outer H0 (tr X.env.locals s₀) (EX k) e t ∧ t.heap.IsGen a gn) hr.room.hd hl1 (by have := hr.room.dp; omega) hig1 hg1 hgo (fun v s2 gs' hbg hsu hv => ?_) (fun s2 hf h' hk => ?_) fun e t he => ?_
  · intro hsz
    obtain ⟨i, k', H0, x, ip, σg, Hx, res, hn, rv, ⟨lL, Ik⟩, Ig, hy, hkap⟩ := hv
    have Ik : Inv Y pins k' H0 (s1.setGen gn .running) := Ik
    have Iy : Inv Y pins k' Hx s2 := backY Ik Ig GX.outer GX.P GX.w GX.ex l0 l1 l2 l3
    have sz2 : gn < s2.gens.size := by
      have : (s2.setGen gn gs').gens.size = s2.gens.size := setGen_size _ _ _
      have z : gn + 1 ≤ (s2.setGen gn gs').gens.size := hsz
      omega
    have b5 : AllBare (s2.setGen gn gs').gens := bareR Iy.bare hbg
    have g5 : (s2.setGen gn gs').gens[gn]? = some gs' := setGen_at sz2
    obtain ⟨go, epn, hgen⟩ := GX.pn
    obtain ⟨mg, hns, _⟩ := Ig.loc
    obtain ⟨oL, es, ep, hoL, hdL, _⟩ := hns
    have hoL : s2.heap.get? X.env.locals = some oL := hoL
    have gpin : ∀ p ∈ X.pn ++ ip, s2.heap.get? p.1 = some p.2 ∧ Hx p.1 = none ∧ p.1 ≠ X.env.locals ∧ p.1 ∉ frs X.outer ∧ ∀ v, p.2.data ≠ .cell v := fun p hm => Ig.pin p hm
    have pge : ∀ {b : Addr}, b ∉ frs X.outer → b ≠ Y.env.locals ∧ b ∉ Y.fs := fun n => ⟨fun z => n (by rw [z]; exact mF.1), fun z => n (mF.2 _ z)⟩
    have nL : X.env.locals ∉ frs X.outer := fun z => absurd (frl _ z) (Nat.lt_irrefl _)
    have HL : Hx X.env.locals = none := Ig.free
    have Ip : Inv Y (pins ++ ((X.env.locals, oL) :: (X.pn ++ ip))) k' Hx (s2.setGen gn gs') := (inv_gens Iy b5).pins_of fun p hp => by
      rcases List.mem_append.mp hp with z | z
      · exact Iy.pin p (List.mem_append_right _ z)
      · rcases List.mem_cons.mp z with z | z
        · rw [z]
          exact ⟨hoL, HL, (pge nL).1, (pge nL).2, fun v q => by rw [hdL] at q; cases q⟩
        · obtain ⟨h1, h2, h3, h4, h5⟩ := gpin p z
          exact ⟨h1, h2, (pge h4).1, (pge h4).2, h5⟩
    have pinned : ∀ {σ7 : L2.St} {H7 : Hp} {s7 : Shared}, Inv Y (pins ++ ((X.env.locals, oL) :: (X.pn ++ ip))) σ7 H7 s7 → (s7.heap.get? X.env.locals = some oL ∧ H7 X.env.locals = none) ∧ ∀ p ∈ X.pn ++ ip, s7.heap.get? p.1 = some p.2 ∧ H7 p.1 = none := fun {σ7 H7 s7} I7 =>
      ⟨⟨(I7.pin (X.env.locals, oL) (List.mem_append_right _ (List.mem_append_right _ (List.mem_cons_self ..)))).1, (I7.pin (X.env.locals, oL) (List.mem_append_right _ (List.mem_append_right _ (List.mem_cons_self ..)))).2.1⟩,
        fun p hp => ⟨(I7.pin p (List.mem_append_right _ (List.mem_append_right _ (List.mem_cons_of_mem _ hp)))).1, (I7.pin p (List.mem_append_right _ (List.mem_append_right _ (List.mem_cons_of_mem _ hp)))).2.1⟩⟩
    have mgo : (a, go) ∈ X.pn ++ ip := by rw [epn]; exact List.mem_append_left _ (List.mem_singleton.mpr rfl)
    obtain ⟨og, nm, qn, hog, hcg, hdg, hsg⟩ := hgen (s2.setGen gn gs').heap (gpin _ mgo).1
    refine go_of hog hcg hdg (by decide) ?_
    refine wpAny_passesOwn hp (thn (kept_asleep g5 hsu b5 (hg.run _ (s2.setGen gn gs') k' Hx x v _ Ip rv hy) fun G hG => hg.run _ { s2.setGen gn gs' with gens := G } k' Hx x v _ (inv_gens Ip hG) rv hy) fun _ s6 q => ?_)
    obtain ⟨⟨σ6, H6, I6, q6⟩, g6⟩ := q
    refine wpAny_passesOwn hp (thn (kept_asleep g6 hsu I6.bare (hb.run _ s6 σ6 H6 _ I6 q6) fun G hG => hb.run _ { s6 with gens := G } σ6 H6 _ (inv_gens I6 hG) q6) fun f s7 q => ?_)
    obtain ⟨q7, g7⟩ := q
    have less : ∀ {σ7 : L2.St} {H7 : Hp}, Inv Y (pins ++ ((X.env.locals, oL) :: (X.pn ++ ip))) σ7 H7 s7 → Inv Y pins σ7 H7 s7 := fun I7 => I7.pins_of fun p hp => I7.pin p (List.mem_append_right _ (List.mem_append_left _ hp))
    have again : ∀ {σ7 : L2.St} {H7 : Hp}, Inv Y (pins ++ ((X.env.locals, oL) :: (X.pn ++ ip))) σ7 H7 s7 → res σ7 H7 → ∃ m', m' < m ∧ ∃ gs, s7.gens[gn]? = some gs ∧ gs.Goes (model Y.prog Y.w) Y.A.in1 (KEndY X Lk D.nx EX a gn) (KYp X Lk YL) m' (.send .none) (s7.setGen gn .running) ∧ s7.heap.IsGen a gn ∧ s7.heap.NoLimit := fun {σ7 H7} I7 r7 => by
      have b7 : AllBare (s7.setGen gn .running).gens := bareR I7.bare rfl
      obtain ⟨⟨p1, p2⟩, p3⟩ := pinned I7
      have J7 : Inv Y pins σ7 H7 (s7.setGen gn .running) := inv_gens (less I7) b7
      have e7 : Env0 X.prog X.w X.K X.mg X.base Y.A X.outer (s7.setGen gn .running) H7 := by
        rw [GX.P, GX.w, GX.K, GX.mg, GX.base, GX.outer]
        exact J7.env0
      have B7 : Inv (reX X (s7.setGen gn .running) H7) ip σg H7 (s7.setGen gn .running) := rebase Ig GX.cells GX.ex e7 lb hoL p1 p2 frl p3
      have z := hkap σ7 H7 (s7.setGen gn .running) ⟨Nat.le_of_lt (Heap.lt_size p1), J7⟩ B7 r7
      cases m with
      | zero => exact z.elim
      | succ m' => exact ⟨m', Nat.lt_succ_self _, gs', g7, z, hgen _ (p3 _ mgo).1, I7.nolimit⟩
    cases f with
    | next => obtain ⟨σ7, H7, I7, n7⟩ := q7; exact again I7 n7
    | cont => obtain ⟨σ7, H7, I7, n7⟩ := q7; exact again I7 n7
    | brk => obtain ⟨σ7, H7, I7, n7⟩ := q7; exact ⟨σ7, H7, less I7, n7⟩
    | ret w => obtain ⟨x7, σ7, H7, I7, r7, n7⟩ := q7; exact ⟨x7, σ7, H7, less I7, r7, n7⟩
  · intro _
    obtain ⟨k', H0, ip, σg, H', ⟨lL, Ik⟩, Ig, hfin⟩ := hf
    have Ik : Inv Y pins k' H0 (s1.setGen gn .running) := Ik
    have Iy : Inv Y pins k' H' s2 := backY Ik Ig GX.outer GX.P GX.w GX.ex l0 l1 l2 l3
    have I2 := (inv_gens Iy (G := (s2.setGen gn .finished).gens) (bareR Iy.bare rfl)).kept (t' := s2.toks) (h' := h') hk
    exact wpAny_execs_nil ⟨k', H', I2, hfin⟩
  · obtain ⟨k', H0, ⟨lL, Ik⟩, hcx, hgt⟩ := he
    have Ik : Inv Y pins k' H0 (s1.setGen gn .running) := Ik
    have hcx : CX Y.prog Y.w Y.stack H0 (tr X.env.locals (s1.setGen gn .running)) (EX k') e t := by rw [← GX.outer, ← GX.P, ← GX.w]; exact hcx
    have nst : NoStop Y.K (EX k') := fun cls d Hx z => z.1
    have xe := XE.of_callL (W := W) Ik l0 l1 l2 l3 (by rw [← GX.outer]; exact frl) (fun cls d H' z => z.2) hcx
    refine ⟨hgt, notStop_of nst (kin_of_callL Ik hst (by rw [GX.base] at lb; exact lb) hcx) hcx, ?_⟩
    exact fun _ => tkX _ _ (XE.fin xe fun b => bareR b rfl)
end RS
namespace RS
open PySem PySem.Spec L2 PyProof.Rows GenW
/-- the module holds a generator def x that raises -/
def KgfY (g : Wd) (x : Str) (k : Nat) (ps : List Str) (ds : List V) (sp : SpY) : Prop :=
  ∃ f fd dsV, g.mg x = some (.ref f) ∧ PySem.W.keepIn g.K (.ref f) = true ∧ GKnY g.P g.w g.K g.mg g.base k f fd ps sp ∧ Binds g.K fd ps dsV ∧ Vals ds dsV
def tKMY (C : Addr) (m : Str) (n : Nat) (sp : SpY) (ds : List V) (ta : TE) (t : TA) : TGkY := fun σ H Q => ta σ H fun x H1 => ∃ a dx fs, x = .ref a ∧ H1 a = some (.ins C dx fs) ∧ fs.lookup m = none ∧ t σ H1 fun vs H2 => (x :: (vs ++ ds)).length = n ∧ Q (sp (x :: (vs ++ ds))) H2
def tKCY (n : Nat) (sp : SpY) (ds : List V) (t : TA) : TGkY := fun σ H Q => t σ H fun vs H1 => (vs ++ ds).length = n ∧ Q (sp (vs ++ ds)) H1
section
variable {g : Wd} {X : Cx} {C : Addr} {m x : Str} {k : Nat} {ps : List Str} {ds : List V} {sp : SpY} {o e : Expr} {es : List Expr} {ta : TE} {t : TA} {p apos pos : Pos}
theorem run_gknY {f : Addr} {fd : FuncData} {dsV : List Value} (F : GKnY X.prog X.w X.K X.mg X.base k f fd ps sp) (hr : Rm k X) (hb : Binds X.K fd ps dsV) (hd : Vals ds dsV) {pins : List (Addr × Obj)} {σ : L2.St} {H : Hp} {s : Shared} {Q : (Hp → SpVY) → Hp → Prop} {us : List Value} {vs : List V} {E1 : Value → Shared → Prop}
    (I : Inv X pins σ H s) (r : Vals vs us) (hl : (vs ++ ds).length = ps.length) (h : Q (sp (vs ++ ds)) H) :
    wpAny (model X.prog X.w) X.A (call (.ref f) us) (fun u s' => ∃ H1 sc spv, Inv X pins σ H1 sc ∧ GMkY X.prog X.w X.K X.mg X.base k X.stack sc spv u s' ∧ Q spv H1) E1 s := by
  have r2 : Vals (vs ++ ds) (us ++ dsV) := r.append hd
  have hl2 : (us ++ dsV).length = ps.length := by rw [← r2.length]; exact hl
  refine wpAny_call (codeAny_mono (F.run X.A X.stack s H ⟨us, []⟩ (us ++ dsV) (vs ++ ds) hr.room hr.gd I.env0 (hb s us I.kIn hl2) r2 hl) fun r s' hq => ?_)
  cases r with
  | error e => exact False.elim hq
  | ok fl =>
    cases fl with
    | ret u => exact ⟨H, s, _, I, hq, h⟩
    | next => exact False.elim hq
    | brk => exact False.elim hq
    | cont => exact False.elim hq
theorem pky_call (F : KgfY g x k ps ds sp) (hr : Rm k X) (ha : PA X (e :: es) t) (hg : Gl X x := by rfl) (hdb : (x == ("__debug__" : Str)) = false := by decide)
    (he : starEach (e :: es) X.env = (false, eval e X.env) :: starEach es X.env := by rfl) (hpl : (backTo pos (starEach es X.env)).any (·.1) = false := by rfl) (at_ : At g X := by exact ⟨rfl, rfl, rfl, rfl, rfl⟩) :
    PKY X k (.Call (.Name x p) (e :: es) [] pos) (tKCY ps.length sp ds t) := by
  obtain ⟨f, fd, dsV, hm, hk, F, hb, rd⟩ := F
  obtain ⟨P, w, K, mg, base⟩ := g
  obtain ⟨rfl, rfl, rfl, rfl, rfl⟩ := at_
  refine ⟨fun pins s σ H Q I h => wpAny_Call_Name_kw (ld_glob I hg hm ?_ hdb)⟩
  refine PySem.W.callWith_K (h₀ := X.base) I.ok.mod.kin hk (thn (ha.run pos pins s σ H _ I h) ?_) he hpl
  rintro us s1 ⟨vs, H1, I1, r, hl, q⟩
  exact ⟨I1.kIn, run_gknY F hr hb rd I1 r hl q⟩
end
/-- it does not raise -/
def noX : L2.St → XK := fun _ _ _ _ => False
theorem GKnY.calm {P : Program} {w : World} {K : PySem.W.Frag} {mg : Str → Option Value} {base : Heap} {k : Nat} {f : Addr} {fd : FuncData} {ps : List Str} {sp : SpY} (F : GKnY P w K mg base k f fd ps sp) : GKn2 P w K mg base k f fd ps (fun vs H k0 yl fin => sp vs H k0 yl fin noX) := by
  refine ⟨fun A outer s H args us vs hr hg e0 hb r hl => codeAny_mono (F.run A outer s H args us vs hr hg e0 hb r hl) fun r s' hq => ?_⟩
  cases r with
  | error e => exact False.elim hq
  | ok fl =>
    cases fl with
    | ret u =>
      obtain ⟨a, L, gn, c, eu, hL, hL2, ha, hig, hgs, hos, hba, hkp, wake⟩ := hq
      refine ⟨a, L, gn, c, eu, hL, hL2, ha, hig, hgs, hos, hba, hkp, fun A s2 H2 h1 h2 h3 h4 h5 h6 h7 h8 => ?_⟩
      obtain ⟨X, GX, seg⟩ := wake A s2 H2 h1 h2 h3 h4 h5 h6 h7 h8
      refine ⟨X, GX, fun Lk k0 yl fin lk hs => seg_imp (fun n s₀ r t z => ?_) (fun _ _ _ _ _ _ h z => by
        obtain ⟨i, k, H0, x, ip, σ, H, res, a1, a2, a3, a4, a5, a6⟩ := z
        exact ⟨i, k, H0, x, ip, σ, H, res, a1, a2, a3, a4, a5, fun k' H' s' b1 b2 b3 => h _ _ (a6 k' H' s' b1 b2 b3)⟩) sizeLine (seg Lk k0 yl fin noX lk hs)⟩
      rcases z with z | ⟨e, _, k, H0, _, cx, _⟩
      · exact z
      · obtain ⟨_, _, _, _, _, _, _, _, _, _, _, _, z⟩ := cx
        exact z.elim
    | next => exact False.elim hq
    | brk => exact False.elim hq
    | cont => exact False.elim hq
theorem KgfY.calm {g : Wd} {x : Str} {k : Nat} {ps : List Str} {ds : List V} {sp : SpY} (h : KgfY g x k ps ds sp) : Kgf2 g x k ps ds (fun vs H k0 yl fin => sp vs H k0 yl fin noX) := by
  obtain ⟨f, fd, dsV, a, b, c, d, e⟩ := h
  exact ⟨f, fd, dsV, a, b, c.calm, d, e⟩
end RS
namespace RS
open PySem PySem.Spec L2 PyProof.Rows ClX
end RS
namespace RS
open PySem PySem.Spec L2 PyProof.Rows GenW
theorem takes_y {g : Wd} {N : List Str} {qual : Str} {st : Stmt} {f : Addr} {cdv : Value} {A : Around} {outer : List Env} {s s0 : Shared} {H H0 : Hp} {E : XK} {pn : List (Addr × Obj)} : Takes (reY (gcxOf g.P g.w g.K g.mg g.base N qual (defScope st) f cdv A outer s H (fun _ _ _ => False) pn) s0 H0 E) (fun cls d _ H' => E cls d H') := fun u s' x =>
  XE.leaveG (X := reY (gcxOf g.P g.w g.K g.mg g.base N qual (defScope st) f cdv A outer s H (fun _ _ _ => False) pn) s0 H0 E) (W := fun cls d _ H' => E cls d H') (E := E) rfl rfl rfl (fun _ _ _ _ h => h) x
end RS
namespace RS
open PySem PySem.Spec L2 PyProof.Rows GenW
def tListX (K : PySem.W.Frag) (tk : TGkX) (W : WX) : TE := fun σ H _ => tk σ H fun spx H1 => spx H1 fun c d Hx => PySem.W.subIn K c (.type "StopIteration") = some false ∧ W c d σ Hx
end RS
namespace PySem.SeqAt
open PySem PySem.MeetsSeq
end PySem.SeqAt
namespace RS
open PySem PySem.Spec L2 PyProof.Rows
end RS
namespace PySem.W
open PySem PySem.Spec PyProof.Rows PyProof.V PyProof
end PySem.W
namespace RS
open PySem PySem.Spec L2 PyProof.Rows LamX
end RS
namespace RS
open PySem PySem.Spec L2 PyProof.Rows
end RS
namespace PySem
open Sem (wp)
end PySem
namespace RS
open PySem PySem.Spec L2
end RS
set_option maxHeartbeats 2000000
namespace RS
open PySem PySem.Spec L2 PyProof.Rows GenW
end RS
namespace RS
open PySem PySem.Spec L2 PyProof.Rows
def txOf (e : Int × Value) : Str := match e.2 with
  | .str x _ => x
  | _ => Str.empty
def EnTx (w : World) (e : Int × Value) : Prop := ∃ x u, e.2 = Value.str x u ∧ e.1 = hashStr w x
/-- entries and table hold the texts l in some order -/
structure TbS (w : World) (ar : Array (Int × Value)) (tb : SetTable) (l : List Str) : Prop where
  en : ∀ e ∈ ar.toList, EnTx w e
  pm : (ar.toList.map txOf).Perm l
  nd : l.Nodup
  ft : tb.fits ar.size = true
  rs : Ris tb.place.toList
  ld : w.params.followText "set-order" = true ∨ tb.led = true
  sz : l.length < scanBound
def SetS (w : World) (hp : Heap) (a : Addr) (l : List Str) : Prop := ∃ ob ar ep tb, hp.get? a = some ob ∧ ob.ExactSet ∧ ob.data = .set ar ep tb ∧ TbS w ar tb l
section
variable {P : Program} {w : World} {A : Around} {E : Value → Shared → Prop} {sh : Shared} {a : Addr} {l : List Str} {ar : Array (Int × Value)} {tb : SetTable}
theorem SetS.at {hp hp' : Heap} (R : SetS w hp a l) (k : ∀ ob, hp.get? a = some ob → hp'.get? a = some ob) : SetS w hp' a l := by
  obtain ⟨ob, ar, ep, tb, h1, h2⟩ := R
  exact ⟨ob, ar, ep, tb, k ob h1, h2⟩
theorem TbS.len (T : TbS w ar tb l) : ar.size = l.length := by
  rw [← T.pm.length_eq, List.length_map, Array.length_toList]
theorem enS_is {e : Int × Value} (n : EnTx w e) (x : Str) : (strKind P w).is x e.2 = true ↔ txOf e = x := by
  obtain ⟨y, u, e1, _⟩ := n
  unfold txOf
  rw [e1]
  show ((y == x) = true) ↔ y = x
  exact beq_iff_eq
theorem TbS.has (T : TbS w ar tb l) (x : Str) : x ∈ l ↔ ∃ e ∈ ar.toList, (strKind P w).is x e.2 = true := by
  rw [← T.pm.mem_iff, List.mem_map]
  exact ⟨fun ⟨e, m, q⟩ => ⟨e, m, (enS_is (T.en e m) x).2 q⟩, fun ⟨e, m, q⟩ => ⟨e, m, (enS_is (T.en e m) x).1 q⟩⟩
end
end RS
namespace RS
open PySem PySem.Spec L2 PyProof.Rows
end RS
namespace RS
open PySem PySem.Spec L2 PyProof.Rows
end RS
namespace RS
open PySem PySem.Spec L2 PyProof.Rows ClX
/-- C.m is a staticmethod that takes any number of arguments -/
def KsmS (g : Wd) (C : Addr) (m : Str) (k : Nat) (sp : Sp) : Prop := ∃ f mc p rest, CRead g.K C mc ∧ PySem.W.typeIn g.K (.ref C) = some mc ∧ PySem.W.findCls g.K (.ref C) mc m = some (.get (.builtin "staticmethod.__get__") (.ref p) .none (.ref C)) ∧ PySem.W.recIn g.K p "staticmethod" = some (.ref f :: rest) ∧ PySem.W.keepIn g.K (.ref f) = true ∧ FnS g k f sp
section
variable {g : Wd} {X : Cx} {k : Nat} {C : Addr} {sp : Sp} {W : WX} {m x : Str} {o e : Expr} {es : List Expr} {p pos apos : Pos} {ta te : TE} {t : TA} {pl : Sem Bool}
def tCallStar (K : PySem.W.Frag) (sp : Sp) (W : WX) (te : TE) : TE := fun σ H Q => te σ H fun u H2 => ∃ b vs, u = .ref b ∧ (SqT K H2 b vs ∨ SqL K H2 b vs) ∧ sp vs H2 Q (fun c d H' => W c d σ H')
theorem pe_callStar {sp_ : Pos} (F : KnS g x k sp) (hr : Rm k X) (tk : Takes X W) (hb : PE X e te)
    (hst : starEach [.Starred e sp_] X.env = [(true, eval e X.env)] := by rfl) (hg : Gl X x := by rfl) (hdb : (x == ("__debug__" : Str)) = false := by decide) (a : At g X := by exact ⟨rfl, rfl, rfl, rfl, rfl⟩) :
    PE X (.Call (.Name x p) [.Starred e sp_] [] pos) (tCallStar g.K sp W te) := by
  obtain ⟨f, hm, hk, F⟩ := F
  refine ⟨fun pins s σ H Q I h => wpAny_Call_Name_kw (ld_glob I hg (by rw [a.mg]; exact hm) ?_ hdb)⟩
  refine PySem.W.callWith_S (h₀ := X.base) I.ok.mod.kin (by rw [a.K]; exact hk) (thn (hb.run pins s σ H _ I h) fun v s2 ⟨y, H2, I2, ry, b, vs, ey, hxs, q2⟩ => ?_) hst
  subst ey
  obtain rfl : v = Value.ref b := ry
  exact StX.star_any I2 (by rw [a.K]; exact hxs) fun us s3 I3 rv => ⟨I3.kIn, callS a F hr tk I3 rv q2⟩
def tSmS (C : Addr) (sp : Sp) (W : WX) (ta : TE) (t : TA) : TE := fun σ H Q => ta σ H fun x H1 => x = .ref C ∧ t σ H1 fun vs H2 => sp vs H2 Q (fun c d H' => W c d σ H')
theorem pe_smS (he : PE X o ta) (F : KsmS g C m k sp) (hr : Rm k X) (tk : Takes X W) (ha : PA X (e :: es) t)
    (hst : starEach (e :: es) X.env = (false, eval e X.env) :: starEach es X.env := by rfl) (hpl : (backTo pos (starEach es X.env)).any (·.1) = false := by rfl)
    (ht : eval (.Call (.Attribute o m apos) (e :: es) [] pos) X.env = (do
      let ov ← eval o X.env
      standAt apos.atName
      let (f, first) ← holding [ov] (getMethod ov m pl)
      callWith pos f first (backTo pos (starEach (e :: es) X.env)) (backToKw pos (keywordEach [] X.env))) := by rfl) (a : At g X := by exact ⟨rfl, rfl, rfl, rfl, rfl⟩) :
    PE X (.Call (.Attribute o m apos) (e :: es) [] pos) (tSmS C sp W ta t) := by
  obtain ⟨f, mc, p, rest, r, ty, fc, rc, hk, F⟩ := F
  rw [← a.K] at r ty fc rc
  refine ⟨fun pins s σ H Q I h => ?_⟩
  refine PySem.W.methodCall_KW (pl := pl) (thn (he.run pins s σ H _ I h) fun u s1 ⟨x, H1, I1, rx, ex, q⟩ => ?_) ht
  subst ex
  obtain rfl : u = Value.ref C := rx
  refine PySem.W.method_cls I1.kIn r.ga (PySem.W.cls_bind I1.kIn r.rd fc (wpAny_call (PySem.W.sm_get (s := { s1 with toks := s1.toks + 1 }) I1.kIn rc (PySem.W.handed_on rfl ?_))))
  have I2 := I1.tok (t := s1.toks + 1)
  refine PySem.W.callWith_K (h₀ := X.base) I2.ok.mod.kin (by rw [a.K]; exact hk) (thn (ha.run pos pins _ σ H1 _ I2 q) ?_) hst hpl
  rintro us s2 ⟨vs, H2, I3, rv, q2⟩
  exact ⟨I3.kIn, callS a F hr tk I3 rv q2⟩
theorem pe_smS0 (he : PE X o ta) (F : KsmS g C m k sp) (hr : Rm k X) (tk : Takes X W)
    (ht : eval (.Call (.Attribute o m apos) [] [] pos) X.env = (do
      let ov ← eval o X.env
      standAt apos.atName
      let (f, first) ← holding [ov] (getMethod ov m pl)
      callWith pos f first (backTo pos (starEach [] X.env)) (backToKw pos (keywordEach [] X.env))) := by rfl) (a : At g X := by exact ⟨rfl, rfl, rfl, rfl, rfl⟩) :
    PE X (.Call (.Attribute o m apos) [] [] pos) (tSmS C sp W ta tNil) := by
  obtain ⟨f, mc, p, rest, r, ty, fc, rc, hk, F⟩ := F
  rw [← a.K] at r ty fc rc
  refine ⟨fun pins s σ H Q I h => ?_⟩
  refine PySem.W.methodCall_KW (pl := pl) (thn (he.run pins s σ H _ I h) fun u s1 ⟨x, H1, I1, rx, ex, q⟩ => ?_) ht
  subst ex
  obtain rfl : u = Value.ref C := rx
  refine PySem.W.method_cls I1.kIn r.ga (PySem.W.cls_bind I1.kIn r.rd fc (wpAny_call (PySem.W.sm_get (s := { s1 with toks := s1.toks + 1 }) I1.kIn rc (PySem.W.handed_on rfl ?_))))
  have I2 := I1.tok (t := s1.toks + 1)
  exact PySem.W.callWith_K0 I2.kIn (by rw [a.K]; exact hk) (callS a F hr tk I2 .nil q)
end
end RS
namespace RS
open PySem PySem.Spec L2 PyProof.Rows
theorem blkOk_any {N : List Str} {sc sc0 scope : Scope} {own : List (Str × Nat)} (h : blkC N sc0 scope own = true) (hf : (scope.names.all fun y => match y.2 with | .free => false | _ => true) = true) : BlkOk N sc scope own := by
  obtain ⟨a, b, c, d, e⟩ := blkOk_by h
  refine ⟨a, b, c, fun y hy ey => ?_, e⟩
  have := List.all_eq_true.mp hf y hy
  rw [ey] at this
  cases this
section
variable {X : Cx} {K : PySem.W.Frag}
def rTupOf (K : PySem.W.Frag) : List V → Hp → VK → Prop := fun xs H Q => ∃ p ys, xs = [V.ref p] ∧ ((SqL K H p ys ∧ ∀ (l : Addr), H l = none → Q (V.ref l) (upd H l (HO.tup ys))) ∨ SqT K H p ys ∧ Q (V.ref p) H)
theorem c_tupOf (hK : X.K = K := by rfl) (hc : X.calm = true := by rfl) : CallR X (.type "tuple") (rTupOf K) := by
  subst hK
  exact call_tuple_of
end
end RS
namespace K27
open PySem PySem.Spec L2 RS
/-- the texts of values -/
def num (n : Nat) : Str := Str.ofString (toString (n : Int))
mutual
def spell : PyData → Str
  | .none => "n"
  | .bool b => if b then "t" else "f"
  | .int i => ("i" : Str) ++ Str.ofString (toString i) ++ ";"
  | .str x => ("s" : Str) ++ num x.length ++ ":" ++ x
  | .list ds => ("l" : Str) ++ num ds.length ++ ":" ++ spells ds
  | .tuple ds => ("u" : Str) ++ num ds.length ++ ":" ++ spells ds
  | .dict D => ("d" : Str) ++ num D.length ++ ":" ++ spellKv D
def spells : List PyData → Str
  | [] => Str.empty
  | d :: ds => spell d ++ spells ds
def spellKv : List (PyData × PyData) → Str
  | [] => Str.empty
  | (k, d) :: r => spell k ++ spell d ++ spellKv r
end
def cat : List Str → Str
  | [] => Str.empty
  | x :: xs => x ++ cat xs
theorem join1 : ∀ xs : List Str, Str.join (Str.ofString "") xs = cat xs
  | [] => rfl
  | [x] => by show x = x ++ Str.empty; rw [Str.append_empty]
  | x :: y :: r => by
    have e : Str.join (Str.ofString "") (x :: y :: r) = x ++ Str.ofString "" ++ Str.join (Str.ofString "") (y :: r) := rfl
    have e0 : Str.ofString "" = Str.empty := by decide +kernel
    rw [e, join1 (y :: r), e0, Str.append_empty]
    rfl
theorem join0 (xs : List Str) : Txt.join (Str.ofString "") xs = cat xs := by
  exact (StrLaws.glued_eq_join _ _).trans (join1 xs)
theorem cat_len : ∀ xs : List Str, (cat xs).length = (xs.map (·.length)).sum
  | [] => rfl
  | x :: xs => by simp [cat, Str.length_append, cat_len xs]
theorem cat_map_spell : ∀ ds : List PyData, cat (ds.map spell) = spells ds
  | [] => by simp [cat, spells]
  | d :: ds => by simp [cat, spells, cat_map_spell ds]
theorem cat_map_kv : ∀ D : List (PyData × PyData), cat (D.map fun p => spell p.1 ++ spell p.2) = spellKv D
  | [] => by simp [cat, spellKv]
  | (k, d) :: r => by simp [cat, spellKv, cat_map_kv r]
theorem spells_get : ∀ {ds : List PyData} {i : Nat} {d : PyData}, ds[i]? = some d → (spell d).length ≤ (spells ds).length
  | x :: xs, 0, d, e => by cases e; simp only [spells, Str.length_append]; omega
  | x :: xs, i + 1, d, e => by
    have := spells_get (ds := xs) (by simpa using e)
    simp only [spells, Str.length_append]; omega
  | [], _, _, e => by simp at e
theorem spellKv_get : ∀ {D : List (PyData × PyData)} {i : Nat} {k d : PyData}, D[i]? = some (k, d) → (spell k).length + (spell d).length ≤ (spellKv D).length
  | (x, y) :: xs, 0, k, d, e => by cases e; simp only [spellKv, Str.length_append]; omega
  | (x, y) :: xs, i + 1, k, d, e => by
    have := spellKv_get (D := xs) (by simpa using e)
    simp only [spellKv, Str.length_append]; omega
  | [], _, _, _, e => by simp at e
theorem num_log {n : Nat} (h : n ≤ 10000) : ((n : Nat) : Int).natAbs.log2 < 1920 := by
  rw [Int.natAbs_natCast]
  by_cases z : n = 0
  · rw [z]; decide
  · exact (Nat.log2_lt z).mpr (Nat.lt_of_le_of_lt h (by decide +kernel))
def W : Nat → Nat
  | 0 => 130
  | n + 1 => 30 + 4 * (W n + 30)
theorem num_len {n : Nat} (h : n ≤ 10000) : (num n).length ≤ 5 := by
  unfold num
  rw [ofString_length]
  exact (Nat.length_repr_le_iff (n := n) (by decide)).mpr (by omega)
mutual
/-- has it lists or dicts -/
def hm : PyData → Bool
  | .list _ => true
  | .dict _ => true
  | .tuple ds => hmAll ds
  | _ => false
def hmAll : List PyData → Bool
  | [] => false
  | d :: ds => hm d || hmAll ds
end
local macro_rules | `(tactic| walk_at "sx") => `(tactic| simp only [tRet, tRetN, tSeq, C8.tCut, tNext, tAsg, gName, gNil, gCons, gTup, gFld, tIfS, tIf, tAndV, tOrV, tNotV, tAnd, tOr, tNot, tB, tTest, tOp, tUn, tCB, tCons, tNil, tVar, tC, tChain, tDrop, RS.tCallG, RS.tMethG, tMakeG, RS.tCallK, RS.tMakeK, tEqOwn, rI, rI0, rU, add_ii, add_ss, add_rr, mul_ii, mul_si, mul_ri, RS.eq_ii, RS.eq_ss, eq_bb, eq_nn, eq_sn, eq_ns, eq_in, eq_ni, eq_bn, eq_nb, eq_is, eq_si, eq_rr, ne_ii, ne_ss, ne_bb, ne_nn, ne_sn, ne_ns, ne_in, ne_ni, ne_is, ne_si, ne_rr, in_ss, in_r, nin_ss, nin_r, len_s, len_r, RS.ix_s, RS.ix_r, sl_s, sl_r, is_eq, tyN_n, tyN_b, tyN_i, tyN_s, tru_b, tru_i, tru_n, tSl, tPart, tNoPart, tPar, tPar3, tFmtZ, tFmt, tJs, tDGet, sDPut, sFld, tFld, tTup, tLst, tNever, isB,
  L2.start, List.map_cons, List.map_nil, List.length_cons, List.length_nil, Nat.reduceAdd, Nat.reduceSub, Nat.sub_self, List.replicate_zero, List.replicate_succ, List.append_nil, List.cons_append, List.nil_append, List.getElem?_cons_zero, List.getElem?_cons_succ, List.set_cons_zero, List.set_cons_succ, Option.some.injEq, exists_eq_left, exists_eq_left', exists_and_left, V.bl.injEq, V.int.injEq, V.str.injEq, V.ref.injEq, beq_self_eq_true, Bool.true_or, Bool.or_true, Bool.false_or, Bool.or_false, Bool.and_false, Bool.false_and, Bool.true_and, Bool.and_true, Bool.not_true, Bool.not_false, Bool.false_eq_true, if_true, if_false, ite_true, ite_false, true_and, and_true, and_assoc, String.reduceBEq, String.reduceEq, reduceIte, Bool.and_self, reduceCtorEq, false_and, and_false, exists_false, or_false, false_or, exists_const, iEnumS, iStr, iList, iTup, iRng1, iEnum, tFor_eq, tLc_eq, List.cons.injEq, wipe, not_true_eq_false, not_false_eq_true, upd_same, HO.ins.injEq, HO.tup.injEq, HO.lst.injEq, ofS_eq, lk_nil, lk_cons, pu_nil, pu_cons, sizeLine_eq, Nat.reduceLT, Nat.reduceLeDiff, Nat.reduceEqDiff, Nat.le_refl, decide_true, decide_false, tPr, dget_us, dput_us, vv_nil, vv_cons, RS.pk_nil, pk_one, RS.pk_cons, inr_eq, tDisp, tPairs, tBoolOwn, rBoolOwn, tBM, rAppend, ty_list, ty_str, rEqOwn, iEnumT, RS.tCallS, tM1, tDc_eq, tLock, tLockE, iKeys, tListEnum, rUpdate, tMkX0, tMkX1, tXfv, gSub, rSetL, List.getD_cons_zero, List.getD_cons_succ])
theorem lit_0 : (Str.ofString "recordshelf.errors") = SX.S [114, 101, 99, 111, 114, 100, 115, 104, 101, 108, 102, 46, 101, 114, 114, 111, 114, 115] := by decide +kernel
theorem lit_1 : (Str.ofString "recordshelf.pages") = SX.S [114, 101, 99, 111, 114, 100, 115, 104, 101, 108, 102, 46, 112, 97, 103, 101, 115] := by decide +kernel
theorem lit_2 : (Str.ofString "0123456789") = SX.S [48, 49, 50, 51, 52, 53, 54, 55, 56, 57] := by decide +kernel
theorem lit_3 : (Str.ofString "recordshelf.volume") = SX.S [114, 101, 99, 111, 114, 100, 115, 104, 101, 108, 102, 46, 118, 111, 108, 117, 109, 101] := by decide +kernel
theorem lit_4 : (Str.ofString "recordshelf.log") = SX.S [114, 101, 99, 111, 114, 100, 115, 104, 101, 108, 102, 46, 108, 111, 103] := by decide +kernel
theorem lit_5 : (Str.ofString "recordshelf.values") = SX.S [114, 101, 99, 111, 114, 100, 115, 104, 101, 108, 102, 46, 118, 97, 108, 117, 101, 115] := by decide +kernel
theorem lit_6 : (Str.ofString "recordshelf.records") = SX.S [114, 101, 99, 111, 114, 100, 115, 104, 101, 108, 102, 46, 114, 101, 99, 111, 114, 100, 115] := by decide +kernel
theorem lit_7 : (Str.ofString "recordshelf.shelf") = SX.S [114, 101, 99, 111, 114, 100, 115, 104, 101, 108, 102, 46, 115, 104, 101, 108, 102] := by decide +kernel
theorem lit_8 : (Str.ofString "law_recordshelf_k27_texts_of_records") = SX.S [108, 97, 119, 95, 114, 101, 99, 111, 114, 100, 115, 104, 101, 108, 102, 95, 107, 50, 55, 95, 116, 101, 120, 116, 115, 95, 111, 102, 95, 114, 101, 99, 111, 114, 100, 115] := by decide +kernel
theorem lit_W : (Str.ofString "W") = SX.S [87] := by decide +kernel
theorem lit_F : (Str.ofString "F") = SX.S [70] := by decide +kernel
theorem lit_M : (Str.ofString "M") = SX.S [77] := by decide +kernel
theorem lit_L : (Str.ofString "L") = SX.S [76] := by decide +kernel
theorem lit_H : (Str.ofString "H") = SX.S [72] := by decide +kernel
theorem lit_b : (Str.ofString "b") = SX.S [98] := by decide +kernel
theorem lit_n : (Str.ofString "n") = SX.S [110] := by decide +kernel
theorem lit_d : (Str.ofString "d") = SX.S [100] := by decide +kernel
theorem lit_17 : (Str.ofString ":") = SX.S [58] := by decide +kernel
theorem lit_e : (Str.ofString "e") = SX.S [101] := by decide +kernel
theorem lit_c : (Str.ofString "c") = SX.S [99] := by decide +kernel
theorem lit_strange : (Str.ofString "strange") = SX.S [115, 116, 114, 97, 110, 103, 101] := by decide +kernel
theorem lit_end : (Str.ofString "end") = SX.S [101, 110, 100] := by decide +kernel
theorem lit_copy : (Str.ofString "copy") = SX.S [99, 111, 112, 121] := by decide +kernel
theorem lit_batch : (Str.ofString "batch") = SX.S [98, 97, 116, 99, 104] := by decide +kernel
theorem lit_24 : (Str.ofString "") = SX.S [] := by decide +kernel
theorem lit_left : (Str.ofString "left") = SX.S [108, 101, 102, 116] := by decide +kernel
theorem lit_folded : (Str.ofString "folded") = SX.S [102, 111, 108, 100, 101, 100] := by decide +kernel
theorem lit_step : (Str.ofString "step") = SX.S [115, 116, 101, 112] := by decide +kernel
theorem lit_x : (Str.ofString "x") = SX.S [120] := by decide +kernel
theorem lit_29 : (Str.ofString "e;") = SX.S [101, 59] := by decide +kernel
theorem lit_30 : (Str.ofString "e01;") = SX.S [101, 48, 49, 59] := by decide +kernel
theorem lit_31 : (Str.ofString "e-1;") = SX.S [101, 45, 49, 59] := by decide +kernel
theorem lit_32 : (Str.ofString "e1") = SX.S [101, 49] := by decide +kernel
theorem lit_33 : (Str.ofString "e1;;") = SX.S [101, 49, 59, 59] := by decide +kernel
theorem lit_34 : (Str.ofString "cs1:k") = SX.S [99, 115, 49, 58, 107] := by decide +kernel
theorem lit_35 : (Str.ofString "cs0:n") = SX.S [99, 115, 48, 58, 110] := by decide +kernel
theorem lit_bt : (Str.ofString "bt") = SX.S [98, 116] := by decide +kernel
theorem lit_bf : (Str.ofString "bf") = SX.S [98, 102] := by decide +kernel
theorem lit_bn : (Str.ofString "bn") = SX.S [98, 110] := by decide +kernel
theorem lit_39 : (Str.ofString "bts1:k") = SX.S [98, 116, 115, 49, 58, 107] := by decide +kernel
theorem lit_B : (Str.ofString "B") = SX.S [66] := by decide +kernel
theorem lit_41 : (Str.ofString "not a value") = SX.S [110, 111, 116, 32, 97, 32, 118, 97, 108, 117, 101] := by decide +kernel
theorem lit_42 : (Str.ofString "not a text of the expected form") = SX.S [110, 111, 116, 32, 97, 32, 116, 101, 120, 116, 32, 111, 102, 32, 116, 104, 101, 32, 101, 120, 112, 101, 99, 116, 101, 100, 32, 102, 111, 114, 109] := by decide +kernel
theorem lit_43 : (Str.ofString "not a string of 1 to 200 characters") = SX.S [110, 111, 116, 32, 97, 32, 115, 116, 114, 105, 110, 103, 32, 111, 102, 32, 49, 32, 116, 111, 32, 50, 48, 48, 32, 99, 104, 97, 114, 97, 99, 116, 101, 114, 115] := by decide +kernel
theorem lit_44 : (Str.ofString "not one of the expected words") = SX.S [110, 111, 116, 32, 111, 110, 101, 32, 111, 102, 32, 116, 104, 101, 32, 101, 120, 112, 101, 99, 116, 101, 100, 32, 119, 111, 114, 100, 115] := by decide +kernel
theorem lit_45 : (Str.ofString "not a number of the expected size") = SX.S [110, 111, 116, 32, 97, 32, 110, 117, 109, 98, 101, 114, 32, 111, 102, 32, 116, 104, 101, 32, 101, 120, 112, 101, 99, 116, 101, 100, 32, 115, 105, 122, 101] := by decide +kernel
theorem lit_46 : (Str.ofString "not a volume") = SX.S [110, 111, 116, 32, 97, 32, 118, 111, 108, 117, 109, 101] := by decide +kernel
theorem lit_47 : (Str.ofString "not a valid deed") = SX.S [110, 111, 116, 32, 97, 32, 118, 97, 108, 105, 100, 32, 100, 101, 101, 100] := by decide +kernel
theorem lit_48 : (Str.ofString "the page is not blank") = SX.S [116, 104, 101, 32, 112, 97, 103, 101, 32, 105, 115, 32, 110, 111, 116, 32, 98, 108, 97, 110, 107] := by decide +kernel
theorem lit_49 : (Str.ofString "the key is not in the mapping") = SX.S [116, 104, 101, 32, 107, 101, 121, 32, 105, 115, 32, 110, 111, 116, 32, 105, 110, 32, 116, 104, 101, 32, 109, 97, 112, 112, 105, 110, 103] := by decide +kernel
theorem lit_50 : (Str.ofString "the volume has crashed") = SX.S [116, 104, 101, 32, 118, 111, 108, 117, 109, 101, 32, 104, 97, 115, 32, 99, 114, 97, 115, 104, 101, 100] := by decide +kernel
theorem lit_51 : (Str.ofString "the object is closed") = SX.S [116, 104, 101, 32, 111, 98, 106, 101, 99, 116, 32, 105, 115, 32, 99, 108, 111, 115, 101, 100] := by decide +kernel
theorem lit_52 : (Str.ofString "another writer is open") = SX.S [97, 110, 111, 116, 104, 101, 114, 32, 119, 114, 105, 116, 101, 114, 32, 105, 115, 32, 111, 112, 101, 110] := by decide +kernel
theorem lit_53 : (Str.ofString "a compaction is under way") = SX.S [97, 32, 99, 111, 109, 112, 97, 99, 116, 105, 111, 110, 32, 105, 115, 32, 117, 110, 100, 101, 114, 32, 119, 97, 121] := by decide +kernel
theorem lit_54 : (Str.ofString "larger than the limit") = SX.S [108, 97, 114, 103, 101, 114, 32, 116, 104, 97, 110, 32, 116, 104, 101, 32, 108, 105, 109, 105, 116] := by decide +kernel
theorem lit_55 : (Str.ofString ".") = SX.S [46] := by decide +kernel
theorem lit_missing : (Str.ofString "missing") = SX.S [109, 105, 115, 115, 105, 110, 103] := by decide +kernel
theorem lit_57 : (Str.ofString "a volume is not iterated over; its pages are used()") = SX.S [97, 32, 118, 111, 108, 117, 109, 101, 32, 105, 115, 32, 110, 111, 116, 32, 105, 116, 101, 114, 97, 116, 101, 100, 32, 111, 118, 101, 114, 59, 32, 105, 116, 115, 32, 112, 97, 103, 101, 115, 32, 97, 114, 101, 32, 117, 115, 101, 100, 40, 41] := by decide +kernel
theorem lit_t : (Str.ofString "t") = SX.S [116] := by decide +kernel
theorem lit_f : (Str.ofString "f") = SX.S [102] := by decide +kernel
theorem lit_i : (Str.ofString "i") = SX.S [105] := by decide +kernel
theorem lit_61 : (Str.ofString ";") = SX.S [59] := by decide +kernel
theorem lit_s : (Str.ofString "s") = SX.S [115] := by decide +kernel
theorem lit_l : (Str.ofString "l") = SX.S [108] := by decide +kernel
theorem lit_u : (Str.ofString "u") = SX.S [117] := by decide +kernel
theorem lit_65 : (Str.ofString "-") = SX.S [45] := by decide +kernel
theorem lit_66 : (Str.ofString "0") = SX.S [48] := by decide +kernel
theorem lit_drop : (Str.ofString "drop") = SX.S [100, 114, 111, 112] := by decide +kernel
theorem lit_68 : (Str.ofString "a shelf is not iterated over") = SX.S [97, 32, 115, 104, 101, 108, 102, 32, 105, 115, 32, 110, 111, 116, 32, 105, 116, 101, 114, 97, 116, 101, 100, 32, 111, 118, 101, 114] := by decide +kernel
theorem lit_69 : (Str.ofString "a batch is not iterated over") = SX.S [97, 32, 98, 97, 116, 99, 104, 32, 105, 115, 32, 110, 111, 116, 32, 105, 116, 101, 114, 97, 116, 101, 100, 32, 111, 118, 101, 114] := by decide +kernel
theorem lit_a : (Str.ofString "a") = SX.S [97] := by decide +kernel
theorem lit_ab : (Str.ofString "ab") = SX.S [97, 98] := by decide +kernel
theorem lit_72 : (Str.ofString "x y") = SX.S [120, 32, 121] := by decide +kernel
theorem lit_73 : (Str.ofString "~") = SX.S [126] := by decide +kernel
theorem lit_74 : (Str.ofString "k1") = SX.S [107, 49] := by decide +kernel
theorem lit_75 : (Str.ofString "k2") = SX.S [107, 50] := by decide +kernel
theorem lit_v : (Str.ofString "v") = SX.S [118] := by decide +kernel
theorem lit_second : (Str.ofString "second") = SX.S [115, 101, 99, 111, 110, 100] := by decide +kernel
theorem lit_78 : (Str.ofString "batch ") = SX.S [98, 97, 116, 99, 104, 32] := by decide +kernel
theorem lit_79 : (Str.ofString "bfs0:") = SX.S [98, 102, 115, 48, 58] := by decide +kernel
theorem lit_80 : (Str.ofString "bts1:kns1:k") = SX.S [98, 116, 115, 49, 58, 107, 110, 115, 49, 58, 107] := by decide +kernel
theorem lit_81 : (Str.ofString "e 1;") = SX.S [101, 32, 49, 59] := by decide +kernel
theorem lit_82 : (Str.ofString "cs1:knn") = SX.S [99, 115, 49, 58, 107, 110, 110] := by decide +kernel
theorem lit_83 : (Str.ofString "cns1:k") = SX.S [99, 110, 115, 49, 58, 107] := by decide +kernel
theorem lit_84 : (Str.ofString "bi1;s1:kn") = SX.S [98, 105, 49, 59, 115, 49, 58, 107, 110] := by decide +kernel
theorem lit_torn : (Str.ofString "torn") = SX.S [116, 111, 114, 110] := by decide +kernel
theorem lit_whole : (Str.ofString "whole") = SX.S [119, 104, 111, 108, 101] := by decide +kernel
theorem lit_lost : (Str.ofString "lost") = SX.S [108, 111, 115, 116] := by decide +kernel
theorem lit_lud : (Str.ofString "lud") = SX.S [108, 117, 100] := by decide +kernel
theorem lit_ntfislud : (Str.ofString "ntfislud") = SX.S [110, 116, 102, 105, 115, 108, 117, 100] := by decide +kernel
theorem lit_put : (Str.ofString "put") = SX.S [112, 117, 116] := by decide +kernel
theorem lit_z : (Str.ofString "z") = SX.S [122] := by decide +kernel
theorem lit_92 : (Str.ofString "a\nb") = SX.S [97, 10, 98] := by decide +kernel
theorem lit_93 : (Str.ofString "i1;") = SX.S [105, 49, 59] := by decide +kernel
theorem lit_94 : (Str.ofString " ") = SX.S [32] := by decide +kernel
theorem lit_95 : (Str.ofString "e0;") = SX.S [101, 48, 59] := by decide +kernel
theorem lit_96 : (Str.ofString "08d") = SX.S [48, 56, 100] := by decide +kernel
theorem lit_damaged : (Str.ofString "damaged") = SX.S [100, 97, 109, 97, 103, 101, 100] := by decide +kernel
theorem lit_98 : (Str.ofString "07d") = SX.S [48, 55, 100] := by decide +kernel
theorem lit_read : (Str.ofString "read") = SX.S [114, 101, 97, 100] := by decide +kernel
theorem lit_w : (Str.ofString "w") = SX.S [119] := by decide +kernel
theorem lit_101 : (Str.ofString "copy ") = SX.S [99, 111, 112, 121, 32] := by decide +kernel
theorem lit_102 : (Str.ofString "1") = SX.S [49] := by decide +kernel
theorem lit_103 : (Str.ofString "02d") = SX.S [48, 50, 100] := by decide +kernel
theorem lit_104 : (Str.ofString "9") = SX.S [57] := by decide +kernel
local macro_rules | `(tactic| walk_at "lt") => `(tactic| simp only [lit_0, lit_1, lit_2, lit_3, lit_4, lit_5, lit_6, lit_7, lit_8, lit_W, lit_F, lit_M, lit_L, lit_H, lit_b, lit_n, lit_d, lit_17, lit_e, lit_c, lit_strange, lit_end, lit_copy, lit_batch, lit_24, lit_left, lit_folded, lit_step, lit_x, lit_29, lit_30, lit_31, lit_32, lit_33, lit_34, lit_35, lit_bt, lit_bf, lit_bn, lit_39, lit_B, lit_41, lit_42, lit_43, lit_44, lit_45, lit_46, lit_47, lit_48, lit_49, lit_50, lit_51, lit_52, lit_53, lit_54, lit_55, lit_missing, lit_57, lit_t, lit_f, lit_i, lit_61, lit_s, lit_l, lit_u, lit_65, lit_66, lit_drop, lit_68, lit_69, lit_a, lit_ab, lit_72, lit_73, lit_74, lit_75, lit_v, lit_second, lit_78, lit_79, lit_80, lit_81, lit_82, lit_83, lit_84, lit_torn, lit_whole, lit_lost, lit_lud, lit_ntfislud, lit_put, lit_z, lit_92, lit_93, lit_94, lit_95, lit_96, lit_damaged, lit_98, lit_read, lit_w, lit_101, lit_102, lit_103, lit_104])
def top (i : Nat) : Stmt := PySem.Challenge.pw_recordshelf_k27_texts_of_records.main.body.getD i (.Pass ⟨0, 0, 0, 0⟩)
abbrev s_InvalidText__init : Stmt := inClass (top 6) 0
abbrev s_check_record : Stmt := top 35
abbrev s_page_count : Stmt := top 36
abbrev s_is_key : Stmt := top 52
abbrev s_items_of : Stmt := top 53
abbrev s_is_wrong_part : Stmt := top 54
abbrev s_wrong_path : Stmt := top 55
abbrev s_check_value : Stmt := top 56
abbrev s_is_value : Stmt := top 57
abbrev s_spelled : Stmt := top 58
abbrev s_text_of : Stmt := top 59
abbrev s_TextReader__init : Stmt := inClass (top 62) 0
abbrev s_TextReader_sign : Stmt := inClass (top 62) 1
abbrev s_TextReader_refuse : Stmt := inClass (top 62) 2
abbrev s_TextReader_read_digits : Stmt := inClass (top 62) 3
abbrev s_TextReader_read_count : Stmt := inClass (top 62) 4
abbrev s_TextReader_read_integer : Stmt := inClass (top 62) 5
abbrev s_TextReader_read_string : Stmt := inClass (top 62) 6
abbrev s_TextReader_read_pairs : Stmt := inClass (top 62) 7
abbrev s_TextReader_read_items : Stmt := inClass (top 62) 8
abbrev s_TextReader_read_part : Stmt := inClass (top 62) 9
abbrev s_TextReader_is_done : Stmt := inClass (top 62) 10
abbrev s_check_string : Stmt := top 63
abbrev s_values_in : Stmt := top 64
abbrev s_is_deed : Stmt := top 66
abbrev s_row_in : Stmt := top 67
abbrev s_pieces_of : Stmt := top 68
abbrev s_number_in : Stmt := top 69
abbrev s_parsed : Stmt := top 70
abbrev s_check_deeds : Stmt := top 75
abbrev s_batch_text : Stmt := top 76
abbrev s_reading_of : Stmt := top 77
abbrev s_Shelf_cost : Stmt := inClass (top 78) 2
abbrev s_l_begin : Stmt := top 81
abbrev s_l_draw : Stmt := top 82
abbrev s_l_pick : Stmt := top 83
abbrev s_l_word : Stmt := top 84
abbrev s_l_thing : Stmt := top 85
abbrev s_l_spelled : Stmt := top 86
abbrev s_l_batch : Stmt := top 87
abbrev s_l_pages : Stmt := top 88
abbrev s_l_after : Stmt := top 89
abbrev s_l_deeds : Stmt := top 90
abbrev s_l_composed : Stmt := top 91
abbrev s_l_shape : Stmt := top 92
abbrev s_l_again : Stmt := top 93
abbrev s_l_bent : Stmt := top 94
abbrev s_l_bent_right : Stmt := top 95
abbrev s_law : Stmt := top 96
theorem bb_dict : bootBuiltins "dict" = some (.type "dict") := by decide +kernel
structure Txt (g : Wd) : Prop where
  b_len : g.mg "len" = none
  b_isinstance : g.mg "isinstance" = none
  b_repr : g.mg "repr" = none
  b_enumerate : g.mg "enumerate" = none
  b_range : g.mg "range" = none
  b_list : g.mg "list" = none
  b_tuple : g.mg "tuple" = none
  b_dict : g.mg "dict" = none
  b_bool : g.mg "bool" = none
  b_int : g.mg "int" = none
  b_str : g.mg "str" = none
  b_abs : g.mg "abs" = none
  b_all : g.mg "all" = none
  b_any : g.mg "any" = none
  b_min : g.mg "min" = none
  nd : PySem.W.nsIn g.K cStatics "sys.int_max_str_digits" = some none
  c_MOST_KEY : Gv g "MOST_KEY" (.int 200)
  c_BODY_LENGTH : Gv g "BODY_LENGTH" (.int 46)
  c_MOST_DIGITS : Gv g "MOST_DIGITS" (.int 100)
  c_MOST_ITEMS : Gv g "MOST_ITEMS" (.int 10000)
  c_MOST_LEVELS : Gv g "MOST_LEVELS" (.int 20)
mutual
def okB : PyData → Bool
  | .none => true
  | .bool _ => true
  | .int i => decide (i.natAbs < 10 ^ 100)
  | .str x => decide (x.length ≤ 10000)
  | .list ds => decide (ds.length ≤ 10000) && okAll ds
  | .tuple ds => decide (ds.length ≤ 10000) && okAll ds
  | .dict D => decide (D.length ≤ 10000) && okKv D
def okAll : List PyData → Bool
  | [] => true
  | d :: ds => okB d && okAll ds
def okKv : List (PyData × PyData) → Bool
  | [] => true
  | (k, d) :: r => okB k && okB d && okKv r
end
theorem okAll_get : ∀ {ds : List PyData} {i : Nat} {d : PyData}, okAll ds = true → ds[i]? = some d → okB d = true
  | x :: xs, 0, d, h, e => by
    cases e
    simp only [okAll, Bool.and_eq_true] at h
    exact h.1
  | x :: xs, i + 1, d, h, e => by
    simp only [okAll, Bool.and_eq_true] at h
    exact okAll_get h.2 (by simpa using e)
  | [], _, _, _, e => by simp at e
theorem okKv_get : ∀ {D : List (PyData × PyData)} {i : Nat} {k d : PyData}, okKv D = true → D[i]? = some (k, d) → okB k = true ∧ okB d = true
  | (x, y) :: xs, 0, k, d, h, e => by
    cases e
    simp only [okKv, Bool.and_eq_true] at h
    exact h.1
  | (x, y) :: xs, i + 1, k, d, h, e => by
    simp only [okKv, Bool.and_eq_true] at h
    exact okKv_get h.2 (by simpa using e)
  | [], _, _, _, _, e => by simp at e
/-- the pairs of steps and items -/
def idx (xs : List V) : List (V × V) := (List.range xs.length).map fun j => (.int (j : Nat), xs[j]?.getD .non)
def prs (H : Hp) : V → List (V × V)
  | .ref a => match H a with
    | some (.lst xs) => idx xs
    | some (.tup xs) => idx xs
    | some (.dK kvs) => kvs.map fun kv => (kV kv.1, kv.2)
    | _ => []
  | _ => []
/-- tuples of these pairs -/
def Prd (H : Hp) (ts : List V) (ps : List (V × V)) : Prop := ts.length = ps.length ∧ ∀ (j : Nat) (s x : V), ps[j]? = some (s, x) → ∃ t : Addr, ts[j]? = some (.ref t) ∧ H t = some (.tup [s, x])
theorem Prd.snoc {H H' : Hp} {ts : List V} {ps : List (V × V)} {t : Addr} {s x : V} (h : Prd H ts ps) (sm : Same H H') (ht : H' t = some (.tup [s, x])) : Prd H' (ts ++ [.ref t]) (ps ++ [(s, x)]) := by
  refine ⟨by simp [h.1], fun j s' x' hj => ?_⟩
  by_cases lt : j < ps.length
  · rw [List.getElem?_append_left lt] at hj
    obtain ⟨t', h1, h2⟩ := h.2 j s' x' hj
    exact ⟨t', by rw [List.getElem?_append_left (by rw [h.1]; exact lt)]; exact h1, sm _ _ h2⟩
  · rw [List.getElem?_append_right (by omega)] at hj
    have e : j - ps.length = 0 := by
      cases hh : j - ps.length with
      | zero => rfl
      | succ n => rw [hh] at hj; simp at hj
    rw [e] at hj
    cases hj
    exact ⟨t, by rw [List.getElem?_append_right (by rw [h.1]; omega), h.1, e]; rfl, ht⟩
theorem Prd.tups {H H' : Hp} {ts : List V} {ps : List (V × V)} (h : Prd H ts ps) (k : ∀ t xs, H t = some (.tup xs) → H' t = some (.tup xs)) : Prd H' ts ps :=
  ⟨h.1, fun j s x hj => by obtain ⟨t, h1, h2⟩ := h.2 j s x hj; exact ⟨t, h1, k _ _ h2⟩⟩
/-- a lock taken off -/
theorem unlock {H G : Hp} {a : Addr} {od : Obj} {u : HO} (h : H a = some u) (s : Same (upd H a (.frz od u)) G) : Same H (upd G a u) := fun b o e => by
  by_cases z : b = a
  · subst z; rw [upd_same, ← e]; exact h.symm
  · rw [upd_ne z]; exact s b o (by rw [upd_ne z]; exact e)
theorem fresh_lock {H : Hp} {a b : Addr} {o : HO} (h : upd H a o b = none) : b ≠ a ∧ H b = none := by
  by_cases z : b = a
  · subst z; rw [upd_same] at h; cases h
  · rw [upd_ne z] at h; exact ⟨z, h⟩
theorem idx_get {xs : List V} {j : Nat} {s x : V} (h : (idx xs)[j]? = some (s, x)) : s = .int (j : Nat) ∧ xs[j]? = some x := by
  unfold idx at h
  by_cases lt : j < xs.length
  · simp [lt] at h
    exact ⟨h.1.symm, by simp [lt, ← h.2]⟩
  · simp [lt] at h
theorem idx_len (xs : List V) : (idx xs).length = xs.length := by simp [idx]
section
variable {g : Wd} {f : Addr} {fd : FuncData}
/-- the dict's way -/
theorem dict_pairs {H : Hp} {Q : VK} {a : Addr} {kvs : List (Key × V)} (h : H a = some (.dK kvs)) (nd : (kvs.map (·.1)).Nodup) (hz : kvs.length ≤ sizeLine) (od : Obj)
    (q : ∀ p ts H', Same H H' → H p = none → H' p = some (.lst ts) → Prd H' ts (prs H (.ref a)) → Q (.ref p) H') :
    LcB (Itk a od kvs) (gName 1) tYes (tTup (tCons (tVar 1) (tCons (tDGet (tVar 0) (tVar 1)) tNil))) [1] [some (.ref a), none] (upd H a (.frz od (.dK kvs))) fun v H' => H' a = some (.frz od (.dK kvs)) ∧ Q v (upd H' a (.dK kvs)) := by
  refine lc_invA kvs.length (fun D i acc G => Same (upd H a (.frz od (.dK kvs))) G ∧ Prd G acc ((kvs.map fun kv => (kV kv.1, kv.2)).take i)) hz (fun D hD => ⟨same_upd hD, rfl, by simp⟩) (fun D i acc G hD lt ⟨s, _⟩ => ⟨s _ _ upd_same, lt⟩) (fun D acc G hD ⟨s, _⟩ => ⟨s _ _ upd_same, Nat.le_refl _⟩) (fun D i acc G x G' K hD lt la ⟨s, pr⟩ eD yl k => ?_) (fun D acc G hD ⟨s, pr⟩ eD => ?_)
  · obtain ⟨rfl, k0, v0, hk, rfl⟩ := yl
    have ea : G' a = some (.frz od (.dK kvs)) := s _ _ upd_same
    refine ⟨rfl, ?_⟩
    walk_at "sx"
    refine ⟨v0, .inl ⟨kvs, k0, .inr ⟨od, ea⟩, rfl, (valV_at nd hk).symm⟩, fun t ht => ?_⟩
    have st := same_upd (o := HO.tup [kV k0, v0]) ht
    have Dt : t ≠ D := fun e => by rw [e, eD] at ht; cases ht
    refine k _ _ (st _ _ eD) ⟨fun b o e => ?_, ?_⟩
    · have bD : b ≠ D := fun z => by rw [z, hD] at e; cases e
      rw [upd_ne bD]
      exact st _ _ (s _ _ e)
    · have e1 : (kvs.map fun kv => (kV kv.1, kv.2)).take (i + 1) = (kvs.map fun kv => (kV kv.1, kv.2)).take i ++ [(kV k0, v0)] := by
        rw [List.take_add_one]
        simp [hk]
      rw [e1]
      exact (Prd.snoc pr st upd_same).tups fun t' xs z => by
        have n : t' ≠ D := fun e => by rw [e, st _ _ eD] at z; cases z
        rw [upd_ne n]; exact z
  · have Da := fresh_lock hD
    refine ⟨s _ _ upd_same, q D acc _ (unlock h s) Da.2 (by rw [upd_ne Da.1]; exact eD) ?_⟩
    have e1 : (kvs.map fun kv => (kV kv.1, kv.2)).take kvs.length = prs H (.ref a) := by
      simp only [prs, h]
      exact List.take_of_length_le (by simp)
    rw [← e1]
    exact pr.tups fun t xs z => by
      have ta : t ≠ a := fun e => by rw [e, s _ _ upd_same] at z; cases z
      rw [upd_ne ta]; exact z
theorem sc_items_of : FnScope ["value", "key"] ["value"] (defScope s_items_of) := ⟨rfl, rfl, rfl, by decide +kernel, rfl, by decide +kernel, by decide +kernel⟩
def sp_items : Sp := S1 fun v H Q _ => ∃ d fp, Tr H v d fp ∧ okB d = true ∧ ∀ p ts H', Same H H' → H p = none → H' p = some (.lst ts) → Prd H' ts (prs H v) → Q (.ref p) H'
theorem ok_items (F : Df g.K "items_of" "items_of" s_items_of f fd .none) (T : Txt g) : FnG g 1 f fd ["value"] sp_items := by
  refine F.ok sc_items_of (fun vs H Q E h => S1.len h) (fun cdv A outer s H vs Q E hr h => ?_)
  obtain ⟨v, rfl, d, fp, hv, hok, q⟩ := h
  refine ⟨_, (pss_cons (ps_if (pt_val (pe_callB (c_is "dict") (by rfl) T.b_isinstance bb_isinstance (pa_cons (pv 0) (pa_cons (pe_bltn (v := .ty "dict") rfl T.b_dict bb_dict rfl) pa_nil)))) (pss_one (ps_ret (pe_lock (pe_lc (own := [("key", 1)]) (tt := tYes) rfl sc_items_of.nd (pi_keys (pv 0)) (blkOk_by (own := [("key", 1)]) (N := ["value", "key"]) (sc := defScope s_items_of) (by decide +kernel)) (fun _ _ _ _ _ => (pg_name (i := 1) sc_items_of.nd rfl (.inl rfl))) (fun _ _ _ _ _ => pts_nil) (fun _ _ _ _ _ => (pe_tup (pa_cons (pv 1) (pa_cons (pe_dget (hu_of (Rm.mk hr.room hr.gd).room) (pv 0) (pv 1) (fun _ _ => rfl)) pa_nil)))))))) pss_nil)
      (pss_one (ps_ret (pe_ifExp (pt_val (pe_callB (c_isT ["list", "tuple"]) (by rfl) T.b_isinstance bb_isinstance (pa_cons (pv 0) (pa_cons (pe_tup (pa_cons (pe_bltn (v := .ty "list") rfl T.b_list bb_list rfl) (pa_cons (pe_bltn (v := .ty "tuple") rfl T.b_tuple bb_tuple rfl) pa_nil))) pa_nil)))) (pe_listEnum (K := g.K) T.b_list T.b_enumerate (pa_cons (pv 0) pa_nil)) (pe_lst pa_nil))))), ?_⟩
  walk_at "sx"
  refine ⟨_, hv.ty, ?_⟩
  cases hv with
  | @dct a kvs D fp h hs na nd =>
    rw [if_pos (by simp [kindN])]
    exact ⟨a, _, h, True.intro, fun od => ⟨a, rfl, od, .inl ⟨kvs, upd_same, dict_pairs h nd (by simp only [okB, Bool.and_eq_true, decide_eq_true_eq] at hok; rw [hs.len, sizeLine_eq]; omega) od q⟩⟩⟩
  | @lst a xs ds fp h hs na =>
    rw [if_neg (by simp [kindN])]
    intro p hp
    refine isT_new (Ts := ["list", "tuple"]) (tyN_l h) hp ⟨_, rfl, ?_⟩
    rw [if_pos (by decide)]
    have sp := same_upd (o := HO.tup (["list", "tuple"].map V.ty)) hp
    refine ⟨a, rfl, xs, .inl (SqL.of (sp _ _ h)), fun p2 ts H' s2 n2 e2 l2 k2 => q p2 _ H' (sp.trans s2) (fresh_lock n2).2 e2 ⟨by rw [List.length_map, l2]; simp [prs, h, idx_len], fun j s' x hj => ?_⟩⟩
    have hj' : (idx xs)[j]? = some (s', x) := by simpa [prs, h] using hj
    obtain ⟨rfl, hx⟩ := idx_get hj'
    obtain ⟨t, t1, _, t3⟩ := k2 j x hx
    exact ⟨t, by simp [t1], t3⟩
  | @tup a xs ds fp h hs =>
    rw [if_neg (by simp [kindN])]
    intro p hp
    refine isT_new (Ts := ["list", "tuple"]) (tyN_t h) hp ⟨_, rfl, ?_⟩
    rw [if_pos (by decide)]
    have sp := same_upd (o := HO.tup (["list", "tuple"].map V.ty)) hp
    refine ⟨a, rfl, xs, .inr (SqT.of (sp _ _ h)), fun p2 ts H' s2 n2 e2 l2 k2 => q p2 _ H' (sp.trans s2) (fresh_lock n2).2 e2 ⟨by rw [List.length_map, l2]; simp [prs, h, idx_len], fun j s' x hj => ?_⟩⟩
    have hj' : (idx xs)[j]? = some (s', x) := by simpa [prs, h] using hj
    obtain ⟨rfl, hx⟩ := idx_get hj'
    obtain ⟨t, t1, _, t3⟩ := k2 j x hx
    exact ⟨t, by simp [t1], t3⟩
  | _ =>
    rw [if_neg (by simp [kindN])]
    intro p hp
    refine isT_new (Ts := ["list", "tuple"]) rfl hp ⟨_, rfl, ?_⟩
    rw [if_neg (by decide)]
    exact fun p2 n2 => q p2 _ _ (same_new (same_upd hp) n2) (fresh_lock n2).2 upd_same ⟨rfl, fun j s' x hj => by simp [prs] at hj⟩
end
theorem len_100 {i : Int} (h : i.natAbs < 10 ^ 100) : i.natAbs.log2 < 1920 ∧ (Str.ofString (toString ((i.natAbs : Nat) : Int))).length ≤ 100 := by
  refine ⟨?_, ?_⟩
  · have h2 : i.natAbs < 2 ^ 1920 := Nat.lt_of_lt_of_le h (by decide +kernel)
    by_cases z : i.natAbs = 0
    · rw [z]; decide
    · exact (Nat.log2_lt z).mpr h2
  · rw [ofString_length]
    exact (Nat.length_repr_le_iff (by decide)).mpr h
section
variable {g : Wd} {f : Addr} {fd : FuncData}
theorem sc_is_wrong_part : FnScope ["value", "depth", "key"] ["value", "depth"] (defScope s_is_wrong_part) := ⟨rfl, rfl, rfl, by decide +kernel, rfl, by decide +kernel, by decide +kernel⟩
def sp_wrong : Sp := S2 fun v k H Q _ => ∃ d fp n, Tr H v d fp ∧ okB d = true ∧ k = .int n ∧ (0 < d.depth → n < 20) ∧ ∀ H', Same H H' → Q (.bl false) H'
theorem ok_wrong (F : Df g.K "is_wrong_part" "is_wrong_part" s_is_wrong_part f fd .none) (T : Txt g) : FnG g 1 f fd ["value", "depth"] sp_wrong := by
  refine F.ok sc_is_wrong_part (fun vs H Q E h => S2.len h) (fun cdv A outer s H vs Q E hr h => ?_)
  obtain ⟨v, _, rfl, d, fp, n, hv, hok, rfl, hn, q⟩ := h
  refine ⟨_, (pss_cons (ps_if (PW.pt (pw_or (pt_cmpR op_isN (pv 0) pe_non (nomark _)) (pw_or1 (pt_val (pe_callB (c_is "bool") (by rfl) T.b_isinstance bb_isinstance (pa_cons (pv 0) (pa_cons (pe_bltn (v := .ty "bool") rfl T.b_bool bb_bool rfl) pa_nil))))))) (pss_one (ps_ret pe_bl)) pss_nil)
      (pss_cons (ps_if (pt_val (pe_callB (c_is "int") (by rfl) T.b_isinstance bb_isinstance (pa_cons (pv 0) (pa_cons (pe_bltn (v := .ty "int") rfl T.b_int bb_int rfl) pa_nil)))) (pss_one (ps_ret (pe_cmpR op_gt (pe_callB (c_len (K := g.K)) (by rfl) T.b_len bb_len (pa_cons (pe_callTy call_str_int (by rfl) T.b_str bb_str (pa_cons (pe_callB call_abs (by rfl) T.b_abs bb_abs (pa_cons (pv 0) pa_nil)) pa_nil)) pa_nil)) (e_g T.c_MOST_DIGITS) (nomark _)))) pss_nil)
      (pss_cons (ps_if (pt_val (pe_callB (c_is "str") (by rfl) T.b_isinstance bb_isinstance (pa_cons (pv 0) (pa_cons (pe_bltn (v := .ty "str") rfl T.b_str bb_str rfl) pa_nil)))) (pss_one (ps_ret (pe_cmpR op_gt (pe_callB (c_len (K := g.K)) (by rfl) T.b_len bb_len (pa_cons (pv 0) pa_nil)) (e_g T.c_MOST_ITEMS) (nomark _)))) pss_nil)
      (pss_cons (ps_if (PW.pt (pw_or (pt_not (pt_val (pe_callB (c_isT ["list", "tuple", "dict"]) (by rfl) T.b_isinstance bb_isinstance (pa_cons (pv 0) (pa_cons (pe_tup (pa_cons (pe_bltn (v := .ty "list") rfl T.b_list bb_list rfl) (pa_cons (pe_bltn (v := .ty "tuple") rfl T.b_tuple bb_tuple rfl) (pa_cons (pe_bltn (v := .ty "dict") rfl T.b_dict bb_dict rfl) pa_nil)))) pa_nil))))) (pw_or (pt_cmpR op_ge (pv 1) (e_g T.c_MOST_LEVELS) (nomark _)) (pw_or1 (pt_cmpR op_gt (pe_callB (c_len (K := g.K)) (by rfl) T.b_len bb_len (pa_cons (pv 0) pa_nil)) (e_g T.c_MOST_ITEMS) (nomark _)))))) (pss_one (ps_ret pe_bl)) pss_nil)
      (pss_one (ps_ret (pe_and (pe_callB (c_is "dict") (by rfl) T.b_isinstance bb_isinstance (pa_cons (pv 0) (pa_cons (pe_bltn (v := .ty "dict") rfl T.b_dict bb_dict rfl) pa_nil))) (pe_one (pe_not (pe_callB (c_all (K := g.K)) (by rfl) T.b_all bb_all (pa_cons (pe_lock (pe_lc (own := [("key", 2)]) (tt := tYes) rfl sc_is_wrong_part.nd (pi_keys (pv 0)) (blkOk_by (own := [("key", 2)]) (N := ["value", "depth", "key"]) (sc := defScope s_is_wrong_part) (by decide +kernel)) (fun _ _ _ _ _ => (pg_name (i := 2) sc_is_wrong_part.nd rfl (.inl rfl))) (fun _ _ _ _ _ => pts_nil) (fun _ _ _ _ _ => (pe_and (pe_callB (c_is "str") (by rfl) T.b_isinstance bb_isinstance (pa_cons (pv 2) (pa_cons (pe_bltn (v := .ty "str") rfl T.b_str bb_str rfl) pa_nil))) (pe_one (pe_cmpR op_le (pe_callB (c_len (K := g.K)) (by rfl) T.b_len bb_len (pa_cons (pv 2) pa_nil)) (e_g T.c_MOST_ITEMS) (nomark _))))))) pa_nil))))))))))), ?_⟩
  cases hv with
  | non =>
    walk_at "sx"
    exact q _ (Same.refl _)
  | bl b =>
    walk_at "sx"
    exact q _ (Same.refl _)
  | int i =>
    walk_at "sx"
    have hi : i.natAbs < 10 ^ 100 := by simpa [okB] using hok
    have ea : ((if i < 0 then -i else i : Int)) = ((i.natAbs : Nat) : Int) := by split <;> omega
    rw [ea]
    obtain ⟨l1, l2⟩ := len_100 hi
    refine ⟨?_, by omega, ?_⟩
    · rw [Int.natAbs_natCast]
      exact l1
    · rw [decide_eq_false (by omega)]
      exact q _ (Same.refl _)
  | str x =>
    walk_at "sx"
    have hx : x.length ≤ 10000 := by simpa [okB] using hok
    refine ⟨by omega, ?_⟩
    rw [decide_eq_false (by omega)]
    exact q _ (Same.refl _)
  | @lst a xs ds fp h hs na =>
    simp only [tyN_l h, tRet, tRetN, tSeq, C8.tCut, tNext, tAsg, gName, gNil, gCons, gTup, gFld, tIfS, tIf, tAndV, tOrV, tNotV, tAnd, tOr, tNot, tB, tTest, tOp, tUn, tCB, tCons, tNil, tVar, tC, tChain, tDrop, RS.tCallG, RS.tMethG, tMakeG, RS.tCallK, RS.tMakeK, tEqOwn, rI, rI0, rU, add_ii, add_ss, add_rr, mul_ii, mul_si, mul_ri, RS.eq_ii, RS.eq_ss, eq_bb, eq_nn, eq_sn, eq_ns, eq_in, eq_ni, eq_bn, eq_nb, eq_is, eq_si, eq_rr, ne_ii, ne_ss, ne_bb, ne_nn, ne_sn, ne_ns, ne_in, ne_ni, ne_is, ne_si, ne_rr, in_ss, in_r, nin_ss, nin_r, len_s, len_r, RS.ix_s, RS.ix_r, sl_s, sl_r, is_eq, tyN_n, tyN_b, tyN_i, tyN_s, tru_b, tru_i, tru_n, tSl, tPart, tNoPart, tPar, tPar3, tFmtZ, tFmt, tJs, tDGet, sDPut, sFld, tFld, tTup, tLst, tNever, isB,
  L2.start, List.map_cons, List.map_nil, List.length_cons, List.length_nil, Nat.reduceAdd, Nat.reduceSub, Nat.sub_self, List.replicate_zero, List.replicate_succ, List.append_nil, List.cons_append, List.nil_append, List.getElem?_cons_zero, List.getElem?_cons_succ, List.set_cons_zero, List.set_cons_succ, Option.some.injEq, exists_eq_left, exists_eq_left', exists_and_left, V.bl.injEq, V.int.injEq, V.str.injEq, V.ref.injEq, beq_self_eq_true, Bool.true_or, Bool.or_true, Bool.false_or, Bool.or_false, Bool.and_false, Bool.false_and, Bool.true_and, Bool.and_true, Bool.not_true, Bool.not_false, Bool.false_eq_true, if_true, if_false, ite_true, ite_false, true_and, and_true, and_assoc, String.reduceBEq, String.reduceEq, reduceIte, Bool.and_self, reduceCtorEq, false_and, and_false, exists_false, or_false, false_or, exists_const, iEnumS, iStr, iList, iTup, iRng1, iEnum, tFor_eq, tLc_eq, List.cons.injEq, wipe, not_true_eq_false, not_false_eq_true, upd_same, HO.ins.injEq, HO.tup.injEq, HO.lst.injEq, ofS_eq, lk_nil, lk_cons, pu_nil, pu_cons, sizeLine_eq, Nat.reduceLT, Nat.reduceLeDiff, Nat.reduceEqDiff, Nat.le_refl, decide_true, decide_false, tPr, dget_us, dput_us, vv_nil, vv_cons, RS.pk_nil, pk_one, RS.pk_cons, inr_eq, tDisp, tPairs, tBoolOwn, rBoolOwn, tBM, rAppend, ty_list, ty_str, rEqOwn, iEnumT, RS.tCallS, tM1, tDc_eq, tLock, tLockE, iKeys, tListEnum, rUpdate, tMkX0, tMkX1, tXfv, gSub, rSetL, List.getD_cons_zero, List.getD_cons_succ, tBreak, tCMethS, ClX.tCVal, tXfa, tIxOwn, tInOwn, tPropG, tMethK, tMethP, tListGen, tDGet2, tDPop2, rNeD0, intA_i, intA_b, tRevL, sFldAug, tPm0, tPm1, tDIn, tDNotIn, tDNewK, RS.tMethS, tForK, tKM, tKC, tLcK, tKM2, tKC2, tMethStar, tKCK2, tLk, tAug, ipI, tDig, tLcX, tKMX, tKCX, tForY, tKCY, tKMY, tYThen, tYPlain, tYYield, tY0, tYIf, GKE.at, tListX]
    intro p hp
    have hl : xs.length ≤ 10000 := by rw [hs.len]; simp only [okB, Bool.and_eq_true, decide_eq_true_eq] at hok; exact hok.1
    have hn := hn (by simp [PyData.depth])
    have sp := same_upd (o := HO.tup (["list", "tuple", "dict"].map V.ty)) hp
    refine isT_new (Ts := ["list", "tuple", "dict"]) (tyN_l h) hp ⟨_, rfl, ?_⟩
    rw [if_neg (by decide), if_neg (by simp; omega)]
    refine .inl ⟨xs, .inl (SqL.of (sp _ _ h)), ?_⟩
    rw [if_neg (by simp; omega)]
    refine ⟨_, tyN_l (sp _ _ h), ?_⟩
    rw [if_neg (by decide)]
    exact q _ sp
  | @tup a xs ds fp h hs =>
    simp only [tyN_t h, tRet, tRetN, tSeq, C8.tCut, tNext, tAsg, gName, gNil, gCons, gTup, gFld, tIfS, tIf, tAndV, tOrV, tNotV, tAnd, tOr, tNot, tB, tTest, tOp, tUn, tCB, tCons, tNil, tVar, tC, tChain, tDrop, RS.tCallG, RS.tMethG, tMakeG, RS.tCallK, RS.tMakeK, tEqOwn, rI, rI0, rU, add_ii, add_ss, add_rr, mul_ii, mul_si, mul_ri, RS.eq_ii, RS.eq_ss, eq_bb, eq_nn, eq_sn, eq_ns, eq_in, eq_ni, eq_bn, eq_nb, eq_is, eq_si, eq_rr, ne_ii, ne_ss, ne_bb, ne_nn, ne_sn, ne_ns, ne_in, ne_ni, ne_is, ne_si, ne_rr, in_ss, in_r, nin_ss, nin_r, len_s, len_r, RS.ix_s, RS.ix_r, sl_s, sl_r, is_eq, tyN_n, tyN_b, tyN_i, tyN_s, tru_b, tru_i, tru_n, tSl, tPart, tNoPart, tPar, tPar3, tFmtZ, tFmt, tJs, tDGet, sDPut, sFld, tFld, tTup, tLst, tNever, isB,
  L2.start, List.map_cons, List.map_nil, List.length_cons, List.length_nil, Nat.reduceAdd, Nat.reduceSub, Nat.sub_self, List.replicate_zero, List.replicate_succ, List.append_nil, List.cons_append, List.nil_append, List.getElem?_cons_zero, List.getElem?_cons_succ, List.set_cons_zero, List.set_cons_succ, Option.some.injEq, exists_eq_left, exists_eq_left', exists_and_left, V.bl.injEq, V.int.injEq, V.str.injEq, V.ref.injEq, beq_self_eq_true, Bool.true_or, Bool.or_true, Bool.false_or, Bool.or_false, Bool.and_false, Bool.false_and, Bool.true_and, Bool.and_true, Bool.not_true, Bool.not_false, Bool.false_eq_true, if_true, if_false, ite_true, ite_false, true_and, and_true, and_assoc, String.reduceBEq, String.reduceEq, reduceIte, Bool.and_self, reduceCtorEq, false_and, and_false, exists_false, or_false, false_or, exists_const, iEnumS, iStr, iList, iTup, iRng1, iEnum, tFor_eq, tLc_eq, List.cons.injEq, wipe, not_true_eq_false, not_false_eq_true, upd_same, HO.ins.injEq, HO.tup.injEq, HO.lst.injEq, ofS_eq, lk_nil, lk_cons, pu_nil, pu_cons, sizeLine_eq, Nat.reduceLT, Nat.reduceLeDiff, Nat.reduceEqDiff, Nat.le_refl, decide_true, decide_false, tPr, dget_us, dput_us, vv_nil, vv_cons, RS.pk_nil, pk_one, RS.pk_cons, inr_eq, tDisp, tPairs, tBoolOwn, rBoolOwn, tBM, rAppend, ty_list, ty_str, rEqOwn, iEnumT, RS.tCallS, tM1, tDc_eq, tLock, tLockE, iKeys, tListEnum, rUpdate, tMkX0, tMkX1, tXfv, gSub, rSetL, List.getD_cons_zero, List.getD_cons_succ, tBreak, tCMethS, ClX.tCVal, tXfa, tIxOwn, tInOwn, tPropG, tMethK, tMethP, tListGen, tDGet2, tDPop2, rNeD0, intA_i, intA_b, tRevL, sFldAug, tPm0, tPm1, tDIn, tDNotIn, tDNewK, RS.tMethS, tForK, tKM, tKC, tLcK, tKM2, tKC2, tMethStar, tKCK2, tLk, tAug, ipI, tDig, tLcX, tKMX, tKCX, tForY, tKCY, tKMY, tYThen, tYPlain, tYYield, tY0, tYIf, GKE.at, tListX]
    intro p hp
    have hl : xs.length ≤ 10000 := by rw [hs.len]; simp only [okB, Bool.and_eq_true, decide_eq_true_eq] at hok; exact hok.1
    have hn := hn (by simp [PyData.depth])
    have sp := same_upd (o := HO.tup (["list", "tuple", "dict"].map V.ty)) hp
    refine isT_new (Ts := ["list", "tuple", "dict"]) (tyN_t h) hp ⟨_, rfl, ?_⟩
    rw [if_neg (by decide), if_neg (by simp; omega)]
    refine .inl ⟨xs, .inr (SqT.of (sp _ _ h)), ?_⟩
    rw [if_neg (by simp; omega)]
    refine ⟨_, tyN_t (sp _ _ h), ?_⟩
    rw [if_neg (by decide)]
    exact q _ sp
  | @dct a kvs D fp h hs na nd =>
    simp only [tyN_d h, tRet, tRetN, tSeq, C8.tCut, tNext, tAsg, gName, gNil, gCons, gTup, gFld, tIfS, tIf, tAndV, tOrV, tNotV, tAnd, tOr, tNot, tB, tTest, tOp, tUn, tCB, tCons, tNil, tVar, tC, tChain, tDrop, RS.tCallG, RS.tMethG, tMakeG, RS.tCallK, RS.tMakeK, tEqOwn, rI, rI0, rU, add_ii, add_ss, add_rr, mul_ii, mul_si, mul_ri, RS.eq_ii, RS.eq_ss, eq_bb, eq_nn, eq_sn, eq_ns, eq_in, eq_ni, eq_bn, eq_nb, eq_is, eq_si, eq_rr, ne_ii, ne_ss, ne_bb, ne_nn, ne_sn, ne_ns, ne_in, ne_ni, ne_is, ne_si, ne_rr, in_ss, in_r, nin_ss, nin_r, len_s, len_r, RS.ix_s, RS.ix_r, sl_s, sl_r, is_eq, tyN_n, tyN_b, tyN_i, tyN_s, tru_b, tru_i, tru_n, tSl, tPart, tNoPart, tPar, tPar3, tFmtZ, tFmt, tJs, tDGet, sDPut, sFld, tFld, tTup, tLst, tNever, isB,
  L2.start, List.map_cons, List.map_nil, List.length_cons, List.length_nil, Nat.reduceAdd, Nat.reduceSub, Nat.sub_self, List.replicate_zero, List.replicate_succ, List.append_nil, List.cons_append, List.nil_append, List.getElem?_cons_zero, List.getElem?_cons_succ, List.set_cons_zero, List.set_cons_succ, Option.some.injEq, exists_eq_left, exists_eq_left', exists_and_left, V.bl.injEq, V.int.injEq, V.str.injEq, V.ref.injEq, beq_self_eq_true, Bool.true_or, Bool.or_true, Bool.false_or, Bool.or_false, Bool.and_false, Bool.false_and, Bool.true_and, Bool.and_true, Bool.not_true, Bool.not_false, Bool.false_eq_true, if_true, if_false, ite_true, ite_false, true_and, and_true, and_assoc, String.reduceBEq, String.reduceEq, reduceIte, Bool.and_self, reduceCtorEq, false_and, and_false, exists_false, or_false, false_or, exists_const, iEnumS, iStr, iList, iTup, iRng1, iEnum, tFor_eq, tLc_eq, List.cons.injEq, wipe, not_true_eq_false, not_false_eq_true, upd_same, HO.ins.injEq, HO.tup.injEq, HO.lst.injEq, ofS_eq, lk_nil, lk_cons, pu_nil, pu_cons, sizeLine_eq, Nat.reduceLT, Nat.reduceLeDiff, Nat.reduceEqDiff, Nat.le_refl, decide_true, decide_false, tPr, dget_us, dput_us, vv_nil, vv_cons, RS.pk_nil, pk_one, RS.pk_cons, inr_eq, tDisp, tPairs, tBoolOwn, rBoolOwn, tBM, rAppend, ty_list, ty_str, rEqOwn, iEnumT, RS.tCallS, tM1, tDc_eq, tLock, tLockE, iKeys, tListEnum, rUpdate, tMkX0, tMkX1, tXfv, gSub, rSetL, List.getD_cons_zero, List.getD_cons_succ, tBreak, tCMethS, ClX.tCVal, tXfa, tIxOwn, tInOwn, tPropG, tMethK, tMethP, tListGen, tDGet2, tDPop2, rNeD0, intA_i, intA_b, tRevL, sFldAug, tPm0, tPm1, tDIn, tDNotIn, tDNewK, RS.tMethS, tForK, tKM, tKC, tLcK, tKM2, tKC2, tMethStar, tKCK2, tLk, tAug, ipI, tDig, tLcX, tKMX, tKCX, tForY, tKCY, tKMY, tYThen, tYPlain, tYYield, tY0, tYIf, GKE.at, tListX]
    intro p hp
    simp only [okB, Bool.and_eq_true, decide_eq_true_eq] at hok
    have hl : kvs.length ≤ 10000 := by rw [hs.len]; exact hok.1
    have hn := hn (by simp [PyData.depth])
    have sp := same_upd (o := HO.tup (["list", "tuple", "dict"].map V.ty)) hp
    refine isT_new (Ts := ["list", "tuple", "dict"]) (tyN_d h) hp ⟨_, rfl, ?_⟩
    rw [if_neg (by decide), if_neg (by simp; omega)]
    have h2 := sp _ _ h
    generalize upd H p (HO.tup (["list", "tuple", "dict"].map V.ty)) = G at sp h2 ⊢
    refine .inr ⟨kvs, h2, ?_⟩
    rw [if_neg (by simp; omega)]
    refine ⟨_, tyN_d h2, ?_⟩
    rw [if_pos (by decide)]
    refine ⟨a, _, h2, True.intro, fun od => ⟨od, .inl ⟨kvs, upd_same, ?_⟩⟩⟩
    refine lc_all kvs.length (fun _ => .bl true) (by rw [sizeLine_eq]; omega) (fun i G' lt s => ⟨s _ _ upd_same, lt⟩) (fun G' s => ⟨s _ _ upd_same, Nat.le_refl _⟩) (fun i G' x G'' K lt s yl k => ?_) (fun L G' hL s eL => ?_)
    · obtain ⟨rfl, k0, v0, hk, rfl⟩ := yl
      obtain ⟨x, v, d, f', e1, e2, _, _⟩ := hs.get lt
      rw [hk] at e1
      cases e1
      have hx : x.length ≤ 10000 := by simpa [okB] using (okKv_get hok.2 e2).1
      refine ⟨rfl, ?_⟩
      show _
      simp only [kV, tRet, tRetN, tSeq, C8.tCut, tNext, tAsg, gName, gNil, gCons, gTup, gFld, tIfS, tIf, tAndV, tOrV, tNotV, tAnd, tOr, tNot, tB, tTest, tOp, tUn, tCB, tCons, tNil, tVar, tC, tChain, tDrop, RS.tCallG, RS.tMethG, tMakeG, RS.tCallK, RS.tMakeK, tEqOwn, rI, rI0, rU, add_ii, add_ss, add_rr, mul_ii, mul_si, mul_ri, RS.eq_ii, RS.eq_ss, eq_bb, eq_nn, eq_sn, eq_ns, eq_in, eq_ni, eq_bn, eq_nb, eq_is, eq_si, eq_rr, ne_ii, ne_ss, ne_bb, ne_nn, ne_sn, ne_ns, ne_in, ne_ni, ne_is, ne_si, ne_rr, in_ss, in_r, nin_ss, nin_r, len_s, len_r, RS.ix_s, RS.ix_r, sl_s, sl_r, is_eq, tyN_n, tyN_b, tyN_i, tyN_s, tru_b, tru_i, tru_n, tSl, tPart, tNoPart, tPar, tPar3, tFmtZ, tFmt, tJs, tDGet, sDPut, sFld, tFld, tTup, tLst, tNever, isB,
  L2.start, List.map_cons, List.map_nil, List.length_cons, List.length_nil, Nat.reduceAdd, Nat.reduceSub, Nat.sub_self, List.replicate_zero, List.replicate_succ, List.append_nil, List.cons_append, List.nil_append, List.getElem?_cons_zero, List.getElem?_cons_succ, List.set_cons_zero, List.set_cons_succ, Option.some.injEq, exists_eq_left, exists_eq_left', exists_and_left, V.bl.injEq, V.int.injEq, V.str.injEq, V.ref.injEq, beq_self_eq_true, Bool.true_or, Bool.or_true, Bool.false_or, Bool.or_false, Bool.and_false, Bool.false_and, Bool.true_and, Bool.and_true, Bool.not_true, Bool.not_false, Bool.false_eq_true, if_true, if_false, ite_true, ite_false, true_and, and_true, and_assoc, String.reduceBEq, String.reduceEq, reduceIte, Bool.and_self, reduceCtorEq, false_and, and_false, exists_false, or_false, false_or, exists_const, iEnumS, iStr, iList, iTup, iRng1, iEnum, tFor_eq, tLc_eq, List.cons.injEq, wipe, not_true_eq_false, not_false_eq_true, upd_same, HO.ins.injEq, HO.tup.injEq, HO.lst.injEq, ofS_eq, lk_nil, lk_cons, pu_nil, pu_cons, sizeLine_eq, Nat.reduceLT, Nat.reduceLeDiff, Nat.reduceEqDiff, Nat.le_refl, decide_true, decide_false, tPr, dget_us, dput_us, vv_nil, vv_cons, RS.pk_nil, pk_one, RS.pk_cons, inr_eq, tDisp, tPairs, tBoolOwn, rBoolOwn, tBM, rAppend, ty_list, ty_str, rEqOwn, iEnumT, RS.tCallS, tM1, tDc_eq, tLock, tLockE, iKeys, tListEnum, rUpdate, tMkX0, tMkX1, tXfv, gSub, rSetL, List.getD_cons_zero, List.getD_cons_succ, tBreak, tCMethS, ClX.tCVal, tXfa, tIxOwn, tInOwn, tPropG, tMethK, tMethP, tListGen, tDGet2, tDPop2, rNeD0, intA_i, intA_b, tRevL, sFldAug, tPm0, tPm1, tDIn, tDNotIn, tDNewK, RS.tMethS, tForK, tKM, tKC, tLcK, tKM2, tKC2, tMethStar, tKCK2, tLk, tAug, ipI, tDig, tLcX, tKMX, tKCX, tForY, tKCY, tKMY, tYThen, tYPlain, tYYield, tY0, tYIf, GKE.at, tListX]
      refine ⟨by omega, ?_⟩
      rw [decide_eq_true (by omega)]
      exact k _ (Same.refl _)
    · refine ⟨s _ _ upd_same, L, List.replicate kvs.length true, rfl, SqL.of ?_, ?_⟩
      · rw [upd_ne (fresh_lock hL).1, eL]
        congr 2
        rw [List.map_replicate]
        exact List.ext_getElem (by simp) (by simp)
      · walk_at "sx"
        have e : (List.replicate kvs.length true).all id = true := by simp [List.all_eq_true]
        rw [e]
        exact q _ (sp.trans (unlock h2 s))
end
theorem fnG_void {g : Wd} {k : Nat} {f : Addr} {fd : FuncData} {ps : List Str} {sp : Sp} (h : ∀ vs H Q E, ¬ sp vs H Q E) : FnG g k f fd ps sp :=
  ⟨fun vs H Q E z => (h vs H Q E z).elim, fun A outer s H args us vs Q E _ _ _ _ _ z => (h vs H Q E z).elim⟩
theorem kn_rec {g : Wd} {x : Str} {f : Addr} {fd : FuncData} {ps : List Str} {c : Nat} {sp : Nat → Sp} (m : g.mg x = some (.ref f)) (kp : PySem.W.keepIn g.K (.ref f) = true) (b : Binds g.K fd ps []) (h0 : ∀ vs H Q E, ¬ sp 0 vs H Q E)
    (hs : ∀ n, Kn g x (n + c) ps [] (sp n) → FnG g (n + c + 1) f fd ps (sp (n + 1))) : ∀ n, Kn g x (n + c) ps [] (sp n)
  | 0 => ⟨f, fd, [], m, kp, fnG_void h0, b, .nil⟩
  | n + 1 => ⟨f, fd, [], m, kp, (hs n (kn_rec m kp b h0 hs n)).mono (by omega), b, .nil⟩
/-- an item's data -/
theorem prs_get {H : Hp} {v : V} {d : PyData} {fp : List Addr} (h : Tr H v d fp) (ok : okB d = true) {j : Nat} {s x : V} (e : (prs H v)[j]? = some (s, x)) : ∃ d' f', Tr H x d' f' ∧ okB d' = true ∧ d'.depth < d.depth ∧ ∀ c ∈ f', c ∈ fp := by
  cases h with
  | @lst a xs ds fp h hs na =>
    have e' : (idx xs)[j]? = some (s, x) := by simpa [prs, h] using e
    obtain ⟨rfl, hx⟩ := idx_get e'
    obtain ⟨v, d, f', e1, e2, t, sub⟩ := hs.get (List.getElem?_eq_some_iff.mp hx).1
    rw [hx] at e1
    cases e1
    simp only [okB, Bool.and_eq_true] at ok
    refine ⟨d, f', t, okAll_get ok.2 e2, ?_, fun c hc => List.mem_cons_of_mem _ (sub c hc)⟩
    have := depth_all e2
    simp only [PyData.depth]; omega
  | @tup a xs ds fp h hs =>
    have e' : (idx xs)[j]? = some (s, x) := by simpa [prs, h] using e
    obtain ⟨rfl, hx⟩ := idx_get e'
    obtain ⟨v, d, f', e1, e2, t, sub⟩ := hs.get (List.getElem?_eq_some_iff.mp hx).1
    rw [hx] at e1
    cases e1
    simp only [okB, Bool.and_eq_true] at ok
    refine ⟨d, f', t, okAll_get ok.2 e2, ?_, sub⟩
    have := depth_all e2
    simp only [PyData.depth]; omega
  | @dct a kvs D fp h hs na nd =>
    have e' : (kvs.map fun kv => (kV kv.1, kv.2))[j]? = some (s, x) := by simpa [prs, h] using e
    rw [List.getElem?_map] at e'
    cases hk : kvs[j]? with
    | none => rw [hk] at e'; cases e'
    | some kv =>
      rw [hk] at e'
      cases e'
      obtain ⟨y, v, d, f', e1, e2, t, sub⟩ := hs.get (List.getElem?_eq_some_iff.mp hk).1
      rw [hk] at e1
      cases e1
      simp only [okB, Bool.and_eq_true] at ok
      refine ⟨d, f', t, (okKv_get ok.2 e2).2, ?_, fun c hc => List.mem_cons_of_mem _ (sub c hc)⟩
      have := depth_kv e2
      simp only [PyData.depth]; omega
  | _ => simp [prs] at e
section
variable {g : Wd} {f : Addr} {fd : FuncData}
theorem sc_wrong_path : FnScope ["value", "path", "step", "item", "found"] ["value", "path"] (defScope s_wrong_path) := ⟨rfl, rfl, rfl, by decide +kernel, rfl, by decide +kernel, by decide +kernel⟩
def sp_path (n : Nat) : Sp := S2 fun v p H Q _ => ∃ d fp a ps, Tr H v d fp ∧ okB d = true ∧ p = .ref a ∧ H a = some (.tup ps) ∧ ps.length + d.depth ≤ 20 ∧ d.depth < n ∧ ∀ H', Same H H' → Q .non H'
theorem ok_path (n : Nat) (F : Df g.K "wrong_path" "wrong_path" s_wrong_path f fd .none) (T : Txt g) (F_is_wrong_part : Kn g "is_wrong_part" 1 ["value", "depth"] [] sp_wrong) (F_items_of : Kn g "items_of" 1 ["value"] [] sp_items) (F_wrong_path : Kn g "wrong_path" (n + 1) ["value", "path"] [] (sp_path n)) : FnG g (n + 2) f fd ["value", "path"] (sp_path (n + 1)) := by
  refine F.ok sc_wrong_path (fun vs H Q E h => S2.len h) (fun cdv A outer s H vs Q E hr h => ?_)
  obtain ⟨v, _, rfl, d, fp, a, ps, hv, hok, rfl, ha, hl, hn, q⟩ := h
  refine ⟨_, (pss_mid (ps_if (pt_val (pe_callG F_is_wrong_part (hr.mono (by first | decide | omega)) tkD (pa_cons (pv 0) (pa_cons (pe_callB (c_len (K := g.K)) (by rfl) T.b_len bb_len (pa_cons (pv 1) pa_nil)) pa_nil)))) (pss_one (ps_ret (pv 1))) pss_nil)
      (pss_cons (ps_for psD rfl (i_list (K := g.K) (pe_callG F_items_of (hr.mono (by first | decide | omega)) tkD (pa_cons (pv 0) pa_nil))) (g_tup (K := g.K) (n := 2) (pgs_cons (pg_name (i := 2) sc_wrong_path.nd rfl (.inl rfl)) (pgs_cons (pg_name (i := 3) sc_wrong_path.nd rfl (.inl rfl)) pgs_nil))) (pss_cons (ps_set (i := 4) sc_wrong_path.nd rfl (Or.inl rfl) (pe_callG F_wrong_path (hr.mono (by first | decide | omega)) tkD (pa_cons (pv 3) (pa_cons (pe_op (o_add (K := g.K)) (pv 1) (pe_tup (pa_cons (pv 2) pa_nil))) pa_nil))))
      (pss_one (ps_if (pt_cmpR op_notN (pv 4) pe_non (nomark _)) (pss_one (ps_ret (pv 4))) pss_nil))))
      (pss_one (ps_ret pe_non)))), ?_⟩
  refine mid_one [some v, some (.ref a), none, none, none] (fun H1 => Same H H1) ?_ fun H1 s1 => ?_
  · walk_at "sx"
    refine .inl ⟨ps, .inr (SqT.of ha), _, _, rfl, d, fp, _, hv, hok, rfl, fun z => by omega, fun H' s' => ?_⟩
    walk_at "sx"
    exact s'
  walk_at "sx"
  refine ⟨_, rfl, d, fp, hv.same s1, hok, fun L ts H2 s2 _ eL pr => ?_⟩
  walk_at "sx"
  refine ⟨⟨_, SqL.of eL⟩, ?_⟩
  have s12 := s1.trans s2
  refine for_by ts.length (fun i σ H' => (∃ v2 v3 v4, σ = [some v, some (.ref a), v2, v3, v4]) ∧ Same H2 H') ⟨⟨_, _, _, rfl⟩, Same.refl _⟩ (fun i σ H3 lt P => ⟨_, ts[i], SqL.of (P.2 _ _ eL), List.getElem?_eq_getElem lt⟩) (fun σ H3 P => ⟨_, SqL.of (P.2 _ _ eL), Nat.le_refl _⟩) (fun i σ H3 x H4 lt P yl => ?_) (fun σ H3 P => ?_)
  · obtain ⟨⟨v2, v3, v4, rfl⟩, s3⟩ := P
    obtain ⟨rfl, hx⟩ := yl
    have hx := hx _ (SqL.of (s3 _ _ eL))
    have lp : i < (prs H1 v).length := by rw [← pr.1]; exact lt
    obtain ⟨st, it, hp⟩ : ∃ st it, (prs H1 v)[i]? = some (st, it) := ⟨_, _, List.getElem?_eq_getElem lp⟩
    obtain ⟨t, ht, et⟩ := pr.2 i st it hp
    rw [ht] at hx
    obtain rfl : V.ref t = x := Option.some.inj hx
    obtain ⟨d', f', hd', ok', dl, _⟩ := prs_get (hv.same s1) hok hp
    have et3 := s3 _ _ et
    walk_at "sx"
    refine ⟨_, SqT.of et3, rfl, ?_⟩
    walk_at "sx"
    intro u hu
    have su := same_upd (o := HO.tup [st]) hu
    have a3 := su _ _ (s3 _ _ (s12 _ _ ha))
    have s23 := s2.trans s3
    have go : ∀ (b : Addr) (G : Hp), Same (upd H4 u (HO.tup [st])) G → G b = some (.tup (ps ++ [st])) → sp_path n [it, .ref b] G (fun x H1 => if (!decide (x = V.non)) = true then Q x H1 else (∃ x_1, some x = x_1) ∧ Same H2 H1) fun c d H' => E c d H' := fun b G sG hb =>
      ⟨_, _, rfl, d', f', b, _, hd'.same ((s23.trans su).trans sG), ok', rfl, hb, by simp; omega, by omega, fun H5 s5 => by show (if _ then _ else _); rw [if_neg (by simp)]; exact ⟨⟨_, rfl⟩, ((s3.trans su).trans sG).trans s5⟩⟩
    refine .inr ⟨a, u, ps, [st], rfl, rfl, SqT.of a3, SqT.of upd_same, by rw [sizeLine_eq]; simp; omega, fun e => ?_, (fun _ e => nomatch e), fun _ _ b hb => ?_⟩
    · subst e
      have := go u _ (Same.refl _) upd_same
      simpa using this
    · have := go b _ (same_upd hb) upd_same
      simpa using this
  · obtain ⟨⟨v2, v3, v4, rfl⟩, s3⟩ := P
    walk_at "sx"
    exact q _ (s12.trans s3)
end
section
variable {g : Wd} {f : Addr} {fd : FuncData}
theorem sc_check_value : FnScope ["value", "path"] ["value"] (defScope s_check_value) := ⟨rfl, rfl, rfl, by decide +kernel, rfl, by decide +kernel, by decide +kernel⟩
def sp_check : Sp := S1 fun v H Q _ => ∃ d fp, Tr H v d fp ∧ okB d = true ∧ d.depth < 21 ∧ ∀ H', Same H H' → Q .non H'
theorem ok_check (F : Df g.K "check_value" "check_value" s_check_value f fd .none) (T : Txt g) (F_wrong_path : Kn g "wrong_path" 22 ["value", "path"] [] (sp_path 21)) : FnG g 23 f fd ["value"] sp_check := by
  refine F.ok sc_check_value (fun vs H Q E h => S1.len h) (fun cdv A outer s H vs Q E hr h => ?_)
  obtain ⟨v, rfl, d, fp, hv, hok, hn, q⟩ := h
  refine ⟨_, (pss_cons (ps_set (i := 1) sc_check_value.nd rfl (Or.inl rfl) (pe_callG F_wrong_path (hr.mono (by first | decide | omega)) tkD (pa_cons (pv 0) (pa_cons (pe_tup pa_nil) pa_nil))))
      (pss_one (ps_if (pt_cmpR op_notN (pv 1) pe_non (nomark _)) (pss_one ps_never) pss_nil))), ?_⟩
  walk_at "sx"
  intro p hp
  have sp := same_upd (o := HO.tup []) hp
  refine ⟨_, _, rfl, d, fp, p, [], hv.same sp, hok, rfl, upd_same, by simp; omega, hn, fun H' s' => ?_⟩
  walk_at "sx"
  exact q _ (sp.trans s')
theorem sc_spelled : FnScope ["value", "letter", "front", "key", "item"] ["value"] (defScope s_spelled) := ⟨rfl, rfl, rfl, by decide +kernel, rfl, by decide +kernel, by decide +kernel⟩
def sp_spell (n : Nat) : Sp := S1 fun v H Q _ => ∃ d fp, Tr H v d fp ∧ okB d = true ∧ d.depth < n ∧ (spell d).length ≤ 1000000 ∧ ∀ H', Same H H' → Q (.str (spell d)) H'
/-- the lists' and tuples' way -/
theorem spell_items {n : Nat} {H H1 : Hp} {Qf : VK} {J : It} {xs : List V} {ds : List PyData} {fp : List Addr} {σ : L2.St} {W : WX} (sl : Nat) (hw : ∀ x : V, wipe ((wipe σ [sl]).set sl (some x)) [sl] = wipe σ [sl]) (hv : ∀ x : V, ((wipe σ [sl]).set sl (some x))[sl]? = some (some x)) (sm : Same H H1) (hs : TrL H xs ds fp) (ok : okAll ds = true) (hl : ds.length ≤ 10000) (hd : PyData.depthAll ds < n) (hz : (spells ds).length ≤ 1000000)
    (go : ∀ i G, i < xs.length → Same H1 G → J.go i G) (stop : ∀ G, Same H1 G → J.stop xs.length G) (yl : ∀ i G x G', i < xs.length → Same H1 G → J.yld i G x G' → G' = G ∧ xs[i]? = some x)
    (q : ∀ (L : Addr) (ys : List Str) (G : Hp), Same H1 G → G L = some (.lst (ys.map V.str)) → cat ys = spells ds → (ys.map (·.length)).sum ≤ 1000000 → Qf (.ref L) G) :
    LcB J (gName sl) tYes (tCallG (sp_spell n) [] W (tCons (tVar sl) tNil)) [sl] σ H1 Qf := by
  have ln := hs.len
  refine lc_all xs.length (fun i => .str (spell (ds[i]?.getD .none))) (by rw [sizeLine_eq]; omega) go stop (fun i G x G' K lt s y k => ?_) (fun L G hL s eL => ?_)
  · obtain ⟨rfl, hx⟩ := yl i G x G' lt s y
    obtain ⟨v, d, f', e1, e2, t, _⟩ := hs.get lt
    rw [hx] at e1
    cases e1
    refine ⟨hw x, x, hv x, ?_⟩
    have b1 := depth_all e2
    have b2 := spells_get e2
    refine ⟨_, rfl, d, f', t.same (sm.trans s), okAll_get ok e2, by omega, by omega, fun H' s' => ?_⟩
    have := k H' s'
    rw [e2] at this
    exact this
  · have e : (List.range xs.length).map (fun i => V.str (spell (ds[i]?.getD .none))) = (ds.map spell).map V.str := by
      rw [ln]
      refine List.ext_getElem (by simp) fun i h1 h2 => ?_
      simp at h1 h2
      simp [h1]
    refine q L (ds.map spell) G s (by rw [eL, e]) (cat_map_spell ds) ?_
    rw [← cat_len, cat_map_spell]; exact hz
theorem ok_spell (n : Nat) (F : Df g.K "spelled" "spelled" s_spelled f fd .none) (T : Txt g) (F_spelled : Kn g "spelled" (n + 1) ["value"] [] (sp_spell n)) : FnG g (n + 2) f fd ["value"] (sp_spell (n + 1)) := by
  refine F.ok sc_spelled (fun vs H Q E h => S1.len h) (fun cdv A outer s H vs Q E hr h => ?_)
  obtain ⟨v, rfl, d, fp, hv, hok, hn, hz, q⟩ := h
  refine ⟨_, (pss_cons (ps_if (pt_cmpR op_isN (pv 0) pe_non (nomark _)) (pss_one (ps_ret pe_str)) pss_nil)
      (pss_cons (ps_if (pt_val (pe_callB (c_is "bool") (by rfl) T.b_isinstance bb_isinstance (pa_cons (pv 0) (pa_cons (pe_bltn (v := .ty "bool") rfl T.b_bool bb_bool rfl) pa_nil)))) (pss_one (ps_ret (pe_ifExp (t_truth (K := g.K) (pv 0)) pe_str pe_str))) pss_nil)
      (pss_cons (ps_if (pt_val (pe_callB (c_is "int") (by rfl) T.b_isinstance bb_isinstance (pa_cons (pv 0) (pa_cons (pe_bltn (v := .ty "int") rfl T.b_int bb_int rfl) pa_nil)))) (pss_one (ps_ret (pe_joined (.cons pe_str (.cons (pe_fmt (pv 0)) (.cons pe_str .nil)))))) pss_nil)
      (pss_cons (ps_if (pt_val (pe_callB (c_is "str") (by rfl) T.b_isinstance bb_isinstance (pa_cons (pv 0) (pa_cons (pe_bltn (v := .ty "str") rfl T.b_str bb_str rfl) pa_nil)))) (pss_one (ps_ret (pe_joined (.cons pe_str (.cons (pe_fmt (pe_callB (c_len (K := g.K)) (by rfl) T.b_len bb_len (pa_cons (pv 0) pa_nil))) (.cons pe_str (.cons (pe_fmt (pv 0)) .nil))))))) pss_nil)
      (pss_mid (ps_set (i := 1) sc_spelled.nd rfl (Or.inl rfl) (pe_ifExp (pt_val (pe_callB (c_is "dict") (by rfl) T.b_isinstance bb_isinstance (pa_cons (pv 0) (pa_cons (pe_bltn (v := .ty "dict") rfl T.b_dict bb_dict rfl) pa_nil)))) pe_str (pe_ifExp (pt_val (pe_callB (c_is "list") (by rfl) T.b_isinstance bb_isinstance (pa_cons (pv 0) (pa_cons (pe_bltn (v := .ty "list") rfl T.b_list bb_list rfl) pa_nil)))) pe_str pe_str)))
      (pss_mid (ps_set (i := 2) sc_spelled.nd rfl (Or.inl rfl) (pe_joined (.cons (pe_fmt (pv 1)) (.cons (pe_fmt (pe_callB (c_len (K := g.K)) (by rfl) T.b_len bb_len (pa_cons (pv 0) pa_nil))) (.cons pe_str .nil)))))
      (pss_cons (ps_if (pt_cmpR (o_eq (K := g.K) hr) (pv 1) pe_str (nomark _)) (pss_one (ps_ret (pe_op (o_add (K := g.K)) (pv 2) (pe_join pe_str (pe_lock (pe_lc (own := [("key", 3)]) (tt := tYes) rfl sc_spelled.nd (pi_keys (pv 0)) (blkOk_by (own := [("key", 3)]) (N := ["value", "letter", "front", "key", "item"]) (sc := defScope s_spelled) (by decide +kernel)) (fun _ _ _ _ _ => (pg_name (i := 3) sc_spelled.nd rfl (.inl rfl))) (fun _ _ _ _ _ => pts_nil) (fun _ _ _ _ _ => (pe_op (o_add (K := g.K)) (pe_callG F_spelled (Rm.mono (Rm.mk hr.room hr.gd) (by first | decide | omega)) L2.takes0 (pa_cons (pv 3) pa_nil)) (pe_callG F_spelled (Rm.mono (Rm.mk hr.room hr.gd) (by first | decide | omega)) L2.takes0 (pa_cons (pe_dget (hu_of (Rm.mk hr.room hr.gd).room) (pv 0) (pv 3) (fun _ _ => rfl)) pa_nil)))))))))) pss_nil)
      (pss_one (ps_ret (pe_op (o_add (K := g.K)) (pv 2) (pe_join pe_str (pe_lc (own := [("item", 4)]) (tt := tYes) rfl sc_spelled.nd (pi_or (i_list (K := g.K) (pv 0)) (i_tup (K := g.K) (pv 0))) (blkOk_by (own := [("item", 4)]) (N := ["value", "letter", "front", "key", "item"]) (sc := defScope s_spelled) (by decide +kernel)) (fun _ _ _ _ _ => (pg_name (i := 4) sc_spelled.nd rfl (.inl rfl))) (fun _ _ _ _ _ => pts_nil) (fun _ _ _ _ _ => (pe_callG F_spelled (Rm.mono (Rm.mk hr.room hr.gd) (by first | decide | omega)) L2.takes0 (pa_cons (pv 4) pa_nil))))))))))))))), ?_⟩
  cases hv with
  | non =>
    walk_at "sx"
    exact q _ (Same.refl _)
  | bl b =>
    walk_at "sx"
    have := q H (Same.refl _)
    cases b <;> simpa [spell] using this
  | int i =>
    walk_at "sx"
    have hi : i.natAbs < 10 ^ 100 := by simpa [okB] using hok
    simp only [spell] at hz
    simp only [Str.empty_append]
    simp only [Str.length_append] at hz ⊢
    exact ⟨by omega, (len_100 hi).1, by omega, by omega, q _ (Same.refl _)⟩
  | str x =>
    walk_at "sx"
    have hx : x.length ≤ 10000 := by simpa [okB] using hok
    simp only [spell, num] at hz
    simp only [Str.empty_append]
    simp only [Str.length_append] at hz ⊢
    exact ⟨by omega, by omega, num_log hx, by omega, by omega, by omega, by omega, q _ (Same.refl _)⟩
  | @lst a xs ds fp h hs na =>
    simp only [okB, Bool.and_eq_true, decide_eq_true_eq] at hok
    have hl := hs.len
    simp only [spell] at hz
    have hz' := hz
    simp only [Str.length_append, num] at hz'
    simp only [tyN_l h, tRet, tRetN, tSeq, C8.tCut, tNext, tAsg, gName, gNil, gCons, gTup, gFld, tIfS, tIf, tAndV, tOrV, tNotV, tAnd, tOr, tNot, tB, tTest, tOp, tUn, tCB, tCons, tNil, tVar, tC, tChain, tDrop, RS.tCallG, RS.tMethG, tMakeG, RS.tCallK, RS.tMakeK, tEqOwn, rI, rI0, rU, add_ii, add_ss, add_rr, mul_ii, mul_si, mul_ri, RS.eq_ii, RS.eq_ss, eq_bb, eq_nn, eq_sn, eq_ns, eq_in, eq_ni, eq_bn, eq_nb, eq_is, eq_si, eq_rr, ne_ii, ne_ss, ne_bb, ne_nn, ne_sn, ne_ns, ne_in, ne_ni, ne_is, ne_si, ne_rr, in_ss, in_r, nin_ss, nin_r, len_s, len_r, RS.ix_s, RS.ix_r, sl_s, sl_r, is_eq, tyN_n, tyN_b, tyN_i, tyN_s, tru_b, tru_i, tru_n, tSl, tPart, tNoPart, tPar, tPar3, tFmtZ, tFmt, tJs, tDGet, sDPut, sFld, tFld, tTup, tLst, tNever, isB,
  L2.start, List.map_cons, List.map_nil, List.length_cons, List.length_nil, Nat.reduceAdd, Nat.reduceSub, Nat.sub_self, List.replicate_zero, List.replicate_succ, List.append_nil, List.cons_append, List.nil_append, List.getElem?_cons_zero, List.getElem?_cons_succ, List.set_cons_zero, List.set_cons_succ, Option.some.injEq, exists_eq_left, exists_eq_left', exists_and_left, V.bl.injEq, V.int.injEq, V.str.injEq, V.ref.injEq, beq_self_eq_true, Bool.true_or, Bool.or_true, Bool.false_or, Bool.or_false, Bool.and_false, Bool.false_and, Bool.true_and, Bool.and_true, Bool.not_true, Bool.not_false, Bool.false_eq_true, if_true, if_false, ite_true, ite_false, true_and, and_true, and_assoc, String.reduceBEq, String.reduceEq, reduceIte, Bool.and_self, reduceCtorEq, false_and, and_false, exists_false, or_false, false_or, exists_const, iEnumS, iStr, iList, iTup, iRng1, iEnum, tFor_eq, tLc_eq, List.cons.injEq, wipe, not_true_eq_false, not_false_eq_true, upd_same, HO.ins.injEq, HO.tup.injEq, HO.lst.injEq, ofS_eq, lk_nil, lk_cons, pu_nil, pu_cons, sizeLine_eq, Nat.reduceLT, Nat.reduceLeDiff, Nat.reduceEqDiff, Nat.le_refl, decide_true, decide_false, tPr, dget_us, dput_us, vv_nil, vv_cons, RS.pk_nil, pk_one, RS.pk_cons, inr_eq, tDisp, tPairs, tBoolOwn, rBoolOwn, tBM, rAppend, ty_list, ty_str, rEqOwn, iEnumT, RS.tCallS, tM1, tDc_eq, tLock, tLockE, iKeys, tListEnum, rUpdate, tMkX0, tMkX1, tXfv, gSub, rSetL, List.getD_cons_zero, List.getD_cons_succ, tBreak, tCMethS, ClX.tCVal, tXfa, tIxOwn, tInOwn, tPropG, tMethK, tMethP, tListGen, tDGet2, tDPop2, rNeD0, intA_i, intA_b, tRevL, sFldAug, tPm0, tPm1, tDIn, tDNotIn, tDNewK, RS.tMethS, tForK, tKM, tKC, tLcK, tKM2, tKC2, tMethStar, tKCK2, tLk, tAug, ipI, tDig, tLcX, tKMX, tKCX, tForY, tKCY, tKMY, tYThen, tYPlain, tYYield, tY0, tYIf, GKE.at, tListX]
    refine mid_one [some (.ref a), some (.str "l"), none, none, none] (fun H1 => H1 = H) ?_ ?_
    · simp only [tyN_l h, tRet, tRetN, tSeq, C8.tCut, tNext, tAsg, gName, gNil, gCons, gTup, gFld, tIfS, tIf, tAndV, tOrV, tNotV, tAnd, tOr, tNot, tB, tTest, tOp, tUn, tCB, tCons, tNil, tVar, tC, tChain, tDrop, RS.tCallG, RS.tMethG, tMakeG, RS.tCallK, RS.tMakeK, tEqOwn, rI, rI0, rU, add_ii, add_ss, add_rr, mul_ii, mul_si, mul_ri, RS.eq_ii, RS.eq_ss, eq_bb, eq_nn, eq_sn, eq_ns, eq_in, eq_ni, eq_bn, eq_nb, eq_is, eq_si, eq_rr, ne_ii, ne_ss, ne_bb, ne_nn, ne_sn, ne_ns, ne_in, ne_ni, ne_is, ne_si, ne_rr, in_ss, in_r, nin_ss, nin_r, len_s, len_r, RS.ix_s, RS.ix_r, sl_s, sl_r, is_eq, tyN_n, tyN_b, tyN_i, tyN_s, tru_b, tru_i, tru_n, tSl, tPart, tNoPart, tPar, tPar3, tFmtZ, tFmt, tJs, tDGet, sDPut, sFld, tFld, tTup, tLst, tNever, isB,
  L2.start, List.map_cons, List.map_nil, List.length_cons, List.length_nil, Nat.reduceAdd, Nat.reduceSub, Nat.sub_self, List.replicate_zero, List.replicate_succ, List.append_nil, List.cons_append, List.nil_append, List.getElem?_cons_zero, List.getElem?_cons_succ, List.set_cons_zero, List.set_cons_succ, Option.some.injEq, exists_eq_left, exists_eq_left', exists_and_left, V.bl.injEq, V.int.injEq, V.str.injEq, V.ref.injEq, beq_self_eq_true, Bool.true_or, Bool.or_true, Bool.false_or, Bool.or_false, Bool.and_false, Bool.false_and, Bool.true_and, Bool.and_true, Bool.not_true, Bool.not_false, Bool.false_eq_true, if_true, if_false, ite_true, ite_false, true_and, and_true, and_assoc, String.reduceBEq, String.reduceEq, reduceIte, Bool.and_self, reduceCtorEq, false_and, and_false, exists_false, or_false, false_or, exists_const, iEnumS, iStr, iList, iTup, iRng1, iEnum, tFor_eq, tLc_eq, List.cons.injEq, wipe, not_true_eq_false, not_false_eq_true, upd_same, HO.ins.injEq, HO.tup.injEq, HO.lst.injEq, ofS_eq, lk_nil, lk_cons, pu_nil, pu_cons, sizeLine_eq, Nat.reduceLT, Nat.reduceLeDiff, Nat.reduceEqDiff, Nat.le_refl, decide_true, decide_false, tPr, dget_us, dput_us, vv_nil, vv_cons, RS.pk_nil, pk_one, RS.pk_cons, inr_eq, tDisp, tPairs, tBoolOwn, rBoolOwn, tBM, rAppend, ty_list, ty_str, rEqOwn, iEnumT, RS.tCallS, tM1, tDc_eq, tLock, tLockE, iKeys, tListEnum, rUpdate, tMkX0, tMkX1, tXfv, gSub, rSetL, List.getD_cons_zero, List.getD_cons_succ, tBreak, tCMethS, ClX.tCVal, tXfa, tIxOwn, tInOwn, tPropG, tMethK, tMethP, tListGen, tDGet2, tDPop2, rNeD0, intA_i, intA_b, tRevL, sFldAug, tPm0, tPm1, tDIn, tDNotIn, tDNewK, RS.tMethS, tForK, tKM, tKC, tLcK, tKM2, tKC2, tMethStar, tKCK2, tLk, tAug, ipI, tDig, tLcX, tKMX, tKCX, tForY, tKCY, tKMY, tYThen, tYPlain, tYYield, tY0, tYIf, GKE.at, tListX]
    intro H1 e1
    rw [e1]; clear e1 H1
    refine mid_one [some (.ref a), some (.str "l"), some (.str (("l" : Str) ++ num ds.length ++ ":")), none, none] (fun H1 => H1 = H) ?_ ?_
    · walk_at "sx"
      simp only [Str.empty_append, Str.length_append]
      exact ⟨by omega, by omega, .inl ⟨xs, .inl (SqL.of h), num_log (by omega), by rw [hl]; omega, by rw [hl]; omega, by rw [hl]; rfl⟩⟩
    intro H1 e1
    rw [e1]; clear e1 H1
    walk_at "sx"
    refine ⟨⟨_, rfl⟩, .inl ⟨⟨xs, SqL.of h⟩, ?_⟩⟩
    have e2 : (("l" : Str) ++ num ds.length ++ ":" ++ spells ds).length ≤ 1000000 := hz
    refine spell_items 4 (fun _ => rfl) (fun _ => rfl) (Same.refl _) hs hok.2 hok.1 (by simp only [PyData.depth] at hn; omega) (by omega) (fun i G lt sm => ⟨_, xs[i], SqL.of (sm _ _ h), List.getElem?_eq_getElem lt⟩) (fun G sm => ⟨_, SqL.of (sm _ _ h), Nat.le_refl _⟩) (fun i G x G' lt sm y => ⟨y.1, y.2 _ (SqL.of (sm _ _ h))⟩) (fun L ys G sm eL ec hs2 => ?_)
    refine ⟨L, rfl, ys, .inl (SqL.of eL), by rw [show (Str.ofString "").length = 0 from by decide +kernel]; omega, ?_⟩
    rw [join0, ec]
    exact ⟨by simp only [Str.length_append, num]; omega, q _ sm⟩
  | @tup a xs ds fp h hs =>
    simp only [okB, Bool.and_eq_true, decide_eq_true_eq] at hok
    have hl := hs.len
    simp only [spell] at hz
    have hz' := hz
    simp only [Str.length_append, num] at hz'
    simp only [tyN_t h, tRet, tRetN, tSeq, C8.tCut, tNext, tAsg, gName, gNil, gCons, gTup, gFld, tIfS, tIf, tAndV, tOrV, tNotV, tAnd, tOr, tNot, tB, tTest, tOp, tUn, tCB, tCons, tNil, tVar, tC, tChain, tDrop, RS.tCallG, RS.tMethG, tMakeG, RS.tCallK, RS.tMakeK, tEqOwn, rI, rI0, rU, add_ii, add_ss, add_rr, mul_ii, mul_si, mul_ri, RS.eq_ii, RS.eq_ss, eq_bb, eq_nn, eq_sn, eq_ns, eq_in, eq_ni, eq_bn, eq_nb, eq_is, eq_si, eq_rr, ne_ii, ne_ss, ne_bb, ne_nn, ne_sn, ne_ns, ne_in, ne_ni, ne_is, ne_si, ne_rr, in_ss, in_r, nin_ss, nin_r, len_s, len_r, RS.ix_s, RS.ix_r, sl_s, sl_r, is_eq, tyN_n, tyN_b, tyN_i, tyN_s, tru_b, tru_i, tru_n, tSl, tPart, tNoPart, tPar, tPar3, tFmtZ, tFmt, tJs, tDGet, sDPut, sFld, tFld, tTup, tLst, tNever, isB,
  L2.start, List.map_cons, List.map_nil, List.length_cons, List.length_nil, Nat.reduceAdd, Nat.reduceSub, Nat.sub_self, List.replicate_zero, List.replicate_succ, List.append_nil, List.cons_append, List.nil_append, List.getElem?_cons_zero, List.getElem?_cons_succ, List.set_cons_zero, List.set_cons_succ, Option.some.injEq, exists_eq_left, exists_eq_left', exists_and_left, V.bl.injEq, V.int.injEq, V.str.injEq, V.ref.injEq, beq_self_eq_true, Bool.true_or, Bool.or_true, Bool.false_or, Bool.or_false, Bool.and_false, Bool.false_and, Bool.true_and, Bool.and_true, Bool.not_true, Bool.not_false, Bool.false_eq_true, if_true, if_false, ite_true, ite_false, true_and, and_true, and_assoc, String.reduceBEq, String.reduceEq, reduceIte, Bool.and_self, reduceCtorEq, false_and, and_false, exists_false, or_false, false_or, exists_const, iEnumS, iStr, iList, iTup, iRng1, iEnum, tFor_eq, tLc_eq, List.cons.injEq, wipe, not_true_eq_false, not_false_eq_true, upd_same, HO.ins.injEq, HO.tup.injEq, HO.lst.injEq, ofS_eq, lk_nil, lk_cons, pu_nil, pu_cons, sizeLine_eq, Nat.reduceLT, Nat.reduceLeDiff, Nat.reduceEqDiff, Nat.le_refl, decide_true, decide_false, tPr, dget_us, dput_us, vv_nil, vv_cons, RS.pk_nil, pk_one, RS.pk_cons, inr_eq, tDisp, tPairs, tBoolOwn, rBoolOwn, tBM, rAppend, ty_list, ty_str, rEqOwn, iEnumT, RS.tCallS, tM1, tDc_eq, tLock, tLockE, iKeys, tListEnum, rUpdate, tMkX0, tMkX1, tXfv, gSub, rSetL, List.getD_cons_zero, List.getD_cons_succ, tBreak, tCMethS, ClX.tCVal, tXfa, tIxOwn, tInOwn, tPropG, tMethK, tMethP, tListGen, tDGet2, tDPop2, rNeD0, intA_i, intA_b, tRevL, sFldAug, tPm0, tPm1, tDIn, tDNotIn, tDNewK, RS.tMethS, tForK, tKM, tKC, tLcK, tKM2, tKC2, tMethStar, tKCK2, tLk, tAug, ipI, tDig, tLcX, tKMX, tKCX, tForY, tKCY, tKMY, tYThen, tYPlain, tYYield, tY0, tYIf, GKE.at, tListX]
    refine mid_one [some (.ref a), some (.str "u"), none, none, none] (fun H1 => H1 = H) ?_ ?_
    · simp only [tyN_t h, tRet, tRetN, tSeq, C8.tCut, tNext, tAsg, gName, gNil, gCons, gTup, gFld, tIfS, tIf, tAndV, tOrV, tNotV, tAnd, tOr, tNot, tB, tTest, tOp, tUn, tCB, tCons, tNil, tVar, tC, tChain, tDrop, RS.tCallG, RS.tMethG, tMakeG, RS.tCallK, RS.tMakeK, tEqOwn, rI, rI0, rU, add_ii, add_ss, add_rr, mul_ii, mul_si, mul_ri, RS.eq_ii, RS.eq_ss, eq_bb, eq_nn, eq_sn, eq_ns, eq_in, eq_ni, eq_bn, eq_nb, eq_is, eq_si, eq_rr, ne_ii, ne_ss, ne_bb, ne_nn, ne_sn, ne_ns, ne_in, ne_ni, ne_is, ne_si, ne_rr, in_ss, in_r, nin_ss, nin_r, len_s, len_r, RS.ix_s, RS.ix_r, sl_s, sl_r, is_eq, tyN_n, tyN_b, tyN_i, tyN_s, tru_b, tru_i, tru_n, tSl, tPart, tNoPart, tPar, tPar3, tFmtZ, tFmt, tJs, tDGet, sDPut, sFld, tFld, tTup, tLst, tNever, isB,
  L2.start, List.map_cons, List.map_nil, List.length_cons, List.length_nil, Nat.reduceAdd, Nat.reduceSub, Nat.sub_self, List.replicate_zero, List.replicate_succ, List.append_nil, List.cons_append, List.nil_append, List.getElem?_cons_zero, List.getElem?_cons_succ, List.set_cons_zero, List.set_cons_succ, Option.some.injEq, exists_eq_left, exists_eq_left', exists_and_left, V.bl.injEq, V.int.injEq, V.str.injEq, V.ref.injEq, beq_self_eq_true, Bool.true_or, Bool.or_true, Bool.false_or, Bool.or_false, Bool.and_false, Bool.false_and, Bool.true_and, Bool.and_true, Bool.not_true, Bool.not_false, Bool.false_eq_true, if_true, if_false, ite_true, ite_false, true_and, and_true, and_assoc, String.reduceBEq, String.reduceEq, reduceIte, Bool.and_self, reduceCtorEq, false_and, and_false, exists_false, or_false, false_or, exists_const, iEnumS, iStr, iList, iTup, iRng1, iEnum, tFor_eq, tLc_eq, List.cons.injEq, wipe, not_true_eq_false, not_false_eq_true, upd_same, HO.ins.injEq, HO.tup.injEq, HO.lst.injEq, ofS_eq, lk_nil, lk_cons, pu_nil, pu_cons, sizeLine_eq, Nat.reduceLT, Nat.reduceLeDiff, Nat.reduceEqDiff, Nat.le_refl, decide_true, decide_false, tPr, dget_us, dput_us, vv_nil, vv_cons, RS.pk_nil, pk_one, RS.pk_cons, inr_eq, tDisp, tPairs, tBoolOwn, rBoolOwn, tBM, rAppend, ty_list, ty_str, rEqOwn, iEnumT, RS.tCallS, tM1, tDc_eq, tLock, tLockE, iKeys, tListEnum, rUpdate, tMkX0, tMkX1, tXfv, gSub, rSetL, List.getD_cons_zero, List.getD_cons_succ, tBreak, tCMethS, ClX.tCVal, tXfa, tIxOwn, tInOwn, tPropG, tMethK, tMethP, tListGen, tDGet2, tDPop2, rNeD0, intA_i, intA_b, tRevL, sFldAug, tPm0, tPm1, tDIn, tDNotIn, tDNewK, RS.tMethS, tForK, tKM, tKC, tLcK, tKM2, tKC2, tMethStar, tKCK2, tLk, tAug, ipI, tDig, tLcX, tKMX, tKCX, tForY, tKCY, tKMY, tYThen, tYPlain, tYYield, tY0, tYIf, GKE.at, tListX]
    intro H1 e1
    rw [e1]; clear e1 H1
    refine mid_one [some (.ref a), some (.str "u"), some (.str (("u" : Str) ++ num ds.length ++ ":")), none, none] (fun H1 => H1 = H) ?_ ?_
    · walk_at "sx"
      simp only [Str.empty_append, Str.length_append]
      exact ⟨by omega, by omega, .inl ⟨xs, .inr (SqT.of h), num_log (by omega), by rw [hl]; omega, by rw [hl]; omega, by rw [hl]; rfl⟩⟩
    intro H1 e1
    rw [e1]; clear e1 H1
    walk_at "sx"
    refine ⟨⟨_, rfl⟩, .inr ⟨⟨xs, SqT.of h⟩, ?_⟩⟩
    have e2 : (("u" : Str) ++ num ds.length ++ ":" ++ spells ds).length ≤ 1000000 := hz
    refine spell_items 4 (fun _ => rfl) (fun _ => rfl) (Same.refl _) hs hok.2 hok.1 (by simp only [PyData.depth] at hn; omega) (by omega) (fun i G lt sm => ⟨_, xs[i], SqT.of (sm _ _ h), List.getElem?_eq_getElem lt⟩) (fun G sm => ⟨_, SqT.of (sm _ _ h), Nat.le_refl _⟩) (fun i G x G' lt sm y => ⟨y.1, y.2 _ (SqT.of (sm _ _ h))⟩) (fun L ys G sm eL ec hs2 => ?_)
    refine ⟨L, rfl, ys, .inl (SqL.of eL), by rw [show (Str.ofString "").length = 0 from by decide +kernel]; omega, ?_⟩
    rw [join0, ec]
    exact ⟨by simp only [Str.length_append, num]; omega, q _ sm⟩
  | @dct a kvs D fp h hs na nd =>
    simp only [okB, Bool.and_eq_true, decide_eq_true_eq] at hok
    have hl := hs.len
    simp only [spell] at hz
    have hz' := hz
    simp only [Str.length_append, num] at hz'
    simp only [tyN_d h, tRet, tRetN, tSeq, C8.tCut, tNext, tAsg, gName, gNil, gCons, gTup, gFld, tIfS, tIf, tAndV, tOrV, tNotV, tAnd, tOr, tNot, tB, tTest, tOp, tUn, tCB, tCons, tNil, tVar, tC, tChain, tDrop, RS.tCallG, RS.tMethG, tMakeG, RS.tCallK, RS.tMakeK, tEqOwn, rI, rI0, rU, add_ii, add_ss, add_rr, mul_ii, mul_si, mul_ri, RS.eq_ii, RS.eq_ss, eq_bb, eq_nn, eq_sn, eq_ns, eq_in, eq_ni, eq_bn, eq_nb, eq_is, eq_si, eq_rr, ne_ii, ne_ss, ne_bb, ne_nn, ne_sn, ne_ns, ne_in, ne_ni, ne_is, ne_si, ne_rr, in_ss, in_r, nin_ss, nin_r, len_s, len_r, RS.ix_s, RS.ix_r, sl_s, sl_r, is_eq, tyN_n, tyN_b, tyN_i, tyN_s, tru_b, tru_i, tru_n, tSl, tPart, tNoPart, tPar, tPar3, tFmtZ, tFmt, tJs, tDGet, sDPut, sFld, tFld, tTup, tLst, tNever, isB,
  L2.start, List.map_cons, List.map_nil, List.length_cons, List.length_nil, Nat.reduceAdd, Nat.reduceSub, Nat.sub_self, List.replicate_zero, List.replicate_succ, List.append_nil, List.cons_append, List.nil_append, List.getElem?_cons_zero, List.getElem?_cons_succ, List.set_cons_zero, List.set_cons_succ, Option.some.injEq, exists_eq_left, exists_eq_left', exists_and_left, V.bl.injEq, V.int.injEq, V.str.injEq, V.ref.injEq, beq_self_eq_true, Bool.true_or, Bool.or_true, Bool.false_or, Bool.or_false, Bool.and_false, Bool.false_and, Bool.true_and, Bool.and_true, Bool.not_true, Bool.not_false, Bool.false_eq_true, if_true, if_false, ite_true, ite_false, true_and, and_true, and_assoc, String.reduceBEq, String.reduceEq, reduceIte, Bool.and_self, reduceCtorEq, false_and, and_false, exists_false, or_false, false_or, exists_const, iEnumS, iStr, iList, iTup, iRng1, iEnum, tFor_eq, tLc_eq, List.cons.injEq, wipe, not_true_eq_false, not_false_eq_true, upd_same, HO.ins.injEq, HO.tup.injEq, HO.lst.injEq, ofS_eq, lk_nil, lk_cons, pu_nil, pu_cons, sizeLine_eq, Nat.reduceLT, Nat.reduceLeDiff, Nat.reduceEqDiff, Nat.le_refl, decide_true, decide_false, tPr, dget_us, dput_us, vv_nil, vv_cons, RS.pk_nil, pk_one, RS.pk_cons, inr_eq, tDisp, tPairs, tBoolOwn, rBoolOwn, tBM, rAppend, ty_list, ty_str, rEqOwn, iEnumT, RS.tCallS, tM1, tDc_eq, tLock, tLockE, iKeys, tListEnum, rUpdate, tMkX0, tMkX1, tXfv, gSub, rSetL, List.getD_cons_zero, List.getD_cons_succ, tBreak, tCMethS, ClX.tCVal, tXfa, tIxOwn, tInOwn, tPropG, tMethK, tMethP, tListGen, tDGet2, tDPop2, rNeD0, intA_i, intA_b, tRevL, sFldAug, tPm0, tPm1, tDIn, tDNotIn, tDNewK, RS.tMethS, tForK, tKM, tKC, tLcK, tKM2, tKC2, tMethStar, tKCK2, tLk, tAug, ipI, tDig, tLcX, tKMX, tKCX, tForY, tKCY, tKMY, tYThen, tYPlain, tYYield, tY0, tYIf, GKE.at, tListX]
    refine mid_one [some (.ref a), some (.str "d"), none, none, none] (fun H1 => H1 = H) ?_ ?_
    · simp only [tyN_d h, tRet, tRetN, tSeq, C8.tCut, tNext, tAsg, gName, gNil, gCons, gTup, gFld, tIfS, tIf, tAndV, tOrV, tNotV, tAnd, tOr, tNot, tB, tTest, tOp, tUn, tCB, tCons, tNil, tVar, tC, tChain, tDrop, RS.tCallG, RS.tMethG, tMakeG, RS.tCallK, RS.tMakeK, tEqOwn, rI, rI0, rU, add_ii, add_ss, add_rr, mul_ii, mul_si, mul_ri, RS.eq_ii, RS.eq_ss, eq_bb, eq_nn, eq_sn, eq_ns, eq_in, eq_ni, eq_bn, eq_nb, eq_is, eq_si, eq_rr, ne_ii, ne_ss, ne_bb, ne_nn, ne_sn, ne_ns, ne_in, ne_ni, ne_is, ne_si, ne_rr, in_ss, in_r, nin_ss, nin_r, len_s, len_r, RS.ix_s, RS.ix_r, sl_s, sl_r, is_eq, tyN_n, tyN_b, tyN_i, tyN_s, tru_b, tru_i, tru_n, tSl, tPart, tNoPart, tPar, tPar3, tFmtZ, tFmt, tJs, tDGet, sDPut, sFld, tFld, tTup, tLst, tNever, isB,
  L2.start, List.map_cons, List.map_nil, List.length_cons, List.length_nil, Nat.reduceAdd, Nat.reduceSub, Nat.sub_self, List.replicate_zero, List.replicate_succ, List.append_nil, List.cons_append, List.nil_append, List.getElem?_cons_zero, List.getElem?_cons_succ, List.set_cons_zero, List.set_cons_succ, Option.some.injEq, exists_eq_left, exists_eq_left', exists_and_left, V.bl.injEq, V.int.injEq, V.str.injEq, V.ref.injEq, beq_self_eq_true, Bool.true_or, Bool.or_true, Bool.false_or, Bool.or_false, Bool.and_false, Bool.false_and, Bool.true_and, Bool.and_true, Bool.not_true, Bool.not_false, Bool.false_eq_true, if_true, if_false, ite_true, ite_false, true_and, and_true, and_assoc, String.reduceBEq, String.reduceEq, reduceIte, Bool.and_self, reduceCtorEq, false_and, and_false, exists_false, or_false, false_or, exists_const, iEnumS, iStr, iList, iTup, iRng1, iEnum, tFor_eq, tLc_eq, List.cons.injEq, wipe, not_true_eq_false, not_false_eq_true, upd_same, HO.ins.injEq, HO.tup.injEq, HO.lst.injEq, ofS_eq, lk_nil, lk_cons, pu_nil, pu_cons, sizeLine_eq, Nat.reduceLT, Nat.reduceLeDiff, Nat.reduceEqDiff, Nat.le_refl, decide_true, decide_false, tPr, dget_us, dput_us, vv_nil, vv_cons, RS.pk_nil, pk_one, RS.pk_cons, inr_eq, tDisp, tPairs, tBoolOwn, rBoolOwn, tBM, rAppend, ty_list, ty_str, rEqOwn, iEnumT, RS.tCallS, tM1, tDc_eq, tLock, tLockE, iKeys, tListEnum, rUpdate, tMkX0, tMkX1, tXfv, gSub, rSetL, List.getD_cons_zero, List.getD_cons_succ, tBreak, tCMethS, ClX.tCVal, tXfa, tIxOwn, tInOwn, tPropG, tMethK, tMethP, tListGen, tDGet2, tDPop2, rNeD0, intA_i, intA_b, tRevL, sFldAug, tPm0, tPm1, tDIn, tDNotIn, tDNewK, RS.tMethS, tForK, tKM, tKC, tLcK, tKM2, tKC2, tMethStar, tKCK2, tLk, tAug, ipI, tDig, tLcX, tKMX, tKCX, tForY, tKCY, tKMY, tYThen, tYPlain, tYYield, tY0, tYIf, GKE.at, tListX]
    intro H1 e1
    rw [e1]; clear e1 H1
    refine mid_one [some (.ref a), some (.str "d"), some (.str (("d" : Str) ++ num D.length ++ ":")), none, none] (fun H1 => H1 = H) ?_ ?_
    · walk_at "sx"
      simp only [Str.empty_append, Str.length_append]
      exact ⟨by omega, by omega, .inr ⟨kvs, h, num_log (by omega), by rw [hl]; omega, by rw [hl]; omega, by rw [hl]; rfl⟩⟩
    intro H1 e1
    rw [e1]; clear e1 H1
    walk_at "sx"
    refine ⟨⟨_, rfl⟩, a, _, h, True.intro, fun od => ⟨od, .inl ⟨kvs, upd_same, ?_⟩⟩⟩
    have hlk : ∀ c o, c ≠ a → H c = some o → upd H a (.frz od (.dK kvs)) c = some o := fun c o n z => by rw [upd_ne n]; exact z
    have hs1 : TrD (upd H a (.frz od (.dK kvs))) kvs D fp := hs.but (p := a) (fun xs z => by rw [h] at z; cases z) hlk na
    refine lc_all kvs.length (fun i => .str (spell ((D[i]?.getD (.none, .none)).1) ++ spell ((D[i]?.getD (.none, .none)).2))) (by rw [sizeLine_eq]; omega) (fun i G lt sm => ⟨sm _ _ upd_same, lt⟩) (fun G sm => ⟨sm _ _ upd_same, Nat.le_refl _⟩) (fun i G x G' K lt sm y k => ?_) (fun L G hL sm eL => ?_)
    · obtain ⟨rfl, k0, v0, hk, rfl⟩ := y
      obtain ⟨x, v, d, f', e1, e2, t, _⟩ := hs1.get lt
      rw [hk] at e1
      cases e1
      refine ⟨rfl, ?_⟩
      simp only [kV, tRet, tRetN, tSeq, C8.tCut, tNext, tAsg, gName, gNil, gCons, gTup, gFld, tIfS, tIf, tAndV, tOrV, tNotV, tAnd, tOr, tNot, tB, tTest, tOp, tUn, tCB, tCons, tNil, tVar, tC, tChain, tDrop, RS.tCallG, RS.tMethG, tMakeG, RS.tCallK, RS.tMakeK, tEqOwn, rI, rI0, rU, add_ii, add_ss, add_rr, mul_ii, mul_si, mul_ri, RS.eq_ii, RS.eq_ss, eq_bb, eq_nn, eq_sn, eq_ns, eq_in, eq_ni, eq_bn, eq_nb, eq_is, eq_si, eq_rr, ne_ii, ne_ss, ne_bb, ne_nn, ne_sn, ne_ns, ne_in, ne_ni, ne_is, ne_si, ne_rr, in_ss, in_r, nin_ss, nin_r, len_s, len_r, RS.ix_s, RS.ix_r, sl_s, sl_r, is_eq, tyN_n, tyN_b, tyN_i, tyN_s, tru_b, tru_i, tru_n, tSl, tPart, tNoPart, tPar, tPar3, tFmtZ, tFmt, tJs, tDGet, sDPut, sFld, tFld, tTup, tLst, tNever, isB,
  L2.start, List.map_cons, List.map_nil, List.length_cons, List.length_nil, Nat.reduceAdd, Nat.reduceSub, Nat.sub_self, List.replicate_zero, List.replicate_succ, List.append_nil, List.cons_append, List.nil_append, List.getElem?_cons_zero, List.getElem?_cons_succ, List.set_cons_zero, List.set_cons_succ, Option.some.injEq, exists_eq_left, exists_eq_left', exists_and_left, V.bl.injEq, V.int.injEq, V.str.injEq, V.ref.injEq, beq_self_eq_true, Bool.true_or, Bool.or_true, Bool.false_or, Bool.or_false, Bool.and_false, Bool.false_and, Bool.true_and, Bool.and_true, Bool.not_true, Bool.not_false, Bool.false_eq_true, if_true, if_false, ite_true, ite_false, true_and, and_true, and_assoc, String.reduceBEq, String.reduceEq, reduceIte, Bool.and_self, reduceCtorEq, false_and, and_false, exists_false, or_false, false_or, exists_const, iEnumS, iStr, iList, iTup, iRng1, iEnum, tFor_eq, tLc_eq, List.cons.injEq, wipe, not_true_eq_false, not_false_eq_true, upd_same, HO.ins.injEq, HO.tup.injEq, HO.lst.injEq, ofS_eq, lk_nil, lk_cons, pu_nil, pu_cons, sizeLine_eq, Nat.reduceLT, Nat.reduceLeDiff, Nat.reduceEqDiff, Nat.le_refl, decide_true, decide_false, tPr, dget_us, dput_us, vv_nil, vv_cons, RS.pk_nil, pk_one, RS.pk_cons, inr_eq, tDisp, tPairs, tBoolOwn, rBoolOwn, tBM, rAppend, ty_list, ty_str, rEqOwn, iEnumT, RS.tCallS, tM1, tDc_eq, tLock, tLockE, iKeys, tListEnum, rUpdate, tMkX0, tMkX1, tXfv, gSub, rSetL, List.getD_cons_zero, List.getD_cons_succ, tBreak, tCMethS, ClX.tCVal, tXfa, tIxOwn, tInOwn, tPropG, tMethK, tMethP, tListGen, tDGet2, tDPop2, rNeD0, intA_i, intA_b, tRevL, sFldAug, tPm0, tPm1, tDIn, tDNotIn, tDNewK, RS.tMethS, tForK, tKM, tKC, tLcK, tKM2, tKC2, tMethStar, tKCK2, tLk, tAug, ipI, tDig, tLcX, tKMX, tKCX, tForY, tKCY, tKMY, tYThen, tYPlain, tYYield, tY0, tYIf, GKE.at, tListX]
      have b1 := depth_kv e2
      have b2 := spellKv_get e2
      have b3 : PyData.depthKv D < n := by simp only [PyData.depth] at hn; omega
      refine ⟨_, rfl, .str x, [], .str x, (okKv_get hok.2 e2).1, by simp only [PyData.depth]; omega, by omega, fun H' s' => ⟨v0, .inl ⟨kvs, .inr x, .inr ⟨od, s' _ _ (sm _ _ upd_same)⟩, rfl, (valV_at nd hk).symm⟩, _, rfl, d, f', t.same (sm.trans s'), (okKv_get hok.2 e2).2, by omega, by omega, fun H'' s'' => ?_⟩⟩
      walk_at "sx"
      have := k H'' (s'.trans s'')
      rw [e2] at this
      exact ⟨by omega, this⟩
    · have e : (List.range kvs.length).map (fun i => V.str (spell ((D[i]?.getD (.none, .none)).1) ++ spell ((D[i]?.getD (.none, .none)).2))) = (D.map fun p => spell p.1 ++ spell p.2).map V.str := by
        rw [hl]
        refine List.ext_getElem (by simp) fun i h1 h2 => ?_
        simp at h1 h2
        simp [h1]
      have La := fresh_lock hL
      refine ⟨sm _ _ upd_same, L, rfl, D.map fun p => spell p.1 ++ spell p.2, .inl (SqL.of (by rw [upd_ne La.1, eL, e])), ?_, ?_⟩
      · have := cat_len (D.map fun p => spell p.1 ++ spell p.2)
        rw [cat_map_kv] at this
        have e0 : (Str.ofString "").length = 0 := by decide +kernel
        rw [e0, ← this]; omega
      · rw [join0, cat_map_kv]
        exact ⟨by simp only [Str.length_append, num]; omega, q _ (unlock h sm)⟩
end
theorem TrL.snoc {H : Hp} {v : V} {d : PyData} {f2 : List Addr} (h : Tr H v d f2) : ∀ {vs : List V} {ds : List PyData} {f1 : List Addr}, TrL H vs ds f1 → TrL H (vs ++ [v]) (ds ++ [d]) (f1 ++ f2)
  | _, _, _, .nil => by simpa using TrL.cons h .nil
  | _, _, _, .cons h1 hs => by simpa [List.append_assoc] using TrL.cons h1 (TrL.snoc h hs)
theorem TrD.snoc {H : Hp} {x : Str} {v : V} {d : PyData} {f2 : List Addr} (h : Tr H v d f2) : ∀ {vs : List (Key × V)} {ds : List (PyData × PyData)} {f1 : List Addr}, TrD H vs ds f1 → TrD H (vs ++ [(.inr x, v)]) (ds ++ [(.str x, d)]) (f1 ++ f2)
  | _, _, _, .nil => by simpa using TrD.cons (x := x) h .nil
  | _, _, _, .cons h1 hs => by simpa [List.append_assoc] using TrD.cons h1 (TrD.snoc h hs)
/-- a new key is put behind -/
theorem putK_new {kvs : List (Key × V)} {k : Key} {v : V} (h : k ∉ kvs.map (·.1)) : putK kvs k v = kvs ++ [(k, v)] := by
  unfold putK
  rw [if_neg]
  intro z
  obtain ⟨p, hp, e⟩ := List.any_eq_true.mp z
  exact h (List.mem_map.mpr ⟨p, hp, by simpa using e⟩)
section
variable {g : Wd} {f : Addr} {fd : FuncData}
theorem sc_text_of : FnScope ["value"] ["value"] (defScope s_text_of) := ⟨rfl, rfl, rfl, by decide +kernel, rfl, by decide +kernel, by decide +kernel⟩
def sp_text : Sp := S1 fun v H Q _ => ∃ d fp, Tr H v d fp ∧ okB d = true ∧ d.depth < 21 ∧ (spell d).length ≤ 1000000 ∧ ∀ H', Same H H' → Q (.str (spell d)) H'
theorem ok_text (F : Df g.K "text_of" "text_of" s_text_of f fd .none) (T : Txt g) (F_check_value : Kn g "check_value" 23 ["value"] [] sp_check) (F_spelled : Kn g "spelled" 22 ["value"] [] (sp_spell 21)) : FnG g 24 f fd ["value"] sp_text := by
  refine F.ok sc_text_of (fun vs H Q E h => S1.len h) (fun cdv A outer s H vs Q E hr h => ?_)
  obtain ⟨v, rfl, d, fp, hv, hok, hn, hz, q⟩ := h
  refine ⟨_, (pss_cons (ps_expr (pe_callG F_check_value (hr.mono (by first | decide | omega)) tkD (pa_cons (pv 0) pa_nil)))
      (pss_one (ps_ret (pe_callG F_spelled (hr.mono (by first | decide | omega)) tkD (pa_cons (pv 0) pa_nil))))), ?_⟩
  walk_at "sx"
  refine ⟨_, rfl, d, fp, hv, hok, hn, fun H1 s1 => ?_⟩
  walk_at "sx"
  exact ⟨_, rfl, d, fp, hv.same s1, hok, hn, hz, fun H2 s2 => q _ (s1.trans s2)⟩
end
def But (p : Addr) (H H' : Hp) : Prop := ∀ c o, c ≠ p → H c = some o → H' c = some o
theorem But.trans {p : Addr} {H H1 H2 : Hp} (a : But p H H1) (b : But p H1 H2) : But p H H2 := fun c o n z => b c o n (a c o n z)
theorem But.of {p : Addr} {H H' : Hp} (s : Same H H') : But p H H' := fun c o _ z => s c o z
theorem mergeK_app : ∀ (more kvs : List (Key × V)), ((kvs ++ more).map (·.1)).Nodup → mergeK kvs more = kvs ++ more
  | [], kvs, _ => by simp [mergeK]
  | p :: more, kvs, nd => by
    have e : mergeK kvs (p :: more) = mergeK (putK kvs p.1 p.2) more := rfl
    have hp : p.1 ∉ kvs.map (·.1) := by
      rw [List.map_append, List.map_cons] at nd
      intro z
      exact (List.nodup_append.mp nd).2.2 _ z _ (List.mem_cons_self ..) rfl
    rw [e, putK_new hp, mergeK_app more _ (by simpa using nd)]
    simp
theorem mergeK_nd {kvs : List (Key × V)} (nd : (kvs.map (·.1)).Nodup) : mergeK [] kvs = kvs := by simpa using mergeK_app kvs [] (by simpa using nd)
theorem paired_imp {α β : Type} {F G : α → β → Prop} : ∀ {xs : List α} {ys : List β}, Paired F xs ys → (∀ x y, F x y → G x y) → Paired G xs ys
  | _, _, .nil, _ => .nil
  | _, _, .cons h hs, k => .cons (k _ _ h) (paired_imp hs k)
theorem paired_snoc {α β : Type} {F : α → β → Prop} : ∀ {xs : List α} {ys : List β} {x : α} {y : β}, Paired F xs ys → F x y → Paired F (xs ++ [x]) (ys ++ [y])
  | _, _, _, _, .nil, h => .cons h .nil
  | _, _, _, _, .cons a as, h => .cons a (paired_snoc as h)
theorem spell_pos (d : PyData) : 1 ≤ (spell d).length := by
  cases d with
  | none => decide +kernel
  | bool b => cases b <;> decide +kernel
  | int i => simp only [spell, Str.length_append, ofString_length]; have : ("i" : String).length = 1 := rfl; omega
  | str i => simp only [spell, Str.length_append, ofString_length]; have : ("s" : String).length = 1 := rfl; omega
  | list i => simp only [spell, Str.length_append, ofString_length]; have : ("l" : String).length = 1 := rfl; omega
  | tuple i => simp only [spell, Str.length_append, ofString_length]; have : ("u" : String).length = 1 := rfl; omega
  | dict i => simp only [spell, Str.length_append, ofString_length]; have : ("d" : String).length = 1 := rfl; omega
theorem spells_pos : ∀ ds : List PyData, ds.length ≤ (spells ds).length
  | [] => Nat.zero_le _
  | d :: ds => by
    have := spell_pos d
    have := spells_pos ds
    simp only [spells, Str.length_append, List.length_cons]; omega
inductive Res (α : Type) where
  | bad (k : Nat)
  | ok (a : α) (k : Nat)
def Res.up {α : Type} (j : Nat) : Res α → Res α
  | .bad k => .bad (j + k)
  | .ok a k => .ok a (j + k)
def Res.map {α β : Type} (f : α → β) : Res α → Res β
  | .bad k => .bad k
  | .ok a k => .ok (f a) k
def isDig (c : Nat) : Bool := decide (48 ≤ c) && decide (c ≤ 57)
/-- digits and a semicolon: z: the first one is a zero, n: so many are read, v: their value -/
def dg (z : Bool) (n v : Nat) : List Nat → Res Nat
  | [] => .bad n
  | c :: r => if c = 59 ∧ n ≠ 0 then .ok v (n + 1)
    else if isDig c = true ∧ (n = 0 ∨ (n < 100 ∧ z = false)) then dg (if n = 0 then decide (c = 48) else z) (n + 1) (10 * v + (c - 48)) r
    else .bad n
/-- a count and a colon -/
def ct (n v : Nat) : List Nat → Res Nat
  | [] => .bad n
  | c :: r => if c = 58 ∧ n ≠ 0 then .ok v (n + 1)
    else if isDig c = true ∧ (n = 0 ∨ v ≠ 0) ∧ 10 * v + (c - 48) ≤ 10000 then ct (n + 1) (10 * v + (c - 48)) r
    else .bad n
def ig (r : List Nat) : Res Int := match r with
  | 45 :: r' => match r' with
    | 48 :: _ => .bad 1
    | _ => ((dg false 0 0 r').map fun v : Nat => (0 - (v : Int))).up 1
  | _ => (dg false 0 0 r).map fun v : Nat => (v : Int)
def rs (r : List Nat) : Res (List Nat) := match ct 0 0 r with
  | .bad k => .bad k
  | .ok n k => if n ≤ (r.drop k).length then .ok ((r.drop k).take n) (k + n) else .bad r.length
def mny {α : Type} (f : List Nat → Res α) : Nat → List Nat → Res (List α)
  | 0, _ => .ok [] 0
  | m + 1, r => match f r with
    | .bad k => .bad k
    | .ok a k => ((mny f m (r.drop k)).map fun as => a :: as).up k
def mnyK (f : List Nat → Res PyData) : Nat → List (List Nat) → List Nat → Res (List (PyData × PyData))
  | 0, _, _ => .ok [] 0
  | m + 1, seen, r => match r with
    | [] => .bad 0
    | c :: r1 => if c ≠ 115 then .bad 0 else match rs r1 with
      | .bad k => .bad (1 + k)
      | .ok key k => if key ∈ seen then .bad k else match f (r1.drop k) with
        | .bad j => .bad (1 + k + j)
        | .ok d j => ((mnyK f m (seen ++ [key]) (r1.drop (k + j))).map fun D => (.str (SX.S key), d) :: D).up (1 + k + j)
/-- a value; n levels are left -/
def rp : Nat → List Nat → Res PyData
  | _, [] => .bad 0
  | n, c :: r => if c = 110 then .ok .none 1 else if c = 116 then .ok (.bool true) 1 else if c = 102 then .ok (.bool false) 1
    else if c = 105 then ((ig r).map PyData.int).up 1
    else if c = 115 then ((rs r).map fun x => .str (SX.S x)).up 1
    else match n with
      | 0 => .bad 0
      | n + 1 => if c = 108 ∨ c = 117 ∨ c = 100 then
          match ct 0 0 r with
          | .bad k => .bad (1 + k)
          | .ok m k => if c = 100 then ((mnyK (rp n) m [] (r.drop k)).map PyData.dict).up (1 + k)
            else ((mny (rp n) m (r.drop k)).map fun ds => if c = 108 then .list ds else .tuple ds).up (1 + k)
        else .bad 0
theorem ct_len : ∀ {r : List Nat} {n v m k : Nat}, ct n v r = .ok m k → k ≤ n + r.length ∧ m ≤ max v 10000
  | [], n, v, m, k, h => by simp [ct] at h
  | c :: r, n, v, m, k, h => by
    simp only [ct] at h
    split at h
    · cases h; simp <;> omega
    · split at h
      · rename_i _ z
        have := ct_len h
        simp; omega
      · cases h
theorem dg_len : ∀ {r : List Nat} {z : Bool} {n v m k : Nat}, dg z n v r = .ok m k → k ≤ n + r.length
  | [], z, n, v, m, k, h => by simp [dg] at h
  | c :: r, z, n, v, m, k, h => by
    simp only [dg] at h
    split at h
    · cases h; simp <;> omega
    · split at h
      · have := dg_len h
        simp; omega
      · cases h
open SX (S S_len S_cat S_tl S_inj)
structure Txt2 (g : Wd) : Prop extends Txt g where
  c_DIGITS : Gv g "DIGITS" (.str "0123456789")
structure RF (g : Wd) (C : Addr) : Prop where
  cls : Cls g.K C
  n1 : NoAttr g.K C "own_text"
  n2 : NoAttr g.K C "at"
/-- a reader of the signs t, at the place i -/
def Rd (C : Addr) (H : Hp) (y dy : Addr) (t : List Nat) (i : Nat) : Prop := H y = some (.ins C dy [("own_text", .str (S t)), ("at", .int (i : Nat))])
/-- InvalidText(i) leaves; nothing but the reader has changed -/
def Bad (CI y : Addr) (H : Hp) (i : Nat) (E : XK) : Prop := ∀ dd H', But y H H' → H' dd = some (.xd [("position", .int (i : Nat))]) → E (.ref CI) (some dd) H'
local macro_rules | `(tactic| walk_at "st") => `(tactic| simp only [S_cat, S_len, rep_one, has_one, S_eq, List.nil_append, List.append_assoc, List.cons_append, List.length_append, List.length_cons, List.length_nil, List.length_replicate])
theorem rd_at {C y dy : Addr} {G : Hp} {t : List Nat} {j k : Nat} {i : Int} (e : i = (k : Nat)) : Rd C (upd G y (.ins C dy (putF "at" (.int i) [("own_text", .str (S t)), ("at", .int (j : Nat))]))) y dy t k ∧ But y G (upd G y (.ins C dy (putF "at" (.int i) [("own_text", .str (S t)), ("at", .int (j : Nat))]))) := by
  subst e
  refine ⟨?_, fun c o n z => by rw [upd_ne n]; exact z⟩
  unfold Rd
  rw [upd_same]
  have h1 : ¬ (Str.ofString "own_text" = Str.ofString "at") := by decide +kernel
  rw [pu_cons, if_neg h1, pu_cons, if_pos rfl]
theorem lk_at {t : List Nat} {j : Nat} : List.lookup (Str.ofString "at") [((Str.ofString "own_text"), V.str (S t)), ((Str.ofString "at"), V.int (j : Nat))] = some (.int (j : Nat)) := by
  have h1 : ¬ (Str.ofString "at" = Str.ofString "own_text") := by decide +kernel
  rw [lk_cons, if_neg h1, lk_cons, if_pos rfl]
theorem lk_no {x : Str} {t : List Nat} {j : Nat} (h1 : ¬ x = Str.ofString "own_text" := by decide +kernel) (h2 : ¬ x = Str.ofString "at" := by decide +kernel) : List.lookup x [((Str.ofString "own_text"), V.str (S t)), ((Str.ofString "at"), V.int (j : Nat))] = none := by
  rw [lk_cons, if_neg h1, lk_cons, if_neg h2]; rfl
theorem dig_in (c : Nat) : decide (c ∈ [48, 49, 50, 51, 52, 53, 54, 55, 56, 57]) = isDig c := by
  rw [Bool.eq_iff_iff]
  simp [isDig]; omega
theorem int_sign {c : Nat} (h : isDig c = true) : PySem.intText? (S [c]) = some ((c - 48 : Nat) : Int) := by
  have h2 : 48 ≤ c ∧ c ≤ 57 := by simpa [isDig] using h
  have : ∀ k : Nat, k < 10 → PySem.intText? (S [48 + k]) = some (k : Int) := by decide +kernel
  have := this (c - 48) (by omega)
  rw [show 48 + (c - 48) = c from by omega] at this
  exact this
def sp_refuse (CI : Addr) : Sp := S2 fun z i H Q E => ∃ y, z = .ref y ∧ ∀ dd, H dd = none → E (.ref CI) (some dd) (upd H dd (.xd [("position", i)]))
theorem rf {g : Wd} {C CI y dy : Addr} {H G : Hp} {t : List Nat} {j : Nat} {P : VK} {E : XK} (R : RF g C) (hG : Rd C G y dy t j) (q : Bad CI y H j E) (b : But y H G) :
    ∃ x x_1, G y = some (HO.ins C x x_1) ∧ List.lookup (Str.ofString "refuse") x_1 = none ∧ ∃ x x_2 x_3, G y = some (HO.ins x x_2 x_3) ∧ Cls g.K x ∧ NoAttr g.K x (Str.ofString "at") ∧ ∃ x, List.lookup (Str.ofString "at") x_3 = some x ∧ sp_refuse CI [V.ref y, x] G P fun c d H' => E c d H' :=
  ⟨_, _, hG, lk_no, _, _, _, hG, R.cls, R.n2, _, lk_at, _, _, rfl, y, rfl, fun dd hdd => q dd _ (b.trans (But.of (same_upd hdd))) upd_same⟩
section
variable {g : Wd} {f : Addr} {fd : FuncData} {C_TextReader CI : Addr}
theorem sc_TextReader_sign : FnScope ["self"] ["self"] (defScope s_TextReader_sign) := ⟨rfl, rfl, rfl, by decide +kernel, rfl, by decide +kernel, by decide +kernel⟩
def sp_sign (C : Addr) : Sp := S1 fun z H Q _ => ∃ y dy t i, z = .ref y ∧ Rd C H y dy t i ∧ t.length ≤ 10000000 ∧ Q (.str (S ((t.drop i).take 1))) H
theorem ok_sign (F : Df g.K "sign" "TextReader.sign" s_TextReader_sign f fd .none) (T : Txt2 g) (R : RF g C_TextReader) : FnG g 1 f fd ["self"] (sp_sign C_TextReader) := by
  refine F.ok sc_TextReader_sign (fun vs H Q E h => S1.len h) (fun cdv A outer s H vs Q E hr h => ?_)
  obtain ⟨_, rfl, y, dy, t, i, rfl, hy, hl, q⟩ := h
  refine ⟨_, (pss_one (ps_ret (pe_slice (o_sl (K := g.K)) (e_fld (K := g.K) (pv 0)) (po_some (e_fld (K := g.K) (pv 0))) (po_some (pe_op (o_add (K := g.K)) (e_fld (K := g.K) (pv 0)) pe_int))))), ?_⟩
  unfold Rd at hy
  walk_at "sx"
  (simp only [hy]; (try walk_at "sx"); (try simp only [R.cls, R.n1, R.n2, true_and]); (try walk_at "lt"); (try walk_at "sx"))
  refine ⟨by rw [S_len]; omega, ?_⟩
  rw [cut_both _ (by omega) (by omega)]
  have e : (i + 1 : Int).toNat - (i : Int).toNat = 1 := by omega
  rw [e]
  simpa using q
theorem sc_TextReader_refuse : FnScope ["self", "index"] ["self", "index"] (defScope s_TextReader_refuse) := ⟨rfl, rfl, rfl, by decide +kernel, rfl, by decide +kernel, by decide +kernel⟩
theorem ok_refuse (F : Df g.K "refuse" "TextReader.refuse" s_TextReader_refuse f fd .none) (T : Txt2 g) (X_InvalidText : XK1 g "InvalidText" CI "position") (RI : PySem.W.subIn g.K (.ref CI) (.type "BaseException") = some true ∧ PySem.W.typeIn g.K (.ref CI) = some (.type "type")) : FnG g 3 f fd ["self", "index"] (sp_refuse CI) := by
  refine F.ok sc_TextReader_refuse (fun vs H Q E h => S2.len h) (fun cdv A outer s H vs Q E hr h => ?_)
  obtain ⟨_, _, rfl, y, rfl, q⟩ := h
  have R_InvalidText := raises_own (X := cx g ["self", "index"] "TextReader.refuse" s_TextReader_refuse f cdv A outer s H E) RI.1 RI.2
  refine ⟨_, (pss_one (ps_raise rfl tkD (pmk_x1 X_InvalidText R_InvalidText (hr.mono (by first | decide | omega)) (pa_cons (pv 1) pa_nil)))), ?_⟩
  walk_at "sx"
  simp only [tPm1]
  walk_at "sx"
  exact q
theorem sc_TextReader_read_count : FnScope ["self", "found", "begin", "sign"] ["self"] (defScope s_TextReader_read_count) := ⟨rfl, rfl, rfl, by decide +kernel, rfl, by decide +kernel, by decide +kernel⟩
def sp_count (C CI : Addr) : Sp := S1 fun z H Q E => ∃ y dy t i, z = .ref y ∧ Rd C H y dy t i ∧ t.length ≤ 10000000 ∧ i ≤ t.length ∧ match ct 0 0 (t.drop i) with
  | .bad k => Bad CI y H (i + k) E
  | .ok n k => ∀ H', But y H H' → Rd C H' y dy t (i + k) → Q (.int (n : Nat)) H'
theorem ok_count (F : Df g.K "read_count" "TextReader.read_count" s_TextReader_read_count f fd .none) (T : Txt2 g) (R : RF g C_TextReader) (CL_TextReader : Cls g.K C_TextReader) (M_TextReader_sign : Km g C_TextReader "sign" 1 ["self"] [] (sp_sign C_TextReader)) (M_TextReader_refuse : Km g C_TextReader "refuse" 3 ["self", "index"] [] (sp_refuse CI)) : FnG g 4 f fd ["self"] (sp_count C_TextReader CI) := by
  refine F.ok sc_TextReader_read_count (fun vs H Q E h => S1.len h) (fun cdv A outer s H vs Q E hr h => ?_)
  obtain ⟨_, rfl, y, dy, t, i, rfl, hy, hl, hi, q⟩ := h
  refine ⟨_, (pss_mid (ps_set (i := 1) sc_TextReader_read_count.nd rfl (Or.inl rfl) pe_int)
      (pss_mid (ps_set (i := 2) sc_TextReader_read_count.nd rfl (Or.inl rfl) (e_fld (K := g.K) (pv 0)))
      (pss_mid (ps_whileW psD (ptw_or (ptw_cmp (o_ne (K := g.K) hr) (pew_named (i := 3) sc_TextReader_read_count.nd rfl (Or.inl rfl) (pew_of (pe_methG0 (pv 0) CL_TextReader M_TextReader_sign (hr.mono (by first | decide | omega)) tkD))) pe_str (nomark _)) (pw_or1 (pt_cmpR (o_eq (K := g.K) hr) (e_fld (K := g.K) (pv 0)) (pv 2) (nomark _)))) (pss_mid (ps_if (PW.pt (pw_or (pt_cmpR (o_eq (K := g.K) hr) (pv 3) pe_str (nomark _)) (pw_or (pt_cmpR (o_nin (K := g.K)) (pv 3) (e_g T.c_DIGITS) (by rfl)) (pw_or1 (PW.pt (pw_and (pt_cmpR op_gt (e_fld (K := g.K) (pv 0)) (pv 2) (nomark _)) (pw_and1 (pt_cmpR (o_eq (K := g.K) hr) (pv 1) pe_int (nomark _))))))))) (pss_one (ps_expr (pe_methG (pv 0) CL_TextReader M_TextReader_refuse (hr.mono (by first | decide | omega)) tkD (pa_cons (e_fld (K := g.K) (pv 0)) pa_nil)))) pss_nil)
      (pss_mid (ps_set (i := 1) sc_TextReader_read_count.nd rfl (Or.inl rfl) (pe_op (o_add (K := g.K)) (pe_op o_mul pe_int (pv 1)) (pe_callTy call_int_str (by rfl) T.b_int bb_int (pa_cons (pv 3) pa_nil))))
      (pss_mid (ps_if (pt_cmpR op_gt (pv 1) (e_g T.c_MOST_ITEMS) (nomark _)) (pss_one (ps_expr (pe_methG (pv 0) CL_TextReader M_TextReader_refuse (hr.mono (by first | decide | omega)) tkD (pa_cons (e_fld (K := g.K) (pv 0)) pa_nil)))) pss_nil)
      (pss_one (s_fld (K := g.K) (pv 0) (pe_op (o_add (K := g.K)) (e_fld (K := g.K) (pv 0)) pe_int)))))) pss_nil)
      (pss_mid (s_fld (K := g.K) (pv 0) (pe_op (o_add (K := g.K)) (e_fld (K := g.K) (pv 0)) pe_int))
      (pss_one (ps_ret (pv 1))))))), ?_⟩
  refine mid_one [some (.ref y), some (.int 0), none, none] (fun H1 => H1 = H) ?_ ?_
  · walk_at "sx"
  intro H1 e1
  rw [e1]; clear e1 H1
  refine mid_one [some (.ref y), some (.int 0), some (.int (i : Nat)), none] (fun H1 => H1 = H) ?_ ?_
  · unfold Rd at hy
    walk_at "sx"
    (simp only [hy]; (try walk_at "sx"); (try simp only [R.cls, R.n1, R.n2, true_and]); (try walk_at "lt"); (try walk_at "sx"))
  intro H1 e1
  rw [e1]; clear e1 H1
  refine mid_at (fun σ G => ∃ n v, σ = [some (.ref y), some (.int (v : Nat)), some (.int (i : Nat)), some (.str (S [58]))] ∧ Rd C_TextReader G y dy t (i + n) ∧ But y H G ∧ ct 0 0 (t.drop i) = .ok v (n + 1) ∧ i + n < t.length) ?_ ?_
  · refine ⟨fun m σ G => ∃ n v sg, σ = [some (.ref y), some (.int (v : Nat)), some (.int (i : Nat)), sg] ∧ Rd C_TextReader G y dy t (i + n) ∧ But y H G ∧ i + n ≤ t.length ∧ v ≤ 10000 ∧ ct n v (t.drop (i + n)) = ct 0 0 (t.drop i) ∧ m = t.length - (i + n), ⟨_, 0, 0, none, rfl, hy, But.of (Same.refl _), by omega, by omega, rfl, rfl⟩, ?_⟩
    rintro m _ G ⟨n, v, sg, rfl, hG, bG, hn, hv, ec, rfl⟩
    rw [← ec] at q
    have hG' := hG
    unfold Rd at hG'
    simp only [wOr, wCmp, wNm, wE, wT, tRet, tRetN, tSeq, C8.tCut, tNext, tAsg, gName, gNil, gCons, gTup, gFld, tIfS, tIf, tAndV, tOrV, tNotV, tAnd, tOr, tNot, tB, tTest, tOp, tUn, tCB, tCons, tNil, tVar, tC, tChain, tDrop, RS.tCallG, RS.tMethG, tMakeG, RS.tCallK, RS.tMakeK, tEqOwn, rI, rI0, rU, add_ii, add_ss, add_rr, mul_ii, mul_si, mul_ri, RS.eq_ii, RS.eq_ss, eq_bb, eq_nn, eq_sn, eq_ns, eq_in, eq_ni, eq_bn, eq_nb, eq_is, eq_si, eq_rr, ne_ii, ne_ss, ne_bb, ne_nn, ne_sn, ne_ns, ne_in, ne_ni, ne_is, ne_si, ne_rr, in_ss, in_r, nin_ss, nin_r, len_s, len_r, RS.ix_s, RS.ix_r, sl_s, sl_r, is_eq, tyN_n, tyN_b, tyN_i, tyN_s, tru_b, tru_i, tru_n, tSl, tPart, tNoPart, tPar, tPar3, tFmtZ, tFmt, tJs, tDGet, sDPut, sFld, tFld, tTup, tLst, tNever, isB,
  L2.start, List.map_cons, List.map_nil, List.length_cons, List.length_nil, Nat.reduceAdd, Nat.reduceSub, Nat.sub_self, List.replicate_zero, List.replicate_succ, List.append_nil, List.cons_append, List.nil_append, List.getElem?_cons_zero, List.getElem?_cons_succ, List.set_cons_zero, List.set_cons_succ, Option.some.injEq, exists_eq_left, exists_eq_left', exists_and_left, V.bl.injEq, V.int.injEq, V.str.injEq, V.ref.injEq, beq_self_eq_true, Bool.true_or, Bool.or_true, Bool.false_or, Bool.or_false, Bool.and_false, Bool.false_and, Bool.true_and, Bool.and_true, Bool.not_true, Bool.not_false, Bool.false_eq_true, if_true, if_false, ite_true, ite_false, true_and, and_true, and_assoc, String.reduceBEq, String.reduceEq, reduceIte, Bool.and_self, reduceCtorEq, false_and, and_false, exists_false, or_false, false_or, exists_const, iEnumS, iStr, iList, iTup, iRng1, iEnum, tFor_eq, tLc_eq, List.cons.injEq, wipe, not_true_eq_false, not_false_eq_true, upd_same, HO.ins.injEq, HO.tup.injEq, HO.lst.injEq, ofS_eq, lk_nil, lk_cons, pu_nil, pu_cons, sizeLine_eq, Nat.reduceLT, Nat.reduceLeDiff, Nat.reduceEqDiff, Nat.le_refl, decide_true, decide_false, tPr, dget_us, dput_us, vv_nil, vv_cons, RS.pk_nil, pk_one, RS.pk_cons, inr_eq, tDisp, tPairs, tBoolOwn, rBoolOwn, tBM, rAppend, ty_list, ty_str, rEqOwn, iEnumT, RS.tCallS, tM1, tDc_eq, tLock, tLockE, iKeys, tListEnum, rUpdate, tMkX0, tMkX1, tXfv, gSub, rSetL, List.getD_cons_zero, List.getD_cons_succ, tBreak, tCMethS, ClX.tCVal, tXfa, tIxOwn, tInOwn, tPropG, tMethK, tMethP, tListGen, tDGet2, tDPop2, rNeD0, intA_i, intA_b, tRevL, sFldAug, tPm0, tPm1, tDIn, tDNotIn, tDNewK, RS.tMethS, tForK, tKM, tKC, tLcK, tKM2, tKC2, tMethStar, tKCK2, tLk, tAug, ipI, tDig, tLcX, tKMX, tKCX, tForY, tKCY, tKMY, tYThen, tYPlain, tYYield, tY0, tYIf, GKE.at, tListX]
    (simp only [hG']; (try walk_at "sx"); (try simp only [R.cls, R.n1, R.n2, true_and]); (try walk_at "lt"); (try walk_at "sx"))
    refine ⟨_, rfl, y, dy, t, i + n, rfl, hG, hl, ?_⟩
    have len := congrArg List.length (List.take_append_drop (i + n) t)
    cases hr : t.drop (i + n) with
    | nil =>
      rw [hr] at q
      simp only [ct] at q
      simp only [List.take_nil, ne_ss, S_eq]
      refine ⟨_, rfl, ?_⟩
      rw [if_pos (by decide)]
      refine ⟨fun _ _ => False, fun _ _ z => z.elim, ?_⟩
      refine mid_at (fun _ _ => False) ?_ (fun _ _ z => z.elim)
      walk_at "sx"
      (simp only [hG']; (try walk_at "sx"); (try simp only [R.cls, R.n1, R.n2, true_and]); (try walk_at "lt"); (try walk_at "sx"))
      exact ⟨_, _, rfl, y, rfl, fun dd hdd => q dd _ (bG.trans (But.of (same_upd hdd))) upd_same⟩
    | cons c r =>
      rw [hr] at q
      rw [hr] at ec
      have hlt : i + n < t.length := by
        have := congrArg List.length hr
        simp at this; omega
      have hdr : t.drop (i + (n + 1)) = r := by
        have : t.drop (i + (n + 1)) = (t.drop (i + n)).drop 1 := by rw [List.drop_drop]; rfl
        rw [this, hr]; rfl
      simp only [List.take_succ_cons, List.take_zero, ne_ss, S_eq]
      refine ⟨_, rfl, ?_⟩
      by_cases c58 : c = 58
      · subst c58
        rw [if_neg (by simp)]
        (simp only [hG']; (try walk_at "sx"); (try simp only [R.cls, R.n1, R.n2, true_and]); (try walk_at "lt"); (try walk_at "sx"))
        by_cases n0 : n = 0
        · subst n0
          have q' : Bad CI y H (i + 0) E := by simpa [ct, isDig] using q
          rw [if_pos (by simp)]
          refine ⟨fun _ _ => False, fun _ _ z => z.elim, ?_⟩
          refine mid_at (fun _ _ => False) ?_ (fun _ _ z => z.elim)
          walk_at "sx"
          walk_at "st"
          rw [if_neg (by simp), if_pos (by decide)]
          exact rf R hG q' bG
        · rw [if_neg (by simp; omega)]
          have e2 : ct n v (58 :: r) = .ok v (n + 1) := by simp [ct, n0]
          exact ⟨n, v, rfl, hG, bG, by rw [← ec, e2], hlt⟩
      · rw [if_pos (by simp [c58])]
        by_cases dgc : isDig c = true ∧ (n = 0 ∨ v ≠ 0)
        · by_cases big : 10 * v + (c - 48) ≤ 10000
          · have e2 : ct n v (c :: r) = ct (n + 1) (10 * v + (c - 48)) r := by simp only [ct]; rw [if_neg (by simp [c58]), if_pos ⟨dgc.1, dgc.2, big⟩]
            refine ⟨fun σ' G' => σ' = [some (.ref y), some (.int ((10 * v + (c - 48) : Nat))), some (.int (i : Nat)), some (.str (S [c]))] ∧ Rd C_TextReader G' y dy t (i + (n + 1)) ∧ But y H G', fun σ' G' z => ⟨t.length - (i + (n + 1)), by omega, n + 1, _, _, z.1, z.2.1, z.2.2, by omega, big, by rw [hdr, ← e2, ec], rfl⟩, ?_⟩
            refine mid_one [some (.ref y), some (.int (v : Nat)), some (.int (i : Nat)), some (.str (S [c]))] (fun G1 => G1 = G) ?_ ?_
            · walk_at "sx"
              walk_at "st"
              rw [if_neg (by simp), if_neg (by rw [dig_in, dgc.1]; decide)]
              refine ⟨_, _, _, hG', R.cls, R.n2, _, lk_at, _, rfl, ?_⟩
              rcases dgc.2 with n0 | v0
              · rw [if_neg (by simp; omega)]
                trivial
              · split
                · rw [if_neg (by simpa using v0)]; trivial
                · trivial
            intro G1 e1
            rw [e1]; clear e1 G1
            refine mid_one [some (.ref y), some (.int ((10 * v + (c - 48) : Nat))), some (.int (i : Nat)), some (.str (S [c]))] (fun G1 => G1 = G) ?_ ?_
            · walk_at "sx"
              exact ⟨.inl ⟨by decide, by decide⟩, _, int_sign dgc.1, by rw [S_len]; simp, by omega⟩
            intro G1 e1
            rw [e1]; clear e1 G1
            refine mid_one [some (.ref y), some (.int ((10 * v + (c - 48) : Nat))), some (.int (i : Nat)), some (.str (S [c]))] (fun G1 => G1 = G) ?_ ?_
            · walk_at "sx"
              rw [if_neg (by simp; omega)]
              trivial
            intro G1 e1
            rw [e1]; clear e1 G1
            walk_at "sx"
            (simp only [hG']; (try walk_at "sx"); (try simp only [R.cls, R.n1, R.n2, true_and]); (try walk_at "lt"); (try walk_at "sx"))
            have e3 := rd_at (C := C_TextReader) (y := y) (dy := dy) (G := G) (t := t) (j := i + n) (k := i + (n + 1)) (i := ((i + n : Nat) : Int) + 1) (by omega)
            exact ⟨_, _, _, hG', R.cls, R.n2, by simp, e3.1, bG.trans e3.2⟩
          · have q' : Bad CI y H (i + n) E := by
              have e2 : ct n v (c :: r) = .bad n := by simp only [ct]; rw [if_neg (by simp [c58]), if_neg (fun z => big z.2.2)]
              rw [e2] at q; exact q
            refine ⟨fun _ _ => False, fun _ _ z => z.elim, ?_⟩
            refine mid_one [some (.ref y), some (.int (v : Nat)), some (.int (i : Nat)), some (.str (S [c]))] (fun G1 => G1 = G) ?_ ?_
            · walk_at "sx"
              walk_at "st"
              rw [if_neg (by simp), if_neg (by rw [dig_in, dgc.1]; decide)]
              refine ⟨_, _, _, hG', R.cls, R.n2, _, lk_at, _, rfl, ?_⟩
              rcases dgc.2 with n0 | v0
              · rw [if_neg (by simp; omega)]
                trivial
              · split
                · rw [if_neg (by simpa using v0)]; trivial
                · trivial
            intro G1 e1
            rw [e1]; clear e1 G1
            refine mid_one [some (.ref y), some (.int ((10 * v + (c - 48) : Nat))), some (.int (i : Nat)), some (.str (S [c]))] (fun G1 => G1 = G) ?_ ?_
            · walk_at "sx"
              exact ⟨.inl ⟨by decide, by decide⟩, _, int_sign dgc.1, by rw [S_len]; simp, by omega⟩
            intro G1 e1
            rw [e1]; clear e1 G1
            refine mid_at (fun _ _ => False) ?_ (fun _ _ z => z.elim)
            walk_at "sx"
            rw [if_pos (by simp; omega)]
            exact rf R hG q' bG
        · have q' : Bad CI y H (i + n) E := by
            have e2 : ct n v (c :: r) = .bad n := by simp only [ct]; rw [if_neg (by simp [c58]), if_neg (fun z => dgc ⟨z.1, z.2.1⟩)]
            rw [e2] at q; exact q
          refine ⟨fun _ _ => False, fun _ _ z => z.elim, ?_⟩
          refine mid_at (fun _ _ => False) ?_ (fun _ _ z => z.elim)
          walk_at "sx"
          walk_at "st"
          rw [if_neg (by simp)]
          by_cases hd : isDig c = true
          · rw [if_neg (by rw [dig_in, hd]; decide)]
            refine ⟨_, _, _, hG', R.cls, R.n2, _, lk_at, _, rfl, ?_⟩
            have n0 : n ≠ 0 := fun z => dgc ⟨hd, .inl z⟩
            have v0 : v = 0 := by
              cases v with
              | zero => rfl
              | succ v => exact absurd ⟨hd, .inr (by omega)⟩ dgc
            rw [if_pos (by simp; omega), if_pos (by simpa using v0)]
            exact rf R hG q' bG
          · rw [if_pos (by rw [dig_in]; simpa using hd)]
            exact rf R hG q' bG
  rintro _ G ⟨n, v, rfl, hG, bG, ec, hn⟩
  rw [ec] at q
  have hG' := hG
  unfold Rd at hG'
  refine mid_one [some (.ref y), some (.int (v : Nat)), some (.int (i : Nat)), some (.str (S [58]))] (fun G1 => But y H G1 ∧ Rd C_TextReader G1 y dy t (i + (n + 1))) ?_ ?_
  · walk_at "sx"
    (simp only [hG']; (try walk_at "sx"); (try simp only [R.cls, R.n1, R.n2, true_and]); (try walk_at "lt"); (try walk_at "sx"))
    have e3 := rd_at (C := C_TextReader) (y := y) (dy := dy) (G := G) (t := t) (j := i + n) (k := i + (n + 1)) (i := ((i + n : Nat) : Int) + 1) (by omega)
    exact ⟨_, _, _, hG', R.cls, R.n2, by simp, bG.trans e3.2, e3.1⟩
  rintro G1 ⟨b1, r1⟩
  walk_at "sx"
  exact q _ b1 r1
end
open NumText
theorem lk_tx {t : List Nat} {j : Nat} : List.lookup (Str.ofString "own_text") [((Str.ofString "own_text"), V.str (S t)), ((Str.ofString "at"), V.int (j : Nat))] = some (.str (S t)) := by
  rw [lk_cons, if_pos rfl]
section
variable {g : Wd} {f : Addr} {fd : FuncData} {C_TextReader CI : Addr}
theorem sc_TextReader_read_digits : FnScope ["self", "closing", "most", "begin", "sign", "is_more"] ["self", "closing", "most"] (defScope s_TextReader_read_digits) := ⟨rfl, rfl, rfl, by decide +kernel, rfl, by decide +kernel, by decide +kernel⟩
def sp_digits (C CI : Addr) : Sp := S3 fun z a b H Q E => ∃ y dy t i, z = .ref y ∧ a = .str (S [59]) ∧ b = .int 100 ∧ Rd C H y dy t i ∧ t.length ≤ 10000000 ∧ i ≤ t.length ∧ match dg false 0 0 (t.drop i) with
  | .bad k => Bad CI y H (i + k) E
  | .ok n k => ∀ H', But y H H' → Rd C H' y dy t (i + k) → Q (.int (n : Nat)) H'
theorem ok_digits (F : Df g.K "read_digits" "TextReader.read_digits" s_TextReader_read_digits f fd .none) (T : Txt2 g) (R : RF g C_TextReader) (CL_TextReader : Cls g.K C_TextReader) (M_TextReader_sign : Km g C_TextReader "sign" 1 ["self"] [] (sp_sign C_TextReader)) (M_TextReader_refuse : Km g C_TextReader "refuse" 3 ["self", "index"] [] (sp_refuse CI)) : FnG g 4 f fd ["self", "closing", "most"] (sp_digits C_TextReader CI) := by
  refine F.ok sc_TextReader_read_digits (fun vs H Q E h => S3.len h) (fun cdv A outer s H vs Q E hr h => ?_)
  obtain ⟨_, _, _, rfl, y, dy, t, i, rfl, rfl, rfl, hy, hl, hi, q⟩ := h
  refine ⟨_, (pss_mid (ps_set (i := 3) sc_TextReader_read_digits.nd rfl (Or.inl rfl) (e_fld (K := g.K) (pv 0)))
      (pss_mid (ps_whileW psD (ptw_or (ptw_cmp (o_ne (K := g.K) hr) (pew_named (i := 4) sc_TextReader_read_digits.nd rfl (Or.inl rfl) (pew_of (pe_methG0 (pv 0) CL_TextReader M_TextReader_sign (hr.mono (by first | decide | omega)) tkD))) (pv 1) (nomark _)) (pw_or1 (pt_cmpR (o_eq (K := g.K) hr) (e_fld (K := g.K) (pv 0)) (pv 3) (nomark _)))) (pss_mid (ps_set (i := 5) sc_TextReader_read_digits.nd rfl (Or.inl rfl) (pe_or (pe_cmpR (o_eq (K := g.K) hr) (e_fld (K := g.K) (pv 0)) (pv 3) (nomark _)) (pe_one (pe_and (pe_cmpR op_lt (pe_op op_sub (e_fld (K := g.K) (pv 0)) (pv 3)) (pv 2) (nomark _)) (pe_one (pe_cmpR (o_ne (K := g.K) hr) (pe_ix (o_ix (K := g.K)) (e_fld (K := g.K) (pv 0)) (pv 3) (fun _ _ => rfl)) pe_str (nomark _)))))))
      (pss_mid (ps_if (PW.pt (pw_or (pt_cmpR (o_eq (K := g.K) hr) (pv 4) pe_str (nomark _)) (pw_or (pt_cmpR (o_nin (K := g.K)) (pv 4) (e_g T.c_DIGITS) (by rfl)) (pw_or1 (pt_not (t_truth (K := g.K) (pv 5))))))) (pss_one (ps_expr (pe_methG (pv 0) CL_TextReader M_TextReader_refuse (hr.mono (by first | decide | omega)) tkD (pa_cons (e_fld (K := g.K) (pv 0)) pa_nil)))) pss_nil)
      (pss_one (s_fld (K := g.K) (pv 0) (pe_op (o_add (K := g.K)) (e_fld (K := g.K) (pv 0)) pe_int))))) pss_nil)
      (pss_mid (s_fld (K := g.K) (pv 0) (pe_op (o_add (K := g.K)) (e_fld (K := g.K) (pv 0)) pe_int))
      (pss_one (ps_ret (pe_callTy call_int_str (by rfl) T.b_int bb_int (pa_cons (pe_slice (o_sl (K := g.K)) (e_fld (K := g.K) (pv 0)) (po_some (pv 3)) (po_some (pe_op op_sub (e_fld (K := g.K) (pv 0)) pe_int))) pa_nil))))))), ?_⟩
  refine mid_one [some (.ref y), some (.str (S [59])), some (.int 100), some (.int (i : Nat)), none, none] (fun H1 => H1 = H) ?_ ?_
  · unfold Rd at hy
    walk_at "sx"
    (simp only [hy]; (try walk_at "sx"); (try simp only [R.cls, R.n1, R.n2, true_and]); (try walk_at "lt"); (try walk_at "sx"))
  intro H1 e1
  rw [e1]; clear e1 H1
  refine mid_at (fun σ G => ∃ n v s5, σ = [some (.ref y), some (.str (S [59])), some (.int 100), some (.int (i : Nat)), some (.str (S [59])), s5] ∧ Rd C_TextReader G y dy t (i + n) ∧ But y H G ∧ dg false 0 0 (t.drop i) = .ok v (n + 1) ∧ i + n < t.length ∧ n ≠ 0 ∧ n ≤ 100 ∧ AllDigits ((t.drop i).take n) ∧ digitsVal ((t.drop i).take n) = v) ?_ ?_
  · refine ⟨fun m σ G => ∃ n v s4 s5, σ = [some (.ref y), some (.str (S [59])), some (.int 100), some (.int (i : Nat)), s4, s5] ∧ Rd C_TextReader G y dy t (i + n) ∧ But y H G ∧ i + n ≤ t.length ∧ n ≤ 100 ∧ AllDigits ((t.drop i).take n) ∧ digitsVal ((t.drop i).take n) = v ∧ dg (decide (n ≠ 0) && decide (t.getD i 0 = 48)) n v (t.drop (i + n)) = dg false 0 0 (t.drop i) ∧ m = t.length - (i + n), ⟨_, 0, 0, none, none, rfl, hy, But.of (Same.refl _), by omega, by omega, by simp [AllDigits], rfl, rfl, rfl⟩, ?_⟩
    rintro m _ G ⟨n, v, s4, s5, rfl, hG, bG, hn, h100, had, hdv, ec, rfl⟩
    rw [← ec] at q
    have hG' := hG
    unfold Rd at hG'
    simp only [wOr, wCmp, wNm, wE, wT, tRet, tRetN, tSeq, C8.tCut, tNext, tAsg, gName, gNil, gCons, gTup, gFld, tIfS, tIf, tAndV, tOrV, tNotV, tAnd, tOr, tNot, tB, tTest, tOp, tUn, tCB, tCons, tNil, tVar, tC, tChain, tDrop, RS.tCallG, RS.tMethG, tMakeG, RS.tCallK, RS.tMakeK, tEqOwn, rI, rI0, rU, add_ii, add_ss, add_rr, mul_ii, mul_si, mul_ri, RS.eq_ii, RS.eq_ss, eq_bb, eq_nn, eq_sn, eq_ns, eq_in, eq_ni, eq_bn, eq_nb, eq_is, eq_si, eq_rr, ne_ii, ne_ss, ne_bb, ne_nn, ne_sn, ne_ns, ne_in, ne_ni, ne_is, ne_si, ne_rr, in_ss, in_r, nin_ss, nin_r, len_s, len_r, RS.ix_s, RS.ix_r, sl_s, sl_r, is_eq, tyN_n, tyN_b, tyN_i, tyN_s, tru_b, tru_i, tru_n, tSl, tPart, tNoPart, tPar, tPar3, tFmtZ, tFmt, tJs, tDGet, sDPut, sFld, tFld, tTup, tLst, tNever, isB,
  L2.start, List.map_cons, List.map_nil, List.length_cons, List.length_nil, Nat.reduceAdd, Nat.reduceSub, Nat.sub_self, List.replicate_zero, List.replicate_succ, List.append_nil, List.cons_append, List.nil_append, List.getElem?_cons_zero, List.getElem?_cons_succ, List.set_cons_zero, List.set_cons_succ, Option.some.injEq, exists_eq_left, exists_eq_left', exists_and_left, V.bl.injEq, V.int.injEq, V.str.injEq, V.ref.injEq, beq_self_eq_true, Bool.true_or, Bool.or_true, Bool.false_or, Bool.or_false, Bool.and_false, Bool.false_and, Bool.true_and, Bool.and_true, Bool.not_true, Bool.not_false, Bool.false_eq_true, if_true, if_false, ite_true, ite_false, true_and, and_true, and_assoc, String.reduceBEq, String.reduceEq, reduceIte, Bool.and_self, reduceCtorEq, false_and, and_false, exists_false, or_false, false_or, exists_const, iEnumS, iStr, iList, iTup, iRng1, iEnum, tFor_eq, tLc_eq, List.cons.injEq, wipe, not_true_eq_false, not_false_eq_true, upd_same, HO.ins.injEq, HO.tup.injEq, HO.lst.injEq, ofS_eq, lk_nil, lk_cons, pu_nil, pu_cons, sizeLine_eq, Nat.reduceLT, Nat.reduceLeDiff, Nat.reduceEqDiff, Nat.le_refl, decide_true, decide_false, tPr, dget_us, dput_us, vv_nil, vv_cons, RS.pk_nil, pk_one, RS.pk_cons, inr_eq, tDisp, tPairs, tBoolOwn, rBoolOwn, tBM, rAppend, ty_list, ty_str, rEqOwn, iEnumT, RS.tCallS, tM1, tDc_eq, tLock, tLockE, iKeys, tListEnum, rUpdate, tMkX0, tMkX1, tXfv, gSub, rSetL, List.getD_cons_zero, List.getD_cons_succ, tBreak, tCMethS, ClX.tCVal, tXfa, tIxOwn, tInOwn, tPropG, tMethK, tMethP, tListGen, tDGet2, tDPop2, rNeD0, intA_i, intA_b, tRevL, sFldAug, tPm0, tPm1, tDIn, tDNotIn, tDNewK, RS.tMethS, tForK, tKM, tKC, tLcK, tKM2, tKC2, tMethStar, tKCK2, tLk, tAug, ipI, tDig, tLcX, tKMX, tKCX, tForY, tKCY, tKMY, tYThen, tYPlain, tYYield, tY0, tYIf, GKE.at, tListX]
    (simp only [hG']; (try walk_at "sx"); (try simp only [R.cls, R.n1, R.n2, true_and]); (try walk_at "lt"); (try walk_at "sx"))
    refine ⟨_, rfl, y, dy, t, i + n, rfl, hG, hl, ?_⟩
    cases hr : t.drop (i + n) with
    | nil =>
      rw [hr] at q
      simp only [dg] at q
      simp only [List.take_nil, ne_ss, S_eq]
      refine ⟨_, rfl, ?_⟩
      rw [if_pos (by decide)]
      refine ⟨fun _ _ => False, fun _ _ z => z.elim, ?_⟩
      refine mid_one [some (.ref y), some (.str (S [59])), some (.int 100), some (.int (i : Nat)), some (.str (S [])), some (.bl (decide (n = 0 ∨ (n < 100 ∧ ¬ t.getD i 0 = 48))))] (fun G1 => G1 = G) ?_ ?_
      · walk_at "sx"
        (simp only [hG']; (try walk_at "sx"); (try simp only [R.cls, R.n1, R.n2, true_and]); (try walk_at "lt"); (try walk_at "sx"))
        by_cases n0 : n = 0
        · rw [if_pos (by simp [n0])]
          simp [n0]
        · rw [if_neg (by simp; omega)]
          refine ⟨_, _, _, hG', R.cls, R.n2, _, lk_at, _, rfl, ?_⟩
          by_cases n1 : n < 100
          · rw [if_pos (by simp; omega)]
            refine ⟨_, _, _, hG', R.cls, R.n1, _, lk_tx, ?_⟩
            rw [RS.ix_s]
            refine ⟨by rw [S_len, sizeLine_eq]; omega, _, at_lt (by omega), ?_⟩
            show rNeU g.K (.str (S [t.getD i 0])) (.str (S [48])) G _
            simp only [ne_ss, S_eq]
            simp [n0, n1]
          · rw [if_neg (by simp; omega)]
            simp [n0, n1]
      intro G1 e1
      rw [e1]; clear e1 G1
      refine mid_at (fun _ _ => False) ?_ (fun _ _ z => z.elim)
      walk_at "sx"
      try walk_at "st"
      exact rf R hG q bG
    | cons c r =>
      rw [hr] at q
      rw [hr] at ec
      have hlt : i + n < t.length := by
        have := congrArg List.length hr
        simp at this; omega
      have hdr : t.drop (i + (n + 1)) = r := by
        have : t.drop (i + (n + 1)) = (t.drop (i + n)).drop 1 := by rw [List.drop_drop]; rfl
        rw [this, hr]; rfl
      have htk : (t.drop i).take (n + 1) = (t.drop i).take n ++ [c] := by
        rw [List.take_add_one, List.getElem?_drop]
        have : t[i + n]? = some c := by
          have := congrArg List.head? hr
          rw [List.head?_drop] at this
          exact this
        rw [this]; rfl
      simp only [List.take_succ_cons, List.take_zero, ne_ss, S_eq]
      refine ⟨_, rfl, ?_⟩
      by_cases c59 : c = 59
      · subst c59
        rw [if_neg (by simp)]
        (simp only [hG']; (try walk_at "sx"); (try simp only [R.cls, R.n1, R.n2, true_and]); (try walk_at "lt"); (try walk_at "sx"))
        by_cases n0 : n = 0
        · subst n0
          have q' : Bad CI y H (i + 0) E := by simpa [dg, isDig] using q
          rw [if_pos (by simp)]
          refine ⟨fun _ _ => False, fun _ _ z => z.elim, ?_⟩
          refine mid_at (fun σ G1 => (∃ b, σ = [some (.ref y), some (.str (S [59])), some (.int 100), some (.int (i : Nat)), some (.str (S [59])), some (.bl b)]) ∧ G1 = G) ?_ ?_
          · walk_at "sx"
            (simp only [hG']; (try walk_at "sx"); (try simp only [R.cls, R.n1, R.n2, true_and]); (try walk_at "lt"); (try walk_at "sx"))
            rw [if_pos (by simp)]
            simp
          rintro _ G1 ⟨⟨b, rfl⟩, rfl⟩
          refine mid_at (fun _ _ => False) ?_ (fun _ _ z => z.elim)
          walk_at "sx"
          walk_at "st"
          rw [if_neg (by simp), if_pos (by decide)]
          exact rf R hG q' bG
        · rw [if_neg (by simp; omega)]
          have e2 : dg (decide (n ≠ 0) && decide (t.getD i 0 = 48)) n v (59 :: r) = .ok v (n + 1) := by simp [dg, n0]
          exact ⟨n, hG, bG, v, by rw [← ec, e2], hlt, n0, h100, had, hdv⟩
      · rw [if_pos (by simp [c59])]
        have zz : (n = 0 ∨ (n < 100 ∧ (decide (n ≠ 0) && decide (t.getD i 0 = 48)) = false)) ↔ (n = 0 ∨ (n < 100 ∧ ¬ t.getD i 0 = 48)) := by
          by_cases n0 : n = 0
          · simp [n0]
          · simp [n0]
        by_cases dgc : isDig c = true ∧ (n = 0 ∨ (n < 100 ∧ ¬ t.getD i 0 = 48))
        · have e2 : dg (decide (n ≠ 0) && decide (t.getD i 0 = 48)) n v (c :: r) = dg (decide (n + 1 ≠ 0) && decide (t.getD i 0 = 48)) (n + 1) (10 * v + (c - 48)) r := by
            simp only [dg]
            rw [if_neg (by simp [c59]), if_pos ⟨dgc.1, zz.mpr dgc.2⟩]
            congr 1
            by_cases n0 : n = 0
            · subst n0
              have : t.getD i 0 = c := by
                have := congrArg List.head? hr
                rw [List.head?_drop] at this
                simp at this
                rw [List.getD_eq_getElem?_getD, this]; rfl
              rw [this]; simp
            · simp [n0]
          refine ⟨fun σ' G' => σ' = [some (.ref y), some (.str (S [59])), some (.int 100), some (.int (i : Nat)), some (.str (S [c])), some (.bl true)] ∧ Rd C_TextReader G' y dy t (i + (n + 1)) ∧ But y H G', fun σ' G' z => ⟨t.length - (i + (n + 1)), by omega, n + 1, 10 * v + (c - 48), _, _, z.1, z.2.1, z.2.2, by omega, by omega, ?_, ?_, by rw [hdr, ← e2, ec], rfl⟩, ?_⟩
          · rw [htk]
            intro c' hc'
            rcases List.mem_append.mp hc' with h | h
            · exact had c' h
            · rw [List.mem_singleton.mp h]; simpa [isDig] using dgc.1
          · rw [htk, ← hdv]
            unfold digitsVal
            rw [List.foldl_append]
            simp; omega
          refine mid_one [some (.ref y), some (.str (S [59])), some (.int 100), some (.int (i : Nat)), some (.str (S [c])), some (.bl (decide (n = 0 ∨ (n < 100 ∧ ¬ t.getD i 0 = 48))))] (fun G1 => G1 = G) ?_ ?_
          · walk_at "sx"
            (simp only [hG']; (try walk_at "sx"); (try simp only [R.cls, R.n1, R.n2, true_and]); (try walk_at "lt"); (try walk_at "sx"))
            by_cases n0 : n = 0
            · rw [if_pos (by simp [n0])]
              simp [n0]
            · rw [if_neg (by simp; omega)]
              refine ⟨_, _, _, hG', R.cls, R.n2, _, lk_at, _, rfl, ?_⟩
              by_cases n1 : n < 100
              · rw [if_pos (by simp; omega)]
                refine ⟨_, _, _, hG', R.cls, R.n1, _, lk_tx, ?_⟩
                rw [RS.ix_s]
                refine ⟨by rw [S_len, sizeLine_eq]; omega, _, at_lt (by omega), ?_⟩
                show rNeU g.K (.str (S [t.getD i 0])) (.str (S [48])) G _
                simp only [ne_ss, S_eq]
                simp [n0, n1]
              · rw [if_neg (by simp; omega)]
                simp [n0, n1]
          intro G1 e1
          rw [e1]; clear e1 G1
          refine mid_one [some (.ref y), some (.str (S [59])), some (.int 100), some (.int (i : Nat)), some (.str (S [c])), some (.bl (decide (n = 0 ∨ (n < 100 ∧ ¬ t.getD i 0 = 48))))] (fun G1 => G1 = G) ?_ ?_
          · walk_at "sx"
            walk_at "st"
            rw [if_neg (by simp), if_neg (by rw [dig_in, dgc.1]; decide), if_neg (by rw [decide_eq_true dgc.2]; decide)]
            trivial
          intro G1 e1
          rw [e1]; clear e1 G1
          walk_at "sx"
          (simp only [hG']; (try walk_at "sx"); (try simp only [R.cls, R.n1, R.n2, true_and]); (try walk_at "lt"); (try walk_at "sx"))
          have e3 := rd_at (C := C_TextReader) (y := y) (dy := dy) (G := G) (t := t) (j := i + n) (k := i + (n + 1)) (i := ((i + n : Nat) : Int) + 1) (by omega)
          exact ⟨_, _, _, hG', R.cls, R.n2, by simp, decide_eq_true dgc.2, e3.1, bG.trans e3.2⟩
        · have q' : Bad CI y H (i + n) E := by
            have e2 : dg (decide (n ≠ 0) && decide (t.getD i 0 = 48)) n v (c :: r) = .bad n := by simp only [dg]; rw [if_neg (by simp [c59]), if_neg (fun z => dgc ⟨z.1, zz.mp z.2⟩)]
            rw [e2] at q; exact q
          refine ⟨fun _ _ => False, fun _ _ z => z.elim, ?_⟩
          refine mid_one [some (.ref y), some (.str (S [59])), some (.int 100), some (.int (i : Nat)), some (.str (S [c])), some (.bl (decide (n = 0 ∨ (n < 100 ∧ ¬ t.getD i 0 = 48))))] (fun G1 => G1 = G) ?_ ?_
          · walk_at "sx"
            (simp only [hG']; (try walk_at "sx"); (try simp only [R.cls, R.n1, R.n2, true_and]); (try walk_at "lt"); (try walk_at "sx"))
            by_cases n0 : n = 0
            · rw [if_pos (by simp [n0])]
              simp [n0]
            · rw [if_neg (by simp; omega)]
              refine ⟨_, _, _, hG', R.cls, R.n2, _, lk_at, _, rfl, ?_⟩
              by_cases n1 : n < 100
              · rw [if_pos (by simp; omega)]
                refine ⟨_, _, _, hG', R.cls, R.n1, _, lk_tx, ?_⟩
                rw [RS.ix_s]
                refine ⟨by rw [S_len, sizeLine_eq]; omega, _, at_lt (by omega), ?_⟩
                show rNeU g.K (.str (S [t.getD i 0])) (.str (S [48])) G _
                simp only [ne_ss, S_eq]
                simp [n0, n1]
              · rw [if_neg (by simp; omega)]
                simp [n0, n1]
          intro G1 e1
          rw [e1]; clear e1 G1
          refine mid_at (fun _ _ => False) ?_ (fun _ _ z => z.elim)
          walk_at "sx"
          walk_at "st"
          rw [if_neg (by simp)]
          by_cases hd : isDig c = true
          · rw [if_neg (by rw [dig_in, hd]; decide), if_pos (by rw [decide_eq_false (fun z => dgc ⟨hd, z⟩)]; rfl)]
            exact rf R hG q' bG
          · rw [if_pos (by rw [dig_in]; simpa using hd)]
            exact rf R hG q' bG
  rintro _ G ⟨n, v, s5, rfl, hG, bG, ec, hn, n0, h100, had, hdv⟩
  rw [ec] at q
  have hG' := hG
  unfold Rd at hG'
  refine mid_one [some (.ref y), some (.str (S [59])), some (.int 100), some (.int (i : Nat)), some (.str (S [59])), s5] (fun G1 => But y H G1 ∧ Rd C_TextReader G1 y dy t (i + (n + 1))) ?_ ?_
  · walk_at "sx"
    (simp only [hG']; (try walk_at "sx"); (try simp only [R.cls, R.n1, R.n2, true_and]); (try walk_at "lt"); (try walk_at "sx"))
    have e3 := rd_at (C := C_TextReader) (y := y) (dy := dy) (G := G) (t := t) (j := i + n) (k := i + (n + 1)) (i := ((i + n : Nat) : Int) + 1) (by omega)
    exact ⟨_, _, _, hG', R.cls, R.n2, by simp, bG.trans e3.2, e3.1⟩
  rintro G1 ⟨b1, r1⟩
  have r1' := r1
  unfold Rd at r1'
  walk_at "sx"
  (simp only [r1']; (try walk_at "sx"); (try simp only [R.cls, R.n1, R.n2, true_and]); (try walk_at "lt"); (try walk_at "sx"))
  rw [cut_both _ (by omega) (by omega)]
  have e4 : (((i + (n + 1) : Nat) : Int) - 1).toNat - (i : Int).toNat = n := by omega
  rw [e4]
  have e5 : ((i : Nat) : Int).toNat = i := by omega
  rw [e5]
  have nn : (t.drop i).take n ≠ [] := fun z => by
    have := congrArg List.length z
    simp at this; omega
  refine ⟨by rw [S_len]; omega, _, intText_digits (x := S ((t.drop i).take n)) had nn (by rw [S_len, List.length_take]; omega), by rw [S_len, List.length_take]; omega, ?_⟩
  have e6 : digitsVal (S ((t.drop i).take n)).cps.toList = v := hdv
  rw [e6]
  exact q _ b1 r1
end
section
variable {g : Wd} {f : Addr} {fd : FuncData} {C_TextReader CI : Addr}
theorem sc_TextReader_read_integer : FnScope ["self"] ["self"] (defScope s_TextReader_read_integer) := ⟨rfl, rfl, rfl, by decide +kernel, rfl, by decide +kernel, by decide +kernel⟩
def sp_integer (C CI : Addr) : Sp := S1 fun z H Q E => ∃ y dy t i, z = .ref y ∧ Rd C H y dy t i ∧ t.length ≤ 10000000 ∧ i ≤ t.length ∧ match ig (t.drop i) with
  | .bad k => Bad CI y H (i + k) E
  | .ok n k => ∀ H', But y H H' → Rd C H' y dy t (i + k) → Q (.int n) H'
theorem ok_integer (F : Df g.K "read_integer" "TextReader.read_integer" s_TextReader_read_integer f fd .none) (T : Txt2 g) (R : RF g C_TextReader) (CL_TextReader : Cls g.K C_TextReader) (M_TextReader_sign : Km g C_TextReader "sign" 1 ["self"] [] (sp_sign C_TextReader)) (M_TextReader_refuse : Km g C_TextReader "refuse" 3 ["self", "index"] [] (sp_refuse CI)) (M_TextReader_read_digits : Km g C_TextReader "read_digits" 4 ["self", "closing", "most"] [] (sp_digits C_TextReader CI)) : FnG g 5 f fd ["self"] (sp_integer C_TextReader CI) := by
  refine F.ok sc_TextReader_read_integer (fun vs H Q E h => S1.len h) (fun cdv A outer s H vs Q E hr h => ?_)
  obtain ⟨_, rfl, y, dy, t, i, rfl, hy, hl, hi, q⟩ := h
  refine ⟨_, (pss_mid (ps_if (pt_cmpR (o_ne (K := g.K) hr) (pe_methG0 (pv 0) CL_TextReader M_TextReader_sign (hr.mono (by first | decide | omega)) tkD) pe_str (nomark _)) (pss_one (ps_ret (pe_methG (pv 0) CL_TextReader M_TextReader_read_digits (hr.mono (by first | decide | omega)) tkD (pa_cons pe_str (pa_cons (e_g T.c_MOST_DIGITS) pa_nil))))) pss_nil)
      (pss_mid (s_fld (K := g.K) (pv 0) (pe_op (o_add (K := g.K)) (e_fld (K := g.K) (pv 0)) pe_int))
      (pss_mid (ps_if (pt_cmpR (o_eq (K := g.K) hr) (pe_methG0 (pv 0) CL_TextReader M_TextReader_sign (hr.mono (by first | decide | omega)) tkD) pe_str (nomark _)) (pss_one (ps_expr (pe_methG (pv 0) CL_TextReader M_TextReader_refuse (hr.mono (by first | decide | omega)) tkD (pa_cons (e_fld (K := g.K) (pv 0)) pa_nil)))) pss_nil)
      (pss_one (ps_ret (pe_op op_sub pe_int (pe_methG (pv 0) CL_TextReader M_TextReader_read_digits (hr.mono (by first | decide | omega)) tkD (pa_cons pe_str (pa_cons (e_g T.c_MOST_DIGITS) pa_nil))))))))), ?_⟩
  have hy' := hy
  unfold Rd at hy'
  by_cases mi : (t.drop i).take 1 = [45]
  · obtain ⟨r, hr⟩ : ∃ r, t.drop i = 45 :: r := by
      cases hh : t.drop i with
      | nil => rw [hh] at mi; simp at mi
      | cons c r => rw [hh] at mi; simp at mi; exact ⟨r, by rw [mi]⟩
    have hdr : t.drop (i + 1) = r := by
      have : t.drop (i + 1) = (t.drop i).drop 1 := by rw [List.drop_drop]
      rw [this, hr]; rfl
    have hlt : i + 1 ≤ t.length := by
      have := congrArg List.length hr
      simp at this; omega
    refine mid_one [some (.ref y)] (fun H1 => H1 = H) ?_ ?_
    · walk_at "sx"
      (simp only [hy']; (try walk_at "sx"); (try simp only [R.cls, R.n1, R.n2, true_and]); (try walk_at "lt"); (try walk_at "sx"))
      refine ⟨_, rfl, y, dy, t, i, rfl, hy, hl, ?_⟩
      rw [mi]
      simp only [ne_ss]
      refine ⟨_, rfl, ?_⟩
      rw [if_neg (by simp)]
      trivial
    intro H1 e1
    rw [e1]; clear e1 H1
    refine mid_one [some (.ref y)] (fun G => But y H G ∧ Rd C_TextReader G y dy t (i + 1)) ?_ ?_
    · walk_at "sx"
      (simp only [hy']; (try walk_at "sx"); (try simp only [R.cls, R.n1, R.n2, true_and]); (try walk_at "lt"); (try walk_at "sx"))
      have e3 := rd_at (C := C_TextReader) (y := y) (dy := dy) (G := H) (t := t) (j := i) (k := i + 1) (i := (i : Int) + 1) (by omega)
      exact ⟨_, _, _, hy', R.cls, R.n2, by simp, e3.2, e3.1⟩
    rintro G ⟨bG, hG⟩
    have hG' := hG
    unfold Rd at hG'
    by_cases ze : r.take 1 = [48]
    · obtain ⟨r2, hr2⟩ : ∃ r2, r = 48 :: r2 := by
        cases r with
        | nil => simp at ze
        | cons c r => simp at ze; exact ⟨r, by rw [ze]⟩
      have q' : Bad CI y H (i + 1) E := by rw [hr, hr2] at q; simpa [ig] using q
      refine mid_at (fun _ _ => False) ?_ (fun _ _ z => z.elim)
      walk_at "sx"
      (simp only [hG']; (try walk_at "sx"); (try simp only [R.cls, R.n1, R.n2, true_and]); (try walk_at "lt"); (try walk_at "sx"))
      refine ⟨_, rfl, y, dy, t, i + 1, rfl, hG, hl, ?_⟩
      rw [hdr, ze]
      simp only [RS.eq_ss]
      refine ⟨_, rfl, ?_⟩
      rw [if_pos (by simp)]
      exact rf R hG q' bG
    · have eig : ig (t.drop i) = ((dg false 0 0 r).map fun v : Nat => (0 - (v : Int))).up 1 := by
        rw [hr]
        unfold ig
        cases r with
        | nil => rfl
        | cons c r => 
          have : c ≠ 48 := fun e => ze (by simp [e])
          simp [this]
      refine mid_one [some (.ref y)] (fun G1 => G1 = G) ?_ ?_
      · walk_at "sx"
        (simp only [hG']; (try walk_at "sx"); (try simp only [R.cls, R.n1, R.n2, true_and]); (try walk_at "lt"); (try walk_at "sx"))
        refine ⟨_, rfl, y, dy, t, i + 1, rfl, hG, hl, ?_⟩
        rw [hdr]
        simp only [RS.eq_ss, S_eq]
        refine ⟨_, rfl, ?_⟩
        rw [if_neg (by simpa using ze)]
        trivial
      intro G1 e1
      rw [e1]; clear e1 G1
      walk_at "sx"
      (simp only [hG']; (try walk_at "sx"); (try simp only [R.cls, R.n1, R.n2, true_and]); (try walk_at "lt"); (try walk_at "sx"))
      refine ⟨_, _, _, rfl, y, dy, t, i + 1, rfl, rfl, rfl, hG, hl, hlt, ?_⟩
      rw [eig] at q
      rw [hdr]
      cases hd : dg false 0 0 r with
      | bad k =>
        rw [hd] at q
        simp only [Res.map, Res.up] at q
        rw [← Nat.add_assoc] at q
        exact fun dd H' b h => q dd H' (bG.trans b) h
      | ok n k =>
        rw [hd] at q
        simp only [Res.map, Res.up] at q
        rw [← Nat.add_assoc] at q
        exact fun H' b h => ⟨_, rfl, q H' (bG.trans b) h⟩
  · have eig : ig (t.drop i) = (dg false 0 0 (t.drop i)).map fun v : Nat => (v : Int) := by
      cases hh : t.drop i with
      | nil => rfl
      | cons c r =>
        have : c ≠ 45 := fun e => mi (by rw [hh]; simp [e])
        unfold ig
        simp [this]
    refine mid_at (fun _ _ => False) ?_ (fun _ _ z => z.elim)
    walk_at "sx"
    (simp only [hy']; (try walk_at "sx"); (try simp only [R.cls, R.n1, R.n2, true_and]); (try walk_at "lt"); (try walk_at "sx"))
    refine ⟨_, rfl, y, dy, t, i, rfl, hy, hl, ?_⟩
    simp only [ne_ss, S_eq]
    refine ⟨_, rfl, ?_⟩
    rw [if_pos (by simpa using mi)]
    (simp only [hy']; (try walk_at "sx"); (try simp only [R.cls, R.n1, R.n2, true_and]); (try walk_at "lt"); (try walk_at "sx"))
    refine ⟨_, _, _, rfl, y, dy, t, i, rfl, rfl, rfl, hy, hl, hi, ?_⟩
    rw [eig] at q
    cases hd : dg false 0 0 (t.drop i) with
    | bad k => rw [hd] at q; exact q
    | ok n k => rw [hd] at q; exact q
theorem sc_TextReader_read_string : FnScope ["self", "size", "found"] ["self"] (defScope s_TextReader_read_string) := ⟨rfl, rfl, rfl, by decide +kernel, rfl, by decide +kernel, by decide +kernel⟩
def sp_string (C CI : Addr) : Sp := S1 fun z H Q E => ∃ y dy t i, z = .ref y ∧ Rd C H y dy t i ∧ t.length ≤ 10000000 ∧ i ≤ t.length ∧ match rs (t.drop i) with
  | .bad k => Bad CI y H (i + k) E
  | .ok x k => ∀ H', But y H H' → Rd C H' y dy t (i + k) → Q (.str (S x)) H'
theorem ok_string (F : Df g.K "read_string" "TextReader.read_string" s_TextReader_read_string f fd .none) (T : Txt2 g) (R : RF g C_TextReader) (CL_TextReader : Cls g.K C_TextReader) (M_TextReader_refuse : Km g C_TextReader "refuse" 3 ["self", "index"] [] (sp_refuse CI)) (M_TextReader_read_count : Km g C_TextReader "read_count" 4 ["self"] [] (sp_count C_TextReader CI)) : FnG g 5 f fd ["self"] (sp_string C_TextReader CI) := by
  refine F.ok sc_TextReader_read_string (fun vs H Q E h => S1.len h) (fun cdv A outer s H vs Q E hr h => ?_)
  obtain ⟨_, rfl, y, dy, t, i, rfl, hy, hl, hi, q⟩ := h
  refine ⟨_, (pss_mid (ps_set (i := 1) sc_TextReader_read_string.nd rfl (Or.inl rfl) (pe_methG0 (pv 0) CL_TextReader M_TextReader_read_count (hr.mono (by first | decide | omega)) tkD))
      (pss_mid (ps_if (pt_cmpR op_gt (pe_op (o_add (K := g.K)) (e_fld (K := g.K) (pv 0)) (pv 1)) (pe_callB (c_len (K := g.K)) (by rfl) T.b_len bb_len (pa_cons (e_fld (K := g.K) (pv 0)) pa_nil)) (nomark _)) (pss_one (ps_expr (pe_methG (pv 0) CL_TextReader M_TextReader_refuse (hr.mono (by first | decide | omega)) tkD (pa_cons (pe_callB (c_len (K := g.K)) (by rfl) T.b_len bb_len (pa_cons (e_fld (K := g.K) (pv 0)) pa_nil)) pa_nil)))) pss_nil)
      (pss_mid (ps_set (i := 2) sc_TextReader_read_string.nd rfl (Or.inl rfl) (pe_slice (o_sl (K := g.K)) (e_fld (K := g.K) (pv 0)) (po_some (e_fld (K := g.K) (pv 0))) (po_some (pe_op (o_add (K := g.K)) (e_fld (K := g.K) (pv 0)) (pv 1)))))
      (pss_mid (s_fld (K := g.K) (pv 0) (pe_op (o_add (K := g.K)) (e_fld (K := g.K) (pv 0)) (pv 1)))
      (pss_one (ps_ret (pv 2))))))), ?_⟩
  have hy' := hy
  unfold Rd at hy'
  unfold rs at q
  refine mid_at (fun σ G => ∃ n k, ct 0 0 (t.drop i) = .ok n k ∧ σ = [some (.ref y), some (.int (n : Nat)), none] ∧ But y H G ∧ Rd C_TextReader G y dy t (i + k)) ?_ ?_
  · walk_at "sx"
    (simp only [hy']; (try walk_at "sx"); (try simp only [R.cls, R.n1, R.n2, true_and]); (try walk_at "lt"); (try walk_at "sx"))
    refine ⟨_, rfl, y, dy, t, i, rfl, hy, hl, hi, ?_⟩
    cases hc : ct 0 0 (t.drop i) with
    | bad k => rw [hc] at q; exact q
    | ok n k => exact fun H' b h => ⟨n, k, rfl, rfl, b, h⟩
  rintro _ G ⟨n, k, hc, rfl, bG, hG⟩
  rw [hc] at q
  have hG' := hG
  unfold Rd at hG'
  simp only at q
  by_cases fit : n ≤ ((t.drop i).drop k).length
  · rw [if_pos fit] at q
    have f2 : i + k + n ≤ t.length := by
      rw [List.drop_drop, List.length_drop] at fit
      have := (ct_len hc).1
      rw [List.length_drop] at this
      omega
    refine mid_one [some (.ref y), some (.int (n : Nat)), none] (fun G1 => G1 = G) ?_ ?_
    · walk_at "sx"
      (simp only [hG']; (try walk_at "sx"); (try simp only [R.cls, R.n1, R.n2, true_and]); (try walk_at "lt"); (try walk_at "sx"))
      refine ⟨_, _, _, hG', R.cls, R.n1, _, lk_tx, ?_⟩
      simp only [len_s, S_len]
      refine ⟨by rw [sizeLine_eq]; omega, _, rfl, ?_⟩
      rw [if_neg (by simp; omega)]
      trivial
    intro G1 e1
    rw [e1]; clear e1 G1
    refine mid_one [some (.ref y), some (.int (n : Nat)), some (.str (S (((t.drop i).drop k).take n)))] (fun G1 => G1 = G) ?_ ?_
    · walk_at "sx"
      (simp only [hG']; (try walk_at "sx"); (try simp only [R.cls, R.n1, R.n2, true_and]); (try walk_at "lt"); (try walk_at "sx"))
      refine ⟨by rw [S_len]; omega, ?_⟩
      rw [cut_both _ (by omega) (by omega), List.drop_drop]
      congr 2
      · omega
    intro G1 e1
    rw [e1]; clear e1 G1
    refine mid_one [some (.ref y), some (.int (n : Nat)), some (.str (S (((t.drop i).drop k).take n)))] (fun G1 => But y H G1 ∧ Rd C_TextReader G1 y dy t (i + (k + n))) ?_ ?_
    · walk_at "sx"
      (simp only [hG']; (try walk_at "sx"); (try simp only [R.cls, R.n1, R.n2, true_and]); (try walk_at "lt"); (try walk_at "sx"))
      have e3 := rd_at (C := C_TextReader) (y := y) (dy := dy) (G := G) (t := t) (j := i + k) (k := i + (k + n)) (i := ((i + k : Nat) : Int) + (n : Nat)) (by omega)
      exact ⟨_, _, _, hG', R.cls, R.n2, by simp, bG.trans e3.2, e3.1⟩
    rintro G1 ⟨b1, r1⟩
    walk_at "sx"
    exact q _ b1 r1
  · rw [if_neg fit] at q
    have q' : Bad CI y H t.length E := by
      have : i + (t.drop i).length = t.length := by rw [List.length_drop]; omega
      simp only at q
      rw [this] at q; exact q
    refine mid_at (fun _ _ => False) ?_ (fun _ _ z => z.elim)
    walk_at "sx"
    (simp only [hG']; (try walk_at "sx"); (try simp only [R.cls, R.n1, R.n2, true_and]); (try walk_at "lt"); (try walk_at "sx"))
    refine ⟨_, _, _, hG', R.cls, R.n1, _, lk_tx, ?_⟩
    simp only [len_s, S_len]
    refine ⟨by rw [sizeLine_eq]; omega, _, rfl, ?_⟩
    rw [List.drop_drop, List.length_drop] at fit
    rw [if_pos (by simp; omega)]
    refine ⟨_, _, hG', lk_no, _, _, _, hG', R.cls, R.n1, _, lk_tx, ?_⟩
    simp only [len_s, S_len]
    exact ⟨by rw [sizeLine_eq]; omega, _, _, rfl, y, rfl, fun dd hdd => q' dd _ (bG.trans (But.of (same_upd hdd))) upd_same⟩
end
theorem up_map {α : Type} (x : Res (List α)) (a : α) (ds : List α) (k kk : Nat) : (((x.map fun as => a :: as).up k).map fun as => ds ++ as).up kk = (x.map fun as => (ds ++ [a]) ++ as).up (kk + k) := by
  cases x with
  | bad j => simp only [Res.map, Res.up]; congr 1; omega
  | ok b j => simp only [Res.map, Res.up, List.append_assoc, List.cons_append, List.nil_append]; congr 1; omega
theorem mny_len {α : Type} {f : List Nat → Res α} (hf : ∀ r a k, f r = .ok a k → k ≤ r.length) : ∀ {m : Nat} {r : List Nat} {as : List α} {k : Nat}, mny f m r = .ok as k → k ≤ r.length ∧ as.length = m
  | 0, r, as, k, h => by simp only [mny] at h; cases h; simp
  | m + 1, r, as, k, h => by
    simp only [mny] at h
    cases hx : f r with
    | bad j => rw [hx] at h; cases h
    | ok a j =>
      rw [hx] at h
      have l1 := hf r a j hx
      cases hy : mny f m (r.drop j) with
      | bad j2 => simp only [hy, Res.map, Res.up] at h; cases h
      | ok bs j2 =>
        simp only [hy, Res.map, Res.up] at h
        cases h
        have := mny_len hf hy
        rw [List.length_drop] at this
        simp; omega
section
variable {g : Wd} {f : Addr} {fd : FuncData} {C_TextReader CI : Addr}
/-- read_part with n levels left -/
def sp_part (C CI : Addr) (n : Nat) : Sp := S2 fun z dep H Q E => ∃ y dy t i, z = .ref y ∧ dep = .int (20 - (n : Int)) ∧ n ≤ 20 ∧ Rd C H y dy t i ∧ t.length ≤ 10000000 ∧ i ≤ t.length ∧ match rp n (t.drop i) with
  | .bad k => Bad CI y H (i + k) E
  | .ok d k => ∀ v fp H', Tr H' v d fp → (∀ c ∈ fp, H c = none) → But y H H' → Rd C H' y dy t (i + k) → Q v H'
/-- the items of a value that has n levels -/
def rpI (n : Nat) (r : List Nat) : Res (List PyData) := match ct 0 0 r with
  | .bad k => .bad k
  | .ok m k => (mny (rp n) m (r.drop k)).up k
theorem sc_TextReader_read_items : FnScope ["self", "depth", "found", "turn"] ["self", "depth"] (defScope s_TextReader_read_items) := ⟨rfl, rfl, rfl, by decide +kernel, rfl, by decide +kernel, by decide +kernel⟩
def sp_its1 (C CI : Addr) (n : Nat) : Sp := S2 fun z dep H Q E => ∃ y dy t i, z = .ref y ∧ dep = .int (20 - ((n + 1 : Nat) : Int)) ∧ n + 1 ≤ 20 ∧ Rd C H y dy t i ∧ t.length ≤ 10000000 ∧ i ≤ t.length ∧ match rpI n (t.drop i) with
  | .bad k => Bad CI y H (i + k) E
  | .ok ds k => ∀ p vs fp H', H' p = some (.lst vs) → TrL H' vs ds fp → H p = none → (∀ c ∈ fp, H c = none ∧ c ≠ p) → But y H H' → Rd C H' y dy t (i + k) → Q (.ref p) H'
def sp_its (C CI : Addr) : Nat → Sp
  | 0 => fun _ _ _ _ => False
  | n + 1 => sp_its1 C CI n
theorem ok_its (n : Nat) (hrp : ∀ r d k, rp n r = .ok d k → k ≤ r.length) (F : Df g.K "read_items" "TextReader.read_items" s_TextReader_read_items f fd .none) (T : Txt2 g) (R : RF g C_TextReader) (CL_TextReader : Cls g.K C_TextReader) (M_TextReader_read_count : Km g C_TextReader "read_count" 4 ["self"] [] (sp_count C_TextReader CI)) (M_TextReader_read_part : Km g C_TextReader "read_part" (2 * n + 6) ["self", "depth"] [] (sp_part C_TextReader CI n)) : FnG g (2 * n + 7) f fd ["self", "depth"] (sp_its1 C_TextReader CI n) := by
  refine F.ok sc_TextReader_read_items (fun vs H Q E h => S2.len h) (fun cdv A outer s H vs Q E hr h => ?_)
  obtain ⟨_, _, rfl, y, dy, t, i, rfl, rfl, h20, hy, hl, hi, q⟩ := h
  refine ⟨_, (pss_mid (ps_set (i := 2) sc_TextReader_read_items.nd rfl (Or.inl rfl) (pe_lst pa_nil))
      (pss_mid (ps_for psD rfl (pi_range1 rfl T.b_range (pa_cons (pe_methG0 (pv 0) CL_TextReader M_TextReader_read_count (hr.mono (by first | decide | omega)) tkD) pa_nil)) (pg_name (i := 3) sc_TextReader_read_items.nd rfl (.inl rfl)) (pss_one (ps_expr (e_bm (K := g.K) PySem.F.plainAttrs_list PySem.F.slot_list_append PySem.F.type_list_append mt_append (pv 2) (pa_cons (pe_methG (pv 0) CL_TextReader M_TextReader_read_part (hr.mono (by first | decide | omega)) tkD (pa_cons (pe_op (o_add (K := g.K)) (pv 1) pe_int) pa_nil)) pa_nil)))))
      (pss_one (ps_ret (pv 2))))), ?_⟩
  unfold rpI at q
  refine mid_at (fun σ G => ∃ p, σ = [some (.ref y), some (.int (20 - ((n + 1 : Nat) : Int))), some (.ref p), none] ∧ H p = none ∧ G = upd H p (.lst [])) ?_ ?_
  · walk_at "sx"
    exact fun p hp => hp
  rintro _ H1 ⟨p, rfl, hp, rfl⟩
  have s1 := same_upd (o := HO.lst []) hp
  have ep : upd H p (HO.lst []) p = some (.lst []) := upd_same
  have hy1 : Rd C_TextReader (upd H p (HO.lst [])) y dy t i := s1 _ _ hy
  have yp : y ≠ p := fun e => by unfold Rd at hy; rw [e, hp] at hy; cases hy
  generalize upd H p (HO.lst []) = H1 at s1 ep hy1 ⊢
  have hy' := hy1
  unfold Rd at hy'
  refine mid_at (fun σ G => ∃ v3 ds k vs fp, σ = [some (.ref y), some (.int (20 - ((n + 1 : Nat) : Int))), some (.ref p), v3] ∧ rpI n (t.drop i) = .ok ds k ∧ G p = some (.lst vs) ∧ TrL G vs ds fp ∧ (∀ c ∈ fp, H c = none ∧ c ≠ p) ∧ But y H G ∧ Rd C_TextReader G y dy t (i + k)) ?_ ?_
  · walk_at "sx"
    (simp only [hy']; (try walk_at "sx"); (try simp only [R.cls, R.n1, R.n2, true_and]); (try walk_at "lt"); (try walk_at "sx"))
    refine ⟨_, rfl, y, dy, t, i, rfl, hy1, hl, hi, ?_⟩
    cases hc : ct 0 0 (t.drop i) with
    | bad k =>
      rw [hc] at q
      exact fun dd H' b h => q dd H' (fun c o n z => b c o n (s1 _ _ z)) h
    | ok m k =>
      rw [hc] at q
      simp only at q
      intro H2 b2 r2
      have ck := ct_len hc
      rw [List.length_drop] at ck
      refine ⟨_, rfl, by omega, by omega, ?_⟩
      have e0 : rpI n (t.drop i) = ((mny (rp n) (m - 0) (t.drop (i + k))).map fun as => [] ++ as).up k := by
        unfold rpI
        rw [hc]
        simp only [List.drop_drop, Nat.sub_zero]
        cases mny (rp n) m (t.drop (i + k)) <;> rfl
      have b12 : But y H H2 := fun c o n z => b2 c o n (s1 _ _ z)
      have eq2 : (match rpI n (t.drop i) with
        | .bad k => Bad CI y H (i + k) E
        | .ok ds k => ∀ p vs fp H', H' p = some (.lst vs) → TrL H' vs ds fp → H p = none → (∀ c ∈ fp, H c = none ∧ c ≠ p) → But y H H' → Rd C_TextReader H' y dy t (i + k) → Q (.ref p) H') := by
        unfold rpI
        rw [hc]
        exact q
      refine for_by m (fun j σ G => (∃ v3, σ = [some (.ref y), some (.int (20 - ((n + 1 : Nat) : Int))), some (.ref p), v3]) ∧ ∃ ds kk vs fa, G p = some (.lst vs) ∧ vs.length = j ∧ TrL G vs ds fa ∧ (∀ c ∈ fa, H c = none ∧ c ≠ p) ∧ But y H G ∧ Rd C_TextReader G y dy t (i + kk) ∧ i + kk ≤ t.length ∧ rpI n (t.drop i) = ((mny (rp n) (m - j) (t.drop (i + kk))).map fun as => ds ++ as).up kk) ⟨⟨_, rfl⟩, [], k, [], [], b2 _ _ (Ne.symm yp) ep, rfl, .nil, by simp, b12, r2, by omega, e0⟩ (fun j σ G lt P => by simpa [Itr] using lt) (fun σ G P => by simp [Itr]) (fun j σ G x G1 lt P yl => ?_) (fun σ G P => ?_)
      · obtain ⟨⟨v3, rfl⟩, ds, kk, vs, fa, eG, lv, tl, nf, bG, hG, hk, er⟩ := P
        obtain ⟨rfl, rfl⟩ := yl
        have hG' := hG
        unfold Rd at hG'
        walk_at "sx"
        refine ⟨⟨_, SqL.of eG⟩, ?_⟩
        (simp only [hG']; (try walk_at "sx"); (try simp only [R.cls, R.n1, R.n2, true_and]); (try walk_at "lt"); (try walk_at "sx"))
        refine ⟨_, _, rfl, y, dy, t, i + kk, rfl, by congr 1; omega, by omega, hG, hl, hk, ?_⟩
        have em : m - j = (m - (j + 1)) + 1 := by omega
        rw [em] at er
        simp only [mny] at er
        cases hx : rp n (t.drop (i + kk)) with
        | bad k2 =>
          rw [hx] at er
          simp only [Res.map, Res.up] at er
          rw [er] at eq2
          simp only at eq2
          rw [← Nat.add_assoc] at eq2
          exact fun dd H' b h => eq2 dd H' (bG.trans b) h
        | ok d k2 =>
          rw [hx] at er
          simp only at er
          rw [up_map] at er
          intro v fpv G2 tv nv bv rv
          have l2 := hrp _ _ _ hx
          rw [List.length_drop] at l2
          have eG2 := bv _ _ (Ne.symm yp) eG
          have nD : ∀ ys, G2 p ≠ some (.tup ys) := fun ys z => by rw [eG2] at z; cases z
          have kD : ∀ c o, c ≠ p → G2 c = some o → upd G2 p (.lst (vs ++ [v])) c = some o := fun c o n z => by rw [upd_ne n]; exact z
          have fD : p ∉ fpv := fun z => by rw [nv p z] at eG; cases eG
          have ny : ∀ ys, G1 y ≠ some (.tup ys) := fun ys z => by rw [hG'] at z; cases z
          have ya : y ∉ fa := fun z => by
            have := (nf y z).1
            unfold Rd at hy; rw [this] at hy; cases hy
          refine ⟨vs, eG2, by omega, ⟨_, rfl⟩, by simp [lv], ds ++ [d], kk + k2, fa ++ fpv, TrL.snoc (tv.but nD kD fD) ((tl.but ny bv ya).but nD kD fun z => (nf p z).2 rfl), fun c hc => ?_, fun c o n z => ?_, ?_, by omega, ?_⟩
          · rcases List.mem_append.mp hc with h | h
            · exact nf c h
            · refine ⟨?_, fun e => fD (e ▸ h)⟩
              cases e : H c with
              | none => rfl
              | some o =>
                have cy : c ≠ y := fun z => by rw [z] at h; have := nv y h; rw [hG'] at this; cases this
                have := bG _ _ cy e
                rw [nv c h] at this; cases this
          · have cp : c ≠ p := fun e => by rw [e, hp] at z; cases z
            rw [upd_ne cp]; exact bv _ _ n (bG _ _ n z)
          · unfold Rd at rv ⊢
            rw [upd_ne yp, rv, Nat.add_assoc]
          · rw [er, ← Nat.add_assoc, List.drop_drop]
      · obtain ⟨⟨v3, rfl⟩, ds, kk, vs, fa, eG, lv, tl, nf, bG, hG, hk, er⟩ := P
        rw [Nat.sub_self] at er
        simp only [mny, Res.map, Res.up, List.append_nil, Nat.add_zero] at er
        exact ⟨_, rfl, ds, kk, er, vs, eG, fa, tl, nf, bG, hG⟩
  rintro _ G ⟨v3, ds, k, vs, fp, rfl, er, eG, tl, nf, bG, hG⟩
  unfold rpI at er
  rw [er] at q
  walk_at "sx"
  exact q p vs fp G eG tl hp nf bG hG
end
section
variable {g : Wd} {f : Addr} {fd : FuncData} {C_TextReader CI : Addr}
/-- the pairs of a value that has n levels -/
def rpK (n : Nat) (r : List Nat) : Res (List (PyData × PyData)) := match ct 0 0 r with
  | .bad k => .bad k
  | .ok m k => (mnyK (rp n) m [] (r.drop k)).up k
def sp_prs1 (C CI : Addr) (n : Nat) : Sp := S2 fun z dep H Q E => ∃ y dy t i, z = .ref y ∧ dep = .int (20 - ((n + 1 : Nat) : Int)) ∧ n + 1 ≤ 20 ∧ Rd C H y dy t i ∧ t.length ≤ 10000000 ∧ i ≤ t.length ∧ match rpK n (t.drop i) with
  | .bad k => Bad CI y H (i + k) E
  | .ok D k => ∀ p kvs fp H', H' p = some (.dK kvs) → TrD H' kvs D fp → (kvs.map (·.1)).Nodup → H p = none → (∀ c ∈ fp, H c = none ∧ c ≠ p) → But y H H' → Rd C H' y dy t (i + k) → Q (.ref p) H'
def sp_prs (C CI : Addr) : Nat → Sp
  | 0 => fun _ _ _ _ => False
  | n + 1 => sp_prs1 C CI n
theorem sc_TextReader_read_part : FnScope ["self", "depth", "letter", "is_open"] ["self", "depth"] (defScope s_TextReader_read_part) := ⟨rfl, rfl, rfl, by decide +kernel, rfl, by decide +kernel, by decide +kernel⟩
theorem ok_part (n : Nat) (F : Df g.K "read_part" "TextReader.read_part" s_TextReader_read_part f fd .none) (T : Txt2 g) (R : RF g C_TextReader) (CL_TextReader : Cls g.K C_TextReader) (M_TextReader_sign : Km g C_TextReader "sign" 1 ["self"] [] (sp_sign C_TextReader)) (M_TextReader_refuse : Km g C_TextReader "refuse" 3 ["self", "index"] [] (sp_refuse CI))
    (M_TextReader_read_integer : Km g C_TextReader "read_integer" 5 ["self"] [] (sp_integer C_TextReader CI)) (M_TextReader_read_string : Km g C_TextReader "read_string" 5 ["self"] [] (sp_string C_TextReader CI)) (M_TextReader_read_items : Km g C_TextReader "read_items" (2 * n + 5) ["self", "depth"] [] (sp_its C_TextReader CI n)) (M_TextReader_read_pairs : Km g C_TextReader "read_pairs" (2 * n + 5) ["self", "depth"] [] (sp_prs C_TextReader CI n)) : FnG g (2 * n + 6) f fd ["self", "depth"] (sp_part C_TextReader CI n) := by
  refine F.ok sc_TextReader_read_part (fun vs H Q E h => S2.len h) (fun cdv A outer s H vs Q E hr h => ?_)
  obtain ⟨_, _, rfl, y, dy, t, i, rfl, rfl, h20, hy, hl, hi, q⟩ := h
  refine ⟨_, (pss_mid (ps_set (i := 2) sc_TextReader_read_part.nd rfl (Or.inl rfl) (pe_methG0 (pv 0) CL_TextReader M_TextReader_sign (hr.mono (by first | decide | omega)) tkD))
      (pss_mid (ps_set (i := 3) sc_TextReader_read_part.nd rfl (Or.inl rfl) (pe_and (pe_cmpR (o_ne (K := g.K) hr) (pv 2) pe_str (nomark _)) (pe_one (pe_cmpR (o_in (K := g.K)) (pv 2) pe_str (by rfl)))))
      (pss_mid (ps_if (PW.pt (pw_or (pt_cmpR (o_eq (K := g.K) hr) (pv 2) pe_str (nomark _)) (pw_or (pt_cmpR (o_nin (K := g.K)) (pv 2) pe_str (by rfl)) (pw_or1 (PW.pt (pw_and (t_truth (K := g.K) (pv 3)) (pw_and1 (pt_cmpR op_ge (pv 1) (e_g T.c_MOST_LEVELS) (nomark _))))))))) (pss_one (ps_expr (pe_methG (pv 0) CL_TextReader M_TextReader_refuse (hr.mono (by first | decide | omega)) tkD (pa_cons (e_fld (K := g.K) (pv 0)) pa_nil)))) pss_nil)
      (pss_mid (s_fld (K := g.K) (pv 0) (pe_op (o_add (K := g.K)) (e_fld (K := g.K) (pv 0)) pe_int))
      (pss_one (ps_match (pv 2) (pmc_case ppt_str (pss_one (ps_ret pe_non)) (pmc_case (ppt_or (pps_cons ppt_str (pps_cons ppt_str pps_nil))) (pss_one (ps_ret (pe_cmpR (o_eq (K := g.K) hr) (pv 2) pe_str (nomark _)))) (pmc_case ppt_str (pss_one (ps_ret (pe_methG0 (pv 0) CL_TextReader M_TextReader_read_integer (hr.mono (by first | decide | omega)) tkD))) (pmc_case ppt_str (pss_one (ps_ret (pe_methG0 (pv 0) CL_TextReader M_TextReader_read_string (hr.mono (by first | decide | omega)) tkD))) (pmc_case ppt_str (pss_one (ps_ret (pe_methG (pv 0) CL_TextReader M_TextReader_read_pairs (hr.mono (by first | decide | omega)) tkD (pa_cons (pv 1) pa_nil)))) (pmc_case ppt_str (pss_one (ps_ret (pe_methG (pv 0) CL_TextReader M_TextReader_read_items (hr.mono (by first | decide | omega)) tkD (pa_cons (pv 1) pa_nil)))) (pmc_rest (pss_one (ps_ret (pe_callTy call_tuple_of (by rfl) T.b_tuple bb_tuple (pa_cons (pe_methG (pv 0) CL_TextReader M_TextReader_read_items (hr.mono (by first | decide | omega)) tkD (pa_cons (pv 1) pa_nil)) pa_nil))))))))))))))))), ?_⟩
  have hy' := hy
  unfold Rd at hy'
  refine mid_one [some (.ref y), some (.int (20 - (n : Int))), some (.str (S ((t.drop i).take 1))), none] (fun G => G = H) ?_ ?_
  · walk_at "sx"
    (simp only [hy']; (try walk_at "sx"); (try simp only [R.cls, R.n1, R.n2, true_and]); (try walk_at "lt"); (try walk_at "sx"))
    exact ⟨_, rfl, y, dy, t, i, rfl, hy, hl, rfl, rfl⟩
  intro G e1
  rw [e1]; clear e1 G
  cases hr : t.drop i with
  | nil =>
    rw [hr] at q
    have q' : Bad CI y H (i + 0) E := by cases n <;> simpa [rp] using q
    refine mid_at (fun σ G => (∃ b, σ = [some (.ref y), some (.int (20 - (n : Int))), some (.str (S [])), some (.bl b)]) ∧ G = H) ?_ ?_
    · walk_at "sx"
      simp only [List.take_nil]
      walk_at "lt"
      simp
    rintro _ G ⟨⟨b, rfl⟩, rfl⟩
    refine mid_at (fun _ _ => False) ?_ (fun _ _ z => z.elim)
    walk_at "sx"
    exact rf R hy q' (But.of (Same.refl _))
  | cons c r =>
    rw [hr] at q
    refine mid_one [some (.ref y), some (.int (20 - (n : Int))), some (.str (S [c])), some (.bl (decide (c ∈ [108, 117, 100])))] (fun G => G = H) ?_ ?_
    · walk_at "sx"
      simp only [List.take_succ_cons, List.take_zero]
      walk_at "lt"
      walk_at "st"
      simp
    intro G e1
    rw [e1]; clear e1 G
    have hlt : i + 1 ≤ t.length := by
      have := congrArg List.length hr
      simp at this; omega
    have hdr : t.drop (i + 1) = r := by
      have : t.drop (i + 1) = (t.drop i).drop 1 := by rw [List.drop_drop]
      rw [this, hr]; rfl
    by_cases let8 : c ∈ [110, 116, 102, 105, 115, 108, 117, 100]
    · by_cases deep : c ∈ [108, 117, 100] ∧ n = 0
      · have q' : Bad CI y H (i + 0) E := by
          obtain ⟨hc, rfl⟩ := deep
          simp only [List.mem_cons, List.not_mem_nil, or_false] at hc
          rcases hc with rfl | rfl | rfl <;> simpa [rp] using q
        refine mid_at (fun _ _ => False) ?_ (fun _ _ z => z.elim)
        walk_at "sx"
        walk_at "lt"
        walk_at "st"
        rw [if_neg (by simp), if_neg (by rw [decide_eq_true let8]; decide), if_pos (decide_eq_true deep.1), if_pos (by rw [deep.2]; decide)]
        exact rf R hy q' (But.of (Same.refl _))
      · refine mid_one [some (.ref y), some (.int (20 - (n : Int))), some (.str (S [c])), some (.bl (decide (c ∈ [108, 117, 100])))] (fun G => G = H) ?_ ?_
        · walk_at "sx"
          walk_at "lt"
          walk_at "st"
          rw [if_neg (by simp), if_neg (by rw [decide_eq_true let8]; decide)]
          by_cases hc : c ∈ [108, 117, 100]
          · have n0 : n ≠ 0 := fun z => deep ⟨hc, z⟩
            rw [if_pos (decide_eq_true hc), if_neg (by simp; omega)]
            trivial
          · rw [if_neg (by rw [decide_eq_false hc]; decide)]
            trivial
        intro G e1
        rw [e1]; clear e1 G
        refine mid_one [some (.ref y), some (.int (20 - (n : Int))), some (.str (S [c])), some (.bl (decide (c ∈ [108, 117, 100])))] (fun G => But y H G ∧ Rd C_TextReader G y dy t (i + 1)) ?_ ?_
        · walk_at "sx"
          (simp only [hy']; (try walk_at "sx"); (try simp only [R.cls, R.n1, R.n2, true_and]); (try walk_at "lt"); (try walk_at "sx"))
          have e3 := rd_at (C := C_TextReader) (y := y) (dy := dy) (G := H) (t := t) (j := i) (k := i + 1) (i := (i : Int) + 1) (by omega)
          exact ⟨_, _, _, hy', R.cls, R.n2, by simp, e3.2, e3.1⟩
        rintro G ⟨bG, hG⟩
        have hG' := hG
        unfold Rd at hG'
        simp only [tMatch, tCase, tRet, tRetN, tSeq, C8.tCut, tNext, tAsg, gName, gNil, gCons, gTup, gFld, tIfS, tIf, tAndV, tOrV, tNotV, tAnd, tOr, tNot, tB, tTest, tOp, tUn, tCB, tCons, tNil, tVar, tC, tChain, tDrop, RS.tCallG, RS.tMethG, tMakeG, RS.tCallK, RS.tMakeK, tEqOwn, rI, rI0, rU, add_ii, add_ss, add_rr, mul_ii, mul_si, mul_ri, RS.eq_ii, RS.eq_ss, eq_bb, eq_nn, eq_sn, eq_ns, eq_in, eq_ni, eq_bn, eq_nb, eq_is, eq_si, eq_rr, ne_ii, ne_ss, ne_bb, ne_nn, ne_sn, ne_ns, ne_in, ne_ni, ne_is, ne_si, ne_rr, in_ss, in_r, nin_ss, nin_r, len_s, len_r, RS.ix_s, RS.ix_r, sl_s, sl_r, is_eq, tyN_n, tyN_b, tyN_i, tyN_s, tru_b, tru_i, tru_n, tSl, tPart, tNoPart, tPar, tPar3, tFmtZ, tFmt, tJs, tDGet, sDPut, sFld, tFld, tTup, tLst, tNever, isB,
  L2.start, List.map_cons, List.map_nil, List.length_cons, List.length_nil, Nat.reduceAdd, Nat.reduceSub, Nat.sub_self, List.replicate_zero, List.replicate_succ, List.append_nil, List.cons_append, List.nil_append, List.getElem?_cons_zero, List.getElem?_cons_succ, List.set_cons_zero, List.set_cons_succ, Option.some.injEq, exists_eq_left, exists_eq_left', exists_and_left, V.bl.injEq, V.int.injEq, V.str.injEq, V.ref.injEq, beq_self_eq_true, Bool.true_or, Bool.or_true, Bool.false_or, Bool.or_false, Bool.and_false, Bool.false_and, Bool.true_and, Bool.and_true, Bool.not_true, Bool.not_false, Bool.false_eq_true, if_true, if_false, ite_true, ite_false, true_and, and_true, and_assoc, String.reduceBEq, String.reduceEq, reduceIte, Bool.and_self, reduceCtorEq, false_and, and_false, exists_false, or_false, false_or, exists_const, iEnumS, iStr, iList, iTup, iRng1, iEnum, tFor_eq, tLc_eq, List.cons.injEq, wipe, not_true_eq_false, not_false_eq_true, upd_same, HO.ins.injEq, HO.tup.injEq, HO.lst.injEq, ofS_eq, lk_nil, lk_cons, pu_nil, pu_cons, sizeLine_eq, Nat.reduceLT, Nat.reduceLeDiff, Nat.reduceEqDiff, Nat.le_refl, decide_true, decide_false, tPr, dget_us, dput_us, vv_nil, vv_cons, RS.pk_nil, pk_one, RS.pk_cons, inr_eq, tDisp, tPairs, tBoolOwn, rBoolOwn, tBM, rAppend, ty_list, ty_str, rEqOwn, iEnumT, RS.tCallS, tM1, tDc_eq, tLock, tLockE, iKeys, tListEnum, rUpdate, tMkX0, tMkX1, tXfv, gSub, rSetL, List.getD_cons_zero, List.getD_cons_succ, tBreak, tCMethS, ClX.tCVal, tXfa, tIxOwn, tInOwn, tPropG, tMethK, tMethP, tListGen, tDGet2, tDPop2, rNeD0, intA_i, intA_b, tRevL, sFldAug, tPm0, tPm1, tDIn, tDNotIn, tDNewK, RS.tMethS, tForK, tKM, tKC, tLcK, tKM2, tKC2, tMethStar, tKCK2, tLk, tAug, ipI, tDig, tLcX, tKMX, tKCX, tForY, tKCY, tKMY, tYThen, tYPlain, tYYield, tY0, tYIf, GKE.at, tListX]
        walk_at "lt"
        simp only [S_eq]
        have new : ∀ {H' : Hp} {fp : List Addr}, (∀ c ∈ fp, G c = none) → ∀ c ∈ fp, H c = none := fun nf c hc => by
          cases e : H c with
          | none => rfl
          | some o =>
            have cy : c ≠ y := fun z => by rw [z] at hc; have := nf y hc; rw [hG'] at this; cases this
            have := bG _ _ cy e
            rw [nf c hc] at this; cases this
        simp only [List.mem_cons, List.not_mem_nil, or_false] at let8
        rcases let8 with rfl | rfl | rfl | rfl | rfl | rfl | rfl | rfl
        · rw [if_pos (by decide)]
          have e : rp n (110 :: r) = .ok .none 1 := by cases n <;> simp [rp]
          rw [e] at q
          exact q .non [] G .non (by simp) bG hG
        · rw [if_neg (by decide), if_pos (by decide)]
          have e : rp n (116 :: r) = .ok (.bool true) 1 := by cases n <;> simp [rp]
          rw [e] at q
          exact q (.bl true) [] G (.bl true) (by simp) bG hG
        · rw [if_neg (by decide), if_pos (by decide)]
          have e : rp n (102 :: r) = .ok (.bool false) 1 := by cases n <;> simp [rp]
          rw [e] at q
          exact q (.bl false) [] G (.bl false) (by simp) bG hG
        · rw [if_neg (by decide), if_neg (by decide), if_pos (by decide)]
          have e : rp n (105 :: r) = ((ig r).map PyData.int).up 1 := by cases n <;> simp [rp]
          rw [e] at q
          refine ⟨_, _, hG', lk_no, _, rfl, y, dy, t, i + 1, rfl, hG, hl, hlt, ?_⟩
          rw [hdr]
          cases hg : ig r with
          | bad k =>
            rw [hg] at q
            simp only [Res.map, Res.up] at q
            rw [← Nat.add_assoc] at q
            exact fun dd H' b h => q dd H' (bG.trans b) h
          | ok m k =>
            rw [hg] at q
            simp only [Res.map, Res.up] at q
            rw [← Nat.add_assoc] at q
            exact fun H' b h => q (.int m) [] H' (.int m) (by simp) (bG.trans b) h
        · rw [if_neg (by decide), if_neg (by decide), if_neg (by decide), if_pos (by decide)]
          have e : rp n (115 :: r) = ((rs r).map fun x => PyData.str (S x)).up 1 := by cases n <;> simp [rp]
          rw [e] at q
          refine ⟨_, _, hG', lk_no, _, rfl, y, dy, t, i + 1, rfl, hG, hl, hlt, ?_⟩
          rw [hdr]
          cases hg : rs r with
          | bad k =>
            rw [hg] at q
            simp only [Res.map, Res.up] at q
            rw [← Nat.add_assoc] at q
            exact fun dd H' b h => q dd H' (bG.trans b) h
          | ok m k =>
            rw [hg] at q
            simp only [Res.map, Res.up] at q
            rw [← Nat.add_assoc] at q
            exact fun H' b h => q (.str (S m)) [] H' (.str (S m)) (by simp) (bG.trans b) h
        · rw [if_neg (by decide), if_neg (by decide), if_neg (by decide), if_neg (by decide), if_neg (by decide), if_pos (by decide)]
          cases n with
          | zero => exact absurd ⟨by decide, rfl⟩ deep
          | succ n =>
          have e : rp (n + 1) (108 :: r) = ((rpI n r).map PyData.list).up 1 := by
            unfold rpI
            simp only [rp]
            cases hc : ct 0 0 r with
            | bad k => simp [Res.map, Res.up]
            | ok m k =>
              cases hm : mny (rp n) m (r.drop k) with
              | bad j => simp [hm, Res.map, Res.up]; omega
              | ok ds j => simp [hm, Res.map, Res.up]; omega
          rw [e] at q
          refine ⟨_, _, hG', lk_no, _, _, rfl, y, dy, t, i + 1, rfl, rfl, h20, hG, hl, hlt, ?_⟩
          rw [hdr]
          cases hg : rpI n r with
          | bad k =>
            rw [hg] at q
            simp only [Res.map, Res.up] at q
            rw [← Nat.add_assoc] at q
            exact fun dd H' b h => q dd H' (bG.trans b) h
          | ok ds k =>
            rw [hg] at q
            simp only [Res.map, Res.up] at q
            rw [← Nat.add_assoc] at q
            exact fun p vs fp H' ep tl hp nf b h => q (.ref p) (p :: fp) H' (.lst ep tl fun z => (nf p z).2 rfl) (new (H' := H') fun c hc => (List.mem_cons.mp hc).elim (fun e => e ▸ hp) fun hc => (nf c hc).1) (bG.trans b) h
        · rw [if_neg (by decide), if_neg (by decide), if_neg (by decide), if_neg (by decide), if_neg (by decide), if_neg (by decide)]
          cases n with
          | zero => exact absurd ⟨by decide, rfl⟩ deep
          | succ n =>
          have e : rp (n + 1) (117 :: r) = ((rpI n r).map PyData.tuple).up 1 := by
            unfold rpI
            simp only [rp]
            cases hc : ct 0 0 r with
            | bad k => simp [Res.map, Res.up]
            | ok m k =>
              cases hm : mny (rp n) m (r.drop k) with
              | bad j => simp [hm, Res.map, Res.up]; omega
              | ok ds j => simp [hm, Res.map, Res.up]; omega
          rw [e] at q
          refine ⟨_, _, hG', lk_no, _, _, rfl, y, dy, t, i + 1, rfl, rfl, h20, hG, hl, hlt, ?_⟩
          rw [hdr]
          cases hg : rpI n r with
          | bad k =>
            rw [hg] at q
            simp only [Res.map, Res.up] at q
            rw [← Nat.add_assoc] at q
            exact fun dd H' b h => q dd H' (bG.trans b) h
          | ok ds k =>
            rw [hg] at q
            simp only [Res.map, Res.up] at q
            rw [← Nat.add_assoc] at q
            intro p vs fp H' ep tl hp nf b h
            refine ⟨p, rfl, vs, .inl ⟨SqL.of ep, fun l hl => ?_⟩⟩
            have sl := same_upd (o := HO.tup vs) hl
            exact q (.ref l) fp _ (.tup upd_same (tl.same sl)) (new (H' := H') fun c hc => (nf c hc).1) (bG.trans (b.trans (But.of sl))) (sl _ _ h)
        · rw [if_neg (by decide), if_neg (by decide), if_neg (by decide), if_neg (by decide), if_pos (by decide)]
          cases n with
          | zero => exact absurd ⟨by decide, rfl⟩ deep
          | succ n =>
          refine ⟨_, _, hG', lk_no, _, _, rfl, y, dy, t, i + 1, rfl, rfl, h20, hG, hl, hlt, ?_⟩
          rw [hdr]
          simp only [rp] at q
          unfold rpK
          cases hc : ct 0 0 r with
          | bad k =>
            simp [hc] at q
            rw [← Nat.add_assoc] at q
            exact fun dd H' b h => q dd H' (bG.trans b) h
          | ok m k =>
            simp [hc] at q
            simp only
            cases hg : mnyK (rp n) m [] (r.drop k) with
            | bad k2 =>
              rw [hg] at q
              simp only [Res.map, Res.up] at q ⊢
              have e : i + (1 + k + k2) = i + 1 + (k + k2) := by omega
              rw [e] at q
              exact fun dd H' b h => q dd H' (bG.trans b) h
            | ok D k2 =>
              rw [hg] at q
              simp only [Res.map, Res.up] at q ⊢
              have e : i + (1 + k + k2) = i + 1 + (k + k2) := by omega
              rw [e] at q
              exact fun p kvs fp H' ep tl nd hp nf b h => q (.ref p) (p :: fp) H' (.dct ep tl (fun z => (nf p z).2 rfl) nd) (new (H' := H') fun c hc => (List.mem_cons.mp hc).elim (fun e => e ▸ hp) fun hc => (nf c hc).1) (bG.trans b) h
    · have q' : Bad CI y H (i + 0) E := by
        simp only [List.mem_cons, List.not_mem_nil, or_false, not_or] at let8
        cases n <;> simpa [rp, let8] using q
      refine mid_at (fun _ _ => False) ?_ (fun _ _ z => z.elim)
      walk_at "sx"
      walk_at "lt"
      walk_at "st"
      rw [if_neg (by simp), if_pos (by rw [decide_eq_false let8]; rfl)]
      exact rf R hy q' (But.of (Same.refl _))
end
theorem up_mapK (x : Res (List (PyData × PyData))) (a : PyData × PyData) (ds : List (PyData × PyData)) (k kk : Nat) : (((x.map fun as => a :: as).up k).map fun as => ds ++ as).up kk = (x.map fun as => (ds ++ [a]) ++ as).up (kk + k) := up_map x a ds k kk
theorem nodup_S {l : List (List Nat)} (h : l.Nodup) : (l.map fun x => (.inr (S x) : Key)).Nodup :=
  List.pairwise_map.mpr (List.Pairwise.imp (fun h e => h (S_inj (Sum.inr.inj e))) h)
theorem val_none : ∀ {kvs : List (Key × V)} {k : Key}, k ∉ kvs.map (·.1) → valV kvs k = none
  | [], _, _ => rfl
  | (p, v) :: r, k, h => by
    rw [vv_cons, if_neg (fun e => h (by simp [e]))]
    exact val_none fun z => h (List.mem_cons_of_mem _ z)
theorem val_some : ∀ {kvs : List (Key × V)} {k : Key}, k ∈ kvs.map (·.1) → ∃ v, valV kvs k = some v
  | (p, v) :: r, k, h => by
    rw [vv_cons]
    by_cases e : p = k
    · exact ⟨v, if_pos e⟩
    · rw [if_neg e]
      exact val_some ((List.mem_cons.mp h).resolve_left fun z => e z.symm)
  | [], _, h => by simp at h
theorem mem_S {l : List (List Nat)} {x : List Nat} : (.inr (S x) : Key) ∈ l.map (fun x => (.inr (S x) : Key)) ↔ x ∈ l := by
  constructor
  · intro h
    obtain ⟨z, hz, e⟩ := List.mem_map.mp h
    rw [← S_inj (Sum.inr.inj e)]; exact hz
  · exact fun h => List.mem_map.mpr ⟨x, h, rfl⟩
theorem rs_len {r x : List Nat} {k : Nat} (h : rs r = .ok x k) : k ≤ r.length ∧ x.length ≤ 10000 := by
  unfold rs at h
  cases hc : ct 0 0 r with
  | bad j => rw [hc] at h; cases h
  | ok n j =>
    rw [hc] at h
    simp only at h
    split at h
    · cases h
      have := ct_len hc
      rename_i fit
      rw [List.length_drop] at fit
      rw [List.length_take, List.length_drop]
      omega
    · cases h
section
variable {g : Wd} {f : Addr} {fd : FuncData} {C_TextReader CI : Addr}
theorem sc_TextReader_read_pairs : FnScope ["self", "depth", "found", "turn", "key"] ["self", "depth"] (defScope s_TextReader_read_pairs) := ⟨rfl, rfl, rfl, by decide +kernel, rfl, by decide +kernel, by decide +kernel⟩
theorem ok_prs (n : Nat) (hrp : ∀ r d k, rp n r = .ok d k → k ≤ r.length) (F : Df g.K "read_pairs" "TextReader.read_pairs" s_TextReader_read_pairs f fd .none) (T : Txt2 g) (R : RF g C_TextReader) (CL_TextReader : Cls g.K C_TextReader) (M_TextReader_sign : Km g C_TextReader "sign" 1 ["self"] [] (sp_sign C_TextReader)) (M_TextReader_refuse : Km g C_TextReader "refuse" 3 ["self", "index"] [] (sp_refuse CI)) (M_TextReader_read_string : Km g C_TextReader "read_string" 5 ["self"] [] (sp_string C_TextReader CI)) (M_TextReader_read_count : Km g C_TextReader "read_count" 4 ["self"] [] (sp_count C_TextReader CI)) (M_TextReader_read_part : Km g C_TextReader "read_part" (2 * n + 6) ["self", "depth"] [] (sp_part C_TextReader CI n)) : FnG g (2 * n + 7) f fd ["self", "depth"] (sp_prs1 C_TextReader CI n) := by
  refine F.ok sc_TextReader_read_pairs (fun vs H Q E h => S2.len h) (fun cdv A outer s H vs Q E hr h => ?_)
  obtain ⟨_, _, rfl, y, dy, t, i, rfl, rfl, h20, hy, hl, hi, q⟩ := h
  refine ⟨_, (pss_mid (ps_set (i := 2) sc_TextReader_read_pairs.nd rfl (Or.inl rfl) pe_dnewK)
      (pss_mid (ps_for psD rfl (pi_range1 rfl T.b_range (pa_cons (pe_methG0 (pv 0) CL_TextReader M_TextReader_read_count (hr.mono (by first | decide | omega)) tkD) pa_nil)) (pg_name (i := 3) sc_TextReader_read_pairs.nd rfl (.inl rfl)) (pss_mid (ps_if (pt_cmpR (o_ne (K := g.K) hr) (pe_methG0 (pv 0) CL_TextReader M_TextReader_sign (hr.mono (by first | decide | omega)) tkD) pe_str (nomark _)) (pss_one (ps_expr (pe_methG (pv 0) CL_TextReader M_TextReader_refuse (hr.mono (by first | decide | omega)) tkD (pa_cons (e_fld (K := g.K) (pv 0)) pa_nil)))) pss_nil)
      (pss_mid (s_fld (K := g.K) (pv 0) (pe_op (o_add (K := g.K)) (e_fld (K := g.K) (pv 0)) pe_int))
      (pss_mid (ps_set (i := 4) sc_TextReader_read_pairs.nd rfl (Or.inl rfl) (pe_methG0 (pv 0) CL_TextReader M_TextReader_read_string (hr.mono (by first | decide | omega)) tkD))
      (pss_mid (ps_if (pt_cmp (pc_din (hu_of hr.room) (pv 4) (pv 2))) (pss_one (ps_expr (pe_methG (pv 0) CL_TextReader M_TextReader_refuse (hr.mono (by first | decide | omega)) tkD (pa_cons (pe_op op_sub (e_fld (K := g.K) (pv 0)) pe_int) pa_nil)))) pss_nil)
      (pss_one (ps_dput (hu_of hr.room) (pv 2) (pv 4) (pe_methG (pv 0) CL_TextReader M_TextReader_read_part (hr.mono (by first | decide | omega)) tkD (pa_cons (pe_op (o_add (K := g.K)) (pv 1) pe_int) pa_nil)) rfl)))))))
      (pss_one (ps_ret (pv 2))))), ?_⟩
  refine mid_at (fun σ G => ∃ p, σ = [some (.ref y), some (.int (20 - ((n + 1 : Nat) : Int))), some (.ref p), none, none] ∧ H p = none ∧ G = upd H p (.dK [])) ?_ ?_
  · walk_at "sx"
    exact fun p hp => ⟨p, rfl, hp, rfl⟩
  rintro _ H1 ⟨p, rfl, hp, rfl⟩
  have s1 := same_upd (o := HO.dK []) hp
  have ep : upd H p (HO.dK []) p = some (.dK []) := upd_same
  have hy1 : Rd C_TextReader (upd H p (HO.dK [])) y dy t i := s1 _ _ hy
  have yp : y ≠ p := fun e => by unfold Rd at hy; rw [e, hp] at hy; cases hy
  generalize upd H p (HO.dK []) = H1 at s1 ep hy1 ⊢
  have hy' := hy1
  unfold Rd at hy'
  obtain ⟨RR, hR⟩ : ∃ RR, RR = rpK n (t.drop i) := ⟨_, rfl⟩
  rw [← hR] at q
  unfold rpK at hR
  refine mid_at (fun σ G => ∃ v3 v4 D k kvs fp, σ = [some (.ref y), some (.int (20 - ((n + 1 : Nat) : Int))), some (.ref p), v3, v4] ∧ RR = .ok D k ∧ G p = some (.dK kvs) ∧ TrD G kvs D fp ∧ (kvs.map (·.1)).Nodup ∧ (∀ c ∈ fp, H c = none ∧ c ≠ p) ∧ But y H G ∧ Rd C_TextReader G y dy t (i + k)) ?_ ?_
  · walk_at "sx"
    (simp only [hy']; (try walk_at "sx"); (try simp only [R.cls, R.n1, R.n2, true_and]); (try walk_at "lt"); (try walk_at "sx"))
    refine ⟨_, rfl, y, dy, t, i, rfl, hy1, hl, hi, ?_⟩
    cases hc : ct 0 0 (t.drop i) with
    | bad k =>
      rw [hc] at hR
      rw [hR] at q
      exact fun dd H' b h => q dd H' (fun c o n z => b c o n (s1 _ _ z)) h
    | ok m k =>
      rw [hc] at hR
      simp only at hR
      intro H2 b2 r2
      have ck := ct_len hc
      rw [List.length_drop] at ck
      refine ⟨_, rfl, by omega, by omega, ?_⟩
      have e0 : RR = ((mnyK (rp n) (m - 0) ([] : List (List Nat)) (t.drop (i + k))).map fun as => [] ++ as).up k := by
        rw [hR, List.drop_drop, Nat.sub_zero]
        cases mnyK (rp n) m [] (t.drop (i + k)) <;> rfl
      have b12 : But y H H2 := fun c o n z => b2 c o n (s1 _ _ z)
      refine for_by m (fun j σ G => (∃ v3 v4, σ = [some (.ref y), some (.int (20 - ((n + 1 : Nat) : Int))), some (.ref p), v3, v4]) ∧ ∃ D kk kvs fa seen, G p = some (.dK kvs) ∧ kvs.length = j ∧ kvs.map (·.1) = seen.map (fun x => (.inr (S x) : Key)) ∧ seen.Nodup ∧ TrD G kvs D fa ∧ (∀ c ∈ fa, H c = none ∧ c ≠ p) ∧ But y H G ∧ Rd C_TextReader G y dy t (i + kk) ∧ i + kk ≤ t.length ∧ RR = ((mnyK (rp n) (m - j) seen (t.drop (i + kk))).map fun as => D ++ as).up kk) ⟨⟨_, _, rfl⟩, [], k, [], [], [], b2 _ _ (Ne.symm yp) ep, rfl, rfl, .nil, .nil, by simp, b12, r2, by omega, e0⟩ (fun j σ G lt P => by simpa [Itr] using lt) (fun σ G P => by simp [Itr]) (fun j σ G x G1 lt P yl => ?_) (fun σ G P => ?_)
      · obtain ⟨⟨v3, v4, rfl⟩, D, kk, kvs, fa, seen, eG, lv, ks, nd, tl, nf, bG, hG, hk, er⟩ := P
        obtain ⟨rfl, rfl⟩ := yl
        have hG' := hG
        unfold Rd at hG'
        walk_at "sx"
        have em : m - j = (m - (j + 1)) + 1 := by omega
        rw [em] at er
        simp only [mnyK] at er
        cases hr : t.drop (i + kk) with
        | nil =>
          rw [hr] at er
          simp only [Res.map, Res.up, Nat.add_zero] at er
          rw [er] at q
          refine mid_at (fun _ _ => False) ?_ (fun _ _ z => z.elim)
          walk_at "sx"
          (simp only [hG']; (try walk_at "sx"); (try simp only [R.cls, R.n1, R.n2, true_and]); (try walk_at "lt"); (try walk_at "sx"))
          refine ⟨_, rfl, y, dy, t, i + kk, rfl, hG, hl, ?_⟩
          rw [hr]
          simp only [List.take_nil, ne_ss, S_eq]
          refine ⟨_, rfl, ?_⟩
          rw [if_pos (by simp)]
          exact rf R hG q bG
        | cons c r =>
          rw [hr] at er
          simp only at er
          have hlt : i + (kk + 1) ≤ t.length := by
            have := congrArg List.length hr
            simp at this; omega
          have hdr : t.drop (i + (kk + 1)) = r := by
            have : t.drop (i + (kk + 1)) = (t.drop (i + kk)).drop 1 := by rw [List.drop_drop]; rfl
            rw [this, hr]; rfl
          by_cases c115 : c = 115
          · rw [if_neg (by simp [c115])] at er
            refine mid_one [some (.ref y), some (.int (20 - ((n + 1 : Nat) : Int))), some (.ref p), some (.int (0 + (j : Nat))), v4] (fun G2 => G2 = G1) ?_ ?_
            · walk_at "sx"
              (simp only [hG']; (try walk_at "sx"); (try simp only [R.cls, R.n1, R.n2, true_and]); (try walk_at "lt"); (try walk_at "sx"))
              refine ⟨_, rfl, y, dy, t, i + kk, rfl, hG, hl, ?_⟩
              rw [hr]
              simp only [List.take_succ_cons, List.take_zero, ne_ss, S_eq]
              refine ⟨_, rfl, ?_⟩
              rw [if_neg (by simp [c115])]
              trivial
            intro G2 e2
            rw [e2]; clear e2 G2
            refine mid_one [some (.ref y), some (.int (20 - ((n + 1 : Nat) : Int))), some (.ref p), some (.int (0 + (j : Nat))), v4] (fun G2 => But y G1 G2 ∧ Rd C_TextReader G2 y dy t (i + (kk + 1))) ?_ ?_
            · walk_at "sx"
              (simp only [hG']; (try walk_at "sx"); (try simp only [R.cls, R.n1, R.n2, true_and]); (try walk_at "lt"); (try walk_at "sx"))
              have e3 := rd_at (C := C_TextReader) (y := y) (dy := dy) (G := G1) (t := t) (j := i + kk) (k := i + (kk + 1)) (i := ((i + kk : Nat) : Int) + 1) (by omega)
              exact ⟨_, _, _, hG', R.cls, R.n2, by simp, e3.2, e3.1⟩
            rintro G2 ⟨b3, h3⟩
            have h3' := h3
            unfold Rd at h3'
            refine mid_at (fun σ G3 => ∃ key k2, rs r = .ok key k2 ∧ σ = [some (.ref y), some (.int (20 - ((n + 1 : Nat) : Int))), some (.ref p), some (.int (0 + (j : Nat))), some (.str (S key))] ∧ But y G1 G3 ∧ Rd C_TextReader G3 y dy t (i + (kk + 1) + k2)) ?_ ?_
            · walk_at "sx"
              (simp only [h3']; (try walk_at "sx"); (try simp only [R.cls, R.n1, R.n2, true_and]); (try walk_at "lt"); (try walk_at "sx"))
              refine ⟨_, rfl, y, dy, t, i + (kk + 1), rfl, h3, hl, hlt, ?_⟩
              rw [hdr]
              cases hs : rs r with
              | bad k2 =>
                rw [hs] at er
                simp only [Res.map, Res.up] at er
                rw [er] at q
                simp only at q
                have e : i + (kk + (1 + k2)) = i + (kk + 1) + k2 := by omega
                rw [e] at q
                exact fun dd H' b h => q dd H' (bG.trans (b3.trans b)) h
              | ok key k2 => exact fun H' b h => ⟨key, k2, rfl, rfl, b3.trans b, h⟩
            rintro _ G3 ⟨key, k2, hs, rfl, b4, h4⟩
            rw [hs] at er
            simp only at er
            have h4' := h4
            unfold Rd at h4'
            have eG3 := b4 _ _ (Ne.symm yp) eG
            have l2 := (rs_len hs).1
            have lr : r.length = t.length - (i + (kk + 1)) := by rw [← hdr, List.length_drop]
            have hd2 : t.drop (i + (kk + 1) + k2) = r.drop k2 := by rw [← hdr, List.drop_drop]
            by_cases isin : key ∈ seen
            · rw [if_pos isin] at er
              simp only [Res.map, Res.up] at er
              rw [er] at q
              simp only at q
              obtain ⟨v0, hv0⟩ := val_some (kvs := kvs) (k := .inr (S key)) (by rw [ks]; exact mem_S.mpr isin)
              refine mid_at (fun _ _ => False) ?_ (fun _ _ z => z.elim)
              simp only [tDIn, tRet, tRetN, tSeq, C8.tCut, tNext, tAsg, gName, gNil, gCons, gTup, gFld, tIfS, tIf, tAndV, tOrV, tNotV, tAnd, tOr, tNot, tB, tTest, tOp, tUn, tCB, tCons, tNil, tVar, tC, tChain, tDrop, RS.tCallG, RS.tMethG, tMakeG, RS.tCallK, RS.tMakeK, tEqOwn, rI, rI0, rU, add_ii, add_ss, add_rr, mul_ii, mul_si, mul_ri, RS.eq_ii, RS.eq_ss, eq_bb, eq_nn, eq_sn, eq_ns, eq_in, eq_ni, eq_bn, eq_nb, eq_is, eq_si, eq_rr, ne_ii, ne_ss, ne_bb, ne_nn, ne_sn, ne_ns, ne_in, ne_ni, ne_is, ne_si, ne_rr, in_ss, in_r, nin_ss, nin_r, len_s, len_r, RS.ix_s, RS.ix_r, sl_s, sl_r, is_eq, tyN_n, tyN_b, tyN_i, tyN_s, tru_b, tru_i, tru_n, tSl, tPart, tNoPart, tPar, tPar3, tFmtZ, tFmt, tJs, tDGet, sDPut, sFld, tFld, tTup, tLst, tNever, isB,
  L2.start, List.map_cons, List.map_nil, List.length_cons, List.length_nil, Nat.reduceAdd, Nat.reduceSub, Nat.sub_self, List.replicate_zero, List.replicate_succ, List.append_nil, List.cons_append, List.nil_append, List.getElem?_cons_zero, List.getElem?_cons_succ, List.set_cons_zero, List.set_cons_succ, Option.some.injEq, exists_eq_left, exists_eq_left', exists_and_left, V.bl.injEq, V.int.injEq, V.str.injEq, V.ref.injEq, beq_self_eq_true, Bool.true_or, Bool.or_true, Bool.false_or, Bool.or_false, Bool.and_false, Bool.false_and, Bool.true_and, Bool.and_true, Bool.not_true, Bool.not_false, Bool.false_eq_true, if_true, if_false, ite_true, ite_false, true_and, and_true, and_assoc, String.reduceBEq, String.reduceEq, reduceIte, Bool.and_self, reduceCtorEq, false_and, and_false, exists_false, or_false, false_or, exists_const, iEnumS, iStr, iList, iTup, iRng1, iEnum, tFor_eq, tLc_eq, List.cons.injEq, wipe, not_true_eq_false, not_false_eq_true, upd_same, HO.ins.injEq, HO.tup.injEq, HO.lst.injEq, ofS_eq, lk_nil, lk_cons, pu_nil, pu_cons, sizeLine_eq, Nat.reduceLT, Nat.reduceLeDiff, Nat.reduceEqDiff, Nat.le_refl, decide_true, decide_false, tPr, dget_us, dput_us, vv_nil, vv_cons, RS.pk_nil, pk_one, RS.pk_cons, inr_eq, tDisp, tPairs, tBoolOwn, rBoolOwn, tBM, rAppend, ty_list, ty_str, rEqOwn, iEnumT, RS.tCallS, tM1, tDc_eq, tLock, tLockE, iKeys, tListEnum, rUpdate, tMkX0, tMkX1, tXfv, gSub, rSetL, List.getD_cons_zero, List.getD_cons_succ, tBreak, tCMethS, ClX.tCVal, tXfa, tIxOwn, tInOwn, tPropG, tMethK, tMethP, tListGen, tDGet2, tDPop2, rNeD0, intA_i, intA_b, tRevL, sFldAug, tPm0, tPm1, tDIn, tDNotIn, tDNewK, RS.tMethS, tForK, tKM, tKC, tLcK, tKM2, tKC2, tMethStar, tKCK2, tLk, tAug, ipI, tDig, tLcX, tKMX, tKCX, tForY, tKCY, tKMY, tYThen, tYPlain, tYYield, tY0, tYIf, GKE.at, tListX]
              (simp only [h4']; (try walk_at "sx"); (try simp only [R.cls, R.n1, R.n2, true_and]); (try walk_at "lt"); (try walk_at "sx"))
              refine ⟨some v0, by rw [dget_s eG3]; exact hv0, ?_⟩
              rw [if_pos (by simp)]
              have e5 : ((i + (kk + 1) + k2 : Nat) : Int) - 1 = ((i + (kk + k2) : Nat) : Int) := by omega
              rw [e5]
              exact ⟨_, _, rfl, y, rfl, fun dd hdd => q dd _ ((bG.trans b4).trans (But.of (same_upd hdd))) upd_same⟩
            · rw [if_neg isin] at er
              have nov := val_none (kvs := kvs) (k := .inr (S key)) (by rw [ks]; exact fun z => isin (mem_S.mp z))
              refine mid_one [some (.ref y), some (.int (20 - ((n + 1 : Nat) : Int))), some (.ref p), some (.int (0 + (j : Nat))), some (.str (S key))] (fun G4 => G4 = G3) ?_ ?_
              · simp only [tDIn, tRet, tRetN, tSeq, C8.tCut, tNext, tAsg, gName, gNil, gCons, gTup, gFld, tIfS, tIf, tAndV, tOrV, tNotV, tAnd, tOr, tNot, tB, tTest, tOp, tUn, tCB, tCons, tNil, tVar, tC, tChain, tDrop, RS.tCallG, RS.tMethG, tMakeG, RS.tCallK, RS.tMakeK, tEqOwn, rI, rI0, rU, add_ii, add_ss, add_rr, mul_ii, mul_si, mul_ri, RS.eq_ii, RS.eq_ss, eq_bb, eq_nn, eq_sn, eq_ns, eq_in, eq_ni, eq_bn, eq_nb, eq_is, eq_si, eq_rr, ne_ii, ne_ss, ne_bb, ne_nn, ne_sn, ne_ns, ne_in, ne_ni, ne_is, ne_si, ne_rr, in_ss, in_r, nin_ss, nin_r, len_s, len_r, RS.ix_s, RS.ix_r, sl_s, sl_r, is_eq, tyN_n, tyN_b, tyN_i, tyN_s, tru_b, tru_i, tru_n, tSl, tPart, tNoPart, tPar, tPar3, tFmtZ, tFmt, tJs, tDGet, sDPut, sFld, tFld, tTup, tLst, tNever, isB,
  L2.start, List.map_cons, List.map_nil, List.length_cons, List.length_nil, Nat.reduceAdd, Nat.reduceSub, Nat.sub_self, List.replicate_zero, List.replicate_succ, List.append_nil, List.cons_append, List.nil_append, List.getElem?_cons_zero, List.getElem?_cons_succ, List.set_cons_zero, List.set_cons_succ, Option.some.injEq, exists_eq_left, exists_eq_left', exists_and_left, V.bl.injEq, V.int.injEq, V.str.injEq, V.ref.injEq, beq_self_eq_true, Bool.true_or, Bool.or_true, Bool.false_or, Bool.or_false, Bool.and_false, Bool.false_and, Bool.true_and, Bool.and_true, Bool.not_true, Bool.not_false, Bool.false_eq_true, if_true, if_false, ite_true, ite_false, true_and, and_true, and_assoc, String.reduceBEq, String.reduceEq, reduceIte, Bool.and_self, reduceCtorEq, false_and, and_false, exists_false, or_false, false_or, exists_const, iEnumS, iStr, iList, iTup, iRng1, iEnum, tFor_eq, tLc_eq, List.cons.injEq, wipe, not_true_eq_false, not_false_eq_true, upd_same, HO.ins.injEq, HO.tup.injEq, HO.lst.injEq, ofS_eq, lk_nil, lk_cons, pu_nil, pu_cons, sizeLine_eq, Nat.reduceLT, Nat.reduceLeDiff, Nat.reduceEqDiff, Nat.le_refl, decide_true, decide_false, tPr, dget_us, dput_us, vv_nil, vv_cons, RS.pk_nil, pk_one, RS.pk_cons, inr_eq, tDisp, tPairs, tBoolOwn, rBoolOwn, tBM, rAppend, ty_list, ty_str, rEqOwn, iEnumT, RS.tCallS, tM1, tDc_eq, tLock, tLockE, iKeys, tListEnum, rUpdate, tMkX0, tMkX1, tXfv, gSub, rSetL, List.getD_cons_zero, List.getD_cons_succ, tBreak, tCMethS, ClX.tCVal, tXfa, tIxOwn, tInOwn, tPropG, tMethK, tMethP, tListGen, tDGet2, tDPop2, rNeD0, intA_i, intA_b, tRevL, sFldAug, tPm0, tPm1, tDIn, tDNotIn, tDNewK, RS.tMethS, tForK, tKM, tKC, tLcK, tKM2, tKC2, tMethStar, tKCK2, tLk, tAug, ipI, tDig, tLcX, tKMX, tKCX, tForY, tKCY, tKMY, tYThen, tYPlain, tYYield, tY0, tYIf, GKE.at, tListX]
                refine ⟨none, by rw [dget_s eG3]; exact nov, ?_⟩
                rw [if_neg (by simp)]
                trivial
              intro G4 e4
              rw [e4]; clear e4 G4
              walk_at "sx"
              (simp only [h4']; (try walk_at "sx"); (try simp only [R.cls, R.n1, R.n2, true_and]); (try walk_at "lt"); (try walk_at "sx"))
              refine ⟨_, _, rfl, y, dy, t, i + (kk + 1) + k2, rfl, by congr 1; omega, by omega, h4, hl, by omega, ?_⟩
              rw [hd2]
              cases hx : rp n (r.drop k2) with
              | bad j2 =>
                rw [hx] at er
                simp only [Res.map, Res.up] at er
                rw [er] at q
                simp only at q
                have e : i + (kk + (1 + k2 + j2)) = i + (kk + 1) + k2 + j2 := by omega
                rw [e] at q
                exact fun dd H' b h => q dd H' ((bG.trans b4).trans b) h
              | ok d j2 =>
                rw [hx] at er
                simp only at er
                rw [up_mapK] at er
                intro v fpv G4 tv nv bv rv
                have l3 := hrp _ _ _ hx
                rw [List.length_drop] at l3
                have eG4 := bv _ _ (Ne.symm yp) eG3
                have knew : (.inr (S key) : Key) ∉ kvs.map (·.1) := by rw [ks]; exact fun z => isin (mem_S.mp z)
                rw [dput_s eG4, putK_new knew]
                have nD : ∀ ys, G4 p ≠ some (.tup ys) := fun ys z => by rw [eG4] at z; cases z
                have kD : ∀ c o, c ≠ p → G4 c = some o → upd G4 p (.dK (kvs ++ [(.inr (S key), v)])) c = some o := fun c o n z => by rw [upd_ne n]; exact z
                have fD : p ∉ fpv := fun z => by rw [nv p z] at eG3; cases eG3
                have ny : ∀ ys, G1 y ≠ some (.tup ys) := fun ys z => by rw [hG'] at z; cases z
                have ya : y ∉ fa := fun z => by
                  have := (nf y z).1
                  unfold Rd at hy; rw [this] at hy; cases hy
                have b14 := b4.trans bv
                refine ⟨by rw [sizeLine_eq]; omega, ⟨_, rfl⟩, D ++ [(.str (S key), d)], kk + (1 + k2 + j2), kvs ++ [(.inr (S key), v)], upd_same, by simp [lv], fa ++ fpv, seen ++ [key], by simp [ks], ?_, TrD.snoc (tv.but nD kD fD) ((tl.but ny b14 ya).but nD kD fun z => (nf p z).2 rfl), fun c hc => ?_, fun c o n z => ?_, ?_, by omega, ?_⟩
                · exact List.nodup_append.mpr ⟨nd, by simp, fun a ha b hb e => isin (by rw [← List.mem_singleton.mp hb, ← e]; exact ha)⟩
                · rcases List.mem_append.mp hc with h | h
                  · exact nf c h
                  · refine ⟨?_, fun e => fD (e ▸ h)⟩
                    cases e : H c with
                    | none => rfl
                    | some o =>
                      have cy : c ≠ y := fun z => by rw [z] at h; have := nv y h; rw [h4'] at this; cases this
                      have := b4 _ _ cy (bG _ _ cy e)
                      rw [nv c h] at this; cases this
                · have cp : c ≠ p := fun e => by rw [e, hp] at z; cases z
                  rw [upd_ne cp]; exact b14 _ _ n (bG _ _ n z)
                · unfold Rd at rv ⊢
                  have e : i + (kk + (1 + k2 + j2)) = i + (kk + 1) + k2 + j2 := by omega
                  rw [upd_ne yp, rv, e]
                · have e : i + (kk + (1 + k2 + j2)) = i + (kk + 1) + (k2 + j2) := by omega
                  have e6 : t.drop (i + (kk + 1) + (k2 + j2)) = r.drop (k2 + j2) := by rw [← hdr, List.drop_drop]
                  rw [er, e, e6]
          · rw [if_pos (by simpa using c115)] at er
            simp only [Res.map, Res.up, Nat.add_zero] at er
            rw [er] at q
            refine mid_at (fun _ _ => False) ?_ (fun _ _ z => z.elim)
            walk_at "sx"
            (simp only [hG']; (try walk_at "sx"); (try simp only [R.cls, R.n1, R.n2, true_and]); (try walk_at "lt"); (try walk_at "sx"))
            refine ⟨_, rfl, y, dy, t, i + kk, rfl, hG, hl, ?_⟩
            rw [hr]
            simp only [List.take_succ_cons, List.take_zero, ne_ss, S_eq]
            refine ⟨_, rfl, ?_⟩
            rw [if_pos (by simpa using c115)]
            exact rf R hG q bG
      · obtain ⟨⟨v3, v4, rfl⟩, D, kk, kvs, fa, seen, eG, lv, ks, nd, tl, nf, bG, hG, hk, er⟩ := P
        rw [Nat.sub_self] at er
        simp only [mnyK, Res.map, Res.up, List.append_nil, Nat.add_zero] at er
        refine ⟨_, _, rfl, D, kk, er, kvs, eG, fa, tl, ?_, nf, bG, hG⟩
        rw [ks]
        exact nodup_S nd
  rintro _ G ⟨v3, v4, D, k, kvs, fp, rfl, er, eG, tl, nd, nf, bG, hG⟩
  rw [er] at q
  walk_at "sx"
  exact q p kvs fp G eG tl nd hp nf bG hG
end
theorem up_ok {α β : Type} {x : Res α} {g : α → β} {j k : Nat} {b : β} (h : (x.map g).up j = .ok b k) : ∃ a k', x = .ok a k' ∧ k = j + k' := by
  cases x with
  | bad i => simp only [Res.map, Res.up] at h; cases h
  | ok a i => simp only [Res.map, Res.up] at h; cases h; exact ⟨a, i, rfl, rfl⟩
theorem mnyK_len {f : List Nat → Res PyData} (hf : ∀ r a k, f r = .ok a k → k ≤ r.length) : ∀ {m : Nat} {seen : List (List Nat)} {r : List Nat} {D : List (PyData × PyData)} {k : Nat}, mnyK f m seen r = .ok D k → k ≤ r.length
  | 0, seen, r, D, k, h => by simp only [mnyK] at h; cases h; simp
  | m + 1, seen, [], D, k, h => by simp only [mnyK] at h; cases h
  | m + 1, seen, c :: r, D, k, h => by
    simp only [mnyK] at h
    split at h
    · cases h
    · cases hs : rs r with
      | bad j => rw [hs] at h; cases h
      | ok key j =>
        rw [hs] at h
        simp only at h
        have l1 := (rs_len hs).1
        split at h
        · cases h
        · cases hx : f (r.drop j) with
          | bad i => rw [hx] at h; cases h
          | ok d i =>
            rw [hx] at h
            have l2 := hf _ _ _ hx
            rw [List.length_drop] at l2
            obtain ⟨a, k', e1, e2⟩ := up_ok h
            have l3 := mnyK_len hf e1
            rw [List.length_drop] at l3
            simp; omega
theorem ig_len {r : List Nat} {v : Int} {k : Nat} (h : ig r = .ok v k) : k ≤ r.length := by
  unfold ig at h
  split at h
  · split at h
    · cases h
    · obtain ⟨a, k', e1, e2⟩ := up_ok h
      have := dg_len e1
      simp; omega
  · cases hd : dg false 0 0 r with
    | bad j => rw [hd] at h; cases h
    | ok a j =>
      rw [hd] at h
      simp only [Res.map] at h
      cases h
      have := dg_len hd
      omega
theorem rp_len : ∀ (n : Nat) (r : List Nat) (d : PyData) (k : Nat), rp n r = .ok d k → k ≤ r.length
  | n, [], d, k, h => by cases n <;> (simp only [rp] at h; cases h)
  | n, c :: r, d, k, h => by
    unfold rp at h
    split at h
    · cases h; simp
    split at h
    · cases h; simp
    split at h
    · cases h; simp
    split at h
    · obtain ⟨a, k', e1, e2⟩ := up_ok h
      have := ig_len e1
      simp; omega
    split at h
    · obtain ⟨a, k', e1, e2⟩ := up_ok h
      have := (rs_len e1).1
      simp; omega
    cases n with
    | zero => cases h
    | succ n =>
      simp only at h
      split at h
      · cases hc : ct 0 0 r with
        | bad j => rw [hc] at h; cases h
        | ok m j =>
          rw [hc] at h
          simp only at h
          have l1 := (ct_len hc).1
          split at h
          · obtain ⟨a, k', e1, e2⟩ := up_ok h
            have := mnyK_len (rp_len n) e1
            rw [List.length_drop] at this
            simp; omega
          · obtain ⟨a, k', e1, e2⟩ := up_ok h
            have := (mny_len (rp_len n) e1).1
            rw [List.length_drop] at this
            simp; omega
      · cases h
section
variable {g : Wd} {f : Addr} {fd : FuncData} {C_TextReader CI : Addr}
theorem sc_TextReader__init : FnScope ["self", "text"] ["self", "text"] (defScope s_TextReader__init) := ⟨rfl, rfl, rfl, by decide +kernel, rfl, by decide +kernel, by decide +kernel⟩
def sp_rinit (C : Addr) : Sp := S2 fun z x H Q _ => ∃ y dy t, z = .ref y ∧ x = .str (S t) ∧ H y = some (.ins C dy []) ∧ ∀ H', But y H H' → Rd C H' y dy t 0 → Q .non H'
theorem ok_rinit (F : Df g.K "__init__" "TextReader.__init__" s_TextReader__init f fd .none) (T : Txt2 g) (R : RF g C_TextReader) : FnG g 1 f fd ["self", "text"] (sp_rinit C_TextReader) := by
  refine F.ok sc_TextReader__init (fun vs H Q E h => S2.len h) (fun cdv A outer s H vs Q E hr h => ?_)
  obtain ⟨_, _, rfl, y, dy, t, rfl, rfl, hy, q⟩ := h
  refine ⟨_, (pss_cons (s_fld (K := g.K) (pv 0) (pv 1))
      (pss_one (s_fld (K := g.K) (pv 0) pe_int))), ?_⟩
  walk_at "sx"
  refine ⟨_, _, _, hy, R.cls, R.n1, by simp, R.cls, R.n2, by simp [pu_nil], q _ (fun c o n z => by rw [upd_ne n, upd_ne n]; exact z) ?_⟩
  unfold Rd
  have h1 : ¬ (Str.ofString "own_text" = Str.ofString "at") := by decide +kernel
  rw [upd_same, pu_nil, pu_cons, if_neg h1, pu_nil]
  rfl
theorem sc_TextReader_is_done : FnScope ["self"] ["self"] (defScope s_TextReader_is_done) := ⟨rfl, rfl, rfl, by decide +kernel, rfl, by decide +kernel, by decide +kernel⟩
def sp_done (C : Addr) : Sp := S1 fun z H Q _ => ∃ y dy t i, z = .ref y ∧ Rd C H y dy t i ∧ t.length ≤ 10000000 ∧ Q (.bl (decide (t.length ≤ i))) H
theorem ok_done (F : Df g.K "is_done" "TextReader.is_done" s_TextReader_is_done f fd .none) (T : Txt2 g) (R : RF g C_TextReader) : FnG g 1 f fd ["self"] (sp_done C_TextReader) := by
  refine F.ok sc_TextReader_is_done (fun vs H Q E h => S1.len h) (fun cdv A outer s H vs Q E hr h => ?_)
  obtain ⟨_, rfl, y, dy, t, i, rfl, hy, hl, q⟩ := h
  refine ⟨_, (pss_one (ps_ret (pe_cmpR op_ge (e_fld (K := g.K) (pv 0)) (pe_callB (c_len (K := g.K)) (by rfl) T.b_len bb_len (pa_cons (e_fld (K := g.K) (pv 0)) pa_nil)) (nomark _)))), ?_⟩
  have hy' := hy
  unfold Rd at hy'
  walk_at "sx"
  (simp only [hy']; (try walk_at "sx"); (try simp only [R.cls, R.n1, R.n2, true_and]); (try walk_at "lt"); (try walk_at "sx"))
  rw [S_len]
  exact ⟨by omega, by simpa using q⟩
theorem sc_check_string : FnScope ["text"] ["text"] (defScope s_check_string) := ⟨rfl, rfl, rfl, by decide +kernel, rfl, by decide +kernel, by decide +kernel⟩
def sp_cstr : Sp := S1 fun z H Q _ => ∃ x, z = .str x ∧ Q .non H
theorem ok_cstr (F : Df g.K "check_string" "check_string" s_check_string f fd .none) (T : Txt2 g) : FnG g 1 f fd ["text"] sp_cstr := by
  refine F.ok sc_check_string (fun vs H Q E h => S1.len h) (fun cdv A outer s H vs Q E hr h => ?_)
  obtain ⟨_, rfl, x, rfl, q⟩ := h
  refine ⟨_, (pss_one (ps_if (pt_not (pt_val (pe_callB (c_is "str") (by rfl) T.b_isinstance bb_isinstance (pa_cons (pv 0) (pa_cons (pe_bltn (v := .ty "str") rfl T.b_str bb_str rfl) pa_nil))))) (pss_one ps_never) pss_nil)), ?_⟩
  walk_at "sx"
  exact q
end
open TL (numL numL_lt numL_step numL_digits numL_ne)
theorem ct_num (m : Nat) (h : m ≤ 10000) (r : List Nat) : ct 0 0 (numL m ++ r) = ct (numL m).length m r := by
  induction m using Nat.strongRecOn generalizing r with
  | ind m ih =>
    by_cases lt : m < 10
    · rw [numL_lt lt]
      simp only [List.cons_append, List.nil_append, ct, List.length_cons, List.length_nil]
      rw [if_neg (by simp), if_pos ⟨by simp [isDig]; omega, .inl trivial, by omega⟩]
      congr 1; omega
    · rw [numL_step (by omega), List.append_assoc, ih (m / 10) (by omega) (by omega)]
      have l0 : (numL (m / 10)).length ≠ 0 := fun z => numL_ne (m / 10) (List.eq_nil_of_length_eq_zero z)
      simp only [List.cons_append, List.nil_append, ct]
      rw [if_neg (by omega), if_pos ⟨by simp [isDig]; omega, .inr (by omega), by omega⟩]
      rw [List.length_append]
      congr 1; omega
theorem ct_num_ok {m : Nat} (h : m ≤ 10000) (r : List Nat) : ct 0 0 (numL m ++ 58 :: r) = .ok m ((numL m).length + 1) := by
  rw [ct_num m h]
  have l0 : (numL m).length ≠ 0 := fun z => numL_ne m (List.eq_nil_of_length_eq_zero z)
  simp only [ct]
  rw [if_pos ⟨trivial, l0⟩]
theorem dg_num (m : Nat) (h : (numL m).length ≤ 100) (r : List Nat) : dg false 0 0 (numL m ++ r) = dg (decide (m = 0)) (numL m).length m r := by
  induction m using Nat.strongRecOn generalizing r with
  | ind m ih =>
    by_cases lt : m < 10
    · rw [numL_lt lt]
      simp only [List.cons_append, List.nil_append, dg, List.length_cons, List.length_nil]
      rw [if_neg (by simp), if_pos ⟨by simp [isDig]; omega, .inl trivial⟩]
      simp
    · have ls : (numL m).length = (numL (m / 10)).length + 1 := by rw [numL_step (by omega)]; simp
      rw [numL_step (by omega), List.append_assoc, ih (m / 10) (by omega) (by omega)]
      have l0 : (numL (m / 10)).length ≠ 0 := fun z => numL_ne (m / 10) (List.eq_nil_of_length_eq_zero z)
      have z0 : decide (m / 10 = 0) = false := decide_eq_false (by omega)
      have z1 : decide (m = 0) = false := decide_eq_false (by omega)
      simp only [List.cons_append, List.nil_append, dg, z0, z1]
      rw [if_neg (by omega), if_pos ⟨by simp [isDig]; omega, .inr ⟨by omega, trivial⟩⟩, if_neg l0]
      rw [List.length_append]
      congr 1; omega
theorem dg_num_ok {m : Nat} (h : (numL m).length ≤ 100) (r : List Nat) : dg false 0 0 (numL m ++ 59 :: r) = .ok m ((numL m).length + 1) := by
  rw [dg_num m h]
  have l0 : (numL m).length ≠ 0 := fun z => numL_ne m (List.eq_nil_of_length_eq_zero z)
  simp only [dg]
  rw [if_pos ⟨trivial, l0⟩]
/-- a string behind its letter -/
def strL (x : List Nat) : List Nat := numL x.length ++ 58 :: x
theorem rs_ok {x : List Nat} (h : x.length ≤ 10000) (r : List Nat) : rs (strL x ++ r) = .ok x (strL x).length := by
  unfold rs strL
  rw [List.append_assoc, List.cons_append, ct_num_ok h]
  simp only
  have e : (numL x.length ++ 58 :: (x ++ r)).drop ((numL x.length).length + 1) = x ++ r := by
    rw [← List.drop_drop, List.drop_left]; rfl
  rw [e, if_pos (by simp)]
  congr 1
  · simp
  · simp; omega
/-- an integer behind its letter -/
def intL (i : Int) : List Nat := (if i < 0 then 45 :: numL i.natAbs else numL i.natAbs) ++ [59]
theorem num_head {m : Nat} (h : m ≠ 0) : ∃ c r, numL m = c :: r ∧ c ≠ 48 ∧ c ≠ 45 := by
  induction m using Nat.strongRecOn with
  | ind m ih =>
    by_cases lt : m < 10
    · exact ⟨48 + m, [], numL_lt lt, by omega, by omega⟩
    · obtain ⟨c, r, e, n⟩ := ih (m / 10) (by omega) (by omega)
      exact ⟨c, r ++ [48 + m % 10], by rw [numL_step (by omega), e]; rfl, n⟩
theorem num_first (m : Nat) : ∃ c r, numL m = c :: r ∧ c ≠ 45 := by
  by_cases h : m = 0
  · subst h; exact ⟨48, [], numL_lt (by decide), by decide⟩
  · obtain ⟨c, r, e, n⟩ := num_head h
    exact ⟨c, r, e, n.2⟩
theorem ig_neg {c : Nat} {r : List Nat} (h : c ≠ 48) : ig (45 :: c :: r) = ((dg false 0 0 (c :: r)).map fun v : Nat => (0 - (v : Int))).up 1 := by unfold ig; simp [h]
theorem ig_pos {c : Nat} {r : List Nat} (h : c ≠ 45) : ig (c :: r) = (dg false 0 0 (c :: r)).map fun v : Nat => (v : Int) := by unfold ig; simp [h]
theorem ig_ok {i : Int} (h : (numL i.natAbs).length ≤ 100) (r : List Nat) : ig (intL i ++ r) = .ok i (intL i).length := by
  unfold intL
  have d := dg_num_ok (m := i.natAbs) h r
  by_cases neg : i < 0
  · rw [if_pos neg]
    obtain ⟨c, s, e, n⟩ := num_head (m := i.natAbs) (by omega)
    have e2 : (45 :: numL i.natAbs ++ [59] ++ r) = 45 :: (numL i.natAbs ++ 59 :: r) := by simp
    rw [e2, e, List.cons_append, ig_neg n.1, ← List.cons_append, ← e, d]
    simp only [Res.map, Res.up]
    congr 1
    · omega
    · simp; omega
  · rw [if_neg neg]
    obtain ⟨c, s, e, n⟩ := num_first i.natAbs
    have e2 : (numL i.natAbs ++ [59] ++ r) = numL i.natAbs ++ 59 :: r := by simp
    rw [e2, e, List.cons_append, ig_pos n, ← List.cons_append, ← e, d]
    simp only [Res.map]
    congr 1
    · omega
    · simp
mutual
/-- the text of a value as a list of signs -/
def sl : PyData → List Nat
  | .none => [110]
  | .bool b => [if b then 116 else 102]
  | .int i => 105 :: intL i
  | .str x => 115 :: strL x.cps.toList
  | .list ds => 108 :: (numL ds.length ++ 58 :: sls ds)
  | .tuple ds => 117 :: (numL ds.length ++ 58 :: sls ds)
  | .dict D => 100 :: (numL D.length ++ 58 :: slK D)
def sls : List PyData → List Nat
  | [] => []
  | d :: ds => sl d ++ sls ds
def slK : List (PyData × PyData) → List Nat
  | [] => []
  | (k, d) :: r => sl k ++ (sl d ++ slK r)
end
mutual
/-- what can be written: the keys are strings and apart -/
def wf : PyData → Prop
  | .none => True
  | .bool _ => True
  | .int i => (numL i.natAbs).length ≤ 100
  | .str x => x.length ≤ 10000
  | .list ds => ds.length ≤ 10000 ∧ wfs ds
  | .tuple ds => ds.length ≤ 10000 ∧ wfs ds
  | .dict D => D.length ≤ 10000 ∧ wfK [] D
def wfs : List PyData → Prop
  | [] => True
  | d :: ds => wf d ∧ wfs ds
def wfK : List (List Nat) → List (PyData × PyData) → Prop
  | _, [] => True
  | seen, (k, d) :: r => (∃ x : Str, k = .str x ∧ x.length ≤ 10000 ∧ x.cps.toList ∉ seen ∧ wfK (seen ++ [x.cps.toList]) r) ∧ wf d
end
theorem str_S (x : Str) : SX.S x.cps.toList = x := by cases x; rfl
theorem str_len (x : Str) : x.cps.toList.length = x.length := rfl
mutual
theorem rp_ok : ∀ (d : PyData) (n : Nat) (r : List Nat), wf d → d.depth ≤ n → rp n (sl d ++ r) = .ok d (sl d).length
  | .none, n, r, _, _ => by cases n <;> simp [sl, rp]
  | .bool b, n, r, _, _ => by cases b <;> cases n <;> simp [sl, rp]
  | .int i, n, r, h, _ => by
    simp only [wf] at h
    have e := ig_ok h r
    cases n <;> simp [sl, rp, e, Res.map, Res.up] <;> omega
  | .str x, n, r, h, _ => by
    simp only [wf] at h
    have e := rs_ok (x := x.cps.toList) (by rw [str_len]; exact h) r
    cases n <;> simp [sl, rp, e, Res.map, Res.up, str_S] <;> omega
  | .list ds, 0, r, h, hd => by simp only [PyData.depth] at hd; omega
  | .list ds, n + 1, r, h, hd => by
    simp only [wf] at h
    have e := mny_ok ds n r h.2 (by simp only [PyData.depth] at hd; omega)
    have c := ct_num_ok h.1 (sls ds ++ r)
    have dr : (numL ds.length ++ 58 :: (sls ds ++ r)).drop ((numL ds.length).length + 1) = sls ds ++ r := by rw [← List.drop_drop, List.drop_left]; rfl
    simp [sl, rp, c, dr, e, Res.map, Res.up]
    omega
  | .tuple ds, 0, r, h, hd => by simp only [PyData.depth] at hd; omega
  | .tuple ds, n + 1, r, h, hd => by
    simp only [wf] at h
    have e := mny_ok ds n r h.2 (by simp only [PyData.depth] at hd; omega)
    have c := ct_num_ok h.1 (sls ds ++ r)
    have dr : (numL ds.length ++ 58 :: (sls ds ++ r)).drop ((numL ds.length).length + 1) = sls ds ++ r := by rw [← List.drop_drop, List.drop_left]; rfl
    simp [sl, rp, c, dr, e, Res.map, Res.up]
    omega
  | .dict D, 0, r, h, hd => by simp only [PyData.depth] at hd; omega
  | .dict D, n + 1, r, h, hd => by
    simp only [wf] at h
    have e := mnyK_ok D n [] r h.2 (by simp only [PyData.depth] at hd; omega)
    have c := ct_num_ok h.1 (slK D ++ r)
    have dr : (numL D.length ++ 58 :: (slK D ++ r)).drop ((numL D.length).length + 1) = slK D ++ r := by rw [← List.drop_drop, List.drop_left]; rfl
    simp [sl, rp, c, dr, e, Res.map, Res.up]
    omega
theorem mny_ok : ∀ (ds : List PyData) (n : Nat) (r : List Nat), wfs ds → PyData.depthAll ds ≤ n → mny (rp n) ds.length (sls ds ++ r) = .ok ds (sls ds).length
  | [], n, r, _, _ => by simp [mny, sls]
  | d :: ds, n, r, h, hd => by
    simp only [wfs] at h
    simp only [PyData.depthAll] at hd
    have e1 := rp_ok d n (sls ds ++ r) h.1 (by omega)
    have e2 := mny_ok ds n r h.2 (by omega)
    simp [sls, mny, e1, e2, Res.map, Res.up]
theorem mnyK_ok : ∀ (D : List (PyData × PyData)) (n : Nat) (seen : List (List Nat)) (r : List Nat), wfK seen D → PyData.depthKv D ≤ n → mnyK (rp n) D.length seen (slK D ++ r) = .ok D (slK D).length
  | [], n, seen, r, _, _ => by simp [mnyK, slK]
  | (k, d) :: D, n, seen, r, h, hd => by
    simp only [wfK] at h
    simp only [PyData.depthKv] at hd
    obtain ⟨⟨x, rfl, hx, ns, hk⟩, hw⟩ := h
    have e0 := rs_ok (x := x.cps.toList) (by rw [str_len]; exact hx) (sl d ++ (slK D ++ r))
    have e1 := rp_ok d n (slK D ++ r) hw (by omega)
    have e2 := mnyK_ok D n (seen ++ [x.cps.toList]) r hk (by omega)
    have d1 : (strL x.cps.toList ++ (sl d ++ (slK D ++ r))).drop (strL x.cps.toList).length = sl d ++ (slK D ++ r) := List.drop_left
    have d2 : (strL x.cps.toList ++ (sl d ++ (slK D ++ r))).drop ((strL x.cps.toList).length + (sl d).length) = slK D ++ r := by rw [← List.drop_drop, d1, List.drop_left]
    simp [slK, sl, mnyK, e0, ns, d1, d2, e1, e2, Res.map, Res.up, str_S]
    omega
end
theorem int_sign_text (i : Int) : (Str.ofString (toString i)).cps.toList = if i < 0 then 45 :: numL i.natAbs else numL i.natAbs := by
  cases i with
  | ofNat m =>
    have := TL.tl_num m
    rw [if_neg (by simp)]
    exact this
  | negSucc m =>
    rw [if_pos (Int.negSucc_lt_zero m)]
    have e : toString (Int.negSucc m) = "-" ++ toString (m + 1) := rfl
    have e2 := TL.tl_num (m + 1)
    have e3 : toString (((m + 1 : Nat)) : Int) = toString (m + 1) := rfl
    rw [e, ofS_tl, String.toList_append, List.map_append, ← ofS_tl, ← ofS_tl, ← e3]
    show [45] ++ _ = 45 :: numL (m + 1)
    rw [← e2]; rfl
theorem tl_app (x y : Str) : (x ++ y).cps.toList = x.cps.toList ++ y.cps.toList := by rw [Str.cps_append, Array.toList_append]
theorem tl_nm (n : Nat) : (num n).cps.toList = numL n := TL.tl_num n
theorem tl_c (s : String) (l : List Nat) (h : (Str.ofString s).cps.toList = l := by decide +kernel) : (Str.ofString s).cps.toList = l := h
mutual
theorem spell_sl : ∀ d : PyData, (∀ k : PyData, True) → (spell d).cps.toList = sl d
  | .none, _ => by simp only [spell, sl]; decide +kernel
  | .bool b, _ => by cases b <;> (simp only [spell, sl]; decide +kernel)
  | .int i, _ => by
    simp only [spell, sl, tl_app, int_sign_text, intL, tl_c "i" [105], tl_c ";" [59]]
    rfl
  | .str x, _ => by
    simp only [spell, sl, tl_app, tl_nm, strL, str_len, tl_c "s" [115], tl_c ":" [58]]
    simp
  | .list ds, _ => by
    simp only [spell, sl, tl_app, tl_nm, tl_c "l" [108], tl_c ":" [58], spells_sl ds]
    simp
  | .tuple ds, _ => by
    simp only [spell, sl, tl_app, tl_nm, tl_c "u" [117], tl_c ":" [58], spells_sl ds]
    simp
  | .dict D, _ => by
    simp only [spell, sl, tl_app, tl_nm, tl_c "d" [100], tl_c ":" [58], spellKv_sl D]
    simp
theorem spells_sl : ∀ ds : List PyData, (spells ds).cps.toList = sls ds
  | [] => by simp only [spells, sls]; decide +kernel
  | d :: ds => by simp only [spells, sls, tl_app, spell_sl d (fun _ => trivial), spells_sl ds]
theorem spellKv_sl : ∀ D : List (PyData × PyData), (spellKv D).cps.toList = slK D
  | [] => by simp only [spellKv, slK]; decide +kernel
  | (k, d) :: D => by simp only [spellKv, slK, tl_app, spell_sl k (fun _ => trivial), spell_sl d (fun _ => trivial), spellKv_sl D, List.append_assoc]
end
theorem str_cps {x y : Str} (h : x.cps.toList = y.cps.toList) : x = y := by rw [← str_S x, ← str_S y, h]
mutual
theorem Tr.wf {H : Hp} : ∀ {v : V} {d : PyData} {fp : List Addr}, Tr H v d fp → okB d = true → K27.wf d
  | _, _, _, .non, _ => by simp only [K27.wf]
  | _, _, _, .bl _, _ => by simp only [K27.wf]
  | _, _, _, .int i, ok => by
    simp only [okB, decide_eq_true_eq] at ok
    simp only [K27.wf]
    exact TL.numL_len (by decide) ok
  | _, _, _, .str x, ok => by simpa [okB, K27.wf] using ok
  | _, _, _, .lst _ hs _, ok => by
    simp only [okB, Bool.and_eq_true, decide_eq_true_eq] at ok
    simp only [K27.wf]
    exact ⟨ok.1, TrL.wf hs ok.2⟩
  | _, _, _, .tup _ hs, ok => by
    simp only [okB, Bool.and_eq_true, decide_eq_true_eq] at ok
    simp only [K27.wf]
    exact ⟨ok.1, TrL.wf hs ok.2⟩
  | _, _, _, .dct _ hs _ nd, ok => by
    simp only [okB, Bool.and_eq_true, decide_eq_true_eq] at ok
    simp only [K27.wf]
    exact ⟨ok.1, TrD.wf hs ok.2 [] nd (by simp)⟩
theorem TrL.wf {H : Hp} : ∀ {v : List V} {d : List PyData} {fp : List Addr}, TrL H v d fp → okAll d = true → wfs d
  | _, _, _, .nil, _ => by simp only [wfs]
  | _, _, _, .cons h hs, ok => by
    simp only [okAll, Bool.and_eq_true] at ok
    simp only [wfs]
    exact ⟨Tr.wf h ok.1, TrL.wf hs ok.2⟩
theorem TrD.wf {H : Hp} : ∀ {v : List (Key × V)} {d : List (PyData × PyData)} {fp : List Addr}, TrD H v d fp → okKv d = true → ∀ (seen : List (List Nat)), (v.map (·.1)).Nodup → (∀ z : Str, (.inr z : Key) ∈ v.map (·.1) → z.cps.toList ∉ seen) → wfK seen d
  | _, _, _, .nil, _, _, _, _ => by simp only [wfK]
  | _, _, _, .cons (x := x) h hs, ok, seen, nd, ns => by
    simp only [okKv, okB, Bool.and_eq_true, decide_eq_true_eq] at ok
    simp only [wfK]
    simp only [List.map_cons, List.nodup_cons] at nd
    refine ⟨⟨x, rfl, ok.1.1, ns x (by simp), TrD.wf hs ok.2 _ nd.2 fun z hz => ?_⟩, Tr.wf h ok.1.2⟩
    intro m
    rcases List.mem_append.mp m with m | m
    · exact ns z (List.mem_cons_of_mem _ hz) m
    · have e := str_cps (List.mem_singleton.mp m)
      rw [e] at hz
      exact nd.1 hz
end
structure Fr where
  k : Nat
  m : Nat
  seen : List (List Nat)
def wantsK : List Fr → Bool
  | f :: _ => decide (f.k = 100) && decide (f.m % 2 = 0)
  | [] => false
def dec : List Fr → List Fr
  | f :: F => { f with m := f.m - 1 } :: F
  | [] => []
def pops : List Fr → List Fr
  | f :: F => if f.m = 0 then pops F else f :: F
  | [] => []
/-- may this sign begin what is wanted? -/
def okSign (F : List Fr) (c : Nat) : Bool := if wantsK F = true then decide (c = 115) else decide (c = 110 ∨ c = 116 ∨ c = 102 ∨ c = 105 ∨ c = 115) || (decide (F.length ≠ 20) && decide (c = 108 ∨ c = 117 ∨ c = 100))
def item (r : List Nat) (F : List Fr) : Res (List Fr) := match r with
  | [] => .bad 0
  | c :: r1 => if okSign F c = false then .bad 0
    else if c = 110 ∨ c = 116 ∨ c = 102 then .ok (dec F) 1
    else if c = 105 then ((ig r1).map fun _ => dec F).up 1
    else if c = 115 then match rs r1 with
      | .bad k => .bad (1 + k)
      | .ok key k => match F with
        | f :: G => if wantsK (f :: G) = true then (if key ∈ f.seen then .bad k else .ok ({ f with m := f.m - 1, seen := f.seen ++ [key] } :: G) (1 + k)) else .ok (dec (f :: G)) (1 + k)
        | [] => .ok [] (1 + k)
    else match ct 0 0 r1 with
      | .bad k => .bad (1 + k)
      | .ok m k => .ok (⟨c, if c = 100 then m * 2 else m, []⟩ :: dec F) (1 + k)
/-- the first wrong sign; e: a whole value stands before -/
def scanF : Nat → List Nat → Nat → List Fr → Bool → Option Nat
  | 0, _, _, _, _ => none
  | n + 1, r, o, F, e => if e = true ∧ F = [] then (if r = [] then none else some o) else match item r F with
    | .bad k => some (o + k)
    | .ok F' k => scanF n (r.drop k) (o + k) (pops F') (e || decide (pops F' = []))
/-- from here one value is read -/
def Goes (r : List Nat) (o : Nat) (F F2 : List Fr) {α : Type} (x : Res α) (fuel : Nat) : Prop := match x with
  | .bad k => scanF fuel r o F false = some (o + k)
  | .ok _ k => k ≤ r.length ∧ ∃ f2, (r.drop k).length + 1 ≤ f2 ∧ scanF fuel r o F false = scanF f2 (r.drop k) (o + k) F2 (decide (F2 = []))
theorem Goes.map {r : List Nat} {o : Nat} {F F2 : List Fr} {α β : Type} {x : Res α} {f : α → β} {fuel : Nat} (h : Goes r o F F2 x fuel) : Goes r o F F2 (x.map f) fuel := by cases x <;> exact h
theorem Goes.to {r : List Nat} {o : Nat} {F F2 : List Fr} {α β : Type} {x : Res α} {y : Res β} {fuel : Nat} (h : Goes r o F F2 x fuel) (e : (∀ k, x = .bad k → y = .bad k) ∧ ∀ a k, x = .ok a k → ∃ b, y = .ok b k) : Goes r o F F2 y fuel := by
  cases x with
  | bad k => rw [e.1 k rfl]; exact h
  | ok a k => obtain ⟨b, eb⟩ := e.2 a k rfl; rw [eb]; exact h
/-- one step of the scanner that reads what it wants -/
theorem step1 {r : List Nat} {o fuel : Nat} {F F2 : List Fr} {k : Nat} (h : item r F = .ok F2 k) (k1 : 1 ≤ k) (kl : k ≤ r.length) (fl : r.length + 1 ≤ fuel) :
    ∃ f2, (r.drop k).length + 1 ≤ f2 ∧ scanF fuel r o F false = scanF f2 (r.drop k) (o + k) (pops F2) (decide (pops F2 = [])) := by
  obtain ⟨m, rfl⟩ : ∃ m, fuel = m + 1 := ⟨fuel - 1, by omega⟩
  refine ⟨m, by rw [List.length_drop]; omega, ?_⟩
  conv => lhs; unfold scanF
  rw [if_neg (by simp), h]
  simp
theorem step0 {r : List Nat} {o fuel : Nat} {F : List Fr} {k : Nat} (h : item r F = .bad k) (fl : r.length + 1 ≤ fuel) : scanF fuel r o F false = some (o + k) := by
  obtain ⟨m, rfl⟩ : ∃ m, fuel = m + 1 := ⟨fuel - 1, by omega⟩
  unfold scanF
  rw [if_neg (by simp), h]
theorem Goes.step {r : List Nat} {o fuel : Nat} {F F1 F2 : List Fr} {α : Type} {k : Nat} {x : Res α} (h : item r F = .ok F1 k) (k1 : 1 ≤ k) (kl : k ≤ r.length) (fl : r.length + 1 ≤ fuel) (ne : pops F1 ≠ [])
    (g : ∀ f2, (r.drop k).length + 1 ≤ f2 → Goes (r.drop k) (o + k) (pops F1) F2 x f2) : Goes r o F F2 (x.up k) fuel := by
  obtain ⟨f2, l2, e2⟩ := step1 (o := o) h k1 kl fl
  rw [decide_eq_false ne] at e2
  have g := g f2 l2
  cases x with
  | bad j =>
    show scanF fuel r o F false = some (o + (k + j))
    rw [e2, show o + (k + j) = o + k + j from by omega]
    exact g
  | ok a j =>
    obtain ⟨jl, f3, l3, e3⟩ := g
    refine ⟨by rw [List.length_drop] at jl; omega, f3, ?_, ?_⟩
    · rw [List.drop_drop] at l3; exact l3
    · rw [e2, e3, List.drop_drop, Nat.add_assoc]
theorem Goes.trans {r : List Nat} {o fuel : Nat} {F F1 F2 : List Fr} {α β : Type} {k : Nat} {a : α} {x : Res β} (h : Goes r o F F1 (Res.ok a k) fuel) (ne : F1 ≠ []) (g : ∀ f2, (r.drop k).length + 1 ≤ f2 → Goes (r.drop k) (o + k) F1 F2 x f2) : Goes r o F F2 (x.up k) fuel := by
  obtain ⟨kl, f2, l2, e2⟩ := h
  rw [decide_eq_false ne] at e2
  have g := g f2 l2
  cases x with
  | bad j =>
    show scanF fuel r o F false = some (o + (k + j))
    rw [e2, show o + (k + j) = o + k + j from by omega]
    exact g
  | ok a j =>
    obtain ⟨jl, f3, l3, e3⟩ := g
    refine ⟨by rw [List.length_drop] at jl; omega, f3, ?_, ?_⟩
    · rw [List.drop_drop] at l3; exact l3
    · rw [e2, e3, List.drop_drop, Nat.add_assoc]
def Big (n : Nat) : Prop := ∀ (F : List Fr) (r : List Nat) (o fuel : Nat), F.length + n = 20 → wantsK F = false → r.length + 1 ≤ fuel → Goes r o F (pops (dec F)) (rp n r) fuel
theorem many {n : Nat} (hb : Big n) {c : Nat} (hc : c ≠ 100) : ∀ (m : Nat) (G : List Fr) (r : List Nat) (o fuel : Nat), G.length + n + 1 = 20 → r.length + 1 ≤ fuel → Goes r o (⟨c, m + 1, []⟩ :: G) (pops G) (mny (rp n) (m + 1) r) fuel
  | m, G, r, o, fuel, gl, fl => by
    have h := hb (⟨c, m + 1, []⟩ :: G) r o fuel (by simp; omega) (by simp [wantsK, hc]) fl
    rw [mny]
    cases hx : rp n r with
    | bad k => rw [hx] at h; exact h
    | ok a k =>
      rw [hx] at h
      cases m with
      | zero =>
        have e : pops (dec (⟨c, 0 + 1, []⟩ :: G)) = pops G := by simp [dec, pops]
        rw [e] at h
        exact h
      | succ m =>
        have e : pops (dec (⟨c, m + 1 + 1, []⟩ :: G)) = ⟨c, m + 1, []⟩ :: G := by simp [dec, pops]
        rw [e] at h
        exact Goes.trans h (by simp) fun f2 l2 => (many hb hc m G (r.drop k) (o + k) f2 gl l2).map
theorem rs_k {r key : List Nat} {k : Nat} (h : rs r = .ok key k) : k ≤ r.length := by
  unfold rs at h
  cases hc : ct 0 0 r with
  | bad j => rw [hc] at h; cases h
  | ok m j =>
    rw [hc] at h
    have := (ct_len hc).1
    simp only at h
    split at h
    · rename_i l
      cases h
      rw [List.length_drop] at l
      omega
    · cases h
theorem manyK {n : Nat} (hb : Big n) : ∀ (m : Nat) (seen : List (List Nat)) (G : List Fr) (r : List Nat) (o fuel : Nat), G.length + n + 1 = 20 → r.length + 1 ≤ fuel → Goes r o (⟨100, (m + 1) * 2, seen⟩ :: G) (pops G) (mnyK (rp n) (m + 1) seen r) fuel
  | m, seen, G, [], o, fuel, gl, fl => step0 rfl fl
  | m, seen, G, c :: r, o, fuel, gl, fl => by
    have wk : wantsK (⟨100, (m + 1) * 2, seen⟩ :: G) = true := by simp [wantsK]
    rw [mnyK]
    by_cases hc : c = 115
    · rw [if_neg (by simpa using hc)]
      have ok : okSign (⟨100, (m + 1) * 2, seen⟩ :: G) c = true := by unfold okSign; rw [if_pos wk]; simpa using hc
      have it : item (c :: r) (⟨100, (m + 1) * 2, seen⟩ :: G) = (match rs r with
        | .bad k => .bad (1 + k)
        | .ok key k => if key ∈ seen then .bad k else .ok (⟨100, (m + 1) * 2 - 1, seen ++ [key]⟩ :: G) (1 + k)) := by
        show (if okSign _ c = false then _ else _) = _
        rw [if_neg (by rw [ok]; simp), if_neg (by omega), if_neg (by omega), if_pos hc]
        cases rs r with
        | bad k => rfl
        | ok key k => simp only [wk, if_true]
      cases hr : rs r with
      | bad k => rw [hr] at it; exact step0 it fl
      | ok key k =>
        rw [hr] at it
        have kl := rs_k hr
        simp only at it ⊢
        by_cases hk : key ∈ seen
        · rw [if_pos hk] at it ⊢
          exact step0 it fl
        · rw [if_neg hk] at it ⊢
          have e1 : pops (⟨100, (m + 1) * 2 - 1, seen ++ [key]⟩ :: G) = ⟨100, m * 2 + 1, seen ++ [key]⟩ :: G := by
            rw [show (m + 1) * 2 - 1 = m * 2 + 1 from by omega]; simp [pops]
          have d1 : (c :: r).drop (1 + k) = r.drop k := by rw [Nat.add_comm]; rfl
          have main : ∀ f2, ((c :: r).drop (1 + k)).length + 1 ≤ f2 → Goes ((c :: r).drop (1 + k)) (o + (1 + k)) (pops (⟨100, (m + 1) * 2 - 1, seen ++ [key]⟩ :: G)) (pops G) (match rp n (r.drop k) with
            | .bad j => .bad j
            | .ok d j => ((mnyK (rp n) m (seen ++ [key]) (r.drop (k + j))).map fun D => (PyData.str (SX.S key), d) :: D).up j) f2 := fun f2 l2 => by
            rw [e1]
            have h := hb (⟨100, m * 2 + 1, seen ++ [key]⟩ :: G) ((c :: r).drop (1 + k)) (o + (1 + k)) f2 (by simp; omega) (by simp [wantsK]) l2
            rw [d1] at h ⊢
            cases hx : rp n (r.drop k) with
            | bad j => rw [hx] at h; exact h
            | ok d j =>
              rw [hx] at h
              cases m with
              | zero =>
                have e : pops (dec (⟨100, 0 * 2 + 1, seen ++ [key]⟩ :: G)) = pops G := by simp [dec, pops]
                rw [e] at h
                exact h
              | succ m =>
                have e : pops (dec (⟨100, (m + 1) * 2 + 1, seen ++ [key]⟩ :: G)) = ⟨100, (m + 1) * 2, seen ++ [key]⟩ :: G := by simp [dec, pops]
                rw [e] at h
                have dd : r.drop (k + j) = (r.drop k).drop j := (List.drop_drop ..).symm
                show Goes _ _ _ _ (Res.up j (Res.map _ (mnyK _ _ _ (r.drop (k + j))))) f2
                rw [dd]
                exact Goes.trans h (by simp) fun f3 l3 => (manyK hb m (seen ++ [key]) G ((r.drop k).drop j) _ f3 gl l3).map
          have g := Goes.step (o := o) it (by omega) (by simp; omega) fl (by rw [e1]; simp) main
          refine g.to ⟨fun j e => ?_, fun a j e => ?_⟩
          · cases hx : rp n (r.drop k) with
            | bad i => rw [hx] at e; simpa [Res.up] using e
            | ok d i =>
              rw [hx] at e
              simp only at e ⊢
              cases hm : mnyK (rp n) m (seen ++ [key]) (r.drop (k + i)) with
              | bad z => rw [hm] at e; simp only [Res.map, Res.up] at e ⊢; cases e; congr 1; omega
              | ok z1 z2 => rw [hm] at e; simp only [Res.map, Res.up] at e; cases e
          · cases hx : rp n (r.drop k) with
            | bad i => rw [hx] at e; simp only [Res.up] at e; cases e
            | ok d i =>
              rw [hx] at e
              simp only at e ⊢
              cases hm : mnyK (rp n) m (seen ++ [key]) (r.drop (k + i)) with
              | bad z => rw [hm] at e; simp only [Res.map, Res.up] at e; cases e
              | ok z1 z2 =>
                rw [hm] at e; simp only [Res.map, Res.up] at e ⊢; cases e
                exact ⟨_, by congr 1; omega⟩
    · rw [if_pos (by simpa using hc)]
      refine step0 ?_ fl
      show (if okSign _ c = false then _ else _) = _
      rw [if_pos]
      unfold okSign
      rw [if_pos wk]
      simpa using hc
theorem ig_k {r : List Nat} {v : Int} {k : Nat} (h : ig r = .ok v k) : k ≤ r.length := by
  unfold ig at h
  split at h
  · rename_i r'
    split at h
    · cases h
    · cases hd : dg false 0 0 r' with
      | bad j => rw [hd] at h; cases h
      | ok a j =>
        rw [hd] at h
        have := dg_len hd
        simp only [Res.map, Res.up] at h
        cases h
        simp; omega
  · cases hd : dg false 0 0 r with
    | bad j => rw [hd] at h; cases h
    | ok a j =>
      rw [hd] at h
      have := dg_len hd
      simp only [Res.map] at h
      cases h
      omega
theorem Goes.leaf {r : List Nat} {o fuel : Nat} {F F1 : List Fr} {α : Type} {k : Nat} {a : α} (h : item r F = .ok F1 k) (k1 : 1 ≤ k) (kl : k ≤ r.length) (fl : r.length + 1 ≤ fuel) : Goes r o F (pops F1) (Res.ok a k) fuel := ⟨kl, step1 h k1 kl fl⟩
theorem item_leaf {F : List Fr} {c : Nat} {r : List Nat} (wk : wantsK F = false) (h : c = 110 ∨ c = 116 ∨ c = 102) : item (c :: r) F = .ok (dec F) 1 := by
  have ok : okSign F c = true := by
    unfold okSign
    rw [if_neg (by simp [wk])]
    rcases h with rfl | rfl | rfl <;> simp
  show (if okSign F c = false then _ else _) = _
  rw [if_neg (by rw [ok]; simp), if_pos h]
theorem item_int {F : List Fr} {r : List Nat} (wk : wantsK F = false) : item (105 :: r) F = ((ig r).map fun _ => dec F).up 1 := by
  have ok : okSign F 105 = true := by
    unfold okSign
    rw [if_neg (by simp [wk])]
    simp
  show (if okSign F 105 = false then _ else _) = _
  rw [if_neg (by rw [ok]; simp), if_neg (by decide), if_pos rfl]
theorem item_str {F : List Fr} {r : List Nat} (wk : wantsK F = false) : item (115 :: r) F = (match rs r with
    | .bad k => .bad (1 + k)
    | .ok _ k => .ok (dec F) (1 + k)) := by
  have ok : okSign F 115 = true := by
    unfold okSign
    rw [if_neg (by simp [wk])]
    simp
  show (if okSign F 115 = false then _ else _) = _
  rw [if_neg (by rw [ok]; simp), if_neg (by decide), if_neg (by decide), if_pos rfl]
  cases rs r with
  | bad k => rfl
  | ok key k =>
    cases F with
    | nil => rfl
    | cons f G => simp only [wk]; rfl
theorem item_box {F : List Fr} {c : Nat} {r : List Nat} (wk : wantsK F = false) (fl : F.length ≠ 20) (h : c = 108 ∨ c = 117 ∨ c = 100) : item (c :: r) F = (match ct 0 0 r with
    | .bad k => .bad (1 + k)
    | .ok m k => .ok (⟨c, if c = 100 then m * 2 else m, []⟩ :: dec F) (1 + k)) := by
  have ok : okSign F c = true := by
    unfold okSign
    rw [if_neg (by simp [wk])]
    rcases h with rfl | rfl | rfl <;> simp [fl]
  show (if okSign F c = false then _ else _) = _
  rw [if_neg (by rw [ok]; simp), if_neg (by omega), if_neg (by omega), if_neg (by omega)]
theorem item_no {F : List Fr} {c : Nat} {r : List Nat} (h : okSign F c = false) : item (c :: r) F = .bad 0 := if_pos h
theorem dec_len (F : List Fr) : (dec F).length = F.length := by cases F <;> rfl
theorem big : ∀ n, Big n := by
  intro n
  induction n with
  | zero =>
    intro F r o fuel fn wk fl
    cases r with
    | nil => exact step0 rfl fl
    | cons c r =>
      unfold rp
      split
      · rename_i h; exact Goes.leaf (item_leaf wk (.inl h)) (by omega) (by simp) fl
      split
      · rename_i h; exact Goes.leaf (item_leaf wk (.inr (.inl h))) (by omega) (by simp) fl
      split
      · rename_i h; exact Goes.leaf (item_leaf wk (.inr (.inr h))) (by omega) (by simp) fl
      split
      · rename_i h
        subst h
        have it := item_int (r := r) wk
        cases hi : ig r with
        | bad k => rw [hi] at it; exact step0 it fl
        | ok v k => rw [hi] at it; exact Goes.leaf it (by omega) (by have := ig_k hi; simp; omega) fl
      split
      · rename_i h
        subst h
        have it := item_str (r := r) wk
        cases hi : rs r with
        | bad k => rw [hi] at it; exact step0 it fl
        | ok v k => rw [hi] at it; exact Goes.leaf it (by omega) (by have := rs_k hi; simp; omega) fl
      · refine step0 (item_no ?_) fl
        unfold okSign
        rw [if_neg (by simp [wk])]
        have : F.length = 20 := by omega
        simp [*]
  | succ n ih =>
    intro F r o fuel fn wk fl
    cases r with
    | nil => exact step0 rfl fl
    | cons c r =>
      unfold rp
      split
      · rename_i h; exact Goes.leaf (item_leaf wk (.inl h)) (by omega) (by simp) fl
      split
      · rename_i h; exact Goes.leaf (item_leaf wk (.inr (.inl h))) (by omega) (by simp) fl
      split
      · rename_i h; exact Goes.leaf (item_leaf wk (.inr (.inr h))) (by omega) (by simp) fl
      split
      · rename_i h
        subst h
        have it := item_int (r := r) wk
        cases hi : ig r with
        | bad k => rw [hi] at it; exact step0 it fl
        | ok v k => rw [hi] at it; exact Goes.leaf it (by omega) (by have := ig_k hi; simp; omega) fl
      split
      · rename_i h
        subst h
        have it := item_str (r := r) wk
        cases hi : rs r with
        | bad k => rw [hi] at it; exact step0 it fl
        | ok v k => rw [hi] at it; exact Goes.leaf it (by omega) (by have := rs_k hi; simp; omega) fl
      simp only
      split
      · rename_i h
        have it := item_box (r := r) wk (by omega) h
        cases hc : ct 0 0 r with
        | bad k => rw [hc] at it; exact step0 it fl
        | ok m k =>
          rw [hc] at it
          simp only at it ⊢
          have kl := (ct_len hc).1
          have d1 : (c :: r).drop (1 + k) = r.drop k := by rw [Nat.add_comm]; rfl
          have k1 : 1 ≤ 1 + k := by omega
          have k2 : 1 + k ≤ (c :: r).length := by simp; omega
          cases m with
          | zero =>
            have e : pops (⟨c, if c = 100 then 0 * 2 else 0, []⟩ :: dec F) = pops (dec F) := by simp [pops]
            have g := Goes.leaf (o := o) (a := PyData.none) it k1 k2 fl
            rw [e] at g
            by_cases h1 : c = 100
            · rw [if_pos h1]
              exact g
            · rw [if_neg h1]
              exact g
          | succ m =>
            by_cases h1 : c = 100
            · subst h1
              rw [if_pos rfl] at it ⊢
              have e : pops (⟨100, (m + 1) * 2, []⟩ :: dec F) = ⟨100, (m + 1) * 2, []⟩ :: dec F := by simp [pops]
              refine Goes.step it k1 k2 fl (by rw [e]; simp) fun f2 l2 => ?_
              rw [e, d1]
              rw [d1] at l2
              exact (manyK ih m [] (dec F) (r.drop k) (o + (1 + k)) f2 (by rw [dec_len]; omega) l2).map
            · rw [if_neg h1] at it ⊢
              have e : pops (⟨c, m + 1, []⟩ :: dec F) = ⟨c, m + 1, []⟩ :: dec F := by simp [pops]
              refine Goes.step it k1 k2 fl (by rw [e]; simp) fun f2 l2 => ?_
              rw [e, d1]
              rw [d1] at l2
              exact (many ih h1 m (dec F) (r.drop k) (o + (1 + k)) f2 (by rw [dec_len]; omega) l2).map
      · refine step0 (item_no ?_) fl
        unfold okSign
        rw [if_neg (by simp [wk])]
        simp [*]
theorem dig_of {c : Nat} (h : isDig c = true) : ∃ d, d < 10 ∧ c = 48 + d := by
  simp only [isDig, Bool.and_eq_true, decide_eq_true_eq] at h
  exact ⟨c - 48, by omega, by omega⟩
theorem num_more {v d : Nat} (hv : v ≠ 0) (hd : d < 10) : numL (10 * v + d) = numL v ++ [48 + d] := by
  rw [numL_step (by omega), show (10 * v + d) / 10 = v from by omega, show (10 * v + d) % 10 = d from by omega]
def pre (n v : Nat) : List Nat := if n = 0 then [] else numL v
theorem ct_inv : ∀ (r : List Nat) (n v m k : Nat), ct n v r = .ok m k → (n = 0 → v = 0) → (n ≠ 0 → n = (numL v).length) → v ≤ 10000 → n < k ∧ m ≤ 10000 ∧ ∃ q, r.take (k - n) = q ++ [58] ∧ pre n v ++ q = numL m
  | [], n, v, m, k, h, _, _, _ => by simp [ct] at h
  | c :: r, n, v, m, k, h, h0, h1, hv => by
    simp only [ct] at h
    split at h
    · rename_i hc
      cases h
      refine ⟨by omega, hv, [], ?_, ?_⟩
      · rw [show n + 1 - n = 1 from by omega, hc.1]; rfl
      · simp [pre, hc.2]
    · split at h
      · rename_i _ hd
        obtain ⟨d, d10, rfl⟩ := dig_of hd.1
        have e : 10 * v + (48 + d - 48) = 10 * v + d := by omega
        rw [e] at h hd
        have en : numL (10 * v + d) = pre n v ++ [48 + d] := by
          unfold pre
          by_cases n0 : n = 0
          · rw [if_pos n0, h0 n0, show 10 * 0 + d = d from by omega, numL_lt d10]; rfl
          · rw [if_neg n0]
            exact num_more (hd.2.1.resolve_left n0) d10
        have ln : n + 1 = (numL (10 * v + d)).length := by
          rw [en]
          unfold pre
          by_cases n0 : n = 0
          · rw [if_pos n0, n0]; rfl
          · rw [if_neg n0, List.length_append, ← h1 n0]; rfl
        obtain ⟨kn, m1, q, q1, q2⟩ := ct_inv r (n + 1) (10 * v + d) m k h (fun z => by omega) (fun _ => ln) hd.2.2
        refine ⟨by omega, m1, (48 + d) :: q, ?_, ?_⟩
        · rw [show k - n = (k - (n + 1)) + 1 from by omega, List.take_succ_cons, q1]; rfl
        · rw [← q2]
          unfold pre at en ⊢
          rw [if_neg (show n + 1 ≠ 0 from by omega), en]
          simp
      · cases h
theorem ct_text {r : List Nat} {m k : Nat} (h : ct 0 0 r = .ok m k) : r.take k = numL m ++ [58] ∧ m ≤ 10000 := by
  obtain ⟨_, m1, q, q1, q2⟩ := ct_inv r 0 0 m k h (fun _ => rfl) (fun z => absurd rfl z) (by decide)
  rw [← q2]
  exact ⟨q1, m1⟩
theorem dg_inv : ∀ (r : List Nat) (z : Bool) (n v m k : Nat), dg z n v r = .ok m k → (n = 0 → v = 0) → (n ≠ 0 → n = (numL v).length ∧ z = decide (v = 0)) → n ≤ 100 → n < k ∧ (numL m).length ≤ 100 ∧ ∃ q, r.take (k - n) = q ++ [59] ∧ pre n v ++ q = numL m
  | [], z, n, v, m, k, h, _, _, _ => by simp [dg] at h
  | c :: r, z, n, v, m, k, h, h0, h1, hn => by
    simp only [dg] at h
    split at h
    · rename_i hc
      cases h
      refine ⟨by omega, by rw [← (h1 hc.2).1]; exact hn, [], ?_, ?_⟩
      · rw [show n + 1 - n = 1 from by omega, hc.1]; rfl
      · simp [pre, hc.2]
    · split at h
      · rename_i _ hd
        obtain ⟨d, d10, rfl⟩ := dig_of hd.1
        have e : 10 * v + (48 + d - 48) = 10 * v + d := by omega
        rw [e] at h
        have vz : n ≠ 0 → v ≠ 0 := fun n0 => by
          have h2 := (hd.2.resolve_left n0).2
          rw [(h1 n0).2] at h2
          simpa using h2
        have en : numL (10 * v + d) = pre n v ++ [48 + d] := by
          unfold pre
          by_cases n0 : n = 0
          · rw [if_pos n0, h0 n0, show 10 * 0 + d = d from by omega, numL_lt d10]; rfl
          · rw [if_neg n0]
            exact num_more (vz n0) d10
        have ln : n + 1 = (numL (10 * v + d)).length := by
          rw [en]
          unfold pre
          by_cases n0 : n = 0
          · rw [if_pos n0, n0]; rfl
          · rw [if_neg n0, List.length_append, ← (h1 n0).1]; rfl
        have zz : (if n = 0 then decide (48 + d = 48) else z) = decide (10 * v + d = 0) := by
          by_cases n0 : n = 0
          · rw [if_pos n0, h0 n0]
            rw [decide_eq_decide]; omega
          · rw [if_neg n0, (h1 n0).2, decide_eq_decide]
            have := vz n0
            omega
        have n100 : n + 1 ≤ 100 := by rcases hd.2 with z | z <;> omega
        obtain ⟨kn, m1, q, q1, q2⟩ := dg_inv r _ (n + 1) (10 * v + d) m k h (fun z => by omega) (fun _ => ⟨ln, zz⟩) n100
        refine ⟨by omega, m1, (48 + d) :: q, ?_, ?_⟩
        · rw [show k - n = (k - (n + 1)) + 1 from by omega, List.take_succ_cons, q1]; rfl
        · rw [← q2]
          unfold pre at en ⊢
          rw [if_neg (show n + 1 ≠ 0 from by omega), en]
          simp
      · cases h
theorem dg_text {r : List Nat} {m k : Nat} (h : dg false 0 0 r = .ok m k) : r.take k = numL m ++ [59] ∧ (numL m).length ≤ 100 := by
  obtain ⟨_, m1, q, q1, q2⟩ := dg_inv r false 0 0 m k h (fun _ => rfl) (fun z => absurd rfl z) (by decide)
  rw [← q2]
  exact ⟨q1, by rw [q2]; exact m1⟩
theorem ig_text {r : List Nat} {i : Int} {k : Nat} (h : ig r = .ok i k) : r.take k = intL i ∧ (numL i.natAbs).length ≤ 100 := by
  unfold ig at h
  split at h
  · rename_i r'
    split at h
    · cases h
    · rename_i n48
      cases hd : dg false 0 0 r' with
      | bad j => rw [hd] at h; cases h
      | ok a j =>
        rw [hd] at h
        simp only [Res.map, Res.up] at h
        cases h
        obtain ⟨t, l⟩ := dg_text hd
        have a0 : a ≠ 0 := fun z => by
          rw [z, numL_lt (by decide)] at t
          cases r' with
          | nil => simp at t
          | cons c r' =>
            cases j with
            | zero => simp at t
            | succ j =>
              rw [List.take_succ_cons] at t
              simp only [List.cons_append, List.cons.injEq] at t
              exact n48 r' (by rw [t.1])
        have na : (0 - (a : Int)).natAbs = a := by omega
        refine ⟨?_, by rw [na]; exact l⟩
        unfold intL
        rw [if_pos (by omega), na, Nat.add_comm, List.take_succ_cons, t]
        rfl
  · cases hd : dg false 0 0 r with
    | bad j => rw [hd] at h; cases h
    | ok a j =>
      rw [hd] at h
      simp only [Res.map] at h
      cases h
      obtain ⟨t, l⟩ := dg_text hd
      have na : ((a : Nat) : Int).natAbs = a := by omega
      refine ⟨?_, by rw [na]; exact l⟩
      unfold intL
      rw [if_neg (by omega), na, t]
theorem rs_text {r key : List Nat} {k : Nat} (h : rs r = .ok key k) : r.take k = strL key ∧ key.length ≤ 10000 := by
  unfold rs at h
  cases hc : ct 0 0 r with
  | bad j => rw [hc] at h; cases h
  | ok m j =>
    rw [hc] at h
    simp only at h
    obtain ⟨t, m1⟩ := ct_text hc
    split at h
    · rename_i l
      cases h
      have e : ((r.drop j).take m).length = m := by rw [List.length_take]; omega
      refine ⟨?_, by rw [e]; exact m1⟩
      unfold strL
      rw [e, List.take_add, t]
      simp
    · cases h
theorem mapup_ok {α β : Type} {x : Res α} {g : α → β} {j k : Nat} {b : β} (h : (x.map g).up j = .ok b k) : ∃ a k', x = .ok a k' ∧ b = g a ∧ k = j + k' := by
  cases x with
  | bad i => simp only [Res.map, Res.up] at h; cases h
  | ok a i => simp only [Res.map, Res.up] at h; cases h; exact ⟨a, i, rfl, rfl, rfl⟩
/-- what rp reads is the text of a value -/
def Txts (n : Nat) : Prop := ∀ (r : List Nat) (d : PyData) (k : Nat), rp n r = .ok d k → wf d ∧ d.depth ≤ n ∧ r.take k = sl d
theorem mny_text {n : Nat} (hf : Txts n) : ∀ (m : Nat) (r : List Nat) (ds : List PyData) (k : Nat), mny (rp n) m r = .ok ds k → ds.length = m ∧ wfs ds ∧ PyData.depthAll ds ≤ n ∧ r.take k = sls ds
  | 0, r, ds, k, h => by simp only [mny] at h; cases h; simp [wfs, PyData.depthAll, sls]
  | m + 1, r, ds, k, h => by
    simp only [mny] at h
    cases hx : rp n r with
    | bad j => rw [hx] at h; cases h
    | ok a j =>
      rw [hx] at h
      obtain ⟨as, k', e1, rfl, rfl⟩ := mapup_ok h
      obtain ⟨l, w, dd, t⟩ := mny_text hf m _ _ _ e1
      obtain ⟨w1, d1, t1⟩ := hf _ _ _ hx
      refine ⟨by simp [l], by simp only [wfs]; exact ⟨w1, w⟩, by simp only [PyData.depthAll]; omega, ?_⟩
      rw [List.take_add, t1, t]; rfl
theorem mnyK_text {n : Nat} (hf : Txts n) : ∀ (m : Nat) (seen : List (List Nat)) (r : List Nat) (D : List (PyData × PyData)) (k : Nat), mnyK (rp n) m seen r = .ok D k → D.length = m ∧ wfK seen D ∧ PyData.depthKv D ≤ n ∧ r.take k = slK D
  | 0, seen, r, D, k, h => by simp only [mnyK] at h; cases h; simp [wfK, PyData.depthKv, slK]
  | m + 1, seen, [], D, k, h => by simp only [mnyK] at h; cases h
  | m + 1, seen, c :: r, D, k, h => by
    simp only [mnyK] at h
    split at h
    · cases h
    rename_i hc
    have hc : c = 115 := by simpa using hc
    subst hc
    cases hr : rs r with
    | bad j => rw [hr] at h; cases h
    | ok key j =>
      rw [hr] at h
      simp only at h
      split at h
      · cases h
      rename_i ns
      cases hx : rp n (r.drop j) with
      | bad i => rw [hx] at h; cases h
      | ok d i =>
        rw [hx] at h
        obtain ⟨D', k', e1, rfl, rfl⟩ := mapup_ok h
        obtain ⟨l, w, dd, t⟩ := mnyK_text hf m _ _ _ _ e1
        obtain ⟨w1, d1, t1⟩ := hf _ _ _ hx
        obtain ⟨t2, l2⟩ := rs_text hr
        have kk : (SX.S key).cps.toList = key := by simp [SX.S]
        refine ⟨by simp [l], ?_, ?_, ?_⟩
        · simp only [wfK]
          exact ⟨⟨SX.S key, rfl, by rw [← str_len, kk]; exact l2, by rw [kk]; exact ns, by rw [kk]; exact w⟩, w1⟩
        · simp only [PyData.depthKv, PyData.depth]; omega
        · rw [show 1 + j + i + k' = (j + (i + k')) + 1 from by omega, List.take_succ_cons, List.take_add, List.take_add, t2, t1, ← List.drop_drop] at *
          rw [t]
          simp [slK, sl, kk]
theorem rp_text : ∀ n, Txts n := by
  intro n
  induction n with
  | zero =>
    intro r d k h
    cases r with
    | nil => simp only [rp] at h; cases h
    | cons c r =>
      unfold rp at h
      split at h
      · rename_i e; subst e; cases h; simp [wf, PyData.depth, sl]
      split at h
      · rename_i e; subst e; cases h; simp [wf, PyData.depth, sl]
      split at h
      · rename_i e; subst e; cases h; simp [wf, PyData.depth, sl]
      split at h
      · rename_i e; subst e
        obtain ⟨i, k', e1, rfl, rfl⟩ := mapup_ok h
        obtain ⟨t, l⟩ := ig_text e1
        refine ⟨by simpa [wf] using l, by simp [PyData.depth], ?_⟩
        rw [Nat.add_comm, List.take_succ_cons, t]; simp [sl]
      split at h
      · rename_i e; subst e
        obtain ⟨x, k', e1, rfl, rfl⟩ := mapup_ok h
        obtain ⟨t, l⟩ := rs_text e1
        have kk : (SX.S x).cps.toList = x := by simp [SX.S]
        refine ⟨by simp only [wf]; rw [← str_len, kk]; exact l, by simp [PyData.depth], ?_⟩
        rw [Nat.add_comm, List.take_succ_cons, t]; simp [sl, kk]
      · cases h
  | succ n ih =>
    intro r d k h
    cases r with
    | nil => simp only [rp] at h; cases h
    | cons c r =>
      unfold rp at h
      split at h
      · rename_i e; subst e; cases h; simp [wf, PyData.depth, sl]
      split at h
      · rename_i e; subst e; cases h; simp [wf, PyData.depth, sl]
      split at h
      · rename_i e; subst e; cases h; simp [wf, PyData.depth, sl]
      split at h
      · rename_i e; subst e
        obtain ⟨i, k', e1, rfl, rfl⟩ := mapup_ok h
        obtain ⟨t, l⟩ := ig_text e1
        refine ⟨by simpa [wf] using l, by simp [PyData.depth], ?_⟩
        rw [Nat.add_comm, List.take_succ_cons, t]; simp [sl]
      split at h
      · rename_i e; subst e
        obtain ⟨x, k', e1, rfl, rfl⟩ := mapup_ok h
        obtain ⟨t, l⟩ := rs_text e1
        have kk : (SX.S x).cps.toList = x := by simp [SX.S]
        refine ⟨by simp only [wf]; rw [← str_len, kk]; exact l, by simp [PyData.depth], ?_⟩
        rw [Nat.add_comm, List.take_succ_cons, t]; simp [sl, kk]
      simp only at h
      split at h
      · rename_i hc
        cases hct : ct 0 0 r with
        | bad j => rw [hct] at h; cases h
        | ok m j =>
          rw [hct] at h
          simp only at h
          obtain ⟨t0, m1⟩ := ct_text hct
          split at h
          · rename_i e; subst e
            obtain ⟨D, k', e1, rfl, rfl⟩ := mapup_ok h
            obtain ⟨l, w, dd, t⟩ := mnyK_text ih m _ _ _ _ e1
            refine ⟨by simp only [wf]; exact ⟨by omega, w⟩, by simp only [PyData.depth]; omega, ?_⟩
            rw [show 1 + j + k' = (j + k') + 1 from by omega, List.take_succ_cons, List.take_add, t0, t]
            simp [sl, l]
          · rename_i n100
            obtain ⟨ds, k', e1, rfl, rfl⟩ := mapup_ok h
            obtain ⟨l, w, dd, t⟩ := mny_text ih m _ _ _ e1
            by_cases e108 : c = 108
            · subst e108
              simp only [if_true]
              refine ⟨by simp only [wf]; exact ⟨by omega, w⟩, by simp only [PyData.depth]; omega, ?_⟩
              rw [show 1 + j + k' = (j + k') + 1 from by omega, List.take_succ_cons, List.take_add, t0, t]
              simp [sl, l]
            · have e117 : c = 117 := by omega
              subst e117
              simp only [if_neg e108]
              refine ⟨by simp only [wf]; exact ⟨by omega, w⟩, by simp only [PyData.depth]; omega, ?_⟩
              rw [show 1 + j + k' = (j + k') + 1 from by omega, List.take_succ_cons, List.take_add, t0, t]
              simp [sl, l]
      · cases h
def rowF : Nat → List Nat → Nat → List (Nat × Nat × PyData) × Option Nat
  | 0, _, _ => ([], none)
  | n + 1, r, o => if r = [] then ([], none) else match rp 20 r with
    | .bad k => ([], some (o + k))
    | .ok d k => ((o, o + k, d) :: (rowF n (r.drop k) (o + k)).1, (rowF n (r.drop k) (o + k)).2)
theorem rp_pos {n : Nat} {r : List Nat} {d : PyData} {k : Nat} (h : rp n r = .ok d k) : 1 ≤ k := by
  cases r with
  | nil => cases n <;> (simp only [rp] at h; cases h)
  | cons c r =>
    unfold rp at h
    split at h
    · cases h; omega
    split at h
    · cases h; omega
    split at h
    · cases h; omega
    split at h
    · obtain ⟨a, k', _, _, rfl⟩ := mapup_ok h; omega
    split at h
    · obtain ⟨a, k', _, _, rfl⟩ := mapup_ok h; omega
    cases n with
    | zero => cases h
    | succ n =>
      simp only at h
      split at h
      · cases hc : ct 0 0 r with
        | bad j => rw [hc] at h; cases h
        | ok m j =>
          rw [hc] at h
          simp only at h
          split at h
          · obtain ⟨a, k', _, _, rfl⟩ := mapup_ok h; omega
          · obtain ⟨a, k', _, _, rfl⟩ := mapup_ok h; omega
      · cases h
theorem rowF_more : ∀ (n m : Nat) (r : List Nat) (o : Nat), r.length < n → r.length < m → rowF n r o = rowF m r o
  | 0, _, _, _, h, _ => by omega
  | _, 0, _, _, _, h => by omega
  | n + 1, m + 1, r, o, h, h' => by
    unfold rowF
    by_cases z : r = []
    · rw [if_pos z, if_pos z]
    · rw [if_neg z, if_neg z]
      cases hx : rp 20 r with
      | bad k => rfl
      | ok d k =>
        have k1 := rp_pos hx
        have rl : r.length ≠ 0 := fun e => z (List.length_eq_zero_iff.mp e)
        have := rowF_more n m (r.drop k) (o + k) (by rw [List.length_drop]; omega) (by rw [List.length_drop]; omega)
        simp only [this]
def rowR (t : List Nat) : List (Nat × Nat × PyData) × Option Nat := rowF (t.length + 1) t 0
/-- what stands in a row -/
def RowOk' (t : List Nat) : Nat → List (Nat × Nat × PyData) → Prop
  | _, [] => True
  | o, (b, e, d) :: rs => b = o ∧ b < e ∧ e ≤ t.length ∧ wf d ∧ d.depth ≤ 20 ∧ (t.drop b).take (e - b) = sl d ∧ RowOk' t e rs
theorem rowF_ok (t : List Nat) : ∀ (n o : Nat), o ≤ t.length → RowOk' t o (rowF n (t.drop o) o).1
  | 0, o, h => trivial
  | n + 1, o, h => by
    unfold rowF
    by_cases z : t.drop o = []
    · rw [if_pos z]; trivial
    · rw [if_neg z]
      cases hx : rp 20 (t.drop o) with
      | bad k => trivial
      | ok d k =>
        have k1 := rp_pos hx
        have kl := rp_len 20 _ _ _ hx
        rw [List.length_drop] at kl
        obtain ⟨w, dd, e⟩ := rp_text 20 _ _ _ hx
        have ih := rowF_ok t n (o + k) (by omega)
        simp only
        rw [List.drop_drop]
        exact ⟨rfl, by omega, by omega, w, dd, by rw [show o + k - o = k from by omega]; exact e, ih⟩
theorem row_ok (t : List Nat) : RowOk' t 0 (rowR t).1 := by
  have := rowF_ok t (t.length + 1) 0 (Nat.zero_le _)
  rwa [List.drop_zero] at this
/-- the row of some values -/
def rowOf : Nat → List PyData → List (Nat × Nat × PyData)
  | _, [] => []
  | o, d :: ds => (o, o + (sl d).length, d) :: rowOf (o + (sl d).length) ds
theorem sl_ne {d : PyData} (h : wf d) (hd : d.depth ≤ 20) : sl d ≠ [] := fun z => by
  have := rp_ok d 20 [] h hd
  rw [z] at this
  have := rp_pos this
  simp at this
theorem rowF_of : ∀ (ds : List PyData) (n o : Nat) (x : List Nat), wfs ds → PyData.depthAll ds ≤ 20 → (sls ds ++ x).length < n → rowF n (sls ds ++ x) o = (rowOf o ds ++ (rowF n x (o + (sls ds).length)).1, (rowF n x (o + (sls ds).length)).2)
  | [], n, o, x, _, _, _ => by simp [sls, rowOf]
  | d :: ds, 0, o, x, _, _, h => by omega
  | d :: ds, n + 1, o, x, w, dd, h => by
    simp only [wfs] at w
    simp only [PyData.depthAll] at dd
    have ne := sl_ne w.1 (by omega)
    have lp : 0 < (sl d).length := List.length_pos_iff.mpr ne
    conv => lhs; unfold rowF
    simp only [sls, List.append_assoc, List.length_append] at h ⊢
    rw [if_neg (by simp [ne]), rp_ok d 20 _ w.1 (by omega)]
    simp only
    rw [List.drop_left, rowF_of ds n _ x w.2 (by omega) (by simp; omega), rowF_more (n + 1) n x (o + ((sl d).length + (sls ds).length)) (by omega) (by omega), Nat.add_assoc]
    rfl
theorem rowR_of {ds : List PyData} (w : wfs ds) (dd : PyData.depthAll ds ≤ 20) : rowR (sls ds) = (rowOf 0 ds, none) := by
  have := rowF_of ds ((sls ds).length + 1) 0 [] w dd (by simp)
  rw [List.append_nil] at this
  unfold rowR
  rw [this]
  simp [rowF]
section
variable {g : Wd} {f : Addr} {fd : FuncData} {C_TextReader CI : Addr}
/-- no string -/
def NoS (H : Hp) (v : V) : Prop := ∃ ty, tyN v H = some ty ∧ ty ≠ "str"
def sp_cstrO (CI : Addr) : Sp := S1 fun z H Q E => NoS H z ∧ ∀ dd, H dd = none → E (.ref CI) (some dd) (upd H dd (.xd [("position", .non)]))
theorem ok_cstrO (F : Df g.K "check_string" "check_string" s_check_string f fd .none) (T : Txt2 g) (X_InvalidText : XK1 g "InvalidText" CI "position") (RI : PySem.W.subIn g.K (.ref CI) (.type "BaseException") = some true ∧ PySem.W.typeIn g.K (.ref CI) = some (.type "type")) : FnG g 3 f fd ["text"] (sp_cstrO CI) := by
  refine F.ok sc_check_string (fun vs H Q E h => S1.len h) (fun cdv A outer s H vs Q E hr h => ?_)
  obtain ⟨v, rfl, ⟨ty, ht, hn⟩, q⟩ := h
  have R_InvalidText := raises_own (X := cx g ["text"] "check_string" s_check_string f cdv A outer s H E) RI.1 RI.2
  refine ⟨_, (pss_one (ps_if (pt_not (pt_val (pe_callB (c_is "str") (by rfl) T.b_isinstance bb_isinstance (pa_cons (pv 0) (pa_cons (pe_bltn (v := .ty "str") rfl T.b_str bb_str rfl) pa_nil))))) (pss_one (ps_raise rfl tkD (pmk_x1 X_InvalidText R_InvalidText (hr.mono (by first | decide | omega)) (pa_cons pe_non pa_nil)))) pss_nil)), ?_⟩
  walk_at "sx"
  refine ⟨ty, ht, ?_⟩
  rw [if_pos (by simp [hn])]
  simp only [tPm1, tRet, tRetN, tSeq, C8.tCut, tNext, tAsg, gName, gNil, gCons, gTup, gFld, tIfS, tIf, tAndV, tOrV, tNotV, tAnd, tOr, tNot, tB, tTest, tOp, tUn, tCB, tCons, tNil, tVar, tC, tChain, tDrop, RS.tCallG, RS.tMethG, tMakeG, RS.tCallK, RS.tMakeK, tEqOwn, rI, rI0, rU, add_ii, add_ss, add_rr, mul_ii, mul_si, mul_ri, RS.eq_ii, RS.eq_ss, eq_bb, eq_nn, eq_sn, eq_ns, eq_in, eq_ni, eq_bn, eq_nb, eq_is, eq_si, eq_rr, ne_ii, ne_ss, ne_bb, ne_nn, ne_sn, ne_ns, ne_in, ne_ni, ne_is, ne_si, ne_rr, in_ss, in_r, nin_ss, nin_r, len_s, len_r, RS.ix_s, RS.ix_r, sl_s, sl_r, is_eq, tyN_n, tyN_b, tyN_i, tyN_s, tru_b, tru_i, tru_n, tSl, tPart, tNoPart, tPar, tPar3, tFmtZ, tFmt, tJs, tDGet, sDPut, sFld, tFld, tTup, tLst, tNever, isB,
  L2.start, List.map_cons, List.map_nil, List.length_cons, List.length_nil, Nat.reduceAdd, Nat.reduceSub, Nat.sub_self, List.replicate_zero, List.replicate_succ, List.append_nil, List.cons_append, List.nil_append, List.getElem?_cons_zero, List.getElem?_cons_succ, List.set_cons_zero, List.set_cons_succ, Option.some.injEq, exists_eq_left, exists_eq_left', exists_and_left, V.bl.injEq, V.int.injEq, V.str.injEq, V.ref.injEq, beq_self_eq_true, Bool.true_or, Bool.or_true, Bool.false_or, Bool.or_false, Bool.and_false, Bool.false_and, Bool.true_and, Bool.and_true, Bool.not_true, Bool.not_false, Bool.false_eq_true, if_true, if_false, ite_true, ite_false, true_and, and_true, and_assoc, String.reduceBEq, String.reduceEq, reduceIte, Bool.and_self, reduceCtorEq, false_and, and_false, exists_false, or_false, false_or, exists_const, iEnumS, iStr, iList, iTup, iRng1, iEnum, tFor_eq, tLc_eq, List.cons.injEq, wipe, not_true_eq_false, not_false_eq_true, upd_same, HO.ins.injEq, HO.tup.injEq, HO.lst.injEq, ofS_eq, lk_nil, lk_cons, pu_nil, pu_cons, sizeLine_eq, Nat.reduceLT, Nat.reduceLeDiff, Nat.reduceEqDiff, Nat.le_refl, decide_true, decide_false, tPr, dget_us, dput_us, vv_nil, vv_cons, RS.pk_nil, pk_one, RS.pk_cons, inr_eq, tDisp, tPairs, tBoolOwn, rBoolOwn, tBM, rAppend, ty_list, ty_str, rEqOwn, iEnumT, RS.tCallS, tM1, tDc_eq, tLock, tLockE, iKeys, tListEnum, rUpdate, tMkX0, tMkX1, tXfv, gSub, rSetL, List.getD_cons_zero, List.getD_cons_succ, tBreak, tCMethS, ClX.tCVal, tXfa, tIxOwn, tInOwn, tPropG, tMethK, tMethP, tListGen, tDGet2, tDPop2, rNeD0, intA_i, intA_b, tRevL, sFldAug, tPm0, tPm1, tDIn, tDNotIn, tDNewK, RS.tMethS, tForK, tKM, tKC, tLcK, tKM2, tKC2, tMethStar, tKCK2, tLk, tAug, ipI, tDig, tLcX, tKMX, tKCX, tForY, tKCY, tKMY, tYThen, tYPlain, tYYield, tY0, tYIf, GKE.at, tListX]
  exact q
end
local macro_rules | `(tactic| walk_at "sx") => `(tactic| simp only [tRet, tRetN, tSeq, C8.tCut, tNext, tAsg, gName, gNil, gCons, gTup, gFld, tIfS, tIf, tAndV, tOrV, tNotV, tAnd, tOr, tNot, tB, tTest, tOp, tUn, tCB, tCons, tNil, tVar, tC, tChain, tDrop, RS.tCallG, RS.tMethG, tMakeG, RS.tCallK, RS.tMakeK, tEqOwn, rI, rI0, rU, add_ii, add_ss, add_rr, mul_ii, mul_si, mul_ri, RS.eq_ii, RS.eq_ss, eq_bb, eq_nn, eq_sn, eq_ns, eq_in, eq_ni, eq_bn, eq_nb, eq_is, eq_si, eq_rr, ne_ii, ne_ss, ne_bb, ne_nn, ne_sn, ne_ns, ne_in, ne_ni, ne_is, ne_si, ne_rr, in_ss, in_r, nin_ss, nin_r, len_s, len_r, RS.ix_s, RS.ix_r, sl_s, sl_r, is_eq, tyN_n, tyN_b, tyN_i, tyN_s, tru_b, tru_i, tru_n, tSl, tPart, tNoPart, tPar, tPar3, tFmtZ, tFmt, tJs, tDGet, sDPut, sFld, tFld, tTup, tLst, tNever, isB,
  L2.start, List.map_cons, List.map_nil, List.length_cons, List.length_nil, Nat.reduceAdd, Nat.reduceSub, Nat.sub_self, List.replicate_zero, List.replicate_succ, List.append_nil, List.cons_append, List.nil_append, List.getElem?_cons_zero, List.getElem?_cons_succ, List.set_cons_zero, List.set_cons_succ, Option.some.injEq, exists_eq_left, exists_eq_left', exists_and_left, V.bl.injEq, V.int.injEq, V.str.injEq, V.ref.injEq, beq_self_eq_true, Bool.true_or, Bool.or_true, Bool.false_or, Bool.or_false, Bool.and_false, Bool.false_and, Bool.true_and, Bool.and_true, Bool.not_true, Bool.not_false, Bool.false_eq_true, if_true, if_false, ite_true, ite_false, true_and, and_true, and_assoc, String.reduceBEq, String.reduceEq, reduceIte, Bool.and_self, reduceCtorEq, false_and, and_false, exists_false, or_false, false_or, exists_const, iEnumS, iStr, iList, iTup, iRng1, iEnum, tFor_eq, tLc_eq, List.cons.injEq, wipe, not_true_eq_false, not_false_eq_true, upd_same, HO.ins.injEq, HO.tup.injEq, HO.lst.injEq, ofS_eq, lk_nil, lk_cons, pu_nil, pu_cons, sizeLine_eq, Nat.reduceLT, Nat.reduceLeDiff, Nat.reduceEqDiff, Nat.le_refl, decide_true, decide_false, tPr, dget_us, dput_us, vv_nil, vv_cons, RS.pk_nil, pk_one, RS.pk_cons, inr_eq, tDisp, tPairs, tBoolOwn, rBoolOwn, tBM, rAppend, ty_list, ty_str, rEqOwn, iEnumT, RS.tCallS, tM1, tDc_eq, tLock, tLockE, iKeys, tListEnum, rUpdate, tMkX0, tMkX1, tXfv, gSub, rSetL, List.getD_cons_zero, List.getD_cons_succ, tBreak, tCMethS, ClX.tCVal, tXfa, tIxOwn, tInOwn, tPropG, tMethK, tMethP, tListGen, tDGet2, tDPop2, rNeD0, intA_i, intA_b, tRevL, sFldAug, tPm0, tPm1, tDIn, tDNotIn, tDNewK, RS.tMethS, tForK, tKM, tKC, tLcK, tKM2, tKC2, tMethStar, tKCK2, tLk, tAug, ipI, tDig, tLcX, tKMX, tKCX, tForY, tKCY, tKMY, tYThen, tYPlain, tYYield, tY0, tYIf, GKE.at, tListX])
/-- cells do not go away -/
def Gro (H H' : Hp) : Prop := ∀ c, H' c = none → H c = none
theorem Gro.of {H H' : Hp} (s : Same H H') : Gro H H' := fun c z => by
  cases e : H c with
  | none => rfl
  | some o => rw [s _ _ e] at z; cases z
theorem Gro.trans {H H1 H2 : Hp} (a : Gro H H1) (b : Gro H1 H2) : Gro H H2 := fun c z => a c (b c z)
theorem Gro.but {H H' : Hp} {y : Addr} {o : HO} (s : But y H H') (e : H' y = some o) : Gro H H' := fun c z => by
  cases q : H c with
  | none => rfl
  | some u =>
    by_cases cy : c = y
    · rw [cy, e] at z; cases z
    · rw [s _ _ cy q] at z; cases z
section
variable {g : Wd} {f : Addr} {fd : FuncData} {C_TextReader CI : Addr}
theorem sc_values_in : GScope ["text", "reader", "begin", "value"] ["text"] (defScope s_values_in) := ⟨rfl, rfl, rfl, by decide +kernel, rfl, by decide +kernel, by decide +kernel⟩
def sp_vin (C CI : Addr) : SpY := fun vs H k0 yl fin ex => (∃ t, vs = [.str (S t)] ∧ t.length ≤ 1000000 ∧ ∀ y dy, H y = none → ∃ Pv : Nat → L2.St → Hp → Prop, (∀ H0, Same H H0 → Rd C H0 y dy t 0 → Pv 0 k0 H0) ∧ (∀ j k H1 H2 a, Pv j k H1 → Rd C H1 y dy t a → But y H1 H2 → Pv j k H2) ∧
    (∀ j b e d k H1 T v fp, (rowR t).1[j]? = some (b, e, d) → Pv j k H1 → H1 T = some (.tup [.int (b : Nat), .int (e : Nat), v]) → T ≠ y → Tr H1 v d fp → y ∉ fp → (∀ c ∈ fp, H c = none) → Rd C H1 y dy t e →
      ∀ res : L2.St → Hp → Prop, (∀ k' H', Pv (j + 1) k' H' → Rd C H' y dy t e → Gro H1 H' → res k' H') → yl j k (.ref T) H1 res) ∧
    match (rowR t).2 with
    | none => ∀ k H1, Pv (rowR t).1.length k H1 → fin k H1
    | some w => ∀ k H1 dd, Pv (rowR t).1.length k H1 → H1 dd = some (.xd [("position", .int (w : Nat))]) → ex k (.ref CI) (some dd) H1) ∨
  ∃ v, vs = [v] ∧ NoS H v ∧ ∀ dd, H dd = none → ex k0 (.ref CI) (some dd) (upd H dd (.xd [("position", .non)]))
theorem ok_vin (F : Df g.K "values_in" "values_in" s_values_in f fd .none) (T : Txt2 g) (R : RF g C_TextReader) (CL_TextReader : Cls g.K C_TextReader) (F_check_string : Kn g "check_string" 3 ["text"] [] (SpOr sp_cstr (sp_cstrO CI))) (F_TextReader : Kc g "TextReader" C_TextReader 1 ["self", "text"] [] (sp_rinit C_TextReader)) (M_TextReader_read_part : Km g C_TextReader "read_part" 46 ["self", "depth"] [] (sp_part C_TextReader CI 20)) (M_TextReader_is_done : Km g C_TextReader "is_done" 1 ["self"] [] (sp_done C_TextReader)) : GKnY g.P g.w g.K g.mg g.base 47 f fd ["text"] (sp_vin C_TextReader CI) := by
  refine gknY_of F sc_values_in (by decide +kernel) fun cdv A outer s H vs pn hr => ⟨_, (gys_cons (gy_ps (fun _ _ _ => (ps_expr (pe_callG F_check_string (Rm.mono (Rm.mk hr.room hr.gd) (by first | decide | omega)) takes_y (pa_cons (pv 0) pa_nil))))) (gys_cons (gy_ps (fun _ _ _ => (ps_set (i := 1) sc_values_in.nd rfl (Or.inl rfl) (pe_makeG F_TextReader (Rm.mono (Rm.mk hr.room hr.gd) (by first | decide | omega)) takes_y (pa_cons (pv 0) pa_nil))))) (gys_cons (gy_while (fun _ _ _ => (pt_not (pt_val (pe_methG0 (pv 1) CL_TextReader M_TextReader_is_done (Rm.mono (Rm.mk hr.room hr.gd) (by first | decide | omega)) takes_y)))) (gys_cons (gy_ps (fun _ _ _ => (ps_set (i := 2) sc_values_in.nd rfl (Or.inl rfl) (e_fld (K := g.K) (pv 1))))) (gys_cons (gy_ps (fun _ _ _ => (ps_set (i := 3) sc_values_in.nd rfl (Or.inl rfl) (pe_methG (pv 1) CL_TextReader M_TextReader_read_part (Rm.mono (Rm.mk hr.room hr.gd) (by first | decide | omega)) takes_y (pa_cons pe_int pa_nil))))) (gys_cons (gy_yield (fun _ _ _ => (pe_tup (pa_cons (pv 2) (pa_cons (e_fld (K := g.K) (pv 1)) (pa_cons (pv 3) pa_nil)))))) gys_nil)))) gys_nil))), fun k0 yl fin ex h => ?_⟩
  rcases h with ⟨t, rfl, tl, h⟩ | ⟨v, rfl, nS, hx⟩
  · walk_at "sx"
    refine .inl ⟨_, rfl, _, rfl, fun y dy ny ndy ne => ?_⟩
    refine ⟨_, _, rfl, y, dy, t, rfl, rfl, upd_same, fun G b hG => ⟨rfl, ?_⟩⟩
    have sG : Same H G := fun c o z => by
      have cy : c ≠ y := ne_of_none z ny
      exact b c o cy (by rw [upd_ne cy, upd_ne (ne_of_none z ndy)]; exact z)
    obtain ⟨Pv, p0, ps, py, pe⟩ := h y dy ny
    refine ⟨fun m i k σ G => ∃ a v2 v3, σ = [some (.str (S t)), some (.ref y), v2, v3] ∧ a ≤ t.length ∧ Rd C_TextReader G y dy t a ∧ Pv i k G ∧ Gro H G ∧ i ≤ a ∧ i ≤ (rowR t).1.length ∧ (∃ n, (t.drop a).length < n ∧ rowF n (t.drop a) a = ((rowR t).1.drop i, (rowR t).2)) ∧ m = t.length + 1 - a, ⟨_, 0, none, none, rfl, Nat.zero_le _, hG, p0 _ sG hG, Gro.of sG, Nat.le_refl _, Nat.zero_le _, ⟨t.length + 1, by simp, by rw [List.drop_zero, List.drop_zero]; rfl⟩, rfl⟩, ?_⟩
    rintro m i k _ G ⟨a, v2, v3, rfl, al, hG, hP, gG, ia, il, ⟨n, ln, hrow⟩, rfl⟩
    have hG' := hG
    unfold Rd at hG'
    walk_at "sx"
    (simp only [hG']; (try walk_at "sx"); (try simp only [R.cls, R.n1, R.n2, true_and]); (try walk_at "lt"); (try walk_at "sx"))
    refine ⟨_, rfl, y, dy, t, a, rfl, hG, by omega, _, rfl, ?_⟩
    obtain ⟨n, rfl⟩ : ∃ x, n = x + 1 := ⟨n - 1, by omega⟩
    unfold rowF at hrow
    by_cases dn : t.length ≤ a
    · rw [decide_eq_true dn, if_neg (by decide)]
      rw [if_pos (by rw [List.drop_eq_nil_iff]; exact dn)] at hrow
      obtain ⟨h1, h2⟩ := Prod.mk.inj hrow
      have i1 : i = (rowR t).1.length := by
        have := List.drop_eq_nil_iff.mp h1.symm
        omega
      rw [← h2] at pe
      exact pe k G (i1 ▸ hP)
    · rw [decide_eq_false dn, if_pos (by decide)]
      rw [if_neg (by rw [List.drop_eq_nil_iff]; exact dn)] at hrow
      refine ⟨_, fun i' k' σ' H' z => z, ?_⟩
      refine ⟨_, _, _, hG', R.cls, R.n2, _, lk_at, _, _, hG', lk_no, ?_⟩
      refine ⟨_, _, rfl, y, dy, t, a, rfl, by rfl, by decide, hG, by omega, al, ?_⟩
      cases hx : rp 20 (t.drop a) with
      | bad k' =>
        rw [hx] at hrow
        obtain ⟨h1, h2⟩ := Prod.mk.inj hrow
        have i1 : i = (rowR t).1.length := by
          have := List.drop_eq_nil_iff.mp h1.symm
          omega
        rw [← h2] at pe
        exact fun dd H' b h => pe k H' dd (ps _ _ _ _ _ (i1 ▸ hP) hG b) h
      | ok d k' =>
        rw [hx] at hrow
        obtain ⟨h1, h2⟩ := Prod.mk.inj hrow
        have k1 := rp_pos hx
        have kl := rp_len 20 _ _ _ hx
        rw [List.length_drop] at kl ln
        intro v fp H2 tv nv bv rv
        have rv' := rv
        unfold Rd at rv'
        refine ⟨by omega, _, _, _, rv', R.cls, R.n2, _, lk_at, fun p np => ?_⟩
        have sp := same_upd (o := HO.tup [V.int (a : Nat), V.int ((a + k' : Nat) : Int), v]) np
        have pny : p ≠ y := fun z => by rw [z, rv'] at np; cases np
        have at1 : (rowR t).1[i]? = some (a, a + k', d) := by
          have : ((rowR t).1.drop i)[0]? = some (a, a + k', d) := by rw [← h1]; rfl
          rwa [List.getElem?_drop, Nat.add_zero] at this
        have il2 : i < (rowR t).1.length := (List.getElem?_eq_some_iff.mp at1).1
        have g2 : Gro H (upd H2 p (.tup [V.int (a : Nat), V.int ((a + k' : Nat) : Int), v])) := gG.trans ((Gro.but bv rv').trans (Gro.of sp))
        refine py i a (a + k') d k _ p v fp at1 (ps _ _ _ _ _ hP hG (bv.trans (But.of sp))) upd_same pny (tv.same sp) (fun z => by rw [nv y z] at hG'; cases hG') (fun c hc => gG c (nv c hc)) (sp _ _ rv') _ fun k2 H3 hP3 hR3 g3 => ?_
        refine ⟨t.length + 1 - (a + k'), by omega, a + k', _, _, rfl, by omega, hR3, hP3, g2.trans g3, by omega, by omega, ⟨n, by rw [List.length_drop]; omega, ?_⟩, rfl⟩
        rw [List.drop_drop] at h1 h2
        have e1 : (rowR t).1.drop (i + 1) = (rowF n (t.drop (a + k')) (a + k')).1 := by
          have := congrArg (List.drop 1) h1
          rw [List.drop_drop] at this
          exact this.symm
        rw [e1, ← h2]
  · walk_at "sx"
    exact .inr ⟨_, rfl, nS, hx⟩
end
open TL (numL numL_lt numL_step numL_digits numL_ne numL_val)
/-- the value of some digits -/
def dval (ds : List Nat) : Nat := NumText.digitsVal ds
theorem dval_snoc (ds : List Nat) (c : Nat) : dval (ds ++ [c]) = 10 * dval ds + (c - 48) := by simp [dval, NumText.digitsVal, Nat.mul_comm]
/-- the number of an end, behind its letter -/
def numIn (r : List Nat) : Option Nat :=
  if r.getLast? = some 59 ∧ 2 ≤ r.length ∧ r.dropLast.all isDig = true ∧ ¬ (2 < r.length ∧ r.head? = some 48) ∧ r.length ≤ 101 then some (dval r.dropLast) else none
theorem numL_dval : ∀ (n : Nat) (ds : List Nat), ds.length = n → ds ≠ [] → ds.all isDig = true → (2 ≤ ds.length → ds.head? ≠ some 48) → numL (dval ds) = ds ∧ (ds.head? ≠ some 48 → dval ds ≠ 0)
  | 0, ds, l, ne, _, _ => absurd (List.length_eq_zero_iff.mp l) ne
  | n + 1, ds, l, ne, al, hd => by
    obtain ⟨es, c, rfl⟩ : ∃ es c, ds = es ++ [c] := ⟨ds.dropLast, ds.getLast ne, (List.dropLast_concat_getLast ne).symm⟩
    rw [List.all_append, Bool.and_eq_true] at al
    obtain ⟨d, d10, rfl⟩ := dig_of (c := c) (by simpa using al.2)
    rw [dval_snoc, show 48 + d - 48 = d from by omega]
    by_cases e0 : es = []
    · subst e0
      refine ⟨by rw [show dval [] = 0 from rfl, show 10 * 0 + d = d from by omega, numL_lt d10]; rfl, fun h => ?_⟩
      rw [show dval [] = 0 from rfl]
      simp at h
      omega
    · have hh : (es ++ [48 + d]).head? = es.head? := by cases es with
        | nil => exact absurd rfl e0
        | cons x xs => rfl
      have l1 : 1 ≤ es.length := by cases es with
        | nil => exact absurd rfl e0
        | cons x xs => simp
      have h48 : es.head? ≠ some 48 := by rw [← hh]; exact hd (by simp; omega)
      obtain ⟨a, b⟩ := numL_dval n es (by simpa using l) e0 al.1 (fun _ => h48)
      have nz := b h48
      rw [num_more nz d10, a]
      exact ⟨rfl, fun _ => by omega⟩
theorem numIn_text {r : List Nat} {n : Nat} (h : numIn r = some n) : r = numL n ++ [59] := by
  unfold numIn at h
  split at h
  · rename_i c
    obtain ⟨c1, c2, c3, c4, c5⟩ := c
    cases h
    have ne : r ≠ [] := fun z => by rw [z] at c1; cases c1
    have e : r = r.dropLast ++ [59] := by
      have := List.dropLast_concat_getLast ne
      rw [List.getLast?_eq_getLast ne] at c1
      rw [Option.some.inj c1] at this
      exact this.symm
    have dl : r.dropLast.length = r.length - 1 := List.length_dropLast
    have ne2 : r.dropLast ≠ [] := fun z => by rw [z] at dl; simp at dl; omega
    have hh : 2 ≤ r.dropLast.length → r.dropLast.head? ≠ some 48 := fun l2 z => c4 ⟨by omega, by
      rw [e]
      cases hx : r.dropLast with
      | nil => exact absurd hx ne2
      | cons x xs => rw [hx] at z; simpa using z⟩
    rw [(numL_dval _ _ rfl ne2 c3 hh).1]
    exact e
  · cases h
theorem all_dig (n : Nat) : (numL n).all isDig = true := by
  rw [List.all_eq_true]
  intro c hc
  have h := numL_digits n c hc
  simp only [isDig, Bool.and_eq_true, decide_eq_true_eq]
  omega
theorem dval_numL (n : Nat) : dval (numL n) = n := by
  induction n using Nat.strongRecOn with
  | ind n ih =>
    by_cases lt : n < 10
    · rw [numL_lt lt]
      simp [dval, NumText.digitsVal]
    · rw [numL_step (by omega), dval_snoc, ih (n / 10) (by omega)]
      omega
theorem numIn_num {n : Nat} (h : (numL n).length ≤ 100) : numIn (numL n ++ [59]) = some n := by
  have ne := numL_ne n
  have l1 : 1 ≤ (numL n).length := by cases hx : numL n with
    | nil => exact absurd hx ne
    | cons x xs => simp
  unfold numIn
  rw [if_pos, List.dropLast_concat, dval_numL]
  refine ⟨by simp, by simp; omega, by rw [List.dropLast_concat]; exact all_dig n, fun ⟨z, z2⟩ => ?_, by simp; omega⟩
  have n0 : n ≠ 0 := fun e => by subst e; rw [numL_lt (by decide)] at z; simp at z
  obtain ⟨c, r, e, c48, _⟩ := num_head n0
  rw [e] at z2
  simp at z2
  exact c48 z2
/-- the values of a row of texts -/
def rowD (t : List Nat) : Option (List PyData) := match (rowR t).2 with
  | none => some ((rowR t).1.map (·.2.2))
  | some _ => none
theorem rowF_all : ∀ (n : Nat) (r : List Nat) (o : Nat), r.length < n → (rowF n r o).2 = none → r = sls ((rowF n r o).1.map (·.2.2)) ∧ wfs ((rowF n r o).1.map (·.2.2)) ∧ PyData.depthAll ((rowF n r o).1.map (·.2.2)) ≤ 20
  | 0, _, _, h, _ => by omega
  | n + 1, r, o, h, z => by
    unfold rowF at z ⊢
    by_cases e : r = []
    · rw [if_pos e]
      subst e
      exact ⟨rfl, trivial, by simp [PyData.depthAll]⟩
    · rw [if_neg e] at z ⊢
      cases hx : rp 20 r with
      | bad k => rw [hx] at z; cases z
      | ok d k =>
        rw [hx] at z
        have k1 := rp_pos hx
        have kl := rp_len 20 _ _ _ hx
        obtain ⟨w, dd, et⟩ := rp_text 20 _ _ _ hx
        obtain ⟨a, b, c⟩ := rowF_all n (r.drop k) (o + k) (by rw [List.length_drop]; omega) z
        simp only [List.map_cons, sls, wfs, PyData.depthAll]
        refine ⟨?_, ⟨w, b⟩, by omega⟩
        rw [← a, ← et, List.take_append_drop]
theorem rowD_text {t : List Nat} {ds : List PyData} (h : rowD t = some ds) : t = sls ds ∧ wfs ds ∧ PyData.depthAll ds ≤ 20 := by
  unfold rowD at h
  split at h
  · rename_i e
    cases h
    exact rowF_all _ _ _ (by omega) e
  · cases h
theorem rowOf_map : ∀ (ds : List PyData) (o : Nat), (rowOf o ds).map (·.2.2) = ds
  | [], _ => rfl
  | d :: ds, o => by simp [rowOf, rowOf_map ds]
theorem rowD_sls {ds : List PyData} (w : wfs ds) (dd : PyData.depthAll ds ≤ 20) : rowD (sls ds) = some ds := by
  unfold rowD
  rw [rowR_of w dd]
  simp [rowOf_map]
def keyOk (k : Str) : Bool := decide (1 ≤ k.length) && decide (k.length ≤ 200)
abbrev Deed := Str × Option PyData
def pcs : List PyData → Option (List Deed)
  | [] => some []
  | .bool true :: .str k :: d :: r => if keyOk k then (pcs r).map fun ps => (k, some d) :: ps else none
  | .bool false :: .str k :: r => if keyOk k then (pcs r).map fun ps => (k, none) :: ps else none
  | _ => none
def rawD : List Deed → List PyData
  | [] => []
  | (k, some d) :: r => .bool true :: .str k :: d :: rawD r
  | (k, none) :: r => .bool false :: .str k :: rawD r
theorem pcs_raw : ∀ (ds : List PyData) (ps : List Deed), pcs ds = some ps → ds = rawD ps ∧ ∀ p ∈ ps, keyOk p.1 = true
  | [], ps, h => by cases h; exact ⟨rfl, by simp⟩
  | .bool true :: .str k :: d :: r, ps, h => by
    unfold pcs at h
    split at h
    · rename_i hk
      cases hr : pcs r with
      | none => rw [hr] at h; cases h
      | some qs =>
        rw [hr] at h; cases h
        obtain ⟨a, b⟩ := pcs_raw r qs hr
        refine ⟨by rw [rawD, ← a], fun p hp => ?_⟩
        rcases List.mem_cons.mp hp with rfl | z
        · exact hk
        · exact b p z
    · cases h
  | .bool false :: .str k :: r, ps, h => by
    unfold pcs at h
    split at h
    · rename_i hk
      cases hr : pcs r with
      | none => rw [hr] at h; cases h
      | some qs =>
        rw [hr] at h; cases h
        obtain ⟨a, b⟩ := pcs_raw r qs hr
        refine ⟨by rw [rawD, ← a], fun p hp => ?_⟩
        rcases List.mem_cons.mp hp with rfl | z
        · exact hk
        · exact b p z
    · cases h
theorem raw_pcs : ∀ (ps : List Deed), (∀ p ∈ ps, keyOk p.1 = true) → pcs (rawD ps) = some ps
  | [], _ => rfl
  | (k, some d) :: r, h => by
    have ih := raw_pcs r fun p hp => h p (List.mem_cons_of_mem _ hp)
    have hk := h _ (List.mem_cons_self ..)
    simp only [rawD, pcs, ih]
    rw [if_pos hk]; rfl
  | (k, none) :: r, h => by
    have ih := raw_pcs r fun p hp => h p (List.mem_cons_of_mem _ hp)
    have hk := h _ (List.mem_cons_self ..)
    simp only [rawD, pcs, ih]
    rw [if_pos hk]; rfl
inductive Rdg where
  | strange
  | fin (n : Nat)
  | copy (k : Str) (d : PyData)
  | batch (ps : List Deed)
def cpy : List PyData → Rdg
  | [.str k, d] => if keyOk k then .copy k d else .strange
  | _ => .strange
def rdg (t : List Nat) : Rdg := match t with
  | 101 :: r => match numIn r with
    | some n => .fin n
    | none => .strange
  | 98 :: r => match (rowD r).bind pcs with
    | some ps => .batch ps
    | none => .strange
  | 99 :: r => match rowD r with
    | some ds => cpy ds
    | none => .strange
  | _ => .strange
/-- the text that says it -/
def txt : Rdg → List Nat
  | .strange => []
  | .fin n => 101 :: (numL n ++ [59])
  | .copy k d => 99 :: (sl (.str k) ++ sl d)
  | .batch ps => 98 :: sls (rawD ps)
/-- what is told can be written -/
def RdW : Rdg → Prop
  | .strange => True
  | .fin n => (numL n).length ≤ 100
  | .copy k d => keyOk k = true ∧ wf d ∧ d.depth ≤ 20
  | .batch ps => (∀ p ∈ ps, keyOk p.1 = true) ∧ wfs (rawD ps) ∧ PyData.depthAll (rawD ps) ≤ 20
theorem rdg_text {t : List Nat} : rdg t = .strange ∨ (txt (rdg t) = t ∧ RdW (rdg t)) := by
  unfold rdg
  split
  · rename_i r
    cases h : numIn r with
    | none => exact .inl rfl
    | some n =>
      have e := numIn_text h
      have : (numL n).length ≤ 100 := by
        unfold numIn at h
        split at h
        · rename_i c
          have := c.2.2.2.2
          rw [e] at this
          simp at this
          omega
        · cases h
      exact .inr ⟨by show 101 :: _ = _; rw [← e], this⟩
  · rename_i r
    cases h : rowD r with
    | none => exact .inl rfl
    | some ds =>
      show (match pcs ds with | some ps => Rdg.batch ps | none => .strange) = _ ∨ _
      obtain ⟨a, b, c⟩ := rowD_text h
      simp only [Option.bind_some]
      cases hp : pcs ds with
      | none => exact .inl rfl
      | some ps =>
        obtain ⟨e, k⟩ := pcs_raw ds ps hp
        refine .inr ⟨?_, k, e ▸ b, e ▸ c⟩
        show 98 :: sls (rawD ps) = _
        rw [← e, ← a]
  · rename_i r
    cases h : rowD r with
    | none => exact .inl rfl
    | some ds =>
      obtain ⟨a, b, c⟩ := rowD_text h
      simp only
      unfold cpy
      split
      · rename_i k d
        split
        · rename_i hk
          refine .inr ⟨?_, hk, b.2.1, ?_⟩
          · rw [a]
            simp [txt, sls]
          · simp only [PyData.depthAll] at c
            omega
        · exact .inl rfl
      · exact .inl rfl
  · exact .inl rfl
theorem rdg_txt {x : Rdg} (w : RdW x) : x = .strange ∨ rdg (txt x) = x := by
  cases x with
  | strange => exact .inl rfl
  | fin n => exact .inr (by show (match numIn _ with | some n => Rdg.fin n | none => .strange) = _; rw [numIn_num w])
  | copy k d =>
    refine .inr ?_
    have hk : k.length ≤ 10000 := by
      have := w.1
      simp only [keyOk, Bool.and_eq_true, decide_eq_true_eq] at this
      omega
    have e : sl (.str k) ++ sl d = sls [.str k, d] := by simp [sls]
    show (match rowD (sl (.str k) ++ sl d) with | some ds => cpy ds | none => .strange) = _
    rw [e, rowD_sls (ds := [.str k, d]) ⟨hk, w.2.1, trivial⟩ (by have := w.2.2; simp only [PyData.depthAll, PyData.depth]; omega)]
    show (if keyOk k then Rdg.copy k d else .strange) = _
    rw [if_pos w.1]
  | batch ps =>
    refine .inr ?_
    show (match (rowD (sls (rawD ps))).bind pcs with | some ps => Rdg.batch ps | none => .strange) = _
    rw [rowD_sls w.2.1 w.2.2, Option.bind_some, raw_pcs ps w.1]
local macro_rules | `(tactic| walk_at "sx") => `(tactic| simp only [tRet, tRetN, tSeq, C8.tCut, tNext, tAsg, gName, gNil, gCons, gTup, gFld, tIfS, tIf, tAndV, tOrV, tNotV, tAnd, tOr, tNot, tB, tTest, tOp, tUn, tCB, tCons, tNil, tVar, tC, tChain, tDrop, RS.tCallG, RS.tMethG, tMakeG, RS.tCallK, RS.tMakeK, tEqOwn, rI, rI0, rU, add_ii, add_ss, add_rr, mul_ii, mul_si, mul_ri, RS.eq_ii, RS.eq_ss, eq_bb, eq_nn, eq_sn, eq_ns, eq_in, eq_ni, eq_bn, eq_nb, eq_is, eq_si, eq_rr, ne_ii, ne_ss, ne_bb, ne_nn, ne_sn, ne_ns, ne_in, ne_ni, ne_is, ne_si, ne_rr, in_ss, in_r, nin_ss, nin_r, len_s, len_r, RS.ix_s, RS.ix_r, sl_s, sl_r, is_eq, tyN_n, tyN_b, tyN_i, tyN_s, tru_b, tru_i, tru_n, tSl, tPart, tNoPart, tPar, tPar3, tFmtZ, tFmt, tJs, tDGet, sDPut, sFld, tFld, tTup, tLst, tNever, isB,
  L2.start, List.map_cons, List.map_nil, List.length_cons, List.length_nil, Nat.reduceAdd, Nat.reduceSub, Nat.sub_self, List.replicate_zero, List.replicate_succ, List.append_nil, List.cons_append, List.nil_append, List.getElem?_cons_zero, List.getElem?_cons_succ, List.set_cons_zero, List.set_cons_succ, Option.some.injEq, exists_eq_left, exists_eq_left', exists_and_left, V.bl.injEq, V.int.injEq, V.str.injEq, V.ref.injEq, beq_self_eq_true, Bool.true_or, Bool.or_true, Bool.false_or, Bool.or_false, Bool.and_false, Bool.false_and, Bool.true_and, Bool.and_true, Bool.not_true, Bool.not_false, Bool.false_eq_true, if_true, if_false, ite_true, ite_false, true_and, and_true, and_assoc, String.reduceBEq, String.reduceEq, reduceIte, Bool.and_self, reduceCtorEq, false_and, and_false, exists_false, or_false, false_or, exists_const, iEnumS, iStr, iList, iTup, iRng1, iEnum, tFor_eq, tLc_eq, List.cons.injEq, wipe, not_true_eq_false, not_false_eq_true, upd_same, HO.ins.injEq, HO.tup.injEq, HO.lst.injEq, ofS_eq, lk_nil, lk_cons, pu_nil, pu_cons, sizeLine_eq, Nat.reduceLT, Nat.reduceLeDiff, Nat.reduceEqDiff, Nat.le_refl, decide_true, decide_false, tPr, dget_us, dput_us, vv_nil, vv_cons, RS.pk_nil, pk_one, RS.pk_cons, inr_eq, tDisp, tPairs, tBoolOwn, rBoolOwn, tBM, rAppend, ty_list, ty_str, rEqOwn, iEnumT, RS.tCallS, tM1, tDc_eq, tLock, tLockE, iKeys, tListEnum, rUpdate, tMkX0, tMkX1, tXfv, gSub, rSetL, List.getD_cons_zero, List.getD_cons_succ, tBreak, tCMethS, ClX.tCVal, tXfa, tIxOwn, tInOwn, tPropG, tMethK, tMethP, tListGen, tDGet2, tDPop2, rNeD0, intA_i, intA_b, tRevL, sFldAug, tPm0, tPm1, tDIn, tDNotIn, tDNewK, RS.tMethS, tForK, tKM, tKC, tLcK, tKM2, tKC2, tMethStar, tKCK2, tLk, tAug, ipI, tDig, tLcX, tKMX, tKCX, tForY, tKCY, tKMY, tYThen, tYPlain, tYYield, tY0, tYIf, GKE.at, tListX])
def vn : Option Nat → V
  | some k => .int (k : Nat)
  | none => .non
theorem endsW (t : List Nat) : Txt.endswith (S t) (Str.ofString ";") = decide (t.getLast? = some 59) := by
  have e1 : (Str.ofString ";").length = 1 := by decide +kernel
  have e2 : (Str.ofString ";").cps.toList = [59] := by decide +kernel
  have e3 : (S t).cps.toList = t := by simp [S]
  unfold Txt.endswith
  rw [StrLaws.subAt_eq, e1, e2, S_len, e3]
  by_cases z : t = []
  · subst z; rfl
  · obtain ⟨q, x, rfl⟩ : ∃ q x, t = q ++ [x] := ⟨t.dropLast, t.getLast z, (List.dropLast_concat_getLast z).symm⟩
    simp only [List.length_append, List.length_cons, List.length_nil, Nat.zero_add, Nat.add_sub_cancel, List.drop_left, List.take_succ_cons, List.take_zero]
    rw [show decide (1 ≤ q.length + 1) = true from by simp, List.getLast?_append]
    simp
    rw [Bool.eq_iff_iff]; simp
theorem sign0 {c : Nat} (z : ({ cps := #[c] } : Str) = Str.ofString "0") : c = 48 := by
  have z2 : ({ cps := #[c] } : Str).cps.toList = (Str.ofString "0").cps.toList := by rw [z]
  rw [show (Str.ofString "0").cps.toList = [48] from by decide +kernel] at z2
  simpa using z2
theorem cut_last (t : List Nat) : cutS (S t) none (some (-1)) = S t.dropLast := by
  unfold cutS
  rw [S_len, List.dropLast_eq_take]
  show (⟨_⟩ : Str) = _
  congr 2
  simp only [HT.sIx]
  rw [if_pos (by decide)]
  simp
  omega
section
variable {g : Wd} {f : Addr} {fd : FuncData} {C_TextReader CI : Addr}
theorem sc_number_in : FnScope ["text", "sign"] ["text"] (defScope s_number_in) := ⟨rfl, rfl, rfl, by decide +kernel, rfl, by decide +kernel, by decide +kernel⟩
def sp_num : Sp := S1 fun z H Q _ => ∃ t, z = .str (S t) ∧ t.length ≤ 1000000 ∧ ∀ H', Same H H' → Q (vn (numIn t)) H'
theorem ok_num (F : Df g.K "number_in" "number_in" s_number_in f fd .none) (T : Txt2 g) : FnG g 1 f fd ["text"] sp_num := by
  refine F.ok sc_number_in (fun vs H Q E h => S1.len h) (fun cdv A outer s H vs Q E hr h => ?_)
  obtain ⟨z, rfl, t, rfl, tl, q⟩ := h
  refine ⟨_, (pss_cons (ps_if (PW.pt (pw_or (pt_not (pt_val (e_bm (K := g.K) PySem.F.plainAttrs_str PySem.F.slot_str_endswith PySem.F.type_str_endswith mt_endswith (pv 0) (pa_cons pe_str pa_nil)))) (pw_or (pt_cmpR op_lt (pe_callB (c_len (K := g.K)) (by rfl) T.b_len bb_len (pa_cons (pv 0) pa_nil)) pe_int (nomark _)) (pw_or1 (pt_val (pe_callB (c_any (K := g.K)) (by rfl) T.b_any bb_any (pa_cons (pe_lc (own := [("sign", 1)]) (tt := tYes) rfl sc_number_in.nd (pi_str (pe_slice (o_sl (K := g.K)) (pv 0) po_none (po_some (pe_un un_neg pe_int)))) (blkOk_by (own := [("sign", 1)]) (N := ["text", "sign"]) (sc := defScope s_number_in) (by decide +kernel)) (fun _ _ _ _ _ => (pg_name (i := 1) sc_number_in.nd rfl (.inl rfl))) (fun _ _ _ _ _ => pts_nil) (fun _ _ _ _ _ => (pe_cmpR (o_nin (K := g.K)) (pv 1) pe_str (by rfl)))) pa_nil))))))) (pss_one (ps_ret pe_non)) pss_nil)
      (pss_cons (ps_if (PW.pt (pw_or (PW.pt (pw_and (pt_cmpR op_gt (pe_callB (c_len (K := g.K)) (by rfl) T.b_len bb_len (pa_cons (pv 0) pa_nil)) pe_int (nomark _)) (pw_and1 (pt_cmpR (o_eq (K := g.K) hr) (pe_ix (o_ix (K := g.K)) (pv 0) pe_int (fun _ _ => rfl)) pe_str (nomark _))))) (pw_or1 (pt_cmpR op_gt (pe_callB (c_len (K := g.K)) (by rfl) T.b_len bb_len (pa_cons (pv 0) pa_nil)) pe_int (nomark _))))) (pss_one (ps_ret pe_non)) pss_nil)
      (pss_one (ps_ret (pe_callTy c_intA (by rfl) T.b_int bb_int (pa_cons (pe_slice (o_sl (K := g.K)) (pv 0) po_none (po_some (pe_un un_neg pe_int))) pa_nil)))))), ?_⟩
  walk_at "sx"
  rw [endsW]
  by_cases c1 : t.getLast? = some 59
  rotate_left
  · rw [if_pos (by simp [c1])]
    have := q H (Same.refl _)
    rwa [show numIn t = none from if_neg fun z => c1 z.1] at this
  rw [if_neg (by simp [c1]), S_len]
  refine ⟨by omega, ?_⟩
  by_cases c2 : 2 ≤ t.length
  rotate_left
  · rw [if_pos (by rw [decide_eq_true_eq]; omega)]
    have := q H (Same.refl _)
    rwa [show numIn t = none from if_neg fun z => c2 z.2.1] at this
  rw [if_neg (by rw [decide_eq_true_eq]; omega)]
  refine ⟨by omega, ?_⟩
  rw [cut_last]
  have dl : t.dropLast.length = t.length - 1 := List.length_dropLast
  have fin : ∀ (b : Bool) H', Same H H' → b = (t.dropLast.all isDig) → (if (!b) = true then Q V.non H'
      else t.length ≤ 16777216 ∧ if decide (2 < (t.length : Int)) = true then t.length ≤ 16777216 ∧ ∃ c, atI t 0 = some c ∧ if decide (({ cps := #[c] } : Str) = Str.ofString "0") = true then Q V.non H' else t.length ≤ 16777216 ∧ if decide (101 < (t.length : Int)) = true then Q V.non H' else t.length ≤ 16777216 ∧ rIntA [V.str (S t.dropLast)] H' Q
        else t.length ≤ 16777216 ∧ if decide (101 < (t.length : Int)) = true then Q V.non H' else t.length ≤ 16777216 ∧ rIntA [V.str (S t.dropLast)] H' Q) := by
    intro b H' sm eb
    have qn : ∀ z : numIn t = none, Q .non H' := fun z => by have := q H' sm; rwa [z] at this
    by_cases c3 : t.dropLast.all isDig = true
    rotate_left
    · rw [if_pos (by rw [eb]; simpa using c3)]
      exact qn (if_neg fun z => c3 z.2.2.1)
    rw [if_neg (by rw [eb, c3]; decide)]
    refine ⟨by omega, ?_⟩
    have last : t.length ≤ 16777216 ∧ (¬ (2 < t.length ∧ t.head? = some 48) → if decide (101 < (t.length : Int)) = true then Q V.non H' else t.length ≤ 16777216 ∧ rIntA [V.str (S t.dropLast)] H' Q) := by
      refine ⟨by omega, fun c4 => ?_⟩
      by_cases c5 : t.length ≤ 101
      · rw [if_neg (by rw [decide_eq_true_eq]; omega)]
        have e : numIn t = some (dval t.dropLast) := if_pos ⟨c1, c2, c3, c4, c5⟩
        have := q H' sm
        rw [e] at this
        have al : AllDigits t.dropLast := fun c hc => by
          have := List.all_eq_true.mp c3 c hc
          simpa [isDig] using this
        have ex : (S t.dropLast).cps.toList = t.dropLast := by simp [S]
        refine ⟨by omega, .inr ⟨_, _, rfl, intText_digits (x := S t.dropLast) (by rw [ex]; exact al) (by rw [ex]; intro z; rw [z] at dl; simp at dl; omega) (by rw [S_len]; omega), by rw [S_len]; omega, ?_⟩⟩
        rw [ex]
        exact this
      · rw [if_pos (by rw [decide_eq_true_eq]; omega)]
        exact qn (if_neg fun z => c5 z.2.2.2.2)
    by_cases c6 : 2 < t.length
    · rw [if_pos (by rw [decide_eq_true_eq]; omega)]
      cases t with
      | nil => simp at c6
      | cons c r =>
        refine ⟨by omega, c, atI_nat (xs := c :: r) (j := 0) rfl, ?_⟩
        by_cases c7 : c = 48
        · subst c7
          rw [if_pos (by decide)]
          exact qn (if_neg fun z => z.2.2.2.1 ⟨c6, rfl⟩)
        · rw [if_neg (by rw [decide_eq_true_eq]; intro z; exact c7 (sign0 z))]
          exact ⟨last.1, last.2 fun z => c7 (by simpa using z.2)⟩
    · rw [if_neg (by rw [decide_eq_true_eq]; omega)]
      exact ⟨last.1, last.2 fun z => c6 z.1⟩
  refine lc_all t.dropLast.length (fun i => .bl (!isDig (t.dropLast.getD i 0))) (by rw [sizeLine_eq]; omega) (fun i H lt _ => by simpa [Its] using lt) (fun H _ => by simp [Its]; omega) (fun i H1 x H' K lt s y k => ?_) (fun D H' hD s eD => ?_)
  · obtain ⟨rfl, c, hc, rfl⟩ := y
    have hc' : t.dropLast[i]? = some c := by simpa using hc
    walk_at "sx"
    walk_at "lt"
    have e : hasS { cps := #[c] } (S [48, 49, 50, 51, 52, 53, 54, 55, 56, 57]) = isDig (t.dropLast.getD i 0) := by
      rw [show ({ cps := #[c] } : Str) = S [c] from rfl, has_one, List.getD_eq_getElem?_getD, hc', Bool.eq_iff_iff]
      simp only [isDig, Bool.and_eq_true, decide_eq_true_eq, List.mem_cons, List.not_mem_nil, or_false, Option.getD_some]
      omega
    rw [e]
    exact k _ (Same.refl _)
  · refine ⟨D, (List.range t.dropLast.length).map (fun i => !isDig (t.dropLast.getD i 0)), rfl, SqL.of (by rw [eD, List.map_map]; rfl), ?_⟩
    have e : ((List.range t.dropLast.length).map (fun i => !isDig (t.dropLast.getD i 0))).any id = !t.dropLast.all isDig := by
      rw [Bool.eq_iff_iff]
      simp only [List.any_map, List.any_eq_true, List.mem_range, Function.comp, id, Bool.not_eq_true', List.all_eq_false]
      constructor
      · rintro ⟨i, hi, h⟩
        refine ⟨t.dropLast[i], List.getElem_mem hi, ?_⟩
        rw [List.getD_eq_getElem?_getD, List.getElem?_eq_getElem hi] at h
        simpa using h
      · rintro ⟨c, hc, h⟩
        obtain ⟨i, hi, rfl⟩ := List.mem_iff_getElem.mp hc
        exact ⟨i, hi, by rw [List.getD_eq_getElem?_getD, List.getElem?_eq_getElem hi]; simpa using h⟩
    rw [e]
    refine ⟨_, rfl, ?_⟩
    have := fin (t.dropLast.all isDig) H' s rfl
    exact this
/-- a value and its text, away from some cells -/
def RowV (av : List Addr) (H : Hp) (x : V) (d : PyData) : Prop := ∃ T v fp, x = .ref T ∧ H T = some (.tup [v, .str (spell d)]) ∧ Tr H v d fp ∧ (∀ a ∈ av, a ∉ fp) ∧ T ∉ av
theorem RowV.but {av : List Addr} {H H' : Hp} {a : Addr} {x : V} {r : PyData} (h : RowV av H x r) (m : a ∈ av) (nt : ∀ ys, H a ≠ some (.tup ys)) (s : ∀ c o, c ≠ a → H c = some o → H' c = some o) : RowV av H' x r := by
  obtain ⟨T, v, fp, rfl, h1, h2, h3, h4⟩ := h
  exact ⟨T, v, fp, rfl, s _ _ (fun z => h4 (z ▸ m)) h1, h2.but nt s (h3 a m), h3, h4⟩
theorem RowV.same {av : List Addr} {H H' : Hp} {x : V} {r : PyData} (h : RowV av H x r) (s : Same H H') : RowV av H' x r := by
  obtain ⟨T, v, fp, rfl, h1, h2, h3, h4⟩ := h
  exact ⟨T, v, fp, rfl, s _ _ h1, h2.same s, h3, h4⟩
theorem RowV.less {av av' : List Addr} {H : Hp} {x : V} {r : PyData} (h : RowV av H x r) (m : ∀ a ∈ av', a ∈ av) : RowV av' H x r := by
  obtain ⟨T, v, fp, rfl, h1, h2, h3, h4⟩ := h
  exact ⟨T, v, fp, rfl, h1, h2, fun a z => h3 a (m a z), fun z => h4 (m _ z)⟩
theorem take_at' {α : Type} {xs : List α} {i : Nat} {x : α} (h : xs[i]? = some x) : xs.take (i + 1) = xs.take i ++ [x] := by rw [List.take_add_one, h]; rfl
theorem rowOk_get (t : List Nat) : ∀ (rs : List (Nat × Nat × PyData)) (o i b e : Nat) (d : PyData), RowOk' t o rs → rs[i]? = some (b, e, d) → b < e ∧ e ≤ t.length ∧ (t.drop b).take (e - b) = sl d
  | (b', e', d') :: rs, o, 0, b, e, d, h, he => by
    cases he
    exact ⟨h.2.1, h.2.2.1, h.2.2.2.2.2.1⟩
  | (b', e', d') :: rs, o, i + 1, b, e, d, h, he => rowOk_get t rs _ i b e d h.2.2.2.2.2.2 (by simpa using he)
  | [], _, _, _, _, _, _, he => by simp at he
theorem row_lenF (t : List Nat) : ∀ (n o : Nat), o ≤ t.length → o + (rowF n (t.drop o) o).1.length ≤ t.length
  | 0, o, h => by simpa [rowF] using h
  | n + 1, o, h => by
    unfold rowF
    by_cases z : t.drop o = []
    · rw [if_pos z]; simpa using h
    · rw [if_neg z]
      cases hx : rp 20 (t.drop o) with
      | bad k => simpa using h
      | ok d k =>
        have k1 := rp_pos hx
        have kl := rp_len 20 _ _ _ hx
        rw [List.length_drop] at kl
        have ih := row_lenF t n (o + k) (by omega)
        simp only
        rw [List.drop_drop]
        simp only [List.length_cons]
        omega
theorem row_len (t : List Nat) : (rowR t).1.length ≤ t.length := by
  have := row_lenF t (t.length + 1) 0 (Nat.zero_le _)
  rw [List.drop_zero] at this
  unfold rowR
  omega
theorem sc_row_in : FnScope ["text", "found", "begin", "end", "value"] ["text"] (defScope s_row_in) := ⟨rfl, rfl, rfl, by decide +kernel, rfl, by decide +kernel, by decide +kernel⟩
def sp_row : Sp := S1 fun z H Q E => ∃ t, z = .str (S t) ∧ t.length ≤ 1000000 ∧ match rowD t with
  | none => ∀ H', Same H H' → Q .non H'
  | some ds => ∀ L xs H', Same H H' → H' L = some (.lst xs) → Paired (RowV [] H') xs ds → Q (.ref L) H'
theorem ok_row (F : Df g.K "row_in" "row_in" s_row_in f fd .none) (T : Txt2 g) (GYF_values_in : KgfY g "values_in" 47 ["text"] [] (sp_vin C_TextReader CI)) (hm : g.mg "InvalidText" = some (.ref CI)) (hex : PySem.W.exmOne g.K (.ref CI) (.ref CI) = some true) (RSI : PySem.W.subIn g.K (.ref CI) (.type "StopIteration") = some false) : FnG g 49 f fd ["text"] sp_row := by
  refine F.ok sc_row_in (fun vs H Q E h => S1.len h) (fun cdv A outer s H vs Q E hr h => ?_)
  obtain ⟨_, rfl, t, rfl, tl, q⟩ := h
  have N_InvalidText : Names (cx g ["text", "found", "begin", "end", "value"] "row_in" s_row_in f cdv A outer s H E) "InvalidText" (.ref CI) := ⟨rfl, by decide, .inl hm⟩
  refine ⟨_, (pss_mid (ps_set (i := 1) sc_row_in.nd rfl (Or.inl rfl) (pe_lst pa_nil))
      (pss_mid (ps_try_many rfl rfl tkD (fun W pn xe tk1 po1 => (pss_one (ps_forY po1 (Rm.mono (Rm.mk hr.room hr.gd) (by first | decide | omega)) tk1 (pky_call GYF_values_in (Rm.mono (Rm.mk hr.room hr.gd) (by first | decide | omega)) (pa_cons (pv 0) pa_nil)) (g_tup (K := g.K) (n := 3) (pgs_cons (pg_name (i := 2) sc_row_in.nd rfl (.inl rfl)) (pgs_cons (pg_name (i := 3) sc_row_in.nd rfl (.inl rfl)) (pgs_cons (pg_name (i := 4) sc_row_in.nd rfl (.inl rfl)) pgs_nil)))) (pss_one (ps_expr (e_bm (K := g.K) PySem.F.plainAttrs_list PySem.F.slot_list_append PySem.F.type_list_append mt_append (pv 1) (pa_cons (pe_tup (pa_cons (pv 4) (pa_cons (pe_slice (o_sl (K := g.K)) (pv 0) (po_some (pv 2)) (po_some (pv 3))) pa_nil))) pa_nil))))))) (.cons N_InvalidText (fun a oe cls d pn hz hf => (pss_one (ps_ret pe_non))) .nil))
      (pss_one (ps_ret (pv 1))))), ?_⟩
  refine mid_at (fun σ G => ∃ L, σ = [some (.str (S t)), some (.ref L), none, none, none] ∧ H L = none ∧ Same H G ∧ G L = some (.lst [])) ?_ ?_
  · walk_at "sx"
    intro L hL
    exact ⟨hL, same_upd hL⟩
  rintro _ G ⟨L, rfl, nL, sG, eL⟩
  refine mid_at (fun σ G' => ∃ v2 v3 v4 xs, (rowR t).2 = none ∧ σ = [some (.str (S t)), some (.ref L), v2, v3, v4] ∧ But L G G' ∧ G' L = some (.lst xs) ∧ Paired (RowV [] G') xs ((rowR t).1.map (·.2.2))) ?_ ?_
  · walk_at "sx"
    refine .inl ⟨t, rfl, tl, fun y dy ny => ⟨fun j k G' => ∃ v2 v3 v4 xs, k = [some (.str (S t)), some (.ref L), v2, v3, v4] ∧ But L G G' ∧ G' L = some (.lst xs) ∧ Paired (RowV [y, L] G') xs (((rowR t).1.map (·.2.2)).take j) ∧ xs.length = j ∧ j ≤ (rowR t).1.length, ?_, ?_, ?_, ?_⟩⟩
    · exact fun H0 s0 _ => ⟨_, _, _, [], rfl, But.of s0, s0 _ _ eL, by simpa using Paired.nil, rfl, Nat.zero_le _⟩
    · rintro j k H1 H2 _ ⟨v2, v3, v4, xs, rfl, b1, e1, pr, xl, jl⟩ rd b
      have yL : L ≠ y := fun z => by rw [← z, eL] at ny; cases ny
      unfold Rd at rd
      exact ⟨v2, v3, v4, xs, rfl, fun c o n z => b c o (ne_of_none z ny) (b1 c o n z), b _ _ yL e1, paired_imp pr fun x r h => h.but (by simp) (fun ys z => by rw [rd] at z; cases z) b, xl, jl⟩
    · rintro j b e d k H1 T' v fp hat ⟨v2, v3, v4, xs, rfl, b1, e1, pr, xl, jl⟩ eT nTy tv yf ff rd res hres
      have yL : L ≠ y := fun z => by rw [← z, eL] at ny; cases ny
      have jl2 := (List.getElem?_eq_some_iff.mp hat).1
      have tl2 : (rowR t).1.length ≤ t.length := row_len t
      obtain ⟨be, el, ecut⟩ := rowOk_get t _ _ _ _ _ _ (row_ok t) hat
      refine ⟨T', rfl, _, SqT.of eT, rfl, _, _, rfl, _, _, rfl, _, _, rfl, rfl, ?_⟩
      simp only [tyN_l e1, tRet, tRetN, tSeq, C8.tCut, tNext, tAsg, gName, gNil, gCons, gTup, gFld, tIfS, tIf, tAndV, tOrV, tNotV, tAnd, tOr, tNot, tB, tTest, tOp, tUn, tCB, tCons, tNil, tVar, tC, tChain, tDrop, RS.tCallG, RS.tMethG, tMakeG, RS.tCallK, RS.tMakeK, tEqOwn, rI, rI0, rU, add_ii, add_ss, add_rr, mul_ii, mul_si, mul_ri, RS.eq_ii, RS.eq_ss, eq_bb, eq_nn, eq_sn, eq_ns, eq_in, eq_ni, eq_bn, eq_nb, eq_is, eq_si, eq_rr, ne_ii, ne_ss, ne_bb, ne_nn, ne_sn, ne_ns, ne_in, ne_ni, ne_is, ne_si, ne_rr, in_ss, in_r, nin_ss, nin_r, len_s, len_r, RS.ix_s, RS.ix_r, sl_s, sl_r, is_eq, tyN_n, tyN_b, tyN_i, tyN_s, tru_b, tru_i, tru_n, tSl, tPart, tNoPart, tPar, tPar3, tFmtZ, tFmt, tJs, tDGet, sDPut, sFld, tFld, tTup, tLst, tNever, isB,
  L2.start, List.map_cons, List.map_nil, List.length_cons, List.length_nil, Nat.reduceAdd, Nat.reduceSub, Nat.sub_self, List.replicate_zero, List.replicate_succ, List.append_nil, List.cons_append, List.nil_append, List.getElem?_cons_zero, List.getElem?_cons_succ, List.set_cons_zero, List.set_cons_succ, Option.some.injEq, exists_eq_left, exists_eq_left', exists_and_left, V.bl.injEq, V.int.injEq, V.str.injEq, V.ref.injEq, beq_self_eq_true, Bool.true_or, Bool.or_true, Bool.false_or, Bool.or_false, Bool.and_false, Bool.false_and, Bool.true_and, Bool.and_true, Bool.not_true, Bool.not_false, Bool.false_eq_true, if_true, if_false, ite_true, ite_false, true_and, and_true, and_assoc, String.reduceBEq, String.reduceEq, reduceIte, Bool.and_self, reduceCtorEq, false_and, and_false, exists_false, or_false, false_or, exists_const, iEnumS, iStr, iList, iTup, iRng1, iEnum, tFor_eq, tLc_eq, List.cons.injEq, wipe, not_true_eq_false, not_false_eq_true, upd_same, HO.ins.injEq, HO.tup.injEq, HO.lst.injEq, ofS_eq, lk_nil, lk_cons, pu_nil, pu_cons, sizeLine_eq, Nat.reduceLT, Nat.reduceLeDiff, Nat.reduceEqDiff, Nat.le_refl, decide_true, decide_false, tPr, dget_us, dput_us, vv_nil, vv_cons, RS.pk_nil, pk_one, RS.pk_cons, inr_eq, tDisp, tPairs, tBoolOwn, rBoolOwn, tBM, rAppend, ty_list, ty_str, rEqOwn, iEnumT, RS.tCallS, tM1, tDc_eq, tLock, tLockE, iKeys, tListEnum, rUpdate, tMkX0, tMkX1, tXfv, gSub, rSetL, List.getD_cons_zero, List.getD_cons_succ, tBreak, tCMethS, ClX.tCVal, tXfa, tIxOwn, tInOwn, tPropG, tMethK, tMethP, tListGen, tDGet2, tDPop2, rNeD0, intA_i, intA_b, tRevL, sFldAug, tPm0, tPm1, tDIn, tDNotIn, tDNewK, RS.tMethS, tForK, tKM, tKC, tLcK, tKM2, tKC2, tMethStar, tKCK2, tLk, tAug, ipI, tDig, tLcX, tKMX, tKCX, tForY, tKCY, tKMY, tYThen, tYPlain, tYYield, tY0, tYIf, GKE.at, tListX]
      refine ⟨⟨_, SqL.of e1⟩, by rw [S_len]; omega, fun p np => ?_⟩
      have TL' : p ≠ L := fun z => by rw [z, e1] at np; cases np
      have pny : p ≠ y := fun z => by unfold Rd at rd; rw [z, rd] at np; cases np
      have ect : cutS (S t) (some ((b : Nat) : Int)) (some ((e : Nat) : Int)) = spell d := by
        rw [cut_both t (by omega) (by omega)]
        simp only [Int.toNat_natCast]
        rw [ecut, ← spell_sl d fun _ => trivial, str_S]
      rw [ect]
      have sp := same_upd (o := HO.tup [v, V.str (spell d)]) np
      have fL : L ∉ fp := fun z => by rw [ff L z] at eL; cases eL
      have e1' := sp _ _ e1
      refine ⟨_, e1', by rw [xl]; omega, ?_⟩
      generalize eH2 : upd H1 p (HO.tup [v, V.str (spell d)]) = H2 at sp e1' ⊢
      have ep : H2 p = some (.tup [v, V.str (spell d)]) := by rw [← eH2]; exact upd_same
      have bL : But L H2 (upd H2 L (.lst (xs ++ [V.ref p]))) := fun c o n z => by rw [upd_ne n]; exact z
      have nt : ∀ ys, H2 L ≠ some (.tup ys) := fun ys z => by rw [e1'] at z; cases z
      refine hres _ _ ⟨_, _, _, _, rfl, (b1.trans (But.of sp)).trans bL, upd_same, ?_, by simp [xl], by omega⟩ (by unfold Rd at rd ⊢; exact bL _ _ yL.symm (sp _ _ rd)) ((Gro.of sp).trans (Gro.but bL upd_same))
      rw [take_at' (x := d) (by rw [List.getElem?_map, hat]; rfl)]
      refine paired_snoc (paired_imp pr fun x r h => (h.same sp).but (by simp) nt bL) ?_
      exact ⟨p, v, fp, rfl, bL _ _ TL' ep, (tv.same sp).but nt bL fL, by simp [yf, fL], by simp [pny, TL']⟩
    · cases hw : (rowR t).2 with
      | none =>
        rintro k H1 ⟨v2, v3, v4, xs, rfl, b1, e1, pr, xl, jl⟩
        rw [List.take_of_length_le (by simp)] at pr
        exact ⟨rfl, _, _, _, rfl, b1, _, e1, paired_imp pr fun x r h => h.less (by simp)⟩
      | some w =>
        rintro k H1 dd ⟨v2, v3, v4, xs, rfl, b1, e1, pr, xl, jl⟩ hdd
        refine ⟨RSI, ?_⟩
        refine ⟨true, hex, fun _ a ha => ?_, fun z => by cases z⟩
        have e0 : rowD t = none := by unfold rowD; rw [hw]
        rw [e0] at q
        walk_at "sx"
        refine q _ fun c o z => ?_
        exact b1 c o (ne_of_none z nL) (sG _ _ z)
  rintro _ G' ⟨v2, v3, v4, xs, hw, rfl, bG, eL', pr⟩
  have e0 : rowD t = some ((rowR t).1.map (·.2.2)) := by unfold rowD; rw [hw]
  rw [e0] at q
  walk_at "sx"
  exact q L xs _ (fun c o z => bG c o (ne_of_none z nL) (sG _ _ z)) eL' pr
end
section
variable {g : Wd} {f : Addr} {fd : FuncData}
theorem sc_is_key : FnScope ["value"] ["value"] (defScope s_is_key) := ⟨rfl, rfl, rfl, by decide +kernel, rfl, by decide +kernel, by decide +kernel⟩
def sp_iskey : Sp := S1 fun v H Q _ => (∃ x, v = .str x ∧ x.length ≤ 1000000 ∧ Q (.bl (keyOk x)) H) ∨ (NoS H v ∧ Q (.bl false) H)
theorem ok_iskey (F : Df g.K "is_key" "is_key" s_is_key f fd .none) (T : Txt2 g) : FnG g 1 f fd ["value"] sp_iskey := by
  refine F.ok sc_is_key (fun vs H Q E h => S1.len h) (fun cdv A outer s H vs Q E hr h => ?_)
  obtain ⟨_, rfl, ⟨x, rfl, h1, q⟩ | ⟨⟨ty, ht, hn⟩, q⟩⟩ := h
  · refine ⟨_, (pss_one (ps_ret (pe_and (pe_callB (c_is "str") (by rfl) T.b_isinstance bb_isinstance (pa_cons (pv 0) (pa_cons (pe_bltn (v := .ty "str") rfl T.b_str bb_str rfl) pa_nil))) (pe_one (pe_chain op_le op_le pe_int (pe_callB (c_len (K := g.K)) (by rfl) T.b_len bb_len (pa_cons (pv 0) pa_nil)) (e_g T.c_MOST_KEY)))))), ?_⟩
    walk_at "sx"
    refine ⟨by omega, ?_⟩
    have := q
    unfold keyOk at this
    by_cases c : 1 ≤ x.length
    · rw [if_pos (by rw [decide_eq_true_eq]; omega)]
      rw [decide_eq_true c, Bool.true_and] at this
      have e : decide ((x.length : Int) ≤ 200) = decide (x.length ≤ 200) := by rw [decide_eq_decide]; omega
      rw [e]; exact this
    · rw [if_neg (by rw [decide_eq_true_eq]; omega)]
      rw [decide_eq_false c, Bool.false_and] at this
      exact this
  · refine ⟨_, (pss_one (ps_ret (pe_and (pe_callB (c_is "str") (by rfl) T.b_isinstance bb_isinstance (pa_cons (pv 0) (pa_cons (pe_bltn (v := .ty "str") rfl T.b_str bb_str rfl) pa_nil))) (pe_one (pe_chain op_le op_le pe_int (pe_callB (c_len (K := g.K)) (by rfl) T.b_len bb_len (pa_cons (pv 0) pa_nil)) (e_g T.c_MOST_KEY)))))), ?_⟩
    walk_at "sx"
    refine ⟨ty, ht, ?_⟩
    rw [if_neg (by simpa using hn)]
    exact q
/-- a deed's key, text and value, away from some cells -/
def PcAt (av : List Addr) (H : Hp) (x : V) (p : Deed) : Prop := ∃ T, x = .ref T ∧ T ∉ av ∧ match p.2 with
  | none => H T = some (.tup [.str p.1, .non, .non])
  | some d => ∃ v fp, H T = some (.tup [.str p.1, .str (spell d), v]) ∧ Tr H v d fp ∧ ∀ a ∈ av, a ∉ fp
theorem PcAt.but {av : List Addr} {H H' : Hp} {a : Addr} {x : V} {p : Deed} (h : PcAt av H x p) (m : a ∈ av) (nt : ∀ ys, H a ≠ some (.tup ys)) (s : ∀ c o, c ≠ a → H c = some o → H' c = some o) : PcAt av H' x p := by
  obtain ⟨T, rfl, h1, h2⟩ := h
  have ne : T ≠ a := fun z => h1 (z ▸ m)
  refine ⟨T, rfl, h1, ?_⟩
  cases e : p.2 with
  | none => rw [e] at h2; exact s _ _ ne h2
  | some d =>
    rw [e] at h2
    obtain ⟨v, fp, e1, t, n⟩ := h2
    exact ⟨v, fp, s _ _ ne e1, t.but nt s (n a m), n⟩
theorem PcAt.same {av : List Addr} {H H' : Hp} {x : V} {p : Deed} (h : PcAt av H x p) (s : Same H H') : PcAt av H' x p := by
  obtain ⟨T, rfl, h1, h2⟩ := h
  refine ⟨T, rfl, h1, ?_⟩
  cases e : p.2 with
  | none => rw [e] at h2; exact s _ _ h2
  | some d =>
    rw [e] at h2
    obtain ⟨v, fp, e1, t, n⟩ := h2
    exact ⟨v, fp, s _ _ e1, t.same s, n⟩
theorem PcAt.less {av av' : List Addr} {H : Hp} {x : V} {p : Deed} (h : PcAt av H x p) (m : ∀ a ∈ av', a ∈ av) : PcAt av' H x p := by
  obtain ⟨T, rfl, h1, h2⟩ := h
  refine ⟨T, rfl, fun z => h1 (m _ z), ?_⟩
  cases e : p.2 with
  | none => rw [e] at h2; exact h2
  | some d =>
    rw [e] at h2
    obtain ⟨v, fp, e1, t, n⟩ := h2
    exact ⟨v, fp, e1, t, fun a z => n a (m a z)⟩
theorem RowV.fresh {H : Hp} {x : V} {d : PyData} {L : Addr} (h : RowV [] H x d) (n : H L = none) : RowV [L] H x d := by
  obtain ⟨T, v, fp, rfl, h1, h2, _, _⟩ := h
  refine ⟨T, v, fp, rfl, h1, h2, fun a ha z => ?_, fun z => ?_⟩
  · rw [List.mem_singleton.mp ha] at z
    rcases h2.there L z with ⟨ys, e⟩ | ⟨ys, e⟩ <;> (rw [n] at e; cases e)
  · rw [List.mem_singleton.mp z, n] at h1; cases h1
/-- a value that is True is True -/
theorem tr_bl {H : Hp} {v : V} {d : PyData} {fp : List Addr} (h : Tr H v d fp) (b : Bool) : v = .bl b ↔ d = .bool b := by
  cases h <;> simp
theorem paired_len {α β : Type} {F : α → β → Prop} : ∀ {xs : List α} {ys : List β}, Paired F xs ys → xs.length = ys.length
  | _, _, .nil => rfl
  | _, _, .cons _ h => by simp [paired_len h]
theorem paired_atY {α β : Type} {F : α → β → Prop} : ∀ {xs : List α} {ys : List β} {i : Nat} {y : β}, Paired F xs ys → ys[i]? = some y → ∃ x, xs[i]? = some x ∧ F x y
  | _, _, 0, _, .cons (a := a) h _, e => by cases e; exact ⟨a, rfl, h⟩
  | _, _, i + 1, _, .cons _ hs, e => by
    obtain ⟨x, e1, h⟩ := paired_atY hs (i := i) (by simpa using e)
    exact ⟨x, by simpa using e1, h⟩
/-- no key: no string -/
theorem nos_tr {H : Hp} {v : V} {d : PyData} {fp : List Addr} (h : Tr H v d fp) : (∃ k, v = .str k ∧ d = .str k) ∨ (NoS H v ∧ ∀ k, d ≠ .str k) := by
  cases h with
  | non => exact .inr ⟨⟨_, rfl, by decide⟩, by simp⟩
  | bl b => exact .inr ⟨⟨_, rfl, by decide⟩, by simp⟩
  | int i => exact .inr ⟨⟨_, rfl, by decide⟩, by simp⟩
  | str x => exact .inl ⟨x, rfl, rfl⟩
  | lst h _ _ => exact .inr ⟨⟨_, tyN_l h, by decide⟩, by simp⟩
  | tup h _ => exact .inr ⟨⟨_, tyN_t h, by decide⟩, by simp⟩
  | dct h _ _ _ => exact .inr ⟨⟨_, tyN_d h, by decide⟩, by simp⟩
theorem pcs_bad1 {d : PyData} {r : List PyData} (h1 : d ≠ .bool true) (h2 : d ≠ .bool false) : pcs (d :: r) = none := by
  unfold pcs
  split <;> simp_all
theorem pcs_bad2 {b : Bool} {d : PyData} {r : List PyData} (h : ∀ k, d ≠ .str k) : pcs (.bool b :: d :: r) = none := by
  unfold pcs
  split <;> simp_all
theorem pcs_short : ∀ {r : List PyData}, r.length < 2 → pcs (.bool true :: r) = none
  | [], _ => rfl
  | [x], _ => by cases x <;> rfl
  | _ :: _ :: _, h => by simp at h; omega
theorem pcs_key {b : Bool} {k : Str} {r : List PyData} (h : keyOk k = false) : pcs (.bool b :: .str k :: r) = none := by
  unfold pcs
  split <;> simp_all
theorem pcs_put {k : Str} {d : PyData} {r : List PyData} (h : keyOk k = true) : pcs (.bool true :: .str k :: d :: r) = (pcs r).map fun ps => (k, some d) :: ps := by
  rw [pcs, if_pos h]
theorem pcs_drop {k : Str} {r : List PyData} (h : keyOk k = true) : pcs (.bool false :: .str k :: r) = (pcs r).map fun ps => (k, none) :: ps := by
  rw [pcs, if_pos h]
theorem wfs_get : ∀ {ds : List PyData} {i : Nat} {d : PyData}, wfs ds → ds[i]? = some d → wf d
  | _ :: _, 0, _, h, e => by cases e; exact h.1
  | _ :: ds, i + 1, d, h, e => wfs_get (ds := ds) (i := i) h.2 (by simpa using e)
  | [], _, _, _, e => by simp at e
theorem sc_pieces_of : FnScope ["row", "found", "index", "is_put", "width", "value", "spelled"] ["row"] (defScope s_pieces_of) := ⟨rfl, rfl, rfl, by decide +kernel, rfl, by decide +kernel, by decide +kernel⟩
def sp_pcs : Sp := S1 fun z H Q _ => ∃ R xs ds, z = .ref R ∧ H R = some (.lst xs) ∧ Paired (RowV [] H) xs ds ∧ ds.length ≤ 1000000 ∧ wfs ds ∧ match pcs ds with
  | none => ∀ H', Same H H' → Q .non H'
  | some ps => ∀ L ys H', Same H H' → H' L = some (.lst ys) → Paired (PcAt [] H') ys ps → Q (.ref L) H'
theorem ok_pcs (F : Df g.K "pieces_of" "pieces_of" s_pieces_of f fd .none) (T : Txt2 g) (F_is_key : Kn g "is_key" 1 ["value"] [] sp_iskey) : FnG g 2 f fd ["row"] sp_pcs := by
  refine F.ok sc_pieces_of (fun vs H Q E h => S1.len h) (fun cdv A outer s H vs Q E hr h => ?_)
  obtain ⟨_, rfl, R, xs, ds, rfl, hR, hp, hl, hw, q⟩ := h
  refine ⟨_, (pss_mid (ps_par (i := 1) (j := 2) (by rfl) sc_pieces_of.nd rfl rfl (by decide) rfl rfl (pa_cons (pe_lst pa_nil) (pa_cons pe_int pa_nil)) (by rfl))
      (pss_mid (ps_while psD (pt_cmpR op_lt (pv 2) (pe_callB (c_len (K := g.K)) (by rfl) T.b_len bb_len (pa_cons (pv 0) pa_nil)) (nomark _)) (pss_mid (ps_par (i := 3) (j := 4) (by rfl) sc_pieces_of.nd rfl rfl (by decide) rfl rfl (pa_cons (pe_ix (o_ix (K := g.K)) (pe_ix (o_ix (K := g.K)) (pv 0) (pv 2) (fun _ _ => rfl)) pe_int (fun _ _ => rfl)) (pa_cons (pe_ifExp (pt_cmpR op_isB (pe_ix (o_ix (K := g.K)) (pe_ix (o_ix (K := g.K)) (pv 0) (pv 2) (fun _ _ => rfl)) pe_int (fun _ _ => rfl)) pe_bl (nomark _)) pe_int pe_int) pa_nil)) (by rfl))
      (pss_mid (ps_if (PW.pt (pw_or (PW.pt (pw_and (pt_cmpR op_notB (pv 3) pe_bl (nomark _)) (pw_and1 (pt_cmpR op_notB (pv 3) pe_bl (nomark _))))) (pw_or (pt_cmpR op_lt (pe_callB (c_len (K := g.K)) (by rfl) T.b_len bb_len (pa_cons (pv 0) pa_nil)) (pe_op (o_add (K := g.K)) (pv 2) (pv 4)) (nomark _)) (pw_or1 (pt_not (pt_val (pe_callG F_is_key (hr.mono (by first | decide | omega)) tkD (pa_cons (pe_ix (o_ix (K := g.K)) (pe_ix (o_ix (K := g.K)) (pv 0) (pe_op (o_add (K := g.K)) (pv 2) pe_int) (fun _ _ => rfl)) pe_int (fun _ _ => rfl)) pa_nil)))))))) (pss_one (ps_ret pe_non)) pss_nil)
      (pss_mid (ps_asg (pe_ifExp (t_truth (K := g.K) (pv 3)) (pe_ix (o_ix (K := g.K)) (pv 0) (pe_op (o_add (K := g.K)) (pv 2) pe_int) (fun _ _ => rfl)) (pe_tup (pa_cons pe_non (pa_cons pe_non pa_nil)))) (g_tup (K := g.K) (n := 2) (pgs_cons (pg_name (i := 5) sc_pieces_of.nd rfl (.inl rfl)) (pgs_cons (pg_name (i := 6) sc_pieces_of.nd rfl (.inl rfl)) pgs_nil))))
      (pss_cons (ps_expr (e_bm (K := g.K) PySem.F.plainAttrs_list PySem.F.slot_list_append PySem.F.type_list_append mt_append (pv 1) (pa_cons (pe_tup (pa_cons (pe_ix (o_ix (K := g.K)) (pe_ix (o_ix (K := g.K)) (pv 0) (pe_op (o_add (K := g.K)) (pv 2) pe_int) (fun _ _ => rfl)) pe_int (fun _ _ => rfl)) (pa_cons (pv 6) (pa_cons (pv 5) pa_nil)))) pa_nil)))
      (pss_one (ps_aug (i := 2) sc_pieces_of.nd rfl (Or.inl rfl) (pv 4) ip_add)))))))
      (pss_one (ps_ret (pv 1))))), ?_⟩
  refine mid_at (fun σ G => ∃ L, σ = [some (.ref R), some (.ref L), some (.int 0), none, none, none, none] ∧ H L = none ∧ Same H G ∧ G L = some (.lst [])) ?_ ?_
  · walk_at "sx"
    intro L hL
    exact ⟨hL, same_upd hL⟩
  rintro _ G ⟨L, rfl, nL, sG, eL⟩
  refine mid_at (fun σ G' => ∃ j v3 v4 v5 v6 ys ps, σ = [some (.ref R), some (.ref L), some (.int (j : Nat)), v3, v4, v5, v6] ∧ pcs ds = some ps ∧ But L G G' ∧ G' L = some (.lst ys) ∧ Paired (PcAt [] G') ys ps) ?_ ?_
  · refine ⟨fun m σ G' => ∃ j v3 v4 v5 v6 ys ps, σ = [some (.ref R), some (.ref L), some (.int (j : Nat)), v3, v4, v5, v6] ∧ But L G G' ∧ G' L = some (.lst ys) ∧ Paired (PcAt [L] G') ys ps ∧ ys.length ≤ j ∧ j ≤ ds.length ∧ pcs ds = (pcs (ds.drop j)).map (fun qs => ps ++ qs) ∧ m = ds.length - j, ⟨_, 0, none, none, none, none, [], [], rfl, But.of (Same.refl _), eL, .nil, Nat.le_refl _, Nat.zero_le _, by rw [List.drop_zero]; cases pcs ds <;> rfl, rfl⟩, ?_⟩
    rintro m _ G' ⟨j, v3, v4, v5, v6, ys, ps, rfl, bG, eL', pp, yl, jl, ep, rfl⟩
    have xl := paired_len hp
    have nR : R ≠ L := fun z => by rw [z, nL] at hR; cases hR
    have hR' : G' R = some (.lst xs) := bG _ _ nR (sG _ _ hR)
    have at_ : ∀ G3, But L G G3 → ∀ i d, ds[i]? = some d → ∃ (T : Addr) (v : V) (fp : List Addr), xs[i]? = some (.ref T) ∧ G3 T = some (.tup [v, .str (spell d)]) ∧ Tr G3 v d fp ∧ L ∉ fp ∧ (∀ (z : Int) (Q' : VK), z = (i : Nat) → Q' v G3 → ∃ xs', (SqL g.K G3 R xs' ∨ SqT g.K G3 R xs') ∧ ∃ v1, atI xs' z = some v1 ∧ rIxU g.K v1 (.int 0) G3 Q') := fun G3 b3 i d e => by
      obtain ⟨x, e1, hx⟩ := paired_atY hp e
      obtain ⟨T, v, fp, rfl, h1, h2, h3, h4⟩ := (hx.fresh nL)
      have h3' : L ∉ fp := h3 L (by simp)
      have TL : T ≠ L := by simpa using h4
      have hT := b3 _ _ TL (sG _ _ h1)
      refine ⟨T, v, fp, e1, hT, (h2.same sG).but (fun ys z => by rw [eL] at z; cases z) b3 h3', h3', fun z Q' ez hq => ?_⟩
      subst ez
      exact ⟨xs, .inl (SqL.of (b3 _ _ nR (sG _ _ hR))), _, atI_nat e1, by rw [RS.ix_r]; exact ⟨_, .inr (SqT.of hT), v, rfl, hq⟩⟩
    have none_ : pcs (ds.drop j) = none → Q .non G' := fun z => by
      rw [z] at ep
      rw [ep] at q
      exact q G' fun c o e => bG c o (ne_of_none e nL) (sG _ _ e)
    walk_at "sx"
    refine .inl ⟨xs, .inl (SqL.of hR'), ?_⟩
    by_cases lt : j < ds.length
    rotate_left
    · rw [if_neg (by rw [decide_eq_true_eq]; omega)]
      have e0 : ds.drop j = [] := List.drop_eq_nil_iff.mpr (by omega)
      rw [e0] at ep
      exact ⟨j, rfl, _, _, by rw [ep]; simp [pcs], bG, eL', paired_imp pp fun _ _ h => h.less (by simp)⟩
    rw [if_pos (by rw [decide_eq_true_eq]; omega)]
    refine ⟨fun σ' H' => ∃ j' v3 v4 v5 v6 ys ps, j < j' ∧ σ' = [some (.ref R), some (.ref L), some (.int (j' : Nat)), v3, v4, v5, v6] ∧ But L G H' ∧ H' L = some (.lst ys) ∧ Paired (PcAt [L] H') ys ps ∧ ys.length ≤ j' ∧ j' ≤ ds.length ∧ pcs ds = (pcs (ds.drop j')).map (fun qs => ps ++ qs), ?_, ?_⟩
    · rintro σ' H' ⟨j', a3, a4, a5, a6, ys', ps', lj, e1, e2, e3, e4, e5, e6, e7⟩
      exact ⟨ds.length - j', by omega, j', a3, a4, a5, a6, e1, e2, _, e3, _, e4, e5, e6, e7, rfl⟩
    obtain ⟨d, ed⟩ : ∃ d, ds[j]? = some d := ⟨ds[j], List.getElem?_eq_getElem lt⟩
    obtain ⟨T0, v, fp, ex, eT, tv, nf, ix0⟩ := at_ G' bG j d ed
    have edr : ds.drop j = d :: ds.drop (j + 1) := by rw [List.drop_eq_getElem_cons lt]; rw [List.getElem?_eq_getElem lt] at ed; cases ed; rfl
    rw [edr] at none_ ep
    refine mid_at (fun σ G1 => σ = [some (.ref R), some (.ref L), some (.int (j : Nat)), some v, some (.int (if v = .bl true then 3 else 2)), v5, v6] ∧ G1 = G') ?_ ?_
    · simp only [tPar, tRet, tRetN, tSeq, C8.tCut, tNext, tAsg, gName, gNil, gCons, gTup, gFld, tIfS, tIf, tAndV, tOrV, tNotV, tAnd, tOr, tNot, tB, tTest, tOp, tUn, tCB, tCons, tNil, tVar, tC, tChain, tDrop, RS.tCallG, RS.tMethG, tMakeG, RS.tCallK, RS.tMakeK, tEqOwn, rI, rI0, rU, add_ii, add_ss, add_rr, mul_ii, mul_si, mul_ri, RS.eq_ii, RS.eq_ss, eq_bb, eq_nn, eq_sn, eq_ns, eq_in, eq_ni, eq_bn, eq_nb, eq_is, eq_si, eq_rr, ne_ii, ne_ss, ne_bb, ne_nn, ne_sn, ne_ns, ne_in, ne_ni, ne_is, ne_si, ne_rr, in_ss, in_r, nin_ss, nin_r, len_s, len_r, RS.ix_s, RS.ix_r, sl_s, sl_r, is_eq, tyN_n, tyN_b, tyN_i, tyN_s, tru_b, tru_i, tru_n, tSl, tPart, tNoPart, tPar, tPar3, tFmtZ, tFmt, tJs, tDGet, sDPut, sFld, tFld, tTup, tLst, tNever, isB,
  L2.start, List.map_cons, List.map_nil, List.length_cons, List.length_nil, Nat.reduceAdd, Nat.reduceSub, Nat.sub_self, List.replicate_zero, List.replicate_succ, List.append_nil, List.cons_append, List.nil_append, List.getElem?_cons_zero, List.getElem?_cons_succ, List.set_cons_zero, List.set_cons_succ, Option.some.injEq, exists_eq_left, exists_eq_left', exists_and_left, V.bl.injEq, V.int.injEq, V.str.injEq, V.ref.injEq, beq_self_eq_true, Bool.true_or, Bool.or_true, Bool.false_or, Bool.or_false, Bool.and_false, Bool.false_and, Bool.true_and, Bool.and_true, Bool.not_true, Bool.not_false, Bool.false_eq_true, if_true, if_false, ite_true, ite_false, true_and, and_true, and_assoc, String.reduceBEq, String.reduceEq, reduceIte, Bool.and_self, reduceCtorEq, false_and, and_false, exists_false, or_false, false_or, exists_const, iEnumS, iStr, iList, iTup, iRng1, iEnum, tFor_eq, tLc_eq, List.cons.injEq, wipe, not_true_eq_false, not_false_eq_true, upd_same, HO.ins.injEq, HO.tup.injEq, HO.lst.injEq, ofS_eq, lk_nil, lk_cons, pu_nil, pu_cons, sizeLine_eq, Nat.reduceLT, Nat.reduceLeDiff, Nat.reduceEqDiff, Nat.le_refl, decide_true, decide_false, tPr, dget_us, dput_us, vv_nil, vv_cons, RS.pk_nil, pk_one, RS.pk_cons, inr_eq, tDisp, tPairs, tBoolOwn, rBoolOwn, tBM, rAppend, ty_list, ty_str, rEqOwn, iEnumT, RS.tCallS, tM1, tDc_eq, tLock, tLockE, iKeys, tListEnum, rUpdate, tMkX0, tMkX1, tXfv, gSub, rSetL, List.getD_cons_zero, List.getD_cons_succ, tBreak, tCMethS, ClX.tCVal, tXfa, tIxOwn, tInOwn, tPropG, tMethK, tMethP, tListGen, tDGet2, tDPop2, rNeD0, intA_i, intA_b, tRevL, sFldAug, tPm0, tPm1, tDIn, tDNotIn, tDNewK, RS.tMethS, tForK, tKM, tKC, tLcK, tKM2, tKC2, tMethStar, tKCK2, tLk, tAug, ipI, tDig, tLcX, tKMX, tKCX, tForY, tKCY, tKMY, tYThen, tYPlain, tYYield, tY0, tYIf, GKE.at, tListX]
      refine ix0 _ _ rfl (ix0 _ _ rfl ?_)
      by_cases c : v = .bl true
      · rw [if_pos (by simp [c])]; exact ⟨rfl, by simp [c], rfl⟩
      · rw [if_neg (by simp [c])]; exact ⟨rfl, by simp [c], rfl⟩
    rintro _ G1 ⟨rfl, rfl⟩
    refine mid_at (fun σ G1' => σ = [some (.ref R), some (.ref L), some (.int (j : Nat)), some v, some (.int (if v = .bl true then 3 else 2)), v5, v6] ∧ G1' = G1 ∧ ∃ b k, d = .bool b ∧ ds[j + 1]? = some (.str k) ∧ keyOk k = true ∧ (b = true → ∃ d2, ds[j + 2]? = some d2)) ?_ ?_
    · walk_at "sx"
      by_cases hb : ∃ b, d = .bool b
      rotate_left
      · have v1 : ¬ v = .bl true := fun z => hb ⟨_, (tr_bl tv _).mp z⟩
        have v2 : ¬ v = .bl false := fun z => hb ⟨_, (tr_bl tv _).mp z⟩
        rw [if_pos (by simp [v1]), if_pos (by simp [v2])]
        exact none_ (pcs_bad1 (fun z => hb ⟨_, z⟩) (fun z => hb ⟨_, z⟩))
      obtain ⟨b, rfl⟩ := hb
      obtain rfl : v = .bl b := (tr_bl tv b).mpr rfl
      cases b
      · rw [if_pos (by simp), if_neg (by simp)]
        refine .inl ⟨xs, .inl (SqL.of hR'), ?_⟩
        by_cases l2 : ds.length < j + 2
        · rw [if_pos (by simp; omega)]
          exact none_ (by rw [List.drop_eq_nil_iff.mpr (show ds.length ≤ j + 1 by omega)]; rfl)
        rw [if_neg (by simp; omega)]
        obtain ⟨d1, ed1⟩ : ∃ d1, ds[j + 1]? = some d1 := ⟨ds[j + 1], List.getElem?_eq_getElem (by omega)⟩
        obtain ⟨T1, v1, f1, ex1, eT1, tv1, nf1, ix1⟩ := at_ G1 bG (j + 1) d1 ed1
        refine ix1 _ _ (by push_cast; rfl) ?_
        have edr1 : ds.drop (j + 1) = d1 :: ds.drop (j + 2) := by rw [List.drop_eq_getElem_cons (by omega)]; rw [List.getElem?_eq_getElem (by omega)] at ed1; cases ed1; rfl
        rw [edr1] at none_
        rcases nos_tr tv1 with ⟨k, rfl, rfl⟩ | ⟨nS, nk⟩
        · have kl : k.length ≤ 10000 := wfs_get hw ed1
          refine ⟨_, rfl, .inl ⟨k, rfl, by omega, _, rfl, ?_⟩⟩
          cases hk : keyOk k with
          | false => rw [if_pos (by decide)]; exact none_ (pcs_key hk)
          | true => rw [if_neg (by simp)]; exact ⟨rfl, _, rfl, k, ed1, hk, fun z => by cases z⟩
        · refine ⟨_, rfl, .inr ⟨nS, _, rfl, ?_⟩⟩
          rw [if_pos (by decide)]
          exact none_ (pcs_bad2 nk)
      · rw [if_neg (by simp)]
        refine .inl ⟨xs, .inl (SqL.of hR'), ?_⟩
        by_cases l2 : ds.length < j + 3
        · rw [if_pos (by simp; omega)]
          exact none_ (pcs_short (by simp; omega))
        rw [if_neg (by simp; omega)]
        obtain ⟨d1, ed1⟩ : ∃ d1, ds[j + 1]? = some d1 := ⟨ds[j + 1], List.getElem?_eq_getElem (by omega)⟩
        obtain ⟨T1, v1, f1, ex1, eT1, tv1, nf1, ix1⟩ := at_ G1 bG (j + 1) d1 ed1
        refine ix1 _ _ (by push_cast; rfl) ?_
        have edr1 : ds.drop (j + 1) = d1 :: ds.drop (j + 2) := by rw [List.drop_eq_getElem_cons (by omega)]; rw [List.getElem?_eq_getElem (by omega)] at ed1; cases ed1; rfl
        rw [edr1] at none_
        rcases nos_tr tv1 with ⟨k, rfl, rfl⟩ | ⟨nS, nk⟩
        · have kl : k.length ≤ 10000 := wfs_get hw ed1
          refine ⟨_, rfl, .inl ⟨k, rfl, by omega, _, rfl, ?_⟩⟩
          cases hk : keyOk k with
          | false => rw [if_pos (by decide)]; exact none_ (pcs_key hk)
          | true => rw [if_neg (by simp)]; exact ⟨rfl, _, rfl, k, ed1, hk, fun z => ⟨ds[j + 2], List.getElem?_eq_getElem (by omega)⟩⟩
        · refine ⟨_, rfl, .inr ⟨nS, _, rfl, ?_⟩⟩
          rw [if_pos (by decide)]
          exact none_ (pcs_bad2 nk)
    rintro _ G2 ⟨rfl, rfl, b, k, rfl, ek, kk, hd2⟩
    obtain rfl : v = .bl b := (tr_bl tv b).mpr rfl
    have l1 : j + 1 < ds.length := (List.getElem?_eq_some_iff.mp ek).1
    have edr1 : ds.drop (j + 1) = .str k :: ds.drop (j + 2) := by rw [List.drop_eq_getElem_cons l1]; rw [List.getElem?_eq_getElem l1] at ek; rw [Option.some.inj ek]
    rw [edr1] at ep
    refine mid_at (fun σ G3 => ∃ a5 a6, σ = [some (.ref R), some (.ref L), some (.int (j : Nat)), some (.bl b), some (.int (if V.bl b = .bl true then 3 else 2)), some a5, some a6] ∧ Same G2 G3 ∧ ((b = false ∧ a5 = .non ∧ a6 = .non) ∨ ∃ d2 fp2, b = true ∧ ds[j + 2]? = some d2 ∧ a6 = .str (spell d2) ∧ Tr G3 a5 d2 fp2 ∧ L ∉ fp2)) ?_ ?_
    · walk_at "sx"
      cases b with
      | true =>
        rw [if_pos rfl]
        obtain ⟨d2, ed2⟩ := hd2 rfl
        obtain ⟨T2, v2, f2, ex2, eT2, tv2, nf2, ix2⟩ := at_ G2 bG (j + 2) d2 ed2
        exact ⟨xs, .inl (SqL.of hR'), _, by rw [show ((j : Nat) : Int) + 2 = ((j + 2 : Nat) : Int) from by push_cast; rfl]; exact atI_nat ex2, T2, rfl, _, SqT.of eT2, rfl, _, _, rfl, _, _, rfl, rfl, Same.refl _, .inr ⟨rfl, d2, ed2, rfl, f2, tv2, nf2⟩⟩
      | false =>
        rw [if_neg (by simp)]
        exact fun p hp => ⟨_, SqT.of upd_same, rfl, _, _, rfl, _, _, rfl, rfl, same_upd hp, .inl ⟨rfl, rfl, rfl⟩⟩
    rintro _ G3 ⟨a5, a6, rfl, s3, h56⟩
    have b3 : But L G G3 := bG.trans (But.of s3)
    obtain ⟨T1, v1, f1, ex1, eT1, tv1, nf1, ix1⟩ := at_ G3 b3 (j + 1) _ ek
    have e3 := s3 _ _ eL'
    cases tv1
    walk_at "sx"
    refine ⟨⟨_, SqL.of e3⟩, ix1 _ _ (by push_cast; rfl) fun p np => ?_⟩
    have sp := same_upd (o := HO.tup [V.str k, a6, a5]) np
    have pL : p ≠ L := fun z => by rw [z, e3] at np; cases np
    refine ⟨_, sp _ _ e3, by omega, ?_⟩
    have ep4 : upd G3 p (HO.tup [V.str k, a6, a5]) p = some (.tup [V.str k, a6, a5]) := upd_same
    have e4 := sp _ _ e3
    generalize upd G3 p (HO.tup [V.str k, a6, a5]) = G4 at sp ep4 e4 ⊢
    have bL : But L G4 (upd G4 L (.lst (ys ++ [V.ref p]))) := fun c o n z => by rw [upd_ne n]; exact z
    have nt : ∀ zs, G4 L ≠ some (.tup zs) := fun zs z => by rw [e4] at z; cases z
    have bb : But L G (upd G4 L (.lst (ys ++ [V.ref p]))) := (b3.trans (But.of sp)).trans bL
    have pp' : Paired (PcAt [L] (upd G4 L (.lst (ys ++ [V.ref p])))) ys ps := paired_imp pp fun x r h => ((h.same s3).same sp).but (by simp) nt bL
    cases b with
    | false =>
      obtain ⟨rfl, rfl⟩ : a5 = .non ∧ a6 = .non := by
        rcases h56 with h | ⟨_, _, h, _⟩
        · exact h.2
        · cases h
      refine ⟨j + 2, by omega, by simp, bb, ps ++ [(k, none)], paired_snoc pp' ⟨p, rfl, by simpa using pL, bL _ _ pL ep4⟩, by simp; omega, by omega, ?_⟩
      rw [ep, pcs_drop kk, Option.map_map]
      congr 1
      funext qs
      simp
    | true =>
      obtain ⟨d2, fp2, -, ed2, rfl, t2, n2⟩ : ∃ d2 fp2, true = true ∧ ds[j + 2]? = some d2 ∧ a6 = .str (spell d2) ∧ Tr G3 a5 d2 fp2 ∧ L ∉ fp2 := by
        rcases h56 with h | h
        · cases h.1
        · exact h
      have l2 : j + 2 < ds.length := (List.getElem?_eq_some_iff.mp ed2).1
      have edr2 : ds.drop (j + 2) = d2 :: ds.drop (j + 3) := by rw [List.drop_eq_getElem_cons l2]; rw [List.getElem?_eq_getElem l2] at ed2; rw [Option.some.inj ed2]
      refine ⟨j + 3, by omega, by simp, bb, ps ++ [(k, some d2)], paired_snoc pp' ⟨p, rfl, by simpa using pL, a5, fp2, bL _ _ pL ep4, (t2.same sp).but nt bL n2, by simpa using n2⟩, by simp; omega, by omega, ?_⟩
      rw [ep, edr2, pcs_put kk, Option.map_map]
      congr 1
      funext qs
      simp
  rintro _ G' ⟨j, v3, v4, v5, v6, ys, ps, rfl, ep, bG, eL', pp⟩
  rw [ep] at q
  walk_at "sx"
  exact q L ys _ (fun c o z => bG c o (ne_of_none z nL) (sG _ _ z)) eL' pp
end
local macro_rules | `(tactic| walk_at "sx") => `(tactic| simp only [tRet, tRetN, tSeq, C8.tCut, tNext, tAsg, gName, gNil, gCons, gTup, gFld, tIfS, tIf, tAndV, tOrV, tNotV, tAnd, tOr, tNot, tB, tTest, tOp, tUn, tCB, tCons, tNil, tVar, tC, tChain, tDrop, RS.tCallG, RS.tMethG, tMakeG, RS.tCallK, RS.tMakeK, tEqOwn, rI, rI0, rU, add_ii, add_ss, add_rr, mul_ii, mul_si, mul_ri, RS.eq_ii, RS.eq_ss, eq_bb, eq_nn, eq_sn, eq_ns, eq_in, eq_ni, eq_bn, eq_nb, eq_is, eq_si, eq_rr, ne_ii, ne_ss, ne_bb, ne_nn, ne_sn, ne_ns, ne_in, ne_ni, ne_is, ne_si, ne_rr, in_ss, in_r, nin_ss, nin_r, len_s, len_r, RS.ix_s, RS.ix_r, sl_s, sl_r, is_eq, tyN_n, tyN_b, tyN_i, tyN_s, tru_b, tru_i, tru_n, tSl, tPart, tNoPart, tPar, tPar3, tFmtZ, tFmt, tJs, tDGet, sDPut, sFld, tFld, tTup, tLst, tNever, isB,
  L2.start, List.map_cons, List.map_nil, List.length_cons, List.length_nil, Nat.reduceAdd, Nat.reduceSub, Nat.sub_self, List.replicate_zero, List.replicate_succ, List.append_nil, List.cons_append, List.nil_append, List.getElem?_cons_zero, List.getElem?_cons_succ, List.set_cons_zero, List.set_cons_succ, Option.some.injEq, exists_eq_left, exists_eq_left', exists_and_left, V.bl.injEq, V.int.injEq, V.str.injEq, V.ref.injEq, beq_self_eq_true, Bool.true_or, Bool.or_true, Bool.false_or, Bool.or_false, Bool.and_false, Bool.false_and, Bool.true_and, Bool.and_true, Bool.not_true, Bool.not_false, Bool.false_eq_true, if_true, if_false, ite_true, ite_false, true_and, and_true, and_assoc, String.reduceBEq, String.reduceEq, reduceIte, Bool.and_self, reduceCtorEq, false_and, and_false, exists_false, or_false, false_or, exists_const, iEnumS, iStr, iList, iTup, iRng1, iEnum, tFor_eq, tLc_eq, List.cons.injEq, wipe, not_true_eq_false, not_false_eq_true, upd_same, HO.ins.injEq, HO.tup.injEq, HO.lst.injEq, ofS_eq, lk_nil, lk_cons, pu_nil, pu_cons, sizeLine_eq, Nat.reduceLT, Nat.reduceLeDiff, Nat.reduceEqDiff, Nat.le_refl, decide_true, decide_false, tPr, dget_us, dput_us, vv_nil, vv_cons, RS.pk_nil, pk_one, RS.pk_cons, inr_eq, tDisp, tPairs, tBoolOwn, rBoolOwn, tBM, rAppend, ty_list, ty_str, rEqOwn, iEnumT, RS.tCallS, tM1, tDc_eq, tLock, tLockE, iKeys, tListEnum, rUpdate, tMkX0, tMkX1, tXfv, gSub, rSetL, List.getD_cons_zero, List.getD_cons_succ, tBreak, tCMethS, ClX.tCVal, tXfa, tIxOwn, tInOwn, tPropG, tMethK, tMethP, tListGen, tDGet2, tDPop2, rNeD0, intA_i, intA_b, tRevL, sFldAug, tPm0, tPm1, tDIn, tDNotIn, tDNewK, RS.tMethS, tForK, tKM, tKC, tLcK, tKM2, tKC2, tMethStar, tKCK2, tLk, tAug, ipI, tDig, tLcX, tKMX, tKCX, tForY, tKCY, tKMY, tYThen, tYPlain, tYYield, tY0, tYIf, GKE.at, tListX])
/-- what parsed returns -/
def PrAt (H : Hp) (v : V) (x : Rdg) : Prop := ∃ (p L : Addr) (xs : List V) (w : Str) (m : Nat), v = .ref p ∧ H p = some (.tup [.str w, .ref L, .int (m : Nat)]) ∧ H L = some (.lst xs) ∧ match x with
  | .strange => w = "strange" ∧ xs = []
  | .fin n => w = "end" ∧ m = n
  | .copy k d => w = "copy" ∧ Paired (PcAt [] H) xs [(k, some d)]
  | .batch ps => w = "batch" ∧ Paired (PcAt [] H) xs ps
theorem rdg_e {r : List Nat} : rdg (101 :: r) = match numIn r with
    | some n => .fin n
    | none => .strange := rfl
theorem rdg_b {r : List Nat} : rdg (98 :: r) = match (rowD r).bind pcs with
    | some ps => .batch ps
    | none => .strange := rfl
theorem rdg_c {r : List Nat} : rdg (99 :: r) = match rowD r with
    | some ds => cpy ds
    | none => .strange := rfl
theorem rdg_o {c : Nat} {r : List Nat} (h1 : c ≠ 101) (h2 : c ≠ 98) (h3 : c ≠ 99) : rdg (c :: r) = .strange := by
  unfold rdg
  split <;> simp_all
theorem len_sls (ds : List PyData) : ds.length ≤ (sls ds).length := by
  have := spells_pos ds
  rw [← spells_sl ds]
  exact this
theorem in_bc (c : Nat) : inV (.str (S [c])) [.str (S [98]), .str (S [99])] = decide (c = 98 ∨ c = 99) := by
  show ((S [98] == S [c]) || ((S [99] == S [c]) || false)) = _
  rw [Bool.eq_iff_iff]
  simp only [Bool.or_eq_true, beq_iff_eq, S_eq, List.cons.injEq, and_true, decide_eq_true_eq, Bool.or_false]
  omega
theorem cpy_len {ds : List PyData} (h : ds.length ≠ 2) : cpy ds = .strange := by
  unfold cpy
  split
  · simp at h
  · rfl
theorem cpy_nk {d e : PyData} (h : ∀ k, d ≠ .str k) : cpy [d, e] = .strange := by
  unfold cpy
  split <;> simp_all
theorem cut1 (t : List Nat) : cutS (S t) none (some 1) = S (t.take 1) := cut_to t (by decide)
theorem cut1f (c : Nat) (r : List Nat) : cutS (S (c :: r)) (some 1) none = S r := cut_from (c :: r) (by decide)
section
variable {g : Wd} {f : Addr} {fd : FuncData}
theorem sc_parsed : FnScope ["text", "many", "row", "is_copy", "pieces"] ["text"] (defScope s_parsed) := ⟨rfl, rfl, rfl, by decide +kernel, rfl, by decide +kernel, by decide +kernel⟩
def sp_parsed : Sp := S1 fun z H Q _ => ∃ t, z = .str (S t) ∧ t.length ≤ 1000000 ∧ ∀ v H', Same H H' → PrAt H' v (rdg t) → Q v H'
theorem ok_parsed (F : Df g.K "parsed" "parsed" s_parsed f fd .none) (T : Txt2 g) (F_number_in : Kn g "number_in" 1 ["text"] [] sp_num) (F_row_in : Kn g "row_in" 49 ["text"] [] sp_row) (F_is_key : Kn g "is_key" 1 ["value"] [] sp_iskey) (F_pieces_of : Kn g "pieces_of" 2 ["row"] [] sp_pcs) : FnG g 50 f fd ["text"] sp_parsed := by
  refine F.ok sc_parsed (fun vs H Q E h => S1.len h) (fun cdv A outer s H vs Q E hr h => ?_)
  obtain ⟨_, rfl, t, rfl, tl, q⟩ := h
  refine ⟨_, (pss_mid (ps_if (pt_cmpR (o_eq (K := g.K) hr) (pe_slice (o_sl (K := g.K)) (pv 0) po_none (po_some pe_int)) pe_str (nomark _)) (pss_mid (ps_set (i := 1) sc_parsed.nd rfl (Or.inl rfl) (pe_callG F_number_in (hr.mono (by first | decide | omega)) tkD (pa_cons (pe_slice (o_sl (K := g.K)) (pv 0) (po_some pe_int) po_none) pa_nil)))
      (pss_one (ps_ret (pe_ifExp (pt_cmpR op_isN (pv 1) pe_non (nomark _)) (pe_tup (pa_cons pe_str (pa_cons (pe_lst pa_nil) (pa_cons pe_int pa_nil)))) (pe_tup (pa_cons pe_str (pa_cons (pe_lst pa_nil) (pa_cons (pv 1) pa_nil)))))))) pss_nil)
      (pss_mid (ps_set (i := 2) sc_parsed.nd rfl (Or.inl rfl) (pe_ifExp (pt_cmpR (o_in (K := g.K)) (pe_slice (o_sl (K := g.K)) (pv 0) po_none (po_some pe_int)) (pe_tup (pa_cons pe_str (pa_cons pe_str pa_nil))) (by rfl)) (pe_callG F_row_in (hr.mono (by first | decide | omega)) tkD (pa_cons (pe_slice (o_sl (K := g.K)) (pv 0) (po_some pe_int) po_none) pa_nil)) pe_non))
      (pss_mid (ps_if (pt_cmpR op_isN (pv 2) pe_non (nomark _)) (pss_one (ps_ret (pe_tup (pa_cons pe_str (pa_cons (pe_lst pa_nil) (pa_cons pe_int pa_nil)))))) pss_nil)
      (pss_mid (ps_if (pt_cmpR (o_eq (K := g.K) hr) (pe_ix (o_ix (K := g.K)) (pv 0) pe_int (fun _ _ => rfl)) pe_str (nomark _)) (pss_mid (ps_set (i := 3) sc_parsed.nd rfl (Or.inl rfl) (pe_and (pe_cmpR (o_eq (K := g.K) hr) (pe_callB (c_len (K := g.K)) (by rfl) T.b_len bb_len (pa_cons (pv 2) pa_nil)) pe_int (nomark _)) (pe_one (pe_callG F_is_key (hr.mono (by first | decide | omega)) tkD (pa_cons (pe_ix (o_ix (K := g.K)) (pe_ix (o_ix (K := g.K)) (pv 2) pe_int (fun _ _ => rfl)) pe_int (fun _ _ => rfl)) pa_nil)))))
      (pss_one (ps_ret (pe_ifExp (t_truth (K := g.K) (pv 3)) (pe_tup (pa_cons pe_str (pa_cons (pe_lst (pa_cons (pe_tup (pa_cons (pe_ix (o_ix (K := g.K)) (pe_ix (o_ix (K := g.K)) (pv 2) pe_int (fun _ _ => rfl)) pe_int (fun _ _ => rfl)) (pa_cons (pe_ix (o_ix (K := g.K)) (pe_ix (o_ix (K := g.K)) (pv 2) pe_int (fun _ _ => rfl)) pe_int (fun _ _ => rfl)) (pa_cons (pe_ix (o_ix (K := g.K)) (pe_ix (o_ix (K := g.K)) (pv 2) pe_int (fun _ _ => rfl)) pe_int (fun _ _ => rfl)) pa_nil)))) pa_nil)) (pa_cons pe_int pa_nil)))) (pe_tup (pa_cons pe_str (pa_cons (pe_lst pa_nil) (pa_cons pe_int pa_nil)))))))) pss_nil)
      (pss_mid (ps_set (i := 4) sc_parsed.nd rfl (Or.inl rfl) (pe_callG F_pieces_of (hr.mono (by first | decide | omega)) tkD (pa_cons (pv 2) pa_nil)))
      (pss_one (ps_ret (pe_ifExp (pt_cmpR op_isN (pv 4) pe_non (nomark _)) (pe_tup (pa_cons pe_str (pa_cons (pe_lst pa_nil) (pa_cons pe_int pa_nil)))) (pe_tup (pa_cons pe_str (pa_cons (pv 4) (pa_cons pe_int pa_nil)))))))))))), ?_⟩
  have strange : ∀ (G G' : Hp) (p L : Addr) (w : Str), Same H G → G L = none → upd G L (.lst []) p = none → w = "strange" → rdg t = .strange → Q (.ref p) (upd (upd G L (.lst [])) p (.tup [.str w, .ref L, .int 0])) := fun G G' p L w s hL hp ew e => by
    have s1 := same_upd (o := HO.lst []) hL
    have s2 := same_upd (o := HO.tup [V.str w, V.ref L, V.int 0]) hp
    refine q _ _ ((s.trans s1).trans s2) ?_
    rw [e]
    exact ⟨p, L, [], w, 0, rfl, upd_same, s2 _ _ upd_same, ew, rfl⟩
  refine mid_at (fun σ G => σ = [some (.str (S t)), none, none, none, none] ∧ G = H ∧ t.head? ≠ some 101) ?_ ?_
  · walk_at "sx"
    rw [cut1, S_len]
    walk_at "lt"
    refine ⟨by omega, ?_⟩
    cases t with
    | nil => rw [if_neg (by simp [S_eq])]; simp
    | cons c r =>
      by_cases h : c = 101
      rotate_left
      · rw [if_neg (by simp [S_eq, h])]; simp [h]
      subst h
      rw [if_pos (by simp)]
      have e0 : rdg (101 :: r) = match numIn r with
        | some n => .fin n
        | none => .strange := rdg_e
      refine mid_at (fun σ G => σ = [some (.str (S (101 :: r))), some (vn (numIn r)), none, none, none] ∧ Same H G) ?_ ?_
      · walk_at "sx"
        rw [cut1f]
        simp only [S_len]
        simp only [List.length_cons] at tl ⊢
        exact ⟨by omega, _, rfl, r, rfl, by omega, fun H' s => ⟨rfl, s⟩⟩
      rintro _ G ⟨rfl, sG⟩
      cases hn : numIn r with
      | none =>
        rw [hn] at e0
        simp only [vn]
        walk_at "sx"
        intro L hL p hp
        exact strange G G p L _ sG hL hp (by decide +kernel) e0
      | some n =>
        rw [hn] at e0
        simp only [vn]
        walk_at "sx"
        intro L hL p hp
        have s1 := same_upd (o := HO.lst []) hL
        have s2 := same_upd (o := HO.tup [V.str (S [101, 110, 100]), V.ref L, V.int (n : Nat)]) hp
        refine q _ _ ((sG.trans s1).trans s2) ?_
        rw [e0]
        exact ⟨p, L, [], _, n, rfl, upd_same, s2 _ _ upd_same, by decide +kernel, rfl⟩
  rintro _ G ⟨rfl, rfl, h101⟩
  refine mid_at (fun σ G1 => ∃ v, σ = [some (.str (S t)), none, some v, none, none] ∧ Same G G1 ∧ ((v = .non ∧ rdg t = .strange) ∨ ∃ c r ds L xs, t = c :: r ∧ (c = 98 ∨ c = 99) ∧ rowD r = some ds ∧ v = .ref L ∧ G1 L = some (.lst xs) ∧ Paired (RowV [] G1) xs ds)) ?_ ?_
  · walk_at "sx"
    rw [cut1, S_len]
    refine ⟨by omega, fun p hp => ⟨_, .inr (SqT.of upd_same), rfl, rfl, ?_⟩⟩
    have sp := same_upd (o := HO.tup [V.str (Str.ofString "b"), V.str (Str.ofString "c")]) hp
    generalize upd G p (HO.tup [V.str (Str.ofString "b"), V.str (Str.ofString "c")]) = G1 at sp ⊢
    have eb : (Str.ofString "b") = S [98] := by decide +kernel
    have ec : (Str.ofString "c") = S [99] := by decide +kernel
    rw [eb, ec]
    cases t with
    | nil => rw [if_neg (by simp [inV, eqV, S_eq])]; exact ⟨sp, rfl⟩
    | cons c r =>
      have c101 : c ≠ 101 := fun z => h101 (by rw [z]; rfl)
      by_cases h : c = 98 ∨ c = 99
      rotate_left
      · rw [show (c :: r).take 1 = [c] from rfl, in_bc, if_neg (by simpa using h)]
        exact ⟨sp, rdg_o c101 (fun z => h (.inl z)) (fun z => h (.inr z))⟩
      rw [show (c :: r).take 1 = [c] from rfl, in_bc, if_pos (by simpa using h), cut1f]
      simp only [List.length_cons] at tl ⊢
      refine ⟨by omega, _, rfl, r, rfl, by omega, ?_⟩
      cases er : rowD r with
      | none =>
        refine fun H' s => ⟨sp.trans s, .inl ⟨rfl, ?_⟩⟩
        rcases h with rfl | rfl
        · rw [rdg_b, er]; rfl
        · rw [rdg_c, er]
      | some ds => exact fun L xs H' s e1 pr => ⟨sp.trans s, .inr ⟨c, r, rfl, h, ds, er, L, rfl, xs, e1, pr⟩⟩
  rintro _ G1 ⟨v, rfl, s1, ⟨rfl, e⟩ | ⟨c, r, ds, L, xs, rfl, hc, er, rfl, eL, pr⟩⟩
  · refine mid_at (fun _ _ => False) ?_ (fun _ _ z => z.elim)
    walk_at "sx"
    exact fun L hL p hp => strange _ G1 p L _ s1 hL hp rfl e
  obtain ⟨et, hw, hd⟩ := rowD_text er
  have dl : ds.length ≤ 1000000 := by
    have := len_sls ds
    rw [← et] at this
    simp only [List.length_cons] at tl
    omega
  refine mid_at (fun σ G2 => σ = [some (.str (S (c :: r))), none, some (.ref L), none, none] ∧ G2 = G1) ?_ ?_
  · walk_at "sx"
  rintro _ G2 ⟨rfl, rfl⟩
  have at_ : ∀ i d, ds[i]? = some d → ∃ (T : Addr) (v : V) (fp : List Addr), xs[i]? = some (V.ref T) ∧ G2 T = some (.tup [v, .str (spell d)]) ∧ Tr G2 v d fp := fun i d e => by
    obtain ⟨x, e1, hx⟩ := paired_atY pr e
    obtain ⟨T, v, fp, rfl, h1, h2, h3, h4⟩ := hx
    exact ⟨T, v, fp, e1, h1, h2⟩
  have xl := paired_len pr
  refine mid_at (fun σ G3 => σ = [some (.str (S (c :: r))), none, some (.ref L), none, none] ∧ G3 = G2 ∧ c = 98) ?_ ?_
  · walk_at "sx"
    rw [S_len]
    refine ⟨by omega, c, atI_nat (xs := c :: r) (j := 0) rfl, ?_⟩
    rw [show (Str.ofString "c") = S [99] from by decide +kernel, show ({ cps := #[c] } : Str) = S [c] from rfl]
    by_cases c99 : c = 99
    rotate_left
    · rw [if_neg (by simp [S_eq, c99])]
      exact hc.resolve_right c99
    subst c99
    rw [if_pos (by simp)]
    have e0 : rdg (99 :: r) = cpy ds := by rw [rdg_c, er]
    refine mid_at (fun σ G3 => ∃ b, σ = [some (.str (S (99 :: r))), none, some (.ref L), some (.bl b), none] ∧ G3 = G2 ∧ ((b = false ∧ cpy ds = .strange) ∨ ∃ k d, b = true ∧ ds = [.str k, d] ∧ keyOk k = true)) ?_ ?_
    · walk_at "sx"
      refine .inl ⟨xs, .inl (SqL.of eL), ?_⟩
      by_cases l2 : ds.length = 2
      rotate_left
      · rw [if_neg (by rw [decide_eq_true_eq]; omega)]
        exact cpy_len l2
      rw [if_pos (by rw [decide_eq_true_eq]; omega)]
      obtain ⟨d0, d1, rfl⟩ : ∃ d0 d1, ds = [d0, d1] := by
        match ds, l2 with
        | [a, b], _ => exact ⟨a, b, rfl⟩
      obtain ⟨T0, v0, f0, ex, eT, tv⟩ := at_ 0 d0 rfl
      refine ⟨xs, .inl (SqL.of eL), _, atI_nat (j := 0) ex, ?_⟩
      rw [RS.ix_r]
      refine ⟨_, .inr (SqT.of eT), v0, rfl, ?_⟩
      rcases nos_tr tv with ⟨k, rfl, rfl⟩ | ⟨nS, nk⟩
      · have kl : k.length ≤ 10000 := hw.1
        refine ⟨_, rfl, .inl ⟨k, rfl, by omega, _, rfl, rfl, ?_⟩⟩
        cases hk : keyOk k with
        | false => exact .inl ⟨rfl, by simp [cpy, hk]⟩
        | true => exact .inr ⟨rfl, k, d1, rfl, hk⟩
      · exact ⟨_, rfl, .inr ⟨nS, _, rfl, rfl, .inl ⟨rfl, cpy_nk nk⟩⟩⟩
    rintro _ G3 ⟨b, rfl, rfl, ⟨rfl, e⟩ | ⟨k, d, rfl, rfl, hk⟩⟩
    · walk_at "sx"
      exact fun L hL p hp => strange _ G3 p L _ s1 hL hp rfl (e0.trans e)
    · walk_at "sx"
      obtain ⟨T0, v0, f0, ex0, eT0, tv0⟩ := at_ 0 _ rfl
      obtain ⟨T1, v1, f1, ex1, eT1, tv1⟩ := at_ 1 _ rfl
      cases tv0
      refine ⟨xs, .inl (SqL.of eL), _, atI_nat (j := 0) ex0, ?_⟩
      rw [RS.ix_r]
      refine ⟨_, .inr (SqT.of eT0), _, rfl, xs, .inl (SqL.of eL), _, atI_nat (j := 1) ex1, ?_⟩
      rw [RS.ix_r]
      refine ⟨_, .inr (SqT.of eT1), _, rfl, xs, .inl (SqL.of eL), _, atI_nat (j := 1) ex1, ?_⟩
      rw [RS.ix_r]
      refine ⟨_, .inr (SqT.of eT1), _, rfl, fun p hp L' hL p3 hp3 => ?_⟩
      have sp := same_upd (o := HO.tup [V.str k, V.str (spell d), v1]) hp
      have sL := same_upd (o := HO.lst [V.ref p]) hL
      have s3 := same_upd (o := HO.tup [V.str (Str.ofString "copy"), V.ref L', V.int 0]) hp3
      refine q _ _ (((s1.trans sp).trans sL).trans s3) ?_
      rw [e0, show cpy [.str k, d] = .copy k d from by simp [cpy, hk]]
      exact ⟨p3, L', [.ref p], _, 0, rfl, upd_same, s3 _ _ upd_same, rfl, .cons ⟨p, rfl, by simp, v1, f1, s3 _ _ (sL _ _ upd_same), ((tv1.same sp).same sL).same s3, by simp⟩ .nil⟩
  rintro _ G3 ⟨rfl, rfl, rfl⟩
  have e0 : rdg (98 :: r) = match pcs ds with
    | some ps => .batch ps
    | none => .strange := by rw [rdg_b, er]; rfl
  refine mid_at (fun σ G4 => ∃ v, σ = [some (.str (S (98 :: r))), none, some (.ref L), none, some v] ∧ Same G3 G4 ∧ match pcs ds with
    | none => v = .non
    | some ps => ∃ L2 ys, v = .ref L2 ∧ G4 L2 = some (.lst ys) ∧ Paired (PcAt [] G4) ys ps) ?_ ?_
  · walk_at "sx"
    refine ⟨_, rfl, L, xs, ds, rfl, eL, pr, dl, hw, ?_⟩
    cases pcs ds with
    | none => exact fun H' s => ⟨s, rfl⟩
    | some ps => exact fun L2 ys H' s e1 p2 => ⟨s, L2, rfl, ys, e1, p2⟩
  rintro _ G4 ⟨v, rfl, s4, h4⟩
  cases hp : pcs ds with
  | none =>
    rw [hp] at h4 e0
    subst h4
    walk_at "sx"
    exact fun L hL p hp => strange _ G4 p L _ (s1.trans s4) hL hp rfl e0
  | some ps =>
    rw [hp] at h4 e0
    obtain ⟨L2, ys, rfl, e1, p2⟩ := h4
    walk_at "sx"
    intro p hp
    have sp := same_upd (o := HO.tup [V.str "batch", V.ref L2, V.int 0]) hp
    refine q _ _ ((s1.trans s4).trans sp) ?_
    rw [e0]
    exact ⟨p, L2, ys, _, 0, rfl, upd_same, sp _ _ e1, rfl, paired_imp p2 fun _ _ h => h.same sp⟩
end
local macro_rules | `(tactic| walk_at "sx") => `(tactic| simp only [tRet, tRetN, tSeq, C8.tCut, tNext, tAsg, gName, gNil, gCons, gTup, gFld, tIfS, tIf, tAndV, tOrV, tNotV, tAnd, tOr, tNot, tB, tTest, tOp, tUn, tCB, tCons, tNil, tVar, tC, tChain, tDrop, RS.tCallG, RS.tMethG, tMakeG, RS.tCallK, RS.tMakeK, tEqOwn, rI, rI0, rU, add_ii, add_ss, add_rr, mul_ii, mul_si, mul_ri, RS.eq_ii, RS.eq_ss, eq_bb, eq_nn, eq_sn, eq_ns, eq_in, eq_ni, eq_bn, eq_nb, eq_is, eq_si, eq_rr, ne_ii, ne_ss, ne_bb, ne_nn, ne_sn, ne_ns, ne_in, ne_ni, ne_is, ne_si, ne_rr, in_ss, in_r, nin_ss, nin_r, len_s, len_r, RS.ix_s, RS.ix_r, sl_s, sl_r, is_eq, tyN_n, tyN_b, tyN_i, tyN_s, tru_b, tru_i, tru_n, tSl, tPart, tNoPart, tPar, tPar3, tFmtZ, tFmt, tJs, tDGet, sDPut, sFld, tFld, tTup, tLst, tNever, isB,
  L2.start, List.map_cons, List.map_nil, List.length_cons, List.length_nil, Nat.reduceAdd, Nat.reduceSub, Nat.sub_self, List.replicate_zero, List.replicate_succ, List.append_nil, List.cons_append, List.nil_append, List.getElem?_cons_zero, List.getElem?_cons_succ, List.set_cons_zero, List.set_cons_succ, Option.some.injEq, exists_eq_left, exists_eq_left', exists_and_left, V.bl.injEq, V.int.injEq, V.str.injEq, V.ref.injEq, beq_self_eq_true, Bool.true_or, Bool.or_true, Bool.false_or, Bool.or_false, Bool.and_false, Bool.false_and, Bool.true_and, Bool.and_true, Bool.not_true, Bool.not_false, Bool.false_eq_true, if_true, if_false, ite_true, ite_false, true_and, and_true, and_assoc, String.reduceBEq, String.reduceEq, reduceIte, Bool.and_self, reduceCtorEq, false_and, and_false, exists_false, or_false, false_or, exists_const, iEnumS, iStr, iList, iTup, iRng1, iEnum, tFor_eq, tLc_eq, List.cons.injEq, wipe, not_true_eq_false, not_false_eq_true, upd_same, HO.ins.injEq, HO.tup.injEq, HO.lst.injEq, ofS_eq, lk_nil, lk_cons, pu_nil, pu_cons, sizeLine_eq, Nat.reduceLT, Nat.reduceLeDiff, Nat.reduceEqDiff, Nat.le_refl, decide_true, decide_false, tPr, dget_us, dput_us, vv_nil, vv_cons, RS.pk_nil, pk_one, RS.pk_cons, inr_eq, tDisp, tPairs, tBoolOwn, rBoolOwn, tBM, rAppend, ty_list, ty_str, rEqOwn, iEnumT, RS.tCallS, tM1, tDc_eq, tLock, tLockE, iKeys, tListEnum, rUpdate, tMkX0, tMkX1, tXfv, gSub, rSetL, List.getD_cons_zero, List.getD_cons_succ, tBreak, tCMethS, ClX.tCVal, tXfa, tIxOwn, tInOwn, tPropG, tMethK, tMethP, tListGen, tDGet2, tDPop2, rNeD0, intA_i, intA_b, tRevL, sFldAug, tPm0, tPm1, tDIn, tDNotIn, tDNewK, RS.tMethS, tForK, tKM, tKC, tLcK, tKM2, tKC2, tMethStar, tKCK2, tLk, tAug, ipI, tDig, tLcX, tKMX, tKCX, tForY, tKCY, tKMY, tYThen, tYPlain, tYYield, tY0, tYIf, GKE.at, tListX])
/-- a deed, a tuple -/
def DdAt (av : List Addr) (H : Hp) (x : V) (p : Deed) : Prop := ∃ T, x = .ref T ∧ T ∉ av ∧ match p.2 with
  | none => H T = some (.tup [.str "drop", .str p.1])
  | some d => ∃ v fp, H T = some (.tup [.str "put", .str p.1, v]) ∧ Tr H v d fp ∧ ∀ a ∈ av, a ∉ fp
theorem DdAt.but {av : List Addr} {H H' : Hp} {a : Addr} {x : V} {p : Deed} (h : DdAt av H x p) (m : a ∈ av) (nt : ∀ ys, H a ≠ some (.tup ys)) (s : ∀ c o, c ≠ a → H c = some o → H' c = some o) : DdAt av H' x p := by
  obtain ⟨T, rfl, h1, h2⟩ := h
  have ne : T ≠ a := fun z => h1 (z ▸ m)
  refine ⟨T, rfl, h1, ?_⟩
  cases e : p.2 with
  | none => rw [e] at h2; exact s _ _ ne h2
  | some d =>
    rw [e] at h2
    obtain ⟨v, fp, e1, t, n⟩ := h2
    exact ⟨v, fp, s _ _ ne e1, t.but nt s (n a m), n⟩
theorem DdAt.same {av : List Addr} {H H' : Hp} {x : V} {p : Deed} (h : DdAt av H x p) (s : Same H H') : DdAt av H' x p := by
  obtain ⟨T, rfl, h1, h2⟩ := h
  refine ⟨T, rfl, h1, ?_⟩
  cases e : p.2 with
  | none => rw [e] at h2; exact s _ _ h2
  | some d =>
    rw [e] at h2
    obtain ⟨v, fp, e1, t, n⟩ := h2
    exact ⟨v, fp, s _ _ e1, t.same s, n⟩
theorem DdAt.less {av av' : List Addr} {H : Hp} {x : V} {p : Deed} (h : DdAt av H x p) (m : ∀ a ∈ av', a ∈ av) : DdAt av' H x p := by
  obtain ⟨T, rfl, h1, h2⟩ := h
  refine ⟨T, rfl, fun z => h1 (m _ z), ?_⟩
  cases e : p.2 with
  | none => rw [e] at h2; exact h2
  | some d =>
    rw [e] at h2
    obtain ⟨v, fp, e1, t, n⟩ := h2
    exact ⟨v, fp, e1, t, fun a z => n a (m a z)⟩
/-- what reading_of returns -/
def TlAt (H : Hp) (v : V) (x : Rdg) : Prop := ∃ p : Addr, v = .ref p ∧ match x with
  | .strange => H p = some (.tup [.str "strange"])
  | .fin n => H p = some (.tup [.str "end", .int (n : Nat)])
  | .copy k d => ∃ u fp, H p = some (.tup [.str "copy", .str k, u]) ∧ Tr H u d fp
  | .batch ps => ∃ L ys, H p = some (.tup [.str "batch", .ref L]) ∧ H L = some (.tup ys) ∧ Paired (DdAt [] H) ys ps
theorem TlAt.same {H H' : Hp} {v : V} {x : Rdg} (h : TlAt H v x) (s : Same H H') : TlAt H' v x := by
  obtain ⟨p, rfl, h⟩ := h
  refine ⟨p, rfl, ?_⟩
  cases x with
  | strange => exact s _ _ h
  | fin n => exact s _ _ h
  | copy k d => obtain ⟨u, fp, h1, h2⟩ := h; exact ⟨u, fp, s _ _ h1, h2.same s⟩
  | batch ps => obtain ⟨L, ys, h1, h2, h3⟩ := h; exact ⟨L, ys, s _ _ h1, s _ _ h2, paired_imp h3 fun _ _ z => z.same s⟩
theorem len_raw : ∀ ps : List Deed, ps.length ≤ (rawD ps).length
  | [] => Nat.le_refl _
  | (k, some d) :: r => by have := len_raw r; simp only [rawD, List.length_cons]; omega
  | (k, none) :: r => by have := len_raw r; simp only [rawD, List.length_cons]; omega
theorem rdg_len {t : List Nat} {ps : List Deed} (h : rdg t = .batch ps) : ps.length ≤ t.length := by
  rcases rdg_text (t := t) with e | ⟨e, _⟩
  · rw [h] at e; cases e
  · rw [h] at e
    have h1 := len_raw ps
    have h2 := len_sls (rawD ps)
    rw [← e]
    simp only [txt, List.length_cons]
    omega
section
variable {g : Wd} {f : Addr} {fd : FuncData}
theorem sc_reading_of : FnScope ["text", "sort", "pieces", "many", "deeds", "key", "spelled", "value"] ["text"] (defScope s_reading_of) := ⟨rfl, rfl, rfl, by decide +kernel, rfl, by decide +kernel, by decide +kernel⟩
def sp_reading : Sp := S1 fun z H Q _ => ∃ t, z = .str (S t) ∧ t.length ≤ 1000000 ∧ ∀ v H', Same H H' → TlAt H' v (rdg t) → Q v H'
theorem ok_reading (F : Df g.K "reading_of" "reading_of" s_reading_of f fd .none) (T : Txt2 g) (F_parsed : Kn g "parsed" 50 ["text"] [] sp_parsed) : FnG g 51 f fd ["text"] sp_reading := by
  refine F.ok sc_reading_of (fun vs H Q E h => S1.len h) (fun cdv A outer s H vs Q E hr h => ?_)
  obtain ⟨_, rfl, t, rfl, tl, q⟩ := h
  refine ⟨_, (pss_cons (ps_if (pt_not (pt_val (pe_callB (c_is "str") (by rfl) T.b_isinstance bb_isinstance (pa_cons (pv 0) (pa_cons (pe_bltn (v := .ty "str") rfl T.b_str bb_str rfl) pa_nil))))) (pss_one ps_never) pss_nil)
      (pss_mid (ps_asg (pe_callG F_parsed (hr.mono (by first | decide | omega)) tkD (pa_cons (pv 0) pa_nil)) (g_tup (K := g.K) (n := 3) (pgs_cons (pg_name (i := 1) sc_reading_of.nd rfl (.inl rfl)) (pgs_cons (pg_name (i := 2) sc_reading_of.nd rfl (.inl rfl)) (pgs_cons (pg_name (i := 3) sc_reading_of.nd rfl (.inl rfl)) pgs_nil)))))
      (pss_mid (ps_if (pt_cmpR (o_eq (K := g.K) hr) (pv 1) pe_str (nomark _)) (pss_one (ps_ret (pe_tup (pa_cons pe_str pa_nil)))) pss_nil)
      (pss_mid (ps_if (pt_cmpR (o_eq (K := g.K) hr) (pv 1) pe_str (nomark _)) (pss_one (ps_ret (pe_tup (pa_cons pe_str (pa_cons (pv 3) pa_nil))))) pss_nil)
      (pss_mid (ps_if (pt_cmpR (o_eq (K := g.K) hr) (pv 1) pe_str (nomark _)) (pss_one (ps_ret (pe_tup (pa_cons pe_str (pa_cons (pe_ix (o_ix (K := g.K)) (pe_ix (o_ix (K := g.K)) (pv 2) pe_int (fun _ _ => rfl)) pe_int (fun _ _ => rfl)) (pa_cons (pe_ix (o_ix (K := g.K)) (pe_ix (o_ix (K := g.K)) (pv 2) pe_int (fun _ _ => rfl)) pe_int (fun _ _ => rfl)) pa_nil)))))) pss_nil)
      (pss_mid (ps_setLc (i := 4) (own := [("key", 5), ("spelled", 6), ("value", 7)]) (tt := tYes) rfl sc_reading_of.nd rfl rfl (sw_true rfl rfl rfl (by decide +kernel)) (i_list (K := g.K) (pv 2)) (blkOk_by (own := [("key", 5), ("spelled", 6), ("value", 7)]) (N := ["text", "sort", "pieces", "many", "deeds", "key", "spelled", "value"]) (sc := defScope s_reading_of) (by decide +kernel)) (fun _ _ _ _ _ => (g_tup (K := g.K) (n := 3) (pgs_cons (pg_name (i := 5) sc_reading_of.nd rfl (.inl rfl)) (pgs_cons (pg_name (i := 6) sc_reading_of.nd rfl (.inl rfl)) (pgs_cons (pg_name (i := 7) sc_reading_of.nd rfl (.inl rfl)) pgs_nil))))) (fun _ _ _ _ _ => pts_nil) (fun _ _ _ _ _ => (pe_ifExp (pt_cmpR op_isN (pv 6) pe_non (nomark _)) (pe_tup (pa_cons pe_str (pa_cons (pv 5) pa_nil))) (pe_tup (pa_cons pe_str (pa_cons (pv 5) (pa_cons (pv 7) pa_nil)))))))
      (pss_one (ps_ret (pe_tup (pa_cons pe_str (pa_cons (pe_callTy call_tuple_of (by rfl) T.b_tuple bb_tuple (pa_cons (pv 4) pa_nil)) pa_nil))))))))))), ?_⟩
  walk_at "sx"
  refine mid_at (fun σ G => ∃ (w : Str) (L : Addr) (xs : List V) (m : Nat), σ = [some (.str (S t)), some (.str w), some (.ref L), some (.int (m : Nat)), none, none, none, none] ∧ Same H G ∧ G L = some (.lst xs) ∧ match rdg t with
    | .strange => w = "strange" ∧ xs = []
    | .fin n => w = "end" ∧ m = n
    | .copy k d => w = "copy" ∧ Paired (PcAt [] G) xs [(k, some d)]
    | .batch ps => w = "batch" ∧ Paired (PcAt [] G) xs ps) ?_ ?_
  · walk_at "sx"
    refine ⟨_, rfl, t, rfl, tl, fun v H' s1 h1 => ?_⟩
    obtain ⟨p, L, xs, w, m, rfl, ep, eL, hx⟩ := h1
    exact ⟨p, rfl, _, SqT.of ep, rfl, _, _, rfl, _, _, rfl, _, _, rfl, rfl, w, rfl, L, rfl, xs, m, rfl, s1, eL, hx⟩
  rintro _ G ⟨w, L, xs, m, rfl, sG, eL, hx⟩
  cases er : rdg t with
  | strange =>
    rw [er] at hx q
    obtain ⟨rfl, rfl⟩ := hx
    refine mid_at (fun _ _ => False) ?_ (fun _ _ z => z.elim)
    walk_at "sx"
    intro p hp
    exact q _ _ (sG.trans (same_upd hp)) ⟨p, rfl, upd_same⟩
  | fin n =>
    rw [er] at hx q
    obtain ⟨rfl, rfl⟩ := hx
    refine mid_one [some (.str (S t)), some (.str "end"), some (.ref L), some (.int (m : Nat)), none, none, none, none] (fun G1 => G1 = G) ?_ ?_
    · walk_at "sx"
    intro G1 e1
    rw [e1]; clear e1 G1
    refine mid_at (fun _ _ => False) ?_ (fun _ _ z => z.elim)
    walk_at "sx"
    intro p hp
    exact q _ _ (sG.trans (same_upd hp)) ⟨p, rfl, upd_same⟩
  | copy k d =>
    rw [er] at hx q
    obtain ⟨rfl, hp⟩ := hx
    refine mid_one [some (.str (S t)), some (.str "copy"), some (.ref L), some (.int (m : Nat)), none, none, none, none] (fun G1 => G1 = G) ?_ ?_
    · walk_at "sx"
    intro G1 e1
    rw [e1]; clear e1 G1
    refine mid_one [some (.str (S t)), some (.str "copy"), some (.ref L), some (.int (m : Nat)), none, none, none, none] (fun G1 => G1 = G) ?_ ?_
    · walk_at "sx"
    intro G1 e1
    rw [e1]; clear e1 G1
    refine mid_at (fun _ _ => False) ?_ (fun _ _ z => z.elim)
    obtain ⟨x0, rfl⟩ : ∃ x0, xs = [x0] := by
      match xs, paired_len hp with
      | [a], _ => exact ⟨a, rfl⟩
    obtain ⟨x1, ex1, T, rfl, nT, v, fp, eT, tv, -⟩ := paired_atY (i := 0) hp rfl
    cases ex1
    walk_at "sx"
    cases hp with
    | cons hp0 _ =>
    refine ⟨[.ref T], .inl (SqL.of eL), .ref T, rfl, ?_⟩
    rw [RS.ix_r]
    refine ⟨_, .inr (SqT.of eT), _, rfl, [.ref T], .inl (SqL.of eL), .ref T, rfl, ?_⟩
    rw [RS.ix_r]
    refine ⟨_, .inr (SqT.of eT), _, rfl, fun p hp => ?_⟩
    have sp := same_upd (o := HO.tup [V.str (Str.ofString "copy"), V.str k, v]) hp
    exact q _ _ (sG.trans sp) ⟨p, rfl, v, fp, upd_same, tv.same sp⟩
  | batch ps =>
    rw [er] at hx q
    obtain ⟨rfl, hp⟩ := hx
    refine mid_one [some (.str (S t)), some (.str "batch"), some (.ref L), some (.int (m : Nat)), none, none, none, none] (fun G1 => G1 = G) ?_ ?_
    · walk_at "sx"
    intro G1 e1
    rw [e1]; clear e1 G1
    refine mid_one [some (.str (S t)), some (.str "batch"), some (.ref L), some (.int (m : Nat)), none, none, none, none] (fun G1 => G1 = G) ?_ ?_
    · walk_at "sx"
    intro G1 e1
    rw [e1]; clear e1 G1
    refine mid_one [some (.str (S t)), some (.str "batch"), some (.ref L), some (.int (m : Nat)), none, none, none, none] (fun G1 => G1 = G) ?_ ?_
    · walk_at "sx"
    intro G1 e1
    rw [e1]; clear e1 G1
    have pl := paired_len hp
    refine mid_at (fun σ G2 => ∃ D ys, σ = [some (.str (S t)), some (.str "batch"), some (.ref L), some (.int (m : Nat)), some (.ref D), none, none, none] ∧ Same G G2 ∧ G2 D = some (.lst ys) ∧ Paired (DdAt [] G2) ys ps) ?_ ?_
    · walk_at "sx"
      refine ⟨⟨xs, SqL.of eL⟩, ?_⟩
      have psl := rdg_len er
      refine lc_invA xs.length (fun D i acc G1 => Same G G1 ∧ Paired (DdAt [D] G1) acc (ps.take i)) (by rw [sizeLine_eq]; omega) (fun D hD => ⟨same_upd hD, by simpa using Paired.nil⟩) (fun D i acc G1 hD lt P => ⟨_, xs[i], SqL.of (P.1 _ _ eL), List.getElem?_eq_getElem lt⟩) (fun D acc G1 hD P => ⟨_, SqL.of (P.1 _ _ eL), Nat.le_refl _⟩) (fun D i acc G0 x G1 K hD lt la P eD y k => ?_) (fun D acc G1 hD P eD => ?_)
      · obtain ⟨rfl, hx⟩ := y
        have hx := hx _ (SqL.of (P.1 _ _ eL))
        obtain ⟨s1, pp⟩ := P
        obtain ⟨p0, hp0⟩ : ∃ p0, ps[i]? = some p0 := ⟨ps[i], List.getElem?_eq_getElem (by omega)⟩
        obtain ⟨x1, ex1, T, rfl, -, h2⟩ := paired_atY hp hp0
        rw [ex1] at hx
        cases hx
        have tk : ps.take (i + 1) = ps.take i ++ [p0] := take_at' hp0
        have fin : ∀ (o : HO) (pp' : Addr), G1 pp' = none → (match p0.2 with
            | none => o = .tup [.str "drop", .str p0.1]
            | some d => ∃ v fp, o = .tup [.str "put", .str p0.1, v] ∧ Tr G v d fp) → (∀ v G', G' D = some (.lst acc) → Same G (upd G' D (.lst (acc ++ [v]))) ∧ Paired (DdAt [D] (upd G' D (.lst (acc ++ [v])))) (acc ++ [v]) (ps.take (i + 1)) → K v G') → K (.ref pp') (upd G1 pp' o) := by
          intro o pp' np ho hk
          have sp := same_upd (o := o) np
          have pD : pp' ≠ D := fun z => by rw [z, eD] at np; cases np
          have e1 := sp _ _ eD
          have ep : upd G1 pp' o pp' = some o := upd_same
          generalize upd G1 pp' o = G2 at sp e1 ep ⊢
          have bD : But D G2 (upd G2 D (.lst (acc ++ [.ref pp']))) := fun c o n z => by rw [upd_ne n]; exact z
          have nt : ∀ ys, G2 D ≠ some (.tup ys) := fun ys z => by rw [e1] at z; cases z
          refine hk _ _ e1 ⟨fun c o z => ?_, ?_⟩
          · have cD : c ≠ D := fun e => by rw [e, hD] at z; cases z
            exact bD _ _ cD (sp _ _ (s1 _ _ z))
          · rw [tk]
            refine paired_snoc (paired_imp pp fun _ _ h => (h.same sp).but (by simp) nt bD) ⟨pp', rfl, by simpa using pD, ?_⟩
            cases e2 : p0.2 with
            | none => rw [e2] at ho; rw [ho] at ep; exact bD _ _ pD ep
            | some d =>
              rw [e2] at ho
              obtain ⟨v, fp, ho, tv⟩ := ho
              rw [ho] at ep
              have fD : D ∉ fp := fun z => by rcases tv.there D z with ⟨ys, e⟩ | ⟨ys, e⟩ <;> (rw [hD] at e; cases e)
              exact ⟨v, fp, bD _ _ pD ep, ((tv.same s1).same sp).but nt bD fD, by simpa using fD⟩
        cases e2 : p0.2 with
        | none =>
          rw [e2] at h2 fin
          refine ⟨T, _, rfl, SqT.of (s1 _ _ h2), rfl, _, _, rfl, _, _, rfl, _, _, rfl, rfl, ?_⟩
          refine ⟨rfl, ?_⟩
          walk_at "sx"
          exact fun pp' np => fin _ pp' np rfl k
        | some d =>
          rw [e2] at h2 fin
          obtain ⟨v, fp, h2, tv⟩ := h2
          refine ⟨T, _, rfl, SqT.of (s1 _ _ h2), rfl, _, _, rfl, _, _, rfl, _, _, rfl, rfl, ?_⟩
          refine ⟨rfl, ?_⟩
          walk_at "sx"
          exact fun pp' np => fin _ pp' np ⟨v, fp, rfl, tv.1⟩ k
      · obtain ⟨s1, pp⟩ := P
        rw [List.take_of_length_le (by omega)] at pp
        exact ⟨D, rfl, s1, acc, eD, paired_imp pp fun _ _ h => h.less (by simp)⟩
    rintro _ G2 ⟨D, ys, rfl, s2, eD, pd⟩
    walk_at "sx"
    refine ⟨ys, .inl ⟨SqL.of eD, fun l hl p hp => ?_⟩⟩
    have sl_ := same_upd (o := HO.tup ys) hl
    have sp := same_upd (o := HO.tup [V.str (Str.ofString "batch"), V.ref l]) hp
    exact q _ _ (((sG.trans s2).trans sl_).trans sp) ⟨p, rfl, l, ys, upd_same, sp _ _ upd_same, paired_imp pd fun _ _ h => (h.same sl_).same sp⟩
end
/-- a deed that can be written -/
structure DOk (p : Deed) : Prop where
  key : keyOk p.1 = true
  ok : ∀ d, p.2 = some d → okB d = true ∧ d.depth < 21 ∧ (spell d).length ≤ 100000
section
variable {g : Wd} {f : Addr} {fd : FuncData}
theorem sc_is_value : FnScope ["value"] ["value"] (defScope s_is_value) := ⟨rfl, rfl, rfl, by decide +kernel, rfl, by decide +kernel, by decide +kernel⟩
def sp_isv : Sp := S1 fun v H Q _ => ∃ d fp, Tr H v d fp ∧ okB d = true ∧ d.depth < 21 ∧ ∀ H', Same H H' → Q (.bl true) H'
theorem ok_isv (F : Df g.K "is_value" "is_value" s_is_value f fd .none) (T : Txt2 g) (F_wrong_path : Kn g "wrong_path" 22 ["value", "path"] [] (sp_path 21)) : FnG g 23 f fd ["value"] sp_isv := by
  refine F.ok sc_is_value (fun vs H Q E h => S1.len h) (fun cdv A outer s H vs Q E hr h => ?_)
  obtain ⟨v, rfl, d, fp, hv, hok, hn, q⟩ := h
  refine ⟨_, (pss_one (ps_ret (pe_cmpR op_isN (pe_callG F_wrong_path (hr.mono (by first | decide | omega)) tkD (pa_cons (pv 0) (pa_cons (pe_tup pa_nil) pa_nil))) pe_non (nomark _)))), ?_⟩
  walk_at "sx"
  intro p hp
  have sp := same_upd (o := HO.tup []) hp
  refine ⟨_, _, rfl, d, fp, p, [], hv.same sp, hok, rfl, upd_same, by simp; omega, hn, fun H' s' => ?_⟩
  walk_at "sx"
  exact q _ (sp.trans s')
theorem sc_is_deed : FnScope ["value"] ["value"] (defScope s_is_deed) := ⟨rfl, rfl, rfl, by decide +kernel, rfl, by decide +kernel, by decide +kernel⟩
def sp_isd : Sp := S1 fun v H Q _ => ∃ p, DdAt [] H v p ∧ DOk p ∧ ∀ H', Same H H' → Q (.bl true) H'
theorem ok_isd (F : Df g.K "is_deed" "is_deed" s_is_deed f fd .none) (T : Txt2 g) (F_is_key : Kn g "is_key" 1 ["value"] [] sp_iskey) (F_is_value : Kn g "is_value" 23 ["value"] [] sp_isv) : FnG g 24 f fd ["value"] sp_isd := by
  refine F.ok sc_is_deed (fun vs H Q E h => S1.len h) (fun cdv A outer s H vs Q E hr h => ?_)
  obtain ⟨_, rfl, ⟨k, o⟩, ⟨T0, rfl, -, h2⟩, hv, q⟩ := h
  have kl : k.length ≤ 200 := by
    have := hv.key
    simp only [keyOk, Bool.and_eq_true, decide_eq_true_eq] at this
    exact this.2
  have hk : keyOk k = true := hv.key
  refine ⟨_, (pss_cons (ps_if (PW.pt (pw_or (pt_not (pt_val (pe_callB (c_is "tuple") (by rfl) T.b_isinstance bb_isinstance (pa_cons (pv 0) (pa_cons (pe_bltn (v := .ty "tuple") rfl T.b_tuple bb_tuple rfl) pa_nil))))) (pw_or (pt_cmpR op_lt (pe_callB (c_len (K := g.K)) (by rfl) T.b_len bb_len (pa_cons (pv 0) pa_nil)) pe_int (nomark _)) (pw_or (pt_not (pt_val (pe_callB (c_is "str") (by rfl) T.b_isinstance bb_isinstance (pa_cons (pe_ix (o_ix (K := g.K)) (pv 0) pe_int (fun _ _ => rfl)) (pa_cons (pe_bltn (v := .ty "str") rfl T.b_str bb_str rfl) pa_nil))))) (pw_or1 (pt_not (pt_val (pe_callG F_is_key (hr.mono (by first | decide | omega)) tkD (pa_cons (pe_ix (o_ix (K := g.K)) (pv 0) pe_int (fun _ _ => rfl)) pa_nil))))))))) (pss_one (ps_ret pe_bl)) pss_nil)
      (pss_cons (ps_if (pt_cmpR (o_eq (K := g.K) hr) (pe_callB (c_len (K := g.K)) (by rfl) T.b_len bb_len (pa_cons (pv 0) pa_nil)) pe_int (nomark _)) (pss_one (ps_ret (pe_and (pe_cmpR (o_eq (K := g.K) hr) (pe_ix (o_ix (K := g.K)) (pv 0) pe_int (fun _ _ => rfl)) pe_str (nomark _)) (pe_one (pe_callG F_is_value (hr.mono (by first | decide | omega)) tkD (pa_cons (pe_ix (o_ix (K := g.K)) (pv 0) pe_int (fun _ _ => rfl)) pa_nil)))))) pss_nil)
      (pss_one (ps_ret (pe_and (pe_cmpR (o_eq (K := g.K) hr) (pe_callB (c_len (K := g.K)) (by rfl) T.b_len bb_len (pa_cons (pv 0) pa_nil)) pe_int (nomark _)) (pe_one (pe_cmpR (o_eq (K := g.K) hr) (pe_ix (o_ix (K := g.K)) (pv 0) pe_int (fun _ _ => rfl)) pe_str (nomark _)))))))), ?_⟩
  cases o with
  | none =>
    have h2 : H T0 = some (.tup [.str "drop", .str k]) := h2
    simp only [tyN_t h2, tRet, tRetN, tSeq, C8.tCut, tNext, tAsg, gName, gNil, gCons, gTup, gFld, tIfS, tIf, tAndV, tOrV, tNotV, tAnd, tOr, tNot, tB, tTest, tOp, tUn, tCB, tCons, tNil, tVar, tC, tChain, tDrop, RS.tCallG, RS.tMethG, tMakeG, RS.tCallK, RS.tMakeK, tEqOwn, rI, rI0, rU, add_ii, add_ss, add_rr, mul_ii, mul_si, mul_ri, RS.eq_ii, RS.eq_ss, eq_bb, eq_nn, eq_sn, eq_ns, eq_in, eq_ni, eq_bn, eq_nb, eq_is, eq_si, eq_rr, ne_ii, ne_ss, ne_bb, ne_nn, ne_sn, ne_ns, ne_in, ne_ni, ne_is, ne_si, ne_rr, in_ss, in_r, nin_ss, nin_r, len_s, len_r, RS.ix_s, RS.ix_r, sl_s, sl_r, is_eq, tyN_n, tyN_b, tyN_i, tyN_s, tru_b, tru_i, tru_n, tSl, tPart, tNoPart, tPar, tPar3, tFmtZ, tFmt, tJs, tDGet, sDPut, sFld, tFld, tTup, tLst, tNever, isB,
  L2.start, List.map_cons, List.map_nil, List.length_cons, List.length_nil, Nat.reduceAdd, Nat.reduceSub, Nat.sub_self, List.replicate_zero, List.replicate_succ, List.append_nil, List.cons_append, List.nil_append, List.getElem?_cons_zero, List.getElem?_cons_succ, List.set_cons_zero, List.set_cons_succ, Option.some.injEq, exists_eq_left, exists_eq_left', exists_and_left, V.bl.injEq, V.int.injEq, V.str.injEq, V.ref.injEq, beq_self_eq_true, Bool.true_or, Bool.or_true, Bool.false_or, Bool.or_false, Bool.and_false, Bool.false_and, Bool.true_and, Bool.and_true, Bool.not_true, Bool.not_false, Bool.false_eq_true, if_true, if_false, ite_true, ite_false, true_and, and_true, and_assoc, String.reduceBEq, String.reduceEq, reduceIte, Bool.and_self, reduceCtorEq, false_and, and_false, exists_false, or_false, false_or, exists_const, iEnumS, iStr, iList, iTup, iRng1, iEnum, tFor_eq, tLc_eq, List.cons.injEq, wipe, not_true_eq_false, not_false_eq_true, upd_same, HO.ins.injEq, HO.tup.injEq, HO.lst.injEq, ofS_eq, lk_nil, lk_cons, pu_nil, pu_cons, sizeLine_eq, Nat.reduceLT, Nat.reduceLeDiff, Nat.reduceEqDiff, Nat.le_refl, decide_true, decide_false, tPr, dget_us, dput_us, vv_nil, vv_cons, RS.pk_nil, pk_one, RS.pk_cons, inr_eq, tDisp, tPairs, tBoolOwn, rBoolOwn, tBM, rAppend, ty_list, ty_str, rEqOwn, iEnumT, RS.tCallS, tM1, tDc_eq, tLock, tLockE, iKeys, tListEnum, rUpdate, tMkX0, tMkX1, tXfv, gSub, rSetL, List.getD_cons_zero, List.getD_cons_succ, tBreak, tCMethS, ClX.tCVal, tXfa, tIxOwn, tInOwn, tPropG, tMethK, tMethP, tListGen, tDGet2, tDPop2, rNeD0, intA_i, intA_b, tRevL, sFldAug, tPm0, tPm1, tDIn, tDNotIn, tDNewK, RS.tMethS, tForK, tKM, tKC, tLcK, tKM2, tKC2, tMethStar, tKCK2, tLk, tAug, ipI, tDig, tLcX, tKMX, tKCX, tForY, tKCY, tKMY, tYThen, tYPlain, tYYield, tY0, tYIf, GKE.at, tListX]
    have sq : SqL g.K H T0 [.str "drop", .str k] ∨ SqT g.K H T0 [.str "drop", .str k] := .inr (SqT.of h2)
    refine .inl ⟨_, sq, ?_⟩
    rw [if_neg (by simp)]
    refine ⟨_, sq, _, rfl, "str", rfl, ?_⟩
    rw [if_neg (by decide)]
    refine ⟨_, sq, _, rfl, _, rfl, .inl ⟨k, rfl, by omega, ?_⟩⟩
    rw [hk]
    refine ⟨_, rfl, ?_⟩
    rw [if_neg (by simp)]
    refine .inl ⟨_, sq, ?_⟩
    rw [if_neg (by simp)]
    refine .inl ⟨_, sq, ?_⟩
    rw [if_pos (by simp)]
    refine ⟨_, sq, _, rfl, ?_⟩
    rw [RS.eq_ss]
    rw [decide_eq_true rfl]
    exact q _ (Same.refl _)
  | some d =>
    obtain ⟨w, fp, h2, tv, -⟩ := h2
    simp only [tyN_t h2, tRet, tRetN, tSeq, C8.tCut, tNext, tAsg, gName, gNil, gCons, gTup, gFld, tIfS, tIf, tAndV, tOrV, tNotV, tAnd, tOr, tNot, tB, tTest, tOp, tUn, tCB, tCons, tNil, tVar, tC, tChain, tDrop, RS.tCallG, RS.tMethG, tMakeG, RS.tCallK, RS.tMakeK, tEqOwn, rI, rI0, rU, add_ii, add_ss, add_rr, mul_ii, mul_si, mul_ri, RS.eq_ii, RS.eq_ss, eq_bb, eq_nn, eq_sn, eq_ns, eq_in, eq_ni, eq_bn, eq_nb, eq_is, eq_si, eq_rr, ne_ii, ne_ss, ne_bb, ne_nn, ne_sn, ne_ns, ne_in, ne_ni, ne_is, ne_si, ne_rr, in_ss, in_r, nin_ss, nin_r, len_s, len_r, RS.ix_s, RS.ix_r, sl_s, sl_r, is_eq, tyN_n, tyN_b, tyN_i, tyN_s, tru_b, tru_i, tru_n, tSl, tPart, tNoPart, tPar, tPar3, tFmtZ, tFmt, tJs, tDGet, sDPut, sFld, tFld, tTup, tLst, tNever, isB,
  L2.start, List.map_cons, List.map_nil, List.length_cons, List.length_nil, Nat.reduceAdd, Nat.reduceSub, Nat.sub_self, List.replicate_zero, List.replicate_succ, List.append_nil, List.cons_append, List.nil_append, List.getElem?_cons_zero, List.getElem?_cons_succ, List.set_cons_zero, List.set_cons_succ, Option.some.injEq, exists_eq_left, exists_eq_left', exists_and_left, V.bl.injEq, V.int.injEq, V.str.injEq, V.ref.injEq, beq_self_eq_true, Bool.true_or, Bool.or_true, Bool.false_or, Bool.or_false, Bool.and_false, Bool.false_and, Bool.true_and, Bool.and_true, Bool.not_true, Bool.not_false, Bool.false_eq_true, if_true, if_false, ite_true, ite_false, true_and, and_true, and_assoc, String.reduceBEq, String.reduceEq, reduceIte, Bool.and_self, reduceCtorEq, false_and, and_false, exists_false, or_false, false_or, exists_const, iEnumS, iStr, iList, iTup, iRng1, iEnum, tFor_eq, tLc_eq, List.cons.injEq, wipe, not_true_eq_false, not_false_eq_true, upd_same, HO.ins.injEq, HO.tup.injEq, HO.lst.injEq, ofS_eq, lk_nil, lk_cons, pu_nil, pu_cons, sizeLine_eq, Nat.reduceLT, Nat.reduceLeDiff, Nat.reduceEqDiff, Nat.le_refl, decide_true, decide_false, tPr, dget_us, dput_us, vv_nil, vv_cons, RS.pk_nil, pk_one, RS.pk_cons, inr_eq, tDisp, tPairs, tBoolOwn, rBoolOwn, tBM, rAppend, ty_list, ty_str, rEqOwn, iEnumT, RS.tCallS, tM1, tDc_eq, tLock, tLockE, iKeys, tListEnum, rUpdate, tMkX0, tMkX1, tXfv, gSub, rSetL, List.getD_cons_zero, List.getD_cons_succ, tBreak, tCMethS, ClX.tCVal, tXfa, tIxOwn, tInOwn, tPropG, tMethK, tMethP, tListGen, tDGet2, tDPop2, rNeD0, intA_i, intA_b, tRevL, sFldAug, tPm0, tPm1, tDIn, tDNotIn, tDNewK, RS.tMethS, tForK, tKM, tKC, tLcK, tKM2, tKC2, tMethStar, tKCK2, tLk, tAug, ipI, tDig, tLcX, tKMX, tKCX, tForY, tKCY, tKMY, tYThen, tYPlain, tYYield, tY0, tYIf, GKE.at, tListX]
    have h2 : H T0 = some (.tup [.str "put", .str k, w]) := h2
    have sq : SqL g.K H T0 [.str "put", .str k, w] ∨ SqT g.K H T0 [.str "put", .str k, w] := .inr (SqT.of h2)
    refine .inl ⟨_, sq, ?_⟩
    rw [if_neg (by simp)]
    refine ⟨_, sq, _, rfl, "str", rfl, ?_⟩
    rw [if_neg (by decide)]
    refine ⟨_, sq, _, rfl, _, rfl, .inl ⟨k, rfl, by omega, ?_⟩⟩
    rw [hk]
    refine ⟨_, rfl, ?_⟩
    rw [if_neg (by simp)]
    refine .inl ⟨_, sq, ?_⟩
    rw [if_pos (by simp)]
    refine ⟨_, sq, _, rfl, ?_⟩
    rw [RS.eq_ss]
    refine ⟨_, rfl, ?_⟩
    rw [if_pos (by simp)]
    obtain ⟨o1, o2, o3⟩ := hv.ok d rfl
    exact ⟨_, sq, _, rfl, _, rfl, d, fp, tv, o1, o2, q⟩
theorem sc_check_deeds : FnScope ["deeds", "index", "deed"] ["deeds"] (defScope s_check_deeds) := ⟨rfl, rfl, rfl, by decide +kernel, rfl, by decide +kernel, by decide +kernel⟩
def sp_cdeeds : Sp := S1 fun v H Q _ => ∃ a xs ps, v = .ref a ∧ H a = some (.tup xs) ∧ Paired (DdAt [] H) xs ps ∧ (∀ p ∈ ps, DOk p) ∧ ps.length ≤ 100 ∧ ∀ H', Same H H' → Q .non H'
theorem ok_cdeeds (F : Df g.K "check_deeds" "check_deeds" s_check_deeds f fd .none) (T : Txt2 g) (F_is_deed : Kn g "is_deed" 24 ["value"] [] sp_isd) : FnG g 25 f fd ["deeds"] sp_cdeeds := by
  refine F.ok sc_check_deeds (fun vs H Q E h => S1.len h) (fun cdv A outer s H vs Q E hr h => ?_)
  obtain ⟨_, rfl, a, xs, ps, rfl, ha, hp, hv, pl, q⟩ := h
  refine ⟨_, (pss_one (ps_for psD rfl (pi_enumT (K := g.K) T.b_enumerate (pa_cons (pv 0) pa_nil)) (g_tup (K := g.K) (n := 2) (pgs_cons (pg_name (i := 1) sc_check_deeds.nd rfl (.inl rfl)) (pgs_cons (pg_name (i := 2) sc_check_deeds.nd rfl (.inl rfl)) pgs_nil))) (pss_one (ps_if (pt_not (pt_val (pe_callG F_is_deed (hr.mono (by first | decide | omega)) tkD (pa_cons (pv 2) pa_nil)))) (pss_one ps_never) pss_nil)))), ?_⟩
  walk_at "sx"
  have pl2 := paired_len hp
  refine ⟨xs, SqT.of ha, ?_⟩
  refine for_by xs.length (fun i σ X => (∃ v1 v2, σ = [some (.ref a), v1, v2]) ∧ Same H X) ⟨⟨_, _, rfl⟩, Same.refl _⟩ (fun i σ X lt P => ?_) (fun σ X P => ?_) (fun i σ X z X' lt P yl => ?_) (fun σ X P => q _ P.2)
  · exact ⟨_, xs[i], SqT.of (P.2 _ _ ha), List.getElem?_eq_getElem lt⟩
  · exact ⟨_, SqT.of (P.2 _ _ ha), rfl⟩
  obtain ⟨⟨v1, v2, rfl⟩, sX⟩ := P
  obtain ⟨T1, x, rfl, nT, rfl, hx⟩ := yl
  have hx := hx _ (SqT.of (sX _ _ ha))
  have s1 := sX.trans (same_upd (o := HO.tup [V.int (i : Nat), x]) nT)
  obtain ⟨p0, hp0⟩ : ∃ p0, ps[i]? = some p0 := ⟨ps[i], List.getElem?_eq_getElem (by omega)⟩
  obtain ⟨x1, ex1, hd⟩ := paired_atY hp hp0
  rw [ex1] at hx
  cases hx
  refine ⟨_, _, rfl, SqT.of upd_same, rfl, _, _, rfl, _, _, rfl, rfl, ?_⟩
  walk_at "sx"
  refine ⟨_, rfl, p0, hd.same s1, hv p0 (List.mem_of_getElem? hp0), fun H' s2 => ⟨true, rfl, ?_⟩⟩
  rw [if_neg (by simp)]
  exact ⟨⟨_, rfl⟩, s1.trans s2⟩
theorem sc_check_record : FnScope ["text"] ["text"] (defScope s_check_record) := ⟨rfl, rfl, rfl, by decide +kernel, rfl, by decide +kernel, by decide +kernel⟩
def sp_crec : Sp := S1 fun z H Q _ => ∃ x, z = .str x ∧ 1 ≤ x.length ∧ Q .non H
theorem ok_crec (F : Df g.K "check_record" "check_record" s_check_record f fd .none) (T : Txt2 g) : FnG g 1 f fd ["text"] sp_crec := by
  refine F.ok sc_check_record (fun vs H Q E h => S1.len h) (fun cdv A outer s H vs Q E hr h => ?_)
  obtain ⟨_, rfl, x, rfl, hx, q⟩ := h
  refine ⟨_, (pss_one (ps_if (PW.pt (pw_or (pt_not (pt_val (pe_callB (c_is "str") (by rfl) T.b_isinstance bb_isinstance (pa_cons (pv 0) (pa_cons (pe_bltn (v := .ty "str") rfl T.b_str bb_str rfl) pa_nil))))) (pw_or1 (pt_cmpR (o_eq (K := g.K) hr) (pv 0) pe_str (nomark _))))) (pss_one ps_never) pss_nil)), ?_⟩
  walk_at "sx"
  rw [if_neg (by rw [decide_eq_true_eq]; intro z; rw [z, show (Str.ofString "").length = 0 from by decide +kernel] at hx; omega)]
  exact q
theorem sc_page_count : FnScope ["text"] ["text"] (defScope s_page_count) := ⟨rfl, rfl, rfl, by decide +kernel, rfl, by decide +kernel, by decide +kernel⟩
def sp_pcount : Sp := S1 fun z H Q _ => ∃ x, z = .str x ∧ 1 ≤ x.length ∧ x.length ≤ 1000000 ∧ Q (.int (((x.length + 45) / 46 : Nat) : Int)) H
theorem ok_pcount (F : Df g.K "page_count" "page_count" s_page_count f fd .none) (T : Txt2 g) (F_check_record : Kn g "check_record" 1 ["text"] [] sp_crec) : FnG g 2 f fd ["text"] sp_pcount := by
  refine F.ok sc_page_count (fun vs H Q E h => S1.len h) (fun cdv A outer s H vs Q E hr h => ?_)
  obtain ⟨_, rfl, x, rfl, hx, hl, q⟩ := h
  refine ⟨_, (pss_cons (ps_expr (pe_callG F_check_record (hr.mono (by first | decide | omega)) tkD (pa_cons (pv 0) pa_nil)))
      (pss_one (ps_ret (pe_op op_fdiv (pe_op op_sub (pe_op (o_add (K := g.K)) (pe_callB (c_len (K := g.K)) (by rfl) T.b_len bb_len (pa_cons (pv 0) pa_nil)) (e_g T.c_BODY_LENGTH)) pe_int) (e_g T.c_BODY_LENGTH))))), ?_⟩
  walk_at "sx"
  refine ⟨_, rfl, x, rfl, hx, by omega, ⟨by omega, by omega⟩, ?_⟩
  rw [show ((x.length : Int) + 46 - 1) / 46 = (((x.length + 45) / 46 : Nat) : Int) from by omega]
  exact q
/-- the text of a batch -/
def btx : List Deed → Str
  | [] => Str.empty
  | (k, some d) :: r => spell (.bool true) ++ spell (.str k) ++ spell d ++ btx r
  | (k, none) :: r => spell (.bool false) ++ spell (.str k) ++ btx r
/-- the texts of a deed -/
def dts (p : Deed) : List Str := match p.2 with
  | some d => [spell (.str p.1), spell d]
  | none => [spell (.str p.1)]
def isPut (p : Deed) : Bool := p.2.isSome
theorem cat_app : ∀ a b : List Str, cat (a ++ b) = cat a ++ cat b
  | [], b => by simp [cat, Str.empty_append]
  | x :: a, b => by simp [cat, cat_app a b, Str.append_assoc]
theorem btx_app : ∀ (ps : List Deed) (p : Deed), btx (ps ++ [p]) = btx ps ++ (spell (.bool (isPut p)) ++ cat (dts p))
  | [], (k, some d) => by simp [btx, isPut, dts, cat, Str.empty_append, Str.append_empty, Str.append_assoc]
  | [], (k, none) => by simp [btx, isPut, dts, cat, Str.empty_append, Str.append_empty, Str.append_assoc]
  | (k, some d) :: r, p => by simp [btx, btx_app r p, Str.append_assoc]
  | (k, none) :: r, p => by simp [btx, btx_app r p, Str.append_assoc]
theorem key_sl {k : Str} (h : keyOk k = true) : (spell (.str k)).length ≤ 300 := by
  simp only [keyOk, Bool.and_eq_true, decide_eq_true_eq] at h
  simp only [spell, Str.length_append]
  have := num_len (n := k.length) (by omega)
  have e1 : ((("s" : Str)).length) = 1 := by decide +kernel
  have e2 : (((":" : Str)).length) = 1 := by decide +kernel
  omega
theorem cutV_1 (w : V) (vs : List V) : cutV (w :: vs) (some 1) none = vs := by
  simp [cutV, HT.sIx]
theorem dd_items {H : Hp} {x : V} {p : Deed} (h : DdAt [] H x p) (ok : DOk p) : ∃ (T : Addr) (w0 : V) (vs : List V) (ds : List PyData), x = .ref T ∧ H T = some (.tup (w0 :: vs)) ∧ vs.length = ds.length ∧ (vs.length + 1 = 3 ↔ isPut p = true) ∧ dts p = ds.map spell ∧ vs.length ≤ 2 ∧ ∀ (j : Nat) (v : V), vs[j]? = some v → ∃ (d : PyData) (fp : List Addr), ds[j]? = some d ∧ Tr H v d fp ∧ okB d = true ∧ d.depth < 21 ∧ (spell d).length ≤ 100000 := by
  obtain ⟨k, o⟩ := p
  obtain ⟨T, rfl, -, h2⟩ := h
  have kl : k.length ≤ 200 := by
    have := ok.key
    simp only [keyOk, Bool.and_eq_true, decide_eq_true_eq] at this
    exact this.2
  have kk : okB (.str k) = true ∧ (PyData.str k).depth < 21 ∧ (spell (.str k)).length ≤ 100000 := ⟨by simp [okB]; omega, by simp [PyData.depth], by have : (spell (.str k)).length ≤ 300 := key_sl ok.key; omega⟩
  cases o with
  | none =>
    refine ⟨T, _, [.str k], [.str k], rfl, h2, rfl, by simp [isPut], rfl, by simp, fun j v e => ?_⟩
    match j, e with
    | 0, e => cases e; exact ⟨_, _, rfl, .str k, kk⟩
  | some d =>
    obtain ⟨w, fp, h2, tv, -⟩ := h2
    refine ⟨T, _, [.str k, w], [.str k, d], rfl, h2, rfl, by simp [isPut], rfl, by simp, fun j v e => ?_⟩
    match j, e with
    | 0, e => cases e; exact ⟨_, _, rfl, .str k, kk⟩
    | 1, e => cases e; exact ⟨_, _, rfl, tv, ok.ok d rfl⟩
theorem sc_batch_text : FnScope ["deeds", "found", "deed", "item"] ["deeds"] (defScope s_batch_text) := ⟨rfl, rfl, rfl, by decide +kernel, rfl, by decide +kernel, by decide +kernel⟩
def sp_btext : Sp := S1 fun v H Q _ => ∃ a xs ps, v = .ref a ∧ H a = some (.tup xs) ∧ Paired (DdAt [] H) xs ps ∧ (∀ p ∈ ps, DOk p) ∧ ps.length ≤ 3 ∧ ∀ H', Same H H' → Q (.str (("b" : Str) ++ btx ps)) H'
theorem ok_btext (F : Df g.K "batch_text" "batch_text" s_batch_text f fd .none) (hbS : ∀ us rest : List Value, us.length = ([] : List Str).length → bindArgs fd ⟨us ++ rest, []⟩ = (newTuple rest >>= fun t => pure (([] : List Str).zip us ++ [(("deeds" : Str), t)]))) (T : Txt2 g) (F_check_deeds : Kn g "check_deeds" 25 ["deeds"] [] sp_cdeeds) (F_text_of : Kn g "text_of" 24 ["value"] [] sp_text) : FnS g 26 f (spS 0 sp_btext) := by
  refine F.okS (ps := []) (pv := "deeds") sc_batch_text hbS (fun cdv A outer s H vs Q E hr h => ?_)
  obtain ⟨_, rfl, a, xs, ps, rfl, ha, hp, hv, pl, q⟩ := h
  refine ⟨_, (pss_mid (ps_expr (pe_callG F_check_deeds (hr.mono (by first | decide | omega)) tkD (pa_cons (pv 0) pa_nil)))
      (pss_mid (ps_set (i := 1) sc_batch_text.nd rfl (Or.inl rfl) (pe_lst (pa_cons pe_str pa_nil)))
      (pss_mid (ps_for psD rfl (i_tup (K := g.K) (pv 0)) (pg_name (i := 2) sc_batch_text.nd rfl (.inl rfl)) (pss_cons (ps_expr (e_bm (K := g.K) PySem.F.plainAttrs_list PySem.F.slot_list_append PySem.F.type_list_append mt_append (pv 1) (pa_cons (pe_callG F_text_of (hr.mono (by first | decide | omega)) tkD (pa_cons (pe_cmpR (o_eq (K := g.K) hr) (pe_callB (c_len (K := g.K)) (by rfl) T.b_len bb_len (pa_cons (pv 2) pa_nil)) pe_int (nomark _)) pa_nil)) pa_nil)))
      (pss_one (ps_expr (e_bm (K := g.K) PySem.F.plainAttrs_list PySem.F.slot_list_extend PySem.F.type_list_extend mt_extend (pv 1) (pa_cons (pe_lc (own := [("item", 3)]) (tt := tYes) rfl sc_batch_text.nd (i_tup (K := g.K) (pe_slice (o_sl (K := g.K)) (pv 2) (po_some pe_int) po_none)) (blkOk_by (own := [("item", 3)]) (N := ["deeds", "found", "deed", "item"]) (sc := defScope s_batch_text) (by decide +kernel)) (fun _ _ _ _ _ => (pg_name (i := 3) sc_batch_text.nd rfl (.inl rfl))) (fun _ _ _ _ _ => pts_nil) (fun _ _ _ _ _ => (pe_callG F_text_of (Rm.mono (Rm.mk hr.room hr.gd) (by first | decide | omega)) L2.takes0 (pa_cons (pv 3) pa_nil)))) pa_nil))))))
      (pss_one (ps_ret (pe_join pe_str (pv 1))))))), ?_⟩
  refine mid_at (fun σ G => ∃ v1 v2 v3, σ = [some (.ref a), v1, v2, v3] ∧ Same H G) ?_ ?_
  · walk_at "sx"
    refine ⟨_, rfl, a, xs, ps, rfl, ha, hp, hv, by omega, fun H' s => s⟩
  rintro _ G ⟨v1, v2, v3, rfl, sG⟩
  refine mid_at (fun σ G => ∃ L v2 v3, σ = [some (.ref a), some (.ref L), v2, v3] ∧ Same H G ∧ G L = some (.lst [.str "b"]) ∧ H L = none) ?_ ?_
  · walk_at "sx"
    exact fun p np => ⟨sG.trans (same_upd np), by
      cases e : H p with
      | none => rfl
      | some o => rw [sG _ _ e] at np; cases np⟩
  rintro _ G ⟨L, v2, v3, rfl, sG, eL, nL⟩
  have pl2 := paired_len hp
  refine mid_at (fun σ G' => ∃ v2 v3 ws, σ = [some (.ref a), some (.ref L), v2, v3] ∧ But L G G' ∧ G' L = some (.lst (ws.map V.str)) ∧ cat ws = ("b" : Str) ++ btx ps ∧ ws.length ≤ 100 ∧ (ws.map (·.length)).sum ≤ 1000000) ?_ ?_
  · walk_at "sx"
    refine ⟨⟨_, SqT.of (sG _ _ ha)⟩, ?_⟩
    refine for_by xs.length (fun i σ X => ∃ v2 v3 ws, σ = [some (.ref a), some (.ref L), v2, v3] ∧ But L G X ∧ X L = some (.lst (ws.map V.str)) ∧ cat ws = ("b" : Str) ++ btx (ps.take i) ∧ ws.length ≤ 1 + 5 * i ∧ (ws.map (·.length)).sum ≤ 1 + 100400 * i) ⟨_, _, [("b" : Str)], rfl, But.of (Same.refl _), eL, by simp [cat, btx], by simp, by simp; decide +kernel⟩ (fun i σ X lt P => ?_) (fun σ X P => ?_) (fun i σ X z X' lt P yl => ?_) (fun σ X P => ?_)
    · obtain ⟨_, _, _, _, bX, _⟩ := P
      have aL : a ≠ L := fun z => by rw [z, nL] at ha; cases ha
      exact ⟨_, xs[i], SqT.of (bX _ _ aL (sG _ _ ha)), List.getElem?_eq_getElem lt⟩
    · obtain ⟨_, _, _, _, bX, _⟩ := P
      have aL : a ≠ L := fun z => by rw [z, nL] at ha; cases ha
      exact ⟨_, SqT.of (bX _ _ aL (sG _ _ ha)), Nat.le_refl _⟩
    · obtain ⟨v2, v3, ws, rfl, bX, eL', ec, sl', ss⟩ := P
      have aL : a ≠ L := fun z => by rw [z, nL] at ha; cases ha
      obtain ⟨rfl, hx⟩ := yl
      have hx := hx _ (SqT.of (bX _ _ aL (sG _ _ ha)))
      obtain ⟨p0, hp0⟩ : ∃ p0, ps[i]? = some p0 := ⟨ps[i], List.getElem?_eq_getElem (by omega)⟩
      obtain ⟨x1, ex1, hd⟩ := paired_atY hp hp0
      rw [ex1] at hx
      cases hx
      obtain ⟨T0, w0, vs, ds, rfl, eT, vl, vp, edt, v2l, its⟩ := dd_items hd (hv p0 (List.mem_of_getElem? hp0))
      have TL : T0 ≠ L := fun z => by rw [z, nL] at eT; cases eT
      have eT' := bX _ _ TL (sG _ _ eT)
      have tk : ps.take (i + 1) = ps.take i ++ [p0] := take_at' hp0
      walk_at "sx"
      refine ⟨⟨_, SqL.of eL'⟩, .inl ⟨_, .inr (SqT.of eT'), ?_⟩⟩
      have eb : decide ((((w0 :: vs).length : Nat) : Int) = 3) = isPut p0 := by
        rw [Bool.eq_iff_iff, ← vp, decide_eq_true_eq]
        simp only [List.length_cons]
        omega
      rw [eb]
      have sbl : (spell (.bool (isPut p0))).length = 1 := by cases isPut p0 <;> decide +kernel
      refine ⟨_, rfl, .bool (isPut p0), [], .bl _, rfl, by simp [PyData.depth], by omega, fun H1 s1 => ?_⟩
      have e1L := s1 _ _ eL'
      refine ⟨ws.map V.str, e1L, by simp; omega, ⟨_, SqL.of upd_same⟩, .inr ⟨T0, w0 :: vs, rfl, SqT.of (by rw [upd_ne TL]; exact s1 _ _ eT'), fun z => ?_, fun _ p np => ?_⟩⟩
      · have := z.1
        simp [HT.sIx] at this
      have ecut : cutV (w0 :: vs) (some 1) none = vs := cutV_1 w0 vs
      rw [ecut]
      have e2L : upd H1 L (.lst (ws.map V.str ++ [.str (spell (.bool (isPut p0)))])) L = some (.lst (ws.map V.str ++ [.str (spell (.bool (isPut p0)))])) := upd_same
      have b2 : But L H1 (upd H1 L (.lst (ws.map V.str ++ [.str (spell (.bool (isPut p0)))]))) := fun c o n z => by rw [upd_ne n]; exact z
      generalize upd H1 L (.lst (ws.map V.str ++ [.str (spell (.bool (isPut p0)))])) = G2 at np e2L b2 ⊢
      have sp := same_upd (o := HO.tup vs) np
      have ep : upd G2 p (.tup vs) p = some (.tup vs) := upd_same
      generalize upd G2 p (.tup vs) = G3 at sp ep ⊢
      have b3 : But L G G3 := ((bX.trans (But.of s1)).trans b2).trans (But.of sp)
      have e3L := sp _ _ e2L
      have ntL : ∀ ys, G L ≠ some (.tup ys) := fun ys z => by rw [eL] at z; cases z
      refine ⟨p, rfl, ⟨_, SqT.of ep⟩, ?_⟩
      refine lc_all vs.length (fun i => .str (spell (ds[i]?.getD .none))) (by rw [sizeLine_eq]; omega) (fun i G' lt s => ⟨_, vs[i], SqT.of (s _ _ ep), List.getElem?_eq_getElem lt⟩) (fun G' s => ⟨_, SqT.of (s _ _ ep), Nat.le_refl _⟩) (fun i G' x G'' K lt s y k => ?_) (fun D G' hD s eD => ?_)
      · obtain ⟨rfl, hx⟩ := y
        have hx := hx _ (SqT.of (s _ _ ep))
        obtain ⟨d, fp, ed, td, k1, k2, k3⟩ := its i x hx
        refine ⟨rfl, ?_⟩
        walk_at "sx"
        have fL : L ∉ fp := fun z => by rcases td.there L z with ⟨ys, e⟩ | ⟨ys, e⟩ <;> (rw [nL] at e; cases e)
        refine ⟨_, rfl, d, fp, (((td.same sG).but ntL b3 fL).same s), k1, k2, by omega, fun H' s' => ?_⟩
        have := k H' s'
        rw [ed] at this
        exact this
      · have e4L := s _ _ e3L
        have em : (List.range vs.length).map (fun i => V.str (spell (ds[i]?.getD .none))) = (dts p0).map V.str := by
          rw [edt, vl]
          refine List.ext_getElem (by simp) fun i h1 h2 => ?_
          simp at h1 h2
          simp [h1]
        rw [em] at eD
        have DL : D ≠ L := fun z => by rw [z, e3L] at hD; cases hD
        have dl : (dts p0).length ≤ 2 := by rw [edt, List.length_map]; omega
        have ds_ : ((dts p0).map (·.length)).sum ≤ 100300 := by
          have := hv p0 (List.mem_of_getElem? hp0)
          have k1 : (spell (.str p0.1)).length ≤ 300 := key_sl this.key
          unfold dts
          cases e : p0.2 with
          | none => simp; omega
          | some d => have := (this.ok d e).2.2; simp; omega
        refine ⟨L, D, _, _, rfl, rfl, e4L, eD, by rw [sizeLine_eq]; simp; omega, ?_⟩
        have b4 : But L G (upd G' L (.lst (ws.map V.str ++ [.str (spell (.bool (isPut p0)))] ++ (dts p0).map V.str))) := (b3.trans (But.of s)).trans fun c o n z => by rw [upd_ne n]; exact z
        refine ⟨b4, ws ++ [spell (.bool (isPut p0))] ++ dts p0, by rw [upd_same]; simp, ?_, by simp; omega, by simp; omega⟩
        rw [tk, btx_app, cat_app, cat_app, ec]
        simp [cat, Str.append_empty, Str.append_assoc]
    · obtain ⟨v2, v3, ws, rfl, bX, eL', ec, sl', ss⟩ := P
      rw [List.take_of_length_le (by omega)] at ec
      exact ⟨_, _, rfl, bX, ws, eL', ec, by omega, by omega⟩
  rintro _ G' ⟨v2, v3, ws, rfl, bG, eL', ec, sl_, ss⟩
  walk_at "sx"
  refine ⟨⟨_, rfl⟩, ws, .inl (SqL.of eL'), by rw [show (Str.ofString "").length = 0 from by decide +kernel]; omega, ?_⟩
  rw [join0, ec]
  exact q _ fun c o z => bG c o (ne_of_none z nL) (sG _ _ z)
end
def cpk (x : Str) : Prop := ∀ c ∈ x.cps.toList, c < 16 ^ 8
theorem cpk_app {x y : Str} (h1 : cpk x) (h2 : cpk y) : cpk (x ++ y) := by
  intro c hc
  rw [Str.cps_append, Array.toList_append] at hc
  rcases List.mem_append.mp hc with h | h
  · exact h1 c h
  · exact h2 c h
theorem char_lt (c : Char) : c.toNat < 16 ^ 8 := by
  have := c.valid
  have h : c.toNat < 0x110000 := by
    rcases this with h | h
    · exact Nat.lt_trans h (by decide)
    · exact h.2
  exact Nat.lt_trans h (by decide)
theorem cpk_of (s : String) : cpk (Str.ofString s) := by
  intro c hc
  rw [Str.ofString_eq_toList] at hc
  obtain ⟨a, _, rfl⟩ := List.mem_map.mp (by simpa using hc)
  exact char_lt a
theorem cpk_empty : cpk Str.empty := by
  intro c hc
  have : Str.empty.cps.toList = [] := rfl
  rw [this] at hc
  cases hc
theorem cpk_join {sep : Str} (hs : cpk sep) : ∀ ts : List Str, (∀ t ∈ ts, cpk t) → cpk (Str.join sep ts)
  | [], _ => cpk_empty
  | [x], h => h x (by simp)
  | x :: y :: r, h => by
    have e : Str.join sep (x :: y :: r) = x ++ sep ++ Str.join sep (y :: r) := rfl
    rw [e]
    exact cpk_app (cpk_app (h x (by simp)) hs) (cpk_join hs (y :: r) fun t ht => h t (List.mem_cons_of_mem _ ht))
theorem reprChar_lt {q c : Nat} (hq : q < 16 ^ 8) (hc : c < 16 ^ 8) : ∀ d ∈ Builtin.Str.reprChar q c, d < 16 ^ 8 := by
  have hx : ∀ w, ∀ d ∈ List.replicate (w - ((Nat.toDigits 16 c).map Char.toNat).length) 48 ++ (Nat.toDigits 16 c).map Char.toNat, d < 16 ^ 8 := fun w d hd => by
    rcases List.mem_append.mp hd with h | h
    · rw [(List.mem_replicate.mp h).2]; decide
    · obtain ⟨a, _, rfl⟩ := List.mem_map.mp h
      exact char_lt a
  have small : ∀ {x y : Nat} {r : List Nat}, x < 256 → y < 256 → (∀ d ∈ r, d < 16 ^ 8) → ∀ d ∈ [x, y] ++ r, d < 16 ^ 8 := fun hx hy hr d hd => by
    rcases List.mem_append.mp hd with h | h
    · simp only [List.mem_cons, List.not_mem_nil, or_false] at h
      rcases h with rfl | rfl <;> exact Nat.lt_trans (by assumption) (by decide)
    · exact hr d h
  unfold Builtin.Str.reprChar
  dsimp only
  repeat' split
  · intro d hd
    simp only [List.mem_cons, List.not_mem_nil, or_false] at hd
    rcases hd with rfl | rfl
    · decide
    · exact hc
  · intro d hd; simp only [List.mem_cons, List.not_mem_nil, or_false] at hd; rcases hd with rfl | rfl <;> decide
  · intro d hd; simp only [List.mem_cons, List.not_mem_nil, or_false] at hd; rcases hd with rfl | rfl <;> decide
  · intro d hd; simp only [List.mem_cons, List.not_mem_nil, or_false] at hd; rcases hd with rfl | rfl <;> decide
  · intro d hd; rw [List.mem_singleton.mp hd]; exact hc
  · exact small (by decide) (by decide) (hx 2)
  · exact small (by decide) (by decide) (hx 4)
  · exact small (by decide) (by decide) (hx 8)
theorem cpk_repr {x : Str} (h : cpk x) : cpk (reprText x) := by
  have hq : reprQuote x < 16 ^ 8 := by unfold reprQuote; split <;> decide
  have fold : ∀ (l : List Nat) (acc : Array Nat), (∀ c ∈ l, c < 16 ^ 8) → (∀ c ∈ acc.toList, c < 16 ^ 8) → ∀ c ∈ (l.foldl (fun out c => out ++ (Builtin.Str.reprChar (reprQuote x) c).toArray) acc).toList, c < 16 ^ 8 := by
    intro l
    induction l with
    | nil => intro acc _ ha; simpa using ha
    | cons c r ih =>
      intro acc hl ha
      simp only [List.foldl_cons]
      refine ih _ (fun d hd => hl d (List.mem_cons_of_mem _ hd)) fun d hd => ?_
      rw [Array.toList_append] at hd
      rcases List.mem_append.mp hd with h | h
      · exact ha d h
      · exact reprChar_lt hq (hl c (List.mem_cons_self ..)) d (by simpa using h)
  intro c hc
  unfold reprText at hc
  simp only [Array.toList_push] at hc
  rcases List.mem_append.mp hc with h' | h'
  · rw [← Array.foldl_toList] at h'
    exact fold _ _ h (fun d hd => by
      have : (#[reprQuote x] : Array Nat).toList = [reprQuote x] := rfl
      rw [this] at hd
      rw [List.mem_singleton.mp hd]; exact hq) c h'
  · rw [List.mem_singleton.mp h']; exact hq
def tupD : Deed → PyData
  | (k, some d) => .tuple [.str "put", .str k, .str (spell d)]
  | (k, none) => .tuple [.str "drop", .str k]
def batD (ps : List Deed) : PyData := .list (ps.map tupD)
def DC (p : Deed) : Prop := cpk p.1 ∧ ∀ d, p.2 = some d → cpk (spell d)
theorem tup_c {p : Deed} (h : DC p) : cpk (tupD p).shown := by
  obtain ⟨k, o⟩ := p
  cases o with
  | none =>
    rw [tupD, PyData.shown_tuple]
    refine cpk_app (cpk_app (cpk_of _) (cpk_join (cpk_of _) _ fun t ht => ?_)) (cpk_of _)
    simp only [PyData.shownAll_cons, PyData.shownAll_nil, PyData.shown_str, List.mem_cons, List.not_mem_nil, or_false] at ht
    rcases ht with rfl | rfl
    · exact cpk_repr (cpk_of _)
    · exact cpk_repr h.1
  | some d =>
    rw [tupD, PyData.shown_tuple]
    refine cpk_app (cpk_app (cpk_of _) (cpk_join (cpk_of _) _ fun t ht => ?_)) (cpk_of _)
    simp only [PyData.shownAll_cons, PyData.shownAll_nil, PyData.shown_str, List.mem_cons, List.not_mem_nil, or_false] at ht
    rcases ht with rfl | rfl | rfl
    · exact cpk_repr (cpk_of _)
    · exact cpk_repr h.1
    · exact cpk_repr (h.2 d rfl)
theorem shownAll_map : ∀ ps : List Deed, PyData.shownAll (ps.map tupD) = ps.map fun p => (tupD p).shown
  | [] => by simp [PyData.shownAll_nil]
  | p :: r => by simp [PyData.shownAll_cons, shownAll_map r]
theorem bat_c {ps : List Deed} (h : ∀ p ∈ ps, DC p) : cpk (batD ps).shown := by
  rw [batD, PyData.shown_list, shownAll_map]
  refine cpk_app (cpk_app (cpk_of _) (cpk_join (cpk_of _) _ fun t ht => ?_)) (cpk_of _)
  obtain ⟨p, hp, rfl⟩ := List.mem_map.mp ht
  exact tup_c (h p hp)
theorem bat_s : ∀ ps : List Deed, PyData.showableAll (ps.map tupD) = true
  | [] => rfl
  | (k, some d) :: r => by simp [PyData.showableAll, PyData.showable, tupD, bat_s r]
  | (k, none) :: r => by simp [PyData.showableAll, PyData.showable, tupD, bat_s r]
theorem cpk_all {x : Str} (h : cpk x) : (x.cps.toList.all fun c => decide (c < 16 ^ 8)) = true := by
  rw [List.all_eq_true]
  intro c hc
  exact decide_eq_true (h c hc)
theorem bat_l : ∀ ps : List Deed, (∀ p ∈ ps, DC p) → PyData.leavesShortAll 13 (ps.map tupD) = true
  | [], _ => rfl
  | (k, some d) :: r, h => by
    have h0 := h (k, some d) (List.mem_cons_self ..)
    have a := cpk_all h0.1
    have b := cpk_all (h0.2 d rfl)
    have c := cpk_all (cpk_of "put")
    simp only [List.map_cons, PyData.leavesShortAll, tupD, PyData.leavesShort, a, b, c, bat_l r fun p hp => h p (List.mem_cons_of_mem _ hp), Bool.and_self]
  | (k, none) :: r, h => by
    have h0 := h (k, none) (List.mem_cons_self ..)
    have a := cpk_all h0.1
    have c := cpk_all (cpk_of "drop")
    simp only [List.map_cons, PyData.leavesShortAll, tupD, PyData.leavesShort, a, c, bat_l r fun p hp => h p (List.mem_cons_of_mem _ hp), Bool.and_self]
section
variable {g : Wd} {f : Addr} {fd : FuncData}
theorem sc_Shelf_cost : FnScope ["deeds"] ["deeds"] (defScope s_Shelf_cost) := ⟨rfl, rfl, rfl, by decide +kernel, rfl, by decide +kernel, by decide +kernel⟩
def sp_cost : Sp := S1 fun v H Q _ => ∃ a xs ps, v = .ref a ∧ H a = some (.tup xs) ∧ Paired (DdAt [] H) xs ps ∧ (∀ p ∈ ps, DOk p) ∧ ps.length ≤ 3 ∧ ((("b" : Str) ++ btx ps).length ≤ 1000000) ∧ ∀ H', Same H H' → Q (.int ((((("b" : Str) ++ btx ps).length + 45) / 46 : Nat) : Int)) H'
theorem ok_cost (F : Df g.K "cost" "Shelf.cost" s_Shelf_cost f fd .none) (hbS : ∀ us rest : List Value, us.length = ([] : List Str).length → bindArgs fd ⟨us ++ rest, []⟩ = (newTuple rest >>= fun t => pure (([] : List Str).zip us ++ [(("deeds" : Str), t)]))) (T : Txt2 g) (F_batch_text : KnS g "batch_text" 26 (spS 0 sp_btext)) (F_page_count : Kn g "page_count" 2 ["text"] [] sp_pcount) : FnS g 27 f (spS 0 sp_cost) := by
  refine F.okS (ps := []) (pv := "deeds") sc_Shelf_cost hbS (fun cdv A outer s H vs Q E hr h => ?_)
  obtain ⟨_, rfl, a, xs, ps, rfl, ha, hp, hv, pl, hl, q⟩ := h
  refine ⟨_, (pss_one (ps_ret (pe_callG F_page_count (hr.mono (by first | decide | omega)) tkD (pa_cons (RS.pe_callStar F_batch_text (hr.mono (by first | decide | omega)) tkD (pv 0)) pa_nil)))), ?_⟩
  simp only [tCallStar, tRet, tRetN, tSeq, C8.tCut, tNext, tAsg, gName, gNil, gCons, gTup, gFld, tIfS, tIf, tAndV, tOrV, tNotV, tAnd, tOr, tNot, tB, tTest, tOp, tUn, tCB, tCons, tNil, tVar, tC, tChain, tDrop, RS.tCallG, RS.tMethG, tMakeG, RS.tCallK, RS.tMakeK, tEqOwn, rI, rI0, rU, add_ii, add_ss, add_rr, mul_ii, mul_si, mul_ri, RS.eq_ii, RS.eq_ss, eq_bb, eq_nn, eq_sn, eq_ns, eq_in, eq_ni, eq_bn, eq_nb, eq_is, eq_si, eq_rr, ne_ii, ne_ss, ne_bb, ne_nn, ne_sn, ne_ns, ne_in, ne_ni, ne_is, ne_si, ne_rr, in_ss, in_r, nin_ss, nin_r, len_s, len_r, RS.ix_s, RS.ix_r, sl_s, sl_r, is_eq, tyN_n, tyN_b, tyN_i, tyN_s, tru_b, tru_i, tru_n, tSl, tPart, tNoPart, tPar, tPar3, tFmtZ, tFmt, tJs, tDGet, sDPut, sFld, tFld, tTup, tLst, tNever, isB,
  L2.start, List.map_cons, List.map_nil, List.length_cons, List.length_nil, Nat.reduceAdd, Nat.reduceSub, Nat.sub_self, List.replicate_zero, List.replicate_succ, List.append_nil, List.cons_append, List.nil_append, List.getElem?_cons_zero, List.getElem?_cons_succ, List.set_cons_zero, List.set_cons_succ, Option.some.injEq, exists_eq_left, exists_eq_left', exists_and_left, V.bl.injEq, V.int.injEq, V.str.injEq, V.ref.injEq, beq_self_eq_true, Bool.true_or, Bool.or_true, Bool.false_or, Bool.or_false, Bool.and_false, Bool.false_and, Bool.true_and, Bool.and_true, Bool.not_true, Bool.not_false, Bool.false_eq_true, if_true, if_false, ite_true, ite_false, true_and, and_true, and_assoc, String.reduceBEq, String.reduceEq, reduceIte, Bool.and_self, reduceCtorEq, false_and, and_false, exists_false, or_false, false_or, exists_const, iEnumS, iStr, iList, iTup, iRng1, iEnum, tFor_eq, tLc_eq, List.cons.injEq, wipe, not_true_eq_false, not_false_eq_true, upd_same, HO.ins.injEq, HO.tup.injEq, HO.lst.injEq, ofS_eq, lk_nil, lk_cons, pu_nil, pu_cons, sizeLine_eq, Nat.reduceLT, Nat.reduceLeDiff, Nat.reduceEqDiff, Nat.le_refl, decide_true, decide_false, tPr, dget_us, dput_us, vv_nil, vv_cons, RS.pk_nil, pk_one, RS.pk_cons, inr_eq, tDisp, tPairs, tBoolOwn, rBoolOwn, tBM, rAppend, ty_list, ty_str, rEqOwn, iEnumT, RS.tCallS, tM1, tDc_eq, tLock, tLockE, iKeys, tListEnum, rUpdate, tMkX0, tMkX1, tXfv, gSub, rSetL, List.getD_cons_zero, List.getD_cons_succ, tBreak, tCMethS, ClX.tCVal, tXfa, tIxOwn, tInOwn, tPropG, tMethK, tMethP, tListGen, tDGet2, tDPop2, rNeD0, intA_i, intA_b, tRevL, sFldAug, tPm0, tPm1, tDIn, tDNotIn, tDNewK, RS.tMethS, tForK, tKM, tKC, tLcK, tKM2, tKC2, tMethStar, tKCK2, tLk, tAug, ipI, tDig, tLcX, tKMX, tKCX, tForY, tKCY, tKMY, tYThen, tYPlain, tYYield, tY0, tYIf, GKE.at, tListX]
  refine ⟨xs, .inl (SqT.of ha), [], xs, rfl, rfl, by rw [sizeLine_eq, paired_len hp]; omega, fun p np => ⟨_, rfl, p, xs, ps, rfl, upd_same, paired_imp hp fun _ _ h => h.same (same_upd np), hv, pl, fun H' s' => ?_⟩⟩
  have b1 : (Str.ofString "b").length = 1 := by decide +kernel
  exact ⟨_, rfl, _, rfl, by rw [Str.length_append]; omega, hl, q _ ((same_upd np).trans s')⟩
theorem sc_l_begin : FnScope ["_law_script", "_law_turn", "_law_folded", "_law_modulus", "_law_item", "_law_own"] ["_law_script", "_law_turn"] (defScope s_l_begin) := ⟨rfl, rfl, rfl, by decide +kernel, rfl, by decide +kernel, by decide +kernel⟩
/-- the state of the draws: a dict at p -/
def Drw (H : Hp) (p : Addr) (N : Nat) : Prop := ∃ a b c : Int, H p = some (.dK [(.inr "left", .int a), (.inr "folded", .int b), (.inr "step", .int c)]) ∧ 0 ≤ a ∧ 0 ≤ b ∧ 0 ≤ c ∧ c ≤ N
def sp_begin (K : PySem.W.Frag) : Sp := S2 fun u v H Q _ => ∃ (a : Addr) (cs : List Int) (k : Int), u = .ref a ∧ SqL K H a (cs.map V.int) ∧ v = .int k ∧ 0 ≤ k ∧ k ≤ 100 ∧ cs.length ≤ 1000 ∧ ∀ p H', H p = none → Same H H' → Drw H' p 0 → Q (.ref p) H'
theorem ok_begin (F : Df g.K "_law_begin" "_law_begin" s_l_begin f fd .none) (T : Txt2 g) : FnG g 1 f fd ["_law_script", "_law_turn"] (sp_begin g.K) := by
  refine F.ok sc_l_begin (fun vs H Q E h => S2.len h) (fun cdv A outer s H vs Q E hr h => ?_)
  obtain ⟨_, _, rfl, a, cs, k, rfl, ha, rfl, k0, k1, cl, q⟩ := h
  refine ⟨_, (pss_cons (ps_par (i := 2) (j := 3) (by rfl) sc_l_begin.nd rfl rfl (by decide) rfl rfl (pa_cons (pe_op (o_add (K := g.K)) (pv 1) pe_int) (pa_cons (pe_op o_mul (pe_op o_mul (pe_op o_mul (pe_op o_mul pe_int pe_int) pe_int) pe_int) pe_int) pa_nil)) (by rfl))
      (pss_cons (ps_for psD rfl (i_list (K := g.K) (pv 0)) (pg_name (i := 4) sc_l_begin.nd rfl (.inl rfl)) (pss_one (ps_set (i := 2) sc_l_begin.nd rfl (Or.inl rfl) (pe_op op_mod (pe_op (o_add (K := g.K)) (pe_op o_mul (pv 2) pe_int) (pv 4)) (pv 3)))))
      (pss_cons (ps_set (i := 5) sc_l_begin.nd rfl (Or.inl rfl) (pe_ifExp (pt_cmpR op_lt (pv 1) (pe_callB (c_len (K := g.K)) (by rfl) T.b_len bb_len (pa_cons (pv 0) pa_nil)) (nomark _)) (pe_ix (o_ix (K := g.K)) (pv 0) (pv 1) (fun _ _ => rfl)) pe_int))
      (pss_one (ps_ret (pe_disp (pps_cons pe_str (pe_ifExp (pt_cmpR op_ge (pv 5) (pe_op op_pow pe_int pe_int) (nomark _)) (pv 5) pe_int) (pps_cons pe_str (pv 2) (pps_cons pe_str pe_int pps_nil))) (by rfl) (by rfl) (fun z => by cases z) (by decide))))))), ?_⟩
  walk_at "sx"
  have lM : (0 : Int) < 2147483629 * 2147483587 * 2147483579 * 2147483563 * 2147483549 := by decide
  refine ⟨.inr ⟨by decide, by decide⟩, .inr ⟨by decide, by decide⟩, .inr ⟨by decide, by decide⟩, .inr ⟨by decide, by decide⟩, ⟨_, ha⟩, ?_⟩
  refine for_by cs.length (fun i σ X => ∃ (w : Int) (v4 v5 : Option V), σ = [some (.ref a), some (.int k), some (.int w), some (.int (2147483629 * 2147483587 * 2147483579 * 2147483563 * 2147483549)), v4, v5] ∧ X = H ∧ 0 ≤ w) ⟨_, _, _, rfl, rfl, by omega⟩ (fun i σ X lt P => ?_) (fun σ X P => ?_) (fun i σ X z X' lt P yl => ?_) (fun σ X P => ?_)
  · obtain ⟨_, _, _, _, rfl, _⟩ := P
    exact ⟨_, .int cs[i], ha, by simp [lt]⟩
  · obtain ⟨_, _, _, _, rfl, _⟩ := P
    exact ⟨_, ha, by simp⟩
  · obtain ⟨w, v4, v5, rfl, rfl, w0⟩ := P
    obtain ⟨rfl, hx⟩ := yl
    have hx := hx _ (ha)
    rw [List.getElem?_map, List.getElem?_eq_getElem lt] at hx
    cases hx
    generalize (2147483629 * 2147483587 * 2147483579 * 2147483563 * 2147483549 : Int) = M at lM
    walk_at "sx"
    exact ⟨.inr ⟨by decide, by decide⟩, lM, Int.emod_nonneg _ (by omega)⟩
  · obtain ⟨w, v4, v5, rfl, rfl, w0⟩ := P
    show tSeq _ _ _ _ _
    walk_at "sx"
    have mk : ∀ (l : Int) (p : Addr), 0 ≤ l → X p = none → ∃ kvs : List (Key × V), [(V.str (Str.ofString "left"), V.int l), (V.str (Str.ofString "folded"), V.int w), (V.str (Str.ofString "step"), V.int 0)] = List.map (fun kv => (kV kv.fst, kv.snd)) kvs ∧ kvs.length ≤ 15 ∧ Q (V.ref p) (upd (upd X p (HO.dK [])) p (HO.dK (mergeK [] kvs))) := fun l p l0 hp => by
      refine ⟨[(.inr "left", .int l), (.inr "folded", .int w), (.inr "step", .int 0)], rfl, by simp, ?_⟩
      rw [upd_upd, mergeK_nd (by show [(.inr "left" : Key), .inr "folded", .inr "step"].Nodup; decide +kernel)]
      exact q _ _ hp (same_upd hp) ⟨l, w, 0, upd_same, l0, w0, by omega, by omega⟩
    refine .inl ⟨_, .inl (ha), ?_⟩
    by_cases lt : k < ((cs.map V.int).length : Int)
    · obtain ⟨j, rfl⟩ := Int.eq_ofNat_of_zero_le k0
      have jl : j < cs.length := by simp at lt; omega
      rw [if_pos (by simpa using lt)]
      refine ⟨_, .inl (ha), .int cs[j], atI_nat (by simp [jl]), fun p hp => ⟨⟨by decide, by decide, by decide⟩, cs[j], rfl, ?_⟩⟩
      by_cases big : 10 ^ Int.toNat 18 ≤ cs[j]
      · rw [if_pos (by simpa using big)]
        exact mk _ p (by have : (0 : Int) ≤ 10 ^ Int.toNat 18 := by decide
                         omega) hp
      · rw [if_neg (by simpa using big)]
        exact mk 0 p (by omega) hp
    · rw [if_neg (by simpa using lt)]
      exact fun p hp => ⟨⟨by decide, by decide, by decide⟩, by rw [if_neg (by decide)]; exact mk 0 p (by omega) hp⟩
theorem sc_l_draw : FnScope ["_law_state", "_law_size", "_law_found", "_law_step", "_law_prime", "_law_mixed"] ["_law_state", "_law_size"] (defScope s_l_draw) := ⟨rfl, rfl, rfl, by decide +kernel, rfl, by decide +kernel, by decide +kernel⟩
def sp_draw : Sp := S2 fun u v H Q _ => ∃ p N m, u = .ref p ∧ v = .int m ∧ 0 < m ∧ m ≤ 10 ^ 9 ∧ Drw H p N ∧ N + 1 < 10 ^ 6 ∧ ∀ r H', 0 ≤ r → r < m → Drw H' p (N + 1) → But p H H' → Q (.int r) H'
theorem ok_draw (F : Df g.K "_law_draw" "_law_draw" s_l_draw f fd .none) (T : Txt2 g) : FnG g 1 f fd ["_law_state", "_law_size"] sp_draw := by
  refine F.ok sc_l_draw (fun vs H Q E h => S2.len h) (fun cdv A outer s H vs Q E hr h => ?_)
  obtain ⟨_, _, rfl, p, N, m, rfl, rfl, m0, m1, ⟨x, y, c, hp, x0, y0, c0, cN⟩, hN, q⟩ := h
  refine ⟨_, (pss_cons (ps_if (pt_cmpR op_gt (pe_dget (hu_of hr.room) (pv 0) pe_str (fun _ _ => rfl)) pe_int (nomark _)) (pss_cons (ps_set (i := 2) sc_l_draw.nd rfl (Or.inl rfl) (pe_op op_mod (pe_dget (hu_of hr.room) (pv 0) pe_str (fun _ _ => rfl)) (pv 1)))
      (pss_cons (ps_dput (hu_of hr.room) (pv 0) pe_str (pe_op op_fdiv (pe_dget (hu_of hr.room) (pv 0) pe_str (fun _ _ => rfl)) (pv 1)) rfl)
      (pss_one (ps_ret (pv 2))))) pss_nil)
      (pss_cons (ps_set (i := 3) sc_l_draw.nd rfl (Or.inl rfl) (pe_op (o_add (K := g.K)) (pe_dget (hu_of hr.room) (pv 0) pe_str (fun _ _ => rfl)) pe_int))
      (pss_cons (ps_dput (hu_of hr.room) (pv 0) pe_str (pv 3) rfl)
      (pss_cons (ps_set (i := 4) sc_l_draw.nd rfl (Or.inl rfl) (pe_ix (o_ix (K := g.K)) (pe_lst (pa_cons pe_int (pa_cons pe_int (pa_cons pe_int (pa_cons pe_int (pa_cons pe_int pa_nil)))))) (pe_op op_mod (pv 3) pe_int) (fun _ _ => rfl)))
      (pss_cons (ps_set (i := 5) sc_l_draw.nd rfl (Or.inl rfl) (pe_op (o_add (K := g.K)) (pe_op (o_add (K := g.K)) (pe_op (o_add (K := g.K)) (pe_op op_mod (pe_dget (hu_of hr.room) (pv 0) pe_str (fun _ _ => rfl)) (pv 4)) (pe_op o_mul (pe_op o_mul pe_int (pv 3)) (pv 3))) (pe_op o_mul pe_int (pv 3))) pe_int))
      (pss_cons (ps_set (i := 5) sc_l_draw.nd rfl (Or.inl rfl) (pe_op op_mod (pe_op o_mul (pv 5) pe_int) (pv 4)))
      (pss_one (ps_ret (pe_op op_mod (pe_op op_fdiv (pe_op op_mod (pe_op o_mul (pv 5) (pe_op (o_add (K := g.K)) (pe_op op_mod (pv 5) pe_int) pe_int)) pe_int) pe_int) (pv 1)))))))))), ?_⟩
  simp only [dget_s hp, dput_s hp, hp, tRet, tRetN, tSeq, C8.tCut, tNext, tAsg, gName, gNil, gCons, gTup, gFld, tIfS, tIf, tAndV, tOrV, tNotV, tAnd, tOr, tNot, tB, tTest, tOp, tUn, tCB, tCons, tNil, tVar, tC, tChain, tDrop, RS.tCallG, RS.tMethG, tMakeG, RS.tCallK, RS.tMakeK, tEqOwn, rI, rI0, rU, add_ii, add_ss, add_rr, mul_ii, mul_si, mul_ri, RS.eq_ii, RS.eq_ss, eq_bb, eq_nn, eq_sn, eq_ns, eq_in, eq_ni, eq_bn, eq_nb, eq_is, eq_si, eq_rr, ne_ii, ne_ss, ne_bb, ne_nn, ne_sn, ne_ns, ne_in, ne_ni, ne_is, ne_si, ne_rr, in_ss, in_r, nin_ss, nin_r, len_s, len_r, RS.ix_s, RS.ix_r, sl_s, sl_r, is_eq, tyN_n, tyN_b, tyN_i, tyN_s, tru_b, tru_i, tru_n, tSl, tPart, tNoPart, tPar, tPar3, tFmtZ, tFmt, tJs, tDGet, sDPut, sFld, tFld, tTup, tLst, tNever, isB,
  L2.start, List.map_cons, List.map_nil, List.length_cons, List.length_nil, Nat.reduceAdd, Nat.reduceSub, Nat.sub_self, List.replicate_zero, List.replicate_succ, List.append_nil, List.cons_append, List.nil_append, List.getElem?_cons_zero, List.getElem?_cons_succ, List.set_cons_zero, List.set_cons_succ, Option.some.injEq, exists_eq_left, exists_eq_left', exists_and_left, V.bl.injEq, V.int.injEq, V.str.injEq, V.ref.injEq, beq_self_eq_true, Bool.true_or, Bool.or_true, Bool.false_or, Bool.or_false, Bool.and_false, Bool.false_and, Bool.true_and, Bool.and_true, Bool.not_true, Bool.not_false, Bool.false_eq_true, if_true, if_false, ite_true, ite_false, true_and, and_true, and_assoc, String.reduceBEq, String.reduceEq, reduceIte, Bool.and_self, reduceCtorEq, false_and, and_false, exists_false, or_false, false_or, exists_const, iEnumS, iStr, iList, iTup, iRng1, iEnum, tFor_eq, tLc_eq, List.cons.injEq, wipe, not_true_eq_false, not_false_eq_true, upd_same, HO.ins.injEq, HO.tup.injEq, HO.lst.injEq, ofS_eq, lk_nil, lk_cons, pu_nil, pu_cons, sizeLine_eq, Nat.reduceLT, Nat.reduceLeDiff, Nat.reduceEqDiff, Nat.le_refl, decide_true, decide_false, tPr, dget_us, dput_us, vv_nil, vv_cons, RS.pk_nil, pk_one, RS.pk_cons, inr_eq, tDisp, tPairs, tBoolOwn, rBoolOwn, tBM, rAppend, ty_list, ty_str, rEqOwn, iEnumT, RS.tCallS, tM1, tDc_eq, tLock, tLockE, iKeys, tListEnum, rUpdate, tMkX0, tMkX1, tXfv, gSub, rSetL, List.getD_cons_zero, List.getD_cons_succ, tBreak, tCMethS, ClX.tCVal, tXfa, tIxOwn, tInOwn, tPropG, tMethK, tMethP, tListGen, tDGet2, tDPop2, rNeD0, intA_i, intA_b, tRevL, sFldAug, tPm0, tPm1, tDIn, tDNotIn, tDNewK, RS.tMethS, tForK, tKM, tKC, tLcK, tKM2, tKC2, tMethStar, tKCK2, tLk, tAug, ipI, tDig, tLcX, tKMX, tKCX, tForY, tKCY, tKMY, tYThen, tYPlain, tYYield, tY0, tYIf, GKE.at, tListX]
  have r0 := Int.emod_nonneg x (show m ≠ 0 by omega)
  have r1 := Int.emod_lt_of_pos x m0
  by_cases x1 : 0 < x
  · rw [if_pos (by simpa using x1)]
    refine ⟨m0, ⟨m0, by omega⟩, ?_⟩
    exact q _ _ r0 r1 ⟨x / m, y, c, upd_same, Int.ediv_nonneg x0 (by omega), y0, c0, by omega⟩ fun b o n z => by rw [upd_ne n]; exact z
  rw [if_neg (by simpa using x1)]
  intro p1 np
  have h5 := Int.emod_nonneg (c + 1) (show (5 : Int) ≠ 0 by decide)
  have h6 := Int.emod_lt_of_pos (c + 1) (show (0 : Int) < 5 by decide)
  have pp : p ≠ p1 := fun z => by rw [← z, upd_same] at np; cases np
  obtain ⟨pr, hpr, pr0, pr1⟩ : ∃ pr : Int, atI [V.int 2147483629, V.int 2147483587, V.int 2147483579, V.int 2147483563, V.int 2147483549] ((c + 1) % 5) = some (.int pr) ∧ 2147483549 ≤ pr ∧ pr ≤ 2147483629 := by
    generalize (c + 1) % 5 = z at h5 h6
    have : z = 0 ∨ z = 1 ∨ z = 2 ∨ z = 3 ∨ z = 4 := by omega
    rcases this with rfl | rfl | rfl | rfl | rfl
    · exact ⟨_, rfl, by decide, by decide⟩
    · exact ⟨_, rfl, by decide, by decide⟩
    · exact ⟨_, rfl, by decide, by decide⟩
    · exact ⟨_, rfl, by decide, by decide⟩
    · exact ⟨_, rfl, by decide, by decide⟩
  generalize eG : upd (upd H p (HO.dK [(Sum.inr (Str.ofString "left"), V.int x), (Sum.inr (Str.ofString "folded"), V.int y), (Sum.inr (Str.ofString "step"), V.int (c + 1))])) p1 (HO.lst [V.int 2147483629, V.int 2147483587, V.int 2147483579, V.int 2147483563, V.int 2147483549]) = G
  have e1 : G p1 = some (HO.lst [V.int 2147483629, V.int 2147483587, V.int 2147483579, V.int 2147483563, V.int 2147483549]) := by rw [← eG]; exact upd_same
  have e2 : G p = some (HO.dK [(Sum.inr (Str.ofString "left"), V.int x), (Sum.inr (Str.ofString "folded"), V.int y), (Sum.inr (Str.ofString "step"), V.int (c + 1))]) := by rw [← eG, upd_ne pp]; exact upd_same
  have bG : But p H G := fun b o n z => by
    rw [← eG]
    have : b ≠ p1 := fun e => by rw [e] at z n; rw [upd_ne n, z] at np; cases np
    rw [upd_ne this, upd_ne n]; exact z
  have y1 := Int.emod_nonneg y (show pr ≠ 0 by omega)
  have y2 := Int.emod_lt_of_pos y (show 0 < pr by omega)
  refine ⟨by decide, _, .inl (SqL.of e1), .int pr, hpr, .int y, by rw [dget_s e2]; rfl, y, rfl, pr, rfl, by omega, ?_⟩
  generalize y % pr + 7919 * (c + 1) * (c + 1) + 31 * (c + 1) + 17 = A
  have z0 := Int.emod_nonneg (A * 48271) (show pr ≠ 0 by omega)
  have z1 := Int.emod_lt_of_pos (A * 48271) (show 0 < pr by omega)
  refine ⟨.inl ⟨by decide, by decide⟩, .inr ⟨by omega, by omega⟩, .inl ⟨by decide, by decide⟩, .inr ⟨by decide, by decide⟩, pr, rfl, by omega, by decide, .inl ⟨by omega, by omega⟩, by decide, ⟨by decide, by decide⟩, m0, ?_⟩
  exact q _ _ (Int.emod_nonneg _ (by omega)) (Int.emod_lt_of_pos _ m0) ⟨x, y, c + 1, e2, x0, y0, by omega, by omega⟩ bG
end
local macro_rules | `(tactic| walk_at "sx") => `(tactic| simp only [tRet, tRetN, tSeq, C8.tCut, tNext, tAsg, gName, gNil, gCons, gTup, gFld, tIfS, tIf, tAndV, tOrV, tNotV, tAnd, tOr, tNot, tB, tTest, tOp, tUn, tCB, tCons, tNil, tVar, tC, tChain, tDrop, RS.tCallG, RS.tMethG, tMakeG, RS.tCallK, RS.tMakeK, tEqOwn, rI, rI0, rU, add_ii, add_ss, add_rr, mul_ii, mul_si, mul_ri, RS.eq_ii, RS.eq_ss, eq_bb, eq_nn, eq_sn, eq_ns, eq_in, eq_ni, eq_bn, eq_nb, eq_is, eq_si, eq_rr, ne_ii, ne_ss, ne_bb, ne_nn, ne_sn, ne_ns, ne_in, ne_ni, ne_is, ne_si, ne_rr, in_ss, in_r, nin_ss, nin_r, len_s, len_r, RS.ix_s, RS.ix_r, sl_s, sl_r, is_eq, tyN_n, tyN_b, tyN_i, tyN_s, tru_b, tru_i, tru_n, tSl, tPart, tNoPart, tPar, tPar3, tFmtZ, tFmt, tJs, tDGet, sDPut, sFld, tFld, tTup, tLst, tNever, isB,
  L2.start, List.map_cons, List.map_nil, List.length_cons, List.length_nil, Nat.reduceAdd, Nat.reduceSub, Nat.sub_self, List.replicate_zero, List.replicate_succ, List.append_nil, List.cons_append, List.nil_append, List.getElem?_cons_zero, List.getElem?_cons_succ, List.set_cons_zero, List.set_cons_succ, Option.some.injEq, exists_eq_left, exists_eq_left', exists_and_left, V.bl.injEq, V.int.injEq, V.str.injEq, V.ref.injEq, beq_self_eq_true, Bool.true_or, Bool.or_true, Bool.false_or, Bool.or_false, Bool.and_false, Bool.false_and, Bool.true_and, Bool.and_true, Bool.not_true, Bool.not_false, Bool.false_eq_true, if_true, if_false, ite_true, ite_false, true_and, and_true, and_assoc, String.reduceBEq, String.reduceEq, reduceIte, Bool.and_self, reduceCtorEq, false_and, and_false, exists_false, or_false, false_or, exists_const, iEnumS, iStr, iList, iTup, iRng1, iEnum, tFor_eq, tLc_eq, List.cons.injEq, wipe, not_true_eq_false, not_false_eq_true, upd_same, HO.ins.injEq, HO.tup.injEq, HO.lst.injEq, ofS_eq, lk_nil, lk_cons, pu_nil, pu_cons, sizeLine_eq, Nat.reduceLT, Nat.reduceLeDiff, Nat.reduceEqDiff, Nat.le_refl, decide_true, decide_false, tPr, dget_us, dput_us, vv_nil, vv_cons, RS.pk_nil, pk_one, RS.pk_cons, inr_eq, tDisp, tPairs, tBoolOwn, rBoolOwn, tBM, rAppend, ty_list, ty_str, rEqOwn, iEnumT, RS.tCallS, tM1, tDc_eq, tLock, tLockE, iKeys, tListEnum, rUpdate, tMkX0, tMkX1, tXfv, gSub, rSetL, List.getD_cons_zero, List.getD_cons_succ, tBreak, tCMethS, ClX.tCVal, tXfa, tIxOwn, tInOwn, tPropG, tMethK, tMethP, tListGen, tDGet2, tDPop2, rNeD0, intA_i, intA_b, tRevL, sFldAug, tPm0, tPm1, tDIn, tDNotIn, tDNewK, RS.tMethS, tForK, tKM, tKC, tLcK, tKM2, tKC2, tMethStar, tKCK2, tLk, tAug, ipI, tDig, tLcX, tKMX, tKCX, tForY, tKCY, tKMY, tYThen, tYPlain, tYYield, tY0, tYIf, GKE.at, tListX])
theorem Drw.up {H : Hp} {p : Addr} {N M : Nat} (h : Drw H p N) (l : N ≤ M) : Drw H p M := by
  obtain ⟨a, b, c, h1, h2, h3, h4, h5⟩ := h
  exact ⟨a, b, c, h1, h2, h3, h4, by omega⟩
theorem Drw.same {H H' : Hp} {p : Addr} {N : Nat} (h : Drw H p N) (s : Same H H') : Drw H' p N := by
  obtain ⟨a, b, c, h1, h2⟩ := h
  exact ⟨a, b, c, s _ _ h1, h2⟩
theorem Drw.ne {H : Hp} {p q : Addr} {N : Nat} (h : Drw H p N) (n : H q = none) : q ≠ p := fun e => by obtain ⟨a, b, c, h1, _⟩ := h; rw [← e, n] at h1; cases h1
theorem Drw.but {H H' : Hp} {p q : Addr} {N : Nat} (h : Drw H p N) (s : But q H H') (n : p ≠ q) : Drw H' p N := by
  obtain ⟨a, b, c, h1, h2⟩ := h
  exact ⟨a, b, c, s _ _ n h1, h2⟩
/-- what was free is free still backwards -/
theorem But.free {H H' : Hp} {p : Addr} {N : Nat} (b : But p H H') (h : Drw H' p N) : ∀ c, H' c = none → H c = none := fun c z => by
  cases e : H c with
  | none => rfl
  | some o =>
    have cp : c ≠ p := fun y => by obtain ⟨_, _, _, h1, _⟩ := h; rw [y, h1] at z; cases z
    have := b c o cp e
    rw [z] at this; cases this
section
variable {g : Wd} {f : Addr} {fd : FuncData}
theorem sc_l_pick : FnScope ["_law_state", "_law_items"] ["_law_state", "_law_items"] (defScope s_l_pick) := ⟨rfl, rfl, rfl, by decide +kernel, rfl, by decide +kernel, by decide +kernel⟩
def sp_pick : Sp := S2 fun u v H Q _ => ∃ (p L : Addr) (xs : List V) (N : Nat), u = .ref p ∧ v = .ref L ∧ H L = some (.lst xs) ∧ p ≠ L ∧ 0 < xs.length ∧ xs.length ≤ 1000 ∧ Drw H p N ∧ N + 1 < 10 ^ 6 ∧ ∀ x H', x ∈ xs → Drw H' p (N + 1) → But p H H' → Q x H'
theorem ok_pick (F : Df g.K "_law_pick" "_law_pick" s_l_pick f fd .none) (T : Txt2 g) (F_l_draw : Kn g "_law_draw" 1 ["_law_state", "_law_size"] [] sp_draw) : FnG g 2 f fd ["_law_state", "_law_items"] sp_pick := by
  refine F.ok sc_l_pick (fun vs H Q E h => S2.len h) (fun cdv A outer s H vs Q E hr h => ?_)
  obtain ⟨_, _, rfl, p, L, xs, N, rfl, rfl, hs, ne, l0, l1, hS, hN, q⟩ := h
  refine ⟨_, (pss_one (ps_ret (pe_ix (o_ix (K := g.K)) (pv 1) (pe_callG F_l_draw (hr.mono (by first | decide | omega)) tkD (pa_cons (pv 0) (pa_cons (pe_callB (c_len (K := g.K)) (by rfl) T.b_len bb_len (pa_cons (pv 1) pa_nil)) pa_nil))) (fun _ _ => rfl)))), ?_⟩
  walk_at "sx"
  refine .inl ⟨xs, .inl (SqL.of hs), ?_⟩
  refine ⟨_, _, rfl, p, N, xs.length, rfl, rfl, by omega, by omega, hS, hN, fun r H' r0 r1 S' k => ?_⟩
  obtain ⟨j, rfl⟩ := Int.eq_ofNat_of_zero_le r0
  have hj : j < xs.length := by omega
  walk_at "sx"
  exact ⟨xs, .inl (SqL.of (k _ _ (Ne.symm ne) hs)), xs[j], atI_nat (List.getElem?_eq_getElem hj), q _ _ (List.getElem_mem hj) S' k⟩
/-- a drawn key -/
structure KW (k : Str) : Prop where
  ok : keyOk k = true
  len : k.length ≤ 62
  fst : k.cps.toList.head? ≠ some 115
  cp : cpk k
def keysW : List Str := ["a", "b", "ab", "x y", "B", "~", "k1", "k2"]
theorem keysW_ok : ∀ x ∈ keysW, 1 ≤ x.length ∧ x.length ≤ 3 ∧ x.cps.toList.head? ≠ some 115 := by decide +kernel
theorem keysW_cp : ∀ x ∈ keysW, cpk x := by
  intro x hx
  simp only [keysW, List.mem_cons, List.not_mem_nil, or_false] at hx
  rcases hx with rfl | rfl | rfl | rfl | rfl | rfl | rfl | rfl <;> exact cpk_of _
theorem cpk_rep (n c : Nat) (h : c < 16 ^ 8) : cpk (S (List.replicate n c)) := by
  intro d hd
  have : (S (List.replicate n c)).cps.toList = List.replicate n c := by simp [S]
  rw [this] at hd
  rw [(List.mem_replicate.mp hd).2]; exact h
theorem kw_of {x : Str} (n : Nat) (hx : x ∈ keysW) (hn : n < 60) : KW (x ++ S (List.replicate n 122)) := by
  obtain ⟨h1, h2, h3⟩ := keysW_ok x hx
  have l : (x ++ S (List.replicate n 122)).length = x.length + n := by rw [Str.length_append]; congr 1; exact (S_len _).trans (List.length_replicate ..)
  refine ⟨by simp only [keyOk, Bool.and_eq_true, decide_eq_true_eq]; omega, by omega, ?_, cpk_app (keysW_cp x hx) (cpk_rep n 122 (by decide))⟩
  rw [Str.cps_append, Array.toList_append]
  cases hl : x.cps.toList with
  | nil => have : x.length = 0 := by show x.cps.size = 0; rw [← Array.length_toList, hl]; rfl
           omega
  | cons c r => rw [hl] at h3; simpa using h3
theorem sc_l_word : FnScope ["_law_state", "_law_found"] ["_law_state"] (defScope s_l_word) := ⟨rfl, rfl, rfl, by decide +kernel, rfl, by decide +kernel, by decide +kernel⟩
def sp_word : Sp := S1 fun u H Q _ => ∃ (p : Addr) (N : Nat), u = .ref p ∧ Drw H p N ∧ N + 3 < 10 ^ 6 ∧ ∀ x H', KW x → Drw H' p (N + 3) → But p H H' → Q (.str x) H'
theorem ok_word (F : Df g.K "_law_word" "_law_word" s_l_word f fd .none) (T : Txt2 g) (F_l_draw : Kn g "_law_draw" 1 ["_law_state", "_law_size"] [] sp_draw) (F_l_pick : Kn g "_law_pick" 2 ["_law_state", "_law_items"] [] sp_pick) : FnG g 3 f fd ["_law_state"] sp_word := by
  refine F.ok sc_l_word (fun vs H Q E h => S1.len h) (fun cdv A outer s H vs Q E hr h => ?_)
  obtain ⟨_, rfl, p, N, rfl, hS, hN, q⟩ := h
  refine ⟨_, (pss_mid (ps_set (i := 1) sc_l_word.nd rfl (Or.inl rfl) (pe_callG F_l_pick (hr.mono (by first | decide | omega)) tkD (pa_cons (pv 0) (pa_cons (pe_lst (pa_cons pe_str (pa_cons pe_str (pa_cons pe_str (pa_cons pe_str (pa_cons pe_str (pa_cons pe_str (pa_cons pe_str (pa_cons pe_str pa_nil))))))))) pa_nil))))
      (pss_one (ps_ret (pe_ifExp (pt_cmpR op_gt (pe_callG F_l_draw (hr.mono (by first | decide | omega)) tkD (pa_cons (pv 0) (pa_cons pe_int pa_nil))) pe_int (nomark _)) (pv 1) (pe_op (o_add (K := g.K)) (pv 1) (pe_op o_mul pe_str (pe_callG F_l_draw (hr.mono (by first | decide | omega)) tkD (pa_cons (pv 0) (pa_cons pe_int pa_nil))))))))), ?_⟩
  refine mid_at (fun σ G => ∃ x, σ = [some (.ref p), some (.str x)] ∧ x ∈ keysW ∧ Drw G p (N + 1) ∧ But p H G) ?_ ?_
  · walk_at "sx"
    intro L hL
    have sL := same_upd (o := HO.lst (keysW.map V.str)) hL
    refine ⟨_, _, rfl, p, L, keysW.map V.str, N, rfl, rfl, upd_same, Ne.symm (hS.ne hL), by decide, by decide, hS.same sL, by omega, fun x H' hx S' b => ?_⟩
    obtain ⟨y, hy, rfl⟩ := List.mem_map.mp hx
    exact ⟨y, rfl, hy, S', (But.of sL).trans b⟩
  rintro _ G ⟨x, rfl, hx, SG, bG⟩
  walk_at "sx"
  refine ⟨_, _, rfl, p, N + 1, 6, rfl, rfl, by decide, by decide, SG, by omega, fun r G1 r0 r1 S1 b1 => ⟨r, rfl, ?_⟩⟩
  have x0 : x = x ++ S (List.replicate 0 122) := by rw [show S (List.replicate 0 122) = Str.empty from rfl, Str.append_empty]
  by_cases c : 0 < r
  · rw [if_pos (by simpa using c), x0]
    exact q _ _ (kw_of 0 hx (by decide)) (S1.up (by omega)) (bG.trans b1)
  · rw [if_neg (by simpa using c)]
    refine ⟨_, _, rfl, p, N + 2, 60, rfl, rfl, by decide, by decide, S1, by omega, fun z G2 z0 z1 S2 b2 => ?_⟩
    obtain ⟨n, rfl⟩ := Int.eq_ofNat_of_zero_le z0
    walk_at "sx"
    have zl : (Str.ofString "z").length = 1 := by decide +kernel
    have er : repS (Str.ofString "z") ((n : Int)).toNat = S (List.replicate n 122) := by
      rw [show (Str.ofString "z") = S [122] from by decide +kernel]
      walk_at "st"
      rw [Int.toNat_natCast]
    rw [er]
    have xl := (keysW_ok x hx).2.1
    have sl_ : (S (List.replicate n 122)).length = n := (S_len _).trans (List.length_replicate ..)
    refine ⟨by omega, by omega, by rw [zl]; omega, by omega, ?_⟩
    exact q _ _ (kw_of n hx (by omega)) S2 ((bG.trans b1).trans b2)
end
local macro_rules | `(tactic| walk_at "sx") => `(tactic| simp only [tRet, tRetN, tSeq, C8.tCut, tNext, tAsg, gName, gNil, gCons, gTup, gFld, tIfS, tIf, tAndV, tOrV, tNotV, tAnd, tOr, tNot, tB, tTest, tOp, tUn, tCB, tCons, tNil, tVar, tC, tChain, tDrop, RS.tCallG, RS.tMethG, tMakeG, RS.tCallK, RS.tMakeK, tEqOwn, rI, rI0, rU, add_ii, add_ss, add_rr, mul_ii, mul_si, mul_ri, RS.eq_ii, RS.eq_ss, eq_bb, eq_nn, eq_sn, eq_ns, eq_in, eq_ni, eq_bn, eq_nb, eq_is, eq_si, eq_rr, ne_ii, ne_ss, ne_bb, ne_nn, ne_sn, ne_ns, ne_in, ne_ni, ne_is, ne_si, ne_rr, in_ss, in_r, nin_ss, nin_r, len_s, len_r, RS.ix_s, RS.ix_r, sl_s, sl_r, is_eq, tyN_n, tyN_b, tyN_i, tyN_s, tru_b, tru_i, tru_n, tSl, tPart, tNoPart, tPar, tPar3, tFmtZ, tFmt, tJs, tDGet, sDPut, sFld, tFld, tTup, tLst, tNever, isB,
  L2.start, List.map_cons, List.map_nil, List.length_cons, List.length_nil, Nat.reduceAdd, Nat.reduceSub, Nat.sub_self, List.replicate_zero, List.replicate_succ, List.append_nil, List.cons_append, List.nil_append, List.getElem?_cons_zero, List.getElem?_cons_succ, List.set_cons_zero, List.set_cons_succ, Option.some.injEq, exists_eq_left, exists_eq_left', exists_and_left, V.bl.injEq, V.int.injEq, V.str.injEq, V.ref.injEq, beq_self_eq_true, Bool.true_or, Bool.or_true, Bool.false_or, Bool.or_false, Bool.and_false, Bool.false_and, Bool.true_and, Bool.and_true, Bool.not_true, Bool.not_false, Bool.false_eq_true, if_true, if_false, ite_true, ite_false, true_and, and_true, and_assoc, String.reduceBEq, String.reduceEq, reduceIte, Bool.and_self, reduceCtorEq, false_and, and_false, exists_false, or_false, false_or, exists_const, iEnumS, iStr, iList, iTup, iRng1, iEnum, tFor_eq, tLc_eq, List.cons.injEq, wipe, not_true_eq_false, not_false_eq_true, upd_same, HO.ins.injEq, HO.tup.injEq, HO.lst.injEq, ofS_eq, lk_nil, lk_cons, pu_nil, pu_cons, sizeLine_eq, Nat.reduceLT, Nat.reduceLeDiff, Nat.reduceEqDiff, Nat.le_refl, decide_true, decide_false, tPr, dget_us, dput_us, vv_nil, vv_cons, RS.pk_nil, pk_one, RS.pk_cons, inr_eq, tDisp, tPairs, tBoolOwn, rBoolOwn, tBM, rAppend, ty_list, ty_str, rEqOwn, iEnumT, RS.tCallS, tM1, tDc_eq, tLock, tLockE, iKeys, tListEnum, rUpdate, tMkX0, tMkX1, tXfv, gSub, rSetL, List.getD_cons_zero, List.getD_cons_succ, tBreak, tCMethS, ClX.tCVal, tXfa, tIxOwn, tInOwn, tPropG, tMethK, tMethP, tListGen, tDGet2, tDPop2, rNeD0, intA_i, intA_b, tRevL, sFldAug, tPm0, tPm1, tDIn, tDNotIn, tDNewK, RS.tMethS, tForK, tKM, tKC, tLcK, tKM2, tKC2, tMethStar, tKCK2, tLk, tAug, ipI, tDig, tLcX, tKMX, tKCX, tForY, tKCY, tKMY, tYThen, tYPlain, tYYield, tY0, tYIf, GKE.at, tListX])
def B27 : Nat → Nat
  | 0 => 140
  | k + 1 => 2 * B27 k + 300
def c27 : Nat → Nat
  | 0 => 3
  | k + 1 => 8 + 2 * c27 k
/-- a drawn value with at most k levels -/
structure G27 (d : PyData) (k : Nat) : Prop where
  ok : okB d = true
  wf : wf d
  dep : d.depth ≤ k
  len : (spell d).length ≤ B27 k
  cp : cpk (spell d)
theorem B27_lo : ∀ k, 140 ≤ B27 k
  | 0 => Nat.le_refl _
  | k + 1 => by have := B27_lo k; simp only [B27]; omega
theorem G27.up {d : PyData} {k : Nat} (h : G27 d 0) : G27 d k := ⟨h.ok, h.wf, by have := h.dep; omega, by have := h.len; have := B27_lo k; simp only [B27] at *; omega, h.cp⟩
def flats : List PyData := [.none, .bool true, .bool false, .int 0, .int 1, .int (0 - 7), .int (10 ^ 30), .str "", .str "x", .str "a\nb", .str "i1;", .str (S (List.replicate 90 119))]
def flV : PyData → V
  | .none => .non
  | .bool b => .bl b
  | .int i => .int i
  | .str x => .str x
  | _ => .non
theorem flats_ok : ∀ d ∈ flats, okB d = true ∧ d.depth = 0 ∧ (spell d).length ≤ 140 := by decide +kernel
theorem flats_tr : ∀ d ∈ flats, ∀ H, Tr H (flV d) d [] := by
  intro d hd H
  simp only [flats, List.mem_cons, List.not_mem_nil, or_false] at hd
  rcases hd with rfl | rfl | rfl | rfl | rfl | rfl | rfl | rfl | rfl | rfl | rfl | rfl <;> first | exact .non | exact .bl _ | exact .int _ | exact .str _
theorem flats_cp : ∀ d ∈ flats, cpk (spell d) := by
  intro d hd
  simp only [flats, List.mem_cons, List.not_mem_nil, or_false] at hd
  rcases hd with rfl | rfl | rfl | rfl | rfl | rfl | rfl | rfl | rfl | rfl | rfl | rfl
  · exact cpk_of _
  · exact cpk_of _
  · exact cpk_of _
  · exact cpk_app (cpk_app (cpk_of _) (cpk_of _)) (cpk_of _)
  · exact cpk_app (cpk_app (cpk_of _) (cpk_of _)) (cpk_of _)
  · exact cpk_app (cpk_app (cpk_of _) (cpk_of _)) (cpk_of _)
  · exact cpk_app (cpk_app (cpk_of _) (cpk_of _)) (cpk_of _)
  · exact cpk_app (cpk_app (cpk_app (cpk_of _) (cpk_of _)) (cpk_of _)) (cpk_of _)
  · exact cpk_app (cpk_app (cpk_app (cpk_of _) (cpk_of _)) (cpk_of _)) (cpk_of _)
  · exact cpk_app (cpk_app (cpk_app (cpk_of _) (cpk_of _)) (cpk_of _)) (cpk_of _)
  · exact cpk_app (cpk_app (cpk_app (cpk_of _) (cpk_of _)) (cpk_of _)) (cpk_of _)
  · exact cpk_app (cpk_app (cpk_app (cpk_of _) (cpk_of _)) (cpk_of _)) (cpk_rep 90 119 (by decide))
theorem num_len100 {n : Nat} (h : n < 10 ^ 100) : (TL.numL n).length ≤ 100 := TL.numL_len (by decide) h
theorem wf_flat {d : PyData} (h : okB d = true) (hd : d.depth = 0) : wf d := by
  cases d with
  | none => trivial
  | bool b => trivial
  | int i => simp only [okB, decide_eq_true_eq] at h; exact num_len100 h
  | str x => simpa [okB, wf] using h
  | list ds => simp [PyData.depth] at hd
  | tuple ds => simp [PyData.depth] at hd
  | dict D => simp [PyData.depth] at hd
theorem flats_g {d : PyData} (h : d ∈ flats) (k : Nat) : G27 d k := (show G27 d 0 from ⟨(flats_ok d h).1, wf_flat (flats_ok d h).1 (flats_ok d h).2.1, by have := (flats_ok d h).2.1; omega, (flats_ok d h).2.2, flats_cp d h⟩).up
theorem str_len_le {x : Str} {n : Nat} (h : x.length ≤ n) (hn : n ≤ 10000) : (spell (.str x)).length ≤ n + 7 := by
  have := num_len (n := x.length) (by omega)
  simp only [spell, Str.length_append]
  have e1 : ((("s" : Str)).length) = 1 := by decide +kernel
  have e2 : (((":" : Str)).length) = 1 := by decide +kernel
  omega
theorem vs_g (n k : Nat) (h : n < 120) : G27 (.str (S (List.replicate n 118))) k := by
  have l : (S (List.replicate n 118)).length = n := (S_len _).trans (List.length_replicate ..)
  have cv : cpk (spell (.str (S (List.replicate n 118)))) := cpk_app (cpk_app (cpk_app (cpk_of _) (cpk_of _)) (cpk_of _)) (cpk_rep n 118 (by decide))
  refine (show G27 (.str (S (List.replicate n 118))) 0 from ⟨by simp [okB, l]; omega, by show (S (List.replicate n 118)).length ≤ 10000; omega, by simp [PyData.depth], ?_, cv⟩).up
  have := str_len_le (x := S (List.replicate n 118)) (n := 120) (by omega) (by omega)
  simp only [B27]; omega
section
variable {g : Wd} {f : Addr} {fd : FuncData}
theorem not_in {H : Hp} {fp : List Addr} {c : Addr} {o : HO} (n : ∀ c ∈ fp, H c = none) (e : H c = some o) : c ∉ fp := fun z => by rw [n c z] at e; cases e
theorem g_dict {x : Str} {d1 d2 : PyData} {k : Nat} (kx : KW x) (h1 : G27 d1 k) (h2 : G27 d2 k) : G27 (.dict [(.str x, d1), (.str "second", d2)]) (k + 1) := by
  have xs2 : x.cps.toList ≠ (Str.ofString "second").cps.toList := fun z => kx.fst (by rw [z]; decide +kernel)
  have sl2 : (Str.ofString "second").length = 6 := by decide +kernel
  have xl := kx.len
  refine ⟨?_, ?_, ?_, ?_, ?_⟩
  rotate_right
  · exact cpk_app (cpk_app (cpk_app (cpk_of _) (cpk_of _)) (cpk_of _)) (cpk_app (cpk_app (cpk_app (cpk_app (cpk_app (cpk_of _) (cpk_of _)) (cpk_of _)) kx.cp) h1.cp) (cpk_app (cpk_app (cpk_app (cpk_app (cpk_app (cpk_of _) (cpk_of _)) (cpk_of _)) (cpk_of _)) h2.cp) cpk_empty))
  · simp only [okB, okKv, h1.ok, h2.ok, List.length_cons, List.length_nil, Bool.and_true, Bool.and_eq_true, decide_eq_true_eq]
    omega
  · refine ⟨by simp, ⟨x, rfl, by omega, by simp, ⟨_, rfl, by omega, ?_, trivial⟩, h2.wf⟩, h1.wf⟩
    simpa [eq_comm] using xs2
  · have := h1.dep
    have := h2.dep
    simp only [PyData.depth, PyData.depthKv]
    omega
  · have a1 := h1.len
    have a2 := h2.len
    have b1 := str_len_le (x := x) (n := 62) xl (by omega)
    have b2 := str_len_le (x := "second") (n := 6) (by omega) (by omega)
    have n2 := num_len (n := 0 + 1 + 1) (by omega)
    have e1 : (Str.ofString "d").length = 1 := by decide +kernel
    have e2 : (Str.ofString ":").length = 1 := by decide +kernel
    have e3 : Str.empty.length = 0 := rfl
    rw [spell]
    simp only [spellKv, Str.length_append, List.length_cons, List.length_nil, B27, e1, e2, e3]
    omega
theorem g_items {ds : List PyData} {k : Nat} (l : ds.length ≤ 2) (h : ∀ d ∈ ds, G27 d k) : okAll ds = true ∧ wfs ds ∧ PyData.depthAll ds ≤ k ∧ (spells ds).length ≤ 2 * B27 k ∧ cpk (spells ds) := by
  match ds, l with
  | [], _ => exact ⟨rfl, trivial, Nat.zero_le _, by show Str.empty.length ≤ _; rw [show Str.empty.length = 0 from rfl]; omega, cpk_empty⟩
  | [a], _ =>
    have ha := h a (by simp)
    refine ⟨by simp [okAll, ha.ok], ⟨ha.wf, trivial⟩, by have := ha.dep; simp only [PyData.depthAll]; omega, ?_, cpk_app ha.cp cpk_empty⟩
    have := ha.len
    simp only [spells, Str.length_append]
    have e3 : Str.empty.length = 0 := rfl
    omega
  | [a, b], _ =>
    have ha := h a (by simp)
    have hb := h b (by simp)
    refine ⟨by simp [okAll, ha.ok, hb.ok], ⟨ha.wf, hb.wf, trivial⟩, by have := ha.dep; have := hb.dep; simp only [PyData.depthAll]; omega, ?_, cpk_app ha.cp (cpk_app hb.cp cpk_empty)⟩
    have := ha.len
    have := hb.len
    simp only [spells, Str.length_append]
    have e3 : Str.empty.length = 0 := rfl
    omega
theorem g_list {ds : List PyData} {k : Nat} (l : ds.length ≤ 2) (h : ∀ d ∈ ds, G27 d k) : G27 (.list ds) (k + 1) ∧ G27 (.tuple ds) (k + 1) := by
  obtain ⟨h1, h2, h3, h4, h5⟩ := g_items l h
  have n2 := num_len (n := ds.length) (by omega)
  have e1 : (Str.ofString "l").length = 1 := by decide +kernel
  have e0 : (Str.ofString "u").length = 1 := by decide +kernel
  have e2 : (Str.ofString ":").length = 1 := by decide +kernel
  refine ⟨⟨by simp only [okB, h1, Bool.and_true, decide_eq_true_eq]; omega, ⟨by omega, h2⟩, by simp only [PyData.depth]; omega, ?_, cpk_app (cpk_app (cpk_app (cpk_of _) (cpk_of _)) (cpk_of _)) h5⟩, ⟨by simp only [okB, h1, Bool.and_true, decide_eq_true_eq]; omega, ⟨by omega, h2⟩, by simp only [PyData.depth]; omega, ?_, cpk_app (cpk_app (cpk_app (cpk_of _) (cpk_of _)) (cpk_of _)) h5⟩⟩
  · rw [spell]; simp only [Str.length_append, e1, e2, B27]; omega
  · rw [spell]; simp only [Str.length_append, e0, e2, B27]; omega
theorem nd2 {x : Str} {v1 v2 : V} (kx : KW x) : (([(.inr x, v1), (.inr "second", v2)] : List (Key × V)).map (·.1)).Nodup := by
  have : x ≠ "second" := fun z => kx.fst (by rw [z]; decide +kernel)
  simp [this]
theorem sc_l_thing : FnScope ["_law_state", "_law_deep", "_law_way", "_law_found", "_law_turn"] ["_law_state", "_law_deep"] (defScope s_l_thing) := ⟨rfl, rfl, rfl, by decide +kernel, rfl, by decide +kernel, by decide +kernel⟩
def sp_thing (n : Nat) : Sp := S2 fun u v H Q _ => ∃ (p : Addr) (N k : Nat), u = .ref p ∧ v = .int (k : Nat) ∧ k < n ∧ k ≤ 2 ∧ Drw H p N ∧ N + c27 k < 10 ^ 6 ∧ ∀ x d fp H', Tr H' x d fp → G27 d k → (∀ c ∈ fp, H c = none) → Drw H' p (N + c27 k) → But p H H' → Q x H'
theorem ok_thing (n : Nat) (F : Df g.K "_law_thing" "_law_thing" s_l_thing f fd .none) (T : Txt2 g) (F_l_draw : Kn g "_law_draw" 1 ["_law_state", "_law_size"] [] sp_draw) (F_l_pick : Kn g "_law_pick" 2 ["_law_state", "_law_items"] [] sp_pick) (F_l_word : Kn g "_law_word" 3 ["_law_state"] [] sp_word) (F_l_thing : Kn g "_law_thing" (n + 4) ["_law_state", "_law_deep"] [] (sp_thing n)) : FnG g (n + 5) f fd ["_law_state", "_law_deep"] (sp_thing (n + 1)) := by
  refine F.ok sc_l_thing (fun vs H Q E h => S2.len h) (fun cdv A outer s H vs Q E hr h => ?_)
  obtain ⟨_, _, rfl, p, N, k, rfl, rfl, hk, k2, hS, hN, q⟩ := h
  refine ⟨_, (pss_mid (ps_set (i := 2) sc_l_thing.nd rfl (Or.inl rfl) (pe_callG F_l_draw (hr.mono (by first | decide | omega)) tkD (pa_cons (pv 0) (pa_cons pe_int pa_nil))))
      (pss_mid (ps_if (PW.pt (pw_or (pt_cmpR op_lt (pv 2) pe_int (nomark _)) (pw_or1 (pt_cmpR (o_eq (K := g.K) hr) (pv 1) pe_int (nomark _))))) (pss_one (ps_ret (pe_callG F_l_pick (hr.mono (by first | decide | omega)) tkD (pa_cons (pv 0) (pa_cons (pe_lst (pa_cons pe_non (pa_cons pe_bl (pa_cons pe_bl (pa_cons pe_int (pa_cons pe_int (pa_cons (pe_op op_sub pe_int pe_int) (pa_cons (pe_op op_pow pe_int pe_int) (pa_cons pe_str (pa_cons pe_str (pa_cons pe_str (pa_cons pe_str (pa_cons (pe_op o_mul pe_str pe_int) pa_nil))))))))))))) pa_nil))))) pss_nil)
      (pss_mid (ps_if (pt_cmpR op_lt (pv 2) pe_int (nomark _)) (pss_one (ps_ret (pe_op o_mul pe_str (pe_callG F_l_draw (hr.mono (by first | decide | omega)) tkD (pa_cons (pv 0) (pa_cons pe_int pa_nil)))))) pss_nil)
      (pss_mid (ps_if (pt_cmpR (o_eq (K := g.K) hr) (pv 2) pe_int (nomark _)) (pss_one (ps_ret (pe_disp (pps_cons (pe_callG F_l_word (hr.mono (by first | decide | omega)) tkD (pa_cons (pv 0) pa_nil)) (pe_callG F_l_thing (hr.mono (by first | decide | omega)) tkD (pa_cons (pv 0) (pa_cons (pe_op op_sub (pv 1) pe_int) pa_nil))) (pps_cons pe_str (pe_callG F_l_thing (hr.mono (by first | decide | omega)) tkD (pa_cons (pv 0) (pa_cons (pe_op op_sub (pv 1) pe_int) pa_nil))) pps_nil)) (by rfl) (by rfl) (fun z => by cases z) (by decide)))) pss_nil)
      (pss_mid (ps_setLc (i := 3) (own := [("_law_turn", 4)]) (tt := tYes) rfl sc_l_thing.nd rfl rfl (sw_true rfl rfl rfl (by decide +kernel)) (pi_range1 rfl T.b_range (pa_cons (pe_callG F_l_draw (hr.mono (by first | decide | omega)) tkD (pa_cons (pv 0) (pa_cons pe_int pa_nil))) pa_nil)) (blkOk_by (own := [("_law_turn", 4)]) (N := ["_law_state", "_law_deep", "_law_way", "_law_found", "_law_turn"]) (sc := defScope s_l_thing) (by decide +kernel)) (fun _ _ _ _ _ => (pg_name (i := 4) sc_l_thing.nd rfl (.inl rfl))) (fun _ _ _ _ _ => pts_nil) (fun _ _ _ _ _ => (pe_callG F_l_thing (Rm.mono (Rm.mk hr.room hr.gd) (by first | decide | omega)) L2.takes0 (pa_cons (pv 0) (pa_cons (pe_op op_sub (pv 1) pe_int) pa_nil)))))
      (pss_one (ps_ret (pe_ifExp (pt_cmpR op_lt (pv 2) pe_int (nomark _)) (pv 3) (pe_callTy call_tuple_of (by rfl) T.b_tuple bb_tuple (pa_cons (pv 3) pa_nil)))))))))), ?_⟩
  have c3 : 3 ≤ c27 k := by cases k <;> simp [c27] <;> omega
  refine mid_at (fun σ H1 => ∃ w : Int, σ = [some (.ref p), some (.int (k : Nat)), some (.int w), none, none] ∧ 0 ≤ w ∧ w < 9 ∧ Drw H1 p (N + 1) ∧ But p H H1) ?_ ?_
  · walk_at "sx"
    exact ⟨_, _, rfl, p, N, 9, rfl, rfl, by decide, by decide, hS, by omega, fun r H' r0 r1 S1 b1 => ⟨r, rfl, r0, r1, S1, b1⟩⟩
  rintro _ H1 ⟨w, rfl, w0, w9, S1, b1⟩
  refine mid_at (fun σ H2 => σ = [some (.ref p), some (.int (k : Nat)), some (.int w), none, none] ∧ H2 = H1 ∧ 3 ≤ w ∧ k ≠ 0) ?_ ?_
  · walk_at "sx"
    have er : repS (Str.ofString "w") (Int.toNat 90) = S (List.replicate 90 119) := by
      rw [show (Str.ofString "w") = S [119] from by decide +kernel]
      walk_at "st"
      rfl
    have wl : (Str.ofString "w").length * Int.toNat 90 ≤ 16777216 := by rw [show (Str.ofString "w").length = 1 from by decide +kernel]; decide
    rw [er]
    have el : [V.non, V.bl true, V.bl false, V.int 0, V.int 1, V.int (0 - 7), V.int (10 ^ Int.toNat 30), V.str (Str.ofString ""), V.str (Str.ofString "x"), V.str (Str.ofString "a\nb"), V.str (Str.ofString "i1;"), V.str (S (List.replicate 90 119))] = flats.map flV := rfl
    rw [el]
    have leaf : CPow 10 30 ∧ (90 : Int) < 2 ^ 31 ∧ -2 ^ 31 < (90 : Int) ∧ (Str.ofString "w").length * Int.toNat 90 ≤ 16777216 ∧ ∀ (p_1 : Addr), H1 p_1 = none → sp_pick [V.ref p, V.ref p_1] (upd H1 p_1 (HO.lst (flats.map flV))) Q fun c d H' => E c d H' := by
      refine ⟨⟨by decide, by decide, by decide⟩, by decide, by decide, wl, fun L hL => ?_⟩
      have sL := same_upd (o := HO.lst (flats.map flV)) hL
      refine ⟨_, _, rfl, p, L, flats.map flV, N + 1, rfl, rfl, upd_same, Ne.symm (S1.ne hL), by decide, by decide, S1.same sL, by omega, fun x H' hx S' b => ?_⟩
      obtain ⟨d, hd, rfl⟩ := List.mem_map.mp hx
      exact q _ d [] H' (flats_tr d hd H') (flats_g hd k) (by simp) (S'.up (by omega)) ((b1.trans (But.of sL)).trans b)
    split
    · exact leaf
    · rename_i h3
      split
      · exact leaf
      · rename_i h0
        exact ⟨by simpa using h3, by simpa using h0⟩
  rintro _ H2 ⟨rfl, rfl, w3, kn⟩
  obtain ⟨k', rfl⟩ : ∃ k', k = k' + 1 := ⟨k - 1, by omega⟩
  simp only [c27] at hN q c3
  refine mid_at (fun σ H1 => σ = [some (.ref p), some (.int ((k' + 1 : Nat) : Nat)), some (.int w), none, none] ∧ H1 = H2 ∧ 5 ≤ w) ?_ ?_
  · walk_at "sx"
    split
    · refine ⟨_, _, rfl, p, N + 1, 120, rfl, rfl, by decide, by decide, S1, by omega, fun z G2 z0 z1 S2 b2 => ?_⟩
      obtain ⟨m, rfl⟩ := Int.eq_ofNat_of_zero_le z0
      walk_at "sx"
      have er : repS (Str.ofString "v") ((m : Int)).toNat = S (List.replicate m 118) := by
        rw [show (Str.ofString "v") = S [118] from by decide +kernel]
        walk_at "st"
        rw [Int.toNat_natCast]
      rw [er]
      refine ⟨by omega, by omega, by rw [show (Str.ofString "v").length = 1 from by decide +kernel]; omega, ?_⟩
      exact q _ _ [] _ (.str _) (vs_g m _ (by omega)) (by simp) (S2.up (by omega)) (b1.trans b2)
    · rename_i h5
      simpa using h5
  rintro _ H1 ⟨rfl, rfl, w5⟩
  refine mid_at (fun σ H2 => σ = [some (.ref p), some (.int ((k' + 1 : Nat) : Nat)), some (.int w), none, none] ∧ H2 = H1 ∧ w ≠ 8) ?_ ?_
  · walk_at "sx"
    split
    · intro D hD
      have sD := same_upd (o := HO.dK []) hD
      have eD0 : upd H1 D (HO.dK []) D = some (.dK []) := upd_same
      generalize upd H1 D (HO.dK []) = Ha at sD eD0 ⊢
      have Sa := S1.same sD
      have Dp : D ≠ p := S1.ne hD
      have f1n := b1.free S1
      have fan : ∀ c, Ha c = none → H1 c = none := fun c z => by
        cases e : H1 c with
        | none => rfl
        | some o => rw [sD _ _ e] at z; cases z
      refine ⟨_, rfl, p, N + 1, rfl, Sa, by omega, fun x Hb kx Sb bb => ?_⟩
      have eDb := bb _ _ Dp eD0
      refine ⟨_, _, rfl, p, N + 4, k', rfl, by push_cast; congr 1; omega, by omega, by omega, Sb, by omega, fun v1 d1 f1 Hc t1 g1 n1 Sc bc => ?_⟩
      have eDc := bc _ _ Dp eDb
      refine ⟨_, _, rfl, p, N + 4 + c27 k', k', rfl, by push_cast; congr 1; omega, by omega, by omega, Sc, by omega, fun v2 d2 f2 Hd t2 g2 n2 Sd bd => ?_⟩
      have eDd := bd _ _ Dp eDc
      refine ⟨eDd, [(.inr x, v1), (.inr "second", v2)], rfl, by simp, ?_⟩
      rw [mergeK_nd (nd2 kx)]
      have pf1 : p ∉ f1 := by obtain ⟨_, _, _, h, _⟩ := Sb; exact not_in n1 h
      have Df1 : D ∉ f1 := not_in n1 eDb
      have Df2 : D ∉ f2 := not_in n2 eDc
      have npc : ∀ ys, Hc p ≠ some (.tup ys) := fun ys z => by obtain ⟨_, _, _, h, _⟩ := Sc; rw [h] at z; cases z
      have nD : ∀ ys, Hd D ≠ some (.tup ys) := fun ys z => by rw [eDd] at z; cases z
      have kD : But D Hd (upd Hd D (.dK [(.inr x, v1), (.inr "second", v2)])) := fun c o n z => by rw [upd_ne n]; exact z
      have tr : Tr (upd Hd D (.dK [(.inr x, v1), (.inr "second", v2)])) (.ref D) (.dict [(.str x, d1), (.str "second", d2)]) (D :: (f1 ++ (f2 ++ []))) :=
        .dct upd_same (.cons ((t1.but npc bd pf1).but nD kD Df1) (.cons (t2.but nD kD Df2) .nil)) (by simp [Df1, Df2]) (nd2 kx)
      refine q _ _ _ _ tr (g_dict kx g1 g2) (fun c hc => ?_) ((Sd.but kD (Ne.symm Dp)).up (by omega)) fun c o n z => ?_
      · rcases List.mem_cons.mp hc with rfl | hc
        · exact f1n _ hD
        rw [List.append_nil] at hc
        rcases List.mem_append.mp hc with h | h
        · exact f1n _ (fan _ (bb.free Sb _ (n1 c h)))
        · exact f1n _ (fan _ (bb.free Sb _ (bc.free Sc _ (n2 c h))))
      · have cD : c ≠ D := fun e => by rw [e, f1n _ hD] at z; cases z
        exact kD _ _ cD (bd _ _ n (bc _ _ n (bb _ _ n (sD _ _ (b1 _ _ n z)))))
    · rename_i h8
      simpa using h8
  rintro _ H2 ⟨rfl, rfl, w8⟩
  have f2n := b1.free S1
  refine mid_at (fun σ H3 => ∃ D acc ds fa, σ = [some (.ref p), some (.int ((k' + 1 : Nat) : Nat)), some (.int w), some (.ref D), none] ∧ Drw H3 p (N + 2 + 2 * c27 k') ∧ But p H H3 ∧ H D = none ∧ D ≠ p ∧ H3 D = some (.lst acc) ∧ TrL H3 acc ds fa ∧ (∀ d ∈ ds, G27 d k') ∧ ds.length ≤ 2 ∧ (∀ c ∈ fa, H c = none) ∧ D ∉ fa ∧ p ∉ fa) ?_ ?_
  · walk_at "sx"
    refine ⟨_, _, rfl, p, N + 1, 3, rfl, rfl, by decide, by decide, S1, by omega, fun r G2 r0 r1 S2 b2 => ⟨r, rfl, by omega, by omega, ?_⟩⟩
    have g2n := b2.free S2
    refine lc_invA r.toNat (fun D i acc G => But p G2 G ∧ Drw G p (N + 2 + i * c27 k') ∧ ∃ ds fa, TrL G acc ds fa ∧ (∀ d ∈ ds, G27 d k') ∧ ds.length = i ∧ ∀ c ∈ fa, G2 c = none ∧ c ≠ D) (by rw [sizeLine_eq]; omega) (fun D hD => ⟨But.of (same_upd hD), by simpa using S2.same (same_upd hD), [], [], .nil, by simp, rfl, by simp⟩) (fun D i acc G hD lt P => by simpa [Itr] using lt) (fun D acc G hD P => by simp [Itr]; omega) (fun D i acc G x G' K hD lt la P eD y k0 => ?_) (fun D acc G hD P eD => ?_)
    · obtain ⟨b, SG, ds, fa, ta, ga, la', na⟩ := P
      obtain ⟨rfl, rfl⟩ := y
      refine ⟨rfl, ?_⟩
      walk_at "sx"
      have pD : D ≠ p := S2.ne hD
      have i3 : i < 2 := by omega
      have ci : i * c27 k' + c27 k' ≤ 2 * c27 k' := by
        have : (i + 1) * c27 k' ≤ 2 * c27 k' := Nat.mul_le_mul_right _ (by omega)
        rw [Nat.add_mul, Nat.one_mul] at this; exact this
      refine ⟨_, _, rfl, p, N + 2 + i * c27 k', k', rfl, by push_cast; congr 1; omega, by omega, by omega, SG, by omega, fun v d fp G3 tr gd nf S3 b3 => ?_⟩
      have eD2 := b3 _ _ pD eD
      have nD : ∀ ys, G3 D ≠ some (.tup ys) := fun ys z => by rw [eD2] at z; cases z
      have kD : But D G3 (upd G3 D (.lst (acc ++ [v]))) := fun c o n z => by rw [upd_ne n]; exact z
      have fD : D ∉ fp := not_in nf eD
      have np : ∀ ys, G' p ≠ some (.tup ys) := fun ys z => by obtain ⟨_, _, _, h1, _⟩ := SG; rw [h1] at z; cases z
      have pa : p ∉ fa := fun z => by obtain ⟨_, _, _, h1, _⟩ := S2; rw [(na p z).1] at h1; cases h1
      refine k0 v G3 eD2 ⟨fun c o n z => ?_, ?_, ds ++ [d], fa ++ fp, TrL.snoc (tr.but nD kD fD) ((ta.but np b3 pa).but nD kD fun z => (na D z).2 rfl), ?_, by simp [la'], fun c hc => ?_⟩
      · have cD : c ≠ D := fun e => by rw [e, hD] at z; cases z
        exact kD _ _ cD (b3 _ _ n (b _ _ n z))
      · have : (i + 1) * c27 k' = i * c27 k' + c27 k' := by rw [Nat.add_mul, Nat.one_mul]
        rw [this]
        exact (S3.but kD (Ne.symm pD)).up (by omega)
      · intro e he
        rcases List.mem_append.mp he with h | h
        · exact ga e h
        · rw [List.mem_singleton.mp h]; exact gd
      · rcases List.mem_append.mp hc with h | h
        · exact na c h
        · refine ⟨?_, fun e => fD (e ▸ h)⟩
          cases e : G2 c with
          | none => rfl
          | some o =>
            have cp : c ≠ p := fun y => by obtain ⟨_, _, _, h1, _⟩ := SG; rw [← y, nf c h] at h1; cases h1
            have := b _ _ cp e
            rw [nf c h] at this; cases this
    · obtain ⟨b, SG, ds, fa, ta, ga, la', na⟩ := P
      have l3 : r.toNat ≤ 2 := by omega
      have pD : D ≠ p := S2.ne hD
      refine ⟨D, rfl, SG.up ?_, (b1.trans b2).trans b, f2n _ (g2n D hD), pD, acc, eD, ds, fa, ta, ga, by omega, fun c hc => f2n _ (g2n c (na c hc).1), fun z => (na D z).2 rfl, fun z => by obtain ⟨_, _, _, h1, _⟩ := S2; rw [(na p z).1] at h1; cases h1⟩
      have : r.toNat * c27 k' ≤ 2 * c27 k' := Nat.mul_le_mul_right _ l3
      omega
  rintro _ H3 ⟨D, acc, ds, fa, rfl, S3, b3, nD, Dp, eD, ta, ga, l3, nfa, Dfa, pfa⟩
  obtain ⟨gl, gt⟩ := g_list l3 ga
  walk_at "sx"
  split
  · exact q _ (.list ds) (D :: fa) H3 (.lst eD ta Dfa) gl (fun c hc => (List.mem_cons.mp hc).elim (fun e => e ▸ nD) (nfa c)) (S3.up (by omega)) b3
  · exact ⟨acc, .inl ⟨SqL.of eD, fun l hl => q _ (.tuple ds) fa _ (.tup upd_same (ta.same (same_upd hl))) gt nfa ((S3.same (same_upd hl)).up (by omega)) (b3.trans (But.of (same_upd hl)))⟩⟩
end
section
variable {g : Wd} {f : Addr} {fd : FuncData}
theorem sc_l_spelled : FnScope ["_law_thing_here", "_law_inner", "_law_word_here", "_law_one"] ["_law_thing_here"] (defScope s_l_spelled) := ⟨rfl, rfl, rfl, by decide +kernel, rfl, by decide +kernel, by decide +kernel⟩
theorem ok_lspell (n : Nat) (F : Df g.K "_law_spelled" "_law_spelled" s_l_spelled f fd .none) (T : Txt2 g) (F_l_spelled : Kn g "_law_spelled" (n + 1) ["_law_thing_here"] [] (sp_spell n)) : FnG g (n + 2) f fd ["_law_thing_here"] (sp_spell (n + 1)) := by
  refine F.ok sc_l_spelled (fun vs H Q E h => S1.len h) (fun cdv A outer s H vs Q E hr h => ?_)
  obtain ⟨v, rfl, d, fp, hv, hok, hn, hz, q⟩ := h
  refine ⟨_, (pss_cons (ps_if (pt_cmpR op_isN (pv 0) pe_non (nomark _)) (pss_one (ps_ret pe_str)) pss_nil)
      (pss_cons (ps_if (pt_val (pe_callB (c_is "bool") (by rfl) T.b_isinstance bb_isinstance (pa_cons (pv 0) (pa_cons (pe_bltn (v := .ty "bool") rfl T.b_bool bb_bool rfl) pa_nil)))) (pss_one (ps_ret (pe_ifExp (t_truth (K := g.K) (pv 0)) pe_str pe_str))) pss_nil)
      (pss_cons (ps_if (pt_val (pe_callB (c_is "int") (by rfl) T.b_isinstance bb_isinstance (pa_cons (pv 0) (pa_cons (pe_bltn (v := .ty "int") rfl T.b_int bb_int rfl) pa_nil)))) (pss_one (ps_ret (pe_op (o_add (K := g.K)) (pe_op (o_add (K := g.K)) pe_str (pe_callTy call_str_int (by rfl) T.b_str bb_str (pa_cons (pv 0) pa_nil))) pe_str))) pss_nil)
      (pss_cons (ps_if (pt_val (pe_callB (c_is "str") (by rfl) T.b_isinstance bb_isinstance (pa_cons (pv 0) (pa_cons (pe_bltn (v := .ty "str") rfl T.b_str bb_str rfl) pa_nil)))) (pss_one (ps_ret (pe_op (o_add (K := g.K)) (pe_op (o_add (K := g.K)) (pe_op (o_add (K := g.K)) pe_str (pe_callTy call_str_int (by rfl) T.b_str bb_str (pa_cons (pe_callB (c_len (K := g.K)) (by rfl) T.b_len bb_len (pa_cons (pv 0) pa_nil)) pa_nil))) pe_str) (pv 0)))) pss_nil)
      (pss_cons (ps_if (pt_val (pe_callB (c_is "dict") (by rfl) T.b_isinstance bb_isinstance (pa_cons (pv 0) (pa_cons (pe_bltn (v := .ty "dict") rfl T.b_dict bb_dict rfl) pa_nil)))) (pss_mid (ps_set (i := 1) sc_l_spelled.nd rfl (Or.inl rfl) (pe_join pe_str (pe_lock (pe_lc (own := [("_law_word_here", 2)]) (tt := tYes) rfl sc_l_spelled.nd (pi_keys (pv 0)) (blkOk_by (own := [("_law_word_here", 2)]) (N := ["_law_thing_here", "_law_inner", "_law_word_here", "_law_one"]) (sc := defScope s_l_spelled) (by decide +kernel)) (fun _ _ _ _ _ => (pg_name (i := 2) sc_l_spelled.nd rfl (.inl rfl))) (fun _ _ _ _ _ => pts_nil) (fun _ _ _ _ _ => (pe_op (o_add (K := g.K)) (pe_callG F_l_spelled (Rm.mono (Rm.mk hr.room hr.gd) (by first | decide | omega)) L2.takes0 (pa_cons (pv 2) pa_nil)) (pe_callG F_l_spelled (Rm.mono (Rm.mk hr.room hr.gd) (by first | decide | omega)) L2.takes0 (pa_cons (pe_dget (hu_of (Rm.mk hr.room hr.gd).room) (pv 0) (pv 2) (fun _ _ => rfl)) pa_nil))))))))
      (pss_one (ps_ret (pe_op (o_add (K := g.K)) (pe_op (o_add (K := g.K)) (pe_op (o_add (K := g.K)) pe_str (pe_callTy call_str_int (by rfl) T.b_str bb_str (pa_cons (pe_callB (c_len (K := g.K)) (by rfl) T.b_len bb_len (pa_cons (pv 0) pa_nil)) pa_nil))) pe_str) (pv 1))))) pss_nil)
      (pss_mid (ps_set (i := 1) sc_l_spelled.nd rfl (Or.inl rfl) (pe_join pe_str (pe_lc (own := [("_law_one", 3)]) (tt := tYes) rfl sc_l_spelled.nd (pi_or (i_list (K := g.K) (pv 0)) (i_tup (K := g.K) (pv 0))) (blkOk_by (own := [("_law_one", 3)]) (N := ["_law_thing_here", "_law_inner", "_law_word_here", "_law_one"]) (sc := defScope s_l_spelled) (by decide +kernel)) (fun _ _ _ _ _ => (pg_name (i := 3) sc_l_spelled.nd rfl (.inl rfl))) (fun _ _ _ _ _ => pts_nil) (fun _ _ _ _ _ => (pe_callG F_l_spelled (Rm.mono (Rm.mk hr.room hr.gd) (by first | decide | omega)) L2.takes0 (pa_cons (pv 3) pa_nil))))))
      (pss_one (ps_ret (pe_op (o_add (K := g.K)) (pe_op (o_add (K := g.K)) (pe_op (o_add (K := g.K)) (pe_ifExp (pt_val (pe_callB (c_is "list") (by rfl) T.b_isinstance bb_isinstance (pa_cons (pv 0) (pa_cons (pe_bltn (v := .ty "list") rfl T.b_list bb_list rfl) pa_nil)))) pe_str pe_str) (pe_callTy call_str_int (by rfl) T.b_str bb_str (pa_cons (pe_callB (c_len (K := g.K)) (by rfl) T.b_len bb_len (pa_cons (pv 0) pa_nil)) pa_nil))) pe_str) (pv 1)))))))))), ?_⟩
  cases hv with
  | non =>
    walk_at "sx"
    exact q _ (Same.refl _)
  | bl b =>
    walk_at "sx"
    have := q H (Same.refl _)
    cases b <;> simpa [spell] using this
  | int i =>
    walk_at "sx"
    have hi : i.natAbs < 10 ^ 100 := by simpa [okB] using hok
    simp only [spell] at hz
    simp only [Str.length_append] at hz ⊢
    exact ⟨(len_100 hi).1, by omega, by omega, q _ (Same.refl _)⟩
  | str x =>
    walk_at "sx"
    have hx : x.length ≤ 10000 := by simpa [okB] using hok
    simp only [spell, num] at hz
    simp only [Str.length_append] at hz ⊢
    exact ⟨by omega, num_log hx, by omega, by omega, by omega, q _ (Same.refl _)⟩
  | @lst a xs ds fp h hs na =>
    simp only [okB, Bool.and_eq_true, decide_eq_true_eq] at hok
    have hl := hs.len
    simp only [spell] at hz
    have hz' := hz
    simp only [Str.length_append, num] at hz'
    simp only [tyN_l h, tRet, tRetN, tSeq, C8.tCut, tNext, tAsg, gName, gNil, gCons, gTup, gFld, tIfS, tIf, tAndV, tOrV, tNotV, tAnd, tOr, tNot, tB, tTest, tOp, tUn, tCB, tCons, tNil, tVar, tC, tChain, tDrop, RS.tCallG, RS.tMethG, tMakeG, RS.tCallK, RS.tMakeK, tEqOwn, rI, rI0, rU, add_ii, add_ss, add_rr, mul_ii, mul_si, mul_ri, RS.eq_ii, RS.eq_ss, eq_bb, eq_nn, eq_sn, eq_ns, eq_in, eq_ni, eq_bn, eq_nb, eq_is, eq_si, eq_rr, ne_ii, ne_ss, ne_bb, ne_nn, ne_sn, ne_ns, ne_in, ne_ni, ne_is, ne_si, ne_rr, in_ss, in_r, nin_ss, nin_r, len_s, len_r, RS.ix_s, RS.ix_r, sl_s, sl_r, is_eq, tyN_n, tyN_b, tyN_i, tyN_s, tru_b, tru_i, tru_n, tSl, tPart, tNoPart, tPar, tPar3, tFmtZ, tFmt, tJs, tDGet, sDPut, sFld, tFld, tTup, tLst, tNever, isB,
  L2.start, List.map_cons, List.map_nil, List.length_cons, List.length_nil, Nat.reduceAdd, Nat.reduceSub, Nat.sub_self, List.replicate_zero, List.replicate_succ, List.append_nil, List.cons_append, List.nil_append, List.getElem?_cons_zero, List.getElem?_cons_succ, List.set_cons_zero, List.set_cons_succ, Option.some.injEq, exists_eq_left, exists_eq_left', exists_and_left, V.bl.injEq, V.int.injEq, V.str.injEq, V.ref.injEq, beq_self_eq_true, Bool.true_or, Bool.or_true, Bool.false_or, Bool.or_false, Bool.and_false, Bool.false_and, Bool.true_and, Bool.and_true, Bool.not_true, Bool.not_false, Bool.false_eq_true, if_true, if_false, ite_true, ite_false, true_and, and_true, and_assoc, String.reduceBEq, String.reduceEq, reduceIte, Bool.and_self, reduceCtorEq, false_and, and_false, exists_false, or_false, false_or, exists_const, iEnumS, iStr, iList, iTup, iRng1, iEnum, tFor_eq, tLc_eq, List.cons.injEq, wipe, not_true_eq_false, not_false_eq_true, upd_same, HO.ins.injEq, HO.tup.injEq, HO.lst.injEq, ofS_eq, lk_nil, lk_cons, pu_nil, pu_cons, sizeLine_eq, Nat.reduceLT, Nat.reduceLeDiff, Nat.reduceEqDiff, Nat.le_refl, decide_true, decide_false, tPr, dget_us, dput_us, vv_nil, vv_cons, RS.pk_nil, pk_one, RS.pk_cons, inr_eq, tDisp, tPairs, tBoolOwn, rBoolOwn, tBM, rAppend, ty_list, ty_str, rEqOwn, iEnumT, RS.tCallS, tM1, tDc_eq, tLock, tLockE, iKeys, tListEnum, rUpdate, tMkX0, tMkX1, tXfv, gSub, rSetL, List.getD_cons_zero, List.getD_cons_succ, tBreak, tCMethS, ClX.tCVal, tXfa, tIxOwn, tInOwn, tPropG, tMethK, tMethP, tListGen, tDGet2, tDPop2, rNeD0, intA_i, intA_b, tRevL, sFldAug, tPm0, tPm1, tDIn, tDNotIn, tDNewK, RS.tMethS, tForK, tKM, tKC, tLcK, tKM2, tKC2, tMethStar, tKCK2, tLk, tAug, ipI, tDig, tLcX, tKMX, tKCX, tForY, tKCY, tKMY, tYThen, tYPlain, tYYield, tY0, tYIf, GKE.at, tListX]
    refine mid_at (fun σ G => σ = [some (.ref a), some (.str (spells ds)), none, none] ∧ Same H G) ?_ ?_
    · walk_at "sx"
      refine ⟨⟨_, rfl⟩, .inl ⟨⟨xs, SqL.of h⟩, ?_⟩⟩
      refine spell_items 3 (fun _ => rfl) (fun _ => rfl) (Same.refl _) hs hok.2 hok.1 (by simp only [PyData.depth] at hn; omega) (by omega) (fun i G lt sm => ⟨_, xs[i], SqL.of (sm _ _ h), List.getElem?_eq_getElem lt⟩) (fun G sm => ⟨_, SqL.of (sm _ _ h), Nat.le_refl _⟩) (fun i G x G' lt sm y => ⟨y.1, y.2 _ (SqL.of (sm _ _ h))⟩) (fun L ys G sm eL ec hs2 => ?_)
      refine ⟨L, rfl, ys, .inl (SqL.of eL), by rw [show (Str.ofString "").length = 0 from by decide +kernel]; omega, ?_⟩
      rw [join0, ec]
      exact ⟨rfl, sm⟩
    rintro _ G ⟨rfl, sG⟩
    simp only [tyN_l (sG _ _ h), tRet, tRetN, tSeq, C8.tCut, tNext, tAsg, gName, gNil, gCons, gTup, gFld, tIfS, tIf, tAndV, tOrV, tNotV, tAnd, tOr, tNot, tB, tTest, tOp, tUn, tCB, tCons, tNil, tVar, tC, tChain, tDrop, RS.tCallG, RS.tMethG, tMakeG, RS.tCallK, RS.tMakeK, tEqOwn, rI, rI0, rU, add_ii, add_ss, add_rr, mul_ii, mul_si, mul_ri, RS.eq_ii, RS.eq_ss, eq_bb, eq_nn, eq_sn, eq_ns, eq_in, eq_ni, eq_bn, eq_nb, eq_is, eq_si, eq_rr, ne_ii, ne_ss, ne_bb, ne_nn, ne_sn, ne_ns, ne_in, ne_ni, ne_is, ne_si, ne_rr, in_ss, in_r, nin_ss, nin_r, len_s, len_r, RS.ix_s, RS.ix_r, sl_s, sl_r, is_eq, tyN_n, tyN_b, tyN_i, tyN_s, tru_b, tru_i, tru_n, tSl, tPart, tNoPart, tPar, tPar3, tFmtZ, tFmt, tJs, tDGet, sDPut, sFld, tFld, tTup, tLst, tNever, isB,
  L2.start, List.map_cons, List.map_nil, List.length_cons, List.length_nil, Nat.reduceAdd, Nat.reduceSub, Nat.sub_self, List.replicate_zero, List.replicate_succ, List.append_nil, List.cons_append, List.nil_append, List.getElem?_cons_zero, List.getElem?_cons_succ, List.set_cons_zero, List.set_cons_succ, Option.some.injEq, exists_eq_left, exists_eq_left', exists_and_left, V.bl.injEq, V.int.injEq, V.str.injEq, V.ref.injEq, beq_self_eq_true, Bool.true_or, Bool.or_true, Bool.false_or, Bool.or_false, Bool.and_false, Bool.false_and, Bool.true_and, Bool.and_true, Bool.not_true, Bool.not_false, Bool.false_eq_true, if_true, if_false, ite_true, ite_false, true_and, and_true, and_assoc, String.reduceBEq, String.reduceEq, reduceIte, Bool.and_self, reduceCtorEq, false_and, and_false, exists_false, or_false, false_or, exists_const, iEnumS, iStr, iList, iTup, iRng1, iEnum, tFor_eq, tLc_eq, List.cons.injEq, wipe, not_true_eq_false, not_false_eq_true, upd_same, HO.ins.injEq, HO.tup.injEq, HO.lst.injEq, ofS_eq, lk_nil, lk_cons, pu_nil, pu_cons, sizeLine_eq, Nat.reduceLT, Nat.reduceLeDiff, Nat.reduceEqDiff, Nat.le_refl, decide_true, decide_false, tPr, dget_us, dput_us, vv_nil, vv_cons, RS.pk_nil, pk_one, RS.pk_cons, inr_eq, tDisp, tPairs, tBoolOwn, rBoolOwn, tBM, rAppend, ty_list, ty_str, rEqOwn, iEnumT, RS.tCallS, tM1, tDc_eq, tLock, tLockE, iKeys, tListEnum, rUpdate, tMkX0, tMkX1, tXfv, gSub, rSetL, List.getD_cons_zero, List.getD_cons_succ, tBreak, tCMethS, ClX.tCVal, tXfa, tIxOwn, tInOwn, tPropG, tMethK, tMethP, tListGen, tDGet2, tDPop2, rNeD0, intA_i, intA_b, tRevL, sFldAug, tPm0, tPm1, tDIn, tDNotIn, tDNewK, RS.tMethS, tForK, tKM, tKC, tLcK, tKM2, tKC2, tMethStar, tKCK2, tLk, tAug, ipI, tDig, tLcX, tKMX, tKCX, tForY, tKCY, tKMY, tYThen, tYPlain, tYYield, tY0, tYIf, GKE.at, tListX]
    refine .inl ⟨xs, .inl (SqL.of (sG _ _ h)), ?_⟩
    rw [hl]
    exact ⟨num_log (by omega), by omega, by simp only [Str.length_append]; omega, by simp only [Str.length_append]; omega, q _ sG⟩
  | @tup a xs ds fp h hs =>
    simp only [okB, Bool.and_eq_true, decide_eq_true_eq] at hok
    have hl := hs.len
    simp only [spell] at hz
    have hz' := hz
    simp only [Str.length_append, num] at hz'
    simp only [tyN_t h, tRet, tRetN, tSeq, C8.tCut, tNext, tAsg, gName, gNil, gCons, gTup, gFld, tIfS, tIf, tAndV, tOrV, tNotV, tAnd, tOr, tNot, tB, tTest, tOp, tUn, tCB, tCons, tNil, tVar, tC, tChain, tDrop, RS.tCallG, RS.tMethG, tMakeG, RS.tCallK, RS.tMakeK, tEqOwn, rI, rI0, rU, add_ii, add_ss, add_rr, mul_ii, mul_si, mul_ri, RS.eq_ii, RS.eq_ss, eq_bb, eq_nn, eq_sn, eq_ns, eq_in, eq_ni, eq_bn, eq_nb, eq_is, eq_si, eq_rr, ne_ii, ne_ss, ne_bb, ne_nn, ne_sn, ne_ns, ne_in, ne_ni, ne_is, ne_si, ne_rr, in_ss, in_r, nin_ss, nin_r, len_s, len_r, RS.ix_s, RS.ix_r, sl_s, sl_r, is_eq, tyN_n, tyN_b, tyN_i, tyN_s, tru_b, tru_i, tru_n, tSl, tPart, tNoPart, tPar, tPar3, tFmtZ, tFmt, tJs, tDGet, sDPut, sFld, tFld, tTup, tLst, tNever, isB,
  L2.start, List.map_cons, List.map_nil, List.length_cons, List.length_nil, Nat.reduceAdd, Nat.reduceSub, Nat.sub_self, List.replicate_zero, List.replicate_succ, List.append_nil, List.cons_append, List.nil_append, List.getElem?_cons_zero, List.getElem?_cons_succ, List.set_cons_zero, List.set_cons_succ, Option.some.injEq, exists_eq_left, exists_eq_left', exists_and_left, V.bl.injEq, V.int.injEq, V.str.injEq, V.ref.injEq, beq_self_eq_true, Bool.true_or, Bool.or_true, Bool.false_or, Bool.or_false, Bool.and_false, Bool.false_and, Bool.true_and, Bool.and_true, Bool.not_true, Bool.not_false, Bool.false_eq_true, if_true, if_false, ite_true, ite_false, true_and, and_true, and_assoc, String.reduceBEq, String.reduceEq, reduceIte, Bool.and_self, reduceCtorEq, false_and, and_false, exists_false, or_false, false_or, exists_const, iEnumS, iStr, iList, iTup, iRng1, iEnum, tFor_eq, tLc_eq, List.cons.injEq, wipe, not_true_eq_false, not_false_eq_true, upd_same, HO.ins.injEq, HO.tup.injEq, HO.lst.injEq, ofS_eq, lk_nil, lk_cons, pu_nil, pu_cons, sizeLine_eq, Nat.reduceLT, Nat.reduceLeDiff, Nat.reduceEqDiff, Nat.le_refl, decide_true, decide_false, tPr, dget_us, dput_us, vv_nil, vv_cons, RS.pk_nil, pk_one, RS.pk_cons, inr_eq, tDisp, tPairs, tBoolOwn, rBoolOwn, tBM, rAppend, ty_list, ty_str, rEqOwn, iEnumT, RS.tCallS, tM1, tDc_eq, tLock, tLockE, iKeys, tListEnum, rUpdate, tMkX0, tMkX1, tXfv, gSub, rSetL, List.getD_cons_zero, List.getD_cons_succ, tBreak, tCMethS, ClX.tCVal, tXfa, tIxOwn, tInOwn, tPropG, tMethK, tMethP, tListGen, tDGet2, tDPop2, rNeD0, intA_i, intA_b, tRevL, sFldAug, tPm0, tPm1, tDIn, tDNotIn, tDNewK, RS.tMethS, tForK, tKM, tKC, tLcK, tKM2, tKC2, tMethStar, tKCK2, tLk, tAug, ipI, tDig, tLcX, tKMX, tKCX, tForY, tKCY, tKMY, tYThen, tYPlain, tYYield, tY0, tYIf, GKE.at, tListX]
    refine mid_at (fun σ G => σ = [some (.ref a), some (.str (spells ds)), none, none] ∧ Same H G) ?_ ?_
    · walk_at "sx"
      refine ⟨⟨_, rfl⟩, .inr ⟨⟨xs, SqT.of h⟩, ?_⟩⟩
      refine spell_items 3 (fun _ => rfl) (fun _ => rfl) (Same.refl _) hs hok.2 hok.1 (by simp only [PyData.depth] at hn; omega) (by omega) (fun i G lt sm => ⟨_, xs[i], SqT.of (sm _ _ h), List.getElem?_eq_getElem lt⟩) (fun G sm => ⟨_, SqT.of (sm _ _ h), Nat.le_refl _⟩) (fun i G x G' lt sm y => ⟨y.1, y.2 _ (SqT.of (sm _ _ h))⟩) (fun L ys G sm eL ec hs2 => ?_)
      refine ⟨L, rfl, ys, .inl (SqL.of eL), by rw [show (Str.ofString "").length = 0 from by decide +kernel]; omega, ?_⟩
      rw [join0, ec]
      exact ⟨rfl, sm⟩
    rintro _ G ⟨rfl, sG⟩
    simp only [tyN_t (sG _ _ h), tRet, tRetN, tSeq, C8.tCut, tNext, tAsg, gName, gNil, gCons, gTup, gFld, tIfS, tIf, tAndV, tOrV, tNotV, tAnd, tOr, tNot, tB, tTest, tOp, tUn, tCB, tCons, tNil, tVar, tC, tChain, tDrop, RS.tCallG, RS.tMethG, tMakeG, RS.tCallK, RS.tMakeK, tEqOwn, rI, rI0, rU, add_ii, add_ss, add_rr, mul_ii, mul_si, mul_ri, RS.eq_ii, RS.eq_ss, eq_bb, eq_nn, eq_sn, eq_ns, eq_in, eq_ni, eq_bn, eq_nb, eq_is, eq_si, eq_rr, ne_ii, ne_ss, ne_bb, ne_nn, ne_sn, ne_ns, ne_in, ne_ni, ne_is, ne_si, ne_rr, in_ss, in_r, nin_ss, nin_r, len_s, len_r, RS.ix_s, RS.ix_r, sl_s, sl_r, is_eq, tyN_n, tyN_b, tyN_i, tyN_s, tru_b, tru_i, tru_n, tSl, tPart, tNoPart, tPar, tPar3, tFmtZ, tFmt, tJs, tDGet, sDPut, sFld, tFld, tTup, tLst, tNever, isB,
  L2.start, List.map_cons, List.map_nil, List.length_cons, List.length_nil, Nat.reduceAdd, Nat.reduceSub, Nat.sub_self, List.replicate_zero, List.replicate_succ, List.append_nil, List.cons_append, List.nil_append, List.getElem?_cons_zero, List.getElem?_cons_succ, List.set_cons_zero, List.set_cons_succ, Option.some.injEq, exists_eq_left, exists_eq_left', exists_and_left, V.bl.injEq, V.int.injEq, V.str.injEq, V.ref.injEq, beq_self_eq_true, Bool.true_or, Bool.or_true, Bool.false_or, Bool.or_false, Bool.and_false, Bool.false_and, Bool.true_and, Bool.and_true, Bool.not_true, Bool.not_false, Bool.false_eq_true, if_true, if_false, ite_true, ite_false, true_and, and_true, and_assoc, String.reduceBEq, String.reduceEq, reduceIte, Bool.and_self, reduceCtorEq, false_and, and_false, exists_false, or_false, false_or, exists_const, iEnumS, iStr, iList, iTup, iRng1, iEnum, tFor_eq, tLc_eq, List.cons.injEq, wipe, not_true_eq_false, not_false_eq_true, upd_same, HO.ins.injEq, HO.tup.injEq, HO.lst.injEq, ofS_eq, lk_nil, lk_cons, pu_nil, pu_cons, sizeLine_eq, Nat.reduceLT, Nat.reduceLeDiff, Nat.reduceEqDiff, Nat.le_refl, decide_true, decide_false, tPr, dget_us, dput_us, vv_nil, vv_cons, RS.pk_nil, pk_one, RS.pk_cons, inr_eq, tDisp, tPairs, tBoolOwn, rBoolOwn, tBM, rAppend, ty_list, ty_str, rEqOwn, iEnumT, RS.tCallS, tM1, tDc_eq, tLock, tLockE, iKeys, tListEnum, rUpdate, tMkX0, tMkX1, tXfv, gSub, rSetL, List.getD_cons_zero, List.getD_cons_succ, tBreak, tCMethS, ClX.tCVal, tXfa, tIxOwn, tInOwn, tPropG, tMethK, tMethP, tListGen, tDGet2, tDPop2, rNeD0, intA_i, intA_b, tRevL, sFldAug, tPm0, tPm1, tDIn, tDNotIn, tDNewK, RS.tMethS, tForK, tKM, tKC, tLcK, tKM2, tKC2, tMethStar, tKCK2, tLk, tAug, ipI, tDig, tLcX, tKMX, tKCX, tForY, tKCY, tKMY, tYThen, tYPlain, tYYield, tY0, tYIf, GKE.at, tListX]
    refine .inl ⟨xs, .inr (SqT.of (sG _ _ h)), ?_⟩
    rw [hl]
    exact ⟨num_log (by omega), by omega, by simp only [Str.length_append]; omega, by simp only [Str.length_append]; omega, q _ sG⟩
  | @dct a kvs D fp h hs na nd =>
    simp only [okB, Bool.and_eq_true, decide_eq_true_eq] at hok
    have hl := hs.len
    simp only [spell] at hz
    have hz' := hz
    simp only [Str.length_append, num] at hz'
    simp only [tyN_d h, tRet, tRetN, tSeq, C8.tCut, tNext, tAsg, gName, gNil, gCons, gTup, gFld, tIfS, tIf, tAndV, tOrV, tNotV, tAnd, tOr, tNot, tB, tTest, tOp, tUn, tCB, tCons, tNil, tVar, tC, tChain, tDrop, RS.tCallG, RS.tMethG, tMakeG, RS.tCallK, RS.tMakeK, tEqOwn, rI, rI0, rU, add_ii, add_ss, add_rr, mul_ii, mul_si, mul_ri, RS.eq_ii, RS.eq_ss, eq_bb, eq_nn, eq_sn, eq_ns, eq_in, eq_ni, eq_bn, eq_nb, eq_is, eq_si, eq_rr, ne_ii, ne_ss, ne_bb, ne_nn, ne_sn, ne_ns, ne_in, ne_ni, ne_is, ne_si, ne_rr, in_ss, in_r, nin_ss, nin_r, len_s, len_r, RS.ix_s, RS.ix_r, sl_s, sl_r, is_eq, tyN_n, tyN_b, tyN_i, tyN_s, tru_b, tru_i, tru_n, tSl, tPart, tNoPart, tPar, tPar3, tFmtZ, tFmt, tJs, tDGet, sDPut, sFld, tFld, tTup, tLst, tNever, isB,
  L2.start, List.map_cons, List.map_nil, List.length_cons, List.length_nil, Nat.reduceAdd, Nat.reduceSub, Nat.sub_self, List.replicate_zero, List.replicate_succ, List.append_nil, List.cons_append, List.nil_append, List.getElem?_cons_zero, List.getElem?_cons_succ, List.set_cons_zero, List.set_cons_succ, Option.some.injEq, exists_eq_left, exists_eq_left', exists_and_left, V.bl.injEq, V.int.injEq, V.str.injEq, V.ref.injEq, beq_self_eq_true, Bool.true_or, Bool.or_true, Bool.false_or, Bool.or_false, Bool.and_false, Bool.false_and, Bool.true_and, Bool.and_true, Bool.not_true, Bool.not_false, Bool.false_eq_true, if_true, if_false, ite_true, ite_false, true_and, and_true, and_assoc, String.reduceBEq, String.reduceEq, reduceIte, Bool.and_self, reduceCtorEq, false_and, and_false, exists_false, or_false, false_or, exists_const, iEnumS, iStr, iList, iTup, iRng1, iEnum, tFor_eq, tLc_eq, List.cons.injEq, wipe, not_true_eq_false, not_false_eq_true, upd_same, HO.ins.injEq, HO.tup.injEq, HO.lst.injEq, ofS_eq, lk_nil, lk_cons, pu_nil, pu_cons, sizeLine_eq, Nat.reduceLT, Nat.reduceLeDiff, Nat.reduceEqDiff, Nat.le_refl, decide_true, decide_false, tPr, dget_us, dput_us, vv_nil, vv_cons, RS.pk_nil, pk_one, RS.pk_cons, inr_eq, tDisp, tPairs, tBoolOwn, rBoolOwn, tBM, rAppend, ty_list, ty_str, rEqOwn, iEnumT, RS.tCallS, tM1, tDc_eq, tLock, tLockE, iKeys, tListEnum, rUpdate, tMkX0, tMkX1, tXfv, gSub, rSetL, List.getD_cons_zero, List.getD_cons_succ, tBreak, tCMethS, ClX.tCVal, tXfa, tIxOwn, tInOwn, tPropG, tMethK, tMethP, tListGen, tDGet2, tDPop2, rNeD0, intA_i, intA_b, tRevL, sFldAug, tPm0, tPm1, tDIn, tDNotIn, tDNewK, RS.tMethS, tForK, tKM, tKC, tLcK, tKM2, tKC2, tMethStar, tKCK2, tLk, tAug, ipI, tDig, tLcX, tKMX, tKCX, tForY, tKCY, tKMY, tYThen, tYPlain, tYYield, tY0, tYIf, GKE.at, tListX]
    refine mid_at (fun σ G => σ = [some (.ref a), some (.str (spellKv D)), none, none] ∧ Same H G) ?_ ?_
    · walk_at "sx"
      refine ⟨⟨_, rfl⟩, a, _, h, True.intro, fun od => ⟨od, .inl ⟨kvs, upd_same, ?_⟩⟩⟩
      have hlk : ∀ c o, c ≠ a → H c = some o → upd H a (.frz od (.dK kvs)) c = some o := fun c o n z => by rw [upd_ne n]; exact z
      have hs1 : TrD (upd H a (.frz od (.dK kvs))) kvs D fp := hs.but (p := a) (fun xs z => by rw [h] at z; cases z) hlk na
      refine lc_all kvs.length (fun i => .str (spell ((D[i]?.getD (.none, .none)).1) ++ spell ((D[i]?.getD (.none, .none)).2))) (by rw [sizeLine_eq]; omega) (fun i G lt sm => ⟨sm _ _ upd_same, lt⟩) (fun G sm => ⟨sm _ _ upd_same, Nat.le_refl _⟩) (fun i G x G' K lt sm y k => ?_) (fun L G hL sm eL => ?_)
      · obtain ⟨rfl, k0, v0, hk, rfl⟩ := y
        obtain ⟨x, v, d, f', e1, e2, t, _⟩ := hs1.get lt
        rw [hk] at e1
        cases e1
        refine ⟨rfl, ?_⟩
        simp only [kV, tRet, tRetN, tSeq, C8.tCut, tNext, tAsg, gName, gNil, gCons, gTup, gFld, tIfS, tIf, tAndV, tOrV, tNotV, tAnd, tOr, tNot, tB, tTest, tOp, tUn, tCB, tCons, tNil, tVar, tC, tChain, tDrop, RS.tCallG, RS.tMethG, tMakeG, RS.tCallK, RS.tMakeK, tEqOwn, rI, rI0, rU, add_ii, add_ss, add_rr, mul_ii, mul_si, mul_ri, RS.eq_ii, RS.eq_ss, eq_bb, eq_nn, eq_sn, eq_ns, eq_in, eq_ni, eq_bn, eq_nb, eq_is, eq_si, eq_rr, ne_ii, ne_ss, ne_bb, ne_nn, ne_sn, ne_ns, ne_in, ne_ni, ne_is, ne_si, ne_rr, in_ss, in_r, nin_ss, nin_r, len_s, len_r, RS.ix_s, RS.ix_r, sl_s, sl_r, is_eq, tyN_n, tyN_b, tyN_i, tyN_s, tru_b, tru_i, tru_n, tSl, tPart, tNoPart, tPar, tPar3, tFmtZ, tFmt, tJs, tDGet, sDPut, sFld, tFld, tTup, tLst, tNever, isB,
  L2.start, List.map_cons, List.map_nil, List.length_cons, List.length_nil, Nat.reduceAdd, Nat.reduceSub, Nat.sub_self, List.replicate_zero, List.replicate_succ, List.append_nil, List.cons_append, List.nil_append, List.getElem?_cons_zero, List.getElem?_cons_succ, List.set_cons_zero, List.set_cons_succ, Option.some.injEq, exists_eq_left, exists_eq_left', exists_and_left, V.bl.injEq, V.int.injEq, V.str.injEq, V.ref.injEq, beq_self_eq_true, Bool.true_or, Bool.or_true, Bool.false_or, Bool.or_false, Bool.and_false, Bool.false_and, Bool.true_and, Bool.and_true, Bool.not_true, Bool.not_false, Bool.false_eq_true, if_true, if_false, ite_true, ite_false, true_and, and_true, and_assoc, String.reduceBEq, String.reduceEq, reduceIte, Bool.and_self, reduceCtorEq, false_and, and_false, exists_false, or_false, false_or, exists_const, iEnumS, iStr, iList, iTup, iRng1, iEnum, tFor_eq, tLc_eq, List.cons.injEq, wipe, not_true_eq_false, not_false_eq_true, upd_same, HO.ins.injEq, HO.tup.injEq, HO.lst.injEq, ofS_eq, lk_nil, lk_cons, pu_nil, pu_cons, sizeLine_eq, Nat.reduceLT, Nat.reduceLeDiff, Nat.reduceEqDiff, Nat.le_refl, decide_true, decide_false, tPr, dget_us, dput_us, vv_nil, vv_cons, RS.pk_nil, pk_one, RS.pk_cons, inr_eq, tDisp, tPairs, tBoolOwn, rBoolOwn, tBM, rAppend, ty_list, ty_str, rEqOwn, iEnumT, RS.tCallS, tM1, tDc_eq, tLock, tLockE, iKeys, tListEnum, rUpdate, tMkX0, tMkX1, tXfv, gSub, rSetL, List.getD_cons_zero, List.getD_cons_succ, tBreak, tCMethS, ClX.tCVal, tXfa, tIxOwn, tInOwn, tPropG, tMethK, tMethP, tListGen, tDGet2, tDPop2, rNeD0, intA_i, intA_b, tRevL, sFldAug, tPm0, tPm1, tDIn, tDNotIn, tDNewK, RS.tMethS, tForK, tKM, tKC, tLcK, tKM2, tKC2, tMethStar, tKCK2, tLk, tAug, ipI, tDig, tLcX, tKMX, tKCX, tForY, tKCY, tKMY, tYThen, tYPlain, tYYield, tY0, tYIf, GKE.at, tListX]
        have b1 := depth_kv e2
        have b2 := spellKv_get e2
        have b3 : PyData.depthKv D < n := by simp only [PyData.depth] at hn; omega
        refine ⟨_, rfl, .str x, [], .str x, (okKv_get hok.2 e2).1, by simp only [PyData.depth]; omega, by omega, fun H' s' => ⟨v0, .inl ⟨kvs, .inr x, .inr ⟨od, s' _ _ (sm _ _ upd_same)⟩, rfl, (valV_at nd hk).symm⟩, _, rfl, d, f', t.same (sm.trans s'), (okKv_get hok.2 e2).2, by omega, by omega, fun H'' s'' => ?_⟩⟩
        walk_at "sx"
        have := k H'' (s'.trans s'')
        rw [e2] at this
        exact ⟨by omega, this⟩
      · have e : (List.range kvs.length).map (fun i => V.str (spell ((D[i]?.getD (.none, .none)).1) ++ spell ((D[i]?.getD (.none, .none)).2))) = (D.map fun p => spell p.1 ++ spell p.2).map V.str := by
          rw [hl]
          refine List.ext_getElem (by simp) fun i h1 h2 => ?_
          simp at h1 h2
          simp [h1]
        have La := fresh_lock hL
        refine ⟨sm _ _ upd_same, L, rfl, D.map fun p => spell p.1 ++ spell p.2, .inl (SqL.of (by rw [upd_ne La.1, eL, e])), ?_, ?_⟩
        · have := cat_len (D.map fun p => spell p.1 ++ spell p.2)
          rw [cat_map_kv] at this
          have e0 : (Str.ofString "").length = 0 := by decide +kernel
          rw [e0, ← this]; omega
        · rw [join0, cat_map_kv]
          exact ⟨rfl, unlock h sm⟩
    rintro _ G ⟨rfl, sG⟩
    simp only [tyN_d (sG _ _ h), tRet, tRetN, tSeq, C8.tCut, tNext, tAsg, gName, gNil, gCons, gTup, gFld, tIfS, tIf, tAndV, tOrV, tNotV, tAnd, tOr, tNot, tB, tTest, tOp, tUn, tCB, tCons, tNil, tVar, tC, tChain, tDrop, RS.tCallG, RS.tMethG, tMakeG, RS.tCallK, RS.tMakeK, tEqOwn, rI, rI0, rU, add_ii, add_ss, add_rr, mul_ii, mul_si, mul_ri, RS.eq_ii, RS.eq_ss, eq_bb, eq_nn, eq_sn, eq_ns, eq_in, eq_ni, eq_bn, eq_nb, eq_is, eq_si, eq_rr, ne_ii, ne_ss, ne_bb, ne_nn, ne_sn, ne_ns, ne_in, ne_ni, ne_is, ne_si, ne_rr, in_ss, in_r, nin_ss, nin_r, len_s, len_r, RS.ix_s, RS.ix_r, sl_s, sl_r, is_eq, tyN_n, tyN_b, tyN_i, tyN_s, tru_b, tru_i, tru_n, tSl, tPart, tNoPart, tPar, tPar3, tFmtZ, tFmt, tJs, tDGet, sDPut, sFld, tFld, tTup, tLst, tNever, isB,
  L2.start, List.map_cons, List.map_nil, List.length_cons, List.length_nil, Nat.reduceAdd, Nat.reduceSub, Nat.sub_self, List.replicate_zero, List.replicate_succ, List.append_nil, List.cons_append, List.nil_append, List.getElem?_cons_zero, List.getElem?_cons_succ, List.set_cons_zero, List.set_cons_succ, Option.some.injEq, exists_eq_left, exists_eq_left', exists_and_left, V.bl.injEq, V.int.injEq, V.str.injEq, V.ref.injEq, beq_self_eq_true, Bool.true_or, Bool.or_true, Bool.false_or, Bool.or_false, Bool.and_false, Bool.false_and, Bool.true_and, Bool.and_true, Bool.not_true, Bool.not_false, Bool.false_eq_true, if_true, if_false, ite_true, ite_false, true_and, and_true, and_assoc, String.reduceBEq, String.reduceEq, reduceIte, Bool.and_self, reduceCtorEq, false_and, and_false, exists_false, or_false, false_or, exists_const, iEnumS, iStr, iList, iTup, iRng1, iEnum, tFor_eq, tLc_eq, List.cons.injEq, wipe, not_true_eq_false, not_false_eq_true, upd_same, HO.ins.injEq, HO.tup.injEq, HO.lst.injEq, ofS_eq, lk_nil, lk_cons, pu_nil, pu_cons, sizeLine_eq, Nat.reduceLT, Nat.reduceLeDiff, Nat.reduceEqDiff, Nat.le_refl, decide_true, decide_false, tPr, dget_us, dput_us, vv_nil, vv_cons, RS.pk_nil, pk_one, RS.pk_cons, inr_eq, tDisp, tPairs, tBoolOwn, rBoolOwn, tBM, rAppend, ty_list, ty_str, rEqOwn, iEnumT, RS.tCallS, tM1, tDc_eq, tLock, tLockE, iKeys, tListEnum, rUpdate, tMkX0, tMkX1, tXfv, gSub, rSetL, List.getD_cons_zero, List.getD_cons_succ, tBreak, tCMethS, ClX.tCVal, tXfa, tIxOwn, tInOwn, tPropG, tMethK, tMethP, tListGen, tDGet2, tDPop2, rNeD0, intA_i, intA_b, tRevL, sFldAug, tPm0, tPm1, tDIn, tDNotIn, tDNewK, RS.tMethS, tForK, tKM, tKC, tLcK, tKM2, tKC2, tMethStar, tKCK2, tLk, tAug, ipI, tDig, tLcX, tKMX, tKCX, tForY, tKCY, tKMY, tYThen, tYPlain, tYYield, tY0, tYIf, GKE.at, tListX]
    refine .inr ⟨kvs, sG _ _ h, ?_⟩
    rw [hl]
    exact ⟨num_log (by omega), by omega, by simp only [Str.length_append]; omega, by simp only [Str.length_append]; omega, q _ sG⟩
end
theorem num_lt (n : Nat) : n < 10 ^ (TL.numL n).length := by
  induction n using Nat.strongRecOn with
  | ind n ih =>
    by_cases lt : n < 10
    · rw [TL.numL_lt lt]; simpa using lt
    · rw [TL.numL_step (by omega), List.length_append]
      have := ih (n / 10) (by omega)
      show n < 10 ^ ((TL.numL (n / 10)).length + 1)
      rw [Nat.pow_succ]
      omega
mutual
theorem wf_ok : ∀ d : PyData, wf d → okB d = true
  | .none, _ => rfl
  | .bool _, _ => rfl
  | .int i, h => by
    simp only [wf] at h
    simp only [okB, decide_eq_true_eq]
    exact Nat.lt_of_lt_of_le (num_lt _) (Nat.pow_le_pow_right (by decide) h)
  | .str x, h => by
    simp only [wf] at h
    simpa [okB] using h
  | .list ds, h => by
    simp only [wf] at h
    simp only [okB, Bool.and_eq_true, decide_eq_true_eq]
    exact ⟨h.1, wfs_ok ds h.2⟩
  | .tuple ds, h => by
    simp only [wf] at h
    simp only [okB, Bool.and_eq_true, decide_eq_true_eq]
    exact ⟨h.1, wfs_ok ds h.2⟩
  | .dict D, h => by
    simp only [wf] at h
    simp only [okB, Bool.and_eq_true, decide_eq_true_eq]
    exact ⟨h.1, wfK_ok D [] h.2⟩
theorem wfs_ok : ∀ ds : List PyData, wfs ds → okAll ds = true
  | [], _ => rfl
  | d :: ds, h => by
    simp only [wfs] at h
    simp only [okAll, Bool.and_eq_true]
    exact ⟨wf_ok d h.1, wfs_ok ds h.2⟩
theorem wfK_ok : ∀ (D : List (PyData × PyData)) (seen : List (List Nat)), wfK seen D → okKv D = true
  | [], _, _ => rfl
  | (k, d) :: r, seen, h => by
    simp only [wfK] at h
    obtain ⟨⟨x, rfl, l, _, hr⟩, hd⟩ := h
    simp only [okKv, okB, Bool.and_eq_true, decide_eq_true_eq]
    exact ⟨⟨l, wf_ok d hd⟩, wfK_ok r _ hr⟩
end
/-- a deed whose text can be told -/
structure DOk2 (p : Deed) : Prop where
  key : keyOk p.1 = true
  ok : ∀ d, p.2 = some d → okB d = true ∧ d.depth < 21
theorem btx_take {ps : List Deed} : ∀ i, (btx (ps.take i)).length ≤ (btx ps).length := by
  induction ps with
  | nil => intro i; simp
  | cons p r ih =>
    intro i
    cases i with
    | zero => simp only [List.take_zero, btx]; show Str.empty.length ≤ _; rw [show Str.empty.length = 0 from rfl]; omega
    | succ i =>
      have := ih i
      obtain ⟨k, o⟩ := p
      cases o with
      | none => simp only [List.take_succ_cons, btx, Str.length_append]; omega
      | some d => simp only [List.take_succ_cons, btx, Str.length_append]; omega
section
variable {g : Wd} {f : Addr} {fd : FuncData}
theorem sc_l_pages : FnScope ["_law_row"] ["_law_row"] (defScope s_l_pages) := ⟨rfl, rfl, rfl, by decide +kernel, rfl, by decide +kernel, by decide +kernel⟩
def sp_lpages : Sp := S1 fun z H Q _ => ∃ x, z = .str x ∧ x.length ≤ 1000000 ∧ Q (.int (((x.length + 45) / 46 : Nat) : Int)) H
theorem ok_lpages (F : Df g.K "_law_pages" "_law_pages" s_l_pages f fd .none) (T : Txt2 g) : FnG g 1 f fd ["_law_row"] sp_lpages := by
  refine F.ok sc_l_pages (fun vs H Q E h => S1.len h) (fun cdv A outer s H vs Q E hr h => ?_)
  obtain ⟨_, rfl, x, rfl, hl, q⟩ := h
  refine ⟨_, (pss_one (ps_ret (pe_op op_fdiv (pe_op (o_add (K := g.K)) (pe_callB (c_len (K := g.K)) (by rfl) T.b_len bb_len (pa_cons (pv 0) pa_nil)) pe_int) pe_int))), ?_⟩
  walk_at "sx"
  refine ⟨by omega, ⟨by decide, by decide⟩, ?_⟩
  rw [show ((x.length : Int) + 45) / 46 = (((x.length + 45) / 46 : Nat) : Int) from by omega]
  exact q
theorem sc_l_batch : FnScope ["_law_deeds_so", "_law_found", "_law_deed"] ["_law_deeds_so"] (defScope s_l_batch) := ⟨rfl, rfl, rfl, by decide +kernel, rfl, by decide +kernel, by decide +kernel⟩
def sp_lbatch : Sp := S1 fun v H Q _ => ∃ a xs ps, v = .ref a ∧ (H a = some (.lst xs) ∨ H a = some (.tup xs)) ∧ Paired (DdAt [] H) xs ps ∧ (∀ p ∈ ps, DOk2 p) ∧ ps.length ≤ 1000000 ∧ (("b" : Str) ++ btx ps).length ≤ 1000000 ∧ ∀ H', Same H H' → Q (.str (("b" : Str) ++ btx ps)) H'
theorem ok_lbatch (F : Df g.K "_law_batch" "_law_batch" s_l_batch f fd .none) (T : Txt2 g) (F_l_spelled : Kn g "_law_spelled" 22 ["_law_thing_here"] [] (sp_spell 21)) : FnG g 24 f fd ["_law_deeds_so"] sp_lbatch := by
  refine F.ok sc_l_batch (fun vs H Q E h => S1.len h) (fun cdv A outer s H vs Q E hr h => ?_)
  obtain ⟨_, rfl, a, xs, ps, rfl, ha, hp, hv, pl, hl, q⟩ := h
  refine ⟨_, (pss_mid (ps_set (i := 1) sc_l_batch.nd rfl (Or.inl rfl) pe_str)
      (pss_mid (ps_for psD rfl (pi_or (i_list (K := g.K) (pv 0)) (i_tup (K := g.K) (pv 0))) (pg_name (i := 2) sc_l_batch.nd rfl (.inl rfl)) (pss_mid (ps_set (i := 1) sc_l_batch.nd rfl (Or.inl rfl) (pe_op (o_add (K := g.K)) (pe_op (o_add (K := g.K)) (pv 1) (pe_ifExp (pt_cmpR (o_eq (K := g.K) hr) (pe_callB (c_len (K := g.K)) (by rfl) T.b_len bb_len (pa_cons (pv 2) pa_nil)) pe_int (nomark _)) pe_str pe_str)) (pe_callG F_l_spelled (hr.mono (by first | decide | omega)) tkD (pa_cons (pe_ix (o_ix (K := g.K)) (pv 2) pe_int (fun _ _ => rfl)) pa_nil))))
      (pss_one (ps_set (i := 1) sc_l_batch.nd rfl (Or.inl rfl) (pe_op (o_add (K := g.K)) (pv 1) (pe_ifExp (pt_cmpR (o_eq (K := g.K) hr) (pe_callB (c_len (K := g.K)) (by rfl) T.b_len bb_len (pa_cons (pv 2) pa_nil)) pe_int (nomark _)) (pe_callG F_l_spelled (hr.mono (by first | decide | omega)) tkD (pa_cons (pe_ix (o_ix (K := g.K)) (pv 2) pe_int (fun _ _ => rfl)) pa_nil)) pe_str))))))
      (pss_one (ps_ret (pv 1))))), ?_⟩
  refine mid_at (fun σ G => σ = [some (.ref a), some (.str "b"), none] ∧ G = H) ?_ ?_
  · walk_at "sx"
  rintro _ G ⟨rfl, eG⟩
  rw [eG]; clear eG G
  have pl2 := paired_len hp
  refine mid_at (fun σ G => ∃ v2, σ = [some (.ref a), some (.str (("b" : Str) ++ btx ps)), v2] ∧ Same H G) ?_ ?_
  · walk_at "sx"
    rcases ha with ha | ha
    · refine .inl ⟨⟨xs, SqL.of ha⟩, ?_⟩
      refine for_by xs.length (fun i σ X => ∃ v2, σ = [some (.ref a), some (.str (("b" : Str) ++ btx (ps.take i))), v2] ∧ Same H X) ⟨none, by rw [List.take_zero, show btx [] = Str.empty from rfl, Str.append_empty], Same.refl _⟩ (fun i σ X lt P => ?_) (fun σ X P => ?_) (fun i σ X z X' lt P yl => ?_) (fun σ X P => ?_)
      · obtain ⟨_, _, sX⟩ := P
        exact ⟨_, xs[i], SqL.of (sX _ _ ha), List.getElem?_eq_getElem lt⟩
      · obtain ⟨_, _, sX⟩ := P
        exact ⟨_, SqL.of (sX _ _ ha), Nat.le_refl _⟩
      · obtain ⟨v2, rfl, sX⟩ := P
        obtain ⟨rfl, hx⟩ := yl
        have hx := hx _ (SqL.of (sX _ _ ha))
        obtain ⟨p0, hp0⟩ : ∃ p0, ps[i]? = some p0 := ⟨ps[i], List.getElem?_eq_getElem (by omega)⟩
        obtain ⟨x1, ex1, T0, rfl, -, h2⟩ := paired_atY hp hp0
        rw [ex1] at hx
        cases hx
        have vp := hv p0 (List.mem_of_getElem? hp0)
        have tk : ps.take (i + 1) = ps.take i ++ [p0] := take_at' hp0
        have k1 : (spell (.str p0.1)).length ≤ 300 := key_sl vp.key
        have ok1 : okB (.str p0.1) = true := by
          have := vp.key
          simp only [keyOk, Bool.and_eq_true, decide_eq_true_eq] at this
          simp only [okB, decide_eq_true_eq]; omega
        have bt := btx_take (ps := ps) (i + 1)
        have bl : (Str.ofString "b").length = 1 := by decide +kernel
        have szl := sizeLine_eq
        have tl_ : (Str.ofString "t").length = 1 := by decide +kernel
        have fl : (Str.ofString "f").length = 1 := by decide +kernel
        rw [tk, btx_app] at bt
        rw [Str.length_append] at hl
        cases e2 : p0.2 with
        | none =>
          rw [e2] at h2
          have h3 := sX _ _ h2
          have es : btx (ps.take i ++ [p0]) = btx (ps.take i) ++ (("f" : Str) ++ spell (.str p0.1)) := by
            rw [btx_app, isPut, dts, e2]; simp [cat, Str.append_empty, spell]
          rw [← btx_app, es] at bt
          simp only [Str.length_append, fl] at bt
          refine mid_at (fun σ G => σ = [some (.ref a), some (.str (("b" : Str) ++ btx (ps.take i) ++ ("f" : Str) ++ spell (.str p0.1))), some (.ref T0)] ∧ Same X' G) ?_ ?_
          · walk_at "sx"
            refine .inl ⟨_, .inr (SqT.of h3), ?_⟩
            rw [if_neg (by simp)]
            refine ⟨by simp only [Str.length_append, bl, fl]; omega, _, .inr (SqT.of h3), .str p0.1, rfl, ?_⟩
            refine ⟨_, rfl, .str p0.1, [], .str _, ok1, by simp [PyData.depth], by omega, fun H' s' => ⟨by simp only [Str.length_append, bl, fl, tl_]; omega, rfl, s'⟩⟩
          rintro _ G ⟨rfl, s4⟩
          have h4 := s4 _ _ h3
          walk_at "sx"
          refine .inl ⟨_, .inr (SqT.of h4), ?_⟩
          rw [if_neg (by simp)]
          have e0 : (Str.ofString "") = Str.empty := by decide +kernel
          rw [e0, Str.append_empty, tk, es]
          exact ⟨by simp only [Str.length_append, bl, fl, show Str.empty.length = 0 from rfl]; omega, by simp only [Str.append_assoc], sX.trans s4⟩
        | some d =>
          rw [e2] at h2
          obtain ⟨w, fp, h2, tv, -⟩ := h2
          have h3 := sX _ _ h2
          obtain ⟨od, dd⟩ := vp.ok d e2
          have es : btx (ps.take i ++ [p0]) = btx (ps.take i) ++ (("t" : Str) ++ (spell (.str p0.1) ++ spell d)) := by
            rw [btx_app, isPut, dts, e2]; simp [cat, Str.append_empty, spell]
          rw [← btx_app, es] at bt
          simp only [Str.length_append, tl_] at bt
          refine mid_at (fun σ G => σ = [some (.ref a), some (.str (("b" : Str) ++ btx (ps.take i) ++ ("t" : Str) ++ spell (.str p0.1))), some (.ref T0)] ∧ Same X' G) ?_ ?_
          · walk_at "sx"
            refine .inl ⟨_, .inr (SqT.of h3), ?_⟩
            rw [if_pos (by simp)]
            refine ⟨by simp only [Str.length_append, bl, tl_]; omega, _, .inr (SqT.of h3), .str p0.1, rfl, ?_⟩
            refine ⟨_, rfl, .str p0.1, [], .str _, ok1, by simp [PyData.depth], by omega, fun H' s' => ⟨by simp only [Str.length_append, bl, fl, tl_]; omega, rfl, s'⟩⟩
          rintro _ G ⟨rfl, s4⟩
          have h4 := s4 _ _ h3
          walk_at "sx"
          refine .inl ⟨_, .inr (SqT.of h4), ?_⟩
          rw [if_pos (by simp)]
          refine ⟨_, .inr (SqT.of h4), w, rfl, _, rfl, d, fp, (tv.same sX).same s4, od, dd, by omega, fun H' s' => ?_⟩
          rw [tk, es]
          exact ⟨by simp only [Str.length_append, bl, tl_]; omega, by simp only [Str.append_assoc], (sX.trans s4).trans s'⟩
      · obtain ⟨v2, rfl, sX⟩ := P
        rw [List.take_of_length_le (by omega)]
        exact ⟨_, rfl, sX⟩
    · refine .inr ⟨⟨xs, SqT.of ha⟩, ?_⟩
      refine for_by xs.length (fun i σ X => ∃ v2, σ = [some (.ref a), some (.str (("b" : Str) ++ btx (ps.take i))), v2] ∧ Same H X) ⟨none, by rw [List.take_zero, show btx [] = Str.empty from rfl, Str.append_empty], Same.refl _⟩ (fun i σ X lt P => ?_) (fun σ X P => ?_) (fun i σ X z X' lt P yl => ?_) (fun σ X P => ?_)
      · obtain ⟨_, _, sX⟩ := P
        exact ⟨_, xs[i], SqT.of (sX _ _ ha), List.getElem?_eq_getElem lt⟩
      · obtain ⟨_, _, sX⟩ := P
        exact ⟨_, SqT.of (sX _ _ ha), Nat.le_refl _⟩
      · obtain ⟨v2, rfl, sX⟩ := P
        obtain ⟨rfl, hx⟩ := yl
        have hx := hx _ (SqT.of (sX _ _ ha))
        obtain ⟨p0, hp0⟩ : ∃ p0, ps[i]? = some p0 := ⟨ps[i], List.getElem?_eq_getElem (by omega)⟩
        obtain ⟨x1, ex1, T0, rfl, -, h2⟩ := paired_atY hp hp0
        rw [ex1] at hx
        cases hx
        have vp := hv p0 (List.mem_of_getElem? hp0)
        have tk : ps.take (i + 1) = ps.take i ++ [p0] := take_at' hp0
        have k1 : (spell (.str p0.1)).length ≤ 300 := key_sl vp.key
        have ok1 : okB (.str p0.1) = true := by
          have := vp.key
          simp only [keyOk, Bool.and_eq_true, decide_eq_true_eq] at this
          simp only [okB, decide_eq_true_eq]; omega
        have bt := btx_take (ps := ps) (i + 1)
        have bl : (Str.ofString "b").length = 1 := by decide +kernel
        have szl := sizeLine_eq
        have tl_ : (Str.ofString "t").length = 1 := by decide +kernel
        have fl : (Str.ofString "f").length = 1 := by decide +kernel
        rw [tk, btx_app] at bt
        rw [Str.length_append] at hl
        cases e2 : p0.2 with
        | none =>
          rw [e2] at h2
          have h3 := sX _ _ h2
          have es : btx (ps.take i ++ [p0]) = btx (ps.take i) ++ (("f" : Str) ++ spell (.str p0.1)) := by
            rw [btx_app, isPut, dts, e2]; simp [cat, Str.append_empty, spell]
          rw [← btx_app, es] at bt
          simp only [Str.length_append, fl] at bt
          refine mid_at (fun σ G => σ = [some (.ref a), some (.str (("b" : Str) ++ btx (ps.take i) ++ ("f" : Str) ++ spell (.str p0.1))), some (.ref T0)] ∧ Same X' G) ?_ ?_
          · walk_at "sx"
            refine .inl ⟨_, .inr (SqT.of h3), ?_⟩
            rw [if_neg (by simp)]
            refine ⟨by simp only [Str.length_append, bl, fl]; omega, _, .inr (SqT.of h3), .str p0.1, rfl, ?_⟩
            refine ⟨_, rfl, .str p0.1, [], .str _, ok1, by simp [PyData.depth], by omega, fun H' s' => ⟨by simp only [Str.length_append, bl, fl, tl_]; omega, rfl, s'⟩⟩
          rintro _ G ⟨rfl, s4⟩
          have h4 := s4 _ _ h3
          walk_at "sx"
          refine .inl ⟨_, .inr (SqT.of h4), ?_⟩
          rw [if_neg (by simp)]
          have e0 : (Str.ofString "") = Str.empty := by decide +kernel
          rw [e0, Str.append_empty, tk, es]
          exact ⟨by simp only [Str.length_append, bl, fl, show Str.empty.length = 0 from rfl]; omega, by simp only [Str.append_assoc], sX.trans s4⟩
        | some d =>
          rw [e2] at h2
          obtain ⟨w, fp, h2, tv, -⟩ := h2
          have h3 := sX _ _ h2
          obtain ⟨od, dd⟩ := vp.ok d e2
          have es : btx (ps.take i ++ [p0]) = btx (ps.take i) ++ (("t" : Str) ++ (spell (.str p0.1) ++ spell d)) := by
            rw [btx_app, isPut, dts, e2]; simp [cat, Str.append_empty, spell]
          rw [← btx_app, es] at bt
          simp only [Str.length_append, tl_] at bt
          refine mid_at (fun σ G => σ = [some (.ref a), some (.str (("b" : Str) ++ btx (ps.take i) ++ ("t" : Str) ++ spell (.str p0.1))), some (.ref T0)] ∧ Same X' G) ?_ ?_
          · walk_at "sx"
            refine .inl ⟨_, .inr (SqT.of h3), ?_⟩
            rw [if_pos (by simp)]
            refine ⟨by simp only [Str.length_append, bl, tl_]; omega, _, .inr (SqT.of h3), .str p0.1, rfl, ?_⟩
            refine ⟨_, rfl, .str p0.1, [], .str _, ok1, by simp [PyData.depth], by omega, fun H' s' => ⟨by simp only [Str.length_append, bl, fl, tl_]; omega, rfl, s'⟩⟩
          rintro _ G ⟨rfl, s4⟩
          have h4 := s4 _ _ h3
          walk_at "sx"
          refine .inl ⟨_, .inr (SqT.of h4), ?_⟩
          rw [if_pos (by simp)]
          refine ⟨_, .inr (SqT.of h4), w, rfl, _, rfl, d, fp, (tv.same sX).same s4, od, dd, by omega, fun H' s' => ?_⟩
          rw [tk, es]
          exact ⟨by simp only [Str.length_append, bl, tl_]; omega, by simp only [Str.append_assoc], (sX.trans s4).trans s'⟩
      · obtain ⟨v2, rfl, sX⟩ := P
        rw [List.take_of_length_le (by omega)]
        exact ⟨_, rfl, sX⟩
  rintro _ G ⟨v2, rfl, sG⟩
  walk_at "sx"
  exact q _ sG
end
/-- a pair with a drawn key -/
def KyAt (H : Hp) (y : V) : Prop := ∃ (t : Addr) (k : Str) (w : V), y = .ref t ∧ H t = some (.tup [.str k, w]) ∧ KW k
theorem KyAt.same {H H' : Hp} {y : V} (h : KyAt H y) (s : Same H H') : KyAt H' y := by
  obtain ⟨t, k, w, rfl, e, kw⟩ := h
  exact ⟨t, k, w, rfl, s _ _ e, kw⟩
theorem KyAt.but {H H' : Hp} {y : V} {L : Addr} {xs : List V} (h : KyAt H y) (e : H L = some (.lst xs)) (s : But L H H') : KyAt H' y := by
  obtain ⟨t, k, w, rfl, e1, kw⟩ := h
  exact ⟨t, k, w, rfl, s _ _ (fun z => by rw [z, e] at e1; cases e1) e1, kw⟩
theorem RSList_ne {K : PySem.W.Frag} {H : Hp} {Q : VK} {a p : Addr} {ns : List Int} (h : H a = some (.lst (ns.map V.int))) (hp : H p = some (.lst [])) (q : Q (.bl (!ns.isEmpty)) H) : rNeD K (.ref a) (.ref p) H Q := RS.ne_empty (SqL.of h) hp q
theorem ixN_nat {n j : Nat} (h : j < n) : ixN n (j : Int) = some j := by
  unfold ixN
  simp [h]
section
variable {g : Wd} {f : Addr} {fd : FuncData}
theorem sc_l_after : FnScope ["_law_model", "_law_deeds_so", "_law_found", "_law_deed", "_law_places", "_law_spot", "_law_pair"] ["_law_model", "_law_deeds_so"] (defScope s_l_after) := ⟨rfl, rfl, rfl, by decide +kernel, rfl, by decide +kernel, by decide +kernel⟩
def sp_after : Sp := S2 fun u v H Q _ => ∃ a b xs ps, u = .ref a ∧ H a = some (.lst []) ∧ v = .ref b ∧ H b = some (.lst xs) ∧ Paired (DdAt [] H) xs ps ∧ (∀ p ∈ ps, KW p.1) ∧ ps.length ≤ 3 ∧ ∀ L ys H', Same H H' → H' L = some (.lst ys) → (∀ y ∈ ys, KyAt H' y) → ys.length ≤ 3 → Q (.ref L) H'
theorem ok_after (F : Df g.K "_law_after" "_law_after" s_l_after f fd .none) (T : Txt2 g) : FnG g 1 f fd ["_law_model", "_law_deeds_so"] sp_after := by
  refine F.ok sc_l_after (fun vs H Q E h => S2.len h) (fun cdv A outer s H vs Q E hr h => ?_)
  obtain ⟨_, _, rfl, a, b, xs, ps, rfl, ha, rfl, hb, hp, hv, pl, q⟩ := h
  refine ⟨_, (pss_mid (ps_set (i := 2) sc_l_after.nd rfl (Or.inl rfl) (pe_callTy call_list_of (by rfl) T.b_list bb_list (pa_cons (pv 0) pa_nil)))
      (pss_mid (ps_for psD rfl (i_list (K := g.K) (pv 1)) (pg_name (i := 3) sc_l_after.nd rfl (.inr rfl)) (pss_mid (ps_setLc (i := 4) (own := [("_law_spot", 5), ("_law_pair", 6)]) rfl sc_l_after.nd rfl rfl (sw_true rfl rfl rfl (by decide +kernel)) (i_enum (K := g.K) T.b_enumerate (pa_cons (pv 2) pa_nil)) (blkOk_by (own := [("_law_spot", 5), ("_law_pair", 6)]) (N := ["_law_model", "_law_deeds_so", "_law_found", "_law_deed", "_law_places", "_law_spot", "_law_pair"]) (sc := defScope s_l_after) (by decide +kernel)) (fun _ _ _ _ _ => (g_tup (K := g.K) (n := 2) (pgs_cons (pg_name (i := 5) sc_l_after.nd rfl (.inl rfl)) (pgs_cons (pg_name (i := 6) sc_l_after.nd rfl (.inl rfl)) pgs_nil)))) (fun _ _ _ _ _ => (pts_one (pt_cmpR (o_eq (K := g.K) (Rm.mk hr.room hr.gd)) (pe_ix (o_ix (K := g.K)) (pv 6) pe_int (fun _ _ => rfl)) (pe_ix (o_ix (K := g.K)) (pv 3) pe_int (fun _ _ => rfl)) (nomark _)))) (fun _ _ _ _ _ => (pv 5)))
      (pss_one (ps_if (pt_cmpR (o_eq (K := g.K) hr) (pe_callB (c_len (K := g.K)) (by rfl) T.b_len bb_len (pa_cons (pv 3) pa_nil)) pe_int (nomark _)) (pss_one (ps_setLc (i := 2) (own := [("_law_pair", 6)]) rfl sc_l_after.nd rfl rfl (sw_true rfl rfl rfl (by decide +kernel)) (i_list (K := g.K) (pv 2)) (blkOk_by (own := [("_law_pair", 6)]) (N := ["_law_model", "_law_deeds_so", "_law_found", "_law_deed", "_law_places", "_law_spot", "_law_pair"]) (sc := defScope s_l_after) (by decide +kernel)) (fun _ _ _ _ _ => (pg_name (i := 6) sc_l_after.nd rfl (.inl rfl))) (fun _ _ _ _ _ => (pts_one (pt_cmpR (o_ne (K := g.K) (Rm.mk hr.room hr.gd)) (pe_ix (o_ix (K := g.K)) (pv 6) pe_int (fun _ _ => rfl)) (pe_ix (o_ix (K := g.K)) (pv 3) pe_int (fun _ _ => rfl)) (nomark _)))) (fun _ _ _ _ _ => (pv 6)))) (pss_one (ps_if (pt_cmpR (o_ne (K := g.K) hr) (pv 4) (pe_lst pa_nil) (nomark _)) (pss_one (ps_asg (pe_tup (pa_cons (pe_ix (o_ix (K := g.K)) (pv 3) pe_int (fun _ _ => rfl)) (pa_cons (pe_ix (o_ix (K := g.K)) (pv 3) pe_int (fun _ _ => rfl)) pa_nil))) (pg_sub (pv 2) (pe_ix (o_ix (K := g.K)) (pv 4) pe_int (fun _ _ => rfl)) set_list))) (pss_one (ps_expr (e_bm (K := g.K) PySem.F.plainAttrs_list PySem.F.slot_list_append PySem.F.type_list_append mt_append (pv 2) (pa_cons (pe_tup (pa_cons (pe_ix (o_ix (K := g.K)) (pv 3) pe_int (fun _ _ => rfl)) (pa_cons (pe_ix (o_ix (K := g.K)) (pv 3) pe_int (fun _ _ => rfl)) pa_nil))) pa_nil))))))))))
      (pss_one (ps_ret (pv 2))))), ?_⟩
  have pl2 := paired_len hp
  refine mid_at (fun σ G => ∃ L, σ = [some (.ref a), some (.ref b), some (.ref L), none, none, none, none] ∧ Same H G ∧ H L = none ∧ G L = some (.lst [])) ?_ ?_
  · walk_at "sx"
    refine ⟨[], .inl (SqL.of ha), fun l hl => ⟨same_upd hl, hl, rfl⟩⟩
  rintro _ G ⟨L, rfl, sG, nL, eL⟩
  refine mid_at (fun σ G => ∃ L v3 v4 v5 v6 ys, σ = [some (.ref a), some (.ref b), some (.ref L), v3, v4, v5, v6] ∧ Same H G ∧ G L = some (.lst ys) ∧ (∀ y ∈ ys, KyAt G y) ∧ ys.length ≤ 3) ?_ ?_
  · walk_at "sx"
    refine ⟨⟨_, SqL.of (sG _ _ hb)⟩, ?_⟩
    refine for_by xs.length (fun i σ X => ∃ L v3 v4 v5 v6 ys, σ = [some (.ref a), some (.ref b), some (.ref L), v3, v4, v5, v6] ∧ Same H X ∧ H L = none ∧ X L = some (.lst ys) ∧ (∀ y ∈ ys, KyAt X y) ∧ ys.length ≤ i) ⟨L, _, _, _, _, [], rfl, sG, nL, eL, by simp, Nat.le_refl _⟩ (fun i σ X lt P => ?_) (fun σ X P => ?_) (fun i σ X z X' lt P yl => ?_) (fun σ X P => ?_)
    · obtain ⟨_, _, _, _, _, _, _, sX, _⟩ := P
      exact ⟨_, xs[i], SqL.of (sX _ _ hb), List.getElem?_eq_getElem lt⟩
    · obtain ⟨_, _, _, _, _, _, _, sX, _⟩ := P
      exact ⟨_, SqL.of (sX _ _ hb), Nat.le_refl _⟩
    · obtain ⟨L, v3, v4, v5, v6, ys, rfl, sX, nL, eL, ky, yl3⟩ := P
      obtain ⟨rfl, hx⟩ := yl
      have hx := hx _ (SqL.of (sX _ _ hb))
      obtain ⟨p0, hp0⟩ : ∃ p0, ps[i]? = some p0 := ⟨ps[i], List.getElem?_eq_getElem (by omega)⟩
      obtain ⟨x1, ex1, T0, rfl, -, h2⟩ := paired_atY hp hp0
      rw [ex1] at hx
      cases hx
      have kw := hv p0 (List.mem_of_getElem? hp0)
      obtain ⟨w0, rest, hT, r0, r1⟩ : ∃ (w0 : V) (rest : List V), H T0 = some (.tup (w0 :: .str p0.1 :: rest)) ∧ (rest.length = 0 ∨ ∃ w, rest = [w]) ∧ True := by
        cases e : p0.2 with
        | none => rw [e] at h2; exact ⟨_, [], h2, .inl rfl, trivial⟩
        | some d => rw [e] at h2; obtain ⟨w, fp, h2, _⟩ := h2; exact ⟨_, [w], h2, .inr ⟨w, rfl⟩, trivial⟩
      have hTX := sX _ _ hT
      refine mid_at (fun σ G => ∃ (P : Addr) (ns : List Int) (v5 v6 : Option V), σ = [some (.ref a), some (.ref b), some (.ref L), some (.ref T0), some (.ref P), v5, v6] ∧ Same X' G ∧ G P = some (.lst (ns.map V.int)) ∧ (∀ n ∈ ns, 0 ≤ n ∧ n < (ys.length : Int))) ?_ ?_
      · walk_at "sx"
        refine ⟨ys, SqL.of eL, ?_⟩
        refine lc_inv ys.length (fun D j acc G => Same X' G ∧ ∃ ns : List Int, acc = ns.map V.int ∧ ∀ n ∈ ns, 0 ≤ n ∧ n < (ys.length : Int)) (by rw [sizeLine_eq]; omega) (fun D hD => ⟨same_upd hD, [], rfl, by simp⟩) (fun D j acc G hD lt P => ⟨_, ys[j], SqL.of (P.1 _ _ eL), List.getElem?_eq_getElem lt⟩) (fun D acc G hD P => ⟨_, SqL.of (P.1 _ _ eL), Nat.le_refl _⟩) (fun D j acc G x G1 K K0 hD lt la P eD y k k0 => ?_) (fun D acc G hD P eD => ?_)
        · obtain ⟨sG, ns, rfl, hn⟩ := P
          obtain ⟨T1, z, rfl, nT, rfl, hz⟩ := y
          have hz := hz _ (SqL.of (sG _ _ eL))
          have s1 := same_upd (o := HO.tup [V.int (j : Nat), z]) nT
          obtain ⟨t, kk, w, rfl, et, _⟩ := ky z (List.mem_of_getElem? hz)
          have et1 := s1 _ _ (sG _ _ et)
          have hT1 := s1 _ _ (sG _ _ hTX)
          have eD1 := s1 _ _ eD
          refine ⟨_, _, rfl, SqT.of upd_same, rfl, _, _, rfl, _, _, rfl, rfl, ?_⟩
          refine ⟨rfl, ?_⟩
          walk_at "sx"
          refine ⟨_, .inr (SqT.of et1), .str kk, rfl, _, .inr (SqT.of hT1), .str p0.1, atI_nat (j := 1) rfl, ?_⟩
          rw [RS.eq_ss]
          refine ⟨_, rfl, ?_⟩
          by_cases ek : kk = p0.1
          · rw [if_pos (by simpa using ek)]
            refine k _ _ eD1 ⟨fun c o z => ?_, ns ++ [(j : Int)], by simp, ?_⟩
            · have cD : c ≠ D := fun e => by rw [e, hD] at z; cases z
              rw [upd_ne cD]; exact s1 _ _ (sG _ _ z)
            · intro n hn'
              rcases List.mem_append.mp hn' with h | h
              · exact hn n h
              · rw [List.mem_singleton.mp h]; omega
          · rw [if_neg (by simpa using ek)]
            exact k0 _ eD1 ⟨sG.trans s1, ns, rfl, hn⟩
        · obtain ⟨sG, ns, rfl, hn⟩ := P
          exact ⟨D, rfl, sG, ns, eD, hn⟩
      rintro _ G2 ⟨P, ns, v5, v6, rfl, s2, eP, hw⟩
      walk_at "sx"
      have sH2 : Same H G2 := sX.trans s2
      have hT2 := s2 _ _ hTX
      have eL2 := s2 _ _ eL
      have ky2 : ∀ y ∈ ys, KyAt G2 y := fun y hy => (ky y hy).same s2
      have free : ∀ c, G2 c = none → H c = none := fun c z => by
        cases e : H c with
        | none => rfl
        | some o => rw [sH2 _ _ e] at z; cases z
      refine .inl ⟨_, .inr (SqT.of hT2), ?_⟩
      by_cases lr : rest.length = 0
      · rw [if_pos (by simp [lr])]
        refine ⟨⟨ys, SqL.of eL2⟩, ?_⟩
        refine lc_inv ys.length (fun D j acc G => Same G2 G ∧ (∀ y ∈ acc, KyAt G2 y) ∧ acc.length ≤ j) (by rw [sizeLine_eq]; omega) (fun D hD => ⟨same_upd hD, by simp, Nat.le_refl _⟩) (fun D j acc G hD lt P => ⟨_, ys[j], SqL.of (P.1 _ _ eL2), List.getElem?_eq_getElem lt⟩) (fun D acc G hD P => ⟨_, SqL.of (P.1 _ _ eL2), Nat.le_refl _⟩) (fun D j acc G x G1 K K0 hD lt la P eD y k k0 => ?_) (fun D acc G hD P eD => ?_)
        · obtain ⟨sG, hacc, al⟩ := P
          obtain ⟨rfl, hz⟩ := y
          have hz := hz _ (SqL.of (sG _ _ eL2))
          have kx := ky2 x (List.mem_of_getElem? hz)
          obtain ⟨t, kk, w, rfl, et, kwk⟩ := kx
          have et1 := sG _ _ et
          have hT1 := sG _ _ hT2
          refine ⟨rfl, ?_⟩
          walk_at "sx"
          refine ⟨_, .inr (SqT.of et1), .str kk, rfl, _, .inr (SqT.of hT1), .str p0.1, atI_nat (j := 1) rfl, ?_⟩
          rw [RS.ne_ss]
          refine ⟨_, rfl, ?_⟩
          by_cases ek : kk = p0.1
          · rw [if_neg (by simpa using ek)]
            exact k0 _ eD ⟨sG, hacc, by omega⟩
          · rw [if_pos (by simpa using ek)]
            refine k _ _ eD ⟨fun c o z => ?_, ?_, by simp; omega⟩
            · have cD : c ≠ D := fun e => by rw [e, hD] at z; cases z
              rw [upd_ne cD]; exact sG _ _ z
            · intro y hy
              rcases List.mem_append.mp hy with h | h
              · exact hacc y h
              · rw [List.mem_singleton.mp h]; exact ⟨t, kk, w, rfl, et, kwk⟩
        · obtain ⟨sG, hacc, al⟩ := P
          exact ⟨D, rfl, sH2.trans sG, free _ hD, acc, eD, fun y hy => (hacc y hy).same sG, by omega⟩
      · obtain ⟨w, rfl⟩ : ∃ w, rest = [w] := r0.resolve_left lr
        rw [if_neg (by simp)]
        intro p np
        have sp := same_upd (o := HO.lst []) np
        have eP1 := sp _ _ eP
        refine RSList_ne eP1 upd_same ?_
        have hT3 := sp _ _ hT2
        have eL3 := sp _ _ eL2
        have ky3 : ∀ y ∈ ys, KyAt (upd G2 p (.lst [])) y := fun y hy => (ky2 y hy).same sp
        have sH3 := sH2.trans sp
        generalize upd G2 p (.lst []) = G3 at eP1 hT3 eL3 ky3 sH3 ⊢
        refine ⟨_, rfl, ?_⟩
        cases ns with
        | nil =>
          rw [if_neg (by simp)]
          refine ⟨⟨_, SqL.of eL3⟩, _, .inr (SqT.of hT3), .str p0.1, rfl, _, .inr (SqT.of hT3), w, rfl, fun p2 np2 => ?_⟩
          have s4 := same_upd (o := HO.tup [V.str p0.1, w]) np2
          have e4 := s4 _ _ eL3
          refine ⟨ys, e4, by omega, ?_⟩
          have ep4 : upd G3 p2 (.tup [V.str p0.1, w]) p2 = some (.tup [V.str p0.1, w]) := upd_same
          have ky4 : ∀ y ∈ ys, KyAt (upd G3 p2 (.tup [V.str p0.1, w])) y := fun y hy => (ky3 y hy).same s4
          have sH4 := sH3.trans s4
          generalize upd G3 p2 (.tup [V.str p0.1, w]) = G4 at e4 ep4 ky4 sH4 ⊢
          have bL : But L G4 (upd G4 L (.lst (ys ++ [.ref p2]))) := fun c o n z => by rw [upd_ne n]; exact z
          refine ⟨fun c o z => ?_, nL, fun y hy => ?_, by simp; omega⟩
          · exact bL _ _ (ne_of_none z nL) (sH4 _ _ z)
          · rcases List.mem_append.mp hy with h | h
            · exact (ky4 y h).but e4 bL
            · rw [List.mem_singleton.mp h]
              exact ⟨p2, p0.1, w, rfl, bL _ _ (fun z => by rw [z, e4] at ep4; cases ep4) ep4, kw⟩
        | cons n ms =>
          rw [if_pos (by simp)]
          refine ⟨_, .inr (SqT.of hT3), .str p0.1, rfl, _, .inr (SqT.of hT3), w, rfl, fun p2 np2 => ?_⟩
          have s4 := same_upd (o := HO.tup [V.str p0.1, w]) np2
          have e4 := s4 _ _ eL3
          have eP4 := s4 _ _ eP1
          have hn := hw n (by simp)
          obtain ⟨j, rfl⟩ := Int.eq_ofNat_of_zero_le hn.1
          have jl : j < ys.length := by omega
          have ep4 : upd G3 p2 (.tup [V.str p0.1, w]) p2 = some (.tup [V.str p0.1, w]) := upd_same
          have ky4 : ∀ y ∈ ys, KyAt (upd G3 p2 (.tup [V.str p0.1, w])) y := fun y hy => (ky3 y hy).same s4
          have sH4 := sH3.trans s4
          generalize upd G3 p2 (.tup [V.str p0.1, w]) = G4 at e4 eP4 ep4 ky4 sH4 ⊢
          have bL : But L G4 (upd G4 L (.lst (ys.set j (.ref p2)))) := fun c o n z => by rw [upd_ne n]; exact z
          refine ⟨_, .inl (SqL.of eP4), .int (j : Nat), atI_nat (j := 0) rfl, ys, (j : Nat), rfl, e4, j, ixN_nat jl, ?_⟩
          refine ⟨fun c o z => ?_, nL, fun y hy => ?_, by simp; omega⟩
          · exact bL _ _ (ne_of_none z nL) (sH4 _ _ z)
          · rcases List.mem_or_eq_of_mem_set hy with h | h
            · exact (ky4 y h).but e4 bL
            · rw [h]
              exact ⟨p2, p0.1, w, rfl, bL _ _ (fun z => by rw [z, e4] at ep4; cases ep4) ep4, kw⟩
    · obtain ⟨L, v3, v4, v5, v6, ys, rfl, sX, nL, eL, ky, yl3⟩ := P
      exact ⟨L, _, _, _, _, rfl, sX, ys, eL, ky, by omega⟩
  rintro _ G ⟨L, v3, v4, v5, v6, ys, rfl, sX, eL, ky, yl3⟩
  walk_at "sx"
  exact q L ys _ sX eL ky yl3
end
/-- a drawn deed -/
structure DG (p : Deed) : Prop where
  key : KW p.1
  val : ∀ d, p.2 = some d → G27 d 2
theorem B27_2 : B27 2 = 1460 := rfl
theorem DG.ok {p : Deed} (h : DG p) : DOk p := ⟨h.key.ok, fun d e => ⟨(h.val d e).ok, by have := (h.val d e).dep; omega, by have := (h.val d e).len; rw [B27_2] at this; omega⟩⟩
theorem DG.ok2 {p : Deed} (h : DG p) : DOk2 p := ⟨h.key.ok, fun d e => ⟨(h.val d e).ok, by have := (h.val d e).dep; omega⟩⟩
section
variable {g : Wd} {f : Addr} {fd : FuncData}
theorem sc_l_deeds : FnScope ["_law_state", "_law_model", "_law_found", "_law_turn", "_law_words", "_law_word_here", "_law_thing_here"] ["_law_state", "_law_model"] (defScope s_l_deeds) := ⟨rfl, rfl, rfl, by decide +kernel, rfl, by decide +kernel, by decide +kernel⟩
def sp_deeds : Sp := S2 fun u v H Q _ => ∃ (p a : Addr) (N : Nat), u = .ref p ∧ v = .ref a ∧ H a = some (.lst []) ∧ a ≠ p ∧ Drw H p N ∧ N + 200 < 10 ^ 6 ∧ ∀ L xs ps H', H L = none → H' L = some (.lst xs) → Paired (DdAt [p] H') xs ps → (∀ q ∈ ps, DG q) → 1 ≤ ps.length → ps.length ≤ 3 → Drw H' p (N + 200) → But p H H' → Q (.ref L) H'
theorem ok_deeds (F : Df g.K "_law_deeds" "_law_deeds" s_l_deeds f fd .none) (T : Txt2 g) (F_l_draw : Kn g "_law_draw" 1 ["_law_state", "_law_size"] [] sp_draw) (F_l_pick : Kn g "_law_pick" 2 ["_law_state", "_law_items"] [] sp_pick) (F_l_word : Kn g "_law_word" 3 ["_law_state"] [] sp_word) (F_l_thing : Kn g "_law_thing" 7 ["_law_state", "_law_deep"] [] (sp_thing 3)) (F_l_after : Kn g "_law_after" 1 ["_law_model", "_law_deeds_so"] [] sp_after) : FnG g 8 f fd ["_law_state", "_law_model"] sp_deeds := by
  refine F.ok sc_l_deeds (fun vs H Q E h => S2.len h) (fun cdv A outer s H vs Q E hr h => ?_)
  obtain ⟨_, _, rfl, p, a, N, rfl, rfl, ha, ap, hS, hN, q⟩ := h
  refine ⟨_, (pss_mid (ps_set (i := 2) sc_l_deeds.nd rfl (Or.inl rfl) (pe_lst pa_nil))
      (pss_mid (ps_for psD rfl (pi_range1 rfl T.b_range (pa_cons (pe_op (o_add (K := g.K)) pe_int (pe_callG F_l_draw (hr.mono (by first | decide | omega)) tkD (pa_cons (pv 0) (pa_cons pe_int pa_nil)))) pa_nil)) (pg_name (i := 3) sc_l_deeds.nd rfl (.inl rfl)) (pss_mid (ps_setLc (i := 4) (own := [("_law_word_here", 5), ("_law_thing_here", 6)]) (tt := tYes) rfl sc_l_deeds.nd rfl rfl (sw_true rfl rfl rfl (by decide +kernel)) (i_list (K := g.K) (pe_callG F_l_after (hr.mono (by first | decide | omega)) tkD (pa_cons (pv 1) (pa_cons (pv 2) pa_nil)))) (blkOk_by (own := [("_law_word_here", 5), ("_law_thing_here", 6)]) (N := ["_law_state", "_law_model", "_law_found", "_law_turn", "_law_words", "_law_word_here", "_law_thing_here"]) (sc := defScope s_l_deeds) (by decide +kernel)) (fun _ _ _ _ _ => (g_tup (K := g.K) (n := 2) (pgs_cons (pg_name (i := 5) sc_l_deeds.nd rfl (.inl rfl)) (pgs_cons (pg_name (i := 6) sc_l_deeds.nd rfl (.inl rfl)) pgs_nil)))) (fun _ _ _ _ _ => pts_nil) (fun _ _ _ _ _ => (pv 5)))
      (pss_mid (ps_set (i := 5) sc_l_deeds.nd rfl (Or.inl rfl) (pe_ifExp (PW.pt (pw_and (pt_cmpR (op_neE (K := g.K) hr) (pv 4) (pe_lst pa_nil) (nomark _)) (pw_and1 (pt_cmpR (o_eq (K := g.K) hr) (pe_callG F_l_draw (hr.mono (by first | decide | omega)) tkD (pa_cons (pv 0) (pa_cons pe_int pa_nil))) pe_int (nomark _))))) (pe_callG F_l_pick (hr.mono (by first | decide | omega)) tkD (pa_cons (pv 0) (pa_cons (pv 4) pa_nil))) (pe_callG F_l_word (hr.mono (by first | decide | omega)) tkD (pa_cons (pv 0) pa_nil))))
      (pss_one (ps_if (pt_cmpR (o_eq (K := g.K) hr) (pe_callG F_l_draw (hr.mono (by first | decide | omega)) tkD (pa_cons (pv 0) (pa_cons pe_int pa_nil))) pe_int (nomark _)) (pss_one (ps_expr (e_bm (K := g.K) PySem.F.plainAttrs_list PySem.F.slot_list_append PySem.F.type_list_append mt_append (pv 2) (pa_cons (pe_tup (pa_cons pe_str (pa_cons (pv 5) pa_nil))) pa_nil)))) (pss_one (ps_expr (e_bm (K := g.K) PySem.F.plainAttrs_list PySem.F.slot_list_append PySem.F.type_list_append mt_append (pv 2) (pa_cons (pe_tup (pa_cons pe_str (pa_cons (pv 5) (pa_cons (pe_callG F_l_thing (hr.mono (by first | decide | omega)) tkD (pa_cons (pv 0) (pa_cons pe_int pa_nil))) pa_nil)))) pa_nil)))))))))
      (pss_one (ps_ret (pv 2))))), ?_⟩
  refine mid_at (fun σ G => ∃ L, σ = [some (.ref p), some (.ref a), some (.ref L), none, none, none, none] ∧ Same H G ∧ H L = none ∧ G L = some (.lst [])) ?_ ?_
  · walk_at "sx"
    exact fun L hL => ⟨same_upd hL, hL⟩
  rintro _ G ⟨L, rfl, sG, nL, eL⟩
  have SG := hS.same sG
  have Lp : L ≠ p := hS.ne nL
  have aL : a ≠ L := fun z => by rw [z, nL] at ha; cases ha
  refine mid_at (fun σ G => ∃ v3 v4 v5 v6 xs ps, σ = [some (.ref p), some (.ref a), some (.ref L), v3, v4, v5, v6] ∧ Drw G p (N + 200) ∧ But p H G ∧ G L = some (.lst xs) ∧ Paired (DdAt [p] G) xs ps ∧ (∀ q ∈ ps, DG q) ∧ 1 ≤ ps.length ∧ ps.length ≤ 3) ?_ ?_
  · walk_at "sx"
    refine ⟨_, _, rfl, p, N, 3, rfl, rfl, by decide, by decide, SG, by omega, fun r G1 r0 r1 S1 b1 => ⟨_, rfl, ?_⟩⟩
    have eL1 := b1 _ _ Lp eL
    refine ⟨by omega, by omega, ?_⟩
    refine for_by (1 + r).toNat (fun i σ X => ∃ v3 v4 v5 v6 xs ps, σ = [some (.ref p), some (.ref a), some (.ref L), v3, v4, v5, v6] ∧ Drw X p (N + 1 + i * 50) ∧ But p H X ∧ X L = some (.lst xs) ∧ Paired (DdAt [L, p] X) xs ps ∧ (∀ q ∈ ps, DG q) ∧ ps.length = i) ⟨_, _, _, _, [], [], rfl, by simpa using S1, (But.of sG).trans b1, eL1, .nil, by simp, rfl⟩ (fun i σ X lt P => by simpa [Itr] using lt) (fun σ X P => by simp [Itr]; omega) (fun i σ X z X' lt P yl => ?_) (fun σ X P => ?_)
    · obtain ⟨v3, v4, v5, v6, xs, ps, rfl, SX, bX, eX, pr, dg, pl⟩ := P
      have i3 : i < 3 := by omega
      obtain ⟨rfl, rfl⟩ := yl
      have aX := bX _ _ ap ha
      refine mid_at (fun σ G => ∃ (W : Addr) (ks : List Str) (v5 v6 : Option V), σ = [some (.ref p), some (.ref a), some (.ref L), some (.int (0 + (i : Nat))), some (.ref W), v5, v6] ∧ Same X' G ∧ G W = some (.lst (ks.map V.str)) ∧ (∀ k ∈ ks, KW k) ∧ ks.length ≤ 3 ∧ X' W = none) ?_ ?_
      · walk_at "sx"
        refine ⟨_, _, rfl, a, L, xs, ps, rfl, aX, rfl, eX, paired_imp pr fun _ _ h => h.less (by simp), fun q hq => (dg q hq).key, by omega, fun L2 ys H' s2 e2 ky yl => ?_⟩
        refine ⟨L2, rfl, ⟨_, SqL.of e2⟩, ?_⟩
        refine lc_invA ys.length (fun D j acc G => Same H' G ∧ ∃ ks : List Str, acc = ks.map V.str ∧ (∀ k ∈ ks, KW k) ∧ ks.length = j) (by rw [sizeLine_eq]; omega) (fun D hD => ⟨same_upd hD, [], rfl, by simp, rfl⟩) (fun D j acc G hD lt P => ⟨_, ys[j], SqL.of (P.1 _ _ e2), List.getElem?_eq_getElem lt⟩) (fun D acc G hD P => ⟨_, SqL.of (P.1 _ _ e2), Nat.le_refl _⟩) (fun D j acc G0 x G K hD lt la P eD y k => ?_) (fun D acc G hD P eD => ?_)
        · obtain ⟨rfl, hz⟩ := y
          obtain ⟨sG, ks, rfl, hk, kl⟩ := P
          have hz := hz _ (SqL.of (sG _ _ e2))
          obtain ⟨t, kk, w, rfl, et, kw⟩ := ky x (List.mem_of_getElem? hz)
          refine ⟨t, _, rfl, SqT.of (sG _ _ et), rfl, _, _, rfl, _, _, rfl, rfl, ?_⟩
          refine ⟨rfl, ?_⟩
          walk_at "sx"
          refine k _ _ eD ⟨fun c o z => ?_, ks ++ [kk], by simp, fun k hk' => ?_, by simp [kl]⟩
          · have cD : c ≠ D := fun e => by rw [e, hD] at z; cases z
            rw [upd_ne cD]; exact sG _ _ z
          · rcases List.mem_append.mp hk' with h | h
            · exact hk k h
            · rw [List.mem_singleton.mp h]; exact kw
        · obtain ⟨sG, ks, rfl, hk, kl⟩ := P
          refine ⟨D, rfl, s2.trans sG, ks, eD, hk, by omega, ?_⟩
          cases e : X' D with
          | none => rfl
          | some o => rw [s2 _ _ e] at hD; cases hD
      rintro _ G2 ⟨W, ks, v5, v6, rfl, s2, eW, hk, kl, nW⟩
      have S2 := SX.same s2
      have Wp : W ≠ p := SX.ne nW
      refine mid_at (fun σ G => ∃ (k : Str) (v6 : Option V), σ = [some (.ref p), some (.ref a), some (.ref L), some (.int (0 + (i : Nat))), some (.ref W), some (.str k), v6] ∧ KW k ∧ Drw G p (N + 1 + i * 50 + 4) ∧ But p G2 G) ?_ ?_
      · walk_at "sx"
        intro p1 np
        have sp := same_upd (o := HO.lst []) np
        have e1 : upd G2 p1 (.lst []) p1 = some (.lst []) := upd_same
        have eW1 := sp _ _ eW
        have S3 := S2.same sp
        generalize upd G2 p1 (.lst []) = G3 at sp e1 eW1 S3 ⊢
        refine ⟨W, p1, _, _, rfl, rfl, SqL.of eW1, SqL.of e1, .inr rfl, _, rfl, ?_⟩
        have word : ∀ G4 M, Drw G4 p M → M ≤ N + 1 + i * 50 + 1 → But p G2 G4 → sp_word [V.ref p] G4 (fun x H1 => ∃ k, x = V.str k ∧ KW k ∧ Drw H1 p (N + 1 + i * 50 + 4) ∧ But p G2 H1) fun c d H' => E c d H' := fun G4 M S4 hM b4 =>
          ⟨_, rfl, p, M, rfl, S4, by omega, fun x H' kx S' b' => ⟨x, rfl, kx, S'.up (by omega), b4.trans b'⟩⟩
        by_cases k0 : ks = []
        · subst k0
          rw [if_neg (by simp)]
          exact word G3 _ S3 (by omega) (But.of sp)
        · rw [if_pos (by simpa using k0)]
          refine ⟨_, _, rfl, p, _, 2, rfl, rfl, by decide, by decide, S3, by omega, fun z G4 z0 z1 S4 b4 => ?_⟩
          show rEqU g.K (.int z) (.int 0) G4 _
          rw [RS.eq_ii]
          refine ⟨_, rfl, ?_⟩
          by_cases zz : z = 0
          · rw [if_pos (by simpa using zz)]
            have ks0 : 0 < (ks.map V.str).length := by
              cases ks with
              | nil => exact absurd rfl k0
              | cons x r => simp
            refine ⟨_, _, rfl, p, W, ks.map V.str, _, rfl, rfl, b4 _ _ Wp eW1, Ne.symm Wp, ks0, by simp; omega, S4, by omega, fun x H' hx S' b' => ?_⟩
            obtain ⟨y, hy, rfl⟩ := List.mem_map.mp hx
            exact ⟨y, rfl, hk y hy, S'.up (by omega), ((But.of sp).trans b4).trans b'⟩
          · rw [if_neg (by simpa using zz)]
            exact word G4 _ S4 (by omega) ((But.of sp).trans b4)
      rintro _ G3 ⟨k, v6, rfl, kw, S3, b3⟩
      have b3H : But p H G3 := (bX.trans (But.of s2)).trans b3
      have eL3 := b3 _ _ Lp (s2 _ _ eX)
      walk_at "sx"
      refine ⟨_, _, rfl, p, _, 3, rfl, rfl, by decide, by decide, S3, by omega, fun z G4 z0 z1 S4 b4 => ?_⟩
      show rEqU g.K (.int z) (.int 0) G4 _
      rw [RS.eq_ii]
      refine ⟨_, rfl, ?_⟩
      have b4H := b3H.trans b4
      have eL4 := b4 _ _ Lp eL3
      have nX : ∀ (G : Hp) M, Drw G p M → ∀ ys, G p ≠ some (.tup ys) := fun G M h ys z => by obtain ⟨_, _, _, h1, _⟩ := h; rw [h1] at z; cases z
      have nLt : ∀ (G : Hp) ws, G L = some (.lst ws) → ∀ ys, G L ≠ some (.tup ys) := fun G ws h ys z => by rw [h] at z; cases z
      have pr4 : Paired (DdAt [L, p] G4) xs ps := paired_imp pr fun _ _ h => (((h.same s2).but (by simp) (nX _ _ S2) b3).but (by simp) (nX _ _ S3) b4)
      have fin : ∀ (G5 : Hp) (M : Nat) (o : HO) (p1 : Addr) (dd : Deed), Drw G5 p M → M ≤ N + 1 + (i + 1) * 50 → But p G4 G5 → G5 p1 = none → DG dd → (∀ G6, Same G5 G6 → G6 p1 = some o → p1 ∉ [L, p] → DdAt [L, p] G6 (.ref p1) dd) →
          ∃ x, upd G5 p1 o L = some (HO.lst x) ∧ x.length < 16777216 ∧ Drw (upd (upd G5 p1 o) L (HO.lst (x ++ [V.ref p1]))) p (N + 1 + (i + 1) * 50) ∧ But p H (upd (upd G5 p1 o) L (HO.lst (x ++ [V.ref p1]))) ∧
            ∃ x_1, Paired (DdAt [L, p] (upd (upd G5 p1 o) L (HO.lst (x ++ [V.ref p1])))) (x ++ [V.ref p1]) x_1 ∧ (∀ (q : Deed), q ∈ x_1 → DG q) ∧ x_1.length = i + 1 := by
        intro G5 M o p1 dd S5 hM b5 np hdg hdd
        have eL5 := b5 _ _ Lp eL4
        have sp := same_upd (o := o) np
        have e6 := sp _ _ eL5
        have ep : upd G5 p1 o p1 = some o := upd_same
        have p1L : p1 ≠ L := fun z => by rw [z, eL5] at np; cases np
        have p1p : p1 ≠ p := S5.ne np
        have S6 := S5.same sp
        have d6 := hdd _ sp ep (by simp [p1L, p1p])
        have pr6 : Paired (DdAt [L, p] (upd G5 p1 o)) xs ps := paired_imp pr4 fun _ _ h => (h.but (by simp) (nX _ _ S4) b5).same sp
        have b6 : But p H (upd G5 p1 o) := (b4H.trans b5).trans (But.of sp)
        generalize upd G5 p1 o = G6 at e6 S6 d6 pr6 b6 ⊢
        have kL : But L G6 (upd G6 L (.lst (xs ++ [.ref p1]))) := fun c o n z => by rw [upd_ne n]; exact z
        have xl := paired_len pr6
        refine ⟨xs, e6, by omega, (S6.but kL (Ne.symm Lp)).up hM, fun c o n z => ?_, ps ++ [dd], paired_snoc (paired_imp pr6 fun _ _ h => h.but (by simp) (nLt _ _ e6) kL) (d6.but (by simp) (nLt _ _ e6) kL), fun q hq => ?_, by simp [pl]⟩
        · exact kL _ _ (ne_of_none z nL) (b6 _ _ n z)
        · rcases List.mem_append.mp hq with h | h
          · exact dg q h
          · rw [List.mem_singleton.mp h]; exact hdg
      by_cases zz : z = 0
      · rw [if_pos (by simpa using zz)]
        refine ⟨⟨_, SqL.of eL4⟩, fun p1 np => ?_⟩
        exact fin G4 _ _ p1 (k, none) S4 (by omega) (But.of (Same.refl _)) np ⟨kw, by simp⟩ fun G6 _ e6 ni => ⟨p1, rfl, ni, e6⟩
      · rw [if_neg (by simpa using zz)]
        refine ⟨⟨_, SqL.of eL4⟩, _, _, rfl, p, _, 2, rfl, rfl, by decide, by decide, S4, by have : c27 2 = 36 := rfl; omega, fun x d fp G5 tr gd nf S5 b5 p1 np => ?_⟩
        have c2 : c27 2 = 36 := rfl
        refine fin G5 _ _ p1 (k, some d) S5 (by omega) b5 np ⟨kw, fun d' e => by cases e; exact gd⟩ fun G6 s6 e6 ni => ⟨p1, rfl, ni, x, fp, e6, tr.same s6, fun c hc => ?_⟩
        rcases List.mem_cons.mp hc with rfl | hc
        · exact not_in nf eL4
        · rw [List.mem_singleton.mp hc]
          obtain ⟨_, _, _, h1, _⟩ := S4
          exact not_in nf h1
    · obtain ⟨v3, v4, v5, v6, xs, ps, rfl, SX, bX, eX, pr, dg, pl⟩ := P
      exact ⟨_, _, _, _, rfl, SX.up (by omega), bX, xs, eX, ps, paired_imp pr fun _ _ h => h.less (by simp), dg, by omega, by omega⟩
  rintro _ G2 ⟨v3, v4, v5, v6, xs, ps, rfl, S2, b2, e2, pr, dg, l1, l3⟩
  walk_at "sx"
  exact q L xs ps _ nL e2 pr dg l1 l3 S2 b2
end
theorem btx_len : ∀ ps : List Deed, (∀ p ∈ ps, DG p) → (btx ps).length ≤ 2000 * ps.length
  | [], _ => by show Str.empty.length ≤ _; rw [show Str.empty.length = 0 from rfl]; omega
  | (k, o) :: r, h => by
    have ih := btx_len r fun p hp => h p (List.mem_cons_of_mem _ hp)
    have h0 := h (k, o) (List.mem_cons_self ..)
    have k1 : (spell (.str k)).length ≤ 300 := key_sl h0.key.ok
    have b1 : (spell (.bool true)).length = 1 := by decide +kernel
    have b0 : (spell (.bool false)).length = 1 := by decide +kernel
    cases o with
    | none => simp only [btx, Str.length_append, List.length_cons]; omega
    | some d =>
      have := (h0.val d rfl).len
      rw [B27_2] at this
      simp only [btx, Str.length_append, List.length_cons]; omega
def pgs (x : Str) : Nat := (x.length + 45) / 46
section
variable {g : Wd} {f C_Shelf : Addr} {fd : FuncData}
theorem sc_l_composed : FnScope ["_law_deeds_so", "_law_found"] ["_law_deeds_so"] (defScope s_l_composed) := ⟨rfl, rfl, rfl, by decide +kernel, rfl, by decide +kernel, by decide +kernel⟩
def sp_comp : Sp := S1 fun v H Q _ => ∃ a xs ps, v = .ref a ∧ H a = some (.lst xs) ∧ Paired (DdAt [] H) xs ps ∧ (∀ p ∈ ps, DG p) ∧ 1 ≤ ps.length ∧ ps.length ≤ 3 ∧ ∀ q H', Same H H' → H' q = some (.tup [.str (("b" : Str) ++ btx ps), .int ((pgs (("b" : Str) ++ btx ps) : Nat) : Int)]) → Q (.ref q) H'
theorem ok_comp (F : Df g.K "_law_composed" "_law_composed" s_l_composed f fd .none) (T : Txt2 g) (F_batch_text : KnS g "batch_text" 26 (spS 0 sp_btext)) (V_Shelf : Gv g "Shelf" (.ref C_Shelf)) (SMS_Shelf_cost : KsmS g C_Shelf "cost" 27 (spS 0 sp_cost)) : FnG g 29 f fd ["_law_deeds_so"] sp_comp := by
  refine F.ok sc_l_composed (fun vs H Q E h => S1.len h) (fun cdv A outer s H vs Q E hr h => ?_)
  obtain ⟨_, rfl, a, xs, ps, rfl, ha, hp, hv, p1, p3, q⟩ := h
  refine ⟨_, (pss_cons (ps_if (pt_cmpR (o_eq (K := g.K) hr) (pe_callB (c_len (K := g.K)) (by rfl) T.b_len bb_len (pa_cons (pv 0) pa_nil)) pe_int (nomark _)) (pss_one (ps_ret (pe_tup (pa_cons (pe_callS F_batch_text (hr.mono (by first | decide | omega)) tkD (pa_cons (pe_ix (o_ix (K := g.K)) (pv 0) pe_int (fun _ _ => rfl)) pa_nil)) (pa_cons (RS.pe_smS (e_g V_Shelf) SMS_Shelf_cost (hr.mono (by first | decide | omega)) tkD (pa_cons (pe_ix (o_ix (K := g.K)) (pv 0) pe_int (fun _ _ => rfl)) pa_nil)) pa_nil))))) pss_nil)
      (pss_cons (ps_if (pt_cmpR (o_eq (K := g.K) hr) (pe_callB (c_len (K := g.K)) (by rfl) T.b_len bb_len (pa_cons (pv 0) pa_nil)) pe_int (nomark _)) (pss_one (ps_ret (pe_tup (pa_cons (pe_callS F_batch_text (hr.mono (by first | decide | omega)) tkD (pa_cons (pe_ix (o_ix (K := g.K)) (pv 0) pe_int (fun _ _ => rfl)) (pa_cons (pe_ix (o_ix (K := g.K)) (pv 0) pe_int (fun _ _ => rfl)) pa_nil))) (pa_cons (RS.pe_smS (e_g V_Shelf) SMS_Shelf_cost (hr.mono (by first | decide | omega)) tkD (pa_cons (pe_ix (o_ix (K := g.K)) (pv 0) pe_int (fun _ _ => rfl)) (pa_cons (pe_ix (o_ix (K := g.K)) (pv 0) pe_int (fun _ _ => rfl)) pa_nil))) pa_nil))))) pss_nil)
      (pss_cons (ps_set (i := 1) sc_l_composed.nd rfl (Or.inl rfl) (pe_callS F_batch_text (hr.mono (by first | decide | omega)) tkD (pa_cons (pe_ix (o_ix (K := g.K)) (pv 0) pe_int (fun _ _ => rfl)) (pa_cons (pe_ix (o_ix (K := g.K)) (pv 0) pe_int (fun _ _ => rfl)) (pa_cons (pe_ix (o_ix (K := g.K)) (pv 0) pe_int (fun _ _ => rfl)) pa_nil)))))
      (pss_one (ps_ret (pe_tup (pa_cons (pv 1) (pa_cons (RS.pe_smS (e_g V_Shelf) SMS_Shelf_cost (hr.mono (by first | decide | omega)) tkD (pa_cons (pe_ix (o_ix (K := g.K)) (pv 0) pe_int (fun _ _ => rfl)) (pa_cons (pe_ix (o_ix (K := g.K)) (pv 0) pe_int (fun _ _ => rfl)) (pa_cons (pe_ix (o_ix (K := g.K)) (pv 0) pe_int (fun _ _ => rfl)) pa_nil)))) pa_nil)))))))), ?_⟩
  have pl := paired_len hp
  have bl := btx_len ps hv
  have b1 : (Str.ofString "b").length = 1 := by decide +kernel
  have hL : (("b" : Str) ++ btx ps).length ≤ 1000000 := by rw [Str.length_append]; omega
  have hok : ∀ p ∈ ps, DOk p := fun p h => (hv p h).ok
  have one : ∀ (G : Hp) (Q' : VK) (E' : XK), Same H G → (∀ H', Same G H' → Q' (.str (("b" : Str) ++ btx ps)) H') → spS 0 sp_btext xs G Q' E' := fun G Q' E' s k =>
    ⟨[], xs, rfl, rfl, by rw [sizeLine_eq]; omega, fun p np => ⟨_, rfl, p, xs, ps, rfl, upd_same, paired_imp hp fun _ _ h => (h.same s).same (same_upd np), hok, p3, fun H' s' => k H' ((same_upd np).trans s')⟩⟩
  have two : ∀ (G : Hp) (Q' : VK) (E' : XK), Same H G → (∀ H', Same G H' → Q' (.int ((pgs (("b" : Str) ++ btx ps) : Nat) : Int)) H') → spS 0 sp_cost xs G Q' E' := fun G Q' E' s k =>
    ⟨[], xs, rfl, rfl, by rw [sizeLine_eq]; omega, fun p np => ⟨_, rfl, p, xs, ps, rfl, upd_same, paired_imp hp fun _ _ h => (h.same s).same (same_upd np), hok, p3, hL, fun H' s' => k H' ((same_upd np).trans s')⟩⟩
  simp only [tSmS, RS.tSmS, tRet, tRetN, tSeq, C8.tCut, tNext, tAsg, gName, gNil, gCons, gTup, gFld, tIfS, tIf, tAndV, tOrV, tNotV, tAnd, tOr, tNot, tB, tTest, tOp, tUn, tCB, tCons, tNil, tVar, tC, tChain, tDrop, RS.tCallG, RS.tMethG, tMakeG, RS.tCallK, RS.tMakeK, tEqOwn, rI, rI0, rU, add_ii, add_ss, add_rr, mul_ii, mul_si, mul_ri, RS.eq_ii, RS.eq_ss, eq_bb, eq_nn, eq_sn, eq_ns, eq_in, eq_ni, eq_bn, eq_nb, eq_is, eq_si, eq_rr, ne_ii, ne_ss, ne_bb, ne_nn, ne_sn, ne_ns, ne_in, ne_ni, ne_is, ne_si, ne_rr, in_ss, in_r, nin_ss, nin_r, len_s, len_r, RS.ix_s, RS.ix_r, sl_s, sl_r, is_eq, tyN_n, tyN_b, tyN_i, tyN_s, tru_b, tru_i, tru_n, tSl, tPart, tNoPart, tPar, tPar3, tFmtZ, tFmt, tJs, tDGet, sDPut, sFld, tFld, tTup, tLst, tNever, isB,
  L2.start, List.map_cons, List.map_nil, List.length_cons, List.length_nil, Nat.reduceAdd, Nat.reduceSub, Nat.sub_self, List.replicate_zero, List.replicate_succ, List.append_nil, List.cons_append, List.nil_append, List.getElem?_cons_zero, List.getElem?_cons_succ, List.set_cons_zero, List.set_cons_succ, Option.some.injEq, exists_eq_left, exists_eq_left', exists_and_left, V.bl.injEq, V.int.injEq, V.str.injEq, V.ref.injEq, beq_self_eq_true, Bool.true_or, Bool.or_true, Bool.false_or, Bool.or_false, Bool.and_false, Bool.false_and, Bool.true_and, Bool.and_true, Bool.not_true, Bool.not_false, Bool.false_eq_true, if_true, if_false, ite_true, ite_false, true_and, and_true, and_assoc, String.reduceBEq, String.reduceEq, reduceIte, Bool.and_self, reduceCtorEq, false_and, and_false, exists_false, or_false, false_or, exists_const, iEnumS, iStr, iList, iTup, iRng1, iEnum, tFor_eq, tLc_eq, List.cons.injEq, wipe, not_true_eq_false, not_false_eq_true, upd_same, HO.ins.injEq, HO.tup.injEq, HO.lst.injEq, ofS_eq, lk_nil, lk_cons, pu_nil, pu_cons, sizeLine_eq, Nat.reduceLT, Nat.reduceLeDiff, Nat.reduceEqDiff, Nat.le_refl, decide_true, decide_false, tPr, dget_us, dput_us, vv_nil, vv_cons, RS.pk_nil, pk_one, RS.pk_cons, inr_eq, tDisp, tPairs, tBoolOwn, rBoolOwn, tBM, rAppend, ty_list, ty_str, rEqOwn, iEnumT, RS.tCallS, tM1, tDc_eq, tLock, tLockE, iKeys, tListEnum, rUpdate, tMkX0, tMkX1, tXfv, gSub, rSetL, List.getD_cons_zero, List.getD_cons_succ, tBreak, tCMethS, ClX.tCVal, tXfa, tIxOwn, tInOwn, tPropG, tMethK, tMethP, tListGen, tDGet2, tDPop2, rNeD0, intA_i, intA_b, tRevL, sFldAug, tPm0, tPm1, tDIn, tDNotIn, tDNewK, RS.tMethS, tForK, tKM, tKC, tLcK, tKM2, tKC2, tMethStar, tKCK2, tLk, tAug, ipI, tDig, tLcX, tKMX, tKCX, tForY, tKCY, tKMY, tYThen, tYPlain, tYYield, tY0, tYIf, GKE.at, tListX]
  have fin : ∀ (H1 : Hp) (p : Addr), Same H H1 → H1 p = none → Q (V.ref p) (upd H1 p (HO.tup [.str (("b" : Str) ++ btx ps), .int ((pgs (("b" : Str) ++ btx ps) : Nat) : Int)])) := fun H1 p s np => q p _ (s.trans (same_upd np)) upd_same
  have sq : ∀ H1, Same H H1 → (SqL g.K H1 a xs ∨ SqT g.K H1 a xs) := fun H1 s => .inl (SqL.of (s _ _ ha))
  have s0 := Same.refl H
  refine .inl ⟨xs, sq _ s0, ?_⟩
  match xs, pl with
  | [x], pl =>
    rw [if_pos (by simp)]
    refine ⟨_, sq _ s0, x, rfl, one H _ _ s0 fun H1 s1 => ⟨_, sq _ s1, x, rfl, two H1 _ _ s1 fun H2 s2 p np => ?_⟩⟩
    exact fin H2 p (s1.trans s2) np
  | [x, y], pl =>
    rw [if_neg (by simp)]
    refine .inl ⟨_, sq _ s0, ?_⟩
    rw [if_pos (by simp)]
    refine ⟨_, sq _ s0, x, rfl, _, sq _ s0, y, rfl, one H _ _ s0 fun H1 s1 => ⟨_, sq _ s1, x, rfl, _, sq _ s1, y, rfl, two H1 _ _ s1 fun H2 s2 p np => ?_⟩⟩
    exact fin H2 p (s1.trans s2) np
  | [x, y, z], pl =>
    rw [if_neg (by simp)]
    refine .inl ⟨_, sq _ s0, ?_⟩
    rw [if_neg (by simp)]
    refine ⟨_, sq _ s0, x, rfl, _, sq _ s0, y, rfl, _, sq _ s0, z, rfl, one H _ _ s0 fun H1 s1 => ⟨_, sq _ s1, x, rfl, _, sq _ s1, y, rfl, _, sq _ s1, z, rfl, two H1 _ _ s1 fun H2 s2 p np => ?_⟩⟩
    exact fin H2 p (s1.trans s2) np
  | [], pl => simp at pl; omega
  | _ :: _ :: _ :: _ :: _, pl => simp at pl; omega
end
theorem DG.dc {p : Deed} (h : DG p) : DC p := ⟨h.key.cp, fun d e => (h.val d e).cp⟩
def shB (ps : List Deed) : Str := ("batch " : Str) ++ (batD ps).shown
def shC (k : Str) (d : PyData) : Str := ("copy " : Str) ++ k ++ " " ++ spell d
/-- the tuple of a deed's texts -/
def TpAt (H : Hp) (v : V) (p : Deed) : Prop := ∃ q : Addr, v = .ref q ∧ match p.2 with
  | none => H q = some (.tup [.str "drop", .str p.1])
  | some d => H q = some (.tup [.str "put", .str p.1, .str (spell d)])
theorem TpAt.same {H H' : Hp} {v : V} {p : Deed} (h : TpAt H v p) (s : Same H H') : TpAt H' v p := by
  obtain ⟨q, rfl, h⟩ := h
  refine ⟨q, rfl, ?_⟩
  cases e : p.2 with
  | none => rw [e] at h; exact s _ _ h
  | some d => rw [e] at h; exact s _ _ h
theorem TpAt.but {H H' : Hp} {D : Addr} {xs : List V} {v : V} {p : Deed} (h : TpAt H v p) (eD : H D = some (.lst xs)) (s : But D H H') : TpAt H' v p := by
  obtain ⟨q, rfl, h⟩ := h
  refine ⟨q, rfl, ?_⟩
  cases e : p.2 with
  | none => rw [e] at h; exact s _ _ (fun z => by rw [z, eD] at h; cases h) h
  | some d => rw [e] at h; exact s _ _ (fun z => by rw [z, eD] at h; cases h) h
theorem cutV_to2 (a b : V) (r : List V) : cutV (a :: b :: r) none (some 2) = [a, b] := by simp [cutV, HT.sIx]
theorem cutV_f2 (a b : V) (r : List V) : cutV (a :: b :: r) (some 2) none = r := by simp [cutV, HT.sIx]
theorem tp_dp {K : PySem.W.Frag} {H : Hp} : ∀ {vs : List V} {ps : List Deed}, Paired (TpAt H) vs ps → DpAll K H vs (ps.map tupD)
  | _, _, .nil => .nil
  | _, (k, none) :: ps, .cons h hs => by
    obtain ⟨q, rfl, h⟩ := h
    exact .cons (.tup (SqT.of h) (.cons (.str _) (.cons (.str _) .nil))) (tp_dp hs)
  | _, (k, some d) :: ps, .cons h hs => by
    obtain ⟨q, rfl, h⟩ := h
    exact .cons (.tup (SqT.of h) (.cons (.str _) (.cons (.str _) (.cons (.str _) .nil)))) (tp_dp hs)
theorem bat_bulk : ∀ ps : List Deed, (∀ p ∈ ps, DG p) → PyData.bulkAll (ps.map tupD) ≤ 2000 * ps.length
  | [], _ => Nat.le_refl _
  | (k, none) :: r, h => by
    have ih := bat_bulk r fun p hp => h p (List.mem_cons_of_mem _ hp)
    have h0 := (h (k, none) (List.mem_cons_self ..)).key.len
    have e : (Str.ofString "drop").cps.size = 4 := by decide +kernel
    have e2 : k.cps.size = k.length := rfl
    simp only [List.map_cons, tupD, PyData.bulkAll, PyData.bulk, e, e2, List.length_cons]
    simp only at h0
    omega
  | (k, some d) :: r, h => by
    have ih := bat_bulk r fun p hp => h p (List.mem_cons_of_mem _ hp)
    have h0 := (h (k, some d) (List.mem_cons_self ..)).key.len
    have h1 := ((h (k, some d) (List.mem_cons_self ..)).val d rfl).len
    rw [B27_2] at h1
    have e : (Str.ofString "put").cps.size = 3 := by decide +kernel
    have e2 : k.cps.size = k.length := rfl
    have e3 : (spell d).cps.size = (spell d).length := rfl
    simp only [List.map_cons, tupD, PyData.bulkAll, PyData.bulk, e, e2, e3, List.length_cons]
    simp only at h0
    omega
theorem bat_shown {ps : List Deed} (h : ∀ p ∈ ps, DG p) (pl : ps.length ≤ 3) : (batD ps).showable = true ∧ (batD ps).depth ≤ 60 ∧ (batD ps).shown.length ≤ sizeLine ∧ (batD ps).shown.length ≤ 100000 := by
  have hs : (batD ps).leavesShort 13 = true := by
    show PyData.leavesShortAll 13 (ps.map tupD) = true
    exact bat_l ps fun p hp => (h p hp).dc
  have hb := bat_bulk ps h
  have hl := PyData.shown_le_bulk 13 (by decide) (batD ps) hs
  have e : (batD ps).bulk = PyData.bulkAll (ps.map tupD) := rfl
  rw [e] at hl
  have hd : PyData.depthAll (ps.map tupD) ≤ 1 := by
    clear h hs hb hl e pl
    induction ps with
    | nil => simp [PyData.depthAll]
    | cons p r ih =>
      obtain ⟨k, o⟩ := p
      cases o <;> simp [tupD, PyData.depthAll, PyData.depth] at ih ⊢ <;> omega
  refine ⟨?_, ?_, ?_, ?_⟩
  · show PyData.showableAll (ps.map tupD) = true
    exact bat_s ps
  · rw [batD, PyData.depth]
    omega
  · rw [sizeLine_eq]; omega
  · omega
section
variable {g : Wd} {f : Addr} {fd : FuncData}
theorem sc_l_shape : FnScope ["_law_told", "_law_deed", "_law_one"] ["_law_told"] (defScope s_l_shape) := ⟨rfl, rfl, rfl, by decide +kernel, rfl, by decide +kernel, by decide +kernel⟩
def sp_shape : Sp := S1 fun v H Q _ => (∃ ps q L xs, v = .ref q ∧ H q = some (.tup [.str "batch", .ref L]) ∧ (H L = some (.lst xs) ∨ H L = some (.tup xs)) ∧ Paired (DdAt [] H) xs ps ∧ (∀ p ∈ ps, DG p) ∧ ps.length ≤ 3 ∧ ∀ H', Same H H' → Q (.str (shB ps)) H') ∨
  ∃ q k u d fp, v = .ref q ∧ H q = some (.tup [.str "copy", .str k, u]) ∧ KW k ∧ Tr H u d fp ∧ G27 d 2 ∧ ∀ H', Same H H' → Q (.str (shC k d)) H'
theorem ok_shape (F : Df g.K "_law_shape" "_law_shape" s_l_shape f fd .none) (T : Txt2 g) (F_l_spelled : Kn g "_law_spelled" 22 ["_law_thing_here"] [] (sp_spell 21)) : FnG g 24 f fd ["_law_told"] sp_shape := by
  refine F.ok sc_l_shape (fun vs H Q E h => S1.len h) (fun cdv A outer s H vs Q E hr h => ?_)
  obtain ⟨_, rfl, ⟨ps, p, L, xs, rfl, hq, hL, hp, hv, pl, q⟩ | ⟨p, k, u, d, fp, rfl, hq, kw, tu, gd, q⟩⟩ := h
  · refine ⟨_, (pss_cons (ps_if (pt_cmpR (o_eq (K := g.K) hr) (pe_ix (o_ix (K := g.K)) (pv 0) pe_int (fun _ _ => rfl)) pe_str (nomark _)) (pss_one (ps_ret (pe_op (o_add (K := g.K)) pe_str (pe_callB (c_repr (K := g.K) hr) (by rfl) T.b_repr bb_repr (pa_cons (pe_lc (own := [("_law_deed", 1)]) (tt := tYes) rfl sc_l_shape.nd (pi_or (i_list (K := g.K) (pe_ix (o_ix (K := g.K)) (pv 0) pe_int (fun _ _ => rfl))) (i_tup (K := g.K) (pe_ix (o_ix (K := g.K)) (pv 0) pe_int (fun _ _ => rfl)))) (blkOk_by (own := [("_law_deed", 1)]) (N := ["_law_told", "_law_deed", "_law_one"]) (sc := defScope s_l_shape) (by decide +kernel)) (fun _ _ _ _ _ => (pg_name (i := 1) sc_l_shape.nd rfl (.inl rfl))) (fun _ _ _ _ _ => pts_nil) (fun _ _ _ _ _ => (pe_op (o_add (K := g.K)) (pe_slice (o_sl (K := g.K)) (pv 1) po_none (po_some pe_int)) (pe_callTy (RS.c_tupOf (K := g.K)) (by rfl) T.b_tuple bb_tuple (pa_cons (pe_lc (own := [("_law_one", 2)]) (tt := tYes) rfl sc_l_shape.nd (i_tup (K := g.K) (pe_slice (o_sl (K := g.K)) (pv 1) (po_some pe_int) po_none)) (RS.blkOk_any (own := [("_law_one", 2)]) (N := ["_law_told", "_law_deed", "_law_one"]) (sc0 := defScope s_l_shape) (by decide +kernel) (by decide +kernel)) (fun _ _ _ _ _ => (pg_name (i := 2) sc_l_shape.nd rfl (.inl rfl))) (fun _ _ _ _ _ => pts_nil) (fun _ _ _ _ _ => (pe_callG F_l_spelled (Rm.mono (Rm.mk hr.room hr.gd) (by first | decide | omega)) L2.takes0 (pa_cons (pv 2) pa_nil)))) pa_nil))))) pa_nil))))) pss_nil)
      (pss_one (ps_ret (pe_ifExp (pt_cmpR (o_eq (K := g.K) hr) (pe_ix (o_ix (K := g.K)) (pv 0) pe_int (fun _ _ => rfl)) pe_str (nomark _)) (pe_op (o_add (K := g.K)) (pe_op (o_add (K := g.K)) (pe_op (o_add (K := g.K)) pe_str (pe_ix (o_ix (K := g.K)) (pv 0) pe_int (fun _ _ => rfl))) pe_str) (pe_callG F_l_spelled (hr.mono (by first | decide | omega)) tkD (pa_cons (pe_ix (o_ix (K := g.K)) (pv 0) pe_int (fun _ _ => rfl)) pa_nil))) (pe_callB (c_repr (K := g.K) hr) (by rfl) T.b_repr bb_repr (pa_cons (pv 0) pa_nil)))))), ?_⟩
    walk_at "sx"
    have sq : SqL g.K H p [.str "batch", .ref L] ∨ SqT g.K H p [.str "batch", .ref L] := .inr (SqT.of hq)
    refine ⟨_, sq, .str "batch", rfl, ?_⟩
    rw [RS.eq_ss]
    refine ⟨_, rfl, ?_⟩
    rw [if_pos (by simp)]
    have pl2 := paired_len hp
    rcases hL with hL | hL
    · refine .inl ⟨_, sq, .ref L, rfl, L, rfl, ⟨xs, SqL.of hL⟩, ?_⟩
      refine lc_invA xs.length (fun D i acc G => Same H G ∧ Paired (TpAt G) acc (ps.take i)) (by rw [sizeLine_eq]; omega) (fun D hD => ⟨same_upd hD, by simpa using Paired.nil⟩) (fun D i acc G hD lt P => ⟨_, xs[i], SqL.of (P.1 _ _ hL), List.getElem?_eq_getElem lt⟩) (fun D acc G hD P => ⟨_, SqL.of (P.1 _ _ hL), Nat.le_refl _⟩) (fun D i acc G0 x G K hD lt la P eD y k => ?_) (fun D acc G hD P eD => ?_)
      · obtain ⟨rfl, hx⟩ := y
        obtain ⟨s1, pp⟩ := P
        have hx := hx _ (SqL.of (s1 _ _ hL))
        obtain ⟨p0, hp0⟩ : ∃ p0, ps[i]? = some p0 := ⟨ps[i], List.getElem?_eq_getElem (by omega)⟩
        obtain ⟨x1, ex1, T0, rfl, -, h2⟩ := paired_atY hp hp0
        rw [ex1] at hx
        cases hx
        have dg := hv p0 (List.mem_of_getElem? hp0)
        have tk : ps.take (i + 1) = ps.take i ++ [p0] := take_at' hp0
        refine ⟨rfl, ?_⟩
        walk_at "sx"
        have fin : ∀ v H4, Same G H4 → TpAt H4 v p0 → K v H4 := fun v H4 s4 tp => by
          have e4 := s4 _ _ eD
          have bD : But D H4 (upd H4 D (.lst (acc ++ [v]))) := fun c o n z => by rw [upd_ne n]; exact z
          refine k v H4 e4 ⟨fun c o z => ?_, ?_⟩
          · exact bD _ _ (ne_of_none z hD) (s4 _ _ (s1 _ _ z))
          · rw [tk]
            exact paired_snoc (paired_imp pp fun _ _ h => (h.same s4).but e4 bD) (tp.but e4 bD)
        cases e2 : p0.2 with
        | none =>
          rw [e2] at h2
          have h3 := s1 _ _ h2
          refine .inr ⟨T0, _, rfl, SqT.of h3, fun _ => ?_, fun z => absurd (by simp [HT.sIx]) z⟩
          refine .inr ⟨T0, _, rfl, SqT.of h3, fun z => by simp [HT.sIx] at z, fun _ q2 n2 => ?_⟩
          rw [cutV_f2]
          have sa := same_upd (o := HO.tup []) n2
          have ea : upd G q2 (.tup []) q2 = some (.tup []) := upd_same
          generalize upd G q2 (.tup []) = G2 at sa ea ⊢
          refine ⟨q2, rfl, ⟨_, SqT.of ea⟩, ?_⟩
          refine lc_all 0 (fun _ => .non) (Nat.zero_le _) (fun i G lt _ => by omega) (fun G s => ⟨_, SqT.of (s _ _ ea), Nat.le_refl _⟩) (fun i G x G' K lt s y k => by omega) (fun D2 G3 hD2 s3 eD2 => ?_)
          refine ⟨D2, [], rfl, .inl ⟨SqL.of eD2, fun l nl => ?_⟩⟩
          have sl_ := same_upd (o := HO.tup []) nl
          have s5 := (sa.trans s3).trans sl_
          refine .inr ⟨T0, l, _, [], rfl, rfl, SqT.of (s5 _ _ h3), SqT.of upd_same, by rw [sizeLine_eq]; simp, fun z => absurd z (by simp), fun _ _ => ?_, fun _ z => absurd rfl z⟩
          exact fin _ _ s5 ⟨T0, rfl, by rw [e2]; exact s5 _ _ h3⟩
        | some d =>
          rw [e2] at h2
          obtain ⟨w, fp, h2, tv, -⟩ := h2
          have h3 := s1 _ _ h2
          have gd := dg.val d e2
          refine .inr ⟨T0, _, rfl, SqT.of h3, fun z => by simp [HT.sIx] at z, fun _ q1 n1 => ?_⟩
          rw [cutV_to2]
          have sb := same_upd (o := HO.tup [.str "put", .str p0.1]) n1
          have eb : upd G q1 (.tup [.str "put", .str p0.1]) q1 = some (.tup [.str "put", .str p0.1]) := upd_same
          generalize upd G q1 (.tup [.str "put", .str p0.1]) = G1 at sb eb ⊢
          refine .inr ⟨T0, _, rfl, SqT.of (sb _ _ h3), fun z => by simp [HT.sIx] at z, fun _ q2 n2 => ?_⟩
          rw [cutV_f2]
          have sa := same_upd (o := HO.tup [w]) n2
          have ea : upd G1 q2 (.tup [w]) q2 = some (.tup [w]) := upd_same
          generalize upd G1 q2 (.tup [w]) = G2 at sa ea ⊢
          have s2 := sb.trans sa
          refine ⟨q2, rfl, ⟨_, SqT.of ea⟩, ?_⟩
          refine lc_all 1 (fun _ => .str (spell d)) (by decide) (fun i G lt s => ⟨_, w, SqT.of (s _ _ ea), by rw [show i = 0 from by omega]; rfl⟩) (fun G s => ⟨_, SqT.of (s _ _ ea), Nat.le_refl _⟩) (fun i G x G' K lt s y k => ?_) (fun D2 G3 hD2 s3 eD2 => ?_)
          · obtain ⟨rfl, hy⟩ := y
            have hy := hy _ (SqT.of (s _ _ ea))
            rw [show i = 0 from by omega] at hy
            cases hy
            refine ⟨rfl, ?_⟩
            walk_at "sx"
            have l1 := gd.len
            have l2 := gd.dep
            rw [B27_2] at l1
            exact ⟨_, rfl, d, fp, ((tv.same s1).same s2).same s, gd.ok, by omega, by omega, fun H' s' => k H' s'⟩
          · refine ⟨D2, [.str (spell d)], rfl, .inl ⟨SqL.of eD2, fun l nl => ?_⟩⟩
            have sl_ := same_upd (o := HO.tup [V.str (spell d)]) nl
            refine .inr ⟨q1, l, _, [.str (spell d)], rfl, rfl, SqT.of (((sa.trans s3).trans sl_) _ _ eb), SqT.of upd_same, by rw [sizeLine_eq]; simp, fun z => absurd z (by simp), fun _ z => absurd z (by simp), fun _ _ q5 n5 => ?_⟩
            exact fin _ _ (((s2.trans s3).trans sl_).trans (same_upd n5)) ⟨q5, rfl, by rw [e2]; exact upd_same⟩
      · obtain ⟨s1, pp⟩ := P
        rw [List.take_of_length_le (by omega)] at pp
        obtain ⟨h1, h2, h3, h4⟩ := bat_shown hv pl
        refine ⟨D, batD ps, rfl, .lst (SqL.of eD) (tp_dp pp), h1, h2, h3, ?_⟩
        refine ⟨?_, q _ s1⟩
        rw [show (Str.ofString "batch ").length = 6 from by decide +kernel, sizeLine_eq]
        omega
    · refine .inr ⟨_, sq, .ref L, rfl, L, rfl, ⟨xs, SqT.of hL⟩, ?_⟩
      refine lc_invA xs.length (fun D i acc G => Same H G ∧ Paired (TpAt G) acc (ps.take i)) (by rw [sizeLine_eq]; omega) (fun D hD => ⟨same_upd hD, by simpa using Paired.nil⟩) (fun D i acc G hD lt P => ⟨_, xs[i], SqT.of (P.1 _ _ hL), List.getElem?_eq_getElem lt⟩) (fun D acc G hD P => ⟨_, SqT.of (P.1 _ _ hL), Nat.le_refl _⟩) (fun D i acc G0 x G K hD lt la P eD y k => ?_) (fun D acc G hD P eD => ?_)
      · obtain ⟨rfl, hx⟩ := y
        obtain ⟨s1, pp⟩ := P
        have hx := hx _ (SqT.of (s1 _ _ hL))
        obtain ⟨p0, hp0⟩ : ∃ p0, ps[i]? = some p0 := ⟨ps[i], List.getElem?_eq_getElem (by omega)⟩
        obtain ⟨x1, ex1, T0, rfl, -, h2⟩ := paired_atY hp hp0
        rw [ex1] at hx
        cases hx
        have dg := hv p0 (List.mem_of_getElem? hp0)
        have tk : ps.take (i + 1) = ps.take i ++ [p0] := take_at' hp0
        refine ⟨rfl, ?_⟩
        walk_at "sx"
        have fin : ∀ v H4, Same G H4 → TpAt H4 v p0 → K v H4 := fun v H4 s4 tp => by
          have e4 := s4 _ _ eD
          have bD : But D H4 (upd H4 D (.lst (acc ++ [v]))) := fun c o n z => by rw [upd_ne n]; exact z
          refine k v H4 e4 ⟨fun c o z => ?_, ?_⟩
          · exact bD _ _ (ne_of_none z hD) (s4 _ _ (s1 _ _ z))
          · rw [tk]
            exact paired_snoc (paired_imp pp fun _ _ h => (h.same s4).but e4 bD) (tp.but e4 bD)
        cases e2 : p0.2 with
        | none =>
          rw [e2] at h2
          have h3 := s1 _ _ h2
          refine .inr ⟨T0, _, rfl, SqT.of h3, fun _ => ?_, fun z => absurd (by simp [HT.sIx]) z⟩
          refine .inr ⟨T0, _, rfl, SqT.of h3, fun z => by simp [HT.sIx] at z, fun _ q2 n2 => ?_⟩
          rw [cutV_f2]
          have sa := same_upd (o := HO.tup []) n2
          have ea : upd G q2 (.tup []) q2 = some (.tup []) := upd_same
          generalize upd G q2 (.tup []) = G2 at sa ea ⊢
          refine ⟨q2, rfl, ⟨_, SqT.of ea⟩, ?_⟩
          refine lc_all 0 (fun _ => .non) (Nat.zero_le _) (fun i G lt _ => by omega) (fun G s => ⟨_, SqT.of (s _ _ ea), Nat.le_refl _⟩) (fun i G x G' K lt s y k => by omega) (fun D2 G3 hD2 s3 eD2 => ?_)
          refine ⟨D2, [], rfl, .inl ⟨SqL.of eD2, fun l nl => ?_⟩⟩
          have sl_ := same_upd (o := HO.tup []) nl
          have s5 := (sa.trans s3).trans sl_
          refine .inr ⟨T0, l, _, [], rfl, rfl, SqT.of (s5 _ _ h3), SqT.of upd_same, by rw [sizeLine_eq]; simp, fun z => absurd z (by simp), fun _ _ => ?_, fun _ z => absurd rfl z⟩
          exact fin _ _ s5 ⟨T0, rfl, by rw [e2]; exact s5 _ _ h3⟩
        | some d =>
          rw [e2] at h2
          obtain ⟨w, fp, h2, tv, -⟩ := h2
          have h3 := s1 _ _ h2
          have gd := dg.val d e2
          refine .inr ⟨T0, _, rfl, SqT.of h3, fun z => by simp [HT.sIx] at z, fun _ q1 n1 => ?_⟩
          rw [cutV_to2]
          have sb := same_upd (o := HO.tup [.str "put", .str p0.1]) n1
          have eb : upd G q1 (.tup [.str "put", .str p0.1]) q1 = some (.tup [.str "put", .str p0.1]) := upd_same
          generalize upd G q1 (.tup [.str "put", .str p0.1]) = G1 at sb eb ⊢
          refine .inr ⟨T0, _, rfl, SqT.of (sb _ _ h3), fun z => by simp [HT.sIx] at z, fun _ q2 n2 => ?_⟩
          rw [cutV_f2]
          have sa := same_upd (o := HO.tup [w]) n2
          have ea : upd G1 q2 (.tup [w]) q2 = some (.tup [w]) := upd_same
          generalize upd G1 q2 (.tup [w]) = G2 at sa ea ⊢
          have s2 := sb.trans sa
          refine ⟨q2, rfl, ⟨_, SqT.of ea⟩, ?_⟩
          refine lc_all 1 (fun _ => .str (spell d)) (by decide) (fun i G lt s => ⟨_, w, SqT.of (s _ _ ea), by rw [show i = 0 from by omega]; rfl⟩) (fun G s => ⟨_, SqT.of (s _ _ ea), Nat.le_refl _⟩) (fun i G x G' K lt s y k => ?_) (fun D2 G3 hD2 s3 eD2 => ?_)
          · obtain ⟨rfl, hy⟩ := y
            have hy := hy _ (SqT.of (s _ _ ea))
            rw [show i = 0 from by omega] at hy
            cases hy
            refine ⟨rfl, ?_⟩
            walk_at "sx"
            have l1 := gd.len
            have l2 := gd.dep
            rw [B27_2] at l1
            exact ⟨_, rfl, d, fp, ((tv.same s1).same s2).same s, gd.ok, by omega, by omega, fun H' s' => k H' s'⟩
          · refine ⟨D2, [.str (spell d)], rfl, .inl ⟨SqL.of eD2, fun l nl => ?_⟩⟩
            have sl_ := same_upd (o := HO.tup [V.str (spell d)]) nl
            refine .inr ⟨q1, l, _, [.str (spell d)], rfl, rfl, SqT.of (((sa.trans s3).trans sl_) _ _ eb), SqT.of upd_same, by rw [sizeLine_eq]; simp, fun z => absurd z (by simp), fun _ z => absurd z (by simp), fun _ _ q5 n5 => ?_⟩
            exact fin _ _ (((s2.trans s3).trans sl_).trans (same_upd n5)) ⟨q5, rfl, by rw [e2]; exact upd_same⟩
      · obtain ⟨s1, pp⟩ := P
        rw [List.take_of_length_le (by omega)] at pp
        obtain ⟨h1, h2, h3, h4⟩ := bat_shown hv pl
        refine ⟨D, batD ps, rfl, .lst (SqL.of eD) (tp_dp pp), h1, h2, h3, ?_⟩
        refine ⟨?_, q _ s1⟩
        rw [show (Str.ofString "batch ").length = 6 from by decide +kernel, sizeLine_eq]
        omega
  · refine ⟨_, (pss_cons (ps_if (pt_cmpR (o_eq (K := g.K) hr) (pe_ix (o_ix (K := g.K)) (pv 0) pe_int (fun _ _ => rfl)) pe_str (nomark _)) (pss_one (ps_ret (pe_op (o_add (K := g.K)) pe_str (pe_callB (c_repr (K := g.K) hr) (by rfl) T.b_repr bb_repr (pa_cons (pe_lc (own := [("_law_deed", 1)]) (tt := tYes) rfl sc_l_shape.nd (pi_or (i_list (K := g.K) (pe_ix (o_ix (K := g.K)) (pv 0) pe_int (fun _ _ => rfl))) (i_tup (K := g.K) (pe_ix (o_ix (K := g.K)) (pv 0) pe_int (fun _ _ => rfl)))) (blkOk_by (own := [("_law_deed", 1)]) (N := ["_law_told", "_law_deed", "_law_one"]) (sc := defScope s_l_shape) (by decide +kernel)) (fun _ _ _ _ _ => (pg_name (i := 1) sc_l_shape.nd rfl (.inl rfl))) (fun _ _ _ _ _ => pts_nil) (fun _ _ _ _ _ => (pe_op (o_add (K := g.K)) (pe_slice (o_sl (K := g.K)) (pv 1) po_none (po_some pe_int)) (pe_callTy (RS.c_tupOf (K := g.K)) (by rfl) T.b_tuple bb_tuple (pa_cons (pe_lc (own := [("_law_one", 2)]) (tt := tYes) rfl sc_l_shape.nd (i_tup (K := g.K) (pe_slice (o_sl (K := g.K)) (pv 1) (po_some pe_int) po_none)) (RS.blkOk_any (own := [("_law_one", 2)]) (N := ["_law_told", "_law_deed", "_law_one"]) (sc0 := defScope s_l_shape) (by decide +kernel) (by decide +kernel)) (fun _ _ _ _ _ => (pg_name (i := 2) sc_l_shape.nd rfl (.inl rfl))) (fun _ _ _ _ _ => pts_nil) (fun _ _ _ _ _ => (pe_callG F_l_spelled (Rm.mono (Rm.mk hr.room hr.gd) (by first | decide | omega)) L2.takes0 (pa_cons (pv 2) pa_nil)))) pa_nil))))) pa_nil))))) pss_nil)
      (pss_one (ps_ret (pe_ifExp (pt_cmpR (o_eq (K := g.K) hr) (pe_ix (o_ix (K := g.K)) (pv 0) pe_int (fun _ _ => rfl)) pe_str (nomark _)) (pe_op (o_add (K := g.K)) (pe_op (o_add (K := g.K)) (pe_op (o_add (K := g.K)) pe_str (pe_ix (o_ix (K := g.K)) (pv 0) pe_int (fun _ _ => rfl))) pe_str) (pe_callG F_l_spelled (hr.mono (by first | decide | omega)) tkD (pa_cons (pe_ix (o_ix (K := g.K)) (pv 0) pe_int (fun _ _ => rfl)) pa_nil))) (pe_callB (c_repr (K := g.K) hr) (by rfl) T.b_repr bb_repr (pa_cons (pv 0) pa_nil)))))), ?_⟩
    walk_at "sx"
    have sq : SqL g.K H p [.str "copy", .str k, u] ∨ SqT g.K H p [.str "copy", .str k, u] := .inr (SqT.of hq)
    refine ⟨_, sq, .str "copy", rfl, ?_⟩
    rw [RS.eq_ss]
    refine ⟨_, rfl, ?_⟩
    rw [if_neg (by rw [decide_eq_true_eq]; decide +kernel)]
    refine ⟨_, sq, .str "copy", rfl, ?_⟩
    rw [RS.eq_ss]
    refine ⟨_, rfl, ?_⟩
    rw [if_pos (by simp)]
    have c5 : (Str.ofString "copy ").length = 5 := by decide +kernel
    have c1 : (Str.ofString " ").length = 1 := by decide +kernel
    have kl := kw.len
    have l1 := gd.len
    have l2 := gd.dep
    rw [B27_2] at l1
    have szl := sizeLine_eq
    refine ⟨_, sq, .str k, rfl, by rw [c5]; omega, ?_⟩
    refine ⟨by rw [Str.length_append, c5, c1]; omega, ?_⟩
    refine ⟨_, sq, u, rfl, ?_⟩
    refine ⟨_, rfl, d, fp, tu, gd.ok, by omega, by omega, fun H' s' => ?_⟩
    exact ⟨by simp only [Str.length_append, c5, c1]; omega, q _ s'⟩
theorem sc_l_again : FnScope ["_law_told"] ["_law_told"] (defScope s_l_again) := ⟨rfl, rfl, rfl, by decide +kernel, rfl, by decide +kernel, by decide +kernel⟩
/-- a reading whose text can be told -/
def RdO : Rdg → Prop
  | .strange => True
  | .fin n => (TL.numL n).length ≤ 100
  | .copy k d => keyOk k = true ∧ okB d = true ∧ d.depth < 21 ∧ (spell (.str k) ++ spell d).length ≤ 999999
  | .batch ps => (∀ p ∈ ps, DOk2 p) ∧ ps.length ≤ 1000000 ∧ (("b" : Str) ++ btx ps).length ≤ 1000000
def agn : Rdg → V
  | .strange => .non
  | .fin n => .str (("e" : Str) ++ num n ++ ";")
  | .copy k d => .str (("c" : Str) ++ spell (.str k) ++ spell d)
  | .batch ps => .str (("b" : Str) ++ btx ps)
def sp_again : Sp := S1 fun v H Q _ => ∃ x, TlAt H v x ∧ RdO x ∧ ∀ H', Same H H' → Q (agn x) H'
theorem ok_again (F : Df g.K "_law_again" "_law_again" s_l_again f fd .none) (T : Txt2 g) (F_l_spelled : Kn g "_law_spelled" 22 ["_law_thing_here"] [] (sp_spell 21)) (F_l_batch : Kn g "_law_batch" 24 ["_law_deeds_so"] [] sp_lbatch) : FnG g 25 f fd ["_law_told"] sp_again := by
  refine F.ok sc_l_again (fun vs H Q E h => S1.len h) (fun cdv A outer s H vs Q E hr h => ?_)
  obtain ⟨_, rfl, x, ⟨p, rfl, h⟩, hx, q⟩ := h
  refine ⟨_, (pss_cons (ps_if (pt_cmpR (o_eq (K := g.K) hr) (pe_ix (o_ix (K := g.K)) (pv 0) pe_int (fun _ _ => rfl)) pe_str (nomark _)) (pss_one (ps_ret (pe_callG F_l_batch (hr.mono (by first | decide | omega)) tkD (pa_cons (pe_ix (o_ix (K := g.K)) (pv 0) pe_int (fun _ _ => rfl)) pa_nil)))) pss_nil)
      (pss_cons (ps_if (pt_cmpR (o_eq (K := g.K) hr) (pe_ix (o_ix (K := g.K)) (pv 0) pe_int (fun _ _ => rfl)) pe_str (nomark _)) (pss_one (ps_ret (pe_op (o_add (K := g.K)) (pe_op (o_add (K := g.K)) pe_str (pe_callG F_l_spelled (hr.mono (by first | decide | omega)) tkD (pa_cons (pe_ix (o_ix (K := g.K)) (pv 0) pe_int (fun _ _ => rfl)) pa_nil))) (pe_callG F_l_spelled (hr.mono (by first | decide | omega)) tkD (pa_cons (pe_ix (o_ix (K := g.K)) (pv 0) pe_int (fun _ _ => rfl)) pa_nil))))) pss_nil)
      (pss_one (ps_ret (pe_ifExp (pt_cmpR (o_eq (K := g.K) hr) (pe_ix (o_ix (K := g.K)) (pv 0) pe_int (fun _ _ => rfl)) pe_str (nomark _)) (pe_op (o_add (K := g.K)) (pe_op (o_add (K := g.K)) pe_str (pe_callTy call_str_int (by rfl) T.b_str bb_str (pa_cons (pe_ix (o_ix (K := g.K)) (pv 0) pe_int (fun _ _ => rfl)) pa_nil))) pe_str) pe_non))))), ?_⟩
  walk_at "sx"
  cases x with
  | strange =>
    have sq : SqL g.K H p [.str "strange"] ∨ SqT g.K H p [.str "strange"] := .inr (SqT.of h)
    refine ⟨_, sq, .str "strange", rfl, ?_⟩
    rw [RS.eq_ss]
    refine ⟨_, rfl, ?_⟩
    rw [if_neg (by rw [decide_eq_true_eq]; decide +kernel)]
    refine ⟨_, sq, .str "strange", rfl, ?_⟩
    rw [RS.eq_ss]
    refine ⟨_, rfl, ?_⟩
    rw [if_neg (by rw [decide_eq_true_eq]; decide +kernel)]
    refine ⟨_, sq, .str "strange", rfl, ?_⟩
    rw [RS.eq_ss]
    refine ⟨_, rfl, ?_⟩
    rw [if_neg (by rw [decide_eq_true_eq]; decide +kernel)]
    exact q _ (Same.refl _)
  | fin n =>
    have sq : SqL g.K H p [.str "end", .int (n : Nat)] ∨ SqT g.K H p [.str "end", .int (n : Nat)] := .inr (SqT.of h)
    refine ⟨_, sq, .str "end", rfl, ?_⟩
    rw [RS.eq_ss]
    refine ⟨_, rfl, ?_⟩
    rw [if_neg (by rw [decide_eq_true_eq]; decide +kernel)]
    refine ⟨_, sq, .str "end", rfl, ?_⟩
    rw [RS.eq_ss]
    refine ⟨_, rfl, ?_⟩
    rw [if_neg (by rw [decide_eq_true_eq]; decide +kernel)]
    refine ⟨_, sq, .str "end", rfl, ?_⟩
    rw [RS.eq_ss]
    refine ⟨_, rfl, ?_⟩
    rw [if_pos (by simp)]
    have nl : (Str.ofString (toString ((n : Nat) : Int))).length ≤ 100 := by
      rw [RS.num_int (i := ((n : Nat) : Int)) (by omega), S_len, Int.toNat_natCast]; exact hx
    have lg : ((n : Nat) : Int).natAbs.log2 < 1920 := by
      rw [Int.natAbs_natCast]
      by_cases n0 : n = 0
      · subst n0; decide
      · have h1 : n < 10 ^ (TL.numL n).length := num_lt n
        have h2 : n < 10 ^ 100 := Nat.lt_of_lt_of_le h1 (Nat.pow_le_pow_right (by decide) hx)
        exact (Nat.log2_lt n0).mpr (Nat.lt_of_lt_of_le h2 (by decide +kernel))
    have c1 : (Str.ofString "e").length = 1 := by decide +kernel
    have c2 : (Str.ofString ";").length = 1 := by decide +kernel
    exact ⟨_, sq, .int (n : Nat), rfl, n, rfl, lg, by rw [c1]; omega, by rw [Str.length_append, c1, c2]; omega, q _ (Same.refl _)⟩
  | copy k d =>
    obtain ⟨u, fp, hq, tu⟩ := h
    obtain ⟨hk, od, dd, ln⟩ := hx
    have sq : SqL g.K H p [.str "copy", .str k, u] ∨ SqT g.K H p [.str "copy", .str k, u] := .inr (SqT.of hq)
    refine ⟨_, sq, .str "copy", rfl, ?_⟩
    rw [RS.eq_ss]
    refine ⟨_, rfl, ?_⟩
    rw [if_neg (by rw [decide_eq_true_eq]; decide +kernel)]
    refine ⟨_, sq, .str "copy", rfl, ?_⟩
    rw [RS.eq_ss]
    refine ⟨_, rfl, ?_⟩
    rw [if_pos (by simp)]
    rw [Str.length_append] at ln
    have szl := sizeLine_eq
    have c1 : (Str.ofString "c").length = 1 := by decide +kernel
    have kl : k.length ≤ 10000 := by
      simp only [keyOk, Bool.and_eq_true, decide_eq_true_eq] at hk
      omega
    refine ⟨_, sq, .str k, rfl, _, rfl, .str k, [], .str k, by simp [okB]; omega, by simp [PyData.depth], by omega, fun H1 s1 => ?_⟩
    refine ⟨by rw [c1]; omega, ?_⟩
    refine ⟨_, (.inr (SqT.of (s1 _ _ hq))), u, rfl, _, rfl, d, fp, tu.same s1, od, dd, by omega, fun H2 s2 => ?_⟩
    exact ⟨by rw [Str.length_append, c1]; omega, q _ (s1.trans s2)⟩
  | batch ps =>
    obtain ⟨L, ys, hq, hL, hp⟩ := h
    obtain ⟨o1, o2, o3⟩ := hx
    have sq : SqL g.K H p [.str "batch", .ref L] ∨ SqT g.K H p [.str "batch", .ref L] := .inr (SqT.of hq)
    refine ⟨_, sq, .str "batch", rfl, ?_⟩
    rw [RS.eq_ss]
    refine ⟨_, rfl, ?_⟩
    rw [if_pos (by simp)]
    exact ⟨_, sq, .ref L, rfl, _, rfl, L, ys, ps, rfl, .inr hL, hp, o1, o2, o3, fun H' s' => q _ s'⟩
end
local macro_rules | `(tactic| walk_at "sx") => `(tactic| simp only [tRet, tRetN, tSeq, C8.tCut, tNext, tAsg, gName, gNil, gCons, gTup, gFld, tIfS, tIf, tAndV, tOrV, tNotV, tAnd, tOr, tNot, tB, tTest, tOp, tUn, tCB, tCons, tNil, tVar, tC, tChain, tDrop, RS.tCallG, RS.tMethG, tMakeG, RS.tCallK, RS.tMakeK, tEqOwn, rI, rI0, rU, add_ii, add_ss, add_rr, mul_ii, mul_si, mul_ri, RS.eq_ii, RS.eq_ss, eq_bb, eq_nn, eq_sn, eq_ns, eq_in, eq_ni, eq_bn, eq_nb, eq_is, eq_si, eq_rr, ne_ii, ne_ss, ne_bb, ne_nn, ne_sn, ne_ns, ne_in, ne_ni, ne_is, ne_si, ne_rr, in_ss, in_r, nin_ss, nin_r, len_s, len_r, RS.ix_s, RS.ix_r, sl_s, sl_r, is_eq, tyN_n, tyN_b, tyN_i, tyN_s, tru_b, tru_i, tru_n, tSl, tPart, tNoPart, tPar, tPar3, tFmtZ, tFmt, tJs, tDGet, sDPut, sFld, tFld, tTup, tLst, tNever, isB,
  L2.start, List.map_cons, List.map_nil, List.length_cons, List.length_nil, Nat.reduceAdd, Nat.reduceSub, Nat.sub_self, List.replicate_zero, List.replicate_succ, List.append_nil, List.cons_append, List.nil_append, List.getElem?_cons_zero, List.getElem?_cons_succ, List.set_cons_zero, List.set_cons_succ, Option.some.injEq, exists_eq_left, exists_eq_left', exists_and_left, V.bl.injEq, V.int.injEq, V.str.injEq, V.ref.injEq, beq_self_eq_true, Bool.true_or, Bool.or_true, Bool.false_or, Bool.or_false, Bool.and_false, Bool.false_and, Bool.true_and, Bool.and_true, Bool.not_true, Bool.not_false, Bool.false_eq_true, if_true, if_false, ite_true, ite_false, true_and, and_true, and_assoc, String.reduceBEq, String.reduceEq, reduceIte, Bool.and_self, reduceCtorEq, false_and, and_false, exists_false, or_false, false_or, exists_const, iEnumS, iStr, iList, iTup, iRng1, iEnum, tFor_eq, tLc_eq, List.cons.injEq, wipe, not_true_eq_false, not_false_eq_true, upd_same, HO.ins.injEq, HO.tup.injEq, HO.lst.injEq, ofS_eq, lk_nil, lk_cons, pu_nil, pu_cons, sizeLine_eq, Nat.reduceLT, Nat.reduceLeDiff, Nat.reduceEqDiff, Nat.le_refl, decide_true, decide_false, tPr, dget_us, dput_us, vv_nil, vv_cons, RS.pk_nil, pk_one, RS.pk_cons, inr_eq, tDisp, tPairs, tBoolOwn, rBoolOwn, tBM, rAppend, ty_list, ty_str, rEqOwn, iEnumT, RS.tCallS, tM1, tDc_eq, tLock, tLockE, iKeys, tListEnum, rUpdate, tMkX0, tMkX1, tXfv, gSub, rSetL, List.getD_cons_zero, List.getD_cons_succ, tBreak, tCMethS, ClX.tCVal, tXfa, tIxOwn, tInOwn, tPropG, tMethK, tMethP, tListGen, tDGet2, tDPop2, rNeD0, intA_i, intA_b, tRevL, sFldAug, tPm0, tPm1, tDIn, tDNotIn, tDNewK, RS.tMethS, tForK, tKM, tKC, tLcK, tKM2, tKC2, tMethStar, tKCK2, tLk, tAug, ipI, tDig, tLcX, tKMX, tKCX, tForY, tKCY, tKMY, tYThen, tYPlain, tYYield, tY0, tYIf, GKE.at, tListX])
theorem spells_raw : ∀ ps : List Deed, spells (rawD ps) = btx ps
  | [] => rfl
  | (k, some d) :: r => by simp [rawD, spells, btx, spells_raw r, Str.append_assoc]
  | (k, none) :: r => by simp [rawD, spells, btx, spells_raw r, Str.append_assoc]
theorem S_spell (d : PyData) : spell d = S (sl d) := by rw [← spell_sl d fun _ => trivial, str_S]
theorem S_spells (ds : List PyData) : spells ds = S (sls ds) := by rw [← spells_sl ds, str_S]
theorem S_num (n : Nat) : num n = S (TL.numL n) := by
  unfold num
  rw [RS.num_int (i := ((n : Nat) : Int)) (by omega), Int.toNat_natCast]
theorem agn_txt {x : Rdg} (h : x ≠ .strange) : agn x = .str (S (txt x)) := by
  have eb : (Str.ofString "b") = S [98] := by decide +kernel
  have ec : (Str.ofString "c") = S [99] := by decide +kernel
  have ee : (Str.ofString "e") = S [101] := by decide +kernel
  have es : (Str.ofString ";") = S [59] := by decide +kernel
  cases x with
  | strange => exact absurd rfl h
  | fin n => simp only [agn, txt, ee, es, S_num, S_cat]; rfl
  | copy k d => simp only [agn, txt, ec, S_spell, S_cat, List.append_assoc]; rfl
  | batch ps => simp only [agn, txt, eb, ← spells_raw, S_spells, S_cat]; rfl
theorem wfs_raw : ∀ (ps : List Deed), wfs (rawD ps) → ∀ p ∈ ps, ∀ d, p.2 = some d → wf d
  | (k, some d) :: r, h, p, hp, d', e => by
    rcases List.mem_cons.mp hp with rfl | hp
    · cases e; exact h.2.2.1
    · exact wfs_raw r h.2.2.2 p hp d' e
  | (k, none) :: r, h, p, hp, d', e => by
    rcases List.mem_cons.mp hp with rfl | hp
    · cases e
    · exact wfs_raw r h.2.2 p hp d' e
theorem dep_raw : ∀ (ps : List Deed), PyData.depthAll (rawD ps) ≤ 20 → ∀ p ∈ ps, ∀ d, p.2 = some d → d.depth ≤ 20
  | (k, some d) :: r, h, p, hp, d', e => by
    simp only [rawD, PyData.depthAll] at h
    rcases List.mem_cons.mp hp with rfl | hp
    · cases e; omega
    · exact dep_raw r (by omega) p hp d' e
  | (k, none) :: r, h, p, hp, d', e => by
    simp only [rawD, PyData.depthAll] at h
    rcases List.mem_cons.mp hp with rfl | hp
    · cases e
    · exact dep_raw r (by omega) p hp d' e
/-- what is told of a text can be told again -/
theorem rdO_of {t : List Nat} (tl : t.length ≤ 1000000) : RdO (rdg t) := by
  rcases rdg_text (t := t) with e | ⟨e, w⟩
  · rw [e]; trivial
  · generalize rdg t = x at e w
    cases x with
    | strange => trivial
    | fin n => exact w
    | copy k d =>
      refine ⟨w.1, wf_ok d w.2.1, by have := w.2.2; omega, ?_⟩
      rw [S_spell, S_spell, S_cat, S_len]
      have := congrArg List.length e
      simp only [txt, List.length_cons] at this
      omega
    | batch ps =>
      refine ⟨fun p hp => ⟨w.1 p hp, fun d ed => ⟨wf_ok d (wfs_raw ps w.2.1 p hp d ed), by have := dep_raw ps w.2.2 p hp d ed; omega⟩⟩, ?_, ?_⟩
      · have h1 := len_raw ps
        have h2 := len_sls (rawD ps)
        have := congrArg List.length e
        simp only [txt, List.length_cons] at this
        omega
      · have := agn_txt (x := .batch ps) (by simp)
        simp only [agn] at this
        rw [V.str.inj this, S_len, e]
        exact tl
def sgns : List Nat := [116, 102, 115, 48, 49, 58, 59, 101, 98, 99, 120, 32]
theorem eq_twin {K : PySem.W.Frag} {H : Hp} {Q : VK} {a p : Addr} {d : PyData} (h1 : Dp K H (.ref a) d) (h2 : Dp K H (.ref p) d) (sh : SeqAt.shaped d = true) (ev : PyData.eqv d d = true) (q : Q (.bl true) H) : rEqD K (.ref a) (.ref p) H Q :=
  ⟨d, d, h1, h2, sh, sh, by rw [ev]; exact q⟩
section
variable {g : Wd} {f : Addr} {fd : FuncData}
theorem sc_l_bent : FnScope ["_law_state", "_law_row", "_law_spot", "_law_way"] ["_law_state", "_law_row"] (defScope s_l_bent) := ⟨rfl, rfl, rfl, by decide +kernel, rfl, by decide +kernel, by decide +kernel⟩
def sp_lbent : Sp := S2 fun u v H Q _ => ∃ (p : Addr) (N : Nat) (t : List Nat), u = .ref p ∧ v = .str (S t) ∧ 1 ≤ t.length ∧ t.length ≤ 100000 ∧ Drw H p N ∧ N + 3 < 10 ^ 6 ∧ ∀ t' H', t'.length ≤ t.length + 1 → Drw H' p (N + 3) → But p H H' → Q (.str (S t')) H'
theorem ok_lbent (F : Df g.K "_law_bent" "_law_bent" s_l_bent f fd .none) (T : Txt2 g) (F_l_draw : Kn g "_law_draw" 1 ["_law_state", "_law_size"] [] sp_draw) (F_l_pick : Kn g "_law_pick" 2 ["_law_state", "_law_items"] [] sp_pick) : FnG g 3 f fd ["_law_state", "_law_row"] sp_lbent := by
  refine F.ok sc_l_bent (fun vs H Q E h => S2.len h) (fun cdv A outer s H vs Q E hr h => ?_)
  obtain ⟨_, _, rfl, p, N, t, rfl, rfl, t1, tl, hS, hN, q⟩ := h
  refine ⟨_, (pss_mid (ps_par (i := 2) (j := 3) (by rfl) sc_l_bent.nd rfl rfl (by decide) rfl rfl (pa_cons (pe_callG F_l_draw (hr.mono (by first | decide | omega)) tkD (pa_cons (pv 0) (pa_cons (pe_callB (c_len (K := g.K)) (by rfl) T.b_len bb_len (pa_cons (pv 1) pa_nil)) pa_nil))) (pa_cons (pe_callG F_l_draw (hr.mono (by first | decide | omega)) tkD (pa_cons (pv 0) (pa_cons pe_int pa_nil))) pa_nil)) (by rfl))
      (pss_mid (ps_if (pt_cmpR (o_eq (K := g.K) hr) (pv 3) pe_int (nomark _)) (pss_one (ps_ret (pe_op (o_add (K := g.K)) (pe_slice (o_sl (K := g.K)) (pv 1) po_none (po_some (pv 2))) (pe_slice (o_sl (K := g.K)) (pv 1) (po_some (pe_op (o_add (K := g.K)) (pv 2) pe_int)) po_none)))) pss_nil)
      (pss_mid (ps_if (pt_cmpR (o_eq (K := g.K) hr) (pv 3) pe_int (nomark _)) (pss_one (ps_ret (pe_op (o_add (K := g.K)) (pe_op (o_add (K := g.K)) (pe_slice (o_sl (K := g.K)) (pv 1) po_none (po_some (pv 2))) (pe_ix (o_ix (K := g.K)) (pv 1) (pv 2) (fun _ _ => rfl))) (pe_slice (o_sl (K := g.K)) (pv 1) (po_some (pv 2)) po_none)))) pss_nil)
      (pss_one (ps_ret (pe_op (o_add (K := g.K)) (pe_op (o_add (K := g.K)) (pe_slice (o_sl (K := g.K)) (pv 1) po_none (po_some (pv 2))) (pe_callG F_l_pick (hr.mono (by first | decide | omega)) tkD (pa_cons (pv 0) (pa_cons (pe_lst (pa_cons pe_str (pa_cons pe_str (pa_cons pe_str (pa_cons pe_str (pa_cons pe_str (pa_cons pe_str (pa_cons pe_str (pa_cons pe_str (pa_cons pe_str (pa_cons pe_str (pa_cons pe_str (pa_cons pe_str pa_nil))))))))))))) pa_nil)))) (pe_slice (o_sl (K := g.K)) (pv 1) (po_some (pe_op (o_add (K := g.K)) (pv 2) pe_int)) po_none))))))), ?_⟩
  refine mid_at (fun σ G => ∃ (i : Nat) (w : Int), σ = [some (.ref p), some (.str (S t)), some (.int (i : Nat)), some (.int w)] ∧ i < t.length ∧ Drw G p (N + 2) ∧ But p H G) ?_ ?_
  · walk_at "sx"
    refine ⟨by rw [S_len]; omega, _, _, rfl, p, N, t.length, rfl, by rw [S_len], by omega, by omega, hS, by omega, fun r G1 r0 r1 S1 b1 => ?_⟩
    obtain ⟨i, rfl⟩ := Int.eq_ofNat_of_zero_le r0
    exact ⟨_, _, rfl, p, N + 1, 3, rfl, rfl, by decide, by decide, S1, by omega, fun w G2 w0 w1 S2 b2 => ⟨i, rfl, w, rfl, by omega, S2, b1.trans b2⟩⟩
  rintro _ G ⟨i, w, rfl, it, SG, bG⟩
  have ca : cutS (S t) none (some ((i : Nat) : Int)) = S (t.take i) := by rw [cut_to t (by omega), Int.toNat_natCast]
  have cb : cutS (S t) (some (((i : Nat) : Int) + 1)) none = S (t.drop (i + 1)) := by rw [cut_from t (by omega)]; rfl
  have cc : cutS (S t) (some ((i : Nat) : Int)) none = S (t.drop i) := by rw [cut_from t (by omega), Int.toNat_natCast]
  refine mid_at (fun σ G1 => σ = [some (.ref p), some (.str (S t)), some (.int (i : Nat)), some (.int w)] ∧ G1 = G) ?_ ?_
  · walk_at "sx"
    rw [ca, cb]
    simp only [S_len, S_cat]
    split
    · have l : (t.take i ++ t.drop (i + 1)).length ≤ t.length + 1 := by simp; omega
      refine ⟨by omega, by omega, by simp; omega, ?_⟩
      exact q _ _ l (SG.up (by omega)) bG
    · trivial
  rintro _ G1 ⟨rfl, rfl⟩
  refine mid_at (fun σ G => σ = [some (.ref p), some (.str (S t)), some (.int (i : Nat)), some (.int w)] ∧ G = G1) ?_ ?_
  · walk_at "sx"
    rw [ca, cc]
    split
    · refine ⟨by rw [S_len]; omega, by rw [S_len]; omega, t[i], atI_nat (List.getElem?_eq_getElem it), ?_⟩
      rw [show ({ cps := #[t[i]] } : Str) = S [t[i]] from rfl]
      simp only [S_len, S_cat]
      have l : (t.take i ++ [t[i]] ++ t.drop i).length ≤ t.length + 1 := by simp; omega
      refine ⟨by simp; omega, by omega, by simp; omega, ?_⟩
      exact q _ _ l (SG.up (by omega)) bG
    · trivial
  rintro _ G ⟨rfl, rfl⟩
  walk_at "sx"
  rw [ca, cb]
  refine ⟨by rw [S_len]; omega, fun L hL => ?_⟩
  have sL := same_upd (o := HO.lst (sgns.map fun c => V.str (S [c]))) hL
  rw [show [V.str (Str.ofString "t"), V.str (Str.ofString "f"), V.str (Str.ofString "s"), V.str (Str.ofString "0"), V.str (Str.ofString "1"), V.str (Str.ofString ":"), V.str (Str.ofString ";"), V.str (Str.ofString "e"), V.str (Str.ofString "b"), V.str (Str.ofString "c"), V.str (Str.ofString "x"), V.str (Str.ofString " ")] = sgns.map fun c => V.str (S [c]) from by decide +kernel]
  refine ⟨_, _, rfl, p, L, _, _, rfl, rfl, upd_same, Ne.symm (SG.ne hL), by decide, by decide, SG.same sL, by omega, fun x G2 hx S2 b2 => ?_⟩
  obtain ⟨c, hc, rfl⟩ := List.mem_map.mp hx
  have l : (t.take i ++ [c] ++ t.drop (i + 1)).length ≤ t.length + 1 := by simp; omega
  have szl := sizeLine_eq
  refine ⟨by simp only [S_len]; simp; omega, by rw [S_len]; omega, ?_⟩
  rw [S_cat]
  refine ⟨by simp only [S_len]; simp; omega, ?_⟩
  rw [S_cat]
  exact q _ _ l (S2.up (by omega)) ((bG.trans (But.of sL)).trans b2)
theorem sc_l_bent_right : FnScope ["_law_state", "_law_row", "_law_bent_here", "_law_told"] ["_law_state", "_law_row"] (defScope s_l_bent_right) := ⟨rfl, rfl, rfl, by decide +kernel, rfl, by decide +kernel, by decide +kernel⟩
def sp_bright : Sp := S2 fun u v H Q _ => ∃ (p : Addr) (N : Nat) (t : List Nat), u = .ref p ∧ v = .str (S t) ∧ 1 ≤ t.length ∧ t.length ≤ 100000 ∧ rdg t ≠ .strange ∧ Drw H p N ∧ N + 3 < 10 ^ 6 ∧ ∀ H', Drw H' p (N + 3) → But p H H' → Q (.bl true) H'
theorem ok_bright (F : Df g.K "_law_bent_right" "_law_bent_right" s_l_bent_right f fd .none) (T : Txt2 g) (F_l_bent : Kn g "_law_bent" 3 ["_law_state", "_law_row"] [] sp_lbent) (KK_reading_of : Kk g "reading_of" 51 ["text"] ["text"] [0] sp_reading) (F_l_again : Kn g "_law_again" 25 ["_law_told"] [] sp_again) : FnG g 52 f fd ["_law_state", "_law_row"] sp_bright := by
  refine F.ok sc_l_bent_right (fun vs H Q E h => S2.len h) (fun cdv A outer s H vs Q E hr h => ?_)
  obtain ⟨_, _, rfl, p, N, t, rfl, rfl, t1, tl, ht, hS, hN, q⟩ := h
  refine ⟨_, (pss_mid (ps_set (i := 2) sc_l_bent_right.nd rfl (Or.inl rfl) (pe_callG F_l_bent (hr.mono (by first | decide | omega)) tkD (pa_cons (pv 0) (pa_cons (pv 1) pa_nil))))
      (pss_mid (ps_set (i := 3) sc_l_bent_right.nd rfl (Or.inl rfl) (RS.pe_callK KK_reading_of (hr.mono (by first | decide | omega)) tkD (L2.pk_cons (pv 2) L2.pk_nil)))
      (pss_cons (ps_if (pt_cmpR (o_eq (K := g.K) hr) (pe_ix (o_ix (K := g.K)) (pv 3) pe_int (fun _ _ => rfl)) pe_str (nomark _)) (pss_one (ps_ret (pe_and (pe_cmpR (o_eq (K := g.K) hr) (pv 3) (pe_tup (pa_cons pe_str pa_nil)) (nomark _)) (pe_one (pe_cmpR (o_ne (K := g.K) hr) (pv 2) (pv 1) (nomark _)))))) pss_nil)
      (pss_one (ps_ret (pe_cmpR (o_eq (K := g.K) hr) (pe_callG F_l_again (hr.mono (by first | decide | omega)) tkD (pa_cons (pv 3) pa_nil)) (pv 2) (nomark _))))))), ?_⟩
  refine mid_at (fun σ G => ∃ t', σ = [some (.ref p), some (.str (S t)), some (.str (S t')), none] ∧ t'.length ≤ t.length + 1 ∧ Drw G p (N + 3) ∧ But p H G) ?_ ?_
  · walk_at "sx"
    exact ⟨_, _, rfl, p, N, t, rfl, rfl, t1, tl, hS, by omega, fun t' H' l S' b => ⟨t', rfl, l, S', b⟩⟩
  rintro _ G ⟨t', rfl, l', SG, bG⟩
  refine mid_at (fun σ G1 => ∃ v, σ = [some (.ref p), some (.str (S t)), some (.str (S t')), some v] ∧ Same G G1 ∧ TlAt G1 v (rdg t')) ?_ ?_
  · walk_at "sx"
    exact ⟨_, rfl, t', rfl, by omega, fun v H' s h => ⟨s, h⟩⟩
  rintro _ G1 ⟨v, rfl, s1, hv⟩
  have fin : ∀ H', Same G1 H' → Q (.bl true) H' := fun H' s => q H' (SG.same (s1.trans s)) (bG.trans (But.of (s1.trans s)))
  obtain ⟨a, rfl, h⟩ := id hv
  walk_at "sx"
  by_cases es : rdg t' = .strange
  · rw [es] at h
    refine ⟨_, .inr (SqT.of h), .str "strange", rfl, ?_⟩
    rw [RS.eq_ss]
    refine ⟨_, rfl, ?_⟩
    rw [if_pos (by simp)]
    intro p1 np
    have sp := same_upd (o := HO.tup [V.str (Str.ofString "strange")]) np
    refine eq_twin (d := .tuple [.str "strange"]) (.tup (SqT.of (sp _ _ h)) (.cons (.str _) .nil)) (.tup (SqT.of upd_same) (.cons (.str _) .nil)) (by decide +kernel) (by decide +kernel) ?_
    refine ⟨_, rfl, ?_⟩
    rw [if_pos rfl]
    have ne : ¬ S t' = S t := fun z => ht (by rw [← S_inj z]; exact es)
    rw [show (!decide (S t' = S t)) = true from by simp [ne]]
    exact fin _ sp
  · have again : ∀ H', Same G1 H' → sp_again [V.ref a] H' (fun x H1 => rEqU g.K x (V.str (S t')) H1 Q) fun c d H' => E c d H' := fun H' s =>
      ⟨_, rfl, rdg t', hv.same s, rdO_of (by omega), fun H2 s2 => by
        rcases rdg_text (t := t') with e | ⟨e, _⟩
        · exact absurd e es
        · rw [agn_txt es, e]
          show rEqU g.K (.str (S t')) (.str (S t')) H2 Q
          rw [RS.eq_ss, decide_eq_true rfl]
          exact fin _ (s.trans s2)⟩
    obtain ⟨w0, rest, e0, n0⟩ : ∃ (w0 : Str) (rest : List V), G1 a = some (.tup (.str w0 :: rest)) ∧ w0 ≠ "strange" := by
      cases ex : rdg t' with
      | strange => exact absurd ex es
      | fin n => rw [ex] at h; exact ⟨_, _, h, by decide +kernel⟩
      | copy k d => rw [ex] at h; obtain ⟨u, fp, h, _⟩ := h; exact ⟨_, _, h, by decide +kernel⟩
      | batch ps => rw [ex] at h; obtain ⟨L, ys, h, _⟩ := h; exact ⟨_, _, h, by decide +kernel⟩
    refine ⟨_, .inr (SqT.of e0), .str w0, atI_nat (j := 0) rfl, ?_⟩
    rw [RS.eq_ss]
    refine ⟨_, rfl, ?_⟩
    rw [if_neg (by simpa using n0)]
    exact again G1 (Same.refl _)
end
local macro_rules | `(tactic| walk_at "sx") => `(tactic| simp only [tRet, tRetN, tSeq, C8.tCut, tNext, tAsg, gName, gNil, gCons, gTup, gFld, tIfS, tIf, tAndV, tOrV, tNotV, tAnd, tOr, tNot, tB, tTest, tOp, tUn, tCB, tCons, tNil, tVar, tC, tChain, tDrop, RS.tCallG, RS.tMethG, tMakeG, RS.tCallK, RS.tMakeK, tEqOwn, rI, rI0, rU, add_ii, add_ss, add_rr, mul_ii, mul_si, mul_ri, RS.eq_ii, RS.eq_ss, eq_bb, eq_nn, eq_sn, eq_ns, eq_in, eq_ni, eq_bn, eq_nb, eq_is, eq_si, eq_rr, ne_ii, ne_ss, ne_bb, ne_nn, ne_sn, ne_ns, ne_in, ne_ni, ne_is, ne_si, ne_rr, in_ss, in_r, nin_ss, nin_r, len_s, len_r, RS.ix_s, RS.ix_r, sl_s, sl_r, is_eq, tyN_n, tyN_b, tyN_i, tyN_s, tru_b, tru_i, tru_n, tSl, tPart, tNoPart, tPar, tPar3, tFmtZ, tFmt, tJs, tDGet, sDPut, sFld, tFld, tTup, tLst, tNever, isB,
  L2.start, List.map_cons, List.map_nil, List.length_cons, List.length_nil, Nat.reduceAdd, Nat.reduceSub, Nat.sub_self, List.replicate_zero, List.replicate_succ, List.append_nil, List.cons_append, List.nil_append, List.getElem?_cons_zero, List.getElem?_cons_succ, List.set_cons_zero, List.set_cons_succ, Option.some.injEq, exists_eq_left, exists_eq_left', exists_and_left, V.bl.injEq, V.int.injEq, V.str.injEq, V.ref.injEq, beq_self_eq_true, Bool.true_or, Bool.or_true, Bool.false_or, Bool.or_false, Bool.and_false, Bool.false_and, Bool.true_and, Bool.and_true, Bool.not_true, Bool.not_false, Bool.false_eq_true, if_true, if_false, ite_true, ite_false, true_and, and_true, and_assoc, String.reduceBEq, String.reduceEq, reduceIte, Bool.and_self, reduceCtorEq, false_and, and_false, exists_false, or_false, false_or, exists_const, iEnumS, iStr, iList, iTup, iRng1, iEnum, tFor_eq, tLc_eq, List.cons.injEq, wipe, not_true_eq_false, not_false_eq_true, upd_same, HO.ins.injEq, HO.tup.injEq, HO.lst.injEq, ofS_eq, lk_nil, lk_cons, pu_nil, pu_cons, sizeLine_eq, Nat.reduceLT, Nat.reduceLeDiff, Nat.reduceEqDiff, Nat.le_refl, decide_true, decide_false, tPr, dget_us, dput_us, vv_nil, vv_cons, RS.pk_nil, pk_one, RS.pk_cons, inr_eq, tDisp, tPairs, tBoolOwn, rBoolOwn, tBM, rAppend, ty_list, ty_str, rEqOwn, iEnumT, RS.tCallS, tM1, tDc_eq, tLock, tLockE, iKeys, tListEnum, rUpdate, tMkX0, tMkX1, tXfv, gSub, rSetL, List.getD_cons_zero, List.getD_cons_succ, tBreak, tCMethS, ClX.tCVal, tXfa, tIxOwn, tInOwn, tPropG, tMethK, tMethP, tListGen, tDGet2, tDPop2, rNeD0, intA_i, intA_b, tRevL, sFldAug, tPm0, tPm1, tDIn, tDNotIn, tDNewK, RS.tMethS, tForK, tKM, tKC, tLcK, tKM2, tKC2, tMethStar, tKCK2, tLk, tAug, ipI, tDig, tLcX, tKMX, tKCX, tForY, tKCY, tKMY, tYThen, tYPlain, tYYield, tY0, tYIf, GKE.at, tListX])
theorem raw_w : ∀ ps : List Deed, (∀ p ∈ ps, DG p) → wfs (rawD ps) ∧ PyData.depthAll (rawD ps) ≤ 20
  | [], _ => ⟨trivial, by simp [rawD, PyData.depthAll]⟩
  | (k, some d) :: r, h => by
    obtain ⟨a, b⟩ := raw_w r fun p hp => h p (List.mem_cons_of_mem _ hp)
    have h0 := h _ (List.mem_cons_self ..)
    have gd := h0.val d rfl
    have kl := h0.key.len
    have := gd.dep
    exact ⟨⟨trivial, by show k.length ≤ 10000; simp only at kl; omega, gd.wf, a⟩, by simp only [rawD, PyData.depthAll, PyData.depth]; omega⟩
  | (k, none) :: r, h => by
    obtain ⟨a, b⟩ := raw_w r fun p hp => h p (List.mem_cons_of_mem _ hp)
    have kl := (h _ (List.mem_cons_self ..)).key.len
    exact ⟨⟨trivial, by show k.length ≤ 10000; simp only at kl; omega, a⟩, by simp only [rawD, PyData.depthAll, PyData.depth]; omega⟩
theorem rdg_b' {ps : List Deed} (h : ∀ p ∈ ps, DG p) : rdg (txt (.batch ps)) = .batch ps := by
  rcases rdg_txt (x := .batch ps) ⟨fun p hp => (h p hp).key.ok, raw_w ps h⟩ with e | e
  · cases e
  · exact e
theorem rdg_c' {k : Str} {d : PyData} (hk : KW k) (hd : G27 d 2) : rdg (txt (.copy k d)) = .copy k d := by
  rcases rdg_txt (x := .copy k d) ⟨hk.ok, hd.wf, by have := hd.dep; omega⟩ with e | e
  · cases e
  · exact e
theorem rdg_f' {n : Nat} (h : n < 10 ^ 9) : rdg (txt (.fin n)) = .fin n := by
  rcases rdg_txt (x := .fin n) (by show (TL.numL n).length ≤ 100; have := TL.numL_len (n := n) (k := 9) (by decide) h; omega) with e | e
  · cases e
  · exact e
def isS (t : List Nat) : Bool := match rdg t with
  | .strange => true
  | _ => false
theorem isS_of {t : List Nat} (h : isS t = true) : rdg t = .strange := by
  unfold isS at h
  split at h
  · assumption
  · cases h
def sm1 : List Str := ["", "x", "e", "e;", "e01;", "e-1;", "e1", "e1;;", "c", "cs1:k", "cs0:n", "bt", "bf", "bn", "bts1:k", "B"]
def sm2 : List Str := ["bfs0:", "bts1:kns1:k", "e 1;", "cs1:knn", "cns1:k", "bi1;s1:kn"]
def rep3 (c n : Nat) : List Nat := 101 :: (List.replicate n c ++ [59])
def sm3 : List Str := [S (rep3 49 101), S (rep3 57 5000)]
theorem sm_ok : ∀ x ∈ sm1 ++ sm2 ++ sm3, isS x.cps.toList = true ∧ x.length ≤ 6000 := by decide +kernel
def isF (t : List Nat) (n : Nat) : Bool := match rdg t with
  | .fin m => m == n
  | _ => false
theorem isF_of {t : List Nat} {n : Nat} (h : isF t n = true) : rdg t = .fin n := by
  unfold isF at h
  split at h
  · rename_i m e; rw [e, beq_iff_eq.mp h]
  · cases h
theorem big_f : rdg (rep3 49 100) = .fin (10 ^ 50 * 10 ^ 50 / 9) := isF_of (by decide +kernel)
theorem ne_twin {K : PySem.W.Frag} {H : Hp} {Q : VK} {a p : Addr} {d : PyData} (h1 : Dp K H (.ref a) d) (h2 : Dp K H (.ref p) d) (sh : SeqAt.shaped d = true) (ev : PyData.eqv d d = true) (q : Q (.bl false) H) : rNeD K (.ref a) (.ref p) H Q :=
  ⟨d, d, h1, h2, sh, sh, by rw [ev]; exact q⟩
/-- what was told of a batch, a copy and an end -/
def tdD (ps : List Deed) (k : Str) (d : PyData) (m : Nat) : PyData := .list [.str (shB ps), .str (shC k d), .tuple [.str "end", .int (m : Nat)]]
def TD (G : Hp) (T : Addr) (ps : List Deed) (k : Str) (d : PyData) (m : Nat) : Prop := ∃ q : Addr, G T = some (.lst [.str (shB ps), .str (shC k d), .ref q]) ∧ G q = some (.tup [.str "end", .int (m : Nat)])
theorem TD.same {G H : Hp} {T : Addr} {ps : List Deed} {k : Str} {d : PyData} {m : Nat} (h : TD G T ps k d m) (s : Same G H) : TD H T ps k d m := by
  obtain ⟨q, a, b⟩ := h
  exact ⟨q, s _ _ a, s _ _ b⟩
theorem TD.dp {K : PySem.W.Frag} {G : Hp} {T : Addr} {ps : List Deed} {k : Str} {d : PyData} {m : Nat} (h : TD G T ps k d m) : Dp K G (.ref T) (tdD ps k d m) := by
  obtain ⟨q, a, b⟩ := h
  exact .lst (SqL.of a) (.cons (.str _) (.cons (.str _) (.cons (.tup (SqT.of b) (.cons (.str _) (.cons (.int _) .nil))) .nil)))
/-- what repr asks -/
structure Sh (d : PyData) : Prop where
  sh : d.showable = true
  dep : d.depth ≤ 60
  ln : d.shown.length ≤ sizeLine
theorem int_short {m : Nat} (h : m < 10 ^ 9) : (PyData.shown (.int (m : Nat))).length ≤ 13 ∧ m.log2 < 1920 := by
  refine ⟨?_, ?_⟩
  · rw [PyData.shown_int, RS.num_int (i := ((m : Nat) : Int)) (by omega), S_len, Int.toNat_natCast]
    have := TL.numL_len (n := m) (k := 9) (by decide) h
    omega
  · by_cases m0 : m = 0
    · subst m0; decide
    · exact Nat.lt_of_lt_of_le ((Nat.log2_lt m0).mpr (show m < 2 ^ 30 from by omega)) (by decide)
theorem btx_c : ∀ ps : List Deed, (∀ p ∈ ps, DG p) → cpk (btx ps)
  | [], _ => cpk_empty
  | (k, some d) :: r, h => by
    have h0 := h _ (List.mem_cons_self ..)
    have ck : cpk (spell (.str k)) := cpk_app (cpk_app (cpk_app (cpk_of _) (cpk_of _)) (cpk_of _)) h0.key.cp
    have cd : cpk (spell d) := (h0.val d rfl).cp
    exact cpk_app (cpk_app (cpk_app (cpk_of _) ck) cd) (btx_c r fun p hp => h p (List.mem_cons_of_mem _ hp))
  | (k, none) :: r, h => by
    have h0 := h _ (List.mem_cons_self ..)
    have ck : cpk (spell (.str k)) := cpk_app (cpk_app (cpk_app (cpk_of _) (cpk_of _)) (cpk_of _)) h0.key.cp
    exact cpk_app (cpk_app (cpk_of _) ck) (btx_c r fun p hp => h p (List.mem_cons_of_mem _ hp))
theorem sh_two {x : Str} {m : Nat} (hx : cpk x) (hl : x.length ≤ 10000) (hm : m < 10 ^ 9) : Sh (.tuple [.str x, .int (m : Nat)]) := by
  obtain ⟨a, b⟩ := int_short hm
  refine ⟨?_, by simp [PyData.depth, PyData.depthAll], PyData.shown_fits_bulk (B := 13) (by decide) (by decide) ?_ ?_⟩
  · simpa [PyData.showable, PyData.showableAll] using b
  · simp only [PyData.leavesShort, PyData.leavesShortAll, cpk_all hx, Bool.true_and, Bool.and_true, decide_eq_true_eq]
    exact a
  · have : x.cps.size = x.length := rfl
    simp only [PyData.bulk, PyData.bulkAll, this]
    try omega
theorem sh_td {ps : List Deed} {k : Str} {d : PyData} {m : Nat} (dg : ∀ p ∈ ps, DG p) (pl : ps.length ≤ 3) (kw : KW k) (gd : G27 d 2) (hm : m < 10 ^ 9) : Sh (tdD ps k d m) := by
  obtain ⟨a, b⟩ := int_short hm
  have c1 : cpk (shB ps) := cpk_app (cpk_of _) (bat_c fun p hp => (dg p hp).dc)
  have c2 : cpk (shC k d) := cpk_app (cpk_app (cpk_app (cpk_of _) kw.cp) (cpk_of _)) gd.cp
  have l1 : (shB ps).length ≤ 100010 := by
    have := (bat_shown dg pl).2.2.2
    rw [shB, Str.length_append, show (Str.ofString "batch ").length = 6 from by decide +kernel]; omega
  have l2 : (shC k d).length ≤ 2000 := by
    have := kw.len
    have := gd.len
    rw [B27_2] at this
    rw [shC]
    simp only [Str.length_append, show (Str.ofString "copy ").length = 5 from by decide +kernel, show (Str.ofString " ").length = 1 from by decide +kernel]
    omega
  refine ⟨?_, by simp [tdD, PyData.depth, PyData.depthAll], PyData.shown_fits_bulk (B := 13) (by decide) (by decide) ?_ ?_⟩
  · simpa [tdD, PyData.showable, PyData.showableAll] using b
  · simp only [tdD, PyData.leavesShort, PyData.leavesShortAll, cpk_all c1, cpk_all c2, cpk_all (cpk_of "end"), Bool.true_and, Bool.and_true, decide_eq_true_eq]
    exact a
  · have e1 : (shB ps).cps.size = (shB ps).length := rfl
    have e2 : (shC k d).cps.size = (shC k d).length := rfl
    have e3 : (Str.ofString "end").cps.size = 3 := by decide +kernel
    simp only [tdD, PyData.bulk, PyData.bulkAll, e1, e2, e3]
    try omega
/-- the script: where it stands, it is not the state -/
def Scr (K : PySem.W.Frag) (p : Addr) (H : Hp) (a : Addr) (xs : List V) : Prop :=
  (L2.Rd H a (.lst xs) ∧ a ≠ p) ∨ ∀ H' : Hp, SqL K H' a xs
theorem Scr.new {K : PySem.W.Frag} {p a : Addr} {H H' : Hp} {xs : List V} (h : SqL K H a xs) (np : H p = none) (s : Same H H') : Scr K p H' a xs := by
  rcases h with h | h
  · rcases h with h | ⟨o, h⟩
    · exact .inl ⟨.inl (s _ _ h), fun z => by rw [← z, h] at np; cases np⟩
    · exact .inl ⟨.inr ⟨o, s _ _ h⟩, fun z => by rw [← z, h] at np; cases np⟩
  · exact .inr fun _ => .inr h
theorem Scr.but {K : PySem.W.Frag} {p a : Addr} {H H' : Hp} {xs : List V} (h : Scr K p H a xs) (b : But p H H') : Scr K p H' a xs := by
  rcases h with ⟨h | ⟨o, h⟩, ne⟩ | h
  · exact .inl ⟨.inl (b _ _ ne h), ne⟩
  · exact .inl ⟨.inr ⟨o, b _ _ ne h⟩, ne⟩
  · exact .inr h
theorem Scr.same {K : PySem.W.Frag} {p a : Addr} {H H' : Hp} {xs : List V} (h : Scr K p H a xs) (s : Same H H') : Scr K p H' a xs := h.but (.of s)
theorem Scr.sq {K : PySem.W.Frag} {p a : Addr} {H : Hp} {xs : List V} (h : Scr K p H a xs) : SqL K H a xs := by
  rcases h with ⟨h, _⟩ | h
  · exact .inl h
  · exact h H
section
variable {g : Wd} {f C_Shelf : Addr} {fd : FuncData}
theorem sc_law : FnScope ["_law_script", "_law_turn", "_law_state", "_law_again_here", "_law_deeds_so", "_law_many", "_law_word_here", "_law_thing_here", "_law_row", "_law_copy_so", "_law_end_so", "_law_told", "_law_due", "_law_one", "_law_step", "_law_some"] ["_law_script"] (defScope s_law) := ⟨rfl, rfl, rfl, by decide +kernel, rfl, by decide +kernel, by decide +kernel⟩
def sp_law (K : PySem.W.Frag) : Sp := S1 fun v H Q _ => ∃ (a : Addr) (cs : List Int), v = .ref a ∧ SqL K H a (cs.map V.int) ∧ cs.length ≤ 1000 ∧ ∀ H', Q (.bl true) H'
theorem ok_law (F : Df g.K "law" "law" s_law f fd .none) (T : Txt2 g) (F_l_begin : Kn g "_law_begin" 1 ["_law_script", "_law_turn"] [] (sp_begin g.K)) (F_l_draw : Kn g "_law_draw" 1 ["_law_state", "_law_size"] [] sp_draw) (F_l_word : Kn g "_law_word" 3 ["_law_state"] [] sp_word) (F_l_thing : Kn g "_law_thing" 7 ["_law_state", "_law_deep"] [] (sp_thing 3)) (F_l_deeds : Kn g "_law_deeds" 8 ["_law_state", "_law_model"] [] sp_deeds) (F_l_batch : Kn g "_law_batch" 24 ["_law_deeds_so"] [] sp_lbatch) (F_l_composed : Kn g "_law_composed" 29 ["_law_deeds_so"] [] sp_comp) (F_l_pages : Kn g "_law_pages" 1 ["_law_row"] [] sp_lpages) (F_l_spelled : Kn g "_law_spelled" 22 ["_law_thing_here"] [] (sp_spell 21)) (F_l_shape : Kn g "_law_shape" 24 ["_law_told"] [] sp_shape) (F_reading_of : Kn g "reading_of" 51 ["text"] [] sp_reading) (F_l_bent_right : Kn g "_law_bent_right" 52 ["_law_state", "_law_row"] [] sp_bright) (F_batch_text : KnS g "batch_text" 26 (spS 0 sp_btext)) (V_Shelf : Gv g "Shelf" (.ref C_Shelf)) (SMS_Shelf_cost : KsmS g C_Shelf "cost" 27 (spS 0 sp_cost)) : FnG g 54 f fd ["_law_script"] (sp_law g.K) := by
  refine F.ok sc_law (fun vs H Q E h => S1.len h) (fun cdv A outer s H vs Q E hr h => ?_)
  obtain ⟨_, rfl, a, cs, rfl, ha, cl, q⟩ := h
  refine ⟨_, (pss_mid (ps_for psD rfl (pi_range1 rfl T.b_range (pa_cons (pe_op (o_add (K := g.K)) pe_int (pe_callB (call_min2 rfl) (by rfl) T.b_min (by decide +kernel) (pa_cons pe_int (pa_cons (pe_callB (c_len (K := g.K)) (by rfl) T.b_len bb_len (pa_cons (pv 0) pa_nil)) pa_nil)))) pa_nil)) (pg_name (i := 1) sc_law.nd rfl (.inl rfl)) (pss_mid (ps_set (i := 2) sc_law.nd rfl (Or.inl rfl) (pe_callG F_l_begin (hr.mono (by first | decide | omega)) tkD (pa_cons (pv 0) (pa_cons (pv 1) pa_nil))))
      (pss_one (ps_for psD rfl (pi_range1 rfl T.b_range (pa_cons pe_int pa_nil)) (pg_name (i := 3) sc_law.nd rfl (.inl rfl)) (pss_mid (ps_par (i := 4) (j := 5) (by rfl) sc_law.nd rfl rfl (by decide) rfl rfl (pa_cons (pe_callG F_l_deeds (hr.mono (by first | decide | omega)) tkD (pa_cons (pv 2) (pa_cons (pe_lst pa_nil) pa_nil))) (pa_cons (pe_callG F_l_draw (hr.mono (by first | decide | omega)) tkD (pa_cons (pv 2) (pa_cons (pe_op op_pow pe_int pe_int) pa_nil))) pa_nil)) (by rfl))
      (pss_mid (ps_par (i := 6) (j := 7) (by rfl) sc_law.nd rfl rfl (by decide) rfl rfl (pa_cons (pe_callG F_l_word (hr.mono (by first | decide | omega)) tkD (pa_cons (pv 2) pa_nil)) (pa_cons (pe_callG F_l_thing (hr.mono (by first | decide | omega)) tkD (pa_cons (pv 2) (pa_cons pe_int pa_nil))) pa_nil)) (by rfl))
      (pss_mid (ps_set (i := 8) sc_law.nd rfl (Or.inl rfl) (pe_callG F_l_batch (hr.mono (by first | decide | omega)) tkD (pa_cons (pv 4) pa_nil)))
      (pss_mid (ps_if (pt_cmpR (o_ne (K := g.K) hr) (pe_callB (c_repr (K := g.K) hr) (by rfl) T.b_repr bb_repr (pa_cons (pe_callG F_l_composed (hr.mono (by first | decide | omega)) tkD (pa_cons (pv 4) pa_nil)) pa_nil)) (pe_callB (c_repr (K := g.K) hr) (by rfl) T.b_repr bb_repr (pa_cons (pe_tup (pa_cons (pv 8) (pa_cons (pe_callG F_l_pages (hr.mono (by first | decide | omega)) tkD (pa_cons (pv 8) pa_nil)) pa_nil))) pa_nil)) (nomark _)) (pss_one (ps_ret pe_bl)) pss_nil)
      (pss_mid (ps_set (i := 9) sc_law.nd rfl (Or.inl rfl) (pe_op (o_add (K := g.K)) (pe_op (o_add (K := g.K)) pe_str (pe_callG F_l_spelled (hr.mono (by first | decide | omega)) tkD (pa_cons (pv 6) pa_nil))) (pe_callG F_l_spelled (hr.mono (by first | decide | omega)) tkD (pa_cons (pv 7) pa_nil))))
      (pss_mid (ps_set (i := 10) sc_law.nd rfl (Or.inl rfl) (pe_op (o_add (K := g.K)) (pe_op (o_add (K := g.K)) pe_str (pe_callTy call_str_int (by rfl) T.b_str bb_str (pa_cons (pv 5) pa_nil))) pe_str))
      (pss_mid (ps_set (i := 11) sc_law.nd rfl (Or.inl rfl) (pe_lst (pa_cons (pe_callG F_l_shape (hr.mono (by first | decide | omega)) tkD (pa_cons (pe_callG F_reading_of (hr.mono (by first | decide | omega)) tkD (pa_cons (pv 8) pa_nil)) pa_nil)) (pa_cons (pe_callG F_l_shape (hr.mono (by first | decide | omega)) tkD (pa_cons (pe_callG F_reading_of (hr.mono (by first | decide | omega)) tkD (pa_cons (pv 9) pa_nil)) pa_nil)) (pa_cons (pe_callG F_reading_of (hr.mono (by first | decide | omega)) tkD (pa_cons (pv 10) pa_nil)) pa_nil)))))
      (pss_mid (ps_set (i := 12) sc_law.nd rfl (Or.inl rfl) (pe_lst (pa_cons (pe_callG F_l_shape (hr.mono (by first | decide | omega)) tkD (pa_cons (pe_tup (pa_cons pe_str (pa_cons (pv 4) pa_nil))) pa_nil)) (pa_cons (pe_callG F_l_shape (hr.mono (by first | decide | omega)) tkD (pa_cons (pe_tup (pa_cons pe_str (pa_cons (pv 6) (pa_cons (pv 7) pa_nil)))) pa_nil)) (pa_cons (pe_tup (pa_cons pe_str (pa_cons (pv 5) pa_nil))) pa_nil)))))
      (pss_mid (ps_if (pt_cmpR (o_ne (K := g.K) hr) (pe_callB (c_repr (K := g.K) hr) (by rfl) T.b_repr bb_repr (pa_cons (pv 11) pa_nil)) (pe_callB (c_repr (K := g.K) hr) (by rfl) T.b_repr bb_repr (pa_cons (pv 12) pa_nil)) (nomark _)) (pss_one (ps_ret pe_bl)) pss_nil)
      (pss_one (ps_for psD rfl (i_tup (K := g.K) (pe_tup (pa_cons (pv 8) (pa_cons (pv 9) (pa_cons (pv 10) pa_nil))))) (pg_name (i := 13) sc_law.nd rfl (.inl rfl)) (pss_one (ps_for psD rfl (pi_range1 rfl T.b_range (pa_cons pe_int pa_nil)) (pg_name (i := 14) sc_law.nd rfl (.inl rfl)) (pss_one (ps_if (pt_not (pt_val (pe_callG F_l_bent_right (hr.mono (by first | decide | omega)) tkD (pa_cons (pv 2) (pa_cons (pv 13) pa_nil))))) (pss_one (ps_ret pe_bl)) pss_nil)))))))))))))))))))
      (pss_mid (ps_set (i := 15) sc_law.nd rfl (Or.inl rfl) (pe_lst (pa_cons pe_str (pa_cons pe_str (pa_cons pe_str (pa_cons pe_str (pa_cons pe_str (pa_cons pe_str (pa_cons pe_str (pa_cons pe_str (pa_cons pe_str (pa_cons pe_str (pa_cons pe_str (pa_cons pe_str (pa_cons pe_str (pa_cons pe_str (pa_cons pe_str (pa_cons pe_str pa_nil))))))))))))))))))
      (pss_mid (ps_set (i := 15) sc_law.nd rfl (Or.inl rfl) (pe_op (o_add (K := g.K)) (pv 15) (pe_lst (pa_cons pe_str (pa_cons pe_str (pa_cons pe_str (pa_cons pe_str (pa_cons pe_str (pa_cons pe_str pa_nil)))))))))
      (pss_mid (ps_set (i := 15) sc_law.nd rfl (Or.inl rfl) (pe_op (o_add (K := g.K)) (pv 15) (pe_lst (pa_cons (pe_op (o_add (K := g.K)) (pe_op (o_add (K := g.K)) pe_str (pe_op o_mul pe_str pe_int)) pe_str) (pa_cons (pe_op (o_add (K := g.K)) (pe_op (o_add (K := g.K)) pe_str (pe_op o_mul pe_str pe_int)) pe_str) pa_nil)))))
      (pss_mid (ps_if (pt_cmpR (o_ne (K := g.K) hr) (pe_lc (own := [("_law_one", 13)]) rfl sc_law.nd (i_list (K := g.K) (pv 15)) (blkOk_by (own := [("_law_one", 13)]) (N := ["_law_script", "_law_turn", "_law_state", "_law_again_here", "_law_deeds_so", "_law_many", "_law_word_here", "_law_thing_here", "_law_row", "_law_copy_so", "_law_end_so", "_law_told", "_law_due", "_law_one", "_law_step", "_law_some"]) (sc := defScope s_law) (by decide +kernel)) (fun _ _ _ _ _ => (pg_name (i := 13) sc_law.nd rfl (.inl rfl))) (fun _ _ _ _ _ => (pts_one (pt_cmpR (o_ne (K := g.K) (Rm.mk hr.room hr.gd)) (pe_callG F_reading_of (Rm.mono (Rm.mk hr.room hr.gd) (by first | decide | omega)) L2.takes0 (pa_cons (pv 13) pa_nil)) (pe_tup (pa_cons pe_str pa_nil)) (nomark _)))) (fun _ _ _ _ _ => (pv 13))) (pe_lst pa_nil) (nomark _)) (pss_one (ps_ret pe_bl)) pss_nil)
      (pss_mid (ps_if (pt_cmpR (o_ne (K := g.K) hr) (pe_callG F_reading_of (hr.mono (by first | decide | omega)) tkD (pa_cons (pe_op (o_add (K := g.K)) (pe_op (o_add (K := g.K)) pe_str (pe_op o_mul pe_str pe_int)) pe_str) pa_nil)) (pe_tup (pa_cons pe_str (pa_cons (pe_op op_fdiv (pe_op op_mulW (pe_op op_pow pe_int pe_int) (pe_op op_pow pe_int pe_int)) pe_int) pa_nil))) (nomark _)) (pss_one (ps_ret pe_bl)) pss_nil)
      (pss_one (ps_ret (pe_cmpR (o_eq (K := g.K) hr) (pe_lst (pa_cons (pe_callG F_reading_of (hr.mono (by first | decide | omega)) tkD (pa_cons pe_str pa_nil)) (pa_cons (pe_callG F_reading_of (hr.mono (by first | decide | omega)) tkD (pa_cons pe_str pa_nil)) (pa_cons (pe_callS0 F_batch_text (hr.mono (by first | decide | omega)) tkD) (pa_cons (RS.pe_smS0 (e_g V_Shelf) SMS_Shelf_cost (hr.mono (by first | decide | omega)) tkD) pa_nil))))) (pe_lst (pa_cons (pe_tup (pa_cons pe_str (pa_cons (pe_tup pa_nil) pa_nil))) (pa_cons (pe_tup (pa_cons pe_str (pa_cons pe_int pa_nil))) (pa_cons pe_str (pa_cons pe_int pa_nil))))) (nomark _)))))))))), ?_⟩
  refine mid_at (fun σ G => (∃ v1 v2 v3 v4 v5 v6 v7 v8 v9 v10 v11 v12 v13 v14 v15, σ = [some (.ref a), v1, v2, v3, v4, v5, v6, v7, v8, v9, v10, v11, v12, v13, v14, v15]) ∧ True) ?_ ?_
  · walk_at "sx"
    refine .inl ⟨_, .inl ha, by split <;> omega, by split <;> omega, ?_⟩
    refine for_by (1 + if ((cs.map V.int).length : Int) < 4 then ((cs.map V.int).length : Int) else 4).toNat (fun i σ X => (∃ v1 v2 v3 v4 v5 v6 v7 v8 v9 v10 v11 v12 v13 v14 v15, σ = [some (.ref a), v1, v2, v3, v4, v5, v6, v7, v8, v9, v10, v11, v12, v13, v14, v15]) ∧ SqL g.K X a (cs.map V.int)) ⟨⟨_, _, _, _, _, _, _, _, _, _, _, _, _, _, _, rfl⟩, ha⟩ (fun i σ X lt P => by simpa [Itr] using lt) (fun σ X P => by simp [Itr]; omega) (fun i σ X z X' lt P yl => ?_) (fun σ X P => by obtain ⟨h, _⟩ := P; simpa using h)
    obtain ⟨⟨v1, v2, v3, v4, v5, v6, v7, v8, v9, v10, v11, v12, v13, v14, v15, rfl⟩, ha⟩ := P
    obtain ⟨rfl, rfl⟩ := yl
    have i4 : i < 5 := by
      clear q
      split at lt <;> omega
    refine mid_at (fun σ G => ∃ (p : Addr) (v3 v4 v5 v6 v7 v8 v9 v10 v11 v12 v13 v14 v15 : Option V), σ = [some (.ref a), some (.int (0 + (i : Nat))), some (.ref p), v3, v4, v5, v6, v7, v8, v9, v10, v11, v12, v13, v14, v15] ∧ Drw G p 0 ∧ Scr g.K p G a (cs.map V.int)) ?_ ?_
    · walk_at "sx"
      refine ⟨_, _, rfl, a, cs, 0 + (i : Nat), rfl, ha, rfl, by omega, by omega, cl, fun p H' np s S0 => ?_⟩
      exact ⟨p, rfl, S0, Scr.new ha np s⟩
    rintro _ G ⟨p, v3, v4, v5, v6, v7, v8, v9, v10, v11, v12, v13, v14, v15, rfl, S0, ha⟩
    walk_at "sx"
    refine ⟨by decide, by decide, ?_⟩
    refine for_by (Int.toNat 3) (fun j σ X => (∃ v3 v4 v5 v6 v7 v8 v9 v10 v11 v12 v13 v14 v15, σ = [some (.ref a), some (.int (0 + (i : Nat))), some (.ref p), v3, v4, v5, v6, v7, v8, v9, v10, v11, v12, v13, v14, v15]) ∧ Drw X p (j * 300) ∧ Scr g.K p X a (cs.map V.int)) ⟨⟨_, _, _, _, _, _, _, _, _, _, _, _, _, rfl⟩, by simpa using S0, ha⟩ (fun i σ X lt P => by simpa [Itr] using lt) (fun σ X P => by simp [Itr]) (fun j σ X z X' lt P yl => ?_) (fun σ X P => ?_)
    rotate_left
    · obtain ⟨⟨v3, v4, v5, v6, v7, v8, v9, v10, v11, v12, v13, v14, v15, rfl⟩, _, hx⟩ := P
      exact ⟨⟨_, _, _, _, _, _, _, _, _, _, _, _, _, _, _, rfl⟩, hx.sq⟩
    obtain ⟨⟨v3, v4, v5, v6, v7, v8, v9, v10, v11, v12, v13, v14, v15, rfl⟩, SX, ha⟩ := P
    obtain ⟨rfl, rfl⟩ := yl
    refine mid_at (fun σ G => ∃ (D : Addr) (xs : List V) (ps : List Deed) (m : Nat) (v6 v7 v8 v9 v10 v11 v12 v13 v14 v15 : Option V), σ = [some (.ref a), some (.int (0 + (i : Nat))), some (.ref p), some (.int (0 + (j : Nat))), some (.ref D), some (.int (m : Nat)), v6, v7, v8, v9, v10, v11, v12, v13, v14, v15] ∧ Drw G p (j * 300 + 201) ∧ Scr g.K p G a (cs.map V.int) ∧ G D = some (.lst xs) ∧ D ≠ p ∧ Paired (DdAt [p] G) xs ps ∧ (∀ q ∈ ps, DG q) ∧ 1 ≤ ps.length ∧ ps.length ≤ 3 ∧ m < 10 ^ 9) ?_ ?_
    · walk_at "sx"
      have j3 : j < 3 := lt
      intro p1 np
      have sp := same_upd (o := HO.lst []) np
      have Sp := SX.same sp
      have pp1 : p1 ≠ p := SX.ne np
      refine ⟨_, _, rfl, p, p1, j * 300, rfl, rfl, upd_same, pp1, Sp, by omega, fun L xs ps H' nL eL pr dg l1 l3 SL bL => ?_⟩
      have Lp : L ≠ p := Sp.ne nL
      refine ⟨⟨by decide, by decide, by decide⟩, _, _, rfl, p, _, 10 ^ 9, rfl, rfl, by decide, by decide, SL, by omega, fun r H2 r0 r1 S2 b2 => ?_⟩
      obtain ⟨m, rfl⟩ := Int.eq_ofNat_of_zero_le r0
      have nt : ∀ ys, H' p ≠ some (.tup ys) := fun ys z => by obtain ⟨_, _, _, h1, _⟩ := SL; rw [h1] at z; cases z
      exact ⟨L, rfl, xs, ps, m, rfl, S2, ((ha.same sp).but bL).but b2, b2 _ _ Lp eL, Lp, paired_imp pr fun _ _ h => h.but (by simp) nt b2, dg, l1, l3, by omega⟩
    rintro _ G0 ⟨D, xs, ps, m, v6, v7, v8, v9, v10, v11, v12, v13, v14, v15, rfl, S1, ha, eD, Dne, pr, dg, l1, l3, mm⟩
    refine mid_at (fun σ G => ∃ (k : Str) (u : V) (d : PyData) (fp : List Addr) (v8 v9 v10 v11 v12 v13 v14 v15 : Option V), σ = [some (.ref a), some (.int (0 + (i : Nat))), some (.ref p), some (.int (0 + (j : Nat))), some (.ref D), some (.int (m : Nat)), some (.str k), some u, v8, v9, v10, v11, v12, v13, v14, v15] ∧ Drw G p (j * 300 + 240) ∧ But p G0 G ∧ KW k ∧ Tr G u d fp ∧ G27 d 2 ∧ p ∉ fp) ?_ ?_
    · walk_at "sx"
      have j3 : j < 3 := lt
      refine ⟨_, rfl, p, _, rfl, S1, by omega, fun k H' kw S2 b2 => ?_⟩
      refine ⟨_, _, rfl, p, _, 2, rfl, rfl, by decide, by decide, S2, by have : c27 2 = 36 := rfl; omega, fun u d fp H3 tu gd nf S3 b3 => ?_⟩
      have c2 : c27 2 = 36 := rfl
      refine ⟨k, rfl, S3.up (by omega), b2.trans b3, kw, d, fp, tu, gd, ?_⟩
      obtain ⟨_, _, _, h1, _⟩ := S2
      exact not_in nf h1
    rintro _ G1 ⟨k, u, d, fp, v8, v9, v10, v11, v12, v13, v14, v15, rfl, S2, b1, kw, tu, gd, pf⟩
    have j3 : j < 3 := lt
    have nt0 : ∀ ys, G0 p ≠ some (.tup ys) := fun ys z => by obtain ⟨_, _, _, h1, _⟩ := S1; rw [h1] at z; cases z
    have pr1 : Paired (DdAt [] G1) xs ps := paired_imp pr fun _ _ h => (h.but (by simp) nt0 b1).less (by simp)
    have eD1 := b1 _ _ Dne eD
    have ha1 := ha.but b1
    have e1 : (("b" : Str) ++ btx ps) = S (txt (.batch ps)) := V.str.inj (agn_txt (x := .batch ps) (by simp))
    have e2 : (("c" : Str) ++ spell (.str k) ++ spell d) = S (txt (.copy k d)) := V.str.inj (agn_txt (x := .copy k d) (by simp))
    have e3 : (("e" : Str) ++ num m ++ ";") = S (txt (.fin m)) := V.str.inj (agn_txt (x := .fin m) (by simp))
    have w1 := rdg_b' dg
    have w2 := rdg_c' kw gd
    have w3 := rdg_f' mm
    have len1 : (("b" : Str) ++ btx ps).length ≤ 6001 := by
      have := btx_len ps dg
      rw [Str.length_append, show (Str.ofString "b").length = 1 from by decide +kernel]; omega
    have len2 : (("c" : Str) ++ spell (.str k) ++ spell d).length ≤ 100000 := by
      have g1 := gd.len
      rw [B27_2] at g1
      have ks : (spell (.str k)).length ≤ 300 := key_sl kw.ok
      simp only [Str.length_append, show (Str.ofString "c").length = 1 from by decide +kernel]; omega
    have len3 : (("e" : Str) ++ num m ++ ";").length ≤ 100000 := by
      have i1 := (int_short mm).1
      rw [PyData.shown_int] at i1
      have : (num m).length ≤ 13 := i1
      simp only [Str.length_append, show (Str.ofString "e").length = 1 from by decide +kernel, show (Str.ofString ";").length = 1 from by decide +kernel]; omega
    refine mid_at (fun σ G => σ = [some (.ref a), some (.int (0 + (i : Nat))), some (.ref p), some (.int (0 + (j : Nat))), some (.ref D), some (.int (m : Nat)), some (.str k), some u, some (.str (S (txt (.batch ps)))), v9, v10, v11, v12, v13, v14, v15] ∧ Same G1 G) ?_ ?_
    · walk_at "sx"
      exact ⟨_, rfl, D, xs, ps, rfl, .inl eD1, pr1, fun q hq => (dg q hq).ok2, by omega, by omega, fun H' s => ⟨by rw [e1], s⟩⟩
    rintro _ G2 ⟨rfl, s2⟩
    refine mid_at (fun σ G => σ = [some (.ref a), some (.int (0 + (i : Nat))), some (.ref p), some (.int (0 + (j : Nat))), some (.ref D), some (.int (m : Nat)), some (.str k), some u, some (.str (S (txt (.batch ps)))), v9, v10, v11, v12, v13, v14, v15] ∧ Same G1 G) ?_ ?_
    · walk_at "sx"
      refine ⟨_, rfl, D, xs, ps, rfl, s2 _ _ eD1, paired_imp pr1 fun _ _ h => h.same s2, dg, l1, l3, fun q1 H3 s3 eq1 => ?_⟩
      have hsh : Sh (.tuple [.str (("b" : Str) ++ btx ps), .int ((pgs (("b" : Str) ++ btx ps) : Nat) : Int)]) := sh_two (cpk_app (cpk_of _) (btx_c ps dg)) (by omega) (by unfold pgs; omega)
      refine ⟨q1, _, rfl, .tup (SqT.of eq1) (.cons (.str _) (.cons (.int _) .nil)), hsh.sh, hsh.dep, hsh.ln, ?_⟩
      refine ⟨_, rfl, _, rfl, by rw [← e1]; omega, fun p3 np3 => ?_⟩
      rw [← e1]
      refine ⟨p3, _, rfl, .tup (SqT.of upd_same) (.cons (.str _) (.cons (.int _) .nil)), hsh.sh, hsh.dep, hsh.ln, ?_⟩
      show rNeU g.K (.str _) (.str _) _ _
      rw [RS.ne_ss]
      refine ⟨_, rfl, ?_⟩
      rw [if_neg (by simp [pgs])]
      exact (s2.trans s3).trans (same_upd np3)
    rintro _ G3 ⟨rfl, s3⟩
    refine mid_at (fun σ G => σ = [some (.ref a), some (.int (0 + (i : Nat))), some (.ref p), some (.int (0 + (j : Nat))), some (.ref D), some (.int (m : Nat)), some (.str k), some u, some (.str (S (txt (.batch ps)))), some (.str (S (txt (.copy k d)))), v10, v11, v12, v13, v14, v15] ∧ Same G1 G) ?_ ?_
    · walk_at "sx"
      have kl := kw.len
      have g1 := gd.len
      have g2 := gd.dep
      rw [B27_2] at g1
      have szl := sizeLine_eq
      have ks : (spell (.str k)).length ≤ 300 := key_sl kw.ok
      have c1 : (Str.ofString "c").length = 1 := by decide +kernel
      refine ⟨_, rfl, .str k, [], .str k, by simp [okB]; omega, by simp [PyData.depth], by omega, fun H4 s4 => ⟨by rw [c1]; omega, ?_⟩⟩
      refine ⟨_, rfl, d, fp, (tu.same s3).same s4, gd.ok, by omega, by omega, fun H5 s5 => ⟨by rw [Str.length_append, c1]; omega, by rw [e2], (s3.trans s4).trans s5⟩⟩
    rintro _ G4 ⟨rfl, s4⟩
    refine mid_at (fun σ G => σ = [some (.ref a), some (.int (0 + (i : Nat))), some (.ref p), some (.int (0 + (j : Nat))), some (.ref D), some (.int (m : Nat)), some (.str k), some u, some (.str (S (txt (.batch ps)))), some (.str (S (txt (.copy k d)))), some (.str (S (txt (.fin m)))), v11, v12, v13, v14, v15] ∧ Same G1 G) ?_ ?_
    · walk_at "sx"
      obtain ⟨i1, i2⟩ := int_short mm
      have nl : (Str.ofString (toString ((m : Nat) : Int))).length ≤ 13 := by rw [← PyData.shown_int]; exact i1
      have c1 : (Str.ofString "e").length = 1 := by decide +kernel
      have c2 : (Str.ofString ";").length = 1 := by decide +kernel
      exact ⟨by rw [Int.natAbs_natCast]; exact i2, by rw [c1]; omega, by rw [Str.length_append, c1, c2]; omega, e3, s4⟩
    rintro _ G5 ⟨rfl, s5⟩
    refine mid_at (fun σ G => ∃ T1, σ = [some (.ref a), some (.int (0 + (i : Nat))), some (.ref p), some (.int (0 + (j : Nat))), some (.ref D), some (.int (m : Nat)), some (.str k), some u, some (.str (S (txt (.batch ps)))), some (.str (S (txt (.copy k d)))), some (.str (S (txt (.fin m)))), some (.ref T1), v12, v13, v14, v15] ∧ Same G1 G ∧ TD G T1 ps k d m) ?_ ?_
    · walk_at "sx"
      refine ⟨_, rfl, _, rfl, by rw [← S_len, ← e1]; omega, fun v1 H1 t1 h1 => ?_⟩
      rw [w1] at h1
      obtain ⟨a1, rfl, L1, y1, x1, x2, x3⟩ := h1
      refine ⟨_, rfl, .inl ⟨ps, a1, L1, y1, rfl, x1, .inr x2, x3, dg, l3, fun H2 t2 => ?_⟩⟩
      refine ⟨_, rfl, _, rfl, by rw [← S_len, ← e2]; omega, fun v2 H3 t3 h2 => ?_⟩
      rw [w2] at h2
      obtain ⟨a2, rfl, u2, f2, x4, x5⟩ := h2
      refine ⟨_, rfl, .inr ⟨a2, k, u2, d, f2, rfl, x4, kw, x5, gd, fun H4 t4 => ?_⟩⟩
      refine ⟨_, rfl, _, rfl, by rw [← S_len, ← e3]; omega, fun v3 H5 t5 h3 => ?_⟩
      rw [w3] at h3
      obtain ⟨a3, rfl, x6⟩ := h3
      intro q1 nq
      have sq := same_upd (o := HO.lst [V.str (shB ps), V.str (shC k d), V.ref a3]) nq
      exact ⟨((((((s5.trans t1).trans t2).trans t3).trans t4).trans t5).trans sq), a3, upd_same, sq _ _ x6⟩
    rintro _ G6 ⟨T1, rfl, s6, dp6⟩
    refine mid_at (fun σ G => ∃ T2, σ = [some (.ref a), some (.int (0 + (i : Nat))), some (.ref p), some (.int (0 + (j : Nat))), some (.ref D), some (.int (m : Nat)), some (.str k), some u, some (.str (S (txt (.batch ps)))), some (.str (S (txt (.copy k d)))), some (.str (S (txt (.fin m)))), some (.ref T1), some (.ref T2), v13, v14, v15] ∧ Same G1 G ∧ TD G T1 ps k d m ∧ TD G T2 ps k d m) ?_ ?_
    · walk_at "sx"
      intro q1 n1
      have t1 := same_upd (o := HO.tup [V.str (Str.ofString "batch"), V.ref D]) n1
      have s61 := s6.trans t1
      refine ⟨_, rfl, .inl ⟨ps, q1, D, xs, rfl, upd_same, .inl (s61 _ _ eD1), paired_imp pr1 fun _ _ h => h.same s61, dg, l3, fun H2 t2 q2 n2 => ?_⟩⟩
      have t3 := same_upd (o := HO.tup [V.str (Str.ofString "copy"), V.str k, u]) n2
      have s63 := (s61.trans t2).trans t3
      refine ⟨_, rfl, .inr ⟨q2, k, u, d, fp, rfl, upd_same, kw, tu.same s63, gd, fun H4 t4 q3 n3 q4 n4 => ?_⟩⟩
      have t5 := same_upd (o := HO.tup [V.str (Str.ofString "end"), V.int (m : Nat)]) n3
      have t6 := same_upd (o := HO.lst [V.str (shB ps), V.str (shC k d), V.ref q3]) n4
      have all : Same G6 _ := ((((t1.trans t2).trans t3).trans t4).trans t5).trans t6
      exact ⟨s6.trans all, dp6.same all, q3, upd_same, t6 _ _ upd_same⟩
    rintro _ G7 ⟨T2, rfl, s7, dp7, dp7'⟩
    refine mid_at (fun σ G => σ = [some (.ref a), some (.int (0 + (i : Nat))), some (.ref p), some (.int (0 + (j : Nat))), some (.ref D), some (.int (m : Nat)), some (.str k), some u, some (.str (S (txt (.batch ps)))), some (.str (S (txt (.copy k d)))), some (.str (S (txt (.fin m)))), some (.ref T1), some (.ref T2), v13, v14, v15] ∧ Same G1 G) ?_ ?_
    · walk_at "sx"
      have hsh := sh_td dg l3 kw gd mm
      refine ⟨T1, _, rfl, dp7.dp, hsh.sh, hsh.dep, hsh.ln, ?_⟩
      refine ⟨T2, _, rfl, dp7'.dp, hsh.sh, hsh.dep, hsh.ln, ?_⟩
      show rNeU g.K (.str _) (.str _) _ _
      rw [RS.ne_ss]
      refine ⟨_, rfl, ?_⟩
      rw [if_neg (by simp)]
      exact s7
    rintro _ G8 ⟨rfl, s8⟩
    walk_at "sx"
    intro p1 np
    have sp := same_upd (o := HO.tup [V.str (S (txt (.batch ps))), V.str (S (txt (.copy k d))), V.str (S (txt (.fin m)))]) np
    have e0 : upd G8 p1 (.tup [V.str (S (txt (.batch ps))), V.str (S (txt (.copy k d))), V.str (S (txt (.fin m)))]) p1 = some (.tup [V.str (S (txt (.batch ps))), V.str (S (txt (.copy k d))), V.str (S (txt (.fin m)))]) := upd_same
    have S8 := (S2.same s8).same sp
    have ha8 := (ha1.same s8).same sp
    have p1p : p1 ≠ p := (S2.same s8).ne np
    generalize upd G8 p1 (.tup [V.str (S (txt (.batch ps))), V.str (S (txt (.copy k d))), V.str (S (txt (.fin m)))]) = G9 at sp e0 S8 ha8 ⊢
    refine ⟨⟨_, SqT.of e0⟩, ?_⟩
    have good : ∀ (s : Nat) (x : V), [V.str (S (txt (.batch ps))), V.str (S (txt (.copy k d))), V.str (S (txt (.fin m)))][s]? = some x → ∃ t : List Nat, x = .str (S t) ∧ 1 ≤ t.length ∧ t.length ≤ 100000 ∧ rdg t ≠ .strange := fun s x hx => by
      match s, hx with
      | 0, hx =>
        cases hx
        refine ⟨_, rfl, by simp [txt], ?_, by rw [w1]; simp⟩
        rw [← S_len, ← e1]; omega
      | 1, hx =>
        cases hx
        refine ⟨_, rfl, by simp [txt], ?_, by rw [w2]; simp⟩
        rw [← S_len, ← e2]; omega
      | 2, hx =>
        cases hx
        refine ⟨_, rfl, by simp [txt], ?_, by rw [w3]; simp⟩
        rw [← S_len, ← e3]; omega
    refine for_by 3 (fun s σ X => (∃ v13 v14 v15, σ = [some (.ref a), some (.int (0 + (i : Nat))), some (.ref p), some (.int (0 + (j : Nat))), some (.ref D), some (.int (m : Nat)), some (.str k), some u, some (.str (S (txt (.batch ps)))), some (.str (S (txt (.copy k d)))), some (.str (S (txt (.fin m)))), some (.ref T1), some (.ref T2), v13, v14, v15]) ∧ Drw X p (j * 300 + 240 + s * 12) ∧ Scr g.K p X a (cs.map V.int) ∧ X p1 = some (.tup [V.str (S (txt (.batch ps))), V.str (S (txt (.copy k d))), V.str (S (txt (.fin m)))])) ⟨⟨_, _, _, rfl⟩, by simpa using S8, ha8, e0⟩ (fun s σ X lt P => ?_) (fun σ X P => ⟨_, SqT.of P.2.2.2, Nat.le_refl _⟩) (fun s σ X z X' lt P yl => ?_) (fun σ X P => ?_)
    · exact ⟨_, _, SqT.of P.2.2.2, List.getElem?_eq_getElem lt⟩
    · obtain ⟨⟨v13, v14, v15, rfl⟩, SX, haX, e0X⟩ := P
      obtain ⟨rfl, hx⟩ := yl
      have hx := hx _ (SqT.of e0X)
      obtain ⟨t, rfl, t1, tl, ht⟩ := good s z hx
      have s3 : s < 3 := lt
      walk_at "sx"
      refine ⟨by decide, by decide, ?_⟩
      refine for_by (Int.toNat 4) (fun w σ X => (∃ v14 v15, σ = [some (.ref a), some (.int (0 + (i : Nat))), some (.ref p), some (.int (0 + (j : Nat))), some (.ref D), some (.int (m : Nat)), some (.str k), some u, some (.str (S (txt (.batch ps)))), some (.str (S (txt (.copy k d)))), some (.str (S (txt (.fin m)))), some (.ref T1), some (.ref T2), some (.str (S t)), v14, v15]) ∧ Drw X p (j * 300 + 240 + s * 12 + w * 3) ∧ Scr g.K p X a (cs.map V.int) ∧ X p1 = some (.tup [V.str (S (txt (.batch ps))), V.str (S (txt (.copy k d))), V.str (S (txt (.fin m)))])) ⟨⟨_, _, rfl⟩, by simpa using SX, haX, e0X⟩ (fun i σ X lt P => by simpa [Itr] using lt) (fun σ X P => by simp [Itr]) (fun w σ X z X' lt P yl => ?_) (fun σ X P => ?_)
      · obtain ⟨⟨v14, v15, rfl⟩, SX, haX, e0X⟩ := P
        obtain ⟨rfl, rfl⟩ := yl
        have w4 : w < 4 := lt
        walk_at "sx"
        refine ⟨_, _, rfl, p, _, t, rfl, rfl, t1, tl, ht, SX, by omega, fun H' S' b' => ?_⟩
        refine ⟨_, rfl, ?_⟩
        rw [if_neg (by simp)]
        exact ⟨⟨_, rfl⟩, S'.up (by omega), haX.but b', b' _ _ p1p e0X⟩
      · obtain ⟨⟨v14, v15, rfl⟩, SX, haX, e0X⟩ := P
        exact ⟨⟨_, _, _, rfl⟩, SX.up (by show _ + Int.toNat 4 * 3 ≤ _; simp; omega), haX, e0X⟩
    · obtain ⟨⟨v13, v14, v15, rfl⟩, SX, haX, e0X⟩ := P
      exact ⟨⟨_, _, _, _, _, _, _, _, _, _, _, _, _, rfl⟩, SX.up (by omega), haX⟩
  rintro _ G ⟨⟨v1, v2, v3, v4, v5, v6, v7, v8, v9, v10, v11, v12, v13, v14, v15, rfl⟩, -⟩
  refine mid_at (fun σ G => ∃ L : Addr, σ = [some (.ref a), v1, v2, v3, v4, v5, v6, v7, v8, v9, v10, v11, v12, v13, v14, some (.ref L)] ∧ G L = some (.lst (sm1.map V.str))) ?_ ?_
  · walk_at "sx"
    exact fun L hL => rfl
  rintro _ G1 ⟨L1, rfl, e1⟩
  refine mid_at (fun σ G => ∃ L : Addr, σ = [some (.ref a), v1, v2, v3, v4, v5, v6, v7, v8, v9, v10, v11, v12, v13, v14, some (.ref L)] ∧ G L = some (.lst ((sm1 ++ sm2).map V.str))) ?_ ?_
  · walk_at "sx"
    intro p np
    have sp := same_upd (o := HO.lst (sm2.map V.str)) np
    refine .inl ⟨L1, p, sm1.map V.str, sm2.map V.str, rfl, rfl, sp _ _ e1, upd_same, by rw [sizeLine_eq]; decide, fun p2 np2 => ⟨p2, rfl, ?_⟩⟩
    rw [List.map_append]
    exact upd_same
  rintro _ G2 ⟨Lb2, rfl, e2⟩
  refine mid_at (fun σ G => ∃ L : Addr, σ = [some (.ref a), v1, v2, v3, v4, v5, v6, v7, v8, v9, v10, v11, v12, v13, v14, some (.ref L)] ∧ G L = some (.lst ((sm1 ++ sm2 ++ sm3).map V.str))) ?_ ?_
  · walk_at "sx"
    have o1 : repS (Str.ofString "1") (Int.toNat 101) = S (List.replicate 101 49) := by
      rw [show (Str.ofString "1") = S [49] from by decide +kernel]
      walk_at "st"
      rfl
    have o9 : repS (Str.ofString "9") (Int.toNat 5000) = S (List.replicate 5000 57) := by
      rw [show (Str.ofString "9") = S [57] from by decide +kernel]
      walk_at "st"
      rfl
    have ee : (Str.ofString "e") = S [101] := by decide +kernel
    have es : (Str.ofString ";") = S [59] := by decide +kernel
    rw [o1, o9, ee, es]
    simp only [S_cat, S_len, List.length_append, List.length_replicate, List.length_cons, List.length_nil]
    refine ⟨by decide, by decide, by rw [show (Str.ofString "1").length = 1 from by decide +kernel]; decide, by decide, by decide, by decide, by decide, by rw [show (Str.ofString "9").length = 1 from by decide +kernel]; decide, by decide, by decide, fun p np => ?_⟩
    have sp := same_upd (o := HO.lst (sm3.map V.str)) np
    refine .inl ⟨Lb2, p, (sm1 ++ sm2).map V.str, sm3.map V.str, rfl, rfl, sp _ _ e2, upd_same, by rw [sizeLine_eq]; decide, fun p2 np2 => ⟨p2, rfl, ?_⟩⟩
    rw [List.map_append]
    exact upd_same
  rintro _ G3 ⟨L3, rfl, e3⟩
  refine mid_at (fun σ G => σ = [some (.ref a), v1, v2, v3, v4, v5, v6, v7, v8, v9, v10, v11, v12, v13, v14, some (.ref L3)]) ?_ ?_
  · walk_at "sx"
    refine ⟨⟨_, SqL.of e3⟩, ?_⟩
    have sl_ : ((sm1 ++ sm2 ++ sm3).map V.str).length = 24 := by decide
    refine lc_inv ((sm1 ++ sm2 ++ sm3).map V.str).length (fun D i acc G => Same G3 G ∧ acc = []) (by rw [sizeLine_eq, sl_]; decide) (fun D hD => ⟨same_upd hD, rfl⟩) (fun D i acc G hD lt P => ⟨_, _, SqL.of (P.1 _ _ e3), List.getElem?_eq_getElem lt⟩) (fun D acc G hD P => ⟨_, SqL.of (P.1 _ _ e3), Nat.le_refl _⟩) (fun D i acc G0 x G1 K K0 hD lt la P eD y kk k0 => ?_) (fun D acc G1 hD P eD => ?_)
    · obtain ⟨rfl, hx⟩ := y
      obtain ⟨s1, rfl⟩ := P
      have hx := hx _ (SqL.of (s1 _ _ e3))
      obtain ⟨t, ht, rfl⟩ := List.mem_map.mp (List.mem_of_getElem? hx)
      obtain ⟨o1, o2⟩ := sm_ok t ht
      refine ⟨rfl, ?_⟩
      walk_at "sx"
      refine ⟨_, rfl, t.cps.toList, by rw [str_S], by rw [str_len]; omega, fun v H2 s2 hv => ?_⟩
      rw [isS_of o1] at hv
      obtain ⟨q1, rfl, hq⟩ := hv
      intro p np
      have sp := same_upd (o := HO.tup [V.str (Str.ofString "strange")]) np
      show rNeU g.K (.ref q1) (.ref p) _ _
      rw [RS.ne_rr]
      refine ne_twin (d := .tuple [.str "strange"]) (.tup (SqT.of (sp _ _ hq)) (.cons (.str _) .nil)) (.tup (SqT.of upd_same) (.cons (.str _) .nil)) (by decide +kernel) (by decide +kernel) ?_
      refine ⟨_, rfl, ?_⟩
      rw [if_neg (by simp)]
      exact k0 _ (sp _ _ (s2 _ _ eD)) ⟨(s1.trans s2).trans sp, rfl⟩
    · obtain ⟨s1, rfl⟩ := P
      intro p np
      have sp := same_upd (o := HO.lst []) np
      rw [RS.ne_rr]
      refine ne_twin (d := .list []) (.lst (SqL.of (sp _ _ eD)) .nil) (.lst (SqL.of upd_same) .nil) (by decide +kernel) (by decide +kernel) ?_
      refine ⟨_, rfl, ?_⟩
      rw [if_neg (by simp)]
      trivial
  rintro _ G4 rfl
  refine mid_at (fun σ G => σ = [some (.ref a), v1, v2, v3, v4, v5, v6, v7, v8, v9, v10, v11, v12, v13, v14, some (.ref L3)]) ?_ ?_
  · walk_at "sx"
    have o1 : repS (Str.ofString "1") (Int.toNat 100) = S (List.replicate 100 49) := by
      rw [show (Str.ofString "1") = S [49] from by decide +kernel]
      walk_at "st"
      rfl
    have ee : (Str.ofString "e") = S [101] := by decide +kernel
    have es : (Str.ofString ";") = S [59] := by decide +kernel
    rw [o1, ee, es]
    simp only [S_cat, S_len, List.length_append, List.length_replicate, List.length_cons, List.length_nil]
    refine ⟨by decide, by decide, by rw [show (Str.ofString "1").length = 1 from by decide +kernel]; decide, by decide, by decide, ?_⟩
    refine ⟨_, rfl, rep3 49 100, rfl, by decide, fun v H1 s1 hv => ?_⟩
    rw [big_f] at hv
    obtain ⟨q1, rfl, hq⟩ := hv
    refine ⟨⟨by decide, by decide, by decide⟩, ⟨by decide, by decide, by decide⟩, by unfold CMulW; decide +kernel, ⟨by decide, by decide⟩, fun p np => ?_⟩
    have sp := same_upd (o := HO.tup [V.str (Str.ofString "end"), V.int (10 ^ Int.toNat 50 * 10 ^ Int.toNat 50 / 9)]) np
    show rNeU g.K (.ref q1) (.ref p) _ _
    rw [RS.ne_rr]
    refine ne_twin (d := .tuple [.str "end", .int (10 ^ Int.toNat 50 * 10 ^ Int.toNat 50 / 9)]) (.tup (SqT.of (sp _ _ hq)) (.cons (.str _) (.cons (.int _) .nil))) (.tup (SqT.of upd_same) (.cons (.str _) (.cons (.int _) .nil))) (by decide +kernel) (by decide +kernel) ?_
    refine ⟨_, rfl, ?_⟩
    rw [if_neg (by simp)]
    trivial
  rintro _ G5 rfl
  simp only [tSmS, RS.tSmS, tRet, tRetN, tSeq, C8.tCut, tNext, tAsg, gName, gNil, gCons, gTup, gFld, tIfS, tIf, tAndV, tOrV, tNotV, tAnd, tOr, tNot, tB, tTest, tOp, tUn, tCB, tCons, tNil, tVar, tC, tChain, tDrop, RS.tCallG, RS.tMethG, tMakeG, RS.tCallK, RS.tMakeK, tEqOwn, rI, rI0, rU, add_ii, add_ss, add_rr, mul_ii, mul_si, mul_ri, RS.eq_ii, RS.eq_ss, eq_bb, eq_nn, eq_sn, eq_ns, eq_in, eq_ni, eq_bn, eq_nb, eq_is, eq_si, eq_rr, ne_ii, ne_ss, ne_bb, ne_nn, ne_sn, ne_ns, ne_in, ne_ni, ne_is, ne_si, ne_rr, in_ss, in_r, nin_ss, nin_r, len_s, len_r, RS.ix_s, RS.ix_r, sl_s, sl_r, is_eq, tyN_n, tyN_b, tyN_i, tyN_s, tru_b, tru_i, tru_n, tSl, tPart, tNoPart, tPar, tPar3, tFmtZ, tFmt, tJs, tDGet, sDPut, sFld, tFld, tTup, tLst, tNever, isB,
  L2.start, List.map_cons, List.map_nil, List.length_cons, List.length_nil, Nat.reduceAdd, Nat.reduceSub, Nat.sub_self, List.replicate_zero, List.replicate_succ, List.append_nil, List.cons_append, List.nil_append, List.getElem?_cons_zero, List.getElem?_cons_succ, List.set_cons_zero, List.set_cons_succ, Option.some.injEq, exists_eq_left, exists_eq_left', exists_and_left, V.bl.injEq, V.int.injEq, V.str.injEq, V.ref.injEq, beq_self_eq_true, Bool.true_or, Bool.or_true, Bool.false_or, Bool.or_false, Bool.and_false, Bool.false_and, Bool.true_and, Bool.and_true, Bool.not_true, Bool.not_false, Bool.false_eq_true, if_true, if_false, ite_true, ite_false, true_and, and_true, and_assoc, String.reduceBEq, String.reduceEq, reduceIte, Bool.and_self, reduceCtorEq, false_and, and_false, exists_false, or_false, false_or, exists_const, iEnumS, iStr, iList, iTup, iRng1, iEnum, tFor_eq, tLc_eq, List.cons.injEq, wipe, not_true_eq_false, not_false_eq_true, upd_same, HO.ins.injEq, HO.tup.injEq, HO.lst.injEq, ofS_eq, lk_nil, lk_cons, pu_nil, pu_cons, sizeLine_eq, Nat.reduceLT, Nat.reduceLeDiff, Nat.reduceEqDiff, Nat.le_refl, decide_true, decide_false, tPr, dget_us, dput_us, vv_nil, vv_cons, RS.pk_nil, pk_one, RS.pk_cons, inr_eq, tDisp, tPairs, tBoolOwn, rBoolOwn, tBM, rAppend, ty_list, ty_str, rEqOwn, iEnumT, RS.tCallS, tM1, tDc_eq, tLock, tLockE, iKeys, tListEnum, rUpdate, tMkX0, tMkX1, tXfv, gSub, rSetL, List.getD_cons_zero, List.getD_cons_succ, tBreak, tCMethS, ClX.tCVal, tXfa, tIxOwn, tInOwn, tPropG, tMethK, tMethP, tListGen, tDGet2, tDPop2, rNeD0, intA_i, intA_b, tRevL, sFldAug, tPm0, tPm1, tDIn, tDNotIn, tDNewK, RS.tMethS, tForK, tKM, tKC, tLcK, tKM2, tKC2, tMethStar, tKCK2, tLk, tAug, ipI, tDig, tLcX, tKMX, tKCX, tForY, tKCY, tKMY, tYThen, tYPlain, tYYield, tY0, tYIf, GKE.at, tListX]
  have r1 : rdg [98] = .batch [] := rdg_b' (ps := []) (by simp)
  have r2 : rdg [101, 48, 59] = .fin 0 := isF_of (by decide +kernel)
  have bb : (Str.ofString "b") = S [98] := by decide +kernel
  have be : (Str.ofString "e0;") = S [101, 48, 59] := by decide +kernel
  refine ⟨_, rfl, [98], by rw [bb], by decide, fun v H1 s1 hv => ?_⟩
  rw [r1] at hv
  obtain ⟨q1, rfl, L, ys, x1, x2, x3⟩ := hv
  cases x3
  refine ⟨_, rfl, [101, 48, 59], by rw [be], by decide, fun v H2 s2 hv => ?_⟩
  rw [r2] at hv
  obtain ⟨q2, rfl, x4⟩ := hv
  refine ⟨[], [], rfl, rfl, by decide, fun p3 n3 => ⟨_, rfl, p3, [], [], rfl, upd_same, .nil, by simp, by decide, fun H3 s3 => ?_⟩⟩
  refine ⟨[], [], rfl, rfl, by decide, fun p4 n4 => ⟨_, rfl, p4, [], [], rfl, upd_same, .nil, by simp, by decide, by rw [show btx [] = Str.empty from rfl, Str.append_empty]; decide +kernel, fun H4 s4 => ?_⟩⟩
  have c1 : (("b" : Str) ++ btx []) = "b" := by rw [show btx [] = Str.empty from rfl, Str.append_empty]
  rw [c1, show (((Str.ofString "b").length + 45) / 46 : Nat) = 1 from by decide +kernel]
  intro p n0 p1 n1 p2 n2 p3' n3' p4' n4'
  have t0 := same_upd (o := HO.lst [V.ref q1, V.ref q2, V.str "b", V.int ((1 : Nat) : Int)]) n0
  have t1 := same_upd (o := HO.tup []) n1
  have t2 := same_upd (o := HO.tup [V.str (Str.ofString "batch"), V.ref p1]) n2
  have t3 := same_upd (o := HO.tup [V.str (Str.ofString "end"), V.int 0]) n3'
  have t4 := same_upd (o := HO.lst [V.ref p2, V.ref p3', V.str (Str.ofString "b"), V.int 1]) n4'
  have s24 := ((same_upd n3).trans s3).trans ((same_upd n4).trans s4)
  have all := (((t0.trans t1).trans t2).trans t3).trans t4
  have fin_ := s24.trans all
  refine eq_twin (d := .list [.tuple [.str "batch", .tuple []], .tuple [.str "end", .int 0], .str "b", .int 1]) (.lst (SqL.of ((((t1.trans t2).trans t3).trans t4) _ _ upd_same)) (.cons (.tup (SqT.of ((s2.trans fin_) _ _ x1)) (.cons (.str _) (.cons (.tup (SqT.of ((s2.trans fin_) _ _ x2)) .nil) .nil))) (.cons (.tup (SqT.of (fin_ _ _ x4)) (.cons (.str _) (.cons (.int _) .nil))) (.cons (.str _) (.cons (.int _) .nil))))) (.lst (SqL.of upd_same) (.cons (.tup (SqT.of ((t3.trans t4) _ _ upd_same)) (.cons (.str _) (.cons (.tup (SqT.of (((t2.trans t3).trans t4) _ _ upd_same)) .nil) .nil))) (.cons (.tup (SqT.of (t4 _ _ upd_same)) (.cons (.str _) (.cons (.int _) .nil))) (.cons (.str _) (.cons (.int _) .nil))))) (by decide +kernel) (by decide +kernel) ?_
  exact q _
end
open PySem PySem.Spec PyProof.Rows L2 RS
theorem xst_InvalidText : XSt1 "InvalidText.__init__" s_InvalidText__init "position" "position" where
  bd := ⟨_, _, _, _, _, _, _, _, _, _, _, _, rfl, fun L fI cda cc => ⟨rfl, rfl, rfl, ⟨_, rfl⟩, rfl⟩⟩
  ar := ⟨_, rfl, rfl⟩
  ks := rfl
  kc := rfl
  ka := rfl
  kx := rfl
  kd := rfl
  co := rfl
  ge := rfl
  ce := by decide +kernel
  bi := fun oc kV doc pm an cdv ct cc u v => rfl
  ne := by decide
  dbg := by decide
theorem all_mk {l : PySem.W.OpenLaw} {w : World} {K : PySem.W.Frag} {h : Heap} {mg : Str → Option Value} {fa : Addr}
    {C_InvalidText fI_InvalidText cda_InvalidText cc_InvalidText : Addr} {oc_InvalidText kV_InvalidText doc_InvalidText pm_InvalidText ct_InvalidText ccl_InvalidText cl_InvalidText : Value} {od_InvalidText an_InvalidText cdd_InvalidText cld_InvalidText : Option Addr} {osl_InvalidText ccs_InvalidText csl_InvalidText : Array (Option Value)} {vs_InvalidText : Array Value} {file_InvalidText : Str} {tf_InvalidText : Tok}
    {C_TextReader : Addr}
    {f_TextReader__init : Addr} {od_TextReader__init an_TextReader__init : Option Addr} {sl_TextReader__init : Array (Option Value)} {oc_TextReader__init kV_TextReader__init dc_TextReader__init pm_TextReader__init cd_TextReader__init ct_TextReader__init : Value}
    {f_TextReader_sign : Addr} {od_TextReader_sign an_TextReader_sign : Option Addr} {sl_TextReader_sign : Array (Option Value)} {oc_TextReader_sign kV_TextReader_sign dc_TextReader_sign pm_TextReader_sign cd_TextReader_sign ct_TextReader_sign : Value}
    {f_TextReader_refuse : Addr} {od_TextReader_refuse an_TextReader_refuse : Option Addr} {sl_TextReader_refuse : Array (Option Value)} {oc_TextReader_refuse kV_TextReader_refuse dc_TextReader_refuse pm_TextReader_refuse cd_TextReader_refuse ct_TextReader_refuse : Value}
    {f_TextReader_read_digits : Addr} {od_TextReader_read_digits an_TextReader_read_digits : Option Addr} {sl_TextReader_read_digits : Array (Option Value)} {oc_TextReader_read_digits kV_TextReader_read_digits dc_TextReader_read_digits pm_TextReader_read_digits cd_TextReader_read_digits ct_TextReader_read_digits : Value}
    {f_TextReader_read_count : Addr} {od_TextReader_read_count an_TextReader_read_count : Option Addr} {sl_TextReader_read_count : Array (Option Value)} {oc_TextReader_read_count kV_TextReader_read_count dc_TextReader_read_count pm_TextReader_read_count cd_TextReader_read_count ct_TextReader_read_count : Value}
    {f_TextReader_read_integer : Addr} {od_TextReader_read_integer an_TextReader_read_integer : Option Addr} {sl_TextReader_read_integer : Array (Option Value)} {oc_TextReader_read_integer kV_TextReader_read_integer dc_TextReader_read_integer pm_TextReader_read_integer cd_TextReader_read_integer ct_TextReader_read_integer : Value}
    {f_TextReader_read_string : Addr} {od_TextReader_read_string an_TextReader_read_string : Option Addr} {sl_TextReader_read_string : Array (Option Value)} {oc_TextReader_read_string kV_TextReader_read_string dc_TextReader_read_string pm_TextReader_read_string cd_TextReader_read_string ct_TextReader_read_string : Value}
    {f_TextReader_read_pairs : Addr} {od_TextReader_read_pairs an_TextReader_read_pairs : Option Addr} {sl_TextReader_read_pairs : Array (Option Value)} {oc_TextReader_read_pairs kV_TextReader_read_pairs dc_TextReader_read_pairs pm_TextReader_read_pairs cd_TextReader_read_pairs ct_TextReader_read_pairs : Value}
    {f_TextReader_read_items : Addr} {od_TextReader_read_items an_TextReader_read_items : Option Addr} {sl_TextReader_read_items : Array (Option Value)} {oc_TextReader_read_items kV_TextReader_read_items dc_TextReader_read_items pm_TextReader_read_items cd_TextReader_read_items ct_TextReader_read_items : Value}
    {f_TextReader_read_part : Addr} {od_TextReader_read_part an_TextReader_read_part : Option Addr} {sl_TextReader_read_part : Array (Option Value)} {oc_TextReader_read_part kV_TextReader_read_part dc_TextReader_read_part pm_TextReader_read_part cd_TextReader_read_part ct_TextReader_read_part : Value}
    {f_TextReader_is_done : Addr} {od_TextReader_is_done an_TextReader_is_done : Option Addr} {sl_TextReader_is_done : Array (Option Value)} {oc_TextReader_is_done kV_TextReader_is_done dc_TextReader_is_done pm_TextReader_is_done cd_TextReader_is_done ct_TextReader_is_done : Value}
    {C_Shelf : Addr}
    {p_Shelf_cost f_Shelf_cost : Addr} {re_Shelf_cost : List Value} {od_Shelf_cost an_Shelf_cost : Option Addr} {sl_Shelf_cost : Array (Option Value)} {oc_Shelf_cost kV_Shelf_cost dc_Shelf_cost pm_Shelf_cost cd_Shelf_cost ct_Shelf_cost : Value}
    {f_items_of : Addr} {od_items_of an_items_of : Option Addr} {sl_items_of : Array (Option Value)} {oc_items_of kV_items_of dc_items_of pm_items_of cd_items_of ct_items_of : Value}
    {f_is_wrong_part : Addr} {od_is_wrong_part an_is_wrong_part : Option Addr} {sl_is_wrong_part : Array (Option Value)} {oc_is_wrong_part kV_is_wrong_part dc_is_wrong_part pm_is_wrong_part cd_is_wrong_part ct_is_wrong_part : Value}
    {f_wrong_path : Addr} {od_wrong_path an_wrong_path : Option Addr} {sl_wrong_path : Array (Option Value)} {oc_wrong_path kV_wrong_path dc_wrong_path pm_wrong_path cd_wrong_path ct_wrong_path : Value}
    {f_check_value : Addr} {od_check_value an_check_value : Option Addr} {sl_check_value : Array (Option Value)} {oc_check_value kV_check_value dc_check_value pm_check_value cd_check_value ct_check_value : Value}
    {f_spelled : Addr} {od_spelled an_spelled : Option Addr} {sl_spelled : Array (Option Value)} {oc_spelled kV_spelled dc_spelled pm_spelled cd_spelled ct_spelled : Value}
    {f_text_of : Addr} {od_text_of an_text_of : Option Addr} {sl_text_of : Array (Option Value)} {oc_text_of kV_text_of dc_text_of pm_text_of cd_text_of ct_text_of : Value}
    {f_check_string : Addr} {od_check_string an_check_string : Option Addr} {sl_check_string : Array (Option Value)} {oc_check_string kV_check_string dc_check_string pm_check_string cd_check_string ct_check_string : Value}
    {f_values_in : Addr} {od_values_in an_values_in : Option Addr} {sl_values_in : Array (Option Value)} {oc_values_in kV_values_in dc_values_in pm_values_in cd_values_in ct_values_in : Value}
    {f_number_in : Addr} {od_number_in an_number_in : Option Addr} {sl_number_in : Array (Option Value)} {oc_number_in kV_number_in dc_number_in pm_number_in cd_number_in ct_number_in : Value}
    {f_row_in : Addr} {od_row_in an_row_in : Option Addr} {sl_row_in : Array (Option Value)} {oc_row_in kV_row_in dc_row_in pm_row_in cd_row_in ct_row_in : Value}
    {f_is_key : Addr} {od_is_key an_is_key : Option Addr} {sl_is_key : Array (Option Value)} {oc_is_key kV_is_key dc_is_key pm_is_key cd_is_key ct_is_key : Value}
    {f_pieces_of : Addr} {od_pieces_of an_pieces_of : Option Addr} {sl_pieces_of : Array (Option Value)} {oc_pieces_of kV_pieces_of dc_pieces_of pm_pieces_of cd_pieces_of ct_pieces_of : Value}
    {f_parsed : Addr} {od_parsed an_parsed : Option Addr} {sl_parsed : Array (Option Value)} {oc_parsed kV_parsed dc_parsed pm_parsed cd_parsed ct_parsed : Value}
    {f_reading_of : Addr} {od_reading_of an_reading_of : Option Addr} {sl_reading_of : Array (Option Value)} {oc_reading_of kV_reading_of dc_reading_of pm_reading_of cd_reading_of ct_reading_of : Value}
    {f_is_value : Addr} {od_is_value an_is_value : Option Addr} {sl_is_value : Array (Option Value)} {oc_is_value kV_is_value dc_is_value pm_is_value cd_is_value ct_is_value : Value}
    {f_is_deed : Addr} {od_is_deed an_is_deed : Option Addr} {sl_is_deed : Array (Option Value)} {oc_is_deed kV_is_deed dc_is_deed pm_is_deed cd_is_deed ct_is_deed : Value}
    {f_check_deeds : Addr} {od_check_deeds an_check_deeds : Option Addr} {sl_check_deeds : Array (Option Value)} {oc_check_deeds kV_check_deeds dc_check_deeds pm_check_deeds cd_check_deeds ct_check_deeds : Value}
    {f_check_record : Addr} {od_check_record an_check_record : Option Addr} {sl_check_record : Array (Option Value)} {oc_check_record kV_check_record dc_check_record pm_check_record cd_check_record ct_check_record : Value}
    {f_page_count : Addr} {od_page_count an_page_count : Option Addr} {sl_page_count : Array (Option Value)} {oc_page_count kV_page_count dc_page_count pm_page_count cd_page_count ct_page_count : Value}
    {f_batch_text : Addr} {od_batch_text an_batch_text : Option Addr} {sl_batch_text : Array (Option Value)} {oc_batch_text kV_batch_text dc_batch_text pm_batch_text cd_batch_text ct_batch_text : Value}
    {f_l_begin : Addr} {od_l_begin an_l_begin : Option Addr} {sl_l_begin : Array (Option Value)} {oc_l_begin kV_l_begin dc_l_begin pm_l_begin cd_l_begin ct_l_begin : Value}
    {f_l_draw : Addr} {od_l_draw an_l_draw : Option Addr} {sl_l_draw : Array (Option Value)} {oc_l_draw kV_l_draw dc_l_draw pm_l_draw cd_l_draw ct_l_draw : Value}
    {f_l_pick : Addr} {od_l_pick an_l_pick : Option Addr} {sl_l_pick : Array (Option Value)} {oc_l_pick kV_l_pick dc_l_pick pm_l_pick cd_l_pick ct_l_pick : Value}
    {f_l_word : Addr} {od_l_word an_l_word : Option Addr} {sl_l_word : Array (Option Value)} {oc_l_word kV_l_word dc_l_word pm_l_word cd_l_word ct_l_word : Value}
    {f_l_thing : Addr} {od_l_thing an_l_thing : Option Addr} {sl_l_thing : Array (Option Value)} {oc_l_thing kV_l_thing dc_l_thing pm_l_thing cd_l_thing ct_l_thing : Value}
    {f_l_spelled : Addr} {od_l_spelled an_l_spelled : Option Addr} {sl_l_spelled : Array (Option Value)} {oc_l_spelled kV_l_spelled dc_l_spelled pm_l_spelled cd_l_spelled ct_l_spelled : Value}
    {f_l_pages : Addr} {od_l_pages an_l_pages : Option Addr} {sl_l_pages : Array (Option Value)} {oc_l_pages kV_l_pages dc_l_pages pm_l_pages cd_l_pages ct_l_pages : Value}
    {f_l_batch : Addr} {od_l_batch an_l_batch : Option Addr} {sl_l_batch : Array (Option Value)} {oc_l_batch kV_l_batch dc_l_batch pm_l_batch cd_l_batch ct_l_batch : Value}
    {f_l_after : Addr} {od_l_after an_l_after : Option Addr} {sl_l_after : Array (Option Value)} {oc_l_after kV_l_after dc_l_after pm_l_after cd_l_after ct_l_after : Value}
    {f_l_deeds : Addr} {od_l_deeds an_l_deeds : Option Addr} {sl_l_deeds : Array (Option Value)} {oc_l_deeds kV_l_deeds dc_l_deeds pm_l_deeds cd_l_deeds ct_l_deeds : Value}
    {f_l_composed : Addr} {od_l_composed an_l_composed : Option Addr} {sl_l_composed : Array (Option Value)} {oc_l_composed kV_l_composed dc_l_composed pm_l_composed cd_l_composed ct_l_composed : Value}
    {f_l_shape : Addr} {od_l_shape an_l_shape : Option Addr} {sl_l_shape : Array (Option Value)} {oc_l_shape kV_l_shape dc_l_shape pm_l_shape cd_l_shape ct_l_shape : Value}
    {f_l_again : Addr} {od_l_again an_l_again : Option Addr} {sl_l_again : Array (Option Value)} {oc_l_again kV_l_again dc_l_again pm_l_again cd_l_again ct_l_again : Value}
    {f_l_bent : Addr} {od_l_bent an_l_bent : Option Addr} {sl_l_bent : Array (Option Value)} {oc_l_bent kV_l_bent dc_l_bent pm_l_bent cd_l_bent ct_l_bent : Value}
    {f_l_bent_right : Addr} {od_l_bent_right an_l_bent_right : Option Addr} {sl_l_bent_right : Array (Option Value)} {oc_l_bent_right kV_l_bent_right dc_l_bent_right pm_l_bent_right cd_l_bent_right ct_l_bent_right : Value}
    {f_law : Addr} {od_law an_law : Option Addr} {sl_law : Array (Option Value)} {oc_law kV_law dc_law pm_law cd_law ct_law : Value}
    {t_MOST_DIGITS : Tok}
    {t_MOST_ITEMS : Tok}
    {t_MOST_LEVELS : Tok}
    {t_MOST_KEY : Tok}
    {t_BODY_LENGTH : Tok}
    {t_DIGITS : Tok} (X : K.In h) (G : h.Ns mainGlobals mg) (hfa : mg "law" = some (.ref fa))
    (b_super : PySem.W.nsIn K mainGlobals "super" = some none)
    (xa : XA l.prog K)
    (aC_InvalidText : PySem.W.nsIn K mainGlobals "InvalidText" = some (some (.ref C_InvalidText)))
    (in_InvalidText : PySem.W.findIn K (.ref C_InvalidText) "__init__" = some (some (.ref fI_InvalidText)))
    (l_InvalidText : K.lookup fI_InvalidText = some ⟨oc_InvalidText, od_InvalidText, .func (PySem.W.ksFn "__init__" "InvalidText.__init__" (defArgs s_InvalidText__init) (defBody s_InvalidText__init) (defScope s_InvalidText__init) .none kV_InvalidText doc_InvalidText pm_InvalidText an_InvalidText (.ref cda_InvalidText) ct_InvalidText cc_InvalidText), osl_InvalidText⟩)
    (co_InvalidText : K.lookup cda_InvalidText = some ⟨ccl_InvalidText, cdd_InvalidText, .fields vs_InvalidText, ccs_InvalidText⟩)
    (fi_InvalidText : vs_InvalidText[2]? = some (.str file_InvalidText tf_InvalidText))
    (fe_InvalidText : ((l.prog.main.file : Str) == file_InvalidText) = true)
    (ce_InvalidText : K.lookup cc_InvalidText = some ⟨cl_InvalidText, cld_InvalidText, .cell (some (.ref C_InvalidText)), csl_InvalidText⟩)
    (xb_InvalidText : XB K C_InvalidText fI_InvalidText cda_InvalidText "InvalidText.__init__" "ValueError" "ValueError.__new__" "ValueError.__init__" [.type "ValueError", .type "Exception", .type "BaseException", .type "object"])
    (nf_InvalidText : PySem.W.findIn K (.ref C_InvalidText) "position" = some none)
    (tyX : PySem.W.typeIn K (.ref C_InvalidText) = some (.type "type"))
    (hex : PySem.W.exmOne K (.ref C_InvalidText) (.ref C_InvalidText) = some true)
    (aC_TextReader : PySem.W.nsIn K mainGlobals "TextReader" = some (some (.ref C_TextReader)))
    (pg_TextReader : PySem.W.plainGet K C_TextReader Str.empty = true)
    (hd_TextReader : PySem.W.hasDictIn K C_TextReader = true)
    (po_TextReader : PySem.W.plainOver K C_TextReader = true)
    (sa_TextReader : PySem.W.findIn K (.ref C_TextReader) "__setattr__" = some (some (.builtin "object.__setattr__")))
    (kc_TextReader : PySem.W.keepIn K (.ref C_TextReader) = true)
    (mk_TextReader : PySem.W.makesIn K C_TextReader = true)
    (na_TextReader_own_text : PySem.W.findIn K (.ref C_TextReader) "own_text" = some none)
    (na_TextReader_at : PySem.W.findIn K (.ref C_TextReader) "at" = some none)
    (a_TextReader__init : PySem.W.findIn K (.ref C_TextReader) "__init__" = some (some (.ref f_TextReader__init)))
    (i_TextReader__init : PySem.W.isFn K (.ref f_TextReader__init) = true)
    (l_TextReader__init : K.lookup f_TextReader__init = some ⟨oc_TextReader__init, od_TextReader__init, .func (PySem.W.fnOf "__init__" "TextReader.__init__" (defArgs s_TextReader__init) (defBody s_TextReader__init) (defScope s_TextReader__init) .none kV_TextReader__init dc_TextReader__init pm_TextReader__init an_TextReader__init cd_TextReader__init ct_TextReader__init), sl_TextReader__init⟩)
    (c_TextReader__init : PySem.W.codeIn K cd_TextReader__init "TextReader.__init__" = true)
    (k_TextReader__init : PySem.W.keepIn K (.ref f_TextReader__init) = true)
    (a_TextReader_sign : PySem.W.findIn K (.ref C_TextReader) "sign" = some (some (.ref f_TextReader_sign)))
    (i_TextReader_sign : PySem.W.isFn K (.ref f_TextReader_sign) = true)
    (l_TextReader_sign : K.lookup f_TextReader_sign = some ⟨oc_TextReader_sign, od_TextReader_sign, .func (PySem.W.fnOf "sign" "TextReader.sign" (defArgs s_TextReader_sign) (defBody s_TextReader_sign) (defScope s_TextReader_sign) .none kV_TextReader_sign dc_TextReader_sign pm_TextReader_sign an_TextReader_sign cd_TextReader_sign ct_TextReader_sign), sl_TextReader_sign⟩)
    (c_TextReader_sign : PySem.W.codeIn K cd_TextReader_sign "TextReader.sign" = true)
    (k_TextReader_sign : PySem.W.keepIn K (.ref f_TextReader_sign) = true)
    (a_TextReader_refuse : PySem.W.findIn K (.ref C_TextReader) "refuse" = some (some (.ref f_TextReader_refuse)))
    (i_TextReader_refuse : PySem.W.isFn K (.ref f_TextReader_refuse) = true)
    (l_TextReader_refuse : K.lookup f_TextReader_refuse = some ⟨oc_TextReader_refuse, od_TextReader_refuse, .func (PySem.W.fnOf "refuse" "TextReader.refuse" (defArgs s_TextReader_refuse) (defBody s_TextReader_refuse) (defScope s_TextReader_refuse) .none kV_TextReader_refuse dc_TextReader_refuse pm_TextReader_refuse an_TextReader_refuse cd_TextReader_refuse ct_TextReader_refuse), sl_TextReader_refuse⟩)
    (c_TextReader_refuse : PySem.W.codeIn K cd_TextReader_refuse "TextReader.refuse" = true)
    (k_TextReader_refuse : PySem.W.keepIn K (.ref f_TextReader_refuse) = true)
    (a_TextReader_read_digits : PySem.W.findIn K (.ref C_TextReader) "read_digits" = some (some (.ref f_TextReader_read_digits)))
    (i_TextReader_read_digits : PySem.W.isFn K (.ref f_TextReader_read_digits) = true)
    (l_TextReader_read_digits : K.lookup f_TextReader_read_digits = some ⟨oc_TextReader_read_digits, od_TextReader_read_digits, .func (PySem.W.fnOf "read_digits" "TextReader.read_digits" (defArgs s_TextReader_read_digits) (defBody s_TextReader_read_digits) (defScope s_TextReader_read_digits) .none kV_TextReader_read_digits dc_TextReader_read_digits pm_TextReader_read_digits an_TextReader_read_digits cd_TextReader_read_digits ct_TextReader_read_digits), sl_TextReader_read_digits⟩)
    (c_TextReader_read_digits : PySem.W.codeIn K cd_TextReader_read_digits "TextReader.read_digits" = true)
    (k_TextReader_read_digits : PySem.W.keepIn K (.ref f_TextReader_read_digits) = true)
    (a_TextReader_read_count : PySem.W.findIn K (.ref C_TextReader) "read_count" = some (some (.ref f_TextReader_read_count)))
    (i_TextReader_read_count : PySem.W.isFn K (.ref f_TextReader_read_count) = true)
    (l_TextReader_read_count : K.lookup f_TextReader_read_count = some ⟨oc_TextReader_read_count, od_TextReader_read_count, .func (PySem.W.fnOf "read_count" "TextReader.read_count" (defArgs s_TextReader_read_count) (defBody s_TextReader_read_count) (defScope s_TextReader_read_count) .none kV_TextReader_read_count dc_TextReader_read_count pm_TextReader_read_count an_TextReader_read_count cd_TextReader_read_count ct_TextReader_read_count), sl_TextReader_read_count⟩)
    (c_TextReader_read_count : PySem.W.codeIn K cd_TextReader_read_count "TextReader.read_count" = true)
    (k_TextReader_read_count : PySem.W.keepIn K (.ref f_TextReader_read_count) = true)
    (a_TextReader_read_integer : PySem.W.findIn K (.ref C_TextReader) "read_integer" = some (some (.ref f_TextReader_read_integer)))
    (i_TextReader_read_integer : PySem.W.isFn K (.ref f_TextReader_read_integer) = true)
    (l_TextReader_read_integer : K.lookup f_TextReader_read_integer = some ⟨oc_TextReader_read_integer, od_TextReader_read_integer, .func (PySem.W.fnOf "read_integer" "TextReader.read_integer" (defArgs s_TextReader_read_integer) (defBody s_TextReader_read_integer) (defScope s_TextReader_read_integer) .none kV_TextReader_read_integer dc_TextReader_read_integer pm_TextReader_read_integer an_TextReader_read_integer cd_TextReader_read_integer ct_TextReader_read_integer), sl_TextReader_read_integer⟩)
    (c_TextReader_read_integer : PySem.W.codeIn K cd_TextReader_read_integer "TextReader.read_integer" = true)
    (k_TextReader_read_integer : PySem.W.keepIn K (.ref f_TextReader_read_integer) = true)
    (a_TextReader_read_string : PySem.W.findIn K (.ref C_TextReader) "read_string" = some (some (.ref f_TextReader_read_string)))
    (i_TextReader_read_string : PySem.W.isFn K (.ref f_TextReader_read_string) = true)
    (l_TextReader_read_string : K.lookup f_TextReader_read_string = some ⟨oc_TextReader_read_string, od_TextReader_read_string, .func (PySem.W.fnOf "read_string" "TextReader.read_string" (defArgs s_TextReader_read_string) (defBody s_TextReader_read_string) (defScope s_TextReader_read_string) .none kV_TextReader_read_string dc_TextReader_read_string pm_TextReader_read_string an_TextReader_read_string cd_TextReader_read_string ct_TextReader_read_string), sl_TextReader_read_string⟩)
    (c_TextReader_read_string : PySem.W.codeIn K cd_TextReader_read_string "TextReader.read_string" = true)
    (k_TextReader_read_string : PySem.W.keepIn K (.ref f_TextReader_read_string) = true)
    (a_TextReader_read_pairs : PySem.W.findIn K (.ref C_TextReader) "read_pairs" = some (some (.ref f_TextReader_read_pairs)))
    (i_TextReader_read_pairs : PySem.W.isFn K (.ref f_TextReader_read_pairs) = true)
    (l_TextReader_read_pairs : K.lookup f_TextReader_read_pairs = some ⟨oc_TextReader_read_pairs, od_TextReader_read_pairs, .func (PySem.W.fnOf "read_pairs" "TextReader.read_pairs" (defArgs s_TextReader_read_pairs) (defBody s_TextReader_read_pairs) (defScope s_TextReader_read_pairs) .none kV_TextReader_read_pairs dc_TextReader_read_pairs pm_TextReader_read_pairs an_TextReader_read_pairs cd_TextReader_read_pairs ct_TextReader_read_pairs), sl_TextReader_read_pairs⟩)
    (c_TextReader_read_pairs : PySem.W.codeIn K cd_TextReader_read_pairs "TextReader.read_pairs" = true)
    (k_TextReader_read_pairs : PySem.W.keepIn K (.ref f_TextReader_read_pairs) = true)
    (a_TextReader_read_items : PySem.W.findIn K (.ref C_TextReader) "read_items" = some (some (.ref f_TextReader_read_items)))
    (i_TextReader_read_items : PySem.W.isFn K (.ref f_TextReader_read_items) = true)
    (l_TextReader_read_items : K.lookup f_TextReader_read_items = some ⟨oc_TextReader_read_items, od_TextReader_read_items, .func (PySem.W.fnOf "read_items" "TextReader.read_items" (defArgs s_TextReader_read_items) (defBody s_TextReader_read_items) (defScope s_TextReader_read_items) .none kV_TextReader_read_items dc_TextReader_read_items pm_TextReader_read_items an_TextReader_read_items cd_TextReader_read_items ct_TextReader_read_items), sl_TextReader_read_items⟩)
    (c_TextReader_read_items : PySem.W.codeIn K cd_TextReader_read_items "TextReader.read_items" = true)
    (k_TextReader_read_items : PySem.W.keepIn K (.ref f_TextReader_read_items) = true)
    (a_TextReader_read_part : PySem.W.findIn K (.ref C_TextReader) "read_part" = some (some (.ref f_TextReader_read_part)))
    (i_TextReader_read_part : PySem.W.isFn K (.ref f_TextReader_read_part) = true)
    (l_TextReader_read_part : K.lookup f_TextReader_read_part = some ⟨oc_TextReader_read_part, od_TextReader_read_part, .func (PySem.W.fnOf "read_part" "TextReader.read_part" (defArgs s_TextReader_read_part) (defBody s_TextReader_read_part) (defScope s_TextReader_read_part) .none kV_TextReader_read_part dc_TextReader_read_part pm_TextReader_read_part an_TextReader_read_part cd_TextReader_read_part ct_TextReader_read_part), sl_TextReader_read_part⟩)
    (c_TextReader_read_part : PySem.W.codeIn K cd_TextReader_read_part "TextReader.read_part" = true)
    (k_TextReader_read_part : PySem.W.keepIn K (.ref f_TextReader_read_part) = true)
    (a_TextReader_is_done : PySem.W.findIn K (.ref C_TextReader) "is_done" = some (some (.ref f_TextReader_is_done)))
    (i_TextReader_is_done : PySem.W.isFn K (.ref f_TextReader_is_done) = true)
    (l_TextReader_is_done : K.lookup f_TextReader_is_done = some ⟨oc_TextReader_is_done, od_TextReader_is_done, .func (PySem.W.fnOf "is_done" "TextReader.is_done" (defArgs s_TextReader_is_done) (defBody s_TextReader_is_done) (defScope s_TextReader_is_done) .none kV_TextReader_is_done dc_TextReader_is_done pm_TextReader_is_done an_TextReader_is_done cd_TextReader_is_done ct_TextReader_is_done), sl_TextReader_is_done⟩)
    (c_TextReader_is_done : PySem.W.codeIn K cd_TextReader_is_done "TextReader.is_done" = true)
    (k_TextReader_is_done : PySem.W.keepIn K (.ref f_TextReader_is_done) = true)
    (aC_Shelf : PySem.W.nsIn K mainGlobals "Shelf" = some (some (.ref C_Shelf)))
    (rdS : PySem.W.readsIn K C_Shelf (.type "type") = true)
    (gaS : PySem.W.specialIn K (.ref C_Shelf) "__getattribute__" = some (some (.builtin "type.__getattribute__")))
    (tyS : PySem.W.typeIn K (.ref C_Shelf) = some (.type "type"))
    (at_Shelf_cost : PySem.W.findCls K (.ref C_Shelf) (.type "type") "cost" = some (.get (.builtin "staticmethod.__get__") (.ref p_Shelf_cost) .none (.ref C_Shelf)))
    (rc_Shelf_cost : PySem.W.recIn K p_Shelf_cost "staticmethod" = some (.ref f_Shelf_cost :: re_Shelf_cost))
    (l_Shelf_cost : K.lookup f_Shelf_cost = some ⟨oc_Shelf_cost, od_Shelf_cost, .func (PySem.W.fnOf "cost" "Shelf.cost" (defArgs s_Shelf_cost) (defBody s_Shelf_cost) (defScope s_Shelf_cost) .none kV_Shelf_cost dc_Shelf_cost pm_Shelf_cost an_Shelf_cost cd_Shelf_cost ct_Shelf_cost), sl_Shelf_cost⟩)
    (c_Shelf_cost : PySem.W.codeIn K cd_Shelf_cost "Shelf.cost" = true)
    (k_Shelf_cost : PySem.W.keepIn K (.ref f_Shelf_cost) = true)
    (a_items_of : PySem.W.nsIn K mainGlobals "items_of" = some (some (.ref f_items_of)))
    (l_items_of : K.lookup f_items_of = some ⟨oc_items_of, od_items_of, .func (PySem.W.fnOf "items_of" "items_of" (defArgs s_items_of) (defBody s_items_of) (defScope s_items_of) .none kV_items_of dc_items_of pm_items_of an_items_of cd_items_of ct_items_of), sl_items_of⟩)
    (c_items_of : PySem.W.codeIn K cd_items_of "items_of" = true)
    (k_items_of : PySem.W.keepIn K (.ref f_items_of) = true)
    (a_is_wrong_part : PySem.W.nsIn K mainGlobals "is_wrong_part" = some (some (.ref f_is_wrong_part)))
    (l_is_wrong_part : K.lookup f_is_wrong_part = some ⟨oc_is_wrong_part, od_is_wrong_part, .func (PySem.W.fnOf "is_wrong_part" "is_wrong_part" (defArgs s_is_wrong_part) (defBody s_is_wrong_part) (defScope s_is_wrong_part) .none kV_is_wrong_part dc_is_wrong_part pm_is_wrong_part an_is_wrong_part cd_is_wrong_part ct_is_wrong_part), sl_is_wrong_part⟩)
    (c_is_wrong_part : PySem.W.codeIn K cd_is_wrong_part "is_wrong_part" = true)
    (k_is_wrong_part : PySem.W.keepIn K (.ref f_is_wrong_part) = true)
    (a_wrong_path : PySem.W.nsIn K mainGlobals "wrong_path" = some (some (.ref f_wrong_path)))
    (l_wrong_path : K.lookup f_wrong_path = some ⟨oc_wrong_path, od_wrong_path, .func (PySem.W.fnOf "wrong_path" "wrong_path" (defArgs s_wrong_path) (defBody s_wrong_path) (defScope s_wrong_path) .none kV_wrong_path dc_wrong_path pm_wrong_path an_wrong_path cd_wrong_path ct_wrong_path), sl_wrong_path⟩)
    (c_wrong_path : PySem.W.codeIn K cd_wrong_path "wrong_path" = true)
    (k_wrong_path : PySem.W.keepIn K (.ref f_wrong_path) = true)
    (a_check_value : PySem.W.nsIn K mainGlobals "check_value" = some (some (.ref f_check_value)))
    (l_check_value : K.lookup f_check_value = some ⟨oc_check_value, od_check_value, .func (PySem.W.fnOf "check_value" "check_value" (defArgs s_check_value) (defBody s_check_value) (defScope s_check_value) .none kV_check_value dc_check_value pm_check_value an_check_value cd_check_value ct_check_value), sl_check_value⟩)
    (c_check_value : PySem.W.codeIn K cd_check_value "check_value" = true)
    (k_check_value : PySem.W.keepIn K (.ref f_check_value) = true)
    (a_spelled : PySem.W.nsIn K mainGlobals "spelled" = some (some (.ref f_spelled)))
    (l_spelled : K.lookup f_spelled = some ⟨oc_spelled, od_spelled, .func (PySem.W.fnOf "spelled" "spelled" (defArgs s_spelled) (defBody s_spelled) (defScope s_spelled) .none kV_spelled dc_spelled pm_spelled an_spelled cd_spelled ct_spelled), sl_spelled⟩)
    (c_spelled : PySem.W.codeIn K cd_spelled "spelled" = true)
    (k_spelled : PySem.W.keepIn K (.ref f_spelled) = true)
    (a_text_of : PySem.W.nsIn K mainGlobals "text_of" = some (some (.ref f_text_of)))
    (l_text_of : K.lookup f_text_of = some ⟨oc_text_of, od_text_of, .func (PySem.W.fnOf "text_of" "text_of" (defArgs s_text_of) (defBody s_text_of) (defScope s_text_of) .none kV_text_of dc_text_of pm_text_of an_text_of cd_text_of ct_text_of), sl_text_of⟩)
    (c_text_of : PySem.W.codeIn K cd_text_of "text_of" = true)
    (k_text_of : PySem.W.keepIn K (.ref f_text_of) = true)
    (a_check_string : PySem.W.nsIn K mainGlobals "check_string" = some (some (.ref f_check_string)))
    (l_check_string : K.lookup f_check_string = some ⟨oc_check_string, od_check_string, .func (PySem.W.fnOf "check_string" "check_string" (defArgs s_check_string) (defBody s_check_string) (defScope s_check_string) .none kV_check_string dc_check_string pm_check_string an_check_string cd_check_string ct_check_string), sl_check_string⟩)
    (c_check_string : PySem.W.codeIn K cd_check_string "check_string" = true)
    (k_check_string : PySem.W.keepIn K (.ref f_check_string) = true)
    (a_values_in : PySem.W.nsIn K mainGlobals "values_in" = some (some (.ref f_values_in)))
    (l_values_in : K.lookup f_values_in = some ⟨oc_values_in, od_values_in, .func (PySem.W.fnOf "values_in" "values_in" (defArgs s_values_in) (defBody s_values_in) (defScope s_values_in) .none kV_values_in dc_values_in pm_values_in an_values_in cd_values_in ct_values_in), sl_values_in⟩)
    (c_values_in : PySem.W.codeIn K cd_values_in "values_in" = true)
    (k_values_in : PySem.W.keepIn K (.ref f_values_in) = true)
    (a_number_in : PySem.W.nsIn K mainGlobals "number_in" = some (some (.ref f_number_in)))
    (l_number_in : K.lookup f_number_in = some ⟨oc_number_in, od_number_in, .func (PySem.W.fnOf "number_in" "number_in" (defArgs s_number_in) (defBody s_number_in) (defScope s_number_in) .none kV_number_in dc_number_in pm_number_in an_number_in cd_number_in ct_number_in), sl_number_in⟩)
    (c_number_in : PySem.W.codeIn K cd_number_in "number_in" = true)
    (k_number_in : PySem.W.keepIn K (.ref f_number_in) = true)
    (a_row_in : PySem.W.nsIn K mainGlobals "row_in" = some (some (.ref f_row_in)))
    (l_row_in : K.lookup f_row_in = some ⟨oc_row_in, od_row_in, .func (PySem.W.fnOf "row_in" "row_in" (defArgs s_row_in) (defBody s_row_in) (defScope s_row_in) .none kV_row_in dc_row_in pm_row_in an_row_in cd_row_in ct_row_in), sl_row_in⟩)
    (c_row_in : PySem.W.codeIn K cd_row_in "row_in" = true)
    (k_row_in : PySem.W.keepIn K (.ref f_row_in) = true)
    (a_is_key : PySem.W.nsIn K mainGlobals "is_key" = some (some (.ref f_is_key)))
    (l_is_key : K.lookup f_is_key = some ⟨oc_is_key, od_is_key, .func (PySem.W.fnOf "is_key" "is_key" (defArgs s_is_key) (defBody s_is_key) (defScope s_is_key) .none kV_is_key dc_is_key pm_is_key an_is_key cd_is_key ct_is_key), sl_is_key⟩)
    (c_is_key : PySem.W.codeIn K cd_is_key "is_key" = true)
    (k_is_key : PySem.W.keepIn K (.ref f_is_key) = true)
    (a_pieces_of : PySem.W.nsIn K mainGlobals "pieces_of" = some (some (.ref f_pieces_of)))
    (l_pieces_of : K.lookup f_pieces_of = some ⟨oc_pieces_of, od_pieces_of, .func (PySem.W.fnOf "pieces_of" "pieces_of" (defArgs s_pieces_of) (defBody s_pieces_of) (defScope s_pieces_of) .none kV_pieces_of dc_pieces_of pm_pieces_of an_pieces_of cd_pieces_of ct_pieces_of), sl_pieces_of⟩)
    (c_pieces_of : PySem.W.codeIn K cd_pieces_of "pieces_of" = true)
    (k_pieces_of : PySem.W.keepIn K (.ref f_pieces_of) = true)
    (a_parsed : PySem.W.nsIn K mainGlobals "parsed" = some (some (.ref f_parsed)))
    (l_parsed : K.lookup f_parsed = some ⟨oc_parsed, od_parsed, .func (PySem.W.fnOf "parsed" "parsed" (defArgs s_parsed) (defBody s_parsed) (defScope s_parsed) .none kV_parsed dc_parsed pm_parsed an_parsed cd_parsed ct_parsed), sl_parsed⟩)
    (c_parsed : PySem.W.codeIn K cd_parsed "parsed" = true)
    (k_parsed : PySem.W.keepIn K (.ref f_parsed) = true)
    (a_reading_of : PySem.W.nsIn K mainGlobals "reading_of" = some (some (.ref f_reading_of)))
    (l_reading_of : K.lookup f_reading_of = some ⟨oc_reading_of, od_reading_of, .func (PySem.W.fnOf "reading_of" "reading_of" (defArgs s_reading_of) (defBody s_reading_of) (defScope s_reading_of) .none kV_reading_of dc_reading_of pm_reading_of an_reading_of cd_reading_of ct_reading_of), sl_reading_of⟩)
    (c_reading_of : PySem.W.codeIn K cd_reading_of "reading_of" = true)
    (k_reading_of : PySem.W.keepIn K (.ref f_reading_of) = true)
    (a_is_value : PySem.W.nsIn K mainGlobals "is_value" = some (some (.ref f_is_value)))
    (l_is_value : K.lookup f_is_value = some ⟨oc_is_value, od_is_value, .func (PySem.W.fnOf "is_value" "is_value" (defArgs s_is_value) (defBody s_is_value) (defScope s_is_value) .none kV_is_value dc_is_value pm_is_value an_is_value cd_is_value ct_is_value), sl_is_value⟩)
    (c_is_value : PySem.W.codeIn K cd_is_value "is_value" = true)
    (k_is_value : PySem.W.keepIn K (.ref f_is_value) = true)
    (a_is_deed : PySem.W.nsIn K mainGlobals "is_deed" = some (some (.ref f_is_deed)))
    (l_is_deed : K.lookup f_is_deed = some ⟨oc_is_deed, od_is_deed, .func (PySem.W.fnOf "is_deed" "is_deed" (defArgs s_is_deed) (defBody s_is_deed) (defScope s_is_deed) .none kV_is_deed dc_is_deed pm_is_deed an_is_deed cd_is_deed ct_is_deed), sl_is_deed⟩)
    (c_is_deed : PySem.W.codeIn K cd_is_deed "is_deed" = true)
    (k_is_deed : PySem.W.keepIn K (.ref f_is_deed) = true)
    (a_check_deeds : PySem.W.nsIn K mainGlobals "check_deeds" = some (some (.ref f_check_deeds)))
    (l_check_deeds : K.lookup f_check_deeds = some ⟨oc_check_deeds, od_check_deeds, .func (PySem.W.fnOf "check_deeds" "check_deeds" (defArgs s_check_deeds) (defBody s_check_deeds) (defScope s_check_deeds) .none kV_check_deeds dc_check_deeds pm_check_deeds an_check_deeds cd_check_deeds ct_check_deeds), sl_check_deeds⟩)
    (c_check_deeds : PySem.W.codeIn K cd_check_deeds "check_deeds" = true)
    (k_check_deeds : PySem.W.keepIn K (.ref f_check_deeds) = true)
    (a_check_record : PySem.W.nsIn K mainGlobals "check_record" = some (some (.ref f_check_record)))
    (l_check_record : K.lookup f_check_record = some ⟨oc_check_record, od_check_record, .func (PySem.W.fnOf "check_record" "check_record" (defArgs s_check_record) (defBody s_check_record) (defScope s_check_record) .none kV_check_record dc_check_record pm_check_record an_check_record cd_check_record ct_check_record), sl_check_record⟩)
    (c_check_record : PySem.W.codeIn K cd_check_record "check_record" = true)
    (k_check_record : PySem.W.keepIn K (.ref f_check_record) = true)
    (a_page_count : PySem.W.nsIn K mainGlobals "page_count" = some (some (.ref f_page_count)))
    (l_page_count : K.lookup f_page_count = some ⟨oc_page_count, od_page_count, .func (PySem.W.fnOf "page_count" "page_count" (defArgs s_page_count) (defBody s_page_count) (defScope s_page_count) .none kV_page_count dc_page_count pm_page_count an_page_count cd_page_count ct_page_count), sl_page_count⟩)
    (c_page_count : PySem.W.codeIn K cd_page_count "page_count" = true)
    (k_page_count : PySem.W.keepIn K (.ref f_page_count) = true)
    (a_batch_text : PySem.W.nsIn K mainGlobals "batch_text" = some (some (.ref f_batch_text)))
    (l_batch_text : K.lookup f_batch_text = some ⟨oc_batch_text, od_batch_text, .func (PySem.W.fnOf "batch_text" "batch_text" (defArgs s_batch_text) (defBody s_batch_text) (defScope s_batch_text) .none kV_batch_text dc_batch_text pm_batch_text an_batch_text cd_batch_text ct_batch_text), sl_batch_text⟩)
    (c_batch_text : PySem.W.codeIn K cd_batch_text "batch_text" = true)
    (k_batch_text : PySem.W.keepIn K (.ref f_batch_text) = true)
    (a_l_begin : PySem.W.nsIn K mainGlobals "_law_begin" = some (some (.ref f_l_begin)))
    (l_l_begin : K.lookup f_l_begin = some ⟨oc_l_begin, od_l_begin, .func (PySem.W.fnOf "_law_begin" "_law_begin" (defArgs s_l_begin) (defBody s_l_begin) (defScope s_l_begin) .none kV_l_begin dc_l_begin pm_l_begin an_l_begin cd_l_begin ct_l_begin), sl_l_begin⟩)
    (c_l_begin : PySem.W.codeIn K cd_l_begin "_law_begin" = true)
    (k_l_begin : PySem.W.keepIn K (.ref f_l_begin) = true)
    (a_l_draw : PySem.W.nsIn K mainGlobals "_law_draw" = some (some (.ref f_l_draw)))
    (l_l_draw : K.lookup f_l_draw = some ⟨oc_l_draw, od_l_draw, .func (PySem.W.fnOf "_law_draw" "_law_draw" (defArgs s_l_draw) (defBody s_l_draw) (defScope s_l_draw) .none kV_l_draw dc_l_draw pm_l_draw an_l_draw cd_l_draw ct_l_draw), sl_l_draw⟩)
    (c_l_draw : PySem.W.codeIn K cd_l_draw "_law_draw" = true)
    (k_l_draw : PySem.W.keepIn K (.ref f_l_draw) = true)
    (a_l_pick : PySem.W.nsIn K mainGlobals "_law_pick" = some (some (.ref f_l_pick)))
    (l_l_pick : K.lookup f_l_pick = some ⟨oc_l_pick, od_l_pick, .func (PySem.W.fnOf "_law_pick" "_law_pick" (defArgs s_l_pick) (defBody s_l_pick) (defScope s_l_pick) .none kV_l_pick dc_l_pick pm_l_pick an_l_pick cd_l_pick ct_l_pick), sl_l_pick⟩)
    (c_l_pick : PySem.W.codeIn K cd_l_pick "_law_pick" = true)
    (k_l_pick : PySem.W.keepIn K (.ref f_l_pick) = true)
    (a_l_word : PySem.W.nsIn K mainGlobals "_law_word" = some (some (.ref f_l_word)))
    (l_l_word : K.lookup f_l_word = some ⟨oc_l_word, od_l_word, .func (PySem.W.fnOf "_law_word" "_law_word" (defArgs s_l_word) (defBody s_l_word) (defScope s_l_word) .none kV_l_word dc_l_word pm_l_word an_l_word cd_l_word ct_l_word), sl_l_word⟩)
    (c_l_word : PySem.W.codeIn K cd_l_word "_law_word" = true)
    (k_l_word : PySem.W.keepIn K (.ref f_l_word) = true)
    (a_l_thing : PySem.W.nsIn K mainGlobals "_law_thing" = some (some (.ref f_l_thing)))
    (l_l_thing : K.lookup f_l_thing = some ⟨oc_l_thing, od_l_thing, .func (PySem.W.fnOf "_law_thing" "_law_thing" (defArgs s_l_thing) (defBody s_l_thing) (defScope s_l_thing) .none kV_l_thing dc_l_thing pm_l_thing an_l_thing cd_l_thing ct_l_thing), sl_l_thing⟩)
    (c_l_thing : PySem.W.codeIn K cd_l_thing "_law_thing" = true)
    (k_l_thing : PySem.W.keepIn K (.ref f_l_thing) = true)
    (a_l_spelled : PySem.W.nsIn K mainGlobals "_law_spelled" = some (some (.ref f_l_spelled)))
    (l_l_spelled : K.lookup f_l_spelled = some ⟨oc_l_spelled, od_l_spelled, .func (PySem.W.fnOf "_law_spelled" "_law_spelled" (defArgs s_l_spelled) (defBody s_l_spelled) (defScope s_l_spelled) .none kV_l_spelled dc_l_spelled pm_l_spelled an_l_spelled cd_l_spelled ct_l_spelled), sl_l_spelled⟩)
    (c_l_spelled : PySem.W.codeIn K cd_l_spelled "_law_spelled" = true)
    (k_l_spelled : PySem.W.keepIn K (.ref f_l_spelled) = true)
    (a_l_pages : PySem.W.nsIn K mainGlobals "_law_pages" = some (some (.ref f_l_pages)))
    (l_l_pages : K.lookup f_l_pages = some ⟨oc_l_pages, od_l_pages, .func (PySem.W.fnOf "_law_pages" "_law_pages" (defArgs s_l_pages) (defBody s_l_pages) (defScope s_l_pages) .none kV_l_pages dc_l_pages pm_l_pages an_l_pages cd_l_pages ct_l_pages), sl_l_pages⟩)
    (c_l_pages : PySem.W.codeIn K cd_l_pages "_law_pages" = true)
    (k_l_pages : PySem.W.keepIn K (.ref f_l_pages) = true)
    (a_l_batch : PySem.W.nsIn K mainGlobals "_law_batch" = some (some (.ref f_l_batch)))
    (l_l_batch : K.lookup f_l_batch = some ⟨oc_l_batch, od_l_batch, .func (PySem.W.fnOf "_law_batch" "_law_batch" (defArgs s_l_batch) (defBody s_l_batch) (defScope s_l_batch) .none kV_l_batch dc_l_batch pm_l_batch an_l_batch cd_l_batch ct_l_batch), sl_l_batch⟩)
    (c_l_batch : PySem.W.codeIn K cd_l_batch "_law_batch" = true)
    (k_l_batch : PySem.W.keepIn K (.ref f_l_batch) = true)
    (a_l_after : PySem.W.nsIn K mainGlobals "_law_after" = some (some (.ref f_l_after)))
    (l_l_after : K.lookup f_l_after = some ⟨oc_l_after, od_l_after, .func (PySem.W.fnOf "_law_after" "_law_after" (defArgs s_l_after) (defBody s_l_after) (defScope s_l_after) .none kV_l_after dc_l_after pm_l_after an_l_after cd_l_after ct_l_after), sl_l_after⟩)
    (c_l_after : PySem.W.codeIn K cd_l_after "_law_after" = true)
    (k_l_after : PySem.W.keepIn K (.ref f_l_after) = true)
    (a_l_deeds : PySem.W.nsIn K mainGlobals "_law_deeds" = some (some (.ref f_l_deeds)))
    (l_l_deeds : K.lookup f_l_deeds = some ⟨oc_l_deeds, od_l_deeds, .func (PySem.W.fnOf "_law_deeds" "_law_deeds" (defArgs s_l_deeds) (defBody s_l_deeds) (defScope s_l_deeds) .none kV_l_deeds dc_l_deeds pm_l_deeds an_l_deeds cd_l_deeds ct_l_deeds), sl_l_deeds⟩)
    (c_l_deeds : PySem.W.codeIn K cd_l_deeds "_law_deeds" = true)
    (k_l_deeds : PySem.W.keepIn K (.ref f_l_deeds) = true)
    (a_l_composed : PySem.W.nsIn K mainGlobals "_law_composed" = some (some (.ref f_l_composed)))
    (l_l_composed : K.lookup f_l_composed = some ⟨oc_l_composed, od_l_composed, .func (PySem.W.fnOf "_law_composed" "_law_composed" (defArgs s_l_composed) (defBody s_l_composed) (defScope s_l_composed) .none kV_l_composed dc_l_composed pm_l_composed an_l_composed cd_l_composed ct_l_composed), sl_l_composed⟩)
    (c_l_composed : PySem.W.codeIn K cd_l_composed "_law_composed" = true)
    (k_l_composed : PySem.W.keepIn K (.ref f_l_composed) = true)
    (a_l_shape : PySem.W.nsIn K mainGlobals "_law_shape" = some (some (.ref f_l_shape)))
    (l_l_shape : K.lookup f_l_shape = some ⟨oc_l_shape, od_l_shape, .func (PySem.W.fnOf "_law_shape" "_law_shape" (defArgs s_l_shape) (defBody s_l_shape) (defScope s_l_shape) .none kV_l_shape dc_l_shape pm_l_shape an_l_shape cd_l_shape ct_l_shape), sl_l_shape⟩)
    (c_l_shape : PySem.W.codeIn K cd_l_shape "_law_shape" = true)
    (k_l_shape : PySem.W.keepIn K (.ref f_l_shape) = true)
    (a_l_again : PySem.W.nsIn K mainGlobals "_law_again" = some (some (.ref f_l_again)))
    (l_l_again : K.lookup f_l_again = some ⟨oc_l_again, od_l_again, .func (PySem.W.fnOf "_law_again" "_law_again" (defArgs s_l_again) (defBody s_l_again) (defScope s_l_again) .none kV_l_again dc_l_again pm_l_again an_l_again cd_l_again ct_l_again), sl_l_again⟩)
    (c_l_again : PySem.W.codeIn K cd_l_again "_law_again" = true)
    (k_l_again : PySem.W.keepIn K (.ref f_l_again) = true)
    (a_l_bent : PySem.W.nsIn K mainGlobals "_law_bent" = some (some (.ref f_l_bent)))
    (l_l_bent : K.lookup f_l_bent = some ⟨oc_l_bent, od_l_bent, .func (PySem.W.fnOf "_law_bent" "_law_bent" (defArgs s_l_bent) (defBody s_l_bent) (defScope s_l_bent) .none kV_l_bent dc_l_bent pm_l_bent an_l_bent cd_l_bent ct_l_bent), sl_l_bent⟩)
    (c_l_bent : PySem.W.codeIn K cd_l_bent "_law_bent" = true)
    (k_l_bent : PySem.W.keepIn K (.ref f_l_bent) = true)
    (a_l_bent_right : PySem.W.nsIn K mainGlobals "_law_bent_right" = some (some (.ref f_l_bent_right)))
    (l_l_bent_right : K.lookup f_l_bent_right = some ⟨oc_l_bent_right, od_l_bent_right, .func (PySem.W.fnOf "_law_bent_right" "_law_bent_right" (defArgs s_l_bent_right) (defBody s_l_bent_right) (defScope s_l_bent_right) .none kV_l_bent_right dc_l_bent_right pm_l_bent_right an_l_bent_right cd_l_bent_right ct_l_bent_right), sl_l_bent_right⟩)
    (c_l_bent_right : PySem.W.codeIn K cd_l_bent_right "_law_bent_right" = true)
    (k_l_bent_right : PySem.W.keepIn K (.ref f_l_bent_right) = true)
    (a_law : PySem.W.nsIn K mainGlobals "law" = some (some (.ref f_law)))
    (l_law : K.lookup f_law = some ⟨oc_law, od_law, .func (PySem.W.fnOf "law" "law" (defArgs s_law) (defBody s_law) (defScope s_law) .none kV_law dc_law pm_law an_law cd_law ct_law), sl_law⟩)
    (c_law : PySem.W.codeIn K cd_law "law" = true)
    (k_law : PySem.W.keepIn K (.ref f_law) = true)
    (rsi : PySem.W.subIn K (.ref C_InvalidText) (.type "StopIteration") = some false)
    (b_len : PySem.W.nsIn K mainGlobals "len" = some none)
    (b_isinstance : PySem.W.nsIn K mainGlobals "isinstance" = some none)
    (b_repr : PySem.W.nsIn K mainGlobals "repr" = some none)
    (b_enumerate : PySem.W.nsIn K mainGlobals "enumerate" = some none)
    (b_range : PySem.W.nsIn K mainGlobals "range" = some none)
    (b_list : PySem.W.nsIn K mainGlobals "list" = some none)
    (b_tuple : PySem.W.nsIn K mainGlobals "tuple" = some none)
    (b_dict : PySem.W.nsIn K mainGlobals "dict" = some none)
    (b_bool : PySem.W.nsIn K mainGlobals "bool" = some none)
    (b_int : PySem.W.nsIn K mainGlobals "int" = some none)
    (b_str : PySem.W.nsIn K mainGlobals "str" = some none)
    (b_abs : PySem.W.nsIn K mainGlobals "abs" = some none)
    (b_all : PySem.W.nsIn K mainGlobals "all" = some none)
    (b_any : PySem.W.nsIn K mainGlobals "any" = some none)
    (b_min : PySem.W.nsIn K mainGlobals "min" = some none)
    (nd : PySem.W.nsIn K cStatics "sys.int_max_str_digits" = some none)
    (v_MOST_DIGITS : PySem.W.nsIn K mainGlobals "MOST_DIGITS" = some (some (.int 100 t_MOST_DIGITS)))
    (v_MOST_ITEMS : PySem.W.nsIn K mainGlobals "MOST_ITEMS" = some (some (.int 10000 t_MOST_ITEMS)))
    (v_MOST_LEVELS : PySem.W.nsIn K mainGlobals "MOST_LEVELS" = some (some (.int 20 t_MOST_LEVELS)))
    (v_MOST_KEY : PySem.W.nsIn K mainGlobals "MOST_KEY" = some (some (.int 200 t_MOST_KEY)))
    (v_BODY_LENGTH : PySem.W.nsIn K mainGlobals "BODY_LENGTH" = some (some (.int 46 t_BODY_LENGTH)))
    (v_DIGITS : PySem.W.nsIn K mainGlobals "DIGITS" = some (some (.str "0123456789" t_DIGITS))) :
    ∃ fd : FuncData, (∀ (s : Shared) (u : Value), BindsTo s fd ⟨[u], []⟩ [("_law_script", u)]) ∧
      ∀ base : Heap, K.In base → base.Ns mainGlobals mg → FnG ⟨l.prog, w, K, mg, base⟩ 54 fa fd ["_law_script"] (sp_law K) := by
  have e := hfa.symm.trans (PySem.W.mg_of X G a_law)
  cases e
  have D_items_of := df_mk (st := s_items_of) l_items_of c_items_of k_items_of
  have b_items_of : Binds K (PySem.W.fnOf "items_of" "items_of" (defArgs s_items_of) (defBody s_items_of) (defScope s_items_of) .none kV_items_of dc_items_of pm_items_of an_items_of cd_items_of ct_items_of) ["value"] [] := Binds.all fun us hl => match us, hl with | [_], _ => rfl
  have D_is_wrong_part := df_mk (st := s_is_wrong_part) l_is_wrong_part c_is_wrong_part k_is_wrong_part
  have b_is_wrong_part : Binds K (PySem.W.fnOf "is_wrong_part" "is_wrong_part" (defArgs s_is_wrong_part) (defBody s_is_wrong_part) (defScope s_is_wrong_part) .none kV_is_wrong_part dc_is_wrong_part pm_is_wrong_part an_is_wrong_part cd_is_wrong_part ct_is_wrong_part) ["value", "depth"] [] := Binds.all fun us hl => match us, hl with | [_, _], _ => rfl
  have D_wrong_path := df_mk (st := s_wrong_path) l_wrong_path c_wrong_path k_wrong_path
  have b_wrong_path : Binds K (PySem.W.fnOf "wrong_path" "wrong_path" (defArgs s_wrong_path) (defBody s_wrong_path) (defScope s_wrong_path) .none kV_wrong_path dc_wrong_path pm_wrong_path an_wrong_path cd_wrong_path ct_wrong_path) ["value", "path"] [] := Binds.all fun us hl => match us, hl with | [_, _], _ => rfl
  have D_check_value := df_mk (st := s_check_value) l_check_value c_check_value k_check_value
  have b_check_value : Binds K (PySem.W.fnOf "check_value" "check_value" (defArgs s_check_value) (defBody s_check_value) (defScope s_check_value) .none kV_check_value dc_check_value pm_check_value an_check_value cd_check_value ct_check_value) ["value"] [] := Binds.all fun us hl => match us, hl with | [_], _ => rfl
  have D_spelled := df_mk (st := s_spelled) l_spelled c_spelled k_spelled
  have b_spelled : Binds K (PySem.W.fnOf "spelled" "spelled" (defArgs s_spelled) (defBody s_spelled) (defScope s_spelled) .none kV_spelled dc_spelled pm_spelled an_spelled cd_spelled ct_spelled) ["value"] [] := Binds.all fun us hl => match us, hl with | [_], _ => rfl
  have D_text_of := df_mk (st := s_text_of) l_text_of c_text_of k_text_of
  have b_text_of : Binds K (PySem.W.fnOf "text_of" "text_of" (defArgs s_text_of) (defBody s_text_of) (defScope s_text_of) .none kV_text_of dc_text_of pm_text_of an_text_of cd_text_of ct_text_of) ["value"] [] := Binds.all fun us hl => match us, hl with | [_], _ => rfl
  have D_check_string := df_mk (st := s_check_string) l_check_string c_check_string k_check_string
  have b_check_string : Binds K (PySem.W.fnOf "check_string" "check_string" (defArgs s_check_string) (defBody s_check_string) (defScope s_check_string) .none kV_check_string dc_check_string pm_check_string an_check_string cd_check_string ct_check_string) ["text"] [] := Binds.all fun us hl => match us, hl with | [_], _ => rfl
  have D_values_in := df_mk (st := s_values_in) l_values_in c_values_in k_values_in
  have b_values_in : Binds K (PySem.W.fnOf "values_in" "values_in" (defArgs s_values_in) (defBody s_values_in) (defScope s_values_in) .none kV_values_in dc_values_in pm_values_in an_values_in cd_values_in ct_values_in) ["text"] [] := Binds.all fun us hl => match us, hl with | [_], _ => rfl
  have D_number_in := df_mk (st := s_number_in) l_number_in c_number_in k_number_in
  have b_number_in : Binds K (PySem.W.fnOf "number_in" "number_in" (defArgs s_number_in) (defBody s_number_in) (defScope s_number_in) .none kV_number_in dc_number_in pm_number_in an_number_in cd_number_in ct_number_in) ["text"] [] := Binds.all fun us hl => match us, hl with | [_], _ => rfl
  have D_row_in := df_mk (st := s_row_in) l_row_in c_row_in k_row_in
  have b_row_in : Binds K (PySem.W.fnOf "row_in" "row_in" (defArgs s_row_in) (defBody s_row_in) (defScope s_row_in) .none kV_row_in dc_row_in pm_row_in an_row_in cd_row_in ct_row_in) ["text"] [] := Binds.all fun us hl => match us, hl with | [_], _ => rfl
  have D_is_key := df_mk (st := s_is_key) l_is_key c_is_key k_is_key
  have b_is_key : Binds K (PySem.W.fnOf "is_key" "is_key" (defArgs s_is_key) (defBody s_is_key) (defScope s_is_key) .none kV_is_key dc_is_key pm_is_key an_is_key cd_is_key ct_is_key) ["value"] [] := Binds.all fun us hl => match us, hl with | [_], _ => rfl
  have D_pieces_of := df_mk (st := s_pieces_of) l_pieces_of c_pieces_of k_pieces_of
  have b_pieces_of : Binds K (PySem.W.fnOf "pieces_of" "pieces_of" (defArgs s_pieces_of) (defBody s_pieces_of) (defScope s_pieces_of) .none kV_pieces_of dc_pieces_of pm_pieces_of an_pieces_of cd_pieces_of ct_pieces_of) ["row"] [] := Binds.all fun us hl => match us, hl with | [_], _ => rfl
  have D_parsed := df_mk (st := s_parsed) l_parsed c_parsed k_parsed
  have b_parsed : Binds K (PySem.W.fnOf "parsed" "parsed" (defArgs s_parsed) (defBody s_parsed) (defScope s_parsed) .none kV_parsed dc_parsed pm_parsed an_parsed cd_parsed ct_parsed) ["text"] [] := Binds.all fun us hl => match us, hl with | [_], _ => rfl
  have D_reading_of := df_mk (st := s_reading_of) l_reading_of c_reading_of k_reading_of
  have b_reading_of : Binds K (PySem.W.fnOf "reading_of" "reading_of" (defArgs s_reading_of) (defBody s_reading_of) (defScope s_reading_of) .none kV_reading_of dc_reading_of pm_reading_of an_reading_of cd_reading_of ct_reading_of) ["text"] [] := Binds.all fun us hl => match us, hl with | [_], _ => rfl
  have D_is_value := df_mk (st := s_is_value) l_is_value c_is_value k_is_value
  have b_is_value : Binds K (PySem.W.fnOf "is_value" "is_value" (defArgs s_is_value) (defBody s_is_value) (defScope s_is_value) .none kV_is_value dc_is_value pm_is_value an_is_value cd_is_value ct_is_value) ["value"] [] := Binds.all fun us hl => match us, hl with | [_], _ => rfl
  have D_is_deed := df_mk (st := s_is_deed) l_is_deed c_is_deed k_is_deed
  have b_is_deed : Binds K (PySem.W.fnOf "is_deed" "is_deed" (defArgs s_is_deed) (defBody s_is_deed) (defScope s_is_deed) .none kV_is_deed dc_is_deed pm_is_deed an_is_deed cd_is_deed ct_is_deed) ["value"] [] := Binds.all fun us hl => match us, hl with | [_], _ => rfl
  have D_check_deeds := df_mk (st := s_check_deeds) l_check_deeds c_check_deeds k_check_deeds
  have b_check_deeds : Binds K (PySem.W.fnOf "check_deeds" "check_deeds" (defArgs s_check_deeds) (defBody s_check_deeds) (defScope s_check_deeds) .none kV_check_deeds dc_check_deeds pm_check_deeds an_check_deeds cd_check_deeds ct_check_deeds) ["deeds"] [] := Binds.all fun us hl => match us, hl with | [_], _ => rfl
  have D_check_record := df_mk (st := s_check_record) l_check_record c_check_record k_check_record
  have b_check_record : Binds K (PySem.W.fnOf "check_record" "check_record" (defArgs s_check_record) (defBody s_check_record) (defScope s_check_record) .none kV_check_record dc_check_record pm_check_record an_check_record cd_check_record ct_check_record) ["text"] [] := Binds.all fun us hl => match us, hl with | [_], _ => rfl
  have D_page_count := df_mk (st := s_page_count) l_page_count c_page_count k_page_count
  have b_page_count : Binds K (PySem.W.fnOf "page_count" "page_count" (defArgs s_page_count) (defBody s_page_count) (defScope s_page_count) .none kV_page_count dc_page_count pm_page_count an_page_count cd_page_count ct_page_count) ["text"] [] := Binds.all fun us hl => match us, hl with | [_], _ => rfl
  have D_batch_text := df_mk (st := s_batch_text) l_batch_text c_batch_text k_batch_text
  have D_l_begin := df_mk (st := s_l_begin) l_l_begin c_l_begin k_l_begin
  have b_l_begin : Binds K (PySem.W.fnOf "_law_begin" "_law_begin" (defArgs s_l_begin) (defBody s_l_begin) (defScope s_l_begin) .none kV_l_begin dc_l_begin pm_l_begin an_l_begin cd_l_begin ct_l_begin) ["_law_script", "_law_turn"] [] := Binds.all fun us hl => match us, hl with | [_, _], _ => rfl
  have D_l_draw := df_mk (st := s_l_draw) l_l_draw c_l_draw k_l_draw
  have b_l_draw : Binds K (PySem.W.fnOf "_law_draw" "_law_draw" (defArgs s_l_draw) (defBody s_l_draw) (defScope s_l_draw) .none kV_l_draw dc_l_draw pm_l_draw an_l_draw cd_l_draw ct_l_draw) ["_law_state", "_law_size"] [] := Binds.all fun us hl => match us, hl with | [_, _], _ => rfl
  have D_l_pick := df_mk (st := s_l_pick) l_l_pick c_l_pick k_l_pick
  have b_l_pick : Binds K (PySem.W.fnOf "_law_pick" "_law_pick" (defArgs s_l_pick) (defBody s_l_pick) (defScope s_l_pick) .none kV_l_pick dc_l_pick pm_l_pick an_l_pick cd_l_pick ct_l_pick) ["_law_state", "_law_items"] [] := Binds.all fun us hl => match us, hl with | [_, _], _ => rfl
  have D_l_word := df_mk (st := s_l_word) l_l_word c_l_word k_l_word
  have b_l_word : Binds K (PySem.W.fnOf "_law_word" "_law_word" (defArgs s_l_word) (defBody s_l_word) (defScope s_l_word) .none kV_l_word dc_l_word pm_l_word an_l_word cd_l_word ct_l_word) ["_law_state"] [] := Binds.all fun us hl => match us, hl with | [_], _ => rfl
  have D_l_thing := df_mk (st := s_l_thing) l_l_thing c_l_thing k_l_thing
  have b_l_thing : Binds K (PySem.W.fnOf "_law_thing" "_law_thing" (defArgs s_l_thing) (defBody s_l_thing) (defScope s_l_thing) .none kV_l_thing dc_l_thing pm_l_thing an_l_thing cd_l_thing ct_l_thing) ["_law_state", "_law_deep"] [] := Binds.all fun us hl => match us, hl with | [_, _], _ => rfl
  have D_l_spelled := df_mk (st := s_l_spelled) l_l_spelled c_l_spelled k_l_spelled
  have b_l_spelled : Binds K (PySem.W.fnOf "_law_spelled" "_law_spelled" (defArgs s_l_spelled) (defBody s_l_spelled) (defScope s_l_spelled) .none kV_l_spelled dc_l_spelled pm_l_spelled an_l_spelled cd_l_spelled ct_l_spelled) ["_law_thing_here"] [] := Binds.all fun us hl => match us, hl with | [_], _ => rfl
  have D_l_pages := df_mk (st := s_l_pages) l_l_pages c_l_pages k_l_pages
  have b_l_pages : Binds K (PySem.W.fnOf "_law_pages" "_law_pages" (defArgs s_l_pages) (defBody s_l_pages) (defScope s_l_pages) .none kV_l_pages dc_l_pages pm_l_pages an_l_pages cd_l_pages ct_l_pages) ["_law_row"] [] := Binds.all fun us hl => match us, hl with | [_], _ => rfl
  have D_l_batch := df_mk (st := s_l_batch) l_l_batch c_l_batch k_l_batch
  have b_l_batch : Binds K (PySem.W.fnOf "_law_batch" "_law_batch" (defArgs s_l_batch) (defBody s_l_batch) (defScope s_l_batch) .none kV_l_batch dc_l_batch pm_l_batch an_l_batch cd_l_batch ct_l_batch) ["_law_deeds_so"] [] := Binds.all fun us hl => match us, hl with | [_], _ => rfl
  have D_l_after := df_mk (st := s_l_after) l_l_after c_l_after k_l_after
  have b_l_after : Binds K (PySem.W.fnOf "_law_after" "_law_after" (defArgs s_l_after) (defBody s_l_after) (defScope s_l_after) .none kV_l_after dc_l_after pm_l_after an_l_after cd_l_after ct_l_after) ["_law_model", "_law_deeds_so"] [] := Binds.all fun us hl => match us, hl with | [_, _], _ => rfl
  have D_l_deeds := df_mk (st := s_l_deeds) l_l_deeds c_l_deeds k_l_deeds
  have b_l_deeds : Binds K (PySem.W.fnOf "_law_deeds" "_law_deeds" (defArgs s_l_deeds) (defBody s_l_deeds) (defScope s_l_deeds) .none kV_l_deeds dc_l_deeds pm_l_deeds an_l_deeds cd_l_deeds ct_l_deeds) ["_law_state", "_law_model"] [] := Binds.all fun us hl => match us, hl with | [_, _], _ => rfl
  have D_l_composed := df_mk (st := s_l_composed) l_l_composed c_l_composed k_l_composed
  have b_l_composed : Binds K (PySem.W.fnOf "_law_composed" "_law_composed" (defArgs s_l_composed) (defBody s_l_composed) (defScope s_l_composed) .none kV_l_composed dc_l_composed pm_l_composed an_l_composed cd_l_composed ct_l_composed) ["_law_deeds_so"] [] := Binds.all fun us hl => match us, hl with | [_], _ => rfl
  have D_l_shape := df_mk (st := s_l_shape) l_l_shape c_l_shape k_l_shape
  have b_l_shape : Binds K (PySem.W.fnOf "_law_shape" "_law_shape" (defArgs s_l_shape) (defBody s_l_shape) (defScope s_l_shape) .none kV_l_shape dc_l_shape pm_l_shape an_l_shape cd_l_shape ct_l_shape) ["_law_told"] [] := Binds.all fun us hl => match us, hl with | [_], _ => rfl
  have D_l_again := df_mk (st := s_l_again) l_l_again c_l_again k_l_again
  have b_l_again : Binds K (PySem.W.fnOf "_law_again" "_law_again" (defArgs s_l_again) (defBody s_l_again) (defScope s_l_again) .none kV_l_again dc_l_again pm_l_again an_l_again cd_l_again ct_l_again) ["_law_told"] [] := Binds.all fun us hl => match us, hl with | [_], _ => rfl
  have D_l_bent := df_mk (st := s_l_bent) l_l_bent c_l_bent k_l_bent
  have b_l_bent : Binds K (PySem.W.fnOf "_law_bent" "_law_bent" (defArgs s_l_bent) (defBody s_l_bent) (defScope s_l_bent) .none kV_l_bent dc_l_bent pm_l_bent an_l_bent cd_l_bent ct_l_bent) ["_law_state", "_law_row"] [] := Binds.all fun us hl => match us, hl with | [_, _], _ => rfl
  have D_l_bent_right := df_mk (st := s_l_bent_right) l_l_bent_right c_l_bent_right k_l_bent_right
  have b_l_bent_right : Binds K (PySem.W.fnOf "_law_bent_right" "_law_bent_right" (defArgs s_l_bent_right) (defBody s_l_bent_right) (defScope s_l_bent_right) .none kV_l_bent_right dc_l_bent_right pm_l_bent_right an_l_bent_right cd_l_bent_right ct_l_bent_right) ["_law_state", "_law_row"] [] := Binds.all fun us hl => match us, hl with | [_, _], _ => rfl
  have D_law := df_mk (st := s_law) l_law c_law k_law
  have b_law : Binds K (PySem.W.fnOf "law" "law" (defArgs s_law) (defBody s_law) (defScope s_law) .none kV_law dc_law pm_law an_law cd_law ct_law) ["_law_script"] [] := Binds.all fun us hl => match us, hl with | [_], _ => rfl
  have D_TextReader__init := df_mk (st := s_TextReader__init) l_TextReader__init c_TextReader__init k_TextReader__init
  have b_TextReader__init : Binds K (PySem.W.fnOf "__init__" "TextReader.__init__" (defArgs s_TextReader__init) (defBody s_TextReader__init) (defScope s_TextReader__init) .none kV_TextReader__init dc_TextReader__init pm_TextReader__init an_TextReader__init cd_TextReader__init ct_TextReader__init) ["self", "text"] [] := Binds.all fun us hl => match us, hl with | [_, _], _ => rfl
  have D_TextReader_sign := df_mk (st := s_TextReader_sign) l_TextReader_sign c_TextReader_sign k_TextReader_sign
  have b_TextReader_sign : Binds K (PySem.W.fnOf "sign" "TextReader.sign" (defArgs s_TextReader_sign) (defBody s_TextReader_sign) (defScope s_TextReader_sign) .none kV_TextReader_sign dc_TextReader_sign pm_TextReader_sign an_TextReader_sign cd_TextReader_sign ct_TextReader_sign) ["self"] [] := Binds.all fun us hl => match us, hl with | [_], _ => rfl
  have D_TextReader_refuse := df_mk (st := s_TextReader_refuse) l_TextReader_refuse c_TextReader_refuse k_TextReader_refuse
  have b_TextReader_refuse : Binds K (PySem.W.fnOf "refuse" "TextReader.refuse" (defArgs s_TextReader_refuse) (defBody s_TextReader_refuse) (defScope s_TextReader_refuse) .none kV_TextReader_refuse dc_TextReader_refuse pm_TextReader_refuse an_TextReader_refuse cd_TextReader_refuse ct_TextReader_refuse) ["self", "index"] [] := Binds.all fun us hl => match us, hl with | [_, _], _ => rfl
  have D_TextReader_read_digits := df_mk (st := s_TextReader_read_digits) l_TextReader_read_digits c_TextReader_read_digits k_TextReader_read_digits
  have b_TextReader_read_digits : Binds K (PySem.W.fnOf "read_digits" "TextReader.read_digits" (defArgs s_TextReader_read_digits) (defBody s_TextReader_read_digits) (defScope s_TextReader_read_digits) .none kV_TextReader_read_digits dc_TextReader_read_digits pm_TextReader_read_digits an_TextReader_read_digits cd_TextReader_read_digits ct_TextReader_read_digits) ["self", "closing", "most"] [] := Binds.all fun us hl => match us, hl with | [_, _, _], _ => rfl
  have D_TextReader_read_count := df_mk (st := s_TextReader_read_count) l_TextReader_read_count c_TextReader_read_count k_TextReader_read_count
  have b_TextReader_read_count : Binds K (PySem.W.fnOf "read_count" "TextReader.read_count" (defArgs s_TextReader_read_count) (defBody s_TextReader_read_count) (defScope s_TextReader_read_count) .none kV_TextReader_read_count dc_TextReader_read_count pm_TextReader_read_count an_TextReader_read_count cd_TextReader_read_count ct_TextReader_read_count) ["self"] [] := Binds.all fun us hl => match us, hl with | [_], _ => rfl
  have D_TextReader_read_integer := df_mk (st := s_TextReader_read_integer) l_TextReader_read_integer c_TextReader_read_integer k_TextReader_read_integer
  have b_TextReader_read_integer : Binds K (PySem.W.fnOf "read_integer" "TextReader.read_integer" (defArgs s_TextReader_read_integer) (defBody s_TextReader_read_integer) (defScope s_TextReader_read_integer) .none kV_TextReader_read_integer dc_TextReader_read_integer pm_TextReader_read_integer an_TextReader_read_integer cd_TextReader_read_integer ct_TextReader_read_integer) ["self"] [] := Binds.all fun us hl => match us, hl with | [_], _ => rfl
  have D_TextReader_read_string := df_mk (st := s_TextReader_read_string) l_TextReader_read_string c_TextReader_read_string k_TextReader_read_string
  have b_TextReader_read_string : Binds K (PySem.W.fnOf "read_string" "TextReader.read_string" (defArgs s_TextReader_read_string) (defBody s_TextReader_read_string) (defScope s_TextReader_read_string) .none kV_TextReader_read_string dc_TextReader_read_string pm_TextReader_read_string an_TextReader_read_string cd_TextReader_read_string ct_TextReader_read_string) ["self"] [] := Binds.all fun us hl => match us, hl with | [_], _ => rfl
  have D_TextReader_read_pairs := df_mk (st := s_TextReader_read_pairs) l_TextReader_read_pairs c_TextReader_read_pairs k_TextReader_read_pairs
  have b_TextReader_read_pairs : Binds K (PySem.W.fnOf "read_pairs" "TextReader.read_pairs" (defArgs s_TextReader_read_pairs) (defBody s_TextReader_read_pairs) (defScope s_TextReader_read_pairs) .none kV_TextReader_read_pairs dc_TextReader_read_pairs pm_TextReader_read_pairs an_TextReader_read_pairs cd_TextReader_read_pairs ct_TextReader_read_pairs) ["self", "depth"] [] := Binds.all fun us hl => match us, hl with | [_, _], _ => rfl
  have D_TextReader_read_items := df_mk (st := s_TextReader_read_items) l_TextReader_read_items c_TextReader_read_items k_TextReader_read_items
  have b_TextReader_read_items : Binds K (PySem.W.fnOf "read_items" "TextReader.read_items" (defArgs s_TextReader_read_items) (defBody s_TextReader_read_items) (defScope s_TextReader_read_items) .none kV_TextReader_read_items dc_TextReader_read_items pm_TextReader_read_items an_TextReader_read_items cd_TextReader_read_items ct_TextReader_read_items) ["self", "depth"] [] := Binds.all fun us hl => match us, hl with | [_, _], _ => rfl
  have D_TextReader_read_part := df_mk (st := s_TextReader_read_part) l_TextReader_read_part c_TextReader_read_part k_TextReader_read_part
  have b_TextReader_read_part : Binds K (PySem.W.fnOf "read_part" "TextReader.read_part" (defArgs s_TextReader_read_part) (defBody s_TextReader_read_part) (defScope s_TextReader_read_part) .none kV_TextReader_read_part dc_TextReader_read_part pm_TextReader_read_part an_TextReader_read_part cd_TextReader_read_part ct_TextReader_read_part) ["self", "depth"] [] := Binds.all fun us hl => match us, hl with | [_, _], _ => rfl
  have D_TextReader_is_done := df_mk (st := s_TextReader_is_done) l_TextReader_is_done c_TextReader_is_done k_TextReader_is_done
  have b_TextReader_is_done : Binds K (PySem.W.fnOf "is_done" "TextReader.is_done" (defArgs s_TextReader_is_done) (defBody s_TextReader_is_done) (defScope s_TextReader_is_done) .none kV_TextReader_is_done dc_TextReader_is_done pm_TextReader_is_done an_TextReader_is_done cd_TextReader_is_done ct_TextReader_is_done) ["self"] [] := Binds.all fun us hl => match us, hl with | [_], _ => rfl
  have D_Shelf_cost := df_mk (st := s_Shelf_cost) l_Shelf_cost c_Shelf_cost k_Shelf_cost
  refine ⟨PySem.W.fnOf "law" "law" (defArgs s_law) (defBody s_law) (defScope s_law) .none kV_law dc_law pm_law an_law cd_law ct_law, fun s v => .of_eq rfl, fun base KB GB => ?_⟩
  have T : Txt ⟨l.prog, w, K, mg, base⟩ := { b_len := PySem.W.mg_none_of X G b_len, b_isinstance := PySem.W.mg_none_of X G b_isinstance, b_repr := PySem.W.mg_none_of X G b_repr, b_enumerate := PySem.W.mg_none_of X G b_enumerate, b_range := PySem.W.mg_none_of X G b_range, b_list := PySem.W.mg_none_of X G b_list, b_tuple := PySem.W.mg_none_of X G b_tuple, b_dict := PySem.W.mg_none_of X G b_dict, b_bool := PySem.W.mg_none_of X G b_bool, b_int := PySem.W.mg_none_of X G b_int, b_str := PySem.W.mg_none_of X G b_str, b_abs := PySem.W.mg_none_of X G b_abs, b_all := PySem.W.mg_none_of X G b_all, b_any := PySem.W.mg_none_of X G b_any, b_min := PySem.W.mg_none_of X G b_min, nd := nd, c_MOST_DIGITS := ⟨_, PySem.W.mg_of X G v_MOST_DIGITS, _, rfl⟩, c_MOST_ITEMS := ⟨_, PySem.W.mg_of X G v_MOST_ITEMS, _, rfl⟩, c_MOST_LEVELS := ⟨_, PySem.W.mg_of X G v_MOST_LEVELS, _, rfl⟩, c_MOST_KEY := ⟨_, PySem.W.mg_of X G v_MOST_KEY, _, rfl⟩, c_BODY_LENGTH := ⟨_, PySem.W.mg_of X G v_BODY_LENGTH, _, rfl⟩ }
  have T2 : Txt2 ⟨l.prog, w, K, mg, base⟩ := { toTxt := T, c_DIGITS := ⟨_, PySem.W.mg_of X G v_DIGITS, _, rfl⟩ }
  have X_InvalidText : XK1 ⟨l.prog, w, K, mg, base⟩ "InvalidText" C_InvalidText "position" := ⟨PySem.W.mg_of X G aC_InvalidText, PySem.W.mg_none_of X G b_super, xb_InvalidText.kp, xb_InvalidText.hd, xb_InvalidText.sa, nf_InvalidText, _, _, _, _, _, _, _, _, _, _, xc_mk PySem.F.excBase_ValueError PySem.W.kxs_ValueError PySem.F.store_ValueError xa xb_InvalidText in_InvalidText l_InvalidText co_InvalidText fi_InvalidText fe_InvalidText ce_InvalidText, xst_InvalidText⟩
  have RI : PySem.W.subIn K (.ref C_InvalidText) (.type "BaseException") = some true ∧ PySem.W.typeIn K (.ref C_InvalidText) = some (.type "type") := ⟨xb_InvalidText.hs, tyX⟩
  have CL : Cls K C_TextReader := ⟨pg_TextReader, hd_TextReader, po_TextReader, sa_TextReader⟩
  have RR : RF ⟨l.prog, w, K, mg, base⟩ C_TextReader := ⟨CL, na_TextReader_own_text, na_TextReader_at⟩
  have V_Shelf : Gv ⟨l.prog, w, K, mg, base⟩ "Shelf" (.ref C_Shelf) := ⟨_, PySem.W.mg_of X G aC_Shelf, rfl⟩
  have F_items_of : Kn ⟨l.prog, w, K, mg, base⟩ "items_of" 1 ["value"] [] sp_items := ⟨_, _, [], PySem.W.mg_of X G a_items_of, k_items_of, ok_items D_items_of T, b_items_of, .nil⟩
  have F_is_wrong_part : Kn ⟨l.prog, w, K, mg, base⟩ "is_wrong_part" 1 ["value", "depth"] [] sp_wrong := ⟨_, _, [], PySem.W.mg_of X G a_is_wrong_part, k_is_wrong_part, ok_wrong D_is_wrong_part T, b_is_wrong_part, .nil⟩
  have R_wrong_path : ∀ n, Kn ⟨l.prog, w, K, mg, base⟩ "wrong_path" (n + 1) ["value", "path"] [] (sp_path n) := kn_rec (g := ⟨l.prog, w, K, mg, base⟩) (PySem.W.mg_of X G a_wrong_path) k_wrong_path b_wrong_path (fun vs H Q E z => by obtain ⟨v, u, _, d, fp, a, ps, _, _, _, _, _, h, _⟩ := z; exact absurd h (Nat.not_lt_zero _)) fun n F => ok_path n D_wrong_path T F_is_wrong_part F_items_of F
  have F_wrong_path : Kn ⟨l.prog, w, K, mg, base⟩ "wrong_path" 22 ["value", "path"] [] (sp_path 21) := R_wrong_path 21
  have F_check_value : Kn ⟨l.prog, w, K, mg, base⟩ "check_value" 23 ["value"] [] sp_check := ⟨_, _, [], PySem.W.mg_of X G a_check_value, k_check_value, ok_check D_check_value T F_wrong_path, b_check_value, .nil⟩
  have R_spelled : ∀ n, Kn ⟨l.prog, w, K, mg, base⟩ "spelled" (n + 1) ["value"] [] (sp_spell n) := kn_rec (g := ⟨l.prog, w, K, mg, base⟩) (PySem.W.mg_of X G a_spelled) k_spelled b_spelled (fun vs H Q E z => by obtain ⟨v, _, d, fp, _, _, h, _⟩ := z; exact absurd h (Nat.not_lt_zero _)) fun n F => ok_spell n D_spelled T F
  have F_spelled : Kn ⟨l.prog, w, K, mg, base⟩ "spelled" 22 ["value"] [] (sp_spell 21) := R_spelled 21
  have F_text_of : Kn ⟨l.prog, w, K, mg, base⟩ "text_of" 24 ["value"] [] sp_text := ⟨_, _, [], PySem.W.mg_of X G a_text_of, k_text_of, ok_text D_text_of T F_check_value F_spelled, b_text_of, .nil⟩
  have M_sign : Km ⟨l.prog, w, K, mg, base⟩ C_TextReader "sign" 1 ["self"] [] (sp_sign C_TextReader) := ⟨_, _, [], a_TextReader_sign, i_TextReader_sign, k_TextReader_sign, ok_sign D_TextReader_sign T2 RR, b_TextReader_sign, .nil⟩
  have M_refuse : Km ⟨l.prog, w, K, mg, base⟩ C_TextReader "refuse" 3 ["self", "index"] [] (sp_refuse C_InvalidText) := ⟨_, _, [], a_TextReader_refuse, i_TextReader_refuse, k_TextReader_refuse, ok_refuse D_TextReader_refuse T2 X_InvalidText RI, b_TextReader_refuse, .nil⟩
  have M_read_count : Km ⟨l.prog, w, K, mg, base⟩ C_TextReader "read_count" 4 ["self"] [] (sp_count C_TextReader C_InvalidText) := ⟨_, _, [], a_TextReader_read_count, i_TextReader_read_count, k_TextReader_read_count, ok_count D_TextReader_read_count T2 RR CL M_sign M_refuse, b_TextReader_read_count, .nil⟩
  have M_read_digits : Km ⟨l.prog, w, K, mg, base⟩ C_TextReader "read_digits" 4 ["self", "closing", "most"] [] (sp_digits C_TextReader C_InvalidText) := ⟨_, _, [], a_TextReader_read_digits, i_TextReader_read_digits, k_TextReader_read_digits, ok_digits D_TextReader_read_digits T2 RR CL M_sign M_refuse, b_TextReader_read_digits, .nil⟩
  have M_read_integer : Km ⟨l.prog, w, K, mg, base⟩ C_TextReader "read_integer" 5 ["self"] [] (sp_integer C_TextReader C_InvalidText) := ⟨_, _, [], a_TextReader_read_integer, i_TextReader_read_integer, k_TextReader_read_integer, ok_integer D_TextReader_read_integer T2 RR CL M_sign M_refuse M_read_digits, b_TextReader_read_integer, .nil⟩
  have M_read_string : Km ⟨l.prog, w, K, mg, base⟩ C_TextReader "read_string" 5 ["self"] [] (sp_string C_TextReader C_InvalidText) := ⟨_, _, [], a_TextReader_read_string, i_TextReader_read_string, k_TextReader_read_string, ok_string D_TextReader_read_string T2 RR CL M_refuse M_read_count, b_TextReader_read_string, .nil⟩
  have RP : ∀ n, Km ⟨l.prog, w, K, mg, base⟩ C_TextReader "read_part" (2 * n + 6) ["self", "depth"] [] (sp_part C_TextReader C_InvalidText n) := by
    intro n
    induction n with
    | zero => exact ⟨_, _, [], a_TextReader_read_part, i_TextReader_read_part, k_TextReader_read_part, ok_part 0 D_TextReader_read_part T2 RR CL M_sign M_refuse M_read_integer M_read_string ⟨_, _, [], a_TextReader_read_items, i_TextReader_read_items, k_TextReader_read_items, fnG_void (fun _ _ _ _ z => z), b_TextReader_read_items, .nil⟩ ⟨_, _, [], a_TextReader_read_pairs, i_TextReader_read_pairs, k_TextReader_read_pairs, fnG_void (fun _ _ _ _ z => z), b_TextReader_read_pairs, .nil⟩, b_TextReader_read_part, .nil⟩
    | succ n ih => exact ⟨_, _, [], a_TextReader_read_part, i_TextReader_read_part, k_TextReader_read_part, ok_part (n + 1) D_TextReader_read_part T2 RR CL M_sign M_refuse M_read_integer M_read_string ⟨_, _, [], a_TextReader_read_items, i_TextReader_read_items, k_TextReader_read_items, ok_its n (rp_len n) D_TextReader_read_items T2 RR CL M_read_count ih, b_TextReader_read_items, .nil⟩ ⟨_, _, [], a_TextReader_read_pairs, i_TextReader_read_pairs, k_TextReader_read_pairs, ok_prs n (rp_len n) D_TextReader_read_pairs T2 RR CL M_sign M_refuse M_read_string M_read_count ih, b_TextReader_read_pairs, .nil⟩, b_TextReader_read_part, .nil⟩
  have M_read_part := RP 20
  have M_is_done : Km ⟨l.prog, w, K, mg, base⟩ C_TextReader "is_done" 1 ["self"] [] (sp_done C_TextReader) := ⟨_, _, [], a_TextReader_is_done, i_TextReader_is_done, k_TextReader_is_done, ok_done D_TextReader_is_done T2 RR, b_TextReader_is_done, .nil⟩
  have F_TextReader : Kc ⟨l.prog, w, K, mg, base⟩ "TextReader" C_TextReader 1 ["self", "text"] [] (sp_rinit C_TextReader) := ⟨PySem.W.mg_of X G aC_TextReader, _, _, [], ⟨mk_TextReader, a_TextReader__init, i_TextReader__init, kc_TextReader⟩, ok_rinit D_TextReader__init T2 RR, b_TextReader__init, .nil⟩
  have F_csB : Kn ⟨l.prog, w, K, mg, base⟩ "check_string" 3 ["text"] [] (SpOr sp_cstr (sp_cstrO C_InvalidText)) := ⟨_, _, [], PySem.W.mg_of X G a_check_string, k_check_string, ((ok_cstr D_check_string T2).mono (by decide)).or (ok_cstrO D_check_string T2 X_InvalidText RI), b_check_string, .nil⟩
  have OVI := ok_vin (g := ⟨l.prog, w, K, mg, base⟩) D_values_in T2 RR CL F_csB F_TextReader M_read_part M_is_done
  have GYF_values_in : KgfY ⟨l.prog, w, K, mg, base⟩ "values_in" 47 ["text"] [] (sp_vin C_TextReader C_InvalidText) := ⟨_, _, [], PySem.W.mg_of X G a_values_in, k_values_in, OVI, b_values_in, .nil⟩
  have F_number_in : Kn ⟨l.prog, w, K, mg, base⟩ "number_in" 1 ["text"] [] sp_num := ⟨_, _, [], PySem.W.mg_of X G a_number_in, k_number_in, ok_num D_number_in T2, b_number_in, .nil⟩
  have F_row_in : Kn ⟨l.prog, w, K, mg, base⟩ "row_in" 49 ["text"] [] sp_row := ⟨_, _, [], PySem.W.mg_of X G a_row_in, k_row_in, ok_row D_row_in T2 GYF_values_in (PySem.W.mg_of X G aC_InvalidText) hex rsi, b_row_in, .nil⟩
  have F_is_key : Kn ⟨l.prog, w, K, mg, base⟩ "is_key" 1 ["value"] [] sp_iskey := ⟨_, _, [], PySem.W.mg_of X G a_is_key, k_is_key, ok_iskey D_is_key T2, b_is_key, .nil⟩
  have F_pieces_of : Kn ⟨l.prog, w, K, mg, base⟩ "pieces_of" 2 ["row"] [] sp_pcs := ⟨_, _, [], PySem.W.mg_of X G a_pieces_of, k_pieces_of, ok_pcs D_pieces_of T2 F_is_key, b_pieces_of, .nil⟩
  have F_parsed : Kn ⟨l.prog, w, K, mg, base⟩ "parsed" 50 ["text"] [] sp_parsed := ⟨_, _, [], PySem.W.mg_of X G a_parsed, k_parsed, ok_parsed D_parsed T2 F_number_in F_row_in F_is_key F_pieces_of, b_parsed, .nil⟩
  have ORD := ok_reading (g := ⟨l.prog, w, K, mg, base⟩) D_reading_of T2 F_parsed
  have F_reading_of : Kn ⟨l.prog, w, K, mg, base⟩ "reading_of" 51 ["text"] [] sp_reading := ⟨_, _, [], PySem.W.mg_of X G a_reading_of, k_reading_of, ORD, b_reading_of, .nil⟩
  have KK_reading_of : Kk ⟨l.prog, w, K, mg, base⟩ "reading_of" 51 ["text"] ["text"] [0] sp_reading := ⟨_, _, PySem.W.mg_of X G a_reading_of, k_reading_of, ORD, fun s ws hw => match ws, hw with | [_], _ => .of_eq rfl⟩
  have F_is_value : Kn ⟨l.prog, w, K, mg, base⟩ "is_value" 23 ["value"] [] sp_isv := ⟨_, _, [], PySem.W.mg_of X G a_is_value, k_is_value, ok_isv D_is_value T2 F_wrong_path, b_is_value, .nil⟩
  have F_is_deed : Kn ⟨l.prog, w, K, mg, base⟩ "is_deed" 24 ["value"] [] sp_isd := ⟨_, _, [], PySem.W.mg_of X G a_is_deed, k_is_deed, ok_isd D_is_deed T2 F_is_key F_is_value, b_is_deed, .nil⟩
  have F_check_deeds : Kn ⟨l.prog, w, K, mg, base⟩ "check_deeds" 25 ["deeds"] [] sp_cdeeds := ⟨_, _, [], PySem.W.mg_of X G a_check_deeds, k_check_deeds, ok_cdeeds D_check_deeds T2 F_is_deed, b_check_deeds, .nil⟩
  have F_check_record : Kn ⟨l.prog, w, K, mg, base⟩ "check_record" 1 ["text"] [] sp_crec := ⟨_, _, [], PySem.W.mg_of X G a_check_record, k_check_record, ok_crec D_check_record T2, b_check_record, .nil⟩
  have F_page_count : Kn ⟨l.prog, w, K, mg, base⟩ "page_count" 2 ["text"] [] sp_pcount := ⟨_, _, [], PySem.W.mg_of X G a_page_count, k_page_count, ok_pcount D_page_count T2 F_check_record, b_page_count, .nil⟩
  have F_batch_text : KnS ⟨l.prog, w, K, mg, base⟩ "batch_text" 26 (spS 0 sp_btext) := ⟨_, PySem.W.mg_of X G a_batch_text, k_batch_text, ok_btext (g := ⟨l.prog, w, K, mg, base⟩) D_batch_text (fun us rest h => match us, rest, h with | [], [], _ => rfl | [], _ :: _, _ => rfl) T2 F_check_deeds F_text_of⟩
  have SMS_Shelf_cost : KsmS ⟨l.prog, w, K, mg, base⟩ C_Shelf "cost" 27 (spS 0 sp_cost) := ⟨f_Shelf_cost, .type "type", p_Shelf_cost, re_Shelf_cost, ⟨rdS, gaS⟩, tyS, at_Shelf_cost, rc_Shelf_cost, k_Shelf_cost, ok_cost (g := ⟨l.prog, w, K, mg, base⟩) D_Shelf_cost (fun us rest h => match us, rest, h with | [], [], _ => rfl | [], _ :: _, _ => rfl) T2 F_batch_text F_page_count⟩
  have F_l_begin : Kn ⟨l.prog, w, K, mg, base⟩ "_law_begin" 1 ["_law_script", "_law_turn"] [] (sp_begin K) := ⟨_, _, [], PySem.W.mg_of X G a_l_begin, k_l_begin, ok_begin D_l_begin T2, b_l_begin, .nil⟩
  have F_l_draw : Kn ⟨l.prog, w, K, mg, base⟩ "_law_draw" 1 ["_law_state", "_law_size"] [] sp_draw := ⟨_, _, [], PySem.W.mg_of X G a_l_draw, k_l_draw, ok_draw D_l_draw T2, b_l_draw, .nil⟩
  have F_l_pick : Kn ⟨l.prog, w, K, mg, base⟩ "_law_pick" 2 ["_law_state", "_law_items"] [] sp_pick := ⟨_, _, [], PySem.W.mg_of X G a_l_pick, k_l_pick, ok_pick D_l_pick T2 F_l_draw, b_l_pick, .nil⟩
  have F_l_word : Kn ⟨l.prog, w, K, mg, base⟩ "_law_word" 3 ["_law_state"] [] sp_word := ⟨_, _, [], PySem.W.mg_of X G a_l_word, k_l_word, ok_word D_l_word T2 F_l_draw F_l_pick, b_l_word, .nil⟩
  have R_l_thing : ∀ n, Kn ⟨l.prog, w, K, mg, base⟩ "_law_thing" (n + 4) ["_law_state", "_law_deep"] [] (sp_thing n) := kn_rec (g := ⟨l.prog, w, K, mg, base⟩) (PySem.W.mg_of X G a_l_thing) k_l_thing b_l_thing (fun vs H Q E z => by first | exact z.elim | (obtain ⟨_, _, _, z⟩ := z; exact z.elim) | (obtain ⟨u, v, _, p, N, k, _, _, h, _⟩ := z; exact absurd h (Nat.not_lt_zero _)) | (simp only [sp_thing] at z; omega)) fun n F => ok_thing n D_l_thing T2 F_l_draw F_l_pick F_l_word F
  have F_l_thing : Kn ⟨l.prog, w, K, mg, base⟩ "_law_thing" 7 ["_law_state", "_law_deep"] [] (sp_thing 3) := R_l_thing 3
  have R_l_spelled : ∀ n, Kn ⟨l.prog, w, K, mg, base⟩ "_law_spelled" (n + 1) ["_law_thing_here"] [] (sp_spell n) := kn_rec (g := ⟨l.prog, w, K, mg, base⟩) (PySem.W.mg_of X G a_l_spelled) k_l_spelled b_l_spelled (fun vs H Q E z => by obtain ⟨v, _, d, fp, _, _, h, _⟩ := z; exact absurd h (Nat.not_lt_zero _)) fun n F => ok_lspell n D_l_spelled T2 F
  have F_l_spelled : Kn ⟨l.prog, w, K, mg, base⟩ "_law_spelled" 22 ["_law_thing_here"] [] (sp_spell 21) := R_l_spelled 21
  have F_l_pages : Kn ⟨l.prog, w, K, mg, base⟩ "_law_pages" 1 ["_law_row"] [] sp_lpages := ⟨_, _, [], PySem.W.mg_of X G a_l_pages, k_l_pages, ok_lpages D_l_pages T2, b_l_pages, .nil⟩
  have F_l_batch : Kn ⟨l.prog, w, K, mg, base⟩ "_law_batch" 24 ["_law_deeds_so"] [] sp_lbatch := ⟨_, _, [], PySem.W.mg_of X G a_l_batch, k_l_batch, ok_lbatch D_l_batch T2 F_l_spelled, b_l_batch, .nil⟩
  have F_l_after : Kn ⟨l.prog, w, K, mg, base⟩ "_law_after" 1 ["_law_model", "_law_deeds_so"] [] sp_after := ⟨_, _, [], PySem.W.mg_of X G a_l_after, k_l_after, ok_after D_l_after T2, b_l_after, .nil⟩
  have F_l_deeds : Kn ⟨l.prog, w, K, mg, base⟩ "_law_deeds" 8 ["_law_state", "_law_model"] [] sp_deeds := ⟨_, _, [], PySem.W.mg_of X G a_l_deeds, k_l_deeds, ok_deeds D_l_deeds T2 F_l_draw F_l_pick F_l_word F_l_thing F_l_after, b_l_deeds, .nil⟩
  have F_l_composed : Kn ⟨l.prog, w, K, mg, base⟩ "_law_composed" 29 ["_law_deeds_so"] [] sp_comp := ⟨_, _, [], PySem.W.mg_of X G a_l_composed, k_l_composed, ok_comp D_l_composed T2 F_batch_text V_Shelf SMS_Shelf_cost, b_l_composed, .nil⟩
  have F_l_shape : Kn ⟨l.prog, w, K, mg, base⟩ "_law_shape" 24 ["_law_told"] [] sp_shape := ⟨_, _, [], PySem.W.mg_of X G a_l_shape, k_l_shape, ok_shape D_l_shape T2 F_l_spelled, b_l_shape, .nil⟩
  have F_l_again : Kn ⟨l.prog, w, K, mg, base⟩ "_law_again" 25 ["_law_told"] [] sp_again := ⟨_, _, [], PySem.W.mg_of X G a_l_again, k_l_again, ok_again D_l_again T2 F_l_spelled F_l_batch, b_l_again, .nil⟩
  have F_l_bent : Kn ⟨l.prog, w, K, mg, base⟩ "_law_bent" 3 ["_law_state", "_law_row"] [] sp_lbent := ⟨_, _, [], PySem.W.mg_of X G a_l_bent, k_l_bent, ok_lbent D_l_bent T2 F_l_draw F_l_pick, b_l_bent, .nil⟩
  have F_l_bent_right : Kn ⟨l.prog, w, K, mg, base⟩ "_law_bent_right" 52 ["_law_state", "_law_row"] [] sp_bright := ⟨_, _, [], PySem.W.mg_of X G a_l_bent_right, k_l_bent_right, ok_bright D_l_bent_right T2 F_l_bent KK_reading_of F_l_again, b_l_bent_right, .nil⟩
  exact ok_law D_law T2 F_l_begin F_l_draw F_l_word F_l_thing F_l_deeds F_l_batch F_l_composed F_l_pages F_l_spelled F_l_shape F_reading_of F_l_bent_right F_batch_text V_Shelf SMS_Shelf_cost
end K27
open PySem PySem.W PyProof.Rows
set_option maxRecDepth 100000 in
set_option maxHeartbeats 0 in
theorem PySem.Challenge.cw_recordshelf_k27_texts_of_records_holds : PySem.Challenge.rw_recordshelf_k27_texts_of_records.Holds := by
  refine hd_recordshelf_k27_texts_of_records ?_
  k_fill
  refine RS.walkG (l := PySem.Challenge.rw_recordshelf_k27_texts_of_records) (n := 63) (k := 54) (sp := fun w => K27.sp_law _) (x := "_law_script") rfl (by decide) rfl ⟨rfl, by decide, by decide⟩ (fun w h Y => PySem.W.kIn_of Y) ?F (fun w H a ns hl hb hO hS => ⟨_, rfl, a, ns, rfl, hS, by omega, fun _ => rfl⟩)
  case F =>
    intro w mg fa h KX G hmg
    refine' K27.all_mk (l := PySem.Challenge.rw_recordshelf_k27_texts_of_records) KX G hmg ?b_super ?xa ?aC_InvalidText ?in_InvalidText ?l_InvalidText ?co_InvalidText ?fi_InvalidText ?fe_InvalidText ?ce_InvalidText ?xb_InvalidText ?nf_InvalidText ?tyX ?hex ?aC_TextReader ?pg_TextReader ?hd_TextReader ?po_TextReader ?sa_TextReader ?kc_TextReader ?mk_TextReader ?na_TextReader_own_text ?na_TextReader_at ?a_TextReader__init ?i_TextReader__init ?l_TextReader__init ?c_TextReader__init ?k_TextReader__init ?a_TextReader_sign ?i_TextReader_sign ?l_TextReader_sign ?c_TextReader_sign ?k_TextReader_sign ?a_TextReader_refuse ?i_TextReader_refuse ?l_TextReader_refuse ?c_TextReader_refuse ?k_TextReader_refuse ?a_TextReader_read_digits ?i_TextReader_read_digits ?l_TextReader_read_digits ?c_TextReader_read_digits ?k_TextReader_read_digits ?a_TextReader_read_count ?i_TextReader_read_count ?l_TextReader_read_count ?c_TextReader_read_count ?k_TextReader_read_count ?a_TextReader_read_integer ?i_TextReader_read_integer ?l_TextReader_read_integer ?c_TextReader_read_integer ?k_TextReader_read_integer ?a_TextReader_read_string ?i_TextReader_read_string ?l_TextReader_read_string ?c_TextReader_read_string ?k_TextReader_read_string ?a_TextReader_read_pairs ?i_TextReader_read_pairs ?l_TextReader_read_pairs ?c_TextReader_read_pairs ?k_TextReader_read_pairs ?a_TextReader_read_items ?i_TextReader_read_items ?l_TextReader_read_items ?c_TextReader_read_items ?k_TextReader_read_items ?a_TextReader_read_part ?i_TextReader_read_part ?l_TextReader_read_part ?c_TextReader_read_part ?k_TextReader_read_part ?a_TextReader_is_done ?i_TextReader_is_done ?l_TextReader_is_done ?c_TextReader_is_done ?k_TextReader_is_done ?aC_Shelf ?rdS ?gaS ?tyS ?at_Shelf_cost ?rc_Shelf_cost ?l_Shelf_cost ?c_Shelf_cost ?k_Shelf_cost ?a_items_of ?l_items_of ?c_items_of ?k_items_of ?a_is_wrong_part ?l_is_wrong_part ?c_is_wrong_part ?k_is_wrong_part ?a_wrong_path ?l_wrong_path ?c_wrong_path ?k_wrong_path ?a_check_value ?l_check_value ?c_check_value ?k_check_value ?a_spelled ?l_spelled ?c_spelled ?k_spelled ?a_text_of ?l_text_of ?c_text_of ?k_text_of ?a_check_string ?l_check_string ?c_check_string ?k_check_string ?a_values_in ?l_values_in ?c_values_in ?k_values_in ?a_number_in ?l_number_in ?c_number_in ?k_number_in ?a_row_in ?l_row_in ?c_row_in ?k_row_in ?a_is_key ?l_is_key ?c_is_key ?k_is_key ?a_pieces_of ?l_pieces_of ?c_pieces_of ?k_pieces_of ?a_parsed ?l_parsed ?c_parsed ?k_parsed ?a_reading_of ?l_reading_of ?c_reading_of ?k_reading_of ?a_is_value ?l_is_value ?c_is_value ?k_is_value ?a_is_deed ?l_is_deed ?c_is_deed ?k_is_deed ?a_check_deeds ?l_check_deeds ?c_check_deeds ?k_check_deeds ?a_check_record ?l_check_record ?c_check_record ?k_check_record ?a_page_count ?l_page_count ?c_page_count ?k_page_count ?a_batch_text ?l_batch_text ?c_batch_text ?k_batch_text ?a_l_begin ?l_l_begin ?c_l_begin ?k_l_begin ?a_l_draw ?l_l_draw ?c_l_draw ?k_l_draw ?a_l_pick ?l_l_pick ?c_l_pick ?k_l_pick ?a_l_word ?l_l_word ?c_l_word ?k_l_word ?a_l_thing ?l_l_thing ?c_l_thing ?k_l_thing ?a_l_spelled ?l_l_spelled ?c_l_spelled ?k_l_spelled ?a_l_pages ?l_l_pages ?c_l_pages ?k_l_pages ?a_l_batch ?l_l_batch ?c_l_batch ?k_l_batch ?a_l_after ?l_l_after ?c_l_after ?k_l_after ?a_l_deeds ?l_l_deeds ?c_l_deeds ?k_l_deeds ?a_l_composed ?l_l_composed ?c_l_composed ?k_l_composed ?a_l_shape ?l_l_shape ?c_l_shape ?k_l_shape ?a_l_again ?l_l_again ?c_l_again ?k_l_again ?a_l_bent ?l_l_bent ?c_l_bent ?k_l_bent ?a_l_bent_right ?l_l_bent_right ?c_l_bent_right ?k_l_bent_right ?a_law ?l_law ?c_law ?k_law ?rsi ?b_len ?b_isinstance ?b_repr ?b_enumerate ?b_range ?b_list ?b_tuple ?b_dict ?b_bool ?b_int ?b_str ?b_abs ?b_all ?b_any ?b_min ?nd ?v_MOST_DIGITS ?v_MOST_ITEMS ?v_MOST_LEVELS ?v_MOST_KEY ?v_BODY_LENGTH ?v_DIGITS
    (case b_super => k_is)
    (case xa => exact ⟨by kernel_rfl, by kernel_rfl, by kernel_rfl, by kernel_rfl⟩)
    (case aC_InvalidText => k_is)
    (case in_InvalidText => k_is)
    (case l_InvalidText => k_is)
    (case co_InvalidText => k_is)
    (case fi_InvalidText => exact rfl)
    (case fe_InvalidText => kernel_rfl)
    (case ce_InvalidText => k_is)
    (case xb_InvalidText => exact ⟨by kernel_rfl, by kernel_rfl, by kernel_rfl, by kernel_rfl, by kernel_rfl, by kernel_rfl, by kernel_rfl, by kernel_rfl, by kernel_rfl, by kernel_rfl, by kernel_rfl, by kernel_rfl, by kernel_rfl, by kernel_rfl, by kernel_rfl⟩)
    (case nf_InvalidText => kernel_rfl)
    (case tyX => kernel_rfl)
    (case hex => kernel_rfl)
    (case aC_TextReader => k_is)
    (case pg_TextReader => k_is)
    (case hd_TextReader => k_is)
    (case po_TextReader => k_is)
    (case sa_TextReader => k_is)
    (case kc_TextReader => k_is)
    (case mk_TextReader => k_is)
    (case na_TextReader_own_text => k_is)
    (case na_TextReader_at => k_is)
    (case a_TextReader__init => k_is)
    (case i_TextReader__init => k_is)
    (case l_TextReader__init => k_is)
    (case c_TextReader__init => k_is)
    (case k_TextReader__init => k_is)
    (case a_TextReader_sign => k_is)
    (case i_TextReader_sign => k_is)
    (case l_TextReader_sign => k_is)
    (case c_TextReader_sign => k_is)
    (case k_TextReader_sign => k_is)
    (case a_TextReader_refuse => k_is)
    (case i_TextReader_refuse => k_is)
    (case l_TextReader_refuse => k_is)
    (case c_TextReader_refuse => k_is)
    (case k_TextReader_refuse => k_is)
    (case a_TextReader_read_digits => k_is)
    (case i_TextReader_read_digits => k_is)
    (case l_TextReader_read_digits => k_is)
    (case c_TextReader_read_digits => k_is)
    (case k_TextReader_read_digits => k_is)
    (case a_TextReader_read_count => k_is)
    (case i_TextReader_read_count => k_is)
    (case l_TextReader_read_count => k_is)
    (case c_TextReader_read_count => k_is)
    (case k_TextReader_read_count => k_is)
    (case a_TextReader_read_integer => k_is)
    (case i_TextReader_read_integer => k_is)
    (case l_TextReader_read_integer => k_is)
    (case c_TextReader_read_integer => k_is)
    (case k_TextReader_read_integer => k_is)
    (case a_TextReader_read_string => k_is)
    (case i_TextReader_read_string => k_is)
    (case l_TextReader_read_string => k_is)
    (case c_TextReader_read_string => k_is)
    (case k_TextReader_read_string => k_is)
    (case a_TextReader_read_pairs => k_is)
    (case i_TextReader_read_pairs => k_is)
    (case l_TextReader_read_pairs => k_is)
    (case c_TextReader_read_pairs => k_is)
    (case k_TextReader_read_pairs => k_is)
    (case a_TextReader_read_items => k_is)
    (case i_TextReader_read_items => k_is)
    (case l_TextReader_read_items => k_is)
    (case c_TextReader_read_items => k_is)
    (case k_TextReader_read_items => k_is)
    (case a_TextReader_read_part => k_is)
    (case i_TextReader_read_part => k_is)
    (case l_TextReader_read_part => k_is)
    (case c_TextReader_read_part => k_is)
    (case k_TextReader_read_part => k_is)
    (case a_TextReader_is_done => k_is)
    (case i_TextReader_is_done => k_is)
    (case l_TextReader_is_done => k_is)
    (case c_TextReader_is_done => k_is)
    (case k_TextReader_is_done => k_is)
    (case aC_Shelf => k_is)
    (case rdS => kernel_rfl)
    (case gaS => kernel_rfl)
    (case tyS => kernel_rfl)
    (case at_Shelf_cost => exact rfl)
    (case rc_Shelf_cost => k_is)
    (case l_Shelf_cost => k_is)
    (case c_Shelf_cost => k_is)
    (case k_Shelf_cost => k_is)
    (case a_items_of => k_is)
    (case l_items_of => k_is)
    (case c_items_of => k_is)
    (case k_items_of => k_is)
    (case a_is_wrong_part => k_is)
    (case l_is_wrong_part => k_is)
    (case c_is_wrong_part => k_is)
    (case k_is_wrong_part => k_is)
    (case a_wrong_path => k_is)
    (case l_wrong_path => k_is)
    (case c_wrong_path => k_is)
    (case k_wrong_path => k_is)
    (case a_check_value => k_is)
    (case l_check_value => k_is)
    (case c_check_value => k_is)
    (case k_check_value => k_is)
    (case a_spelled => k_is)
    (case l_spelled => k_is)
    (case c_spelled => k_is)
    (case k_spelled => k_is)
    (case a_text_of => k_is)
    (case l_text_of => k_is)
    (case c_text_of => k_is)
    (case k_text_of => k_is)
    (case a_check_string => k_is)
    (case l_check_string => k_is)
    (case c_check_string => k_is)
    (case k_check_string => k_is)
    (case a_values_in => k_is)
    (case l_values_in => k_is)
    (case c_values_in => k_is)
    (case k_values_in => k_is)
    (case a_number_in => k_is)
    (case l_number_in => k_is)
    (case c_number_in => k_is)
    (case k_number_in => k_is)
    (case a_row_in => k_is)
    (case l_row_in => k_is)
    (case c_row_in => k_is)
    (case k_row_in => k_is)
    (case a_is_key => k_is)
    (case l_is_key => k_is)
    (case c_is_key => k_is)
    (case k_is_key => k_is)
    (case a_pieces_of => k_is)
    (case l_pieces_of => k_is)
    (case c_pieces_of => k_is)
    (case k_pieces_of => k_is)
    (case a_parsed => k_is)
    (case l_parsed => k_is)
    (case c_parsed => k_is)
    (case k_parsed => k_is)
    (case a_reading_of => k_is)
    (case l_reading_of => k_is)
    (case c_reading_of => k_is)
    (case k_reading_of => k_is)
    (case a_is_value => k_is)
    (case l_is_value => k_is)
    (case c_is_value => k_is)
    (case k_is_value => k_is)
    (case a_is_deed => k_is)
    (case l_is_deed => k_is)
    (case c_is_deed => k_is)
    (case k_is_deed => k_is)
    (case a_check_deeds => k_is)
    (case l_check_deeds => k_is)
    (case c_check_deeds => k_is)
    (case k_check_deeds => k_is)
    (case a_check_record => k_is)
    (case l_check_record => k_is)
    (case c_check_record => k_is)
    (case k_check_record => k_is)
    (case a_page_count => k_is)
    (case l_page_count => k_is)
    (case c_page_count => k_is)
    (case k_page_count => k_is)
    (case a_batch_text => k_is)
    (case l_batch_text => k_is)
    (case c_batch_text => k_is)
    (case k_batch_text => k_is)
    (case a_l_begin => k_is)
    (case l_l_begin => k_is)
    (case c_l_begin => k_is)
    (case k_l_begin => k_is)
    (case a_l_draw => k_is)
    (case l_l_draw => k_is)
    (case c_l_draw => k_is)
    (case k_l_draw => k_is)
    (case a_l_pick => k_is)
    (case l_l_pick => k_is)
    (case c_l_pick => k_is)
    (case k_l_pick => k_is)
    (case a_l_word => k_is)
    (case l_l_word => k_is)
    (case c_l_word => k_is)
    (case k_l_word => k_is)
    (case a_l_thing => k_is)
    (case l_l_thing => k_is)
    (case c_l_thing => k_is)
    (case k_l_thing => k_is)
    (case a_l_spelled => k_is)
    (case l_l_spelled => k_is)
    (case c_l_spelled => k_is)
    (case k_l_spelled => k_is)
    (case a_l_pages => k_is)
    (case l_l_pages => k_is)
    (case c_l_pages => k_is)
    (case k_l_pages => k_is)
    (case a_l_batch => k_is)
    (case l_l_batch => k_is)
    (case c_l_batch => k_is)
    (case k_l_batch => k_is)
    (case a_l_after => k_is)
    (case l_l_after => k_is)
    (case c_l_after => k_is)
    (case k_l_after => k_is)
    (case a_l_deeds => k_is)
    (case l_l_deeds => k_is)
    (case c_l_deeds => k_is)
    (case k_l_deeds => k_is)
    (case a_l_composed => k_is)
    (case l_l_composed => k_is)
    (case c_l_composed => k_is)
    (case k_l_composed => k_is)
    (case a_l_shape => k_is)
    (case l_l_shape => k_is)
    (case c_l_shape => k_is)
    (case k_l_shape => k_is)
    (case a_l_again => k_is)
    (case l_l_again => k_is)
    (case c_l_again => k_is)
    (case k_l_again => k_is)
    (case a_l_bent => k_is)
    (case l_l_bent => k_is)
    (case c_l_bent => k_is)
    (case k_l_bent => k_is)
    (case a_l_bent_right => k_is)
    (case l_l_bent_right => k_is)
    (case c_l_bent_right => k_is)
    (case k_l_bent_right => k_is)
    (case a_law => k_is)
    (case l_law => k_is)
    (case c_law => k_is)
    (case k_law => k_is)
    (case rsi => kernel_rfl)
    (case b_len => k_is)
    (case b_isinstance => k_is)
    (case b_repr => k_is)
    (case b_enumerate => k_is)
    (case b_range => k_is)
    (case b_list => k_is)
    (case b_tuple => k_is)
    (case b_dict => k_is)
    (case b_bool => k_is)
    (case b_int => k_is)
    (case b_str => k_is)
    (case b_abs => k_is)
    (case b_all => k_is)
    (case b_any => k_is)
    (case b_min => k_is)
    (case nd => k_is)
    (case v_MOST_DIGITS => k_is)
    (case v_MOST_ITEMS => k_is)
    (case v_MOST_LEVELS => k_is)
    (case v_MOST_KEY => k_is)
    (case v_BODY_LENGTH => k_is)
    (case v_DIGITS => k_is)
