import PyProof.Rows.All
import Wide.All
import OpenK.AllK
import Wide.FinOn
import HandS.ForMost
import HandS.Exc
import HandS.WordsExc
import HandS.Flow
import HandS.IsInst
import HandS.FStr
import HandS.TupAny
import HandS.Style
import PyProof.ReprRoads
import KE.GoesMore
import PyProof.FString3
import PyProof.Rows.StrIntSpec
import KE.KFmtOwn
import PyProof.StrBlock2
import HandS.Property
import HandS.Text
import PyProof.Rows.Range3
import PyProof.Conv_bool
import HandS.Small
import PyProof.InstEq
import HandS.EndBits
import HandS.Codes
import PyProof.ReprLen
import HandS.Dict
import KE.KExcSuper
import HandS.ExcInit
import HandS.ExcField
import HandS.ExcIs
import PyProof.RowDictHeap
import PyProof.Rows.SeqMore
import PyProof.FitsInt
import KE.KExcInit
import HandS.DictComp
import HandS.Wide
import PyProof.NeKinds
import KE.KDictZip
import KE.GoesEnum
import HandS.Star
import HandS.ExcValue
import PyProof.RulesMatch
import KE.KTryMore
import HandS.Lambda
import HandS.EndTab
import HandS.ClsMeth
import HandS.GenList
import HandS.SortInts
import HandS.Defaults
import HandS.DeepEq
import KE.KDflt
import KE.KSuper
import HandS.More
import KE.KRevSl
import HandS.TryMany
import HandS.Deep
import HandS.DictEq
import PyProof.EqKinds
import PyProof.FactsAll.dict_1
import PyProof.FactsAll.subtypes_4
import PyProof.DictUpdate
import HandS.GenYield
import HandS.DictSub
import HandS.Set
import HandS.SetFor
import HandS.Strs
import KE.KCallOwn
import OpenK.KMeth
import OpenK.KOps
import HandS.Replace
import HandS.ReplaceLit
import HandS.ReplaceDef
import PyProof.StrLawsReplace
import PyProof.StrLawsRepr
import PyProof.PureStr
import KE.IntTextLaws
import KE.KExcLine
import PySem.Challenge.RW_recordshelf_k58_first_wrong_positions
set_option Elab.async false
set_option linter.all false
set_option maxRecDepth 100000
set_option maxHeartbeats 4000000
namespace RS
open PySem PySem.Spec L2
/-- what a law's text is, as it stands behind its top -/
structure Wd where
  P : Program
  w : World
  K : PySem.W.Frag
  mg : Str → Option Value
  base : Heap
/-- a def that keeps its promise wherever no repr is under way -/
structure FnG (g : Wd) (k : Nat) (f : Addr) (fd : FuncData) (ps : List Str) (sp : Sp) : Prop where
  len : ∀ vs H Q E, sp vs H Q E → vs.length = ps.length
  run : ∀ (A : Around) (outer : List Env) (s : Shared) (H : Hp) (args : Args) (us : List Value) (vs : List V) (Q : VK) (E : XK),
    Room k A → A.guards = some [] → Env0 g.P g.w g.K g.mg g.base A outer s H → BindsTo s fd args (ps.zip us) → Vals vs us → sp vs H Q E →
      codeAny (model g.P g.w) A (.call (.ref f) args) (CR (L2.CX g.P g.w) outer g.P g.w H s Q E) s
theorem FnG.mono {g : Wd} {j k : Nat} {f : Addr} {fd : FuncData} {ps : List Str} {sp : Sp} (F : FnG g j f fd ps sp) (h : j ≤ k) : FnG g k f fd ps sp :=
  ⟨F.len, fun A outer s H args us vs Q E hr => F.run A outer s H args us vs Q E (hr.mono h)⟩
theorem FnG.imp {g : Wd} {k : Nat} {f : Addr} {fd : FuncData} {ps : List Str} {sp sp' : Sp} (F : FnG g k f fd ps sp) (h : ∀ vs H Q E, sp' vs H Q E → sp vs H Q E) : FnG g k f fd ps sp' :=
  ⟨fun vs H Q E q => F.len vs H Q E (h _ _ _ _ q), fun A outer s H args us vs Q E hr hg he hb hv hs => F.run A outer s H args us vs Q E hr hg he hb hv (h _ _ _ _ hs)⟩
/-- a def of the text, with the value of its defaults -/
structure Df (K : PySem.W.Frag) (x qual : Str) (st : Stmt) (f : Addr) (fd : FuncData) (dV : Value) : Prop where
  ex : ∃ (oc : Value) (od : Option Addr) (kV doc pm : Value) (an : Option Addr) (cdv ct : Value) (osl : Array (Option Value)),
    fd = PySem.W.fnOf x qual (defArgs st) (defBody st) (defScope st) dV kV doc pm an cdv ct ∧ K.lookup f = some ⟨oc, od, .func fd, osl⟩ ∧ PySem.W.codeIn K cdv qual = true
  kp : PySem.W.keepIn K (.ref f) = true
/-- the context of its body -/
abbrev cx (g : Wd) (N : List Str) (qual : Str) (st : Stmt) (f : Addr) (cdv : Value) (A : Around) (outer : List Env) (s : Shared) (H : Hp) (E : XK) : Cx :=
  cxOf (L2.CX g.P g.w) g.P g.w g.K g.mg g.base N qual (defScope st) f cdv A outer s H E
/-- what a body may lean on: room, and no repr under way -/
structure Rm (k : Nat) (X : Cx) : Prop where
  room : Room k X.A
  gd : X.A.guards = some []
theorem Rm.mono {j k : Nat} {X : Cx} (r : Rm k X) (h : j ≤ k) : Rm j X := ⟨r.room.mono h, r.gd⟩
theorem Df.ok {g : Wd} {x qual : Str} {st : Stmt} {f : Addr} {fd : FuncData} {dV : Value} {N ps : List Str} {k : Nat} {sp : Sp} (F : Df g.K x qual st f fd dV) (S : FnScope N ps (defScope st))
    (len : ∀ vs H Q E, sp vs H Q E → vs.length = ps.length)
    (hbody : ∀ (cdv : Value) (A : Around) (outer : List Env) (s : Shared) (H : Hp) (vs : List V) (Q : VK) (E : XK), Rm k (cx g N qual st f cdv A outer s H E) → sp vs H Q E →
      ∃ t, PSs (cx g N qual st f cdv A outer s H E) (defBody st) t ∧ t { nx := fun _ H' => Q .non H', rt := Q } (start N vs) H) : FnG g (k + 1) f fd ps sp := by
  obtain ⟨oc, od, kV, doc, pm, an, cdv, ct, osl, rfl, lk, hcd⟩ := F.ex
  refine ⟨len, fun A outer s H args us vs Q E hr hg e0 hb rv hsp => ?_⟩
  have kept : ∀ b o, g.base.get? b = some o → s.heap.get? b = some o := fun b o e => (e0.bs b o e).1
  have KX := e0.mod.kin.keeps kept
  have par : ∀ y ∈ ps.zip us, (defScope st).names.lookup y.1 = some .local ∨ ((defScope st).names.lookup y.1 = some .cell ∧ ((cellsFrom (s.heap.objs.size + 1) (defScope st).names []).lookup y.1).isSome = true) := by
    rintro ⟨n, v⟩ hy
    exact (S.par n (List.of_mem_zip hy).1).imp id fun q => ⟨q, PySem.W.cellsFrom_some _ _ _ (.inl q)⟩
  refine codeAny_call_function hr.depth (KX _ _ lk) rfl S.co S.gen rfl (PySem.W.codeRec_of KX hcd) (hb _ _ _ _ (wpAny_newFunctionEnv_cells S.kind par ?_))
  rintro env rfl s1 ic
  refine ⟨(e0.mod.nolimit.keeps kept).keeps ic.toInCall.keep, codeAny_func ?_⟩
  obtain ⟨t, ht, hq⟩ := hbody cdv A outer s H vs Q E ⟨hr.deeper _, hg⟩ hsp
  have J := inv_start (CX := L2.CX g.P g.w) (E := E) (qual := qual) (f := f) (cd := cdv) S hr.hd e0 (len _ _ _ _ hsp) rv ic
  refine wpAny_mono (ht.run [] s1 _ H _ J hq) ?_ fun _ _ z => z
  rintro fl s' hs
  cases fl with
  | ret u => obtain ⟨v, σ', H', I, r, q⟩ := hs; exact ⟨v, H', I.os, I.bare, I.base, I.hok, r, q⟩
  | next => obtain ⟨σ', H', I, q⟩ := hs; exact ⟨.non, H', I.os, I.bare, I.base, I.hok, rfl, q⟩
  | brk => obtain ⟨_, _, _, q⟩ := hs; exact q.elim
  | cont => obtain ⟨_, _, _, q⟩ := hs; exact q.elim
/-- X stands in the world g -/
structure At (g : Wd) (X : Cx) : Prop where
  P : X.prog = g.P
  w : X.w = g.w
  K : X.K = g.K
  mg : X.mg = g.mg
  base : X.base = g.base
section
variable {g : Wd} {X : Cx} {k : Nat} {f : Addr} {fd : FuncData} {ps : List Str} {sp : Sp} {W : WX}
/-- the callee runs, its arguments bound somehow -/
theorem runG (a : At g X) (F : FnG g k f fd ps sp) (hr : Rm k X) (tk : Takes X W) {pins : List (Addr × Obj)} {σ : St} {H : Hp} {s : Shared} {Q : VK} {args : Args} {us : List Value} {vs : List V}
    (I : Inv X pins σ H s) (hb : BindsTo s fd args (ps.zip us)) (r : Vals vs us) (h : sp vs H Q (fun c d H' => W c d σ H')) :
    codeAny (model X.prog X.w) X.A (.call (.ref f) args) (fun res s' => match res with | .ok fl => (match fl with | .ret u => EP X pins σ Q u s' | _ => False) | .error e => X.xe e s') s := by
  obtain ⟨P, w, K, mg, base⟩ := g
  obtain ⟨rfl, rfl, rfl, rfl, rfl⟩ := a
  refine codeAny_mono (F.run X.A X.stack s H args us vs Q _ hr.room hr.gd I.env0 hb r h) fun res s' hq => ?_
  cases res with
  | error e => exact tk e s' (XE.of_call (E := fun c d H' => W c d σ H') I (fun _ _ _ z => z) hq)
  | ok fl =>
    cases fl with
    | ret u => exact I.after hq
    | _ => exact hq.elim
end
end RS
namespace RS
open PySem PySem.Spec L2
def S0 (g : Hp → VK → XK → Prop) : Sp := fun vs H Q E => vs = [] ∧ g H Q E
def S1 (g : V → Hp → VK → XK → Prop) : Sp := fun vs H Q E => ∃ a, vs = [a] ∧ g a H Q E
def S2 (g : V → V → Hp → VK → XK → Prop) : Sp := fun vs H Q E => ∃ a b, vs = [a, b] ∧ g a b H Q E
def S3 (g : V → V → V → Hp → VK → XK → Prop) : Sp := fun vs H Q E => ∃ a b c, vs = [a, b, c] ∧ g a b c H Q E
def S4 (g : V → V → V → V → Hp → VK → XK → Prop) : Sp := fun vs H Q E => ∃ a b c d, vs = [a, b, c, d] ∧ g a b c d H Q E
def S5 (g : V → V → V → V → V → Hp → VK → XK → Prop) : Sp := fun vs H Q E => ∃ a b c d e, vs = [a, b, c, d, e] ∧ g a b c d e H Q E
theorem S0.len {g} {vs : List V} {H Q E} (h : S0 g vs H Q E) : vs.length = 0 := by obtain ⟨rfl, _⟩ := h; rfl
theorem S1.len {g} {vs : List V} {H Q E} (h : S1 g vs H Q E) : vs.length = 1 := by obtain ⟨_, rfl, _⟩ := h; rfl
theorem S2.len {g} {vs : List V} {H Q E} (h : S2 g vs H Q E) : vs.length = 2 := by obtain ⟨_, _, rfl, _⟩ := h; rfl
theorem S3.len {g} {vs : List V} {H Q E} (h : S3 g vs H Q E) : vs.length = 3 := by obtain ⟨_, _, _, rfl, _⟩ := h; rfl
theorem S4.len {g} {vs : List V} {H Q E} (h : S4 g vs H Q E) : vs.length = 4 := by obtain ⟨_, _, _, _, rfl, _⟩ := h; rfl
theorem S5.len {g} {vs : List V} {H Q E} (h : S5 g vs H Q E) : vs.length = 5 := by obtain ⟨_, _, _, _, _, rfl, _⟩ := h; rfl
/-- what the module's name x holds is worth v -/
def Gv (g : Wd) (x : Str) (v : V) : Prop := ∃ u, g.mg x = some u ∧ RelV v u
/-- the module's name x holds a def that keeps sp; ds: its defaults that fill up -/
def Kn (g : Wd) (x : Str) (k : Nat) (ps : List Str) (ds : List V) (sp : Sp) : Prop :=
  ∃ f fd dsV, g.mg x = some (.ref f) ∧ PySem.W.keepIn g.K (.ref f) = true ∧ FnG g k f fd ps sp ∧ Binds g.K fd ps dsV ∧ Vals ds dsV
section
variable {g : Wd} {X : Cx} {k : Nat} {f : Addr} {fd : FuncData} {ps : List Str} {sp : Sp} {W : WX} {ds : List V} {x : Str} {p pos : Pos} {e : Expr} {es : List Expr} {t : TA}
theorem e_g {v : V} (h : Gv g x v) (hg : Gl X x := by rfl) (hd : (x == ("__debug__" : Str)) = false := by decide) (a : At g X := by exact ⟨rfl, rfl, rfl, rfl, rfl⟩) : PE X (.Name x pos) (tC v) := by
  obtain ⟨u, hm, r⟩ := h
  exact pe_glob hg (by rw [a.mg]; exact hm) r hd
def tCallG (sp : Sp) (ds : List V) (W : WX) (t : TA) : TE := fun σ H Q => t σ H fun vs H1 => sp (vs ++ ds) H1 Q (fun c d H' => W c d σ H')
/-- the call itself, the arguments at hand -/
theorem callG {dsV : List Value} (a : At g X) (F : FnG g k f fd ps sp) (hr : Rm k X) (tk : Takes X W) (hb : Binds g.K fd ps dsV) (rd : Vals ds dsV) {pins : List (Addr × Obj)} {σ : L2.St} {H : Hp} {s : Shared} {Q : VK} {us : List Value} {vs : List V}
    (I : Inv X pins σ H s) (r : Vals vs us) (h : sp (vs ++ ds) H Q (fun c d H' => W c d σ H')) : wpAny (model X.prog X.w) X.A (call (.ref f) us) (EP X pins σ Q) X.xe s := by
  have r2 := Vals.append r rd
  have hl : (us ++ dsV).length = ps.length := by rw [← r2.length]; exact F.len _ _ _ _ h
  have KI : g.K.In s.heap := by rw [← a.K]; exact I.kIn
  refine wpAny_call (codeAny_mono (runG a F hr tk I (hb s us KI hl) r2 h) fun res s' hq => ?_)
  cases res with
  | error e => exact hq
  | ok fl => cases fl with
    | ret u => exact hq
    | _ => exact hq.elim
theorem pe_callG (F : Kn g x k ps ds sp) (hr : Rm k X) (tk : Takes X W) (ha : PA X (e :: es) t) (hg : Gl X x := by rfl) (hdb : (x == ("__debug__" : Str)) = false := by decide)
    (he : starEach (e :: es) X.env = (false, eval e X.env) :: starEach es X.env := by rfl) (hpl : (backTo pos (starEach es X.env)).any (·.1) = false := by rfl) (a : At g X := by exact ⟨rfl, rfl, rfl, rfl, rfl⟩) :
    PE X (.Call (.Name x p) (e :: es) [] pos) (tCallG sp ds W t) := by
  obtain ⟨f, fd, dsV, hm, hk, F, hb, rd⟩ := F
  refine ⟨fun pins s σ H Q I h => wpAny_Call_Name_kw (ld_glob I hg (by rw [a.mg]; exact hm) ?_ hdb)⟩
  refine PySem.W.callWith_K (h₀ := X.base) I.ok.mod.kin (by rw [a.K]; exact hk) (thn (ha.run pos pins s σ H _ I h) ?_) he hpl
  rintro us s1 ⟨vs, H1, I1, r, q⟩
  exact ⟨I1.kIn, callG a F hr tk hb rd I1 r q⟩
theorem pe_callG0 (F : Kn g x k ps ds sp) (hr : Rm k X) (tk : Takes X W) (hg : Gl X x := by rfl) (hdb : (x == ("__debug__" : Str)) = false := by decide) (a : At g X := by exact ⟨rfl, rfl, rfl, rfl, rfl⟩) :
    PE X (.Call (.Name x p) [] [] pos) (tCallG sp ds W tNil) := by
  obtain ⟨f, fd, dsV, hm, hk, F, hb, rd⟩ := F
  refine ⟨fun pins s σ H Q I h => wpAny_Call_Name_kw (ld_glob I hg (by rw [a.mg]; exact hm) ?_ hdb)⟩
  exact PySem.W.callWith_K0 I.kIn (by rw [a.K]; exact hk) (callG a F hr tk hb rd I .nil h)
end
section
variable {X : Cx} {k : Nat}
def rRepr (K : PySem.W.Frag) : List V → Hp → VK → Prop := fun xs H Q => ∃ a d, xs = [.ref a] ∧ Dp K H (.ref a) d ∧ d.showable = true ∧ d.depth ≤ 60 ∧ d.shown.length ≤ sizeLine ∧ Q (.str d.shown) H
end
end RS
namespace RS
open PySem PySem.Spec L2
/-- the signs of x, each with its index in a new pair -/
def ItEs (x : Str) : It :=
  ⟨fun i _ => i < x.cps.size, fun i H v H' => ∃ T c, v = .ref T ∧ H T = none ∧ H' = upd H T (.tup [.int (i : Nat), .str ⟨#[c]⟩]) ∧ x.cps[i]? = some c, fun i _ => i = x.cps.size⟩
theorem turn_enumS {P : Program} {w : World} {K : PySem.W.Frag} {elts : List Expr} {kk : Nat} {tpos : Pos} (x : Str) (t : Tok) (e it : Addr) :
    Turn P w K (.Tuple elts kk tpos) (ItEs x) [e, it] e (fun i h => (∃ old, IsEnum h e it ((i : Nat) : Int) old) ∧ h.IsStrIter it (strIterType x) x t i ∧ e ≠ it) where
  mem := List.mem_cons_self
  obj := by
    rintro i h ⟨⟨old, he⟩, ⟨o, ho, hc, hd⟩, _⟩ b hb
    rcases List.mem_cons.mp hb with rfl | hb
    · exact ⟨_, he, fun v q => nomatch q⟩
    · obtain rfl := List.mem_singleton.mp hb
      exact ⟨o, ho, fun v q => by rw [hd] at q; cases q⟩
  keep := by
    rintro i h h' ⟨⟨old, he⟩, ⟨o, ho, hr⟩, hne⟩ k
    exact ⟨⟨old, k e (by simp) _ he⟩, ⟨o, k it (by simp) o ho, hr⟩, hne⟩
  item := by
    intro X hP hw hK hc i pins s σ H E I hf st hg
    subst hP hw hK
    obtain ⟨⟨old, he⟩, hit, hne⟩ := st
    have hel : e < s.heap.objs.size := Heap.lt_size he
    have hil : it < s.heap.objs.size := by obtain ⟨_, q, _⟩ := hit; exact Heap.lt_size q
    refine wpAny_pyNext_enum_itemD (Draws.text (A := X.A.in1) (I.ok.hd hc) it x t) he hit hg hne (by simpa using hne) fun u h' tk hp ho hit' hT hsz hk => ?_
    obtain ⟨c, tu, hcx, rfl⟩ := hp
    refine ⟨_, rfl, wpAny_letOwnedTupleGo_enum (s := { s with heap := h', toks := tk + 1 }) ho fun h2 he' sb => ?_⟩
    have hT2 : h2.get? s.heap.objs.size = some { cls := .type "tuple", data := .seq #[.int i tk, .str ⟨#[c]⟩ tu] } := (sb.2 _ (Nat.ne_of_gt hel)).trans hT
    have lay : ObjOk X.prog X.w (upd H s.heap.objs.size (.tup [.int (i : Nat), .str ⟨#[c]⟩])) h2 s.heap.objs.size (.tup [.int (i : Nat), .str ⟨#[c]⟩]) :=
      ⟨by show 2 ≤ sizeLine; decide, _, .cons ⟨_, rfl⟩ (.cons ⟨_, rfl⟩ .nil), _, hT2, rfl, _, rfl⟩
    have keepB : ∀ b o, b ∉ [e, it] → s.heap.get? b = some o → h2.get? b = some o := fun b o hb q => by
      have n1 : b ≠ e := fun z => hb (by simp [z])
      have n2 : b ≠ it := fun z => hb (by simp [z])
      exact (sb.2 b n1).trans (hk b o n1 n2 q)
    have I1 := I.turnedNew (t' := tk + 1) keepB hf (Nat.le_refl _) lay
    refine ⟨.ref s.heap.objs.size, _, I1, rfl, ⟨_, c, rfl, I.hok.fresh (Nat.le_refl _), rfl, hcx⟩, ⟨⟨_, by simpa using he'⟩, ?_, hne⟩, fun b hb => ?_⟩
    · obtain ⟨o, ho2, hr⟩ := hit'
      exact ⟨o, (sb.2 it (Ne.symm hne)).trans ho2, hr⟩
    · have lt : b < s.heap.objs.size := by
        rcases List.mem_cons.mp hb with rfl | hb
        · exact hel
        · rw [List.mem_singleton.mp hb]; exact hil
      rw [upd_ne (Nat.ne_of_lt lt)]
      exact (hf b hb).1
  done := by
    intro X hP hw hK hc i pins s σ H E I hf st hg
    subst hP hw hK
    obtain ⟨⟨old, he⟩, hit, hne⟩ := st
    obtain rfl : i = x.cps.size := hg
    obtain ⟨f0, f1, f2, f3, f4, f5⟩ := hf it (by simp)
    refine wpAny_pyNext_enum_endD (Draws.text (A := X.A.in1) (I.ok.hd hc) it x t) he hit fun h' eb => ⟨rfl, ?_⟩
    exact I.turned (t' := s.toks) (fun b o hb q => eb b o hb q) f0 f1 f3 f4 f5
  self := fun A i s Q E st h => let ⟨⟨_, he⟩, _⟩ := st; wpAny_pyIter_enum he h
def iEnumS (ta : TA) : TI := fun σ H R => ta σ H fun vs H1 => ∃ x, vs = [.str x] ∧ R (ItEs x) H1
theorem pi_enumS {X : Cx} {e : Expr} {ta : TA} {p pos tpos : Pos} {elts : List Expr} {kk : Nat} (hm : X.mg "enumerate" = none) (ha : PA X [e] ta) (hg : Gl X "enumerate" := by rfl) (hs : starEach [e] X.env = [(false, eval e X.env)] := by rfl) :
    PI X (.Tuple elts kk tpos) (.Call (.Name "enumerate" p) [e] [] pos) (iEnumS ta) := by
  refine ⟨fun pins s σ H R I h => ?_⟩
  refine PyProof.Rows.Call_ (ld_blt I hg hm PyProof.Rows.boot_enumerate (PyProof.Rows.callWith_type1 (thn (ha.run pos pins s σ H _ I h) ?_) hs rfl))
  rintro us s1 ⟨vs, H1, I1, r1, x, rfl, q⟩
  obtain ⟨u, rfl, t, rfl⟩ := vals1 r1
  refine call_enumerate_str fun h' he hit hsz hk => wpAny_pyIter_enum he ?_
  refine ⟨s1.heap.objs.size + 1, [s1.heap.objs.size + 1, s1.heap.objs.size], _, _, H1, rfl, I1.kept (t' := s1.toks) hk, turn_enumS x t _ _, ⟨⟨.none, he⟩, hit, Nat.succ_ne_self _⟩, fun b hb => ?_, q⟩
  have le : s1.heap.objs.size ≤ b := by
    rcases List.mem_cons.mp hb with rfl | hb
    · exact Nat.le_succ _
    · rw [List.mem_singleton.mp hb]; exact Nat.le_refl _
  exact I1.fpOk le (I1.hok.fresh le)
/-- i with zeros in front, W signs at least -/
def padZ (W : Nat) (i : Int) : Str := ⟨(List.replicate (W - (Nat.toDigits 10 i.natAbs).length) 48).toArray⟩ ++ Str.ofString (toString i)
section
variable {X : Cx} {e spec : Expr} {te : TE} {pos : Pos} {sp : Str}
def tFmtZ (W : Nat) (te : TE) : TE := fun σ H Q => te σ H fun x H1 => ∃ i : Int, x = .int i ∧ 0 ≤ i ∧ i < 10 ^ 12 ∧ Q (.str (padZ W i)) H1
end
end RS
namespace RS
open PySem PySem.Spec L2
section
variable {X : Cx}
def rAdd (K : PySem.W.Frag) : R2 := fun x y H Q => match x, y with
  | .int i, .int j => Q (.int (i + j)) H
  | .str a, .str b => a.length + b.length ≤ sizeLine ∧ Q (.str (a ++ b)) H
  | .ref p, .ref q => rCat (.ref p) (.ref q) H Q ∨ rCatA K (.ref p) (.ref q) H Q
  | _, _ => False
theorem o_add {K : PySem.W.Frag} (hK : X.K = K := by rfl) : OpR X (binaryOp .Add) (rAdd K) := by
  subst hK
  intro pins s σ H x y v u Q I rx ry h
  cases x <;> cases y <;> first
    | exact (show False from h).elim
    | exact op_add pins s σ H _ _ v u Q I rx ry ⟨_, _, rfl, rfl, h⟩
    | exact op_add_str pins s σ H _ _ v u Q I rx ry ⟨_, _, rfl, rfl, h.1, h.2⟩
    | exact (show _ ∨ _ from h).elim (op_cat pins s σ H _ _ v u Q I rx ry) (op_catA pins s σ H _ _ v u Q I rx ry)
/-- a, n times -/
def repS (a : Str) (n : Nat) : Str := ⟨(List.replicate n a.cps.toList).flatten.toArray⟩
theorem foldl_app (a : Array Nat) : ∀ (n : Nat) (acc : Array Nat), (List.replicate n a).foldl (· ++ ·) acc = acc ++ (List.replicate n a.toList).flatten.toArray
  | 0, acc => by simp
  | n + 1, acc => by
    rw [List.replicate_succ, List.foldl_cons, foldl_app a n (acc ++ a), List.replicate_succ, List.flatten_cons]
    apply Array.ext'
    simp [Array.toList_append, List.append_assoc]
theorem txt_mul (a : Str) (n : Int) : Txt.mul a n = repS a n.toNat := by
  unfold Txt.mul repS
  by_cases h1 : n < 1
  · rw [if_pos h1]
    have e : n.toNat = 0 := by omega
    rw [e]
    rfl
  · rw [if_neg h1]
    have e : ({ cps := (List.replicate n.toNat a.cps).foldl (· ++ ·) #[] } : Str) = { cps := (List.replicate n.toNat a.cps.toList).flatten.toArray } := by
      rw [foldl_app]
      congr 1
      apply Array.ext'
      simp
    split
    · rename_i c
      rcases Bool.or_eq_true_iff.mp c with c | c
      · have : n = 1 := by simpa using c
        subst this
        obtain ⟨l⟩ := a
        simp
      · have : a.cps.size = 0 := by simpa [Str.length] using c
        obtain ⟨⟨l⟩⟩ := a
        have : l = [] := by simpa using this
        subst this
        simp
    · exact e
def rMul : R2 := fun x y H Q => match x, y with
  | .int i, .int j => CMul i j ∧ Q (.int (i * j)) H
  | .str a, .int n => n < 2 ^ 31 ∧ -(2 ^ 31) < n ∧ a.length * n.toNat ≤ sizeLine ∧ Q (.str (repS a n.toNat)) H
  | .ref p, .int n => rRep (.ref p) (.int n) H Q
  | _, _ => False
theorem o_mul : OpR X (binaryOp .Mult) rMul := by
  intro pins s σ H x y v u Q I rx ry h
  cases x <;> cases y <;> first
    | exact (show False from h).elim
    | exact op_mul pins s σ H _ _ v u Q I rx ry ⟨_, _, rfl, rfl, h.1, h.2⟩
    | exact op_rep pins s σ H _ _ v u Q I rx ry h
    | skip
  rename_i a n
  obtain ⟨t, rfl⟩ := rx
  obtain ⟨t', rfl⟩ := ry
  obtain ⟨h1, h2, h3, q⟩ := h
  have hs : sizeLine = 16777216 := sizeLine_eq
  refine SB.mul (x := a) (n := n) ⟨?_, fun hn hc => ?_, fun hn hc => ?_⟩ fun t' k => ?_
  · rw [decide_eq_false (by omega), decide_eq_false (by omega)]; rfl
  · have h4 : (a.length : Int) * n ≤ 16777216 := by
      have : ((a.length * n.toNat : Nat) : Int) ≤ 16777216 := by omega
      rw [Int.natCast_mul] at this
      have e : ((n.toNat : Nat) : Int) = n := by omega
      rw [e] at this
      exact this
    have h5 : (a.length : Int) ≤ a.length * n := by
      have e : (a.length : Int) * 1 ≤ a.length * n := Int.mul_le_mul_of_nonneg_left (by omega) (by omega)
      omega
    have h6 : (4294967296 : Int) ≤ (2 ^ 63 - 1) / n := by
      rw [Int.le_ediv_iff_mul_le (by omega)]
      omega
    omega
  · unfold Builtin.Str.tooLong
    simp
    omega
  · rw [txt_mul]
    exact ⟨.str _, H, I.tok k, ⟨t', rfl⟩, q⟩
def rEqU (K : PySem.W.Frag) : R2 := fun x y H Q => match x, y with
  | .ref a, .ref b => rEqD K (.ref a) (.ref b) H Q
  | x, y => rEq x y H Q
theorem o_eq {K : PySem.W.Frag} {k : Nat} (hr : Rm k X) (hK : X.K = K := by rfl) : OpR X (compareOp .Eq) (rEqU K) := by
  subst hK
  intro pins s σ H x y v u Q I rx ry h
  cases x <;> cases y <;> first
    | exact op_eqD hr.room.units pins s σ H _ _ v u Q I rx ry h
    | exact op_eq pins s σ H _ _ v u Q I rx ry h
def rNeU (K : PySem.W.Frag) : R2 := fun x y H Q => match x, y with
  | .ref a, .ref b => rNeD K (.ref a) (.ref b) H Q
  | x, y => rNe x y H Q
theorem o_ne {K : PySem.W.Frag} {k : Nat} (hr : Rm k X) (hK : X.K = K := by rfl) : OpR X (compareOp .NotEq) (rNeU K) := by
  subst hK
  intro pins s σ H x y v u Q I rx ry h
  cases x <;> cases y <;> first
    | exact op_neD hr.room.units pins s σ H _ _ v u Q I rx ry h
    | exact op_ne pins s σ H _ _ v u Q I rx ry h
def hasS (z y : Str) : Bool := !(Builtin.Str.occurrences y z 0 y.length 1).isEmpty
def rInU (K : PySem.W.Frag) : R2 := fun x y H Q => match x, y with
  | .str z, .str y => Q (.bl (hasS z y)) H
  | x, .ref p => rIn K false x (.ref p) H Q
  | _, _ => False
theorem o_in {K : PySem.W.Frag} (hK : X.K = K := by rfl) : OpR X (compareOp .In) (rInU K) := by
  subst hK
  intro pins s σ H x y v u Q I rx ry h
  cases x <;> cases y <;> first
    | exact (show False from h).elim
    | exact op_in_str pins s σ H _ _ v u Q I rx ry ⟨_, _, rfl, rfl, h⟩
    | exact op_in_seq pins s σ H _ _ v u Q I rx ry h
def rNinU (K : PySem.W.Frag) : R2 := fun x y H Q => match x, y with
  | .str z, .str y => Q (.bl (!hasS z y)) H
  | x, .ref p => rIn K true x (.ref p) H Q
  | _, _ => False
theorem o_nin {K : PySem.W.Frag} (hK : X.K = K := by rfl) : OpR X (compareOp .NotIn) (rNinU K) := by
  subst hK
  intro pins s σ H x y v u Q I rx ry h
  cases x <;> cases y <;> first
    | exact (show False from h).elim
    | exact op_notin_str pins s σ H _ _ v u Q I rx ry ⟨_, _, rfl, rfl, h⟩
    | exact op_notIn_seq pins s σ H _ _ v u Q I rx ry h
def rLen (K : PySem.W.Frag) : List V → Hp → VK → Prop := fun xs H Q => match xs with
  | [.str y] => y.length ≤ sizeLine ∧ Q (.int y.length) H
  | [.ref p] => (∃ xs, (SqL K H p xs ∨ SqT K H p xs) ∧ Q (.int xs.length) H) ∨ ∃ kvs, H p = some (.dK kvs) ∧ Q (.int kvs.length) H
  | _ => False
theorem c_len {K : PySem.W.Frag} (hK : X.K = K := by rfl) : CallR X (.builtin "len") (rLen K) := by
  subst hK
  intro pins s σ H xs us Q I r h
  cases xs with
  | nil => exact (show False from h).elim
  | cons x xs =>
    cases xs with
    | cons y ys => cases x <;> exact (show False from h).elim
    | nil =>
      cases x with
      | str y => exact call_len pins s σ H _ us Q I r ⟨_, y.length, rfl, ⟨h.1, rfl⟩, h.2⟩
      | ref p =>
        rcases (show _ ∨ _ from h) with ⟨xs, hx | hx, q⟩ | ⟨kvs, hk, q⟩
        · exact call_len pins s σ H _ us Q I r ⟨_, xs.length, rfl, .inl ⟨xs, hx, rfl⟩, q⟩
        · exact call_len pins s σ H _ us Q I r ⟨_, xs.length, rfl, .inr ⟨xs, hx, rfl⟩, q⟩
        · exact call_lenD pins s σ H _ us Q I r ⟨p, kvs, rfl, hk, q⟩
      | _ => exact (show False from h).elim
/-- the name of a value's built-in type -/
def tyN (x : V) (H : Hp) : Option String := match x with
  | .non => some "NoneType"
  | .bl _ => some "bool"
  | .int _ => some "int"
  | .str _ => some "str"
  | .ref a => match H a with
    | some (.lst _) => some "list"
    | some (.tup _) => some "tuple"
    | some (.dK _) => some "dict"
    | some (.frz _ (.lst _)) => some "list"
    | some (.frz _ (.dK _)) => some "dict"
    | _ => none
  | _ => none
def isB (t T : String) : Bool := t == T || (t == "bool" && T == "int")
theorem kitB_tab : ∀ t ∈ ["NoneType", "bool", "int", "str", "list", "tuple", "dict"], ∀ T ∈ ["bool", "int", "str", "list", "tuple", "dict", "float"], kitB t T = some (isB t T) := by decide +kernel
theorem tyN_tyX {K : PySem.W.Frag} {H : Hp} {x : V} {t : String} (h : tyN x H = some t) : TyX K H x (.type t) ∧ t ∈ ["NoneType", "bool", "int", "str", "list", "tuple", "dict"] := by
  cases x with
  | non => cases h; exact ⟨.base .non, by simp⟩
  | bl b => cases h; exact ⟨.base (.bl b), by simp⟩
  | int i => cases h; exact ⟨.base (.int i), by simp⟩
  | str y => cases h; exact ⟨.base (.str y), by simp⟩
  | ref a =>
    unfold tyN at h
    simp only at h
    split at h <;> first | (cases h; done) | skip
    · rename_i e; cases h; exact ⟨.base (.lst e), by simp⟩
    · rename_i e; cases h; exact ⟨.base (.tup e), by simp⟩
    · rename_i e; cases h; exact ⟨.base (.dK e), by simp⟩
    · rename_i e; cases h; exact ⟨.base (.frz e), by simp⟩
    · rename_i e; cases h; exact ⟨.fDict e, by simp⟩
  | _ => cases h
def rIs (T : String) : List V → Hp → VK → Prop := fun xs H Q => match xs with
  | [x, .ty T'] => T' = T ∧ ∃ t, tyN x H = some t ∧ Q (.bl (isB t T)) H
  | _ => False
theorem c_is (T : String) (hT : T ∈ ["bool", "int", "str", "list", "tuple", "dict", "float"] := by decide) : CallR X (.builtin "isinstance") (rIs T) := by
  intro pins s σ H xs us Q I r h
  unfold rIs at h
  split at h
  · obtain ⟨rfl, t, ht, q⟩ := h
    obtain ⟨ty, m⟩ := tyN_tyX (K := X.K) ht
    exact call_isi pins s σ H _ us Q I r ⟨_, _, _, _, _, rfl, .ty _, ty, kit_ty (kitB_tab _ m _ hT), q⟩
  · exact h.elim
end
end RS
namespace RS
open PySem PySem.Spec L2
/-- another surrounding of the same frames -/
structure Rb (k : Nat) (X : Cx) (B : Around) : Prop where
  room : Room k B
  gd : B.guards = some []
  fr : B.frames = X.A.frames
theorem Rm.here {k : Nat} {X : Cx} (r : Rm k X) : Rb k X X.A := ⟨r.room, r.gd, rfl⟩
theorem Rb.in1 {k : Nat} {X : Cx} {B : Around} (r : Rb (k + 1) X B) : Rb k X B.in1 := ⟨r.room.in1, r.gd, r.fr⟩
theorem Rb.mono {j k : Nat} {X : Cx} {B : Around} (r : Rb k X B) (h : j ≤ k) : Rb j X B := ⟨r.room.mono h, r.gd, r.fr⟩
theorem Rb.make {k : Nat} {X : Cx} {B : Around} (r : Rb (k + 1) X B) (C : Addr) (us : List Value) (kw : List (Str × Value)) : Rb k X (B.under (.builtin "type.__call__" ⟨.ref C :: us, kw⟩)) := by
  refine ⟨r.room.make C us kw, ?_, ?_⟩
  · have g : (Code.builtin "type.__call__" ⟨.ref C :: us, kw⟩).isGuard = false := by show guardIds.contains "type.__call__" = false; decide +kernel
    simp [Around.under, Code.guards, g, pushGuards, r.gd]
  · have e : (B.under (.builtin "type.__call__" ⟨.ref C :: us, kw⟩)).frames = B.frames := by
      first | rfl | simp [Around.under, Code.envs, Code.isFrame, pushEnvs]
    rw [e]; exact r.fr
section
variable {g : Wd} {X : Cx} {k : Nat} {f C : Addr} {fd : FuncData} {ps : List Str} {sp : Sp} {W : WX}
variable {m : Str} {ds : List V} {o e : Expr} {es : List Expr} {ta : TE} {t : TA} {p pos apos : Pos}
def tMethG (C : Addr) (m : Str) (sp : Sp) (ds : List V) (W : WX) (ta : TE) (t : TA) : TE := fun σ H Q => ta σ H fun x H1 => ∃ a dx fs, x = .ref a ∧ H1 a = some (.ins C dx fs) ∧ fs.lookup m = none ∧
  t σ H1 fun vs H2 => sp (x :: (vs ++ ds)) H2 Q (fun c d H' => W c d σ H')
def tMakeG (C : Addr) (sp : Sp) (ds : List V) (W : WX) (t : TA) : TE := fun σ H Q => t σ H fun vs H1 => ∀ y dy, H1 y = none → H1 dy = none → dy ≠ y →
  sp (.ref y :: (vs ++ ds)) (upd (upd H1 dy (.own y)) y (.ins C dy [])) (fun v H2 => v = .non ∧ Q (.ref y) H2) (fun c d H' => W c d σ H')
variable {x : Str}
end
end RS
namespace RS
open PySem PySem.Spec L2
section
variable {g : Wd} {X : Cx} {k : Nat} {f C : Addr} {fd : FuncData} {ps ks : List Str} {sp : Sp} {W : WX} {ds : List V} {x : Str} {p pos : Pos} {kws : List Keyword} {tk' : TA} {pm : List Nat}
def tCallK (n : Nat) (sp : Sp) (pm : List Nat) (W : WX) (t : TA) : TE := fun σ H Q => t σ H fun zs H1 => zs.length = n ∧ sp (pm.map fun i => zs.getD i .non) H1 Q (fun c d H' => W c d σ H')
def tMakeK (n : Nat) (C : Addr) (sp : Sp) (pm : List Nat) (W : WX) (t : TA) : TE := fun σ H Q => t σ H fun zs H1 => zs.length = n ∧ ∀ y dy, H1 y = none → H1 dy = none → dy ≠ y →
  sp (.ref y :: pm.map fun i => zs.getD i .non) (upd (upd H1 dy (.own y)) y (.ins C dy [])) (fun v H2 => v = .non ∧ Q (.ref y) H2) (fun c d H' => W c d σ H')
def gFld (K : PySem.W.Frag) (ta : TE) (f : Str) : TG := fun v σ H Q => ta σ H fun x H1 => ∃ a C dx fs, x = .ref a ∧ H1 a = some (.ins C dx fs) ∧ Cls K C ∧ NoAttr K C f ∧ fs.length < 1000 ∧ Q σ (upd H1 a (.ins C dx (putF f v fs)))
/-- what may stand on the other side: a plain thing, or an instance of the same class -/
def Oth (C : Addr) (H : Hp) (y : V) : Prop := (∃ t, tyN y H = some t) ∨ ∃ b dx fs, y = .ref b ∧ H b = some (.ins C dx fs)
def rEqOwn (C : Addr) (sp : Sp) (ds : List V) (W : WX) (neg : Bool) : L2.St → R2 := fun σ x y H Q => ∃ a dx fs, x = .ref a ∧ H a = some (.ins C dx fs) ∧ Oth C H y ∧
  sp ([x, y] ++ ds) H (fun v H' => ∃ b, v = .bl b ∧ Q (.bl (if neg then !b else b)) H') (fun c d H' => W c d σ H')
end
section
variable {g : Wd} {X : Cx} {k : Nat} {C : Addr} {ps : List Str} {sp : Sp} {W : WX} {ds : List V} {p pos : Pos} {a b : Expr} {ta tb : TE}
def tEqOwn (C : Addr) (sp : Sp) (ds : List V) (W : WX) (neg : Bool) (ta tb : TE) : TE := fun σ H Q => ta σ H fun x H1 => tb σ H1 fun y H2 => rEqOwn C sp ds W neg σ x y H2 Q
end
end RS
namespace RS
open PySem PySem.Spec L2
section
variable {g : Wd} {X : Cx} {k : Nat} {C : Addr} {ps : List Str} {sp : Sp} {W : WX} {ds : List V} {p pos : Pos} {a b : Expr} {ta tb : TE}
def rBoolOwn (C : Addr) (sp : Sp) (ds : List V) (W : WX) : L2.St → List V → Hp → VK → Prop := fun σ xs H Q => ∃ q dx fs, xs = [.ref q] ∧ H q = some (.ins C dx fs) ∧
  sp ([.ref q] ++ ds) H (fun v H' => ∃ b, v = .bl b ∧ Q (.bl b) H') (fun c d H' => W c d σ H')
def tBoolOwn (C : Addr) (sp : Sp) (ds : List V) (W : WX) (ta : TA) : TE := fun σ H Q => ta σ H fun xs H1 => rBoolOwn C sp ds W σ xs H1 Q
end
end RS
namespace RS
open PySem PySem.Spec PyProof.Rows L2
end RS
namespace RS
open PySem PySem.Spec L2
/-- in a def's body: what is raised goes on to the caller -/
theorem tkD {g : Wd} {N : List Str} {qual : Str} {st : Stmt} {f : Addr} {cdv : Value} {A : Around} {outer : List Env} {s : Shared} {H : Hp} {E : XK} : Takes (cx g N qual st f cdv A outer s H E) (fun c d _ H' => E c d H') := takes_of rfl rfl rfl rfl
theorem psD {g : Wd} {N : List Str} {qual : Str} {st : Stmt} {f : Addr} {cdv : Value} {A : Around} {outer : List Env} {s : Shared} {H : Hp} {E : XK} :
    PassesOwn (model (cx g N qual st f cdv A outer s H E).prog (cx g N qual st f cdv A outer s H E).w) (cx g N qual st f cdv A outer s H E).A (cx g N qual st f cdv A outer s H E).env (cx g N qual st f cdv A outer s H E).xe := passes_of rfl
theorem bb_len : bootBuiltins "len" = some (.builtin "len") := by decide +kernel
theorem bb_isinstance : bootBuiltins "isinstance" = some (.builtin "isinstance") := by decide +kernel
theorem bb_ord : bootBuiltins "ord" = some (.builtin "ord") := by decide +kernel
theorem bb_abs : bootBuiltins "abs" = some (.builtin "abs") := by decide +kernel
theorem bb_repr : bootBuiltins "repr" = some (.builtin "repr") := by decide +kernel
theorem bb_all : bootBuiltins "all" = some (.builtin "all") := by decide +kernel
theorem bb_str : bootBuiltins "str" = some (.type "str") := by decide +kernel
theorem bb_int : bootBuiltins "int" = some (.type "int") := by decide +kernel
theorem bb_list : bootBuiltins "list" = some (.type "list") := by decide +kernel
theorem bb_tuple : bootBuiltins "tuple" = some (.type "tuple") := by decide +kernel
theorem bb_bool : bootBuiltins "bool" = some (.type "bool") := by decide +kernel
section
variable {X : Cx}
def rIxU (K : PySem.W.Frag) : R2 := fun x y H Q => match x, y with
  | .str z, .int i => z.length ≤ sizeLine ∧ ∃ c, atI z.cps.toList i = some c ∧ Q (.str ⟨#[c]⟩) H
  | .ref p, .int i => ∃ xs, (SqL K H p xs ∨ SqT K H p xs) ∧ ∃ v, atI xs i = some v ∧ Q v H
  | _, _ => False
theorem o_ix {K : PySem.W.Frag} (hK : X.K = K := by rfl) : IxR X (rIxU K) := by
  subst hK
  intro ve se pins s σ H x y v u Q I rx ry h hsub
  cases x <;> cases y <;> first
    | exact (show False from h).elim
    | (obtain ⟨h1, c, h2, q⟩ := h; exact ix_str ve se pins s σ H _ _ v u Q I rx ry ⟨_, _, c, rfl, rfl, h1, h2, q⟩ hsub)
    | skip
  obtain ⟨xs, hx | hx, w, h2, q⟩ := h
  · exact ix_list ve se pins s σ H _ _ v u Q I rx ry ⟨_, xs, _, w, rfl, rfl, hx, h2, q⟩ hsub
  · exact ix_tup ve se pins s σ H _ _ v u Q I rx ry ⟨_, xs, _, w, rfl, rfl, hx, h2, q⟩ hsub
def rSlU (K : PySem.W.Frag) : V → Option Int → Option Int → Hp → VK → Prop := fun x lo hi H Q => match x with
  | .str z => z.length ≤ sizeLine ∧ Q (.str (cutS z lo hi)) H
  | .ref p => rSlL K (.ref p) lo hi H Q ∨ rSlA K (.ref p) lo hi H Q
  | _ => False
theorem o_sl {K : PySem.W.Frag} (hK : X.K = K := by rfl) : SlR X (rSlU K) := by
  subst hK
  intro pins s σ H x v vl vu lo hi sl Q I rx hs pl pu h
  cases x <;> first
    | exact (show False from h).elim
    | exact sl_str pins s σ H _ v vl vu lo hi sl Q I rx hs pl pu ⟨_, rfl, h.1, h.2⟩
    | exact (show _ ∨ _ from h).elim (sl_list pins s σ H _ v vl vu lo hi sl Q I rx hs pl pu) (sl_tupA pins s σ H _ v vl vu lo hi sl Q I rx hs pl pu)
variable {K : PySem.W.Frag} {p pos tpos : Pos} {e o : Expr} {es : List Expr} {ta te : TE} {t : TA}
theorem c_all (hK : X.K = K := by rfl) (hc : X.calm = true := by rfl) : CallR X (.builtin "all") (rAll K) := by subst hK; exact cr_all hc
theorem t_truth (ha : PE X e ta) (he : ∀ whole, isTrue e X.env whole = (do let v ← whole; standAt e.pos; holding [v] (truthy v)) := by intro _; rfl) (hK : X.K = K := by rfl) :
    PT X e (fun σ H Q => ta σ H fun x H' => ∃ k, TruV K x H' k ∧ Q k H') := by subst hK; exact pt_truth ha he
theorem g_tup {k : Nat} {t : TGs} {n : Nat} (h : PGs X es t) (hc : X.calm = true := by rfl) (hn : (assignEach es X.env).length = n := by rfl) (hst : (assignEach es X.env).findIdx? (·.1) = none := by rfl) (hK : X.K = K := by rfl) :
    PG X (.Tuple es k pos) (gTup K n t) := by subst hK; exact pg_tup hc h hn hst
theorem e_bm {T id : String} {name : Str} {apos cpos : Pos} {to : TE} {r : V → List V → Hp → VK → Prop} (pa : PlainAttrs T) (slot : Slot T name id) (hty : typeOf (.builtin id) = pure (.type "method_descriptor")) (hm : MtR X id r) (ho : PE X o to) (ha : PA X (e :: es) t)
    (hbase : attributeBase o name X.env (eval o X.env) = eval o X.env := by rfl)
    (hfew : ((backTo cpos (starEach (e :: es) X.env)).all (fun x => !x.1) && (backToKw cpos (keywordEach [] X.env)).all (fun x => x.1.isSome)
      && decide ((e :: es).length + ([] : List Keyword).length + (if ([] : List Keyword).isEmpty then 0 else 1) < 30)) = true := by rfl)
    (hline : (apos.endLine == cpos.line) = true := by rfl) (hs : starEach (e :: es) X.env = (false, eval e X.env) :: starEach es X.env := by rfl) (hplain : (backTo cpos (starEach es X.env)).any (·.1) = false := by rfl) (hK : X.K = K := by rfl) :
    PE X (.Call (.Attribute o name apos) (e :: es) [] cpos) (tBM K T r to t) := by subst hK; exact pe_bm pa slot hty hm ho ha hbase hfew hline hs hplain
theorem i_list {tg : Expr} (hl : PE X e te) (hK : X.K = K := by rfl) : PI X tg e (iList K te) := by subst hK; exact pi_list hl
theorem i_tup {tg : Expr} (hl : PE X e te) (hK : X.K = K := by rfl) : PI X tg e (iTup K te) := by subst hK; exact pi_tup hl
theorem i_enum {kk : Nat} (hm : X.mg "enumerate" = none) (ha : PA X [e] t) (hg : Gl X "enumerate" := by rfl) (hs : starEach [e] X.env = [(false, eval e X.env)] := by rfl) (hK : X.K = K := by rfl) :
    PI X (.Tuple es kk tpos) (.Call (.Name "enumerate" p) [e] [] pos) (iEnum K t) := by subst hK; exact pi_enum hg hm ha hs
end
end RS
namespace RS
open PySem PySem.Spec L2
theorem same_new {H H1 : Hp} {p : Addr} {o : HO} (h : Same H H1) (n : H1 p = none) : Same H (upd H1 p o) := fun b u e => by
  rw [upd_ne (ne_of_none (h b u e) n)]; exact h b u e
theorem same_upd {H : Hp} {p : Addr} {o : HO} (n : H p = none) : Same H (L2.upd H p o) := same_new (Same.refl H) n
def ForB (J : It) (g : TG) (tb : TS) (D : Ends) (σ : L2.St) (H : Hp) : Prop := ∃ W : Nat → Nat → L2.St → Hp → Prop, (∃ m, W 0 m σ H) ∧ ∀ i m σ H, W i m σ H →
  (J.stop i H ∧ D.nx σ H) ∨ (J.go i H ∧ ∃ N : L2.St → Hp → Prop, (∀ σ' H', N σ' H' → ∃ m', m' < m ∧ W (i + 1) m' σ' H') ∧ ∀ x H', J.yld i H x H' → g x σ H' fun σ2 H2 => tb { D with nx := N, ct := N, bk := D.nx } σ2 H2)
theorem tFor_eq (wi : TI) (g : TG) (tb : TS) (D : Ends) (σ : L2.St) (H : Hp) : tFor wi g tb D σ H = wi σ H fun J H1 => ForB J g tb D σ H1 := rfl
def LcB (J : It) (g : TG) (tt : TT) (te : TE) (vs : List Nat) (σ : L2.St) (H1 : Hp) (Q : VK) : Prop := ∀ D, H1 D = none → ∃ W : Nat → Nat → Hp → Prop, (∃ m, W 0 m (upd H1 D (.lst []))) ∧ ∀ i m H, W i m H →
  (J.stop i H ∧ Q (.ref D) H) ∨ (J.go i H ∧ ∃ Nx : Hp → Prop, (∀ H', Nx H' → ∃ m', m' < m ∧ W (i + 1) m' H') ∧ ∀ x H', J.yld i H x H' → g x (wipe σ vs) H' fun σ2 H2 => wipe σ2 vs = wipe σ vs ∧ tt σ2 H2 fun b H3 =>
    if b = true then te σ2 H3 fun y H4 => ∃ acc, H4 D = some (.lst acc) ∧ acc.length < sizeLine ∧ Nx (upd H4 D (.lst (acc ++ [y]))) else Nx H3)
theorem tLc_eq (wi : TI) (g : TG) (tt : TT) (te : TE) (vs : List Nat) (σ : L2.St) (H : Hp) (Q : VK) : tLc wi g tt te vs σ H Q = wi σ H fun J H1 => LcB J g tt te vs σ H1 Q := rfl
theorem for_by {J : It} {g : TG} {tb : TS} {D : Ends} {σ : L2.St} {H : Hp} (n : Nat) (Pv : Nat → L2.St → Hp → Prop) (h0 : Pv 0 σ H) (hgo : ∀ i σ H, i < n → Pv i σ H → J.go i H) (hst : ∀ σ H, Pv n σ H → J.stop n H)
    (hs : ∀ i σ H x H', i < n → Pv i σ H → J.yld i H x H' → g x σ H' fun σ2 H2 => tb { D with nx := Pv (i + 1), ct := Pv (i + 1), bk := D.nx } σ2 H2) (hd : ∀ σ H, Pv n σ H → D.nx σ H) :
    ForB J g tb D σ H := by
  refine ⟨fun i m σ H => m = n - i ∧ i ≤ n ∧ Pv i σ H, ⟨n, by omega, Nat.zero_le _, h0⟩, ?_⟩
  rintro i m σ H ⟨rfl, hi, p⟩
  by_cases lt : i < n
  · exact .inr ⟨hgo i σ H lt p, Pv (i + 1), fun σ' H' p' => ⟨n - (i + 1), by omega, rfl, lt, p'⟩, fun x H' y => hs i σ H x H' lt p y⟩
  · have e : i = n := by omega
    subst e
    exact .inl ⟨hst σ H p, hd σ H p⟩
theorem lc_kept {J : It} {g : TG} {tt : TT} {te : TE} {vs : List Nat} {σ : L2.St} {H1 : Hp} {Qf : VK} (n : Nat) (kept : Nat → Option V) (hn : n ≤ sizeLine)
    (hgo : ∀ i H, i < n → Same H1 H → J.go i H) (hst : ∀ H, Same H1 H → J.stop n H)
    (hs : ∀ i H x H' (K : VK) (K0 : Hp → Prop), i < n → Same H1 H → J.yld i H x H' → (∀ v H4, kept i = some v → Same H H4 → K v H4) → (kept i = none → ∀ H4, Same H H4 → K0 H4) →
      g x (wipe σ vs) H' fun σ2 H2 => wipe σ2 vs = wipe σ vs ∧ tt σ2 H2 fun b H3 => if b = true then te σ2 H3 K else K0 H3)
    (hd : ∀ D H, H1 D = none → Same H1 H → H D = some (.lst ((List.range n).filterMap kept)) → Qf (.ref D) H) :
    LcB J g tt te vs σ H1 Qf := by
  intro D hD
  have len : ∀ i, ((List.range i).filterMap kept).length ≤ i := fun i => Nat.le_trans (List.length_filterMap_le _ _) (by rw [List.length_range]; exact Nat.le_refl _)
  have succ : ∀ i, (List.range (i + 1)).filterMap kept = (List.range i).filterMap kept ++ (match kept i with | some v => [v] | none => []) := fun i => by
    rw [List.range_succ, List.filterMap_append]
    cases e : kept i <;> simp [List.filterMap_cons, e]
  let Pv : Nat → Hp → Prop := fun i H => Same H1 H ∧ H D = some (.lst ((List.range i).filterMap kept))
  have store : ∀ i H4 v, Same H1 H4 → H4 D = some (.lst ((List.range i).filterMap kept)) → kept i = some v → Pv (i + 1) (upd H4 D (.lst ((List.range i).filterMap kept ++ [v]))) := fun i H4 v s e k =>
    ⟨fun b o q => by rw [upd_ne (ne_of_none q hD)]; exact s b o q, by rw [upd_same, succ, k]⟩
  refine ⟨fun i m H => m = n - i ∧ i ≤ n ∧ Pv i H, ⟨n, by omega, Nat.zero_le _, fun b o q => by rw [upd_ne (ne_of_none q hD)]; exact q, upd_same⟩, ?_⟩
  rintro i m H ⟨rfl, hi, s, eD⟩
  by_cases lt : i < n
  · refine .inr ⟨hgo i H lt s, Pv (i + 1), fun H' p' => ⟨n - (i + 1), by omega, rfl, lt, p'⟩, fun x H' y => ?_⟩
    refine hs i H x H' _ (Pv (i + 1)) lt s y (fun v H4 k s4 => ⟨_, s4 D _ eD, by have := len i; omega, store i H4 v (s.trans s4) (s4 D _ eD) k⟩) fun k H4 s4 => ⟨s.trans s4, ?_⟩
    rw [succ, k, s4 D _ eD, List.append_nil]
  · have e : i = n := by omega
    subst e
    exact .inl ⟨hst H s, hd D H hD s eD⟩
/-- .. where all are kept -/
theorem lc_all {J : It} {g : TG} {te : TE} {vs : List Nat} {σ : L2.St} {H1 : Hp} {Qf : VK} (n : Nat) (val : Nat → V) (hn : n ≤ sizeLine)
    (hgo : ∀ i H, i < n → Same H1 H → J.go i H) (hst : ∀ H, Same H1 H → J.stop n H)
    (hs : ∀ i H x H' (K : VK), i < n → Same H1 H → J.yld i H x H' → (∀ H4, Same H H4 → K (val i) H4) →
      g x (wipe σ vs) H' fun σ2 H2 => wipe σ2 vs = wipe σ vs ∧ te σ2 H2 K)
    (hd : ∀ D H, H1 D = none → Same H1 H → H D = some (.lst ((List.range n).map val)) → Qf (.ref D) H) :
    LcB J g tYes te vs σ H1 Qf := by
  refine lc_kept n (fun i => some (val i)) hn hgo hst (fun i H x H' K K0 lt s y k _ => ?_) (fun D H h1 h2 h3 => hd D H h1 h2 ?_)
  · have e : (fun (σ2 : L2.St) (H2 : Hp) => wipe σ2 vs = wipe σ vs ∧ tYes σ2 H2 fun b H3 => if b = true then te σ2 H3 K else K0 H3) = fun σ2 H2 => wipe σ2 vs = wipe σ vs ∧ te σ2 H2 K := by
      funext σ2 H2
      simp only [tYes, if_true]
    rw [e]
    exact hs i H x H' K lt s y fun H4 s4 => k _ H4 rfl s4
  · rw [h3]
    congr 2
    rw [show (fun i => some (val i)) = some ∘ val from rfl, ← List.filterMap_eq_map]
end RS
namespace RS
open PySem PySem.Spec L2
section
variable {K : PySem.W.Frag} {H : Hp} {Q : VK} {i j : Int} {a b z : Str} {p q : Addr} {c d : Bool} {x : V}
theorem add_ii : rAdd K (.int i) (.int j) H Q = Q (.int (i + j)) H := rfl
theorem add_ss : rAdd K (.str a) (.str b) H Q = (a.length + b.length ≤ sizeLine ∧ Q (.str (a ++ b)) H) := rfl
theorem add_rr : rAdd K (.ref p) (.ref q) H Q = (rCat (.ref p) (.ref q) H Q ∨ rCatA K (.ref p) (.ref q) H Q) := rfl
theorem mul_ii : rMul (.int i) (.int j) H Q = (CMul i j ∧ Q (.int (i * j)) H) := rfl
theorem mul_si : rMul (.str a) (.int i) H Q = (i < 2 ^ 31 ∧ -(2 ^ 31) < i ∧ a.length * i.toNat ≤ sizeLine ∧ Q (.str (repS a i.toNat)) H) := rfl
theorem mul_ri : rMul (.ref p) (.int i) H Q = rRep (.ref p) (.int i) H Q := rfl
theorem eq_of {x y : V} {k : Bool} (h : scal x y = true) (e : decide (x = y) = k) : rEq x y H Q = Q (.bl k) H := by
  unfold rEq; rw [h, e]; simp
theorem ne_of' {x y : V} {k : Bool} (h : scal x y = true) (e : decide (x = y) = k) : rNe x y H Q = Q (.bl (!k)) H := by
  unfold rNe; rw [h, e]; simp
theorem eq_ii : rEqU K (.int i) (.int j) H Q = Q (.bl (decide (i = j))) H := eq_of rfl (by simp)
theorem eq_ss : rEqU K (.str a) (.str b) H Q = Q (.bl (decide (a = b))) H := eq_of rfl (by simp)
theorem eq_bb : rEqU K (.bl c) (.bl d) H Q = Q (.bl (decide (c = d))) H := eq_of rfl (by simp)
theorem eq_nn : rEqU K .non .non H Q = Q (.bl true) H := eq_of rfl (by simp)
theorem eq_sn : rEqU K (.str a) .non H Q = Q (.bl false) H := eq_of rfl (by simp)
theorem eq_ns : rEqU K .non (.str a) H Q = Q (.bl false) H := eq_of rfl (by simp)
theorem eq_in : rEqU K (.int i) .non H Q = Q (.bl false) H := eq_of rfl (by simp)
theorem eq_ni : rEqU K .non (.int i) H Q = Q (.bl false) H := eq_of rfl (by simp)
theorem eq_bn : rEqU K (.bl c) .non H Q = Q (.bl false) H := eq_of rfl (by simp)
theorem eq_nb : rEqU K .non (.bl c) H Q = Q (.bl false) H := eq_of rfl (by simp)
theorem eq_is : rEqU K (.int i) (.str a) H Q = Q (.bl false) H := eq_of rfl (by simp)
theorem eq_si : rEqU K (.str a) (.int i) H Q = Q (.bl false) H := eq_of rfl (by simp)
theorem eq_rr : rEqU K (.ref p) (.ref q) H Q = rEqD K (.ref p) (.ref q) H Q := rfl
theorem ne_ii : rNeU K (.int i) (.int j) H Q = Q (.bl (!decide (i = j))) H := ne_of' rfl (by simp)
theorem ne_ss : rNeU K (.str a) (.str b) H Q = Q (.bl (!decide (a = b))) H := ne_of' rfl (by simp)
theorem ne_bb : rNeU K (.bl c) (.bl d) H Q = Q (.bl (!decide (c = d))) H := ne_of' rfl (by simp)
theorem ne_nn : rNeU K .non .non H Q = Q (.bl false) H := ne_of' (k := true) rfl (by simp)
theorem ne_sn : rNeU K (.str a) .non H Q = Q (.bl true) H := ne_of' (k := false) rfl (by simp)
theorem ne_ns : rNeU K .non (.str a) H Q = Q (.bl true) H := ne_of' (k := false) rfl (by simp)
theorem ne_in : rNeU K (.int i) .non H Q = Q (.bl true) H := ne_of' (k := false) rfl (by simp)
theorem ne_ni : rNeU K .non (.int i) H Q = Q (.bl true) H := ne_of' (k := false) rfl (by simp)
theorem ne_is : rNeU K (.int i) (.str a) H Q = Q (.bl true) H := ne_of' (k := false) rfl (by simp)
theorem ne_si : rNeU K (.str a) (.int i) H Q = Q (.bl true) H := ne_of' (k := false) rfl (by simp)
theorem ne_rr : rNeU K (.ref p) (.ref q) H Q = rNeD K (.ref p) (.ref q) H Q := rfl
theorem in_ss : rInU K (.str a) (.str b) H Q = Q (.bl (hasS a b)) H := rfl
theorem in_r : rInU K x (.ref p) H Q = ∃ xs, (SqL K H p xs ∨ SqT K H p xs) ∧ flatV x = true ∧ xs.all flatV = true ∧ Q (.bl (inV x xs)) H := by
  cases x <;> simp [rInU, rIn]
theorem nin_ss : rNinU K (.str a) (.str b) H Q = Q (.bl (!hasS a b)) H := rfl
theorem nin_r : rNinU K x (.ref p) H Q = ∃ xs, (SqL K H p xs ∨ SqT K H p xs) ∧ flatV x = true ∧ xs.all flatV = true ∧ Q (.bl (!inV x xs)) H := by
  cases x <;> simp [rNinU, rIn]
theorem len_s : rLen K [.str a] H Q = (a.length ≤ sizeLine ∧ Q (.int a.length) H) := rfl
theorem len_r : rLen K [.ref p] H Q = ((∃ xs, (SqL K H p xs ∨ SqT K H p xs) ∧ Q (.int xs.length) H) ∨ ∃ kvs, H p = some (.dK kvs) ∧ Q (.int kvs.length) H) := rfl
theorem ix_s : rIxU K (.str a) (.int i) H Q = (a.length ≤ sizeLine ∧ ∃ c, atI a.cps.toList i = some c ∧ Q (.str ⟨#[c]⟩) H) := rfl
theorem ix_r : rIxU K (.ref p) (.int i) H Q = ∃ xs, (SqL K H p xs ∨ SqT K H p xs) ∧ ∃ v, atI xs i = some v ∧ Q v H := rfl
theorem sl_s {lo hi : Option Int} : rSlU K (.str a) lo hi H Q = (a.length ≤ sizeLine ∧ Q (.str (cutS a lo hi)) H) := rfl
theorem sl_r {lo hi : Option Int} : rSlU K (.ref p) lo hi H Q = (rSlL K (.ref p) lo hi H Q ∨ rSlA K (.ref p) lo hi H Q) := rfl
theorem is_eq {T T' : String} : rIs T [x, .ty T'] H Q = (T' = T ∧ ∃ t, tyN x H = some t ∧ Q (.bl (isB t T)) H) := rfl
theorem tyN_n : tyN .non H = some "NoneType" := rfl
theorem tyN_b : tyN (.bl c) H = some "bool" := rfl
theorem tyN_i : tyN (.int i) H = some "int" := rfl
theorem tyN_s : tyN (.str a) H = some "str" := rfl
theorem tru_b {k : Bool} : TruV K (.bl c) H k = (k = c) := rfl
theorem tru_i {k : Bool} : TruV K (.int i) H k = (k = (i != 0)) := rfl
theorem tru_n {k : Bool} : TruV K .non H k = (k = false) := rfl
end
end RS
namespace RS
open PySem PySem.Spec L2
open SX (S S_len S_cat S_tl S_inj)
theorem sIx_nat (n d : Nat) {i : Int} (h : 0 ≤ i) : HT.sIx n d (some i) = min i.toNat n := by
  unfold HT.sIx
  simp only
  split <;> omega
theorem cut_to (a : List Nat) {i : Int} (h : 0 ≤ i) : cutS (S a) none (some i) = S (a.take i.toNat) := by
  unfold cutS
  rw [sIx_nat _ _ h, S_len]
  show (⟨_⟩ : Str) = _
  congr 2
  simp [HT.sIx]
theorem cut_from (a : List Nat) {i : Int} (h : 0 ≤ i) : cutS (S a) (some i) none = S (a.drop i.toNat) := by
  unfold cutS
  rw [sIx_nat _ _ h, S_len]
  show (⟨_⟩ : Str) = _
  congr 2
  simp only [HT.sIx]
  by_cases c : i.toNat ≤ a.length
  · rw [Nat.min_eq_left c, List.take_of_length_le (by simp)]
  · rw [Nat.min_eq_right (by omega), List.drop_of_length_le (Nat.le_refl _), List.drop_of_length_le (by omega)]; simp
theorem cut_both (a : List Nat) {i j : Int} (h : 0 ≤ i) (h2 : 0 ≤ j) : cutS (S a) (some i) (some j) = S ((a.drop i.toNat).take (j.toNat - i.toNat)) := by
  unfold cutS
  rw [sIx_nat _ _ h, sIx_nat _ _ h2, S_len]
  show (⟨_⟩ : Str) = _
  congr 2
  by_cases c : i.toNat ≤ a.length
  · rw [Nat.min_eq_left c, List.take_eq_take_iff]; simp; omega
  · rw [show min i.toNat a.length = a.length by omega, List.drop_of_length_le (Nat.le_refl _), List.drop_of_length_le (by omega)]; simp
theorem rep_S (a : List Nat) (n : Nat) : repS (S a) n = S (List.replicate n a).flatten := rfl
theorem rep_one (c n : Nat) : repS (S [c]) n = S (List.replicate n c) := by
  rw [rep_S]
  congr 2
  induction n with
  | zero => rfl
  | succ n ih => rw [List.replicate_succ, List.flatten_cons, ih, List.replicate_succ]; rfl
theorem has_one (c : Nat) (a : List Nat) : hasS (S [c]) (S a) = decide (c ∈ a) := SX.in_one a c
theorem S_eq {a b : List Nat} : (S a = S b) = (a = b) := propext ⟨S_inj, fun h => by rw [h]⟩
theorem at_lt {a : List Nat} {i : Nat} (h : i < a.length) : atI (S a).cps.toList (i : Int) = some (a.getD i 0) := by
  refine atI_nat ?_
  show a.toArray.toList[i]? = _
  rw [List.getD_eq_getElem?_getD, List.getElem?_eq_getElem (by simpa using h)]
  simp
theorem num_int {i : Int} (h : 0 ≤ i) : (Str.ofString (toString i)) = S (TL.numL i.toNat) := by
  obtain ⟨n, rfl⟩ := Int.eq_ofNat_of_zero_le h
  exact SX.num_S n
theorem ofS_tl (a : String) : (Str.ofString a).cps.toList = a.toList.map Char.toNat := PyProof.Rows.signs_ofString a
theorem ofS_eq {a b : String} : (Str.ofString a = Str.ofString b) = (a = b) := by
  refine propext ⟨fun h => ?_, fun h => by rw [h]⟩
  have e : a.toList.map Char.toNat = b.toList.map Char.toNat := by rw [← ofS_tl, ← ofS_tl, h]
  have inj : ∀ l m : List Char, l.map Char.toNat = m.map Char.toNat → l = m := by
    intro l
    induction l with
    | nil => intro m h; cases m with | nil => rfl | cons => simp at h
    | cons c l ih =>
      intro m h
      cases m with
      | nil => simp at h
      | cons d m =>
        simp only [List.map_cons, List.cons.injEq] at h
        rw [ih m h.2, show c = d from Char.toNat_inj.mp h.1]
  exact String.toList_inj.mp (inj _ _ e)
theorem lk_nil {a : Str} : List.lookup a ([] : List (Str × V)) = none := rfl
theorem lk_cons {a k : Str} {v : V} {es : List (Str × V)} : List.lookup a ((k, v) :: es) = if a = k then some v else List.lookup a es := by
  rw [List.lookup_cons]
  by_cases h : a = k
  · subst h; simp
  · rw [if_neg h, beq_eq_false_iff_ne.mpr h]
theorem pu_nil {f : Str} {v : V} : putF f v [] = [(f, v)] := rfl
theorem pu_cons {f k : Str} {v x : V} {r : List (Str × V)} : putF f v ((k, x) :: r) = if k = f then (k, v) :: r else (k, x) :: putF f v r := rfl
/-- repr of what is small -/
theorem repr_by {K : PySem.W.Frag} {H : Hp} {Q : VK} {a : Addr} (d : PyData) (h : Dp K H (.ref a) d) (h1 : d.showable = true) (h2 : d.depth ≤ 60) (h3 : d.leavesShort 13 = true) (h4 : d.weight ≤ 2 ^ 20) (q : Q (.str d.shown) H) : rRepr K [.ref a] H Q :=
  ⟨a, d, rfl, h, h1, h2, PyData.shown_fits (by decide) (by decide) h3 h4, q⟩
end RS
namespace RS
open PySem PySem.Spec L2
def tPr (C : Addr) (f : Str) (ta : TE) : TE := fun σ H Q => ta σ H fun x H1 => ∃ a dx fs v, x = .ref a ∧ H1 a = some (.ins C dx fs) ∧ fs.lookup f = some v ∧ Q v H1
end RS
namespace RS
open PySem PySem.Spec L2
theorem dget_of {H : Hp} {a : Addr} {kvs : List (Key × V)} {k : Key} {o : Option V} (e : H a = some (.dK kvs)) : DGet H a (kV k) o = (valV kvs k = o) := by
  refine propext ⟨?_, fun h => .inl ⟨kvs, k, .inl e, rfl, h.symm⟩⟩
  rintro (⟨kvs', k', h, ek, rfl⟩ | ⟨kvs', k', b, h, ek, _⟩)
  · have : k' = k := by cases k <;> cases k' <;> simp_all [kV]
    subst this
    rcases h with h | ⟨o, h⟩
    · rw [e] at h; cases h; rfl
    · rw [e] at h; cases h
  · cases k <;> cases ek
theorem dget_s {H : Hp} {a : Addr} {kvs : List (Key × V)} {k : Str} {o : Option V} (e : H a = some (.dK kvs)) : DGet H a (.str k) o = (valV kvs (.inr k) = o) := dget_of (k := .inr k) e
theorem dget_us {H : Hp} {a : Addr} {kvs : List (Key × V)} {k : Str} {o : Option V} : DGet (upd H a (.dK kvs)) a (.str k) o = (valV kvs (.inr k) = o) := dget_s upd_same
theorem dput_of {H : Hp} {a : Addr} {kvs : List (Key × V)} {k : Key} {v : V} {P : Hp → Prop} (e : H a = some (.dK kvs)) : (∃ H4, DPut H a (kV k) v H4 ∧ P H4) = (kvs.length < sizeLine ∧ P (upd H a (.dK (putK kvs k v)))) := by
  refine propext ⟨?_, fun h => ⟨_, .k e h.1, h.2⟩⟩
  rintro ⟨H4, (⟨kvs', k', h, ek, hl, rfl⟩ | ⟨kvs', k', b, h, ek, _⟩), q⟩
  · have : k' = k := by cases k <;> cases k' <;> simp_all [kV]
    subst this
    rw [e] at h; cases h
    exact ⟨hl, q⟩
  · cases k <;> cases ek
theorem dput_s {H : Hp} {a : Addr} {kvs : List (Key × V)} {k : Str} {v : V} {P : Hp → Prop} (e : H a = some (.dK kvs)) : (∃ H4, DPut H a (.str k) v H4 ∧ P H4) = (kvs.length < sizeLine ∧ P (upd H a (.dK (putK kvs (.inr k) v)))) := dput_of (k := .inr k) e
theorem dput_us {H : Hp} {a : Addr} {kvs : List (Key × V)} {k : Str} {v : V} {P : Hp → Prop} : (∃ H4, DPut (upd H a (.dK kvs)) a (.str k) v H4 ∧ P H4) = (kvs.length < sizeLine ∧ P (upd (upd H a (.dK kvs)) a (.dK (putK kvs (.inr k) v)))) := dput_s upd_same
theorem vv_nil {k : Key} : valV ([] : List (Key × V)) k = none := rfl
theorem vv_cons {p k : Key} {v : V} {r : List (Key × V)} : valV ((p, v) :: r) k = if p = k then some v else valV r k := by
  by_cases h : p = k
  · rw [valV_pos (p := (p, v)) h, if_pos h]
  · rw [valV_neg (p := (p, v)) h, if_neg h]
theorem pk_nil {k : Key} {v : V} : putK ([] : List (Key × V)) k v = [(k, v)] := rfl
theorem pk_cons {p k : Key} {v x : V} {r : List (Key × V)} (hr : valV r p = none := by first | rfl | decide) : putK ((p, x) :: r) k v = if p = k then (p, v) :: r else (p, x) :: putK r k v := by
  unfold putK
  by_cases h : p = k
  · subst h
    rw [if_pos rfl, if_pos (by simp)]
    simp only [List.map_cons, if_true]
    congr 1
    have : ∀ q ∈ r, q.1 ≠ p := fun q hq e => by
      have := valV_any p r
      rw [hr] at this
      have t : (r.any fun kv => decide (kv.1 = p)) = true := List.any_eq_true.mpr ⟨q, hq, by simp [e]⟩
      rw [this] at t; cases t
    have e : r.map (fun kv => if kv.1 = p then (kv.1, v) else kv) = r.map id := List.map_congr_left fun q hq => by simp [this q hq]
    rw [e, List.map_id]
  · rw [if_neg h]
    by_cases c : (r.any fun kv => decide (kv.1 = k)) = true
    · rw [if_pos (by simp [c]), if_pos c]
      simp [h]
    · rw [if_neg (by simp [c, h]), if_neg c]; rfl
theorem pk_one {p k : Key} {v x : V} : putK [(p, x)] k v = if p = k then [(p, v)] else [(p, x), (k, v)] := pk_cons (hr := rfl)
theorem inr_eq {a b : Str} : ((.inr a : Key) = .inr b) = (a = b) := by simp
end RS
namespace RS
open PySem PySem.Spec L2
def Leaf (d : PyData) : Prop := match d with
  | .none => True
  | .bool _ => True
  | .int i => i.natAbs < 10 ^ 12
  | .str x => (∀ c ∈ x.cps.toList, c < 16 ^ 8) ∧ x.length ≤ 10000
  | _ => False
theorem log2_small {n : Nat} (h : n < 10 ^ 12) : n.log2 ≤ 40 := by
  rcases Nat.eq_zero_or_pos n with rfl | h0
  · simp
  · have : n.log2 < 41 := (Nat.log2_lt (by omega)).mpr (show n < 2 ^ 41 by omega)
    omega
theorem Leaf.all {d : PyData} (h : Leaf d) : d.showable = true ∧ d.leavesShort 13 = true ∧ d.weight ≤ 10000 ∧ d.depth ≤ 1 := by
  cases d with
  | none => exact ⟨rfl, rfl, by decide, by decide⟩
  | bool b => exact ⟨rfl, rfl, by simp [PyData.weight], by simp [PyData.depth]⟩
  | int i =>
    have h : i.natAbs < 10 ^ 12 := h
    have l := log2_small h
    refine ⟨?_, ?_, ?_, by simp [PyData.depth]⟩
    · simp only [PyData.showable, decide_eq_true_eq]; omega
    · simp only [PyData.leavesShort, decide_eq_true_eq]; exact PyData.shown_int_le h
    · simp only [PyData.weight]; split <;> omega
  | str x =>
    refine ⟨rfl, ?_, ?_, by simp [PyData.depth]⟩
    · simp only [PyData.leavesShort, List.all_eq_true, decide_eq_true_eq]; exact h.1
    · simp only [PyData.weight]; exact h.2
  | list _ => exact h.elim
  | tuple _ => exact h.elim
  | dict _ => exact h.elim
theorem leafs_all : ∀ {ds : List PyData}, (∀ d ∈ ds, Leaf d) → PyData.showableAll ds = true ∧ PyData.leavesShortAll 13 ds = true ∧ PyData.weightAll ds ≤ 10001 * ds.length ∧ PyData.depthAll ds ≤ 1
  | [], _ => ⟨rfl, rfl, by simp [PyData.weightAll], by simp [PyData.depthAll]⟩
  | d :: ds, h => by
    have a := (h d List.mem_cons_self).all
    have b := leafs_all (ds := ds) fun x hx => h x (List.mem_cons_of_mem _ hx)
    refine ⟨?_, ?_, ?_, ?_⟩
    · simp [PyData.showableAll, a.1, b.1]
    · simp [PyData.leavesShortAll, a.2.1, b.2.1]
    · simp only [PyData.weightAll, List.length_cons]; omega
    · simp only [PyData.depthAll]; omega
theorem repr_list {K : PySem.W.Frag} {H : Hp} {Q : VK} {a : Addr} {xs : List V} {ds : List PyData} (h : SqL K H a xs) (hd : DpAll K H xs ds) (hl : ∀ d ∈ ds, Leaf d) (n : ds.length ≤ 100) (q : Q (.str (PyData.list ds).shown) H) : rRepr K [.ref a] H Q := by
  obtain ⟨a1, a2, a3, a4⟩ := leafs_all hl
  refine repr_by (.list ds) (.lst h hd) ?_ ?_ ?_ ?_ q
  · simpa only [PyData.showable] using a1
  · simp only [PyData.depth]; omega
  · simpa only [PyData.leavesShort] using a2
  · simp only [PyData.weight]; omega
end RS
namespace RS
open PySem PySem.Spec L2
theorem sq_same {K : PySem.W.Frag} {H H' : Hp} {a : Addr} {xs : List V} (h : SqL K H a xs) (s : Same H H') : SqL K H' a xs := by
  rcases h with (h | ⟨o, h⟩) | h
  · exact .inl (.inl (s _ _ h))
  · exact .inl (.inr ⟨o, s _ _ h⟩)
  · exact .inr h
theorem ty_list {K : PySem.W.Frag} {p : Addr} {H : Hp} : tyV K "list" (.ref p) H = ∃ xs, SqL K H p xs := by simp [tyV]
theorem ty_str {K : PySem.W.Frag} {x : Str} {H : Hp} : tyV K "str" (.str x) H = True := by simp [tyV]
/-- a statement, then the rest, with a word between them that the simp set leaves alone -/
def tMid (t u : TS) : TS := fun D σ H => ∃ Mid : L2.St → Hp → Prop, t { D with nx := Mid } σ H ∧ ∀ σ' H', Mid σ' H' → u D σ' H'
theorem pss_mid {X : Cx} {st : Stmt} {rest : List Stmt} {t u : TS} (h1 : PS X st t) (h2 : PSs X rest u) : PSs X (st :: rest) (tMid t u) := C8.pss_cut h1 h2
theorem mid_at {t u : TS} {D : Ends} {σ : L2.St} {H : Hp} (Mid : L2.St → Hp → Prop) (h1 : t { D with nx := Mid } σ H) (h2 : ∀ σ' H', Mid σ' H' → u D σ' H') : tMid t u D σ H := ⟨Mid, h1, h2⟩
/-- .. where one state alone is left -/
theorem mid_one {t u : TS} {D : Ends} {σ : L2.St} {H : Hp} (σ1 : L2.St) (R : Hp → Prop) (h1 : t { D with nx := fun σ' H' => σ' = σ1 ∧ R H' } σ H) (h2 : ∀ H', R H' → u D σ1 H') : tMid t u D σ H :=
  ⟨_, h1, fun _ _ ⟨e, r⟩ => by subst e; exact h2 _ r⟩
end RS
namespace RS
open PySem PySem.Spec PySem.W PySem.Calls PyProof.Rows
/-- what the text says of an own exception class C: its __init__ at fI is one that says super().__init__(..) -/
structure XC (P : Program) (K : Frag) (C fI cda cc : Addr) (qual : Str) (st : Stmt) (B newId initId : String) (bmB : List Value) : Prop where
  FB : ExcBaseFacts B newId initId bmB
  KF : KxsFacts B initId
  SF : StoreFacts B bmB "object.__setattr__" "object"
  q : excInitIn K C bmB newId = true
  ov : excOver K C bmB = true
  sup : ks_superIn K C C "__init__" = some (some (.builtin initId))
  sub : subIn K (.ref C) (.type B) = some true
  ini : findIn K (.ref C) "__init__" = some (some (.ref fI))
  fn : typeIn K (.ref fI) = some (.type "function")
  lk : ∃ oc od kV doc pm an ct osl, K.lookup fI = some ⟨oc, od, .func (ksFn "__init__" qual (L2.defArgs st) (L2.defBody st) (L2.defScope st) .none kV doc pm an (.ref cda) ct cc), osl⟩
  cd : codeIn K (.ref cda) qual = true
  co : ∃ ccl cdd vs ccs file tf, K.lookup cda = some ⟨ccl, cdd, .fields vs, ccs⟩ ∧ vs[2]? = some (.str file tf) ∧ ((P.main.file : Str) == file) = true
  ce : ∃ cl cld csl, K.lookup cc = some ⟨cl, cld, .cell (some (.ref C)), csl⟩
  me : mroIn K C (.ref C) = some true
  op : nsIn K cStatics "thirdparty.any" = some none
  nt : (P.main.scope.names.lookup ("super" : Str)).isSome = false
section
variable {prog : Program} {w : World} {A : Around} {E : Value → Shared → Prop} {h : Heap} {g : Array GenState} {d : Drawn} {t : Nat} {os : OsState} {K : Frag} {C fI cda cc e u t0 : Addr} {B newId initId : String} {bmB : List Value} {qual : Str} {st : Stmt}
/-- the bound __init__, called: the args are laid anew -/
theorem call_mw {rest : List Value} {Q : Value → Shared → Prop} (KX : K.In h) (FB : ExcBaseFacts B newId initId bmB) (q : excInitIn K C bmB newId = true) (hu : h.get? u = some (kxs_mw initId e)) (he : h.get? e = some (HandSPX.excO C t0)) (hz : rest.length ≤ sizeLine)
    (hq : ∀ h' t1, (∀ b o, b ≠ e → h.get? b = some o → h'.get? b = some o) → h'.get? e = some (HandSPX.excO C t1) → Q .none ⟨h', g, d, t, os⟩) :
    wpAny (model prog w) A (call (.ref u) rest) Q E ⟨h, g, d, t, os⟩ := by
  obtain ⟨nm, N', qn, bs, bm, hdct, sn, sub, ab, col, dd, k0, k1, k2, k3, k5, hC, hT⟩ := excInit_of KX q
  refine wpAny_call (codeAny_of_tree ?_)
  show wpAny _ A.in1 (callAny (.ref u) ⟨rest, []⟩) _ _ _
  simp only [callAny]
  refine wpAny_bind (wpAny_load hu ?_)
  have m1 : (Value.type "method-wrapper" == Value.type "method" || Value.type "method-wrapper" == Value.type "builtin_function_or_method" || Value.type "method-wrapper" == Value.type "method-wrapper") = true := by decide
  simp only [kxs_mw, m1, if_true]
  refine KFB.if_so (by decide) ?_
  refine wpAny_bind (check_bound_init FB.toExcCallFacts hC he rfl ?_)
  refine wpAny_bind (wpAny_pure (wpAny_pure ?_))
  refine ⟨plainId_quiet FB.init.plain _, codeAny_builtin FB.initEntry ?_⟩
  exact exc_init_tree (cls := .ref C) (t0 := t0) (dv := none) (c2 := .none) (c3 := .none) (b4 := .bool false) he hz fun h' k e' t' => hq h' _ k e'
end
end RS
namespace RS
open PySem PySem.Spec PySem.W PySem.Calls PyProof.Rows
section
variable {prog : Program} {w : World} {A : Around} {E : Value → Shared → Prop} {h : Heap} {g : Array GenState} {d : Drawn} {t : Nat} {os : OsState} {K : Frag} {C fI cda cc e t0 L : Addr} {B newId initId : String} {bmB : List Value} {qual : Str} {st : Stmt} {mg mb m : Str → Option Value}
/-- super().__init__('..') in the own __init__ -/
theorem sup_init {body : List Stmt} {ar : Arg} {msg : Str} {j : _} {pc p0 p1 p2 p3 p4 : Pos} {Q : Flow → Shared → Prop} (X : XC prog K C fI cda cc qual st B newId initId bmB) (KX : K.In h) (hns : h.Ns L m) (hp : ((L2.defArgs st).posonlyargs ++ (L2.defArgs st).args).head? = some ar) (hv : m ar.arg = some (.ref e))
    (he : h.get? e = some (HandSPX.excO C t0)) (hg : h.Ns mainGlobals mg) (hm : mg "super" = none) (hb : h.Ns builtinsNs mb) (bb : ∀ x : Str, x ≠ "__name__" → mb x = bootBuiltins x)
    (hks : (L2.defScope st).names.lookup ("super" : Str) = some .globalImplicit) (hkc : (L2.defScope st).names.lookup ("__class__" : Str) = some .free) (hka : (L2.defScope st).names.lookup ar.arg = some .local) (hk : (L2.defScope st).kind = .function)
    {pl : Sem Bool} (hi : interactive (ksEnv qual (L2.defScope st) L fI (.ref cda) cc) = false) (hsw : swapsWith (.Call (.Attribute (.Call (.Name "super" p0) [] [] p1) "__init__" p2) [.Constant (.str msg) j pc] [] p3) none p4.line (ksEnv qual (L2.defScope st) L fI (.ref cda) cc) = pure false)
    (hst : starEach [.Constant (.str msg) j pc] (ksEnv qual (L2.defScope st) L fI (.ref cda) cc) = [(false, eval (.Constant (.str msg) j pc) (ksEnv qual (L2.defScope st) L fI (.ref cda) cc))])
    (hev : eval (.Call (.Attribute (.Call (.Name "super" p0) [] [] p1) "__init__" p2) [.Constant (.str msg) j pc] [] p3) (ksEnv qual (L2.defScope st) L fI (.ref cda) cc) = (do
      let ov ← attributeBase (.Call (.Name "super" p0) [] [] p1) "__init__" (ksEnv qual (L2.defScope st) L fI (.ref cda) cc) (eval (.Call (.Name "super" p0) [] [] p1) (ksEnv qual (L2.defScope st) L fI (.ref cda) cc))
      standAt p2.atName
      let (f, first) ← holding [ov] (getMethod ov "__init__" pl)
      callWith p3 f first (backTo p3 (starEach [.Constant (.str msg) j pc] (ksEnv qual (L2.defScope st) L fI (.ref cda) cc))) []))
    (hq : ∀ h' t1 tk, (∀ b o, b ≠ e → h.get? b = some o → h'.get? b = some o) → h'.get? e = some (HandSPX.excO C t1) → Q .next ⟨h', g, d, tk, os⟩) :
    _root_.PySem.wpAt (model prog w) A (.func body (ksEnv qual (L2.defScope st) L fI (.ref cda) cc)) (exec (.Expr (.Call (.Attribute (.Call (.Name "super" p0) [] [] p1) "__init__" p2) [.Constant (.str msg) j pc] [] p3) p4) (ksEnv qual (L2.defScope st) L fI (.ref cda) cc)) Q E ⟨h, g, d, t, os⟩ := by
  obtain ⟨oc, od, kV, doc, pm, an, ct, osl, lk⟩ := X.lk
  obtain ⟨ccl, cdd, vs, ccs, file, tf, lc, hvs, hfile⟩ := X.co
  obtain ⟨cl, cld, csl, lce⟩ := X.ce
  obtain ⟨nm, N', qn, bs, bm, hdct, sn, sub, ab, col, dd, k0, k1, k2, k3, k5, hC, hT⟩ := excInit_of KX X.q
  refine ks_wpAt_Expr_any (ks_wpAt_MethodCall (pl := pl) ?_ hev) hi hsw
  refine ks_wpAt_super_base (env := ksEnv qual (L2.defScope st) L fI (.ref cda) cc) hks hkc (by decide) rfl (KX _ _ lk) rfl hp rfl (KX _ _ lc) rfl hvs hfile X.nt ?_
  refine ks_loadName_global hk hks (loadGlobal_builtin (env := ksEnv qual (L2.defScope st) L fI (.ref cda) cc) hg hm hb ((bb _ (by decide +kernel)).trans (by decide +kernel)) ⟨rfl, ?_⟩)
  refine wpAny_loadName_free hk hkc rfl ⟨_, KX _ _ lce, rfl⟩ ?_
  refine wpAny_loadName_local hk hka hns hv ?_
  refine ks_wpAny_isType_cls hC rfl ⟨rfl, ?_⟩
  refine ks_wpAny_call_super hC rfl he rfl (fun c z => nomatch z) (looks_mroIn KX X.me) (fun h1 hso k1 => ?_)
  have KX1 : K.In h1 := fun b o z => k1 b o (KX b o z)
  have he1 := k1 _ _ he
  have I1 : InstAt h1 e (HandSPX.excO C t0) C none := ⟨he1, rfl, rfl, trivial⟩
  have hI : Looks (model prog w) h1 (isInstance (.ref e) (.type B)) true := I1.type.andThen (looks_subIn KX1 X.sub)
  have sup := X.sup
  cases hc : clsIn K C with
  | none => unfold ks_superIn at sup; rw [hc] at sup; cases sup
  | some cd =>
    unfold ks_superIn at sup
    rw [hc] at sup
    refine kxs_getMethod X.KF hso (looks_opaque KX1 X.op) (l₀ := cd.mro) (fun A Q E s k q => wpAny_bind ((looks_clsIn KX1 hc) A _ E s k (wpAny_pure q))) rfl KX1 sup hI (ks_ne KX1 I1 hc) (by decide) ?_
    have k2 : ∀ b o, h1.get? b = some o → (h1.push (kxs_mw initId e)).get? b = some o := fun b o z => Heap.get?_push_of_some _ z
    have hu : (h1.push (kxs_mw initId e)).get? h1.objs.size = some (kxs_mw initId e) := Heap.get?_push_at rfl rfl
    rw [hst]
    refine kxs_callWith (i := initId) (x := e) rfl ?_
    show wpAny (model prog w) A (evalArgs (.ref h1.objs.size) true ((false, eval (.Constant (.str msg) j pc) _) :: backTo p3 []) []) _ E _
    refine evalArgs_plain (spliced_cons (Calls.Constant_str ?_))
    refine spliced_nil ⟨hu, ?_⟩
    refine call_mw (t0 := t0) (fun b o z => k2 b o (KX1 b o z)) X.FB X.q hu (k2 _ _ he1) (by rw [sizeLine_eq]; simp) fun h' t1 k3 e3 => ?_
    exact hq h' t1 _ (fun b o hb z => k3 b o hb (k2 b o (k1 b o z))) e3
end
end RS
namespace RS
open PySem PySem.Spec PySem.W PySem.Calls PyProof.Rows Builtin Builtin.ObjectAttr
section
variable {prog : Program} {w : World} {A : Around} {E : Value → Shared → Prop} {R : Result → Shared → Prop} {hp : Heap} {g : Array GenState} {d : Drawn} {t : Nat} {os : OsState} {K : Frag} {C x : Addr} {B : String} {bmB : List Value}
/-- self.name = v on an exception that has no dict yet, over any built-in base -/
theorem osa_newX {name : Str} {tk : Tok} {v : Value} {fv : Array Value} {cd : ClassData} (SF : StoreFacts B bmB "object.__setattr__" "object") (KX : K.In hp) (hx : hp.get? x = some { cls := .ref C, data := .fields fv }) (hcd : clsIn K C = some cd) (hh : cd.hasDict = true) (ov : excOver K C bmB = true)
    (ha : findIn K (.ref C) name = some none)
    (hq : ∀ h' tk' dx, (∀ b o, b ≠ x → hp.get? b = some o → h'.get? b = some o) → hp.objs.size ≤ dx → dx ≠ x → h'.get? x = some { cls := .ref C, dict := some dx, data := .fields fv } →
      h'.Ns1 dx (fun y => if y = name then some v else none) → R (.ok (.ret .none)) ⟨h', g, d, tk', os⟩) :
    codeAny (model prog w) A (.call (.builtin "object.__setattr__") ⟨[.ref x, .str name tk, v], []⟩) R ⟨hp, g, d, t, os⟩ := by
  have I : InstAt hp x { cls := .ref C, data := .fields fv } C none := ⟨hx, rfl, rfl, trivial⟩
  have hxs : x ≠ hp.objs.size := Nat.ne_of_lt (Heap.lt_size hx)
  have ht : takerIn K C name = some none := L2.NoAttr.taker ha
  have hcls : Looks (model prog w) hp (classData C) cd := looks_clsIn KX hcd
  refine osa_openX (s := ⟨hp, g, d, t, os⟩) SF KX I ov ht fun b => ?_
  show wpAny _ _ (storeInOwnDict (.ref x) (.ref C) (.str name tk) name v b) _ _ _
  cases cd with | mk nm bs mro ns qn hd sn sb ab col del =>
  simp only at hh
  subst hh
  unfold storeInOwnDict
  unfold ownDictForStores
  repeat (first | with_reducible refine HandSPX.store_in_new ?_ ?_ | with_reducible refine wpAny_loadPart_at hx ?_ | with_reducible refine hcls.at ?_ | wp_step)
  · refine ⟨_, #[], _, (Heap.get?_update_ne _ _ _ _ hxs.symm).trans (Heap.get?_push_at rfl rfl), rfl, ?_, fun _ => rfl⟩
    exact fun z hz => absurd hz (by simp)
  · intro h2 tk2 hn2 same
    have up2 : ∀ b o, hp.get? b = some o → (hp.push { cls := .type "dict", data := .dict #[] }).get? b = some o := fun b o z => Heap.get?_push_of_some _ z
    refine hq h2 tk2 hp.objs.size (fun b o hb z => ?_) (Nat.le_refl _) hxs.symm ((same.2 x hxs).trans (Heap.get?_update_self _ (up2 _ _ hx) rfl)) hn2
    exact (same.2 b (Nat.ne_of_lt (Heap.lt_size z))).trans ((Heap.get?_update_ne _ _ _ _ hb).trans (up2 _ _ z))
end
end RS
namespace RS
open PySem PySem.Spec PySem.W PySem.Calls PyProof.Rows
/-- the form of such an __init__: super().__init__(msg), then self.f = x -/
structure XSt1 (qual : Str) (st : Stmt) (x f : Str) : Prop where
  bd : ∃ p0 p1 p2 p3 p4 p5 p6 p7 p8 pc msg, ∃ j : Nat, L2.defBody st = [.Expr (.Call (.Attribute (.Call (.Name "super" p0) [] [] p1) "__init__" p2) [.Constant (.str msg) j pc] [] p3) p4, .Assign [.Attribute (.Name "self" p5) f p6] (.Name x p7) p8] ∧
    ∀ (L fI cda cc : Addr), interactive (ksEnv qual (L2.defScope st) L fI (.ref cda) cc) = false ∧
      swapsWith (.Call (.Attribute (.Call (.Name "super" p0) [] [] p1) "__init__" p2) [.Constant (.str msg) j pc] [] p3) none p4.line (ksEnv qual (L2.defScope st) L fI (.ref cda) cc) = pure false ∧
      starEach [.Constant (.str msg) j pc] (ksEnv qual (L2.defScope st) L fI (.ref cda) cc) = [(false, eval (.Constant (.str msg) j pc) (ksEnv qual (L2.defScope st) L fI (.ref cda) cc))] ∧
      (∃ pl, eval (.Call (.Attribute (.Call (.Name "super" p0) [] [] p1) "__init__" p2) [.Constant (.str msg) j pc] [] p3) (ksEnv qual (L2.defScope st) L fI (.ref cda) cc) = (do
        let ov ← attributeBase (.Call (.Name "super" p0) [] [] p1) "__init__" (ksEnv qual (L2.defScope st) L fI (.ref cda) cc) (eval (.Call (.Name "super" p0) [] [] p1) (ksEnv qual (L2.defScope st) L fI (.ref cda) cc))
        standAt p2.atName
        let (f, first) ← holding [ov] (getMethod ov "__init__" pl)
        callWith p3 f first (backTo p3 (starEach [.Constant (.str msg) j pc] (ksEnv qual (L2.defScope st) L fI (.ref cda) cc))) [])) ∧
      swapsWith (.Name x p7) (some (.Attribute (.Name "self" p5) f p6)) p8.line (ksEnv qual (L2.defScope st) L fI (.ref cda) cc) = pure false
  ar : ∃ ar, ((L2.defArgs st).posonlyargs ++ (L2.defArgs st).args).head? = some ar ∧ ar.arg = "self"
  ks : (L2.defScope st).names.lookup ("super" : Str) = some .globalImplicit
  kc : (L2.defScope st).names.lookup ("__class__" : Str) = some .free
  ka : (L2.defScope st).names.lookup ("self" : Str) = some .local
  kx : (L2.defScope st).names.lookup x = some .local
  kd : (L2.defScope st).kind = .function
  co : (L2.defScope st).isCoroutine = false
  ge : (L2.defScope st).isGenerator = false
  ce : ∀ y ∈ (L2.defScope st).names, y.2 ≠ .cell
  bi : ∀ (oc : Value) (kV doc pm : Value) (an : Option Addr) (cdv ct : Value) (cc : Addr) (u v : Value), bindArgs (ksFn "__init__" qual (L2.defArgs st) (L2.defBody st) (L2.defScope st) .none kV doc pm an cdv ct cc) ⟨[u, v], []⟩ = pure ([("self", u), (x, v)] : List (Str × Value))
  ne : ¬ ("self" : Str) = x
  dbg : (x == ("__debug__" : Str)) = false
section
variable {prog : Program} {w : World} {A : Around} {R : Result → Shared → Prop} {h : Heap} {g : Array GenState} {d : Drawn} {t : Nat} {os : OsState} {K : Frag} {C fI cda cc e t0 : Addr} {B newId initId : String} {bmB : List Value} {qual x f : Str} {st : Stmt} {mg mb : Str → Option Value}
theorem xinit1 {v : Value} (X : XC prog K C fI cda cc qual st B newId initId bmB) (Y : XSt1 qual st x f) (hd : hasDictIn K C = true) (sa : findIn K (.ref C) "__setattr__" = some (some (.builtin "object.__setattr__"))) (nf : findIn K (.ref C) f = some none)
    (KX : K.In h) (ke : K.lookup e = none) (hroom : A.depth < recursionLimit) (hlim : h.NoLimit) (he : h.get? e = some (HandSPX.excO C t0)) (hg : h.Ns mainGlobals mg) (hm : mg "super" = none) (hb : h.Ns builtinsNs mb) (bb : ∀ x : Str, x ≠ "__name__" → mb x = bootBuiltins x)
    (hq : ∀ h' t1 dx tk, (∀ b o, b ≠ e → h.get? b = some o → h'.get? b = some o) → h.objs.size ≤ dx → dx ≠ e → h'.get? e = some { cls := .ref C, dict := some dx, data := .fields #[.ref t1, .none, .none, .none, .bool false, .none] } →
      h'.Ns1 dx (fun y => if y = f then some v else none) → R (.ok (.ret .none)) ⟨h', g, d, tk, os⟩) :
    codeAny (model prog w) A (.call (.ref fI) ⟨[.ref e, v], []⟩) R ⟨h, g, d, t, os⟩ := by
  obtain ⟨oc, od, kV, doc, pm, an, ct, osl, lk⟩ := X.lk
  obtain ⟨p0, p1, p2, p3, p4, p5, p6, p7, p8, pc, msg, j, hbd, hform⟩ := Y.bd
  obtain ⟨ar, har, harg⟩ := Y.ar
  obtain ⟨cd, hc, hh⟩ := any_some hd
  refine ks_codeAny_call_defAt (s := ⟨h, g, d, t, os⟩) (body := L2.defBody st) (binds := ([("self", .ref e), (x, v)] : List (Str × Value))) hroom (KX _ _ lk) rfl hlim (codeRec_of KX X.cd) rfl (.of_eq (Y.bi oc kV doc pm an _ ct cc _ _)) Y.ce (fun y hy => ?_) (fun h1 hns k1 => ?_) Y.co Y.ge Y.kd
  · simp only [List.mem_cons, List.not_mem_nil, or_false] at hy
    rcases hy with rfl | rfl
    · exact Y.ka
    · exact Y.kx
  obtain ⟨hi, hsw, hst, ⟨pl, hev⟩, hsw2⟩ := hform h.objs.size fI cda cc
  have KX1 : K.In h1 := fun b o z => k1 b o (KX b o z)
  have lt_e : e < h.objs.size := Heap.lt_size he
  rw [hbd]
  refine ks_wpAt_execs_cons ?_
  have hv1 : (fun y => ([("self", Value.ref e), (x, v)] : List (Str × Value)).reverse.lookup y) ar.arg = some (.ref e) := by
    rw [harg]
    show List.lookup ("self" : Str) ([(x, v), ("self", Value.ref e)] : List (Str × Value)) = _
    rw [List.lookup_cons, beq_eq_false_iff_ne.mpr Y.ne]
    rfl
  have hv2 : (fun y => ([("self", Value.ref e), (x, v)] : List (Str × Value)).reverse.lookup y) x = some v := by
    show List.lookup x ([(x, v), ("self", Value.ref e)] : List (Str × Value)) = _
    rw [List.lookup_cons, beq_self_eq_true]
  refine sup_init X KX1 hns har hv1 (k1 _ _ he) (hg.keeps k1) hm (hb.keeps k1) bb Y.ks Y.kc (by rw [harg]; exact Y.ka) Y.kd (pl := pl) hi hsw hst hev fun h2 t1 tk k2 e2 => ?_
  have hns2 : h2.Ns h.objs.size (fun y => ([("self", Value.ref e), (x, v)] : List (Str × Value)).reverse.lookup y) := by
    obtain ⟨oL, es, ep, hL, r⟩ := hns
    exact ⟨oL, es, ep, k2 _ _ (Nat.ne_of_gt lt_e) hL, r⟩
  refine ks_wpAt_execs_cons (ks_wpAt_Assign_Attr ?_ hsw2)
  have KX2 : K.In h2 := fun b o z => k2 b o (fun y => by rw [y, ke] at z; cases z) (KX1 b o z)
  refine wpAt_of_wpAny (wpAny_Name (wpAny_loadName_local Y.kd Y.kx hns2 hv2 ?_) Y.dbg)
  refine wpAny_Name (wpAny_loadName_local Y.kd Y.ka hns2 (by rw [harg] at hv1; exact hv1) ?_)
  refine set_plain (s := ⟨h2, g, d, tk, os⟩) (ox := HandSPX.excO C t1) (od := none) KX2 ⟨e2, rfl, rfl, trivial⟩ sa ?_
  refine osa_newX X.SF KX2 e2 hc hh X.ov nf fun h3 tk3 dx k3 ldx nex e3 n3 => ?_
  have sz : h.objs.size < h2.objs.size := by
    obtain ⟨oL, es, ep, hL, r⟩ := hns2
    exact Heap.lt_size hL
  refine wpAt_of_wpAny (wpAny_execs_nil ?_)
  exact hq h3 t1 dx _ (fun b o hb z => k3 b o hb (k2 b o hb (k1 b o z))) (Nat.le_trans (Nat.le_of_lt sz) ldx) nex e3 n3
end
end RS
namespace RS
open PySem PySem.Spec PySem.W PySem.Calls PyProof.Rows
end RS
namespace RS
open PySem PySem.Spec L2
/-- at e: an exception of the class at C, its dict at d -/
def exv (e C : Addr) (d : Option Addr) : HO := .ext fun h => ∃ oe vs, h.get? e = some oe ∧ oe.cls = .ref C ∧ oe.dict = d ∧ oe.data = .fields vs
theorem exv_ok {P : Program} {w : World} {H : Hp} {h : Heap} {e C : Addr} {d : Option Addr} {oe : Obj} {vs : Array Value} (he : h.get? e = some oe) (h1 : oe.cls = .ref C) (h2 : oe.dict = d) (h3 : oe.data = .fields vs) : ObjOk P w H h e (exv e C d) :=
  ⟨⟨oe, vs, he, h1, h2, h3⟩, ⟨_, he⟩, fun g1 g2 z k => by
    obtain ⟨o2, v2, q, r⟩ := z
    exact ⟨o2, v2, k _ q, r⟩⟩
theorem exv_at {P : Program} {w : World} {H : Hp} {h : Heap} {e C : Addr} {d : Option Addr} (hok : HOk P w H h) (he : H e = some (exv e C d)) : ∃ oe vs, h.get? e = some oe ∧ oe.cls = .ref C ∧ oe.dict = d ∧ oe.data = .fields vs := by
  have x : ObjOk P w H h e (.ext fun h => ∃ oe vs, h.get? e = some oe ∧ oe.cls = .ref C ∧ oe.dict = d ∧ oe.data = .fields vs) := hok e _ he
  exact x.1
end RS
namespace RS
open PySem PySem.Spec L2 PySem.W
/-- the class x at C: C(v) is a new exception whose field f is v -/
def XK1 (g : Wd) (x : Str) (C : Addr) (f : Str) : Prop := g.mg x = some (.ref C) ∧ g.mg "super" = none ∧ keepIn g.K (.ref C) = true ∧ hasDictIn g.K C = true ∧ findIn g.K (.ref C) "__setattr__" = some (some (.builtin "object.__setattr__")) ∧ findIn g.K (.ref C) f = some none ∧
  ∃ fI cda cc qual st B newId initId bmB xp, XC g.P g.K C fI cda cc qual st B newId initId bmB ∧ XSt1 qual st xp f
section
variable {g : Wd} {X : Cx} {C : Addr} {x f : Str} {e : Expr} {t : TA} {p pos : Pos}
def tMkX1 (C : Addr) (f : Str) (t : TA) : TE := fun σ H Q => t σ H fun vs H1 => ∃ v, vs = [v] ∧ ∀ y dy, H1 y = none → H1 dy = none → y ≠ dy → Q (.ref y) (upd (upd H1 dy (exd dy [(f, v)])) y (exv y C (some dy)))
end
end RS
namespace RS
open PySem PySem.Spec L2 PySem.W
section
variable {g : Wd} {X : Cx} {C : Addr} {x f : Str} {e o : Expr} {t : TA} {ta : TE} {p pos : Pos}
def tMkX0 (C : Addr) : TE := fun σ H Q => ∀ y, H y = none → Q (.ref y) (upd H y (exv y C none))
def tXfv (K : Frag) (C : Addr) (f : Str) (ta : TE) : TE := fun σ H Q => ta σ H fun x H1 => ∃ a dd fs v, x = .ref a ∧ H1 a = some (exv a C (some dd)) ∧ H1 dd = some (exd dd fs) ∧ fs.lookup f = some v ∧ Q v H1
end
end RS
namespace RS
open PySem PySem.Spec PySem.W PySem.Calls PyProof.Rows
section
variable {prog : Program} {w : World} {A : Around} {E : Value → Shared → Prop} {s : Shared} {K : Frag} {x C : Addr} {ox : Obj} {od : Option Obj}
theorem clsX (T : L2.ExcC K C) {Q : Option Value → Shared → Prop} (KX : K.In s.heap) (I : InstAt s.heap x ox C od) (q : Q (some (.ref C)) { s with toks := s.toks + 1 }) : wpAny (model prog w) A (getAttr? (.ref x) "__class__") Q E s := by
  have some_cls : (clsIn K C).isSome = true := by
    obtain ⟨cd, hc, _⟩ := any_some T.hd
    rw [hc]; rfl
  have found : findObj K C od "__class__" = some (.bind (.builtin "getset_descriptor.__get__") (.builtin "object.__class__")) := by
    cases od with
    | none => exact findObj_dataN some_cls T.ha T.hn T.ht
    | some od => exact findObj_data some_cls T.ha T.hn T.ht
  obtain ⟨hp, gs, dr, tk, os⟩ := s
  have la := I.type (M := model prog w)
  have lb := looks_findIn (M := model prog w) KX T.hg
  have lc := looks_findIn (M := model prog w) KX T.hk
  have ld := looks_find (M := model prog w) KX I found
  have lsub : Looks (model prog w) hp (isInstance (.ref x) (.type "BaseException")) true := la.andThen (looks_subIn KX T.hs)
  have other : (Value.builtin "BaseException.__getattribute__" == Value.builtin "object.__getattribute__") = false := by decide +kernel
  unfold getAttr?
  unfold getAttrBy?
  unfold getAttrBy
  refine wpAny_bind (wpAny_mkText (wpAny_bind (wpAny_attempt ?_)))
  refine wpAny_holding (wpAny_bind (la.at (wpAny_bind (lb.at ?_))))
  dsimp only
  rw [if_neg (by rw [other]; simp)]
  unfold getAttrByItsOwn
  unfold hookBefore
  refine wpAny_bind ?_
  rw [if_pos (by rfl)]
  refine lc.at ?_
  refine wpAny_bind (wpAny_attempt ?_)
  refine wpAny_holding ?_
  unfold callGetattribute
  rw [if_neg (by simp)]
  unfold boundAndCalled
  rw [PySem.F.excAttr_ValueError.ga.bind (.ref x)]
  refine wpAny_bind (wpAny_pure ?_)
  show wpAny _ _ (call (.builtin "BaseException.__getattribute__") [.ref x, .str "__class__" tk]) _ _ _
  refine wpAny_call (codeAny_call_builtin PySem.F.excAttr_ValueError.ga.plain PySem.F.entry_bexc_ga ?_)
  refine @check_slot (model prog w) _ _ ⟨hp, gs, dr, tk + 1, os⟩ "BaseException.__getattribute__" "BaseException" "__getattribute__" (.ref x) [.str "__class__" tk] [] _ (by decide +kernel) (by decide +kernel) lsub (PySem.F.args_bexc_ga _ _) ?_
  unfold Builtin.«object.__getattribute__»
  refine wpAny_bind (wpAny_of_eq (a := ((Value.ref x : Value), [Value.str "__class__" tk])) (by first | rfl | (simp only [slotArgs]; rfl)) ?_)
  refine wpAny_bind (wpAny_pure ?_)
  refine wpAny_bind (la.at (wpAny_bind (ld.at ?_)))
  refine wpAny_bind (wpAny_holding (wpAny_call (class_get (s := ⟨hp, gs, dr, tk + 1, os⟩) (ox := ox) (od := od) KX I T.hm ?_)))
  refine wpAny_pure ?_
  show wpAny _ _ (handedOut (.ref C)) _ _ _
  rw [handedOut_of (v := .ref C) rfl]
  first
    | exact wpAny_pure (wpAny_pure q)
    | exact wpAny_pure q
    | exact wpAny_pure (wpAny_bind (wpAny_pure (wpAny_pure q)))
theorem kitX (T : L2.ExcC K C) : KitX K (.ref x) (.ref C) (fun h => ∃ ox od, InstAt h x ox C od) where
  ty := fun _ _ _ ⟨_, _, I⟩ => I.type
  it := fun M h KX _ => by
    obtain ⟨cd, hc, _⟩ := any_some T.hd
    unfold clsIn at hc
    split at hc
    · rename_i ho
      intro A' Q' E' s' k q
      unfold isType
      unfold loadHead
      exact wpAny_bind (wpAny_loadPart (k _ _ (KX _ _ ho)) (wpAny_pure q))
    · cases hc
  ne := fun h tp dd its n sl KX htp => by
    obtain ⟨cd, hc, _⟩ := any_some T.hd
    refine Bool.eq_false_iff.mpr fun q => ?_
    obtain rfl : C = tp := Value.ref.inj (beq_iff_eq.mp q)
    unfold clsIn at hc
    split at hc
    · rename_i ho
      cases (KX _ _ ho).symm.trans htp
    · cases hc
  ca := fun KX ⟨_, _, I⟩ q => clsX T KX I q
end
end RS
namespace RS
open PySem PySem.Spec L2
end RS
namespace RS
open PySem PySem.Spec L2
def keyD : Key → PyData
  | .inl i => .int i
  | .inr x => .str x
mutual
/-- v stands for the data d -/
inductive DpX (K : PySem.W.Frag) (H : Hp) : V → PyData → Prop
  | non : DpX K H .non .none
  | bl (b : Bool) : DpX K H (.bl b) (.bool b)
  | int (i : Int) : DpX K H (.int i) (.int i)
  | str (x : Str) : DpX K H (.str x) (.str x)
  | lst {a : Addr} {xs : List V} {ds : List PyData} (h : SqL K H a xs) (hs : DpXs K H xs ds) : DpX K H (.ref a) (.list ds)
  | tup {a : Addr} {xs : List V} {ds : List PyData} (h : SqT K H a xs) (hs : DpXs K H xs ds) : DpX K H (.ref a) (.tuple ds)
  | dct {a : Addr} {kvs : List (Key × V)} {D : List (PyData × PyData)} (h : H a = some (.dK kvs)) (hs : DpXd K H kvs D) : DpX K H (.ref a) (.dict D)
inductive DpXs (K : PySem.W.Frag) (H : Hp) : List V → List PyData → Prop
  | nil : DpXs K H [] []
  | cons {v : V} {vs : List V} {d : PyData} {ds : List PyData} (h : DpX K H v d) (hs : DpXs K H vs ds) : DpXs K H (v :: vs) (d :: ds)
inductive DpXd (K : PySem.W.Frag) (H : Hp) : List (Key × V) → List (PyData × PyData) → Prop
  | nil : DpXd K H [] []
  | cons {k : Key} {v : V} {kvs : List (Key × V)} {d : PyData} {D : List (PyData × PyData)} (h : DpX K H v d) (hs : DpXd K H kvs D) : DpXd K H ((k, v) :: kvs) ((keyD k, d) :: D)
end
/-- sys.modules stands in the base, a dict -/
def SmB (base : Heap) : Prop := ∃ o es n, base.get? sysModules = some o ∧ o.data = .dict es n
theorem SmB.ne {X : Cx} {pins : List (Addr × Obj)} {σ : L2.St} {H : Hp} {s : Shared} {a : Addr} {its : Array Value} {n : Nat} {o : Obj} (I : Inv X pins σ H s) (sm : SmB X.base) (h : s.heap.get? a = some o) (hd : o.data = .seq its n) : sysModules ≠ a := fun z => by
  obtain ⟨o2, es, k, e, d⟩ := sm
  have e2 := (I.bs _ _ e).1
  rw [z, h] at e2
  cases e2
  rw [hd] at d
  cases d
section
variable {X : Cx} {pins : List (Addr × Obj)} {σ : L2.St} {H : Hp} {s : Shared}
theorem key_reads {h : Heap} (k : Key) (key : Value) (e : (mixKind X.prog X.w).is k key = true) : Reads h key (keyD k) [] := by
  rcases keyIs_shape e with ⟨i, t, rfl, rfl⟩ | ⟨x, t, rfl, rfl⟩
  · exact Reads.int i t
  · exact Reads.str x t
mutual
theorem DpX.reads (I : Inv X pins σ H s) (sm : SmB X.base) : ∀ {d : PyData} {v : V} {u : Value}, DpX X.K H v d → RelV v u → ∃ as, Reads s.heap u d as ∧ sysModules ∉ as
  | _, _, _, .non, r => by cases r; exact ⟨_, Reads.none, by simp⟩
  | _, _, _, .bl b, r => by cases r; exact ⟨_, Reads.bool b, by simp⟩
  | _, _, _, .int i, r => by obtain ⟨t, rfl⟩ := r; exact ⟨_, Reads.int i t, by simp⟩
  | _, _, _, .str x, r => by obtain ⟨t, rfl⟩ := r; exact ⟨_, Reads.str x t, by simp⟩
  | _, _, _, .lst hs ha, r => by
    cases r
    obtain ⟨its, rv, ⟨o, n, ho, hc, _, hd⟩, _⟩ := I.list hs
    obtain ⟨as, hr, na⟩ := DpXs.reads I sm ha rv
    refine ⟨_, Reads.list ho hc hd hr, fun z => ?_⟩
    rcases List.mem_cons.mp z with z | z
    · exact SmB.ne I sm ho hd z
    · exact na z
  | _, _, _, .tup hs ha, r => by
    cases r
    obtain ⟨its, rv, ⟨o, ho, hc, n, hd⟩, _⟩ := I.tuple hs
    obtain ⟨as, hr, na⟩ := DpXs.reads I sm ha rv
    exact ⟨_, Reads.tuple ho hc hd hr, na⟩
  | _, _, _, .dct hs ha, r => by
    cases r
    obtain ⟨_, ns, vs, kv, dd⟩ := dk_of I.hok hs
    obtain ⟨bs, hp, nb⟩ := DpXd.reads I sm ha kv
    refine ⟨_, PyProof.V.reads_dictOf (enc := keyD) (fun k key e => key_reads (X := X) k key e) dd hp, fun z => ?_⟩
    rcases List.mem_cons.mp z with z | z
    · rw [z] at ns; simp at ns
    · exact nb z
theorem DpXs.reads (I : Inv X pins σ H s) (sm : SmB X.base) : ∀ {ds : List PyData} {vs : List V} {us : List Value}, DpXs X.K H vs ds → Vals vs us → ∃ as, ReadsAll s.heap us ds as ∧ sysModules ∉ as
  | _, _, _, .nil, r => by cases r; exact ⟨_, ReadsAll.nil, by simp⟩
  | _, _, _, .cons h1 h2, r => by
    cases r with
    | cons r1 r2 =>
      obtain ⟨as, q1, n1⟩ := DpX.reads I sm h1 r1
      obtain ⟨bs, q2, n2⟩ := DpXs.reads I sm h2 r2
      exact ⟨_, ReadsAll.cons q1 q2, fun z => (List.mem_append.mp z).elim n1 n2⟩
theorem DpXd.reads (I : Inv X pins σ H s) (sm : SmB X.base) : ∀ {D : List (PyData × PyData)} {kvs : List (Key × V)} {vs : List (Key × Value)}, DpXd X.K H kvs D → KV kvs vs → ∃ bs, PyProof.V.PairsRead s.heap keyD vs D bs ∧ sysModules ∉ bs
  | _, _, _, .nil, r => by cases r; exact ⟨_, PyProof.V.PairsRead.nil, by simp⟩
  | _, _, _, .cons h1 h2, r => by
    cases r with
    | @cons _ q _ _ r1 r2 =>
      obtain ⟨k', v'⟩ := q
      obtain ⟨e1, e2⟩ := r1
      simp only at e1 e2
      subst e1
      obtain ⟨as, q1, n1⟩ := DpX.reads I sm h1 e2
      obtain ⟨bs, q2, n2⟩ := DpXd.reads I sm h2 r2
      exact ⟨_, PyProof.V.PairsRead.cons q1 q2, fun z => (List.mem_append.mp z).elim n1 n2⟩
end
end
end RS
namespace RS
open PySem PySem.Spec L2
section
variable {X : Cx} {k : Nat}
def rReprX (K : PySem.W.Frag) : List V → Hp → VK → Prop := fun xs H Q => ∃ a d, xs = [.ref a] ∧ DpX K H (.ref a) d ∧ d.showable = true ∧ d.depth ≤ 60 ∧ d.shown.length ≤ sizeLine ∧ Q (.str d.shown) H
theorem c_reprX {K : PySem.W.Frag} {base : Heap} (sm : SmB base) (hr : Rm k X) (hK : X.K = K := by rfl) (hB : X.base = base := by rfl) : CallR X (.builtin "repr") (rReprX K) := by
  subst hK
  subst hB
  intro pins s σ H xs us Q I r h
  obtain ⟨a, d, rfl, hd, hs, hz, hl, q⟩ := h
  obtain ⟨u, rfl, ru⟩ := vals1 r
  cases ru
  obtain ⟨as, rd, na⟩ := DpX.reads I sm hd rfl
  refine repr_of_reads' (h₀ := s.heap) rd hs (fun _ => na) hr.gd (by have := hr.room.un; omega) (fun _ _ e => e) (fun h' u tk kp => ?_) hl
  exact ⟨.str _, H, I.kept kp, ⟨_, rfl⟩, q⟩
end
end RS
namespace RS
open PySem PySem.Spec L2
theorem sqT_same {K : PySem.W.Frag} {H H' : Hp} {a : Addr} {xs : List V} (h : SqT K H a xs) (s : Same H H') : SqT K H' a xs := by
  rcases h with (h | ⟨o, h⟩) | h
  · exact .inl (.inl (s _ _ h))
  · exact .inl (.inr ⟨o, s _ _ h⟩)
  · exact .inr h
mutual
theorem DpX.same {K : PySem.W.Frag} {H H' : Hp} (s : Same H H') : ∀ {v : V} {d : PyData}, DpX K H v d → DpX K H' v d
  | _, _, .non => .non
  | _, _, .bl b => .bl b
  | _, _, .int i => .int i
  | _, _, .str x => .str x
  | _, _, .lst h hs => .lst (sq_same h s) (hs.same s)
  | _, _, .tup h hs => .tup (sqT_same h s) (hs.same s)
  | _, _, .dct h hs => .dct (s _ _ h) (hs.same s)
theorem DpXs.same {K : PySem.W.Frag} {H H' : Hp} (s : Same H H') : ∀ {vs : List V} {ds : List PyData}, DpXs K H vs ds → DpXs K H' vs ds
  | _, _, .nil => .nil
  | _, _, .cons h hs => .cons (h.same s) (hs.same s)
theorem DpXd.same {K : PySem.W.Frag} {H H' : Hp} (s : Same H H') : ∀ {kvs : List (Key × V)} {D : List (PyData × PyData)}, DpXd K H kvs D → DpXd K H' kvs D
  | _, _, .nil => .nil
  | _, _, .cons h hs => .cons (h.same s) (hs.same s)
end
end RS
namespace RS
open PySem PySem.Spec L2
end RS
namespace RS
open PySem PySem.Spec L2 PyProof.Rows
end RS
namespace RS
open PySem PySem.Spec L2
theorem join_len_le (n b : Nat) : ∀ ts : List Str, ts.length ≤ n → (∀ t ∈ ts, t.length ≤ b) → (Str.join ", " ts).length ≤ n * (b + 2) := by
  intro ts hn hb
  by_cases e : ts = []
  · subst e; exact Nat.le_trans (by decide) (Nat.zero_le _)
  · have h := join_length_add ts e
    have hp : piled ts ≤ ts.length * (b + 2) := by
      clear h e hn
      induction ts with
      | nil => simp [piled]
      | cons t ts ih =>
        have h1 := hb t (List.mem_cons_self ..)
        have h2 := ih fun x hx => hb x (List.mem_cons_of_mem _ hx)
        simp only [piled, List.map_cons, List.sum_cons, List.length_cons] at h2 ⊢
        rw [Nat.add_mul]
        omega
    have : ts.length * (b + 2) ≤ n * (b + 2) := Nat.mul_le_mul_right _ hn
    omega
end RS
namespace RS
open PySem PySem.Spec PySem.W L2
/-- what the kernel tells of an own exception class -/
structure XB (K : Frag) (C fI cda : Addr) (qual : Str) (B newId initId : String) (bmB : List Value) : Prop where
  q : excInitIn K C bmB newId = true
  ov : excOver K C bmB = true
  sup : ks_superIn K C C "__init__" = some (some (.builtin initId))
  sub : subIn K (.ref C) (.type B) = some true
  fn : typeIn K (.ref fI) = some (.type "function")
  cd : codeIn K (.ref cda) qual = true
  me : mroIn K C (.ref C) = some true
  kp : keepIn K (.ref C) = true
  hd : hasDictIn K C = true
  sa : findIn K (.ref C) "__setattr__" = some (some (.builtin "object.__setattr__"))
  hg : findIn K (.ref C) "__getattribute__" = some (some (.builtin "BaseException.__getattribute__"))
  hk : findIn K (.ref C) "__getattr__" = some none
  hs : subIn K (.ref C) (.type "BaseException") = some true
  ha : findIn K (.ref C) "__class__" = some (some (.builtin "object.__class__"))
  hm : mroIn K C (.type "object") = some true
/-- what is common -/
structure XA (P : Program) (K : Frag) : Prop where
  op : nsIn K cStatics "thirdparty.any" = some none
  nt : (P.main.scope.names.lookup ("super" : Str)).isSome = false
  hn : specialIn K (.builtin "object.__class__") "__get__" = some (some (.builtin "getset_descriptor.__get__"))
  ht : takesIn K (.builtin "object.__class__") = some true
section
variable {P : Program} {K : Frag} {C fI cda cc : Addr} {qual : Str} {st : Stmt} {B newId initId : String} {bmB : List Value}
  {oc kV doc pm ct ccl cl : Value} {od an cdd cld : Option Addr} {osl ccs csl : Array (Option Value)} {vs : Array Value} {file : Str} {tf : Tok}
theorem xc_mk (FB : ExcBaseFacts B newId initId bmB) (KF : KxsFacts B initId) (SF : StoreFacts B bmB "object.__setattr__" "object") (A : XA P K) (b : XB K C fI cda qual B newId initId bmB) (ini : findIn K (.ref C) "__init__" = some (some (.ref fI)))
    (l : K.lookup fI = some ⟨oc, od, .func (ksFn "__init__" qual (L2.defArgs st) (L2.defBody st) (L2.defScope st) .none kV doc pm an (.ref cda) ct cc), osl⟩)
    (co : K.lookup cda = some ⟨ccl, cdd, .fields vs, ccs⟩) (fi : vs[2]? = some (.str file tf)) (fe : ((P.main.file : Str) == file) = true) (ce : K.lookup cc = some ⟨cl, cld, .cell (some (.ref C)), csl⟩) :
    XC P K C fI cda cc qual st B newId initId bmB :=
  ⟨FB, KF, SF, b.q, b.ov, b.sup, b.sub, ini, b.fn, ⟨_, _, _, _, _, _, _, _, l⟩, b.cd, ⟨_, _, _, _, _, _, co, fi, fe⟩, ⟨_, _, _, ce⟩, b.me, A.op, A.nt⟩
theorem XB.exc (A : XA P K) (b : XB K C fI cda qual B newId initId bmB) : ExcC K C := ⟨b.hg, b.hk, b.hs, b.hd, b.ha, A.hn, A.ht, b.hm⟩
theorem XB.xf (b : XB K C fI cda qual B newId initId bmB) : XfC K C := ⟨b.hg, b.hk, b.hs, b.hd⟩
end
theorem df_mk {K : PySem.W.Frag} {x qual : Str} {st : Stmt} {f : Addr} {oc : Value} {od an : Option Addr} {osl : Array (Option Value)} {dV kV doc pm cdv ct : Value} (l : K.lookup f = some ⟨oc, od, .func (PySem.W.fnOf x qual (defArgs st) (defBody st) (defScope st) dV kV doc pm an cdv ct), osl⟩)
    (c : PySem.W.codeIn K cdv qual = true) (k : PySem.W.keepIn K (.ref f) = true) : Df K x qual st f (PySem.W.fnOf x qual (defArgs st) (defBody st) (defScope st) dV kV doc pm an cdv ct) dV := ⟨⟨oc, od, kV, doc, pm, an, cdv, ct, osl, rfl, l, c⟩, k⟩
end RS
namespace RS
open PySem PySem.Spec PyProof.Rows L2
/-- whether sys.modules is a dict -/
def smOk (h : Heap) : Bool := match h.get? sysModules with
  | some ⟨_, _, .dict _ _, _⟩ => true
  | _ => false
theorem smB_of {h : Heap} (e : smOk h = true) : SmB h := by
  unfold smOk at e
  split at e
  · rename_i c d es n sl q
    exact ⟨_, es, n, q, rfl⟩
  · cases e
/-- a hook that tells of sys.modules too -/
def smHook (k : PySem.W.Hook) : PySem.W.Hook :=
  ⟨k.α × Bool, fun s => (k.obs s, smOk s.heap), fun w => (k.val w, true), fun w h => k.says w h ∧ SmB h, fun w s e => ⟨k.of w s (Prod.mk.inj e).1, smB_of (Prod.mk.inj e).2⟩,
    fun w h h' x kp => ⟨k.keeps w h h' x.1 kp, by obtain ⟨o, es, n, e, d⟩ := x.2; exact ⟨o, es, n, kp _ _ e, d⟩⟩⟩
end RS
namespace RS
open PySem PySem.Spec L2 PyProof.Rows
section
variable {X : Cx} {k : Nat}
def rReprV (K : PySem.W.Frag) : List V → Hp → VK → Prop := fun xs H Q => ∃ v d, xs = [v] ∧ DpX K H v d ∧ d.showable = true ∧ d.depth ≤ 60 ∧ d.shown.length ≤ sizeLine ∧ Q (.str d.shown) H
theorem c_reprV {K : PySem.W.Frag} {base : Heap} (sm : SmB base) (hr : Rm k X) (hK : X.K = K := by rfl) (hB : X.base = base := by rfl) : CallR X (.builtin "repr") (rReprV K) := by
  subst hK
  subst hB
  intro pins s σ H xs us Q I r h
  obtain ⟨v, d, rfl, hd, hs, hz, hl, q⟩ := h
  obtain ⟨u, rfl, ru⟩ := vals1 r
  cases hd with
  | non =>
    cases ru
    rw [PyData.shown_none] at q
    exact PySem.P.repr_of_none ⟨.str _, H, I.tok _, ⟨_, rfl⟩, q⟩
  | bl b =>
    cases ru
    rw [PyData.shown_bool] at q
    exact PySem.P.repr_of_bool ⟨.str _, H, I.tok _, ⟨_, rfl⟩, q⟩
  | int i =>
    obtain ⟨t, rfl⟩ := ru
    rw [PyData.shown_int] at q
    have hb : i.natAbs.log2 < 1920 := by simpa [PyData.showable] using hs
    exact PySem.P.repr_of_int hb ⟨.str _, H, I.tok _, ⟨_, rfl⟩, q⟩
  | str x =>
    obtain ⟨t, rfl⟩ := ru
    rw [PyData.shown_str] at q hl
    exact PySem.P.repr_of_str ⟨.str _, H, I.tok _, ⟨_, rfl⟩, q⟩ hl
  | @lst a xs ds h1 h2 => exact c_reprX (base := X.base) sm hr rfl rfl pins s σ H _ _ Q I r ⟨a, _, rfl, .lst h1 h2, hs, hz, hl, q⟩
  | @tup a xs ds h1 h2 => exact c_reprX (base := X.base) sm hr rfl rfl pins s σ H _ _ Q I r ⟨a, _, rfl, .tup h1 h2, hs, hz, hl, q⟩
  | @dct a kvs D h1 h2 => exact c_reprX (base := X.base) sm hr rfl rfl pins s σ H _ _ Q I r ⟨a, _, rfl, .dct h1 h2, hs, hz, hl, q⟩
end
end RS
namespace RS
open PySem PySem.Spec
/-- an iterator whose turns give out no token -/
structure Dr (prog : Program) (w : World) (A : Around) (it : Addr) (fp : List Addr) (n : Nat) (P : Nat → Value → Prop) (St : Nat → Heap → Prop) : Prop where
  fr : ∀ i h h', St i h → (∀ b ∈ fp, ∀ o, h.get? b = some o → h'.get? b = some o) → St i h'
  nx : ∀ i (s : Shared) (Q : Value → Shared → Prop) (E : Value → Shared → Prop), i < n → St i s.heap → (∀ x h', P i x → St (i + 1) h' → Heap.SameBut it s.heap h' → Q x { s with heap := h' }) → wpAny (model prog w) A (Builtin.SmallTypes.nextOf (.ref it)) Q E s
  dn : ∀ (s : Shared) (Q : Value → Shared → Prop) (E : Value → Shared → Prop), St n s.heap → (∀ h' e, Heap.ExtBut it s.heap h' → (∃ o, h'.get? e = some o ∧ o.cls = .type "StopIteration") → E (.ref e) { s with heap := h' }) → wpAny (model prog w) A (Builtin.SmallTypes.nextOf (.ref it)) Q E s
section
variable {prog : Program} {w : World} {A : Around} {E : Value → Shared → Prop} {s : Shared}
theorem dr_list (hh : A.handled = none) (it l : Addr) (ne : l ≠ it) (xs : Array Value) : Dr prog w A it [it, l] xs.size (fun i v => xs[i]? = some v) (fun i h => h.IsListIter it l i ∧ h.IsList l xs) :=
  ⟨fun _ _ _ z k => ⟨z.1.at fun o e => k it (by simp) o e, z.2.at fun o e => k l (by simp) o e⟩,
   fun i s Q E lt z k => wpAny_nextOf_list_item z.1 z.2 (x := xs[i]) (by simp [lt]) fun h' a b => k _ h' (by simp [lt]) ⟨a, z.2.extBut b.extBut ne⟩ b,
   fun s Q E z k => wpAny_nextOf_list_end hh z.1 z.2 (by simp) k⟩
theorem dr_tup (hh : A.handled = none) (it l : Addr) (ne : l ≠ it) (xs : Array Value) : Dr prog w A it [it, l] xs.size (fun i v => xs[i]? = some v) (fun i h => h.IsTupleIter it l i ∧ h.IsTuple l xs) :=
  ⟨fun _ _ _ z k => ⟨z.1.at fun o e => k it (by simp) o e, z.2.at fun o e => k l (by simp) o e⟩,
   fun i s Q E lt z k => wpAny_nextOf_tuple_item z.1 z.2 (x := xs[i]) (by simp [lt]) fun h' a b => k _ h' (by simp [lt]) ⟨a, z.2.extBut b.extBut ne⟩ b,
   fun s Q E z k => wpAny_nextOf_tuple_end hh z.1 z.2 (by simp) k⟩
/-- an enumerate's record -/
abbrev enO (f0 f1 : Value) (it : Addr) (c : Int) (old : Value) : Obj := { cls := .type "enumerate", dict := none, data := .fields #[f0, f1, .ref it, rawInt c, .none, old], slots := #[] }
abbrev tupO (c : Int) (t : Tok) (x : Value) : Obj := { cls := .type "tuple", data := .seq #[.int c t, x] }
/-- its state: no tuple is out, or one is out and held -/
def EnS (h : Heap) (e it : Addr) (c : Int) : Prop := (∃ old, h.get? e = some (enO .none (.bool false) it c old)) ∨ ∃ (old : Value) (T : Addr) (f : Bool) (o : Obj), h.get? e = some (enO (rawInt T) (.bool f) it c old) ∧ h.get? T = some o ∧ T ≠ e ∧ T ≠ it ∧ o.cls = .type "tuple"
theorem en_next {e it : Addr} {fp : List Addr} {n i : Nat} {P : Nat → Value → Prop} {St : Nat → Heap → Prop} {Q : Value → Shared → Prop} (D : Dr prog w A it fp n P St) (he : EnS s.heap e it i) (hst : St i s.heap) (lt : i < n) (ne : e ≠ it) (nf : e ∉ fp) (hi : it < s.heap.objs.size)
    (k : ∀ x h', P i x → EnS h' e it (i + 1 : Nat) → St (i + 1) h' → h'.get? s.heap.objs.size = some (tupO i s.toks x) → h'.objs.size = s.heap.objs.size + 1 → (∀ b o, b ≠ e → b ≠ it → s.heap.get? b = some o → h'.get? b = some o) → Q (.ref s.heap.objs.size) { s with heap := h', toks := s.toks + 1 }) :
    wpAny (model prog w) A (Builtin.«enumerate.__next__» ⟨[.ref e], []⟩) (fun r z => ∃ v, r = .done (.ret v) ∧ Q v z) E s := by
  obtain ⟨H, gs, dr, tk, os⟩ := s
  have ec : ((i + 1 : Nat) : Int) = (i : Int) + 1 := by omega
  obtain ⟨f0, f1, old, hE⟩ : ∃ f0 f1 old, H.get? e = some (enO f0 f1 it i old) := by
    rcases he with ⟨old, z⟩ | ⟨old, T, f, o, z, _⟩
    · exact ⟨_, _, _, z⟩
    · exact ⟨_, _, _, z⟩
  have le : e < H.objs.size := Heap.lt_size hE
  unfold Builtin.«enumerate.__next__»
  refine wpAny_bind (wpAny_of_eq (a := ((Value.ref e : Value), ([] : List Value))) (by rfl) ?_)
  refine wpAny_bind (wpAny_field hE rfl (x := .ref it) rfl ?_)
  refine wpAny_bind (D.nx i ⟨H, gs, dr, tk, os⟩ _ _ lt hst fun x H1 px st1 m1 => ?_)
  have E1 : H1.get? e = some (enO f0 f1 it i old) := (m1.2 e ne).trans hE
  refine wpAny_bind (wpAny_field E1 rfl (x := rawInt i) rfl ?_)
  refine wpAny_bind (wpAny_field E1 rfl (x := .none) rfl ?_)
  show wpAny _ _ ((mkInt (i : Int)) >>= _) _ _ ⟨H1, gs, dr, tk, os⟩
  refine wpAny_bind (wpAny_mkInt ?_)
  refine wpAny_bind (wpAny_setField_rec (s := ⟨H1, gs, dr, tk + 1, os⟩) E1 (by simp) fun H2 E2 m2 => ?_)
  have E2' : H2.get? e = some (enO f0 f1 it ((i : Int) + 1) old) := E2
  refine wpAny_bind (wpAny_setField_rec (s := ⟨H2, gs, dr, tk + 1, os⟩) E2' (by simp) fun H3 E3 m3 => ?_)
  have E3' : H3.get? e = some (enO f0 f1 it ((i : Int) + 1) old) := E3
  have m2' : Heap.SameBut e H1 H2 := m2
  have m3' : Heap.SameBut e H2 H3 := m3
  have m1' : Heap.SameBut it H H1 := m1
  have z3 : H3.objs.size = H.objs.size := by rw [m3'.1, m2'.1, m1'.1]
  refine wpAny_bind (wpAny_newTuple ?_)
  have keep4 : ∀ b o, b ≠ e → b ≠ it → H.get? b = some o → (H3.push (tupO i tk x)).get? b = some o := fun b o x1 x2 z => Heap.get?_push_of_some _ (m3'.extBut b o x1 (m2'.extBut b o x1 (m1'.extBut b o x2 z)))
  have E4 : (H3.push (tupO i tk x)).get? e = some (enO f0 f1 it ((i : Int) + 1) old) := Heap.get?_push_of_some _ E3'
  have T4 : (H3.push (tupO i tk x)).get? H.objs.size = some (tupO i tk x) := by rw [← z3]; exact Heap.get?_push_size _ rfl
  have st4 : St (i + 1) (H3.push (tupO i tk x)) := D.fr _ _ _ st1 fun b hb o z => by
    have x1 : b ≠ e := fun q => nf (q ▸ hb)
    exact Heap.get?_push_of_some _ (m3'.extBut b o x1 (m2'.extBut b o x1 z))
  have z4 : (H3.push (tupO i tk x)).objs.size = H.objs.size + 1 := by rw [Heap.size_push, z3]
  have keepT : ∀ T o, T ≠ e → T ≠ it → H.get? T = some o → (H3.push (tupO i tk x)).get? T = some o := keep4
  show wpAny _ _ (Builtin.SmallTypes.ownedTupleIsFree (.ref e) >>= _) _ _ ⟨H3.push (tupO i tk x), gs, dr, tk + 1, os⟩
  rw [z3]
  generalize H3.push (tupO i tk x) = H4 at keep4 E4 T4 st4 z4 keepT ⊢
  have nT : H.objs.size ≠ e := Nat.ne_of_gt le
  have nI : H.objs.size ≠ it := Nat.ne_of_gt hi
  rcases he with ⟨old', z⟩ | ⟨old', T, f, oT, z, hT, n1, n2, ct⟩
  · have q : enO f0 f1 it i old = enO .none (.bool false) it i old' := Option.some.inj (hE.symm.trans z)
    have qq := congrArg (fun o : Obj => match o.data with | .fields vs => vs.toList | _ => []) q
    simp only [List.cons.injEq] at qq
    have q0 : f0 = .none := qq.1
    have q1 : f1 = .bool false := qq.2.1
    subst q0 q1
    refine wpAny_bind ?_
    unfold Builtin.SmallTypes.ownedTupleIsFree
    refine wpAny_bind (wpAny_field E4 rfl (x := .none) rfl (wpAny_pure ?_))
    simp only [if_true]
    refine wpAny_bind (wpAny_rule ?_)
    refine wpAny_bind (wpAny_field E4 rfl (x := old) rfl ?_)
    refine wpAny_bind (wpAny_setField_rec E4 (by simp) fun H5 E5 m5 => ?_)
    have E5' : H5.get? e = some (enO .none (.bool false) it ((i : Int) + 1) x) := E5
    have m5' : Heap.SameBut e H4 H5 := m5
    refine wpAny_bind ?_
    unfold Builtin.SmallTypes.ownedTupleHandOut
    refine wpAny_bind (wpAny_setField_rec E5' (by simp) fun H6 E6 m6 => ?_)
    have m6' : Heap.SameBut e H5 H6 := m6
    refine wpAny_setField_rec E6 (by simp) fun H7 E7 m7 => ?_
    have m7' : Heap.SameBut e H6 H7 := m7
    have E7' : H7.get? e = some (enO (rawInt H.objs.size) (.bool false) it ((i + 1 : Nat) : Int) x) := by rw [ec]; exact E7
    have kk : ∀ b o, b ≠ e → H4.get? b = some o → H7.get? b = some o := fun b o x1 z => m7'.extBut b o x1 (m6'.extBut b o x1 (m5'.extBut b o x1 z))
    refine wpAny_bind (wpAny_letGo (wpAny_pure ⟨_, rfl, k x H7 px (.inr ⟨x, H.objs.size, false, _, E7', kk _ _ nT T4, nT, nI, rfl⟩) (D.fr _ _ _ st4 fun b hb o z => kk b o (fun q => nf (q ▸ hb)) z) (kk _ _ nT T4) ?_ fun b o x1 x2 z => kk b o x1 (keep4 b o x1 x2 z)⟩))
    show H7.objs.size = H.objs.size + 1
    rw [m7'.1, m6'.1, m5'.1, z4]
  · have q : enO f0 f1 it i old = enO (rawInt T) (.bool f) it i old' := Option.some.inj (hE.symm.trans z)
    have qq := congrArg (fun o : Obj => match o.data with | .fields vs => vs.toList | _ => []) q
    simp only [List.cons.injEq] at qq
    have q0 : f0 = rawInt T := qq.1
    have q1 : f1 = .bool f := qq.2.1
    subst q0 q1
    refine wpAny_bind (wpAny_tupleHeld_enum (s := ⟨H4, gs, dr, tk + 1, os⟩) E4 (keepT T oT n1 n2 hT) fun H5 E5 m5 => ?_)
    have m5' : Heap.SameBut e H4 H5 := m5
    simp only [Bool.false_eq_true, if_false]
    have kk : ∀ b o, b ≠ e → H4.get? b = some o → H5.get? b = some o := fun b o x1 z => m5'.extBut b o x1 z
    refine wpAny_pure ⟨_, rfl, k x H5 px (.inr ⟨old, T, true, oT, by rw [ec]; exact E5, kk _ _ n1 (keepT T oT n1 n2 hT), n1, n2, ct⟩) (D.fr _ _ _ st4 fun b hb o z => kk b o (fun q => nf (q ▸ hb)) z) (kk _ _ nT T4) ?_ fun b o x1 x2 z => kk b o x1 (keep4 b o x1 x2 z)⟩
    show H5.objs.size = H.objs.size + 1
    rw [m5'.1, z4]
end
end RS
namespace RS
open PySem PySem.Spec
section
variable {prog : Program} {w : World} {A : Around} {E : Value → Shared → Prop} {s : Shared} {e it : Addr} {fp : List Addr} {n i : Nat} {P : Nat → Value → Prop} {St : Nat → Heap → Prop}
theorem EnS.ty {h : Heap} {c : Int} (x : EnS h e it c) : ∃ o, h.get? e = some o ∧ o.cls = .type "enumerate" := by
  rcases x with ⟨old, z⟩ | ⟨old, T, f, o, z, _⟩
  · exact ⟨_, z, rfl⟩
  · exact ⟨_, z, rfl⟩
theorem en_item {Q : Option Value → Shared → Prop} (D : Dr prog w A.in1 it fp n P St) (he : EnS s.heap e it i) (hst : St i s.heap) (lt : i < n) (ne : e ≠ it) (nf : e ∉ fp) (hi : it < s.heap.objs.size)
    (k : ∀ x h', P i x → EnS h' e it (i + 1 : Nat) → St (i + 1) h' → h'.get? s.heap.objs.size = some (tupO i s.toks x) → h'.objs.size = s.heap.objs.size + 1 → (∀ b o, b ≠ e → b ≠ it → s.heap.get? b = some o → h'.get? b = some o) → Q (some (.ref s.heap.objs.size)) { s with heap := h', toks := s.toks + 1 }) :
    wpAny (model prog w) A (pyNext (.ref e)) Q E s := by
  have ty : s.TypeIs (.ref e) "enumerate" := he.ty
  unfold pyNext
  refine wpAny_bind (wpAny_attempt (wpAny_callSpecial?_slot (name := ("__next__" : Str)) ty F.slot_enumerate_next (wpAny_call_entry F.slot_enumerate_next ty F.entry_enumerate_next ?_ (F.args_enumerate_next_1 _))))
  exact en_next D he hst lt ne nf hi fun x h' a b c d f g => wpAny_pure (k x h' a b c d f g)
theorem en_end {Q : Option Value → Shared → Prop} {c : Int} (D : Dr prog w A.in1 it fp n P St) (he : EnS s.heap e it c) (hst : St n s.heap) (k : ∀ h', Heap.ExtBut it s.heap h' → Q none { s with heap := h' }) : wpAny (model prog w) A (pyNext (.ref e)) Q E s := by
  have ty : s.TypeIs (.ref e) "enumerate" := he.ty
  obtain ⟨f0, f1, old, hE⟩ : ∃ f0 f1 old, s.heap.get? e = some (enO f0 f1 it c old) := by
    rcases he with ⟨old, z⟩ | ⟨old, T, f, o, z, _⟩
    · exact ⟨_, _, _, z⟩
    · exact ⟨_, _, _, z⟩
  unfold pyNext
  refine wpAny_bind (wpAny_attempt (wpAny_callSpecial?_slot (name := ("__next__" : Str)) ty F.slot_enumerate_next (wpAny_call_entry F.slot_enumerate_next ty F.entry_enumerate_next ?_ (F.args_enumerate_next_1 _))))
  unfold Builtin.«enumerate.__next__»
  refine wpAny_bind (wpAny_of_eq (a := ((Value.ref e : Value), ([] : List Value))) (by rfl) ?_)
  refine wpAny_bind (wpAny_field hE rfl (x := .ref it) rfl ?_)
  refine wpAny_bind (D.dn s _ _ hst fun h' x eb hx => ?_)
  obtain ⟨o, ho, hc⟩ := hx
  exact wpAny_bind (wpAny_isInstance (T := "StopIteration") (b := true) ⟨o, ho, hc⟩ isSubtype_stop (wpAny_pure (k _ eb)))
abbrev lstO (acc : Array Value) (c : Nat) : Obj := { cls := .type "list", dict := none, data := .seq acc c, slots := #[] }
/-- the tuples laid so far -/
def Laid (P : Nat → Value → Prop) (b0 m : Nat) (h : Heap) : Prop := ∀ j, j < m → ∃ t x, h.get? (b0 + j) = some (tupO j t x) ∧ P j x
def refsR (b0 m : Nat) : List Value := (List.range m).map fun j => .ref (b0 + j)
theorem refsR_succ (b0 m : Nat) : refsR b0 (m + 1) = refsR b0 m ++ [.ref (b0 + m)] := by simp [refsR, List.range_succ]
theorem en_loop {R : Result → Shared → Prop} {S : Addr} {b0 : Nat} {h₁ : Heap} {res : Value} (D : Dr prog w A.in1.in1 it fp n P St) (ne : e ≠ it) (nf : e ∉ fp) (Sf : S ∉ fp) (Se : S ≠ e) (Si : S ≠ it) (hn : n ≤ sizeLine) (lS : S < b0) (li : it < b0) (le : e < b0)
    (hR : ∀ h' tk c, (∀ b o, b ≠ S → b ≠ e → b ≠ it → h₁.get? b = some o → h'.get? b = some o) → h'.get? S = some (lstO (refsR b0 n).toArray c) → Laid P b0 n h' → R (.ok (.ret res)) { s with heap := h', toks := tk }) :
    ∀ (k i : Nat) (h : Heap) (tk c : Nat), n - i = k → i ≤ n → EnS h e it i → St i h → h.objs.size = b0 + i → (∀ b o, b ≠ S → b ≠ e → b ≠ it → h₁.get? b = some o → h.get? b = some o) → h.get? S = some (lstO (refsR b0 i).toArray c) → Laid P b0 i h →
      codeAny (model prog w) A (.builtin "list.extend.loop" ⟨[.ref S, .ref e, res], []⟩) R { s with heap := h, toks := tk } := by
  have nS : ∀ j : Nat, (b0 + j : Nat) ≠ S := fun j => Nat.ne_of_gt (Nat.lt_of_lt_of_le lS (Nat.le_add_right _ _))
  have nE : ∀ j : Nat, (b0 + j : Nat) ≠ e := fun j => Nat.ne_of_gt (Nat.lt_of_lt_of_le le (Nat.le_add_right _ _))
  have nI : ∀ j : Nat, (b0 + j : Nat) ≠ it := fun j => Nat.ne_of_gt (Nat.lt_of_lt_of_le li (Nat.le_add_right _ _))
  intro k
  induction k with
  | zero =>
    intro i h tk c hk hi he st sz kp hS la
    have : i = n := by omega
    subst this
    refine codeAny_builtin PySem.F.entry_extend_loop ?_
    rw [Around.under_plainId PySem.F.plain_extend_loop _]
    unfold Builtin.«list.extend.loop»
    refine wpAny_bind (en_end (s := { s with heap := h, toks := tk }) D he st fun h' eb => wpAny_pure (hR h' tk c (fun b o x1 x2 x3 z => eb b o x3 (kp b o x1 x2 x3 z)) (eb S _ Si hS) fun j hj => ?_))
    obtain ⟨t, x, z, p⟩ := la j hj
    exact ⟨t, x, eb _ _ (nI j) z, p⟩
  | succ k ih =>
    intro i h tk c hk hi he st sz kp hS la
    have lt : i < n := by omega
    refine codeAny_builtin PySem.F.entry_extend_loop ?_
    rw [Around.under_plainId PySem.F.plain_extend_loop _]
    unfold Builtin.«list.extend.loop»
    refine wpAny_bind (en_item (s := { s with heap := h, toks := tk }) D he st lt ne nf (by show it < h.objs.size; rw [sz]; exact Nat.lt_of_lt_of_le li (Nat.le_add_right _ _)) fun x h' px he' st' T' z' k' => ?_)
    have T2 : h'.get? (b0 + i) = some (tupO i tk x) := by rw [← sz]; exact T'
    have z2 : h'.objs.size = b0 + i + 1 := by rw [z']; show h.objs.size + 1 = _; rw [sz]
    have S2 := k' S _ Se Si hS
    have up : Heap.SameBut S h' (h'.update S (Obj.mapSeq (·.push (.ref (b0 + i))))) := Heap.SameBut.update ..
    have S3 := Heap.get?_update_self (Obj.mapSeq (·.push (Value.ref (b0 + i)))) S2 rfl
    have szr : (refsR b0 i).toArray.size = i := by simp [refsR]
    show wpAny _ A.in1 (updateSeq S (·.push (.ref h.objs.size)) >>= fun _ => _) _ _ _
    rw [sz]
    refine wpAny_bind (wpAny_updateSeq S2 rfl (wpAny_pure ⟨plainId_quiet PySem.F.plain_extend_loop _, ih (i + 1) _ _ (if ((refsR b0 i).toArray.push (Value.ref (b0 + i))).size == (refsR b0 i).toArray.size then c else c + 1) (by omega) lt ?_ ?_ ?_ ?_ ?_ ?_⟩) (by rw [szr]; omega) (by show ((refsR b0 i).toArray.push _).size ≤ sizeLine + 1; rw [Array.size_push, szr]; omega))
    · rcases he' with ⟨old, z⟩ | ⟨old, T, f, o, z, y1, y2, y3, y4⟩
      · exact .inl ⟨old, up.extBut _ _ (Ne.symm Se) z⟩
      · refine .inr ⟨old, T, f, o, up.extBut _ _ (Ne.symm Se) z, up.extBut _ _ (fun q => ?_) y1, y2, y3, y4⟩
        rw [q, S2] at y1
        cases y1
        exact absurd y4 (by show ¬ Value.type "list" = Value.type "tuple"; decide)
    · exact D.fr _ _ _ st' fun b hb o z => up.extBut _ _ (fun q => Sf (q ▸ hb)) z
    · rw [up.1, z2]; omega
    · exact fun b o x1 x2 x3 z => up.extBut b o x1 (k' b o x2 x3 (kp b o x1 x2 x3 z))
    · have : (refsR b0 (i + 1)).toArray = (refsR b0 i).toArray.push (.ref (b0 + i)) := by rw [refsR_succ]; simp
      rw [this]; exact S3
    · intro j hj
      by_cases q : j = i
      · subst q
        exact ⟨tk, x, up.extBut _ _ (nS _) T2, px⟩
      · obtain ⟨t, y, z, p⟩ := la j (by omega)
        exact ⟨t, y, up.extBut _ _ (nS _) (k' _ _ (nE _) (nI _) z), p⟩
end
end RS
namespace RS
open PySem PySem.Spec
abbrev en0 (it : Addr) : Obj := { cls := .type "enumerate", data := .fields #[.none, .bool false, .ref it, rawInt 0, .none, .none] }
theorem enew_meets {v : Value} {o : Obj} {H : Heap → Prop} (B : Begins v o H) :
    Meets (Builtin.«enumerate.__new__» ⟨[.type "enumerate", v], []⟩) (fun _ R s => H s.heap ∧ R (.ok (.ret (.ref (s.heap.push o).objs.size))) { s with heap := (s.heap.push o).push (en0 s.heap.objs.size) }) :=
  .of_wp fun prog w A R s h => by
    obtain ⟨hp, g, d, tk, os⟩ := s
    obtain ⟨h1, h⟩ := h
    have sub := sub_enumerate
    have go : ∀ {A' : Around} {E : Value → Shared → Prop} {Q : Value → Shared → Prop}, Q (.ref hp.objs.size) ⟨hp.push o, g, d, tk, os⟩ → wpAny (model prog w) A' (pyIter v) Q E ⟨hp, g, d, tk, os⟩ := fun q => B.iter prog w _ _ ⟨hp, g, d, tk, os⟩ _ h1 q
    wp_walk using go
    refine wpAny_stack_any fun st => wpAny_pure ?_
    split
    · rename_i c _ _ _ _ _
      cases (c == Value.type "enumerate")
      · wp_walk using go
        exact ⟨_, rfl, h⟩
      · wp_walk using go
        exact ⟨_, rfl, h⟩
    · wp_walk using go
      exact ⟨_, rfl, h⟩
section
variable {prog : Program} {w : World} {A : Around} {E : Value → Shared → Prop} {s : Shared}
theorem call_enumB {v : Value} {o : Obj} {H : Heap → Prop} {Q : Value → Shared → Prop} (B : Begins v o H) (h1 : H s.heap)
    (k : ∀ h', h'.get? (s.heap.objs.size + 1) = some (enO .none (.bool false) s.heap.objs.size (0 : Nat) .none) → h'.get? s.heap.objs.size = some o → h'.objs.size = s.heap.objs.size + 2 → (∀ b o, s.heap.get? b = some o → h'.get? b = some o) → Q (.ref (s.heap.objs.size + 1)) { s with heap := h' }) :
    wpAny (model prog w) A (call (.type "enumerate") [v]) Q E s := by
  refine callType_new F.called_enumerate (by decide) (F.typeCall_enumerate_1 _) (F.newCall_enumerate_1 _) (fun obj => F.args_object_init_2 obj _) F.entry_enumerate_new (enew_meets B) ⟨h1, ?_⟩
  have z : (s.heap.push o).objs.size = s.heap.objs.size + 1 := Heap.size_push ..
  show _ ∧ _
  rw [z]
  have he : ((s.heap.push o).push (en0 s.heap.objs.size)).get? (s.heap.objs.size + 1) = some (en0 s.heap.objs.size) := by
    have y := Heap.get?_push_size (s.heap.push o) (o := en0 s.heap.objs.size) rfl
    rw [z] at y
    exact y
  exact ⟨⟨_, he, rfl⟩, k _ he (Heap.get?_push_of_some _ (Heap.get?_push_size _ B.free)) (by rw [Heap.size_push, z]) fun b o x => Heap.get?_push_of_some _ (Heap.get?_push_of_some _ x)⟩
theorem en_no_len : typeLookup (.type "enumerate") "__len__" = pure none := am_miss_of_fast (by decide +kernel)
theorem en_no_hint : typeLookup (.type "enumerate") "__length_hint__" = pure none := am_miss_of_fast (by decide +kernel)
variable {e it : Addr} {fp : List Addr} {n : Nat} {P : Nat → Value → Prop} {St : Nat → Heap → Prop}
/-- list(e), e an enumerate that has not begun -/
theorem list_enum {Q : Value → Shared → Prop} (D : Dr prog w A.in1.in1.in1 it fp n P St) {old0 : Value} (he0 : s.heap.get? e = some (enO .none (.bool false) it (0 : Nat) old0)) (st : St 0 s.heap) (ne : e ≠ it) (nf : e ∉ fp) (hn : n ≤ sizeLine) (li : it < s.heap.objs.size) (lf : ∀ b ∈ fp, b < s.heap.objs.size)
    (k : ∀ h' tk c, (∀ b o, b ≠ e → b ≠ it → s.heap.get? b = some o → h'.get? b = some o) → h'.get? s.heap.objs.size = some (lstO (refsR (s.heap.objs.size + 1) n).toArray c) → Laid P (s.heap.objs.size + 1) n h' → Q (.ref s.heap.objs.size) { s with heap := h', toks := tk }) :
    wpAny (model prog w) A (call (.type "list") [.ref e]) Q E s := by
  have he : EnS s.heap e it (0 : Nat) := .inl ⟨_, he0⟩
  have le : e < s.heap.objs.size := Heap.lt_size he0
  refine callType_codes (Q₁ := fun obj z => obj = .ref s.heap.objs.size ∧ z = { s with heap := s.heap.push { cls := .type "list", data := .seq #[] } }) F.called_list (F.typeCall_list_1 _) F.entry_list_init (code_list_new _ ⟨rfl, rfl⟩) fun obj z hz => ?_
  obtain ⟨rfl, rfl⟩ := hz
  have hS : (s.heap.push (lstO #[] 0)).get? s.heap.objs.size = some (lstO #[] 0) := Heap.get?_push_size _ rfl
  have Se : s.heap.objs.size ≠ e := Nat.ne_of_gt le
  have Si : s.heap.objs.size ≠ it := Nat.ne_of_gt li
  have Sf : s.heap.objs.size ∉ fp := fun hm => Nat.lt_irrefl _ (lf _ hm)
  refine ⟨⟨_, hS, rfl⟩, F.args_list_init_2 _ _, ?_⟩
  have kp : ∀ (h : Heap), Heap.SameBut s.heap.objs.size (s.heap.push (lstO #[] 0)) h → EnS h e it (0 : Nat) ∧ St 0 h ∧ h.objs.size = s.heap.objs.size + 1 + 0 ∧ ∀ b o, b ≠ s.heap.objs.size → b ≠ e → b ≠ it → s.heap.get? b = some o → h.get? b = some o := fun h m => by
    have kk : ∀ b o, b ≠ s.heap.objs.size → s.heap.get? b = some o → h.get? b = some o := fun b o x z => m.extBut b o x (Heap.get?_push_of_some _ z)
    refine ⟨?_, D.fr _ _ _ st fun b hb o z => kk b o (fun q => Sf (q ▸ hb)) z, by rw [m.1, Heap.size_push], fun b o x _ _ z => kk b o x z⟩
    rcases he with ⟨old, z⟩ | ⟨old, T, f, o, z, y1, y2, y3, y4⟩
    · exact .inl ⟨old, kk _ _ (Ne.symm Se) z⟩
    · exact .inr ⟨old, T, f, o, kk _ _ (Ne.symm Se) z, kk _ _ (Nat.ne_of_lt (Heap.lt_size y1)) y1, y2, y3, y4⟩
  show wpAny _ A.in1.in1 (do let old ← Builtin.List.listItems (.ref s.heap.objs.size); Builtin.List.listUpdate (.ref s.heap.objs.size) (fun _ => #[]); letGo old.toList.reverse; Builtin.List.listExtendWith (.ref s.heap.objs.size) (.ref e) .none) _ _ _
  refine wpAny_bind ?_
  unfold Builtin.List.listItems
  refine wpAny_bind (wpAny_seqItems hS rfl (wpAny_pure ?_))
  show wpAny _ _ (updateSeq s.heap.objs.size (fun _ => #[]) >>= fun _ => _) _ _ _
  refine wpAny_bind (wpAny_updateSeq hS rfl ?_)
  have hS2 := Heap.get?_update_self (Obj.mapSeq (fun _ => (#[] : Array Value))) hS rfl
  refine wpAny_bind (wpAny_letGo ?_)
  unfold Builtin.List.listExtendWith
  obtain ⟨e2, s2, z2, k2⟩ := kp _ (Heap.SameBut.update ..)
  have ty2 := e2.ty
  refine wpAny_bind (wpAny_typeOf ty2 ?_)
  have h1 : Builtin.List.listSameRef (.ref s.heap.objs.size) (.ref e) = false := by simp [Builtin.List.listSameRef, Se]
  have h2 : (Value.type "enumerate" == Value.type "list") = false := by decide
  have h3 : (Value.type "enumerate" == Value.type "tuple") = false := by decide
  simp only [h1, h2, h3, Bool.or_false, Bool.false_eq_true, if_false]
  have e3 : ((s.heap.push (lstO #[] 0)).update s.heap.objs.size (Obj.mapSeq (fun _ => (#[] : Array Value)))).get? e = some (enO .none (.bool false) it (0 : Nat) old0) := (Heap.get?_update_other _ _ Se).trans (Heap.get?_push_of_some _ he0)
  refine wpAny_bind (wpAny_pyIter_enum e3 ?_)
  refine wpAny_bind (wpAny_holding ?_)
  unfold Builtin.List.listLengthHint
  refine wpAny_bind (wpAny_specialOf ty2 en_no_len ?_)
  show wpAny _ _ (specialOf (Value.ref e) (Str.ofString "__length_hint__") >>= _) _ _ _
  refine wpAny_bind (wpAny_specialOf ty2 en_no_hint ?_)
  refine wpAny_pure ?_
  rw [if_pos (by rfl)]
  refine wpAny_bind (wpAny_rule ?_)
  show wpAny _ _ ((updateSeq s.heap.objs.size (·.push .none) >>= fun _ => updateSeq s.heap.objs.size (·.pop)) >>= fun _ => _) _ _ _
  refine wpAny_bind (wpAny_bind (wpAny_updateSeq hS2 rfl ?_))
  have hS3 := Heap.get?_update_self (Obj.mapSeq (·.push Value.none)) hS2 rfl
  refine wpAny_updateSeq (hz := by seq_fits) hS3 rfl ?_
  have hS4 := Heap.get?_update_self (Obj.mapSeq (·.pop)) hS3 rfl
  refine wpAny_pure ⟨plainId_quiet PySem.F.plain_extend_loop _, ?_⟩
  have m : Heap.SameBut s.heap.objs.size (s.heap.push (lstO #[] 0)) ((((s.heap.push (lstO #[] 0)).update s.heap.objs.size (Obj.mapSeq (fun _ => (#[] : Array Value)))).update s.heap.objs.size (Obj.mapSeq (·.push Value.none))).update s.heap.objs.size (Obj.mapSeq (·.pop))) := by
    have a1 : Heap.SameBut s.heap.objs.size _ _ := Heap.SameBut.update (h := s.heap.push (lstO #[] 0)) (a := s.heap.objs.size) (f := Obj.mapSeq (fun _ => (#[] : Array Value)))
    have a2 : Heap.SameBut s.heap.objs.size _ _ := Heap.SameBut.update (h := (s.heap.push (lstO #[] 0)).update s.heap.objs.size (Obj.mapSeq (fun _ => (#[] : Array Value)))) (a := s.heap.objs.size) (f := Obj.mapSeq (·.push Value.none))
    have a3 : Heap.SameBut s.heap.objs.size _ _ := Heap.SameBut.update (h := ((s.heap.push (lstO #[] 0)).update s.heap.objs.size (Obj.mapSeq (fun _ => (#[] : Array Value)))).update s.heap.objs.size (Obj.mapSeq (·.push Value.none))) (a := s.heap.objs.size) (f := Obj.mapSeq (·.pop))
    exact ⟨a3.1.trans (a2.1.trans a1.1), fun b hb => (a3.2 b hb).trans ((a2.2 b hb).trans (a1.2 b hb))⟩
  obtain ⟨e5, s5, z5, k5⟩ := kp _ m
  exact en_loop (s := s) (h₁ := s.heap) (A := A.in1) D ne nf Sf Se Si hn (Nat.lt_succ_self _) (Nat.lt_succ_of_lt li) (Nat.lt_succ_of_lt le) (fun h' tk c y1 y2 y3 => ⟨rfl, k h' tk c (fun b o x1 x2 z => y1 b o (Nat.ne_of_lt (Heap.lt_size z)) x1 x2 z) y2 y3⟩) n 0 _ s.toks _ (Nat.sub_zero _) (Nat.zero_le _) e5 s5 z5 k5 hS4 fun j hj => absurd hj (Nat.not_lt_zero _)
end
end RS
namespace RS
open PySem PySem.Spec L2 PyProof.Rows
/-- the list at S and the pairs behind it, tracked -/
def enH (H : Hp) (S : Addr) (b0 : Nat) (xs : List V) : Hp := fun b =>
  if b = S then some (.lst ((List.range xs.length).map fun j => V.ref (b0 + j)))
  else if b0 ≤ b then (match xs[b - b0]? with | some x => some (.tup [.int ((b - b0 : Nat) : Int), x]) | none => H b) else H b
theorem enH_S {H : Hp} {S : Addr} {b0 : Nat} {xs : List V} : enH H S b0 xs S = some (.lst ((List.range xs.length).map fun j => V.ref (b0 + j))) := by simp [enH]
theorem enH_at {H : Hp} {S : Addr} {b0 : Nat} {xs : List V} {j : Nat} {x : V} (hS : S < b0) (h : xs[j]? = some x) : enH H S b0 xs (b0 + j) = some (.tup [.int (j : Nat), x]) := by
  unfold enH
  rw [if_neg (Nat.ne_of_gt (Nat.lt_of_lt_of_le hS (Nat.le_add_right _ _))), if_pos (Nat.le_add_right _ _)]
  have e : b0 + j - b0 = j := by omega
  rw [e, h]
theorem enH_lo {H : Hp} {S : Addr} {b0 : Nat} {xs : List V} {b : Addr} (h1 : b ≠ S) (h2 : b < b0) : enH H S b0 xs b = H b := by
  unfold enH
  rw [if_neg h1, if_neg (Nat.not_le.mpr h2)]
/-- list(enumerate(x)) -/
def tListEnum (K : PySem.W.Frag) (ta : TA) : TE := fun σ H Q => ta σ H fun vs H1 => ∃ a xs, vs = [.ref a] ∧ (SqL K H1 a xs ∨ SqT K H1 a xs) ∧
  ∀ (p : Addr) (ts : List Addr) (H' : Hp), Same H1 H' → H1 p = none → H' p = some (.lst (ts.map V.ref)) → ts.length = xs.length → (∀ (j : Nat) (x : V), xs[j]? = some x → ∃ t, ts[j]? = some t ∧ H1 t = none ∧ H' t = some (.tup [.int (j : Nat), x])) → Q (.ref p) H'
section
variable {X : Cx} {K : PySem.W.Frag} {e : Expr} {ta : TA} {p p2 pos pos2 : Pos}
theorem en_laid {pins : List (Addr × Obj)} {σ : L2.St} {H : Hp} {s : Shared} {Q : VK} {h' : Heap} {tk c : Nat} {xs : List V} {its : List Value} {q : Nat} (I : Inv X pins σ H s) (r : Vals xs its) (hz : xs.length ≤ sizeLine) (lo : s.heap.objs.size ≤ q)
    (kp : ∀ b o, s.heap.get? b = some o → h'.get? b = some o) (hS : h'.get? q = some (lstO (refsR (q + 1) its.toArray.size).toArray c)) (la : Laid (fun i v => its.toArray[i]? = some v) (q + 1) its.toArray.size h')
    (k : ∀ (p : Addr) (ts : List Addr) (H' : Hp), Same H H' → H p = none → H' p = some (.lst (ts.map V.ref)) → ts.length = xs.length → (∀ (j : Nat) (x : V), xs[j]? = some x → ∃ t, ts[j]? = some t ∧ H t = none ∧ H' t = some (.tup [.int (j : Nat), x])) → Q (.ref p) H') :
    EP X pins σ Q (.ref q) { s with heap := h', toks := tk } := by
  have ln := r.length
  have fr : ∀ b : Nat, s.heap.objs.size ≤ b → H b = none := fun b hb => I.hok.fresh hb
  have lt : ∀ b o, H b = some o → b < q := fun b o z => by
    rcases Nat.lt_or_ge b s.heap.objs.size with y | y
    · exact Nat.lt_of_lt_of_le y lo
    · rw [fr b y] at z; cases z
  have ltH : ∀ b o, s.heap.get? b = some o → b < q := fun b o z => Nat.lt_of_lt_of_le (Heap.lt_size z) lo
  have sm : Same H (enH H q (q + 1) xs) := fun b o z => by rw [enH_lo (Nat.ne_of_lt (lt b o z)) (Nat.lt_succ_of_lt (lt b o z))]; exact z
  have szits : its.toArray.size = xs.length := by simp; omega
  have J : Inv X pins σ (enH H q (q + 1) xs) { s with heap := h', toks := tk } := by
    have U : Un X.fs [] H (enH H q (q + 1) xs) s.heap h' := {
      keep := fun b o z _ _ _ => kp b o z
      slot := fun b o z _ _ _ => ⟨o.slots, kp b o z⟩
      free := fun b o z n _ => by rw [enH_lo (Nat.ne_of_lt (ltH b o z)) (Nat.lt_succ_of_lt (ltH b o z))]; exact n
      there := fun b o z _ => ⟨o, kp b o z⟩
      tups := fun b ys z => sm _ _ z
      frzs := fun b o v z => sm _ _ z
      tbls := fun b ps z => ⟨#[], by rw [sm _ _ z]; simp⟩ }
    refine I.un (t' := tk) U fun b z hb => ?_
    by_cases h1 : b = q
    · subst h1
      rw [enH_S] at hb
      cases hb
      refine ⟨by rw [List.length_map, List.length_range]; exact hz, refsR (b + 1) its.toArray.size, c, ?_, hS⟩
      rw [szits]
      show Vals _ ((List.range xs.length).map _)
      generalize List.range xs.length = l
      induction l with
      | nil => exact .nil
      | cons a l ih => exact .cons rfl ih
    · by_cases h2 : q + 1 ≤ b
      · obtain ⟨j, rfl⟩ : ∃ j, b = q + 1 + j := ⟨b - (q + 1), (Nat.add_sub_cancel' h2).symm⟩
        cases hx : xs[j]? with
        | none =>
          unfold enH at hb
          rw [if_neg h1, if_pos h2] at hb
          have ej : q + 1 + j - (q + 1) = j := by omega
          rw [ej, hx] at hb
          rw [fr _ (by omega)] at hb
          cases hb
        | some x =>
          rw [enH_at (Nat.lt_succ_self _) hx] at hb
          cases hb
          have jl : j < xs.length := (List.getElem?_eq_some_iff.mp hx).1
          obtain ⟨t, u, hT, pu⟩ := la j (by rw [szits]; exact jl)
          obtain ⟨u', hu', ru⟩ := r.get hx
          have : u = u' := by simp only [List.getElem?_toArray] at pu; rw [hu'] at pu; exact (Option.some.inj pu).symm
          subst this
          exact ⟨by show 2 ≤ sizeLine; decide, [.int (j : Nat) t, u], .cons ⟨_, rfl⟩ (.cons ru .nil), ⟨_, hT, rfl, _, rfl⟩⟩
      · rw [enH_lo h1 (Nat.lt_of_not_le h2)] at hb
        exact (I.hok b z hb).stay (fun y v _ w' => kp y v w') (fun y hy => sm _ _ hy) fun y ys hy => sm _ _ hy
  refine ⟨.ref q, _, J, rfl, k q ((List.range xs.length).map fun j => q + 1 + j) _ sm (fr q lo) ?_ (by simp) fun j x hx => ?_⟩
  · rw [enH_S, List.map_map]; rfl
  · have jl : j < xs.length := (List.getElem?_eq_some_iff.mp hx).1
    exact ⟨q + 1 + j, by simp [jl], fr _ (by omega), enH_at (Nat.lt_succ_self _) hx⟩
theorem pe_listEnum (hm : X.mg "list" = none) (hm2 : X.mg "enumerate" = none) (ha : PA X [e] ta) (hc : X.calm = true := by rfl) (hg : Gl X "list" := by rfl) (hg2 : Gl X "enumerate" := by rfl) (hs2 : starEach [e] X.env = [(false, eval e X.env)] := by rfl)
    (hs : starEach [.Call (.Name "enumerate" p2) [e] [] pos2] X.env = (false, eval (.Call (.Name "enumerate" p2) [e] [] pos2) X.env) :: starEach [] X.env := by rfl) (hK : X.K = K := by rfl) :
    PE X (.Call (.Name "list" p) [.Call (.Name "enumerate" p2) [e] [] pos2] [] pos) (tListEnum K ta) := by
  subst hK
  refine ⟨fun pins s σ H Q I hq => ?_⟩
  refine wpAny_Call_Name_kw (ld_blt I hg hm bb_list ?_)
  refine PyProof.Rows.callWith_type1 ?_ hs rfl
  rw [hs]
  refine Calls.spliced_cons ?_
  refine Call_ (ld_blt I hg2 hm2 boot_enumerate (PyProof.Rows.callWith_type1 (thn (ha.run pos2 pins s σ H _ I hq) fun us s1 ⟨vs, H1, I1, r1, q1⟩ => ?_) hs2 rfl))
  obtain ⟨a, xs, rfl, hx, k⟩ := q1
  obtain ⟨u, rfl, ru⟩ := vals1 r1
  cases ru
  rcases hx with hx | hx
  · obtain ⟨its, rv, pl, hz⟩ := I1.list hx
    have hl := pl.isList
    have la : a < s1.heap.objs.size := by obtain ⟨o, z, _⟩ := hl; exact Heap.lt_size z
    refine call_enumB (begins_list a its.toArray) hl fun h' he hi z kp => Calls.spliced_nil ?_
    have al : a ≠ s1.heap.objs.size := Nat.ne_of_lt la
    refine list_enum (s := { s1 with heap := h' }) (dr_list (A := X.A.in1.in1.in1) (I.ok.hd hc) s1.heap.objs.size a al its.toArray) he ⟨⟨_, hi, rfl, rfl⟩, hl.at fun o x => kp _ _ x⟩ (Nat.succ_ne_self _) ?_ (by simp; have := rv.length; omega) ?_ ?_ fun h'' tk c kp2 hS la2 => ?_
    · simp only [List.mem_cons, List.not_mem_nil, or_false, not_or]
      exact ⟨Nat.succ_ne_self _, Nat.ne_of_gt (Nat.lt_succ_of_lt la)⟩
    · show s1.heap.objs.size < h'.objs.size; rw [z]; omega
    · intro b hb
      simp only [List.mem_cons, List.not_mem_nil, or_false] at hb
      show b < h'.objs.size
      rw [z]
      rcases hb with rfl | rfl
      · exact Nat.lt_succ_of_lt (Nat.lt_succ_self _)
      · exact Nat.lt_succ_of_lt (Nat.lt_succ_of_lt la)
    · have z' : h'.objs.size = s1.heap.objs.size + 2 := z
      exact en_laid (s := s1) (h' := h'') (tk := tk) (c := c) (q := h'.objs.size) I1 rv hz (by rw [z']; omega) (fun b o y => kp2 b o (Nat.ne_of_lt (Nat.lt_succ_of_lt (Heap.lt_size y))) (Nat.ne_of_lt (Heap.lt_size y)) (kp b o y)) hS la2 k
  · obtain ⟨its, rv, pl, hz⟩ := I1.tuple hx
    have hl : s1.heap.IsTuple a its.toArray := pl
    have la : a < s1.heap.objs.size := by obtain ⟨o, z, _⟩ := hl; exact Heap.lt_size z
    refine call_enumB (begins_tuple a its.toArray) hl fun h' he hi z kp => Calls.spliced_nil ?_
    have al : a ≠ s1.heap.objs.size := Nat.ne_of_lt la
    refine list_enum (s := { s1 with heap := h' }) (dr_tup (A := X.A.in1.in1.in1) (I.ok.hd hc) s1.heap.objs.size a al its.toArray) he ⟨⟨_, hi, rfl, rfl⟩, hl.at fun o x => kp _ _ x⟩ (Nat.succ_ne_self _) ?_ (by simp; have := rv.length; omega) ?_ ?_ fun h'' tk c kp2 hS la2 => ?_
    · simp only [List.mem_cons, List.not_mem_nil, or_false, not_or]
      exact ⟨Nat.succ_ne_self _, Nat.ne_of_gt (Nat.lt_succ_of_lt la)⟩
    · show s1.heap.objs.size < h'.objs.size; rw [z]; omega
    · intro b hb
      simp only [List.mem_cons, List.not_mem_nil, or_false] at hb
      show b < h'.objs.size
      rw [z]
      rcases hb with rfl | rfl
      · exact Nat.lt_succ_of_lt (Nat.lt_succ_self _)
      · exact Nat.lt_succ_of_lt (Nat.lt_succ_of_lt la)
    · have z' : h'.objs.size = s1.heap.objs.size + 2 := z
      exact en_laid (s := s1) (h' := h'') (tk := tk) (c := c) (q := h'.objs.size) I1 rv hz (by rw [z']; omega) (fun b o y => kp2 b o (Nat.ne_of_lt (Nat.lt_succ_of_lt (Heap.lt_size y))) (Nat.ne_of_lt (Heap.lt_size y)) (kp b o y)) hS la2 k
end
end RS
namespace RS
open PySem PySem.Spec L2
mutual
inductive Tr (H : Hp) : V → PyData → List Addr → Prop
  | non : Tr H .non .none []
  | bl (b : Bool) : Tr H (.bl b) (.bool b) []
  | int (i : Int) : Tr H (.int i) (.int i) []
  | str (x : Str) : Tr H (.str x) (.str x) []
  | lst {a : Addr} {xs : List V} {ds : List PyData} {fp : List Addr} (h : H a = some (.lst xs)) (hs : TrL H xs ds fp) (na : a ∉ fp) : Tr H (.ref a) (.list ds) (a :: fp)
  | tup {a : Addr} {xs : List V} {ds : List PyData} {fp : List Addr} (h : H a = some (.tup xs)) (hs : TrL H xs ds fp) : Tr H (.ref a) (.tuple ds) fp
  | dct {a : Addr} {kvs : List (Key × V)} {D : List (PyData × PyData)} {fp : List Addr} (h : H a = some (.dK kvs)) (hs : TrD H kvs D fp) (na : a ∉ fp) (nd : (kvs.map (·.1)).Nodup) : Tr H (.ref a) (.dict D) (a :: fp)
inductive TrL (H : Hp) : List V → List PyData → List Addr → Prop
  | nil : TrL H [] [] []
  | cons {v : V} {vs : List V} {d : PyData} {ds : List PyData} {f1 f2 : List Addr} (h : Tr H v d f1) (hs : TrL H vs ds f2) : TrL H (v :: vs) (d :: ds) (f1 ++ f2)
inductive TrD (H : Hp) : List (Key × V) → List (PyData × PyData) → List Addr → Prop
  | nil : TrD H [] [] []
  | cons {x : Str} {v : V} {kvs : List (Key × V)} {d : PyData} {D : List (PyData × PyData)} {f1 f2 : List Addr} (h : Tr H v d f1) (hs : TrD H kvs D f2) : TrD H ((.inr x, v) :: kvs) ((.str x, d) :: D) (f1 ++ f2)
end
mutual
theorem Tr.keep {H H' : Hp} {S : Addr → Prop} (hS : ∀ c, S c → ∀ xs, H c ≠ some (.tup xs)) (hk : ∀ c o, ¬ S c → H c = some o → H' c = some o) : ∀ {v : V} {d : PyData} {fp : List Addr}, Tr H v d fp → (∀ c ∈ fp, ¬ S c) → Tr H' v d fp
  | _, _, _, .non, _ => .non
  | _, _, _, .bl b, _ => .bl b
  | _, _, _, .int i, _ => .int i
  | _, _, _, .str x, _ => .str x
  | _, _, _, .lst h hs na, f => .lst (hk _ _ (f _ (List.mem_cons_self ..)) h) (hs.keep hS hk fun c hc => f c (List.mem_cons_of_mem _ hc)) na
  | _, _, _, .tup h hs, f => .tup (hk _ _ (fun z => hS _ z _ h) h) (hs.keep hS hk f)
  | _, _, _, .dct h hs na nd, f => .dct (hk _ _ (f _ (List.mem_cons_self ..)) h) (hs.keep hS hk fun c hc => f c (List.mem_cons_of_mem _ hc)) na nd
theorem TrL.keep {H H' : Hp} {S : Addr → Prop} (hS : ∀ c, S c → ∀ xs, H c ≠ some (.tup xs)) (hk : ∀ c o, ¬ S c → H c = some o → H' c = some o) : ∀ {vs : List V} {ds : List PyData} {fp : List Addr}, TrL H vs ds fp → (∀ c ∈ fp, ¬ S c) → TrL H' vs ds fp
  | _, _, _, .nil, _ => .nil
  | _, _, _, .cons h hs, f => .cons (h.keep hS hk fun c hc => f c (List.mem_append_left _ hc)) (hs.keep hS hk fun c hc => f c (List.mem_append_right _ hc))
theorem TrD.keep {H H' : Hp} {S : Addr → Prop} (hS : ∀ c, S c → ∀ xs, H c ≠ some (.tup xs)) (hk : ∀ c o, ¬ S c → H c = some o → H' c = some o) : ∀ {kvs : List (Key × V)} {D : List (PyData × PyData)} {fp : List Addr}, TrD H kvs D fp → (∀ c ∈ fp, ¬ S c) → TrD H' kvs D fp
  | _, _, _, .nil, _ => .nil
  | _, _, _, .cons h hs, f => .cons (h.keep hS hk fun c hc => f c (List.mem_append_left _ hc)) (hs.keep hS hk fun c hc => f c (List.mem_append_right _ hc))
end
theorem Tr.same {H H' : Hp} (s : Same H H') {v : V} {d : PyData} {fp : List Addr} (h : Tr H v d fp) : Tr H' v d fp := h.keep (S := fun _ => False) (fun _ z => z.elim) (fun c o _ z => s c o z) fun _ _ z => z
theorem TrL.same {H H' : Hp} (s : Same H H') {v : List V} {d : List PyData} {fp : List Addr} (h : TrL H v d fp) : TrL H' v d fp := h.keep (S := fun _ => False) (fun _ z => z.elim) (fun c o _ z => s c o z) fun _ _ z => z
theorem TrD.same {H H' : Hp} (s : Same H H') {v : List (Key × V)} {d : List (PyData × PyData)} {fp : List Addr} (h : TrD H v d fp) : TrD H' v d fp := h.keep (S := fun _ => False) (fun _ z => z.elim) (fun c o _ z => s c o z) fun _ _ z => z
/-- one place alone changes -/
theorem keep_one {H H' : Hp} {p : Addr} (n : ∀ xs, H p ≠ some (.tup xs)) (k : ∀ c o, c ≠ p → H c = some o → H' c = some o) : (∀ c, c = p → ∀ xs, H c ≠ some (.tup xs)) ∧ ∀ c o, ¬ c = p → H c = some o → H' c = some o := ⟨fun c e => by subst e; exact n, k⟩
theorem Tr.but {H H' : Hp} {p : Addr} {v : V} {d : PyData} {fp : List Addr} (h : Tr H v d fp) (n : ∀ xs, H p ≠ some (.tup xs)) (k : ∀ c o, c ≠ p → H c = some o → H' c = some o) (np : p ∉ fp) : Tr H' v d fp :=
  h.keep (S := fun c => c = p) (keep_one n k).1 k fun c hc e => np (e ▸ hc)
theorem TrL.but {H H' : Hp} {p : Addr} {v : List V} {d : List PyData} {fp : List Addr} (h : TrL H v d fp) (n : ∀ xs, H p ≠ some (.tup xs)) (k : ∀ c o, c ≠ p → H c = some o → H' c = some o) (np : p ∉ fp) : TrL H' v d fp :=
  h.keep (S := fun c => c = p) (keep_one n k).1 k fun c hc e => np (e ▸ hc)
theorem TrD.but {H H' : Hp} {p : Addr} {v : List (Key × V)} {d : List (PyData × PyData)} {fp : List Addr} (h : TrD H v d fp) (n : ∀ xs, H p ≠ some (.tup xs)) (k : ∀ c o, c ≠ p → H c = some o → H' c = some o) (np : p ∉ fp) : TrD H' v d fp :=
  h.keep (S := fun c => c = p) (keep_one n k).1 k fun c hc e => np (e ▸ hc)
mutual
theorem Tr.there {H : Hp} : ∀ {v : V} {d : PyData} {fp : List Addr}, Tr H v d fp → ∀ c ∈ fp, (∃ xs, H c = some (.lst xs)) ∨ ∃ kvs, H c = some (.dK kvs)
  | _, _, _, .non, _, h => by cases h
  | _, _, _, .bl _, _, h => by cases h
  | _, _, _, .int _, _, h => by cases h
  | _, _, _, .str _, _, h => by cases h
  | _, _, _, .lst h hs _, c, m => (List.mem_cons.mp m).elim (fun e => .inl ⟨_, e ▸ h⟩) (hs.there c)
  | _, _, _, .tup h hs, c, m => hs.there c m
  | _, _, _, .dct h hs _ _, c, m => (List.mem_cons.mp m).elim (fun e => .inr ⟨_, e ▸ h⟩) (hs.there c)
theorem TrL.there {H : Hp} : ∀ {vs : List V} {ds : List PyData} {fp : List Addr}, TrL H vs ds fp → ∀ c ∈ fp, (∃ xs, H c = some (.lst xs)) ∨ ∃ kvs, H c = some (.dK kvs)
  | _, _, _, .nil, _, h => by cases h
  | _, _, _, .cons h hs, c, m => (List.mem_append.mp m).elim (h.there c) (hs.there c)
theorem TrD.there {H : Hp} : ∀ {kvs : List (Key × V)} {D : List (PyData × PyData)} {fp : List Addr}, TrD H kvs D fp → ∀ c ∈ fp, (∃ xs, H c = some (.lst xs)) ∨ ∃ kvs, H c = some (.dK kvs)
  | _, _, _, .nil, _, h => by cases h
  | _, _, _, .cons h hs, c, m => (List.mem_append.mp m).elim (h.there c) (hs.there c)
end
mutual
theorem Tr.dp {K : PySem.W.Frag} {H : Hp} : ∀ {v : V} {d : PyData} {fp : List Addr}, Tr H v d fp → DpX K H v d
  | _, _, _, .non => .non
  | _, _, _, .bl b => .bl b
  | _, _, _, .int i => .int i
  | _, _, _, .str x => .str x
  | _, _, _, .lst h hs _ => .lst (SqL.of h) hs.dp
  | _, _, _, .tup h hs => .tup (SqT.of h) hs.dp
  | _, _, _, .dct h hs _ _ => .dct h hs.dp
theorem TrL.dp {K : PySem.W.Frag} {H : Hp} : ∀ {vs : List V} {ds : List PyData} {fp : List Addr}, TrL H vs ds fp → DpXs K H vs ds
  | _, _, _, .nil => .nil
  | _, _, _, .cons h hs => .cons h.dp hs.dp
theorem TrD.dp {K : PySem.W.Frag} {H : Hp} : ∀ {kvs : List (Key × V)} {D : List (PyData × PyData)} {fp : List Addr}, TrD H kvs D fp → DpXd K H kvs D
  | _, _, _, .nil => .nil
  | _, _, _, .cons h hs => .cons (k := .inr _) h.dp hs.dp
end
theorem TrL.len {H : Hp} : ∀ {vs : List V} {ds : List PyData} {fp : List Addr}, TrL H vs ds fp → vs.length = ds.length
  | _, _, _, .nil => rfl
  | _, _, _, .cons _ hs => by simp [hs.len]
theorem TrD.len {H : Hp} : ∀ {vs : List (Key × V)} {ds : List (PyData × PyData)} {fp : List Addr}, TrD H vs ds fp → vs.length = ds.length
  | _, _, _, .nil => rfl
  | _, _, _, .cons _ hs => by simp [hs.len]
theorem TrL.get {H : Hp} : ∀ {vs : List V} {ds : List PyData} {fp : List Addr}, TrL H vs ds fp → ∀ {i : Nat}, i < vs.length → ∃ v d f, vs[i]? = some v ∧ ds[i]? = some d ∧ Tr H v d f ∧ ∀ c ∈ f, c ∈ fp
  | _, _, _, .cons h _, 0, _ => ⟨_, _, _, rfl, rfl, h, fun c hc => List.mem_append_left _ hc⟩
  | _, _, _, .cons _ hs, i + 1, l => by
    obtain ⟨v, d, f, h1, h2, h3, h4⟩ := hs.get (i := i) (by simpa using l)
    exact ⟨v, d, f, by simpa using h1, by simpa using h2, h3, fun c hc => List.mem_append_right _ (h4 c hc)⟩
theorem TrD.get {H : Hp} : ∀ {vs : List (Key × V)} {ds : List (PyData × PyData)} {fp : List Addr}, TrD H vs ds fp → ∀ {i : Nat}, i < vs.length → ∃ x v d f, vs[i]? = some (.inr x, v) ∧ ds[i]? = some (.str x, d) ∧ Tr H v d f ∧ ∀ c ∈ f, c ∈ fp
  | _, _, _, .cons h _, 0, _ => ⟨_, _, _, _, rfl, rfl, h, fun c hc => List.mem_append_left _ hc⟩
  | _, _, _, .cons _ hs, i + 1, l => by
    obtain ⟨x, v, d, f, h1, h2, h3, h4⟩ := hs.get (i := i) (by simpa using l)
    exact ⟨x, v, d, f, by simpa using h1, by simpa using h2, h3, fun c hc => List.mem_append_right _ (h4 c hc)⟩
/-- a key's own value -/
theorem valV_at : ∀ {kvs : List (Key × V)} {i : Nat} {k : Key} {v : V}, (kvs.map (·.1)).Nodup → kvs[i]? = some (k, v) → valV kvs k = some v
  | (k', v') :: r, 0, k, v, nd, h => by
    cases h
    rw [vv_cons, if_pos rfl]
  | (k', v') :: r, i + 1, k, v, nd, h => by
    have h' : r[i]? = some (k, v) := by simpa using h
    have nd' := List.nodup_cons.mp nd
    have ne : k' ≠ k := fun e => nd'.1 (by
      have := List.mem_of_getElem? h'
      rw [e]
      exact List.mem_map.mpr ⟨_, this, rfl⟩)
    rw [vv_cons, if_neg ne]
    exact valV_at nd'.2 h'
  | [], _, _, _, _, h => by simp at h
theorem depth_all {ds : List PyData} : ∀ {d : PyData} {i : Nat}, ds[i]? = some d → d.depth ≤ PyData.depthAll ds := by
  induction ds with
  | nil => intro d i h; simp at h
  | cons x xs ih =>
    intro d i h
    cases i with
    | zero => cases h; simp only [PyData.depthAll]; omega
    | succ i => have := ih (by simpa using h); simp only [PyData.depthAll]; omega
theorem depth_kv {D : List (PyData × PyData)} : ∀ {k d : PyData} {i : Nat}, D[i]? = some (k, d) → d.depth ≤ PyData.depthKv D := by
  induction D with
  | nil => intro k d i h; simp at h
  | cons x xs ih =>
    obtain ⟨x1, x2⟩ := x
    intro k d i h
    cases i with
    | zero => cases h; simp only [PyData.depthKv]; omega
    | succ i => have := ih (by simpa using h); simp only [PyData.depthKv]; omega
end RS
namespace RS
open PySem PySem.Spec L2
section
variable {X : Cx}
def rIsT (Ts : List String) : List V → Hp → VK → Prop := fun xs H Q => match xs with
  | [x, .ref tp] => H tp = some (.tup (Ts.map V.ty)) ∧ ∃ t, tyN x H = some t ∧ Q (.bl (Ts.any (isB t))) H
  | _ => False
theorem clsV_tys : ∀ Ts : List String, Paired ClsV (Ts.map V.ty) (Ts.map Value.type)
  | [] => .nil
  | T :: Ts => .cons (.ty T) (clsV_tys Ts)
theorem kitAny_tys {K : PySem.W.Frag} {t : String} (m : t ∈ ["NoneType", "bool", "int", "str", "list", "tuple", "dict"]) : ∀ {Ts : List String}, (∀ T ∈ Ts, T ∈ ["bool", "int", "str", "list", "tuple", "dict", "float"]) → PySem.W.kitAny K (.type t) (Ts.map Value.type) = some (Ts.any (isB t))
  | [], _ => rfl
  | T :: Ts, h => by
    have e1 : PySem.W.kitOne K (.type t) (.type T) = some (isB t T) := kit_ty (kitB_tab t m T (h T (List.mem_cons_self ..)))
    have e2 := kitAny_tys (K := K) m fun T' hT => h T' (List.mem_cons_of_mem _ hT)
    show PySem.W.kitAny K (.type t) (.type T :: Ts.map Value.type) = _
    unfold PySem.W.kitAny
    rw [e1]
    cases hb : isB t T with
    | true => simp [hb]
    | false => simp only [List.any_cons, hb, Bool.false_or]; exact e2
theorem c_isT (Ts : List String) (hT : ∀ T ∈ Ts, T ∈ ["bool", "int", "str", "list", "tuple", "dict", "float"] := by decide) : CallR X (.builtin "isinstance") (rIsT Ts) := by
  intro pins s σ H xs us Q I r h
  unfold rIsT at h
  split at h
  · obtain ⟨h1, t, ht, q⟩ := h
    obtain ⟨ty, m⟩ := tyN_tyX (K := X.K) ht
    exact call_isiT pins s σ H _ us Q I r ⟨_, _, _, _, _, _, rfl, h1, clsV_tys Ts, ty, kitAny_tys m hT, q⟩
  · exact h.elim
theorem pi_or {tg e : Expr} {w1 w2 : TI} (h1 : PI X tg e w1) (h2 : PI X tg e w2) : PI X tg e (fun σ H R => w1 σ H R ∨ w2 σ H R) :=
  ⟨fun pins s σ H R I h => h.elim (h1.run pins s σ H R I) (h2.run pins s σ H R I)⟩
end
def kindN : PyData → String
  | .none => "NoneType"
  | .bool _ => "bool"
  | .int _ => "int"
  | .str _ => "str"
  | .list _ => "list"
  | .tuple _ => "tuple"
  | .dict _ => "dict"
theorem tyN_l {H : Hp} {a : Addr} {xs : List V} (h : H a = some (.lst xs)) : tyN (.ref a) H = some "list" := by simp [tyN, h]
theorem tyN_t {H : Hp} {a : Addr} {xs : List V} (h : H a = some (.tup xs)) : tyN (.ref a) H = some "tuple" := by simp [tyN, h]
theorem tyN_d {H : Hp} {a : Addr} {xs : List (Key × V)} (h : H a = some (.dK xs)) : tyN (.ref a) H = some "dict" := by simp [tyN, h]
theorem Tr.ty {H : Hp} {v : V} {d : PyData} {fp : List Addr} (h : Tr H v d fp) : tyN v H = some (kindN d) := by
  cases h with
  | non => rfl
  | bl b => rfl
  | int i => rfl
  | str x => rfl
  | lst h _ _ => exact tyN_l h
  | tup h _ => exact tyN_t h
  | dct h _ _ _ => exact tyN_d h
/-- a tree's value is no new place -/
theorem Tr.ne {H : Hp} {a p : Addr} {d : PyData} {fp : List Addr} (h : Tr H (.ref a) d fp) (n : H p = none) : a ≠ p := fun e => by
  cases h with
  | lst h _ _ => rw [e, n] at h; cases h
  | tup h _ => rw [e, n] at h; cases h
  | dct h _ _ _ => rw [e, n] at h; cases h
theorem tyN_same {H H' : Hp} {v : V} {t : String} (s : Same H H') (h : tyN v H = some t) : tyN v H' = some t := by
  cases v with
  | ref a =>
    unfold tyN at h ⊢
    simp only at h ⊢
    split at h <;> first | (cases h; done) | skip
    all_goals (rename_i e; rw [s _ _ e]; exact h)
  | _ => exact h
/-- isinstance(v, (..)): the tuple is laid -/
theorem isT_new {Ts : List String} {H : Hp} {v : V} {t : String} {p : Addr} {Q : VK} (ht : tyN v H = some t) (n : H p = none) (q : Q (.bl (Ts.any (isB t))) (upd H p (.tup (Ts.map V.ty)))) : rIsT Ts [v, .ref p] (upd H p (.tup (Ts.map V.ty))) Q :=
  ⟨upd_same, t, tyN_same (same_upd n) ht, q⟩
theorem lc_inv {J : It} {g : TG} {tt : TT} {te : TE} {vs : List Nat} {σ : L2.St} {H1 : Hp} {Qf : VK} (n : Nat) (Pv : Addr → Nat → List V → Hp → Prop) (hn : n ≤ sizeLine)
    (h0 : ∀ D, H1 D = none → Pv D 0 [] (upd H1 D (.lst []))) (hgo : ∀ D i acc H, H1 D = none → i < n → Pv D i acc H → J.go i H) (hst : ∀ D acc H, H1 D = none → Pv D n acc H → J.stop n H)
    (hs : ∀ D i acc H x H' (K : VK) (K0 : Hp → Prop), H1 D = none → i < n → acc.length ≤ i → Pv D i acc H → H D = some (.lst acc) → J.yld i H x H' → (∀ y H4, H4 D = some (.lst acc) → Pv D (i + 1) (acc ++ [y]) (upd H4 D (.lst (acc ++ [y]))) → K y H4) → (∀ H4, H4 D = some (.lst acc) → Pv D (i + 1) acc H4 → K0 H4) →
      g x (wipe σ vs) H' fun σ2 H2 => wipe σ2 vs = wipe σ vs ∧ tt σ2 H2 fun b H3 => if b = true then te σ2 H3 K else K0 H3)
    (hd : ∀ D acc H, H1 D = none → Pv D n acc H → H D = some (.lst acc) → Qf (.ref D) H) : LcB J g tt te vs σ H1 Qf := by
  intro D hD
  let W : Nat → Hp → Prop := fun i H => ∃ acc, acc.length ≤ i ∧ Pv D i acc H ∧ H D = some (.lst acc)
  refine ⟨fun i m H => m = n - i ∧ i ≤ n ∧ W i H, ⟨n, by omega, Nat.zero_le _, [], Nat.le_refl _, h0 D hD, upd_same⟩, ?_⟩
  rintro i m H ⟨rfl, hi, acc, la, pv, eD⟩
  by_cases lt : i < n
  · refine .inr ⟨hgo D i acc H hD lt pv, W (i + 1), fun H' w => ⟨n - (i + 1), by omega, rfl, lt, w⟩, fun x H' y => ?_⟩
    refine hs D i acc H x H' _ (W (i + 1)) hD lt la pv eD y (fun v H4 e4 p4 => ⟨acc, e4, by omega, acc ++ [v], by simp; omega, p4, upd_same⟩) fun H4 e4 p4 => ⟨acc, by omega, p4, e4⟩
  · have e : i = n := by omega
    subst e
    exact .inl ⟨hst D acc H hD pv, hd D acc H hD pv eD⟩
/-- .. where all are kept -/
theorem lc_invA {J : It} {g : TG} {te : TE} {vs : List Nat} {σ : L2.St} {H1 : Hp} {Qf : VK} (n : Nat) (Pv : Addr → Nat → List V → Hp → Prop) (hn : n ≤ sizeLine)
    (h0 : ∀ D, H1 D = none → Pv D 0 [] (upd H1 D (.lst []))) (hgo : ∀ D i acc H, H1 D = none → i < n → Pv D i acc H → J.go i H) (hst : ∀ D acc H, H1 D = none → Pv D n acc H → J.stop n H)
    (hs : ∀ D i acc H x H' (K : VK), H1 D = none → i < n → acc.length ≤ i → Pv D i acc H → H D = some (.lst acc) → J.yld i H x H' → (∀ y H4, H4 D = some (.lst acc) → Pv D (i + 1) (acc ++ [y]) (upd H4 D (.lst (acc ++ [y]))) → K y H4) →
      g x (wipe σ vs) H' fun σ2 H2 => wipe σ2 vs = wipe σ vs ∧ te σ2 H2 K)
    (hd : ∀ D acc H, H1 D = none → Pv D n acc H → H D = some (.lst acc) → Qf (.ref D) H) : LcB J g tYes te vs σ H1 Qf := by
  refine lc_inv n Pv hn h0 hgo hst (fun D i acc H x H' K K0 hD lt la pv eD y k _ => ?_) hd
  have e : (fun (σ2 : L2.St) (H2 : Hp) => wipe σ2 vs = wipe σ vs ∧ tYes σ2 H2 fun b H3 => if b = true then te σ2 H3 K else K0 H3) = fun σ2 H2 => wipe σ2 vs = wipe σ vs ∧ te σ2 H2 K := by
    funext σ2 H2
    simp only [tYes, if_true]
  rw [e]
  exact hs D i acc H x H' K hD lt la pv eD y k
def DcB (J : It) (g : TG) (tt : TT) (tk tv : TE) (vs : List Nat) (σ : L2.St) (H1 : Hp) (Q : VK) : Prop := ∀ D, H1 D = none → ∃ W : Nat → Nat → Hp → Prop, (∃ m, W 0 m (upd H1 D (.dK []))) ∧ ∀ i m H, W i m H →
  (J.stop i H ∧ Q (.ref D) H) ∨ (J.go i H ∧ ∃ Nx : Hp → Prop, (∀ H', Nx H' → ∃ m', m' < m ∧ W (i + 1) m' H') ∧ ∀ x H', J.yld i H x H' → g x (wipe σ vs) H' fun σ2 H2 => wipe σ2 vs = wipe σ vs ∧ tt σ2 H2 fun b H3 =>
    if b = true then tk σ2 H3 fun y H4 => tv σ2 H4 fun z H5 => ∃ kvs k, y = kV k ∧ H5 D = some (.dK kvs) ∧ kvs.length < sizeLine ∧ Nx (upd H5 D (.dK (putK kvs k z))) else Nx H3)
theorem tDc_eq (wi : TI) (g : TG) (tt : TT) (tk tv : TE) (vs : List Nat) (σ : L2.St) (H : Hp) (Q : VK) : tDc wi g tt tk tv vs σ H Q = wi σ H fun J H1 => DcB J g tt tk tv vs σ H1 Q := rfl
end RS
namespace RS
open PySem PySem.Spec L2
section
variable {X : Cx}
/-- d.update(another dict) -/
def rUpdate : V → List V → Hp → VK → Prop := fun x xs H Q => ∃ d o kvs more, x = .ref d ∧ xs = [.ref o] ∧ d ≠ o ∧ H d = some (.dK kvs) ∧ H o = some (.dK more) ∧ kvs.length + more.length ≤ sizeLine ∧ Q .non (upd H d (.dK (mergeK kvs more)))
end
end RS
namespace RS
open PySem PySem.Spec L2
/-- a def that takes any number of arguments -/
def FnS (g : Wd) (k : Nat) (f : Addr) (sp : Sp) : Prop :=
  ∀ (A : Around) (outer : List Env) (s : Shared) (H : Hp) (us : List Value) (vs : List V) (Q : VK) (E : XK), Room k A → A.guards = some [] → Env0 g.P g.w g.K g.mg g.base A outer s H → Vals vs us → sp vs H Q E → codeAny (model g.P g.w) A (.call (.ref f) ⟨us, []⟩) (CR (L2.CX g.P g.w) outer g.P g.w H s Q E) s
theorem FnS.mono {g : Wd} {j k : Nat} {f : Addr} {sp : Sp} (F : FnS g j f sp) (h : j ≤ k) : FnS g k f sp := fun A outer s H us vs Q E hr => F A outer s H us vs Q E (hr.mono h)
section
variable {g : Wd} {X : Cx} {k : Nat} {f : Addr} {sp : Sp} {W : WX} {x : Str} {p pos : Pos} {e : Expr} {es : List Expr} {t : TA}
def tCallS (sp : Sp) (W : WX) (t : TA) : TE := fun σ H Q => t σ H fun vs H1 => sp vs H1 Q (fun c d H' => W c d σ H')
end
end RS
namespace RS
open PySem PySem.Spec L2
/-- the items of the tuple at a, each with its index in a new pair -/
def ItEt (K : PySem.W.Frag) (a : Addr) : It :=
  ⟨fun i H => ∃ (xs : List V) (x : V), SqT K H a xs ∧ xs[i]? = some x, fun i H v H' => ∃ T x, v = .ref T ∧ H T = none ∧ H' = upd H T (.tup [.int (i : Nat), x]) ∧ ∀ xs, SqT K H a xs → xs[i]? = some x, fun i H => ∃ xs : List V, SqT K H a xs ∧ xs.length = i⟩
theorem turn_enumT {P : Program} {w : World} {K : PySem.W.Frag} {elts : List Expr} {kk : Nat} {tpos : Pos} (a e it : Addr) :
    Turn P w K (.Tuple elts kk tpos) (ItEt K a) [e, it] e (fun i h => (∃ old, IsEnum h e it ((i : Nat) : Int) old) ∧ h.IsTupleIter it a i ∧ e ≠ it ∧ a ≠ it ∧ a ≠ e) where
  mem := List.mem_cons_self
  obj := by
    rintro i h ⟨⟨old, he⟩, ⟨o, ho, hc, hd⟩, _⟩ b hb
    rcases List.mem_cons.mp hb with rfl | hb
    · exact ⟨_, he, fun v q => nomatch q⟩
    · obtain rfl := List.mem_singleton.mp hb
      exact ⟨o, ho, fun v q => by rw [hd] at q; cases q⟩
  keep := by
    rintro i h h' ⟨⟨old, he⟩, ⟨o, ho, hr⟩, hne⟩ k
    exact ⟨⟨old, k e (by simp) _ he⟩, ⟨o, k it (by simp) o ho, hr⟩, hne⟩
  item := by
    intro X hP hw hK hc i pins s σ H E I hf st hg
    subst hP hw hK
    obtain ⟨⟨old, he⟩, hit, hne, nai, nae⟩ := st
    obtain ⟨xs, x, hq, hx⟩ := hg
    obtain ⟨its, rv, pl, hz⟩ := I.tuple hq
    obtain ⟨u0, hu0, ru0⟩ := rv.get hx
    have ln := rv.length
    have li : i < its.toArray.size := by have := (List.getElem?_eq_some_iff.mp hx).1; simp; omega
    have hel : e < s.heap.objs.size := Heap.lt_size he
    have hil : it < s.heap.objs.size := by obtain ⟨_, q, _⟩ := hit; exact Heap.lt_size q
    refine wpAny_pyNext_enum_itemD (Draws.tuple (A := X.A.in1) (I.ok.hd hc) it a nai its.toArray) he ⟨hit, pl⟩ li hne (by simp only [List.mem_cons, List.not_mem_nil, or_false, not_or]; exact ⟨hne, Ne.symm nae⟩) fun u h' tk hp ho hit' hT hsz hk => ?_
    have eu : u = u0 := by simp only [List.getElem?_toArray] at hp; rw [hu0] at hp; exact (Option.some.inj hp).symm
    subst eu
    refine ⟨_, rfl, wpAny_letOwnedTupleGo_enum (s := { s with heap := h', toks := tk + 1 }) ho fun h2 he' sb => ?_⟩
    have hT2 : h2.get? s.heap.objs.size = some { cls := .type "tuple", data := .seq #[.int i tk, u] } := (sb.2 _ (Nat.ne_of_gt hel)).trans hT
    have lay : ObjOk X.prog X.w (upd H s.heap.objs.size (.tup [.int (i : Nat), x])) h2 s.heap.objs.size (.tup [.int (i : Nat), x]) :=
      ⟨by show 2 ≤ sizeLine; decide, _, .cons ⟨_, rfl⟩ (.cons ru0 .nil), _, hT2, rfl, _, rfl⟩
    have keepB : ∀ b o, b ∉ [e, it] → s.heap.get? b = some o → h2.get? b = some o := fun b o hb q => by
      have n1 : b ≠ e := fun z => hb (by simp [z])
      have n2 : b ≠ it := fun z => hb (by simp [z])
      exact (sb.2 b n1).trans (hk b o n1 n2 q)
    have I1 := I.turnedNew (t' := tk + 1) keepB hf (Nat.le_refl _) lay
    refine ⟨.ref s.heap.objs.size, _, I1, rfl, ⟨_, x, rfl, I.hok.fresh (Nat.le_refl _), rfl, fun ys hy => by rw [I.tuple_inj hy hq]; exact hx⟩, ⟨⟨_, by simpa using he'⟩, ?_, hne, nai, nae⟩, fun b hb => ?_⟩
    · obtain ⟨o, ho2, hr⟩ := hit'.1
      exact ⟨o, (sb.2 it (Ne.symm hne)).trans ho2, hr⟩
    · have lt : b < s.heap.objs.size := by
        rcases List.mem_cons.mp hb with rfl | hb
        · exact hel
        · rw [List.mem_singleton.mp hb]; exact hil
      rw [upd_ne (Nat.ne_of_lt lt)]
      exact (hf b hb).1
  done := by
    intro X hP hw hK hc i pins s σ H E I hf st hg
    subst hP hw hK
    obtain ⟨⟨old, he⟩, hit, hne, nai, nae⟩ := st
    obtain ⟨xs, hq, rfl⟩ := hg
    obtain ⟨its, rv, pl, hz⟩ := I.tuple hq
    have ln := rv.length
    obtain ⟨f0, f1, f2, f3, f4, f5⟩ := hf it (by simp)
    refine wpAny_pyNext_enum_endD (Draws.tuple (A := X.A.in1) (I.ok.hd hc) it a nai its.toArray) he (by rw [show its.toArray.size = xs.length by simp; omega]; exact ⟨hit, pl⟩) fun h' eb => ⟨rfl, ?_⟩
    exact I.turned (t' := s.toks) (fun b o hb q => eb b o hb q) f0 f1 f3 f4 f5
  self := fun A i s Q E st h => let ⟨⟨_, he⟩, _⟩ := st; wpAny_pyIter_enum he h
def iEnumT (K : PySem.W.Frag) (ta : TA) : TI := fun σ H R => ta σ H fun vs H1 => ∃ a xs, vs = [.ref a] ∧ SqT K H1 a xs ∧ R (ItEt K a) H1
theorem pi_enumT {X : Cx} {K : PySem.W.Frag} {e : Expr} {ta : TA} {p pos tpos : Pos} {elts : List Expr} {kk : Nat} (hm : X.mg "enumerate" = none) (ha : PA X [e] ta) (hg : Gl X "enumerate" := by rfl) (hs : starEach [e] X.env = [(false, eval e X.env)] := by rfl) (hK : X.K = K := by rfl) :
    PI X (.Tuple elts kk tpos) (.Call (.Name "enumerate" p) [e] [] pos) (iEnumT K ta) := by
  subst hK
  refine ⟨fun pins s σ H R I h => ?_⟩
  refine PyProof.Rows.Call_ (ld_blt I hg hm PyProof.Rows.boot_enumerate (PyProof.Rows.callWith_type1 (thn (ha.run pos pins s σ H _ I h) ?_) hs rfl))
  rintro us s1 ⟨vs, H1, I1, r1, a, xs, rfl, hx, q⟩
  obtain ⟨u, rfl, ru⟩ := vals1 r1
  cases ru
  obtain ⟨its, rv, pl, hz⟩ := I1.tuple hx
  have la : a < s1.heap.objs.size := by obtain ⟨o, z, _⟩ := pl; exact Heap.lt_size z
  refine call_enumB (begins_tuple a its.toArray) pl fun h' he hi z hk => wpAny_pyIter_enum he ?_
  refine ⟨s1.heap.objs.size + 1, [s1.heap.objs.size + 1, s1.heap.objs.size], _, _, H1, rfl, I1.kept (t' := s1.toks) hk, turn_enumT a _ _, ⟨⟨.none, he⟩, ⟨_, hi, rfl, rfl⟩, Nat.succ_ne_self _, Nat.ne_of_lt la, Nat.ne_of_lt (Nat.lt_succ_of_lt la)⟩, fun b hb => ?_, q⟩
  have le : s1.heap.objs.size ≤ b := by
    rcases List.mem_cons.mp hb with rfl | hb
    · exact Nat.le_succ _
    · rw [List.mem_singleton.mp hb]; exact Nat.le_refl _
  exact I1.fpOk le (I1.hok.fresh le)
end RS
namespace RS
open PySem PySem.Spec L2 PySem.W
section
variable {g : Wd} {X : Cx} {C : Addr} {x f : Str} {e : Expr} {t : TA} {p pos : Pos}
def tPm1 (C : Addr) (f : Str) (t : TA) : L2.St → Hp → XK → Prop := fun σ H Q => t σ H fun vs H1 => ∃ v, vs = [v] ∧ ∀ dy, H1 dy = none → Q (.ref C) (some dy) (upd H1 dy (.xd [(f, v)]))
theorem pmk_x1 (F : XK1 g x C f) (R : Raises X (.ref C)) (hr : Rm 2 X) (ha : PA X [e] t) (hg : Gl X x := by rfl) (hdb : (x == ("__debug__" : Str)) = false := by decide)
    (he : starEach [e] X.env = (false, eval e X.env) :: starEach [] X.env := by rfl) (hpl : (backTo pos (starEach [] X.env)).any (·.1) = false := by rfl) (a : At g X := by exact ⟨rfl, rfl, rfl, rfl, rfl⟩) :
    PMk X (.Call (.Name x p) [e] [] pos) (tPm1 C f t) := by
  obtain ⟨hm, ms, kp, hd, sa, nf, fI, cda, cc, qual, st, B, newId, initId, bmB, xp, XX, Y⟩ := F
  intro pins s σ H Q I h
  refine wpAny_Call_Name_kw (ld_glob I hg (by rw [a.mg]; exact hm) ?_ hdb)
  refine PySem.W.callWith_K (h₀ := X.base) I.ok.mod.kin (by rw [a.K]; exact kp) (thn (ha.run pos pins s σ H _ I h) ?_) he hpl
  rintro us s1 ⟨vs, H1, I1, r, v, rfl, q⟩
  obtain ⟨u, rfl, ru⟩ := vals1 r
  refine ⟨I1.kIn, ?_⟩
  have KI := I1.kIn
  rw [a.K] at KI
  obtain ⟨nm, N', qn, bs, bm, hdct, sn, sub, ab, col, dd, k0, k1, k2, k3, k5, hC, hT⟩ := excInit_of KI XX.q
  obtain ⟨oc, od, kV, doc, pm, an, ct, osl, lk⟩ := XX.lk
  have hfn : oc = .type "function" := by
    have z := XX.fn
    unfold typeIn at z
    simp only [lk] at z
    simpa using z
  have hglob : s1.heap.Ns mainGlobals g.mg := by rw [← a.mg]; exact I1.mod.glob.keeps I1.bk
  obtain ⟨mb, hblt, bb⟩ := I1.mod.blt
  have hblt2 := hblt.keeps I1.bk
  have hlim := I1.nolimit
  have bare := I1.bare
  obtain ⟨hp, gg, dr, tt, oo⟩ := s1
  have up : ∀ b o, hp.get? b = some o → ((hp.push (kdv_tup [u])).push (HandSPX.excO C hp.objs.size)).get? b = some o := fun b o z => Heap.get?_push_of_some _ (Heap.get?_push_of_some _ z)
  have hget : ((hp.push (kdv_tup [u])).push (HandSPX.excO C hp.objs.size)).get? (hp.objs.size + 1) = some (HandSPX.excO C hp.objs.size) := by heap_get
  refine wpAny_call (HandSPX.call_own XX.FB hT hC (looks_findIn KI XX.ini) (fun self => exc_bind (KI _ _ lk) hfn self) (by rw [sizeLine_eq]; simp) ?_)
  rw [a.P]
  refine xinit1 XX Y hd sa nf (fun b o z => up b o (KI b o z)) ?_ (hr.here.make C [u] []).room.depth (hlim.keeps up) hget (hglob.keeps up) ms (hblt2.keeps up) bb fun h' t1 dx tk k ldx nex e' n' => ⟨rfl, ?_⟩
  · cases z : g.K.lookup (hp.objs.size + 1) with
    | none => rfl
    | some o => exact absurd (Heap.lt_size (KI _ _ z)) (by show ¬ hp.objs.size + 1 < hp.objs.size; omega)
  have old : ∀ {b : Addr} {o : Obj}, hp.get? b = some o → b ≠ hp.objs.size + 1 := fun {b o} z y => by
    have := Heap.lt_size z
    rw [y] at this
    exact absurd this (by show ¬ hp.objs.size + 1 < hp.objs.size; omega)
  have k' : ∀ b o, hp.get? b = some o → h'.get? b = some o := fun b o z => k b o (old z) (up b o z)
  have ld2 : hp.objs.size + 2 ≤ dx := by
    have e2 : ((hp.push (kdv_tup ([] ++ [u]))).push (HandSPX.excO C hp.objs.size)).objs.size = hp.objs.size + 2 := by simp [Heap.size_push]
    rw [e2] at ldx
    exact ldx
  have n2 : hp.get? dx = none := by
    cases z : hp.get? dx with
    | none => rfl
    | some o => exact absurd (Heap.lt_size z) (by show ¬ dx < hp.objs.size; omega)
  have f1 : H1 (hp.objs.size + 1) = none := I1.hok.fresh (Nat.le_succ _)
  have f2 : H1 dx = none := I1.hok.fresh (by show hp.objs.size ≤ dx; omega)
  obtain ⟨G, g1, g2⟩ := restrict h' fun b => decide (b ≠ hp.objs.size + 1)
  have gk : ∀ b, b ≠ hp.objs.size + 1 → G.get? b = h'.get? b := fun b hb => g1 b (decide_eq_true hb)
  have ge : G.get? (hp.objs.size + 1) = none := g2 _ (by simp)
  have J := Inv.laidN (t' := tk) (a := dx) (o := HO.xd [(f, v)]) (h' := G) I1 (fun b o z => by rw [gk b (old z)]; exact k' b o z) n2 f2 ⟨_, n'.at fun o y => (gk dx nex).trans y, relO_put (fs := []) ru fun _ => True.intro⟩
  refine ⟨hp.objs.size + 1, _, _, _, _, .ref C, some dx, rfl, J, fun b o z => ?_, ge, e', ⟨rfl, rfl⟩, rfl, rfl, ?_, rfl, bare, R, q dx f2⟩
  · by_cases hb : b = hp.objs.size + 1
    · rw [hb] at z
      have z' : G.get? (hp.objs.size + 1) = some o := z
      rw [ge] at z'; cases z'
    · exact (gk b hb).symm.trans z
  · rw [upd_ne (Ne.symm nex)]; exact f1
end
end RS
namespace RS
open PySem PySem.Spec L2 PyProof.Rows
/-- a pattern that binds nothing, over a text -/
structure PPt (X : Cx) (p : Pattern) (m : Str → Bool) : Prop where
  run : ∀ (pins : List (Addr × Obj)) (s : Shared) (σ : L2.St) (H : Hp) (x : Str) (tk : Tok) (Q : Option (List (Str × Value)) → Shared → Prop), Inv X pins σ H s → (∀ s', Inv X pins σ H s' → Q (if m x = true then some [] else none) s') → wpAny (model X.prog X.w) X.A (matchPattern p X.env (.str x tk)) Q X.xe s
section
variable {X : Cx} {e : Expr} {te : TE} {pos : Pos} {p : Pattern} {ps : List Pattern} {m : Str → Bool} {body : List Stmt} {cs : List MatchCase} {tb : TS} {t : V → TS}
/-- some patterns that bind nothing -/
structure PPs (X : Cx) (ps : List Pattern) (m : Str → Bool) : Prop where
  run : ∀ (pins : List (Addr × Obj)) (s : Shared) (σ : L2.St) (H : Hp) (x : Str) (tk : Tok) (Q : Option (List (Str × Value)) → Shared → Prop), Inv X pins σ H s → (∀ s', Inv X pins σ H s' → Q (if m x = true then some [] else none) s') → wpAny (model X.prog X.w) X.A (matchFirst ps X.env (.str x tk)) Q X.xe s
theorem pps_nil : PPs X [] (fun _ => false) := ⟨fun pins s σ H x tk Q I h => wpAny_matchFirst_nil (h s I)⟩
theorem pps_cons {m' : Str → Bool} (hp : PPt X p m) (hs : PPs X ps m') : PPs X (p :: ps) (fun x => m x || m' x) := by
  refine ⟨fun pins s σ H x tk Q I h => ?_⟩
  refine wpAny_matchFirst_cons (hp.run pins s σ H x tk _ I fun s1 I1 => ?_)
  cases hm : m x with
  | true =>
    have := h s1 I1
    simp only [hm, Bool.true_or, if_true] at this
    exact this
  | false =>
    refine hs.run pins s1 σ H x tk Q I1 fun s2 I2 => ?_
    have := h s2 I2
    simpa only [hm, Bool.false_or] using this
end
end RS
namespace RS
open PySem PySem.Spec L2 PyProof.Rows
section
variable {X : Cx}
theorem is_bool {M : Model} {A : Around} {E : Value → Shared → Prop} {s : Shared} {x : V} {u : Value} {b : Bool} {R : Bool → Shared → Prop} (r : RelV x u) (q : R (decide (x = .bl b)) s) : wpAny M A (isSame u (.bool b)) R E s := by
  have eq_ : ∀ {u : Value} {z : Bool}, plainIs u (.bool b) = true → (u == Value.bool b) = z → R z s → wpAny M A (isSame u (.bool b)) R E s := fun h1 h2 q => wpAny_isSame_plain h1 (by rw [h2]; exact q)
  have no : ∀ {u : Value}, plainIs u (.bool b) = true → (u == Value.bool b) = false → decide (x = .bl b) = false → wpAny M A (isSame u (.bool b)) R E s := fun h1 h2 h3 => eq_ h1 h2 (by rw [← h3]; exact q)
  cases x with
  | ref a => cases r; exact no rfl rfl (by simp)
  | non => cases r; exact no rfl rfl (by simp)
  | bl c =>
    cases r
    refine eq_ rfl rfl ?_
    have e : (Value.bool c == Value.bool b) = decide (V.bl c = V.bl b) := by cases c <;> cases b <;> rfl
    rw [e]; exact q
  | int i => obtain ⟨t, rfl⟩ := r; exact no rfl rfl (by simp)
  | str x => obtain ⟨t, rfl⟩ := r; exact no rfl rfl (by simp)
  | byt x => obtain ⟨t, rfl⟩ := r; exact no rfl rfl (by simp)
  | flt x => obtain ⟨t, rfl⟩ := r; exact no rfl rfl (by simp)
  | ty n => cases r; exact no rfl rfl (by simp)
theorem op_notB : OpR X (compareOp .IsNot) (fun x y H Q => ∃ b, y = .bl b ∧ Q (.bl (!decide (x = .bl b))) H) := by
  intro pins s σ H x y v u Q I rx ry h
  obtain ⟨b, rfl, q⟩ := h
  cases ry
  show wpAny _ _ ((isSame v (Value.bool b)) >>= fun z => pure (Value.bool (!z))) _ _ s
  exact wpAny_bind (is_bool rx (wpAny_pure (fin_bl I q rfl)))
end
/-- either promise -/
def SpOr (sp sp' : Sp) : Sp := fun vs H Q E => sp vs H Q E ∨ sp' vs H Q E
theorem FnG.or {g : Wd} {k : Nat} {f : Addr} {fd : FuncData} {ps : List Str} {sp sp' : Sp} (F : FnG g k f fd ps sp) (F' : FnG g k f fd ps sp') : FnG g k f fd ps (SpOr sp sp') :=
  ⟨fun vs H Q E h => h.elim (F.len vs H Q E) (F'.len vs H Q E), fun A outer s H args us vs Q E hr hg he hb hv h => h.elim (F.run A outer s H args us vs Q E hr hg he hb hv) (F'.run A outer s H args us vs Q E hr hg he hb hv)⟩
end RS
namespace RS
open PySem PySem.Spec L2 PyProof.Rows
/-- an object that came to be behind the entry is known from now on -/
theorem track {X : Cx} {pins : List (Addr × Obj)} {σ : L2.St} {H : Hp} {s : Shared} {a : Addr} {u : HO} (I : Inv X pins σ H s) (na : H a = none) (n0 : X.s_0.heap.get? a = none) (nL : a ≠ X.env.locals)
    (nc : ∀ x c, X.env.cells.lookup x = some c → c ≠ a) (np : ∀ p ∈ X.pn ++ pins, p.1 ≠ a) (ok : ObjOk X.prog X.w (upd H a u) s.heap a u) : Inv X pins σ (upd H a u) s where
  ok := I.ok
  os := I.os
  bare := I.bare
  base := {
    keep := I.base.keep
    slot := I.base.slot
    free := fun b o q n hx => by rw [upd_ne (fun z => by rw [z, n0] at q; cases q)]; exact I.base.free b o q n hx
    there := I.base.there
    tups := fun b xs q => by
      have z := I.base.tups b xs q
      rw [upd_ne (ne_of_none z na)]; exact z
    frzs := fun b o v q => by
      have z := I.base.frzs b o v q
      rw [upd_ne (ne_of_none z na)]; exact z
    tbls := fun b ps q => by
      obtain ⟨m, z⟩ := I.base.tbls b ps q
      exact ⟨m, by rw [upd_ne (ne_of_none z na)]; exact z⟩ }
  loc := I.loc
  cell := I.cell
  free := by rw [upd_ne (Ne.symm nL)]; exact I.free
  freeC := fun x c q => by rw [upd_ne (nc x c q)]; exact I.freeC x c q
  pin := fun p hp => by
    obtain ⟨e1, e2, e3⟩ := I.pin p hp
    exact ⟨e1, by rw [upd_ne (np p hp)]; exact e2, e3⟩
  hok := fun b o q => by
    by_cases hb : b = a
    · subst hb
      rw [upd_same] at q
      cases q
      exact ok
    · rw [upd_ne hb] at q
      exact (I.hok b o q).stay (fun _ _ _ z => z) (fun y hy => by rw [upd_ne (ne_of_none hy na)]; exact hy) (fun y xs hy => by rw [upd_ne (ne_of_none hy na)]; exact hy)
  len := I.len
theorem sky_none {B : Heap} {l : List Env} {a L : Addr} {Z : Obj → Prop} {h : Heap} (x : Sky B l a Z L h) : B.get? a = none := by
  rcases x with x | x | x
  · exact x.2.1
  · exact x.2.1
  · exact x.2.1
end RS
namespace RS
open PySem PySem.Spec L2 PyProof.Rows LamX
/-- within the context Z, entered with the lambda at f in the slot 0: a() does what tl says -/
def Acts (Z : Cx) (a : Str) (f c' : Addr) (q : Str) (tl : XK → Hp → VK → Prop) : Prop :=
  ∀ (W : WX) (pn : List (Addr × Obj)) (xe : Value → Shared → Prop) (p1 p2 : Pos), Takes (Z.tr pn xe) W →
    PE (Z.tr pn xe) (.Call (.Name a p1) [] [] p2) (fun σZ HZ Q => σZ[0]? = some (some (.ref f)) ∧ HZ c' = some (CodeO c' q) ∧ tl (fun cls d H' => W cls d σZ H') HZ Q)
/-- the module's name x holds a def with one parameter a, which it calls; TT: what it makes of the lambda's reading -/
structure Told (g : Wd) (k : Nat) (x : Str) (TT : Addr → Str → (XK → Hp → VK → Prop) → Hp → VK → Prop) : Prop where
  ex : ∃ (st : Stmt) (gf : Addr) (fd : FuncData) (a : Str) (N : List Str), g.mg x = some (.ref gf) ∧ Df g.K x x st gf fd .none ∧ Binds g.K fd [a] [] ∧ FnScope N [a] (defScope st) ∧ N[0]? = some a ∧ Vis (defScope st) a ∧ (a == ("__debug__" : Str)) = false ∧ (a == ("__classdict__" : Str)) = false ∧
    ∀ (cdv : Value) (A : Around) (outer : List Env) (s : Shared) (H : Hp) (Q : VK) (f c' : Addr) (q : Str) (tl : XK → Hp → VK → Prop), Rm k (cx g N x st gf cdv A outer s H fun _ _ _ => False) →
      Acts (cx g N x st gf cdv A outer s H fun _ _ _ => False) a f c' q tl → H c' = some (CodeO c' q) → TT c' q tl H Q →
      ∃ t, PSs (cx g N x st gf cdv A outer s H fun _ _ _ => False) (defBody st) t ∧ t { nx := fun _ H' => Q .non H', rt := Q } (start N [.ref f]) H
section
variable {X : Cx} {pins : List (Addr × Obj)} {σ : L2.St} {H : Hp} {s : Shared}
/-- the lambda at f, run from the frames of Z -/
theorem lam_run {f c' : Addr} {pm ctv : Value} {params : Arguments} {body : Expr} {scope : Scope} {k : Nat} {E : XK} {tb : TE} {A : Around} {outer : List Env} {s1 : Shared} {HZ : Hp} {Q : VK}
    (I : Inv X pins σ H s) (L : LamS X.env.scope scope) (hc : HZ c' = some (CodeO c' (X.env.qual ++ "<lambda>"))) (e0 : Env0 X.prog X.w X.K X.mg X.base A outer s1 HZ) (lim : s1.heap.NoLimit)
    (of1 : s1.heap.get? f = some (PySem.W.kla_obj "<lambda>" (X.env.qual ++ "<lambda>") params body scope (cloFrom X.env.cells scope.names []) pm c' ctv)) (un : Un (frs X.stack) [] H HZ s.heap s1.heap)
    (hbind : bindArgs (PySem.W.kla_fn "<lambda>" (X.env.qual ++ "<lambda>") params body scope (cloFrom X.env.cells scope.names []) pm (.ref c') ctv) ⟨[], []⟩ = pure []) (hr : Room (k + 1) A) (gd : A.guards = some [])
    (hbody : Rm k (lamCx X A outer s1 HZ E scope f c') → PE (lamCx X A outer s1 HZ E scope f c') body tb) (ht : tb σ HZ Q) :
    codeAny (model X.prog X.w) A (.call (.ref f) ⟨[], []⟩) (CR (L2.CX X.prog X.w) outer X.prog X.w HZ s1 Q E) s1 := by
  obtain ⟨⟨oc, vs, t, hoc, hdc, hvc⟩, _, _⟩ := e0.hok c' _ hc
  refine PySem.W.kla_callFunE hr.depth of1 rfl L.co L.gen rfl ⟨c', oc, vs, t, rfl, hoc, hdc, hvc⟩ ?_
  rw [hbind]
  refine wpAny_pure (wpAny_newFunctionEnv (fun y hy => (L.own y hy).2) (fun y hy => absurd hy (by simp)) (fun h₁ hns hsb => ⟨lim.fresh _ hsb, ?_⟩) L.kind)
  show codeAny _ _ (.expr body (lamEnv X scope s1.heap.objs.size f c')) _ _
  have kp : ∀ b o, s1.heap.get? b = some o → h₁.get? b = some o := fun b o q => hsb.extBut b o (Nat.ne_of_lt (Heap.lt_size q)) (Heap.get?_push_of_some _ q)
  have J := lam_start2 (E := E) (f := f) (c' := c') (tk := s1.toks + ([] : List (Str × Value)).length) I L e0 hr.hd un hns kp
  have P := hbody ⟨hr.deeper _, gd⟩
  refine PySem.W.kla_codeExpr (wpAny_mono (P.run [] _ _ HZ Q J ht) (fun v s' hq => ?_) fun e s' hq => hq)
  obtain ⟨w', H', J', rv, q⟩ := hq
  exact ⟨w', H', J'.os, J'.bare, J'.base, J'.hok, rv, q⟩
def tLamG (T : List (Addr × Str)) (TT : Addr → Str → (XK → Hp → VK → Prop) → Hp → VK → Prop) (q : Str) (t : XK → TE) : TE := fun σ H Q => Tabs T H ∧ ∀ c' H1, ExtN H H1 → Tabs T H1 → H1 c' = some (CodeO c' q) → TT c' q (fun E H' Q' => t E σ H' Q') H1 Q
/-- x(lambda: body) -/
theorem pe_lamG {g : Wd} {T : List (Addr × Str)} {TT : Addr → Str → (XK → Hp → VK → Prop) → Hp → VK → Prop} {x : Str} {c P : Addr} {k : Nat} {params : Arguments} {body : Expr} {scope : Scope} {t : XK → TE} {p lpos pos : Pos}
    (F : Told g (k + 1) x TT) (hr : Rm (k + 2) X) (TB : TabB X.base X.mg c P) (hcode : X.env.code = .ref c) (hmT : (P, X.env.qual ++ "<lambda>") ∈ T) (hu : ∀ p ∈ T, p.1 = P → p.2 = X.env.qual ++ "<lambda>")
    (L : LamS X.env.scope scope) (hdef : defaultsOf params X.env = ([], []))
    (hbind : ∀ (q : Str) (cl : List (Str × Addr)) (pm cv ctv : Value), bindArgs (PySem.W.kla_fn "<lambda>" q params body scope cl pm cv ctv) ⟨[], []⟩ = pure [])
    (hbody : ∀ (A : Around) (outer : List Env) (s : Shared) (H : Hp) (E : XK) (f c' : Addr), Rm k (lamCx X A outer s H E scope f c') → PE (lamCx X A outer s H E scope f c') body (t E))
    (hg : Gl X x := by rfl) (hdb : (x == ("__debug__" : Str)) = false := by decide) (at_ : At g X := by exact ⟨rfl, rfl, rfl, rfl, rfl⟩) :
    PE X (.Call (.Name x p) [.Lambda params body scope lpos] [] pos) (tLamG T TT (X.env.qual ++ "<lambda>") t) := by
  refine ⟨fun pins s σ H Q I h => ?_⟩
  obtain ⟨hT, h⟩ := h
  obtain ⟨st, gf, fd, a, N, hm, DF, hb, Sg, hN0, hva, hd1, hd2, body_⟩ := F.ex
  obtain ⟨oc, od, kV, doc, pm0, an, cdv, ct, osl, rfl, lk, hcd⟩ := DF.ex
  have hm' : X.mg x = some (.ref gf) := by rw [at_.mg]; exact hm
  refine wpAny_Call_Name_kw (ld_glob I hg hm' ?_ hdb)
  refine PySem.W.callWith_K (h₀ := X.base) I.ok.mod.kin (by rw [at_.K]; exact DF.kp) ?_ (by rfl) (by rfl)
  show wpAny _ _ (spliced ((false, eval (.Lambda params body scope lpos) X.env) :: backTo pos (starEach [] X.env))) _ _ s
  refine Calls.spliced_cons (lam_make2 I TB hcode hmT hu hT hdef (L.has I.ok) fun f c' pm' ctv H1 s' I1 eN T1 hf hfn hfr hco => ?_)
  refine Calls.spliced_nil ⟨I1.kIn, ?_⟩
  have KX := I1.kIn
  rw [at_.K] at KX
  have rc : codeAny (model X.prog X.w) X.A (.call (.ref gf) ⟨[.ref f], []⟩) (CR (L2.CX X.prog X.w) X.stack X.prog X.w H1 s' Q fun _ _ _ => False) s' := by
    obtain ⟨P0, w0, K0, mg0, base0⟩ := g
    obtain ⟨rfl, rfl, rfl, rfl, rfl⟩ := at_
    refine run_ofS (N := N) (ps := [a]) (us := [.ref f]) (vs := [.ref f]) lk hcd Sg hr.room I1.env0 (hb s' [.ref f] I1.kIn rfl) (.cons rfl .nil) rfl fun hr' => ?_
    refine body_ cdv X.A X.stack s' H1 Q f c' (X.env.qual ++ "<lambda>") (fun E H' Q' => t E σ H' Q') ⟨hr', hr.gd⟩ (fun W pn xe p1 p2 tk => ⟨fun pinsZ sZ σZ HZ Q IZ hz => ?_⟩) hco (h c' H1 eN T1 hco)
    obtain ⟨hs, hc, ht⟩ := hz
    refine wpAny_Call_Name_kw (thn ((pe_var (pos := p1) (i := 0) hN0 hva hd1 hd2).run pinsZ sZ σZ HZ (fun v H1 => v = .ref f ∧ H1 = HZ) IZ ⟨.ref f, hs, rfl, rfl⟩) fun u s1 ⟨v, H2, I2, r2, q2⟩ => ?_)
    obtain ⟨ev, eH⟩ := q2
    subst ev
    rw [eH] at I2
    obtain rfl : u = Value.ref f := r2
    have of1 := I2.base.keep f _ hf hfn hfr (fun z => nomatch (show f ∈ ([] : List Addr) from z))
    refine PySem.W.callWith_F0 ⟨_, _, _, _, of1⟩ ?_
    have un : Un (frs X.stack) [] H1 HZ s'.heap s1.heap := I2.base
    have rl := lam_run (X := X) (k := k) (E := fun cls d H' => W cls d σZ H') (A := X.A.deeper (envOfC x (defScope st) s'.heap.objs.size gf cdv)) (outer := envOfC x (defScope st) s'.heap.objs.size gf cdv :: X.stack) (s1 := s1) (Q := Q) I1 L hc I2.env0 I2.nolimit of1 un (hbind _ _ _ _ _) hr' hr.gd (hbody _ _ _ _ _ _ _) ht
    refine wpAny_call (codeAny_mono rl fun r s2 hq => ?_)
    cases r with
    | error e => exact tk e s2 (XE.of_call (E := fun cls d H' => W cls d σZ H') I2 (fun _ _ _ z => z) hq)
    | ok fl =>
      cases fl with
      | ret u => exact I2.after hq
      | next => exact False.elim hq
      | brk => exact False.elim hq
      | cont => exact False.elim hq
  refine wpAny_call (codeAny_mono rc fun r s2 hq => ?_)
  cases r with
  | error e =>
    obtain ⟨_, _, _, _, _, _, _, _, _, _, _, _, z⟩ := hq
    exact z.elim
  | ok fl =>
    cases fl with
    | ret u => exact I1.after hq
    | next => exact False.elim hq
    | brk => exact False.elim hq
    | cont => exact False.elim hq
end
end RS
namespace RS
open PySem PySem.Spec L2 PySem.W
/-- the fields of an exception, however they are known -/
def XdAt (H : Hp) (dd : Addr) (fs : List (Str × V)) : Prop := H dd = some (.xd fs) ∨ H dd = some (exd dd fs)
theorem XdAt.same {H H' : Hp} {dd : Addr} {fs : List (Str × V)} (h : XdAt H dd fs) (s : Same H H') : XdAt H' dd fs := h.imp (s _ _) (s _ _)
theorem XdAt.at {P : Program} {w : World} {H : Hp} {h : Heap} {dd : Addr} {fs : List (Str × V)} (hok : HOk P w H h) (e : XdAt H dd fs) : ∃ mA, h.Ns1 dd mA ∧ ∀ f, RelO (fs.lookup f) (mA f) := by
  rcases e with e | e
  · have x : ObjOk P w H h dd (.xd fs) := hok dd _ e
    exact x
  · exact exd_at hok e
section
variable {g : Wd} {X : Cx} {C : Addr} {x f : Str} {e o : Expr} {t : TA} {ta : TE} {p pos : Pos}
def tXfa (K : Frag) (f : Str) (ta : TE) : TE := fun σ H Q => ta σ H fun x H1 => ∃ a C dd fs v, x = .ref a ∧ H1 a = some (exv a C (some dd)) ∧ XdAt H1 dd fs ∧ fs.lookup f = some v ∧ XfC K C ∧ findIn K (.ref C) f = some none ∧ Q v H1
theorem pe_xfa (he : PE X e ta) (hb : attributeBase e f X.env (eval e X.env) = eval e X.env := by rfl) (at_ : At g X := by exact ⟨rfl, rfl, rfl, rfl, rfl⟩) : PE X (.Attribute e f pos) (tXfa g.K f ta) := by
  refine ⟨fun pins s σ H Q I h => ?_⟩
  refine attr_of hb (thn (he.run pins s σ H _ I h) fun u s1 hh => ?_)
  obtain ⟨x, H1, I1, rx, a, C, dd, fs, v, rfl, ea, ed, l, T, hno, q⟩ := hh
  obtain rfl : u = Value.ref a := rx
  obtain ⟨oe, vs, hoe, c1, c2, c3⟩ := exv_at I1.hok ea
  obtain ⟨mA, hns, hr⟩ := ed.at I1.hok
  obtain ⟨od, ho, hl⟩ := lookIn_ns hns
  obtain ⟨u, hu, ru⟩ := RelO.some_of (v := v) (o := mA f) (by rw [← l]; exact hr f)
  have J : InstAt s1.heap a oe C (some od) := ⟨hoe, c1, by unfold notCls; rw [c3] <;> rfl, by rw [c2]; exact ho⟩
  have KI := I1.kIn
  rw [at_.K] at KI
  exact HandSPX.exc_get KI J T.ga T.gg T.exC (findObj_own T.hdC hno rfl (by rw [hl, hu])) (handed_of ru) ⟨v, H1, I1.tok _, ru, q⟩
/-- isinstance(x, c), x what was caught -/
def rIsW (K : Frag) : List V → Hp → VK → Prop := fun xs H Q => ∃ (a C : Addr) (d : Option Addr) (c : V) (u : Value) (b : Bool), xs = [.ref a, c] ∧ ExcC K C ∧ ClsV c u ∧ H a = some (exv a C d) ∧ (∀ dd, d = some dd → ∃ fs, XdAt H dd fs) ∧ kitOne K (.ref C) u = some b ∧ Q (.bl b) H
theorem c_isW {K : Frag} (hK : X.K = K := by rfl) : CallR X (.builtin "isinstance") (rIsW K) := by
  subst hK
  intro pins s σ H xs us Q I r h
  obtain ⟨a, C, d, c, u, b, rfl, T, k, ea, ed, e, q⟩ := h
  obtain ⟨u1, u2, rfl, r1, r2⟩ := vals2 r
  have e2 := k.eq r2
  subst e2
  cases r1
  obtain ⟨oe, vs, hoe, c1, c2, c3⟩ := exv_at I.hok ea
  have J : ∃ ox od, InstAt s.heap a ox C od := by
    cases d with
    | none => exact ⟨oe, none, hoe, c1, by unfold notCls; rw [c3] <;> rfl, by rw [c2]; trivial⟩
    | some dd =>
      obtain ⟨fs, ef⟩ := ed dd rfl
      obtain ⟨mA, hns, hr⟩ := ef.at I.hok
      obtain ⟨od, ho, hl⟩ := lookIn_ns hns
      exact ⟨oe, some od, hoe, c1, by unfold notCls; rw [c3] <;> rfl, by rw [c2]; exact ho⟩
  exact kia_one (kitX T) I.kIn J e (fun z => nomatch z) fun tk => ⟨.bl b, H, I.tok tk, rfl, q⟩
/-- raise C() -/
def tPm0 (C : Addr) : L2.St → Hp → XK → Prop := fun σ H Q => Q (.ref C) none H
end
end RS
namespace RS
open PySem PySem.Spec PyProof.Rows L2 LamX
/-- nothing but the script and the tables is tracked -/
def OnlyT (cs : List (Addr × Addr)) (H : Hp) : Prop := ∀ b, H b = none ∨ b ∈ cs.map (·.2) ∨ ∃ o xs, H b = some (.frz o (.lst xs))
theorem lawT {P : Program} {w : World} {K : PySem.W.Frag} {mg mb : Str → Option Value} {k : Nat} {fa a : Addr} {cs : List (Addr × Addr)} {fd : FuncData} {x : Str} {sp : Sp} {s₁ : Shared} {vs : List Value} {ns : List Int}
    (KX : K.In s₁.heap) (gl : s₁.heap.Ns mainGlobals mg) (bl : s₁.heap.Ns builtinsNs mb) (bb : ∀ x : Str, x ≠ "__name__" → mb x = bootBuiltins x) (lim : s₁.heap.NoLimit) (ge : s₁.gens = #[])
    (tab : ∀ p ∈ cs, s₁.heap.get? p.2 = some { cls := .none, data := .fields #[] }) (tabN : ∀ p ∈ cs, K.lookup p.2 = none) (cod : ∀ p ∈ cs, PySem.W.CodeHd s₁.heap p.1 p.2)
    (bmd : ∃ (bm : Addr) (ob : Obj), mg "__builtins__" = some (.ref bm) ∧ bm ≠ builtinsNs ∧ s₁.heap.get? bm = some ob ∧ ob.cls = .type "module" ∧ ob.dict = some builtinsNs ∧ ob.data = .plain)
    (ha : s₁.heap.get? a = some { cls := .type "list", data := .seq vs.toArray }) (hi : IntsAre vs ns) (hl : ns.length ≤ sizeLine) (hr : Room k callerA) (sm : SmB s₁.heap)
    (F : ∀ base : Heap, K.In base → base.Ns mainGlobals mg → SmB base → (∀ p ∈ cs, TabB base mg p.1 p.2) → FnG ⟨P, w, K, mg, base⟩ k fa fd [x] sp) (bd : ∀ (s : Shared) (u : Value), BindsTo s fd ⟨[u], []⟩ [(x, u)])
    (hsp : ∀ H : Hp, (∀ p ∈ cs, H p.2 = some (.tbl #[])) → SqL K H a (ns.map V.int) → sp [.ref a] H (fun v _ => v = .bl true) fun _ _ _ => False) :
    codeAny (model P w) callerA (.call (.ref fa) ⟨[.ref a], []⟩) (fun r s' => r = .ok (.ret (.bool true)) ∧ OldK s₁.heap s'.heap ∧ s'.os = s₁.os ∧ AllBare s'.gens) s₁ := by
  have rv := vals_ints hi
  have tabM : ∀ b, b ∈ cs.map (·.2) → s₁.heap.get? b = some { cls := .none, data := .fields #[] } := fun b hb => by
    obtain ⟨p, hp, rfl⟩ := List.mem_map.mp hb
    exact tab p hp
  have mem : ∀ p ∈ cs, p.2 ∈ cs.map (·.2) := fun p hp => List.mem_map.mpr ⟨p, hp, rfl⟩
  have ncs : a ∉ cs.map (·.2) := fun z => by
    have q := tabM a z
    rw [ha] at q
    have z' : Data.seq vs.toArray _ = Data.fields #[] := congrArg Obj.data (Option.some.inj q)
    cases z'
  have go : ∀ H : Hp, (∀ p ∈ cs, H p.2 = some (.tbl #[])) → OnlyT cs H → SqL K H a (ns.map V.int) → HOk P w H s₁.heap → (∀ b, H b ≠ none → b = a ∨ b ∈ cs.map (·.2)) → (H a ≠ none → K.lookup a = none) →
      codeAny (model P w) callerA (.call (.ref fa) ⟨[.ref a], []⟩) (fun r s' => r = .ok (.ret (.bool true)) ∧ OldK s₁.heap s'.heap ∧ s'.os = s₁.os ∧ AllBare s'.gens) s₁ := by
    intro H hH hO hS hok hA hK
    have free : ∀ {b : Addr} {o : Obj}, s₁.heap.get? b = some o → (∀ v n, o.data ≠ .seq v n) → o.data ≠ .fields #[] → H b = none := by
      intro b o e n1 n2
      cases q : H b with
      | none => rfl
      | some u =>
        rcases hA b (by rw [q]; simp) with rfl | z
        · rw [ha] at e
          cases e
          exact absurd rfl (n1 _ _)
        · rw [tabM b z] at e
          cases e
          exact absurd rfl n2
    have freeD : ∀ {b : Addr} {o : Obj} {es : Array DictEntry} {n : Nat}, s₁.heap.get? b = some o → o.data = .dict es n → H b = none := fun e d =>
      free e (fun v m z => by rw [d] at z; cases z) (fun z => by rw [d] at z; cases z)
    have ns1 : ∀ {b : Addr} {m : Str → Option Value}, s₁.heap.Ns b m → (hidT s₁.heap H).Ns b m := by
      rintro b m ⟨o, es, ep, e, d, r⟩
      exact ⟨o, es, ep, hidT_get e (freeD e d), d, r⟩
    have K1 : K.In (hidT s₁.heap H) := by
      intro b o e
      refine hidT_get (KX b o e) ?_
      cases q : H b with
      | none => rfl
      | some u =>
        rcases hA b (by rw [q]; simp) with rfl | z
        · rw [hK (by rw [q]; simp)] at e
          cases e
        · obtain ⟨p, hp, rfl⟩ := List.mem_map.mp z
          rw [tabN p hp] at e
          cases e
    have md : Mod K mg (hidT s₁.heap H) := by
      obtain ⟨mc, l1, l2⟩ := lim
      exact ⟨K1, ns1 gl, ⟨mb, ns1 bl, bb⟩, mc, ns1 l1, l2⟩
    have TB : ∀ p ∈ cs, TabB (hidT s₁.heap H) mg p.1 p.2 := by
      intro p hp
      refine ⟨?_, ?_, fun z => ?_⟩
      · obtain ⟨o, us, file, tf, flags, tg, inF, text, tt, e1, r1, r2, r3, rest⟩ := cod p hp
        refine ⟨o, us, file, tf, flags, tg, inF, text, tt, hidT_get e1 (free e1 (fun v n z => by rw [r2] at z; cases z) fun z => ?_), r1, r2, r3, rest⟩
        rw [r2] at z
        cases z
        simp at r3
      · obtain ⟨bm, ob, b1, b2, b3, b4, b5, b6⟩ := bmd
        refine ⟨bm, ob, b1, b2, fun z => ?_, fun z => ?_, hidT_get b3 (free b3 (fun v n y => by rw [b6] at y; cases y) fun y => by rw [b6] at y; cases y), b4, b5, b6⟩
        · obtain ⟨o, es, ep, e, d, _⟩ := gl
          rw [z, e] at b3
          cases b3
          rw [d] at b6; cases b6
        · rw [z, tab p hp] at b3
          cases b3
          cases b6
      · obtain ⟨o, es, ep, e, d, _⟩ := gl
        rw [z, tab p hp] at e
        cases e
        cases d
    have e0 : Env0 P w K mg (hidT s₁.heap H) callerA [] s₁ H :=
      { frames := rfl, mod := md, bs := fun b o e => of_hidT e, bsz := Nat.le_of_eq (hidT_size _ _), funs := trivial, frf := fun b hb => (nomatch hb), hok := hok, bare := .of_eq ge }
    have sm1 : SmB (hidT s₁.heap H) := by
      obtain ⟨o, es, n, e, d⟩ := sm
      exact ⟨o, es, n, hidT_get e (freeD e d), d⟩
    refine codeAny_mono ((F _ K1 (ns1 gl) sm1 TB).run callerA [] s₁ H ⟨[.ref a], []⟩ [.ref a] [.ref a] _ _ hr rfl e0 (bd s₁ (.ref a)) (.cons rfl .nil) (hsp H hH hS)) ?_
    rintro r s' h
    cases r with
    | error e =>
      obtain ⟨_, _, _, _, _, _, _, _, _, _, _, _, z⟩ := h
      exact z.elim
    | ok fl => cases fl with
      | ret u =>
        obtain ⟨v, H', os, bare, un, hok', r', q⟩ := h
        obtain rfl : v = .bl true := q
        obtain rfl : u = Value.bool true := r'
        have kept : ∀ b o, b ∉ cs.map (·.2) → s₁.heap.get? b = some o → s'.heap.get? b = some o := fun b o nb e => by
          rcases hO b with z | z | ⟨ob, xs, z⟩
          · exact un.keep b o e z (fun y => (nomatch y)) (fun y => (nomatch y))
          · exact absurd z nb
          · have z2 := un.frzs b ob _ z
            have e1 := (hok b _ z).1
            rw [e] at e1
            cases e1
            exact (hok' b _ z2).1
        have grown : ∀ p ∈ cs, ∃ more : Array Value, s'.heap.get? p.2 = some { cls := .none, data := .fields more } := fun p hp => by
          obtain ⟨more, z⟩ := un.tbls p.2 #[] (hH p hp)
          exact ⟨_, hok' p.2 _ z⟩
        refine ⟨rfl, ⟨fun b o e => ?_, fun b o e => ?_⟩, os, bare⟩
        · by_cases hb : b ∈ cs.map (·.2)
          · obtain ⟨p, hp, rfl⟩ := List.mem_map.mp hb
            obtain ⟨more, hm⟩ := grown p hp
            rw [tab p hp] at e
            cases e
            refine .inr (.inl ⟨((cod p hp).tab (tab p hp)).isCodeTable, rfl, #[], more, rfl, ?_⟩)
            rw [Array.empty_append]; exact hm
          · exact .inl (kept b o hb e)
        · by_cases hb : b ∈ cs.map (·.2)
          · obtain ⟨p, hp, rfl⟩ := List.mem_map.mp hb
            obtain ⟨more, hm⟩ := grown p hp
            exact ⟨_, hm⟩
          · exact ⟨o, kept b o hb e⟩
      | _ => exact h.elim
  let Ht : Hp := fun b => if b ∈ cs.map (·.2) then some (.tbl #[]) else none
  have ht1 : ∀ b, b ∈ cs.map (·.2) → Ht b = some (.tbl #[]) := fun b hb => if_pos hb
  have ht0 : ∀ b, b ∉ cs.map (·.2) → Ht b = none := fun b hb => if_neg hb
  have htok : HOk P w Ht s₁.heap := fun b u z => by
    by_cases hb : b ∈ cs.map (·.2)
    · rw [ht1 b hb] at z
      cases z
      exact tabM b hb
    · rw [ht0 b hb] at z; cases z
  cases hk : K.lookup a with
  | some o =>
    have e := KX a o hk
    rw [ha] at e
    cases e
    refine go Ht (fun p hp => ht1 _ (mem p hp)) (fun b => ?_) (.inr ⟨_, vs.toArray, _, hk, rfl, rfl, rfl, by rw [List.size_toArray, hi.length]; exact hl, by simpa using rv⟩) htok (fun b z => ?_) fun z => absurd (ht0 a ncs) z
    · by_cases hb : b ∈ cs.map (·.2)
      · exact .inr (.inl hb)
      · exact .inl (ht0 b hb)
    · by_cases hb : b ∈ cs.map (·.2)
      · exact .inr hb
      · exact absurd (ht0 b hb) z
  | none =>
    have hta := ht0 a ncs
    refine go (upd Ht a (.frz { cls := .type "list", data := .seq vs.toArray } (.lst (ns.map V.int)))) (fun p hp => ?_) (fun b => ?_) (.inl (.inr ⟨_, upd_same⟩)) (fun b u z => ?_) (fun b z => ?_) fun _ => hk
    · rw [upd_ne (fun y : p.2 = a => ncs (by rw [← y]; exact mem p hp))]; exact ht1 _ (mem p hp)
    · by_cases hb : b = a
      · subst hb; exact .inr (.inr ⟨_, _, upd_same⟩)
      · rw [upd_ne hb]
        by_cases hc : b ∈ cs.map (·.2)
        · exact .inr (.inl hc)
        · exact .inl (ht0 b hc)
    · by_cases hb : b = a
      · subst hb
        rw [upd_same] at z
        cases z
        exact ⟨ha, by rw [List.length_map]; exact hl, vs, _, rv, ha⟩
      · rw [upd_ne hb] at z
        exact (htok b u z).stay (fun _ _ _ q => q) (fun y hy => by rw [upd_ne (ne_of_none hy hta)]; exact hy) (fun y xs hy => by rw [upd_ne (ne_of_none hy hta)]; exact hy)
    · by_cases hb : b = a
      · exact .inl hb
      · rw [upd_ne hb] at z
        by_cases hc : b ∈ cs.map (·.2)
        · exact .inr hc
        · exact absurd (ht0 b hc) z
/-- what the facts of the top give: the law's def with the tables of its makers of lambdas -/
def LawTs (l : PySem.W.OpenLaw) (w : World) (K : PySem.W.Frag) (k n : Nat) (x : Str) (mg : Str → Option Value) (fa : Addr) (h : Heap) : Prop :=
  ∃ (fd : FuncData) (cs : List (Addr × Addr)) (sp : Sp), (∀ p ∈ cs, h.get? p.2 = some { cls := .none, data := .fields #[] }) ∧ (∀ p ∈ cs, K.lookup p.2 = none) ∧ (∀ p ∈ cs, PySem.W.CodeHd h p.1 p.2) ∧ (∀ (s : Shared) (u : Value), BindsTo s fd ⟨[u], []⟩ [(x, u)]) ∧
    (∀ (H : Hp) (a : Addr) (ns : List Int), ns.length ≤ n → (∀ p ∈ cs, H p.2 = some (.tbl #[])) → SqL K H a (ns.map V.int) → sp [.ref a] H (fun v _ => v = .bl true) fun _ _ _ => False) ∧
    ∀ base : Heap, K.In base → base.Ns mainGlobals mg → SmB base → (∀ p ∈ cs, TabB base mg p.1 p.2) → FnG ⟨l.prog, w, K, mg, base⟩ k fa fd [x] sp
/-- the tables of the defs, by their names -/
def TabF (q : Program) (K : PySem.W.Frag) (h : Heap) : Prop := ∀ (x : Str) (d : DefRec) (c P : Addr), (recsOf q).find? (fun e => e.name == x) = some d → PySem.W.tabIn K x = some (c, P) → PySem.W.CodeHd h c P ∧ h.get? P = some { cls := .none, data := .fields #[] }
theorem walkT {l : PySem.W.OpenLaw} {n k : Nat} {q : Program} {loose : List Str} {XP : (Str → Option Value) → Heap → Prop} {YP : World → Heap → Prop} {d : DefRec} {K : Params → PySem.W.Frag} {x : Str}
    (hn : l.most = some n) (hn2 : n ≤ sizeLine) (hdf : d.params.defaults = []) (hr : Room k callerA)
    (hY : ∀ (w : World) (h : Heap), YP w h → (K w.params).In h) (hY2 : ∀ (w : World) (h : Heap), YP w h → SmB h)
    (F : ∀ (w : World) (mg : Str → Option Value) (fa : Addr) (h : Heap), YP w h → (K w.params).In h → h.Ns mainGlobals mg → mg d.name = some (.ref fa) → TabF q (K w.params) h → LawTs l w (K w.params) k n x mg fa h) :
    PySem.W.WalkO q loose XP YP l.row.toRowW d [] (fun f vs => PySem.call f vs) := by
  refine Att.attach_callB hn hdf fun w s₀ s₁ mg mb fa o pm cd doc a vs ns G Y ho hd hcd hmg hobj hints hlen hbits hg => ?_
  obtain ⟨fd, cs, sp, t1, t2, t3, hb, hsp, hF⟩ := F w mg fa _ Y (hY w _ Y) G.T.g hmg fun x d c P h1 h2 => PySem.W.tab_of G.T (hY w _ Y) h1 h2
  exact lawT (hY w _ Y) G.T.g G.T.b G.T.builtins G.T.nolimit hg t1 t2 t3 G.T.bmain hobj hints (Nat.le_trans hlen hn2) hr (hY2 w _ Y) hF hb fun H hH hS => hsp H a ns hlen hH hS
end RS
namespace RS
open PySem PySem.Spec L2 PyProof.Rows ClX
section
variable {g : Wd} {X : Cx} {k : Nat} {C : Addr} {ps : List Str} {sp : Sp} {W : WX} {ds : List V} {p pos apos : Pos} {a b o i : Expr} {ta tb to ti : TE}
def tIxOwn (C : Addr) (sp : Sp) (ds : List V) (W : WX) (to ti : TE) : TE := fun σ H Q => to σ H fun x H1 => ti σ H1 fun y H2 => ∃ q dx fs, x = .ref q ∧ H2 q = some (.ins C dx fs) ∧ sp ([.ref q, y] ++ ds) H2 Q (fun c d H' => W c d σ H')
/-- the method that the class at C has under the name m is a def -/
def FnAtC (K : PySem.W.Frag) (C : Addr) (m : Str) : Prop := ∀ f, PySem.W.findIn K (.ref C) m = some (some (.ref f)) → PySem.W.fnIn K f = true
def tInOwn (C : Addr) (sp : Sp) (ds : List V) (W : WX) (n : Bool) (ta tb : TE) : TE := fun σ H Q => ta σ H fun y H1 => tb σ H1 fun x H2 => ∃ q dx fs, x = .ref q ∧ H2 q = some (.ins C dx fs) ∧
  sp ([.ref q, y] ++ ds) H2 (fun v H' => ∃ c, v = .bl c ∧ Q (.bl (n != c)) H') (fun c d H' => W c d σ H')
def tPropG (C : Addr) (sp : Sp) (W : WX) (ta : TE) : TE := fun σ H Q => ta σ H fun x H1 => ∃ q dx fs, x = .ref q ∧ H1 q = some (.ins C dx fs) ∧ sp [.ref q] H1 Q (fun c d H' => W c d σ H')
def tMethK (C : Addr) (m : Str) (n : Nat) (sp : Sp) (pm : List Nat) (dvs : List V) (W : WX) (ta : TE) (t : TA) : TE := fun σ H Q => ta σ H fun x H1 => ∃ q dx fs, x = .ref q ∧ H1 q = some (.ins C dx fs) ∧ fs.lookup m = none ∧
  t σ H1 fun zs H2 => zs.length = n ∧ sp (.ref q :: (pm.map fun i => zs.getD i .non) ++ dvs) H2 Q (fun c d H' => W c d σ H')
end
end RS
namespace RS
open PySem PySem.Spec L2 PyProof.Rows GenW
end RS
namespace RS
open PySem PySem.Spec L2 PyProof.Rows LamX
/-- a def of the text whose code object stands at c -/
structure DfC (K : PySem.W.Frag) (x qual : Str) (st : Stmt) (f : Addr) (fd : FuncData) (c : Addr) : Prop where
  ex : ∃ (oc : Value) (od : Option Addr) (kV doc pm : Value) (an : Option Addr) (ct : Value) (osl : Array (Option Value)),
    fd = PySem.W.fnOf x qual (defArgs st) (defBody st) (defScope st) .none kV doc pm an (.ref c) ct ∧ K.lookup f = some ⟨oc, od, .func fd, osl⟩ ∧ PySem.W.codeIn K (.ref c) qual = true
  kp : PySem.W.keepIn K (.ref f) = true
theorem DfC.ok {g : Wd} {x qual : Str} {st : Stmt} {f : Addr} {fd : FuncData} {c : Addr} {N ps : List Str} {k : Nat} {sp : Sp} (F : DfC g.K x qual st f fd c) (S : FnScope N ps (defScope st))
    (len : ∀ vs H Q E, sp vs H Q E → vs.length = ps.length)
    (hbody : ∀ (A : Around) (outer : List Env) (s : Shared) (H : Hp) (vs : List V) (Q : VK) (E : XK), Rm k (cx g N qual st f (.ref c) A outer s H E) → sp vs H Q E →
      ∃ t, PSs (cx g N qual st f (.ref c) A outer s H E) (defBody st) t ∧ t { nx := fun _ H' => Q .non H', rt := Q } (start N vs) H) : FnG g (k + 1) f fd ps sp := by
  obtain ⟨oc, od, kV, doc, pm, an, ct, osl, rfl, lk, hcd⟩ := F.ex
  refine ⟨len, fun A outer s H args us vs Q E hr hg e0 hb rv hsp => ?_⟩
  exact run_ofS (CX := L2.CX g.P g.w) lk hcd S hr e0 hb rv (len _ _ _ _ hsp) fun hr' => hbody A outer s H vs Q E ⟨hr', hg⟩ hsp
/-- what is known of the tables: T tells them all; c: the code object of the def qual, P its table -/
structure LamT (g : Wd) (T : List (Addr × Str)) (c P : Addr) (qual : Str) : Prop where
  tb : TabB g.base g.mg c P
  mem : (P, (qual ++ ".<locals>.") ++ "<lambda>") ∈ T
  uni : ∀ p ∈ T, p.1 = P → p.2 = (qual ++ ".<locals>.") ++ "<lambda>"
/-- but for the places fp and the tables all stays -/
def FrT (fp : List Addr) (H H' : Hp) : Prop := ∀ b o, b ∉ fp → (∀ ps, o ≠ .tbl ps) → H b = some o → H' b = some o
theorem FrT.refl {fp : List Addr} (H : Hp) : FrT fp H H := fun _ _ _ _ h => h
theorem FrT.trans {fp : List Addr} {H H1 H2 : Hp} (a : FrT fp H H1) (b : FrT fp H1 H2) : FrT fp H H2 := fun c o n t h => b c o n t (a c o n t h)
theorem FrT.of {fp : List Addr} {H H' : Hp} (s : Same H H') : FrT fp H H' := fun c o _ _ h => s c o h
theorem FrT.ofN {fp : List Addr} {H H' : Hp} (s : ExtN H H') : FrT fp H H' := fun c o _ t h => s c o h t
theorem FrT.sub {fp fq : List Addr} {H H' : Hp} (a : FrT fp H H') (h : ∀ c ∈ fp, c ∈ fq ∨ H c = none) : FrT fq H H' := fun c o n t e => a c o (fun z => (h c z).elim n (fun y => by rw [y] at e; cases e)) t e
/-- but for the places fp all stays -/
def Fr1 (fp : List Addr) (H H' : Hp) : Prop := ∀ b o, b ∉ fp → H b = some o → H' b = some o
theorem Fr1.refl {fp : List Addr} (H : Hp) : Fr1 fp H H := fun _ _ _ h => h
theorem Fr1.trans {fp : List Addr} {H H1 H2 : Hp} (a : Fr1 fp H H1) (b : Fr1 fp H1 H2) : Fr1 fp H H2 := fun c o n h => b c o n (a c o n h)
theorem Fr1.of {fp : List Addr} {H H' : Hp} (s : Same H H') : Fr1 fp H H' := fun c o _ h => s c o h
theorem Fr1.sub {fp fq : List Addr} {H H' : Hp} (a : Fr1 fp H H') (h : ∀ c ∈ fp, c ∈ fq ∨ H c = none) : Fr1 fq H H' := fun c o n e => a c o (fun z => (h c z).elim n (fun y => by rw [y] at e; cases e)) e
theorem Fr1.upd {fp : List Addr} {H : Hp} {a : Addr} {o : HO} (h : a ∈ fp) : Fr1 fp H (L2.upd H a o) := fun c u n e => by rw [upd_ne (fun z : c = a => n (by rw [z]; exact h))]; exact e
/-- the tables stand where only other things change -/
theorem Tabs.fr {T : List (Addr × Str)} {fp : List Addr} {H H' : Hp} (t : Tabs T H) (n : ∀ c ∈ fp, ∀ o, H c = some o → (∀ ps, o ≠ .tbl ps) ∧ ∀ φ, o ≠ .ext φ) (f : Fr1 fp H H') : Tabs T H' := fun p hp => by
  obtain ⟨ps, h1, h2, h3⟩ := t p hp
  have k : ∀ c o, H c = some o → ((∃ ps, o = .tbl ps) ∨ ∃ φ, o = .ext φ) → H' c = some o := fun c o e z => f c o (fun m => by
    have := n c m o e
    rcases z with ⟨ps, z⟩ | ⟨φ, z⟩
    · exact this.1 ps z
    · exact this.2 φ z) e
  refine ⟨ps, k _ _ h1 (.inl ⟨_, rfl⟩), h2, fun pos cv hc => ?_⟩
  obtain ⟨c, e1, e2⟩ := h3 pos cv hc
  exact ⟨c, e1, k _ _ e2 (.inr ⟨_, rfl⟩)⟩
theorem Tabs.same {T : List (Addr × Str)} {H H' : Hp} (t : Tabs T H) (s : Same H H') : Tabs T H' := t.ext s
section
variable {g : Wd} {k : Nat} {N ps : List Str} {x qual : Str} {st : Stmt} {f c P : Addr} {A : Around} {outer : List Env} {s : Shared} {H : Hp} {E : XK} {T : List (Addr × Str)} {TT : Addr → Str → (XK → Hp → VK → Prop) → Hp → VK → Prop}
  {params : Arguments} {body : Expr} {scope : Scope} {t : XK → TE} {p lpos pos : Pos}
/-- x(lambda: body), in a def that is walked -/
theorem pe_lam (F : Told g (k + 1) x TT) (L : LamT g T c P qual) (hr : Rm (k + 2) (cx g N qual st f (.ref c) A outer s H E)) (LS : lamSB (defScope st) scope = true)
    (hbody : ∀ (A' : Around) (outer' : List Env) (s' : Shared) (H' : Hp) (E' : XK) (f' c' : Addr), Rm k (lamCx (cx g N qual st f (.ref c) A outer s H E) A' outer' s' H' E' scope f' c') → PE (lamCx (cx g N qual st f (.ref c) A outer s H E) A' outer' s' H' E' scope f' c') body (t E'))
    (hdef : defaultsOf params (cx g N qual st f (.ref c) A outer s H E).env = ([], []) := by rfl)
    (hbind : ∀ (q : Str) (cl : List (Str × Addr)) (pm cv ctv : Value), bindArgs (PySem.W.kla_fn "<lambda>" q params body scope cl pm cv ctv) ⟨[], []⟩ = pure [] := by intro _ _ _ _ _; rfl)
    (hg : Gl (cx g N qual st f (.ref c) A outer s H E) x := by rfl) (hdb : (x == ("__debug__" : Str)) = false := by decide) :
    PE (cx g N qual st f (.ref c) A outer s H E) (.Call (.Name x p) [.Lambda params body scope lpos] [] pos) (tLamG T TT ((qual ++ ".<locals>.") ++ "<lambda>") t) :=
  pe_lamG F hr L.tb rfl L.mem L.uni (lamS_by LS) hdef hbind hbody hg hdb
end
/-- what a lambda's body may raise into -/
theorem takesL {X : Cx} {A : Around} {outer : List Env} {s : Shared} {H : Hp} {E : XK} {scope : Scope} {f c' : Addr} : Takes (lamCx X A outer s H E scope f c') (fun cls d _ H' => E cls d H') := by
  intro u s' x
  exact XE.leave (X := lamCx X A outer s H E scope f c') (E := E) rfl rfl rfl (fun _ _ _ _ h => h) x
end RS
namespace RS
open PySem PySem.Spec L2 PyProof.Rows
section
variable {g : Wd} {X : Cx} {K : PySem.W.Frag} {C : Addr} {e o i f value : Expr} {ta te tv td ty tx : TE} {p pos apos cpos tpos : Pos} {k : Nat}
def tListGen (C : Addr) (m : Str) (sp : SpG) (ta : TE) : TE := fun σ H Q => ta σ H fun x H1 => ∃ a dx fs, x = .ref a ∧ H1 a = some (.ins C dx fs) ∧ fs.lookup m = none ∧ sp [.ref a] H1 (fun out H2 => ∀ p, H2 p = none → Q (.ref p) (upd H2 p (.lst out))) (fun _ _ _ => False)
end
end RS
namespace RS
open PySem PySem.Spec L2 PyProof.Rows
section
variable {X : Cx} {k : Nat}
/-- d != {} -/
def rNeD0 : R2 := fun x y H Q => ∃ a b ks, x = .ref a ∧ y = .ref b ∧ H a = some (.dK ks) ∧ H b = some (.dK []) ∧ Q (.bl (!ks.isEmpty)) H
/-- int(x): of an int, of a truth value, of a text -/
def rIntA : List V → Hp → VK → Prop := fun xs H Q => ((∃ i, xs = [.int i] ∧ Q (.int i) H) ∨ ∃ k, xs = [.bl k] ∧ Q (.int (if k then 1 else 0)) H) ∨ ∃ a n, xs = [.str a] ∧ PySem.intText? a = some n ∧ a.length ≤ 640 ∧ Q (.int n) H
theorem c_intA : CallR X (.type "int") rIntA := fun pins s σ H xs us Q I r h => h.elim (call_int1 pins s σ H xs us Q I r) (call_int_str pins s σ H xs us Q I r)
theorem intA_i {i : Int} {H : Hp} {Q : VK} : rIntA [.int i] H Q = Q (.int i) H := by
  refine propext ⟨fun h => ?_, fun q => .inl (.inl ⟨i, rfl, q⟩)⟩
  rcases h with (⟨j, e, q⟩ | ⟨k, e, q⟩) | ⟨a, n, e, _⟩
  · cases e; exact q
  · cases e
  · cases e
theorem intA_b {b : Bool} {H : Hp} {Q : VK} : rIntA [.bl b] H Q = Q (.int (if b then 1 else 0)) H := by
  refine propext ⟨fun h => ?_, fun q => .inl (.inr ⟨b, rfl, q⟩)⟩
  rcases h with (⟨j, e, q⟩ | ⟨k, e, q⟩) | ⟨a, n, e, _⟩
  · cases e
  · cases e; exact q
  · cases e
end
end RS
namespace RS
open PySem PySem.Spec L2 PyProof.Rows
section
variable {g : Wd} {X : Cx} {k : Nat} {C : Addr} {ps : List Str} {sp : Sp} {W : WX} {p pos apos : Pos} {o e : Expr} {es : List Expr} {ta : TE} {tp : TA}
def tMethP (C : Addr) (m : Str) (np n : Nat) (sp : Sp) (pm : List Nat) (dvs : List V) (W : WX) (ta : TE) (tp t : TA) : TE := fun σ H Q => ta σ H fun x H1 => ∃ q dx fs, x = .ref q ∧ H1 q = some (.ins C dx fs) ∧ fs.lookup m = none ∧
  tp σ H1 fun us H2 => t σ H2 fun zs H3 => us.length = np ∧ zs.length = n ∧ sp (.ref q :: us ++ (pm.map fun i => zs.getD i .non) ++ dvs) H3 Q (fun c d H' => W c d σ H')
end
end RS
namespace RS
open PySem PySem.Spec L2 LamX
theorem dfc_mk {K : PySem.W.Frag} {x qual : Str} {st : Stmt} {f c : Addr} {oc : Value} {od an : Option Addr} {osl : Array (Option Value)} {kV doc pm ct : Value} (l : K.lookup f = some ⟨oc, od, .func (PySem.W.fnOf x qual (defArgs st) (defBody st) (defScope st) .none kV doc pm an (.ref c) ct), osl⟩)
    (h : PySem.W.codeIn K (.ref c) qual = true) (k : PySem.W.keepIn K (.ref f) = true) : DfC K x qual st f (PySem.W.fnOf x qual (defArgs st) (defBody st) (defScope st) .none kV doc pm an (.ref c) ct) c := ⟨⟨oc, od, kV, doc, pm, an, ct, osl, rfl, l, h⟩, k⟩
theorem FnAtC.of {K : PySem.W.Frag} {C f : Addr} {m : Str} (h : PySem.W.findIn K (.ref C) m = some (some (.ref f))) (h2 : PySem.W.fnIn K f = true) : FnAtC K C m := fun f' e => by
  rw [h] at e
  cases e
  exact h2
/-- empty tables -/
theorem tabs0 {T : List (Addr × Str)} {H : Hp} (h : ∀ p ∈ T, H p.1 = some (.tbl #[])) : Tabs T H := fun p hp =>
  ⟨#[], h p hp, by simp [TriplesOk], fun pos cv e => by simp [codeAmong] at e⟩
end RS
namespace RS
open PySem PySem.Spec L2
section
variable {g : Wd} {X : Cx} {k : Nat} {C : Addr} {sp : Sp} {W : WX} {m : Str} {p pos apos : Pos} {o e : Expr} {es : List Expr} {ta : TE} {t : TA}
def tMethS (C : Addr) (m : Str) (sp : Sp) (W : WX) (ta : TE) (t : TA) : TE := fun σ H Q => ta σ H fun x H1 => ∃ a dx fs, x = .ref a ∧ H1 a = some (.ins C dx fs) ∧ fs.lookup m = none ∧
  t σ H1 fun vs H2 => sp (x :: vs) H2 Q (fun c d H' => W c d σ H')
end
end RS
namespace RS
open PySem PySem.Spec L2 PyProof.Rows LamX
section
variable {X : Cx} {pins : List (Addr × Obj)} {σ : L2.St} {H : Hp} {s : Shared}
/-- the tail of a making: the defaults' tuple stands at T0 -/
theorem lam_tailD {T : List (Addr × Str)} {c P T0 : Addr} {v0 : Value} {params : Arguments} {body : Expr} {scope : Scope} {pos : Pos} {E : Value → Shared → Prop} {Q : Value → Shared → Prop} (I : Inv X pins σ H s) (TB : TabB X.base X.mg c P) (hcode : X.env.code = .ref c)
    (hm : (P, X.env.qual ++ "<lambda>") ∈ T) (hu : ∀ p ∈ T, p.1 = P → p.2 = X.env.qual ++ "<lambda>") (hT : Tabs T H) (hfree : ∀ y ∈ scope.names, y.2 = .free → ∃ c, X.env.cells.lookup y.1 = some c)
    (h0 : s.heap.get? T0 = some (PySem.W.kdv_tup [v0])) (n0 : H T0 = none) (r0 : T0 ∉ frs X.stack)
    (h : ∀ (f c' : Addr) (pm ctv doc : Value) (H1 : Hp) (s' : Shared), Inv X pins σ H1 s' → ExtN H H1 → Tabs T H1 →
      s'.heap.get? f = some (PySem.W.kdv_obj "<lambda>" (X.env.qual ++ "<lambda>") params (.expr body) scope (cloFrom X.env.cells scope.names []) (.ref T0) doc pm c' ctv) → H1 f = none → f ∉ frs X.stack →
      s'.heap.get? T0 = some (PySem.W.kdv_tup [v0]) → H1 T0 = none → H1 c' = some (CodeO c' (X.env.qual ++ "<lambda>")) → Q (.ref f) s') :
    wpAny (model X.prog X.w) X.A (makeTail "<lambda>" (X.env.qual ++ "<lambda>") params (.expr body) scope X.env (.ref T0) .none none pos pos.line) Q E s := by
  obtain ⟨ps, hP, ht, ha⟩ := hT _ hm
  have bP : s.heap.BuiltinsAt X.mg P := TB.bm.keeps I.bk
  have hP' : s.heap.get? P = some { cls := .none, data := .fields ps } := I.hok P _ hP
  have nofr : ∀ f, s.heap.objs.size ≤ f → f ∉ frs X.stack := fun f hf z => by
    rcases List.mem_cons.mp (I.stkSub _ z) with e | e
    · have h1 := I.lt
      rw [← e] at h1
      exact Nat.lt_irrefl _ (Nat.lt_of_lt_of_le h1 hf)
    · exact I.nofs hf e
  have n0P : T0 ≠ P := fun z => by rw [z, hP] at n0; cases n0
  cases hc : codeAmong pos ps.toList with
  | none =>
    refine PySem.W.kdv_makeTail (mg := X.mg) (c := c) (P := P) (ps := ps) (closure_ok hfree) I.ok.glob (I.mod.glob.keeps I.bk) hcode (TB.code.keeps I.bk) hP' ht hc TB.gP bP fun c' ctv doc h' tk hx hge hlt hrec htb => ?_
    obtain ⟨c2, oc, vs, t, e2, hoc, hd, hv⟩ := hrec
    cases e2
    have hsz : s.heap.objs.size ≤ h'.objs.size := Nat.le_trans hge (Nat.le_of_lt hlt)
    have nC : H c' = none := I.hok.fresh hge
    have I1 := inv_table (t' := tk) (more := #[rawInt pos.line, rawInt pos.col, .ref c']) (h' := h'.push (PySem.W.kdv_obj "<lambda>" (X.env.qual ++ "<lambda>") params (.expr body) scope (cloFrom X.env.cells scope.names []) (.ref T0) doc ((X.mg "__name__").getD .none) c' ctv)) I hP
      (fun b o hb e => Heap.get?_push_of_some _ (hx b o hb e)) (Heap.get?_push_of_some _ htb) hge ⟨oc, vs, t, Heap.get?_push_of_some _ hoc, hd, hv⟩
    have hE : ExtN H (upd (upd H P (.tbl (ps ++ #[rawInt pos.line, rawInt pos.col, .ref c']))) c' (CodeO c' (X.env.qual ++ "<lambda>"))) := fun b o e n => by
      rw [upd_ne (ne_of_none e nC), upd_ne (fun z => n ps (Option.some.inj (e.symm.trans (by rw [z]; exact hP))))]
      exact e
    have eL : (ps ++ #[rawInt pos.line, rawInt pos.col, .ref c']).toList = ps.toList ++ [rawInt pos.line, rawInt pos.col, .ref c'] := by simp
    refine h h'.objs.size c' ((X.mg "__name__").getD .none) ctv doc _ _ I1 hE (fun p hp => ?_) (Heap.get?_push_size _ rfl) ?_ (nofr _ hsz) (Heap.get?_push_of_some _ (hx _ _ n0P h0)) ?_ upd_same
    · by_cases hb : p.1 = P
      · rw [hu p hp hb, hb]
        refine ⟨_, by rw [upd_ne (ne_of_none hP nC), upd_same], by rw [eL]; exact PySem.TriplesOk_snoc _ _ _ _ ht, fun p' cv hcv => ?_⟩
        rw [eL] at hcv
        rcases among_app _ ht hcv with z | z
        · obtain ⟨c0, e1, e2⟩ := ha p' cv z
          exact ⟨c0, e1, hE _ _ e2 codeO_ne⟩
        · exact ⟨c', z, upd_same⟩
      · obtain ⟨ps', a1, a2, a3⟩ := hT p hp
        refine ⟨ps', by rw [upd_ne (ne_of_none a1 nC), upd_ne hb]; exact a1, a2, fun p' cv hcv => ?_⟩
        obtain ⟨c0, e1, e2⟩ := a3 p' cv hcv
        exact ⟨c0, e1, hE _ _ e2 codeO_ne⟩
    · have n1 : h'.objs.size ≠ c' := Nat.ne_of_gt hlt
      have n2 : h'.objs.size ≠ P := Nat.ne_of_gt (Nat.lt_of_lt_of_le (Heap.lt_size hP') hsz)
      rw [upd_ne n1, upd_ne n2]
      exact I.hok.fresh hsz
    · have n1 : T0 ≠ c' := Nat.ne_of_lt (Nat.lt_of_lt_of_le (Heap.lt_size h0) hge)
      rw [upd_ne n1, upd_ne n0P]
      exact n0
  | some cv =>
    obtain ⟨c', e, hco⟩ := ha pos cv hc
    subst e
    refine PySem.W.kdv_makeTailHit (mg := X.mg) (c := c) (P := P) (ps := ps) (closure_ok hfree) I.ok.glob (I.mod.glob.keeps I.bk) hcode (TB.code.keeps I.bk) hP' ht hc bP fun ctv doc h' tk hx hsz => ?_
    have I1 : Inv X pins σ H { s with heap := h'.push (PySem.W.kdv_obj "<lambda>" (X.env.qual ++ "<lambda>") params (.expr body) scope (cloFrom X.env.cells scope.names []) (.ref T0) doc ((X.mg "__name__").getD .none) c' ctv), toks := tk } := I.kept fun b o e => Heap.get?_push_of_some _ (hx b o e)
    exact h h'.objs.size c' ((X.mg "__name__").getD .none) ctv doc H _ I1 (ExtN.refl H) hT (Heap.get?_push_size _ rfl) (I.hok.fresh hsz) (nofr _ hsz) (Heap.get?_push_of_some _ (hx _ _ h0)) n0 hco
/-- the lambda is made -/
theorem lam_makeD {T : List (Addr × Str)} {c P : Addr} {params : Arguments} {body : Expr} {scope : Scope} {pos : Pos} {z : Int} {kk : Nat} {pp : Pos} {E : Value → Shared → Prop} {Q : Value → Shared → Prop} (I : Inv X pins σ H s) (TB : TabB X.base X.mg c P) (hcode : X.env.code = .ref c)
    (hm : (P, X.env.qual ++ "<lambda>") ∈ T) (hu : ∀ p ∈ T, p.1 = P → p.2 = X.env.qual ++ "<lambda>") (hT : Tabs T H) (hdf : params.defaults = [.Constant (.int z) kk pp]) (hk0 : params.kw_defaults = []) (hfree : ∀ y ∈ scope.names, y.2 = .free → ∃ c, X.env.cells.lookup y.1 = some c)
    (h : ∀ (f c' T0 : Addr) (v0 pm ctv doc : Value) (H1 : Hp) (s' : Shared), Inv X pins σ H1 s' → ExtN H H1 → Tabs T H1 →
      s'.heap.get? f = some (PySem.W.kdv_obj "<lambda>" (X.env.qual ++ "<lambda>") params (.expr body) scope (cloFrom X.env.cells scope.names []) (.ref T0) doc pm c' ctv) → H1 f = none → f ∉ frs X.stack →
      s'.heap.get? T0 = some (PySem.W.kdv_tup [v0]) → H1 T0 = none → T0 ∉ frs X.stack → H1 c' = some (CodeO c' (X.env.qual ++ "<lambda>")) → Q (.ref f) s') :
    wpAny (model X.prog X.w) X.A (eval (.Lambda params body scope pos) X.env) Q E s := by
  refine PySem.W.kdv_lam (by rw [hdf]; rfl) hk0 ?_
  rw [hdf]
  refine PySem.W.kdv_all1 (wpAny_Constant_int (PySem.W.kdv_all0 ?_))
  rw [makeFunction_eq]
  simp only [List.zip_nil_right, List.filterMap_nil, List.isEmpty_nil, List.isEmpty_cons, if_true, pure_bind, Bool.false_eq_true, if_false]
  have nofr : s.heap.objs.size ∉ frs X.stack := fun z => by
    rcases List.mem_cons.mp (I.stkSub _ z) with e | e
    · have h1 := I.lt
      rw [← e] at h1
      exact Nat.lt_irrefl _ h1
    · exact I.nofs (Nat.le_refl _) e
  have I1 : Inv X pins σ H { s with heap := s.heap.push (PySem.W.kdv_tup [.int z s.toks]), toks := s.toks + 1 } := I.kept fun b o e => Heap.get?_push_of_some _ e
  refine wpAny_bind (wpAny_newTextTuple ?_)
  exact lam_tailD (s := { s with heap := s.heap.push (PySem.W.kdv_tup [.int z s.toks]), toks := s.toks + 1 }) I1 TB hcode hm hu hT hfree (Heap.get?_push_size _ rfl) (I.hok.fresh (Nat.le_refl _)) nofr fun f c' pm ctv doc H1 s' I' e T' hf hfn hfr ht0 hn0 hco => h f c' s.heap.objs.size (.int z s.toks) pm ctv doc H1 s' I' e T' hf hfn hfr ht0 hn0 nofr hco
end
/-- one parameter p of its own, else captured names and globals -/
structure LamD (p : Str) (sc scope : Scope) : Prop where
  kind : scope.kind = .function
  co : scope.isCoroutine = false
  gen : scope.isGenerator = false
  par : scope.names.lookup p = some .local
  own : ∀ y ∈ scope.names, (y.2 = .local → y.1 = p) ∧ y.2 ≠ .cell
  free : ∀ y ∈ scope.names, y.2 = .free → sc.names.lookup y.1 = some .cell ∨ sc.names.lookup y.1 = some .free
def lamDB (p : Str) (sc scope : Scope) : Bool :=
  decide (scope.kind = .function) && !scope.isCoroutine && !scope.isGenerator && decide (scope.names.lookup p = some .local) && scope.names.all fun y => (!decide (y.2 = .local) || decide (y.1 = p)) && !decide (y.2 = .cell) && (!decide (y.2 = .free) || decide (sc.names.lookup y.1 = some .cell) || decide (sc.names.lookup y.1 = some .free))
theorem lamD_by {p : Str} {sc scope : Scope} (h : lamDB p sc scope = true) : LamD p sc scope := by
  unfold lamDB at h
  simp only [Bool.and_eq_true, Bool.or_eq_true, Bool.not_eq_true', decide_eq_true_eq, decide_eq_false_iff_not, List.all_eq_true] at h
  obtain ⟨⟨⟨⟨h1, h2⟩, h3⟩, h5⟩, h4⟩ := h
  refine ⟨h1, h2, h3, h5, fun y hy => ⟨fun e => ?_, (h4 y hy).1.2⟩, fun y hy e => ?_⟩
  · rcases (h4 y hy).1.1 with z | z
    · exact absurd e z
    · exact z
  · rcases (h4 y hy).2 with (z | z) | z
    · exact absurd e z
    · exact .inl z
    · exact .inr z
theorem LamD.has {p : Str} {X : Cx} {scope : Scope} (L : LamD p X.env.scope scope) (ok : X.Ok) : ∀ y ∈ scope.names, y.2 = .free → ∃ c, X.env.cells.lookup y.1 = some c := fun y hy e => by
  rcases L.free y hy e with k | k
  · exact ok.has _ (.inl k)
  · exact ok.has _ (.inr k)
section
variable {X : Cx} {pins : List (Addr × Obj)} {σ : L2.St} {H HZ : Hp} {s s1 : Shared}
theorem lam_startD {p : Str} {A : Around} {outer : List Env} {E : XK} {scope : Scope} {f c' : Addr} {h₁ : Heap} {tk : Nat} {m1 : Str → Option Value} (I : Inv X pins σ H s) (L : LamD p X.env.scope scope) (np : p ∉ X.N) (e0 : Env0 X.prog X.w X.K X.mg X.base A outer s1 HZ) (hd : A.handled = none)
    (un : Un (frs X.stack) [] H HZ s.heap s1.heap) (hns : h₁.Ns s1.heap.objs.size m1) (kp : ∀ b o, s1.heap.get? b = some o → h₁.get? b = some o) :
    Inv (lamCx X A outer s1 HZ E scope f c') [] σ HZ { s1 with heap := h₁, toks := tk } := by
  have hfree := L.has I.ok
  have cm : ∀ {y c}, (cloFrom X.env.cells scope.names []).lookup y = some c → X.env.cells.lookup y = some c := fun {y c} e => by
    rcases cloFrom_mem (PySem.mem_of_lookup e) with hm | ⟨h1, h2⟩
    · cases hm
    · obtain ⟨c1, hc⟩ := hfree _ h1 rfl
      have hc : X.env.cells.lookup y = some c1 := hc
      have e2 : c = c1 := by
        rw [h2, hc] <;> rfl
      rw [e2]
      exact hc
  have look : ∀ {y}, scope.names.lookup y = some .free → ∃ c, (cloFrom X.env.cells scope.names []).lookup y = some c := fun {y} hl => by
    have hy : (y, NameKind.free) ∈ scope.names := PySem.mem_of_lookup hl
    exact mem_lookup (cloFrom_has (cells := X.env.cells) (acc := []) hy)
  have cellK : ∀ {c : Addr} {v : Option Value}, H c = none → s.heap.IsCell c v → h₁.IsCell c v := fun {c v} n ⟨o, ho, hd⟩ => by
    obtain ⟨sl, q⟩ := un.any ho n (by simp)
    exact ⟨_, kp _ _ q, hd⟩
  have noA : ∀ b : Addr, b ∉ (lamCx X A outer s1 HZ E scope f c').ex := fun b z => absurd (show b ∈ ([] : List Addr) from z) (by simp)
  refine ⟨⟨e0.mod, L.kind, rfl, rfl, Nat.le_refl _, fun y z c e1 e2 => I.ok.inj y z c (cm e1) (cm e2), fun y hy => ?_, fun y c z _ => ?_, fun _ => hd, Around.frames_deeper e0.frames, .inr ⟨rfl, rfl⟩, fun b z => absurd z (noA b), e0.bs, e0.bsz, fun b _ _ => noA b,
      fun b z => absurd z (noA b), e0.funs, e0.frf⟩,
    rfl, e0.bare, Un.kept kp, ⟨_, hns, fun i y v e1 e2 e3 => ?_⟩, fun y c e => ?_, e0.hok.fresh (Nat.le_refl _), fun y c e => ?_, fun q hq => absurd (show q ∈ ([] : List (Addr × Obj)) ++ [] from hq) (by simp), e0.hok.kept kp, I.len⟩
  · have hy : scope.names.lookup y = some .cell ∨ scope.names.lookup y = some .free := hy
    rcases hy with hy | hy
    · exact absurd rfl (L.own _ (PySem.mem_of_lookup hy)).2
    · exact look hy
  · have z : false = true := z
    cases z
  · have e3 : Vis scope y := e3
    rcases e3 with k | k | k
    · have z : y = p := (L.own _ (PySem.mem_of_lookup k)).1 rfl
      have e1 : X.N[i]? = some y := e1
      rw [z] at e1
      exact absurd (List.mem_of_getElem? e1) np
    · exact absurd rfl (L.own _ (PySem.mem_of_lookup k)).2
    · obtain ⟨m, hn, hl⟩ := I.loc
      have hvis : Vis X.env.scope y := (L.free _ (PySem.mem_of_lookup k) rfl).elim (fun k => .inr (.inl k)) (fun k => .inr (.inr k))
      obtain ⟨w', r, q⟩ := hl i y v e1 e2 hvis
      obtain ⟨c2, h2⟩ := look k
      refine ⟨w', r, .inr ⟨.inr k, c2, h2, ?_⟩⟩
      have c1 := cm h2
      rcases q with ⟨k', _⟩ | ⟨_, c3, e', z⟩
      · have k' : X.env.scope.names.lookup y = some .local := k'
        rcases L.free _ (PySem.mem_of_lookup k) rfl with k2 | k2 <;> rw [show X.env.scope.names.lookup y = _ from k2] at k' <;> cases k'
      · rw [c1] at e'
        cases e'
        exact cellK (I.freeC y _ c1) z
  · obtain ⟨w', z⟩ := I.cell y c (cm e)
    exact ⟨w', cellK (I.freeC y c (cm e)) z⟩
  · obtain ⟨v, o, ho, hd⟩ := I.cell y c (cm e)
    exact un.free c o ho (I.freeC y c (cm e)) (by simp)
/-- the lambda at f, run from the frames of Z -/
theorem lam_runD {p : Str} {f c' T0 : Addr} {v0 pm ctv doc : Value} {params : Arguments} {body : Expr} {scope : Scope} {k : Nat} {E : XK} {tb : TE} {A : Around} {outer : List Env} {s1 : Shared} {HZ : Hp} {Q : VK}
    (I : Inv X pins σ H s) (L : LamD p X.env.scope scope) (np : p ∉ X.N) (hc : HZ c' = some (CodeO c' (X.env.qual ++ "<lambda>"))) (e0 : Env0 X.prog X.w X.K X.mg X.base A outer s1 HZ) (lim : s1.heap.NoLimit)
    (of1 : s1.heap.get? f = some (PySem.W.kdv_obj "<lambda>" (X.env.qual ++ "<lambda>") params (.expr body) scope (cloFrom X.env.cells scope.names []) (.ref T0) doc pm c' ctv)) (ot : s1.heap.get? T0 = some (PySem.W.kdv_tup [v0])) (un : Un (frs X.stack) [] H HZ s.heap s1.heap)
    (hbind : ∃ kk, bindArgs (PySem.W.kdv_fn "<lambda>" (X.env.qual ++ "<lambda>") params (.expr body) scope (cloFrom X.env.cells scope.names []) (.ref T0) doc pm (.ref c') ctv) ⟨[], []⟩ = seqItems? (.ref T0) >>= kk ∧ kk (some #[v0]) = pure [(p, v0)]) (hr : Room (k + 1) A) (gd : A.guards = some [])
    (hbody : Rm k (lamCx X A outer s1 HZ E scope f c') → PE (lamCx X A outer s1 HZ E scope f c') body tb) (ht : tb σ HZ Q) :
    codeAny (model X.prog X.w) A (.call (.ref f) ⟨[], []⟩) (CR (L2.CX X.prog X.w) outer X.prog X.w HZ s1 Q E) s1 := by
  obtain ⟨⟨oc, vs, t, hoc, hdc, hvc⟩, _, _⟩ := e0.hok c' _ hc
  obtain ⟨kk, b1, b2⟩ := hbind
  refine PySem.W.kla_callFunE hr.depth of1 rfl L.co L.gen rfl ⟨c', oc, vs, t, rfl, hoc, hdc, hvc⟩ ?_
  refine BindsTo.of_defaults (T := T0) rfl ot rfl b1 b2 _ _ _ _ ?_
  refine (wpAny_newFunctionEnv (fun y hy => (L.own y hy).2) (fun y hy => ?_) (fun h₁ hns hsb => ⟨lim.fresh _ hsb, ?_⟩) L.kind)
  · rw [List.mem_singleton.mp hy]
    exact L.par
  show codeAny _ _ (.expr body (lamEnv X scope s1.heap.objs.size f c')) _ _
  have kp : ∀ b o, s1.heap.get? b = some o → h₁.get? b = some o := fun b o q => hsb.extBut b o (Nat.ne_of_lt (Heap.lt_size q)) (Heap.get?_push_of_some _ q)
  have J := lam_startD (E := E) (f := f) (c' := c') (tk := s1.toks + ([(p, v0)] : List (Str × Value)).length) I L np e0 hr.hd un hns kp
  have P := hbody ⟨hr.deeper _, gd⟩
  refine PySem.W.kla_codeExpr (wpAny_mono (P.run [] _ _ HZ Q J ht) (fun v s' hq => ?_) fun e s' hq => hq)
  obtain ⟨w', H', J', rv, q⟩ := hq
  exact ⟨w', H', J'.os, J'.bare, J'.base, J'.hok, rv, q⟩
/-- x(lambda p=0: body) -/
theorem pe_lamGD {g : Wd} {T : List (Addr × Str)} {TT : Addr → Str → (XK → Hp → VK → Prop) → Hp → VK → Prop} {x ap : Str} {c P : Addr} {k : Nat} {params : Arguments} {body : Expr} {scope : Scope} {t : XK → TE} {p lpos pos : Pos} {z : Int} {kk : Nat} {pp : Pos}
    (F : Told g (k + 1) x TT) (hr : Rm (k + 2) X) (TB : TabB X.base X.mg c P) (hcode : X.env.code = .ref c) (hmT : (P, X.env.qual ++ "<lambda>") ∈ T) (hu : ∀ p ∈ T, p.1 = P → p.2 = X.env.qual ++ "<lambda>")
    (L : LamD ap X.env.scope scope) (np : ap ∉ X.N) (hdf : params.defaults = [.Constant (.int z) kk pp]) (hk0 : params.kw_defaults = [])
    (hbind : ∀ (q : Str) (cl : List (Str × Addr)) (T0 : Addr) (v0 doc pm cv ctv : Value), ∃ kk, bindArgs (PySem.W.kdv_fn "<lambda>" q params (.expr body) scope cl (.ref T0) doc pm cv ctv) ⟨[], []⟩ = seqItems? (.ref T0) >>= kk ∧ kk (some #[v0]) = pure [(ap, v0)])
    (hbody : ∀ (A : Around) (outer : List Env) (s : Shared) (H : Hp) (E : XK) (f c' : Addr), Rm k (lamCx X A outer s H E scope f c') → PE (lamCx X A outer s H E scope f c') body (t E))
    (hg : Gl X x := by rfl) (hdb : (x == ("__debug__" : Str)) = false := by decide) (at_ : At g X := by exact ⟨rfl, rfl, rfl, rfl, rfl⟩) :
    PE X (.Call (.Name x p) [.Lambda params body scope lpos] [] pos) (tLamG T TT (X.env.qual ++ "<lambda>") t) := by
  refine ⟨fun pins s σ H Q I h => ?_⟩
  obtain ⟨hT, h⟩ := h
  obtain ⟨st, gf, fd, a, N, hm, DF, hb, Sg, hN0, hva, hd1, hd2, body_⟩ := F.ex
  obtain ⟨oc, od, kV, doc, pm0, an, cdv, ct, osl, rfl, lk, hcd⟩ := DF.ex
  have hm' : X.mg x = some (.ref gf) := by rw [at_.mg]; exact hm
  refine wpAny_Call_Name_kw (ld_glob I hg hm' ?_ hdb)
  refine PySem.W.callWith_K (h₀ := X.base) I.ok.mod.kin (by rw [at_.K]; exact DF.kp) ?_ (by rfl) (by rfl)
  show wpAny _ _ (spliced ((false, eval (.Lambda params body scope lpos) X.env) :: backTo pos (starEach [] X.env))) _ _ s
  refine Calls.spliced_cons (lam_makeD I TB hcode hmT hu hT hdf hk0 (L.has I.ok) fun f c' T0 v0 pm' ctv doc' H1 s' I1 eN T1 hf hfn hfr ht0 hn0 hr0 hco => ?_)
  refine Calls.spliced_nil ⟨I1.kIn, ?_⟩
  have KX := I1.kIn
  rw [at_.K] at KX
  have rc : codeAny (model X.prog X.w) X.A (.call (.ref gf) ⟨[.ref f], []⟩) (CR (L2.CX X.prog X.w) X.stack X.prog X.w H1 s' Q fun _ _ _ => False) s' := by
    obtain ⟨P0, w0, K0, mg0, base0⟩ := g
    obtain ⟨rfl, rfl, rfl, rfl, rfl⟩ := at_
    refine run_ofS (N := N) (ps := [a]) (us := [.ref f]) (vs := [.ref f]) lk hcd Sg hr.room I1.env0 (hb s' [.ref f] I1.kIn rfl) (.cons rfl .nil) rfl fun hr' => ?_
    refine body_ cdv X.A X.stack s' H1 Q f c' (X.env.qual ++ "<lambda>") (fun E H' Q' => t E σ H' Q') ⟨hr', hr.gd⟩ (fun W pn xe p1 p2 tk => ⟨fun pinsZ sZ σZ HZ Q IZ hz => ?_⟩) hco (h c' H1 eN T1 hco)
    obtain ⟨hs, hc, ht⟩ := hz
    refine wpAny_Call_Name_kw (thn ((pe_var (pos := p1) (i := 0) hN0 hva hd1 hd2).run pinsZ sZ σZ HZ (fun v H1 => v = .ref f ∧ H1 = HZ) IZ ⟨.ref f, hs, rfl, rfl⟩) fun u s1 ⟨v, H2, I2, r2, q2⟩ => ?_)
    obtain ⟨ev, eH⟩ := q2
    subst ev
    rw [eH] at I2
    obtain rfl : u = Value.ref f := r2
    have of1 := I2.base.keep f _ hf hfn hfr (fun z => nomatch (show f ∈ ([] : List Addr) from z))
    have ot1 := I2.base.keep T0 _ ht0 hn0 hr0 (fun z => nomatch (show T0 ∈ ([] : List Addr) from z))
    refine PySem.W.callWith_F0 ⟨_, _, _, _, of1⟩ ?_
    have un : Un (frs X.stack) [] H1 HZ s'.heap s1.heap := I2.base
    have rl := lam_runD (X := X) (k := k) (E := fun cls d H' => W cls d σZ H') (A := X.A.deeper (envOfC x (defScope st) s'.heap.objs.size gf cdv)) (outer := envOfC x (defScope st) s'.heap.objs.size gf cdv :: X.stack) (s1 := s1) (Q := Q) I1 L np hc I2.env0 I2.nolimit of1 ot1 un (hbind _ _ _ _ _ _ _ _) hr' hr.gd (hbody _ _ _ _ _ _ _) ht
    refine wpAny_call (codeAny_mono rl fun r s2 hq => ?_)
    cases r with
    | error e => exact tk e s2 (XE.of_call (E := fun cls d H' => W cls d σZ H') I2 (fun _ _ _ z => z) hq)
    | ok fl =>
      cases fl with
      | ret u => exact I2.after hq
      | next => exact False.elim hq
      | brk => exact False.elim hq
      | cont => exact False.elim hq
  refine wpAny_call (codeAny_mono rc fun r s2 hq => ?_)
  cases r with
  | error e =>
    obtain ⟨_, _, _, _, _, _, _, _, _, _, _, _, z⟩ := hq
    exact z.elim
  | ok fl =>
    cases fl with
    | ret u => exact I1.after hq
    | next => exact False.elim hq
    | brk => exact False.elim hq
    | cont => exact False.elim hq
end
section
variable {g : Wd} {k : Nat} {N ps : List Str} {x ap qual : Str} {st : Stmt} {f c P : Addr} {A : Around} {outer : List Env} {s : Shared} {H : Hp} {E : XK} {T : List (Addr × Str)} {TT : Addr → Str → (XK → Hp → VK → Prop) → Hp → VK → Prop}
  {params : Arguments} {body : Expr} {scope : Scope} {t : XK → TE} {p lpos pos : Pos} {z : Int} {kk : Nat} {pp : Pos}
/-- x(lambda ap=0: body), in a def that is walked -/
theorem pe_lamD (ap : Str) (F : Told g (k + 1) x TT) (L : LamT g T c P qual) (hr : Rm (k + 2) (cx g N qual st f (.ref c) A outer s H E)) (LS : lamDB ap (defScope st) scope = true)
    (hbody : ∀ (A' : Around) (outer' : List Env) (s' : Shared) (H' : Hp) (E' : XK) (f' c' : Addr), Rm k (lamCx (cx g N qual st f (.ref c) A outer s H E) A' outer' s' H' E' scope f' c') → PE (lamCx (cx g N qual st f (.ref c) A outer s H E) A' outer' s' H' E' scope f' c') body (t E'))
    (np : ap ∉ N := by decide +kernel) (hdf : params.defaults = [.Constant (.int z) kk pp] := by rfl) (hk0 : params.kw_defaults = [] := by rfl)
    (hbind : ∀ (q : Str) (cl : List (Str × Addr)) (T0 : Addr) (v0 doc pm cv ctv : Value), ∃ kk, bindArgs (PySem.W.kdv_fn "<lambda>" q params (.expr body) scope cl (.ref T0) doc pm cv ctv) ⟨[], []⟩ = seqItems? (.ref T0) >>= kk ∧ kk (some #[v0]) = pure [(ap, v0)] := by intro _ _ _ _ _ _ _ _; exact ⟨_, rfl, rfl⟩)
    (hg : Gl (cx g N qual st f (.ref c) A outer s H E) x := by rfl) (hdb : (x == ("__debug__" : Str)) = false := by decide) :
    PE (cx g N qual st f (.ref c) A outer s H E) (.Call (.Name x p) [.Lambda params body scope lpos] [] pos) (tLamG T TT ((qual ++ ".<locals>.") ++ "<lambda>") t) :=
  pe_lamGD F hr L.tb rfl L.mem L.uni (lamD_by LS) np hdf hk0 hbind hbody hg hdb
end
end RS
namespace RS
open PySem PySem.Spec L2 PyProof.Rows ClX
section
variable {g : Wd} {X : Cx} {k : Nat} {f C q : Addr} {sp : Sp} {W : WX} {m : Str} {o e : Expr} {es : List Expr} {pos apos : Pos} {ta : TE} {t : TA} {pl : Sem Bool}
/-- e.m(..), e the class at C -/
def tCMethS (C : Addr) (sp : Sp) (W : WX) (ta : TE) (t : TA) : TE := fun σ H Q => ta σ H fun x H1 => x = .ref C ∧ t σ H1 fun vs H2 => sp (.ref C :: vs) H2 Q (fun c d H' => W c d σ H')
end
end RS
namespace RS
open PySem PySem.Spec L2 PyProof.Rows ClX
end RS
namespace RS
open PySem PySem.Spec L2 PyProof.Rows ClX
end RS
namespace RS
open PySem PySem.Spec L2 PyProof.Rows
end RS
namespace RS
open PySem PySem.Spec L2 PyProof.Rows ClX
end RS
namespace RS
open PySem PySem.Spec L2 PyProof.Rows
end RS
namespace RS
open PySem PySem.Spec L2 PyProof.Rows GenW
open Sem (wp)
/-- it looks the same, but cannot be woken -/
def dullOf : GenState → GenState
  | .suspended _ l c p fs cl => .suspended (fun _ => .unsupported "") l c p fs cl
  | x => x
def isSusp : GenState → Bool
  | .suspended .. => true
  | _ => false
/-- no generator's frame among its frames -/
def ngf : GenState → Prop
  | .suspended _ _ _ _ fs _ => splitAtGen fs = none
  | _ => True
def mend (Z : Nat → Option GenState) (G : Array GenState) : Array GenState := G.mapIdx fun i x => (Z i).getD x
theorem mend_get (Z : Nat → Option GenState) (G : Array GenState) (i : Nat) : (mend Z G)[i]? = G[i]?.map fun x => (Z i).getD x := by
  simp [mend, Array.getElem?_mapIdx]
/-- the held places are dull, the others hold no generator's frame -/
structure Held (Z : Nat → Option GenState) (G : Array GenState) : Prop where
  at_ : ∀ i z, Z i = some z → isSusp z = true ∧ G[i]? = some (dullOf z)
  free : ∀ (i : Nat) (x : GenState), Z i = none → G[i]? = some x → ngf x
theorem Held.out {Z : Nat → Option GenState} {G : Array GenState} (h : Held Z G) : Z G.size = none := by
  cases e : Z G.size with
  | none => rfl
  | some z => have := (h.at_ _ z e).2; simp at this
theorem Held.push {Z : Nat → Option GenState} {G : Array GenState} (h : Held Z G) {x : GenState} (hx : ngf x) : Held Z (G.push x) := by
  refine ⟨fun i z e => ⟨(h.at_ i z e).1, ?_⟩, fun i y e q => ?_⟩
  · rw [Array.getElem?_push, if_neg (fun w => by rw [w, h.out] at e; cases e)]
    exact (h.at_ i z e).2
  · rw [Array.getElem?_push] at q
    split at q
    · cases q; exact hx
    · exact h.free i y e q
theorem Held.set {Z : Nat → Option GenState} {G : Array GenState} (h : Held Z G) {j : Nat} {x : GenState} (hj : Z j = none) (hx : ngf x) : Held Z (G.setIfInBounds j x) := by
  refine ⟨fun i z e => ⟨(h.at_ i z e).1, ?_⟩, fun i y e q => ?_⟩
  · rw [Array.getElem?_setIfInBounds, if_neg (fun w => by rw [w, e] at hj; cases hj)]
    exact (h.at_ i z e).2
  · rw [Array.getElem?_setIfInBounds] at q
    split at q
    · split at q
      · cases q; exact hx
      · cases q
    · exact h.free i y e q
/-- the place of what is no dull one is free -/
theorem Held.no {Z : Nat → Option GenState} {G : Array GenState} (h : Held Z G) {i : Nat} {x : GenState} (e : G[i]? = some x) (n : isSusp x = false) : Z i = none ∧ (mend Z G)[i]? = some x := by
  have hz : Z i = none := by
    cases q : Z i with
    | none => rfl
    | some z =>
      obtain ⟨h1, h2⟩ := h.at_ i z q
      rw [e] at h2
      cases h2
      cases z <;> simp [isSusp, dullOf] at h1 n
  exact ⟨hz, by rw [mend_get, e, Option.map_some, hz]; rfl⟩
end RS
namespace RS
open PySem PySem.Spec L2 PyProof.Rows GenW
open Sem (wp)
theorem runs_one {M : Model} {Γ : PySem.Ctx} {p : Pos} {t : Sem PySem.Fin} {fs : List Frame} {s s' : Shared} {e : End} (r : Runs M Γ p t fs s e s') :
    ∀ {e2 : End} {s2 : Shared}, Runs M Γ p t fs s e2 s2 → e2 = e ∧ s2 = s' := by
  induction r with
  | done => intro e2 s2 q; cases q; exact ⟨rfl, rfl⟩
  | raise => intro e2 s2 q; cases q; exact ⟨rfl, rfl⟩
  | again _ _ ih => intro e2 s2 q; cases q with | again _ q => exact ih q
  | rule _ ih => intro e2 s2 q; cases q with | rule q => exact ih q
  | «at» _ ih => intro e2 s2 q; cases q with | «at» q => exact ih q
  | load e _ ih => intro e2 s2 q; cases q with | load e' q => rw [e] at e'; cases e'; exact ih q
  | update _ _ ih => intro e2 s2 q; cases q with | update _ q => exact ih q
  | loadIfAlive _ ih => intro e2 s2 q; cases q with | loadIfAlive q => exact ih q
  | point _ ih => intro e2 s2 q; cases q with | point q => exact ih q
  | alloc _ ih => intro e2 s2 q; cases q with | alloc q => exact ih q
  | fresh _ ih => intro e2 s2 q; cases q with | fresh q => exact ih q
  | ask _ ih => intro e2 s2 q; cases q with | ask q => exact ih q
  | choose _ _ ih => intro e2 s2 q; cases q with | choose _ q => exact ih q
  | os _ ih => intro e2 s2 q; cases q with | os q => exact ih q
  | handled _ ih => intro e2 s2 q; cases q with | handled q => exact ih q
  | genState e _ ih => intro e2 s2 q; cases q with | genState e' q => rw [e] at e'; cases e'; exact ih q
  | stack _ ih => intro e2 s2 q; cases q with | stack q => exact ih q
  | thread _ ih => intro e2 s2 q; cases q with | thread q => exact ih q
  | newGen _ ih => intro e2 s2 q; cases q with | newGen q => exact ih q
  | call _ _ ih1 ih2 =>
    intro e2 s2 q
    cases q with
    | call q1 q2 => obtain ⟨a, b⟩ := ih1 q1; cases a; subst b; exact ih2 q2
    | callSusp q1 => cases (ih1 q1).1
  | callSusp _ ih =>
    intro e2 s2 q
    cases q with
    | call q1 q2 => cases (ih q1).1
    | callSusp q1 => obtain ⟨a, b⟩ := ih q1; cases a; exact ⟨rfl, b⟩
  | yield => intro e2 s2 q; cases q; exact ⟨rfl, rfl⟩
  | resumeFresh e1 _ _ _ ih1 ih2 =>
    intro e2 s2 q
    cases q with
    | resumeFresh e1' q1 _ q2 => rw [e1] at e1'; cases e1'; obtain ⟨a, b⟩ := ih1 q1; cases a; subst b; exact ih2 q2
    | resumeSuspended e1' => rw [e1] at e1'; cases e1'
    | resumeJustStarted e1' hv => exact absurd rfl hv
    | resumeRunning e1' => rw [e1] at e1'; cases e1'
    | resumeFinished e1' => rw [e1] at e1'; cases e1'
  | resumeSuspended e1 _ _ _ ih1 ih2 =>
    intro e2 s2 q
    cases q with
    | resumeFresh e1' => rw [e1] at e1'; cases e1'
    | resumeSuspended e1' q1 _ q2 => rw [e1] at e1'; cases e1'; obtain ⟨a, b⟩ := ih1 q1; cases a; subst b; exact ih2 q2
    | resumeJustStarted e1' => rw [e1] at e1'; cases e1'
    | resumeThrowFresh e1' => rw [e1] at e1'; cases e1'
    | resumeRunning e1' => rw [e1] at e1'; cases e1'
    | resumeFinished e1' => rw [e1] at e1'; cases e1'
  | resumeJustStarted e1 hv _ ih =>
    intro e2 s2 q
    cases q with
    | resumeFresh e1' => exact absurd rfl hv
    | resumeSuspended e1' => rw [e1] at e1'; cases e1'
    | resumeJustStarted _ _ q => exact ih q
    | resumeRunning e1' => rw [e1] at e1'; cases e1'
    | resumeFinished e1' => rw [e1] at e1'; cases e1'
  | resumeThrowFresh e1 _ ih =>
    intro e2 s2 q
    cases q with
    | resumeSuspended e1' => rw [e1] at e1'; cases e1'
    | resumeThrowFresh _ q => exact ih q
    | resumeRunning e1' => rw [e1] at e1'; cases e1'
    | resumeFinished e1' => rw [e1] at e1'; cases e1'
  | resumeRunning e1 _ ih =>
    intro e2 s2 q
    cases q with
    | resumeFresh e1' => rw [e1] at e1'; cases e1'
    | resumeSuspended e1' => rw [e1] at e1'; cases e1'
    | resumeJustStarted e1' => rw [e1] at e1'; cases e1'
    | resumeThrowFresh e1' => rw [e1] at e1'; cases e1'
    | resumeRunning _ q => exact ih q
    | resumeFinished e1' => rw [e1] at e1'; cases e1'
  | resumeFinished e1 _ ih =>
    intro e2 s2 q
    cases q with
    | resumeFresh e1' => rw [e1] at e1'; cases e1'
    | resumeSuspended e1' => rw [e1] at e1'; cases e1'
    | resumeJustStarted e1' => rw [e1] at e1'; cases e1'
    | resumeThrowFresh e1' => rw [e1] at e1'; cases e1'
    | resumeRunning e1' => rw [e1] at e1'; cases e1'
    | resumeFinished _ q => exact ih q
  | segRet _ _ ih1 ih2 =>
    intro e2 s2 q
    cases q with
    | segRet q1 q2 => obtain ⟨a, b⟩ := ih1 q1; cases a; subst b; exact ih2 q2
    | segSuspOut _ q1 => cases (ih1 q1).1
    | segSuspGen _ q1 => cases (ih1 q1).1
  | segGen _ _ ih1 ih2 =>
    intro e2 s2 q
    cases q with
    | segGen q1 q2 => obtain ⟨a, b⟩ := ih1 q1; cases a; subst b; exact ih2 q2
    | segSuspOut _ q1 => cases (ih1 q1).1
    | segSuspGen _ q1 => cases (ih1 q1).1
  | segSuspOut f1 _ ih =>
    intro e2 s2 q
    cases q with
    | segRet q1 _ => cases (ih q1).1
    | segGen q1 _ => cases (ih q1).1
    | segSuspOut _ q1 => obtain ⟨a, b⟩ := ih q1; cases a; exact ⟨rfl, b⟩
    | segSuspGen f2 _ _ _ => rw [f1] at f2; cases f2
  | segSuspGen f1 _ _ _ ih1 ih2 =>
    intro e2 s2 q
    cases q with
    | segRet q1 _ => cases (ih1 q1).1
    | segGen q1 _ => cases (ih1 q1).1
    | segSuspOut f2 _ => rw [f1] at f2; cases f2
    | segSuspGen f2 q1 _ q2 => rw [f1] at f2; cases f2; obtain ⟨a, b⟩ := ih1 q1; cases a; subst b; exact ih2 q2
theorem wakes_one {M : Model} {Γ : PySem.Ctx} {p : Pos} {g : Nat} {r : Resume} {s s1 s2 : Shared} {a b : GenResult} (w : Wakes M Γ p g r s a s1) (w2 : Wakes M Γ p g r s b s2) : b = a ∧ s2 = s1 := by
  unfold Wakes at w w2
  cases e : s.gens[g]? with
  | none => rw [e] at w; exact w.elim
  | some x =>
    rw [e] at w w2
    cases x with
    | fresh c =>
      cases r with
      | throw y => exact ⟨w2.1.trans w.1.symm, w2.2.trans w.2.symm⟩
      | send v =>
        cases v with
        | none =>
          obtain ⟨e1, t1, r1, _, x1, y1⟩ := w
          obtain ⟨e2, t2, r2, _, x2, y2⟩ := w2
          obtain ⟨z1, z2⟩ := runs_one r1 r2
          subst z1 z2
          exact ⟨x2.trans x1.symm, y2.trans y1.symm⟩
        | _ => exact ⟨w2.1.trans w.1.symm, w2.2.trans w.2.symm⟩
    | suspended k l c p fs cl =>
      obtain ⟨e1, t1, r1, _, x1, y1⟩ := w
      obtain ⟨e2, t2, r2, _, x2, y2⟩ := w2
      obtain ⟨z1, z2⟩ := runs_one r1 r2
      subst z1 z2
      exact ⟨x2.trans x1.symm, y2.trans y1.symm⟩
    | running => exact ⟨w2.1.trans w.1.symm, w2.2.trans w.2.symm⟩
    | finished => exact ⟨w2.1.trans w.1.symm, w2.2.trans w.2.symm⟩
theorem wp_both {α : Type} (M : Model) (Γ : PySem.Ctx) (t : Sem α) : ∀ (Q Q' : α → Pos → Shared → Prop) (E E' : Value → Pos → Shared → Prop) (p : Pos) (s : Shared), wp M Γ t Q E p s → wp M Γ t Q' E' p s →
    wp M Γ t (fun a p s => Q a p s ∧ Q' a p s) (fun e p s => E e p s ∧ E' e p s) p s := by
  induction t with
  | pure a => exact fun _ _ _ _ _ _ h h' => ⟨h, h'⟩
  | raise e => exact fun _ _ _ _ _ _ h h' => ⟨h, h'⟩
  | unsupported _ => exact fun _ _ _ _ _ _ h _ => h
  | finish _ => exact fun _ _ _ _ _ _ h _ => h
  | rule _ k ih => exact fun _ _ _ _ _ _ h h' => ih () _ _ _ _ _ _ h h'
  | «at» p' k ih => exact fun _ _ _ _ _ _ h h' => ih () _ _ _ _ p' _ h h'
  | load a _ k ih =>
    rintro _ _ _ _ _ _ ⟨o, ho, h⟩ ⟨o', ho', h'⟩
    rw [ho] at ho'
    cases ho'
    exact ⟨o, ho, ih o _ _ _ _ _ _ h h'⟩
  | update a _ f k ih => exact fun _ _ _ _ _ _ h h' => ⟨h.1, ih () _ _ _ _ _ _ h.2 h'.2⟩
  | loadIfAlive a k ih => exact fun _ _ _ _ _ _ h h' => ih _ _ _ _ _ _ _ h h'
  | point _ k ih => exact fun _ _ _ _ _ _ h h' => ih () _ _ _ _ _ _ h h'
  | register _ _ => exact fun _ _ _ _ _ _ h _ => h
  | alloc o k ih => exact fun _ _ _ _ _ _ h h' => ih _ _ _ _ _ _ _ h h'
  | fresh k ih => exact fun _ _ _ _ _ _ h h' => ih _ _ _ _ _ _ _ h h'
  | ask k ih => exact fun _ _ _ _ _ _ h h' => ih _ _ _ _ _ _ _ h h'
  | choose src m k ih => exact fun _ _ _ _ _ _ h h' => ⟨h.1, ih _ _ _ _ _ _ _ h.2 h'.2⟩
  | os q _ k ih => exact fun _ _ _ _ _ _ h h' => ih _ _ _ _ _ _ _ h h'
  | call c hd _ _ k ih =>
    rintro _ _ _ _ _ _ ⟨r, s', hr, h⟩ ⟨r2, s2, hr2, h'⟩
    obtain ⟨a, b⟩ := runs_one hr hr2
    cases a
    subst b
    exact ⟨r, _, hr, ih r _ _ _ _ _ _ h h'⟩
  | handled own k ih => exact fun _ _ _ _ _ _ h h' => ih _ _ _ _ _ _ _ h h'
  | genState g k ih =>
    rintro _ _ _ _ _ _ ⟨st, hs, h⟩ ⟨st', hs', h'⟩
    rw [hs] at hs'
    cases hs'
    exact ⟨st, hs, ih _ _ _ _ _ _ _ h h'⟩
  | newGen c k ih => exact fun _ _ _ _ _ _ h h' => ih _ _ _ _ _ _ _ h h'
  | resume g r _ k ih =>
    rintro _ _ _ _ _ _ ⟨res, s', hw, h⟩ ⟨res', s2, hw', h'⟩
    obtain ⟨a, b⟩ := wakes_one hw hw'
    subst a b
    exact ⟨_, _, hw, ih _ _ _ _ _ _ _ h h'⟩
  | yield _ _ _ _ => exact fun _ _ _ _ _ _ h _ => h
  | stack k ih => exact fun _ _ _ _ _ _ h h' => ih _ _ _ _ _ _ _ h h'
  | fork _ _ => exact fun _ _ _ _ _ _ h _ => h
  | thread k ih => exact fun _ _ _ _ _ _ h h' => ih _ _ _ _ _ _ _ h h'
  | await _ _ _ _ _ => exact fun _ _ _ _ _ _ h _ => h
theorem wpAny_both {α : Type} {M : Model} {A : Around} {t : Sem α} {Q Q' : α → Shared → Prop} {E E' : Value → Shared → Prop} {s : Shared} (h : wpAny M A t Q E s) (h' : wpAny M A t Q' E' s) :
    wpAny M A t (fun a s => Q a s ∧ Q' a s) (fun e s => E e s ∧ E' e s) s := fun Γ p hΓ => wp_both M Γ t _ _ _ _ p s (h Γ p hΓ) (h' Γ p hΓ)
end RS
namespace RS
open PySem PySem.Spec L2 PyProof.Rows GenW
open Sem (wp)
end RS
namespace RS
open PySem PySem.Spec L2 PyProof.Rows GenW
def frontH (L : Nat) (h : Heap) : Heap := { h with objs := h.objs.extract 0 L }
def tr (L : Nat) (s : Shared) : Shared := { s with heap := frontH L s.heap }
/-- the context of a generator's body, woken at s0 with the heap H0; nothing is raised out of it -/
@[reducible] def reX (X : Cx) (s0 : Shared) (H0 : Hp) : Cx := { X with s_0 := tr X.env.locals s0, H_0 := H0, xe := fun _ _ => False }
structure GKE where
  nx : Nat → L2.St → L2.St → Hp → Prop
  rt : Nat → L2.St → VK
  yl : Nat → L2.St → V → Hp → (L2.St → Hp → Prop) → Prop
  bk : Nat → L2.St → L2.St → Hp → Prop := fun _ _ _ _ => False
  ct : Nat → L2.St → L2.St → Hp → Prop := fun _ _ _ _ => False
/-- how many are out, the consumer's slots, its own slots, the heap -/
abbrev TK := GKE → Nat → L2.St → L2.St → Hp → Prop
def GKE.at (D : GKE) (i : Nat) (k : L2.St) : Ends := { nx := D.nx i k, rt := D.rt i k, bk := D.bk i k, ct := D.ct i k }
/-- what holds of the consumer where the generator is woken -/
abbrev LkR := Shared → L2.St → Hp → Prop
def LkL (X : Cx) (Lk : LkR) : LkR := fun s k H => X.env.locals ≤ s.heap.objs.size ∧ Lk s k H
def KYp (X : Cx) (Lk : LkR) (yl : Nat → L2.St → V → Hp → (L2.St → Hp → Prop) → Prop) : Protocol := fun n s₀ v s kap =>
  ∃ i k H0 x ip σ H res, n + 1 + i = sizeLine ∧ RelV x v ∧ LkL X Lk s₀ k H0 ∧ Inv (reX X s₀ H0) ip σ H s ∧ yl i k x H res ∧
    ∀ k' H' s', LkL X Lk s' k' H' → Inv (reX X s' H') ip σ H' s' → res k' H' → kap (.send .none) s'
end RS
namespace RS
open PySem PySem.Spec L2 PyProof.Rows GenW
abbrev YLk := Nat → L2.St → V → Hp → (L2.St → Hp → Prop) → Prop
abbrev SpV := L2.St → YLk → (L2.St → Hp → Prop) → Prop
def KFin (X : Cx) (Lk : LkR) (fin : L2.St → Hp → Prop) (s₀ s1 : Shared) : Prop := ∃ k H0 ip σ H', LkL X Lk s₀ k H0 ∧ Inv (reX X s₀ H0) ip σ H' s1 ∧ fin k H'
abbrev KEnd (X : Cx) (Lk : LkR) (fin : L2.St → Hp → Prop) : GenEnd := fun n s₀ r s1 => r = .ok (.ret .none) ∧ KFin X Lk fin s₀ s1
structure GCtx (P : Program) (w : World) (K : PySem.W.Frag) (mg : Str → Option Value) (base : Heap) (outer : List Env) (L a : Addr) (gn : Nat) (X : Cx) : Prop where
  P : X.prog = P
  w : X.w = w
  K : X.K = K
  mg : X.mg = mg
  base : X.base = base
  loc : X.env.locals = L
  cells : X.env.cells = []
  ex : X.ex = []
  outer : X.outer = outer
  pn : ∃ go, X.pn = [(a, go)] ∧ ∀ h : Heap, h.get? a = some go → h.IsGen a gn
abbrev SpK := List V → Hp → SpV
theorem cells_none : ∀ {names : List (Str × NameKind)} {n : Nat} {acc : List (Str × Addr)}, (∀ y ∈ names, y.2 ≠ .cell) → cellsFrom n names acc = acc
  | [], _, _, _ => rfl
  | (x, kd) :: r, n, acc, h => by
    have h1 := h (x, kd) (List.mem_cons_self ..)
    unfold cellsFrom
    rw [if_neg (by simpa using h1)]
    exact cells_none fun y m => h y (List.mem_cons_of_mem _ m)
/-- an expression whose value is a generator that has not begun -/
abbrev TGk := L2.St → Hp → (SpV → Hp → Prop) → Prop
def tForK (tg : TGk) (gt : TG) (tb : TS) : TS := fun D σ H => tg σ H fun spv H1 => spv σ (fun _ k x H2 res => gt x k H2 fun σ2 H3 => tb { D with nx := res, ct := res, bk := D.nx } σ2 H3) D.nx
end RS
namespace RS
open PySem PySem.Spec L2 PyProof.Rows GenW
def tKM (C : Addr) (m : Str) (n : Nat) (sp : SpK) (ds : List V) (ta : TE) (t : TA) : TGk := fun σ H Q => ta σ H fun x H1 => ∃ a dx fs, x = .ref a ∧ H1 a = some (.ins C dx fs) ∧ fs.lookup m = none ∧ t σ H1 fun vs H2 => (x :: (vs ++ ds)).length = n ∧ Q (sp (x :: (vs ++ ds)) H2) H2
def tKC (n : Nat) (sp : SpK) (ds : List V) (t : TA) : TGk := fun σ H Q => t σ H fun vs H1 => (vs ++ ds).length = n ∧ Q (sp (vs ++ ds) H1) H1
end RS
namespace RS
open PySem PySem.Spec L2 PyProof.Rows ClX
/-- the names of such a def: no cells of its own, __class__ alone is free -/
structure ScopeS (N P : List Str) (sc : Scope) : Prop where
  kind : sc.kind = .function
  co : sc.isCoroutine = false
  gen : sc.isGenerator = false
  nd : N.Nodup
  pre : N.take P.length = P
  par : ∀ x ∈ P, sc.names.lookup x = some .local
  cell : ∀ y ∈ sc.names, y.2 ≠ .cell
  free : ∀ y ∈ sc.names, y.2 = .free → y.1 = "__class__"
  cls : sc.names.lookup ("__class__" : Str) = some .free
  sup : sc.names.lookup ("super" : Str) = some .globalImplicit
abbrev envS (qual : Str) (scope : Scope) (L f cda cc : Addr) : Env := PySem.W.ksEnv qual scope L f (.ref cda) cc
/-- the context of its body -/
def cxS (g : Wd) (N : List Str) (qual : Str) (st : Stmt) (f cda cc : Addr) (A : Around) (outer : List Env) (s : Shared) (H : Hp) (E : XK) : Cx where
  prog := g.P
  w := g.w
  K := g.K
  mg := g.mg
  base := g.base
  A := A.deeper (envS qual (defScope st) s.heap.objs.size f cda cc)
  N := N
  s_0 := s
  H_0 := H
  env := envS qual (defScope st) s.heap.objs.size f cda cc
  outer := outer
  stack := envS qual (defScope st) s.heap.objs.size f cda cc :: outer
  ex := []
  calm := true
  fn := fun _ => false
  pn := []
  xe := fun e s' => wpAny (model g.P g.w) (A.deeper (envS qual (defScope st) s.heap.objs.size f cda cc)) (leaving (envS qual (defScope st) s.heap.objs.size f cda cc) e) (fun _ s'' => L2.CX g.P g.w outer H s E e s'') (fun e' s'' => L2.CX g.P g.w outer H s E e' s'') s'
/-- a method of the class at D, with super() in it -/
structure DfS (P : Program) (K : PySem.W.Frag) (x qual : Str) (st : Stmt) (f : Addr) (fd : FuncData) (cda cc D : Addr) : Prop where
  ex : ∃ (oc : Value) (od : Option Addr) (dV kV doc pm : Value) (an : Option Addr) (ct : Value) (osl : Array (Option Value)),
    fd = PySem.W.ksFn x qual (defArgs st) (defBody st) (defScope st) dV kV doc pm an (.ref cda) ct cc ∧ K.lookup f = some ⟨oc, od, .func fd, osl⟩ ∧ PySem.W.codeIn K (.ref cda) qual = true
  kp : PySem.W.keepIn K (.ref f) = true
  co : ∃ ccl cdd vs ccs file tf, K.lookup cda = some ⟨ccl, cdd, .fields vs, ccs⟩ ∧ vs[2]? = some (.str file tf) ∧ ((P.main.file : Str) == file) = true
  ce : ∃ cl cld csl, K.lookup cc = some ⟨cl, cld, .cell (some (.ref D)), csl⟩
  D : (PySem.W.clsIn K D).isSome = true
  op : PySem.W.nsIn K cStatics "thirdparty.any" = some none
  nt : (P.main.scope.names.lookup ("super" : Str)).isSome = false
theorem zip_rev_lookup : ∀ {ps : List Str} {us : List Value} {i : Nat} {p : Str} {u : Value}, ps.Nodup → ps[i]? = some p → us[i]? = some u → (ps.zip us).reverse.lookup p = some u
  | [], _, i, _, _, _, h, _ => by simp at h
  | _ :: _, [], i, _, _, _, _, h => by simp at h
  | q :: ps, w :: us, 0, p, u, nd, h1, h2 => by
    cases h1; cases h2
    rw [List.zip_cons_cons, List.reverse_cons, List.lookup_append]
    have : ((ps.zip us).reverse).lookup q = none := by
      rw [List.lookup_eq_none_iff]
      intro y hy
      have := (List.of_mem_zip (List.mem_reverse.mp hy)).1
      have ne : q ≠ y.1 := fun e => (List.nodup_cons.mp nd).1 (by rw [e]; exact this)
      simpa using ne
    rw [this]
    simp
  | q :: ps, w :: us, i + 1, p, u, nd, h1, h2 => by
    rw [List.zip_cons_cons, List.reverse_cons, List.lookup_append, zip_rev_lookup (List.nodup_cons.mp nd).2 (by simpa using h1) (by simpa using h2)]
    rfl
theorem inv_startS {g : Wd} {N ps : List Str} {qual : Str} {st : Stmt} {f cda cc D : Addr} {A : Around} {outer : List Env} {s : Shared} {H : Hp} {E : XK} {us : List Value} {vs : List V} {h₁ : Heap} {tk : Nat}
    (S : ScopeS N ps (defScope st)) (hce : ∃ cl cld csl, g.K.lookup cc = some ⟨cl, cld, .cell (some (.ref D)), csl⟩) (hd : A.handled = none) (e0 : Env0 g.P g.w g.K g.mg g.base A outer s H) (hl : vs.length = ps.length) (r : Vals vs us)
    (hns : h₁.Ns s.heap.objs.size fun y => (ps.zip us).reverse.lookup y) (kp : ∀ b o, s.heap.get? b = some o → h₁.get? b = some o) :
    Inv (cxS g N qual st f cda cc A outer s H E) [] (L2.start N vs) H { s with heap := h₁, toks := tk } := by
  have hpl : ps.length ≤ N.length := by have := congrArg List.length S.pre; rw [List.length_take] at this; omega
  have noA : ∀ b : Addr, b ∉ (cxS g N qual st f cda cc A outer s H E).ex := fun b z => absurd (show b ∈ ([] : List Addr) from z) (by simp)
  obtain ⟨cl, cld, csl, hcc⟩ := hce
  have hcb := e0.mod.kin _ _ hcc
  have one : ∀ {y : Str} {c : Addr}, (cxS g N qual st f cda cc A outer s H E).env.cells.lookup y = some c → y = "__class__" ∧ c = cc := fun {y c} h => by
    have h : ([("__class__", cc)] : List (Str × Addr)).lookup y = some c := h
    simp only [List.lookup_cons, List.lookup_nil] at h
    split at h
    · rename_i e
      cases h
      exact ⟨by simpa using e, rfl⟩
    · cases h
  refine ⟨⟨e0.mod, S.kind, rfl, rfl, Nat.le_refl _, fun y z c h1 h2 => (one h1).1.trans (one h2).1.symm, fun y hy => ?_, fun y c h _ => ?_, fun _ => hd, Around.frames_deeper e0.frames, .inr ⟨rfl, rfl⟩, fun b z => absurd z (noA b), e0.bs, e0.bsz, fun b _ _ => noA b, fun b z => absurd z (noA b), e0.funs, e0.frf⟩,
    rfl, e0.bare, Un.kept kp, ⟨_, hns, fun i y v h1 h2 h3 => ?_⟩, fun y c h => ?_, e0.hok.fresh (Nat.le_refl _), fun y c h => ?_, fun p hp => absurd (show p ∈ ([] : List (Addr × Obj)) from hp) (by simp), e0.hok.kept kp, ?_⟩
  · have hy : (defScope st).names.lookup y = some .cell ∨ (defScope st).names.lookup y = some .free := hy
    rcases hy with hy | hy
    · exact absurd rfl (S.cell _ (PySem.mem_of_lookup hy))
    · have e := S.free _ (PySem.mem_of_lookup hy) rfl
      have e : y = "__class__" := e
      subst e
      exact ⟨cc, rfl⟩
  · have h : false = true := h
    cases h
  · have hi : i < vs.length := by
      unfold L2.start at h2
      by_cases hi : i < vs.length
      · exact hi
      · rw [List.getElem?_append_right (by simpa using hi)] at h2
        rw [List.getElem?_replicate] at h2
        split at h2 <;> cases h2
    have ha : vs[i]? = some v := by
      unfold L2.start at h2
      rw [List.getElem?_append_left (by simpa using hi), List.getElem?_map] at h2
      cases e : vs[i]? with
      | none => rw [e] at h2; cases h2
      | some a => rw [e] at h2; cases h2; rfl
    obtain ⟨u, hu, rv⟩ := r.get ha
    have hp : ps[i]? = some y := by
      rw [← S.pre, List.getElem?_take_of_lt (by omega)]; exact h1
    have ndP : ps.Nodup := by rw [← S.pre]; exact S.nd.sublist (List.take_sublist _ _)
    exact ⟨u, rv, .inl ⟨S.par y (List.mem_of_getElem? hp), zip_rev_lookup ndP hp hu⟩⟩
  · obtain ⟨rfl, rfl⟩ := one h
    exact ⟨_, _, kp _ _ (e0.bs _ _ hcb).1, rfl⟩
  · obtain ⟨rfl, rfl⟩ := one h
    exact (e0.bs _ _ hcb).2
  · unfold L2.start
    show _ = N.length
    rw [List.length_append, List.length_map, List.length_replicate]
    omega
structure PSAs (X : Cx) (c : Code) (st : List Stmt) (t : TS) : Prop where
  run : ∀ (pins : List (Addr × Obj)) (s : Shared) (σ : L2.St) (H : Hp) (D : Ends), Inv X pins σ H s → t D σ H → PySem.wpAt (model X.prog X.w) X.A c (execs st X.env) (SP X pins D) X.xe s
/-- such a def keeps its promise -/
theorem DfS.ok {g : Wd} {x qual : Str} {st : Stmt} {f : Addr} {fd : FuncData} {cda cc D : Addr} {N ps : List Str} {k : Nat} {sp : Sp} (F : DfS g.P g.K x qual st f fd cda cc D) (S : ScopeS N ps (defScope st)) (len : ∀ vs H Q E, sp vs H Q E → vs.length = ps.length)
    (hbody : ∀ (A : Around) (outer : List Env) (s : Shared) (H : Hp) (vs : List V) (Q : VK) (E : XK), Rm k (cxS g N qual st f cda cc A outer s H E) → sp vs H Q E →
      ∃ t, PSAs (cxS g N qual st f cda cc A outer s H E) (.func (defBody st) (envS qual (defScope st) s.heap.objs.size f cda cc)) (defBody st) t ∧ t { nx := fun _ H' => Q .non H', rt := Q } (L2.start N vs) H) : FnG g (k + 1) f fd ps sp := by
  obtain ⟨oc, od, dV, kV, doc, pm, an, ct, osl, rfl, lk, hcd⟩ := F.ex
  refine ⟨len, fun A outer s H args us vs Q E hr hg e0 hb rv hsp => ?_⟩
  have kept : ∀ b o, g.base.get? b = some o → s.heap.get? b = some o := fun b o e => (e0.bs b o e).1
  have KX := e0.mod.kin.keeps kept
  refine ks_codeAny_call_defAt (fd := PySem.W.ksFn x qual (defArgs st) (defBody st) (defScope st) dV kV doc pm an (.ref cda) ct cc) (body := defBody st) (binds := ps.zip us) hr.depth (KX _ _ lk) rfl (e0.mod.nolimit.keeps kept) (PySem.W.codeRec_of KX hcd) rfl hb S.cell (fun y hy => S.par _ (List.of_mem_zip hy).1) (fun h₁ hns hk => ?_) S.co S.gen S.kind
  obtain ⟨t, ht, hq⟩ := hbody A outer s H vs Q E ⟨hr.deeper _, hg⟩ hsp
  have J : Inv (cxS g N qual st f cda cc A outer s H E) [] (L2.start N vs) H { s with heap := h₁, toks := s.toks + (ps.zip us).length } := inv_startS S F.ce hr.hd e0 (len _ _ _ _ hsp) rv hns hk
  refine ks_wpAt_mono (ht.run [] _ _ H _ J hq) ?_ fun _ _ z => z
  rintro fl s' hs
  cases fl with
  | ret u => obtain ⟨v, σ', H', I, r, q⟩ := hs; exact ⟨v, H', I.os, I.bare, I.base, I.hok, r, q⟩
  | next => obtain ⟨σ', H', I, q⟩ := hs; exact ⟨.non, H', I.os, I.bare, I.base, I.hok, rfl, q⟩
  | brk => obtain ⟨_, _, _, q⟩ := hs; exact q.elim
  | cont => obtain ⟨_, _, _, q⟩ := hs; exact q.elim
end RS
namespace RS
open PySem PySem.Spec L2 PyProof.Rows
end RS
namespace RS
open PySem PySem.Spec L2 PyProof.Rows GenW
/-- a generator that has not begun, to be woken in a later heap -/
def GMk2 (P : Program) (w : World) (K : PySem.W.Frag) (mg : Str → Option Value) (base : Heap) (k : Nat) (outer : List Env) (s : Shared) (spv : Hp → SpV) (u : Value) (s' : Shared) : Prop :=
  ∃ (a L : Addr) (gn : Nat) (c : Code), u = .ref a ∧ s.heap.objs.size ≤ L ∧ L < s'.heap.objs.size ∧ s.heap.objs.size ≤ a ∧ s'.heap.IsGen a gn ∧ s'.gens[gn]? = some (.fresh c) ∧ s'.os = s.os ∧ AllBare s'.gens ∧ (∀ b o, s.heap.get? b = some o → s'.heap.get? b = some o) ∧
    ∀ (A : Around) (s2 : Shared) (H2 : Hp), Room k A → A.guards = some [] → A.frames = some outer → (∀ b o, s'.heap.get? b = some o → s2.heap.get? b = some o) → s2.os = s.os → Env0 P w K mg base A outer s2 H2 → H2 L = none → H2 a = none →
      ∃ X, GCtx P w K mg base outer L a gn X ∧ ∀ (Lk : LkR) (k0 : L2.St) (yl : YLk) (fin : L2.St → Hp → Prop), Lk s2 k0 H2 → spv H2 k0 yl fin → Seg (model P w) A (KEnd X Lk fin) (KYp X Lk yl) sizeLine s2 c ((model P w).den c) [] s2
structure GKn2 (P : Program) (w : World) (K : PySem.W.Frag) (mg : Str → Option Value) (base : Heap) (k : Nat) (f : Addr) (fd : FuncData) (ps : List Str) (sp : SpK) : Prop where
  run : ∀ (A : Around) (outer : List Env) (s : Shared) (H : Hp) (args : Args) (us : List Value) (vs : List V), Room k A → A.guards = some [] → Env0 P w K mg base A outer s H → BindsTo s fd args (ps.zip us) → Vals vs us → vs.length = ps.length →
    codeAny (model P w) A (.call (.ref f) args) (fun r s' => match r with | .ok (.ret u) => GMk2 P w K mg base k outer s (sp vs) u s' | _ => False) s
/-- an expression whose value is such a generator -/
abbrev TGk2 := L2.St → Hp → ((Hp → SpV) → Hp → Prop) → Prop
/-- the module holds a generator def x -/
def Kgf2 (g : Wd) (x : Str) (k : Nat) (ps : List Str) (ds : List V) (sp : SpK) : Prop :=
  ∃ f fd dsV, g.mg x = some (.ref f) ∧ PySem.W.keepIn g.K (.ref f) = true ∧ GKn2 g.P g.w g.K g.mg g.base k f fd ps sp ∧ Binds g.K fd ps dsV ∧ Vals ds dsV
def tKM2 (C : Addr) (m : Str) (n : Nat) (sp : SpK) (ds : List V) (ta : TE) (t : TA) : TGk2 := fun σ H Q => ta σ H fun x H1 => ∃ a dx fs, x = .ref a ∧ H1 a = some (.ins C dx fs) ∧ fs.lookup m = none ∧ t σ H1 fun vs H2 => (x :: (vs ++ ds)).length = n ∧ Q (sp (x :: (vs ++ ds))) H2
def tKC2 (n : Nat) (sp : SpK) (ds : List V) (t : TA) : TGk2 := fun σ H Q => t σ H fun vs H1 => (vs ++ ds).length = n ∧ Q (sp (vs ++ ds)) H1
def rmH (H : Hp) (B : Addr) : Hp := fun b => if b = B then none else H b
def YLc (g : TG) (tt : TT) (te : TE) (vs : List Nat) (σ : L2.St) (D B : Addr) : YLk := fun _ _ x Hx res => (∃ xs, Hx D = some (.lst xs)) ∧ g x (wipe σ vs) (rmH Hx B) fun σ2 H2 => wipe σ2 vs = wipe σ vs ∧ tt σ2 H2 fun b H3 =>
  if b = true then te σ2 H3 fun y H4 => H4 B = none → ∃ acc, H4 D = some (.lst acc) ∧ acc.length < sizeLine ∧ ∀ o', res (wipe σ vs) (upd (upd H4 D (.lst (acc ++ [y]))) B (.frz o' (.own B))) else (∃ acc, H3 D = some (.lst acc)) ∧ ∀ o', res (wipe σ vs) (upd H3 B (.frz o' (.own B)))
def tLcK (tk : TGk2) (g : TG) (tt : TT) (te : TE) (vs : List Nat) : TE := fun σ H Q => tk σ H fun spv H1 => ∀ D, H1 D = none → ∀ B o, H1 B = none → B ≠ D → spv (upd (upd H1 D (.lst [])) B (.frz o (.own B))) (wipe σ vs) (YLc g tt te vs σ D B) (fun _ Hx => (∃ xs, Hx D = some (.lst xs)) ∧ Q (.ref D) (rmH Hx B))
end RS
namespace RS
open PySem PySem.Spec L2 PyProof.Rows
def tMethStar (K : PySem.W.Frag) (C : Addr) (m : Str) (sp : Sp) (W : WX) (ta te : TE) : TE := fun σ H Q => ta σ H fun x H1 => ∃ a dx fs, x = .ref a ∧ H1 a = some (.ins C dx fs) ∧ fs.lookup m = none ∧
  ∀ f q, H1 q = none → te σ (upd H1 q (.met f a)) fun y H2 => ∃ b vs, y = .ref b ∧ (SqT K H2 b vs ∨ SqL K H2 b vs) ∧ H2 q = some (.met f a) ∧ sp (.ref a :: vs) H2 Q (fun c d H' => W c d σ H')
def tKCK2 (n : Nat) (sp : SpK) (pm : List Nat) (t : TA) : TGk2 := fun σ H Q => t σ H fun zs H1 => zs.length = n ∧ Q (sp (pm.map fun i => zs.getD i .non)) H1
/-- a dict that is held fast from here on -/
def tLk (t : TE) : TE := fun σ H Q => t σ H fun x H1 => ∃ d u, x = .ref d ∧ H1 d = some u ∧ Mut (some u) ∧ ∀ o, Q x (upd H1 d (.frz o u))
end RS
namespace RS
open PySem PySem.Spec L2 PyProof.Rows HT
end RS
set_option autoImplicit true
namespace RS
open PySem PySem.Spec L2
section
variable {X : Cx} {o : Expr} {to : TE}
/-- x.isdigit(), of a text -/
def tDig (to : TE) : TE := fun σ H Q => to σ H fun x H1 => ∃ a, x = .str a ∧ Q (.bl (Txt.isdigit a)) H1
end
end RS
namespace RS
open PySem PySem.Spec L2 PyProof.Rows GenW
abbrev SpX := List V → Hp → XK → Prop
/-- an expression whose value is such a generator -/
abbrev TGkX := L2.St → Hp → ((Hp → XK → Prop) → Hp → Prop) → Prop
def tKMX (C : Addr) (m : Str) (n : Nat) (sp : SpX) (ds : List V) (ta : TE) (t : TA) : TGkX := fun σ H Q => ta σ H fun x H1 => ∃ a dx fs, x = .ref a ∧ H1 a = some (.ins C dx fs) ∧ fs.lookup m = none ∧ t σ H1 fun vs H2 => (x :: (vs ++ ds)).length = n ∧ Q (sp (x :: (vs ++ ds))) H2
def tKCX (n : Nat) (sp : SpX) (ds : List V) (t : TA) : TGkX := fun σ H Q => t σ H fun vs H1 => (vs ++ ds).length = n ∧ Q (sp (vs ++ ds)) H1
def tLcX (K : PySem.W.Frag) (tk : TGkX) (W : WX) : TE := fun σ H _ => tk σ H fun spx H1 => ∀ D, H1 D = none → ∀ B o, H1 B = none → B ≠ D →
  spx (upd (upd H1 D (.lst [])) B (.frz o (.own B))) fun c d Hx => PySem.W.subIn K c (.type "StopIteration") = some false ∧ W c d σ (rmH Hx B)
end RS
namespace RS
open PySem PySem.Spec L2 PyProof.Rows
end RS
namespace RS
open PySem PySem.Spec L2 PyProof.Rows GenW
end RS
namespace RS
open PySem PySem.Spec L2 PyProof.Rows GenW
end RS
namespace RS
open PySem PySem.Spec L2 PyProof.Rows GenW
abbrev SpVY := L2.St → YLk → (L2.St → Hp → Prop) → (L2.St → XK) → Prop
abbrev SpY := List V → Hp → SpVY
abbrev KEndY (X : Cx) (Lk : LkR) (fin : L2.St → Hp → Prop) (ex : L2.St → XK) (a : Addr) (gn : Nat) : GenEnd := fun n s₀ r s1 => (r = .ok (.ret .none) ∧ KFin X Lk fin s₀ s1) ∨
  ∃ e, r = .error e ∧ ∃ k H0, LkL X Lk s₀ k H0 ∧ CX X.prog X.w X.outer H0 (tr X.env.locals s₀) (ex k) e s1 ∧ s1.heap.IsGen a gn
def GMkY (P : Program) (w : World) (K : PySem.W.Frag) (mg : Str → Option Value) (base : Heap) (k : Nat) (outer : List Env) (s : Shared) (spv : Hp → SpVY) (u : Value) (s' : Shared) : Prop :=
  ∃ (a L : Addr) (gn : Nat) (c : Code), u = .ref a ∧ s.heap.objs.size ≤ L ∧ L < s'.heap.objs.size ∧ s.heap.objs.size ≤ a ∧ s'.heap.IsGen a gn ∧ s'.gens[gn]? = some (.fresh c) ∧ s'.os = s.os ∧ AllBare s'.gens ∧ (∀ b o, s.heap.get? b = some o → s'.heap.get? b = some o) ∧
    ∀ (A : Around) (s2 : Shared) (H2 : Hp), Room k A → A.guards = some [] → A.frames = some outer → (∀ b o, s'.heap.get? b = some o → s2.heap.get? b = some o) → s2.os = s.os → Env0 P w K mg base A outer s2 H2 → H2 L = none → H2 a = none →
      ∃ X, GCtx P w K mg base outer L a gn X ∧ ∀ (Lk : LkR) (k0 : L2.St) (yl : YLk) (fin : L2.St → Hp → Prop) (ex : L2.St → XK), Lk s2 k0 H2 → spv H2 k0 yl fin ex → Seg (model P w) A (KEndY X Lk fin ex a gn) (KYp X Lk yl) sizeLine s2 c ((model P w).den c) [] s2
structure GKnY (P : Program) (w : World) (K : PySem.W.Frag) (mg : Str → Option Value) (base : Heap) (k : Nat) (f : Addr) (fd : FuncData) (ps : List Str) (sp : SpY) : Prop where
  run : ∀ (A : Around) (outer : List Env) (s : Shared) (H : Hp) (args : Args) (us : List Value) (vs : List V), Room k A → A.guards = some [] → Env0 P w K mg base A outer s H → BindsTo s fd args (ps.zip us) → Vals vs us → vs.length = ps.length →
    codeAny (model P w) A (.call (.ref f) args) (fun r s' => match r with | .ok (.ret u) => GMkY P w K mg base k outer s (sp vs) u s' | _ => False) s
end RS
namespace RS
open PySem PySem.Spec L2 PyProof.Rows GenW
end RS
namespace RS
open PySem PySem.Spec L2 PyProof.Rows GenW
/-- the module holds a generator def x that raises -/
def KgfY (g : Wd) (x : Str) (k : Nat) (ps : List Str) (ds : List V) (sp : SpY) : Prop :=
  ∃ f fd dsV, g.mg x = some (.ref f) ∧ PySem.W.keepIn g.K (.ref f) = true ∧ GKnY g.P g.w g.K g.mg g.base k f fd ps sp ∧ Binds g.K fd ps dsV ∧ Vals ds dsV
/-- it does not raise -/
def noX : L2.St → XK := fun _ _ _ _ => False
theorem GKnY.calm {P : Program} {w : World} {K : PySem.W.Frag} {mg : Str → Option Value} {base : Heap} {k : Nat} {f : Addr} {fd : FuncData} {ps : List Str} {sp : SpY} (F : GKnY P w K mg base k f fd ps sp) : GKn2 P w K mg base k f fd ps (fun vs H k0 yl fin => sp vs H k0 yl fin noX) := by
  refine ⟨fun A outer s H args us vs hr hg e0 hb r hl => codeAny_mono (F.run A outer s H args us vs hr hg e0 hb r hl) fun r s' hq => ?_⟩
  cases r with
  | error e => exact False.elim hq
  | ok fl =>
    cases fl with
    | ret u =>
      obtain ⟨a, L, gn, c, eu, hL, hL2, ha, hig, hgs, hos, hba, hkp, wake⟩ := hq
      refine ⟨a, L, gn, c, eu, hL, hL2, ha, hig, hgs, hos, hba, hkp, fun A s2 H2 h1 h2 h3 h4 h5 h6 h7 h8 => ?_⟩
      obtain ⟨X, GX, seg⟩ := wake A s2 H2 h1 h2 h3 h4 h5 h6 h7 h8
      refine ⟨X, GX, fun Lk k0 yl fin lk hs => seg_imp (fun n s₀ r t z => ?_) (fun _ _ _ _ _ _ h z => by
        obtain ⟨i, k, H0, x, ip, σ, H, res, a1, a2, a3, a4, a5, a6⟩ := z
        exact ⟨i, k, H0, x, ip, σ, H, res, a1, a2, a3, a4, a5, fun k' H' s' b1 b2 b3 => h _ _ (a6 k' H' s' b1 b2 b3)⟩) sizeLine (seg Lk k0 yl fin noX lk hs)⟩
      rcases z with z | ⟨e, _, k, H0, _, cx, _⟩
      · exact z
      · obtain ⟨_, _, _, _, _, _, _, _, _, _, _, _, z⟩ := cx
        exact z.elim
    | next => exact False.elim hq
    | brk => exact False.elim hq
    | cont => exact False.elim hq
theorem KgfY.calm {g : Wd} {x : Str} {k : Nat} {ps : List Str} {ds : List V} {sp : SpY} (h : KgfY g x k ps ds sp) : Kgf2 g x k ps ds (fun vs H k0 yl fin => sp vs H k0 yl fin noX) := by
  obtain ⟨f, fd, dsV, a, b, c, d, e⟩ := h
  exact ⟨f, fd, dsV, a, b, c.calm, d, e⟩
end RS
namespace RS
open PySem PySem.Spec L2 PyProof.Rows ClX
end RS
namespace RS
open PySem PySem.Spec L2 PyProof.Rows
end RS
namespace RS
open PySem PySem.Spec L2 PyProof.Rows ClX
end RS
namespace RS
open PySem PySem.Spec L2 PyProof.Rows GenW
end RS
namespace RS
open PySem PySem.Spec L2 PyProof.Rows
/-- what the clause wishes of an exception: it is kept, as a value -/
def wKeep1 (K : PySem.W.Frag) (c : Value) (i : Nat) (ts : Addr → Value → Option Addr → TS) (Wout : WX) (D : Ends) : WX := fun cls d σ H =>
  ∃ b, PySem.W.exmOne K cls c = some b ∧ (b = true → ∃ C, cls = .ref C ∧ ∀ a, H a = none → ts a cls d { nx := fun σ' H' => H' a = none → D.nx (σ'.set i none) (upd H' a (exv a C d)), rt := fun _ _ => False, bk := fun _ _ => False, ct := fun _ _ => False } (σ.set i (some (.ref a))) H) ∧
    (b = false → Wout cls d σ H)
section
variable {X : Cx} {x1 n : Str} {C1 : Addr} {i : Nat} {body suite : List Stmt} {b₀ : Stmt} {q1 pos pos' : Pos} {tb : WX → TS} {ts : Addr → Value → Option Addr → TS} {Wout : WX}
theorem ps_try_keep1 (hs : X.stack = X.env :: X.outer) (hf : X.env.frame = some X.env.locals) (hex : X.ex = []) (hN : X.N.Nodup) (hi : X.N[i]? = some n) (hln : X.env.kindOf n = some .local) (g1 : Names X x1 (.ref C1)) (tk : Takes X Wout)
    (hb : ∀ (W : WX) (pn : List (Addr × Obj)) (xe : Value → Shared → Prop), Takes (X.tr pn xe) W → PassesOwn (model X.prog X.w) X.A X.env xe → PSs (X.tr pn xe) body (tb W))
    (hsu : ∀ (a : Addr) (oe : Obj) (cls : Value) (d : Option Addr) (pn : List (Addr × Obj)), Zc cls d oe → (∃ vs, oe.data = .fields vs) → PSs (X.suite a ((a, oe) :: pn)) (b₀ :: suite) (ts a cls d)) :
    PS X (.Try body [.ExceptHandler (some (.Name x1 q1)) (some n) (b₀ :: suite) pos'] [] [] pos) (fun D σ H => tb (wKeep1 X.K (.ref C1) i ts Wout D) D σ H) := by
  refine ⟨fun pins s σ H D I h => ?_⟩
  have ok := I.ok
  have hfr : X.A.frames = some (X.env :: X.outer) := by rw [ok.frames, hs]
  refine wpAny_Try_except ?_
  let clause : ExceptHandler := .ExceptHandler (some (.Name x1 q1)) (some n) (b₀ :: suite) pos'
  let M := model X.prog X.w
  let xe' : Value → Shared → Prop := fun e s₁ => wpAny M X.A (noteFrame e X.env) (fun _ s₂ => wpAny M X.A (setFlight e none) (fun _ s₃ => wpAny M X.A (handleBy e X.env [clause]) (SP X pins D) X.xe s₃) X.xe s₂) X.xe s₁
  have run := (hb (wKeep1 X.K (.ref C1) i ts Wout D) (X.pn ++ pins) xe' (fun u s' xx => ?caught) PassesOwn.looking).run [] s σ H D (I.toTry _) h
  · refine wpAny_mono run (fun f s1 hsp => ?_) (fun e s1 he => he)
    cases f with
    | next =>
      obtain ⟨σ', H', J', q⟩ := hsp
      exact wpAny_execs_nil ⟨σ', H', J'.ofTry ok, q⟩
    | brk =>
      obtain ⟨σ', H', J', q⟩ := hsp
      exact ⟨σ', H', J'.ofTry ok, q⟩
    | cont =>
      obtain ⟨σ', H', J', q⟩ := hsp
      exact ⟨σ', H', J'.ofTry ok, q⟩
    | ret u =>
      obtain ⟨v, σ', H', J', r, q⟩ := hsp
      exact ⟨v, σ', H', J'.ofTry ok, r, q⟩
  case caught =>
    obtain ⟨a, B, sI, pins', σ', H', cls, d, rfl, J', nb, up, sky, na, os, ag, b, hb1, hyes, hno⟩ := xx
    have J : Inv X pins σ' H' sI := J'.ofTry ok
    have sky' : Sky B (X.env :: X.outer) a (Zc cls d) X.env.locals s'.heap := by rw [← hs]; exact sky
    have nB := sky_none sky'
    show wpAny M X.A (noteFrame (.ref a) X.env) _ _ _
    refine Sky.land Zc.steady hfr hf sky' fun h3 fl3 up3 => ?_
    have land : ∀ h, HandSPX.FlyingZ B (X.env :: X.outer) a (Zc cls d) h → s'.heap.UpToSlots h → Inv X pins σ' H' { s' with heap := h } := fun h fl u => J.landed nb fl.1 (up.trans u) os ag
    have J3 := land h3 fl3 up3
    obtain ⟨oe3, vs3, he3, hz3, hd3⟩ := fl3.there
    have nfr : a ∉ frs (X.env :: X.outer) := fun hm => by
      obtain ⟨_, o', e', hnf⟩ := fl3.2.2.1.mem hm
      rw [he3] at e'
      cases e'
      exact hnf _ hd3
    have nL : a ≠ X.env.locals := fun z => nfr (List.mem_filterMap.mpr ⟨X.env, List.mem_cons_self, by rw [hf, z]⟩)
    have nF : a ∉ X.fs := fun hm => by
      obtain ⟨e, he, q⟩ := List.mem_filterMap.mp hm
      exact nfr (List.mem_filterMap.mpr ⟨e, List.mem_cons_of_mem _ he, q⟩)
    have nI : sI.heap.get? a = none := by
      cases z : sI.heap.get? a with
      | none => rfl
      | some o =>
        have := nb a o z (by rw [hs]; exact nfr)
        rw [nB] at this; cases this
    have n0 : X.s_0.heap.get? a = none := by
      cases z : X.s_0.heap.get? a with
      | none => rfl
      | some o =>
        obtain ⟨o', z'⟩ := J.base.there a o z (by rw [hex]; simp)
        rw [nI] at z'; cases z'
    have npin : ∀ p ∈ X.pn ++ pins, p.1 ≠ a := fun p hp z => by
      have := (J.pin p hp).1
      rw [z, nI] at this; cases this
    have S3 := J3.suite he3 hd3 na nL nF
    refine wpAny_handleBy_cons (codeAny_handlers_test ?_) (by intro q; cases q)
    have LT : PySem.W.Looks M h3 (typeOf (.ref a)) cls := fun A Q E s k q => wpAny_typeOf_ref (k _ _ he3) (by rw [hz3.1]; exact q)
    have ld : ∀ {x : Str} {C : Addr} {np : Pos} {Q : Value → Shared → Prop} {E : Value → Shared → Prop}, Names X x (.ref C) → Q (.ref C) { s' with heap := h3 } → wpAny M (X.A.mark (some (.ref a))) (eval (.Name x np) X.env) Q E { s' with heap := h3 } := fun {x C np Q E} hc q => by
      obtain ⟨hg, hdbg, hm | ⟨hm, hv, hnn⟩⟩ := hc
      · exact ld_glob (X := X.suite a ((a, oe3) :: (X.pn ++ pins))) S3 hg hm q hdbg
      · exact ld_blt (X := X.suite a ((a, oe3) :: (X.pn ++ pins))) S3 hg hm hv q hnn hdbg
    refine ld g1 ?_
    refine (PySem.W.exm_one (M := M) J3.kIn LT hb1).here ?_
    have fl := fl3
    have upk := up3
    cases b with
    | true =>
      obtain ⟨C, rfl, hyes⟩ := hyes rfl
      refine codeAny_handlers_suite_as ?_
      refine HandSPX.lands_againZ fl fun h4 fl4 up4 => ?_
      have J4 := land h4 fl4 (upk.trans up4)
      obtain ⟨oe4, vs4, he4, hz4, hd4⟩ := fl4.there
      have S4 := J4.suite he4 hd4 na nL nF
      refine store_ok (X := X.suite a ((a, oe4) :: (X.pn ++ pins))) (v := .ref a) S4 hN hi (.inl hln) rfl (fun s5 S5 => ?_) (.inr hln)
      refine wpAny_mono ((hsu a oe4 (.ref C) d (X.pn ++ pins) hz4 ⟨_, hd4⟩).run [] s5 _ H' _ S5 (hyes a na)) (fun f s6 hsp => ?_) (fun _ _ z => False.elim z)
      cases f with
      | next =>
        obtain ⟨σ6, H6, S6, q6⟩ := hsp
        have p6 := S6.pin (a, oe4) (List.mem_append_left _ (List.mem_cons_self ..))
        have Jp : Inv X ((a, oe4) :: pins) σ6 H6 s6 := ⟨ok, S6.os, S6.bare, S6.base, S6.loc, S6.cell, S6.free, S6.freeC, fun p hp => by
          rcases List.mem_append.mp hp with z | z
          · exact S6.pin p (List.mem_append_left _ (List.mem_cons_of_mem _ (List.mem_append_left _ z)))
          · rcases List.mem_cons.mp z with z | z
            · rw [z]; exact p6
            · exact S6.pin p (List.mem_append_left _ (List.mem_cons_of_mem _ (List.mem_append_right _ z))), S6.hok, S6.len⟩
        refine gone_ok Jp hN hi hln fun s7 J7 => ?_
        obtain ⟨e7, n7, l7, f7, c7⟩ := J7.pin (a, oe4) (List.mem_append_right _ (List.mem_cons_self ..))
        have J8 : Inv X pins (σ6.set i none) H6 s7 := ⟨ok, J7.os, J7.bare, J7.base, J7.loc, J7.cell, J7.free, J7.freeC, fun p hp => J7.pin p ((List.mem_append.mp hp).elim (List.mem_append_left _) fun z => List.mem_append_right _ (List.mem_cons_of_mem _ z)), J7.hok, J7.len⟩
        refine ⟨_, _, track (u := exv a C d) J8 n7 n0 l7 (fun x c hc z => ?_) npin (exv_ok e7 hz4.1 hz4.2 hd4), q6 n7⟩
        obtain ⟨v, o, ho, hd⟩ := J7.cell x c hc
        rw [z, e7] at ho
        cases ho
        exact c7 v hd
      | brk =>
        obtain ⟨σ6, H6, S6, q6⟩ := hsp
        exact q6.elim
      | cont =>
        obtain ⟨σ6, H6, S6, q6⟩ := hsp
        exact q6.elim
      | ret u =>
        obtain ⟨v6, σ6, H6, S6, r6, q6⟩ := hsp
        exact q6.elim
    | false =>
      show wpAny _ X.A (handleBy (.ref a) X.env []) _ _ _
      refine wpAny_handleBy_nil ?_
      have fl' := fl
      obtain ⟨k1, k2, k3, oe, vs, T, oT, ts', he, hz, hd, h1, hr⟩ := fl'
      unfold PySem.passOn
      refine wpAny_bind (wpAny_field he hd h1 ?_)
      rw [if_neg (show ¬ ((Value.ref T == Value.none) = true) from by simp)]
      have fin : wpAny M X.A (setFlight (.ref a) X.env.frame) (fun _ s4 => wpAny M X.A (throw (.ref a) : Sem Flow) (SP X pins D) X.xe s4) X.xe { s' with heap := h3 } := by
        rw [hf]
        refine HandSPX.setFlight_upZ fl fun h4 hh4 up4 => wpAny_throw (tk _ _ ?_)
        exact ⟨a, B, sI, pins, σ', H', cls, d, rfl, J, nb, up.trans (upk.trans up4), .inr (.inr (by rw [hs]; exact hh4)), na, os, ag, hno rfl⟩
      first
        | exact wpAny_bind (wpAny_pure (wpAny_bind fin))
        | exact wpAny_bind fin
end
end RS
namespace PySem.SeqAt
open PySem PySem.MeetsSeq
end PySem.SeqAt
namespace RS
open PySem PySem.Spec L2 PyProof.Rows
end RS
namespace PySem.W
open PySem PySem.Spec PyProof.Rows PyProof.V PyProof
end PySem.W
namespace RS
open PySem PySem.Spec L2 PyProof.Rows LamX
end RS
namespace RS
open PySem PySem.Spec L2 PyProof.Rows
section
variable {X : Cx}
def rStrA : List V → Hp → VK → Prop := fun xs H Q => (∃ i, xs = [.int i] ∧ i.natAbs.log2 < 1920 ∧ Q (.str (toString i)) H) ∨ (xs = [.non] ∧ Q (.str (Str.ofString "None")) H) ∨ ∃ b : Bool, xs = [.bl b] ∧ Q (.str (Str.ofString (if b then "True" else "False" : String))) H
theorem c_strA : CallR X (.type "str") rStrA := by
  intro pins s σ H xs us Q I r h
  rcases h with ⟨i, rfl, hz, q⟩ | ⟨rfl, q⟩ | ⟨b, rfl, q⟩
  · obtain ⟨u, rfl, t, rfl⟩ := vals1 r
    exact PySem.P.str_of_int hz ⟨.str _, H, I.tok _, ⟨_, rfl⟩, q⟩
  · obtain ⟨u, rfl, r1⟩ := vals1 r
    cases r1
    exact PySem.P.str_of_none ⟨.str _, H, I.tok _, ⟨_, rfl⟩, q⟩
  · obtain ⟨u, rfl, r1⟩ := vals1 r
    cases r1
    refine PySem.P.str_of_bool ⟨.str _, H, I.tok _, ⟨_, rfl⟩, ?_⟩
    cases b <;> exact q
def rInN (K : PySem.W.Frag) (d : Addr) : R2 := fun x y H Q => ∃ (z : Str) (r : Option Value), x = .str z ∧ y = .ref d ∧ PySem.W.nsIn K d z = some r ∧ Q (.bl r.isSome) H
theorem o_inN {K : PySem.W.Frag} {w : World} {d : Addr} {es : Array DictEntry} {n : Nat} (D : KDict K w d es n) (hK : X.K = K := by rfl) (hw : X.w = w := by rfl) : OpR X (compareOp .In) (rInN K d) := by
  subst hK hw
  exact op_in_kd D
end
end RS
namespace PySem
open Sem (wp)
end PySem
namespace RS
open PySem PySem.Spec L2
end RS
set_option maxHeartbeats 2000000
namespace RS
open PySem PySem.Spec L2 PyProof.Rows GenW
end RS
namespace RS
open PySem PySem.Spec L2 PyProof.Rows
def txOf (e : Int × Value) : Str := match e.2 with
  | .str x _ => x
  | _ => Str.empty
def EnTx (w : World) (e : Int × Value) : Prop := ∃ x u, e.2 = Value.str x u ∧ e.1 = hashStr w x
/-- entries and table hold the texts l in some order -/
structure TbS (w : World) (ar : Array (Int × Value)) (tb : SetTable) (l : List Str) : Prop where
  en : ∀ e ∈ ar.toList, EnTx w e
  pm : (ar.toList.map txOf).Perm l
  nd : l.Nodup
  ft : tb.fits ar.size = true
  rs : Ris tb.place.toList
  ld : w.params.followText "set-order" = true ∨ tb.led = true
  sz : l.length < scanBound
def SetS (w : World) (hp : Heap) (a : Addr) (l : List Str) : Prop := ∃ ob ar ep tb, hp.get? a = some ob ∧ ob.ExactSet ∧ ob.data = .set ar ep tb ∧ TbS w ar tb l
section
variable {P : Program} {w : World} {A : Around} {E : Value → Shared → Prop} {sh : Shared} {a : Addr} {l : List Str} {ar : Array (Int × Value)} {tb : SetTable}
theorem SetS.at {hp hp' : Heap} (R : SetS w hp a l) (k : ∀ ob, hp.get? a = some ob → hp'.get? a = some ob) : SetS w hp' a l := by
  obtain ⟨ob, ar, ep, tb, h1, h2⟩ := R
  exact ⟨ob, ar, ep, tb, k ob h1, h2⟩
theorem TbS.len (T : TbS w ar tb l) : ar.size = l.length := by
  rw [← T.pm.length_eq, List.length_map, Array.length_toList]
theorem enS_is {e : Int × Value} (n : EnTx w e) (x : Str) : (strKind P w).is x e.2 = true ↔ txOf e = x := by
  obtain ⟨y, u, e1, _⟩ := n
  unfold txOf
  rw [e1]
  show ((y == x) = true) ↔ y = x
  exact beq_iff_eq
theorem TbS.has (T : TbS w ar tb l) (x : Str) : x ∈ l ↔ ∃ e ∈ ar.toList, (strKind P w).is x e.2 = true := by
  rw [← T.pm.mem_iff, List.mem_map]
  exact ⟨fun ⟨e, m, q⟩ => ⟨e, m, (enS_is (T.en e m) x).2 q⟩, fun ⟨e, m, q⟩ => ⟨e, m, (enS_is (T.en e m) x).1 q⟩⟩
end
end RS
namespace RS
open PySem PySem.Spec L2 PyProof.Rows
end RS
namespace RS
open PySem PySem.Spec L2 PyProof.Rows
end RS
namespace RS
open PySem PySem.Spec L2 PyProof.Rows
section
variable {X : Cx} {k : Nat}
def rEqT0 (K : PySem.W.Frag) : R2 := fun x y H Q => ∃ a b xs ys, x = .ref a ∧ y = .ref b ∧ SqT K H a xs ∧ SqT K H b ys ∧ (xs = [] ∨ ys = []) ∧ Q (.bl (decide (xs.length = ys.length))) H
theorem op_eqT0 {K : PySem.W.Frag} (hr : Rm k X) (hK : X.K = K := by rfl) : OpR X (compareOp .Eq) (rEqT0 K) := by
  subst hK
  intro pins s σ H x y v u Q I rx ry h
  obtain ⟨a, b, xs, ys, rfl, rfl, ha, hb, he, q⟩ := h
  cases rx
  cases ry
  obtain ⟨its, r1, p1, _⟩ := I.tuple ha
  obtain ⟨its2, r2, p2, _⟩ := I.tuple hb
  have l1 := r1.length
  have l2 := r2.length
  have hu : X.A.units < cLine := by have := hr.room.un; omega
  have zz : its.length = 0 ∨ its2.length = 0 := by
    rcases he with e | e
    · exact .inl (by rw [← l1, e]; rfl)
    · exact .inr (by rw [← l2, e]; rfl)
  have := SeqAt.RcAt.tuples (A := X.A) (s := s) (l := a) (b := b) (e := fun _ => true) p1 p2 hu (fun j h1 h2 => by simp at h1 h2; omega)
  refine this X.prog X.w X.xe _ ⟨.bl (decide (xs.length = ys.length)), H, I, ?_, q⟩
  have e1 : ((List.range (min its.toArray.size its2.toArray.size)).all fun _ => true) = true := List.all_eq_true.mpr fun _ _ => rfl
  have e2 : (its.toArray.size == its2.toArray.size) = decide (xs.length = ys.length) := by
    rw [List.size_toArray, List.size_toArray, l1, l2, Bool.eq_iff_iff]; simp
  rw [e1, e2, Bool.true_and]
  rfl
end
end RS
namespace RS
open PySem PySem.Spec L2 PyProof.Rows ClX
end RS
namespace RS
open PySem PySem.Spec L2 PyProof.Rows
end RS
namespace RS
open PySem PySem.Spec PyProof.Rows L2
/-- a loop whose target and body are taken together -/
def tForR (wi : TI) (tgb : V → TS) : TS := fun D σ H => wi σ H fun J H1 => ∃ W : Nat → Nat → L2.St → Hp → Prop, (∃ m, W 0 m σ H1) ∧ ∀ i m σ H, W i m σ H →
  (J.stop i H ∧ D.nx σ H) ∨ (J.go i H ∧ ∃ N : L2.St → Hp → Prop, (∀ σ' H', N σ' H' → ∃ m', m' < m ∧ W (i + 1) m' σ' H') ∧ ∀ x H', J.yld i H x H' → tgb x { D with nx := N, ct := N, bk := D.nx } σ H')
section
variable {X : Cx}
theorem pst_forR {tg iter : Expr} {body : List Stmt} {wi : TI} {tgb : V → TS} {pos : Pos} (hp : PassesOwn (model X.prog X.w) X.A X.env X.xe) (hc : X.calm = true) (hi : PIT X tg iter wi)
    (hgb : ∀ (pins : List (Addr × Obj)) (s : Shared) (σ : L2.St) (H : Hp) (D : Ends) (x : V) (u : Value), Inv X pins σ H s → RelV x u → tgb x D σ H →
      wpAny (model X.prog X.w) X.A (assign tg X.env u) (fun _ s1 => wpAny (model X.prog X.w) X.A (execs body X.env) (SP X pins D) X.xe s1) X.xe s)
    (hs : ∀ x, foldedSetIterable iter X.env x = pure x := by intro _; rfl) : PST X (.For tg iter body [] pos) (tForR wi tgb) := by
  intro pins s σ H D h0 I h
  refine wpAny_For (thn (hi pins s σ H _ h0 I h) fun v s1 h1 => thn h1 fun itv s2 h2 => ?_) hs
  obtain ⟨it, fp, tn, J, H2, e, I2, T, st2, f2, W, ⟨m0, w0⟩, turn⟩ := h2
  subst e
  have stat : ∀ {H' : Hp}, (∀ b ∈ fp, H' b = none) → ∀ b ∈ fp, FpOk X pins H' b := fun hn b hb => ⟨hn b hb, (f2 b hb).2⟩
  refine codeAny_forLoop_any (fun n s' => ∃ i σ' H', Inv X pins σ' H' s' ∧ tn i s'.heap ∧ (∀ b ∈ fp, H' b = none) ∧ W i n σ' H') ?_ m0 ⟨0, σ, H2, I2, st2, fun b hb => (f2 b hb).1, w0⟩
  rintro n s3 ⟨i, σ3, H3, I3, st3, fr3, w3⟩
  rcases turn i n σ3 H3 w3 with ⟨stop, qn⟩ | ⟨go, N, hN, step⟩
  · refine wpAny_passesOwn hp (thn (T.done X rfl rfl rfl hc i pins s3 σ3 H3 X.xe I3 (stat fr3) st3 stop) fun r s4 ⟨hr, I4⟩ => ?_)
    subst hr
    exact wpAny_execs_nil ⟨σ3, H3, I4, qn⟩
  · refine wpAny_passesOwn hp (thn (T.item X rfl rfl rfl hc i pins s3 σ3 H3 X.xe I3 (stat fr3) st3 go) fun r s4 ⟨u, hr, h4⟩ => ?_)
    subst hr
    refine wpAny_passesOwn hp (thn h4 fun _ s5 ⟨x, H5, I5, r5, y5, st5, fr5⟩ => ?_)
    have I5' := I5.pinned (stat fr5) (T.obj _ _ st5)
    refine wpAny_passesOwn hp (thn (hgb _ s5 σ3 H5 _ x u I5' r5 (step x H5 y5)) fun _ s6 q6 => ?_)
    refine wpAny_passesOwn hp (thn q6 fun f s7 q7 => ?_)
    have again : ∀ {σ7 : L2.St} {H7 : Hp}, Inv X (pins ++ pinsAt fp s5.heap) σ7 H7 s7 → N σ7 H7 → ∃ m, m < n ∧ ∃ i σ' H', Inv X pins σ' H' s7 ∧ tn i s7.heap ∧ (∀ b ∈ fp, H' b = none) ∧ W i m σ' H' := fun {σ7 H7} I7 n7 => by
      obtain ⟨m', hm, w7⟩ := hN σ7 H7 n7
      refine ⟨m', hm, i + 1, σ7, H7, I7.unpinned, T.keep _ _ _ st5 fun b hb o e => (I7.pin (b, o) (List.mem_append_right _ (List.mem_append_right _ (mem_pinsAt hb e)))).1, fun b hb => ?_, w7⟩
      obtain ⟨o, e, d⟩ := T.obj _ _ st5 b hb
      exact (I7.pin (b, o) (List.mem_append_right _ (List.mem_append_right _ (mem_pinsAt hb e)))).2.1
    cases f with
    | next => obtain ⟨σ7, H7, I7, n7⟩ := q7; exact again I7 n7
    | cont => obtain ⟨σ7, H7, I7, n7⟩ := q7; exact again I7 n7
    | brk => obtain ⟨σ7, H7, I7, q7⟩ := q7; exact ⟨σ7, H7, I7.unpinned, q7⟩
    | ret v => obtain ⟨x7, σ7, H7, I7, r7, q7⟩ := q7; exact ⟨x7, σ7, H7, I7.unpinned, r7, q7⟩
/-- a pair of texts whose object is known -/
def RawT (H : Hp) (a : Addr) (y z : Str) : Prop := ∃ (o : Obj) (t u : Tok) (n : Nat), H a = some (.frz o (.tup [.str y, .str z])) ∧ o.cls = .type "tuple" ∧ o.data = .seq #[.str y t, .str z u] n ∧ t ≠ 0 ∧ u ≠ 0 ∧ t ≠ u ∧ (y == z) = false
theorem RawT.same {H G : Hp} {a : Addr} {y z : Str} (h : RawT H a y z) (s : ∀ b o, H b = some o → G b = some o) : RawT G a y z := by
  obtain ⟨o, t, u, n, e, r⟩ := h
  exact ⟨o, t, u, n, s _ _ e, r⟩
def tPairT (y z : Str) : TE := fun _ H Q => ∀ (a : Addr) (o : Obj), H a = none → RawT (upd H a (.frz o (.tup [.str y, .str z]))) a y z → Q (.ref a) (upd H a (.frz o (.tup [.str y, .str z])))
theorem pet_pairT {y z : Str} {j0 j1 : Nat} {c0 c1 pos : Pos} {k} (hyz : (y == z) = false := by decide +kernel) : PET X (.Tuple [.Constant (.str y) j0 c0, .Constant (.str z) j1 c1] k pos) (tPairT y z) := by
  intro pins s σ H Q h0 I h
  refine wpAny_Tuple_spliced ?_
  show wpAny _ _ (spliced ((false, eval (.Constant (.str y) j0 c0) X.env) :: backTo pos (starEach [.Constant (.str z) j1 c1] X.env))) _ _ s
  refine Calls.spliced_cons (Calls.Constant_str ?_)
  show wpAny _ _ (spliced ((false, eval (.Constant (.str z) j1 c1) X.env) :: backTo pos (starEach [] X.env))) _ _ _
  refine Calls.spliced_cons (Calls.Constant_str (Calls.spliced_nil ?_))
  have h2 : (2 : Nat) ≤ sizeLine := by decide
  refine ⟨h2, .ref s.heap.objs.size, upd H s.heap.objs.size (.frz { cls := .type "tuple", data := .seq #[.str y s.toks, .str z (s.toks + 1)] 0 } (.tup [.str y, .str z])), ?_, rfl, ?_⟩
  · exact I.laid (t' := s.toks + 1 + 1) (fun b u e => Heap.get?_push_of_some _ e) (Nat.le_refl _) ⟨Heap.get?_push_size _ rfl, h2, [.str y s.toks, .str z (s.toks + 1)], .cons ⟨_, rfl⟩ (.cons ⟨_, rfl⟩ .nil), ⟨_, Heap.get?_push_size _ rfl, rfl, _, rfl⟩⟩
  · exact h _ _ (I.hok.fresh (Nat.le_refl _)) ⟨_, s.toks, s.toks + 1, 0, upd_same, rfl, rfl, show s.toks ≠ 0 by omega, show s.toks + 1 ≠ 0 by omega, show s.toks ≠ s.toks + 1 by omega, hyz⟩
theorem pet_tup {es : List Expr} {ta : TA} {pos : Pos} {k} (h : PAT X es ta) : PET X (.Tuple es k pos) (tTup ta) := by
  intro pins s σ H Q h0 I hq
  refine wpAny_Tuple_spliced (thn (h pos pins s σ H _ h0 I hq) fun us s1 ⟨xs, H1, I1, r, z, q⟩ => ⟨by rw [← r.length]; exact z, ?_⟩)
  have hf : H1 s1.heap.objs.size = none := I1.hok.fresh (Nat.le_refl _)
  refine ⟨.ref s1.heap.objs.size, upd H1 s1.heap.objs.size (.tup xs), I1.laid (t' := s1.toks) (fun b u e => Heap.get?_push_of_some _ e) (Nat.le_refl _) ?_, rfl, q _ hf⟩
  exact ⟨z, us, r, ⟨_, Heap.get?_push_size _ rfl, rfl, _, rfl⟩⟩
theorem pit_tup {tg l : Expr} {tl : TE} (hl : PET X l tl) : PIT X tg l (iTup X.K tl) := by
  intro pins s σ H R h0 I h
  refine thn (hl pins s σ H _ h0 I h) fun v s1 ⟨x, H1, I1, r1, q1⟩ => ?_
  obtain ⟨a, e, ⟨xs, hq⟩, q⟩ := q1
  subst e
  cases r1
  obtain ⟨its, rv, p, hz⟩ := I1.tuple hq
  refine wpAny_pyIter_tuple (show s1.heap.IsTuple a its.toArray from p) ?_
  refine ⟨s1.heap.objs.size, [s1.heap.objs.size], _, _, H1, rfl, I1.kept (t' := s1.toks) fun b o e => Heap.get?_push_of_some _ e, turn_tuple a _, ⟨_, Heap.get?_push_size _ rfl, rfl, rfl⟩, fun b hb => ?_, q⟩
  have e : b = s1.heap.objs.size := by simpa using hb
  subst e
  exact I1.fpOk (Nat.le_refl _) (I1.hok.fresh (Nat.le_refl _))
/-- one turn -/
def tRepT (iw ia ib : Nat) : V → TS := fun v D σ H => ∃ p y z x, v = .ref p ∧ RawT H p y z ∧ σ[iw]? = some (some (.str x)) ∧ x.length + (x.length + 1) * z.length ≤ 16777216 ∧
  D.nx (((σ.set ia (some (.str y))).set ib (some (.str z))).set iw (some (.str (Txt.replace x y z)))) H
theorem repl_turn {ia ib iw : Nat} {a b w : Str} {p1 p2 p3 p4 q1 q2 ps apos cpos tpos : Pos} {k} (hcalm : X.calm = true) (hN : X.N.Nodup) (ha : X.N[ia]? = some a) (hb : X.N[ib]? = some b) (hw : X.N[iw]? = some w)
    (ka : X.env.scope.names.lookup a = some .local) (kb : X.env.scope.names.lookup b = some .local) (kw : X.env.scope.names.lookup w = some .local) (iaw : ia ≠ iw) (ibw : ib ≠ iw) (iab : ia ≠ ib)
    (da : (a == ("__debug__" : Str)) = false := by decide +kernel) (db : (b == ("__debug__" : Str)) = false := by decide +kernel) (dw : (w == ("__debug__" : Str)) = false := by decide +kernel) (cw : (w == ("__classdict__" : Str)) = false := by decide +kernel)
    (hst : starEach [.Name a q1, .Name b q2] X.env = [(false, eval (.Name a q1) X.env), (false, eval (.Name b q2) X.env)] := by rfl)
    (hbase : attributeBase (.Name w p3) "replace" X.env (eval (.Name w p3) X.env) = eval (.Name w p3) X.env := by rfl) (hline : (apos.endLine == cpos.line) = true := by rfl)
    (hsw : swapsWith (.Call (.Attribute (.Name w p3) "replace" apos) [.Name a q1, .Name b q2] [] cpos) (some (.Name w p4)) ps.line X.env = pure false := by rfl)
    (hn : (assignEach [.Name a p1, .Name b p2] X.env).length = 2 := by rfl) (hno : (assignEach [.Name a p1, .Name b p2] X.env).findIdx? (·.1) = none := by rfl)
    (hmap : (assignEach [.Name a p1, .Name b p2] X.env).map (·.2) = [assign (.Name a p1) X.env, assign (.Name b p2) X.env] := by rfl) :
    ∀ (pins : List (Addr × Obj)) (s : Shared) (σ : L2.St) (H : Hp) (D : Ends) (x : V) (u : Value), Inv X pins σ H s → RelV x u → tRepT iw ia ib x D σ H →
      wpAny (model X.prog X.w) X.A (assign (.Tuple [.Name a p1, .Name b p2] k tpos) X.env u) (fun _ s1 => wpAny (model X.prog X.w) X.A (execs [.Assign [.Name w p4] (.Call (.Attribute (.Name w p3) "replace" apos) [.Name a q1, .Name b q2] [] cpos) ps] X.env) (SP X pins D) X.xe s1) X.xe s := by
  intro pins s σ H D v u0 I r h
  obtain ⟨p, y, z, x, rfl, hR, hx, hbd, q⟩ := h
  cases r
  obtain ⟨o, t, u, n, e, hc, hd, ht, hu, htu, hyz⟩ := hR
  have hok := I.hok p _ e
  have tup : IsTup s.heap p #[.str y t, .str z u] := ⟨o, hok.1, hc, n, hd⟩
  have hcls : (X.env.scope.kind == .class || (X.env.scope.kind == .module && X.env.locals != X.env.globals)) = false := by rw [I.ok.kind]; rfl
  have nab : a ≠ b := fun z => iab (nodup_ix hN ha (z ▸ hb))
  refine assign_Tuple_tuple (I.ok.hd hcalm) tup (by rw [hn]; rfl) hno fun h' hx' => ?_
  rw [hmap]
  have I1 : Inv X pins σ H { s with heap := h' } := I.kept (t' := s.toks) fun b o e => hx' b o (Nat.ne_of_lt (Heap.lt_size e)) e
  generalize ({ s with heap := h' } : Shared) = s1 at I1 ⊢
  obtain ⟨m1, n1, _⟩ := id I1.loc
  refine assignInOrder_cons (wpAny_assign_Name ?_)
  refine wpAny_mono (wpAny_both (store_ok (v := V.str y) (u := Value.str y t) (Q := fun _ s2 => Inv X pins (σ.set ia (some (.str y))) H s2) I1 hN ha (.inl ka) ⟨t, rfl⟩ (fun _ I2 => I2) (.inr ka)) (wpAny_storeName_local (E := fun _ _ => True) (Q := fun _ s2 => s2.heap.Ns X.env.locals (fun x => if x = a then some (.str y t) else m1 x)) ka n1 (fun _ h _ => h) hcls)) (fun _ s2 q2 => ?_) fun _ _ z => z.1
  obtain ⟨I2, n2⟩ := q2
  refine assignInOrder_cons (wpAny_assign_Name ?_)
  refine wpAny_mono (wpAny_both (store_ok (v := V.str z) (u := Value.str z u) (Q := fun _ s3 => Inv X pins ((σ.set ia (some (.str y))).set ib (some (.str z))) H s3) I2 hN hb (.inl kb) ⟨u, rfl⟩ (fun _ I3 => I3) (.inr kb)) (wpAny_storeName_local (E := fun _ _ => True) (Q := fun _ s3 => s3.heap.Ns X.env.locals (fun x => if x = b then some (.str z u) else if x = a then some (.str y t) else m1 x)) kb n2 (fun _ h _ => h) hcls)) (fun _ s3 q3 => ?_) fun _ _ z => z.1
  obtain ⟨I3, n3⟩ := q3
  refine assignInOrder_nil ?_
  have hx3 : ((σ.set ia (some (.str y))).set ib (some (.str z)))[iw]? = some (some (.str x)) := by
    rw [List.getElem?_set_ne ibw, List.getElem?_set_ne iaw]; exact hx
  refine wpAny_execs_cons (wpAny_Assign_Name ?_ hsw)
  refine PySem.Call_method2 hbase hst hline (raw_name hw (.inl kw) I3 hx3 (fun v r => ?_) dw cw)
  obtain ⟨tx, e⟩ := r
  subst e
  refine ⟨"str", _, F.plainAttrs_str, F.slot_str_replace, F.type_str_replace, typeIs_str _ _ _, (fun _ e => nomatch e), Calls.callWith_builtin rfl (Calls.evalArgs_plain (Calls.spliced_cons ?_))⟩
  refine wpAny_Name (wpAny_loadName_local I3.ok.kind ka n3 (by rw [if_neg nab, if_pos rfl]) ?_) da
  refine Calls.spliced_cons (wpAny_Name (wpAny_loadName_local I3.ok.kind kb n3 (by rw [if_pos rfl]) ?_) db)
  refine Calls.spliced_nil ?_
  refine PySem.SC.replace ht hu htu hyz hbd fun t' k' => ?_
  exact store_ok (v := V.str (Txt.replace x y z)) (u := Value.str (Txt.replace x y z) t') (I3.tok k') hN hw (.inl kw) ⟨t', rfl⟩ (fun s4 I4 => wpAny_execs_nil ⟨_, H, I4, q⟩) (.inr kw)
end
def rpl (ps : List (Str × Str)) (x : Str) : Str := ps.foldl (fun x p => Txt.replace x p.1 p.2) x
def tRepl (iw ia ib : Nat) (ps : List (Str × Str)) : TS := fun D σ H => ∃ x u1 u2, σ[iw]? = some (some (.str x)) ∧ σ[ia]? = some u1 ∧ σ[ib]? = some u2 ∧ x.length ≤ 100000 ∧
  ∀ v1 v2 H', Same H H' → D.nx (((σ.set ia v1).set ib v2).set iw (some (.str (rpl ps x)))) H'
theorem set_at {α : Type} {l : List α} {i : Nat} {a : α} (h : l[i]? = some a) : l.set i a = l := by
  apply List.ext_getElem?
  intro j
  rw [List.getElem?_set]
  split
  · rename_i e; subst e
    split
    · exact h.symm
    · rename_i n; rw [List.getElem?_eq_none (by omega)] at h; cases h
  · rfl
theorem set3 {α : Type} {l : List α} {i j k : Nat} (ij : i ≠ j) (ik : i ≠ k) (jk : j ≠ k) (a b c d e f : α) : ((((((l.set i a).set j b).set k c).set i d).set j e).set k f) = ((l.set i d).set j e).set k f := by
  apply List.ext_getElem?
  intro m
  simp only [List.getElem?_set, List.length_set]
  repeat' split
  all_goals first | rfl | omega
theorem rpl_take {ps : List (Str × Str)} {i : Nat} {p : Str × Str} (h : ps[i]? = some p) (x : Str) : rpl (ps.take (i + 1)) x = Txt.replace (rpl (ps.take i) x) p.1 p.2 := by
  unfold rpl
  rw [List.take_add_one, h, List.foldl_append]
  rfl
theorem rpl_len {ps : List (Str × Str)} (h : ∀ p ∈ ps, p.2.length ≤ 2) (x : Str) : (rpl ps x).length + 1 ≤ 3 ^ ps.length * (x.length + 1) := by
  induction ps generalizing x with
  | nil => simp [rpl]
  | cons p ps ih =>
    have h1 := TK.replace_len x p.1 p.2
    have h2 := h p (List.mem_cons_self ..)
    have h3 := ih (fun q hq => h q (List.mem_cons_of_mem _ hq)) (Txt.replace x p.1 p.2)
    have h4 : (x.length + 1) * p.2.length ≤ (x.length + 1) * 2 := Nat.mul_le_mul_left _ h2
    show (rpl ps (Txt.replace x p.1 p.2)).length + 1 ≤ _
    rw [List.length_cons, Nat.pow_succ, Nat.mul_assoc]
    exact Nat.le_trans h3 (Nat.mul_le_mul_left _ (by omega))
theorem PST.imp {X : Cx} {st : Stmt} {t t' : TS} (h : PST X st t) (k : ∀ D σ H, t' D σ H → t D σ H) : PST X st t' := fun pins s σ H D h0 I q => h pins s σ H D h0 I (k D σ H q)
theorem repl_loop {K : PySem.W.Frag} {ia ib iw : Nat} (iaw : ia ≠ iw) (ibw : ib ≠ iw) (iab : ia ≠ ib) {y1 z1 y2 z2 y3 z3 : Str} (l1 : z1.length ≤ 2) (l2 : z2.length ≤ 2) (l3 : z3.length ≤ 2) {D : Ends} {σ : L2.St} {H : Hp} (h : tRepl iw ia ib [(y1, z1), (y2, z2), (y3, z3)] D σ H) :
    tForR (iTup K (tTup (tCons (tPairT y1 z1) (tCons (tPairT y2 z2) (tCons (tPairT y3 z3) tNil))))) (tRepT iw ia ib) D σ H := by
  obtain ⟨x, u1, u2, hx, h1, h2, lx, q⟩ := h
  intro a o ha ra a2 o2 ha2 ra2 a3 o3 ha3 ra3
  refine ⟨(by decide : (3 : Nat) ≤ sizeLine), fun b hb => ⟨b, rfl, ⟨_, SqT.of upd_same⟩, ?_⟩⟩
  have s3 : Same H (upd (upd (upd (upd H a (.frz o (.tup [.str y1, .str z1]))) a2 (.frz o2 (.tup [.str y2, .str z2]))) a3 (.frz o3 (.tup [.str y3, .str z3]))) b (.tup [.ref a, .ref a2, .ref a3])) :=
    (same_upd ha).trans ((same_upd ha2).trans ((same_upd ha3).trans (same_upd hb)))
  have r1 := ra.same fun c o e => same_upd (o := HO.tup [.ref a, .ref a2, .ref a3]) hb _ _ (same_upd ha3 _ _ (same_upd ha2 _ _ e))
  have r2 := ra2.same fun c o e => same_upd (o := HO.tup [.ref a, .ref a2, .ref a3]) hb _ _ (same_upd ha3 _ _ e)
  have r3 := ra3.same fun c o e => same_upd (o := HO.tup [.ref a, .ref a2, .ref a3]) hb _ _ e
  have eb : upd (upd (upd (upd H a (.frz o (.tup [.str y1, .str z1]))) a2 (.frz o2 (.tup [.str y2, .str z2]))) a3 (.frz o3 (.tup [.str y3, .str z3]))) b (.tup [.ref a, .ref a2, .ref a3]) b = some (.tup [.ref a, .ref a2, .ref a3]) := upd_same
  generalize upd (upd (upd (upd H a (.frz o (.tup [.str y1, .str z1]))) a2 (.frz o2 (.tup [.str y2, .str z2]))) a3 (.frz o3 (.tup [.str y3, .str z3]))) b (.tup [.ref a, .ref a2, .ref a3]) = H4 at s3 r1 r2 r3 eb ⊢
  have item : ∀ i, i < 3 → ∃ p y z, [V.ref a, .ref a2, .ref a3][i]? = some (.ref p) ∧ [(y1, z1), (y2, z2), (y3, z3)][i]? = some (y, z) ∧ z.length ≤ 2 ∧ RawT H4 p y z := by
    intro i hi
    match i, hi with
    | 0, _ => exact ⟨_, _, _, rfl, rfl, l1, r1⟩
    | 1, _ => exact ⟨_, _, _, rfl, rfl, l2, r2⟩
    | 2, _ => exact ⟨_, _, _, rfl, rfl, l3, r3⟩
  generalize hps : [(y1, z1), (y2, z2), (y3, z3)] = ps at item q
  have lps : ps.length = 3 := by rw [← hps]; rfl
  have hz : ∀ p ∈ ps, p.2.length ≤ 2 := by
    intro p hp
    rw [← hps] at hp
    simp only [List.mem_cons, List.not_mem_nil, or_false] at hp
    rcases hp with rfl | rfl | rfl
    · exact l1
    · exact l2
    · exact l3
  refine ⟨fun i n σ' G => n = 3 - i ∧ i ≤ 3 ∧ G = H4 ∧ ∃ v1 v2, σ' = ((σ.set ia v1).set ib v2).set iw (some (.str (rpl (ps.take i) x))), ⟨3, rfl, by omega, rfl, u1, u2, ?_⟩, ?_⟩
  · have e1 : ((σ.set ia u1).set ib u2) = σ := by rw [set_at h1, set_at h2]
    rw [e1]
    exact (set_at hx).symm
  rintro i n σ' G ⟨rfl, hi, rfl, v1, v2, rfl⟩
  by_cases lt : i < 3
  · refine .inr ⟨?_, fun σ2 G2 => ∃ m, m < 3 - i ∧ m = 3 - (i + 1) ∧ i + 1 ≤ 3 ∧ G2 = G ∧ ∃ v1 v2, σ2 = ((σ.set ia v1).set ib v2).set iw (some (.str (rpl (ps.take (i + 1)) x))), fun σ2 G2 ⟨m, hm, r⟩ => ⟨m, hm, r⟩, fun v G2 yl => ?_⟩
    · obtain ⟨p, y, z, e, _⟩ := item i lt
      exact ⟨_, _, SqT.of eb, e⟩
    · obtain ⟨rfl, hv⟩ := yl
      obtain ⟨p, y, z, e, ep, lz, rw'⟩ := item i lt
      have e2 := hv _ (SqT.of eb)
      rw [e] at e2
      cases e2
      have hlw : iw < σ.length := (List.getElem?_eq_some_iff.mp hx).1
      refine ⟨p, y, z, rpl (ps.take i) x, rfl, rw', by rw [List.getElem?_set_self (by simpa using hlw)], ?_, 3 - (i + 1), by omega, rfl, by omega, rfl, some (.str y), some (.str z), ?_⟩
      · have b1 := rpl_len (ps := ps.take i) (fun p hp => hz p (List.mem_of_mem_take hp)) x
        rw [List.length_take] at b1
        have b2 : 3 ^ min i ps.length ≤ 3 ^ 2 := Nat.pow_le_pow_right (by decide) (by omega)
        have b3 : 3 ^ min i ps.length * (x.length + 1) ≤ 3 ^ 2 * (x.length + 1) := Nat.mul_le_mul_right _ b2
        have b4 : ((rpl (ps.take i) x).length + 1) * z.length ≤ ((rpl (ps.take i) x).length + 1) * 2 := Nat.mul_le_mul_left _ lz
        omega
      · rw [rpl_take ep]; exact set3 iab iaw ibw _ _ _ _ _ _
  · obtain rfl : i = 3 := by omega
    refine .inl ⟨⟨_, SqT.of eb, Nat.le_refl _⟩, ?_⟩
    rw [List.take_of_length_le (by omega)]
    exact q _ _ _ s3
theorem pst_repl3 {X : Cx} {ia ib iw : Nat} {a b w : Str} {p1 p2 p3 p4 q1 q2 ps apos cpos tpos pos t0 t1 t2 t3 c1 c2 c3 d1 d2 d3 : Pos} {k k0 k1 k2 k3 j1 j2 j3 i1 i2 i3} {y1 z1 y2 z2 y3 z3 : Str} (hp : PassesOwn (model X.prog X.w) X.A X.env X.xe) (hcalm : X.calm = true) (hN : X.N.Nodup)
    (ha : X.N[ia]? = some a := by rfl) (hb : X.N[ib]? = some b := by rfl) (hw : X.N[iw]? = some w := by rfl)
    (ka : X.env.scope.names.lookup a = some .local := by rfl) (kb : X.env.scope.names.lookup b = some .local := by rfl) (kw : X.env.scope.names.lookup w = some .local := by rfl) (iaw : ia ≠ iw := by decide) (ibw : ib ≠ iw := by decide) (iab : ia ≠ ib := by decide)
    (l1 : z1.length ≤ 2 := by decide +kernel) (l2 : z2.length ≤ 2 := by decide +kernel) (l3 : z3.length ≤ 2 := by decide +kernel) (n1 : (y1 == z1) = false := by decide +kernel) (n2 : (y2 == z2) = false := by decide +kernel) (n3 : (y3 == z3) = false := by decide +kernel)
    (da : (a == ("__debug__" : Str)) = false := by decide +kernel) (db : (b == ("__debug__" : Str)) = false := by decide +kernel) (dw : (w == ("__debug__" : Str)) = false := by decide +kernel) (cw : (w == ("__classdict__" : Str)) = false := by decide +kernel)
    (hst : starEach [.Name a q1, .Name b q2] X.env = [(false, eval (.Name a q1) X.env), (false, eval (.Name b q2) X.env)] := by rfl)
    (hbase : attributeBase (.Name w p3) "replace" X.env (eval (.Name w p3) X.env) = eval (.Name w p3) X.env := by rfl) (hline : (apos.endLine == cpos.line) = true := by rfl)
    (hsw : swapsWith (.Call (.Attribute (.Name w p3) "replace" apos) [.Name a q1, .Name b q2] [] cpos) (some (.Name w p4)) ps.line X.env = pure false := by rfl)
    (hs : ∀ x, foldedSetIterable (.Tuple [.Tuple [.Constant (.str y1) j1 c1, .Constant (.str z1) i1 d1] k1 t1, .Tuple [.Constant (.str y2) j2 c2, .Constant (.str z2) i2 d2] k2 t2, .Tuple [.Constant (.str y3) j3 c3, .Constant (.str z3) i3 d3] k3 t3] k0 t0) X.env x = pure x := by intro _; rfl) :
    PST X (.For (.Tuple [.Name a p1, .Name b p2] k tpos) (.Tuple [.Tuple [.Constant (.str y1) j1 c1, .Constant (.str z1) i1 d1] k1 t1, .Tuple [.Constant (.str y2) j2 c2, .Constant (.str z2) i2 d2] k2 t2, .Tuple [.Constant (.str y3) j3 c3, .Constant (.str z3) i3 d3] k3 t3] k0 t0)
      [.Assign [.Name w p4] (.Call (.Attribute (.Name w p3) "replace" apos) [.Name a q1, .Name b q2] [] cpos) ps] [] pos) (tRepl iw ia ib [(y1, z1), (y2, z2), (y3, z3)]) :=
  PST.imp (pst_forR hp hcalm (pit_tup (pet_tup (pat_cons (pet_pairT n1) (pat_cons (pet_pairT n2) (pat_cons (pet_pairT n3) pat_nil))))) (repl_turn hcalm hN ha hb hw ka kb kw iaw ibw iab da db dw cw hst hbase hline hsw) hs) fun D σ H h => repl_loop iaw ibw iab l1 l2 l3 h
def swp (c : Nat) (z : List Nat) (d : Nat) : List Nat := if d = c then z else [d]
theorem swp_free (c : Nat) (z : List Nat) : ∀ l : List Nat, c ∉ l → l.flatMap (swp c z) = l
  | [], _ => rfl
  | k :: r, h => by
    have h1 : ¬ k = c := fun e => h (e ▸ List.mem_cons_self ..)
    have h2 : c ∉ r := fun m => h (List.mem_cons_of_mem _ m)
    rw [List.flatMap_cons, swp_free c z r h2]
    unfold swp
    rw [if_neg h1]; rfl
theorem swp_join (c : Nat) (z : Str) : ∀ parts : List Str, (∀ p ∈ parts, c ∉ p.cps.toList) → (Str.join ⟨#[c]⟩ parts).cps.toList.flatMap (swp c z.cps.toList) = (Str.join z parts).cps.toList
  | [], _ => rfl
  | [p], h => swp_free c _ _ (h p (List.mem_singleton.mpr rfl))
  | p :: q :: r, h => by
    have ih := swp_join c z (q :: r) fun a ha => h a (List.mem_cons_of_mem _ ha)
    show (p ++ ⟨#[c]⟩ ++ Str.join ⟨#[c]⟩ (q :: r)).cps.toList.flatMap (swp c z.cps.toList) = (p ++ z ++ Str.join z (q :: r)).cps.toList
    simp only [Str.cps_append, Array.toList_append, List.flatMap_append]
    rw [ih, swp_free c _ _ (h p (List.mem_cons_self ..))]
    show p.cps.toList ++ [c].flatMap (swp c z.cps.toList) ++ _ = _
    simp [swp]
theorem replace_swp (x z : Str) (c : Nat) : (Txt.replace x ⟨#[c]⟩ z).cps.toList = x.cps.toList.flatMap (swp c z.cps.toList) := by
  rw [PySem.StrLaws.replace_one, ← swp_join c z _ (PySem.StrLaws.split_free x c), PySem.StrLaws.join_split]
theorem Df.okT {g : Wd} {x qual : Str} {st : Stmt} {f : Addr} {fd : FuncData} {dV : Value} {N ps : List Str} {k : Nat} {sp : Sp} (F : Df g.K x qual st f fd dV) (S : FnScope N ps (defScope st))
    (hnc : ∀ y ∈ (defScope st).names, y.2 ≠ .cell) (hps : 1 ≤ ps.length) (len : ∀ vs H Q E, sp vs H Q E → vs.length = ps.length)
    (hbody : ∀ (cdv : Value) (A : Around) (outer : List Env) (s : Shared) (H : Hp) (vs : List V) (Q : VK) (E : XK), Rm k (cx g N qual st f cdv A outer s H E) → sp vs H Q E →
      ∃ t, PSsT (cx g N qual st f cdv A outer s H E) (defBody st) t ∧ t { nx := fun _ H' => Q .non H', rt := Q } (start N vs) H) : FnG g (k + 1) f fd ps sp := by
  obtain ⟨oc, od, kV, doc, pm, an, cdv, ct, osl, rfl, lk, hcd⟩ := F.ex
  refine ⟨len, fun A outer s H args us vs Q E hr hg e0 hb rv hsp => ?_⟩
  have hl := len _ _ _ _ hsp
  have hul : us.length = ps.length := by rw [← rv.length, hl]
  have kept : ∀ b o, g.base.get? b = some o → s.heap.get? b = some o := fun b o e => (e0.bs b o e).1
  have KX := e0.mod.kin.keeps kept
  have lim : s.heap.NoLimit := e0.mod.nolimit.keeps kept
  have hloc : ∀ y ∈ ps.zip us, (defScope st).names.lookup y.1 = some .local := fun ⟨n, v⟩ hy => by
    rcases S.par n (List.of_mem_zip hy).1 with q | q
    · exact q
    · exact absurd rfl (hnc _ (PySem.mem_of_lookup q))
  refine codeAny_call_function hr.depth (KX _ _ lk) rfl S.co S.gen rfl (PySem.W.codeRec_of KX hcd) (hb _ _ _ _ ?_)
  refine wpAny_newFunctionEnv hnc hloc (fun h1 hns hsb => ?_) S.kind
  have hz : (ps.zip us).length = ps.length := by rw [List.length_zip, hul, Nat.min_self]
  have keep : ∀ b o, s.heap.get? b = some o → h1.get? b = some o := fun b o e => hsb.extBut b o (Nat.ne_of_lt (Heap.lt_size e)) (Heap.get?_push_of_some _ e)
  have hcl : cellsFrom (s.heap.objs.size + 1) (defScope st).names [] = [] := L2.cells_none _ _ _ hnc
  have hkl : ∀ y ∈ ps.zip us, (envOfC qual (defScope st) s.heap.objs.size f cdv).kindOf y.1 = some .local := fun y hy => by
    first
    | exact hloc y hy
    | (simp only [Env.kindOf]; exact hloc y hy)
    | (unfold Env.kindOf; rw [if_pos S.kind]; exact hloc y hy)
    | simpa [Env.kindOf, envOfC, newEnv, S.kind] using hloc y hy
  have hm : (bindL (envOfC qual (defScope st) s.heap.objs.size f cdv).kindOf (ps.zip us) fun _ => none) = fun x => (ps.zip us).reverse.lookup x := by
    funext y
    rw [L2.bindL_loc _ _ hkl y]
    cases (ps.zip us).reverse.lookup y <;> rfl
  have x : InCallC s s.heap.objs.size (bindL (envOfC qual (defScope st) s.heap.objs.size f cdv).kindOf (ps.zip us) fun _ => none) (cellsFrom (s.heap.objs.size + 1) (defScope st).names [])
      (bindC (envOfC qual (defScope st) s.heap.objs.size f cdv).kindOf (ps.zip us) fun _ => none) ({ s with heap := h1, toks := s.toks + (ps.zip us).length } : Shared) := by
    rw [hm, hcl]
    exact ⟨⟨⟨_, _, rfl⟩, hns, keep, Nat.le_refl _⟩, fun n c hc => absurd hc (by simp), .nil, fun n c hc => absurd hc (by simp)⟩
  have henv : newEnv (defScope st) s.heap.objs.size mainGlobals [] (qual ++ ".<locals>.") (some f) cdv none builtinsNs = envOfC qual (defScope st) s.heap.objs.size f cdv := by
    unfold envOfC
    rw [hcl] <;> rfl
  have hto : 1 ≤ ({ s with heap := h1, toks := s.toks + (ps.zip us).length } : Shared).toks := by
    show 1 ≤ s.toks + (ps.zip us).length
    omega
  show ({ s with heap := h1, toks := s.toks + (ps.zip us).length } : Shared).heap.NoLimit ∧ codeAny (model g.P g.w) A (.func (defBody st) (newEnv (defScope st) s.heap.objs.size mainGlobals [] (qual ++ ".<locals>.") (some f) cdv none builtinsNs)) _ ({ s with heap := h1, toks := s.toks + (ps.zip us).length } : Shared)
  rw [henv]
  generalize ({ s with heap := h1, toks := s.toks + (ps.zip us).length } : Shared) = s1 at x hto ⊢
  refine ⟨lim.keeps x.toInCall.keep, codeAny_func ?_⟩
  obtain ⟨t, ht, hq⟩ := hbody cdv A outer s H vs Q E ⟨hr.deeper _, hg⟩ hsp
  have I : Inv (cx g N qual st f cdv A outer s H E) [] (start N vs) H s1 := inv_start S hr.hd e0 hl rv x
  refine wpAny_mono (ht [] s1 (start N vs) H _ hto I hq) (fun fl s' hs => ?_) fun e s' hs => hs
  cases fl with
  | ret u => obtain ⟨v, σ', H', I, r, q⟩ := hs; exact ⟨v, H', I.os, I.bare, I.base, I.hok, r, q⟩
  | next => obtain ⟨σ', H', I, q⟩ := hs; exact ⟨.non, H', I.os, I.bare, I.base, I.hok, rfl, q⟩
  | brk => obtain ⟨_, _, _, q⟩ := hs; exact q.elim
  | cont => obtain ⟨_, _, _, q⟩ := hs; exact q.elim
end RS
namespace K58
open PySem PySem.Spec L2 RS
open SX (S S_len S_cat S_tl S_inj)
open TL (numL numL_lt numL_step numL_digits numL_ne numL_inj numL_len)
open PySem.Builtin.Str (reprChar)
/-- signs that notations know: the printable ones of ASCII but one, and the line feed -/
def pe (c : Nat) : Bool := decide (c = 10) || (decide (32 ≤ c) && decide (c ≤ 126) && decide (c ≠ 37))
theorem pe_lt {c : Nat} (h : pe c = true) : c < 128 := by
  simp only [pe, Bool.or_eq_true, Bool.and_eq_true, decide_eq_true_eq] at h
  omega
def asc (x : Str) : Bool := x.cps.toList.all pe
def gkeyB : PyData → Bool
  | .str x => decide (x.length ≤ 8) && asc x
  | _ => false
mutual
/-- small values -/
def gB : PyData → Bool
  | .none => true
  | .bool _ => true
  | .int i => decide (i.natAbs < 10 ^ 100)
  | .str x => decide (x.length ≤ 8) && asc x
  | .list ds => decide (ds.length ≤ 16) && gAll ds
  | .tuple ds => decide (ds.length ≤ 16) && gAll ds
  | .dict D => decide (D.length ≤ 16) && gKv D
def gAll : List PyData → Bool
  | [] => true
  | d :: ds => gB d && gAll ds
def gKv : List (PyData × PyData) → Bool
  | [] => true
  | (k, d) :: r => gkeyB k && gB d && gKv r
end
theorem gAll_mem : ∀ {a : List PyData}, gAll a = true ↔ ∀ d ∈ a, gB d = true
  | [] => by simp [gAll]
  | x :: a => by simp only [gAll, Bool.and_eq_true, List.mem_cons, forall_eq_or_imp, gAll_mem (a := a)]
theorem gKv_mem : ∀ {a : List (PyData × PyData)}, gKv a = true ↔ ∀ p ∈ a, gkeyB p.1 = true ∧ gB p.2 = true
  | [] => by simp [gKv]
  | (k, x) :: a => by simp only [gKv, Bool.and_eq_true, List.mem_cons, forall_eq_or_imp, gKv_mem (a := a)]
mutual
/-- what the program takes for a value, but for its levels -/
def okB : PyData → Bool
  | .none => true
  | .bool _ => true
  | .int i => decide (i.natAbs < 10 ^ 100)
  | .str x => decide (x.length ≤ 10000)
  | .list ds => decide (ds.length ≤ 10000) && okAll ds
  | .tuple ds => decide (ds.length ≤ 10000) && okAll ds
  | .dict D => decide (D.length ≤ 10000) && okKv D
def okAll : List PyData → Bool
  | [] => true
  | d :: ds => okB d && okAll ds
def okKv : List (PyData × PyData) → Bool
  | [] => true
  | (k, d) :: r => okB k && okB d && okKv r
end
mutual
theorem ok_g : ∀ d : PyData, gB d = true → okB d = true
  | .none, _ => rfl
  | .bool _, _ => rfl
  | .int i, h => by simpa [gB, okB] using h
  | .str x, h => by
    simp only [gB, Bool.and_eq_true, decide_eq_true_eq] at h
    simp only [okB, decide_eq_true_eq]; omega
  | .list ds, h => by
    simp only [gB, Bool.and_eq_true, decide_eq_true_eq] at h
    simp only [okB, Bool.and_eq_true, decide_eq_true_eq]
    exact ⟨by omega, ok_gAll ds h.2⟩
  | .tuple ds, h => by
    simp only [gB, Bool.and_eq_true, decide_eq_true_eq] at h
    simp only [okB, Bool.and_eq_true, decide_eq_true_eq]
    exact ⟨by omega, ok_gAll ds h.2⟩
  | .dict D, h => by
    simp only [gB, Bool.and_eq_true, decide_eq_true_eq] at h
    simp only [okB, Bool.and_eq_true, decide_eq_true_eq]
    exact ⟨by omega, ok_gKv D h.2⟩
theorem ok_gAll : ∀ ds : List PyData, gAll ds = true → okAll ds = true
  | [], _ => rfl
  | d :: ds, h => by
    simp only [gAll, Bool.and_eq_true] at h
    simp only [okAll, Bool.and_eq_true]
    exact ⟨ok_g d h.1, ok_gAll ds h.2⟩
theorem ok_gKv : ∀ D : List (PyData × PyData), gKv D = true → okKv D = true
  | [], _ => rfl
  | (k, d) :: r, h => by
    simp only [gKv, Bool.and_eq_true] at h
    simp only [okKv, Bool.and_eq_true]
    refine ⟨⟨?_, ok_g d h.1.2⟩, ok_gKv r h.2⟩
    cases k with
    | str x =>
      have := h.1.1
      simp only [gkeyB, Bool.and_eq_true, decide_eq_true_eq] at this
      simp only [okB, decide_eq_true_eq]; omega
    | _ => cases h.1.1
end
theorem str_cps {x y : Str} (h : x.cps.toList = y.cps.toList) : x = y := by
  obtain ⟨a⟩ := x
  obtain ⟨b⟩ := y
  congr 1
  exact Array.toList_inj.mp h
theorem tl_app (x y : Str) : (x ++ y).cps.toList = x.cps.toList ++ y.cps.toList := by rw [Str.cps_append, Array.toList_append]
theorem sgn (s : String) (l : List Nat) (h : (Str.ofString s).cps.toList = l := by decide +kernel) : (Str.ofString s).cps.toList = l := h
theorem numL_dig (n : Nat) : ∀ c ∈ numL n, 48 ≤ c ∧ c ≤ 57 := fun c hc => by
  have := numL_digits n c hc
  simpa using this
theorem num_first (m : Nat) : ∃ c r, numL m = c :: r ∧ c ≠ 45 := by
  cases h : numL m with
  | nil => exact absurd h (numL_ne m)
  | cons c r =>
    have := numL_dig m c (by rw [h]; exact List.mem_cons_self ..)
    exact ⟨c, r, rfl, by omega⟩
def sgI (i : Int) : List Nat := if i < 0 then 45 :: numL i.natAbs else numL i.natAbs
theorem int_sign_text (i : Int) : (Str.ofString (toString i)).cps.toList = sgI i := by
  unfold sgI
  cases i with
  | ofNat m =>
    have := TL.tl_num m
    rw [if_neg (by simp)]
    exact this
  | negSucc m =>
    rw [if_pos (Int.negSucc_lt_zero m)]
    have e : toString (Int.negSucc m) = "-" ++ toString (m + 1) := rfl
    have e2 := TL.tl_num (m + 1)
    have e3 : toString (((m + 1 : Nat)) : Int) = toString (m + 1) := rfl
    rw [e, ofS_tl, String.toList_append, List.map_append, ← ofS_tl, ← ofS_tl, ← e3]
    show [45] ++ _ = 45 :: numL (m + 1)
    rw [← e2]; rfl
/-- what renders values -/
structure Rend (f : PyData → Str) : Prop where
  non : f .none = "None"
  bl : ∀ b, f (.bool b) = Str.ofString (if b then "True" else "False" : String)
  int : ∀ i, f (.int i) = Str.ofString (toString i)
  lst : ∀ ds, f (.list ds) = "[" ++ Str.join ", " (ds.map f) ++ "]"
  tup : ∀ ds, f (.tuple ds) = "(" ++ Str.join ", " (ds.map f) ++ Str.ofString (if ds.length == 1 then ",)" else ")" : String)
  dct : ∀ D, f (.dict D) = "{" ++ Str.join ", " (D.map fun p => f p.1 ++ ": " ++ f p.2) ++ "}"
  str0 : ∀ x, ∃ c t, (f (.str x)).cps.toList = c :: t ∧ (c = 34 ∨ c = 39)
  strI : ∀ {x y r r'}, asc x = true → asc y = true → (f (.str x)).cps.toList ++ r = (f (.str y)).cps.toList ++ r' → x = y ∧ r = r'
  strL : ∀ {x}, asc x = true → x.length ≤ 8 → (f (.str x)).length ≤ 105
section
variable {f : PyData → Str} (R : Rend f)
def shL (f : PyData → Str) (d : PyData) : List Nat := (f d).cps.toList
/-- items, each behind a comma -/
def tls (f : PyData → Str) : List PyData → List Nat
  | [] => []
  | d :: ds => 44 :: 32 :: (shL f d ++ tls f ds)
def kvL (f : PyData → Str) (k d : PyData) : List Nat := shL f k ++ 58 :: 32 :: shL f d
def tlK (f : PyData → Str) : List (PyData × PyData) → List Nat
  | [] => []
  | (k, d) :: D => 44 :: 32 :: (kvL f k d ++ tlK f D)
theorem join_tls : ∀ (d : PyData) (ds : List PyData), (Str.join ", " ((d :: ds).map f)).cps.toList = shL f d ++ tls f ds
  | d, [] => by simp [Str.join, tls, shL]
  | d, e :: ds => by
    have ih := join_tls e ds
    rw [List.map_cons] at ih
    rw [List.map_cons, List.map_cons]
    simp only [Str.join, tl_app]
    rw [ih]
    simp only [tls, shL, List.append_assoc, sgn ", " [44, 32]]
    rfl
theorem join_tlK : ∀ (k d : PyData) (D : List (PyData × PyData)), (Str.join ", " (((k, d) :: D).map fun p => f p.1 ++ ": " ++ f p.2)).cps.toList = kvL f k d ++ tlK f D
  | k, d, [] => by simp [Str.join, tlK, kvL, shL, tl_app, sgn ": " [58, 32]]
  | k, d, (k', e) :: D => by
    have ih := join_tlK k' e D
    rw [List.map_cons] at ih
    rw [List.map_cons, List.map_cons]
    simp only [Str.join, tl_app] at ih ⊢
    rw [ih]
    simp only [tlK, kvL, shL, List.append_assoc, sgn ", " [44, 32], sgn ": " [58, 32]]
    rfl
def clT (n : Nat) : List Nat := if n = 1 then [44, 41] else [41]
include R
theorem shL_list0 : shL f (.list []) = [91, 93] := by unfold shL; rw [R.lst]; simp only [List.map_nil]; decide +kernel
theorem shL_list (d : PyData) (ds : List PyData) : shL f (.list (d :: ds)) = 91 :: (shL f d ++ (tls f ds ++ [93])) := by
  rw [shL, R.lst, tl_app, tl_app, join_tls]
  simp [sgn "[" [91], sgn "]" [93]]
theorem shL_tup0 : shL f (.tuple []) = [40, 41] := by unfold shL; rw [R.tup]; simp only [List.map_nil]; decide +kernel
theorem shL_tup (d : PyData) (ds : List PyData) : shL f (.tuple (d :: ds)) = 40 :: (shL f d ++ (tls f ds ++ clT (ds.length + 1))) := by
  rw [shL, R.tup, tl_app, tl_app, join_tls]
  have e : (Str.ofString (if (d :: ds).length == 1 then ",)" else ")" : String)).cps.toList = clT (ds.length + 1) := by
    unfold clT
    by_cases h : ds.length + 1 = 1
    · rw [if_pos h, if_pos (by simpa using h)]; decide +kernel
    · rw [if_neg h, if_neg (by simpa using h)]; decide +kernel
  rw [e]
  simp [sgn "(" [40]]
theorem shL_dict0 : shL f (.dict []) = [123, 125] := by unfold shL; rw [R.dct]; simp only [List.map_nil]; decide +kernel
theorem shL_dict (k d : PyData) (D : List (PyData × PyData)) : shL f (.dict ((k, d) :: D)) = 123 :: (kvL f k d ++ (tlK f D ++ [125])) := by
  rw [shL, R.dct, tl_app, tl_app, join_tlK]
  simp [sgn "{" [123], sgn "}" [125]]
theorem shL_none : shL f .none = [78, 111, 110, 101] := by unfold shL; rw [R.non]; decide +kernel
theorem shL_bool (b : Bool) : shL f (.bool b) = if b then [84, 114, 117, 101] else [70, 97, 108, 115, 101] := by unfold shL; rw [R.bl]; cases b <;> decide +kernel
theorem shL_int (i : Int) : shL f (.int i) = sgI i := by unfold shL; rw [R.int]; exact int_sign_text i
omit R
def fst1 : PyData → Nat → Bool
  | .none, c => c == 78
  | .bool true, c => c == 84
  | .bool false, c => c == 70
  | .int _, c => c == 45 || (decide (48 ≤ c) && decide (c ≤ 57))
  | .str _, c => c == 34 || c == 39
  | .list _, c => c == 91
  | .tuple _, c => c == 40
  | .dict _, c => c == 123
include R
theorem head_of (d : PyData) : ∃ c t, shL f d = c :: t ∧ fst1 d c = true := by
  cases d with
  | none => exact ⟨_, _, shL_none R, rfl⟩
  | bool b => rw [shL_bool R]; cases b <;> exact ⟨_, _, rfl, rfl⟩
  | int i =>
    rw [shL_int R]
    unfold sgI
    split
    · exact ⟨_, _, rfl, by simp [fst1]⟩
    · obtain ⟨c, r, e, _⟩ := num_first i.natAbs
      rw [e]
      have := numL_dig i.natAbs c (by rw [e]; exact List.mem_cons_self ..)
      exact ⟨c, r, rfl, by simp [fst1, this]⟩
  | str x =>
    obtain ⟨c, t, e, h⟩ := R.str0 x
    exact ⟨c, t, e, by rcases h with h | h <;> simp [fst1, h]⟩
  | list ds => cases ds with
    | nil => exact ⟨_, _, shL_list0 R, rfl⟩
    | cons d ds => exact ⟨_, _, shL_list R d ds, rfl⟩
  | tuple ds => cases ds with
    | nil => exact ⟨_, _, shL_tup0 R, rfl⟩
    | cons d ds => exact ⟨_, _, shL_tup R d ds, rfl⟩
  | dict D => cases D with
    | nil => exact ⟨_, _, shL_dict0 R, rfl⟩
    | cons p D => obtain ⟨k, d⟩ := p; exact ⟨_, _, shL_dict R k d D, rfl⟩
omit R
def kindC : PyData → Nat
  | .none => 0
  | .bool true => 1
  | .bool false => 2
  | .int _ => 3
  | .str _ => 4
  | .list _ => 5
  | .tuple _ => 6
  | .dict _ => 7
theorem fst1_kind {d e : PyData} {c : Nat} (h1 : fst1 d c = true) (h2 : fst1 e c = true) : kindC d = kindC e := by
  cases d with
  | bool b => cases b <;> (cases e with
    | bool b' => cases b' <;> simp [fst1, kindC] at h1 h2 ⊢ <;> omega
    | _ => simp [fst1, kindC] at h1 h2 ⊢ <;> omega)
  | _ => cases e with
    | bool b' => cases b' <;> simp [fst1, kindC] at h1 h2 ⊢ <;> omega
    | _ => simp [fst1, kindC] at h1 h2 ⊢ <;> omega
include R
theorem same_kind {d e : PyData} {r r' : List Nat} (h : shL f d ++ r = shL f e ++ r') : kindC d = kindC e := by
  obtain ⟨c, t, e1, f1⟩ := head_of R d
  obtain ⟨c', t', e2, f2⟩ := head_of R e
  rw [e1, e2] at h
  simp only [List.cons_append, List.cons.injEq] at h
  rw [← h.1] at f2
  exact fst1_kind f1 f2
omit R
/-- what may stand behind a value -/
def Stp (r : List Nat) : Prop := ∀ c t, r = c :: t → c = 44 ∨ c = 93 ∨ c = 41 ∨ c = 125
/-- what may stand behind all items -/
def Cls' (r : List Nat) : Prop := ∃ c t, r = c :: t ∧ (c = 93 ∨ c = 41 ∨ c = 125 ∨ (c = 44 ∧ ∃ t', t = 41 :: t'))
theorem Cls'.stp {r : List Nat} (h : Cls' r) : Stp r := by
  obtain ⟨c, t, rfl, h⟩ := h
  intro c' t' e
  cases e
  rcases h with h | h | h | h
  · exact .inr (.inl h)
  · exact .inr (.inr (.inl h))
  · exact .inr (.inr (.inr h))
  · exact .inl h.1
theorem stp_tls {ds : List PyData} {r : List Nat} (h : Cls' r) : Stp (tls f ds ++ r) := by
  cases ds with
  | nil => exact h.stp
  | cons d ds => intro c t e; simp only [tls, List.cons_append, List.cons.injEq] at e; exact .inl e.1.symm
theorem stp_tlK {ds : List (PyData × PyData)} {r : List Nat} (h : Cls' r) : Stp (tlK f ds ++ r) := by
  cases ds with
  | nil => exact h.stp
  | cons d ds => obtain ⟨k, d⟩ := d; intro c t e; simp only [tlK, List.cons_append, List.cons.injEq] at e; exact .inl e.1.symm
theorem no_item {r t : List Nat} (h : Cls' r) : r ≠ 44 :: 32 :: t := fun e => by
  obtain ⟨c, t', rfl, h⟩ := h
  simp only [List.cons.injEq] at e
  obtain ⟨rfl, rfl⟩ := e
  rcases h with h | h | h | ⟨_, t', h⟩
  · cases h
  · cases h
  · cases h
  · cases h
theorem run_split {a b r r' : List Nat} (ha : ∀ c ∈ a, 48 ≤ c ∧ c ≤ 57) (hb : ∀ c ∈ b, 48 ≤ c ∧ c ≤ 57) (h : Stp r) (h' : Stp r') (e : a ++ r = b ++ r') : a = b ∧ r = r' := by
  induction a generalizing b with
  | nil => cases b with
    | nil => exact ⟨rfl, e⟩
    | cons c b =>
      have := hb c (List.mem_cons_self ..)
      have := h c _ e
      omega
  | cons c a ih => cases b with
    | nil =>
      have := ha c (List.mem_cons_self ..)
      have := h' c _ e.symm
      omega
    | cons c' b =>
      simp only [List.cons_append, List.cons.injEq] at e
      have := ih (fun x hx => ha x (List.mem_cons_of_mem _ hx)) (b := b) (fun x hx => hb x (List.mem_cons_of_mem _ hx)) e.2
      exact ⟨by rw [e.1, this.1], this.2⟩
theorem int_inj {i j : Int} {r r' : List Nat} (h : Stp r) (h' : Stp r') (e : sgI i ++ r = sgI j ++ r') : i = j ∧ r = r' := by
  unfold sgI at e
  by_cases ni : i < 0 <;> by_cases nj : j < 0
  · rw [if_pos ni, if_pos nj] at e
    simp only [List.cons_append, List.cons.injEq, true_and] at e
    have a := run_split (numL_dig _) (numL_dig _) h h' e
    have b := numL_inj a.1
    exact ⟨by omega, a.2⟩
  · exfalso
    rw [if_pos ni, if_neg nj] at e
    obtain ⟨c, t, e2, n⟩ := num_first j.natAbs
    rw [e2] at e
    simp only [List.cons_append, List.cons.injEq] at e
    exact n e.1.symm
  · exfalso
    rw [if_neg ni, if_pos nj] at e
    obtain ⟨c, t, e2, n⟩ := num_first i.natAbs
    rw [e2] at e
    simp only [List.cons_append, List.cons.injEq] at e
    exact n e.1
  · rw [if_neg ni, if_neg nj] at e
    have a := run_split (numL_dig _) (numL_dig _) h h' e
    have b := numL_inj a.1
    exact ⟨by omega, a.2⟩
theorem cls_93 (r : List Nat) : Cls' ([93] ++ r) := ⟨_, _, rfl, .inl rfl⟩
theorem cls_125 (r : List Nat) : Cls' ([125] ++ r) := ⟨_, _, rfl, .inr (.inr (.inl rfl))⟩
theorem cls_T (n : Nat) (r : List Nat) : Cls' (clT n ++ r) := by
  unfold clT
  split
  · exact ⟨_, _, rfl, .inr (.inr (.inr ⟨rfl, _, rfl⟩))⟩
  · exact ⟨_, _, rfl, .inr (.inl rfl)⟩
include R
theorem no_open {d : PyData} {r t : List Nat} {c : Nat} (h : shL f d ++ r = c :: t) (n : c = 93 ∨ c = 41 ∨ c = 125) : False := by
  obtain ⟨a, s, e, f⟩ := head_of R d
  rw [e] at h
  simp only [List.cons_append, List.cons.injEq] at h
  rw [h.1] at f
  cases d with
  | bool b => cases b <;> simp [fst1] at f <;> omega
  | _ => simp [fst1] at f <;> omega
omit R
mutual
theorem sh_inj (R : Rend f) : ∀ (d e : PyData) {r r' : List Nat}, gB d = true → gB e = true → Stp r → Stp r' → shL f d ++ r = shL f e ++ r' → d = e ∧ r = r'
  | .none, e, r, r', _, _, _, _, h => by
    have k := same_kind R h
    cases e with
    | none => exact ⟨rfl, List.append_cancel_left h⟩
    | bool b => cases b <;> cases k
    | _ => cases k
  | .bool b, e, r, r', _, _, _, _, h => by
    have k := same_kind R h
    cases e with
    | bool b' =>
      have : b = b' := by cases b <;> cases b' <;> first | rfl | cases k
      subst this
      exact ⟨rfl, List.append_cancel_left h⟩
    | _ => cases b <;> cases k
  | .int i, e, r, r', g1, g2, s1, s2, h => by
    have k := same_kind R h
    cases e with
    | int j =>
      simp only [gB, decide_eq_true_eq] at g1 g2
      rw [shL_int R, shL_int R] at h
      have := int_inj s1 s2 h
      exact ⟨by rw [this.1], this.2⟩
    | bool b => cases b <;> cases k
    | _ => cases k
  | .str x, e, r, r', g1, g2, s1, s2, h => by
    have k := same_kind R h
    cases e with
    | str y =>
      simp only [gB, Bool.and_eq_true] at g1 g2
      have := R.strI g1.2 g2.2 h
      exact ⟨by rw [this.1], this.2⟩
    | bool b => cases b <;> cases k
    | _ => cases k
  | .list ds, e, r, r', g1, g2, s1, s2, h => by
    have k := same_kind R h
    cases e with
    | list es =>
      simp only [gB, Bool.and_eq_true] at g1 g2
      cases ds with
      | nil => cases es with
        | nil => exact ⟨rfl, List.append_cancel_left h⟩
        | cons e es =>
          rw [shL_list0 R, shL_list R] at h
          simp only [List.cons_append, List.nil_append, List.append_assoc, List.cons.injEq, true_and] at h
          exact (no_open R h.symm (.inl rfl)).elim
      | cons d ds => cases es with
        | nil =>
          rw [shL_list0 R, shL_list R] at h
          simp only [List.cons_append, List.nil_append, List.append_assoc, List.cons.injEq, true_and] at h
          exact (no_open R h (.inl rfl)).elim
        | cons e es =>
          rw [shL_list R, shL_list R] at h
          simp only [List.cons_append, List.append_assoc, List.cons.injEq, true_and] at h
          simp only [gAll, Bool.and_eq_true] at g1 g2
          have a := sh_inj R d e g1.2.1 g2.2.1 (stp_tls (cls_93 r)) (stp_tls (cls_93 r')) h
          have b := tls_inj R ds es g1.2.2 g2.2.2 (cls_93 r) (cls_93 r') a.2
          exact ⟨by rw [a.1, b.1], List.append_cancel_left b.2⟩
    | bool b => cases b <;> cases k
    | _ => cases k
  | .tuple ds, e, r, r', g1, g2, s1, s2, h => by
    have k := same_kind R h
    cases e with
    | tuple es =>
      simp only [gB, Bool.and_eq_true] at g1 g2
      cases ds with
      | nil => cases es with
        | nil => exact ⟨rfl, List.append_cancel_left h⟩
        | cons e es =>
          rw [shL_tup0 R, shL_tup R] at h
          simp only [List.cons_append, List.nil_append, List.append_assoc, List.cons.injEq, true_and] at h
          exact (no_open R h.symm (.inr (.inl rfl))).elim
      | cons d ds => cases es with
        | nil =>
          rw [shL_tup0 R, shL_tup R] at h
          simp only [List.cons_append, List.nil_append, List.append_assoc, List.cons.injEq, true_and] at h
          exact (no_open R h (.inr (.inl rfl))).elim
        | cons e es =>
          rw [shL_tup R, shL_tup R] at h
          simp only [List.cons_append, List.append_assoc, List.cons.injEq, true_and] at h
          simp only [gAll, Bool.and_eq_true] at g1 g2
          have a := sh_inj R d e g1.2.1 g2.2.1 (stp_tls (cls_T _ r)) (stp_tls (cls_T _ r')) h
          have b := tls_inj R ds es g1.2.2 g2.2.2 (cls_T _ r) (cls_T _ r') a.2
          have c := b.2
          rw [b.1] at c
          exact ⟨by rw [a.1, b.1], List.append_cancel_left c⟩
    | bool b => cases b <;> cases k
    | _ => cases k
  | .dict D, e, r, r', g1, g2, s1, s2, h => by
    have k := same_kind R h
    cases e with
    | dict E =>
      simp only [gB, Bool.and_eq_true] at g1 g2
      cases D with
      | nil => cases E with
        | nil => exact ⟨rfl, List.append_cancel_left h⟩
        | cons p E =>
          obtain ⟨k', e⟩ := p
          rw [shL_dict0 R, shL_dict R] at h
          simp only [kvL, List.cons_append, List.nil_append, List.append_assoc, List.cons.injEq, true_and] at h
          exact (no_open R h.symm (.inr (.inr rfl))).elim
      | cons p D =>
        obtain ⟨k1, d⟩ := p
        cases E with
        | nil =>
          rw [shL_dict0 R, shL_dict R] at h
          simp only [kvL, List.cons_append, List.nil_append, List.append_assoc, List.cons.injEq, true_and] at h
          exact (no_open R h (.inr (.inr rfl))).elim
        | cons p E =>
          obtain ⟨k2, e⟩ := p
          rw [shL_dict R, shL_dict R] at h
          simp only [kvL, List.cons_append, List.append_assoc, List.cons.injEq, true_and] at h
          simp only [gKv, Bool.and_eq_true] at g1 g2
          cases k1 with
          | str x => cases k2 with
            | str y =>
              have g3 := g1.2.1.1
              have g4 := g2.2.1.1
              simp only [gkeyB, Bool.and_eq_true] at g3 g4
              have c := R.strI g3.2 g4.2 h
              have c2 := c.2
              simp only [List.cons.injEq, true_and] at c2
              have a := sh_inj R d e g1.2.1.2 g2.2.1.2 (stp_tlK (cls_125 r)) (stp_tlK (cls_125 r')) c2
              have b := tlK_inj R D E g1.2.2 g2.2.2 (cls_125 r) (cls_125 r') a.2
              exact ⟨by rw [a.1, b.1, c.1], List.append_cancel_left b.2⟩
            | _ => cases g2.2.1.1
          | _ => cases g1.2.1.1
    | bool b => cases b <;> cases k
    | _ => cases k
theorem tls_inj (R : Rend f) : ∀ (ds es : List PyData) {r r' : List Nat}, gAll ds = true → gAll es = true → Cls' r → Cls' r' → tls f ds ++ r = tls f es ++ r' → ds = es ∧ r = r'
  | [], [], r, r', _, _, _, _, h => ⟨rfl, h⟩
  | [], e :: es, r, r', _, _, c1, _, h => by
    simp only [tls, List.nil_append, List.cons_append] at h
    exact (no_item c1 h).elim
  | d :: ds, [], r, r', _, _, _, c2, h => by
    simp only [tls, List.nil_append, List.cons_append] at h
    exact (no_item c2 h.symm).elim
  | d :: ds, e :: es, r, r', g1, g2, c1, c2, h => by
    simp only [tls, List.cons_append, List.append_assoc, List.cons.injEq, true_and] at h
    simp only [gAll, Bool.and_eq_true] at g1 g2
    have a := sh_inj R d e g1.1 g2.1 (stp_tls c1) (stp_tls c2) h
    have b := tls_inj R ds es g1.2 g2.2 c1 c2 a.2
    exact ⟨by rw [a.1, b.1], b.2⟩
theorem tlK_inj (R : Rend f) : ∀ (D E : List (PyData × PyData)) {r r' : List Nat}, gKv D = true → gKv E = true → Cls' r → Cls' r' → tlK f D ++ r = tlK f E ++ r' → D = E ∧ r = r'
  | [], [], r, r', _, _, _, _, h => ⟨rfl, h⟩
  | [], (k, e) :: es, r, r', _, _, c1, _, h => by
    simp only [tlK, List.nil_append, List.cons_append] at h
    exact (no_item c1 h).elim
  | (k, d) :: ds, [], r, r', _, _, _, c2, h => by
    simp only [tlK, List.nil_append, List.cons_append] at h
    exact (no_item c2 h.symm).elim
  | (k1, d) :: D, (k2, e) :: E, r, r', g1, g2, c1, c2, h => by
    simp only [tlK, kvL, List.cons_append, List.append_assoc, List.cons.injEq, true_and] at h
    simp only [gKv, Bool.and_eq_true] at g1 g2
    cases k1 with
    | str x => cases k2 with
      | str y =>
        have g3 := g1.1.1
        have g4 := g2.1.1
        simp only [gkeyB, Bool.and_eq_true] at g3 g4
        have c := R.strI g3.2 g4.2 h
        have c3 := c.2
        simp only [List.cons.injEq, true_and] at c3
        have a := sh_inj R d e g1.1.2 g2.1.2 (stp_tlK c1) (stp_tlK c2) c3
        have b := tlK_inj R D E g1.2 g2.2 c1 c2 a.2
        exact ⟨by rw [a.1, b.1, c.1], b.2⟩
      | _ => cases g2.1.1
    | _ => cases g1.1.1
end
end
/-- two values are rendered alike only if they are the same -/
theorem Rend.inj {f : PyData → Str} (R : Rend f) {d e : PyData} (h1 : gB d = true) (h2 : gB e = true) (h : f d = f e) : d = e :=
  (sh_inj R d e (r := []) (r' := []) h1 h2 (fun _ _ z => by cases z) (fun _ _ z => by cases z) (by simp only [shL, h])).1
def SH : Nat → Nat
  | 0 => 105
  | n + 1 => 10 + 16 * (SH n + 120)
theorem SH_lo : ∀ n, 105 ≤ SH n
  | 0 => Nat.le_refl _
  | n + 1 => by have := SH_lo n; simp only [SH]; omega
mutual
theorem Rend.le {f : PyData → Str} (R : Rend f) : ∀ (d : PyData) (n : Nat), gB d = true → d.depth ≤ n → (f d).length ≤ SH n
  | .none, n, _, _ => by
    have := SH_lo n
    rw [R.non]
    have e : ((("None" : String) : Str)).length = 4 := by decide +kernel
    omega
  | .bool b, n, _, _ => by
    have := SH_lo n
    rw [R.bl]
    have e : (Str.ofString (if b then "True" else "False" : String)).length ≤ 5 := by cases b <;> decide +kernel
    omega
  | .int i, n, h, _ => by
    have := SH_lo n
    simp only [gB, decide_eq_true_eq] at h
    have hl := int_text_length_le10 (a := i) (k := 100) (by decide) h
    rw [R.int, ofString_length]
    omega
  | .str x, n, h, _ => by
    have := SH_lo n
    simp only [gB, Bool.and_eq_true, decide_eq_true_eq] at h
    have := R.strL h.2 h.1
    omega
  | .list ds, 0, _, hd => by simp only [PyData.depth] at hd; omega
  | .list ds, n + 1, h, hd => by
    simp only [gB, Bool.and_eq_true, decide_eq_true_eq] at h
    have hs := R.leAll ds n h.2 (by simp only [PyData.depth] at hd; omega)
    have hj := join_len_le 16 (SH n) (ds.map f) (by rw [List.length_map]; exact h.1) hs
    rw [R.lst, Str.length_append, Str.length_append]
    have e1 : ((("[" : String) : Str)).length = 1 := by decide +kernel
    have e2 : ((("]" : String) : Str)).length = 1 := by decide +kernel
    simp only [SH]; omega
  | .tuple ds, 0, _, hd => by simp only [PyData.depth] at hd; omega
  | .tuple ds, n + 1, h, hd => by
    simp only [gB, Bool.and_eq_true, decide_eq_true_eq] at h
    have hs := R.leAll ds n h.2 (by simp only [PyData.depth] at hd; omega)
    have hj := join_len_le 16 (SH n) (ds.map f) (by rw [List.length_map]; exact h.1) hs
    rw [R.tup, Str.length_append, Str.length_append]
    have e1 : ((("(" : String) : Str)).length = 1 := by decide +kernel
    have e2 : (Str.ofString (if ds.length == 1 then ",)" else ")" : String)).length ≤ 2 := by split <;> decide +kernel
    simp only [SH]; omega
  | .dict D, 0, _, hd => by simp only [PyData.depth] at hd; omega
  | .dict D, n + 1, h, hd => by
    simp only [gB, Bool.and_eq_true, decide_eq_true_eq] at h
    have hs := R.leKv D n h.2 (by simp only [PyData.depth] at hd; omega)
    have hj := join_len_le 16 (SH n + 107) (D.map fun p => f p.1 ++ ": " ++ f p.2) (by rw [List.length_map]; exact h.1) hs
    rw [R.dct, Str.length_append, Str.length_append]
    have e1 : ((("{" : String) : Str)).length = 1 := by decide +kernel
    have e2 : ((("}" : String) : Str)).length = 1 := by decide +kernel
    simp only [SH]; omega
theorem Rend.leAll {f : PyData → Str} (R : Rend f) : ∀ (ds : List PyData) (n : Nat), gAll ds = true → PyData.depthAll ds ≤ n → ∀ t ∈ ds.map f, t.length ≤ SH n
  | [], n, _, _ => by simp
  | d :: ds, n, h, hd => by
    simp only [gAll, Bool.and_eq_true] at h
    simp only [PyData.depthAll] at hd
    have h1 := R.le d n h.1 (by omega)
    have h2 := R.leAll ds n h.2 (by omega)
    intro t ht
    rw [List.map_cons] at ht
    rcases List.mem_cons.mp ht with e | e
    · rw [e]; exact h1
    · exact h2 t e
theorem Rend.leKv {f : PyData → Str} (R : Rend f) : ∀ (D : List (PyData × PyData)) (n : Nat), gKv D = true → PyData.depthKv D ≤ n → ∀ t ∈ D.map (fun p => f p.1 ++ ": " ++ f p.2), t.length ≤ SH n + 107
  | [], n, _, _ => by simp
  | (k, d) :: r, n, h, hd => by
    simp only [gKv, Bool.and_eq_true] at h
    simp only [PyData.depthKv] at hd
    have h1 := R.le d n h.1.2 (by omega)
    have h2 := R.leKv r n h.2 (by omega)
    have h0 : (f k).length ≤ 105 := by
      cases k with
      | str x =>
        have := h.1.1
        simp only [gkeyB, Bool.and_eq_true, decide_eq_true_eq] at this
        exact R.strL this.2 this.1
      | _ => cases h.1.1
    intro t ht
    rw [List.map_cons] at ht
    rcases List.mem_cons.mp ht with e | e
    · rw [e]
      show (f k ++ ": " ++ f d).length ≤ _
      rw [Str.length_append, Str.length_append]
      have e1 : (((": " : String) : Str)).length = 2 := by decide +kernel
      omega
    · exact h2 t e
end
/-- what stands behind the backslash -/
def bk (c : Nat) : Nat := if c = 110 then 10 else if c = 114 then 13 else if c = 116 then 9 else c
def hx (c : Nat) : Nat := if c < 58 then c - 48 else c - 87
def formB (q c : Nat) : Bool := match reprChar q c with
  | [a] => a == c && a != 92 && a != q
  | [a, b] => a == 92 && b != 120 && bk b == c
  | [a, b, h, l] => a == 92 && b == 120 && 16 * hx h + hx l == c
  | _ => false
theorem form_tab : ((List.range 128).all (formB 34) && (List.range 128).all (formB 39)) = true := by decide +kernel
theorem formB_of {q c : Nat} (hq : q = 34 ∨ q = 39) (hc : c < 128) : formB q c = true := by
  have h := form_tab
  simp only [Bool.and_eq_true, List.all_eq_true, List.mem_range] at h
  rcases hq with rfl | rfl
  · exact h.1 c hc
  · exact h.2 c hc
/-- a sign as repr writes it -/
theorem form {q c : Nat} (hq : q = 34 ∨ q = 39) (hc : c < 128) : (reprChar q c = [c] ∧ c ≠ 92 ∧ c ≠ q) ∨ (∃ b, reprChar q c = [92, b] ∧ b ≠ 120 ∧ bk b = c) ∨ ∃ h l, reprChar q c = [92, 120, h, l] ∧ 16 * hx h + hx l = c := by
  have f := formB_of hq hc
  unfold formB at f
  split at f
  · rename_i a e
    simp only [Bool.and_eq_true, beq_iff_eq, bne_iff_ne] at f
    obtain ⟨⟨rfl, f2⟩, f3⟩ := f
    exact .inl ⟨e, f2, f3⟩
  · rename_i a b e
    simp only [Bool.and_eq_true, beq_iff_eq, bne_iff_ne] at f
    obtain ⟨⟨rfl, f2⟩, f3⟩ := f
    exact .inr (.inl ⟨b, e, f2, f3⟩)
  · rename_i a b h l e
    simp only [Bool.and_eq_true, beq_iff_eq] at f
    obtain ⟨⟨rfl, rfl⟩, f3⟩ := f
    exact .inr (.inr ⟨h, l, e, f3⟩)
  · cases f
theorem sign_inj {q a b : Nat} (hq : q = 34 ∨ q = 39) (ha : a < 128) (hb : b < 128) {r r' : List Nat} (e : reprChar q a ++ r = reprChar q b ++ r') : a = b := by
  rcases form hq ha with ⟨e1, n1, _⟩ | ⟨x, e1, n1, b1⟩ | ⟨h, l, e1, b1⟩ <;> rcases form hq hb with ⟨e2, n2, _⟩ | ⟨y, e2, n2, b2⟩ | ⟨h', l', e2, b2⟩ <;> rw [e1, e2] at e <;> simp only [List.cons_append, List.nil_append, List.cons.injEq] at e
  · exact e.1
  · exact absurd e.1 n1
  · exact absurd e.1 n1
  · exact absurd e.1.symm n2
  · rw [← b1, ← b2, e.2.1]
  · exact absurd e.2.1 n1
  · exact absurd e.1.symm n2
  · exact absurd e.2.1.symm n2
  · rw [← b1, ← b2, e.2.2.1, e.2.2.2.1]
theorem sign_end {q a : Nat} (hq : q = 34 ∨ q = 39) (ha : a < 128) {r r' : List Nat} (e : reprChar q a ++ r = q :: r') : False := by
  have q92 : (92 : Nat) ≠ q := by rcases hq with rfl | rfl <;> decide
  rcases form hq ha with ⟨e1, _, n1⟩ | ⟨x, e1, n1, b1⟩ | ⟨h, l, e1, b1⟩ <;> rw [e1] at e <;> simp only [List.cons_append, List.nil_append, List.cons.injEq] at e
  · exact n1 e.1
  · exact q92 e.1
  · exact q92 e.1
theorem code_inj {q : Nat} (hq : q = 34 ∨ q = 39) : ∀ (x y : List Nat) {r r' : List Nat}, (∀ c ∈ x, c < 128) → (∀ c ∈ y, c < 128) → x.flatMap (reprChar q) ++ q :: r = y.flatMap (reprChar q) ++ q :: r' → x = y ∧ r = r'
  | [], [], r, r', _, _, e => by simpa using e
  | [], b :: y, r, r', _, hy, e => by
    simp only [List.flatMap_nil, List.nil_append, List.flatMap_cons, List.append_assoc] at e
    exact (sign_end hq (hy b (List.mem_cons_self ..)) e.symm).elim
  | a :: x, [], r, r', hx, _, e => by
    simp only [List.flatMap_nil, List.nil_append, List.flatMap_cons, List.append_assoc] at e
    exact (sign_end hq (hx a (List.mem_cons_self ..)) e).elim
  | a :: x, b :: y, r, r', hx, hy, e => by
    simp only [List.flatMap_cons, List.append_assoc] at e
    have ab := sign_inj hq (hx a (List.mem_cons_self ..)) (hy b (List.mem_cons_self ..)) e
    subst ab
    have := code_inj hq x y (fun c hc => hx c (List.mem_cons_of_mem _ hc)) (fun c hc => hy c (List.mem_cons_of_mem _ hc)) (List.append_cancel_left e)
    exact ⟨by rw [this.1], this.2⟩
theorem fold_repr (q : Nat) : ∀ (l : List Nat) (acc : Array Nat), (l.foldl (fun out c => out ++ (reprChar q c).toArray) acc).toList = acc.toList ++ l.flatMap (reprChar q)
  | [], acc => by simp
  | c :: l, acc => by
    rw [List.foldl_cons, fold_repr q l]
    simp
theorem repr_list (x : Str) : (reprText x).cps.toList = reprQuote x :: (x.cps.toList.flatMap (reprChar (reprQuote x)) ++ [reprQuote x]) := by
  unfold reprText
  rw [Array.toList_push, ← Array.foldl_toList, fold_repr]
  simp
theorem quote_of (x : Str) : reprQuote x = 34 ∨ reprQuote x = 39 := by unfold reprQuote; split <;> simp
theorem str_inj {x y : Str} (hx : asc x = true) (hy : asc y = true) {r r' : List Nat} (e : (reprText x).cps.toList ++ r = (reprText y).cps.toList ++ r') : x = y ∧ r = r' := by
  rw [repr_list, repr_list] at e
  simp only [List.cons_append, List.append_assoc, List.nil_append, List.cons.injEq] at e
  obtain ⟨eq, e⟩ := e
  rw [← eq] at e
  have h : ∀ z : Str, asc z = true → ∀ c ∈ z.cps.toList, c < 128 := fun z hz c hc => pe_lt (List.all_eq_true.mp hz c hc)
  have := code_inj (quote_of x) _ _ (h x hx) (h y hy) e
  exact ⟨str_cps this.1, this.2⟩
theorem shownAll_map : ∀ ds : List PyData, PyData.shownAll ds = ds.map PyData.shown
  | [] => by simp [PyData.shownAll]
  | d :: ds => by rw [PyData.shownAll_cons, shownAll_map ds]; rfl
theorem shownKv_map : ∀ D : List (PyData × PyData), PyData.shownKv D = D.map fun p => (p.1.shown ++ Str.ofString ": " ++ p.2.shown : Str)
  | [] => by simp [PyData.shownKv]
  | (k, d) :: D => by rw [PyData.shownKv_cons, shownKv_map D]; rfl
theorem rep_len {x : Str} {n : Nat} (h : asc x = true) (hn : x.length ≤ n) : (reprText x).length ≤ 10 * n + 2 := by
  have := StrLaws.reprText_len x fun c hc => by
    have : c < 128 := pe_lt (List.all_eq_true.mp h c hc)
    omega
  omega
theorem rshown : Rend PyData.shown where
  non := by decide +kernel
  bl := fun b => by cases b <;> decide +kernel
  int := fun i => PyData.shown_int i
  lst := fun ds => by rw [PyData.shown_list, shownAll_map]
  tup := fun ds => by rw [PyData.shown_tuple, shownAll_map]
  dct := fun D => by rw [PyData.shown_dict, shownKv_map]
  str0 := fun x => by rw [PyData.shown_str, repr_list]; exact ⟨_, _, rfl, quote_of x⟩
  strI := fun hx hy h => by rw [PyData.shown_str, PyData.shown_str] at h; exact str_inj hx hy h
  strL := fun hx hl => by rw [PyData.shown_str]; have := rep_len hx hl; omega
mutual
theorem showable_g : ∀ d : PyData, gB d = true → d.showable = true
  | .none, _ => rfl
  | .bool _, _ => rfl
  | .int i, h => by
    simp only [gB, decide_eq_true_eq] at h
    simp only [PyData.showable, decide_eq_true_eq]
    have h2 : i.natAbs < 2 ^ 1920 := Nat.lt_of_lt_of_le h (by decide +kernel)
    by_cases z : i.natAbs = 0
    · rw [z]; decide
    · exact (Nat.log2_lt z).mpr h2
  | .str _, _ => by simp only [PyData.showable]
  | .list ds, h => by simp only [gB, Bool.and_eq_true] at h; simp only [PyData.showable]; exact showableAll_g ds h.2
  | .tuple ds, h => by simp only [gB, Bool.and_eq_true] at h; simp only [PyData.showable]; exact showableAll_g ds h.2
  | .dict D, h => by simp only [gB, Bool.and_eq_true] at h; simp only [PyData.showable]; exact showableKv_g D h.2
theorem showableAll_g : ∀ ds : List PyData, gAll ds = true → PyData.showableAll ds = true
  | [], _ => by simp only [PyData.showableAll]
  | d :: ds, h => by simp only [gAll, Bool.and_eq_true] at h; simp only [PyData.showableAll, Bool.and_eq_true]; exact ⟨showable_g d h.1, showableAll_g ds h.2⟩
theorem showableKv_g : ∀ D : List (PyData × PyData), gKv D = true → PyData.showableKv D = true
  | [], _ => by simp only [PyData.showableKv]
  | (k, d) :: r, h => by
    simp only [gKv, Bool.and_eq_true] at h
    simp only [PyData.showableKv, Bool.and_eq_true]
    refine ⟨⟨?_, showable_g d h.1.2⟩, showableKv_g r h.2⟩
    cases k with
    | str x => simp only [PyData.showable]
    | _ => cases h.1.1
end
/-- what repr shows of a small value: it fits -/
theorem fits {d : PyData} (h : gB d = true) (hd : d.depth ≤ 4) : d.showable = true ∧ d.depth ≤ 60 ∧ d.shown.length ≤ 16777216 := by
  refine ⟨showable_g d h, by omega, ?_⟩
  have := rshown.le d 4 h hd
  have e : SH 4 ≤ 16777216 := by decide
  omega
def esc (c : Nat) : List Nat := if c = 34 then [92, 34] else if c = 92 then [92, 92] else if c = 10 then [92, 110] else [c]
def sno (x : Str) : Str := S (34 :: (x.cps.toList.flatMap esc ++ [34]))
mutual
def note : PyData → Str
  | .none => "None"
  | .bool b => Str.ofString (if b then "True" else "False" : String)
  | .int i => Str.ofString (toString i)
  | .str x => sno x
  | .list ds => "[" ++ Str.join ", " (noteAll ds) ++ "]"
  | .tuple ds => "(" ++ Str.join ", " (noteAll ds) ++ Str.ofString (if ds.length == 1 then ",)" else ")" : String)
  | .dict D => "{" ++ Str.join ", " (noteKv D) ++ "}"
def noteAll : List PyData → List Str
  | [] => []
  | d :: ds => note d :: noteAll ds
def noteKv : List (PyData × PyData) → List Str
  | [] => []
  | (k, d) :: D => (note k ++ ": " ++ note d) :: noteKv D
end
theorem noteAll_map : ∀ ds : List PyData, noteAll ds = ds.map note
  | [] => by simp [noteAll]
  | d :: ds => by rw [noteAll, noteAll_map ds]; rfl
theorem noteKv_map : ∀ D : List (PyData × PyData), noteKv D = D.map fun p => note p.1 ++ ": " ++ note p.2
  | [] => by simp [noteKv]
  | (k, d) :: D => by rw [noteKv, noteKv_map D]; rfl
theorem sno_tl (x : Str) : (sno x).cps.toList = 34 :: (x.cps.toList.flatMap esc ++ [34]) := rfl
theorem esc_split : ∀ (x y : List Nat) {r r' : List Nat}, x.flatMap esc ++ 34 :: r = y.flatMap esc ++ 34 :: r' → x = y ∧ r = r'
  | [], [], r, r', e => by simpa using e
  | [], b :: y, r, r', e => by
    simp only [List.flatMap_nil, List.nil_append, List.flatMap_cons, List.append_assoc] at e
    exfalso
    unfold esc at e
    (repeat' split at e) <;> simp only [List.cons_append, List.nil_append, List.cons.injEq] at e <;> omega
  | a :: x, [], r, r', e => by
    simp only [List.flatMap_nil, List.nil_append, List.flatMap_cons, List.append_assoc] at e
    exfalso
    unfold esc at e
    (repeat' split at e) <;> simp only [List.cons_append, List.nil_append, List.cons.injEq] at e <;> omega
  | a :: x, b :: y, r, r', e => by
    simp only [List.flatMap_cons, List.append_assoc] at e
    have ab : a = b := by
      unfold esc at e
      (repeat' split at e) <;> simp only [List.cons_append, List.nil_append, List.cons.injEq] at e <;> omega
    subst ab
    have := esc_split x y (List.append_cancel_left e)
    exact ⟨by rw [this.1], this.2⟩
theorem esc_len : ∀ x : List Nat, (x.flatMap esc).length ≤ 2 * x.length
  | [] => by simp
  | a :: x => by
    have := esc_len x
    have h : (esc a).length ≤ 2 := by unfold esc; (repeat' split) <;> simp
    simp only [List.flatMap_cons, List.length_append, List.length_cons]; omega
theorem rnote : Rend note where
  non := by simp only [note]
  bl := fun b => by simp only [note]
  int := fun i => by simp only [note]
  lst := fun ds => by simp only [note]; rw [noteAll_map]
  tup := fun ds => by simp only [note]; rw [noteAll_map]
  dct := fun D => by simp only [note]; rw [noteKv_map]
  str0 := fun x => by simp only [note]; rw [sno_tl]; exact ⟨_, _, rfl, .inl rfl⟩
  strI := fun {x y r r'} hx hy h => by
    simp only [note, sno_tl, List.cons_append, List.append_assoc, List.nil_append, List.cons.injEq, true_and] at h
    have := esc_split _ _ h
    exact ⟨str_cps this.1, this.2⟩
  strL := fun {x} hx hl => by
    simp only [note]
    unfold sno
    rw [S_len]
    have := esc_len x.cps.toList
    have e : x.cps.toList.length = x.length := by simp [Str.length]
    simp only [List.length_cons, List.length_append, List.length_nil]; omega
local macro_rules | `(tactic| walk_at "sx") => `(tactic| simp only [tRet, tRetN, tSeq, C8.tCut, tNext, tAsg, gName, gNil, gCons, gTup, gFld, tIfS, tIf, tAndV, tOrV, tNotV, tAnd, tOr, tNot, tB, tTest, tOp, tUn, tCB, tCons, tNil, tVar, tC, tChain, tDrop, RS.tCallG, RS.tMethG, tMakeG, RS.tCallK, RS.tMakeK, tEqOwn, rI, rI0, rU, add_ii, add_ss, add_rr, mul_ii, mul_si, mul_ri, RS.eq_ii, RS.eq_ss, eq_bb, eq_nn, eq_sn, eq_ns, eq_in, eq_ni, eq_bn, eq_nb, eq_is, eq_si, eq_rr, ne_ii, ne_ss, ne_bb, ne_nn, ne_sn, ne_ns, ne_in, ne_ni, ne_is, ne_si, ne_rr, in_ss, in_r, nin_ss, nin_r, len_s, len_r, RS.ix_s, RS.ix_r, sl_s, sl_r, is_eq, tyN_n, tyN_b, tyN_i, tyN_s, tru_b, tru_i, tru_n, tSl, tPart, tNoPart, tPar, tPar3, tFmtZ, tFmt, tJs, tDGet, sDPut, sFld, tFld, tTup, tLst, tNever, isB,
  L2.start, List.map_cons, List.map_nil, List.length_cons, List.length_nil, Nat.reduceAdd, Nat.reduceSub, Nat.sub_self, List.replicate_zero, List.replicate_succ, List.append_nil, List.cons_append, List.nil_append, List.getElem?_cons_zero, List.getElem?_cons_succ, List.set_cons_zero, List.set_cons_succ, Option.some.injEq, exists_eq_left, exists_eq_left', exists_and_left, V.bl.injEq, V.int.injEq, V.str.injEq, V.ref.injEq, beq_self_eq_true, Bool.true_or, Bool.or_true, Bool.false_or, Bool.or_false, Bool.and_false, Bool.false_and, Bool.true_and, Bool.and_true, Bool.not_true, Bool.not_false, Bool.false_eq_true, if_true, if_false, ite_true, ite_false, true_and, and_true, and_assoc, String.reduceBEq, String.reduceEq, reduceIte, Bool.and_self, reduceCtorEq, false_and, and_false, exists_false, or_false, false_or, exists_const, iEnumS, iStr, iList, iTup, iRng1, iEnum, tFor_eq, tLc_eq, List.cons.injEq, wipe, not_true_eq_false, not_false_eq_true, upd_same, HO.ins.injEq, HO.tup.injEq, HO.lst.injEq, ofS_eq, lk_nil, lk_cons, pu_nil, pu_cons, sizeLine_eq, Nat.reduceLT, Nat.reduceLeDiff, Nat.reduceEqDiff, Nat.le_refl, decide_true, decide_false, tPr, dget_us, dput_us, vv_nil, vv_cons, RS.pk_nil, pk_one, RS.pk_cons, inr_eq, tDisp, tPairs, tBoolOwn, rBoolOwn, tBM, rAppend, ty_list, ty_str, rEqOwn, iEnumT, RS.tCallS, tM1, tDc_eq, tLock, tLockE, iKeys, tListEnum, rUpdate, tMkX0, tMkX1, tXfv, gSub, rSetL, List.getD_cons_zero, List.getD_cons_succ, tBreak, tCMethS, ClX.tCVal, tXfa, tIxOwn, tInOwn, tPropG, tMethK, tMethP, tListGen, tDGet2, tDPop2, rNeD0, intA_i, intA_b, tRevL, sFldAug, tPm0, tPm1, tDIn, tDNotIn, tDNewK, RS.tMethS, tForK, tKM, tKC, tLcK, tKM2, tKC2, tMethStar, tKCK2, tLk, tAug, ipI, tDig, tLcX, tKMX, tKCX])
theorem lit_0 : (Str.ofString "recordshelf.errors") = SX.S [114, 101, 99, 111, 114, 100, 115, 104, 101, 108, 102, 46, 101, 114, 114, 111, 114, 115] := by decide +kernel
theorem lit_1 : (Str.ofString "recordshelf.values") = SX.S [114, 101, 99, 111, 114, 100, 115, 104, 101, 108, 102, 46, 118, 97, 108, 117, 101, 115] := by decide +kernel
theorem lit_2 : (Str.ofString "recordshelf.notation") = SX.S [114, 101, 99, 111, 114, 100, 115, 104, 101, 108, 102, 46, 110, 111, 116, 97, 116, 105, 111, 110] := by decide +kernel
theorem lit_3 : (Str.ofString "0123456789") = SX.S [48, 49, 50, 51, 52, 53, 54, 55, 56, 57] := by decide +kernel
theorem lit_4 : (Str.ofString "law_recordshelf_k58_first_wrong_positions") = SX.S [108, 97, 119, 95, 114, 101, 99, 111, 114, 100, 115, 104, 101, 108, 102, 95, 107, 53, 56, 95, 102, 105, 114, 115, 116, 95, 119, 114, 111, 110, 103, 95, 112, 111, 115, 105, 116, 105, 111, 110, 115] := by decide +kernel
theorem lit_5 : (Str.ofString "\"") = SX.S [34] := by decide +kernel
theorem lit_6 : (Str.ofString "\\") = SX.S [92] := by decide +kernel
theorem lit_7 : (Str.ofString "\n") = SX.S [10] := by decide +kernel
theorem lit_8 : (Str.ofString "\\\"") = SX.S [92, 34] := by decide +kernel
theorem lit_9 : (Str.ofString "\\\\") = SX.S [92, 92] := by decide +kernel
theorem lit_10 : (Str.ofString "\\n") = SX.S [92, 110] := by decide +kernel
theorem lit_n : (Str.ofString "n") = SX.S [110] := by decide +kernel
theorem lit_12 : (Str.ofString "") = SX.S [] := by decide +kernel
theorem lit_d : (Str.ofString "d") = SX.S [100] := by decide +kernel
theorem lit_14 : (Str.ofString ":") = SX.S [58] := by decide +kernel
theorem lit_None : (Str.ofString "None") = SX.S [78, 111, 110, 101] := by decide +kernel
theorem lit_True : (Str.ofString "True") = SX.S [84, 114, 117, 101] := by decide +kernel
theorem lit_False : (Str.ofString "False") = SX.S [70, 97, 108, 115, 101] := by decide +kernel
theorem lit_18 : (Str.ofString "}") = SX.S [125] := by decide +kernel
theorem lit_19 : (Str.ofString "[({") = SX.S [91, 40, 123] := by decide +kernel
theorem lit_put : (Str.ofString "put") = SX.S [112, 117, 116] := by decide +kernel
theorem lit_21 : (Str.ofString " ") = SX.S [32] := by decide +kernel
theorem lit_p : (Str.ofString "p") = SX.S [112] := by decide +kernel
theorem lit_23 : (Str.ofString ",") = SX.S [44] := by decide +kernel
theorem lit_24 : (Str.ofString "ab \"\\\n~1,:]") = SX.S [97, 98, 32, 34, 92, 10, 126, 49, 44, 58, 93] := by decide +kernel
theorem lit_at : (Str.ofString "at") = SX.S [97, 116] := by decide +kernel
theorem lit_26 : (Str.ofString "0") = SX.S [48] := by decide +kernel
theorem lit_N : (Str.ofString "N") = SX.S [78] := by decide +kernel
theorem lit_T : (Str.ofString "T") = SX.S [84] := by decide +kernel
theorem lit_F : (Str.ofString "F") = SX.S [70] := by decide +kernel
theorem lit_text : (Str.ofString "text") = SX.S [116, 101, 120, 116] := by decide +kernel
theorem lit_31 : (Str.ofString "-") = SX.S [45] := by decide +kernel
theorem lit_32 : (Str.ofString "-0") = SX.S [45, 48] := by decide +kernel
theorem lit_33 : (Str.ofString "00") = SX.S [48, 48] := by decide +kernel
theorem lit_34 : (Str.ofString "01") = SX.S [48, 49] := by decide +kernel
theorem lit_35 : (Str.ofString "1 ") = SX.S [49, 32] := by decide +kernel
theorem lit_36 : (Str.ofString " 1") = SX.S [32, 49] := by decide +kernel
theorem lit_37 : (Str.ofString "None,") = SX.S [78, 111, 110, 101, 44] := by decide +kernel
theorem lit_none : (Str.ofString "none") = SX.S [110, 111, 110, 101] := by decide +kernel
theorem lit_Tru : (Str.ofString "Tru") = SX.S [84, 114, 117] := by decide +kernel
theorem lit_Truee : (Str.ofString "Truee") = SX.S [84, 114, 117, 101, 101] := by decide +kernel
theorem lit_41 : (Str.ofString "[1,2]") = SX.S [91, 49, 44, 50, 93] := by decide +kernel
theorem lit_42 : (Str.ofString "[1, ]") = SX.S [91, 49, 44, 32, 93] := by decide +kernel
theorem lit_43 : (Str.ofString "[,]") = SX.S [91, 44, 93] := by decide +kernel
theorem lit_44 : (Str.ofString "(1)") = SX.S [40, 49, 41] := by decide +kernel
theorem lit_45 : (Str.ofString "put a") = SX.S [112, 117, 116, 32, 97] := by decide +kernel
theorem lit_46 : (Str.ofString "put \"a\"") = SX.S [112, 117, 116, 32, 34, 97, 34] := by decide +kernel
theorem lit_47 : (Str.ofString "put \"a\" ") = SX.S [112, 117, 116, 32, 34, 97, 34, 32] := by decide +kernel
theorem lit_48 : (Str.ofString "put \"a\" 1") = SX.S [112, 117, 116, 32, 34, 97, 34, 32, 49] := by decide +kernel
theorem lit_49 : (Str.ofString "put \"\" 1") = SX.S [112, 117, 116, 32, 34, 34, 32, 49] := by decide +kernel
theorem lit_50 : (Str.ofString "not a value") = SX.S [110, 111, 116, 32, 97, 32, 118, 97, 108, 117, 101] := by decide +kernel
theorem lit_51 : (Str.ofString "not a text of the expected form") = SX.S [110, 111, 116, 32, 97, 32, 116, 101, 120, 116, 32, 111, 102, 32, 116, 104, 101, 32, 101, 120, 112, 101, 99, 116, 101, 100, 32, 102, 111, 114, 109] := by decide +kernel
theorem lit_52 : (Str.ofString "not a valid deed") = SX.S [110, 111, 116, 32, 97, 32, 118, 97, 108, 105, 100, 32, 100, 101, 101, 100] := by decide +kernel
theorem lit_t : (Str.ofString "t") = SX.S [116] := by decide +kernel
theorem lit_f : (Str.ofString "f") = SX.S [102] := by decide +kernel
theorem lit_i : (Str.ofString "i") = SX.S [105] := by decide +kernel
theorem lit_56 : (Str.ofString ";") = SX.S [59] := by decide +kernel
theorem lit_s : (Str.ofString "s") = SX.S [115] := by decide +kernel
theorem lit_l : (Str.ofString "l") = SX.S [108] := by decide +kernel
theorem lit_u : (Str.ofString "u") = SX.S [117] := by decide +kernel
theorem lit_60 : (Str.ofString "]") = SX.S [93] := by decide +kernel
theorem lit_61 : (Str.ofString "~") = SX.S [126] := by decide +kernel
theorem lit_62 : (Str.ofString "\"\\") = SX.S [34, 92] := by decide +kernel
theorem lit_63 : (Str.ofString "123456789") = SX.S [49, 50, 51, 52, 53, 54, 55, 56, 57] := by decide +kernel
theorem lit_64 : (Str.ofString ", ") = SX.S [44, 32] := by decide +kernel
theorem lit_65 : (Str.ofString "{") = SX.S [123] := by decide +kernel
theorem lit_drop : (Str.ofString "drop") = SX.S [100, 114, 111, 112] := by decide +kernel
theorem lit_67 : (Str.ofString "drop ") = SX.S [100, 114, 111, 112, 32] := by decide +kernel
theorem lit_68 : (Str.ofString "(") = SX.S [40] := by decide +kernel
theorem lit_69 : (Str.ofString ",)") = SX.S [44, 41] := by decide +kernel
theorem lit_70 : (Str.ofString ")") = SX.S [41] := by decide +kernel
theorem lit_71 : (Str.ofString "-0123456789") = SX.S [45, 48, 49, 50, 51, 52, 53, 54, 55, 56, 57] := by decide +kernel
theorem lit_other : (Str.ofString "other") = SX.S [111, 116, 104, 101, 114] := by decide +kernel
theorem lit_73 : (Str.ofString "(1,)") = SX.S [40, 49, 44, 41] := by decide +kernel
theorem lit_74 : (Str.ofString "(1, )") = SX.S [40, 49, 44, 32, 41] := by decide +kernel
theorem lit_75 : (Str.ofString "(1, 2,)") = SX.S [40, 49, 44, 32, 50, 44, 41] := by decide +kernel
theorem lit_76 : (Str.ofString "()") = SX.S [40, 41] := by decide +kernel
theorem lit_77 : (Str.ofString "( )") = SX.S [40, 32, 41] := by decide +kernel
theorem lit_78 : (Str.ofString "{}") = SX.S [123, 125] := by decide +kernel
theorem lit_79 : (Str.ofString "{\"a\":1}") = SX.S [123, 34, 97, 34, 58, 49, 125] := by decide +kernel
theorem lit_80 : (Str.ofString "{\"a\": 1, \"a\": 2}") = SX.S [123, 34, 97, 34, 58, 32, 49, 44, 32, 34, 97, 34, 58, 32, 50, 125] := by decide +kernel
theorem lit_81 : (Str.ofString "{\"a\": 1, \"a") = SX.S [123, 34, 97, 34, 58, 32, 49, 44, 32, 34, 97] := by decide +kernel
theorem lit_82 : (Str.ofString "{1: 2}") = SX.S [123, 49, 58, 32, 50, 125] := by decide +kernel
theorem lit_83 : (Str.ofString "\"a") = SX.S [34, 97] := by decide +kernel
theorem lit_84 : (Str.ofString "\"\\x\"") = SX.S [34, 92, 120, 34] := by decide +kernel
theorem lit_85 : (Str.ofString "\"a\nb\"") = SX.S [34, 97, 10, 98, 34] := by decide +kernel
theorem lit_86 : (Str.ofString "'a'") = SX.S [39, 97, 39] := by decide +kernel
theorem lit_87 : (Str.ofString "1.0") = SX.S [49, 46, 48] := by decide +kernel
theorem lit_88 : (Str.ofString "[1 2]") = SX.S [91, 49, 32, 50, 93] := by decide +kernel
theorem lit_89 : (Str.ofString "{\"a\": 1 \"b\": 2}") = SX.S [123, 34, 97, 34, 58, 32, 49, 32, 34, 98, 34, 58, 32, 50, 125] := by decide +kernel
theorem lit_90 : (Str.ofString "\"a\" ") = SX.S [34, 97, 34, 32] := by decide +kernel
theorem lit_91 : (Str.ofString "drop \"a\", put \"a\" [], drop \"b\"") = SX.S [100, 114, 111, 112, 32, 34, 97, 34, 44, 32, 112, 117, 116, 32, 34, 97, 34, 32, 91, 93, 44, 32, 100, 114, 111, 112, 32, 34, 98, 34] := by decide +kernel
theorem lit_92 : (Str.ofString "drop \"a\",drop \"b\"") = SX.S [100, 114, 111, 112, 32, 34, 97, 34, 44, 100, 114, 111, 112, 32, 34, 98, 34] := by decide +kernel
theorem lit_93 : (Str.ofString "drop \"a\", ") = SX.S [100, 114, 111, 112, 32, 34, 97, 34, 44, 32] := by decide +kernel
theorem lit_94 : (Str.ofString "drop \"a\" 1") = SX.S [100, 114, 111, 112, 32, 34, 97, 34, 32, 49] := by decide +kernel
theorem lit_95 : (Str.ofString "k\"") = SX.S [107, 34] := by decide +kernel
theorem lit_96 : (Str.ofString "Put \"a\" 1") = SX.S [80, 117, 116, 32, 34, 97, 34, 32, 49] := by decide +kernel
theorem lit_97 : (Str.ofString "put  \"a\" 1") = SX.S [112, 117, 116, 32, 32, 34, 97, 34, 32, 49] := by decide +kernel
theorem lit_98 : (Str.ofString "put \"a\" 1 ") = SX.S [112, 117, 116, 32, 34, 97, 34, 32, 49, 32] := by decide +kernel
theorem lit_99 : (Str.ofString "dro \"a\"") = SX.S [100, 114, 111, 32, 34, 97, 34] := by decide +kernel
theorem lit_100 : (Str.ofString "1") = SX.S [49] := by decide +kernel
theorem lit_101 : (Str.ofString "drop \"\\n\"") = SX.S [100, 114, 111, 112, 32, 34, 92, 110, 34] := by decide +kernel
theorem lit_102 : (Str.ofString "[") = SX.S [91] := by decide +kernel
theorem lit_103 : (Str.ofString "\": ") = SX.S [34, 58, 32] := by decide +kernel
theorem lit_104 : (Str.ofString "put ") = SX.S [112, 117, 116, 32] := by decide +kernel
theorem lit_105 : (Str.ofString "[[{\"a\": ") = SX.S [91, 91, 123, 34, 97, 34, 58, 32] := by decide +kernel
theorem lit_106 : (Str.ofString "9") = SX.S [57] := by decide +kernel
theorem lit_k : (Str.ofString "k") = SX.S [107] := by decide +kernel
theorem lit_108 : (Str.ofString ", drop \"b\\n\"") = SX.S [44, 32, 100, 114, 111, 112, 32, 34, 98, 92, 110, 34] := by decide +kernel
theorem lit_109 : (Str.ofString "[](){}\"\\, :n-01NTa\n") = SX.S [91, 93, 40, 41, 123, 125, 34, 92, 44, 32, 58, 110, 45, 48, 49, 78, 84, 97, 10] := by decide +kernel
theorem lit_110 : (Str.ofString "\"\\n") = SX.S [34, 92, 110] := by decide +kernel
theorem lit_111 : (Str.ofString ": ") = SX.S [58, 32] := by decide +kernel
local macro_rules | `(tactic| walk_at "lt") => `(tactic| simp only [lit_0, lit_1, lit_2, lit_3, lit_4, lit_5, lit_6, lit_7, lit_8, lit_9, lit_10, lit_n, lit_12, lit_d, lit_14, lit_None, lit_True, lit_False, lit_18, lit_19, lit_put, lit_21, lit_p, lit_23, lit_24, lit_at, lit_26, lit_N, lit_T, lit_F, lit_text, lit_31, lit_32, lit_33, lit_34, lit_35, lit_36, lit_37, lit_none, lit_Tru, lit_Truee, lit_41, lit_42, lit_43, lit_44, lit_45, lit_46, lit_47, lit_48, lit_49, lit_50, lit_51, lit_52, lit_t, lit_f, lit_i, lit_56, lit_s, lit_l, lit_u, lit_60, lit_61, lit_62, lit_63, lit_64, lit_65, lit_drop, lit_67, lit_68, lit_69, lit_70, lit_71, lit_other, lit_73, lit_74, lit_75, lit_76, lit_77, lit_78, lit_79, lit_80, lit_81, lit_82, lit_83, lit_84, lit_85, lit_86, lit_87, lit_88, lit_89, lit_90, lit_91, lit_92, lit_93, lit_94, lit_95, lit_96, lit_97, lit_98, lit_99, lit_100, lit_101, lit_102, lit_103, lit_104, lit_105, lit_106, lit_k, lit_108, lit_109, lit_110, lit_111])
def top (i : Nat) : Stmt := PySem.Challenge.pw_recordshelf_k58_first_wrong_positions.main.body.getD i (.Pass ⟨0, 0, 0, 0⟩)
abbrev s_InvalidText__init : Stmt := inClass (top 3) 0
abbrev s_InvalidDeed__init : Stmt := inClass (top 4) 0
abbrev s_is_key : Stmt := top 10
abbrev s_items_of : Stmt := top 11
abbrev s_is_wrong_part : Stmt := top 12
abbrev s_wrong_path : Stmt := top 13
abbrev s_check_value : Stmt := top 14
abbrev s_is_value : Stmt := top 15
abbrev s_spelled : Stmt := top 16
abbrev s_text_of : Stmt := top 17
abbrev s_string_notation : Stmt := top 26
abbrev s_value_notation : Stmt := top 27
abbrev s_notation : Stmt := top 28
abbrev s_expect : Stmt := top 29
abbrev s_stands : Stmt := top 30
abbrev s_is_plain_sign : Stmt := top 31
abbrev s_read_string : Stmt := top 32
abbrev s_read_key : Stmt := top 33
abbrev s_read_integer : Stmt := top 34
abbrev s_read_items : Stmt := top 35
abbrev s_read_pairs : Stmt := top 36
abbrev s_read_value : Stmt := top 37
abbrev s_checked_text : Stmt := top 38
abbrev s_ended : Stmt := top 39
abbrev s_read_notation : Stmt := top 40
abbrev s_is_notation : Stmt := top 41
abbrev s_is_deed : Stmt := top 42
abbrev s_deed_notation : Stmt := top 43
abbrev s_deeds_text : Stmt := top 44
abbrev s_read_deed : Stmt := top 45
abbrev s_read_deeds : Stmt := top 46
abbrev s_l_source : Stmt := top 48
abbrev s_l_pick : Stmt := top 49
abbrev s_l_string : Stmt := top 50
abbrev s_l_value : Stmt := top 51
abbrev s_l_quoted : Stmt := top 52
abbrev s_l_shown : Stmt := top 53
abbrev s_l_sign : Stmt := top 54
abbrev s_l_word : Stmt := top 55
abbrev s_l_string_fits : Stmt := top 56
abbrev s_l_items_fit : Stmt := top 57
abbrev s_l_number_fits : Stmt := top 58
abbrev s_l_value_fits : Stmt := top 59
abbrev s_l_deed_fits : Stmt := top 60
abbrev s_l_wrong : Stmt := top 61
abbrev s_l_told : Stmt := top 62
abbrev s_l_right : Stmt := top 63
abbrev s_l_by_hand_right : Stmt := top 64
abbrev s_law : Stmt := top 65
theorem bb_dict : bootBuiltins "dict" = some (.type "dict") := by decide +kernel
structure Txt (g : Wd) : Prop where
  b_len : g.mg "len" = none
  b_isinstance : g.mg "isinstance" = none
  b_repr : g.mg "repr" = none
  b_enumerate : g.mg "enumerate" = none
  b_range : g.mg "range" = none
  b_list : g.mg "list" = none
  b_tuple : g.mg "tuple" = none
  b_dict : g.mg "dict" = none
  b_bool : g.mg "bool" = none
  b_int : g.mg "int" = none
  b_str : g.mg "str" = none
  b_abs : g.mg "abs" = none
  b_all : g.mg "all" = none
  nd : PySem.W.nsIn g.K cStatics "sys.int_max_str_digits" = some none
  b_sorted : g.mg "sorted" = none
  b_set : g.mg "set" = none
  b_max : g.mg "max" = none
  b_min : g.mg "min" = none
  b_any : g.mg "any" = none
  c_MOST_DIGITS_values : Gv g "MOST_DIGITS_values" (.int 100)
  c_MOST_ITEMS : Gv g "MOST_ITEMS" (.int 10000)
  c_MOST_LEVELS_values : Gv g "MOST_LEVELS_values" (.int 20)
  c_MOST_KEY_values : Gv g "MOST_KEY_values" (.int 200)
  c_MOST_DIGITS_notation : Gv g "MOST_DIGITS_notation" (.int 100)
  c_MOST_LEVELS_notation : Gv g "MOST_LEVELS_notation" (.int 20)
  c_MOST_KEY_notation : Gv g "MOST_KEY_notation" (.int 200)
  c_DIGITS : Gv g "DIGITS" (.str "0123456789")
theorem okAll_get : ∀ {ds : List PyData} {i : Nat} {d : PyData}, okAll ds = true → ds[i]? = some d → okB d = true
  | x :: xs, 0, d, h, e => by
    cases e
    simp only [okAll, Bool.and_eq_true] at h
    exact h.1
  | x :: xs, i + 1, d, h, e => by
    simp only [okAll, Bool.and_eq_true] at h
    exact okAll_get h.2 (by simpa using e)
  | [], _, _, _, e => by simp at e
theorem okKv_get : ∀ {D : List (PyData × PyData)} {i : Nat} {k d : PyData}, okKv D = true → D[i]? = some (k, d) → okB k = true ∧ okB d = true
  | (x, y) :: xs, 0, k, d, h, e => by
    cases e
    simp only [okKv, Bool.and_eq_true] at h
    exact h.1
  | (x, y) :: xs, i + 1, k, d, h, e => by
    simp only [okKv, Bool.and_eq_true] at h
    exact okKv_get h.2 (by simpa using e)
  | [], _, _, _, _, e => by simp at e
/-- the pairs of steps and items -/
def idx (xs : List V) : List (V × V) := (List.range xs.length).map fun j => (.int (j : Nat), xs[j]?.getD .non)
def prs (H : Hp) : V → List (V × V)
  | .ref a => match H a with
    | some (.lst xs) => idx xs
    | some (.tup xs) => idx xs
    | some (.dK kvs) => kvs.map fun kv => (kV kv.1, kv.2)
    | _ => []
  | _ => []
/-- tuples of these pairs -/
def Prd (H : Hp) (ts : List V) (ps : List (V × V)) : Prop := ts.length = ps.length ∧ ∀ (j : Nat) (s x : V), ps[j]? = some (s, x) → ∃ t : Addr, ts[j]? = some (.ref t) ∧ H t = some (.tup [s, x])
theorem Prd.snoc {H H' : Hp} {ts : List V} {ps : List (V × V)} {t : Addr} {s x : V} (h : Prd H ts ps) (sm : Same H H') (ht : H' t = some (.tup [s, x])) : Prd H' (ts ++ [.ref t]) (ps ++ [(s, x)]) := by
  refine ⟨by simp [h.1], fun j s' x' hj => ?_⟩
  by_cases lt : j < ps.length
  · rw [List.getElem?_append_left lt] at hj
    obtain ⟨t', h1, h2⟩ := h.2 j s' x' hj
    exact ⟨t', by rw [List.getElem?_append_left (by rw [h.1]; exact lt)]; exact h1, sm _ _ h2⟩
  · rw [List.getElem?_append_right (by omega)] at hj
    have e : j - ps.length = 0 := by
      cases hh : j - ps.length with
      | zero => rfl
      | succ n => rw [hh] at hj; simp at hj
    rw [e] at hj
    cases hj
    exact ⟨t, by rw [List.getElem?_append_right (by rw [h.1]; omega), h.1, e]; rfl, ht⟩
theorem Prd.tups {H H' : Hp} {ts : List V} {ps : List (V × V)} (h : Prd H ts ps) (k : ∀ t xs, H t = some (.tup xs) → H' t = some (.tup xs)) : Prd H' ts ps :=
  ⟨h.1, fun j s x hj => by obtain ⟨t, h1, h2⟩ := h.2 j s x hj; exact ⟨t, h1, k _ _ h2⟩⟩
/-- a lock taken off -/
theorem unlock {H G : Hp} {a : Addr} {od : Obj} {u : HO} (h : H a = some u) (s : Same (upd H a (.frz od u)) G) : Same H (upd G a u) := fun b o e => by
  by_cases z : b = a
  · subst z; rw [upd_same, ← e]; exact h.symm
  · rw [upd_ne z]; exact s b o (by rw [upd_ne z]; exact e)
theorem fresh_lock {H : Hp} {a b : Addr} {o : HO} (h : upd H a o b = none) : b ≠ a ∧ H b = none := by
  by_cases z : b = a
  · subst z; rw [upd_same] at h; cases h
  · rw [upd_ne z] at h; exact ⟨z, h⟩
theorem idx_get {xs : List V} {j : Nat} {s x : V} (h : (idx xs)[j]? = some (s, x)) : s = .int (j : Nat) ∧ xs[j]? = some x := by
  unfold idx at h
  by_cases lt : j < xs.length
  · simp [lt] at h
    exact ⟨h.1.symm, by simp [lt, ← h.2]⟩
  · simp [lt] at h
theorem idx_len (xs : List V) : (idx xs).length = xs.length := by simp [idx]
section
variable {g : Wd} {f : Addr} {fd : FuncData}
/-- the dict's way -/
theorem dict_pairs {H : Hp} {Q : VK} {a : Addr} {kvs : List (Key × V)} (h : H a = some (.dK kvs)) (nd : (kvs.map (·.1)).Nodup) (hz : kvs.length ≤ sizeLine) (od : Obj)
    (q : ∀ p ts H', Same H H' → H p = none → H' p = some (.lst ts) → Prd H' ts (prs H (.ref a)) → Q (.ref p) H') :
    LcB (Itk a od kvs) (gName 1) tYes (tTup (tCons (tVar 1) (tCons (tDGet (tVar 0) (tVar 1)) tNil))) [1] [some (.ref a), none] (upd H a (.frz od (.dK kvs))) fun v H' => H' a = some (.frz od (.dK kvs)) ∧ Q v (upd H' a (.dK kvs)) := by
  refine lc_invA kvs.length (fun D i acc G => Same (upd H a (.frz od (.dK kvs))) G ∧ Prd G acc ((kvs.map fun kv => (kV kv.1, kv.2)).take i)) hz (fun D hD => ⟨same_upd hD, rfl, by simp⟩) (fun D i acc G hD lt ⟨s, _⟩ => ⟨s _ _ upd_same, lt⟩) (fun D acc G hD ⟨s, _⟩ => ⟨s _ _ upd_same, Nat.le_refl _⟩) (fun D i acc G x G' K hD lt la ⟨s, pr⟩ eD yl k => ?_) (fun D acc G hD ⟨s, pr⟩ eD => ?_)
  · obtain ⟨rfl, k0, v0, hk, rfl⟩ := yl
    have ea : G' a = some (.frz od (.dK kvs)) := s _ _ upd_same
    refine ⟨rfl, ?_⟩
    walk_at "sx"
    refine ⟨v0, .inl ⟨kvs, k0, .inr ⟨od, ea⟩, rfl, (valV_at nd hk).symm⟩, fun t ht => ?_⟩
    have st := same_upd (o := HO.tup [kV k0, v0]) ht
    have Dt : t ≠ D := fun e => by rw [e, eD] at ht; cases ht
    refine k _ _ (st _ _ eD) ⟨fun b o e => ?_, ?_⟩
    · have bD : b ≠ D := fun z => by rw [z, hD] at e; cases e
      rw [upd_ne bD]
      exact st _ _ (s _ _ e)
    · have e1 : (kvs.map fun kv => (kV kv.1, kv.2)).take (i + 1) = (kvs.map fun kv => (kV kv.1, kv.2)).take i ++ [(kV k0, v0)] := by
        rw [List.take_add_one]
        simp [hk]
      rw [e1]
      exact (Prd.snoc pr st upd_same).tups fun t' xs z => by
        have n : t' ≠ D := fun e => by rw [e, st _ _ eD] at z; cases z
        rw [upd_ne n]; exact z
  · have Da := fresh_lock hD
    refine ⟨s _ _ upd_same, q D acc _ (unlock h s) Da.2 (by rw [upd_ne Da.1]; exact eD) ?_⟩
    have e1 : (kvs.map fun kv => (kV kv.1, kv.2)).take kvs.length = prs H (.ref a) := by
      simp only [prs, h]
      exact List.take_of_length_le (by simp)
    rw [← e1]
    exact pr.tups fun t xs z => by
      have ta : t ≠ a := fun e => by rw [e, s _ _ upd_same] at z; cases z
      rw [upd_ne ta]; exact z
theorem sc_items_of : FnScope ["value", "key"] ["value"] (defScope s_items_of) := ⟨rfl, rfl, rfl, by decide +kernel, rfl, by decide +kernel, by decide +kernel⟩
def sp_items : Sp := S1 fun v H Q _ => ∃ d fp, Tr H v d fp ∧ okB d = true ∧ ∀ p ts H', Same H H' → H p = none → H' p = some (.lst ts) → Prd H' ts (prs H v) → Q (.ref p) H'
theorem ok_items (F : Df g.K "items_of" "items_of" s_items_of f fd .none) (T : Txt g) : FnG g 1 f fd ["value"] sp_items := by
  refine F.ok sc_items_of (fun vs H Q E h => S1.len h) (fun cdv A outer s H vs Q E hr h => ?_)
  obtain ⟨v, rfl, d, fp, hv, hok, q⟩ := h
  refine ⟨_, (pss_cons (ps_if (pt_val (pe_callB (c_is "dict") (by rfl) T.b_isinstance bb_isinstance (pa_cons (pv 0) (pa_cons (pe_bltn (v := .ty "dict") rfl T.b_dict bb_dict rfl) pa_nil)))) (pss_one (ps_ret (pe_lock (pe_lc (own := [("key", 1)]) (tt := tYes) rfl sc_items_of.nd (pi_keys (pv 0)) (blkOk_by (own := [("key", 1)]) (N := ["value", "key"]) (sc := defScope s_items_of) (by decide +kernel)) (fun _ _ _ _ _ => (pg_name (i := 1) sc_items_of.nd rfl (.inl rfl))) (fun _ _ _ _ _ => pts_nil) (fun _ _ _ _ _ => (pe_tup (pa_cons (pv 1) (pa_cons (pe_dget (hu_of (Rm.mk hr.room hr.gd).room) (pv 0) (pv 1) (fun _ _ => rfl)) pa_nil)))))))) pss_nil)
      (pss_one (ps_ret (pe_ifExp (pt_val (pe_callB (c_isT ["list", "tuple"]) (by rfl) T.b_isinstance bb_isinstance (pa_cons (pv 0) (pa_cons (pe_tup (pa_cons (pe_bltn (v := .ty "list") rfl T.b_list bb_list rfl) (pa_cons (pe_bltn (v := .ty "tuple") rfl T.b_tuple bb_tuple rfl) pa_nil))) pa_nil)))) (pe_listEnum (K := g.K) T.b_list T.b_enumerate (pa_cons (pv 0) pa_nil)) (pe_lst pa_nil))))), ?_⟩
  walk_at "sx"
  refine ⟨_, hv.ty, ?_⟩
  cases hv with
  | @dct a kvs D fp h hs na nd =>
    rw [if_pos (by simp [kindN])]
    exact ⟨a, _, h, True.intro, fun od => ⟨a, rfl, od, .inl ⟨kvs, upd_same, dict_pairs h nd (by simp only [okB, Bool.and_eq_true, decide_eq_true_eq] at hok; rw [hs.len, sizeLine_eq]; omega) od q⟩⟩⟩
  | @lst a xs ds fp h hs na =>
    rw [if_neg (by simp [kindN])]
    intro p hp
    refine isT_new (Ts := ["list", "tuple"]) (tyN_l h) hp ⟨_, rfl, ?_⟩
    rw [if_pos (by decide)]
    have sp := same_upd (o := HO.tup (["list", "tuple"].map V.ty)) hp
    refine ⟨a, rfl, xs, .inl (SqL.of (sp _ _ h)), fun p2 ts H' s2 n2 e2 l2 k2 => q p2 _ H' (sp.trans s2) (fresh_lock n2).2 e2 ⟨by rw [List.length_map, l2]; simp [prs, h, idx_len], fun j s' x hj => ?_⟩⟩
    have hj' : (idx xs)[j]? = some (s', x) := by simpa [prs, h] using hj
    obtain ⟨rfl, hx⟩ := idx_get hj'
    obtain ⟨t, t1, _, t3⟩ := k2 j x hx
    exact ⟨t, by simp [t1], t3⟩
  | @tup a xs ds fp h hs =>
    rw [if_neg (by simp [kindN])]
    intro p hp
    refine isT_new (Ts := ["list", "tuple"]) (tyN_t h) hp ⟨_, rfl, ?_⟩
    rw [if_pos (by decide)]
    have sp := same_upd (o := HO.tup (["list", "tuple"].map V.ty)) hp
    refine ⟨a, rfl, xs, .inr (SqT.of (sp _ _ h)), fun p2 ts H' s2 n2 e2 l2 k2 => q p2 _ H' (sp.trans s2) (fresh_lock n2).2 e2 ⟨by rw [List.length_map, l2]; simp [prs, h, idx_len], fun j s' x hj => ?_⟩⟩
    have hj' : (idx xs)[j]? = some (s', x) := by simpa [prs, h] using hj
    obtain ⟨rfl, hx⟩ := idx_get hj'
    obtain ⟨t, t1, _, t3⟩ := k2 j x hx
    exact ⟨t, by simp [t1], t3⟩
  | _ =>
    rw [if_neg (by simp [kindN])]
    intro p hp
    refine isT_new (Ts := ["list", "tuple"]) rfl hp ⟨_, rfl, ?_⟩
    rw [if_neg (by decide)]
    exact fun p2 n2 => q p2 _ _ (same_new (same_upd hp) n2) (fresh_lock n2).2 upd_same ⟨rfl, fun j s' x hj => by simp [prs] at hj⟩
end
theorem len_100 {i : Int} (h : i.natAbs < 10 ^ 100) : i.natAbs.log2 < 1920 ∧ (Str.ofString (toString ((i.natAbs : Nat) : Int))).length ≤ 100 := by
  refine ⟨?_, ?_⟩
  · have h2 : i.natAbs < 2 ^ 1920 := Nat.lt_of_lt_of_le h (by decide +kernel)
    by_cases z : i.natAbs = 0
    · rw [z]; decide
    · exact (Nat.log2_lt z).mpr h2
  · rw [ofString_length]
    exact (Nat.length_repr_le_iff (by decide)).mpr h
section
variable {g : Wd} {f : Addr} {fd : FuncData}
theorem sc_is_wrong_part : FnScope ["value", "depth", "key"] ["value", "depth"] (defScope s_is_wrong_part) := ⟨rfl, rfl, rfl, by decide +kernel, rfl, by decide +kernel, by decide +kernel⟩
def sp_wrong : Sp := S2 fun v k H Q _ => ∃ d fp n, Tr H v d fp ∧ okB d = true ∧ k = .int n ∧ (0 < d.depth → n < 20) ∧ ∀ H', Same H H' → Q (.bl false) H'
theorem ok_wrong (F : Df g.K "is_wrong_part" "is_wrong_part" s_is_wrong_part f fd .none) (T : Txt g) : FnG g 1 f fd ["value", "depth"] sp_wrong := by
  refine F.ok sc_is_wrong_part (fun vs H Q E h => S2.len h) (fun cdv A outer s H vs Q E hr h => ?_)
  obtain ⟨v, _, rfl, d, fp, n, hv, hok, rfl, hn, q⟩ := h
  refine ⟨_, (pss_cons (ps_if (PW.pt (pw_or (pt_cmpR op_isN (pv 0) pe_non (nomark _)) (pw_or1 (pt_val (pe_callB (c_is "bool") (by rfl) T.b_isinstance bb_isinstance (pa_cons (pv 0) (pa_cons (pe_bltn (v := .ty "bool") rfl T.b_bool bb_bool rfl) pa_nil))))))) (pss_one (ps_ret pe_bl)) pss_nil)
      (pss_cons (ps_if (pt_val (pe_callB (c_is "int") (by rfl) T.b_isinstance bb_isinstance (pa_cons (pv 0) (pa_cons (pe_bltn (v := .ty "int") rfl T.b_int bb_int rfl) pa_nil)))) (pss_one (ps_ret (pe_cmpR op_gt (pe_callB (c_len (K := g.K)) (by rfl) T.b_len bb_len (pa_cons (pe_callTy call_str_int (by rfl) T.b_str bb_str (pa_cons (pe_callB call_abs (by rfl) T.b_abs bb_abs (pa_cons (pv 0) pa_nil)) pa_nil)) pa_nil)) (e_g T.c_MOST_DIGITS_values) (nomark _)))) pss_nil)
      (pss_cons (ps_if (pt_val (pe_callB (c_is "str") (by rfl) T.b_isinstance bb_isinstance (pa_cons (pv 0) (pa_cons (pe_bltn (v := .ty "str") rfl T.b_str bb_str rfl) pa_nil)))) (pss_one (ps_ret (pe_cmpR op_gt (pe_callB (c_len (K := g.K)) (by rfl) T.b_len bb_len (pa_cons (pv 0) pa_nil)) (e_g T.c_MOST_ITEMS) (nomark _)))) pss_nil)
      (pss_cons (ps_if (PW.pt (pw_or (pt_not (pt_val (pe_callB (c_isT ["list", "tuple", "dict"]) (by rfl) T.b_isinstance bb_isinstance (pa_cons (pv 0) (pa_cons (pe_tup (pa_cons (pe_bltn (v := .ty "list") rfl T.b_list bb_list rfl) (pa_cons (pe_bltn (v := .ty "tuple") rfl T.b_tuple bb_tuple rfl) (pa_cons (pe_bltn (v := .ty "dict") rfl T.b_dict bb_dict rfl) pa_nil)))) pa_nil))))) (pw_or (pt_cmpR op_ge (pv 1) (e_g T.c_MOST_LEVELS_values) (nomark _)) (pw_or1 (pt_cmpR op_gt (pe_callB (c_len (K := g.K)) (by rfl) T.b_len bb_len (pa_cons (pv 0) pa_nil)) (e_g T.c_MOST_ITEMS) (nomark _)))))) (pss_one (ps_ret pe_bl)) pss_nil)
      (pss_one (ps_ret (pe_and (pe_callB (c_is "dict") (by rfl) T.b_isinstance bb_isinstance (pa_cons (pv 0) (pa_cons (pe_bltn (v := .ty "dict") rfl T.b_dict bb_dict rfl) pa_nil))) (pe_one (pe_not (pe_callB (c_all (K := g.K)) (by rfl) T.b_all bb_all (pa_cons (pe_lock (pe_lc (own := [("key", 2)]) (tt := tYes) rfl sc_is_wrong_part.nd (pi_keys (pv 0)) (blkOk_by (own := [("key", 2)]) (N := ["value", "depth", "key"]) (sc := defScope s_is_wrong_part) (by decide +kernel)) (fun _ _ _ _ _ => (pg_name (i := 2) sc_is_wrong_part.nd rfl (.inl rfl))) (fun _ _ _ _ _ => pts_nil) (fun _ _ _ _ _ => (pe_and (pe_callB (c_is "str") (by rfl) T.b_isinstance bb_isinstance (pa_cons (pv 2) (pa_cons (pe_bltn (v := .ty "str") rfl T.b_str bb_str rfl) pa_nil))) (pe_one (pe_cmpR op_le (pe_callB (c_len (K := g.K)) (by rfl) T.b_len bb_len (pa_cons (pv 2) pa_nil)) (e_g T.c_MOST_ITEMS) (nomark _))))))) pa_nil))))))))))), ?_⟩
  cases hv with
  | non =>
    walk_at "sx"
    exact q _ (Same.refl _)
  | bl b =>
    walk_at "sx"
    exact q _ (Same.refl _)
  | int i =>
    walk_at "sx"
    have hi : i.natAbs < 10 ^ 100 := by simpa [okB] using hok
    have ea : ((if i < 0 then -i else i : Int)) = ((i.natAbs : Nat) : Int) := by split <;> omega
    rw [ea]
    obtain ⟨l1, l2⟩ := len_100 hi
    refine ⟨?_, by omega, ?_⟩
    · rw [Int.natAbs_natCast]
      exact l1
    · rw [decide_eq_false (by omega)]
      exact q _ (Same.refl _)
  | str x =>
    walk_at "sx"
    have hx : x.length ≤ 10000 := by simpa [okB] using hok
    refine ⟨by omega, ?_⟩
    rw [decide_eq_false (by omega)]
    exact q _ (Same.refl _)
  | @lst a xs ds fp h hs na =>
    simp only [tyN_l h, tRet, tRetN, tSeq, C8.tCut, tNext, tAsg, gName, gNil, gCons, gTup, gFld, tIfS, tIf, tAndV, tOrV, tNotV, tAnd, tOr, tNot, tB, tTest, tOp, tUn, tCB, tCons, tNil, tVar, tC, tChain, tDrop, RS.tCallG, RS.tMethG, tMakeG, RS.tCallK, RS.tMakeK, tEqOwn, rI, rI0, rU, add_ii, add_ss, add_rr, mul_ii, mul_si, mul_ri, RS.eq_ii, RS.eq_ss, eq_bb, eq_nn, eq_sn, eq_ns, eq_in, eq_ni, eq_bn, eq_nb, eq_is, eq_si, eq_rr, ne_ii, ne_ss, ne_bb, ne_nn, ne_sn, ne_ns, ne_in, ne_ni, ne_is, ne_si, ne_rr, in_ss, in_r, nin_ss, nin_r, len_s, len_r, RS.ix_s, RS.ix_r, sl_s, sl_r, is_eq, tyN_n, tyN_b, tyN_i, tyN_s, tru_b, tru_i, tru_n, tSl, tPart, tNoPart, tPar, tPar3, tFmtZ, tFmt, tJs, tDGet, sDPut, sFld, tFld, tTup, tLst, tNever, isB,
  L2.start, List.map_cons, List.map_nil, List.length_cons, List.length_nil, Nat.reduceAdd, Nat.reduceSub, Nat.sub_self, List.replicate_zero, List.replicate_succ, List.append_nil, List.cons_append, List.nil_append, List.getElem?_cons_zero, List.getElem?_cons_succ, List.set_cons_zero, List.set_cons_succ, Option.some.injEq, exists_eq_left, exists_eq_left', exists_and_left, V.bl.injEq, V.int.injEq, V.str.injEq, V.ref.injEq, beq_self_eq_true, Bool.true_or, Bool.or_true, Bool.false_or, Bool.or_false, Bool.and_false, Bool.false_and, Bool.true_and, Bool.and_true, Bool.not_true, Bool.not_false, Bool.false_eq_true, if_true, if_false, ite_true, ite_false, true_and, and_true, and_assoc, String.reduceBEq, String.reduceEq, reduceIte, Bool.and_self, reduceCtorEq, false_and, and_false, exists_false, or_false, false_or, exists_const, iEnumS, iStr, iList, iTup, iRng1, iEnum, tFor_eq, tLc_eq, List.cons.injEq, wipe, not_true_eq_false, not_false_eq_true, upd_same, HO.ins.injEq, HO.tup.injEq, HO.lst.injEq, ofS_eq, lk_nil, lk_cons, pu_nil, pu_cons, sizeLine_eq, Nat.reduceLT, Nat.reduceLeDiff, Nat.reduceEqDiff, Nat.le_refl, decide_true, decide_false, tPr, dget_us, dput_us, vv_nil, vv_cons, RS.pk_nil, pk_one, RS.pk_cons, inr_eq, tDisp, tPairs, tBoolOwn, rBoolOwn, tBM, rAppend, ty_list, ty_str, rEqOwn, iEnumT, RS.tCallS, tM1, tDc_eq, tLock, tLockE, iKeys, tListEnum, rUpdate, tMkX0, tMkX1, tXfv, gSub, rSetL, List.getD_cons_zero, List.getD_cons_succ, tBreak, tCMethS, ClX.tCVal, tXfa, tIxOwn, tInOwn, tPropG, tMethK, tMethP, tListGen, tDGet2, tDPop2, rNeD0, intA_i, intA_b, tRevL, sFldAug, tPm0, tPm1, tDIn, tDNotIn, tDNewK, RS.tMethS, tForK, tKM, tKC, tLcK, tKM2, tKC2, tMethStar, tKCK2, tLk, tAug, ipI, tDig, tLcX, tKMX, tKCX]
    intro p hp
    have hl : xs.length ≤ 10000 := by rw [hs.len]; simp only [okB, Bool.and_eq_true, decide_eq_true_eq] at hok; exact hok.1
    have hn := hn (by simp [PyData.depth])
    have sp := same_upd (o := HO.tup (["list", "tuple", "dict"].map V.ty)) hp
    refine isT_new (Ts := ["list", "tuple", "dict"]) (tyN_l h) hp ⟨_, rfl, ?_⟩
    rw [if_neg (by decide), if_neg (by simp; omega)]
    refine .inl ⟨xs, .inl (SqL.of (sp _ _ h)), ?_⟩
    rw [if_neg (by simp; omega)]
    refine ⟨_, tyN_l (sp _ _ h), ?_⟩
    rw [if_neg (by decide)]
    exact q _ sp
  | @tup a xs ds fp h hs =>
    simp only [tyN_t h, tRet, tRetN, tSeq, C8.tCut, tNext, tAsg, gName, gNil, gCons, gTup, gFld, tIfS, tIf, tAndV, tOrV, tNotV, tAnd, tOr, tNot, tB, tTest, tOp, tUn, tCB, tCons, tNil, tVar, tC, tChain, tDrop, RS.tCallG, RS.tMethG, tMakeG, RS.tCallK, RS.tMakeK, tEqOwn, rI, rI0, rU, add_ii, add_ss, add_rr, mul_ii, mul_si, mul_ri, RS.eq_ii, RS.eq_ss, eq_bb, eq_nn, eq_sn, eq_ns, eq_in, eq_ni, eq_bn, eq_nb, eq_is, eq_si, eq_rr, ne_ii, ne_ss, ne_bb, ne_nn, ne_sn, ne_ns, ne_in, ne_ni, ne_is, ne_si, ne_rr, in_ss, in_r, nin_ss, nin_r, len_s, len_r, RS.ix_s, RS.ix_r, sl_s, sl_r, is_eq, tyN_n, tyN_b, tyN_i, tyN_s, tru_b, tru_i, tru_n, tSl, tPart, tNoPart, tPar, tPar3, tFmtZ, tFmt, tJs, tDGet, sDPut, sFld, tFld, tTup, tLst, tNever, isB,
  L2.start, List.map_cons, List.map_nil, List.length_cons, List.length_nil, Nat.reduceAdd, Nat.reduceSub, Nat.sub_self, List.replicate_zero, List.replicate_succ, List.append_nil, List.cons_append, List.nil_append, List.getElem?_cons_zero, List.getElem?_cons_succ, List.set_cons_zero, List.set_cons_succ, Option.some.injEq, exists_eq_left, exists_eq_left', exists_and_left, V.bl.injEq, V.int.injEq, V.str.injEq, V.ref.injEq, beq_self_eq_true, Bool.true_or, Bool.or_true, Bool.false_or, Bool.or_false, Bool.and_false, Bool.false_and, Bool.true_and, Bool.and_true, Bool.not_true, Bool.not_false, Bool.false_eq_true, if_true, if_false, ite_true, ite_false, true_and, and_true, and_assoc, String.reduceBEq, String.reduceEq, reduceIte, Bool.and_self, reduceCtorEq, false_and, and_false, exists_false, or_false, false_or, exists_const, iEnumS, iStr, iList, iTup, iRng1, iEnum, tFor_eq, tLc_eq, List.cons.injEq, wipe, not_true_eq_false, not_false_eq_true, upd_same, HO.ins.injEq, HO.tup.injEq, HO.lst.injEq, ofS_eq, lk_nil, lk_cons, pu_nil, pu_cons, sizeLine_eq, Nat.reduceLT, Nat.reduceLeDiff, Nat.reduceEqDiff, Nat.le_refl, decide_true, decide_false, tPr, dget_us, dput_us, vv_nil, vv_cons, RS.pk_nil, pk_one, RS.pk_cons, inr_eq, tDisp, tPairs, tBoolOwn, rBoolOwn, tBM, rAppend, ty_list, ty_str, rEqOwn, iEnumT, RS.tCallS, tM1, tDc_eq, tLock, tLockE, iKeys, tListEnum, rUpdate, tMkX0, tMkX1, tXfv, gSub, rSetL, List.getD_cons_zero, List.getD_cons_succ, tBreak, tCMethS, ClX.tCVal, tXfa, tIxOwn, tInOwn, tPropG, tMethK, tMethP, tListGen, tDGet2, tDPop2, rNeD0, intA_i, intA_b, tRevL, sFldAug, tPm0, tPm1, tDIn, tDNotIn, tDNewK, RS.tMethS, tForK, tKM, tKC, tLcK, tKM2, tKC2, tMethStar, tKCK2, tLk, tAug, ipI, tDig, tLcX, tKMX, tKCX]
    intro p hp
    have hl : xs.length ≤ 10000 := by rw [hs.len]; simp only [okB, Bool.and_eq_true, decide_eq_true_eq] at hok; exact hok.1
    have hn := hn (by simp [PyData.depth])
    have sp := same_upd (o := HO.tup (["list", "tuple", "dict"].map V.ty)) hp
    refine isT_new (Ts := ["list", "tuple", "dict"]) (tyN_t h) hp ⟨_, rfl, ?_⟩
    rw [if_neg (by decide), if_neg (by simp; omega)]
    refine .inl ⟨xs, .inr (SqT.of (sp _ _ h)), ?_⟩
    rw [if_neg (by simp; omega)]
    refine ⟨_, tyN_t (sp _ _ h), ?_⟩
    rw [if_neg (by decide)]
    exact q _ sp
  | @dct a kvs D fp h hs na nd =>
    simp only [tyN_d h, tRet, tRetN, tSeq, C8.tCut, tNext, tAsg, gName, gNil, gCons, gTup, gFld, tIfS, tIf, tAndV, tOrV, tNotV, tAnd, tOr, tNot, tB, tTest, tOp, tUn, tCB, tCons, tNil, tVar, tC, tChain, tDrop, RS.tCallG, RS.tMethG, tMakeG, RS.tCallK, RS.tMakeK, tEqOwn, rI, rI0, rU, add_ii, add_ss, add_rr, mul_ii, mul_si, mul_ri, RS.eq_ii, RS.eq_ss, eq_bb, eq_nn, eq_sn, eq_ns, eq_in, eq_ni, eq_bn, eq_nb, eq_is, eq_si, eq_rr, ne_ii, ne_ss, ne_bb, ne_nn, ne_sn, ne_ns, ne_in, ne_ni, ne_is, ne_si, ne_rr, in_ss, in_r, nin_ss, nin_r, len_s, len_r, RS.ix_s, RS.ix_r, sl_s, sl_r, is_eq, tyN_n, tyN_b, tyN_i, tyN_s, tru_b, tru_i, tru_n, tSl, tPart, tNoPart, tPar, tPar3, tFmtZ, tFmt, tJs, tDGet, sDPut, sFld, tFld, tTup, tLst, tNever, isB,
  L2.start, List.map_cons, List.map_nil, List.length_cons, List.length_nil, Nat.reduceAdd, Nat.reduceSub, Nat.sub_self, List.replicate_zero, List.replicate_succ, List.append_nil, List.cons_append, List.nil_append, List.getElem?_cons_zero, List.getElem?_cons_succ, List.set_cons_zero, List.set_cons_succ, Option.some.injEq, exists_eq_left, exists_eq_left', exists_and_left, V.bl.injEq, V.int.injEq, V.str.injEq, V.ref.injEq, beq_self_eq_true, Bool.true_or, Bool.or_true, Bool.false_or, Bool.or_false, Bool.and_false, Bool.false_and, Bool.true_and, Bool.and_true, Bool.not_true, Bool.not_false, Bool.false_eq_true, if_true, if_false, ite_true, ite_false, true_and, and_true, and_assoc, String.reduceBEq, String.reduceEq, reduceIte, Bool.and_self, reduceCtorEq, false_and, and_false, exists_false, or_false, false_or, exists_const, iEnumS, iStr, iList, iTup, iRng1, iEnum, tFor_eq, tLc_eq, List.cons.injEq, wipe, not_true_eq_false, not_false_eq_true, upd_same, HO.ins.injEq, HO.tup.injEq, HO.lst.injEq, ofS_eq, lk_nil, lk_cons, pu_nil, pu_cons, sizeLine_eq, Nat.reduceLT, Nat.reduceLeDiff, Nat.reduceEqDiff, Nat.le_refl, decide_true, decide_false, tPr, dget_us, dput_us, vv_nil, vv_cons, RS.pk_nil, pk_one, RS.pk_cons, inr_eq, tDisp, tPairs, tBoolOwn, rBoolOwn, tBM, rAppend, ty_list, ty_str, rEqOwn, iEnumT, RS.tCallS, tM1, tDc_eq, tLock, tLockE, iKeys, tListEnum, rUpdate, tMkX0, tMkX1, tXfv, gSub, rSetL, List.getD_cons_zero, List.getD_cons_succ, tBreak, tCMethS, ClX.tCVal, tXfa, tIxOwn, tInOwn, tPropG, tMethK, tMethP, tListGen, tDGet2, tDPop2, rNeD0, intA_i, intA_b, tRevL, sFldAug, tPm0, tPm1, tDIn, tDNotIn, tDNewK, RS.tMethS, tForK, tKM, tKC, tLcK, tKM2, tKC2, tMethStar, tKCK2, tLk, tAug, ipI, tDig, tLcX, tKMX, tKCX]
    intro p hp
    simp only [okB, Bool.and_eq_true, decide_eq_true_eq] at hok
    have hl : kvs.length ≤ 10000 := by rw [hs.len]; exact hok.1
    have hn := hn (by simp [PyData.depth])
    have sp := same_upd (o := HO.tup (["list", "tuple", "dict"].map V.ty)) hp
    refine isT_new (Ts := ["list", "tuple", "dict"]) (tyN_d h) hp ⟨_, rfl, ?_⟩
    rw [if_neg (by decide), if_neg (by simp; omega)]
    have h2 := sp _ _ h
    generalize upd H p (HO.tup (["list", "tuple", "dict"].map V.ty)) = G at sp h2 ⊢
    refine .inr ⟨kvs, h2, ?_⟩
    rw [if_neg (by simp; omega)]
    refine ⟨_, tyN_d h2, ?_⟩
    rw [if_pos (by decide)]
    refine ⟨a, _, h2, True.intro, fun od => ⟨od, .inl ⟨kvs, upd_same, ?_⟩⟩⟩
    refine lc_all kvs.length (fun _ => .bl true) (by rw [sizeLine_eq]; omega) (fun i G' lt s => ⟨s _ _ upd_same, lt⟩) (fun G' s => ⟨s _ _ upd_same, Nat.le_refl _⟩) (fun i G' x G'' K lt s yl k => ?_) (fun L G' hL s eL => ?_)
    · obtain ⟨rfl, k0, v0, hk, rfl⟩ := yl
      obtain ⟨x, v, d, f', e1, e2, _, _⟩ := hs.get lt
      rw [hk] at e1
      cases e1
      have hx : x.length ≤ 10000 := by simpa [okB] using (okKv_get hok.2 e2).1
      refine ⟨rfl, ?_⟩
      show _
      simp only [kV, tRet, tRetN, tSeq, C8.tCut, tNext, tAsg, gName, gNil, gCons, gTup, gFld, tIfS, tIf, tAndV, tOrV, tNotV, tAnd, tOr, tNot, tB, tTest, tOp, tUn, tCB, tCons, tNil, tVar, tC, tChain, tDrop, RS.tCallG, RS.tMethG, tMakeG, RS.tCallK, RS.tMakeK, tEqOwn, rI, rI0, rU, add_ii, add_ss, add_rr, mul_ii, mul_si, mul_ri, RS.eq_ii, RS.eq_ss, eq_bb, eq_nn, eq_sn, eq_ns, eq_in, eq_ni, eq_bn, eq_nb, eq_is, eq_si, eq_rr, ne_ii, ne_ss, ne_bb, ne_nn, ne_sn, ne_ns, ne_in, ne_ni, ne_is, ne_si, ne_rr, in_ss, in_r, nin_ss, nin_r, len_s, len_r, RS.ix_s, RS.ix_r, sl_s, sl_r, is_eq, tyN_n, tyN_b, tyN_i, tyN_s, tru_b, tru_i, tru_n, tSl, tPart, tNoPart, tPar, tPar3, tFmtZ, tFmt, tJs, tDGet, sDPut, sFld, tFld, tTup, tLst, tNever, isB,
  L2.start, List.map_cons, List.map_nil, List.length_cons, List.length_nil, Nat.reduceAdd, Nat.reduceSub, Nat.sub_self, List.replicate_zero, List.replicate_succ, List.append_nil, List.cons_append, List.nil_append, List.getElem?_cons_zero, List.getElem?_cons_succ, List.set_cons_zero, List.set_cons_succ, Option.some.injEq, exists_eq_left, exists_eq_left', exists_and_left, V.bl.injEq, V.int.injEq, V.str.injEq, V.ref.injEq, beq_self_eq_true, Bool.true_or, Bool.or_true, Bool.false_or, Bool.or_false, Bool.and_false, Bool.false_and, Bool.true_and, Bool.and_true, Bool.not_true, Bool.not_false, Bool.false_eq_true, if_true, if_false, ite_true, ite_false, true_and, and_true, and_assoc, String.reduceBEq, String.reduceEq, reduceIte, Bool.and_self, reduceCtorEq, false_and, and_false, exists_false, or_false, false_or, exists_const, iEnumS, iStr, iList, iTup, iRng1, iEnum, tFor_eq, tLc_eq, List.cons.injEq, wipe, not_true_eq_false, not_false_eq_true, upd_same, HO.ins.injEq, HO.tup.injEq, HO.lst.injEq, ofS_eq, lk_nil, lk_cons, pu_nil, pu_cons, sizeLine_eq, Nat.reduceLT, Nat.reduceLeDiff, Nat.reduceEqDiff, Nat.le_refl, decide_true, decide_false, tPr, dget_us, dput_us, vv_nil, vv_cons, RS.pk_nil, pk_one, RS.pk_cons, inr_eq, tDisp, tPairs, tBoolOwn, rBoolOwn, tBM, rAppend, ty_list, ty_str, rEqOwn, iEnumT, RS.tCallS, tM1, tDc_eq, tLock, tLockE, iKeys, tListEnum, rUpdate, tMkX0, tMkX1, tXfv, gSub, rSetL, List.getD_cons_zero, List.getD_cons_succ, tBreak, tCMethS, ClX.tCVal, tXfa, tIxOwn, tInOwn, tPropG, tMethK, tMethP, tListGen, tDGet2, tDPop2, rNeD0, intA_i, intA_b, tRevL, sFldAug, tPm0, tPm1, tDIn, tDNotIn, tDNewK, RS.tMethS, tForK, tKM, tKC, tLcK, tKM2, tKC2, tMethStar, tKCK2, tLk, tAug, ipI, tDig, tLcX, tKMX, tKCX]
      refine ⟨by omega, ?_⟩
      rw [decide_eq_true (by omega)]
      exact k _ (Same.refl _)
    · refine ⟨s _ _ upd_same, L, List.replicate kvs.length true, rfl, SqL.of ?_, ?_⟩
      · rw [upd_ne (fresh_lock hL).1, eL]
        congr 2
        rw [List.map_replicate]
        exact List.ext_getElem (by simp) (by simp)
      · walk_at "sx"
        have e : (List.replicate kvs.length true).all id = true := by simp [List.all_eq_true]
        rw [e]
        exact q _ (sp.trans (unlock h2 s))
end
theorem fnG_void {g : Wd} {k : Nat} {f : Addr} {fd : FuncData} {ps : List Str} {sp : Sp} (h : ∀ vs H Q E, ¬ sp vs H Q E) : FnG g k f fd ps sp :=
  ⟨fun vs H Q E z => (h vs H Q E z).elim, fun A outer s H args us vs Q E _ _ _ _ _ z => (h vs H Q E z).elim⟩
theorem kn_rec {g : Wd} {x : Str} {f : Addr} {fd : FuncData} {ps : List Str} {c : Nat} {sp : Nat → Sp} (m : g.mg x = some (.ref f)) (kp : PySem.W.keepIn g.K (.ref f) = true) (b : Binds g.K fd ps []) (h0 : ∀ vs H Q E, ¬ sp 0 vs H Q E)
    (hs : ∀ n, Kn g x (n + c) ps [] (sp n) → FnG g (n + c + 1) f fd ps (sp (n + 1))) : ∀ n, Kn g x (n + c) ps [] (sp n)
  | 0 => ⟨f, fd, [], m, kp, fnG_void h0, b, .nil⟩
  | n + 1 => ⟨f, fd, [], m, kp, (hs n (kn_rec m kp b h0 hs n)).mono (by omega), b, .nil⟩
/-- an item's data -/
theorem prs_get {H : Hp} {v : V} {d : PyData} {fp : List Addr} (h : Tr H v d fp) (ok : okB d = true) {j : Nat} {s x : V} (e : (prs H v)[j]? = some (s, x)) : ∃ d' f', Tr H x d' f' ∧ okB d' = true ∧ d'.depth < d.depth ∧ ∀ c ∈ f', c ∈ fp := by
  cases h with
  | @lst a xs ds fp h hs na =>
    have e' : (idx xs)[j]? = some (s, x) := by simpa [prs, h] using e
    obtain ⟨rfl, hx⟩ := idx_get e'
    obtain ⟨v, d, f', e1, e2, t, sub⟩ := hs.get (List.getElem?_eq_some_iff.mp hx).1
    rw [hx] at e1
    cases e1
    simp only [okB, Bool.and_eq_true] at ok
    refine ⟨d, f', t, okAll_get ok.2 e2, ?_, fun c hc => List.mem_cons_of_mem _ (sub c hc)⟩
    have := depth_all e2
    simp only [PyData.depth]; omega
  | @tup a xs ds fp h hs =>
    have e' : (idx xs)[j]? = some (s, x) := by simpa [prs, h] using e
    obtain ⟨rfl, hx⟩ := idx_get e'
    obtain ⟨v, d, f', e1, e2, t, sub⟩ := hs.get (List.getElem?_eq_some_iff.mp hx).1
    rw [hx] at e1
    cases e1
    simp only [okB, Bool.and_eq_true] at ok
    refine ⟨d, f', t, okAll_get ok.2 e2, ?_, sub⟩
    have := depth_all e2
    simp only [PyData.depth]; omega
  | @dct a kvs D fp h hs na nd =>
    have e' : (kvs.map fun kv => (kV kv.1, kv.2))[j]? = some (s, x) := by simpa [prs, h] using e
    rw [List.getElem?_map] at e'
    cases hk : kvs[j]? with
    | none => rw [hk] at e'; cases e'
    | some kv =>
      rw [hk] at e'
      cases e'
      obtain ⟨y, v, d, f', e1, e2, t, sub⟩ := hs.get (List.getElem?_eq_some_iff.mp hk).1
      rw [hk] at e1
      cases e1
      simp only [okB, Bool.and_eq_true] at ok
      refine ⟨d, f', t, (okKv_get ok.2 e2).2, ?_, fun c hc => List.mem_cons_of_mem _ (sub c hc)⟩
      have := depth_kv e2
      simp only [PyData.depth]; omega
  | _ => simp [prs] at e
section
variable {g : Wd} {f : Addr} {fd : FuncData}
theorem sc_wrong_path : FnScope ["value", "path", "step", "item", "found"] ["value", "path"] (defScope s_wrong_path) := ⟨rfl, rfl, rfl, by decide +kernel, rfl, by decide +kernel, by decide +kernel⟩
def sp_path (n : Nat) : Sp := S2 fun v p H Q _ => ∃ d fp a ps, Tr H v d fp ∧ okB d = true ∧ p = .ref a ∧ H a = some (.tup ps) ∧ ps.length + d.depth ≤ 20 ∧ d.depth < n ∧ ∀ H', Same H H' → Q .non H'
theorem ok_path (n : Nat) (F : Df g.K "wrong_path" "wrong_path" s_wrong_path f fd .none) (T : Txt g) (F_is_wrong_part : Kn g "is_wrong_part" 1 ["value", "depth"] [] sp_wrong) (F_items_of : Kn g "items_of" 1 ["value"] [] sp_items) (F_wrong_path : Kn g "wrong_path" (n + 1) ["value", "path"] [] (sp_path n)) : FnG g (n + 2) f fd ["value", "path"] (sp_path (n + 1)) := by
  refine F.ok sc_wrong_path (fun vs H Q E h => S2.len h) (fun cdv A outer s H vs Q E hr h => ?_)
  obtain ⟨v, _, rfl, d, fp, a, ps, hv, hok, rfl, ha, hl, hn, q⟩ := h
  refine ⟨_, (pss_mid (ps_if (pt_val (pe_callG F_is_wrong_part (hr.mono (by first | decide | omega)) tkD (pa_cons (pv 0) (pa_cons (pe_callB (c_len (K := g.K)) (by rfl) T.b_len bb_len (pa_cons (pv 1) pa_nil)) pa_nil)))) (pss_one (ps_ret (pv 1))) pss_nil)
      (pss_cons (ps_for psD rfl (i_list (K := g.K) (pe_callG F_items_of (hr.mono (by first | decide | omega)) tkD (pa_cons (pv 0) pa_nil))) (g_tup (K := g.K) (n := 2) (pgs_cons (pg_name (i := 2) sc_wrong_path.nd rfl (.inl rfl)) (pgs_cons (pg_name (i := 3) sc_wrong_path.nd rfl (.inl rfl)) pgs_nil))) (pss_cons (ps_set (i := 4) sc_wrong_path.nd rfl (Or.inl rfl) (pe_callG F_wrong_path (hr.mono (by first | decide | omega)) tkD (pa_cons (pv 3) (pa_cons (pe_op (o_add (K := g.K)) (pv 1) (pe_tup (pa_cons (pv 2) pa_nil))) pa_nil))))
      (pss_one (ps_if (pt_cmpR op_notN (pv 4) pe_non (nomark _)) (pss_one (ps_ret (pv 4))) pss_nil))))
      (pss_one (ps_ret pe_non)))), ?_⟩
  refine mid_one [some v, some (.ref a), none, none, none] (fun H1 => Same H H1) ?_ fun H1 s1 => ?_
  · walk_at "sx"
    refine .inl ⟨ps, .inr (SqT.of ha), _, _, rfl, d, fp, _, hv, hok, rfl, fun z => by omega, fun H' s' => ?_⟩
    walk_at "sx"
    exact s'
  walk_at "sx"
  refine ⟨_, rfl, d, fp, hv.same s1, hok, fun L ts H2 s2 _ eL pr => ?_⟩
  walk_at "sx"
  refine ⟨⟨_, SqL.of eL⟩, ?_⟩
  have s12 := s1.trans s2
  refine for_by ts.length (fun i σ H' => (∃ v2 v3 v4, σ = [some v, some (.ref a), v2, v3, v4]) ∧ Same H2 H') ⟨⟨_, _, _, rfl⟩, Same.refl _⟩ (fun i σ H3 lt P => ⟨_, ts[i], SqL.of (P.2 _ _ eL), List.getElem?_eq_getElem lt⟩) (fun σ H3 P => ⟨_, SqL.of (P.2 _ _ eL), Nat.le_refl _⟩) (fun i σ H3 x H4 lt P yl => ?_) (fun σ H3 P => ?_)
  · obtain ⟨⟨v2, v3, v4, rfl⟩, s3⟩ := P
    obtain ⟨rfl, hx⟩ := yl
    have hx := hx _ (SqL.of (s3 _ _ eL))
    have lp : i < (prs H1 v).length := by rw [← pr.1]; exact lt
    obtain ⟨st, it, hp⟩ : ∃ st it, (prs H1 v)[i]? = some (st, it) := ⟨_, _, List.getElem?_eq_getElem lp⟩
    obtain ⟨t, ht, et⟩ := pr.2 i st it hp
    rw [ht] at hx
    obtain rfl : V.ref t = x := Option.some.inj hx
    obtain ⟨d', f', hd', ok', dl, _⟩ := prs_get (hv.same s1) hok hp
    have et3 := s3 _ _ et
    walk_at "sx"
    refine ⟨_, SqT.of et3, rfl, ?_⟩
    walk_at "sx"
    intro u hu
    have su := same_upd (o := HO.tup [st]) hu
    have a3 := su _ _ (s3 _ _ (s12 _ _ ha))
    have s23 := s2.trans s3
    have go : ∀ (b : Addr) (G : Hp), Same (upd H4 u (HO.tup [st])) G → G b = some (.tup (ps ++ [st])) → sp_path n [it, .ref b] G (fun x H1 => if (!decide (x = V.non)) = true then Q x H1 else (∃ x_1, some x = x_1) ∧ Same H2 H1) fun c d H' => E c d H' := fun b G sG hb =>
      ⟨_, _, rfl, d', f', b, _, hd'.same ((s23.trans su).trans sG), ok', rfl, hb, by simp; omega, by omega, fun H5 s5 => by show (if _ then _ else _); rw [if_neg (by simp)]; exact ⟨⟨_, rfl⟩, ((s3.trans su).trans sG).trans s5⟩⟩
    refine .inr ⟨a, u, ps, [st], rfl, rfl, SqT.of a3, SqT.of upd_same, by rw [sizeLine_eq]; simp; omega, fun e => ?_, (fun _ e => nomatch e), fun _ _ b hb => ?_⟩
    · subst e
      have := go u _ (Same.refl _) upd_same
      simpa using this
    · have := go b _ (same_upd hb) upd_same
      simpa using this
  · obtain ⟨⟨v2, v3, v4, rfl⟩, s3⟩ := P
    walk_at "sx"
    exact q _ (s12.trans s3)
end
set_option maxHeartbeats 1000000
/-- the tables of the notation -/
structure TxN (g : Wd) (AE : Addr) : Prop extends Txt g where
  c_ESCAPES : Gv g "ESCAPES" (.ref AE)
  kE : ∃ es n, KDict g.K g.w AE es n
  e34 : KDct g.K g.w AE (S [34]) (.str (S [92, 34]))
  e92 : KDct g.K g.w AE (S [92]) (.str (S [92, 92]))
  e10 : KDct g.K g.w AE (S [10]) (.str (S [92, 110]))
  eN : ∀ c : Nat, PySem.W.nsIn g.K AE (S [c]) = some none ∨ c = 34 ∨ c = 92 ∨ c = 10
theorem join_flat (bs : List (List Nat)) : Txt.join (Str.ofString "") (bs.map S) = S bs.flatten := by
  rw [show (Str.ofString "") = S [] from by decide +kernel, SX.join_S]
  congr 1
  induction bs with
  | nil => rfl
  | cons b bs ih =>
    cases bs with
    | nil => simp [TL.joinL]
    | cons c cs => simp [TL.joinL] at ih ⊢; exact ih
theorem esc1_len (c : Nat) : (esc c).length ≤ 2 := by unfold esc; split <;> (try split) <;> (try split) <;> simp
theorem flat_esc_len : ∀ l : List Nat, (l.flatMap esc).length ≤ 2 * l.length
  | [] => by simp
  | c :: l => by
    have h1 := esc1_len c
    have h2 := flat_esc_len l
    simp only [List.flatMap_cons, List.length_append, List.length_cons]; omega
theorem sum_esc : ∀ l : List Nat, ((l.map fun c => S (esc c)).map (·.length)).sum = (l.flatMap esc).length
  | [] => by simp
  | c :: l => by
    have h := sum_esc l
    simp only [List.map_cons, List.sum_cons, List.flatMap_cons, List.length_append, S_len, h]
section
variable {g : Wd} {f : Addr} {fd : FuncData} {AE : Addr}
theorem sc_string_notation : FnScope ["text", "sign"] ["text"] (defScope s_string_notation) := ⟨rfl, rfl, rfl, by decide +kernel, rfl, by decide +kernel, by decide +kernel⟩
def sp_snote : Sp := S1 fun v H Q _ => ∃ x, v = .str x ∧ x.length ≤ 10000 ∧ ∀ H', Same H H' → Q (.str (sno x)) H'
theorem ok_snote (F : Df g.K "string_notation" "string_notation" s_string_notation f fd .none) (T : TxN g AE) : FnG g 1 f fd ["text"] sp_snote := by
  refine F.ok sc_string_notation (fun vs H Q E h => S1.len h) (fun cdv A outer s H vs Q E hr h => ?_)
  obtain ⟨_, rfl, x, rfl, hx, q⟩ := h
  obtain ⟨es, n, KE⟩ := T.kE
  refine ⟨_, (pss_one (ps_ret (pe_op (o_add (K := g.K)) (pe_op (o_add (K := g.K)) pe_str (pe_join pe_str (pe_lc (own := [("sign", 1)]) (tt := tYes) rfl sc_string_notation.nd (pi_str (pv 0)) (blkOk_by (own := [("sign", 1)]) (N := ["text", "sign"]) (sc := defScope s_string_notation) (by decide +kernel)) (fun _ _ _ _ _ => (pg_name (i := 1) sc_string_notation.nd rfl (.inl rfl))) (fun _ _ _ _ _ => pts_nil) (fun _ _ _ _ _ => (pe_ifExp (pt_cmpR (o_inN KE) (pv 1) (e_g T.c_ESCAPES) (by rfl)) (pe_ix (show IxR _ (rIxD g.K g.w) from ix_kdict) (e_g T.c_ESCAPES) (pv 1) (fun _ _ => rfl)) (pv 1)))))) pe_str))), ?_⟩
  walk_at "sx"
  refine ⟨⟨_, rfl⟩, ?_⟩
  have xl : x.cps.toList.length = x.length := by simp [Str.length]
  refine lc_all x.cps.toList.length (fun i => .str (S (esc (x.cps.toList[i]?.getD 0)))) (by rw [sizeLine_eq, xl]; omega) (fun i G lt s => by simpa [Its] using lt) (fun G s => by simp [Its]) (fun i G z G' K lt s yl k => ?_) (fun L G hL s eL => ?_)
  · obtain ⟨rfl, c, hc, rfl⟩ := yl
    have hc' : x.cps.toList[i]? = some c := by simpa using hc
    rw [hc'] at k
    walk_at "sx"
    show rInN g.K AE (.str (S [c])) (.ref AE) G' _
    by_cases c34 : c = 34
    · subst c34
      obtain ⟨es', n', u, l1, l2, l3, l4⟩ := T.e34
      exact ⟨_, _, rfl, rfl, l3, _, rfl, by rw [if_pos (by simp)]; exact ⟨_, _, _, rfl, rfl, T.e34, k _ (Same.refl _)⟩⟩
    by_cases c92 : c = 92
    · subst c92
      obtain ⟨es', n', u, l1, l2, l3, l4⟩ := T.e92
      exact ⟨_, _, rfl, rfl, l3, _, rfl, by rw [if_pos (by simp)]; exact ⟨_, _, _, rfl, rfl, T.e92, k _ (Same.refl _)⟩⟩
    by_cases c10 : c = 10
    · subst c10
      obtain ⟨es', n', u, l1, l2, l3, l4⟩ := T.e10
      exact ⟨_, _, rfl, rfl, l3, _, rfl, by rw [if_pos (by simp)]; exact ⟨_, _, _, rfl, rfl, T.e10, k _ (Same.refl _)⟩⟩
    have h := (T.eN c).resolve_right (by simp [c34, c92, c10])
    refine ⟨_, _, rfl, rfl, h, _, rfl, ?_⟩
    rw [if_neg (by simp)]
    have := k G' (Same.refl _)
    simp only [Option.getD_some, esc, if_neg c34, if_neg c92, if_neg c10] at this
    exact this
  · have em : (List.range x.cps.toList.length).map (fun i => V.str (S (esc (x.cps.toList[i]?.getD 0)))) = (x.cps.toList.map fun c => S (esc c)).map V.str := by
      refine List.ext_getElem (by simp) fun i h1 h2 => ?_
      simp at h1 h2
      simp [h1]
    rw [em] at eL
    have fl := flat_esc_len x.cps.toList
    rw [xl] at fl
    have jn : Txt.join (Str.ofString "") (x.cps.toList.map fun c => S (esc c)) = S (x.cps.toList.flatMap esc) := by
      have := join_flat (x.cps.toList.map esc)
      rw [List.map_map] at this
      rw [List.flatMap_def]
      exact this
    refine ⟨L, rfl, _, .inl (SqL.of eL), ?_⟩
    have e0 : (Str.ofString "").length = 0 := by decide +kernel
    rw [jn, sum_esc, e0, Nat.mul_zero]
    have e1 : (Str.ofString "\"").length = 1 := by decide +kernel
    simp only [Str.length_append, S_len, e1]
    refine ⟨by omega, by omega, by omega, ?_⟩
    have : Str.ofString "\"" ++ S (x.cps.toList.flatMap esc) ++ Str.ofString "\"" = sno x := by
      unfold sno
      rw [show Str.ofString "\"" = S [34] from by decide +kernel, S_cat, S_cat]
      rfl
    rw [this]
    exact q _ s
end
theorem esc_tab {K : PySem.W.Frag} {w : World} {A : Addr} {h1 h2 h3 : Int} {k1 k2 k3 u1 u2 u3 : Tok} {n : Nat} (lk : K.lookup A = some ⟨.type "dict", none, .dict #[⟨h1, .str "\"" k1, .str "\\\"" u1⟩, ⟨h2, .str "\\" k2, .str "\\\\" u2⟩, ⟨h3, .str "\n" k3, .str "\\n" u3⟩] n, #[]⟩)
    (e1 : h1 = PyData.keyHash w.params "\"") (e2 : h2 = PyData.keyHash w.params "\\") (e3 : h3 = PyData.keyHash w.params "\n") (lo : (A == sysModules) = false) :
    (∃ es n, KDict K w A es n) ∧ KDct K w A (S [34]) (.str (S [92, 34])) ∧ KDct K w A (S [92]) (.str (S [92, 92])) ∧ KDct K w A (S [10]) (.str (S [92, 110])) ∧ ∀ c : Nat, PySem.W.nsIn K A (S [c]) = some none ∨ c = 34 ∨ c = 92 ∨ c = 10 := by
  have kl : PySem.W.KeysLit w.params (#[⟨h1, .str "\"" k1, .str "\\\"" u1⟩, ⟨h2, .str "\\" k2, .str "\\\\" u2⟩, ⟨h3, .str "\n" k3, .str "\\n" u3⟩] : Array DictEntry).toList := ⟨⟨_, _, rfl, e1⟩, ⟨_, _, rfl, e2⟩, ⟨_, _, rfl, e3⟩, trivial⟩
  have s1 : ("\"" : Str) = S [34] := by decide +kernel
  have s2 : ("\\" : Str) = S [92] := by decide +kernel
  have s3 : ("\n" : Str) = S [10] := by decide +kernel
  have t1 : ("\\\"" : Str) = S [92, 34] := by decide +kernel
  have t2 : ("\\\\" : Str) = S [92, 92] := by decide +kernel
  have t3 : ("\\n" : Str) = S [92, 110] := by decide +kernel
  have ns : ∀ z : Str, PySem.W.nsIn K A z = if S [34] = z then some (some (.str (S [92, 34]) u1)) else if S [92] = z then some (some (.str (S [92, 92]) u2)) else if S [10] = z then some (some (.str (S [92, 110]) u3)) else some none := fun z => by
    unfold PySem.W.nsIn
    rw [lk, s1, s2, s3, t1, t2, t3]
    simp only [List.find?_cons, List.find?_nil, Value.isStr, List.any_cons, List.any_nil]
    have tt : ∀ a : Nat, S [a] = z → (S [a] == z) = true := fun a h => beq_iff_eq.mpr h
    have ff : ∀ a : Nat, ¬ S [a] = z → (S [a] == z) = false := fun a h => by
      cases e : (S [a] == z) with
      | false => rfl
      | true => exact absurd (beq_iff_eq.mp e) h
    by_cases c1 : S [34] = z
    · rw [if_pos c1, tt 34 c1]
    · rw [if_neg c1, ff 34 c1]
      by_cases c2 : S [92] = z
      · rw [if_pos c2, tt 92 c2]
      · rw [if_neg c2, ff 92 c2]
        by_cases c3 : S [10] = z
        · rw [if_pos c3, tt 10 c3]
        · rw [if_neg c3, ff 10 c3]
          rfl
  refine ⟨⟨_, _, lk, kl, lo⟩, ⟨_, _, _, lk, kl, by rw [ns, if_pos rfl], _, rfl⟩, ⟨_, _, _, lk, kl, by rw [ns, if_neg (by decide +kernel), if_pos rfl], _, rfl⟩, ⟨_, _, _, lk, kl, by rw [ns, if_neg (by decide +kernel), if_neg (by decide +kernel), if_pos rfl], _, rfl⟩, fun c => ?_⟩
  rw [ns]
  by_cases c1 : c = 34
  · exact .inr (.inl c1)
  by_cases c2 : c = 92
  · exact .inr (.inr (.inl c2))
  by_cases c3 : c = 10
  · exact .inr (.inr (.inr c3))
  have ne : ∀ a : Nat, c ≠ a → ¬ S [a] = S [c] := fun a n e => n (by simpa using (S_inj e).symm)
  rw [if_neg (ne 34 c1), if_neg (ne 92 c2), if_neg (ne 10 c3)]
  exact .inl rfl
theorem piled_le {ts : List Str} : piled ts ≤ (Str.join ", " ts).length + 2 := by
  by_cases e : ts = []
  · subst e; exact Nat.zero_le _
  · have h := join_length_add ts e
    omega
theorem piled_eq : ∀ ts : List Str, piled ts = (ts.map (·.length)).sum + ts.length * 2
  | [] => by simp [piled]
  | t :: ts => by
    have h := piled_eq ts
    simp only [piled, List.map_cons, List.sum_cons, List.length_cons] at h ⊢
    omega
theorem le_sum : ∀ {l : List Nat} {n : Nat}, n ∈ l → n ≤ l.sum
  | x :: l, n, h => by
    rcases List.mem_cons.mp h with rfl | h
    · simp
    · have := le_sum h
      simp only [List.sum_cons]; omega
theorem len_mem {ts : List Str} {t : Str} (h : t ∈ ts) : t.length ≤ (Str.join ", " ts).length := by
  have h1 := piled_le (ts := ts)
  rw [piled_eq] at h1
  have h2 : t.length ≤ (ts.map (·.length)).sum := le_sum (List.mem_map_of_mem h)
  have h3 : 1 ≤ ts.length := List.length_pos_of_mem h
  omega
theorem joinC (xs : List Str) : Txt.join (Str.ofString ", ") xs = Str.join ", " xs := StrLaws.glued_eq_join _ _
section
variable {g : Wd} {f : Addr} {fd : FuncData} {AE : Addr}
theorem sc_value_notation : FnScope ["value", "item", "key"] ["value"] (defScope s_value_notation) := ⟨rfl, rfl, rfl, by decide +kernel, rfl, by decide +kernel, by decide +kernel⟩
def sp_vnote (n : Nat) : Sp := S1 fun v H Q _ => ∃ d fp, Tr H v d fp ∧ okB d = true ∧ d.depth < n ∧ (note d).length ≤ 1000000 ∧ ∀ H', Same H H' → Q (.str (note d)) H'
/-- the lists' and tuples' way -/
theorem note_items {n : Nat} {H H1 : Hp} {Qf : VK} {J : It} {xs : List V} {ds : List PyData} {fp : List Addr} {σ : L2.St} {W : WX} (sl : Nat) (hw : ∀ x : V, wipe ((wipe σ [sl]).set sl (some x)) [sl] = wipe σ [sl]) (hv : ∀ x : V, ((wipe σ [sl]).set sl (some x))[sl]? = some (some x)) (sm : Same H H1) (hs : TrL H xs ds fp) (ok : okAll ds = true) (hl : ds.length ≤ 10000) (hd : PyData.depthAll ds < n) (hz : (Str.join ", " (noteAll ds)).length ≤ 1000000)
    (go : ∀ i G, i < xs.length → Same H1 G → J.go i G) (stop : ∀ G, Same H1 G → J.stop xs.length G) (yl : ∀ i G x G', i < xs.length → Same H1 G → J.yld i G x G' → G' = G ∧ xs[i]? = some x)
    (q : ∀ (L : Addr) (G : Hp), Same H1 G → G L = some (.lst ((noteAll ds).map V.str)) → Qf (.ref L) G) :
    LcB J (gName sl) tYes (RS.tCallG (sp_vnote n) [] W (tCons (tVar sl) tNil)) [sl] σ H1 Qf := by
  have ln := hs.len
  refine lc_all xs.length (fun i => .str (note (ds[i]?.getD .none))) (by rw [sizeLine_eq]; omega) go stop (fun i G x G' K lt s y k => ?_) (fun L G hL s eL => ?_)
  · obtain ⟨rfl, hx⟩ := yl i G x G' lt s y
    obtain ⟨v, d, f', e1, e2, t, _⟩ := hs.get lt
    rw [hx] at e1
    cases e1
    refine ⟨hw x, x, hv x, ?_⟩
    have b1 := depth_all e2
    have b2 : (note d).length ≤ (Str.join ", " (noteAll ds)).length := len_mem (by rw [noteAll_map]; exact List.mem_map_of_mem (List.mem_of_getElem? e2))
    refine ⟨_, rfl, d, f', t.same (sm.trans s), okAll_get ok e2, by omega, by omega, fun H' s' => ?_⟩
    have := k H' s'
    rw [e2] at this
    exact this
  · have e : (List.range xs.length).map (fun i => V.str (note (ds[i]?.getD .none))) = (noteAll ds).map V.str := by
      rw [ln, noteAll_map]
      refine List.ext_getElem (by simp) fun i h1 h2 => ?_
      simp at h1 h2
      simp [h1]
    exact q L G s (by rw [eL, e])
theorem ok_vnote (n : Nat) (F : Df g.K "value_notation" "value_notation" s_value_notation f fd .none) (T : Txt g) (F_string_notation : Kn g "string_notation" 1 ["text"] [] sp_snote) (F_value_notation : Kn g "value_notation" (n + 1) ["value"] [] (sp_vnote n)) : FnG g (n + 2) f fd ["value"] (sp_vnote (n + 1)) := by
  refine F.ok sc_value_notation (fun vs H Q E h => S1.len h) (fun cdv A outer s H vs Q E hr h => ?_)
  obtain ⟨v, rfl, d, fp, hv, hok, hn, hz, q⟩ := h
  refine ⟨_, (pss_cons (ps_if (pt_val (pe_callB (c_is "str") (by rfl) T.b_isinstance bb_isinstance (pa_cons (pv 0) (pa_cons (pe_bltn (v := .ty "str") rfl T.b_str bb_str rfl) pa_nil)))) (pss_one (ps_ret (pe_callG F_string_notation (hr.mono (by first | decide | omega)) tkD (pa_cons (pv 0) pa_nil)))) pss_nil)
      (pss_cons (ps_if (pt_val (pe_callB (c_is "list") (by rfl) T.b_isinstance bb_isinstance (pa_cons (pv 0) (pa_cons (pe_bltn (v := .ty "list") rfl T.b_list bb_list rfl) pa_nil)))) (pss_one (ps_ret (pe_op (o_add (K := g.K)) (pe_op (o_add (K := g.K)) pe_str (pe_join pe_str (pe_lc (own := [("item", 1)]) (tt := tYes) rfl sc_value_notation.nd (pi_or (i_list (K := g.K) (pv 0)) (i_tup (K := g.K) (pv 0))) (blkOk_by (own := [("item", 1)]) (N := ["value", "item", "key"]) (sc := defScope s_value_notation) (by decide +kernel)) (fun _ _ _ _ _ => (pg_name (i := 1) sc_value_notation.nd rfl (.inl rfl))) (fun _ _ _ _ _ => pts_nil) (fun _ _ _ _ _ => (pe_callG F_value_notation (Rm.mono (Rm.mk hr.room hr.gd) (by first | decide | omega)) L2.takes0 (pa_cons (pv 1) pa_nil)))))) pe_str))) pss_nil)
      (pss_cons (ps_if (pt_val (pe_callB (c_is "tuple") (by rfl) T.b_isinstance bb_isinstance (pa_cons (pv 0) (pa_cons (pe_bltn (v := .ty "tuple") rfl T.b_tuple bb_tuple rfl) pa_nil)))) (pss_one (ps_ret (pe_op (o_add (K := g.K)) (pe_op (o_add (K := g.K)) pe_str (pe_join pe_str (pe_lc (own := [("item", 1)]) (tt := tYes) rfl sc_value_notation.nd (pi_or (i_list (K := g.K) (pv 0)) (i_tup (K := g.K) (pv 0))) (blkOk_by (own := [("item", 1)]) (N := ["value", "item", "key"]) (sc := defScope s_value_notation) (by decide +kernel)) (fun _ _ _ _ _ => (pg_name (i := 1) sc_value_notation.nd rfl (.inl rfl))) (fun _ _ _ _ _ => pts_nil) (fun _ _ _ _ _ => (pe_callG F_value_notation (Rm.mono (Rm.mk hr.room hr.gd) (by first | decide | omega)) L2.takes0 (pa_cons (pv 1) pa_nil)))))) (pe_ifExp (pt_cmpR (o_eq (K := g.K) hr) (pe_callB (c_len (K := g.K)) (by rfl) T.b_len bb_len (pa_cons (pv 0) pa_nil)) pe_int (nomark _)) pe_str pe_str)))) pss_nil)
      (pss_cons (ps_if (pt_val (pe_callB (c_is "dict") (by rfl) T.b_isinstance bb_isinstance (pa_cons (pv 0) (pa_cons (pe_bltn (v := .ty "dict") rfl T.b_dict bb_dict rfl) pa_nil)))) (pss_one (ps_ret (pe_op (o_add (K := g.K)) (pe_op (o_add (K := g.K)) pe_str (pe_join pe_str (pe_lock (pe_lc (own := [("key", 2)]) (tt := tYes) rfl sc_value_notation.nd (pi_keys (pv 0)) (blkOk_by (own := [("key", 2)]) (N := ["value", "item", "key"]) (sc := defScope s_value_notation) (by decide +kernel)) (fun _ _ _ _ _ => (pg_name (i := 2) sc_value_notation.nd rfl (.inl rfl))) (fun _ _ _ _ _ => pts_nil) (fun _ _ _ _ _ => (pe_op (o_add (K := g.K)) (pe_op (o_add (K := g.K)) (pe_callG F_string_notation (Rm.mono (Rm.mk hr.room hr.gd) (by first | decide | omega)) L2.takes0 (pa_cons (pv 2) pa_nil)) pe_str) (pe_callG F_value_notation (Rm.mono (Rm.mk hr.room hr.gd) (by first | decide | omega)) L2.takes0 (pa_cons (pe_dget (hu_of (Rm.mk hr.room hr.gd).room) (pv 0) (pv 2) (fun _ _ => rfl)) pa_nil)))))))) pe_str))) pss_nil)
      (pss_one (ps_ret (pe_callTy c_strA (by rfl) T.b_str bb_str (pa_cons (pv 0) pa_nil)))))))), ?_⟩
  cases hv with
  | non =>
    walk_at "sx"
    have := q H (Same.refl _)
    simp only [note] at this
    exact .inr (.inl ⟨rfl, this⟩)
  | bl b =>
    walk_at "sx"
    have := q H (Same.refl _)
    simp only [note] at this
    exact .inr (.inr ⟨b, rfl, this⟩)
  | int i =>
    walk_at "sx"
    have hi : i.natAbs < 10 ^ 100 := by simpa [okB] using hok
    have := q H (Same.refl _)
    simp only [note] at this
    exact .inl ⟨i, rfl, (len_100 hi).1, this⟩
  | str x =>
    walk_at "sx"
    have hx : x.length ≤ 10000 := by simpa [okB] using hok
    exact ⟨_, rfl, x, rfl, hx, fun H' s => by have := q H' s; simp only [note] at this; exact this⟩
  | @lst a xs ds fp h hs na =>
    simp only [tyN_l h, tRet, tRetN, tSeq, C8.tCut, tNext, tAsg, gName, gNil, gCons, gTup, gFld, tIfS, tIf, tAndV, tOrV, tNotV, tAnd, tOr, tNot, tB, tTest, tOp, tUn, tCB, tCons, tNil, tVar, tC, tChain, tDrop, RS.tCallG, RS.tMethG, tMakeG, RS.tCallK, RS.tMakeK, tEqOwn, rI, rI0, rU, add_ii, add_ss, add_rr, mul_ii, mul_si, mul_ri, RS.eq_ii, RS.eq_ss, eq_bb, eq_nn, eq_sn, eq_ns, eq_in, eq_ni, eq_bn, eq_nb, eq_is, eq_si, eq_rr, ne_ii, ne_ss, ne_bb, ne_nn, ne_sn, ne_ns, ne_in, ne_ni, ne_is, ne_si, ne_rr, in_ss, in_r, nin_ss, nin_r, len_s, len_r, RS.ix_s, RS.ix_r, sl_s, sl_r, is_eq, tyN_n, tyN_b, tyN_i, tyN_s, tru_b, tru_i, tru_n, tSl, tPart, tNoPart, tPar, tPar3, tFmtZ, tFmt, tJs, tDGet, sDPut, sFld, tFld, tTup, tLst, tNever, isB,
  L2.start, List.map_cons, List.map_nil, List.length_cons, List.length_nil, Nat.reduceAdd, Nat.reduceSub, Nat.sub_self, List.replicate_zero, List.replicate_succ, List.append_nil, List.cons_append, List.nil_append, List.getElem?_cons_zero, List.getElem?_cons_succ, List.set_cons_zero, List.set_cons_succ, Option.some.injEq, exists_eq_left, exists_eq_left', exists_and_left, V.bl.injEq, V.int.injEq, V.str.injEq, V.ref.injEq, beq_self_eq_true, Bool.true_or, Bool.or_true, Bool.false_or, Bool.or_false, Bool.and_false, Bool.false_and, Bool.true_and, Bool.and_true, Bool.not_true, Bool.not_false, Bool.false_eq_true, if_true, if_false, ite_true, ite_false, true_and, and_true, and_assoc, String.reduceBEq, String.reduceEq, reduceIte, Bool.and_self, reduceCtorEq, false_and, and_false, exists_false, or_false, false_or, exists_const, iEnumS, iStr, iList, iTup, iRng1, iEnum, tFor_eq, tLc_eq, List.cons.injEq, wipe, not_true_eq_false, not_false_eq_true, upd_same, HO.ins.injEq, HO.tup.injEq, HO.lst.injEq, ofS_eq, lk_nil, lk_cons, pu_nil, pu_cons, sizeLine_eq, Nat.reduceLT, Nat.reduceLeDiff, Nat.reduceEqDiff, Nat.le_refl, decide_true, decide_false, tPr, dget_us, dput_us, vv_nil, vv_cons, RS.pk_nil, pk_one, RS.pk_cons, inr_eq, tDisp, tPairs, tBoolOwn, rBoolOwn, tBM, rAppend, ty_list, ty_str, rEqOwn, iEnumT, RS.tCallS, tM1, tDc_eq, tLock, tLockE, iKeys, tListEnum, rUpdate, tMkX0, tMkX1, tXfv, gSub, rSetL, List.getD_cons_zero, List.getD_cons_succ, tBreak, tCMethS, ClX.tCVal, tXfa, tIxOwn, tInOwn, tPropG, tMethK, tMethP, tListGen, tDGet2, tDPop2, rNeD0, intA_i, intA_b, tRevL, sFldAug, tPm0, tPm1, tDIn, tDNotIn, tDNewK, RS.tMethS, tForK, tKM, tKC, tLcK, tKM2, tKC2, tMethStar, tKCK2, tLk, tAug, ipI, tDig, tLcX, tKMX, tKCX]
    simp only [okB, Bool.and_eq_true, decide_eq_true_eq] at hok
    simp only [note] at hz q
    simp only [Str.length_append] at hz
    have pl := piled_le (ts := noteAll ds)
    rw [piled_eq] at pl
    have e1 : (Str.ofString "[").length = 1 := by decide +kernel
    have e2 : (Str.ofString "]").length = 1 := by decide +kernel
    have e3 : (Str.ofString ", ").length = 2 := by decide +kernel
    refine ⟨⟨_, rfl⟩, .inl ⟨⟨xs, SqL.of h⟩, ?_⟩⟩
    refine note_items 1 (fun _ => rfl) (fun _ => rfl) (Same.refl _) hs hok.2 hok.1 (by simp only [PyData.depth] at hn; omega) (by omega) (fun i G lt sm => ⟨_, xs[i], SqL.of (sm _ _ h), List.getElem?_eq_getElem lt⟩) (fun G sm => ⟨_, SqL.of (sm _ _ h), Nat.le_refl _⟩) (fun i G x G' lt sm y => ⟨y.1, y.2 _ (SqL.of (sm _ _ h))⟩) (fun L G sm eL => ?_)
    refine ⟨L, rfl, noteAll ds, .inl (SqL.of eL), ?_⟩
    rw [joinC, e3]
    simp only [Str.length_append]
    exact ⟨by omega, by omega, by omega, q _ sm⟩
  | @tup a xs ds fp h hs =>
    simp only [tyN_t h, tRet, tRetN, tSeq, C8.tCut, tNext, tAsg, gName, gNil, gCons, gTup, gFld, tIfS, tIf, tAndV, tOrV, tNotV, tAnd, tOr, tNot, tB, tTest, tOp, tUn, tCB, tCons, tNil, tVar, tC, tChain, tDrop, RS.tCallG, RS.tMethG, tMakeG, RS.tCallK, RS.tMakeK, tEqOwn, rI, rI0, rU, add_ii, add_ss, add_rr, mul_ii, mul_si, mul_ri, RS.eq_ii, RS.eq_ss, eq_bb, eq_nn, eq_sn, eq_ns, eq_in, eq_ni, eq_bn, eq_nb, eq_is, eq_si, eq_rr, ne_ii, ne_ss, ne_bb, ne_nn, ne_sn, ne_ns, ne_in, ne_ni, ne_is, ne_si, ne_rr, in_ss, in_r, nin_ss, nin_r, len_s, len_r, RS.ix_s, RS.ix_r, sl_s, sl_r, is_eq, tyN_n, tyN_b, tyN_i, tyN_s, tru_b, tru_i, tru_n, tSl, tPart, tNoPart, tPar, tPar3, tFmtZ, tFmt, tJs, tDGet, sDPut, sFld, tFld, tTup, tLst, tNever, isB,
  L2.start, List.map_cons, List.map_nil, List.length_cons, List.length_nil, Nat.reduceAdd, Nat.reduceSub, Nat.sub_self, List.replicate_zero, List.replicate_succ, List.append_nil, List.cons_append, List.nil_append, List.getElem?_cons_zero, List.getElem?_cons_succ, List.set_cons_zero, List.set_cons_succ, Option.some.injEq, exists_eq_left, exists_eq_left', exists_and_left, V.bl.injEq, V.int.injEq, V.str.injEq, V.ref.injEq, beq_self_eq_true, Bool.true_or, Bool.or_true, Bool.false_or, Bool.or_false, Bool.and_false, Bool.false_and, Bool.true_and, Bool.and_true, Bool.not_true, Bool.not_false, Bool.false_eq_true, if_true, if_false, ite_true, ite_false, true_and, and_true, and_assoc, String.reduceBEq, String.reduceEq, reduceIte, Bool.and_self, reduceCtorEq, false_and, and_false, exists_false, or_false, false_or, exists_const, iEnumS, iStr, iList, iTup, iRng1, iEnum, tFor_eq, tLc_eq, List.cons.injEq, wipe, not_true_eq_false, not_false_eq_true, upd_same, HO.ins.injEq, HO.tup.injEq, HO.lst.injEq, ofS_eq, lk_nil, lk_cons, pu_nil, pu_cons, sizeLine_eq, Nat.reduceLT, Nat.reduceLeDiff, Nat.reduceEqDiff, Nat.le_refl, decide_true, decide_false, tPr, dget_us, dput_us, vv_nil, vv_cons, RS.pk_nil, pk_one, RS.pk_cons, inr_eq, tDisp, tPairs, tBoolOwn, rBoolOwn, tBM, rAppend, ty_list, ty_str, rEqOwn, iEnumT, RS.tCallS, tM1, tDc_eq, tLock, tLockE, iKeys, tListEnum, rUpdate, tMkX0, tMkX1, tXfv, gSub, rSetL, List.getD_cons_zero, List.getD_cons_succ, tBreak, tCMethS, ClX.tCVal, tXfa, tIxOwn, tInOwn, tPropG, tMethK, tMethP, tListGen, tDGet2, tDPop2, rNeD0, intA_i, intA_b, tRevL, sFldAug, tPm0, tPm1, tDIn, tDNotIn, tDNewK, RS.tMethS, tForK, tKM, tKC, tLcK, tKM2, tKC2, tMethStar, tKCK2, tLk, tAug, ipI, tDig, tLcX, tKMX, tKCX]
    simp only [okB, Bool.and_eq_true, decide_eq_true_eq] at hok
    simp only [note] at hz q
    simp only [Str.length_append] at hz
    have hl := hs.len
    have pl := piled_le (ts := noteAll ds)
    rw [piled_eq] at pl
    have e1 : (Str.ofString "(").length = 1 := by decide +kernel
    have e2 : (Str.ofString ")").length = 1 := by decide +kernel
    have e4 : (Str.ofString ",)").length = 2 := by decide +kernel
    have e3 : (Str.ofString ", ").length = 2 := by decide +kernel
    refine ⟨⟨_, rfl⟩, .inr ⟨⟨xs, SqT.of h⟩, ?_⟩⟩
    refine note_items 1 (fun _ => rfl) (fun _ => rfl) (Same.refl _) hs hok.2 hok.1 (by simp only [PyData.depth] at hn; omega) (by omega) (fun i G lt sm => ⟨_, xs[i], SqT.of (sm _ _ h), List.getElem?_eq_getElem lt⟩) (fun G sm => ⟨_, SqT.of (sm _ _ h), Nat.le_refl _⟩) (fun i G x G' lt sm y => ⟨y.1, y.2 _ (SqT.of (sm _ _ h))⟩) (fun L G sm eL => ?_)
    refine ⟨L, rfl, noteAll ds, .inl (SqL.of eL), ?_⟩
    rw [joinC, e3]
    simp only [Str.length_append]
    refine ⟨by omega, by omega, .inl ⟨xs, .inr (SqT.of (sm _ _ h)), ?_⟩⟩
    rw [hl]
    have q := q _ sm
    by_cases c1 : ds.length = 1
    · rw [if_pos (by simp [c1])]
      rw [if_pos (by simp [c1])] at q
      exact ⟨by omega, q⟩
    · rw [if_neg (by simp; omega)]
      rw [if_neg (by simp [c1])] at q
      exact ⟨by omega, q⟩
  | @dct a kvs D fp h hs na nd =>
    simp only [tyN_d h, tRet, tRetN, tSeq, C8.tCut, tNext, tAsg, gName, gNil, gCons, gTup, gFld, tIfS, tIf, tAndV, tOrV, tNotV, tAnd, tOr, tNot, tB, tTest, tOp, tUn, tCB, tCons, tNil, tVar, tC, tChain, tDrop, RS.tCallG, RS.tMethG, tMakeG, RS.tCallK, RS.tMakeK, tEqOwn, rI, rI0, rU, add_ii, add_ss, add_rr, mul_ii, mul_si, mul_ri, RS.eq_ii, RS.eq_ss, eq_bb, eq_nn, eq_sn, eq_ns, eq_in, eq_ni, eq_bn, eq_nb, eq_is, eq_si, eq_rr, ne_ii, ne_ss, ne_bb, ne_nn, ne_sn, ne_ns, ne_in, ne_ni, ne_is, ne_si, ne_rr, in_ss, in_r, nin_ss, nin_r, len_s, len_r, RS.ix_s, RS.ix_r, sl_s, sl_r, is_eq, tyN_n, tyN_b, tyN_i, tyN_s, tru_b, tru_i, tru_n, tSl, tPart, tNoPart, tPar, tPar3, tFmtZ, tFmt, tJs, tDGet, sDPut, sFld, tFld, tTup, tLst, tNever, isB,
  L2.start, List.map_cons, List.map_nil, List.length_cons, List.length_nil, Nat.reduceAdd, Nat.reduceSub, Nat.sub_self, List.replicate_zero, List.replicate_succ, List.append_nil, List.cons_append, List.nil_append, List.getElem?_cons_zero, List.getElem?_cons_succ, List.set_cons_zero, List.set_cons_succ, Option.some.injEq, exists_eq_left, exists_eq_left', exists_and_left, V.bl.injEq, V.int.injEq, V.str.injEq, V.ref.injEq, beq_self_eq_true, Bool.true_or, Bool.or_true, Bool.false_or, Bool.or_false, Bool.and_false, Bool.false_and, Bool.true_and, Bool.and_true, Bool.not_true, Bool.not_false, Bool.false_eq_true, if_true, if_false, ite_true, ite_false, true_and, and_true, and_assoc, String.reduceBEq, String.reduceEq, reduceIte, Bool.and_self, reduceCtorEq, false_and, and_false, exists_false, or_false, false_or, exists_const, iEnumS, iStr, iList, iTup, iRng1, iEnum, tFor_eq, tLc_eq, List.cons.injEq, wipe, not_true_eq_false, not_false_eq_true, upd_same, HO.ins.injEq, HO.tup.injEq, HO.lst.injEq, ofS_eq, lk_nil, lk_cons, pu_nil, pu_cons, sizeLine_eq, Nat.reduceLT, Nat.reduceLeDiff, Nat.reduceEqDiff, Nat.le_refl, decide_true, decide_false, tPr, dget_us, dput_us, vv_nil, vv_cons, RS.pk_nil, pk_one, RS.pk_cons, inr_eq, tDisp, tPairs, tBoolOwn, rBoolOwn, tBM, rAppend, ty_list, ty_str, rEqOwn, iEnumT, RS.tCallS, tM1, tDc_eq, tLock, tLockE, iKeys, tListEnum, rUpdate, tMkX0, tMkX1, tXfv, gSub, rSetL, List.getD_cons_zero, List.getD_cons_succ, tBreak, tCMethS, ClX.tCVal, tXfa, tIxOwn, tInOwn, tPropG, tMethK, tMethP, tListGen, tDGet2, tDPop2, rNeD0, intA_i, intA_b, tRevL, sFldAug, tPm0, tPm1, tDIn, tDNotIn, tDNewK, RS.tMethS, tForK, tKM, tKC, tLcK, tKM2, tKC2, tMethStar, tKCK2, tLk, tAug, ipI, tDig, tLcX, tKMX, tKCX]
    simp only [okB, Bool.and_eq_true, decide_eq_true_eq] at hok
    simp only [note] at hz q
    simp only [Str.length_append] at hz
    have hl := hs.len
    have pl := piled_le (ts := noteKv D)
    rw [piled_eq] at pl
    have e1 : (Str.ofString "{").length = 1 := by decide +kernel
    have e2 : (Str.ofString "}").length = 1 := by decide +kernel
    have e4 : (Str.ofString ": ").length = 2 := by decide +kernel
    have e3 : (Str.ofString ", ").length = 2 := by decide +kernel
    refine ⟨⟨_, rfl⟩, a, _, h, True.intro, fun od => ⟨od, .inl ⟨kvs, upd_same, ?_⟩⟩⟩
    have hlk : ∀ c o, c ≠ a → H c = some o → upd H a (.frz od (.dK kvs)) c = some o := fun c o n z => by rw [upd_ne n]; exact z
    have hs1 : TrD (upd H a (.frz od (.dK kvs))) kvs D fp := hs.but (p := a) (fun xs z => by rw [h] at z; cases z) hlk na
    refine lc_all kvs.length (fun i => .str (note ((D[i]?.getD (.none, .none)).1) ++ ": " ++ note ((D[i]?.getD (.none, .none)).2))) (by rw [sizeLine_eq]; omega) (fun i G lt sm => ⟨sm _ _ upd_same, lt⟩) (fun G sm => ⟨sm _ _ upd_same, Nat.le_refl _⟩) (fun i G x G' K lt sm y k => ?_) (fun L G hL sm eL => ?_)
    · obtain ⟨rfl, k0, v0, hk, rfl⟩ := y
      obtain ⟨x, v, d, f', e1, e2, t, _⟩ := hs1.get lt
      rw [hk] at e1
      cases e1
      have b1 := depth_kv e2
      have b3 : PyData.depthKv D < n := by simp only [PyData.depth] at hn; omega
      have b2 : (note (.str x) ++ ": " ++ note d).length ≤ (Str.join ", " (noteKv D)).length := len_mem (by rw [noteKv_map]; exact List.mem_map_of_mem (f := fun p : PyData × PyData => note p.1 ++ ": " ++ note p.2) (List.mem_of_getElem? e2))
      simp only [Str.length_append] at b2
      have ok2 := okKv_get hok.2 e2
      have hx : x.length ≤ 10000 := by simpa [okB] using ok2.1
      rw [e2] at k
      simp only [Option.getD_some, note] at k
      simp only [note] at b2
      refine ⟨rfl, ?_⟩
      simp only [kV, tRet, tRetN, tSeq, C8.tCut, tNext, tAsg, gName, gNil, gCons, gTup, gFld, tIfS, tIf, tAndV, tOrV, tNotV, tAnd, tOr, tNot, tB, tTest, tOp, tUn, tCB, tCons, tNil, tVar, tC, tChain, tDrop, RS.tCallG, RS.tMethG, tMakeG, RS.tCallK, RS.tMakeK, tEqOwn, rI, rI0, rU, add_ii, add_ss, add_rr, mul_ii, mul_si, mul_ri, RS.eq_ii, RS.eq_ss, eq_bb, eq_nn, eq_sn, eq_ns, eq_in, eq_ni, eq_bn, eq_nb, eq_is, eq_si, eq_rr, ne_ii, ne_ss, ne_bb, ne_nn, ne_sn, ne_ns, ne_in, ne_ni, ne_is, ne_si, ne_rr, in_ss, in_r, nin_ss, nin_r, len_s, len_r, RS.ix_s, RS.ix_r, sl_s, sl_r, is_eq, tyN_n, tyN_b, tyN_i, tyN_s, tru_b, tru_i, tru_n, tSl, tPart, tNoPart, tPar, tPar3, tFmtZ, tFmt, tJs, tDGet, sDPut, sFld, tFld, tTup, tLst, tNever, isB,
  L2.start, List.map_cons, List.map_nil, List.length_cons, List.length_nil, Nat.reduceAdd, Nat.reduceSub, Nat.sub_self, List.replicate_zero, List.replicate_succ, List.append_nil, List.cons_append, List.nil_append, List.getElem?_cons_zero, List.getElem?_cons_succ, List.set_cons_zero, List.set_cons_succ, Option.some.injEq, exists_eq_left, exists_eq_left', exists_and_left, V.bl.injEq, V.int.injEq, V.str.injEq, V.ref.injEq, beq_self_eq_true, Bool.true_or, Bool.or_true, Bool.false_or, Bool.or_false, Bool.and_false, Bool.false_and, Bool.true_and, Bool.and_true, Bool.not_true, Bool.not_false, Bool.false_eq_true, if_true, if_false, ite_true, ite_false, true_and, and_true, and_assoc, String.reduceBEq, String.reduceEq, reduceIte, Bool.and_self, reduceCtorEq, false_and, and_false, exists_false, or_false, false_or, exists_const, iEnumS, iStr, iList, iTup, iRng1, iEnum, tFor_eq, tLc_eq, List.cons.injEq, wipe, not_true_eq_false, not_false_eq_true, upd_same, HO.ins.injEq, HO.tup.injEq, HO.lst.injEq, ofS_eq, lk_nil, lk_cons, pu_nil, pu_cons, sizeLine_eq, Nat.reduceLT, Nat.reduceLeDiff, Nat.reduceEqDiff, Nat.le_refl, decide_true, decide_false, tPr, dget_us, dput_us, vv_nil, vv_cons, RS.pk_nil, pk_one, RS.pk_cons, inr_eq, tDisp, tPairs, tBoolOwn, rBoolOwn, tBM, rAppend, ty_list, ty_str, rEqOwn, iEnumT, RS.tCallS, tM1, tDc_eq, tLock, tLockE, iKeys, tListEnum, rUpdate, tMkX0, tMkX1, tXfv, gSub, rSetL, List.getD_cons_zero, List.getD_cons_succ, tBreak, tCMethS, ClX.tCVal, tXfa, tIxOwn, tInOwn, tPropG, tMethK, tMethP, tListGen, tDGet2, tDPop2, rNeD0, intA_i, intA_b, tRevL, sFldAug, tPm0, tPm1, tDIn, tDNotIn, tDNewK, RS.tMethS, tForK, tKM, tKC, tLcK, tKM2, tKC2, tMethStar, tKCK2, tLk, tAug, ipI, tDig, tLcX, tKMX, tKCX]
      refine ⟨_, rfl, x, rfl, hx, fun H' s' => ?_⟩
      dsimp only
      rw [add_ss]
      refine ⟨by rw [sizeLine_eq]; omega, v0, .inl ⟨kvs, .inr x, .inr ⟨od, s' _ _ (sm _ _ upd_same)⟩, rfl, (valV_at nd hk).symm⟩, _, rfl, d, f', t.same (sm.trans s'), ok2.2, by omega, by omega, fun H'' s'' => ?_⟩
      dsimp only
      rw [add_ss]
      exact ⟨by simp only [Str.length_append]; rw [sizeLine_eq]; omega, k H'' (s'.trans s'')⟩
    · have e : (List.range kvs.length).map (fun i => V.str (note ((D[i]?.getD (.none, .none)).1) ++ ": " ++ note ((D[i]?.getD (.none, .none)).2))) = (noteKv D).map V.str := by
        rw [hl, noteKv_map]
        refine List.ext_getElem (by simp) fun i h1 h2 => ?_
        simp at h1 h2
        simp [h1]
      have La := fresh_lock hL
      refine ⟨sm _ _ upd_same, L, rfl, noteKv D, .inl (SqL.of (by rw [upd_ne La.1, eL, e])), ?_⟩
      rw [joinC, e3]
      simp only [Str.length_append]
      exact ⟨by omega, by omega, by omega, q _ (unlock h sm)⟩
end
theorem TrL.snoc {H : Hp} {v : V} {d : PyData} {f2 : List Addr} (h : Tr H v d f2) : ∀ {vs : List V} {ds : List PyData} {f1 : List Addr}, TrL H vs ds f1 → TrL H (vs ++ [v]) (ds ++ [d]) (f1 ++ f2)
  | _, _, _, .nil => by simpa using TrL.cons h .nil
  | _, _, _, .cons h1 hs => by simpa [List.append_assoc] using TrL.cons h1 (TrL.snoc h hs)
theorem TrD.snoc {H : Hp} {x : Str} {v : V} {d : PyData} {f2 : List Addr} (h : Tr H v d f2) : ∀ {vs : List (Key × V)} {ds : List (PyData × PyData)} {f1 : List Addr}, TrD H vs ds f1 → TrD H (vs ++ [(.inr x, v)]) (ds ++ [(.str x, d)]) (f1 ++ f2)
  | _, _, _, .nil => by simpa using TrD.cons (x := x) h .nil
  | _, _, _, .cons h1 hs => by simpa [List.append_assoc] using TrD.cons h1 (TrD.snoc h hs)
/-- a new key is put behind -/
theorem putK_new {kvs : List (Key × V)} {k : Key} {v : V} (h : k ∉ kvs.map (·.1)) : putK kvs k v = kvs ++ [(k, v)] := by
  unfold putK
  rw [if_neg]
  intro z
  obtain ⟨p, hp, e⟩ := List.any_eq_true.mp z
  exact h (List.mem_map.mpr ⟨p, hp, by simpa using e⟩)
section
variable {g : Wd} {f : Addr} {fd : FuncData}
theorem sc_check_value : FnScope ["value", "path"] ["value"] (defScope s_check_value) := ⟨rfl, rfl, rfl, by decide +kernel, rfl, by decide +kernel, by decide +kernel⟩
theorem sc_is_value : FnScope ["value"] ["value"] (defScope s_is_value) := ⟨rfl, rfl, rfl, by decide +kernel, rfl, by decide +kernel, by decide +kernel⟩
theorem sc_is_key : FnScope ["value"] ["value"] (defScope s_is_key) := ⟨rfl, rfl, rfl, by decide +kernel, rfl, by decide +kernel, by decide +kernel⟩
def sp_iskey : Sp := S1 fun v H Q _ => ∃ x, v = .str x ∧ x.length ≤ 200 ∧ 1 ≤ x.length ∧ Q (.bl true) H
theorem ok_iskey (F : Df g.K "is_key" "is_key" s_is_key f fd .none) (T : Txt g) : FnG g 1 f fd ["value"] sp_iskey := by
  refine F.ok sc_is_key (fun vs H Q E h => S1.len h) (fun cdv A outer s H vs Q E hr h => ?_)
  obtain ⟨_, rfl, x, rfl, h1, h2, q⟩ := h
  refine ⟨_, (pss_one (ps_ret (pe_and (pe_callB (c_is "str") (by rfl) T.b_isinstance bb_isinstance (pa_cons (pv 0) (pa_cons (pe_bltn (v := .ty "str") rfl T.b_str bb_str rfl) pa_nil))) (pe_one (pe_chain op_le op_le pe_int (pe_callB (c_len (K := g.K)) (by rfl) T.b_len bb_len (pa_cons (pv 0) pa_nil)) (e_g T.c_MOST_KEY_values)))))), ?_⟩
  walk_at "sx"
  refine ⟨by omega, ?_⟩
  rw [if_pos (by simp; omega)]
  have e : decide (((x.length : Nat) : Int) ≤ 200) = true := by simp; omega
  rw [e]
  exact q
end
inductive Res (α : Type) where
  | bad (k : Nat)
  | ok (a : α) (k : Nat)
def Res.up {α : Type} (j : Nat) : Res α → Res α
  | .bad k => .bad (j + k)
  | .ok a k => .ok a (j + k)
def Res.map {α β : Type} (f : α → β) : Res α → Res β
  | .bad k => .bad k
  | .ok a k => .ok (f a) k
def isDig (c : Nat) : Bool := decide (48 ≤ c) && decide (c ≤ 57)
/-- a sign that stands for itself -/
def isP (c : Nat) : Bool := decide (32 ≤ c) && decide (c ≤ 126) && decide (c ≠ 37) && decide (c ≠ 34) && decide (c ≠ 92)
/-- a word that must stand here -/
def rex : List Nat → List Nat → Res Unit
  | [], _ => .ok () 0
  | w :: ws, [] => .bad 0
  | w :: ws, c :: r => if c = w then (rex ws r).up 1 else .bad 0
def isE (c : Nat) : Bool := decide (c = 34) || decide (c = 92) || decide (c = 110)
def une (c : Nat) : Nat := if c = 110 then 10 else c
/-- a string behind its first mark: at most m signs, and how many are read ahead of its last mark -/
def rq : Nat → List Nat → Res (List Nat)
  | 0, [] => .bad 0
  | 0, c :: _ => if c = 34 then .ok [] 0 else .bad 0
  | m + 1, [] => .bad 0
  | m + 1, c :: r => if c = 34 then .ok [] 0
    else if c = 92 then match r with
      | [] => .bad 1
      | e :: r' => if isE e = true then ((rq m r').map fun x => une e :: x).up 2 else .bad 1
    else if isP c = true then ((rq m r).map fun x => c :: x).up 1
    else .bad 0
def rstr (m : Nat) : List Nat → Res (List Nat)
  | [] => .bad 0
  | c :: r => if c = 34 then (rq m r).up 1 else .bad 0
/-- digits at the front, at most 100 -/
def digs (r : List Nat) : List Nat := (r.take 100).takeWhile isDig
def isD1 (c : Nat) : Bool := decide (49 ≤ c) && decide (c ≤ 57)
def valL (ds : List Nat) : Nat := ds.foldl (fun acc c => acc * 10 + (c - 48)) 0
def ri : List Nat → Res Int
  | [] => .bad 0
  | c :: r => if c = 45 then match r with
      | [] => .bad 1
      | e :: _ => if isD1 e = true then .ok (0 - (valL (digs r) : Int)) (1 + (digs r).length) else .bad 1
    else if c = 48 then .ok 0 1
    else if isD1 c = true then .ok (valL (digs (c :: r)) : Int) (digs (c :: r)).length
    else .bad 0
/-- items up to a bracket that closes them; j of them are read -/
def ritm (f : List Nat → Res PyData) (cl : Nat) : Nat → Nat → List Nat → Res (List PyData)
  | 0, _, _ => .bad 0
  | m + 1, j, r => match f r with
    | .bad k => .bad k
    | .ok d k => if ¬(cl = 41 ∧ j = 0) ∧ (r.drop k).head? = some cl then .ok [d] (k + 1)
      else match rex [44] (r.drop k) with
        | .bad i => .bad (k + i)
        | .ok _ _ => if (cl = 41 ∧ j = 0) ∧ (r.drop (k + 1)).head? = some cl then .ok [d] (k + 2)
          else match rex [32] (r.drop (k + 1)) with
            | .bad i => .bad (k + 1 + i)
            | .ok _ _ => ((ritm f cl m (j + 1) (r.drop (k + 2))).map fun ds => d :: ds).up (k + 2)
/-- the pairs of a dict -/
def rprs (f : List Nat → Res PyData) (L : Nat) : Nat → List (List Nat) → List Nat → Res (List (PyData × PyData))
  | 0, _, _ => .bad 0
  | m + 1, seen, r => match rstr L r with
    | .bad k => .bad k
    | .ok x k => if x ∈ seen then .bad k else match rex [34, 58, 32] (r.drop k) with
      | .bad i => .bad (k + i)
      | .ok _ _ => match f (r.drop (k + 3)) with
        | .bad i => .bad (k + 3 + i)
        | .ok d i => if (r.drop (k + 3 + i)).head? = some 125 then .ok [(.str (S x), d)] (k + 3 + i + 1)
          else match rex [44, 32] (r.drop (k + 3 + i)) with
            | .bad a => .bad (k + 3 + i + a)
            | .ok _ _ => ((rprs f L m (seen ++ [x]) (r.drop (k + 3 + i + 2))).map fun D => (.str (S x), d) :: D).up (k + 3 + i + 2)
/-- a word and what it stands for -/
def wrd (w : List Nat) (d : PyData) (r : List Nat) : Res PyData := (rex w r).map fun _ => d
/-- a value; n levels are left; L: the length of the whole text -/
def rv (L : Nat) : Nat → List Nat → Res PyData
  | _, [] => .bad 0
  | n, c :: r => if c = 34 then match rstr L (c :: r) with
      | .bad k => .bad k
      | .ok x k => .ok (.str (S x)) (k + 1)
    else if c = 91 ∨ c = 40 ∨ c = 123 then match n with
      | 0 => .bad 0
      | n + 1 =>
        if c = 123 then (if r.head? = some 125 then .ok (.dict []) 2 else ((rprs (rv L n) L r.length [] r).map PyData.dict).up 1)
        else if c = 91 then (if r.head? = some 93 then .ok (.list []) 2 else ((ritm (rv L n) 93 r.length 0 r).map PyData.list).up 1)
        else (if r.head? = some 41 then .ok (.tuple []) 2 else ((ritm (rv L n) 41 r.length 0 r).map PyData.tuple).up 1)
    else if c = 45 ∨ isDig c = true then (ri (c :: r)).map PyData.int
    else if c = 78 then wrd [78, 111, 110, 101] .none (c :: r)
    else if c = 84 then wrd [84, 114, 117, 101] (.bool true) (c :: r)
    else if c = 70 then wrd [70, 97, 108, 115, 101] (.bool false) (c :: r)
    else .bad 0
theorem rex_len : ∀ {w r : List Nat} {u : Unit} {k : Nat}, rex w r = .ok u k → k = w.length ∧ w.length ≤ r.length
  | [], r, u, k, h => by simp only [rex] at h; cases h; simp
  | w :: ws, [], u, k, h => by simp [rex] at h
  | w :: ws, c :: r, u, k, h => by
    simp only [rex] at h
    split at h
    · cases hx : rex ws r with
      | bad j => rw [hx] at h; cases h
      | ok a j =>
        rw [hx] at h
        simp only [Res.up] at h
        cases h
        have := rex_len hx
        simp; omega
    · cases h
theorem rq_len : ∀ {m : Nat} {r x : List Nat} {k : Nat}, rq m r = .ok x k → k < r.length ∧ (r.drop k).head? = some 34 ∧ x.length ≤ m ∧ x.length ≤ k
  | 0, [], x, k, h => by simp [rq] at h
  | 0, c :: r, x, k, h => by
    simp only [rq] at h
    split at h
    · rename_i e; cases h; simp [e]
    · cases h
  | m + 1, [], x, k, h => by simp [rq] at h
  | m + 1, c :: r, x, k, h => by
    simp only [rq] at h
    split at h
    · rename_i e; cases h; simp [e]
    · split at h
      · cases r with
        | nil => cases h
        | cons e r' =>
          simp only at h
          split at h
          · cases hx : rq m r' with
            | bad j => rw [hx] at h; cases h
            | ok a j =>
              rw [hx] at h
              simp only [Res.map, Res.up] at h
              cases h
              have := rq_len hx
              rw [show 2 + j = j + 1 + 1 from by omega]
              simp only [List.drop_succ_cons, List.length_cons]
              exact ⟨by omega, this.2.1, by omega, by omega⟩
          · cases h
      · split at h
        · cases hx : rq m r with
          | bad j => rw [hx] at h; cases h
          | ok a j =>
            rw [hx] at h
            simp only [Res.map, Res.up] at h
            cases h
            have := rq_len hx
            rw [show 1 + j = j + 1 from by omega]
            simp only [List.drop_succ_cons, List.length_cons]
            exact ⟨by omega, this.2.1, by omega, by omega⟩
        · cases h
theorem rstr_len {m : Nat} {r x : List Nat} {k : Nat} (h : rstr m r = .ok x k) : k < r.length ∧ (r.drop k).head? = some 34 ∧ x.length ≤ m ∧ x.length ≤ k ∧ 1 ≤ k := by
  cases r with
  | nil => simp [rstr] at h
  | cons c r =>
    simp only [rstr] at h
    split at h
    · cases hx : rq m r with
      | bad j => rw [hx] at h; cases h
      | ok a j =>
        rw [hx] at h
        simp only [Res.up] at h
        cases h
        have := rq_len hx
        rw [show 1 + j = j + 1 from by omega]
        simp only [List.drop_succ_cons, List.length_cons]
        exact ⟨by omega, this.2.1, by omega, by omega, by omega⟩
    · cases h
theorem digs_len (r : List Nat) : (digs r).length ≤ r.length ∧ (digs r).length ≤ 100 := by
  have h1 : (digs r).length ≤ (r.take 100).length := (List.takeWhile_sublist _).length_le
  rw [List.length_take] at h1
  omega
theorem digs_pos {c : Nat} {r : List Nat} (h : isDig c = true) : 1 ≤ (digs (c :: r)).length := by
  simp [digs, h]
theorem d1_dig {c : Nat} (h : isD1 c = true) : isDig c = true := by
  simp only [isD1, isDig, Bool.and_eq_true, decide_eq_true_eq] at *
  omega
theorem ri_len {r : List Nat} {i : Int} {k : Nat} (h : ri r = .ok i k) : 1 ≤ k ∧ k ≤ r.length := by
  cases r with
  | nil => simp [ri] at h
  | cons c r =>
    simp only [ri] at h
    split at h
    · cases r with
      | nil => cases h
      | cons e r' =>
        simp only at h
        split at h
        · cases h
          have := digs_len (e :: r')
          simp only [List.length_cons] at *
          omega
        · cases h
    · split at h
      · cases h; simp
      · split at h
        · rename_i d
          cases h
          have := digs_len (c :: r)
          exact ⟨digs_pos (d1_dig d), this.1⟩
        · cases h
theorem ritm_len {f : List Nat → Res PyData} {cl : Nat} (hf : ∀ r d k, f r = .ok d k → 1 ≤ k ∧ k ≤ r.length) : ∀ {m j : Nat} {r : List Nat} {ds : List PyData} {k : Nat}, ritm f cl m j r = .ok ds k → 1 ≤ k ∧ k ≤ r.length ∧ 1 ≤ ds.length ∧ ds.length ≤ m
  | 0, j, r, ds, k, h => by simp [ritm] at h
  | m + 1, j, r, ds, k, h => by
    simp only [ritm] at h
    cases hx : f r with
    | bad i => rw [hx] at h; cases h
    | ok d i =>
      rw [hx] at h
      simp only at h
      have l1 := hf _ _ _ hx
      split at h
      · rename_i c
        cases h
        have : (r.drop i).length ≠ 0 := fun z => by rw [List.length_eq_zero_iff.mp z] at c; simp at c
        rw [List.length_drop] at this
        simp; omega
      · cases hy : rex [44] (r.drop i) with
        | bad a => rw [hy] at h; cases h
        | ok u a =>
          rw [hy] at h
          simp only at h
          have l2 := rex_len hy
          rw [List.length_drop] at l2
          simp only [List.length_cons, List.length_nil] at l2
          split at h
          · rename_i c
            cases h
            have : (r.drop (i + 1)).length ≠ 0 := fun z => by rw [List.length_eq_zero_iff.mp z] at c; simp at c
            rw [List.length_drop] at this
            simp; omega
          · cases hz : rex [32] (r.drop (i + 1)) with
            | bad a => rw [hz] at h; cases h
            | ok u a =>
              rw [hz] at h
              simp only at h
              have l3 := rex_len hz
              rw [List.length_drop] at l3
              simp only [List.length_cons, List.length_nil] at l3
              cases hw : ritm f cl m (j + 1) (r.drop (i + 2)) with
              | bad a => rw [hw] at h; cases h
              | ok es b =>
                rw [hw] at h
                simp only [Res.map, Res.up] at h
                cases h
                have l4 := ritm_len hf hw
                rw [List.length_drop] at l4
                simp only [List.length_cons]
                omega
theorem rprs_len {f : List Nat → Res PyData} {L : Nat} (hf : ∀ r d k, f r = .ok d k → 1 ≤ k ∧ k ≤ r.length) : ∀ {m : Nat} {seen : List (List Nat)} {r : List Nat} {D : List (PyData × PyData)} {k : Nat}, rprs f L m seen r = .ok D k → 1 ≤ k ∧ k ≤ r.length ∧ 1 ≤ D.length ∧ D.length ≤ m
  | 0, seen, r, D, k, h => by simp [rprs] at h
  | m + 1, seen, r, D, k, h => by
    simp only [rprs] at h
    cases hx : rstr L r with
    | bad i => rw [hx] at h; cases h
    | ok x i =>
      rw [hx] at h
      simp only at h
      have l1 := rstr_len hx
      split at h
      · cases h
      · cases hy : rex [34, 58, 32] (r.drop i) with
        | bad a => rw [hy] at h; cases h
        | ok u a =>
          rw [hy] at h
          simp only at h
          have l2 := rex_len hy
          rw [List.length_drop] at l2
          simp only [List.length_cons, List.length_nil] at l2
          cases hz : f (r.drop (i + 3)) with
          | bad a => rw [hz] at h; cases h
          | ok d b =>
            rw [hz] at h
            simp only at h
            have l3 := hf _ _ _ hz
            rw [List.length_drop] at l3
            split at h
            · rename_i c
              cases h
              have : (r.drop (i + 3 + b)).length ≠ 0 := fun z => by rw [List.length_eq_zero_iff.mp z] at c; simp at c
              rw [List.length_drop] at this
              simp; omega
            · cases hv : rex [44, 32] (r.drop (i + 3 + b)) with
              | bad a => rw [hv] at h; cases h
              | ok u a =>
                rw [hv] at h
                simp only at h
                have l4 := rex_len hv
                rw [List.length_drop] at l4
                simp only [List.length_cons, List.length_nil] at l4
                cases hw : rprs f L m (seen ++ [x]) (r.drop (i + 3 + b + 2)) with
                | bad a => rw [hw] at h; cases h
                | ok es c =>
                  rw [hw] at h
                  simp only [Res.map, Res.up] at h
                  cases h
                  have l5 := rprs_len hf hw
                  rw [List.length_drop] at l5
                  simp only [List.length_cons]
                  omega
theorem rv_len {L : Nat} : ∀ (n : Nat) (r : List Nat) (d : PyData) (k : Nat), rv L n r = .ok d k → 1 ≤ k ∧ k ≤ r.length
  | n, [], d, k, h => by cases n <;> simp [rv] at h
  | n, c :: r, d, k, h => by
    unfold rv at h
    split at h
    · cases hx : rstr L (c :: r) with
      | bad i => rw [hx] at h; cases h
      | ok x i =>
        rw [hx] at h
        cases h
        have := rstr_len hx
        omega
    · split at h
      · cases n with
        | zero => cases h
        | succ n =>
          simp only at h
          split at h
          · split at h
            · rename_i e
              cases h
              cases r with
              | nil => simp at e
              | cons e r => simp
            · cases hx : rprs (rv L n) L r.length [] r with
              | bad i => rw [hx] at h; cases h
              | ok x i =>
                rw [hx] at h
                simp only [Res.map, Res.up] at h
                cases h
                have := rprs_len (rv_len n) hx
                simp only [List.length_cons]; omega
          · split at h
            · split at h
              · rename_i e
                cases h
                cases r with
                | nil => simp at e
                | cons e r => simp
              · cases hx : ritm (rv L n) 93 r.length 0 r with
                | bad i => rw [hx] at h; cases h
                | ok x i =>
                  rw [hx] at h
                  simp only [Res.map, Res.up] at h
                  cases h
                  have := ritm_len (rv_len n) hx
                  simp only [List.length_cons]; omega
            · split at h
              · rename_i e
                cases h
                cases r with
                | nil => simp at e
                | cons e r => simp
              · cases hx : ritm (rv L n) 41 r.length 0 r with
                | bad i => rw [hx] at h; cases h
                | ok x i =>
                  rw [hx] at h
                  simp only [Res.map, Res.up] at h
                  cases h
                  have := ritm_len (rv_len n) hx
                  simp only [List.length_cons]; omega
      · split at h
        · cases hx : ri (c :: r) with
          | bad i => rw [hx] at h; cases h
          | ok x i =>
            rw [hx] at h
            simp only [Res.map] at h
            cases h
            exact ri_len hx
        · have wl : ∀ {w : List Nat} {d0 : PyData}, wrd w d0 (c :: r) = .ok d k → 1 ≤ w.length → 1 ≤ k ∧ k ≤ (c :: r).length := fun {w d0} hw w1 => by
            unfold wrd at hw
            cases hx : rex w (c :: r) with
            | bad i => rw [hx] at hw; cases hw
            | ok x i =>
              rw [hx] at hw
              simp only [Res.map] at hw
              cases hw
              have := rex_len hx
              omega
          split at h
          · exact wl h (by decide)
          · split at h
            · exact wl h (by decide)
            · split at h
              · exact wl h (by decide)
              · cases h
local macro_rules | `(tactic| walk_at "st") => `(tactic| simp only [S_cat, S_len, rep_one, has_one, S_eq, List.nil_append, List.append_assoc, List.cons_append, List.length_append, List.length_cons, List.length_nil, List.length_replicate])
/-- the tables of the reader -/
structure TxR (g : Wd) (AU AW : Addr) : Prop extends Txt g where
  b_ord : g.mg "ord" = none
  c_UNESCAPED : Gv g "UNESCAPED" (.ref AU)
  u34 : KDct g.K g.w AU (S [34]) (.str (S [34]))
  u92 : KDct g.K g.w AU (S [92]) (.str (S [92]))
  u110 : KDct g.K g.w AU (S [110]) (.str (S [10]))
  c_WORDS : Gv g "WORDS" (.ref AW)
  wds : ∃ A1 A2 A3 : Addr, (∀ H : Hp, SqT g.K H AW [.ref A1, .ref A2, .ref A3]) ∧ (∀ H : Hp, SqT g.K H A1 [.str (S [78, 111, 110, 101]), .non]) ∧ (∀ H : Hp, SqT g.K H A2 [.str (S [84, 114, 117, 101]), .bl true]) ∧ ∀ H : Hp, SqT g.K H A3 [.str (S [70, 97, 108, 115, 101]), .bl false]
/-- InvalidText(i) leaves; nothing has changed -/
def BadT (CI : Addr) (H : Hp) (i : Nat) (E : XK) : Prop := ∀ dd H', Same H H' → H' dd = some (.xd [("position", .int (i : Nat))]) → E (.ref CI) (some dd) H'
theorem BadT.same {CI : Addr} {H G : Hp} {i : Nat} {E : XK} (h : BadT CI H i E) (s : Same H G) : BadT CI G i E := fun dd H' s' e => h dd H' (s.trans s') e
theorem rex_drop : ∀ {w r : List Nat} {k : Nat} {u : Unit}, rex (w.take k) r = .ok u k → k ≤ w.length → rex w r = (rex (w.drop k) (r.drop k)).up k
  | w, r, 0, u, _, _ => by
    simp only [List.drop_zero]
    cases rex w r <;> simp [Res.up]
  | w :: ws, [], k + 1, u, h, _ => by simp [rex] at h
  | w :: ws, c :: r, k + 1, u, h, hk => by
    simp only [List.take_succ_cons, rex] at h
    split at h
    · rename_i e
      cases hx : rex (ws.take k) r with
      | bad j => rw [hx] at h; cases h
      | ok a j =>
        rw [hx] at h
        simp only [Res.up] at h
        have ej : j = k := by injection h with _ h2; omega
        subst ej
        have := rex_drop hx (by simpa using hk)
        simp only [rex, if_pos e, this, List.drop_succ_cons]
        cases rex (ws.drop j) (r.drop j) <;> simp [Res.up] <;> omega
    · cases h
  | [], r, k + 1, u, h, hk => by simp at hk
section
variable {g : Wd} {f : Addr} {fd : FuncData} {CI AU AW : Addr}
theorem sc_expect : FnScope ["text", "at", "word", "index", "sign"] ["text", "at", "word"] (defScope s_expect) := ⟨rfl, rfl, rfl, by decide +kernel, rfl, by decide +kernel, by decide +kernel⟩
def sp_exp (CI : Addr) : Sp := S3 fun a b c H Q E => ∃ (t w : List Nat) (i : Nat), a = .str (S t) ∧ b = .int (i : Nat) ∧ c = .str (S w) ∧ t.length ≤ 10000000 ∧ w.length ≤ 10 ∧ i ≤ t.length ∧ match rex w (t.drop i) with
  | .bad k => BadT CI H (i + k) E
  | .ok _ k => ∀ H', Same H H' → Q (.int ((i + k : Nat) : Int)) H'
theorem ok_exp (F : Df g.K "expect" "expect" s_expect f fd .none) (T : TxR g AU AW) (X_InvalidText : XK1 g "InvalidText" CI "position") (RI : PySem.W.subIn g.K (.ref CI) (.type "BaseException") = some true ∧ PySem.W.typeIn g.K (.ref CI) = some (.type "type")) : FnG g 3 f fd ["text", "at", "word"] (sp_exp CI) := by
  refine F.ok sc_expect (fun vs H Q E h => S3.len h) (fun cdv A outer s H vs Q E hr h => ?_)
  obtain ⟨_, _, _, rfl, t, w, i, rfl, rfl, rfl, tl, wl, il, q⟩ := h
  have R_InvalidText := raises_own (X := cx g ["text", "at", "word", "index", "sign"] "expect" s_expect f cdv A outer s H E) RI.1 RI.2
  refine ⟨_, (pss_cons (ps_for psD rfl (pi_enumS T.b_enumerate (pa_cons (pv 2) pa_nil)) (g_tup (K := g.K) (n := 2) (pgs_cons (pg_name (i := 3) sc_expect.nd rfl (.inl rfl)) (pgs_cons (pg_name (i := 4) sc_expect.nd rfl (.inl rfl)) pgs_nil))) (pss_one (ps_if (pt_cmpR (o_ne (K := g.K) hr) (pe_slice (o_sl (K := g.K)) (pv 0) (po_some (pe_op (o_add (K := g.K)) (pv 1) (pv 3))) (po_some (pe_op (o_add (K := g.K)) (pe_op (o_add (K := g.K)) (pv 1) (pv 3)) pe_int))) (pv 4) (nomark _)) (pss_one (ps_raise rfl tkD (pmk_x1 X_InvalidText R_InvalidText (hr.mono (by first | decide | omega)) (pa_cons (pe_op (o_add (K := g.K)) (pv 1) (pv 3)) pa_nil)))) pss_nil)))
      (pss_one (ps_ret (pe_op (o_add (K := g.K)) (pv 1) (pe_callB (c_len (K := g.K)) (by rfl) T.b_len bb_len (pa_cons (pv 2) pa_nil)))))), ?_⟩
  walk_at "sx"
  have step : ∀ {j : Nat} {u : Unit} {c : Nat}, rex (w.take j) (t.drop i) = .ok u j → w[j]? = some c → rex w (t.drop i) = (rex (c :: w.drop (j + 1)) (t.drop (i + j))).up j := fun {j u c} h hc => by
    have jl := (List.getElem?_eq_some_iff.mp hc).1
    have := rex_drop h (by omega)
    rw [this, List.drop_drop, List.drop_eq_getElem_cons jl]
    rw [List.getElem?_eq_getElem jl] at hc
    cases hc
    rfl
  have more : ∀ {j : Nat} {u : Unit} {c : Nat}, rex (w.take j) (t.drop i) = .ok u j → w[j]? = some c → (t.drop (i + j)).head? = some c → rex (w.take (j + 1)) (t.drop i) = .ok () (j + 1) := fun {j u c} h hc hd => by
    have jl := (List.getElem?_eq_some_iff.mp hc).1
    have e1 : (w.take (j + 1)).take j = w.take j := by rw [List.take_take]; congr 1; omega
    have := rex_drop (w := w.take (j + 1)) (k := j) (r := t.drop i) (u := u) (by rw [e1]; exact h) (by rw [List.length_take]; omega)
    rw [this, List.drop_drop, List.drop_take]
    rw [List.getElem?_eq_getElem jl] at hc
    cases hc
    rw [show j + 1 - j = 1 from by omega]
    cases hh : t.drop (i + j) with
    | nil => rw [hh] at hd; cases hd
    | cons x r =>
      rw [hh] at hd
      simp only [List.head?_cons, Option.some.injEq] at hd
      subst hd
      have h1 : (w.drop j).take 1 = [w[j]] := by rw [List.drop_eq_getElem_cons jl]; rfl
      simp [rex, Res.up, h1]
  refine for_by w.length (fun j σ X => (∃ v3 v4, σ = [some (.str (S t)), some (.int (i : Nat)), some (.str (S w)), v3, v4]) ∧ Same H X ∧ rex (w.take j) (t.drop i) = .ok () j ∧ i + j ≤ t.length) ⟨⟨_, _, rfl⟩, Same.refl _, by simp [rex], by omega⟩ (fun j σ X lt P => by simpa [ItEs] using lt) (fun σ X P => by simp [ItEs]) (fun j σ X z X' lt P yl => ?_) (fun σ X P => ?_)
  · obtain ⟨⟨v3, v4, rfl⟩, sX, rx, il2⟩ := P
    obtain ⟨T', c, rfl, hT, rfl, hc⟩ := yl
    have hc' : w[j]? = some c := by simpa using hc
    have sT := same_upd (o := HO.tup [.int (j : Nat), .str ⟨#[c]⟩]) hT
    walk_at "sx"
    refine ⟨_, SqT.of upd_same, rfl, ?_⟩
    walk_at "sx"
    refine ⟨by rw [S_len]; omega, ?_⟩
    rw [cut_both _ (by omega) (by omega)]
    have e1 : ((i : Int) + (j : Int) + 1).toNat - ((i : Int) + (j : Int)).toNat = 1 := by omega
    have e2 : ((i : Int) + (j : Int)).toNat = i + j := by omega
    rw [e1, e2]
    have ec : ({ cps := #[c] } : Str) = S [c] := rfl
    rw [ec]
    have s2 := sX.trans sT
    by_cases hd : (t.drop (i + j)).head? = some c
    · have h1 : (t.drop (i + j)).take 1 = [c] := by
        cases hh : t.drop (i + j) with
        | nil => rw [hh] at hd; cases hd
        | cons x r =>
          rw [hh] at hd
          simp only [List.head?_cons, Option.some.injEq] at hd
          simp [hd]
      have hl : i + j < t.length := by
        cases hh : t.drop (i + j) with
        | nil => rw [hh] at hd; cases hd
        | cons x r =>
          have := congrArg List.length hh
          simp at this; omega
      rw [h1, if_neg (by simp)]
      exact ⟨⟨_, rfl⟩, s2, more rx hc' hd, by omega⟩
    · have h1 : (t.drop (i + j)).take 1 ≠ [c] := by
        cases hh : t.drop (i + j) with
        | nil => simp
        | cons x r =>
          rw [hh] at hd
          simp only [List.head?_cons, Option.some.injEq] at hd
          simpa using hd
      rw [if_pos (by simpa [S_eq] using h1)]
      have e3 := step rx hc'
      have e4 : rex (c :: w.drop (j + 1)) (t.drop (i + j)) = .bad 0 := by
        cases hh : t.drop (i + j) with
        | nil => rfl
        | cons x r =>
          rw [hh] at hd
          simp only [List.head?_cons, Option.some.injEq] at hd
          simp only [rex, if_neg hd]
      rw [e3, e4] at q
      simp only [Res.up, Nat.add_zero] at q
      exact fun dd hdd => q dd _ (s2.trans (same_upd hdd)) upd_same
  · obtain ⟨⟨v3, v4, rfl⟩, sX, rx, il2⟩ := P
    rw [List.take_length] at rx
    rw [rx] at q
    walk_at "sx"
    refine ⟨by rw [S_len]; omega, ?_⟩
    have := q _ sX
    rw [S_len, ← Int.natCast_add]
    exact this
theorem sc_stands : FnScope ["text", "at", "signs"] ["text", "at", "signs"] (defScope s_stands) := ⟨rfl, rfl, rfl, by decide +kernel, rfl, by decide +kernel, by decide +kernel⟩
def sp_stands : Sp := S3 fun a b c H Q _ => ∃ (t w : List Nat) (i : Nat), a = .str (S t) ∧ b = .int (i : Nat) ∧ c = .str (S w) ∧ t.length ≤ 10000000 ∧ Q (.bl ((t.drop i).head?.any fun x => decide (x ∈ w))) H
theorem ok_stands (F : Df g.K "stands" "stands" s_stands f fd .none) (T : TxR g AU AW) : FnG g 1 f fd ["text", "at", "signs"] sp_stands := by
  refine F.ok sc_stands (fun vs H Q E h => S3.len h) (fun cdv A outer s H vs Q E hr h => ?_)
  obtain ⟨_, _, _, rfl, t, w, i, rfl, rfl, rfl, tl, q⟩ := h
  refine ⟨_, (pss_one (ps_ret (pe_and (pe_cmpR op_lt (pv 1) (pe_callB (c_len (K := g.K)) (by rfl) T.b_len bb_len (pa_cons (pv 0) pa_nil)) (nomark _)) (pe_one (pe_cmpR (o_in (K := g.K)) (pe_ix (o_ix (K := g.K)) (pv 0) (pv 1) (fun _ _ => rfl)) (pv 2) (by rfl)))))), ?_⟩
  walk_at "sx"
  refine ⟨by rw [S_len]; omega, ?_⟩
  rw [S_len]
  by_cases lt : i < t.length
  · rw [if_pos (by simpa using lt)]
    have hd : (t.drop i).head? = some t[i] := by rw [List.drop_eq_getElem_cons lt]; rfl
    refine ⟨by omega, t[i], ?_, ?_⟩
    · have := at_lt (a := t) lt
      rw [List.getD_eq_getElem?_getD, List.getElem?_eq_getElem lt] at this
      exact this
    · rw [hd] at q
      have hs : hasS { cps := #[t[i]] } (S w) = decide (t[i] ∈ w) := has_one _ _
      rw [hs]
      exact q
  · rw [if_neg (by simpa using lt)]
    have hd : (t.drop i).head? = none := by rw [List.drop_eq_nil_of_le (by omega)]; rfl
    rw [hd] at q
    exact q
theorem sc_is_plain_sign : FnScope ["sign"] ["sign"] (defScope s_is_plain_sign) := ⟨rfl, rfl, rfl, by decide +kernel, rfl, by decide +kernel, by decide +kernel⟩
def sp_plain : Sp := S1 fun a H Q _ => ∃ c : Nat, a = .str (S [c]) ∧ Q (.bl (isP c)) H
theorem ok_plain (F : Df g.K "is_plain_sign" "is_plain_sign" s_is_plain_sign f fd .none) (T : TxR g AU AW) : FnG g 1 f fd ["sign"] sp_plain := by
  refine F.ok sc_is_plain_sign (fun vs H Q E h => S1.len h) (fun cdv A outer s H vs Q E hr h => ?_)
  obtain ⟨_, rfl, c, rfl, q⟩ := h
  refine ⟨_, (pss_one (ps_ret (pe_and (pe_chain op_le_str op_le_str pe_str (pv 0) pe_str) (pe_and (pe_cmpR (o_ne (K := g.K) hr) (pe_callB call_ord (by rfl) T.b_ord bb_ord (pa_cons (pv 0) pa_nil)) pe_int (nomark _)) (pe_one (pe_cmpR (o_nin (K := g.K)) (pv 0) pe_str (by rfl))))))), ?_⟩
  walk_at "sx"
  have e32 : (Str.ofString " ").cps.toList = [32] := by decide +kernel
  have e126 : (Str.ofString "~").cps.toList = [126] := by decide +kernel
  have eq2 : Str.ofString "\"\\" = S [34, 92] := by decide +kernel
  have lt1 : ∀ a b : Nat, decide ([a] < [b]) = decide (a < b) := fun a b => by simp [List.cons_lt_cons_iff]
  rw [e32, e126, eq2, lt1, lt1]
  have hs : hasS (S [c]) (S [34, 92]) = decide (c ∈ [34, 92]) := has_one _ _
  rw [hs]
  by_cases c1 : 32 ≤ c
  · rw [if_pos (by simp; omega)]
    by_cases c2 : c ≤ 126
    · rw [if_pos (by simp; omega)]
      refine ⟨by rw [S_len]; rfl, ?_⟩
      by_cases c3 : c = 37
      · subst c3
        rw [if_neg (by simp)]
        exact q
      · rw [if_pos (by simp; omega)]
        have : isP c = !decide (c ∈ [34, 92]) := by
          simp only [isP, decide_eq_true c1, decide_eq_true c2, Bool.true_and, decide_eq_true c3, List.mem_cons, List.not_mem_nil, or_false]
          by_cases c4 : c = 34 <;> by_cases c5 : c = 92 <;> simp [c4, c5]
        rw [← this]
        exact q
    · rw [if_neg (by simp; omega)]
      have : isP c = false := by simp [isP]; omega
      rw [this] at q
      exact q
  · rw [if_neg (by simp; omega)]
    have : isP c = false := by simp [isP]; omega
    rw [this] at q
    exact q
end
theorem rq_app {a : List Nat} : ∀ {x : List Nat} (r : Res (List Nat)) (k j : Nat), (((r.map fun y => x ++ y).up k).map fun y => a ++ y).up j = (r.map fun y => (a ++ x) ++ y).up (j + k)
  | x, .bad i, k, j => by simp [Res.map, Res.up]; omega
  | x, .ok b i, k, j => by simp [Res.map, Res.up]; omega
theorem sgn_len : ∀ l : List Nat, (List.map (fun x : Str => x.length) (l.map fun c => S [c])).sum = l.length
  | [] => rfl
  | c :: r => by
    rw [List.map_cons, List.map_cons, List.sum_cons, sgn_len r, S_len]; simp only [List.length_cons, List.length_nil]; omega
theorem sgn_flat : ∀ l : List Nat, (l.map fun c => [c]).flatten = l
  | [] => rfl
  | c :: r => by rw [List.map_cons, List.flatten_cons, sgn_flat r]; rfl
section
variable {g : Wd} {f : Addr} {fd : FuncData} {CI AU AW : Addr}
theorem sc_read_string : FnScope ["text", "at", "most", "found"] ["text", "at", "most"] (defScope s_read_string) := ⟨rfl, rfl, rfl, by decide +kernel, rfl, by decide +kernel, by decide +kernel⟩
def sp_rstr (CI : Addr) : Sp := S3 fun a b c H Q E => ∃ (t : List Nat) (i m : Nat), a = .str (S t) ∧ b = .int (i : Nat) ∧ c = .int (m : Nat) ∧ t.length ≤ 10000000 ∧ i ≤ t.length ∧ match rstr m (t.drop i) with
  | .bad k => BadT CI H (i + k) E
  | .ok x k => ∀ (p : Addr) H', H p = none → Same H H' → H' p = some (.tup [.str (S x), .int ((i + k : Nat) : Int)]) → Q (.ref p) H'
theorem ok_rstr (F : Df g.K "read_string" "read_string" s_read_string f fd .none) (T : TxR g AU AW) (F_expect : Kn g "expect" 3 ["text", "at", "word"] [] (sp_exp CI)) (F_stands : Kn g "stands" 1 ["text", "at", "signs"] [] sp_stands) (F_is_plain_sign : Kn g "is_plain_sign" 1 ["sign"] [] sp_plain) (X_InvalidText : XK1 g "InvalidText" CI "position") (RI : PySem.W.subIn g.K (.ref CI) (.type "BaseException") = some true ∧ PySem.W.typeIn g.K (.ref CI) = some (.type "type")) : FnG g 4 f fd ["text", "at", "most"] (sp_rstr CI) := by
  refine F.ok sc_read_string (fun vs H Q E h => S3.len h) (fun cdv A outer s H vs Q E hr h => ?_)
  obtain ⟨_, _, _, rfl, t, i, m, rfl, rfl, rfl, tl, il, q⟩ := h
  have R_InvalidText := raises_own (X := cx g ["text", "at", "most", "found"] "read_string" s_read_string f cdv A outer s H E) RI.1 RI.2
  refine ⟨_, (pss_mid (ps_set (i := 1) sc_read_string.nd rfl (Or.inl rfl) (pe_callG F_expect (hr.mono (by first | decide | omega)) tkD (pa_cons (pv 0) (pa_cons (pv 1) (pa_cons pe_str pa_nil)))))
      (pss_mid (ps_set (i := 3) sc_read_string.nd rfl (Or.inl rfl) (pe_lst pa_nil))
      (pss_mid (ps_while psD (PW.pt (pw_and (pt_cmpR op_lt (pe_callB (c_len (K := g.K)) (by rfl) T.b_len bb_len (pa_cons (pv 3) pa_nil)) (pv 2) (nomark _)) (pw_and (pt_cmpR op_lt (pv 1) (pe_callB (c_len (K := g.K)) (by rfl) T.b_len bb_len (pa_cons (pv 0) pa_nil)) (nomark _)) (pw_and1 (PW.pt (pw_or (pt_val (pe_callG F_is_plain_sign (hr.mono (by first | decide | omega)) tkD (pa_cons (pe_ix (o_ix (K := g.K)) (pv 0) (pv 1) (fun _ _ => rfl)) pa_nil))) (pw_or1 (pt_cmpR (o_eq (K := g.K) hr) (pe_ix (o_ix (K := g.K)) (pv 0) (pv 1) (fun _ _ => rfl)) pe_str (nomark _))))))))) (pss_cons (ps_if (pt_cmpR (o_eq (K := g.K) hr) (pe_ix (o_ix (K := g.K)) (pv 0) (pv 1) (fun _ _ => rfl)) pe_str (nomark _)) (pss_cons (ps_set (i := 1) sc_read_string.nd rfl (Or.inl rfl) (pe_op (o_add (K := g.K)) (pv 1) pe_int))
      (pss_cons (ps_if (pt_not (pt_val (pe_callG F_stands (hr.mono (by first | decide | omega)) tkD (pa_cons (pv 0) (pa_cons (pv 1) (pa_cons pe_str pa_nil)))))) (pss_one (ps_raise rfl tkD (pmk_x1 X_InvalidText R_InvalidText (hr.mono (by first | decide | omega)) (pa_cons (pv 1) pa_nil)))) pss_nil)
      (pss_one (ps_expr (e_bm (K := g.K) PySem.F.plainAttrs_list PySem.F.slot_list_append PySem.F.type_list_append mt_append (pv 3) (pa_cons (pe_ix (show IxR _ (rIxD g.K g.w) from ix_kdict) (e_g T.c_UNESCAPED) (pe_ix (o_ix (K := g.K)) (pv 0) (pv 1) (fun _ _ => rfl)) (fun _ _ => rfl)) pa_nil)))))) (pss_one (ps_expr (e_bm (K := g.K) PySem.F.plainAttrs_list PySem.F.slot_list_append PySem.F.type_list_append mt_append (pv 3) (pa_cons (pe_ix (o_ix (K := g.K)) (pv 0) (pv 1) (fun _ _ => rfl)) pa_nil)))))
      (pss_one (ps_set (i := 1) sc_read_string.nd rfl (Or.inl rfl) (pe_op (o_add (K := g.K)) (pv 1) pe_int)))))
      (pss_mid (ps_if (pt_not (pt_val (pe_callG F_stands (hr.mono (by first | decide | omega)) tkD (pa_cons (pv 0) (pa_cons (pv 1) (pa_cons pe_str pa_nil)))))) (pss_one (ps_raise rfl tkD (pmk_x1 X_InvalidText R_InvalidText (hr.mono (by first | decide | omega)) (pa_cons (pv 1) pa_nil)))) pss_nil)
      (pss_one (ps_ret (pe_tup (pa_cons (pe_join pe_str (pv 3)) (pa_cons (pv 1) pa_nil))))))))), ?_⟩
  have eq1 : Str.ofString "\"" = S [34] := by decide +kernel
  refine mid_at (fun σ G => σ = [some (.str (S t)), some (.int ((i + 1 : Nat) : Int)), some (.int (m : Nat)), none] ∧ Same H G ∧ (t.drop i).head? = some 34) ?_ ?_
  · walk_at "sx"
    rw [eq1]
    refine ⟨_, _, _, rfl, t, [34], i, rfl, rfl, rfl, tl, by simp, il, ?_⟩
    cases hh : t.drop i with
    | nil =>
      rw [hh] at q
      simp only [rstr] at q
      simp only [rex]
      exact q
    | cons c r =>
      rw [hh] at q
      simp only [rstr] at q
      simp only [rex]
      by_cases e : c = 34
      · rw [if_pos e]
        simp only [Res.up]
        exact fun H' s => ⟨by trivial, s, by rw [e]; rfl⟩
      · rw [if_neg e] at q ⊢
        exact q
  rintro _ G ⟨rfl, s1, h34⟩
  have il1 : i + 1 ≤ t.length := by
    cases hh : t.drop i with
    | nil => rw [hh] at h34; cases h34
    | cons c r =>
      have := congrArg List.length hh
      simp at this; omega
  have er : rstr m (t.drop i) = (rq m (t.drop (i + 1))).up 1 := by
    cases hh : t.drop i with
    | nil => rw [hh] at h34; cases h34
    | cons c r =>
      rw [hh] at h34
      simp only [List.head?_cons, Option.some.injEq] at h34
      have : t.drop (i + 1) = r := by rw [show i + 1 = i + 1 from rfl, ← List.drop_drop, hh]; rfl
      rw [this]
      simp only [rstr, if_pos h34]
  rw [er] at q
  refine mid_at (fun σ G => ∃ p, σ = [some (.str (S t)), some (.int ((i + 1 : Nat) : Int)), some (.int (m : Nat)), some (.ref p)] ∧ Same H G ∧ H p = none ∧ G p = some (.lst [])) ?_ ?_
  · walk_at "sx"
    exact fun p np => ⟨s1.trans (same_upd np), by
      cases q2 : H p with
      | none => rfl
      | some o => rw [s1 _ _ q2] at np; cases np⟩
  rintro _ G1 ⟨p, rfl, s2, hp, ep⟩
  refine mid_at (fun σ G => ∃ (x : List Nat) (k : Nat), σ = [some (.str (S t)), some (.int ((i + 1 + k : Nat) : Int)), some (.int (m : Nat)), some (.ref p)] ∧ Same H G ∧ G p = some (.lst (x.map fun c => .str (S [c]))) ∧ i + 1 + k ≤ t.length ∧ x.length ≤ m ∧ x.length ≤ k ∧ rq m (t.drop (i + 1)) = ((if (t.drop (i + 1 + k)).head? = some 34 then .ok [] 0 else .bad 0 : Res (List Nat)).map fun y => x ++ y).up k) ?_ ?_
  · refine ⟨fun μ σ G => ∃ (x : List Nat) (k : Nat), σ = [some (.str (S t)), some (.int ((i + 1 + k : Nat) : Int)), some (.int (m : Nat)), some (.ref p)] ∧ Same H G ∧ G p = some (.lst (x.map fun c => .str (S [c]))) ∧ i + 1 + k ≤ t.length ∧ x.length ≤ m ∧ x.length ≤ k ∧ rq m (t.drop (i + 1)) = ((rq (m - x.length) (t.drop (i + 1 + k))).map fun y => x ++ y).up k ∧ μ = t.length - (i + 1 + k), ⟨_, [], 0, rfl, s2, ep, by omega, by simp, by simp, by cases rq m (t.drop (i + 1)) <;> simp [Res.map, Res.up], rfl⟩, ?_⟩
    rintro μ _ G ⟨x, k, rfl, sG, eG, kl, xm, xk, eq, rfl⟩
    walk_at "sx"
    refine .inl ⟨_, .inl (SqL.of eG), ?_⟩
    rw [List.length_map]
    have exitL : (t.drop (i + 1 + k)).head? = some 34 ∨ rq (m - x.length) (t.drop (i + 1 + k)) = .bad 0 → rq m (t.drop (i + 1)) = ((if (t.drop (i + 1 + k)).head? = some 34 then .ok [] 0 else .bad 0 : Res (List Nat)).map fun y => x ++ y).up k := fun h => by
      by_cases e : (t.drop (i + 1 + k)).head? = some 34
      · rw [if_pos e, eq]
        congr 2
        cases hh : t.drop (i + 1 + k) with
        | nil => rw [hh] at e; cases e
        | cons c r =>
          rw [hh] at e
          simp only [List.head?_cons, Option.some.injEq] at e
          cases m - x.length <;> simp [rq, e]
      · rw [if_neg e, eq, h.resolve_left e]
    by_cases lm : x.length < m
    · rw [if_pos (by simpa using lm)]
      obtain ⟨n, hn⟩ : ∃ n, m - x.length = n + 1 := ⟨m - x.length - 1, by omega⟩
      refine ⟨by rw [S_len]; omega, ?_⟩
      rw [S_len]
      by_cases lt : i + 1 + k < t.length
      · rw [if_pos (by simp only [decide_eq_true_eq]; omega)]
        have hh : t.drop (i + 1 + k) = t[i + 1 + k] :: t.drop (i + 1 + (k + 1)) := List.drop_eq_getElem_cons lt
        have ha : atI t ((i + 1 + k : Nat) : Int) = some t[i + 1 + k] := by
          have := at_lt (a := t) lt
          rw [List.getD_eq_getElem?_getD, List.getElem?_eq_getElem lt] at this
          exact this
        generalize t[i + 1 + k] = c at hh ha
        rw [hh, hn] at eq exitL
        refine ⟨by omega, c, ha, _, rfl, c, rfl, isP c, rfl, ?_⟩
        have same2 : ∀ {X : Hp} {o : HO}, Same G X → Same H (upd X p o) := fun {X o} s b u e => by
          have nb : b ≠ p := fun z => by rw [z, hp] at e; cases e
          rw [upd_ne nb]; exact s _ _ (sG _ _ e)
        have e92 : Str.ofString "\\" = S [92] := by decide +kernel
        have cp : ({ cps := #[c] } : Str) = S [c] := rfl
        let N : St → Hp → Prop := fun σ' H' => ∃ x' k', σ' = [some (.str (S t)), some (.int ((i + 1 + k' : Nat) : Int)), some (.int (m : Nat)), some (.ref p)] ∧ Same H H' ∧ H' p = some (.lst (x'.map fun c => .str (S [c]))) ∧ i + 1 + k' ≤ t.length ∧ x'.length ≤ m ∧ x'.length ≤ k' ∧ rq m (t.drop (i + 1)) = ((rq (m - x'.length) (t.drop (i + 1 + k'))).map fun y => x' ++ y).up k' ∧ k < k'
        have hN : ∀ σ' H', N σ' H' → ∃ m', m' < t.length - (i + 1 + k) ∧ ∃ x k, σ' = [some (.str (S t)), some (.int ((i + 1 + k : Nat) : Int)), some (.int (m : Nat)), some (.ref p)] ∧ Same H H' ∧ H' p = some (.lst (x.map fun c => .str (S [c]))) ∧ i + 1 + k ≤ t.length ∧ x.length ≤ m ∧ x.length ≤ k ∧ rq m (t.drop (i + 1)) = ((rq (m - x.length) (t.drop (i + 1 + k))).map fun y => x ++ y).up k ∧ m' = t.length - (i + 1 + k) := by
          rintro σ' H' ⟨x', k', a1, a2, a3, a4, a5, a6, a7, a8⟩
          exact ⟨_, by omega, x', k', a1, a2, a3, a4, a5, a6, a7, rfl⟩
        by_cases pc : isP c = true
        · rw [if_pos pc]
          have c34 : c ≠ 34 := fun z => by rw [z] at pc; exact absurd pc (by decide)
          have c92 : c ≠ 92 := fun z => by rw [z] at pc; exact absurd pc (by decide)
          refine ⟨N, hN, by omega, c, ha, ?_⟩
          rw [cp, e92, if_neg (by simp [S_eq, c92])]
          refine ⟨⟨_, SqL.of eG⟩, by omega, c, ha, _, eG, by rw [List.length_map]; omega, ?_⟩
          refine ⟨x ++ [c], k + 1, by simp only [List.cons.injEq, Option.some.injEq, V.int.injEq, and_true, true_and]; omega, same2 (Same.refl _), by rw [upd_same, List.map_append]; rfl, by omega, by rw [List.length_append]; simp; omega, by rw [List.length_append]; simp; omega, ?_, by omega⟩
          rw [eq]
          have : rq (n + 1) (c :: t.drop (i + 1 + (k + 1))) = ((rq n (t.drop (i + 1 + (k + 1)))).map fun y => [c] ++ y).up 1 := by
            simp only [rq, if_neg c34, if_neg c92, if_pos pc]; rfl
          rw [this, rq_app, show m - (x ++ [c]).length = n from by rw [List.length_append]; simp; omega]
        · rw [if_neg pc]
          refine ⟨by omega, c, ha, ?_⟩
          rw [cp, e92]
          by_cases c92 : c = 92
          · subst c92
            rw [if_pos (by simp)]
            refine ⟨N, hN, by omega, _, ha, ?_⟩
            rw [if_pos (by simp [cp])]
            have esg : Str.ofString "\"\\n" = S [34, 92, 110] := by decide +kernel
            rw [esg]
            refine ⟨_, _, _, rfl, t, _, i + 1 + (k + 1), rfl, by congr 1, rfl, tl, ?_⟩
            refine ⟨_, rfl, ?_⟩
            cases hr : t.drop (i + 1 + (k + 1)) with
            | nil =>
              rw [hr] at eq
              rw [if_pos (by simp)]
              rw [eq] at q
              simp only [rq, if_neg (show ¬ (92 : Nat) = 34 from by decide), if_true, Res.map, Res.up] at q
              exact fun dd hdd => q dd _ (sG.trans (same_upd hdd)) (by rw [upd_same]; simp only [Option.some.injEq, HO.xd.injEq, List.cons.injEq, Prod.mk.injEq, V.int.injEq, and_true, true_and]; omega)
            | cons e r =>
              rw [hr] at eq
              have l3 : i + 1 + (k + 1) < t.length := by
                have := congrArg List.length hr
                simp at this; omega
              rw [show ((e :: r).head?.any fun x => decide (x ∈ [34, 92, 110])) = isE e from by simp [isE, Bool.or_assoc]]
              by_cases ee : isE e = true
              · rw [if_neg (by simp [ee])]
                have ha2 : atI t ((i + 1 + k : Nat) + 1 : Int) = some e := by
                  have := at_lt (a := t) l3
                  rw [List.getD_eq_getElem?_getD] at this
                  have g0 : t[i + 1 + (k + 1)]? = some e := by
                    have := congrArg (·[0]?) hr
                    simpa using this
                  rw [g0] at this
                  rw [show ((i + 1 + k : Nat) + 1 : Int) = ((i + 1 + (k + 1) : Nat) : Int) from by omega]
                  exact this
                refine ⟨⟨_, SqL.of eG⟩, by omega, e, ha2, ?_⟩
                have tab : KDct g.K g.w AU (S [e]) (.str (S [une e])) := by
                  simp only [isE, Bool.or_eq_true, decide_eq_true_eq] at ee
                  rcases ee with (rfl | rfl) | rfl
                  · exact T.u34
                  · exact T.u92
                  · exact T.u110
                refine ⟨_, _, _, rfl, rfl, tab, _, eG, by rw [List.length_map]; omega, ?_⟩
                refine ⟨x ++ [une e], k + 2, by simp only [List.cons.injEq, Option.some.injEq, V.int.injEq, and_true, true_and]; omega, same2 (Same.refl _), by rw [upd_same, List.map_append]; rfl, by omega, by rw [List.length_append]; simp; omega, by rw [List.length_append]; simp; omega, ?_, by omega⟩
                rw [eq]
                have hr2 : t.drop (i + 1 + (k + 2)) = r := by
                  rw [show i + 1 + (k + 2) = (i + 1 + (k + 1)) + 1 from by omega, ← List.drop_drop, hr]; rfl
                have : rq (n + 1) (92 :: e :: r) = ((rq n r).map fun y => [une e] ++ y).up 2 := by
                  simp only [rq, if_neg (show ¬ (92 : Nat) = 34 from by decide), if_true, if_pos ee]; rfl
                rw [this, rq_app, hr2, show m - (x ++ [une e]).length = n from by rw [List.length_append]; simp; omega]
              · rw [if_pos (by simp [ee])]
                rw [eq] at q
                simp only [rq, if_neg (show ¬ (92 : Nat) = 34 from by decide), if_true, if_neg ee, Res.map, Res.up] at q
                exact fun dd hdd => q dd _ (sG.trans (same_upd hdd)) (by rw [upd_same]; simp only [Option.some.injEq, HO.xd.injEq, List.cons.injEq, Prod.mk.injEq, V.int.injEq, and_true, true_and]; omega)
          · rw [if_neg (by simp [S_eq, c92])]
            refine ⟨x, k, rfl, sG, eG, kl, xm, xk, ?_⟩
            rw [hh]
            refine exitL ?_
            by_cases c34 : c = 34
            · exact .inl (by rw [c34]; rfl)
            · exact .inr (by simp only [rq, if_neg c34, if_neg c92, if_neg pc])
      · rw [if_neg (by simp only [decide_eq_true_eq]; omega)]
        refine ⟨x, k, rfl, sG, eG, kl, xm, xk, exitL (.inr ?_)⟩
        rw [List.drop_eq_nil_of_le (by omega), hn]
        rfl
    · rw [if_neg (by simpa using lm)]
      refine ⟨x, k, rfl, sG, eG, kl, xm, xk, exitL ?_⟩
      rw [show m - x.length = 0 from by omega]
      cases hh : t.drop (i + 1 + k) with
      | nil => exact .inr rfl
      | cons c r =>
        by_cases e : c = 34
        · exact .inl (by rw [e]; rfl)
        · exact .inr (by simp [rq, e])
  rintro _ G2 ⟨x, k, rfl, s3, e3, kl, xm, xk, eq⟩
  rw [eq] at q
  refine mid_at (fun σ G => σ = [some (.str (S t)), some (.int ((i + 1 + k : Nat) : Int)), some (.int (m : Nat)), some (.ref p)] ∧ G = G2 ∧ (t.drop (i + 1 + k)).head? = some 34) ?_ ?_
  · walk_at "sx"
    rw [eq1]
    refine ⟨_, _, _, rfl, t, [34], _, rfl, rfl, rfl, tl, ?_⟩
    refine ⟨_, rfl, ?_⟩
    by_cases e : (t.drop (i + 1 + k)).head? = some 34
    · rw [e]
      rw [if_neg (by simp)]
      exact ⟨rfl, rfl⟩
    · rw [if_neg e] at q
      have : ((t.drop (i + 1 + k)).head?.any fun x => decide (x ∈ [34])) = false := by
        cases hh : (t.drop (i + 1 + k)).head? with
        | none => rfl
        | some c =>
          rw [hh] at e
          simp only [Option.some.injEq] at e
          simp [e]
      rw [this, if_pos (by simp)]
      simp only [Res.map, Res.up] at q
      exact fun dd hdd => q dd _ (s3.trans (same_upd hdd)) (by rw [show i + (1 + (k + 0)) = i + 1 + k from by omega]; exact upd_same)
  rintro _ G3 ⟨rfl, rfl, h34'⟩
  rw [if_pos h34'] at q
  simp only [Res.map, Res.up, List.append_nil] at q
  walk_at "sx"
  refine ⟨⟨_, rfl⟩, x.map fun c => S [c], .inl (SqL.of (by rw [e3, List.map_map]; rfl)), ?_⟩
  have e0 : Str.ofString "" = S [] := by decide +kernel
  rw [e0, sgn_len]
  refine ⟨by rw [show (S []).length = 0 from rfl]; omega, ?_⟩
  intro p2 np2
  have jn : Txt.join (S []) (x.map fun c => S [c]) = S x := by
    have := join_flat (x.map fun c => [c])
    rw [e0, List.map_map, sgn_flat] at this
    exact this
  rw [jn]
  have s4 := s3.trans (same_upd (o := HO.tup [.str (S x), .int ((i + 1 + k : Nat) : Int)]) np2)
  refine q p2 _ (by
    cases q2 : H p2 with
    | none => rfl
    | some o => rw [s3 _ _ q2] at np2; cases np2) s4 (by rw [show i + (1 + (k + 0)) = i + 1 + k from by omega]; exact upd_same)
theorem sc_read_key : FnScope ["text", "at", "found", "end"] ["text", "at"] (defScope s_read_key) := ⟨rfl, rfl, rfl, by decide +kernel, rfl, by decide +kernel, by decide +kernel⟩
def sp_rkey (CI : Addr) : Sp := S2 fun a b H Q E => ∃ (t : List Nat) (i : Nat), a = .str (S t) ∧ b = .int (i : Nat) ∧ t.length ≤ 10000000 ∧ i ≤ t.length ∧ match rstr 200 (t.drop i) with
  | .bad k => BadT CI H (i + k) E
  | .ok x k => if x = [] then BadT CI H (i + k) E else ∀ (p : Addr) H', H p = none → Same H H' → H' p = some (.tup [.str (S x), .int ((i + k + 1 : Nat) : Int)]) → Q (.ref p) H'
theorem ok_rkey (F : Df g.K "read_key" "read_key" s_read_key f fd .none) (T : TxR g AU AW) (F_read_string : Kn g "read_string" 4 ["text", "at", "most"] [] (sp_rstr CI)) (X_InvalidText : XK1 g "InvalidText" CI "position") (RI : PySem.W.subIn g.K (.ref CI) (.type "BaseException") = some true ∧ PySem.W.typeIn g.K (.ref CI) = some (.type "type")) : FnG g 5 f fd ["text", "at"] (sp_rkey CI) := by
  refine F.ok sc_read_key (fun vs H Q E h => S2.len h) (fun cdv A outer s H vs Q E hr h => ?_)
  obtain ⟨_, _, rfl, t, i, rfl, rfl, tl, il, q⟩ := h
  have R_InvalidText := raises_own (X := cx g ["text", "at", "found", "end"] "read_key" s_read_key f cdv A outer s H E) RI.1 RI.2
  refine ⟨_, (pss_cons (ps_asg (pe_callG F_read_string (hr.mono (by first | decide | omega)) tkD (pa_cons (pv 0) (pa_cons (pv 1) (pa_cons (e_g T.c_MOST_KEY_notation) pa_nil)))) (g_tup (K := g.K) (n := 2) (pgs_cons (pg_name (i := 2) sc_read_key.nd rfl (.inl rfl)) (pgs_cons (pg_name (i := 3) sc_read_key.nd rfl (.inl rfl)) pgs_nil))))
      (pss_cons (ps_if (pt_cmpR (o_eq (K := g.K) hr) (pv 2) pe_str (nomark _)) (pss_one (ps_raise rfl tkD (pmk_x1 X_InvalidText R_InvalidText (hr.mono (by first | decide | omega)) (pa_cons (pv 3) pa_nil)))) pss_nil)
      (pss_one (ps_ret (pe_tup (pa_cons (pv 2) (pa_cons (pe_op (o_add (K := g.K)) (pv 3) pe_int) pa_nil))))))), ?_⟩
  walk_at "sx"
  refine ⟨_, _, _, rfl, t, i, 200, rfl, rfl, rfl, tl, il, ?_⟩
  cases hx : rstr 200 (t.drop i) with
  | bad k =>
    rw [hx] at q
    exact q
  | ok x k =>
    rw [hx] at q
    simp only at q ⊢
    have l1 := rstr_len hx
    intro p H' hp s' e'
    refine ⟨p, rfl, _, SqT.of e', rfl, _, _, rfl, _, _, rfl, rfl, ?_⟩
    have e0 : Str.ofString "" = S [] := by decide +kernel
    rw [e0, RS.eq_ss]
    refine ⟨_, rfl, ?_⟩
    by_cases e : x = []
    · rw [if_pos e] at q
      rw [if_pos (by simpa [S_eq] using e)]
      exact fun dd hdd => q dd _ (s'.trans (same_upd hdd)) upd_same
    · rw [if_neg e] at q
      rw [if_neg (by simpa [S_eq] using e)]
      walk_at "sx"
      intro p2 np2
      refine q p2 _ (by
        cases q2 : H p2 with
        | none => rfl
        | some o => rw [s' _ _ q2] at np2; cases np2) (s'.trans (same_upd np2)) ?_
      rw [upd_same]
      rfl
end
open NumText
theorem digs_pre (r : List Nat) : ∃ q, r = digs r ++ q ∧ ((digs r).length < 100 → ∀ c, q.head? = some c → isDig c = false) := by
  have h1 : (r.take 100).takeWhile isDig ++ (r.take 100).dropWhile isDig = r.take 100 := List.takeWhile_append_dropWhile
  refine ⟨(r.take 100).dropWhile isDig ++ r.drop 100, ?_, fun hl c hc => ?_⟩
  · unfold digs
    rw [← List.append_assoc, h1, List.take_append_drop]
  · have hd := List.head?_dropWhile_not isDig (r.take 100)
    cases hw : (r.take 100).dropWhile isDig with
    | nil =>
      rw [hw] at h1 hc
      have : (digs r).length = (r.take 100).length := by rw [List.append_nil] at h1; unfold digs; rw [h1]
      rw [List.length_take] at this
      rw [List.drop_eq_nil_of_le (by omega)] at hc
      cases hc
    | cons x y =>
      rw [hw] at hc hd
      simp only [List.cons_append, List.head?_cons, Option.some.injEq] at hc hd
      subst hc
      simpa using hd
theorem digs_all (r : List Nat) : AllDigits (digs r) := fun c hc => by
  have := List.all_takeWhile (p := isDig) (l := r.take 100)
  rw [List.all_eq_true] at this
  have := this c hc
  simp only [isDig, Bool.and_eq_true, decide_eq_true_eq] at this
  exact this
theorem digs_more {r : List Nat} {n : Nat} (h : n ≤ (digs r).length) : n < (digs r).length ↔ (n < 100 ∧ ∃ c, (r.drop n).head? = some c ∧ isDig c = true) := by
  obtain ⟨q, e, hq⟩ := digs_pre r
  constructor
  · intro lt
    refine ⟨by have := (digs_len r).2; omega, (digs r)[n], ?_, ?_⟩
    · have : (digs r ++ q)[n]? = some (digs r)[n] := by rw [List.getElem?_append_left lt, List.getElem?_eq_getElem lt]
      rw [← e] at this
      rw [List.head?_drop, this]
    · have := digs_all r _ (List.getElem_mem lt)
      simp [isDig, this.1, this.2]
  · rintro ⟨l100, c, hc, hd⟩
    rcases Nat.lt_or_ge n (digs r).length with lt | ge
    · exact lt
    · have en : n = (digs r).length := by omega
      have e2 : r[n]? = q.head? := by
        have : (digs r ++ q)[n]? = q.head? := by rw [List.getElem?_append_right (by omega), en, Nat.sub_self, ← List.head?_eq_getElem?]
        rw [← e] at this
        exact this
      rw [List.head?_drop, e2] at hc
      rw [hq (by omega) c hc] at hd
      cases hd
theorem digs_take (r : List Nat) : r.take (digs r).length = digs r := by
  obtain ⟨q, e, _⟩ := digs_pre r
  conv => lhs; rw [e]
  rw [List.take_left' (by rw [← e])]
section
variable {g : Wd} {f : Addr} {fd : FuncData} {CI AU AW : Addr}
theorem sc_read_integer : FnScope ["text", "at", "begin", "end"] ["text", "at"] (defScope s_read_integer) := ⟨rfl, rfl, rfl, by decide +kernel, rfl, by decide +kernel, by decide +kernel⟩
def sp_rint (CI : Addr) : Sp := S2 fun a b H Q E => ∃ (t : List Nat) (i : Nat), a = .str (S t) ∧ b = .int (i : Nat) ∧ t.length ≤ 10000000 ∧ i < t.length ∧ match ri (t.drop i) with
  | .bad k => BadT CI H (i + k) E
  | .ok n k => ∀ (p : Addr) H', H p = none → Same H H' → H' p = some (.tup [.int n, .int ((i + k : Nat) : Int)]) → Q (.ref p) H'
theorem ok_rint (F : Df g.K "read_integer" "read_integer" s_read_integer f fd .none) (T : TxR g AU AW) (F_stands : Kn g "stands" 1 ["text", "at", "signs"] [] sp_stands) (X_InvalidText : XK1 g "InvalidText" CI "position") (RI : PySem.W.subIn g.K (.ref CI) (.type "BaseException") = some true ∧ PySem.W.typeIn g.K (.ref CI) = some (.type "type")) : FnG g 3 f fd ["text", "at"] (sp_rint CI) := by
  refine F.ok sc_read_integer (fun vs H Q E h => S2.len h) (fun cdv A outer s H vs Q E hr h => ?_)
  obtain ⟨_, _, rfl, t, i, rfl, rfl, tl, il, q⟩ := h
  have R_InvalidText := raises_own (X := cx g ["text", "at", "begin", "end"] "read_integer" s_read_integer f cdv A outer s H E) RI.1 RI.2
  refine ⟨_, (pss_mid (ps_set (i := 2) sc_read_integer.nd rfl (Or.inl rfl) (pe_ifExp (pt_cmpR (o_eq (K := g.K) hr) (pe_ix (o_ix (K := g.K)) (pv 0) (pv 1) (fun _ _ => rfl)) pe_str (nomark _)) (pe_op (o_add (K := g.K)) (pv 1) pe_int) (pv 1)))
      (pss_mid (ps_if (PW.pt (pw_and (pt_val (pe_callG F_stands (hr.mono (by first | decide | omega)) tkD (pa_cons (pv 0) (pa_cons (pv 2) (pa_cons pe_str pa_nil))))) (pw_and1 (pt_cmpR (o_eq (K := g.K) hr) (pv 2) (pv 1) (nomark _))))) (pss_one (ps_ret (pe_tup (pa_cons pe_int (pa_cons (pe_op (o_add (K := g.K)) (pv 1) pe_int) pa_nil))))) pss_nil)
      (pss_mid (ps_if (pt_not (pt_val (pe_callG F_stands (hr.mono (by first | decide | omega)) tkD (pa_cons (pv 0) (pa_cons (pv 2) (pa_cons pe_str pa_nil)))))) (pss_one (ps_raise rfl tkD (pmk_x1 X_InvalidText R_InvalidText (hr.mono (by first | decide | omega)) (pa_cons (pv 2) pa_nil)))) pss_nil)
      (pss_mid (ps_set (i := 3) sc_read_integer.nd rfl (Or.inl rfl) (pv 2))
      (pss_mid (ps_while psD (PW.pt (pw_and (pt_val (pe_callG F_stands (hr.mono (by first | decide | omega)) tkD (pa_cons (pv 0) (pa_cons (pv 3) (pa_cons (e_g T.c_DIGITS) pa_nil))))) (pw_and1 (pt_cmpR op_lt (pv 3) (pe_op (o_add (K := g.K)) (pv 2) (e_g T.c_MOST_DIGITS_notation)) (nomark _))))) (pss_one (ps_set (i := 3) sc_read_integer.nd rfl (Or.inl rfl) (pe_op (o_add (K := g.K)) (pv 3) pe_int))))
      (pss_one (ps_ret (pe_tup (pa_cons (pe_callTy c_intA (by rfl) T.b_int bb_int (pa_cons (pe_slice (o_sl (K := g.K)) (pv 0) (po_some (pv 1)) (po_some (pv 3))) pa_nil)) (pa_cons (pv 3) pa_nil)))))))))), ?_⟩
  have hh : t.drop i = t[i] :: t.drop (i + 1) := List.drop_eq_getElem_cons il
  have ha : atI t ((i : Nat) : Int) = some t[i] := by
    have := at_lt (a := t) il
    rw [List.getD_eq_getElem?_getD, List.getElem?_eq_getElem il] at this
    exact this
  generalize t[i] = c at hh ha
  rw [hh] at q
  have e45 : Str.ofString "-" = S [45] := by decide +kernel
  have e48 : Str.ofString "0" = S [48] := by decide +kernel
  have e19 : Str.ofString "123456789" = S [49, 50, 51, 52, 53, 54, 55, 56, 57] := by decide +kernel
  have e09 : Str.ofString "0123456789" = S [48, 49, 50, 51, 52, 53, 54, 55, 56, 57] := by decide +kernel
  have m19 : ∀ x : Nat, decide (x ∈ [49, 50, 51, 52, 53, 54, 55, 56, 57]) = isD1 x := fun x => by
    rw [Bool.eq_iff_iff]; simp [isD1]; omega
  have m09 : ∀ x : Nat, decide (x ∈ [48, 49, 50, 51, 52, 53, 54, 55, 56, 57]) = isDig x := fun x => by
    rw [Bool.eq_iff_iff]; simp [isDig]; omega
  have cc : ({ cps := #[c] } : Str) = S [c] := rfl
  -- where the digits begin
  obtain ⟨o, ho⟩ : ∃ o : Nat, o = if c = 45 then 1 else 0 := ⟨_, rfl⟩
  refine mid_at (fun σ G => σ = [some (.str (S t)), some (.int (i : Nat)), some (.int ((i + o : Nat) : Int)), none] ∧ H = G) ?_ ?_
  · walk_at "sx"
    refine ⟨by rw [S_len]; omega, c, ha, ?_⟩
    rw [cc, e45]
    by_cases k : c = 45
    · rw [if_pos (by simp [k]), ho, if_pos k]; omega
    · rw [if_neg (by simp [S_eq, k]), ho, if_neg k]; omega
  rintro _ _ ⟨rfl, rfl⟩
  by_cases z : c = 48
  · subst z
    rw [if_neg (by decide)] at ho
    subst ho
    refine mid_at (fun _ _ => False) ?_ (fun _ _ z => z.elim)
    walk_at "sx"
    rw [e48]
    refine ⟨_, _, _, rfl, t, [48], i, rfl, by simp, rfl, tl, _, rfl, ?_⟩
    rw [hh, if_pos (by simp), if_pos (by simp)]
    simp only [ri, if_neg (show ¬ (48 : Nat) = 45 from by decide), if_true] at q
    exact fun p hp => q p _ hp (same_upd hp) (by rw [upd_same]; rfl)
  refine mid_at (fun σ G => σ = [some (.str (S t)), some (.int (i : Nat)), some (.int ((i + o : Nat) : Int)), none] ∧ H = G) ?_ ?_
  · walk_at "sx"
    rw [e48]
    refine ⟨_, _, _, rfl, t, [48], i + o, rfl, rfl, rfl, tl, _, rfl, ?_⟩
    by_cases k : c = 45
    · rw [if_pos k] at ho
      subst ho
      have : ¬ ((i + 1 : Nat) : Int) = (i : Int) := by omega
      rw [decide_eq_false this]
      split <;> first | rfl | simp
    · rw [if_neg k] at ho
      subst ho
      rw [Nat.add_zero, hh, if_neg (by simpa using z)]
  rintro _ _ ⟨rfl, rfl⟩
  refine mid_at (fun σ G => σ = [some (.str (S t)), some (.int (i : Nat)), some (.int ((i + o : Nat) : Int)), none] ∧ H = G ∧ ∃ d, (t.drop (i + o)).head? = some d ∧ isD1 d = true) ?_ ?_
  · walk_at "sx"
    rw [e19]
    refine ⟨_, _, _, rfl, t, [49, 50, 51, 52, 53, 54, 55, 56, 57], i + o, rfl, rfl, rfl, tl, _, rfl, ?_⟩
    by_cases k : c = 45
    · subst k
      rw [if_pos rfl] at ho
      subst ho
      cases hr : t.drop (i + 1) with
      | nil =>
        rw [hr] at q
        rw [if_pos (by simp)]
        simp only [ri, if_true] at q
        exact fun dd hdd => q dd _ (same_upd hdd) upd_same
      | cons e r =>
        rw [hr] at q
        have hm : (([] : List Nat) = []) := rfl
        rw [show ((e :: r).head?.any fun x => decide (x ∈ [49, 50, 51, 52, 53, 54, 55, 56, 57])) = isD1 e from m19 e]
        by_cases d1 : isD1 e = true
        · rw [if_neg (by simp [d1])]
          exact ⟨rfl, e, rfl, d1⟩
        · rw [if_pos (by simp [d1])]
          simp only [ri, if_true, if_neg d1] at q
          exact fun dd hdd => q dd _ (same_upd hdd) upd_same
    · rw [if_neg k] at ho
      subst ho
      rw [Nat.add_zero, hh]
      rw [show ((c :: t.drop (i + 1)).head?.any fun x => decide (x ∈ [49, 50, 51, 52, 53, 54, 55, 56, 57])) = isD1 c from m19 c]
      by_cases d1 : isD1 c = true
      · rw [if_neg (by simp [d1])]
        exact ⟨rfl, c, rfl, d1⟩
      · rw [if_pos (by simp [d1])]
        simp only [ri, if_neg k, if_neg z, if_neg d1] at q
        exact fun dd hdd => q dd _ (same_upd hdd) upd_same
  rintro _ _ ⟨rfl, rfl, d, hd, d1⟩
  refine mid_at (fun σ G => σ = [some (.str (S t)), some (.int (i : Nat)), some (.int ((i + o : Nat) : Int)), some (.int ((i + o : Nat) : Int))] ∧ H = G) ?_ ?_
  · walk_at "sx"
  rintro _ _ ⟨rfl, rfl⟩
  refine mid_at (fun σ G => σ = [some (.str (S t)), some (.int (i : Nat)), some (.int ((i + o : Nat) : Int)), some (.int ((i + o + (digs (t.drop (i + o))).length : Nat) : Int))] ∧ H = G) ?_ ?_
  · refine ⟨fun μ σ G => ∃ n : Nat, σ = [some (.str (S t)), some (.int (i : Nat)), some (.int ((i + o : Nat) : Int)), some (.int ((i + o + n : Nat) : Int))] ∧ H = G ∧ n ≤ (digs (t.drop (i + o))).length ∧ μ = 100 - n, ⟨_, 0, rfl, rfl, by omega, rfl⟩, ?_⟩
    rintro μ _ _ ⟨n, rfl, rfl, nl, rfl⟩
    walk_at "sx"
    rw [e09]
    refine ⟨_, _, _, rfl, t, [48, 49, 50, 51, 52, 53, 54, 55, 56, 57], i + o + n, rfl, rfl, rfl, tl, _, rfl, ?_⟩
    have dm := digs_more nl
    rw [List.drop_drop] at dm
    have em : ((t.drop (i + o + n)).head?.any fun x => decide (x ∈ [48, 49, 50, 51, 52, 53, 54, 55, 56, 57])) = true ↔ ∃ c, (t.drop (i + o + n)).head? = some c ∧ isDig c = true := by
      cases (t.drop (i + o + n)).head? with
      | none => simp
      | some c => simp only [Option.any_some, m09]; simp
    by_cases l : n < (digs (t.drop (i + o))).length
    · have h2 := dm.mp l
      rw [if_pos (em.mpr h2.2), if_pos (by simp only [decide_eq_true_eq]; omega)]
      refine ⟨fun σ' H' => σ' = [some (.str (S t)), some (.int (i : Nat)), some (.int ((i + o : Nat) : Int)), some (.int ((i + o + n : Nat) + 1 : Int))] ∧ H = H', ?_, rfl, rfl⟩
      rintro _ _ ⟨rfl, rfl⟩
      exact ⟨_, by omega, n + 1, by rw [show ((i + o + n : Nat) + 1 : Int) = ((i + o + (n + 1) : Nat) : Int) from by omega], rfl, by omega, rfl⟩
    · have en : n = (digs (t.drop (i + o))).length := by omega
      by_cases h3 : ((t.drop (i + o + n)).head?.any fun x => decide (x ∈ [48, 49, 50, 51, 52, 53, 54, 55, 56, 57])) = true
      · have h4 : ¬ n < 100 := fun h => l (dm.mpr ⟨h, em.mp h3⟩)
        rw [if_pos h3, if_neg (by simp only [decide_eq_true_eq]; omega)]
        exact ⟨by rw [← en], rfl⟩
      · rw [if_neg h3]
        exact ⟨by rw [← en], rfl⟩
  rintro _ _ ⟨rfl, rfl⟩
  walk_at "sx"
  have dl := digs_len (t.drop (i + o))
  rw [List.length_drop] at dl
  have dpos : 1 ≤ (digs (t.drop (i + o))).length := by
    cases hr : t.drop (i + o) with
    | nil => rw [hr] at hd; cases hd
    | cons e r =>
      rw [hr] at hd
      simp only [List.head?_cons, Option.some.injEq] at hd
      exact digs_pos (by rw [hd]; exact d1_dig d1)
  refine ⟨by rw [S_len]; omega, ?_⟩
  rw [cut_both _ (by omega) (by omega)]
  have tk := digs_take (t.drop (i + o))
  by_cases k : c = 45
  · subst k
    rw [if_pos rfl] at ho
    subst ho
    have el : ((i + 1 + (digs (t.drop (i + 1))).length : Nat) : Int).toNat - ((i : Nat) : Int).toNat = (digs (t.drop (i + 1))).length + 1 := by omega
    rw [el, Int.toNat_natCast, hh, List.take_succ_cons, tk]
    cases hr : t.drop (i + 1) with
    | nil => rw [hr] at hd; cases hd
    | cons e r =>
      rw [hr] at q hd dpos dl
      simp only [List.head?_cons, Option.some.injEq] at hd
      subst hd
      simp only [ri, if_true, if_pos d1] at q
      refine .inr ⟨_, _, rfl, intText_neg (cs := digs (e :: r)) rfl (digs_all _) (fun z => by rw [z] at dpos; simp at dpos) (by rw [S_len]; simp only [List.length_cons]; omega), by rw [S_len]; simp only [List.length_cons]; omega, fun p hp => ?_⟩
      refine q p _ hp (same_upd hp) ?_
      rw [upd_same]
      simp only [Option.some.injEq, HO.tup.injEq, List.cons.injEq, V.int.injEq, and_true]
      exact ⟨by rw [show digitsVal (digs (e :: r)) = valL (digs (e :: r)) from rfl]; omega, by omega⟩
  · rw [if_neg k] at ho
    subst ho
    rw [Nat.add_zero] at *
    have el : ((i + (digs (t.drop i)).length : Nat) : Int).toNat - ((i : Nat) : Int).toNat = (digs (t.drop i)).length := by omega
    rw [el, Int.toNat_natCast, tk]
    rw [hh] at hd dpos dl ⊢
    simp only [List.head?_cons, Option.some.injEq] at hd
    subst hd
    simp only [ri, if_neg k, if_neg z, if_pos d1] at q
    refine .inr ⟨_, _, rfl, intText_digits (x := S (digs (c :: t.drop (i + 1)))) (digs_all _) (fun z => by have : digs (c :: t.drop (i + 1)) = [] := z; rw [this] at dpos; simp at dpos) (by rw [S_len]; omega), by rw [S_len]; omega, fun p hp => ?_⟩
    exact q p _ hp (same_upd hp) (by rw [upd_same]; rfl)
end
theorem same_none {H G : Hp} {p : Addr} (s : Same H G) (h : G p = none) : H p = none := by
  cases q : H p with
  | none => rfl
  | some o => rw [s _ _ q] at h; cases h
/-- one place, which was not there, changes -/
theorem same_grow {H G : Hp} {p : Addr} {o : HO} (s : Same H G) (h : H p = none) : Same H (upd G p o) := fun b u e => by
  have nb : b ≠ p := fun z => by rw [z, h] at e; cases e
  rw [upd_ne nb]; exact s _ _ e
theorem ritm_step {ds : List PyData} (x : Res (List PyData)) (d : PyData) (k kk : Nat) : (((x.map fun as => d :: as).up k).map fun as => ds ++ as).up kk = (x.map fun as => (ds ++ [d]) ++ as).up (kk + k) := by
  cases x with
  | bad j => simp only [Res.map, Res.up]; congr 1; omega
  | ok b j => simp only [Res.map, Res.up, List.append_assoc, List.cons_append, List.nil_append]; congr 1; omega
theorem BadT.go {CI : Addr} {H G : Hp} {i j : Nat} {E : XK} (h : BadT CI H i E) (s : Same H G) (e : i = j) : BadT CI G j E := e ▸ h.same s
/-- the items of a list or a tuple, up to the bracket that closes it -/
def ritms (L n cl : Nat) (r : List Nat) : Res (List PyData) := if r.head? = some cl then .ok [] 1 else ritm (rv L n) cl r.length 0 r
theorem head_one {r : List Nat} {c : Nat} : (r.head?.any fun x => decide (x ∈ [c])) = decide (r.head? = some c) := by
  cases r with
  | nil => rfl
  | cons x r => simp
section
variable {g : Wd} {f : Addr} {fd : FuncData} {CI AU AW : Addr}
/-- read_value with n levels left -/
def sp_rval (CI : Addr) (n : Nat) : Sp := S3 fun a b c H Q E => ∃ (t : List Nat) (i : Nat), a = .str (S t) ∧ b = .int (i : Nat) ∧ c = .int (20 - (n : Int)) ∧ n ≤ 20 ∧ t.length ≤ 10000000 ∧ i ≤ t.length ∧ match rv t.length n (t.drop i) with
  | .bad k => BadT CI H (i + k) E
  | .ok d k => ∀ (p : Addr) (v : V) (fp : List Addr) H', H p = none → Same H H' → H' p = some (.tup [v, .int ((i + k : Nat) : Int)]) → Tr H' v d fp → (∀ c ∈ fp, H c = none) → Q (.ref p) H'
theorem sc_read_items : FnScope ["text", "at", "level", "closing", "found", "item", "is_single"] ["text", "at", "level", "closing"] (defScope s_read_items) := ⟨rfl, rfl, rfl, by decide +kernel, rfl, by decide +kernel, by decide +kernel⟩
def sp_ritm1 (CI : Addr) (n : Nat) : Sp := S4 fun a b c e H Q E => ∃ (t : List Nat) (i cl : Nat), a = .str (S t) ∧ b = .int (i : Nat) ∧ c = .int (20 - (n : Int)) ∧ e = .str (S [cl]) ∧ n ≤ 20 ∧ t.length ≤ 10000000 ∧ i ≤ t.length ∧ (cl = 93 ∨ cl = 41) ∧ match ritms t.length n cl (t.drop i) with
  | .bad k => BadT CI H (i + k) E
  | .ok ds k => ∀ (p L : Addr) (vs : List V) (fp : List Addr) H', H p = none → H L = none → Same H H' → H' p = some (.tup [.ref L, .int ((i + k : Nat) : Int)]) → H' L = some (.lst vs) → TrL H' vs ds fp → (∀ c ∈ fp, H c = none ∧ c ≠ L) → Q (.ref p) H'
theorem ok_ritm (n : Nat) (F : Df g.K "read_items" "read_items" s_read_items f fd .none) (T : TxR g AU AW) (F_expect : Kn g "expect" 3 ["text", "at", "word"] [] (sp_exp CI)) (F_stands : Kn g "stands" 1 ["text", "at", "signs"] [] sp_stands) (F_read_value : Kn g "read_value" (2 * n + 6) ["text", "at", "level"] [] (sp_rval CI n)) : FnG g (2 * n + 7) f fd ["text", "at", "level", "closing"] (sp_ritm1 CI n) := by
  refine F.ok sc_read_items (fun vs H Q E h => S4.len h) (fun cdv A outer s H vs Q E hr h => ?_)
  obtain ⟨_, _, _, _, rfl, t, i, cl, rfl, rfl, rfl, rfl, n20, tl, il, cc, q⟩ := h
  refine ⟨_, (pss_mid (ps_set (i := 4) sc_read_items.nd rfl (Or.inl rfl) (pe_lst pa_nil))
      (pss_mid (ps_if (pt_val (pe_callG F_stands (hr.mono (by first | decide | omega)) tkD (pa_cons (pv 0) (pa_cons (pv 1) (pa_cons (pv 3) pa_nil))))) (pss_one (ps_ret (pe_tup (pa_cons (pv 4) (pa_cons (pe_op (o_add (K := g.K)) (pv 1) pe_int) pa_nil))))) pss_nil)
      (pss_one (ps_while psD (t_truth (K := g.K) pe_bl) (pss_mid (ps_asg (pe_callG F_read_value (hr.mono (by first | decide | omega)) tkD (pa_cons (pv 0) (pa_cons (pv 1) (pa_cons (pv 2) pa_nil)))) (g_tup (K := g.K) (n := 2) (pgs_cons (pg_name (i := 5) sc_read_items.nd rfl (.inl rfl)) (pgs_cons (pg_name (i := 1) sc_read_items.nd rfl (.inl rfl)) pgs_nil))))
      (pss_mid (ps_expr (e_bm (K := g.K) PySem.F.plainAttrs_list PySem.F.slot_list_append PySem.F.type_list_append mt_append (pv 4) (pa_cons (pv 5) pa_nil)))
      (pss_mid (ps_set (i := 6) sc_read_items.nd rfl (Or.inl rfl) (pe_and (pe_cmpR (o_eq (K := g.K) hr) (pv 3) pe_str (nomark _)) (pe_one (pe_cmpR (o_eq (K := g.K) hr) (pe_callB (c_len (K := g.K)) (by rfl) T.b_len bb_len (pa_cons (pv 4) pa_nil)) pe_int (nomark _)))))
      (pss_mid (ps_if (PW.pt (pw_and (pt_not (t_truth (K := g.K) (pv 6))) (pw_and1 (pt_val (pe_callG F_stands (hr.mono (by first | decide | omega)) tkD (pa_cons (pv 0) (pa_cons (pv 1) (pa_cons (pv 3) pa_nil)))))))) (pss_one (ps_ret (pe_tup (pa_cons (pv 4) (pa_cons (pe_op (o_add (K := g.K)) (pv 1) pe_int) pa_nil))))) pss_nil)
      (pss_mid (ps_set (i := 1) sc_read_items.nd rfl (Or.inl rfl) (pe_callG F_expect (hr.mono (by first | decide | omega)) tkD (pa_cons (pv 0) (pa_cons (pv 1) (pa_cons pe_str pa_nil)))))
      (pss_mid (ps_if (PW.pt (pw_and (t_truth (K := g.K) (pv 6)) (pw_and1 (pt_val (pe_callG F_stands (hr.mono (by first | decide | omega)) tkD (pa_cons (pv 0) (pa_cons (pv 1) (pa_cons (pv 3) pa_nil)))))))) (pss_one (ps_ret (pe_tup (pa_cons (pv 4) (pa_cons (pe_op (o_add (K := g.K)) (pv 1) pe_int) pa_nil))))) pss_nil)
      (pss_one (ps_set (i := 1) sc_read_items.nd rfl (Or.inl rfl) (pe_callG F_expect (hr.mono (by first | decide | omega)) tkD (pa_cons (pv 0) (pa_cons (pv 1) (pa_cons pe_str pa_nil)))))))))))))))), ?_⟩
  refine mid_at (fun σ G => ∃ L, σ = [some (.str (S t)), some (.int (i : Nat)), some (.int (20 - (n : Int))), some (.str (S [cl])), some (.ref L), none, none] ∧ Same H G ∧ H L = none ∧ G L = some (.lst [])) ?_ ?_
  · walk_at "sx"
    exact fun p hp => ⟨same_upd hp, hp⟩
  rintro _ G ⟨L, rfl, s1, hL, eL⟩
  by_cases h0 : (t.drop i).head? = some cl
  · refine mid_at (fun _ _ => False) ?_ (fun _ _ z => z.elim)
    walk_at "sx"
    refine ⟨_, _, _, rfl, t, [cl], i, rfl, rfl, rfl, tl, _, rfl, ?_⟩
    rw [head_one, if_pos (by simpa using h0)]
    intro p hp
    unfold ritms at q
    rw [if_pos h0] at q
    exact q p L [] [] _ (same_none s1 hp) hL (s1.trans (same_upd hp)) (by rw [upd_same]; rfl) (same_upd hp _ _ eL) .nil (by simp)
  refine mid_at (fun σ X => σ = [some (.str (S t)), some (.int (i : Nat)), some (.int (20 - (n : Int))), some (.str (S [cl])), some (.ref L), none, none] ∧ G = X) ?_ ?_
  · walk_at "sx"
    refine ⟨_, _, _, rfl, t, [cl], i, rfl, rfl, rfl, tl, _, rfl, ?_⟩
    rw [head_one, if_neg (by simpa using h0)]
  rintro _ _ ⟨rfl, rfl⟩
  have er : ritms t.length n cl (t.drop i) = ritm (rv t.length n) cl (t.drop i).length 0 (t.drop i) := if_neg h0
  rw [er] at q
  refine ⟨fun μ σ X => ∃ (ds : List PyData) (kk m : Nat) (vs : List V) (fa : List Addr) (v5 v6 : Option V), σ = [some (.str (S t)), some (.int ((i + kk : Nat) : Int)), some (.int (20 - (n : Int))), some (.str (S [cl])), some (.ref L), v5, v6] ∧ Same H X ∧ X L = some (.lst vs) ∧ TrL X vs ds fa ∧ (∀ c ∈ fa, H c = none ∧ c ≠ L) ∧ i + kk ≤ t.length ∧ (t.drop (i + kk)).length ≤ m ∧ vs.length ≤ kk ∧ ritm (rv t.length n) cl (t.drop i).length 0 (t.drop i) = ((ritm (rv t.length n) cl m vs.length (t.drop (i + kk))).map fun as => ds ++ as).up kk ∧ μ = t.length - (i + kk), ⟨_, [], 0, _, [], [], none, none, rfl, s1, eL, .nil, by simp, by omega, Nat.le_refl _, by simp, by cases ritm (rv t.length n) cl (t.drop i).length 0 (t.drop i) <;> simp [Res.map, Res.up], rfl⟩, ?_⟩
  rintro μ _ X ⟨ds, kk, m, vs, fa, v5, v6, rfl, sX, eX, tX, nf, ik, rm, vk, eq, rfl⟩
  walk_at "sx"
  refine ⟨_, fun σ' H' h => h, ?_⟩
  have ed : ∀ a : Nat, (t.drop (i + kk)).drop a = t.drop (i + (kk + a)) := fun a => by rw [List.drop_drop, Nat.add_assoc]
  cases m with
  | zero =>
    have e0 : t.drop (i + kk) = [] := List.eq_nil_of_length_eq_zero (by omega)
    refine mid_at (fun _ _ => False) ?_ (fun _ _ z => z.elim)
    walk_at "sx"
    refine ⟨_, _, _, rfl, t, i + kk, rfl, rfl, rfl, n20, tl, ik, ?_⟩
    rw [e0] at eq ⊢
    have : rv t.length n [] = .bad 0 := by cases n <;> simp [rv]
    rw [this]
    rw [eq] at q
    simp only [ritm, Res.map, Res.up] at q
    rw [← Nat.add_assoc] at q
    exact fun dd H' s e => q dd H' (sX.trans s) e
  | succ m =>
  simp only [ritm] at eq
  cases hx : rv t.length n (t.drop (i + kk)) with
  | bad k =>
    rw [hx] at eq
    simp only [Res.map, Res.up] at eq
    rw [eq] at q
    refine mid_at (fun _ _ => False) ?_ (fun _ _ z => z.elim)
    walk_at "sx"
    refine ⟨_, _, _, rfl, t, i + kk, rfl, rfl, rfl, n20, tl, ik, ?_⟩
    rw [hx]
    simp only at q ⊢
    rw [← Nat.add_assoc] at q
    exact fun dd H' s e => q dd H' (sX.trans s) e
  | ok d k =>
  rw [hx] at eq
  simp only at eq
  have kl := rv_len _ _ _ _ hx
  rw [List.length_drop] at kl
  rw [ed, ed] at eq
  rw [List.length_drop] at rm
  refine mid_at (fun σ Y => ∃ v fp, σ = [some (.str (S t)), some (.int ((i + (kk + k) : Nat) : Int)), some (.int (20 - (n : Int))), some (.str (S [cl])), some (.ref L), some v, v6] ∧ Same X Y ∧ Tr Y v d fp ∧ ∀ c ∈ fp, X c = none) ?_ ?_
  · walk_at "sx"
    refine ⟨_, _, _, rfl, t, i + kk, rfl, rfl, rfl, n20, tl, ik, ?_⟩
    rw [hx]
    simp only
    intro p v fp H' hp s e tv nv
    refine ⟨p, rfl, _, SqT.of e, rfl, v, _, rfl, _, _, rfl, rfl, by rw [Nat.add_assoc], s, fp, tv, nv⟩
  rintro _ Y ⟨v, fp, rfl, sY, tv, nv⟩
  have eY := sY _ _ eX
  have Lfp : L ∉ fp := fun z => by have := nv _ z; rw [eX] at this; cases this
  refine mid_at (fun σ Z => σ = [some (.str (S t)), some (.int ((i + (kk + k) : Nat) : Int)), some (.int (20 - (n : Int))), some (.str (S [cl])), some (.ref L), some v, v6] ∧ Z = upd Y L (.lst (vs ++ [v]))) ?_ ?_
  · walk_at "sx"
    refine ⟨⟨_, SqL.of eY⟩, _, eY, by rw [List.length_drop] at *; omega, rfl⟩
  rintro _ Z ⟨rfl, eZ⟩
  have sZ : Same H Z := by rw [eZ]; exact same_grow (sX.trans sY) hL
  have eL' : Z L = some (.lst (vs ++ [v])) := by rw [eZ]; exact upd_same
  have tZ : TrL Z (vs ++ [v]) (ds ++ [d]) (fa ++ fp) := by
    have nt : ∀ xs, Y L ≠ some (.tup xs) := fun xs z => by rw [eY] at z; cases z
    have kp : ∀ c o, c ≠ L → Y c = some o → Z c = some o := fun c o n e => by rw [eZ, upd_ne n]; exact e
    exact TrL.snoc (tv.but (p := L) nt kp Lfp) ((tX.same sY).but (p := L) nt kp (fun z => (nf _ z).2 rfl))
  have nZ : ∀ c ∈ fa ++ fp, H c = none ∧ c ≠ L := fun c hc => by
    rcases List.mem_append.mp hc with h | h
    · exact nf c h
    · exact ⟨same_none sX (nv c h), fun z => Lfp (z ▸ h)⟩
  clear eZ
  have lv : (vs ++ [v]).length = vs.length + 1 := by simp
  obtain ⟨b, hb⟩ : ∃ b : Bool, b = decide (cl = 41 ∧ vs.length = 0) := ⟨_, rfl⟩
  refine mid_at (fun σ Z' => σ = [some (.str (S t)), some (.int ((i + (kk + k) : Nat) : Int)), some (.int (20 - (n : Int))), some (.str (S [cl])), some (.ref L), some v, some (.bl b)] ∧ Z = Z') ?_ ?_
  · walk_at "sx"
    have e41 : Str.ofString ")" = S [41] := by decide +kernel
    rw [e41, hb]
    by_cases k1 : cl = 41
    · rw [if_pos (by simp [k1])]
      refine .inl ⟨_, .inl (SqL.of eL'), ?_⟩
      rw [lv]
      by_cases k2 : vs.length = 0
      · simp [k1, k2]
      · rw [decide_eq_false (by omega), decide_eq_false (by omega)]
    · rw [if_neg (by simp [S_eq, k1]), decide_eq_false (by omega)]
  rintro _ _ ⟨rfl, rfl⟩
  by_cases c1 : ¬(cl = 41 ∧ vs.length = 0) ∧ (t.drop (i + (kk + k))).head? = some cl
  · rw [if_pos c1] at eq
    rw [eq] at q
    simp only [Res.map, Res.up] at q
    refine mid_at (fun _ _ => False) ?_ (fun _ _ z => z.elim)
    walk_at "sx"
    rw [hb, decide_eq_false c1.1, if_pos (by rfl)]
    refine ⟨_, _, _, rfl, t, [cl], i + (kk + k), rfl, rfl, rfl, tl, _, rfl, ?_⟩
    rw [head_one, if_pos (by simpa using c1.2)]
    intro p hp
    exact q p L _ _ _ (same_none sZ hp) hL (sZ.trans (same_upd hp)) (by rw [upd_same]; rfl) (same_upd hp _ _ eL') (tZ.same (same_upd hp)) nZ
  rw [if_neg c1] at eq
  refine mid_at (fun σ Z' => σ = [some (.str (S t)), some (.int ((i + (kk + k) : Nat) : Int)), some (.int (20 - (n : Int))), some (.str (S [cl])), some (.ref L), some v, some (.bl b)] ∧ Z = Z') ?_ ?_
  · walk_at "sx"
    cases b with
    | true => rw [if_neg (by simp)]; trivial
    | false =>
      rw [if_pos (by rfl)]
      refine ⟨_, _, _, rfl, t, [cl], i + (kk + k), rfl, rfl, rfl, tl, _, rfl, ?_⟩
      have : ¬ (t.drop (i + (kk + k))).head? = some cl := fun z => c1 ⟨of_decide_eq_false hb.symm, z⟩
      rw [head_one, if_neg (by simpa using this)]
  rintro _ _ ⟨rfl, rfl⟩
  have e44 : Str.ofString "," = S [44] := by decide +kernel
  have e32 : Str.ofString " " = S [32] := by decide +kernel
  cases hy : rex [44] (t.drop (i + (kk + k))) with
  | bad a =>
    rw [hy] at eq
    simp only [Res.map, Res.up] at eq
    rw [eq] at q
    simp only at q
    refine mid_at (fun _ _ => False) ?_ (fun _ _ z => z.elim)
    walk_at "sx"
    rw [e44]
    refine ⟨_, _, _, rfl, t, [44], i + (kk + k), rfl, rfl, rfl, tl, by simp, by omega, ?_⟩
    rw [hy]
    simp only
    exact q.go sZ (by omega)
  | ok u a =>
  rw [hy] at eq
  simp only at eq
  have a1 := rex_len hy
  rw [List.length_drop] at a1
  simp only [List.length_cons, List.length_nil] at a1
  refine mid_at (fun σ Z' => σ = [some (.str (S t)), some (.int ((i + (kk + (k + 1)) : Nat) : Int)), some (.int (20 - (n : Int))), some (.str (S [cl])), some (.ref L), some v, some (.bl b)] ∧ Same Z Z') ?_ ?_
  · walk_at "sx"
    rw [e44]
    refine ⟨_, _, _, rfl, t, [44], i + (kk + k), rfl, rfl, rfl, tl, by simp, by omega, ?_⟩
    rw [hy]
    simp only
    exact fun H' s => ⟨by rw [a1.1]; rfl, s⟩
  rintro _ W ⟨rfl, sW⟩
  by_cases c2 : (cl = 41 ∧ vs.length = 0) ∧ (t.drop (i + (kk + (k + 1)))).head? = some cl
  · rw [ed, if_pos c2] at eq
    rw [eq] at q
    simp only [Res.map, Res.up] at q
    refine mid_at (fun _ _ => False) ?_ (fun _ _ z => z.elim)
    walk_at "sx"
    rw [hb, decide_eq_true c2.1, if_pos (by rfl)]
    refine ⟨_, _, _, rfl, t, [cl], i + (kk + (k + 1)), rfl, rfl, rfl, tl, _, rfl, ?_⟩
    rw [head_one, if_pos (by simpa using c2.2)]
    intro p hp
    have sH := sZ.trans sW
    exact q p L _ _ _ (same_none sH hp) hL (sH.trans (same_upd hp)) (by rw [upd_same]; rfl) (same_upd hp _ _ (sW _ _ eL')) ((tZ.same sW).same (same_upd hp)) nZ
  rw [ed, if_neg c2] at eq
  refine mid_at (fun σ Z' => σ = [some (.str (S t)), some (.int ((i + (kk + (k + 1)) : Nat) : Int)), some (.int (20 - (n : Int))), some (.str (S [cl])), some (.ref L), some v, some (.bl b)] ∧ W = Z') ?_ ?_
  · walk_at "sx"
    cases b with
    | false => rw [if_neg (by simp)]; trivial
    | true =>
      rw [if_pos (by rfl)]
      refine ⟨_, _, _, rfl, t, [cl], i + (kk + (k + 1)), rfl, rfl, rfl, tl, _, rfl, ?_⟩
      have : ¬ (t.drop (i + (kk + (k + 1)))).head? = some cl := fun z => c2 ⟨of_decide_eq_true hb.symm, z⟩
      rw [head_one, if_neg (by simpa using this)]
  rintro _ _ ⟨rfl, rfl⟩
  walk_at "sx"
  rw [e32]
  refine ⟨_, _, _, rfl, t, [32], i + (kk + (k + 1)), rfl, rfl, rfl, tl, by simp, by omega, ?_⟩
  have sH := sZ.trans sW
  cases hz : rex [32] (t.drop (i + (kk + (k + 1)))) with
  | bad a =>
    rw [hz] at eq
    simp only [Res.map, Res.up] at eq
    rw [eq] at q
    simp only at q ⊢
    exact q.go sH (by omega)
  | ok u2 a2 =>
    rw [hz] at eq
    simp only at eq ⊢
    have a3 := rex_len hz
    rw [List.length_drop] at a3
    simp only [List.length_cons, List.length_nil] at a3
    intro H' s
    refine ⟨_, ?_, ds ++ [d], kk + (k + 2), by rw [a3.1]; congr 1, sH.trans s, m, vs ++ [v], s _ _ (sW _ _ eL'), fa ++ fp, (tZ.same sW).same s, nZ, by omega, by rw [List.length_drop]; omega, by rw [lv]; omega, ?_, rfl⟩
    · omega
    · rw [eq, ritm_step, lv]
end
theorem rprs_step {D : List (PyData × PyData)} (x : Res (List (PyData × PyData))) (d : PyData × PyData) (k kk : Nat) : (((x.map fun as => d :: as).up k).map fun as => D ++ as).up kk = (x.map fun as => (D ++ [d]) ++ as).up (kk + k) := by
  cases x with
  | bad j => simp only [Res.map, Res.up]; congr 1; omega
  | ok b j => simp only [Res.map, Res.up, List.append_assoc, List.cons_append, List.nil_append]; congr 1; omega
/-- the pairs of a dict, up to the bracket that closes it -/
def rpair (L n : Nat) (r : List Nat) : Res (List (PyData × PyData)) := if r.head? = some 125 then .ok [] 1 else rprs (rv L n) L r.length [] r
theorem val_none : ∀ {kvs : List (Key × V)} {k : Key}, k ∉ kvs.map (·.1) → valV kvs k = none
  | [], _, _ => rfl
  | (p, v) :: r, k, h => by
    rw [vv_cons, if_neg fun e => h (by simp [e])]
    exact val_none fun z => h (List.mem_cons_of_mem _ z)
theorem val_some : ∀ {kvs : List (Key × V)} {k : Key}, k ∈ kvs.map (·.1) → ∃ v, valV kvs k = some v
  | (p, v) :: r, k, h => by
    rw [vv_cons]
    by_cases e : p = k
    · exact ⟨v, if_pos e⟩
    · rw [if_neg e]
      exact val_some ((List.mem_cons.mp h).resolve_left fun z => e z.symm)
  | [], _, h => by simp at h
section
variable {g : Wd} {f : Addr} {fd : FuncData} {CI AU AW : Addr}
theorem sc_read_pairs : FnScope ["text", "at", "level", "found", "key", "item"] ["text", "at", "level"] (defScope s_read_pairs) := ⟨rfl, rfl, rfl, by decide +kernel, rfl, by decide +kernel, by decide +kernel⟩
def sp_rprs1 (CI : Addr) (n : Nat) : Sp := S3 fun a b c H Q E => ∃ (t : List Nat) (i : Nat), a = .str (S t) ∧ b = .int (i : Nat) ∧ c = .int (20 - (n : Int)) ∧ n ≤ 20 ∧ t.length ≤ 10000000 ∧ i ≤ t.length ∧ match rpair t.length n (t.drop i) with
  | .bad k => BadT CI H (i + k) E
  | .ok D k => ∀ (p L : Addr) (kvs : List (Key × V)) (fp : List Addr) H', H p = none → H L = none → Same H H' → H' p = some (.tup [.ref L, .int ((i + k : Nat) : Int)]) → H' L = some (.dK kvs) → TrD H' kvs D fp → (kvs.map (·.1)).Nodup → (∀ c ∈ fp, H c = none ∧ c ≠ L) → Q (.ref p) H'
theorem ok_rprs (n : Nat) (F : Df g.K "read_pairs" "read_pairs" s_read_pairs f fd .none) (T : TxR g AU AW) (F_expect : Kn g "expect" 3 ["text", "at", "word"] [] (sp_exp CI)) (F_stands : Kn g "stands" 1 ["text", "at", "signs"] [] sp_stands) (F_read_string : Kn g "read_string" 4 ["text", "at", "most"] [] (sp_rstr CI)) (F_read_value : Kn g "read_value" (2 * n + 6) ["text", "at", "level"] [] (sp_rval CI n)) (X_InvalidText : XK1 g "InvalidText" CI "position") (RI : PySem.W.subIn g.K (.ref CI) (.type "BaseException") = some true ∧ PySem.W.typeIn g.K (.ref CI) = some (.type "type")) : FnG g (2 * n + 7) f fd ["text", "at", "level"] (sp_rprs1 CI n) := by
  refine F.ok sc_read_pairs (fun vs H Q E h => S3.len h) (fun cdv A outer s H vs Q E hr h => ?_)
  obtain ⟨_, _, _, rfl, t, i, rfl, rfl, rfl, n20, tl, il, q⟩ := h
  have R_InvalidText := raises_own (X := cx g ["text", "at", "level", "found", "key", "item"] "read_pairs" s_read_pairs f cdv A outer s H E) RI.1 RI.2
  refine ⟨_, (pss_mid (ps_set (i := 3) sc_read_pairs.nd rfl (Or.inl rfl) pe_dnewK)
      (pss_mid (ps_if (pt_val (pe_callG F_stands (hr.mono (by first | decide | omega)) tkD (pa_cons (pv 0) (pa_cons (pv 1) (pa_cons pe_str pa_nil))))) (pss_one (ps_ret (pe_tup (pa_cons (pv 3) (pa_cons (pe_op (o_add (K := g.K)) (pv 1) pe_int) pa_nil))))) pss_nil)
      (pss_one (ps_while psD (t_truth (K := g.K) pe_bl) (pss_mid (ps_asg (pe_callG F_read_string (hr.mono (by first | decide | omega)) tkD (pa_cons (pv 0) (pa_cons (pv 1) (pa_cons (pe_callB (c_len (K := g.K)) (by rfl) T.b_len bb_len (pa_cons (pv 0) pa_nil)) pa_nil)))) (g_tup (K := g.K) (n := 2) (pgs_cons (pg_name (i := 4) sc_read_pairs.nd rfl (.inl rfl)) (pgs_cons (pg_name (i := 1) sc_read_pairs.nd rfl (.inl rfl)) pgs_nil))))
      (pss_mid (ps_if (pt_cmp (pc_din (hu_of hr.room) (pv 4) (pv 3))) (pss_one (ps_raise rfl tkD (pmk_x1 X_InvalidText R_InvalidText (hr.mono (by first | decide | omega)) (pa_cons (pv 1) pa_nil)))) pss_nil)
      (pss_mid (ps_asg (pe_callG F_read_value (hr.mono (by first | decide | omega)) tkD (pa_cons (pv 0) (pa_cons (pe_callG F_expect (hr.mono (by first | decide | omega)) tkD (pa_cons (pv 0) (pa_cons (pv 1) (pa_cons pe_str pa_nil)))) (pa_cons (pv 2) pa_nil)))) (g_tup (K := g.K) (n := 2) (pgs_cons (pg_name (i := 5) sc_read_pairs.nd rfl (.inl rfl)) (pgs_cons (pg_name (i := 1) sc_read_pairs.nd rfl (.inl rfl)) pgs_nil))))
      (pss_mid (ps_dput (hu_of hr.room) (pv 3) (pv 4) (pv 5) rfl)
      (pss_mid (ps_if (pt_val (pe_callG F_stands (hr.mono (by first | decide | omega)) tkD (pa_cons (pv 0) (pa_cons (pv 1) (pa_cons pe_str pa_nil))))) (pss_one (ps_ret (pe_tup (pa_cons (pv 3) (pa_cons (pe_op (o_add (K := g.K)) (pv 1) pe_int) pa_nil))))) pss_nil)
      (pss_one (ps_set (i := 1) sc_read_pairs.nd rfl (Or.inl rfl) (pe_callG F_expect (hr.mono (by first | decide | omega)) tkD (pa_cons (pv 0) (pa_cons (pv 1) (pa_cons pe_str pa_nil))))))))))))))), ?_⟩
  have e125 : Str.ofString "}" = S [125] := by decide +kernel
  refine mid_at (fun σ G => ∃ L, σ = [some (.str (S t)), some (.int (i : Nat)), some (.int (20 - (n : Int))), some (.ref L), none, none] ∧ Same H G ∧ H L = none ∧ G L = some (.dK [])) ?_ ?_
  · walk_at "sx"
    exact fun p hp => ⟨same_upd hp, hp⟩
  rintro _ G ⟨L, rfl, s1, hL, eL⟩
  by_cases h0 : (t.drop i).head? = some 125
  · refine mid_at (fun _ _ => False) ?_ (fun _ _ z => z.elim)
    walk_at "sx"
    rw [e125]
    refine ⟨_, _, _, rfl, t, [125], i, rfl, rfl, rfl, tl, _, rfl, ?_⟩
    rw [head_one, if_pos (by simpa using h0)]
    intro p hp
    unfold rpair at q
    rw [if_pos h0] at q
    exact q p L [] [] _ (same_none s1 hp) hL (s1.trans (same_upd hp)) (by rw [upd_same]; rfl) (same_upd hp _ _ eL) .nil .nil (by simp)
  refine mid_at (fun σ X => σ = [some (.str (S t)), some (.int (i : Nat)), some (.int (20 - (n : Int))), some (.ref L), none, none] ∧ G = X) ?_ ?_
  · walk_at "sx"
    rw [e125]
    refine ⟨_, _, _, rfl, t, [125], i, rfl, rfl, rfl, tl, _, rfl, ?_⟩
    rw [head_one, if_neg (by simpa using h0)]
  rintro _ _ ⟨rfl, rfl⟩
  have er : rpair t.length n (t.drop i) = rprs (rv t.length n) t.length (t.drop i).length [] (t.drop i) := if_neg h0
  rw [er] at q
  refine ⟨fun μ σ X => ∃ (D : List (PyData × PyData)) (kk m : Nat) (seen : List (List Nat)) (kvs : List (Key × V)) (fa : List Addr) (v4 v5 : Option V), σ = [some (.str (S t)), some (.int ((i + kk : Nat) : Int)), some (.int (20 - (n : Int))), some (.ref L), v4, v5] ∧ Same H X ∧ X L = some (.dK kvs) ∧ TrD X kvs D fa ∧ (∀ c ∈ fa, H c = none ∧ c ≠ L) ∧ kvs.map (·.1) = seen.map (fun x => (.inr (S x) : Key)) ∧ seen.Nodup ∧ i + kk ≤ t.length ∧ (t.drop (i + kk)).length ≤ m ∧ kvs.length ≤ kk ∧ rprs (rv t.length n) t.length (t.drop i).length [] (t.drop i) = ((rprs (rv t.length n) t.length m seen (t.drop (i + kk))).map fun as => D ++ as).up kk ∧ μ = t.length - (i + kk), ⟨_, [], 0, _, [], [], [], none, none, rfl, s1, eL, .nil, by simp, rfl, .nil, by omega, Nat.le_refl _, by simp, by cases rprs (rv t.length n) t.length (t.drop i).length [] (t.drop i) <;> simp [Res.map, Res.up], rfl⟩, ?_⟩
  rintro μ _ X ⟨D, kk, m, seen, kvs, fa, v4, v5, rfl, sX, eX, tX, nf, ks, nd, ik, rm, vk, eq, rfl⟩
  walk_at "sx"
  refine ⟨_, fun σ' H' h => h, ?_⟩
  have ed : ∀ a : Nat, (t.drop (i + kk)).drop a = t.drop (i + (kk + a)) := fun a => by rw [List.drop_drop, Nat.add_assoc]
  cases m with
  | zero =>
    have e0 : t.drop (i + kk) = [] := List.eq_nil_of_length_eq_zero (by omega)
    refine mid_at (fun _ _ => False) ?_ (fun _ _ z => z.elim)
    walk_at "sx"
    refine ⟨by rw [S_len]; omega, ?_⟩
    rw [S_len]
    refine ⟨_, _, _, rfl, t, i + kk, t.length, rfl, rfl, rfl, tl, ik, ?_⟩
    rw [e0] at eq ⊢
    rw [eq] at q
    simp only [rprs, rstr, Res.map, Res.up] at q ⊢
    exact q.go sX (by omega)
  | succ m =>
  simp only [rprs] at eq
  rw [List.length_drop] at rm
  cases hx : rstr t.length (t.drop (i + kk)) with
  | bad k =>
    rw [hx] at eq
    simp only [Res.map, Res.up] at eq
    rw [eq] at q
    refine mid_at (fun _ _ => False) ?_ (fun _ _ z => z.elim)
    walk_at "sx"
    refine ⟨by rw [S_len]; omega, ?_⟩
    rw [S_len]
    refine ⟨_, _, _, rfl, t, i + kk, t.length, rfl, rfl, rfl, tl, ik, ?_⟩
    rw [hx]
    exact q.go sX (by omega)
  | ok x k =>
  rw [hx] at eq
  simp only at eq
  have kl := rstr_len hx
  rw [List.length_drop] at kl
  simp only [ed] at eq
  refine mid_at (fun σ Y => σ = [some (.str (S t)), some (.int ((i + (kk + k) : Nat) : Int)), some (.int (20 - (n : Int))), some (.ref L), some (.str (S x)), v5] ∧ Same X Y) ?_ ?_
  · walk_at "sx"
    refine ⟨by rw [S_len]; omega, ?_⟩
    rw [S_len]
    refine ⟨_, _, _, rfl, t, i + kk, t.length, rfl, rfl, rfl, tl, ik, ?_⟩
    rw [hx]
    simp only
    intro p H' hp s e
    refine ⟨p, rfl, _, SqT.of e, rfl, _, _, rfl, _, _, rfl, rfl, by rw [Nat.add_assoc], rfl, s⟩
  rintro _ Y ⟨rfl, sY⟩
  have eY := sY _ _ eX
  have ki : (.inr (S x) : Key) ∈ kvs.map (·.1) ↔ x ∈ seen := by
    rw [ks, List.mem_map]
    constructor
    · rintro ⟨y, hy, e⟩
      have : S y = S x := by injection e
      rw [← S_inj this]; exact hy
    · exact fun h => ⟨x, h, rfl⟩
  by_cases c0 : x ∈ seen
  · rw [if_pos c0] at eq
    simp only [Res.map, Res.up] at eq
    rw [eq] at q
    refine mid_at (fun _ _ => False) ?_ (fun _ _ z => z.elim)
    walk_at "sx"
    obtain ⟨v0, hv0⟩ := val_some (kvs := kvs) (k := .inr (S x)) (ki.mpr c0)
    refine ⟨some v0, by rw [dget_s eY]; exact hv0, ?_⟩
    rw [if_pos (by rfl)]
    exact fun dd hdd => q.go (sX.trans (sY.trans (same_upd hdd))) rfl dd _ (Same.refl _) upd_same
  rw [if_neg c0] at eq
  refine mid_at (fun σ Z => σ = [some (.str (S t)), some (.int ((i + (kk + k) : Nat) : Int)), some (.int (20 - (n : Int))), some (.ref L), some (.str (S x)), v5] ∧ Y = Z) ?_ ?_
  · walk_at "sx"
    exact ⟨none, by rw [dget_s eY]; exact val_none (fun z => c0 (ki.mp z)), by rw [if_neg (by simp)]; trivial⟩
  rintro _ _ ⟨rfl, rfl⟩
  have e3 : Str.ofString "\": " = S [34, 58, 32] := by decide +kernel
  have e2 : Str.ofString ", " = S [44, 32] := by decide +kernel
  cases hy : rex [34, 58, 32] (t.drop (i + (kk + k))) with
  | bad a =>
    rw [hy] at eq
    simp only [Res.map, Res.up] at eq
    rw [eq] at q
    refine mid_at (fun _ _ => False) ?_ (fun _ _ z => z.elim)
    walk_at "sx"
    rw [e3]
    refine ⟨_, _, _, rfl, t, [34, 58, 32], i + (kk + k), rfl, rfl, rfl, tl, by simp, by omega, ?_⟩
    rw [hy]
    exact q.go (sX.trans sY) (by omega)
  | ok u a =>
  rw [hy] at eq
  simp only at eq
  have a1 := rex_len hy
  rw [List.length_drop] at a1
  simp only [List.length_cons, List.length_nil] at a1
  cases hz : rv t.length n (t.drop (i + (kk + (k + 3)))) with
  | bad b =>
    rw [hz] at eq
    simp only [Res.map, Res.up] at eq
    rw [eq] at q
    refine mid_at (fun _ _ => False) ?_ (fun _ _ z => z.elim)
    walk_at "sx"
    rw [e3]
    refine ⟨_, _, _, rfl, t, [34, 58, 32], i + (kk + k), rfl, rfl, rfl, tl, by simp, by omega, ?_⟩
    rw [hy]
    intro H' s
    refine ⟨_, _, _, rfl, t, i + (kk + (k + 3)), rfl, by rw [a1.1]; congr 1, rfl, n20, tl, by omega, ?_⟩
    rw [hz]
    exact q.go ((sX.trans sY).trans s) (by omega)
  | ok d b =>
  rw [hz] at eq
  simp only at eq
  have bl := rv_len _ _ _ _ hz
  rw [List.length_drop] at bl
  refine mid_at (fun σ Z => ∃ v fp, σ = [some (.str (S t)), some (.int ((i + (kk + (k + 3 + b)) : Nat) : Int)), some (.int (20 - (n : Int))), some (.ref L), some (.str (S x)), some v] ∧ Same Y Z ∧ Tr Z v d fp ∧ ∀ c ∈ fp, Y c = none) ?_ ?_
  · walk_at "sx"
    rw [e3]
    refine ⟨_, _, _, rfl, t, [34, 58, 32], i + (kk + k), rfl, rfl, rfl, tl, by simp, by omega, ?_⟩
    rw [hy]
    intro H' s
    refine ⟨_, _, _, rfl, t, i + (kk + (k + 3)), rfl, by rw [a1.1]; congr 1, rfl, n20, tl, by omega, ?_⟩
    rw [hz]
    simp only
    intro p v fp H2 hp s2 e tv nv
    exact ⟨p, rfl, _, SqT.of e, rfl, v, _, rfl, _, _, rfl, rfl, by congr 1; omega, s.trans s2, fp, tv, fun c hc => same_none s (nv c hc)⟩
  rintro _ Z ⟨v, fp, rfl, sZ, tv, nv⟩
  have eZ := sZ _ _ eY
  have sYH := sX.trans sY
  have Lfp : L ∉ fp := fun z => by have := nv _ z; rw [eY] at this; cases this
  have nk : (.inr (S x) : Key) ∉ kvs.map (·.1) := fun z => c0 (ki.mp z)
  refine mid_at (fun σ W => σ = [some (.str (S t)), some (.int ((i + (kk + (k + 3 + b)) : Nat) : Int)), some (.int (20 - (n : Int))), some (.ref L), some (.str (S x)), some v] ∧ W = upd Z L (.dK (kvs ++ [(.inr (S x), v)]))) ?_ ?_
  · walk_at "sx"
    rw [dput_s eZ, putK_new nk]
    exact ⟨by rw [sizeLine_eq]; omega, rfl⟩
  rintro _ W ⟨rfl, eW⟩
  have sW : Same H W := by rw [eW]; exact same_grow (sYH.trans sZ) hL
  have eL' : W L = some (.dK (kvs ++ [(.inr (S x), v)])) := by rw [eW]; exact upd_same
  have tW : TrD W (kvs ++ [(.inr (S x), v)]) (D ++ [(.str (S x), d)]) (fa ++ fp) := by
    have nt : ∀ xs, Z L ≠ some (.tup xs) := fun xs z => by rw [eZ] at z; cases z
    have kp : ∀ c o, c ≠ L → Z c = some o → W c = some o := fun c o n e => by rw [eW, upd_ne n]; exact e
    exact TrD.snoc (tv.but (p := L) nt kp Lfp) (((tX.same sY).same sZ).but (p := L) nt kp (fun z => (nf _ z).2 rfl))
  have nW : ∀ c ∈ fa ++ fp, H c = none ∧ c ≠ L := fun c hc => by
    rcases List.mem_append.mp hc with h | h
    · exact nf c h
    · exact ⟨same_none sYH (nv c h), fun z => Lfp (z ▸ h)⟩
  have ks' : (kvs ++ [((.inr (S x) : Key), v)]).map (·.1) = (seen ++ [x]).map (fun x => (.inr (S x) : Key)) := by rw [List.map_append, List.map_append, ks]; rfl
  have nd' : (seen ++ [x]).Nodup := List.nodup_append.mpr ⟨nd, by simp, fun a ha b hb => by simp only [List.mem_singleton] at hb; rw [hb]; exact fun z => c0 (z ▸ ha)⟩
  have kn : ((kvs ++ [((.inr (S x) : Key), v)]).map (·.1)).Nodup := by
    rw [ks']
    exact List.Pairwise.map _ (fun a b h n => h (by injection n with n; exact S_inj n)) nd'
  clear eW
  have lv : (kvs ++ [((.inr (S x) : Key), v)]).length = kvs.length + 1 := by simp
  by_cases c1 : (t.drop (i + (kk + (k + 3 + b)))).head? = some 125
  · rw [if_pos c1] at eq
    rw [eq] at q
    simp only [Res.map, Res.up] at q
    refine mid_at (fun _ _ => False) ?_ (fun _ _ z => z.elim)
    walk_at "sx"
    rw [e125]
    refine ⟨_, _, _, rfl, t, [125], i + (kk + (k + 3 + b)), rfl, rfl, rfl, tl, _, rfl, ?_⟩
    rw [head_one, if_pos (by simpa using c1)]
    intro p hp
    exact q p L _ _ _ (same_none sW hp) hL (sW.trans (same_upd hp)) (by rw [upd_same]; rfl) (same_upd hp _ _ eL') (tW.same (same_upd hp)) kn nW
  rw [if_neg c1] at eq
  refine mid_at (fun σ Z => σ = [some (.str (S t)), some (.int ((i + (kk + (k + 3 + b)) : Nat) : Int)), some (.int (20 - (n : Int))), some (.ref L), some (.str (S x)), some v] ∧ W = Z) ?_ ?_
  · walk_at "sx"
    rw [e125]
    refine ⟨_, _, _, rfl, t, [125], i + (kk + (k + 3 + b)), rfl, rfl, rfl, tl, _, rfl, ?_⟩
    rw [head_one, if_neg (by simpa using c1)]
  rintro _ _ ⟨rfl, rfl⟩
  walk_at "sx"
  rw [e2]
  refine ⟨_, _, _, rfl, t, [44, 32], i + (kk + (k + 3 + b)), rfl, rfl, rfl, tl, by simp, by omega, ?_⟩
  cases hv : rex [44, 32] (t.drop (i + (kk + (k + 3 + b)))) with
  | bad a =>
    rw [hv] at eq
    simp only [Res.map, Res.up] at eq
    rw [eq] at q
    exact q.go sW (by omega)
  | ok u2 a2 =>
    rw [hv] at eq
    simp only at eq ⊢
    have a3 := rex_len hv
    rw [List.length_drop] at a3
    simp only [List.length_cons, List.length_nil] at a3
    intro H' s
    refine ⟨_, ?_, D ++ [(.str (S x), d)], kk + (k + 3 + b + 2), by rw [a3.1]; congr 1, sW.trans s, m, seen ++ [x], kvs ++ [(.inr (S x), v)], s _ _ eL', fa ++ fp, tW.same s, nW, ks', nd', by omega, by rw [List.length_drop]; omega, by rw [lv]; omega, ?_, rfl⟩
    · omega
    · rw [eq, rprs_step]
end
section
variable {g : Wd} {f : Addr} {fd : FuncData} {CI AU AW : Addr}
def sp_ritm (CI : Addr) : Nat → Sp
  | 0 => fun _ _ _ _ => False
  | n + 1 => sp_ritm1 CI n
def sp_rprs (CI : Addr) : Nat → Sp
  | 0 => fun _ _ _ _ => False
  | n + 1 => sp_rprs1 CI n
theorem sc_read_value : FnScope ["text", "at", "level", "found", "end", "items", "word", "value"] ["text", "at", "level"] (defScope s_read_value) := ⟨rfl, rfl, rfl, by decide +kernel, rfl, by decide +kernel, by decide +kernel⟩
theorem ok_rval (n : Nat) (F : Df g.K "read_value" "read_value" s_read_value f fd .none) (T : TxR g AU AW) (F_expect : Kn g "expect" 3 ["text", "at", "word"] [] (sp_exp CI)) (F_stands : Kn g "stands" 1 ["text", "at", "signs"] [] sp_stands) (F_read_string : Kn g "read_string" 4 ["text", "at", "most"] [] (sp_rstr CI)) (F_read_integer : Kn g "read_integer" 3 ["text", "at"] [] (sp_rint CI)) (F_read_items : Kn g "read_items" (2 * n + 5) ["text", "at", "level", "closing"] [] (sp_ritm CI n)) (F_read_pairs : Kn g "read_pairs" (2 * n + 5) ["text", "at", "level"] [] (sp_rprs CI n)) (X_InvalidText : XK1 g "InvalidText" CI "position") (RI : PySem.W.subIn g.K (.ref CI) (.type "BaseException") = some true ∧ PySem.W.typeIn g.K (.ref CI) = some (.type "type")) : FnG g (2 * n + 6) f fd ["text", "at", "level"] (sp_rval CI n) := by
  refine F.ok sc_read_value (fun vs H Q E h => S3.len h) (fun cdv A outer s H vs Q E hr h => ?_)
  obtain ⟨_, _, _, rfl, t, i, rfl, rfl, rfl, n20, tl, il, q⟩ := h
  have R_InvalidText := raises_own (X := cx g ["text", "at", "level", "found", "end", "items", "word", "value"] "read_value" s_read_value f cdv A outer s H E) RI.1 RI.2
  obtain ⟨A1, A2, A3, w0, w1, w2, w3⟩ := T.wds
  refine ⟨_, (pss_mid (ps_if (pt_val (pe_callG F_stands (hr.mono (by first | decide | omega)) tkD (pa_cons (pv 0) (pa_cons (pv 1) (pa_cons pe_str pa_nil))))) (pss_cons (ps_asg (pe_callG F_read_string (hr.mono (by first | decide | omega)) tkD (pa_cons (pv 0) (pa_cons (pv 1) (pa_cons (pe_callB (c_len (K := g.K)) (by rfl) T.b_len bb_len (pa_cons (pv 0) pa_nil)) pa_nil)))) (g_tup (K := g.K) (n := 2) (pgs_cons (pg_name (i := 3) sc_read_value.nd rfl (.inl rfl)) (pgs_cons (pg_name (i := 4) sc_read_value.nd rfl (.inl rfl)) pgs_nil))))
      (pss_one (ps_ret (pe_tup (pa_cons (pv 3) (pa_cons (pe_op (o_add (K := g.K)) (pv 4) pe_int) pa_nil)))))) pss_nil)
      (pss_mid (ps_if (pt_val (pe_callG F_stands (hr.mono (by first | decide | omega)) tkD (pa_cons (pv 0) (pa_cons (pv 1) (pa_cons pe_str pa_nil))))) (pss_mid (ps_if (pt_cmpR (o_eq (K := g.K) hr) (pv 2) (e_g T.c_MOST_LEVELS_notation) (nomark _)) (pss_one (ps_raise rfl tkD (pmk_x1 X_InvalidText R_InvalidText (hr.mono (by first | decide | omega)) (pa_cons (pv 1) pa_nil)))) pss_nil)
      (pss_mid (ps_if (pt_cmpR (o_eq (K := g.K) hr) (pe_ix (o_ix (K := g.K)) (pv 0) (pv 1) (fun _ _ => rfl)) pe_str (nomark _)) (pss_one (ps_ret (pe_callG F_read_pairs (hr.mono (by first | decide | omega)) tkD (pa_cons (pv 0) (pa_cons (pe_op (o_add (K := g.K)) (pv 1) pe_int) (pa_cons (pe_op (o_add (K := g.K)) (pv 2) pe_int) pa_nil)))))) pss_nil)
      (pss_mid (ps_asg (pe_callG F_read_items (hr.mono (by first | decide | omega)) tkD (pa_cons (pv 0) (pa_cons (pe_op (o_add (K := g.K)) (pv 1) pe_int) (pa_cons (pe_op (o_add (K := g.K)) (pv 2) pe_int) (pa_cons (pe_ifExp (pt_cmpR (o_eq (K := g.K) hr) (pe_ix (o_ix (K := g.K)) (pv 0) (pv 1) (fun _ _ => rfl)) pe_str (nomark _)) pe_str pe_str) pa_nil))))) (g_tup (K := g.K) (n := 2) (pgs_cons (pg_name (i := 5) sc_read_value.nd rfl (.inl rfl)) (pgs_cons (pg_name (i := 4) sc_read_value.nd rfl (.inl rfl)) pgs_nil))))
      (pss_one (ps_ret (pe_tup (pa_cons (pe_ifExp (pt_cmpR (o_eq (K := g.K) hr) (pe_ix (o_ix (K := g.K)) (pv 0) (pv 1) (fun _ _ => rfl)) pe_str (nomark _)) (pv 5) (pe_callTy call_tuple_of (by rfl) T.b_tuple bb_tuple (pa_cons (pv 5) pa_nil))) (pa_cons (pv 4) pa_nil)))))))) pss_nil)
      (pss_mid (ps_if (pt_val (pe_callG F_stands (hr.mono (by first | decide | omega)) tkD (pa_cons (pv 0) (pa_cons (pv 1) (pa_cons (pe_op (o_add (K := g.K)) pe_str (e_g T.c_DIGITS)) pa_nil))))) (pss_one (ps_ret (pe_callG F_read_integer (hr.mono (by first | decide | omega)) tkD (pa_cons (pv 0) (pa_cons (pv 1) pa_nil))))) pss_nil)
      (pss_mid (ps_for psD rfl (i_tup (K := g.K) (e_g T.c_WORDS)) (g_tup (K := g.K) (n := 2) (pgs_cons (pg_name (i := 6) sc_read_value.nd rfl (.inl rfl)) (pgs_cons (pg_name (i := 7) sc_read_value.nd rfl (.inl rfl)) pgs_nil))) (pss_one (ps_if (pt_val (pe_callG F_stands (hr.mono (by first | decide | omega)) tkD (pa_cons (pv 0) (pa_cons (pv 1) (pa_cons (pe_ix (o_ix (K := g.K)) (pv 6) pe_int (fun _ _ => rfl)) pa_nil))))) (pss_one (ps_ret (pe_tup (pa_cons (pv 7) (pa_cons (pe_callG F_expect (hr.mono (by first | decide | omega)) tkD (pa_cons (pv 0) (pa_cons (pv 1) (pa_cons (pv 6) pa_nil)))) pa_nil))))) pss_nil)))
      (pss_one (ps_raise rfl tkD (pmk_x1 X_InvalidText R_InvalidText (hr.mono (by first | decide | omega)) (pa_cons (pe_callB (call_min2 rfl) (by rfl) T.b_min (by decide +kernel) (pa_cons (pv 1) (pa_cons (pe_callB (c_len (K := g.K)) (by rfl) T.b_len bb_len (pa_cons (pv 0) pa_nil)) pa_nil))) pa_nil)))))))), ?_⟩
  have e34 : Str.ofString "\"" = S [34] := by decide +kernel
  have eB : Str.ofString "[({" = S [91, 40, 123] := by decide +kernel
  have eD : Str.ofString "-" ++ Str.ofString "0123456789" = S [45, 48, 49, 50, 51, 52, 53, 54, 55, 56, 57] := by decide +kernel
  have eDl : (Str.ofString "-").length + (Str.ofString "0123456789").length ≤ sizeLine := by rw [sizeLine_eq]; decide +kernel
  have e123 : Str.ofString "{" = S [123] := by decide +kernel
  have e91 : Str.ofString "[" = S [91] := by decide +kernel
  have e93 : Str.ofString "]" = S [93] := by decide +kernel
  have e41 : Str.ofString ")" = S [41] := by decide +kernel
  have mB : ∀ x : Nat, decide (x ∈ [91, 40, 123]) = decide (x = 91 ∨ x = 40 ∨ x = 123) := fun x => by simp
  have mD : ∀ x : Nat, decide (x ∈ [45, 48, 49, 50, 51, 52, 53, 54, 55, 56, 57]) = decide (x = 45 ∨ isDig x = true) := fun x => by
    rw [decide_eq_decide]; simp [isDig]; omega
  have cons : ∀ c, (t.drop i).head? = some c → t.drop i = c :: t.drop (i + 1) ∧ i < t.length ∧ atI t ((i : Nat) : Int) = some c := fun c hc => by
    have lt : i < t.length := by
      rcases Nat.lt_or_ge i t.length with h | h
      · exact h
      · rw [List.drop_eq_nil_of_le h] at hc; cases hc
    have e1 : t.drop i = t[i] :: t.drop (i + 1) := List.drop_eq_getElem_cons lt
    rw [e1] at hc
    simp only [List.head?_cons, Option.some.injEq] at hc
    have ha := at_lt (a := t) lt
    rw [List.getD_eq_getElem?_getD, List.getElem?_eq_getElem lt] at ha
    exact ⟨by rw [e1, hc], lt, by rw [← hc]; exact ha⟩
  -- a string
  by_cases h34 : (t.drop i).head? = some 34
  · obtain ⟨hh, lt, ha⟩ := cons _ h34
    refine mid_at (fun _ _ => False) ?_ (fun _ _ z => z.elim)
    walk_at "sx"
    rw [e34]
    refine ⟨_, _, _, rfl, t, [34], i, rfl, rfl, rfl, tl, _, rfl, ?_⟩
    rw [head_one, if_pos (by simpa using h34)]
    refine ⟨by rw [S_len]; omega, ?_⟩
    rw [S_len]
    refine ⟨_, _, _, rfl, t, i, t.length, rfl, rfl, rfl, tl, il, ?_⟩
    have er : rv t.length n (t.drop i) = match rstr t.length (t.drop i) with
      | .bad k => .bad k
      | .ok x k => .ok (.str (S x)) (k + 1) := by
        rw [hh]; unfold rv; rw [if_pos rfl]
        all_goals (cases rstr t.length (34 :: t.drop (i + 1)) <;> rfl)
    rw [er] at q
    cases hx : rstr t.length (t.drop i) with
    | bad k => rw [hx] at q; exact q
    | ok x k =>
      rw [hx] at q
      simp only at q ⊢
      intro p H' hp s e
      refine ⟨p, rfl, _, SqT.of e, rfl, _, _, rfl, _, _, rfl, rfl, fun p2 np2 => ?_⟩
      exact q p2 _ [] _ (same_none s np2) (s.trans (same_upd np2)) (by rw [upd_same]; rfl) (.str _) (by simp)
  refine mid_at (fun σ X => σ = [some (.str (S t)), some (.int (i : Nat)), some (.int (20 - (n : Int))), none, none, none, none, none] ∧ H = X) ?_ ?_
  · walk_at "sx"
    rw [e34]
    refine ⟨_, _, _, rfl, t, [34], i, rfl, rfl, rfl, tl, _, rfl, ?_⟩
    rw [head_one, if_neg (by simpa using h34)]
  rintro _ _ ⟨rfl, rfl⟩
  -- a bracket
  by_cases hB : ∃ c, (t.drop i).head? = some c ∧ (c = 91 ∨ c = 40 ∨ c = 123)
  · obtain ⟨c, hc, cB⟩ := hB
    obtain ⟨hh, lt, ha⟩ := cons _ hc
    have c34 : c ≠ 34 := fun z => h34 (by rw [hc, z])
    refine mid_at (fun _ _ => False) ?_ (fun _ _ z => z.elim)
    have cS : ({ cps := #[c] } : Str) = S [c] := rfl
    cases n with
    | zero =>
      have er : rv t.length 0 (t.drop i) = .bad 0 := by rw [hh]; unfold rv; rw [if_neg c34, if_pos cB]
      rw [er] at q
      walk_at "sx"
      rw [eB]
      refine ⟨_, _, _, rfl, t, [91, 40, 123], i, rfl, rfl, rfl, tl, _, rfl, ?_⟩
      rw [hc, Option.any_some, mB, if_pos (by simpa using cB)]
      refine mid_at (fun _ _ => False) ?_ (fun _ _ z => z.elim)
      walk_at "sx"
      rw [if_pos (by simp)]
      exact fun dd hdd => q dd _ (same_upd hdd) upd_same
    | succ n =>
      walk_at "sx"
      rw [eB]
      refine ⟨_, _, _, rfl, t, [91, 40, 123], i, rfl, rfl, rfl, tl, _, rfl, ?_⟩
      rw [hc, Option.any_some, mB, if_pos (by simpa using cB)]
      refine mid_at (fun σ X => σ = [some (.str (S t)), some (.int (i : Nat)), some (.int (20 - ((n + 1 : Nat) : Int))), none, none, none, none, none] ∧ H = X) ?_ ?_
      · walk_at "sx"
        rw [if_neg (by simp only [decide_eq_true_eq]; omega)]
        trivial
      rintro _ _ ⟨rfl, rfl⟩
      by_cases c123 : c = 123
      · refine mid_at (fun _ _ => False) ?_ (fun _ _ z => z.elim)
        walk_at "sx"
        subst c123
        refine ⟨by rw [S_len]; omega, _, ha, ?_⟩
        rw [cS, e123, if_pos (by simp)]
        have er : rv t.length (n + 1) (t.drop i) = ((rpair t.length n (t.drop (i + 1))).map PyData.dict).up 1 := by
          rw [hh]; unfold rv rpair
          rw [if_neg c34, if_pos cB]
          simp only [if_true]
          split <;> rfl
        rw [er] at q
        refine ⟨_, _, _, rfl, t, i + 1, rfl, by congr 1, by congr 1; omega, by omega, tl, by omega, ?_⟩
        cases hx : rpair t.length n (t.drop (i + 1)) with
        | bad k =>
          rw [hx] at q
          exact q.go (Same.refl _) (by omega)
        | ok D k =>
          rw [hx] at q
          simp only [Res.map, Res.up] at q ⊢
          intro p L kvs fp H' hp hL s e eL tD nd nf
          exact q p (.ref L) (L :: fp) H' hp s (by rw [e, Nat.add_assoc]) (.dct eL tD (fun z => (nf _ z).2 rfl) nd) (fun c hc => by
            rcases List.mem_cons.mp hc with rfl | h
            · exact hL
            · exact (nf c h).1)
      refine mid_at (fun σ X => σ = [some (.str (S t)), some (.int (i : Nat)), some (.int (20 - ((n + 1 : Nat) : Int))), none, none, none, none, none] ∧ H = X) ?_ ?_
      · walk_at "sx"
        refine ⟨by rw [S_len]; omega, _, ha, ?_⟩
        rw [cS, e123, if_neg (by simp [S_eq, c123])]
        trivial
      rintro _ _ ⟨rfl, rfl⟩
      obtain ⟨cl, hcl⟩ : ∃ cl : Nat, cl = if c = 91 then 93 else 41 := ⟨_, rfl⟩
      have er : rv t.length (n + 1) (t.drop i) = ((ritms t.length n cl (t.drop (i + 1))).map fun ds => if c = 91 then PyData.list ds else .tuple ds).up 1 := by
        rw [hh]; unfold rv ritms
        rw [if_neg c34, if_pos cB]
        simp only [if_neg c123]
        by_cases c91 : c = 91
        · have hc' : cl = 93 := by rw [hcl, if_pos c91]
          simp only [hc', if_pos c91]
          split <;> rfl
        · have hc' : cl = 41 := by rw [hcl, if_neg c91]
          simp only [hc', if_neg c91]
          split <;> rfl
      rw [er] at q
      refine mid_at (fun σ X => ∃ (L : Addr) (vs : List V) (fp : List Addr) (ds : List PyData) (k : Nat), σ = [some (.str (S t)), some (.int (i : Nat)), some (.int (20 - ((n + 1 : Nat) : Int))), none, some (.int ((i + (1 + k) : Nat) : Int)), some (.ref L), none, none] ∧ ritms t.length n cl (t.drop (i + 1)) = .ok ds k ∧ Same H X ∧ H L = none ∧ X L = some (.lst vs) ∧ TrL X vs ds fp ∧ ∀ c ∈ fp, H c = none ∧ c ≠ L) ?_ ?_
      · walk_at "sx"
        refine ⟨by rw [S_len]; omega, _, ha, ?_⟩
        rw [cS, e91]
        have ecl : (if decide (S [c] = S [91]) = true then V.str (Str.ofString "]") else V.str (Str.ofString ")")) = .str (S [cl]) := by
          rw [hcl, e93, e41]
          by_cases c91 : c = 91
          · rw [if_pos c91, if_pos (by simp [c91])]
          · rw [if_neg c91, if_neg (by simp [S_eq, c91])]
        have e93' : c = 91 → Str.ofString "]" = S [cl] := fun h => by rw [hcl, if_pos h, e93]
        have e41' : c ≠ 91 → Str.ofString ")" = S [cl] := fun h => by rw [hcl, if_neg h, e41]
        have c2 : cl = 93 ∨ cl = 41 := by rw [hcl]; split <;> simp
        split <;> rename_i h <;> first | rw [e93' (by simpa [S_eq] using h)] | rw [e41' (by simpa [S_eq] using h)]
        all_goals
          refine ⟨_, _, _, _, rfl, t, i + 1, cl, rfl, by congr 1, by congr 1; omega, rfl, by omega, tl, by omega, c2, ?_⟩
          cases hx : ritms t.length n cl (t.drop (i + 1)) with
          | bad k =>
            rw [hx] at q
            exact q.go (Same.refl _) (by omega)
          | ok ds k =>
            simp only
            intro p L vs fp H' hp hL s e eL tL nf
            exact ⟨p, rfl, _, SqT.of e, rfl, _, _, rfl, _, _, rfl, rfl, L, vs, fp, ds, k, by rw [Nat.add_assoc], rfl, rfl, s, hL, eL, tL, nf⟩
      rintro _ X ⟨L, vs, fp, ds, k, rfl, hx, sX, hL, eL, tL, nf⟩
      rw [hx] at q
      simp only [Res.map, Res.up] at q
      walk_at "sx"
      refine ⟨by rw [S_len]; omega, _, ha, ?_⟩
      rw [cS, e91]
      by_cases c91 : c = 91
      · rw [if_pos (by simp [c91])]
        rw [if_pos c91] at q
        exact fun p hp => q p (.ref L) (L :: fp) _ (same_none sX hp) (sX.trans (same_upd hp)) upd_same (.lst (same_upd hp _ _ eL) (tL.same (same_upd hp)) (fun z => (nf _ z).2 rfl)) (fun c hc => by
          rcases List.mem_cons.mp hc with rfl | h
          · exact hL
          · exact (nf c h).1)
      · rw [if_neg (by simp [S_eq, c91])]
        rw [if_neg c91] at q
        refine ⟨vs, .inl ⟨SqL.of eL, fun l hl p hp => ?_⟩⟩
        have s1 := same_upd (o := HO.tup vs) hl
        have s2 := s1.trans (same_upd (o := HO.tup [.ref l, .int ((i + (1 + k) : Nat) : Int)]) hp)
        exact q p (.ref l) fp _ (same_none sX (same_none s1 hp)) (sX.trans s2) upd_same (.tup (same_upd hp _ _ upd_same) (tL.same s2)) (fun c hc => (nf c hc).1)
  refine mid_at (fun σ X => σ = [some (.str (S t)), some (.int (i : Nat)), some (.int (20 - (n : Int))), none, none, none, none, none] ∧ H = X) ?_ ?_
  · walk_at "sx"
    rw [eB]
    refine ⟨_, _, _, rfl, t, [91, 40, 123], i, rfl, rfl, rfl, tl, _, rfl, ?_⟩
    rw [if_neg]
    cases hd : (t.drop i).head? with
    | none => simp
    | some c =>
      rw [Option.any_some, mB]
      simpa using fun z => hB ⟨c, hd, z⟩
  rintro _ _ ⟨rfl, rfl⟩
  -- an integer
  by_cases hD : ∃ c, (t.drop i).head? = some c ∧ (c = 45 ∨ isDig c = true)
  · obtain ⟨c, hc, cD⟩ := hD
    obtain ⟨hh, lt, ha⟩ := cons _ hc
    have c34 : c ≠ 34 := fun z => h34 (by rw [hc, z])
    have cB : ¬ (c = 91 ∨ c = 40 ∨ c = 123) := fun z => hB ⟨c, hc, z⟩
    have er : rv t.length n (t.drop i) = (ri (t.drop i)).map PyData.int := by rw [hh]; unfold rv; rw [if_neg c34, if_neg cB, if_pos cD]
    rw [er] at q
    refine mid_at (fun _ _ => False) ?_ (fun _ _ z => z.elim)
    walk_at "sx"
    refine ⟨eDl, ?_⟩
    rw [eD]
    refine ⟨_, _, _, rfl, t, _, i, rfl, rfl, rfl, tl, _, rfl, ?_⟩
    rw [hc, Option.any_some, mD, if_pos (by simpa using cD)]
    refine ⟨_, _, rfl, t, i, rfl, rfl, tl, lt, ?_⟩
    cases hx : ri (t.drop i) with
    | bad k => rw [hx] at q; exact q
    | ok m k =>
      rw [hx] at q
      exact fun p H' hp s e => q p _ [] H' hp s e (.int _) (by simp)
  refine mid_at (fun σ X => σ = [some (.str (S t)), some (.int (i : Nat)), some (.int (20 - (n : Int))), none, none, none, none, none] ∧ H = X) ?_ ?_
  · walk_at "sx"
    refine ⟨eDl, ?_⟩
    rw [eD]
    refine ⟨_, _, _, rfl, t, _, i, rfl, rfl, rfl, tl, _, rfl, ?_⟩
    rw [if_neg]
    cases hd : (t.drop i).head? with
    | none => simp
    | some c =>
      rw [Option.any_some, mD]
      simpa using fun z => hD ⟨c, hd, z⟩
  rintro _ _ ⟨rfl, rfl⟩
  -- a word
  have er : ∀ c, (t.drop i).head? = some c → rv t.length n (t.drop i) = if c = 78 then wrd [78, 111, 110, 101] .none (t.drop i) else if c = 84 then wrd [84, 114, 117, 101] (.bool true) (t.drop i) else if c = 70 then wrd [70, 97, 108, 115, 101] (.bool false) (t.drop i) else .bad 0 := fun c hc => by
    obtain ⟨hh, lt, ha⟩ := cons _ hc
    have c34 : c ≠ 34 := fun z => h34 (by rw [hc, z])
    have cB : ¬ (c = 91 ∨ c = 40 ∨ c = 123) := fun z => hB ⟨c, hc, z⟩
    have cD : ¬ (c = 45 ∨ isDig c = true) := fun z => hD ⟨c, hc, z⟩
    rw [hh]; unfold rv; rw [if_neg c34, if_neg cB, if_neg cD]
  refine mid_at (fun σ X => (∃ v6 v7, σ = [some (.str (S t)), some (.int (i : Nat)), some (.int (20 - (n : Int))), none, none, none, v6, v7]) ∧ H = X ∧ ∀ c, (t.drop i).head? = some c → c ≠ 78 ∧ c ≠ 84 ∧ c ≠ 70) ?_ ?_
  · walk_at "sx"
    refine ⟨⟨_, w0 _⟩, ?_⟩
    refine for_by 3 (fun j σ X => (∃ v6 v7, σ = [some (.str (S t)), some (.int (i : Nat)), some (.int (20 - (n : Int))), none, none, none, v6, v7]) ∧ H = X ∧ ∀ c, (t.drop i).head? = some c → (0 < j → c ≠ 78) ∧ (1 < j → c ≠ 84) ∧ (2 < j → c ≠ 70)) ⟨⟨_, _, rfl⟩, rfl, fun c _ => ⟨by omega, by omega, by omega⟩⟩ (fun j σ X lt P => ⟨_, _, w0 _, List.getElem?_eq_getElem lt⟩) (fun σ X P => ⟨_, w0 _, Nat.le_refl _⟩) (fun j σ X z X' lt P yl => ?_) (fun σ X P => ?_)
    · obtain ⟨⟨v6, v7, rfl⟩, rfl, no⟩ := P
      obtain ⟨rfl, hx⟩ := yl
      have hx := hx _ (w0 _)
      obtain ⟨B, w, l, v, d, rfl, hw, l1, l2, td, hr, hj⟩ : ∃ (B : Addr) (w : List Nat) (l : Nat) (v : V) (d : PyData), z = .ref B ∧ (∀ H : Hp, SqT g.K H B [.str (S w), v]) ∧ w.head? = some l ∧ w.length ≤ 10 ∧ (∀ H : Hp, Tr H v d []) ∧ ((t.drop i).head? = some l → rv t.length n (t.drop i) = wrd w d (t.drop i)) ∧ ∀ c, (t.drop i).head? = some c → c ≠ l → (0 < j + 1 → c ≠ 78) ∧ (1 < j + 1 → c ≠ 84) ∧ (2 < j + 1 → c ≠ 70) := by
        match j, lt, hx with
        | 0, _, hx => cases hx; exact ⟨A1, _, 78, _, .none, rfl, w1, rfl, by simp, fun _ => .non, fun h => by rw [er _ h, if_pos rfl], fun c hc hn => ⟨fun _ => hn, by omega, by omega⟩⟩
        | 1, _, hx => cases hx; exact ⟨A2, _, 84, _, .bool true, rfl, w2, rfl, by simp, fun _ => .bl _, fun h => by rw [er _ h, if_neg (by decide), if_pos rfl], fun c hc hn => ⟨fun _ => (no c hc).1 (by omega), fun _ => hn, by omega⟩⟩
        | 2, _, hx => cases hx; exact ⟨A3, _, 70, _, .bool false, rfl, w3, rfl, by simp, fun _ => .bl _, fun h => by rw [er _ h, if_neg (by decide), if_neg (by decide), if_pos rfl], fun c hc hn => ⟨fun _ => (no c hc).1 (by omega), fun _ => (no c hc).2.1 (by omega), fun _ => hn⟩⟩
      walk_at "sx"
      refine ⟨_, hw _, rfl, _, _, rfl, _, _, rfl, rfl, ?_⟩
      obtain ⟨w', rfl⟩ : ∃ w', w = l :: w' := by
        cases w with
        | nil => cases l1
        | cons a b => simp only [List.head?_cons, Option.some.injEq] at l1; exact ⟨b, by rw [l1]⟩
      rw [RS.ix_s]
      refine ⟨by rw [S_len, sizeLine_eq]; omega, l, ?_, ?_⟩
      · have := at_lt (a := l :: w') (i := 0) (by simp)
        exact this
      have lS : ({ cps := #[l] } : Str) = S [l] := rfl
      rw [lS]
      refine ⟨_, _, _, rfl, t, [l], i, rfl, rfl, rfl, tl, _, rfl, ?_⟩
      rw [head_one]
      by_cases hl : (t.drop i).head? = some l
      · rw [if_pos (by simpa using hl)]
        refine ⟨_, _, _, rfl, t, l :: w', i, rfl, rfl, rfl, tl, l2, il, ?_⟩
        rw [hr hl] at q
        unfold wrd at q
        cases hx : rex (l :: w') (t.drop i) with
        | bad k => rw [hx] at q; exact q
        | ok u k =>
          rw [hx] at q
          exact fun H' s p hp => q p v [] _ (same_none s hp) (s.trans (same_upd hp)) upd_same (td _) (by simp)
      · rw [if_neg (by simpa using hl)]
        exact ⟨⟨_, rfl⟩, rfl, fun c hc => hj c hc (fun z => hl (by rw [hc, z]))⟩
    · obtain ⟨h1, h2, no⟩ := P
      exact ⟨h1, h2, fun c hc => ⟨(no c hc).1 (by omega), (no c hc).2.1 (by omega), (no c hc).2.2 (by omega)⟩⟩
  rintro _ _ ⟨⟨v6, v7, rfl⟩, rfl, no⟩
  walk_at "sx"
  refine ⟨by rw [S_len]; omega, fun dd hdd => ?_⟩
  have eb : rv t.length n (t.drop i) = .bad 0 := by
    cases hh : t.drop i with
    | nil => cases n <;> simp [rv]
    | cons c r =>
      have hc : (t.drop i).head? = some c := by rw [hh]; rfl
      obtain ⟨a, b, d⟩ := no c hc
      rw [← hh, er c hc, if_neg a, if_neg b, if_neg d]
  rw [eb] at q
  have em : (if ((S t).length : Int) < (i : Int) then ((S t).length : Int) else (i : Int)) = (i : Nat) := by
    rw [if_neg (by rw [S_len]; omega)]
  rw [em]
  exact q dd _ (same_upd hdd) upd_same
end
/-- a deed as it is read: its key, its value if it puts one -/
abbrev Rdd := List Nat × Option PyData
def rkey (r : List Nat) : Res (List Nat) := match rstr 200 r with
  | .bad k => .bad k
  | .ok x k => if x = [] then .bad k else .ok x (k + 1)
def rdeed (L : Nat) (r : List Nat) : Res Rdd :=
  if r.head? = some 112 then match rex [112, 117, 116, 32] r with
    | .bad k => .bad k
    | .ok _ _ => match rkey (r.drop 4) with
      | .bad k => .bad (4 + k)
      | .ok x k => match rex [32] (r.drop (4 + k)) with
        | .bad j => .bad (4 + k + j)
        | .ok _ _ => ((rv L 20 (r.drop (4 + k + 1))).map fun d => (x, some d)).up (4 + k + 1)
  else match rex [100, 114, 111, 112, 32] r with
    | .bad k => .bad k
    | .ok _ _ => ((rkey (r.drop 5)).map fun x => (x, none)).up 5
def rdeeds (L : Nat) : Nat → List Nat → Res (List Rdd)
  | 0, _ => .bad 0
  | m + 1, r => match rdeed L r with
    | .bad k => .bad k
    | .ok p k => if (r.drop k).head? = some 44 then match rex [44, 32] (r.drop k) with
        | .bad a => .bad (k + a)
        | .ok _ _ => ((rdeeds L m (r.drop (k + 2))).map fun ps => p :: ps).up (k + 2)
      else if r.drop k = [] then .ok [p] k else .bad k
theorem prd_imp {α β : Type} {F G : α → β → Prop} : ∀ {xs : List α} {ys : List β}, Paired F xs ys → (∀ x y, F x y → G x y) → Paired G xs ys
  | _, _, .nil, _ => .nil
  | _, _, .cons h hs, k => .cons (k _ _ h) (prd_imp hs k)
theorem prd_snoc {α β : Type} {F : α → β → Prop} : ∀ {xs : List α} {ys : List β} {x : α} {y : β}, Paired F xs ys → F x y → Paired F (xs ++ [x]) (ys ++ [y])
  | _, _, _, _, .nil, h => .cons h .nil
  | _, _, _, _, .cons a as, h => .cons a (prd_snoc as h)
theorem rmore_step {ps : List Rdd} (x : Res (List Rdd)) (d : Rdd) (k kk j : Nat) : (((((x.map fun as => d :: as).up k).up j).map fun as => ps ++ as).up kk) = (x.map fun as => (ps ++ [d]) ++ as).up (kk + j + k) := by
  cases x with
  | bad i => simp only [Res.map, Res.up]; congr 1; omega
  | ok b i => simp only [Res.map, Res.up, List.append_assoc, List.cons_append, List.nil_append]; congr 1; omega
/-- what stands behind a deed -/
def rmore (L m : Nat) (r : List Nat) : Res (List Rdd) := if r.head? = some 44 then match rex [44, 32] r with
    | .bad a => .bad a
    | .ok _ _ => (rdeeds L m (r.drop 2)).up 2
  else if r = [] then .ok [] 0 else .bad 0
theorem rdeeds_eq (L m : Nat) (r : List Nat) : rdeeds L (m + 1) r = match rdeed L r with
    | .bad k => .bad k
    | .ok p k => ((rmore L m (r.drop k)).map fun ps => p :: ps).up k := by
  simp only [rdeeds]
  cases rdeed L r with
  | bad k => rfl
  | ok p k =>
    simp only [rmore]
    by_cases h : (r.drop k).head? = some 44
    · rw [if_pos h, if_pos h]
      cases rex [44, 32] (r.drop k) with
      | bad a => rfl
      | ok u a =>
        simp only [List.drop_drop]
        cases rdeeds L m (r.drop (k + 2)) with
        | bad b => simp only [Res.map, Res.up]; congr 1; omega
        | ok ps b => simp only [Res.map, Res.up]; congr 1; omega
    · rw [if_neg h, if_neg h]
      by_cases e : r.drop k = []
      · rw [if_pos e, if_pos e]; rfl
      · rw [if_neg e, if_neg e]; rfl
theorem rkey_len {r x : List Nat} {k : Nat} (h : rkey r = .ok x k) : 1 ≤ k ∧ k ≤ r.length ∧ x.length ≤ 200 ∧ 1 ≤ x.length := by
  unfold rkey at h
  cases hx : rstr 200 r with
  | bad j => rw [hx] at h; cases h
  | ok y j =>
    rw [hx] at h
    simp only at h
    split at h
    · cases h
    · rename_i ne
      cases h
      have := rstr_len hx
      have : x.length ≠ 0 := fun z => ne (List.eq_nil_of_length_eq_zero z)
      omega
theorem rdeed_len {L : Nat} {r : List Nat} {p : Rdd} {k : Nat} (h : rdeed L r = .ok p k) : 1 ≤ k ∧ k ≤ r.length := by
  unfold rdeed at h
  split at h
  · cases hx : rex [112, 117, 116, 32] r with
    | bad j => rw [hx] at h; cases h
    | ok u j =>
      rw [hx] at h
      simp only at h
      have l1 := rex_len hx
      simp only [List.length_cons, List.length_nil] at l1
      cases hy : rkey (r.drop 4) with
      | bad j => rw [hy] at h; cases h
      | ok x k1 =>
        rw [hy] at h
        simp only at h
        have l2 := rkey_len hy
        rw [List.length_drop] at l2
        cases hz : rex [32] (r.drop (4 + k1)) with
        | bad j => rw [hz] at h; cases h
        | ok u j =>
          rw [hz] at h
          simp only at h
          have l3 := rex_len hz
          rw [List.length_drop] at l3
          simp only [List.length_cons, List.length_nil] at l3
          cases hv : rv L 20 (r.drop (4 + k1 + 1)) with
          | bad j => rw [hv] at h; cases h
          | ok d j =>
            rw [hv] at h
            simp only [Res.map, Res.up] at h
            cases h
            have l4 := rv_len _ _ _ _ hv
            rw [List.length_drop] at l4
            omega
  · cases hx : rex [100, 114, 111, 112, 32] r with
    | bad j => rw [hx] at h; cases h
    | ok u j =>
      rw [hx] at h
      simp only at h
      have l1 := rex_len hx
      simp only [List.length_cons, List.length_nil] at l1
      cases hy : rkey (r.drop 5) with
      | bad j => rw [hy] at h; cases h
      | ok x k1 =>
        rw [hy] at h
        simp only [Res.map, Res.up] at h
        cases h
        have l2 := rkey_len hy
        rw [List.length_drop] at l2
        omega
/-- a deed at v -/
def RdAt (H : Hp) (v : V) (p : Rdd) (fp : List Addr) : Prop := ∃ a : Addr, v = .ref a ∧ match p with
  | (x, none) => H a = some (.tup [.str "drop", .str (S x)]) ∧ fp = []
  | (x, some d) => ∃ u, H a = some (.tup [.str "put", .str (S x), u]) ∧ Tr H u d fp
theorem RdAt.same {H G : Hp} {v : V} {p : Rdd} {fp : List Addr} (h : RdAt H v p fp) (s : Same H G) : RdAt G v p fp := by
  obtain ⟨a, rfl, h⟩ := h
  obtain ⟨x, d⟩ := p
  cases d with
  | none => exact ⟨a, rfl, s _ _ h.1, h.2⟩
  | some d =>
    obtain ⟨u, h1, h2⟩ := h
    exact ⟨a, rfl, u, s _ _ h1, h2.same s⟩
/-- one list changes -/
theorem RdAt.but {H : Hp} {o : HO} {v : V} {p : Rdd} {fp : List Addr} {L : Addr} {xs : List V} (h : RdAt H v p fp) (e : H L = some (.lst xs)) (nf : L ∉ fp) : RdAt (upd H L o) v p fp := by
  have nt : ∀ ys, H L ≠ some (.tup ys) := fun ys z => by rw [e] at z; cases z
  have kp : ∀ c u, c ≠ L → H c = some u → upd H L o c = some u := fun c u n z => by rw [upd_ne n]; exact z
  obtain ⟨a, rfl, h⟩ := h
  obtain ⟨x, d⟩ := p
  cases d with
  | none => exact ⟨a, rfl, kp _ _ (fun z => nt _ (z ▸ h.1)) h.1, h.2⟩
  | some d =>
    obtain ⟨u, h1, h2⟩ := h
    exact ⟨a, rfl, u, kp _ _ (fun z => nt _ (z ▸ h1)) h1, h2.but nt kp nf⟩
section
variable {g : Wd} {f : Addr} {fd : FuncData} {CI AU AW : Addr}
theorem sc_checked_text : FnScope ["text"] ["text"] (defScope s_checked_text) := ⟨rfl, rfl, rfl, by decide +kernel, rfl, by decide +kernel, by decide +kernel⟩
def sp_ctext : Sp := S1 fun a H Q _ => ∃ x, a = .str x ∧ Q (.str x) H
theorem ok_ctext (F : Df g.K "checked_text" "checked_text" s_checked_text f fd .none) (T : TxR g AU AW) (X_InvalidText : XK1 g "InvalidText" CI "position") (RI : PySem.W.subIn g.K (.ref CI) (.type "BaseException") = some true ∧ PySem.W.typeIn g.K (.ref CI) = some (.type "type")) : FnG g 3 f fd ["text"] sp_ctext := by
  refine F.ok sc_checked_text (fun vs H Q E h => S1.len h) (fun cdv A outer s H vs Q E hr h => ?_)
  obtain ⟨_, rfl, x, rfl, q⟩ := h
  have R_InvalidText := raises_own (X := cx g ["text"] "checked_text" s_checked_text f cdv A outer s H E) RI.1 RI.2
  refine ⟨_, (pss_cons (ps_if (pt_not (pt_val (pe_callB (c_is "str") (by rfl) T.b_isinstance bb_isinstance (pa_cons (pv 0) (pa_cons (pe_bltn (v := .ty "str") rfl T.b_str bb_str rfl) pa_nil))))) (pss_one (ps_raise rfl tkD (pmk_x1 X_InvalidText R_InvalidText (hr.mono (by first | decide | omega)) (pa_cons pe_non pa_nil)))) pss_nil)
      (pss_one (ps_ret (pv 0)))), ?_⟩
  walk_at "sx"
  exact q
theorem sc_ended : FnScope ["text", "found", "at"] ["text", "found", "at"] (defScope s_ended) := ⟨rfl, rfl, rfl, by decide +kernel, rfl, by decide +kernel, by decide +kernel⟩
def sp_ended (CI : Addr) : Sp := S3 fun a b c H Q E => ∃ (t : List Nat) (i : Nat), a = .str (S t) ∧ c = .int (i : Nat) ∧ t.length ≤ 10000000 ∧ if i < t.length then BadT CI H i E else Q b H
theorem ok_ended (F : Df g.K "ended" "ended" s_ended f fd .none) (T : TxR g AU AW) (X_InvalidText : XK1 g "InvalidText" CI "position") (RI : PySem.W.subIn g.K (.ref CI) (.type "BaseException") = some true ∧ PySem.W.typeIn g.K (.ref CI) = some (.type "type")) : FnG g 3 f fd ["text", "found", "at"] (sp_ended CI) := by
  refine F.ok sc_ended (fun vs H Q E h => S3.len h) (fun cdv A outer s H vs Q E hr h => ?_)
  obtain ⟨_, b, _, rfl, t, i, rfl, rfl, tl, q⟩ := h
  have R_InvalidText := raises_own (X := cx g ["text", "found", "at"] "ended" s_ended f cdv A outer s H E) RI.1 RI.2
  refine ⟨_, (pss_cons (ps_if (pt_cmpR op_lt (pv 2) (pe_callB (c_len (K := g.K)) (by rfl) T.b_len bb_len (pa_cons (pv 0) pa_nil)) (nomark _)) (pss_one (ps_raise rfl tkD (pmk_x1 X_InvalidText R_InvalidText (hr.mono (by first | decide | omega)) (pa_cons (pv 2) pa_nil)))) pss_nil)
      (pss_one (ps_ret (pv 1)))), ?_⟩
  walk_at "sx"
  refine ⟨by rw [S_len]; omega, ?_⟩
  rw [S_len]
  by_cases lt : i < t.length
  · rw [if_pos lt] at q
    rw [if_pos (by simp only [decide_eq_true_eq]; omega)]
    exact fun dd hdd => q dd _ (same_upd hdd) upd_same
  · rw [if_neg lt] at q
    rw [if_neg (by simp only [decide_eq_true_eq]; omega)]
    exact q
theorem sc_read_deed : FnScope ["text", "at", "key", "value"] ["text", "at"] (defScope s_read_deed) := ⟨rfl, rfl, rfl, by decide +kernel, rfl, by decide +kernel, by decide +kernel⟩
def sp_rdeed (CI : Addr) : Sp := S2 fun a b H Q E => ∃ (t : List Nat) (i : Nat), a = .str (S t) ∧ b = .int (i : Nat) ∧ t.length ≤ 10000000 ∧ i ≤ t.length ∧ match rdeed t.length (t.drop i) with
  | .bad k => BadT CI H (i + k) E
  | .ok d k => ∀ (p : Addr) (v : V) (fp : List Addr) H', H p = none → Same H H' → H' p = some (.tup [v, .int ((i + k : Nat) : Int)]) → RdAt H' v d fp → (∀ c ∈ fp, H c = none) → Q (.ref p) H'
theorem ok_rdeed (F : Df g.K "read_deed" "read_deed" s_read_deed f fd .none) (T : TxR g AU AW) (F_expect : Kn g "expect" 3 ["text", "at", "word"] [] (sp_exp CI)) (F_stands : Kn g "stands" 1 ["text", "at", "signs"] [] sp_stands) (F_read_key : Kn g "read_key" 5 ["text", "at"] [] (sp_rkey CI)) (F_read_value : Kn g "read_value" 46 ["text", "at", "level"] [] (sp_rval CI 20)) : FnG g 47 f fd ["text", "at"] (sp_rdeed CI) := by
  refine F.ok sc_read_deed (fun vs H Q E h => S2.len h) (fun cdv A outer s H vs Q E hr h => ?_)
  obtain ⟨_, _, rfl, t, i, rfl, rfl, tl, il, q⟩ := h
  refine ⟨_, (pss_mid (ps_if (pt_val (pe_callG F_stands (hr.mono (by first | decide | omega)) tkD (pa_cons (pv 0) (pa_cons (pv 1) (pa_cons pe_str pa_nil))))) (pss_mid (ps_asg (pe_callG F_read_key (hr.mono (by first | decide | omega)) tkD (pa_cons (pv 0) (pa_cons (pe_callG F_expect (hr.mono (by first | decide | omega)) tkD (pa_cons (pv 0) (pa_cons (pv 1) (pa_cons pe_str pa_nil)))) pa_nil))) (g_tup (K := g.K) (n := 2) (pgs_cons (pg_name (i := 2) sc_read_deed.nd rfl (.inl rfl)) (pgs_cons (pg_name (i := 1) sc_read_deed.nd rfl (.inl rfl)) pgs_nil))))
      (pss_mid (ps_asg (pe_callG F_read_value (hr.mono (by first | decide | omega)) tkD (pa_cons (pv 0) (pa_cons (pe_callG F_expect (hr.mono (by first | decide | omega)) tkD (pa_cons (pv 0) (pa_cons (pv 1) (pa_cons pe_str pa_nil)))) (pa_cons pe_int pa_nil)))) (g_tup (K := g.K) (n := 2) (pgs_cons (pg_name (i := 3) sc_read_deed.nd rfl (.inl rfl)) (pgs_cons (pg_name (i := 1) sc_read_deed.nd rfl (.inl rfl)) pgs_nil))))
      (pss_one (ps_ret (pe_tup (pa_cons (pe_tup (pa_cons pe_str (pa_cons (pv 2) (pa_cons (pv 3) pa_nil)))) (pa_cons (pv 1) pa_nil))))))) pss_nil)
      (pss_mid (ps_asg (pe_callG F_read_key (hr.mono (by first | decide | omega)) tkD (pa_cons (pv 0) (pa_cons (pe_callG F_expect (hr.mono (by first | decide | omega)) tkD (pa_cons (pv 0) (pa_cons (pv 1) (pa_cons pe_str pa_nil)))) pa_nil))) (g_tup (K := g.K) (n := 2) (pgs_cons (pg_name (i := 2) sc_read_deed.nd rfl (.inl rfl)) (pgs_cons (pg_name (i := 1) sc_read_deed.nd rfl (.inl rfl)) pgs_nil))))
      (pss_one (ps_ret (pe_tup (pa_cons (pe_tup (pa_cons pe_str (pa_cons (pv 2) pa_nil))) (pa_cons (pv 1) pa_nil))))))), ?_⟩
  have e112 : Str.ofString "p" = S [112] := by decide +kernel
  have eput : Str.ofString "put " = S [112, 117, 116, 32] := by decide +kernel
  have edrop : Str.ofString "drop " = S [100, 114, 111, 112, 32] := by decide +kernel
  have e32 : Str.ofString " " = S [32] := by decide +kernel
  have ed : ∀ a : Nat, (t.drop i).drop a = t.drop (i + a) := fun a => by rw [List.drop_drop]
  -- a key
  have key : ∀ (j : Nat) (Y : Hp) (Qf : VK) (Ef : XK), j ≤ t.length → (∀ k, rkey (t.drop j) = .bad k → BadT CI Y (j + k) Ef) → (∀ x k, rkey (t.drop j) = .ok x k → ∀ (p : Addr) H', Y p = none → Same Y H' → H' p = some (.tup [.str (S x), .int ((j + k : Nat) : Int)]) → Qf (.ref p) H') → sp_rkey CI [.str (S t), .int (j : Nat)] Y Qf Ef := fun j Y Qf Ef jl b o => by
    refine ⟨_, _, rfl, t, j, rfl, rfl, tl, jl, ?_⟩
    unfold rkey at b o
    cases hx : rstr 200 (t.drop j) with
    | bad k => rw [hx] at b; exact b k rfl
    | ok x k =>
      rw [hx] at b o
      simp only at b o ⊢
      by_cases e : x = []
      · rw [if_pos e]
        rw [if_pos e] at b
        exact b k rfl
      · rw [if_neg e]
        rw [if_neg e] at o
        exact o x (k + 1) rfl
  by_cases h112 : (t.drop i).head? = some 112
  · unfold rdeed at q
    rw [if_pos h112, ed] at q
    simp only [ed] at q
    refine mid_at (fun _ _ => False) ?_ (fun _ _ z => z.elim)
    walk_at "sx"
    rw [e112]
    refine ⟨_, _, _, rfl, t, [112], i, rfl, rfl, rfl, tl, _, rfl, ?_⟩
    rw [head_one, if_pos (by simpa using h112)]
    cases hx : rex [112, 117, 116, 32] (t.drop i) with
    | bad k =>
      rw [hx] at q
      refine mid_at (fun _ _ => False) ?_ (fun _ _ z => z.elim)
      walk_at "sx"
      rw [eput]
      refine ⟨_, _, _, rfl, t, _, i, rfl, rfl, rfl, tl, by simp, il, ?_⟩
      rw [hx]
      exact q
    | ok u k =>
    rw [hx] at q
    simp only at q
    have l1 := rex_len hx
    rw [List.length_drop] at l1
    simp only [List.length_cons, List.length_nil] at l1
    cases hy : rkey (t.drop (i + 4)) with
    | bad j =>
      rw [hy] at q
      refine mid_at (fun _ _ => False) ?_ (fun _ _ z => z.elim)
      walk_at "sx"
      rw [eput]
      refine ⟨_, _, _, rfl, t, _, i, rfl, rfl, rfl, tl, by simp, il, ?_⟩
      rw [hx]
      intro H' s
      rw [l1.1]
      refine key (i + 4) H' _ _ (by omega) (fun k hk => ?_) (fun x k hk => ?_)
      · rw [hy] at hk; cases hk
        exact q.go s (by omega)
      · rw [hy] at hk; cases hk
    | ok x k1 =>
    rw [hy] at q
    simp only at q
    have l2 := rkey_len hy
    rw [List.length_drop] at l2
    refine mid_at (fun σ Y => σ = [some (.str (S t)), some (.int ((i + (4 + k1) : Nat) : Int)), some (.str (S x)), none] ∧ Same H Y) ?_ ?_
    · walk_at "sx"
      rw [eput]
      refine ⟨_, _, _, rfl, t, _, i, rfl, rfl, rfl, tl, by simp, il, ?_⟩
      rw [hx]
      intro H' s
      rw [l1.1]
      refine key (i + 4) H' _ _ (by omega) (fun k hk => ?_) (fun x k hk => ?_)
      · rw [hy] at hk; cases hk
      · rw [hy] at hk; cases hk
        exact fun p H2 hp s2 e => ⟨p, rfl, _, SqT.of e, rfl, _, _, rfl, _, _, rfl, rfl, by rw [Nat.add_assoc], rfl, s.trans s2⟩
    rintro _ Y ⟨rfl, sY⟩
    cases hz : rex [32] (t.drop (i + (4 + k1))) with
    | bad j =>
      rw [hz] at q
      refine mid_at (fun _ _ => False) ?_ (fun _ _ z => z.elim)
      walk_at "sx"
      rw [e32]
      refine ⟨_, _, _, rfl, t, _, i + (4 + k1), rfl, rfl, rfl, tl, by simp, by omega, ?_⟩
      rw [hz]
      exact q.go sY (by omega)
    | ok u2 j =>
    rw [hz] at q
    simp only at q
    have l3 := rex_len hz
    rw [List.length_drop] at l3
    simp only [List.length_cons, List.length_nil] at l3
    cases hv : rv t.length 20 (t.drop (i + (4 + k1 + 1))) with
    | bad j2 =>
      rw [hv] at q
      refine mid_at (fun _ _ => False) ?_ (fun _ _ z => z.elim)
      walk_at "sx"
      rw [e32]
      refine ⟨_, _, _, rfl, t, _, i + (4 + k1), rfl, rfl, rfl, tl, by simp, by omega, ?_⟩
      rw [hz]
      intro H' s
      refine ⟨_, _, _, rfl, t, i + (4 + k1 + 1), rfl, by rw [l3.1]; congr 1, by rfl, by decide, tl, by omega, ?_⟩
      rw [hv]
      exact q.go (sY.trans s) (by omega)
    | ok d j2 =>
    rw [hv] at q
    simp only [Res.map, Res.up] at q
    refine mid_at (fun σ Z => ∃ v fp, σ = [some (.str (S t)), some (.int ((i + (4 + k1 + 1 + j2) : Nat) : Int)), some (.str (S x)), some v] ∧ Same H Z ∧ Tr Z v d fp ∧ ∀ c ∈ fp, H c = none) ?_ ?_
    · walk_at "sx"
      rw [e32]
      refine ⟨_, _, _, rfl, t, _, i + (4 + k1), rfl, rfl, rfl, tl, by simp, by omega, ?_⟩
      rw [hz]
      intro H' s
      refine ⟨_, _, _, rfl, t, i + (4 + k1 + 1), rfl, by rw [l3.1]; congr 1, by rfl, by decide, tl, by omega, ?_⟩
      rw [hv]
      simp only
      intro p v fp H2 hp s2 e tv nv
      exact ⟨p, rfl, _, SqT.of e, rfl, v, _, rfl, _, _, rfl, rfl, by rw [Nat.add_assoc], (sY.trans s).trans s2, fp, tv, fun c hc => same_none (sY.trans s) (nv c hc)⟩
    rintro _ Z ⟨v, fp, rfl, sZ, tv, nv⟩
    walk_at "sx"
    intro p hp p2 hp2
    have s1 := same_upd (o := HO.tup [.str "put", .str (S x), v]) hp
    have s2 := s1.trans (same_upd (o := HO.tup [.ref p, .int ((i + (4 + k1 + 1 + j2) : Nat) : Int)]) hp2)
    exact q p2 (.ref p) fp _ (same_none sZ (same_none s1 hp2)) (sZ.trans s2) upd_same ⟨p, rfl, v, same_upd hp2 _ _ upd_same, tv.same s2⟩ nv
  · unfold rdeed at q
    rw [if_neg h112] at q
    simp only [ed] at q
    refine mid_at (fun σ X => σ = [some (.str (S t)), some (.int (i : Nat)), none, none] ∧ H = X) ?_ ?_
    · walk_at "sx"
      rw [e112]
      refine ⟨_, _, _, rfl, t, [112], i, rfl, rfl, rfl, tl, _, rfl, ?_⟩
      rw [head_one, if_neg (by simpa using h112)]
    rintro _ _ ⟨rfl, rfl⟩
    cases hx : rex [100, 114, 111, 112, 32] (t.drop i) with
    | bad k =>
      rw [hx] at q
      refine mid_at (fun _ _ => False) ?_ (fun _ _ z => z.elim)
      walk_at "sx"
      rw [edrop]
      refine ⟨_, _, _, rfl, t, _, i, rfl, rfl, rfl, tl, by simp, il, ?_⟩
      rw [hx]
      exact q
    | ok u k =>
    rw [hx] at q
    simp only at q
    have l1 := rex_len hx
    rw [List.length_drop] at l1
    simp only [List.length_cons, List.length_nil] at l1
    cases hy : rkey (t.drop (i + 5)) with
    | bad j =>
      rw [hy] at q
      simp only [Res.map, Res.up] at q
      refine mid_at (fun _ _ => False) ?_ (fun _ _ z => z.elim)
      walk_at "sx"
      rw [edrop]
      refine ⟨_, _, _, rfl, t, _, i, rfl, rfl, rfl, tl, by simp, il, ?_⟩
      rw [hx]
      intro H' s
      rw [l1.1]
      refine key (i + 5) H' _ _ (by omega) (fun k hk => ?_) (fun x k hk => ?_)
      · rw [hy] at hk; cases hk
        exact q.go s (by omega)
      · rw [hy] at hk; cases hk
    | ok x k1 =>
    rw [hy] at q
    simp only [Res.map, Res.up] at q
    refine mid_at (fun σ Y => σ = [some (.str (S t)), some (.int ((i + (5 + k1) : Nat) : Int)), some (.str (S x)), none] ∧ Same H Y) ?_ ?_
    · walk_at "sx"
      rw [edrop]
      refine ⟨_, _, _, rfl, t, _, i, rfl, rfl, rfl, tl, by simp, il, ?_⟩
      rw [hx]
      intro H' s
      rw [l1.1]
      refine key (i + 5) H' _ _ (by omega) (fun k hk => ?_) (fun x k hk => ?_)
      · rw [hy] at hk; cases hk
      · rw [hy] at hk; cases hk
        exact fun p H2 hp s2 e => ⟨p, rfl, _, SqT.of e, rfl, _, _, rfl, _, _, rfl, rfl, by rw [Nat.add_assoc], rfl, s.trans s2⟩
    rintro _ Y ⟨rfl, sY⟩
    walk_at "sx"
    intro p hp p2 hp2
    have s1 := same_upd (o := HO.tup [.str "drop", .str (S x)]) hp
    have s2 := s1.trans (same_upd (o := HO.tup [.ref p, .int ((i + (5 + k1) : Nat) : Int)]) hp2)
    exact q p2 (.ref p) [] _ (same_none sY (same_none s1 hp2)) (sY.trans s2) upd_same ⟨p, rfl, same_upd hp2 _ _ upd_same, rfl⟩ (by simp)
theorem sc_read_deeds : FnScope ["text", "deed", "at", "found"] ["text"] (defScope s_read_deeds) := ⟨rfl, rfl, rfl, by decide +kernel, rfl, by decide +kernel, by decide +kernel⟩
def sp_rdeeds (CI : Addr) : Sp := S1 fun a H Q E => ∃ (t : List Nat), a = .str (S t) ∧ t.length ≤ 10000000 ∧ match rdeeds t.length (t.length + 1) t with
  | .bad k => BadT CI H k E
  | .ok ps _ => ∀ (L : Addr) (vs : List V) (fa : List Addr) H', H L = none → Same H H' → H' L = some (.lst vs) → Paired (fun v p => ∃ fp, RdAt H' v p fp ∧ ∀ c ∈ fp, H c = none ∧ c ≠ L) vs ps → Q (.ref L) H'
theorem ok_rdeeds (F : Df g.K "read_deeds" "read_deeds" s_read_deeds f fd .none) (T : TxR g AU AW) (F_checked_text : Kn g "checked_text" 3 ["text"] [] sp_ctext) (F_ended : Kn g "ended" 3 ["text", "found", "at"] [] (sp_ended CI)) (F_expect : Kn g "expect" 3 ["text", "at", "word"] [] (sp_exp CI)) (F_stands : Kn g "stands" 1 ["text", "at", "signs"] [] sp_stands) (F_read_deed : Kn g "read_deed" 47 ["text", "at"] [] (sp_rdeed CI)) : FnG g 48 f fd ["text"] (sp_rdeeds CI) := by
  refine F.ok sc_read_deeds (fun vs H Q E h => S1.len h) (fun cdv A outer s H vs Q E hr h => ?_)
  obtain ⟨_, rfl, t, rfl, tl, q⟩ := h
  refine ⟨_, (pss_mid (ps_asg (pe_callG F_read_deed (hr.mono (by first | decide | omega)) tkD (pa_cons (pe_callG F_checked_text (hr.mono (by first | decide | omega)) tkD (pa_cons (pv 0) pa_nil)) (pa_cons pe_int pa_nil))) (g_tup (K := g.K) (n := 2) (pgs_cons (pg_name (i := 1) sc_read_deeds.nd rfl (.inl rfl)) (pgs_cons (pg_name (i := 2) sc_read_deeds.nd rfl (.inl rfl)) pgs_nil))))
      (pss_mid (ps_set (i := 3) sc_read_deeds.nd rfl (Or.inl rfl) (pe_lst (pa_cons (pv 1) pa_nil)))
      (pss_mid (ps_while psD (pt_val (pe_callG F_stands (hr.mono (by first | decide | omega)) tkD (pa_cons (pv 0) (pa_cons (pv 2) (pa_cons pe_str pa_nil))))) (pss_cons (ps_asg (pe_callG F_read_deed (hr.mono (by first | decide | omega)) tkD (pa_cons (pv 0) (pa_cons (pe_callG F_expect (hr.mono (by first | decide | omega)) tkD (pa_cons (pv 0) (pa_cons (pv 2) (pa_cons pe_str pa_nil)))) pa_nil))) (g_tup (K := g.K) (n := 2) (pgs_cons (pg_name (i := 1) sc_read_deeds.nd rfl (.inl rfl)) (pgs_cons (pg_name (i := 2) sc_read_deeds.nd rfl (.inl rfl)) pgs_nil))))
      (pss_one (ps_expr (e_bm (K := g.K) PySem.F.plainAttrs_list PySem.F.slot_list_append PySem.F.type_list_append mt_append (pv 3) (pa_cons (pv 1) pa_nil))))))
      (pss_one (ps_ret (pe_callG F_ended (hr.mono (by first | decide | omega)) tkD (pa_cons (pv 0) (pa_cons (pv 3) (pa_cons (pv 2) pa_nil))))))))), ?_⟩
  have e44 : Str.ofString "," = S [44] := by decide +kernel
  have eC : Str.ofString ", " = S [44, 32] := by decide +kernel
  rw [rdeeds_eq] at q
  cases h0 : rdeed t.length t with
  | bad k =>
    rw [h0] at q
    refine mid_at (fun _ _ => False) ?_ (fun _ _ z => z.elim)
    walk_at "sx"
    refine ⟨_, rfl, _, rfl, _, _, rfl, t, 0, rfl, rfl, tl, by omega, ?_⟩
    rw [List.drop_zero, h0]
    exact q.go (Same.refl _) (by omega)
  | ok p0 k0 =>
  have l0 := rdeed_len h0
  refine mid_at (fun σ X => ∃ v fp, σ = [some (.str (S t)), some v, some (.int (k0 : Nat)), none] ∧ Same H X ∧ RdAt X v p0 fp ∧ ∀ c ∈ fp, H c = none) ?_ ?_
  · walk_at "sx"
    refine ⟨_, rfl, _, rfl, _, _, rfl, t, 0, rfl, rfl, tl, by omega, ?_⟩
    rw [List.drop_zero, h0]
    simp only
    intro p v fp H2 hp s2 e tv nv
    exact ⟨p, rfl, _, SqT.of e, rfl, v, _, rfl, _, _, rfl, rfl, by rw [Nat.zero_add], s2, fp, tv, nv⟩
  rintro _ X ⟨v, fp, rfl, sX, rX, nX⟩
  refine mid_at (fun σ Y => ∃ L, σ = [some (.str (S t)), some v, some (.int (k0 : Nat)), some (.ref L)] ∧ Same X Y ∧ X L = none ∧ Y L = some (.lst [v])) ?_ ?_
  · walk_at "sx"
    exact fun L hL => ⟨same_upd hL, hL⟩
  rintro _ Y ⟨L, rfl, sY, hL, eL⟩
  have sH := sX.trans sY
  have hLH : H L = none := same_none sX hL
  have Lfp : L ∉ fp := fun z => by
    obtain ⟨a, e, h⟩ := rX
    obtain ⟨x, d⟩ := p0
    cases d with
    | none => rw [h.2] at z; cases z
    | some d =>
      obtain ⟨u, _, h2⟩ := h
      rcases h2.there L z with ⟨_, w⟩ | ⟨_, w⟩ <;> rw [hL] at w <;> cases w
  rw [h0] at q
  simp only at q
  generalize hT : (((rmore t.length t.length (t.drop k0)).map fun ps => p0 :: ps).up k0 : Res (List Rdd)) = RT at q
  refine mid_at (fun σ Z => ∃ (ps : List Rdd) (a : Nat) (vs : List V) (v1 : V), σ = [some (.str (S t)), some v1, some (.int (a : Nat)), some (.ref L)] ∧ a ≤ t.length ∧ Same H Z ∧ Z L = some (.lst vs) ∧ Paired (fun v p => ∃ fp, RdAt Z v p fp ∧ ∀ c ∈ fp, H c = none ∧ c ≠ L) vs ps ∧ RT = (((if t.drop a = [] then .ok [] 0 else .bad 0 : Res (List Rdd)).map fun qs => ps ++ qs).up a)) ?_ ?_
  · refine ⟨fun μ σ Z => ∃ (ps : List Rdd) (a m : Nat) (vs : List V) (v1 : V), σ = [some (.str (S t)), some v1, some (.int (a : Nat)), some (.ref L)] ∧ a ≤ t.length ∧ t.length - a ≤ m ∧ vs.length ≤ a ∧ Same H Z ∧ Z L = some (.lst vs) ∧ Paired (fun v p => ∃ fp, RdAt Z v p fp ∧ ∀ c ∈ fp, H c = none ∧ c ≠ L) vs ps ∧ RT = ((rmore t.length m (t.drop a)).map fun qs => ps ++ qs).up a ∧ μ = t.length - a, ⟨_, [p0], k0, t.length, [v], v, rfl, l0.2, by omega, l0.1, sH, eL, .cons ⟨fp, rX.same sY, fun c hc => ⟨nX c hc, fun z => Lfp (z ▸ hc)⟩⟩ .nil, hT.symm, rfl⟩, ?_⟩
    rintro μ _ Z ⟨ps, a, m, vs, v1, rfl, al, am, va, sZ, eZ, pr, eT, rfl⟩
    walk_at "sx"
    rw [e44]
    refine ⟨_, _, _, rfl, t, [44], a, rfl, rfl, rfl, tl, _, rfl, ?_⟩
    rw [head_one]
    by_cases h44 : (t.drop a).head? = some 44
    · rw [if_pos (by simpa using h44)]
      have lt : a < t.length := by
        rcases Nat.lt_or_ge a t.length with h | h
        · exact h
        · rw [List.drop_eq_nil_of_le h] at h44; cases h44
      obtain ⟨m', rfl⟩ : ∃ m', m = m' + 1 := ⟨m - 1, by omega⟩
      unfold rmore at eT
      rw [if_pos h44] at eT
      refine ⟨_, fun σ' H' h => h, ?_⟩
      rw [eC]
      refine ⟨_, _, _, rfl, t, _, a, rfl, rfl, rfl, tl, by simp, al, ?_⟩
      cases hx : rex [44, 32] (t.drop a) with
      | bad k =>
        rw [hx] at eT
        simp only [Res.map, Res.up] at eT
        rw [eT] at q
        exact q.go sZ rfl
      | ok u k =>
        rw [hx] at eT
        simp only at eT ⊢
        have l1 := rex_len hx
        rw [List.length_drop] at l1
        simp only [List.length_cons, List.length_nil] at l1
        intro H' s
        refine ⟨_, _, rfl, t, a + 2, rfl, by rw [l1.1], tl, by omega, ?_⟩
        rw [List.drop_drop, rdeeds_eq] at eT
        cases hy : rdeed t.length (t.drop (a + 2)) with
        | bad j =>
          rw [hy] at eT
          simp only [Res.map, Res.up] at eT
          rw [eT] at q
          exact q.go (sZ.trans s) (by omega)
        | ok p1 j =>
          rw [hy] at eT
          simp only at eT ⊢
          have l2 := rdeed_len hy
          rw [List.length_drop] at l2
          intro p v fp H2 hp s2 e tv nv
          have eL2 := s2 _ _ (s _ _ eZ)
          have Lf : L ∉ fp := fun z => by have := nv _ z; rw [s _ _ eZ] at this; cases this
          refine ⟨p, rfl, _, SqT.of e, rfl, v, _, rfl, _, _, rfl, rfl, ⟨_, SqL.of eL2⟩, _, eL2, by omega, ?_⟩
          refine ⟨_, ?_, ps ++ [p1], a + 2 + j, m', vs ++ [v], v, rfl, by omega, by omega, by simp; omega, same_grow ((sZ.trans s).trans s2) hLH, upd_same, ?_, ?_, rfl⟩
          · omega
          · refine prd_snoc (prd_imp pr fun x y h => ?_) ⟨fp, tv.but eL2 Lf, fun c hc => ⟨same_none (G := H') (sZ.trans s) (nv c hc), fun z => Lf (z ▸ hc)⟩⟩
            obtain ⟨fx, h1, h2⟩ := h
            exact ⟨fx, ((h1.same s).same s2).but eL2 (fun z => (h2 _ z).2 rfl), h2⟩
          · rw [eT, rmore_step, List.drop_drop]
    · rw [if_neg (by simpa using h44)]
      unfold rmore at eT
      rw [if_neg h44] at eT
      exact ⟨ps, a, rfl, al, sZ, vs, eZ, pr, eT⟩
  rintro _ Z ⟨ps, a, vs, v1, rfl, al, sZ, eZ, pr, eT⟩
  rw [eT] at q
  walk_at "sx"
  refine ⟨_, _, _, rfl, t, a, rfl, rfl, tl, ?_⟩
  by_cases lt : a < t.length
  · rw [if_pos lt]
    have : t.drop a ≠ [] := fun z => by have := congrArg List.length z; rw [List.length_drop] at this; simp at this; omega
    rw [if_neg this] at q
    exact q.go sZ (by omega)
  · rw [if_neg lt]
    rw [if_pos (List.drop_eq_nil_of_le (by omega))] at q
    simp only [Res.map, Res.up, List.append_nil] at q
    exact q L vs [] Z (same_none sX hL) sZ eZ pr
end
theorem sno_len (x : Str) : (sno x).cps.toList.length = 2 + (x.cps.toList.flatMap esc).length := by rw [sno_tl]; simp; omega
theorem S_self (x : Str) : S x.cps.toList = x := str_cps rfl
theorem rex1 (c : Nat) (r : List Nat) : rex [c] (c :: r) = .ok () 1 := by simp [rex, Res.up]
theorem tls_len : ∀ ds : List PyData, ds.length ≤ (tls note ds).length
  | [] => Nat.le_refl _
  | d :: ds => by
    have := tls_len ds
    simp only [tls, List.length_cons, List.length_append]; omega
theorem tlK_len : ∀ D : List (PyData × PyData), D.length ≤ (tlK note D).length
  | [] => Nat.le_refl _
  | (k, d) :: D => by
    have := tlK_len D
    simp only [tlK, List.length_cons, List.length_append]; omega
theorem clT_len (n : Nat) : 1 ≤ (clT n).length := by unfold clT; split <;> simp
theorem shL_sno (x : Str) : shL note (.str x) = (sno x).cps.toList := by simp only [shL, note]
theorem une_tab {K : PySem.W.Frag} {w : World} {A : Addr} {h1 h2 h3 : Int} {k1 k2 k3 u1 u2 u3 : Tok} {n : Nat} (lk : K.lookup A = some ⟨.type "dict", none, .dict #[⟨h1, .str "\"" k1, .str "\"" u1⟩, ⟨h2, .str "\\" k2, .str "\\" u2⟩, ⟨h3, .str "n" k3, .str "\n" u3⟩] n, #[]⟩)
    (e1 : h1 = PyData.keyHash w.params "\"") (e2 : h2 = PyData.keyHash w.params "\\") (e3 : h3 = PyData.keyHash w.params "n") (lo : (A == sysModules) = false) :
    KDct K w A (S [34]) (.str (S [34])) ∧ KDct K w A (S [92]) (.str (S [92])) ∧ KDct K w A (S [110]) (.str (S [10])) := by
  have kl : PySem.W.KeysLit w.params (#[⟨h1, .str "\"" k1, .str "\"" u1⟩, ⟨h2, .str "\\" k2, .str "\\" u2⟩, ⟨h3, .str "n" k3, .str "\n" u3⟩] : Array DictEntry).toList := ⟨⟨_, _, rfl, e1⟩, ⟨_, _, rfl, e2⟩, ⟨_, _, rfl, e3⟩, trivial⟩
  have s1 : ("\"" : Str) = S [34] := by decide +kernel
  have s2 : ("\\" : Str) = S [92] := by decide +kernel
  have s3 : ("n" : Str) = S [110] := by decide +kernel
  have t3 : ("\n" : Str) = S [10] := by decide +kernel
  have ns : ∀ z : Str, PySem.W.nsIn K A z = if S [34] = z then some (some (.str (S [34]) u1)) else if S [92] = z then some (some (.str (S [92]) u2)) else if S [110] = z then some (some (.str (S [10]) u3)) else some none := fun z => by
    unfold PySem.W.nsIn
    rw [lk, s1, s2, s3, t3]
    simp only [List.find?_cons, List.find?_nil, Value.isStr, List.any_cons, List.any_nil]
    have tt : ∀ a : Nat, S [a] = z → (S [a] == z) = true := fun a h => beq_iff_eq.mpr h
    have ff : ∀ a : Nat, ¬ S [a] = z → (S [a] == z) = false := fun a h => by
      cases e : (S [a] == z) with
      | false => rfl
      | true => exact absurd (beq_iff_eq.mp e) h
    by_cases c1 : S [34] = z
    · rw [if_pos c1, tt 34 c1]
    · rw [if_neg c1, ff 34 c1]
      by_cases c2 : S [92] = z
      · rw [if_pos c2, tt 92 c2]
      · rw [if_neg c2, ff 92 c2]
        by_cases c3 : S [110] = z
        · rw [if_pos c3, tt 110 c3]
        · rw [if_neg c3, ff 110 c3]
          rfl
  exact ⟨⟨_, _, _, lk, kl, by rw [ns, if_pos rfl], _, rfl⟩, ⟨_, _, _, lk, kl, by rw [ns, if_neg (by decide +kernel), if_pos rfl], _, rfl⟩, ⟨_, _, _, lk, kl, by rw [ns, if_neg (by decide +kernel), if_neg (by decide +kernel), if_pos rfl], _, rfl⟩⟩
theorem words_tab {K : PySem.W.Frag} {A A1 A2 A3 : Addr} {n n1 n2 n3 : Nat} {t1 t2 t3 : Tok} (lk : K.lookup A = some ⟨.type "tuple", none, .seq #[.ref A1, .ref A2, .ref A3] n, #[]⟩)
    (k1 : K.lookup A1 = some ⟨.type "tuple", none, .seq #[.str "None" t1, .none] n1, #[]⟩) (k2 : K.lookup A2 = some ⟨.type "tuple", none, .seq #[.str "True" t2, .bool true] n2, #[]⟩) (k3 : K.lookup A3 = some ⟨.type "tuple", none, .seq #[.str "False" t3, .bool false] n3, #[]⟩) :
    ∃ A1 A2 A3 : Addr, (∀ H : Hp, SqT K H A [.ref A1, .ref A2, .ref A3]) ∧ (∀ H : Hp, SqT K H A1 [.str (S [78, 111, 110, 101]), .non]) ∧ (∀ H : Hp, SqT K H A2 [.str (S [84, 114, 117, 101]), .bl true]) ∧ ∀ H : Hp, SqT K H A3 [.str (S [70, 97, 108, 115, 101]), .bl false] := by
  have s1 : ("None" : Str) = S [78, 111, 110, 101] := by decide +kernel
  have s2 : ("True" : Str) = S [84, 114, 117, 101] := by decide +kernel
  have s3 : ("False" : Str) = S [70, 97, 108, 115, 101] := by decide +kernel
  rw [s1] at k1
  rw [s2] at k2
  rw [s3] at k3
  have h3 : (3 : Nat) ≤ sizeLine := by decide
  have h2 : (2 : Nat) ≤ sizeLine := by decide
  exact ⟨A1, A2, A3, fun H => .inr ⟨_, _, _, lk, rfl, rfl, h3, .cons rfl (.cons rfl (.cons rfl .nil))⟩, fun H => .inr ⟨_, _, _, k1, rfl, rfl, h2, .cons ⟨_, rfl⟩ (.cons rfl .nil)⟩, fun H => .inr ⟨_, _, _, k2, rfl, rfl, h2, .cons ⟨_, rfl⟩ (.cons rfl .nil)⟩, fun H => .inr ⟨_, _, _, k3, rfl, rfl, h2, .cons ⟨_, rfl⟩ (.cons rfl .nil)⟩⟩
theorem kn_read {g : Wd} {CI AU AW fv fi fp : Addr} {fdv fdi fdp : FuncData} (mv : g.mg "read_value" = some (.ref fv)) (kv : PySem.W.keepIn g.K (.ref fv) = true) (bv : Binds g.K fdv ["text", "at", "level"] [])
    (mi : g.mg "read_items" = some (.ref fi)) (ki : PySem.W.keepIn g.K (.ref fi) = true) (bi : Binds g.K fdi ["text", "at", "level", "closing"] []) (mp : g.mg "read_pairs" = some (.ref fp)) (kp : PySem.W.keepIn g.K (.ref fp) = true) (bp : Binds g.K fdp ["text", "at", "level"] [])
    (Dv : Df g.K "read_value" "read_value" s_read_value fv fdv .none) (Di : Df g.K "read_items" "read_items" s_read_items fi fdi .none) (Dp : Df g.K "read_pairs" "read_pairs" s_read_pairs fp fdp .none) (T : TxR g AU AW) (F_expect : Kn g "expect" 3 ["text", "at", "word"] [] (sp_exp CI)) (F_stands : Kn g "stands" 1 ["text", "at", "signs"] [] sp_stands)
    (F_read_string : Kn g "read_string" 4 ["text", "at", "most"] [] (sp_rstr CI)) (F_read_integer : Kn g "read_integer" 3 ["text", "at"] [] (sp_rint CI)) (X_InvalidText : XK1 g "InvalidText" CI "position") (RI : PySem.W.subIn g.K (.ref CI) (.type "BaseException") = some true ∧ PySem.W.typeIn g.K (.ref CI) = some (.type "type")) :
    ∀ n, Kn g "read_value" (2 * n + 6) ["text", "at", "level"] [] (sp_rval CI n)
  | 0 => ⟨fv, fdv, [], mv, kv, ok_rval 0 Dv T F_expect F_stands F_read_string F_read_integer ⟨fi, fdi, [], mi, ki, fnG_void (fun _ _ _ _ h => h), bi, .nil⟩ ⟨fp, fdp, [], mp, kp, fnG_void (fun _ _ _ _ h => h), bp, .nil⟩ X_InvalidText RI, bv, .nil⟩
  | n + 1 => by
    have R := kn_read mv kv bv mi ki bi mp kp bp Dv Di Dp T F_expect F_stands F_read_string F_read_integer X_InvalidText RI n
    exact ⟨fv, fdv, [], mv, kv, ok_rval (n + 1) Dv T F_expect F_stands F_read_string F_read_integer ⟨fi, fdi, [], mi, ki, (ok_ritm n Di T F_expect F_stands R).mono (by omega), bi, .nil⟩
      ⟨fp, fdp, [], mp, kp, (ok_rprs n Dp T F_expect F_stands F_read_string R X_InvalidText RI).mono (by omega), bp, .nil⟩ X_InvalidText RI, bv, .nil⟩
/-- a mapping in the heap -/
structure MapAt (H : Hp) (v : V) (D : List (PyData × PyData)) (fp : List Addr) : Prop where
  tr : Tr H v (.dict D) fp
  ok : okB (.dict D) = true
  dep : (PyData.dict D).depth < 7
  key : ∀ p ∈ D, ∃ x : Str, p.1 = .str x ∧ 1 ≤ x.length ∧ x.length ≤ 200
  small : (note (.dict D)).length ≤ 1000000
theorem MapAt.same {H H' : Hp} {v : V} {D : List (PyData × PyData)} {fp : List Addr} (h : MapAt H v D fp) (s : Same H H') : MapAt H' v D fp := ⟨h.tr.same s, h.ok, h.dep, h.key, h.small⟩
theorem paired_len {α β : Type} {F : α → β → Prop} : ∀ {xs : List α} {ys : List β}, Paired F xs ys → xs.length = ys.length
  | _, _, .nil => rfl
  | _, _, .cons h hs => by simp [paired_len hs]
/-- a mapping in the heap, locked or not -/
structure MapR (H : Hp) (v : V) (D : List (PyData × PyData)) (fp : List Addr) : Prop where
  ex : ∃ a kvs, v = .ref a ∧ Rd H a (.dK kvs) ∧ TrD H kvs D fp ∧ (kvs.map (·.1)).Nodup
  ok : okB (.dict D) = true
  dep : (PyData.dict D).depth < 7
  key : ∀ p ∈ D, ∃ x : Str, p.1 = .str x ∧ 1 ≤ x.length ∧ x.length ≤ 200
  small : (note (.dict D)).length ≤ 1000000
theorem MapR.same {H H' : Hp} {v : V} {D : List (PyData × PyData)} {fp : List Addr} (h : MapR H v D fp) (s : Same H H') : MapR H' v D fp := by
  obtain ⟨⟨a, kvs, e, r, t, nd⟩, ok, dep, key, small⟩ := h
  exact ⟨⟨a, kvs, e, r.imp (s _ _) fun ⟨od, z⟩ => ⟨od, s _ _ z⟩, t.same s, nd⟩, ok, dep, key, small⟩
/-- the keys -/
def keysOf : List (PyData × PyData) → List Str
  | [] => []
  | (.str x, _) :: r => x :: keysOf r
  | _ :: r => keysOf r
def addK (ks : List Str) (x : Str) : List Str := if x ∈ ks then ks else ks ++ [x]
theorem trD_keys {H : Hp} : ∀ {kvs : List (Key × V)} {D : List (PyData × PyData)} {fp : List Addr}, TrD H kvs D fp → kvs.map (·.1) = (keysOf D).map Sum.inr
  | _, _, _, .nil => rfl
  | _, _, _, .cons h hs => by simp only [List.map_cons, keysOf]; rw [trD_keys hs]
theorem putK_keys {kvs : List (Key × V)} {ks : List Str} {x : Str} {v : V} (h : kvs.map (·.1) = ks.map Sum.inr) : (putK kvs (.inr x) v).map (·.1) = (addK ks x).map Sum.inr := by
  have e : (kvs.any fun kv => decide (kv.1 = .inr x)) = decide (x ∈ ks) := by
    rw [show (kvs.any fun kv => decide (kv.1 = .inr x)) = (kvs.map (·.1)).any fun k => decide (k = .inr x) from by rw [List.any_map]; rfl, h]
    rw [Bool.eq_iff_iff]
    simp
  unfold putK addK
  by_cases hx : x ∈ ks
  · rw [if_pos (by rw [e]; simp [hx]), if_pos hx, List.map_map, ← h]
    refine List.map_congr_left fun p _ => ?_
    simp only [Function.comp]
    split <;> rfl
  · rw [if_neg (by rw [e]; simp [hx]), if_neg hx, List.map_append, List.map_append, h]; rfl
inductive Dd where
  | put (x : Str) (d : PyData)
  | drop (x : Str)
def isK (k : PyData) (x : Str) : Bool := match k with
  | .str y => decide (y = x)
  | _ => false
def putD : List (PyData × PyData) → Str → PyData → List (PyData × PyData)
  | [], x, d => [(.str x, d)]
  | p :: r, x, d => if isK p.1 x = true then (.str x, d) :: r else p :: putD r x d
theorem valV_mem {kvs : List (Key × V)} {k : Key} {u : V} (h : valV kvs k = some u) : k ∈ kvs.map (·.1) := by
  unfold valV at h
  cases e : kvs.find? (fun kv => decide (kv.1 = k)) with
  | none => rw [e] at h; cases h
  | some p =>
    have h1 := List.find?_some e
    exact List.mem_map.mpr ⟨p, List.mem_of_find?_eq_some e, by simpa using h1⟩
theorem trD_put {H : Hp} {x : Str} {v : V} {d : PyData} {f : List Addr} (t : Tr H v d f) : ∀ {kvs : List (Key × V)} {D : List (PyData × PyData)} {fp : List Addr}, TrD H kvs D fp → (kvs.map (·.1)).Nodup → ∃ fp', TrD H (putK kvs (.inr x) v) (putD D x d) fp' ∧ ∀ c ∈ fp', c ∈ fp ∨ c ∈ f
  | _, _, _, .nil, _ => ⟨_, .cons t .nil, fun c hc => .inr (by simpa using hc)⟩
  | _, _, _, .cons (x := y) (kvs := r) (f1 := f1) h hs, nd => by
    have nd' := List.nodup_cons.mp nd
    have hr : valV r (.inr y) = none := by
      cases e : valV r (.inr y) with
      | none => rfl
      | some u => exact absurd (valV_mem e) nd'.1
    rw [RS.pk_cons (hr := hr)]
    by_cases e : y = x
    · subst e
      rw [if_pos rfl, putD, if_pos (by simp [isK])]
      exact ⟨_, .cons t hs, fun c hc => (List.mem_append.mp hc).elim .inr fun z => .inl (List.mem_append_right _ z)⟩
    · have e2 : ¬ (.inr y : Key) = .inr x := fun z => e (Sum.inr.inj z)
      rw [if_neg e2, putD, if_neg (by simp [isK, e])]
      obtain ⟨fp', t', k⟩ := trD_put t hs nd'.2
      refine ⟨_, .cons h t', fun c hc => ?_⟩
      rcases List.mem_append.mp hc with z | z
      · exact .inl (List.mem_append_left _ z)
      · exact (k c z).imp (List.mem_append_right _) id
theorem nd_put {kvs : List (Key × V)} {ks : List Str} {x : Str} {v : V} (e : kvs.map (·.1) = ks.map Sum.inr) (nd : (kvs.map (·.1)).Nodup) : ((putK kvs (.inr x) v).map (·.1)).Nodup := by
  rw [putK_keys e]
  rw [e] at nd
  have n2 : ks.Nodup := (List.pairwise_map.mp nd).imp fun h e => h (by rw [e])
  have n3 : (addK ks x).Nodup := by
    unfold addK
    split
    · exact n2
    · rename_i h
      exact List.nodup_append.mpr ⟨n2, by simp, fun a ha b hb e => h (by simp only [List.mem_singleton] at hb; subst hb; subst e; exact ha)⟩
  exact List.pairwise_map.mpr (n3.imp fun h e => h (Sum.inr.inj e))
theorem pairedO {α β : Type} {F : α → β → Prop} : ∀ {xs : List α} {ys : List β}, Paired F xs ys → ∀ {i : Nat} {x : α}, xs[i]? = some x → ∃ y, ys[i]? = some y ∧ F x y
  | _, _, .cons h hs, 0, x, e => by cases e; exact ⟨_, rfl, h⟩
  | _, _, .cons h hs, i + 1, x, e => by obtain ⟨y, a, b⟩ := pairedO hs (i := i) (by simpa using e); exact ⟨y, by simpa using a, b⟩
  | _, _, .nil, _, _, e => by simp at e
/-- a deed in the heap -/
def DdAt (H : Hp) (v : V) : Dd → Prop
  | .put x d => ∃ t w f, v = .ref t ∧ H t = some (.tup [.str "put", .str x, w]) ∧ Tr H w d f ∧ okB d = true ∧ d.depth < 8
  | .drop x => ∃ t, v = .ref t ∧ H t = some (.tup [.str "drop", .str x])
theorem DdAt.same {H H' : Hp} {v : V} {dd : Dd} (h : DdAt H v dd) (s : Same H H') : DdAt H' v dd := by
  cases dd with
  | put x d => obtain ⟨t, w, f, a, b, c, e⟩ := h; exact ⟨t, w, f, a, s _ _ b, c.same s, e⟩
  | drop x => obtain ⟨t, a, b⟩ := h; exact ⟨t, a, s _ _ b⟩
theorem paired_snoc {α β : Type} {F : α → β → Prop} {x : α} {y : β} (h : F x y) : ∀ {xs : List α} {ys : List β}, Paired F xs ys → Paired F (xs ++ [x]) (ys ++ [y])
  | _, _, .nil => .cons h .nil
  | _, _, .cons a b => .cons a (paired_snoc h b)
theorem paired_imp {α β : Type} {F G : α → β → Prop} (k : ∀ x y, F x y → G x y) : ∀ {xs : List α} {ys : List β}, Paired F xs ys → Paired G xs ys
  | _, _, .nil => .nil
  | _, _, .cons a b => .cons (k _ _ a) (paired_imp k b)
/-- a deed whose value stood in G already -/
def DdG (G X : Hp) (v : V) : Dd → Prop
  | .put x d => ∃ t w f, v = .ref t ∧ X t = some (.tup [.str "put", .str x, w]) ∧ Tr G w d f ∧ okB d = true ∧ d.depth < 8
  | .drop x => ∃ t, v = .ref t ∧ X t = some (.tup [.str "drop", .str x])
theorem DdG.keep {G X Y : Hp} (k : ∀ c xs, X c = some (.tup xs) → Y c = some (.tup xs)) {v : V} {dd : Dd} (h : DdG G X v dd) : DdG G Y v dd := by
  cases dd with
  | put x d => obtain ⟨t, w, f, a, b, c⟩ := h; exact ⟨t, w, f, a, k _ _ b, c⟩
  | drop x => obtain ⟨t, a, b⟩ := h; exact ⟨t, a, k _ _ b⟩
theorem DdG.at {G X : Hp} (s : Same G X) {v : V} {dd : Dd} (h : DdG G X v dd) : DdAt X v dd := by
  cases dd with
  | put x d => obtain ⟨t, w, f, a, b, c, e⟩ := h; exact ⟨t, w, f, a, b, c.same s, e⟩
  | drop x => exact h
section
variable {g : Wd} {f : Addr} {fd : FuncData}
theorem sc_l_pick : FnScope ["_law_source_here", "_law_amount", "_law_place", "_law_choice"] ["_law_source_here", "_law_amount"] (defScope s_l_pick) := ⟨rfl, rfl, rfl, by decide +kernel, rfl, by decide +kernel, by decide +kernel⟩
/-- the source at a -/
def Src (H : Hp) (a : Addr) : Prop := ∃ x y : Int, 0 ≤ x ∧ 0 ≤ y ∧ H a = some (.lst [.int x, .int y])
def sp_pick : Sp := S2 fun s n H Q _ => ∃ a m, s = .ref a ∧ Src H a ∧ n = .int m ∧ 0 < m ∧ m < 2 ^ 64 ∧ ∀ x y c : Int, 0 ≤ x → 0 ≤ y → 0 ≤ c → c < m → Q (.int c) (upd H a (.lst [.int x, .int y]))
theorem ok_pick (F : Df g.K "_law_pick" "_law_pick" s_l_pick f fd .none) (T : Txt g) : FnG g 1 f fd ["_law_source_here", "_law_amount"] sp_pick := by
  refine F.ok sc_l_pick (fun vs H Q E h => S2.len h) (fun cdv A outer s H vs Q E hr h => ?_)
  obtain ⟨_, _, rfl, a, m, rfl, ⟨x, y, x0, y0, ha⟩, rfl, m0, m1, q⟩ := h
  refine ⟨_, (pss_cons (ps_set (i := 2) sc_l_pick.nd rfl (Or.inl rfl) (pe_callTy c_intA (by rfl) T.b_int bb_int (pa_cons (pe_cmpR (o_eq (K := g.K) hr) (pe_ix (o_ix (K := g.K)) (pv 0) pe_int (fun _ _ => rfl)) pe_int (nomark _)) pa_nil)))
      (pss_cons (ps_set (i := 3) sc_l_pick.nd rfl (Or.inl rfl) (pe_op op_mod (pe_ix (o_ix (K := g.K)) (pv 0) (pv 2) (fun _ _ => rfl)) (pv 1)))
      (pss_cons (ps_asg ((pe_op op_fdivW (pe_ix (o_ix (K := g.K)) (pv 0) (pv 2) (fun _ _ => rfl)) (pv 1))) (pg_sub (pv 0) (pv 2) set_list))
      (pss_one (ps_ret (pv 3)))))), ?_⟩
  walk_at "sx"
  refine ⟨_, .inl (SqL.of ha), .int x, rfl, ?_⟩
  rw [RS.eq_ii, intA_b]
  have cd : ∀ i, CDivW i m := fun i => ⟨m0, by
    have h2 : m.natAbs < 2 ^ 64 := by omega
    rcases Nat.eq_zero_or_pos m.natAbs with z | z
    · omega
    · have := (Nat.log2_lt (by omega)).mpr h2
      omega⟩
  by_cases e : x = 0
  · rw [if_pos (by simp [e]), RS.ix_r]
    refine ⟨_, .inl (SqL.of ha), .int y, rfl, y, rfl, m0, ?_⟩
    rw [RS.ix_r]
    refine ⟨_, .inl (SqL.of ha), .int y, rfl, y, rfl, cd _, _, 1, rfl, ha, 1, rfl, ?_⟩
    exact q x (y / m) _ x0 (Int.ediv_nonneg y0 (by omega)) (Int.emod_nonneg _ (by omega)) (Int.emod_lt_of_pos _ m0)
  · rw [if_neg (by simp [e]), RS.ix_r]
    refine ⟨_, .inl (SqL.of ha), .int x, rfl, x, rfl, m0, ?_⟩
    rw [RS.ix_r]
    refine ⟨_, .inl (SqL.of ha), .int x, rfl, x, rfl, cd _, _, 0, rfl, ha, 0, rfl, ?_⟩
    exact q (x / m) y _ (Int.ediv_nonneg x0 (by omega)) y0 (Int.emod_nonneg _ (by omega)) (Int.emod_lt_of_pos _ m0)
theorem sc_l_source : FnScope ["_law_script", "_law_k", "_law_cell", "_law_mixed", "_law_step", "_law_more"] ["_law_script", "_law_k"] (defScope s_l_source) := ⟨rfl, rfl, rfl, by decide +kernel, rfl, by decide +kernel, by decide +kernel⟩
def sp_source (K : PySem.W.Frag) : Sp := S2 fun s k H Q _ => ∃ a vs n, s = .ref a ∧ SqL K H a vs ∧ (∀ v ∈ vs, ∃ i, v = .int i) ∧ k = .int (n : Nat) ∧ ∀ r H', Same H H' → H r = none → Src H' r → Q (.ref r) H'
theorem ok_source (F : Df g.K "_law_source" "_law_source" s_l_source f fd .none) (T : Txt g) : FnG g 1 f fd ["_law_script", "_law_k"] (sp_source g.K) := by
  refine F.ok sc_l_source (fun vs H Q E h => S2.len h) (fun cdv A outer s H vs Q E hr h => ?_)
  obtain ⟨_, _, rfl, a, vs, n, rfl, ha, iv, rfl, q⟩ := h
  refine ⟨_, (pss_cons (ps_set (i := 2) sc_l_source.nd rfl (Or.inl rfl) (pe_ifExp (pt_cmpR op_lt (pv 1) (pe_callB (c_len (K := g.K)) (by rfl) T.b_len bb_len (pa_cons (pv 0) pa_nil)) (nomark _)) (pe_op op_mod (pe_ix (o_ix (K := g.K)) (pv 0) (pv 1) (fun _ _ => rfl)) (pe_op o_mul pe_int (pe_op op_pow pe_int pe_int))) pe_int))
      (pss_cons (ps_set (i := 3) sc_l_source.nd rfl (Or.inl rfl) pe_int)
      (pss_cons (ps_for psD rfl (pi_range1 rfl T.b_range (pa_cons pe_int pa_nil)) (pg_name (i := 4) sc_l_source.nd rfl (.inl rfl)) (pss_cons (ps_set (i := 5) sc_l_source.nd rfl (Or.inl rfl) (pe_op op_mod (pe_op (o_add (K := g.K)) (pe_op (o_add (K := g.K)) (pe_op o_mul (pv 2) pe_int) (pe_op o_mul pe_int (pe_op (o_add (K := g.K)) (pv 1) (pe_op o_mul pe_int (pv 4))))) pe_int) pe_int))
      (pss_one (ps_set (i := 3) sc_l_source.nd rfl (Or.inl rfl) (pe_op (o_add (K := g.K)) (pe_op o_mul (pv 3) pe_int) (pe_op op_mod (pe_op (o_add (K := g.K)) (pe_op op_pow (pv 5) pe_int) (pe_op o_mul (pv 4) (pv 5))) pe_int))))))
      (pss_one (ps_ret (pe_lst (pa_cons (pe_op o_mul (pv 2) (pe_callTy c_intA (by rfl) T.b_int bb_int (pa_cons (pe_cmpR op_ge (pv 2) (pe_op op_pow pe_int pe_int) (nomark _)) pa_nil))) (pa_cons (pv 3) pa_nil)))))))), ?_⟩
  walk_at "sx"
  have main : ∀ c : Int, 0 ≤ c → c < 2 * 10 ^ 60 → ForB (Itr 0 (Int.toNat 70)) (gName 4)
      (tSeq (tAsg (tOp (rI (fun x j => 0 < j) fun i j => V.int (i % j)) (tOp (RS.rAdd g.K) (tOp (RS.rAdd g.K) (tOp rMul (tVar 2) (tC (V.int 48271))) (tOp rMul (tC (V.int 7919)) (tOp (RS.rAdd g.K) (tVar 1) (tOp rMul (tC (V.int 64)) (tVar 4))))) (tC (V.int 12345))) (tC (V.int 2147483647))) (gName 5))
        (tAsg (tOp (RS.rAdd g.K) (tOp rMul (tVar 3) (tC (V.int 2147483629))) (tOp (rI (fun x j => 0 < j) fun i j => V.int (i % j)) (tOp (RS.rAdd g.K) (tOp (rI CPow fun i j => V.int (i ^ j.toNat)) (tVar 5) (tC (V.int 5))) (tOp rMul (tVar 4) (tVar 5))) (tC (V.int 2147483629)))) (gName 3)))
      { nx := tRet (tLst (tCons (tOp rMul (tVar 2) (tCB rIntA (tCons (tOp (rI0 fun i j => V.bl (decide (j ≤ i))) (tVar 2) (tOp (rI CPow fun i j => V.int (i ^ j.toNat)) (tC (V.int 10)) (tC (V.int 18)))) tNil))) (tCons (tVar 3) tNil))) { nx := fun x H' => Q V.non H', rt := Q }, rt := Q }
      [some (V.ref a), some (V.int ↑n), some (V.int c), some (V.int 0), none, none] H := by
    intro c c0 c1
    refine for_by 70 (fun i σ G => G = H ∧ ∃ x : Int, ∃ z y, 0 ≤ x ∧ σ = [some (.ref a), some (.int (n : Nat)), some (.int c), some (.int x), z, y]) ⟨rfl, 0, _, _, Int.le_refl _, rfl⟩ (fun i σ G lt P => lt) (fun σ G P => Nat.le_refl _) (fun i σ G x G' lt P yl => ?_) (fun σ G P => ?_)
    · obtain ⟨rfl, x, z, y, x0, rfl⟩ := P
      obtain ⟨rfl, rfl⟩ := yl
      walk_at "sx"
      generalize hr2 : (c * 48271 + 7919 * (↑n + 64 * (0 + ↑i)) + 12345) % 2147483647 = r
      have r0 : 0 ≤ r := by rw [← hr2]; exact Int.emod_nonneg _ (by decide)
      have r1 : r < 2147483647 := by rw [← hr2]; exact Int.emod_lt_of_pos _ (by decide)
      refine ⟨.inr ⟨by decide, by decide⟩, .inl ⟨by decide, by decide⟩, .inl ⟨by decide, by decide⟩, by decide, .inr ⟨by decide, by decide⟩, ⟨by decide, by decide, by omega⟩, .inl ⟨by omega, by omega⟩, by decide, _, ?_, rfl, _, rfl⟩
      exact Int.add_nonneg (Int.mul_nonneg x0 (by decide)) (Int.emod_nonneg _ (by decide))
    · obtain ⟨rfl, x, z, y, x0, rfl⟩ := P
      walk_at "sx"
      refine ⟨⟨by decide, by decide, by decide⟩, .inr (by split <;> decide), fun p hp => q p _ (same_upd hp) hp ⟨_, _, Int.mul_nonneg c0 (by split <;> decide), x0, upd_same⟩⟩
  refine .inl ⟨vs, .inl ha, ?_⟩
  by_cases l : n < vs.length
  · rw [if_pos (by simp; omega)]
    obtain ⟨i, hi⟩ := iv vs[n] (List.getElem_mem l)
    refine ⟨_, .inl ha, vs[n], by unfold atI ixN; rw [if_pos (by omega), if_pos (by omega)]; simp [l], ⟨by decide, by decide, by decide⟩, .inl ⟨by decide, by decide⟩, i, hi, by decide, by decide, by decide, ?_⟩
    exact main _ (Int.emod_nonneg _ (by decide)) (Int.emod_lt_of_pos i (b := 2 * 10 ^ 60) (by decide))
  · rw [if_neg (by simp; omega)]
    exact ⟨by decide, by decide, main 0 (by decide) (by decide)⟩
end
/-- a source was drawn from: nothing else changed -/
structure Dr (a : Addr) (H G : Hp) : Prop where
  ot : ∀ c o, c ≠ a → H c = some o → G c = some o
  src : Src G a
theorem Dr.refl {a : Addr} {H : Hp} (h : Src H a) : Dr a H H := ⟨fun _ _ _ e => e, h⟩
theorem Dr.trans {a : Addr} {H G X : Hp} (h : Dr a H G) (k : Dr a G X) : Dr a H X := ⟨fun c o n e => k.ot c o n (h.ot c o n e), k.src⟩
theorem Dr.pick {a : Addr} {H : Hp} {x y : Int} (hx : 0 ≤ x) (hy : 0 ≤ y) : Dr a H (upd H a (.lst [.int x, .int y])) := ⟨fun c o n e => by rw [upd_ne n]; exact e, ⟨x, y, hx, hy, upd_same⟩⟩
theorem Dr.laid {a p : Addr} {H G : Hp} {o : HO} (h : Dr a H G) (hp : G p = none) : Dr a H (upd G p o) := by
  obtain ⟨x, y, x0, y0, e⟩ := h.src
  have np : a ≠ p := fun z => by rw [z, hp] at e; cases e
  exact ⟨fun c u n q => by
    have q2 := h.ot c u n q
    have nc : c ≠ p := fun z => by rw [z, hp] at q2; cases q2
    rw [upd_ne nc]; exact q2, ⟨x, y, x0, y0, by rw [upd_ne np]; exact e⟩⟩
theorem Dr.grow {a D : Addr} {H H2 G : Hp} {o : HO} (h : Dr a H G) (h2 : Dr a H H2) (hD : H2 D = none) : Dr a H (upd G D o) := by
  obtain ⟨x, y, x0, y0, e⟩ := h.src
  obtain ⟨_, _, _, _, e2⟩ := h2.src
  have nD : a ≠ D := fun z => by rw [z, hD] at e2; cases e2
  refine ⟨fun c u n q => ?_, x, y, x0, y0, by rw [upd_ne nD]; exact e⟩
  have nc : c ≠ D := fun z => by
    have := h2.ot c u n q
    rw [z, hD] at this; cases this
  rw [upd_ne nc]; exact h.ot c u n q
theorem ones_len : ∀ l : List Nat, (List.map (fun x : Str => x.length) (l.map fun c => S [c])).sum = l.length
  | [] => rfl
  | c :: r => by
    rw [List.map_cons, List.map_cons, List.sum_cons, ones_len r, S_len]; simp only [List.length_cons, List.length_nil]; omega
theorem ones_flat : ∀ l : List Nat, (l.map fun c => [c]).flatten = l
  | [] => rfl
  | c :: r => by simp only [List.map_cons, List.flatten_cons, ones_flat r, List.singleton_append]
def signsL : List Nat := [97, 98, 32, 34, 92, 10, 126, 49, 44, 58, 93]
section
variable {g : Wd} {f : Addr} {fd : FuncData}
theorem sc_l_string : FnScope ["_law_source_here", "_law_signs", "_law_many", "_law_turn"] ["_law_source_here"] (defScope s_l_string) := ⟨rfl, rfl, rfl, by decide +kernel, rfl, by decide +kernel, by decide +kernel⟩
def sp_string : Sp := S1 fun s H Q _ => ∃ a, s = .ref a ∧ Src H a ∧ ∀ (l : List Nat) G, l.length ≤ 5 → (∀ c ∈ l, c ∈ signsL) → Dr a H G → Q (.str (S l)) G
theorem ok_string (F : Df g.K "_law_string" "_law_string" s_l_string f fd .none) (T : Txt g) (F_l_pick : Kn g "_law_pick" 1 ["_law_source_here", "_law_amount"] [] sp_pick) : FnG g 2 f fd ["_law_source_here"] sp_string := by
  refine F.ok sc_l_string (fun vs H Q E h => S1.len h) (fun cdv A outer s H vs Q E hr h => ?_)
  obtain ⟨_, rfl, a, rfl, ha, q⟩ := h
  refine ⟨_, (pss_cons (ps_asg (pe_tup (pa_cons pe_str (pa_cons (pe_callG F_l_pick (hr.mono (by first | decide | omega)) tkD (pa_cons (pv 0) (pa_cons pe_int pa_nil))) pa_nil))) (g_tup (K := g.K) (n := 2) (pgs_cons (pg_name (i := 1) sc_l_string.nd rfl (.inr rfl)) (pgs_cons (pg_name (i := 2) sc_l_string.nd rfl (.inl rfl)) pgs_nil))))
      (pss_one (ps_ret (pe_join pe_str (pe_lc (own := [("_law_turn", 3)]) (tt := tYes) rfl sc_l_string.nd (pi_range1 rfl T.b_range (pa_cons (pv 2) pa_nil)) (blkOk_by (own := [("_law_turn", 3)]) (N := ["_law_source_here", "_law_signs", "_law_many", "_law_turn"]) (sc := defScope s_l_string) (by decide +kernel)) (fun _ _ _ _ _ => (pg_name (i := 3) sc_l_string.nd rfl (.inl rfl))) (fun _ _ _ _ _ => pts_nil) (fun _ _ _ _ _ => (pe_ix (o_ix (K := g.K)) (pv 1) (pe_callG F_l_pick (Rm.mono (Rm.mk hr.room hr.gd) (by first | decide | omega)) L2.takes0 (pa_cons (pv 0) (pa_cons pe_int pa_nil))) (fun _ _ => rfl)))))))), ?_⟩
  walk_at "sx"
  refine ⟨_, _, rfl, a, 6, rfl, ha, rfl, by decide, by decide, fun x y m x0 y0 m0 m1 => ?_⟩
  have d1 : Dr a H (upd H a (.lst [.int x, .int y])) := .pick x0 y0
  generalize upd H a (.lst [.int x, .int y]) = H1 at d1 ⊢
  dsimp only
  intro p hp
  have d2 : Dr a H (upd H1 p (.tup [.str "ab \"\\\n~1,:]", .int m])) := d1.laid hp
  have eT : upd H1 p (.tup [.str "ab \"\\\n~1,:]", .int m]) p = some (.tup [.str "ab \"\\\n~1,:]", .int m]) := upd_same
  generalize upd H1 p (.tup [.str "ab \"\\\n~1,:]", .int m]) = H2 at d2 eT ⊢
  refine ⟨_, SqT.of eT, rfl, _, _, rfl, _, _, rfl, rfl, ⟨_, rfl⟩, m, rfl, by omega, by omega, ?_⟩
  refine lc_invA m.toNat (fun D i acc G => Dr a H G ∧ ∃ l : List Nat, acc = (l.map fun c => S [c]).map V.str ∧ l.length = i ∧ ∀ c ∈ l, c ∈ signsL) (by rw [sizeLine_eq]; omega) (fun D hD => ⟨d2.laid hD, [], rfl, rfl, by simp⟩) (fun D i acc G hD lt P => lt) (fun D acc G hD P => Nat.le_refl _) (fun D i acc G x G' K hD lt la P eD y k => ?_) (fun D acc G hD P eD => ?_)
  · obtain ⟨d3, l, rfl, rfl, hl⟩ := P
    obtain ⟨rfl, rfl⟩ := y
    refine ⟨rfl, ?_⟩
    walk_at "sx"
    refine ⟨_, _, rfl, a, 11, rfl, d3.src, rfl, by decide, by decide, fun x y c x0 y0 c0 c1 => ?_⟩
    dsimp only
    have d4 : Dr a H (upd G' a (.lst [.int x, .int y])) := d3.trans (.pick x0 y0)
    have nD : D ≠ a := fun z => by
      obtain ⟨_, _, _, _, e2⟩ := d2.src
      rw [← z, hD] at e2; cases e2
    have eD4 : upd G' a (.lst [.int x, .int y]) D = some (.lst ((l.map fun c => S [c]).map V.str)) := by rw [upd_ne nD]; exact eD
    generalize upd G' a (.lst [.int x, .int y]) = G4 at d4 eD4 ⊢
    rw [show Str.ofString "ab \"\\\n~1,:]" = S signsL from by decide +kernel, RS.ix_s]
    obtain ⟨j, rfl⟩ := Int.eq_ofNat_of_zero_le c0
    have hj : j < signsL.length := by simp only [signsL, List.length_cons, List.length_nil]; omega
    refine ⟨by rw [S_len, sizeLine_eq]; decide, signsL[j], ?_, ?_⟩
    · show atI signsL (j : Int) = _
      unfold atI ixN
      rw [if_pos (by omega), if_pos (by omega)]
      simp [hj]
    · refine k (.str (S [signsL[j]])) _ eD4 ⟨d4.grow d2 hD, l ++ [signsL[j]], by simp, by simp, fun c hc => ?_⟩
      rcases List.mem_append.mp hc with h | h
      · exact hl c h
      · rw [List.mem_singleton] at h
        rw [h]; exact List.getElem_mem hj
  · obtain ⟨d3, l, rfl, hl1, hl⟩ := P
    walk_at "sx"
    refine ⟨_, .inl (SqL.of eD), by rw [ones_len, List.length_map]; rw [show (Str.ofString "").length = 0 from by decide +kernel]; omega, ?_⟩
    rw [show (l.map fun c => S [c]) = (l.map fun c => [c]).map S from by rw [List.map_map]; rfl, join_flat, ones_flat]
    exact q l G (by omega) hl d3
end
/-- how long its notation may be -/
def NB : Nat → Nat
  | 0 => 21
  | n + 1 => 3 * (NB n + 24) + 3
theorem NB_lo : ∀ n, 21 ≤ NB n
  | 0 => Nat.le_refl _
  | n + 1 => by have := NB_lo n; simp only [NB]; omega
theorem NB_up : ∀ {n m : Nat}, n ≤ m → NB n ≤ NB m
  | n, 0, h => by rw [Nat.le_zero.mp h]; exact Nat.le_refl _
  | n, m + 1, h => by
    rcases Nat.lt_or_ge n (m + 1) with l | g
    · have := NB_up (n := n) (m := m) (by omega)
      have := NB_lo m
      simp only [NB]; omega
    · rw [Nat.le_antisymm h g]; exact Nat.le_refl _
/-- a drawn value with up to n levels -/
structure VOk (n : Nat) (d : PyData) : Prop where
  ok : gB d = true
  dep : d.depth ≤ n
  le : (shL note d).length ≤ NB n
theorem VOk.up {n m : Nat} {d : PyData} (h : VOk n d) (l : n ≤ m) : VOk m d := ⟨h.ok, Nat.le_trans h.dep l, Nat.le_trans h.le (NB_up l)⟩
theorem vok_none (n : Nat) : VOk n .none := ⟨rfl, Nat.zero_le _, by rw [shL_none rnote]; have := NB_lo n; simp; omega⟩
theorem vok_bool (n : Nat) (b : Bool) : VOk n (.bool b) := ⟨rfl, Nat.zero_le _, by rw [shL_bool rnote]; have := NB_lo n; cases b <;> (simp; omega)⟩
theorem vok_int (n : Nat) {i : Int} (h : i.natAbs < 10 ^ 18) : VOk n (.int i) := ⟨by simp only [gB, decide_eq_true_eq]; omega, Nat.zero_le _, by
  rw [shL_int rnote]
  have := NB_lo n
  have h2 := TL.numL_len (n := i.natAbs) (k := 18) (by decide) h
  unfold sgI
  split <;> (try simp only [List.length_cons]) <;> omega⟩
theorem signs_pe {c : Nat} (h : c ∈ signsL) : pe c = true := (by decide : ∀ c ∈ signsL, pe c = true) c h
theorem vok_str (n : Nat) {l : List Nat} (h : l.length ≤ 5) (hs : ∀ c ∈ l, c ∈ signsL) : VOk n (.str (S l)) := ⟨by
  simp only [gB, Bool.and_eq_true, decide_eq_true_eq, S_len]
  refine ⟨by omega, ?_⟩
  unfold asc
  show l.all pe = true
  rw [List.all_eq_true]
  exact fun c hc => signs_pe (hs c hc), Nat.zero_le _, by
  have := NB_lo n
  have h1 := esc_len l
  have e : shL note (.str (S l)) = 34 :: (l.flatMap esc ++ [34]) := by simp only [shL, note]; rfl
  rw [e]
  simp only [List.length_cons, List.length_append, List.length_nil]; omega⟩
theorem tls_le {B : Nat} : ∀ {ds : List PyData}, (∀ d ∈ ds, (shL note d).length ≤ B) → (tls note ds).length ≤ ds.length * (B + 2)
  | [], _ => by simp [tls]
  | d :: ds, h => by
    have h1 := h d (List.mem_cons_self ..)
    have h2 := tls_le (B := B) (ds := ds) fun e he => h e (List.mem_cons_of_mem _ he)
    simp only [tls, List.length_cons, List.length_append, Nat.add_mul, Nat.one_mul] at *
    omega
theorem tlK_le {B : Nat} : ∀ {D : List (PyData × PyData)}, (∀ p ∈ D, (shL note p.1).length ≤ 18 ∧ (shL note p.2).length ≤ B) → (tlK note D).length ≤ D.length * (B + 22)
  | [], _ => by simp [tlK]
  | (k, d) :: D, h => by
    have h1 := h (k, d) (List.mem_cons_self ..)
    have h2 := tlK_le (B := B) (D := D) fun e he => h e (List.mem_cons_of_mem _ he)
    simp only [tlK, kvL, List.length_cons, List.length_append, Nat.add_mul, Nat.one_mul] at *
    omega
theorem depthAll_le {n : Nat} : ∀ {ds : List PyData}, (∀ d ∈ ds, d.depth ≤ n) → PyData.depthAll ds ≤ n
  | [], _ => Nat.zero_le _
  | d :: ds, h => by
    have h1 := h d (List.mem_cons_self ..)
    have h2 := depthAll_le (n := n) fun e he => h e (List.mem_cons_of_mem _ he)
    simp only [PyData.depthAll]; omega
theorem depthKv_le {n : Nat} : ∀ {D : List (PyData × PyData)}, (∀ p ∈ D, p.2.depth ≤ n ∧ p.1.depth ≤ n) → PyData.depthKv D ≤ n
  | [], _ => Nat.zero_le _
  | (k, d) :: D, h => by
    have h1 := h (k, d) (List.mem_cons_self ..)
    have h2 := depthKv_le (n := n) fun e he => h e (List.mem_cons_of_mem _ he)
    simp only at h1
    simp only [PyData.depthKv]; omega
theorem vok_list {n : Nat} {ds : List PyData} (h : ∀ d ∈ ds, VOk n d) (l : ds.length ≤ 3) : VOk (n + 1) (.list ds) := ⟨by
  simp only [gB, Bool.and_eq_true, decide_eq_true_eq]
  exact ⟨by omega, gAll_mem.mpr fun d hd => (h d hd).ok⟩, by
  have := depthAll_le fun d hd => (h d hd).dep
  simp only [PyData.depth]; omega, by
  have h1 := tls_le (B := NB n) (ds := ds) fun d hd => (h d hd).le
  cases ds with
  | nil => rw [shL_list0 rnote]; simp [NB]
  | cons d ds =>
    rw [shL_list rnote]
    simp only [tls, List.length_cons, List.length_append, NB] at *
    have h2 : (ds.length + 1) * (NB n + 2) ≤ 3 * (NB n + 2) := Nat.mul_le_mul_right _ l
    simp only [List.length_nil]; omega⟩
theorem vok_tuple {n : Nat} {ds : List PyData} (h : ∀ d ∈ ds, VOk n d) (l : ds.length ≤ 3) : VOk (n + 1) (.tuple ds) := ⟨by
  simp only [gB, Bool.and_eq_true, decide_eq_true_eq]
  exact ⟨by omega, gAll_mem.mpr fun d hd => (h d hd).ok⟩, by
  have := depthAll_le fun d hd => (h d hd).dep
  simp only [PyData.depth]; omega, by
  have h1 := tls_le (B := NB n) (ds := ds) fun d hd => (h d hd).le
  cases ds with
  | nil => rw [shL_tup0 rnote]; simp [NB]
  | cons d ds =>
    rw [shL_tup rnote]
    simp only [tls, List.length_cons, List.length_append, NB] at *
    have h2 : (ds.length + 1) * (NB n + 2) ≤ 3 * (NB n + 2) := Nat.mul_le_mul_right _ l
    have h3 : (clT (ds.length + 1)).length ≤ 2 := by unfold clT; split <;> simp
    omega⟩
theorem gkey_str {k : PyData} (h : gkeyB k = true) : ∃ x, k = .str x := by
  cases k with
  | str x => exact ⟨x, rfl⟩
  | _ => cases h
theorem vok_dict {n : Nat} {D : List (PyData × PyData)} (h : ∀ p ∈ D, gkeyB p.1 = true ∧ VOk n p.2) (l : D.length ≤ 3) : VOk (n + 1) (.dict D) := ⟨by
  simp only [gB, Bool.and_eq_true, decide_eq_true_eq]
  exact ⟨by omega, gKv_mem.mpr fun d hd => ⟨(h d hd).1, (h d hd).2.ok⟩⟩, by
  have := depthKv_le (n := n) fun p hp => ⟨(h p hp).2.dep, by
    obtain ⟨x, e⟩ := gkey_str (h p hp).1
    rw [e]; exact Nat.zero_le _⟩
  simp only [PyData.depth]; omega, by
  have h1 := tlK_le (B := NB n) (D := D) fun p hp => ⟨by
    have hk := (h p hp).1
    obtain ⟨x, e⟩ := gkey_str hk
    rw [e] at hk ⊢
    simp only [gkeyB, Bool.and_eq_true, decide_eq_true_eq] at hk
    have h2 := esc_len x.cps.toList
    have e2 : x.cps.toList.length = x.length := by simp [Str.length]
    have e3 : shL note (.str x) = 34 :: (x.cps.toList.flatMap esc ++ [34]) := by simp only [shL, note]; rfl
    rw [e3]
    simp only [List.length_cons, List.length_append, List.length_nil]; omega, (h p hp).2.le⟩
  cases D with
  | nil => rw [shL_dict0 rnote]; simp [NB]
  | cons p D =>
    obtain ⟨k, d⟩ := p
    rw [shL_dict rnote]
    simp only [tlK, List.length_cons, List.length_append, NB] at *
    have h2 : (D.length + 1) * (NB n + 22) ≤ 3 * (NB n + 22) := Nat.mul_le_mul_right _ l
    have h4 := Nat.le_trans h1 h2
    clear h1 h2 h
    simp only [List.length_nil, kvL, List.length_append, List.length_cons] at h4 ⊢
    generalize NB n = B at h4 ⊢
    generalize (shL note k).length = kl at h4 ⊢
    generalize (shL note d).length = dl at h4 ⊢
    generalize (tlK note D).length = tt at h4 ⊢
    omega⟩
/-- pairs put one behind the other -/
def mrgD (D : List (PyData × PyData)) : List (PyData × PyData) → List (PyData × PyData)
  | [] => D
  | (.str x, d) :: r => mrgD (putD D x d) r
  | _ :: r => mrgD D r
theorem putD_mem {x : Str} {d : PyData} {p : PyData × PyData} : ∀ {D : List (PyData × PyData)}, p ∈ putD D x d → p ∈ D ∨ p = (.str x, d)
  | [], h => .inr (by simpa [putD] using h)
  | q :: r, h => by
    unfold putD at h
    split at h
    · rcases List.mem_cons.mp h with e | e
      · exact .inr e
      · exact .inl (List.mem_cons_of_mem _ e)
    · rcases List.mem_cons.mp h with e | e
      · exact .inl (by rw [e]; exact List.mem_cons_self ..)
      · exact (putD_mem e).imp (List.mem_cons_of_mem _) id
theorem putD_len (x : Str) (d : PyData) : ∀ D : List (PyData × PyData), (putD D x d).length ≤ D.length + 1
  | [] => by simp [putD]
  | q :: r => by
    unfold putD
    split
    · simp
    · have := putD_len x d r
      simp only [List.length_cons]; omega
theorem mrgD_mem {p : PyData × PyData} : ∀ {M D : List (PyData × PyData)}, p ∈ mrgD D M → p ∈ D ∨ p ∈ M
  | [], D, h => .inl h
  | (k, d) :: r, D, h => by
    cases k with
    | str x => exact (mrgD_mem (D := putD D x d) h).elim (fun e => (putD_mem e).imp id fun z => by rw [z]; exact List.mem_cons_self ..) fun e => .inr (List.mem_cons_of_mem _ e)
    | _ => exact (mrgD_mem (M := r) (D := D) h).imp id (List.mem_cons_of_mem _)
theorem mrgD_len : ∀ (M D : List (PyData × PyData)), (mrgD D M).length ≤ D.length + M.length
  | [], D => Nat.le_refl _
  | (k, d) :: r, D => by
    cases k with
    | str x =>
      have h1 := mrgD_len r (putD D x d)
      have h2 := putD_len x d D
      show (mrgD (putD D x d) r).length ≤ _
      simp only [List.length_cons]; omega
    | _ =>
      have h1 := mrgD_len r D
      show (mrgD D r).length ≤ _
      simp only [List.length_cons]; omega
theorem trD_merge {H : Hp} : ∀ {more : List (Key × V)} {M : List (PyData × PyData)} {f2 : List Addr}, TrD H more M f2 → ∀ {kvs : List (Key × V)} {D : List (PyData × PyData)} {fp : List Addr}, TrD H kvs D fp → (kvs.map (·.1)).Nodup →
    ∃ fp', TrD H (mergeK kvs more) (mrgD D M) fp' ∧ (∀ c ∈ fp', c ∈ fp ∨ c ∈ f2) ∧ ((mergeK kvs more).map (·.1)).Nodup
  | _, _, _, .nil, _, _, _, t, nd => ⟨_, t, fun c hc => .inl hc, nd⟩
  | _, _, _, .cons (x := x) (v := v) (d := d) h hs, kvs, D, fp, t, nd => by
    obtain ⟨f1, t1, k1⟩ := trD_put (x := x) h t nd
    obtain ⟨f3, t3, k3, n3⟩ := trD_merge hs t1 (nd_put (trD_keys t) nd)
    exact ⟨f3, t3, fun c hc => (k3 c hc).elim (fun e => (k1 c e).imp id (List.mem_append_left _)) fun e => .inr (List.mem_append_right _ e), n3⟩
theorem Dr.fresh {a c : Addr} {H G : Hp} (h : Dr a H G) (n : G c = none) : H c = none ∧ c ≠ a := by
  obtain ⟨x, y, _, _, e⟩ := h.src
  have nc : c ≠ a := fun z => by rw [z, e] at n; cases n
  cases q : H c with
  | none => exact ⟨rfl, nc⟩
  | some o => have := h.ot c o nc q; rw [n] at this; cases this
theorem Dr.tr {a : Addr} {H G X : Hp} (h : Dr a H G) (k : Dr a G X) {v : V} {d : PyData} {fp : List Addr} (t : Tr G v d fp) (n : a ∉ fp) : Tr X v d fp := by
  obtain ⟨x, y, _, _, e⟩ := h.src
  exact t.but (p := a) (fun xs z => by rw [e] at z; cases z) (fun c o nc q => k.ot c o nc q) n
theorem Dr.trL {a : Addr} {H G X : Hp} (h : Dr a H G) (k : Dr a G X) {v : List V} {d : List PyData} {fp : List Addr} (t : TrL G v d fp) (n : a ∉ fp) : TrL X v d fp := by
  obtain ⟨x, y, _, _, e⟩ := h.src
  exact t.but (p := a) (fun xs z => by rw [e] at z; cases z) (fun c o nc q => k.ot c o nc q) n
theorem Dr.trD {a : Addr} {H G X : Hp} (h : Dr a H G) (k : Dr a G X) {v : List (Key × V)} {d : List (PyData × PyData)} {fp : List Addr} (t : TrD G v d fp) (n : a ∉ fp) : TrD X v d fp := by
  obtain ⟨x, y, _, _, e⟩ := h.src
  exact t.but (p := a) (fun xs z => by rw [e] at z; cases z) (fun c o nc q => k.ot c o nc q) n
theorem Dr.no {a : Addr} {H G : Hp} (h : Dr a H G) {fp : List Addr} (n : ∀ c ∈ fp, G c = none) : a ∉ fp := fun z => (h.fresh (n a z)).2 rfl
section
variable {g : Wd} {f : Addr} {fd : FuncData}
theorem sc_l_value : FnScope ["_law_source_here", "_law_depth", "_law_way", "_law_number", "_law_items", "_law_turn", "_law_item"] ["_law_source_here", "_law_depth"] (defScope s_l_value) := ⟨rfl, rfl, rfl, by decide +kernel, rfl, by decide +kernel, by decide +kernel⟩
/-- m - 1 is the depth that is asked for -/
def sp_value (m : Nat) : Sp := S2 fun s k H Q _ => ∃ a n, m = n + 1 ∧ s = .ref a ∧ Src H a ∧ k = .int (n : Nat) ∧ ∀ v d fp G, Dr a H G → Tr G v d fp → (∀ c ∈ fp, H c = none) → VOk n d → Q v G
theorem ok_value (n : Nat) (F : Df g.K "_law_value" "_law_value" s_l_value f fd .none) (T : Txt g) (F_l_pick : Kn g "_law_pick" 1 ["_law_source_here", "_law_amount"] [] sp_pick) (F_l_string : Kn g "_law_string" 2 ["_law_source_here"] [] sp_string)
    (F_l_value : Kn g "_law_value" (n + 3) ["_law_source_here", "_law_depth"] [] (sp_value n)) : FnG g (n + 4) f fd ["_law_source_here", "_law_depth"] (sp_value (n + 1)) := by
  refine F.ok sc_l_value (fun vs H Q E h => S2.len h) (fun cdv A outer s H vs Q E hr h => ?_)
  obtain ⟨_, _, rfl, a, m, hn, rfl, ha, rfl, q⟩ := h
  obtain rfl : n = m := by omega
  refine ⟨_, (pss_cons (ps_set (i := 2) sc_l_value.nd rfl (Or.inl rfl) (pe_ifExp (pt_cmpR op_gt (pv 1) pe_int (nomark _)) (pe_callG F_l_pick (hr.mono (by first | decide | omega)) tkD (pa_cons (pv 0) (pa_cons pe_int pa_nil))) (pe_callG F_l_pick (hr.mono (by first | decide | omega)) tkD (pa_cons (pv 0) (pa_cons pe_int pa_nil)))))
      (pss_cons (ps_if (pt_cmpR op_lt (pv 2) pe_int (nomark _)) (pss_one (ps_ret (pe_ix (o_ix (K := g.K)) (pe_lst (pa_cons pe_non (pa_cons pe_bl (pa_cons pe_bl pa_nil)))) (pe_callG F_l_pick (hr.mono (by first | decide | omega)) tkD (pa_cons (pv 0) (pa_cons pe_int pa_nil))) (fun _ _ => rfl)))) pss_nil)
      (pss_cons (ps_if (pt_cmpR op_lt (pv 2) pe_int (nomark _)) (pss_cons (ps_set (i := 3) sc_l_value.nd rfl (Or.inl rfl) (pe_callG F_l_pick (hr.mono (by first | decide | omega)) tkD (pa_cons (pv 0) (pa_cons (pe_ix (o_ix (K := g.K)) (pe_lst (pa_cons pe_int (pa_cons pe_int (pa_cons pe_int pa_nil)))) (pe_callG F_l_pick (hr.mono (by first | decide | omega)) tkD (pa_cons (pv 0) (pa_cons pe_int pa_nil))) (fun _ _ => rfl)) pa_nil))))
      (pss_one (ps_ret (pe_ifExp (pt_cmpR (o_eq (K := g.K) hr) (pe_callG F_l_pick (hr.mono (by first | decide | omega)) tkD (pa_cons (pv 0) (pa_cons pe_int pa_nil))) pe_int (nomark _)) (pv 3) (pe_op op_sub pe_int (pv 3)))))) pss_nil)
      (pss_cons (ps_if (pt_cmpR (o_eq (K := g.K) hr) (pv 2) pe_int (nomark _)) (pss_one (ps_ret (pe_callG F_l_string (hr.mono (by first | decide | omega)) tkD (pa_cons (pv 0) pa_nil)))) pss_nil)
      (pss_cons (ps_setLc (i := 4) (own := [("_law_turn", 5)]) (tt := tYes) rfl sc_l_value.nd rfl rfl (sw_true rfl rfl rfl (by decide +kernel)) (pi_range1 rfl T.b_range (pa_cons (pe_callG F_l_pick (hr.mono (by first | decide | omega)) tkD (pa_cons (pv 0) (pa_cons pe_int pa_nil))) pa_nil)) (blkOk_by (own := [("_law_turn", 5)]) (N := ["_law_source_here", "_law_depth", "_law_way", "_law_number", "_law_items", "_law_turn", "_law_item"]) (sc := defScope s_l_value) (by decide +kernel)) (fun _ _ _ _ _ => (pg_name (i := 5) sc_l_value.nd rfl (.inl rfl))) (fun _ _ _ _ _ => pts_nil) (fun _ _ _ _ _ => (pe_callG F_l_value (Rm.mono (Rm.mk hr.room hr.gd) (by first | decide | omega)) L2.takes0 (pa_cons (pv 0) (pa_cons (pe_op op_sub (pv 1) pe_int) pa_nil)))))
      (pss_cons (ps_if (pt_cmpR op_lt (pv 2) pe_int (nomark _)) (pss_one (ps_ret (pe_ifExp (pt_cmpR (o_eq (K := g.K) hr) (pv 2) pe_int (nomark _)) (pv 4) (pe_callTy call_tuple_of (by rfl) T.b_tuple bb_tuple (pa_cons (pv 4) pa_nil))))) pss_nil)
      (pss_one (ps_ret (pe_callTy (call_dictP rfl) (by rfl) T.b_dict bb_dict (pa_cons (pe_lc (own := [("_law_item", 6)]) (tt := tYes) rfl sc_l_value.nd (i_list (K := g.K) (pv 4)) (blkOk_by (own := [("_law_item", 6)]) (N := ["_law_source_here", "_law_depth", "_law_way", "_law_number", "_law_items", "_law_turn", "_law_item"]) (sc := defScope s_l_value) (by decide +kernel)) (fun _ _ _ _ _ => (pg_name (i := 6) sc_l_value.nd rfl (.inl rfl))) (fun _ _ _ _ _ => pts_nil) (fun _ _ _ _ _ => (pe_tup (pa_cons (pe_callG F_l_string (Rm.mono (Rm.mk hr.room hr.gd) (by first | decide | omega)) L2.takes0 (pa_cons (pv 0) pa_nil)) (pa_cons (pv 6) pa_nil))))) pa_nil)))))))))), ?_⟩
  walk_at "sx"
  have two : ∀ {K : VK} {X : XK}, (∀ x y w : Int, 0 ≤ x → 0 ≤ y → 0 ≤ w → w < 9 → (n = 0 → w < 5) → K (.int w) (upd H a (.lst [.int x, .int y]))) → if decide ((0 : Int) < n) = true then sp_pick [V.ref a, V.int 9] H K X else sp_pick [V.ref a, V.int 5] H K X := by
    intro K X h
    split
    · rename_i e
      exact ⟨_, _, rfl, a, 9, rfl, ha, rfl, by decide, by decide, fun x y w x0 y0 w0 w1 => h x y w x0 y0 w0 w1 fun z => by simp [z] at e⟩
    · rename_i e
      exact ⟨_, _, rfl, a, 5, rfl, ha, rfl, by decide, by decide, fun x y w x0 y0 w0 w1 => h x y w x0 y0 w0 (by omega) fun z => w1⟩
  refine two fun x y w x0 y0 w0 w1 w5 => ?_
  have d1 : Dr a H (upd H a (.lst [.int x, .int y])) := .pick x0 y0
  generalize upd H a (.lst [.int x, .int y]) = H1 at d1 ⊢
  have pa : ∀ {p}, H1 p = none → p ≠ a := fun hp z => by
    obtain ⟨_, _, _, _, e⟩ := d1.src
    rw [← z, hp] at e; cases e
  refine ⟨w, rfl, ?_⟩
  by_cases c1 : w < 2
  · rw [if_pos (by simp [c1])]
    intro p hp
    have d2 : Dr a H (upd H1 p (.lst [.non, .bl true, .bl false])) := d1.laid hp
    have ep : upd H1 p (.lst [.non, .bl true, .bl false]) p = some (.lst [.non, .bl true, .bl false]) := upd_same
    generalize upd H1 p (.lst [.non, .bl true, .bl false]) = H2 at d2 ep ⊢
    refine ⟨_, _, rfl, a, 3, rfl, d2.src, rfl, by decide, by decide, fun x y c x0 y0 c0 c1 => ?_⟩
    dsimp only
    have d3 : Dr a H (upd H2 a (.lst [.int x, .int y])) := d2.trans (.pick x0 y0)
    have ep3 : upd H2 a (.lst [.int x, .int y]) p = some (.lst [.non, .bl true, .bl false]) := by rw [upd_ne (pa hp)]; exact ep
    generalize upd H2 a (.lst [.int x, .int y]) = H3 at d3 ep3 ⊢
    rw [RS.ix_r]
    obtain rfl | rfl | rfl : c = 0 ∨ c = 1 ∨ c = 2 := by omega
    · exact ⟨_, .inl (SqL.of ep3), _, rfl, q _ _ [] _ d3 .non (by simp) (vok_none n)⟩
    · exact ⟨_, .inl (SqL.of ep3), _, rfl, q _ _ [] _ d3 (.bl true) (by simp) (vok_bool n true)⟩
    · exact ⟨_, .inl (SqL.of ep3), _, rfl, q _ _ [] _ d3 (.bl false) (by simp) (vok_bool n false)⟩
  rw [if_neg (by simp; omega)]
  refine ⟨w, rfl, ?_⟩
  by_cases c2 : w < 4
  · rw [if_pos (by simp [c2])]
    intro p hp
    have d2 : Dr a H (upd H1 p (.lst [.int 2, .int 1000, .int 1000000000000000000])) := d1.laid hp
    have ep : upd H1 p (.lst [.int 2, .int 1000, .int 1000000000000000000]) p = some (.lst [.int 2, .int 1000, .int 1000000000000000000]) := upd_same
    generalize upd H1 p (.lst [.int 2, .int 1000, .int 1000000000000000000]) = H2 at d2 ep ⊢
    refine ⟨_, _, rfl, a, 3, rfl, d2.src, rfl, by decide, by decide, fun x y c x0 y0 c0 c1 => ?_⟩
    dsimp only
    have d3 : Dr a H (upd H2 a (.lst [.int x, .int y])) := d2.trans (.pick x0 y0)
    have ep3 : upd H2 a (.lst [.int x, .int y]) p = some (.lst [.int 2, .int 1000, .int 1000000000000000000]) := by rw [upd_ne (pa hp)]; exact ep
    generalize upd H2 a (.lst [.int x, .int y]) = H3 at d3 ep3 ⊢
    rw [RS.ix_r]
    have go : ∀ m : Int, 0 < m → m ≤ 10 ^ 18 → sp_pick [V.ref a, .int m] H3 (fun x H1 => sp_pick [V.ref a, V.int 2] H1 (fun x_1 H1 => rEqU g.K x_1 (V.int 0) H1 fun x_2 H' => ∃ k, x_2 = V.bl k ∧ if k = true then Q x H' else ∃ x_3, x = V.int x_3 ∧ Q (V.int (0 - x_3)) H') fun c d H' => E c d H') (fun c d H' => E c d H') := by
      intro m m0 m1
      refine ⟨_, _, rfl, a, m, rfl, d3.src, rfl, m0, by omega, fun x y v x0 y0 v0 v1 => ?_⟩
      have d4 : Dr a H (upd H3 a (.lst [.int x, .int y])) := d3.trans (.pick x0 y0)
      generalize upd H3 a (.lst [.int x, .int y]) = H4 at d4 ⊢
      refine ⟨_, _, rfl, a, 2, rfl, d4.src, rfl, by decide, by decide, fun x y u x0 y0 u0 u1 => ?_⟩
      have d5 : Dr a H (upd H4 a (.lst [.int x, .int y])) := d4.trans (.pick x0 y0)
      generalize upd H4 a (.lst [.int x, .int y]) = H5 at d5 ⊢
      dsimp only
      rw [RS.eq_ii]
      refine ⟨_, rfl, ?_⟩
      by_cases e : u = 0
      · rw [if_pos (by simp [e])]
        exact q _ _ [] _ d5 (.int v) (by simp) (vok_int n (by omega))
      · rw [if_neg (by simp [e])]
        exact ⟨v, rfl, q _ _ [] _ d5 (.int (0 - v)) (by simp) (vok_int n (by omega))⟩
    obtain rfl | rfl | rfl : c = 0 ∨ c = 1 ∨ c = 2 := by omega
    · exact ⟨_, .inl (SqL.of ep3), _, rfl, go 2 (by decide) (by decide)⟩
    · exact ⟨_, .inl (SqL.of ep3), _, rfl, go 1000 (by decide) (by decide)⟩
    · exact ⟨_, .inl (SqL.of ep3), _, rfl, go 1000000000000000000 (by decide) (by decide)⟩
  rw [if_neg (by simp; omega), RS.eq_ii]
  refine ⟨_, rfl, ?_⟩
  by_cases c4 : w = 4
  · rw [if_pos (by simp [c4])]
    exact ⟨_, rfl, a, rfl, d1.src, fun l G hl hs dG => q _ _ [] _ (d1.trans dG) (.str _) (by simp) (vok_str n hl hs)⟩
  rw [if_neg (by simp [c4])]
  obtain ⟨n, rfl⟩ : ∃ m, n = m + 1 := ⟨n - 1, by omega⟩
  refine ⟨_, _, rfl, a, 4, rfl, d1.src, rfl, by decide, by decide, fun x y m x0 y0 m0 m1 => ?_⟩
  have d2 : Dr a H (upd H1 a (.lst [.int x, .int y])) := d1.trans (.pick x0 y0)
  generalize upd H1 a (.lst [.int x, .int y]) = H2 at d2 ⊢
  refine ⟨m, rfl, by omega, by omega, ?_⟩
  refine lc_invA m.toNat (fun D i acc X => Dr a H X ∧ ∃ ds fa, TrL X acc ds fa ∧ (∀ c ∈ fa, H c = none ∧ c ≠ D ∧ c ≠ a) ∧ ds.length = i ∧ ∀ d ∈ ds, VOk n d) (by rw [sizeLine_eq]; omega) (fun D hD => ⟨d2.laid hD, [], [], .nil, by simp, rfl, by simp⟩) (fun D i acc X hD lt P => lt) (fun D acc X hD P => Nat.le_refl _) (fun D i acc X x X' K hD lt la P eD yl k => ?_) (fun D acc X hD P eD => ?_)
  · obtain ⟨dX, ds, fa, ta, na, rfl, ok⟩ := P
    obtain ⟨rfl, rfl⟩ := yl
    refine ⟨rfl, ?_⟩
    walk_at "sx"
    have Da := (d2.fresh hD).2
    refine ⟨_, _, rfl, a, n, rfl, rfl, dX.src, by congr 1; omega, fun v d fp G2 dG tv nf vk => ?_⟩
    have af : a ∉ fp := dX.no nf
    have eD2 := dG.ot D _ Da eD
    have fD : D ∉ fp := fun z => by have := nf D z; rw [eD] at this; cases this
    have nD : ∀ ys, G2 D ≠ some (.tup ys) := fun ys z => by rw [eD2] at z; cases z
    have kD : ∀ c o, c ≠ D → G2 c = some o → upd G2 D (.lst (acc ++ [v])) c = some o := fun c o n z => by rw [upd_ne n]; exact z
    refine k v G2 eD2 ⟨(dX.trans dG).grow d2 hD, ds ++ [d], fa ++ fp, TrL.snoc (tv.but nD kD fD) ((dX.trL dG ta fun z => (na a z).2.2 rfl).but nD kD fun z => (na D z).2.1 rfl), fun c hc => ?_, by simp, fun e he => ?_⟩
    · rcases List.mem_append.mp hc with z | z
      · exact na c z
      · exact ⟨(dX.fresh (nf c z)).1, fun e => fD (e ▸ z), fun e => af (e ▸ z)⟩
    · rcases List.mem_append.mp he with z | z
      · exact ok e z
      · rw [List.mem_singleton.mp z]; exact vk
  obtain ⟨dX, ds, fa, ta, na, hl, ok⟩ := P
  have Dn := d2.fresh hD
  have fa1 : ∀ c ∈ D :: fa, H c = none := fun c hc => (List.mem_cons.mp hc).elim (fun e => e ▸ Dn.1) fun e => (na c e).1
  refine ⟨w, rfl, ?_⟩
  by_cases c7 : w < 7
  · rw [if_pos (by simp [c7]), RS.eq_ii]
    refine ⟨_, rfl, ?_⟩
    by_cases c5 : w = 5
    · rw [if_pos (by simp [c5])]
      exact q _ _ _ _ dX (.lst eD ta fun z => (na D z).2.1 rfl) fa1 (vok_list ok (by omega))
    · rw [if_neg (by simp [c5])]
      exact ⟨D, rfl, acc, .inl ⟨SqL.of eD, fun l hl2 => q _ _ _ _ (dX.laid hl2) (.tup upd_same (ta.same (same_upd hl2))) (fun c hc => (na c hc).1) (vok_tuple ok (by omega))⟩⟩
  rw [if_neg (by simp [c7])]
  refine ⟨D, rfl, ⟨_, SqL.of eD⟩, ?_⟩
  have ll := ta.len
  refine lc_invA acc.length (fun B i bs Y => Dr a H Y ∧ Dr a X Y ∧ ∃ ps kvs M fm, bs = ps.map V.ref ∧ Paired (fun p kv => Y p = some (.tup [kV kv.1, kv.2])) ps kvs ∧ TrD Y kvs M fm ∧ M.length = i ∧ (∀ c ∈ fm, c ∈ fa) ∧ ∀ p ∈ M, gkeyB p.1 = true ∧ VOk n p.2) (by rw [sizeLine_eq]; omega) (fun B hB => ⟨dX.laid hB, (Dr.refl dX.src).laid hB, [], [], [], [], rfl, .nil, .nil, rfl, by simp, by simp⟩)
    (fun B i bs Y hB lt P => ⟨_, acc[i], SqL.of (P.2.1.ot D _ Dn.2 eD), by simp [lt]⟩) (fun B bs Y hB P => ⟨_, SqL.of (P.2.1.ot D _ Dn.2 eD), Nat.le_refl _⟩) (fun B i bs Y x Y' K hB lt la P eB yl k => ?_) (fun B bs Y hB P eB => ?_)
  · obtain ⟨dY, dXY, ps, kvs, M, fm, rfl, pr, tm, rfl, sub, okM⟩ := P
    obtain ⟨rfl, hx⟩ := yl
    have hx := hx _ (SqL.of (dXY.ot D _ Dn.2 eD))
    obtain ⟨v, d, f', e1, e2, tv, sf⟩ := ta.get lt
    rw [hx] at e1
    cases e1
    refine ⟨rfl, ?_⟩
    walk_at "sx"
    have Ba := (dX.fresh hB).2
    have afa : a ∉ fa := fun z => (na a z).2.2 rfl
    have Bfa : B ∉ fa := fun z => by
      rcases ta.there B z with ⟨ys, e⟩ | ⟨ys, e⟩ <;> (rw [hB] at e; cases e)
    refine ⟨_, rfl, a, rfl, dY.src, fun l G hl hs dG p hp => ?_⟩
    have eB2 := dG.ot B _ Ba eB
    have pB : p ≠ B := fun z => by rw [z, eB2] at hp; cases hp
    have dYp : Dr a Y' (upd G p (.tup [.str (S l), x])) := dG.laid hp
    have keep : ∀ c xs, Y' c = some (.tup xs) → upd (upd G p (.tup [.str (S l), x])) B (.lst (ps.map V.ref ++ [.ref p])) c = some (.tup xs) := fun c xs e => by
      have n1 : c ≠ B := fun z => by rw [z, eB] at e; cases e
      have n2 : c ≠ a := fun z => by
        obtain ⟨_, _, _, _, e3⟩ := dY.src
        rw [z, e3] at e; cases e
      rw [upd_ne n1]
      exact dYp.ot c _ n2 e
    have nB : ∀ ys, upd G p (.tup [.str (S l), x]) B ≠ some (.tup ys) := fun ys z => by rw [upd_ne pB.symm, eB2] at z; cases z
    have kB : ∀ c o, c ≠ B → upd G p (.tup [.str (S l), x]) c = some o → upd (upd G p (.tup [.str (S l), x])) B (.lst (ps.map V.ref ++ [.ref p])) c = some o := fun c o n z => by rw [upd_ne n]; exact z
    refine k (.ref p) _ (by rw [upd_ne pB.symm]; exact eB2) ⟨(dY.trans dYp).grow dX hB, (dXY.trans dYp).grow (Dr.refl dX.src) hB, ps ++ [p], kvs ++ [(.inr (S l), x)], M ++ [(.str (S l), d)], fm ++ f', by simp, paired_snoc (by rw [upd_ne pB]; exact upd_same) (paired_imp (fun _ _ z => keep _ _ z) pr), ?_, by simp, fun c hc => ?_, fun e he => ?_⟩
    · refine TrD.snoc ?_ ?_
      · exact (dX.tr (dXY.trans dYp) tv fun z => afa (sf a z)).but nB kB fun z => Bfa (sf B z)
      · exact (dY.trD dYp tm fun z => afa (sub a z)).but nB kB fun z => Bfa (sub B z)
    · exact (List.mem_append.mp hc).elim (sub c) (sf c)
    · rcases List.mem_append.mp he with z | z
      · exact okM e z
      · rw [List.mem_singleton.mp z]
        exact ⟨(vok_str 0 hl hs).ok, ok d (List.mem_of_getElem? e2)⟩
  · obtain ⟨dY, dXY, ps, kvs, M, fm, rfl, pr, tm, hM, sub, okM⟩ := P
    obtain ⟨fp', tf, sf, ndf⟩ := trD_merge tm .nil (by simp)
    refine ⟨B, rfl, ps, SqL.of eB, kvs, paired_imp (fun _ _ z => SqT.of z) pr, fun p hp => ?_⟩
    have fsub : ∀ c ∈ fp', c ∈ fa := fun c hc => (sf c hc).elim (fun z => by simp at z) (sub c)
    have lM := mrgD_len M []
    simp only [List.length_nil] at lM
    refine q _ _ (p :: fp') _ (dY.laid hp) (.dct upd_same (tf.same (same_upd hp)) (fun z => ?_) ndf) (fun c hc => ?_) (vok_dict (fun e he => okM e ((mrgD_mem he).elim (fun z => by simp at z) id)) (by omega))
    · rcases tf.there p z with ⟨ys, e⟩ | ⟨ys, e⟩ <;> (rw [hp] at e; cases e)
    · rcases List.mem_cons.mp hc with e | e
      · rw [e]; exact (dY.fresh hp).1
      · exact (na c (fsub c e)).1
end
/-- the state of a reading -/
def MAt (H : Hp) (m : Addr) (t : List Nat) (i : Nat) : Prop := H m = some (.dK [(.inr "text", .str (S t)), (.inr "at", .int (i : Nat))])
theorem MAt.text {H : Hp} {m : Addr} {t : List Nat} {i : Nat} (h : MAt H m t i) : DGet H m (.str "text") (some (.str (S t))) := .inl ⟨_, .inr "text", .inl h, rfl, by rw [vv_cons, if_pos rfl]⟩
theorem MAt.pos {H : Hp} {m : Addr} {t : List Nat} {i : Nat} (h : MAt H m t i) : DGet H m (.str "at") (some (.int (i : Nat))) := .inl ⟨_, .inr "at", .inl h, rfl, by rw [vv_cons, if_neg (by decide +kernel), vv_cons, if_pos rfl]⟩
theorem MAt.put {H : Hp} {m : Addr} {t : List Nat} {i : Nat} (h : MAt H m t i) (j : Int) : DPut H m (.str "at") (.int j) (upd H m (.dK [(.inr "text", .str (S t)), (.inr "at", .int j)])) := .inl ⟨_, .inr "at", h, rfl, (by decide : (2 : Nat) < sizeLine), by
  rw [RS.pk_cons (hr := by rw [vv_cons, if_neg (by decide +kernel)]; rfl), if_neg (by decide +kernel), RS.pk_one, if_pos rfl]⟩
/-- the state has moved to j, all else stays -/
structure Go (m : Addr) (t : List Nat) (j : Nat) (H G : Hp) : Prop where
  ot : ∀ c o, c ≠ m → H c = some o → G c = some o
  mt : MAt G m t j
theorem Go.refl {m : Addr} {t : List Nat} {j : Nat} {H : Hp} (h : MAt H m t j) : Go m t j H H := ⟨fun _ _ _ e => e, h⟩
theorem Go.trans {m : Addr} {t : List Nat} {i j : Nat} {H G X : Hp} (h : Go m t i H G) (k : Go m t j G X) : Go m t j H X := ⟨fun c o n e => k.ot c o n (h.ot c o n e), k.mt⟩
theorem Go.put {m : Addr} {t : List Nat} {j : Nat} {H : Hp} : Go m t j H (upd H m (.dK [(.inr "text", .str (S t)), (.inr "at", .int (j : Nat))])) := ⟨fun c o n e => by rw [upd_ne n]; exact e, upd_same⟩
theorem rex_step {t w : List Nat} {i j c : Nat} {u : Unit} (h : rex (w.take j) (t.drop i) = .ok u j) (hc : w[j]? = some c) : rex w (t.drop i) = (rex (c :: w.drop (j + 1)) (t.drop (i + j))).up j := by
  have jl := (List.getElem?_eq_some_iff.mp hc).1
  have := rex_drop h (by omega)
  rw [this, List.drop_drop, List.drop_eq_getElem_cons jl]
  rw [List.getElem?_eq_getElem jl] at hc
  cases hc
  rfl
theorem rex_more {t w : List Nat} {i j c : Nat} {u : Unit} (h : rex (w.take j) (t.drop i) = .ok u j) (hc : w[j]? = some c) (hd : (t.drop (i + j)).head? = some c) : rex (w.take (j + 1)) (t.drop i) = .ok () (j + 1) := by
  have jl := (List.getElem?_eq_some_iff.mp hc).1
  have e1 : (w.take (j + 1)).take j = w.take j := by rw [List.take_take]; congr 1; omega
  have := rex_drop (w := w.take (j + 1)) (k := j) (r := t.drop i) (u := u) (by rw [e1]; exact h) (by rw [List.length_take]; omega)
  rw [this, List.drop_drop, List.drop_take]
  rw [List.getElem?_eq_getElem jl] at hc
  cases hc
  rw [show j + 1 - j = 1 from by omega]
  cases hh : t.drop (i + j) with
  | nil => rw [hh] at hd; cases hd
  | cons x r =>
    rw [hh] at hd
    simp only [List.head?_cons, Option.some.injEq] at hd
    subst hd
    have h1 : (w.drop j).take 1 = [w[j]] := by rw [List.drop_eq_getElem_cons jl]; rfl
    simp [rex, Res.up, h1]
theorem take1_of {r : List Nat} {c : Nat} (h : r.head? = some c) : r.take 1 = [c] ∧ 0 < r.length := by
  cases r with
  | nil => cases h
  | cons x r => cases h; simp
theorem take1_ne {r : List Nat} {c : Nat} (h : r.head? ≠ some c) : r.take 1 ≠ [c] := by
  cases r with
  | nil => simp
  | cons x r => simpa using h
theorem rex_no {r w : List Nat} {c : Nat} (h : r.head? ≠ some c) : rex (c :: w) r = .bad 0 := by
  cases r with
  | nil => rfl
  | cons x r =>
    have : x ≠ c := by simpa using h
    simp only [rex, if_neg this]
section
variable {g : Wd} {f : Addr} {fd : FuncData} {CI AU AW : Addr}
theorem sc_l_sign : FnScope ["_law_m"] ["_law_m"] (defScope s_l_sign) := ⟨rfl, rfl, rfl, by decide +kernel, rfl, by decide +kernel, by decide +kernel⟩
def sp_sgn : Sp := S1 fun a H Q _ => ∃ (m : Addr) (t : List Nat) (i : Nat), a = .ref m ∧ MAt H m t i ∧ t.length ≤ 100000 ∧ i ≤ t.length ∧ Q (.str (S ((t.drop i).take 1))) H
theorem ok_sgn (F : Df g.K "_law_sign" "_law_sign" s_l_sign f fd .none) (T : Txt g) : FnG g 1 f fd ["_law_m"] sp_sgn := by
  refine F.ok sc_l_sign (fun vs H Q E h => S1.len h) (fun cdv A outer s H vs Q E hr h => ?_)
  obtain ⟨_, rfl, m, t, i, rfl, hm, tl, il, q⟩ := h
  refine ⟨_, (pss_one (ps_ret (pe_slice (o_sl (K := g.K)) (pe_dget (hu_of hr.room) (pv 0) pe_str (fun _ _ => rfl)) (po_some (pe_dget (hu_of hr.room) (pv 0) pe_str (fun _ _ => rfl))) (po_some (pe_op (o_add (K := g.K)) (pe_dget (hu_of hr.room) (pv 0) pe_str (fun _ _ => rfl)) pe_int))))), ?_⟩
  walk_at "sx"
  refine ⟨_, hm.text, _, hm.pos, _, rfl, _, hm.pos, _, rfl, ?_⟩
  refine ⟨by rw [S_len, sizeLine_eq]; omega, ?_⟩
  rw [cut_both _ (by omega) (by omega)]
  have e1 : ((i : Int) + 1).toNat - ((i : Int)).toNat = 1 := by omega
  rw [e1, Int.toNat_natCast]
  exact q
theorem sc_l_word : FnScope ["_law_m", "_law_word_here", "_law_sign_here"] ["_law_m", "_law_word_here"] (defScope s_l_word) := ⟨rfl, rfl, rfl, by decide +kernel, rfl, by decide +kernel, by decide +kernel⟩
def sp_wd : Sp := S2 fun a b H Q _ => ∃ (m : Addr) (t w : List Nat) (i : Nat), a = .ref m ∧ b = .str (S w) ∧ MAt H m t i ∧ t.length ≤ 100000 ∧ i ≤ t.length ∧ w.length ≤ 100 ∧ match rex w (t.drop i) with
  | .bad k => ∀ G, Go m t (i + k) H G → Q (.bl false) G
  | .ok _ k => ∀ G, Go m t (i + k) H G → Q (.bl true) G
theorem ok_wd (F : Df g.K "_law_word" "_law_word" s_l_word f fd .none) (T : Txt g) (F_l_sign : Kn g "_law_sign" 1 ["_law_m"] [] sp_sgn) : FnG g 2 f fd ["_law_m", "_law_word_here"] sp_wd := by
  refine F.ok sc_l_word (fun vs H Q E h => S2.len h) (fun cdv A outer s H vs Q E hr h => ?_)
  obtain ⟨_, _, rfl, m, t, w, i, rfl, rfl, hm, tl, il, wl, q⟩ := h
  refine ⟨_, (pss_cons (ps_for psD rfl (pi_str (pv 1)) (pg_name (i := 2) sc_l_word.nd rfl (.inl rfl)) (pss_cons (ps_if (pt_cmpR (o_ne (K := g.K) hr) (pe_callG F_l_sign (hr.mono (by first | decide | omega)) tkD (pa_cons (pv 0) pa_nil)) (pv 2) (nomark _)) (pss_one (ps_ret pe_bl)) pss_nil)
      (pss_one (ps_dput (hu_of hr.room) (pv 0) pe_str (pe_op (o_add (K := g.K)) (pe_dget (hu_of hr.room) (pv 0) pe_str (fun _ _ => rfl)) pe_int) rfl))))
      (pss_one (ps_ret pe_bl))), ?_⟩
  walk_at "sx"
  refine for_by w.length (fun j σ X => (∃ v, σ = [some (.ref m), some (.str (S w)), v]) ∧ Go m t (i + j) H X ∧ rex (w.take j) (t.drop i) = .ok () j ∧ i + j ≤ t.length) ⟨⟨_, rfl⟩, Go.refl hm, by simp [rex], by omega⟩ (fun j σ X lt P => by simpa [Its] using lt) (fun σ X P => by simp [Its]) (fun j σ X z X' lt P yl => ?_) (fun σ X P => ?_)
  · obtain ⟨⟨v, rfl⟩, gX, rx, il2⟩ := P
    obtain ⟨rfl, c, hc, rfl⟩ := yl
    have hc' : w[j]? = some c := by simpa using hc
    walk_at "sx"
    refine ⟨_, rfl, m, t, i + j, rfl, gX.mt, tl, il2, ?_⟩
    have ec : ({ cps := #[c] } : Str) = S [c] := rfl
    dsimp only
    rw [ec, RS.ne_ss]
    refine ⟨_, rfl, ?_⟩
    by_cases hd : (t.drop (i + j)).head? = some c
    · have h1 := take1_of hd
      rw [h1.1, if_neg (by simp)]
      refine ⟨_, gX.mt.pos, _, gX.mt.put _, ⟨_, rfl⟩, ?_, rex_more rx hc' hd, ?_⟩
      · exact gX.trans (Go.put (j := i + j + 1))
      · have := h1.2
        rw [List.length_drop] at this
        omega
    · rw [if_pos (by simpa [S_eq] using take1_ne hd)]
      rw [rex_step rx hc', rex_no hd] at q
      exact q _ gX
  · obtain ⟨⟨v, rfl⟩, gX, rx, il2⟩ := P
    rw [List.take_length] at rx
    rw [rx] at q
    walk_at "sx"
    exact q _ gX
end
theorem Go.laid {m p : Addr} {t : List Nat} {j : Nat} {H G : Hp} {o : HO} (h : Go m t j H G) (hp : G p = none) : Go m t j H (upd G p o) := by
  have pm : m ≠ p := fun z => by have := h.mt; unfold MAt at this; rw [z, hp] at this; cases this
  exact ⟨fun c u n e => by
    have e1 := h.ot c u n e
    rw [upd_ne (fun z => by rw [z, hp] at e1; cases e1)]; exact e1, by unfold MAt; rw [upd_ne pm]; exact h.mt⟩
theorem in_strs (x : List Nat) : ∀ seen : List (List Nat), inV (.str (S x)) (seen.map fun y => V.str (S y)) = decide (x ∈ seen)
  | [] => by simp [inV]
  | y :: seen => by
    have h := in_strs x seen
    unfold inV at h ⊢
    simp only [List.map_cons, List.any_cons, h]
    have e : eqV (V.str (S y)) (V.str (S x)) = decide (y = x) := by
      show (decide (S y = S x)) = _
      rw [decide_eq_decide, S_eq]
    rw [e]
    by_cases h1 : x = y
    · simp [h1]
    · simp [h1, Ne.symm h1, fun z : y = x => h1 z.symm]
section
variable {g : Wd} {f : Addr} {fd : FuncData} {CI AU AW : Addr}
theorem sc_l_string_fits : FnScope ["_law_m", "_law_most", "_law_used", "_law_found", "_law_sign_here"] ["_law_m", "_law_most", "_law_used"] (defScope s_l_string_fits) := ⟨rfl, rfl, rfl, by decide +kernel, rfl, by decide +kernel, by decide +kernel⟩
/-- a string, at most mm signs, none of those at U; the list grows by what was read -/
def sp_strf : Sp := S3 fun a b c H Q _ => ∃ (m U : Addr) (t : List Nat) (i mm : Nat) (us : List (List Nat)), a = .ref m ∧ b = .int (mm : Nat) ∧ c = .ref U ∧ U ≠ m ∧ MAt H m t i ∧ H U = some (.lst (us.map fun x => .str (S x))) ∧ us.length ≤ 100000 ∧ t.length ≤ 100000 ∧ (∀ x ∈ t, pe x = true) ∧ i ≤ t.length ∧ mm ≤ 100000 ∧ match rstr mm (t.drop i) with
  | .bad k => ∀ G, Go m t (i + k) H G → Q (.bl false) G
  | .ok x k => if x ∈ us ∨ (mm = 200 ∧ x = []) then ∀ G, Go m t (i + k) H G → Q (.bl false) G else ∀ G, Go m t (i + k + 1) H G → Q (.bl true) (upd G U (.lst ((us ++ [x]).map fun x => .str (S x))))
theorem ok_strf (F : Df g.K "_law_string_fits" "_law_string_fits" s_l_string_fits f fd .none) (T : Txt g) (F_l_sign : Kn g "_law_sign" 1 ["_law_m"] [] sp_sgn) (F_l_word : Kn g "_law_word" 2 ["_law_m", "_law_word_here"] [] sp_wd) : FnG g 3 f fd ["_law_m", "_law_most", "_law_used"] sp_strf := by
  refine F.ok sc_l_string_fits (fun vs H Q E h => S3.len h) (fun cdv A outer s H vs Q E hr h => ?_)
  obtain ⟨_, _, _, rfl, m, U, t, i, mm, us, rfl, rfl, rfl, Um, hm, hU, ul, tl, tp, il, ml, q⟩ := h
  refine ⟨_, (pss_mid (ps_if (pt_not (pt_val (pe_callG F_l_word (hr.mono (by first | decide | omega)) tkD (pa_cons (pv 0) (pa_cons pe_str pa_nil))))) (pss_one (ps_ret pe_bl)) pss_nil)
      (pss_mid (ps_set (i := 3) sc_l_string_fits.nd rfl (Or.inl rfl) pe_str)
      (pss_mid (ps_while psD (PW.pt (pw_and (pt_cmpR op_lt (pe_callB (c_len (K := g.K)) (by rfl) T.b_len bb_len (pa_cons (pv 3) pa_nil)) (pv 1) (nomark _)) (pw_and1 (pt_cmpR (o_nin (K := g.K)) (pe_callG F_l_sign (hr.mono (by first | decide | omega)) tkD (pa_cons (pv 0) pa_nil)) (pe_tup (pa_cons pe_str (pa_cons pe_str (pa_cons pe_str pa_nil)))) (by rfl))))) (pss_cons (ps_set (i := 4) sc_l_string_fits.nd rfl (Or.inl rfl) (pe_callG F_l_sign (hr.mono (by first | decide | omega)) tkD (pa_cons (pv 0) pa_nil)))
      (pss_cons (ps_if (pt_cmpR (o_eq (K := g.K) hr) (pv 4) pe_str (nomark _)) (pss_cons (ps_dput (hu_of hr.room) (pv 0) pe_str (pe_op (o_add (K := g.K)) (pe_dget (hu_of hr.room) (pv 0) pe_str (fun _ _ => rfl)) pe_int) rfl)
      (pss_cons (ps_if (pt_cmpR (o_nin (K := g.K)) (pe_callG F_l_sign (hr.mono (by first | decide | omega)) tkD (pa_cons (pv 0) pa_nil)) (pe_tup (pa_cons pe_str (pa_cons pe_str (pa_cons pe_str pa_nil)))) (by rfl)) (pss_one (ps_ret pe_bl)) pss_nil)
      (pss_one (ps_set (i := 4) sc_l_string_fits.nd rfl (Or.inl rfl) (pe_ifExp (pt_cmpR (o_eq (K := g.K) hr) (pe_callG F_l_sign (hr.mono (by first | decide | omega)) tkD (pa_cons (pv 0) pa_nil)) pe_str (nomark _)) pe_str (pe_callG F_l_sign (hr.mono (by first | decide | omega)) tkD (pa_cons (pv 0) pa_nil))))))) pss_nil)
      (pss_cons (ps_set (i := 3) sc_l_string_fits.nd rfl (Or.inl rfl) (pe_op (o_add (K := g.K)) (pv 3) (pv 4)))
      (pss_one (ps_dput (hu_of hr.room) (pv 0) pe_str (pe_op (o_add (K := g.K)) (pe_dget (hu_of hr.room) (pv 0) pe_str (fun _ _ => rfl)) pe_int) rfl))))))
      (pss_mid (ps_if (PW.pt (pw_or (pt_cmpR (o_ne (K := g.K) hr) (pe_callG F_l_sign (hr.mono (by first | decide | omega)) tkD (pa_cons (pv 0) pa_nil)) pe_str (nomark _)) (pw_or (pt_cmpR (o_in (K := g.K)) (pv 3) (pv 2) (by rfl)) (pw_or1 (PW.pt (pw_and (pt_cmpR (o_eq (K := g.K) hr) (pv 1) pe_int (nomark _)) (pw_and1 (pt_cmpR (o_eq (K := g.K) hr) (pv 3) pe_str (nomark _))))))))) (pss_one (ps_ret pe_bl)) pss_nil)
      (pss_cons (ps_dput (hu_of hr.room) (pv 0) pe_str (pe_op (o_add (K := g.K)) (pe_dget (hu_of hr.room) (pv 0) pe_str (fun _ _ => rfl)) pe_int) rfl)
      (pss_cons (ps_expr (e_bm (K := g.K) PySem.F.plainAttrs_list PySem.F.slot_list_append PySem.F.type_list_append mt_append (pv 2) (pa_cons (pv 3) pa_nil)))
      (pss_one (ps_ret pe_bl)))))))), ?_⟩
  have eq1 : Str.ofString "\"" = S [34] := by decide +kernel
  have e0 : Str.ofString "" = S [] := by decide +kernel
  have eN : Str.ofString "\n" = S [10] := by decide +kernel
  have eB : Str.ofString "\\" = S [92] := by decide +kernel
  have en : Str.ofString "n" = S [110] := by decide +kernel
  refine mid_one [some (.ref m), some (.int (mm : Nat)), some (.ref U), none, none] (fun G => Go m t (i + 1) H G ∧ (t.drop i).head? = some 34) ?_ ?_
  · walk_at "sx"
    rw [eq1]
    refine ⟨_, _, rfl, m, t, [34], i, rfl, rfl, hm, tl, il, by simp, ?_⟩
    cases hh : t.drop i with
    | nil =>
      rw [hh] at q
      simp only [rstr] at q
      simp only [rex]
      exact fun G gG => ⟨_, rfl, by rw [if_pos (by simp)]; exact q G gG⟩
    | cons c r =>
      rw [hh] at q
      simp only [rstr] at q
      simp only [rex]
      by_cases e : c = 34
      · rw [if_pos e]
        simp only [Res.up]
        exact fun G gG => ⟨_, rfl, by rw [if_neg (by simp)]; exact ⟨gG, by rw [e]; rfl⟩⟩
      · rw [if_neg e] at q ⊢
        exact fun G gG => ⟨_, rfl, by rw [if_pos (by simp)]; exact q G gG⟩
  rintro G0 ⟨g0, h34⟩
  have il1 : i + 1 ≤ t.length := by
    cases hh : t.drop i with
    | nil => rw [hh] at h34; cases h34
    | cons c r =>
      have := congrArg List.length hh
      simp at this; omega
  have er : rstr mm (t.drop i) = (rq mm (t.drop (i + 1))).up 1 := by
    cases hh : t.drop i with
    | nil => rw [hh] at h34; cases h34
    | cons c r =>
      rw [hh] at h34
      simp only [List.head?_cons, Option.some.injEq] at h34
      have : t.drop (i + 1) = r := by rw [show i + 1 = i + 1 from rfl, ← List.drop_drop, hh]; rfl
      rw [this]
      simp only [rstr, if_pos h34]
  rw [er] at q
  refine mid_one [some (.ref m), some (.int (mm : Nat)), some (.ref U), some (.str (S [])), none] (fun G => G = G0) ?_ ?_
  · walk_at "sx"
    rw [e0]
  rintro _ rfl
  have gU : ∀ {j : Nat} {X : Hp}, Go m t j H X → X U = some (.lst (us.map fun x => .str (S x))) := fun gX => gX.ot _ _ Um hU
  refine mid_at (fun σ G => ∃ (x : List Nat) (k : Nat) (y : Option V), σ = [some (.ref m), some (.int (mm : Nat)), some (.ref U), some (.str (S x)), y] ∧ Go m t (i + 1 + k) H G ∧ i + 1 + k ≤ t.length ∧ x.length ≤ mm ∧ x.length ≤ k ∧ rq mm (t.drop (i + 1)) = ((if (t.drop (i + 1 + k)).head? = some 34 then .ok [] 0 else .bad 0 : Res (List Nat)).map fun y => x ++ y).up k) ?_ ?_
  · refine ⟨fun μ σ G => ∃ (x : List Nat) (k : Nat) (y : Option V), σ = [some (.ref m), some (.int (mm : Nat)), some (.ref U), some (.str (S x)), y] ∧ Go m t (i + 1 + k) H G ∧ i + 1 + k ≤ t.length ∧ x.length ≤ mm ∧ x.length ≤ k ∧ rq mm (t.drop (i + 1)) = ((rq (mm - x.length) (t.drop (i + 1 + k))).map fun y => x ++ y).up k ∧ μ = t.length - (i + 1 + k), ⟨_, [], 0, none, rfl, g0, by omega, by simp, by simp, by cases rq mm (t.drop (i + 1)) <;> simp [Res.map, Res.up], rfl⟩, ?_⟩
    rintro μ _ G ⟨x, k, y, rfl, gG, kl, xm, xk, eq, rfl⟩
    walk_at "sx"
    have exitL : (t.drop (i + 1 + k)).head? = some 34 ∨ rq (mm - x.length) (t.drop (i + 1 + k)) = .bad 0 → rq mm (t.drop (i + 1)) = ((if (t.drop (i + 1 + k)).head? = some 34 then .ok [] 0 else .bad 0 : Res (List Nat)).map fun y => x ++ y).up k := fun h => by
      by_cases e : (t.drop (i + 1 + k)).head? = some 34
      · rw [if_pos e, eq]
        congr 2
        cases hh : t.drop (i + 1 + k) with
        | nil => rw [hh] at e; cases e
        | cons c r =>
          rw [hh] at e
          simp only [List.head?_cons, Option.some.injEq] at e
          cases mm - x.length <;> simp [rq, e]
      · rw [if_neg e, eq, h.resolve_left e]
    rw [S_len]
    refine ⟨by omega, ?_⟩
    by_cases lm : x.length < mm
    · rw [if_pos (by simpa using lm)]
      obtain ⟨n, hn⟩ : ∃ n, mm - x.length = n + 1 := ⟨mm - x.length - 1, by omega⟩
      refine ⟨_, rfl, m, t, i + 1 + k, rfl, gG.mt, tl, kl, fun p hp => ⟨_, .inr (SqT.of upd_same), rfl, rfl, ?_⟩⟩
      have gX := gG.laid (o := HO.tup [V.str (Str.ofString ""), V.str (Str.ofString "\""), V.str (Str.ofString "\n")]) hp
      generalize upd G p (HO.tup [V.str (Str.ofString ""), V.str (Str.ofString "\""), V.str (Str.ofString "\n")]) = X at gX ⊢
      have e3 : [V.str (Str.ofString ""), V.str (Str.ofString "\""), V.str (Str.ofString "\n")] = [[], [34], [10]].map fun y => V.str (S y) := by rw [e0, eq1, eN]; rfl
      rw [e3, in_strs]
      by_cases lt : i + 1 + k < t.length
      · have hh : t.drop (i + 1 + k) = t[i + 1 + k] :: t.drop (i + 1 + (k + 1)) := List.drop_eq_getElem_cons lt
        have pc := tp t[i + 1 + k] (List.getElem_mem lt)
        generalize t[i + 1 + k] = c at hh pc
        rw [hh, hn] at eq
        rw [hh] at exitL ⊢
        rw [hn] at exitL
        rw [show (c :: t.drop (i + 1 + (k + 1))).take 1 = [c] from rfl]
        by_cases c34 : c = 34
        · rw [if_neg (by simp [c34])]
          refine ⟨x, rfl, k, gX, kl, xm, xk, ?_⟩
          rw [hh]
          exact exitL (.inl (by rw [c34]; rfl))
        · by_cases c10 : c = 10
          · rw [if_neg (by simp [c10])]
            refine ⟨x, rfl, k, gX, kl, xm, xk, ?_⟩
            rw [hh]
            exact exitL (.inr (by rw [c10]; simp [rq, isP]))
          · rw [if_pos (by simp [c34, c10])]
            have cU : c ≠ 10 := c10
            have same2 : ∀ {Y : Hp} {j : Nat}, Go m t (i + 1 + k) H Y → Go m t (i + 1 + j) H (upd Y m (.dK [(.inr "text", .str (S t)), (.inr "at", .int ((i + 1 + j : Nat) : Int))])) := fun g => g.trans (Go.put)
            let N : St → Hp → Prop := fun σ' H' => ∃ x' k' y', σ' = [some (.ref m), some (.int (mm : Nat)), some (.ref U), some (.str (S x')), y'] ∧ Go m t (i + 1 + k') H H' ∧ i + 1 + k' ≤ t.length ∧ x'.length ≤ mm ∧ x'.length ≤ k' ∧ rq mm (t.drop (i + 1)) = ((rq (mm - x'.length) (t.drop (i + 1 + k'))).map fun y => x' ++ y).up k' ∧ k < k'
            have hN : ∀ σ' H', N σ' H' → ∃ m', m' < t.length - (i + 1 + k) ∧ ∃ x k y, σ' = [some (.ref m), some (.int (mm : Nat)), some (.ref U), some (.str (S x)), y] ∧ Go m t (i + 1 + k) H H' ∧ i + 1 + k ≤ t.length ∧ x.length ≤ mm ∧ x.length ≤ k ∧ rq mm (t.drop (i + 1)) = ((rq (mm - x.length) (t.drop (i + 1 + k))).map fun y => x ++ y).up k ∧ m' = t.length - (i + 1 + k) := by
              rintro σ' H' ⟨x', k', y', a1, a2, a3, a4, a5, a6, a7⟩
              exact ⟨_, by omega, x', k', y', a1, a2, a3, a4, a5, a6, rfl⟩
            refine ⟨N, hN, _, rfl, m, t, i + 1 + k, rfl, gX.mt, tl, kl, ?_⟩
            dsimp only
            rw [hh, show (c :: t.drop (i + 1 + (k + 1))).take 1 = [c] from rfl, eB, RS.eq_ss]
            refine ⟨_, rfl, ?_⟩
            by_cases c92 : c = 92
            · subst c92
              rw [if_pos (by simp)]
              refine ⟨_, gX.mt.pos, _, gX.mt.put _, ?_⟩
              have gY : Go m t (i + 1 + (k + 1)) H (upd X m (.dK [(.inr "text", .str (S t)), (.inr "at", .int ((i + 1 + k : Nat) + 1 : Int))])) := same2 (j := k + 1) gX
              generalize upd X m (.dK [(.inr "text", .str (S t)), (.inr "at", .int ((i + 1 + k : Nat) + 1 : Int))]) = Y at gY ⊢
              refine ⟨_, rfl, m, t, i + 1 + (k + 1), rfl, gY.mt, tl, by omega, fun p2 hp2 => ⟨_, .inr (SqT.of upd_same), rfl, rfl, ?_⟩⟩
              have gZ := gY.laid (o := HO.tup [V.str (Str.ofString "\""), V.str (S [92]), V.str (Str.ofString "n")]) hp2
              generalize upd Y p2 (HO.tup [V.str (Str.ofString "\""), V.str (S [92]), V.str (Str.ofString "n")]) = Z at gZ ⊢
              have e4 : [V.str (Str.ofString "\""), V.str (S [92]), V.str (Str.ofString "n")] = [[34], [92], [110]].map fun y => V.str (S y) := by rw [eq1, en]; rfl
              rw [e4, in_strs]
              cases hr : t.drop (i + 1 + (k + 1)) with
              | nil =>
                rw [hr] at eq
                rw [if_pos (by simp)]
                rw [eq] at q
                simp only [rq, if_neg (show ¬ (92 : Nat) = 34 from by decide), if_true, Res.map, Res.up] at q
                exact q _ (by rw [show i + (1 + (k + 1)) = i + 1 + (k + 1) from by omega]; exact gZ)
              | cons e r =>
                rw [hr] at eq
                have l3 : i + 1 + (k + 1) < t.length := by
                  have := congrArg List.length hr
                  simp at this; omega
                rw [show (e :: r).take 1 = [e] from rfl]
                by_cases ee : isE e = true
                · rw [if_neg (by
                    simp only [isE, Bool.or_eq_true, decide_eq_true_eq] at ee
                    rcases ee with (rfl | rfl) | rfl <;> simp)]
                  have hr2 : t.drop (i + 1 + (k + 2)) = r := by
                    rw [show i + 1 + (k + 2) = (i + 1 + (k + 1)) + 1 from by omega, ← List.drop_drop, hr]; rfl
                  have fin : ∀ {W : Hp}, Go m t (i + 1 + (k + 1)) H W → N [some (.ref m), some (.int (mm : Nat)), some (.ref U), some (.str (S x ++ S [une e])), some (.str (S [une e]))] (upd W m (.dK [(.inr "text", .str (S t)), (.inr "at", .int ((i + 1 + (k + 1) : Nat) + 1 : Int))])) := fun {W} gW => by
                    refine ⟨x ++ [une e], k + 2, _, by rw [S_cat], gW.trans (Go.put (j := i + 1 + (k + 2))), by omega, by rw [List.length_append]; simp; omega, by rw [List.length_append]; simp; omega, ?_, by omega⟩
                    rw [eq]
                    have : rq (n + 1) (92 :: e :: r) = ((rq n r).map fun y => [une e] ++ y).up 2 := by
                      simp only [rq, if_neg (show ¬ (92 : Nat) = 34 from by decide), if_true, if_pos ee]; rfl
                    rw [this, rq_app, hr2, show mm - (x ++ [une e]).length = n from by rw [List.length_append]; simp; omega]
                  refine ⟨_, rfl, m, t, i + 1 + (k + 1), rfl, gZ.mt, tl, by omega, ?_⟩
                  dsimp only
                  rw [hr, show (e :: r).take 1 = [e] from rfl, en, RS.eq_ss]
                  refine ⟨_, rfl, ?_⟩
                  by_cases e110 : e = 110
                  · subst e110
                    rw [if_pos (by simp), eN]
                    exact ⟨by show x.length + 1 ≤ 16777216; omega, _, gZ.mt.pos, _, gZ.mt.put _, fin gZ⟩
                  · rw [if_neg (by simp [S_eq, e110])]
                    refine ⟨_, rfl, m, t, i + 1 + (k + 1), rfl, gZ.mt, tl, by omega, ?_⟩
                    have ue : une e = e := by unfold une; rw [if_neg e110]
                    rw [ue] at fin
                    dsimp only
                    rw [hr, show (e :: r).take 1 = [e] from rfl, add_ss]
                    exact ⟨by rw [S_len, S_len, sizeLine_eq]; show x.length + 1 ≤ 16777216; omega, _, gZ.mt.pos, _, gZ.mt.put _, fin gZ⟩
                · rw [if_pos (by
                    simp only [isE, Bool.or_eq_true, decide_eq_true_eq, not_or] at ee
                    simp [ee.1.1, ee.1.2, ee.2])]
                  rw [eq] at q
                  simp only [rq, if_neg (show ¬ (92 : Nat) = 34 from by decide), if_true, if_neg ee, Res.map, Res.up] at q
                  exact q _ (by rw [show i + (1 + (k + 1)) = i + 1 + (k + 1) from by omega]; exact gZ)
            · rw [if_neg (by simp [S_eq, c92])]
              have pc2 : isP c = true := by
                simp only [pe, Bool.or_eq_true, Bool.and_eq_true, decide_eq_true_eq] at pc
                simp only [isP, Bool.and_eq_true, decide_eq_true_eq]
                omega
              refine ⟨by rw [S_len]; show x.length + 1 ≤ 16777216; omega, _, gX.mt.pos, _, gX.mt.put _, ?_⟩
              refine ⟨x ++ [c], k + 1, _, by rw [S_cat], same2 (j := k + 1) gX, by omega, by rw [List.length_append]; simp; omega, by rw [List.length_append]; simp; omega, ?_, by omega⟩
              rw [eq]
              have : rq (n + 1) (c :: t.drop (i + 1 + (k + 1))) = ((rq n (t.drop (i + 1 + (k + 1)))).map fun y => [c] ++ y).up 1 := by
                simp only [rq, if_neg c34, if_neg c92, if_pos pc2]; rfl
              rw [this, rq_app, show mm - (x ++ [c]).length = n from by rw [List.length_append]; simp; omega]
      · rw [List.drop_eq_nil_of_le (by omega)] at exitL ⊢
        rw [if_neg (by simp)]
        refine ⟨x, rfl, k, gX, kl, xm, xk, ?_⟩
        rw [List.drop_eq_nil_of_le (by omega : t.length ≤ i + 1 + k)]
        rw [hn] at exitL
        exact exitL (.inr rfl)
    · rw [if_neg (by simpa using lm)]
      refine ⟨x, rfl, k, gG, kl, xm, xk, exitL ?_⟩
      rw [show mm - x.length = 0 from by omega]
      cases hh : t.drop (i + 1 + k) with
      | nil => exact .inr rfl
      | cons c r =>
        by_cases e : c = 34
        · exact .inl (by rw [e]; rfl)
        · exact .inr (by simp [rq, e])
  rintro _ G2 ⟨x, k, y, rfl, g2, kl, xm, xk, eq⟩
  rw [eq] at q
  refine mid_one [some (.ref m), some (.int (mm : Nat)), some (.ref U), some (.str (S x)), y] (fun G => Go m t (i + 1 + k) H G ∧ (t.drop (i + 1 + k)).head? = some 34 ∧ ¬ (x ∈ us ∨ (mm = 200 ∧ x = []))) ?_ ?_
  · walk_at "sx"
    refine ⟨_, rfl, m, t, i + 1 + k, rfl, g2.mt, tl, kl, ?_⟩
    dsimp only
    rw [eq1, RS.ne_ss]
    refine ⟨_, rfl, ?_⟩
    by_cases e : (t.drop (i + 1 + k)).head? = some 34
    · rw [(take1_of e).1, if_neg (by simp)]
      rw [if_pos e] at q
      simp only [Res.map, Res.up, List.append_nil] at q
      refine ⟨_, .inl (SqL.of (gU g2)), rfl, by simp [flatV], ?_⟩
      rw [in_strs]
      by_cases mu : x ∈ us
      · rw [if_pos (by simp [mu])]
        rw [if_pos (.inl mu)] at q
        exact q _ (by rw [show i + (1 + (k + 0)) = i + 1 + k from by omega]; exact g2)
      · rw [if_neg (by simp [mu])]
        by_cases m2 : mm = 200
        · rw [if_pos (by simp [m2])]
          by_cases xe : x = []
          · rw [if_pos (by rw [xe, e0]; simp)]
            rw [if_pos (.inr ⟨m2, xe⟩)] at q
            exact q _ (by rw [show i + (1 + (k + 0)) = i + 1 + k from by omega]; exact g2)
          · rw [if_neg (by rw [e0]; simp [S_eq, xe])]
            exact ⟨g2, e, fun z => z.elim mu fun z => xe z.2⟩
        · rw [if_neg (by simp; omega)]
          exact ⟨g2, e, fun z => z.elim mu fun z => m2 z.1⟩
    · rw [if_pos (by simpa [S_eq] using take1_ne e)]
      rw [if_neg e] at q
      simp only [Res.map, Res.up] at q
      exact q _ (by rw [show i + (1 + (k + 0)) = i + 1 + k from by omega]; exact g2)
  rintro G3 ⟨g3, h34', nu⟩
  rw [if_pos h34'] at q
  simp only [Res.map, Res.up, List.append_nil] at q
  rw [if_neg nu] at q
  walk_at "sx"
  refine ⟨_, g3.mt.pos, _, g3.mt.put _, ?_⟩
  have g4 : Go m t (i + 1 + k + 1) H (upd G3 m (.dK [(.inr "text", .str (S t)), (.inr "at", .int ((i + 1 + k + 1 : Nat) : Int))])) := g3.trans (Go.put (j := i + 1 + k + 1))
  have eU := gU g4
  refine ⟨⟨_, SqL.of eU⟩, _, eU, by rw [List.length_map]; omega, ?_⟩
  have := q _ (by rw [show i + (1 + (k + 0)) + 1 = i + 1 + k + 1 from by omega]; exact g4)
  rw [List.map_append] at this
  exact this
end
theorem ri_ok {r : List Nat} {o d : Nat} (z : r.head? ≠ some 48) (ho : o = if r.head? = some 45 then 1 else 0) (hd : (r.drop o).head? = some d) (d1 : isD1 d = true) : ∃ n, ri r = .ok n (o + (digs (r.drop o)).length) := by
  cases r with
  | nil => simp at hd
  | cons c r =>
    by_cases k : c = 45
    · subst k
      simp only [List.head?_cons, if_true] at ho
      subst ho
      simp only [List.drop_succ_cons, List.drop_zero] at hd ⊢
      cases r with
      | nil => cases hd
      | cons e r =>
        simp only [List.head?_cons, Option.some.injEq] at hd
        subst hd
        simp only [ri, if_true, if_pos d1]
        exact ⟨_, rfl⟩
    · have k' : ¬ (c :: r).head? = some 45 := by simpa using k
      rw [if_neg k'] at ho
      subst ho
      simp only [List.drop_zero, List.head?_cons, Option.some.injEq] at hd z ⊢
      subst hd
      have z' : ¬ c = 48 := fun e => z (by rw [e])
      simp only [ri, if_neg k, if_neg z', if_pos d1, Nat.zero_add]
      exact ⟨_, rfl⟩
theorem ri_no {r : List Nat} {o : Nat} (z : r.head? ≠ some 48) (ho : o = if r.head? = some 45 then 1 else 0) (hd : ∀ d, (r.drop o).head? = some d → isD1 d = false) : ri r = .bad o := by
  cases r with
  | nil => simp at ho; subst ho; rfl
  | cons c r =>
    by_cases k : c = 45
    · subst k
      simp only [List.head?_cons, if_true] at ho
      subst ho
      simp only [List.drop_succ_cons, List.drop_zero] at hd
      cases r with
      | nil => simp [ri]
      | cons e r =>
        have := hd e rfl
        simp [ri, this]
    · have k' : ¬ (c :: r).head? = some 45 := by simpa using k
      rw [if_neg k'] at ho
      subst ho
      simp only [List.drop_zero, List.head?_cons, Option.some.injEq] at hd z
      have := hd c rfl
      have z' : ¬ c = 48 := fun e => z (by rw [e])
      simp [ri, k, z', this]
theorem in19 (d : Nat) : decide (d ∈ [49, 50, 51, 52, 53, 54, 55, 56, 57]) = isD1 d := by
  by_cases h : isD1 d = true
  · rw [h]
    simp only [isD1, Bool.and_eq_true, decide_eq_true_eq] at h
    simp; omega
  · have h' : isD1 d = false := by simpa using h
    rw [h']
    simp only [isD1, Bool.and_eq_true, decide_eq_true_eq, not_and] at h
    simp; omega
theorem in09 (d : Nat) : decide (d ∈ [48, 49, 50, 51, 52, 53, 54, 55, 56, 57]) = isDig d := by
  by_cases h : isDig d = true
  · rw [h]
    simp only [isDig, Bool.and_eq_true, decide_eq_true_eq] at h
    simp; omega
  · have h' : isDig d = false := by simpa using h
    rw [h']
    simp only [isDig, Bool.and_eq_true, decide_eq_true_eq, not_and] at h
    simp; omega
section
variable {g : Wd} {f : Addr} {fd : FuncData} {CI AU AW : Addr}
theorem sc_l_number_fits : FnScope ["_law_m", "_law_begin"] ["_law_m"] (defScope s_l_number_fits) := ⟨rfl, rfl, rfl, by decide +kernel, rfl, by decide +kernel, by decide +kernel⟩
def sp_numf : Sp := S1 fun a H Q _ => ∃ (m : Addr) (t : List Nat) (i : Nat), a = .ref m ∧ MAt H m t i ∧ t.length ≤ 100000 ∧ i ≤ t.length ∧ match ri (t.drop i) with
  | .bad k => ∀ G, Go m t (i + k) H G → Q (.bl false) G
  | .ok _ k => ∀ G, Go m t (i + k) H G → Q (.bl true) G
theorem ok_numf (F : Df g.K "_law_number_fits" "_law_number_fits" s_l_number_fits f fd .none) (T : Txt g) (F_l_sign : Kn g "_law_sign" 1 ["_law_m"] [] sp_sgn) : FnG g 2 f fd ["_law_m"] sp_numf := by
  refine F.ok sc_l_number_fits (fun vs H Q E h => S1.len h) (fun cdv A outer s H vs Q E hr h => ?_)
  obtain ⟨_, rfl, m, t, i, rfl, hm, tl, il, q⟩ := h
  refine ⟨_, (pss_mid (ps_if (pt_cmpR (o_eq (K := g.K) hr) (pe_callG F_l_sign (hr.mono (by first | decide | omega)) tkD (pa_cons (pv 0) pa_nil)) pe_str (nomark _)) (pss_cons (ps_dput (hu_of hr.room) (pv 0) pe_str (pe_op (o_add (K := g.K)) (pe_dget (hu_of hr.room) (pv 0) pe_str (fun _ _ => rfl)) pe_int) rfl)
      (pss_one (ps_ret pe_bl))) pss_nil)
      (pss_mid (ps_dput (hu_of hr.room) (pv 0) pe_str (pe_op (o_add (K := g.K)) (pe_dget (hu_of hr.room) (pv 0) pe_str (fun _ _ => rfl)) (pe_callTy c_intA (by rfl) T.b_int bb_int (pa_cons (pe_cmpR (o_eq (K := g.K) hr) (pe_callG F_l_sign (hr.mono (by first | decide | omega)) tkD (pa_cons (pv 0) pa_nil)) pe_str (nomark _)) pa_nil))) rfl)
      (pss_mid (ps_if (PW.pt (pw_or (pt_cmpR (o_eq (K := g.K) hr) (pe_callG F_l_sign (hr.mono (by first | decide | omega)) tkD (pa_cons (pv 0) pa_nil)) pe_str (nomark _)) (pw_or1 (pt_cmpR (o_nin (K := g.K)) (pe_callG F_l_sign (hr.mono (by first | decide | omega)) tkD (pa_cons (pv 0) pa_nil)) pe_str (by rfl))))) (pss_one (ps_ret pe_bl)) pss_nil)
      (pss_mid (ps_set (i := 1) sc_l_number_fits.nd rfl (Or.inl rfl) (pe_dget (hu_of hr.room) (pv 0) pe_str (fun _ _ => rfl)))
      (pss_mid (ps_while psD (PW.pt (pw_and (pt_cmpR op_lt (pe_dget (hu_of hr.room) (pv 0) pe_str (fun _ _ => rfl)) (pe_op (o_add (K := g.K)) (pv 1) pe_int) (nomark _)) (pw_and (pt_cmpR (o_ne (K := g.K) hr) (pe_callG F_l_sign (hr.mono (by first | decide | omega)) tkD (pa_cons (pv 0) pa_nil)) pe_str (nomark _)) (pw_and1 (pt_cmpR (o_in (K := g.K)) (pe_callG F_l_sign (hr.mono (by first | decide | omega)) tkD (pa_cons (pv 0) pa_nil)) pe_str (by rfl)))))) (pss_one (ps_dput (hu_of hr.room) (pv 0) pe_str (pe_op (o_add (K := g.K)) (pe_dget (hu_of hr.room) (pv 0) pe_str (fun _ _ => rfl)) pe_int) rfl)))
      (pss_one (ps_ret pe_bl))))))), ?_⟩
  have e0' : Str.ofString "" = S [] := by decide +kernel
  have e48 : Str.ofString "0" = S [48] := by decide +kernel
  have e45 : Str.ofString "-" = S [45] := by decide +kernel
  have e19 : Str.ofString "123456789" = S [49, 50, 51, 52, 53, 54, 55, 56, 57] := by decide +kernel
  have e09 : Str.ofString "0123456789" = S [48, 49, 50, 51, 52, 53, 54, 55, 56, 57] := by decide +kernel
  refine mid_one [some (.ref m), none] (fun G => H = G ∧ (t.drop i).head? ≠ some 48) ?_ ?_
  · walk_at "sx"
    refine ⟨_, rfl, m, t, i, rfl, hm, tl, il, ?_⟩
    dsimp only
    rw [e48, RS.eq_ss]
    refine ⟨_, rfl, ?_⟩
    by_cases h : (t.drop i).head? = some 48
    · rw [(take1_of h).1, if_pos (by simp)]
      refine ⟨_, hm.pos, _, hm.put _, ?_⟩
      have : ri (t.drop i) = .ok 0 1 := by
        cases hh : t.drop i with
        | nil => rw [hh] at h; cases h
        | cons c r =>
          rw [hh] at h
          simp only [List.head?_cons, Option.some.injEq] at h
          simp [ri, h]
      rw [this] at q
      exact q _ (Go.put (j := i + 1))
    · rw [if_neg (by simpa [S_eq] using take1_ne h)]
      exact ⟨rfl, h⟩
  rintro _ ⟨rfl, z⟩
  obtain ⟨o, ho⟩ : ∃ o, o = if (t.drop i).head? = some 45 then 1 else 0 := ⟨_, rfl⟩
  refine mid_one [some (.ref m), none] (fun G => Go m t (i + o) H G) ?_ ?_
  · walk_at "sx"
    refine ⟨_, hm.pos, ?_⟩
    refine ⟨_, rfl, m, t, i, rfl, hm, tl, il, ?_⟩
    dsimp only
    rw [e45, RS.eq_ss]
    have eo : S (List.take 1 (t.drop i)) = S [45] ↔ (t.drop i).head? = some 45 := by
      rw [S_eq]
      constructor
      · intro h
        cases hh : t.drop i with
        | nil => rw [hh] at h; cases h
        | cons c r => rw [hh] at h; simpa using h
      · intro h; exact (take1_of h).1
    by_cases h : (t.drop i).head? = some 45
    · rw [if_pos h] at ho
      subst ho
      rw [decide_eq_true (eo.mpr h), intA_b]
      exact ⟨_, hm.put _, Go.put (j := i + 1)⟩
    · rw [if_neg h] at ho
      subst ho
      rw [decide_eq_false (fun z => h (eo.mp z)), intA_b]
      exact ⟨_, hm.put _, by
        have := Go.put (m := m) (t := t) (j := i + 0) (H := H)
        simpa using this⟩
  intro G1 g1
  have io : i + o ≤ t.length := by
    by_cases h : (t.drop i).head? = some 45
    · rw [if_pos h] at ho
      have := (take1_of h).2
      rw [List.length_drop] at this
      omega
    · rw [if_neg h] at ho
      omega
  refine mid_one [some (.ref m), none] (fun G => Go m t (i + o) H G ∧ ∃ d, (t.drop (i + o)).head? = some d ∧ isD1 d = true) ?_ ?_
  · walk_at "sx"
    refine ⟨_, rfl, m, t, i + o, rfl, g1.mt, tl, io, ?_⟩
    dsimp only
    rw [e0', RS.eq_ss]
    refine ⟨_, rfl, ?_⟩
    cases hh : t.drop (i + o) with
    | nil =>
      rw [if_pos (by simp)]
      rw [ri_no z ho (fun d hd => by rw [List.drop_drop, hh] at hd; cases hd)] at q
      exact q _ g1
    | cons d r =>
      rw [show (d :: r).take 1 = [d] from rfl, if_neg (by simp [S_eq])]
      refine ⟨_, rfl, m, t, i + o, rfl, g1.mt, tl, io, ?_⟩
      dsimp only
      rw [hh, show (d :: r).take 1 = [d] from rfl, e19]
      rw [nin_ss, has_one, in19]
      refine ⟨_, rfl, ?_⟩
      by_cases d1 : isD1 d = true
      · rw [if_neg (by simp [d1])]
        exact ⟨g1, d, rfl, d1⟩
      · rw [if_pos (by simp [d1])]
        rw [ri_no z ho (fun d' hd => by
          rw [List.drop_drop, hh] at hd
          cases hd
          simpa using d1)] at q
        exact q _ g1
  rintro G2 ⟨g2, d, hd, d1⟩
  refine mid_one [some (.ref m), some (.int ((i + o : Nat) : Int))] (fun G => G2 = G) ?_ ?_
  · walk_at "sx"
    exact ⟨_, g2.mt.pos, rfl⟩
  rintro _ rfl
  refine mid_at (fun σ G => Go m t (i + o + (digs (t.drop (i + o))).length) H G) ?_ ?_
  · refine ⟨fun μ σ G => ∃ n : Nat, σ = [some (.ref m), some (.int ((i + o : Nat) : Int))] ∧ Go m t (i + o + n) H G ∧ n ≤ (digs (t.drop (i + o))).length ∧ μ = 100 - n, ⟨_, 0, rfl, g2, by omega, rfl⟩, ?_⟩
    rintro μ _ G ⟨n, rfl, gG, nl, rfl⟩
    have dl := digs_len (t.drop (i + o))
    rw [List.length_drop] at dl
    have dm := digs_more nl
    rw [List.drop_drop] at dm
    walk_at "sx"
    refine ⟨_, gG.mt.pos, _, rfl, ?_⟩
    have out : ¬ n < (digs (t.drop (i + o))).length → Go m t (i + o + (digs (t.drop (i + o))).length) H G := fun h => by
      have : n = (digs (t.drop (i + o))).length := by omega
      rw [← this]; exact gG
    by_cases n1 : n < 100
    · rw [if_pos (by simp only [decide_eq_true_eq]; omega)]
      refine ⟨_, rfl, m, t, i + o + n, rfl, gG.mt, tl, by omega, ?_⟩
      dsimp only
      rw [e0', RS.ne_ss]
      refine ⟨_, rfl, ?_⟩
      cases hh : t.drop (i + o + n) with
      | nil =>
        rw [if_neg (by simp)]
        exact out fun h => by
          obtain ⟨_, c, hc, _⟩ := dm.mp h
          rw [hh] at hc; cases hc
      | cons c r =>
        rw [show (c :: r).take 1 = [c] from rfl, if_pos (by simp [S_eq])]
        refine ⟨_, rfl, m, t, i + o + n, rfl, gG.mt, tl, by omega, ?_⟩
        dsimp only
        rw [hh, show (c :: r).take 1 = [c] from rfl, e09, in_ss, has_one, in09]
        refine ⟨_, rfl, ?_⟩
        by_cases dc : isDig c = true
        · rw [if_pos dc]
          have lt := dm.mpr ⟨n1, c, by rw [hh]; rfl, dc⟩
          refine ⟨fun σ' H' => σ' = [some (.ref m), some (.int ((i + o : Nat) : Int))] ∧ Go m t (i + o + (n + 1)) H H', fun σ' H' ⟨a1, a2⟩ => ⟨_, by omega, a1, n + 1, a2, by omega, rfl⟩, ?_⟩
          refine ⟨_, gG.mt.pos, _, gG.mt.put _, rfl, ?_⟩
          exact gG.trans (Go.put (j := i + o + n + 1))
        · rw [if_neg dc]
          exact out fun h => by
            obtain ⟨_, c', hc, hd'⟩ := dm.mp h
            rw [hh] at hc
            cases hc
            exact dc hd'
    · rw [if_neg (by simp only [decide_eq_true_eq]; omega)]
      exact out fun h => n1 (dm.mp h).1
  intro σ G3 g3
  walk_at "sx"
  obtain ⟨nn, hri⟩ := ri_ok z ho (by rw [List.drop_drop]; exact hd) d1
  rw [hri, List.drop_drop] at q
  exact q _ (by rw [← Nat.add_assoc]; exact g3)
end
/-- whether it reads, and how far it comes -/
def pos {α : Type} : Res α → Bool × Nat
  | .bad k => (false, k)
  | .ok _ k => (true, k)
def adv (a : Nat) (x : Bool × Nat) : Bool × Nat := (x.1, a + x.2)
/-- what stands behind the key (if there is one), a signs on -/
def lbody (f : List Nat → Bool × Nat) (cl : Nat) (rest : Nat → List (List Nat) → List Nat → Bool × Nat) (j : Nat) (us : List (List Nat)) (r : List Nat) (a : Nat) : Bool × Nat :=
  if (f (r.drop a)).1 = false then (false, a + (f (r.drop a)).2) else
  if (r.drop (a + (f (r.drop a)).2)).head? = some cl ∧ (cl ≠ 41 ∨ 0 < j) then (true, a + (f (r.drop a)).2 + 1) else
  if (r.drop (a + (f (r.drop a)).2)).head? ≠ some 44 then (false, a + (f (r.drop a)).2) else
  if cl = 41 ∧ j = 0 ∧ (r.drop (a + (f (r.drop a)).2 + 1)).head? = some 41 then (true, a + (f (r.drop a)).2 + 2) else
  if (r.drop (a + (f (r.drop a)).2 + 1)).head? ≠ some 32 then (false, a + (f (r.drop a)).2 + 1) else
  adv (a + (f (r.drop a)).2 + 2) (rest (j + 1) us (r.drop (a + (f (r.drop a)).2 + 2)))
/-- items as the law reads them: j of them are read, us are the keys so far -/
def lit (f : List Nat → Bool × Nat) (cl : Nat) : Nat → Nat → List (List Nat) → List Nat → Bool × Nat
  | 0, _, _, _ => (false, 0)
  | M + 1, j, us, r =>
    if cl = 125 then match rstr 100000 r with
      | .bad k => (false, k)
      | .ok x k => if x ∈ us then (false, k) else
        if (pos (rex [58, 32] (r.drop (k + 1)))).1 = false then (false, k + 1 + (pos (rex [58, 32] (r.drop (k + 1)))).2) else lbody f cl (lit f cl M) j (us ++ [x]) r (k + 3)
    else lbody f cl (lit f cl M) j us r 0
theorem or_if {c d : Prop} [Decidable c] [Decidable d] {P R : Prop} (h : c ∨ d) (p : P) : if c then P else if d then P else R := by
  by_cases hc : c
  · rw [if_pos hc]; exact p
  · rw [if_neg hc, if_pos (h.resolve_left hc)]; exact p
theorem Go.over {m U : Addr} {t : List Nat} {j : Nat} {H G : Hp} {o : HO} (h : Go m t j H G) (n : H U = none) (Um : U ≠ m) : Go m t j H (upd G U o) :=
  ⟨fun c u k e => by rw [upd_ne (fun z => by rw [z, n] at e; cases e)]; exact h.ot c u k e, by unfold MAt; rw [upd_ne (Ne.symm Um)]; exact h.mt⟩
section
variable {g : Wd} {f : Addr} {fd : FuncData} {CI AU AW : Addr}
def sp_valf (n : Nat) : Sp := S2 fun a b H Q _ => ∃ (m : Addr) (t : List Nat) (i : Nat), a = .ref m ∧ b = .int (20 - (n : Int)) ∧ n ≤ 20 ∧ MAt H m t i ∧ t.length ≤ 100000 ∧ (∀ x ∈ t, pe x = true) ∧ i ≤ t.length ∧
  ∀ G, Go m t (i + (pos (rv 100000 n (t.drop i))).2) H G → Q (.bl (pos (rv 100000 n (t.drop i))).1) G
theorem sc_l_items_fit : FnScope ["_law_m", "_law_level", "_law_closing", "_law_many", "_law_used"] ["_law_m", "_law_level", "_law_closing"] (defScope s_l_items_fit) := ⟨rfl, rfl, rfl, by decide +kernel, rfl, by decide +kernel, by decide +kernel⟩
def sp_itf1 (n : Nat) : Sp := S3 fun a b c H Q _ => ∃ (m : Addr) (t : List Nat) (i cl : Nat), a = .ref m ∧ b = .int (20 - (n : Int)) ∧ c = .str (S [cl]) ∧ (cl = 93 ∨ cl = 41 ∨ cl = 125) ∧ n ≤ 20 ∧ MAt H m t i ∧ t.length ≤ 100000 ∧ (∀ x ∈ t, pe x = true) ∧ i + 1 ≤ t.length ∧
  if (t.drop (i + 1)).head? = some cl then ∀ G, Go m t (i + 2) H G → Q (.bl true) G else
  ∀ G, Go m t (i + 1 + (lit (fun r => pos (rv 100000 n r)) cl ((t.drop (i + 1)).length + 1) 0 [] (t.drop (i + 1))).2) H G → Q (.bl (lit (fun r => pos (rv 100000 n r)) cl ((t.drop (i + 1)).length + 1) 0 [] (t.drop (i + 1))).1) G
theorem ok_itf (n : Nat) (F : Df g.K "_law_items_fit" "_law_items_fit" s_l_items_fit f fd .none) (T : Txt g) (F_l_sign : Kn g "_law_sign" 1 ["_law_m"] [] sp_sgn) (F_l_word : Kn g "_law_word" 2 ["_law_m", "_law_word_here"] [] sp_wd) (F_l_string_fits : Kn g "_law_string_fits" 3 ["_law_m", "_law_most", "_law_used"] [] sp_strf)
    (F_l_value_fits : Kn g "_law_value_fits" (2 * n + 6) ["_law_m", "_law_level"] [] (sp_valf n)) : FnG g (2 * n + 7) f fd ["_law_m", "_law_level", "_law_closing"] (sp_itf1 n) := by
  refine F.ok sc_l_items_fit (fun vs H Q E h => S3.len h) (fun cdv A outer s H vs Q E hr h => ?_)
  obtain ⟨_, _, _, rfl, m, t, i, cl, rfl, rfl, rfl, cc, n20, hm, tl, tp, il, q⟩ := h
  refine ⟨_, (pss_mid (ps_par (i := 3) (j := 4) (by rfl) sc_l_items_fit.nd rfl rfl (by decide) rfl rfl (pa_cons pe_int (pa_cons (pe_lst pa_nil) pa_nil)) (by rfl))
      (pss_mid (ps_dput (hu_of hr.room) (pv 0) pe_str (pe_op (o_add (K := g.K)) (pe_dget (hu_of hr.room) (pv 0) pe_str (fun _ _ => rfl)) pe_int) rfl)
      (pss_mid (ps_while psD (PW.pt (pw_or (pt_cmpR (o_ne (K := g.K) hr) (pe_callG F_l_sign (hr.mono (by first | decide | omega)) tkD (pa_cons (pv 0) pa_nil)) (pv 2) (nomark _)) (pw_or1 (pt_cmpR op_gt (pv 3) pe_int (nomark _))))) (pss_mid (ps_if (PW.pt (pw_and (pt_cmpR (o_eq (K := g.K) hr) (pv 2) pe_str (nomark _)) (pw_and1 (PW.pt (pw_or (pt_not (pt_val (pe_callG F_l_string_fits (hr.mono (by first | decide | omega)) tkD (pa_cons (pv 0) (pa_cons (pe_op op_pow pe_int pe_int) (pa_cons (pv 4) pa_nil)))))) (pw_or1 (pt_not (pt_val (pe_callG F_l_word (hr.mono (by first | decide | omega)) tkD (pa_cons (pv 0) (pa_cons pe_str pa_nil))))))))))) (pss_one (ps_ret pe_bl)) pss_nil)
      (pss_mid (ps_if (pt_not (pt_val (pe_callG F_l_value_fits (hr.mono (by first | decide | omega)) tkD (pa_cons (pv 0) (pa_cons (pv 1) pa_nil))))) (pss_one (ps_ret pe_bl)) pss_nil)
      (pss_cons (ps_set (i := 3) sc_l_items_fit.nd rfl (Or.inl rfl) (pe_op (o_add (K := g.K)) (pv 3) pe_int))
      (pss_mid (ps_if (PW.pt (pw_and (pt_cmpR (o_eq (K := g.K) hr) (pe_callG F_l_sign (hr.mono (by first | decide | omega)) tkD (pa_cons (pv 0) pa_nil)) (pv 2) (nomark _)) (pw_and1 (PW.pt (pw_or (pt_cmpR (o_ne (K := g.K) hr) (pv 2) pe_str (nomark _)) (pw_or1 (pt_cmpR op_gt (pv 3) pe_int (nomark _)))))))) (pss_one ps_break) pss_nil)
      (pss_mid (ps_if (pt_not (pt_val (pe_callG F_l_word (hr.mono (by first | decide | omega)) tkD (pa_cons (pv 0) (pa_cons pe_str pa_nil))))) (pss_one (ps_ret pe_bl)) pss_nil)
      (pss_mid (ps_if (PW.pt (pw_and (pt_cmpR (o_eq (K := g.K) hr) (pv 2) pe_str (nomark _)) (pw_and (pt_cmpR (o_eq (K := g.K) hr) (pv 3) pe_int (nomark _)) (pw_and1 (pt_cmpR (o_eq (K := g.K) hr) (pe_callG F_l_sign (hr.mono (by first | decide | omega)) tkD (pa_cons (pv 0) pa_nil)) pe_str (nomark _)))))) (pss_one ps_break) pss_nil)
      (pss_one (ps_if (pt_not (pt_val (pe_callG F_l_word (hr.mono (by first | decide | omega)) tkD (pa_cons (pv 0) (pa_cons pe_str pa_nil))))) (pss_one (ps_ret pe_bl)) pss_nil)))))))))
      (pss_mid (ps_dput (hu_of hr.room) (pv 0) pe_str (pe_op (o_add (K := g.K)) (pe_dget (hu_of hr.room) (pv 0) pe_str (fun _ _ => rfl)) pe_int) rfl)
      (pss_one (ps_ret pe_bl)))))), ?_⟩
  have e44 : Str.ofString "," = S [44] := by decide +kernel
  have e32 : Str.ofString " " = S [32] := by decide +kernel
  have e41 : Str.ofString ")" = S [41] := by decide +kernel
  have e125 : Str.ofString "}" = S [125] := by decide +kernel
  have e58 : Str.ofString ": " = S [58, 32] := by decide +kernel
  refine mid_at (fun σ G => ∃ U, σ = [some (.ref m), some (.int (20 - (n : Int))), some (.str (S [cl])), some (.int 0), some (.ref U)] ∧ H U = none ∧ G U = some (.lst []) ∧ Go m t i H G) ?_ ?_
  · walk_at "sx"
    exact fun U hU => ⟨hU, (Go.refl hm).laid hU⟩
  rintro _ G0 ⟨U, rfl, hU, eU0, g0⟩
  have Um : U ≠ m := fun z => by have := hm; unfold MAt at this; rw [← z, hU] at this; cases this
  refine mid_one [some (.ref m), some (.int (20 - (n : Int))), some (.str (S [cl])), some (.int 0), some (.ref U)] (fun G => G U = some (.lst []) ∧ Go m t (i + 1) H G) ?_ ?_
  · walk_at "sx"
    exact ⟨_, g0.mt.pos, _, g0.mt.put _, by rw [upd_ne Um]; exact eU0, g0.trans (Go.put (j := i + 1))⟩
  rintro G1 ⟨eU1, g1⟩
  refine mid_at (fun σ G => ∃ e z, σ = [some (.ref m), some (.int (20 - (n : Int))), some (.str (S [cl])), z, some (.ref U)] ∧ Go m t e H G ∧ ∀ G', Go m t (e + 1) H G' → Q (.bl true) G') ?_ ?_
  · by_cases h0 : (t.drop (i + 1)).head? = some cl
    · rw [if_pos h0] at q
      refine ⟨fun _ σ G => σ = [some (.ref m), some (.int (20 - (n : Int))), some (.str (S [cl])), some (.int 0), some (.ref U)] ∧ G1 = G, ⟨0, rfl, rfl⟩, ?_⟩
      rintro _ _ _ ⟨rfl, rfl⟩
      walk_at "sx"
      refine ⟨_, rfl, m, t, i + 1, rfl, g1.mt, tl, il, ?_⟩
      dsimp only
      rw [(take1_of h0).1, RS.ne_ss]
      refine ⟨_, rfl, ?_⟩
      rw [if_neg (by simp)]
      rw [if_neg (by decide)]
      exact ⟨i + 1, g1, fun G' gG' => q G' gG'⟩
    · rw [if_neg h0] at q
      generalize hF : (fun r => pos (rv 100000 n r)) = F at q
      have hFa : ∀ r, pos (rv 100000 n r) = F r := fun r => by rw [← hF]
      generalize ht : lit F cl ((t.drop (i + 1)).length + 1) 0 [] (t.drop (i + 1)) = tot at q
      refine ⟨fun μ σ G => ∃ (kk M j : Nat) (us : List (List Nat)), σ = [some (.ref m), some (.int (20 - (n : Int))), some (.str (S [cl])), some (.int (j : Nat)), some (.ref U)] ∧ Go m t (i + 1 + kk) H G ∧ G U = some (.lst (us.map fun x => .str (S x))) ∧ i + 1 + kk ≤ t.length ∧ (t.drop (i + 1 + kk)).length < M ∧ us.length ≤ kk ∧ j ≤ kk ∧ tot = adv kk (lit F cl M j us (t.drop (i + 1 + kk))) ∧ (j = 0 → (t.drop (i + 1 + kk)).head? ≠ some cl) ∧ μ = M, ⟨_, 0, _, 0, [], rfl, g1, eU1, by omega, Nat.lt_succ_self _, by simp, by omega, by rw [← ht]; simp [adv], fun _ => h0, rfl⟩, ?_⟩
      rintro μ _ G ⟨kk, M, j, us, rfl, gG, eG, kl, lM, ul, jl, eq, hj, rfl⟩
      walk_at "sx"
      refine ⟨_, rfl, m, t, i + 1 + kk, rfl, gG.mt, tl, kl, ?_⟩
      dsimp only
      rw [RS.ne_ss]
      refine ⟨_, rfl, ?_⟩
      refine or_if ?_ ?_
      · by_cases h : (t.drop (i + 1 + kk)).head? = some cl
        · exact .inr (by simp only [decide_eq_true_eq]; have : j ≠ 0 := fun z => hj z h
                         omega)
        · exact .inl (by simpa [S_eq] using take1_ne h)
      obtain ⟨M, rfl⟩ : ∃ M, μ = M + 1 := ⟨μ - 1, by omega⟩
      have ed : ∀ a : Nat, (t.drop (i + 1 + kk)).drop a = t.drop (i + 1 + kk + a) := fun a => by rw [List.drop_drop]
      have fin : ∀ {b : Bool} {k : Nat} {G' : Hp}, tot = (b, kk + k) → Go m t (i + 1 + kk + k) H G' → Q (.bl b) G' := fun {b k G'} e g' => by
        have := q G'
        rw [e] at this
        exact this (by rw [← Nat.add_assoc]; exact g')
      let N : St → Hp → Prop := fun σ' H' => ∃ (kk j : Nat) (us : List (List Nat)), σ' = [some (.ref m), some (.int (20 - (n : Int))), some (.str (S [cl])), some (.int (j : Nat)), some (.ref U)] ∧ Go m t (i + 1 + kk) H H' ∧ H' U = some (.lst (us.map fun x => .str (S x))) ∧ i + 1 + kk ≤ t.length ∧ (t.drop (i + 1 + kk)).length < M ∧ us.length ≤ kk ∧ j ≤ kk ∧ tot = adv kk (lit F cl M j us (t.drop (i + 1 + kk))) ∧ j ≠ 0
      refine ⟨N, ?_, ?_⟩
      · rintro σ' H' ⟨kk, j, us, a1, a2, a3, a4, a5, a6, a7, a8, a9⟩
        exact ⟨M, by omega, kk, M, j, a1, a2, us, a3, a4, a5, a6, a7, a8, fun z => absurd z a9, rfl⟩
      refine mid_at (fun σ G' => ∃ (a : Nat) (us2 : List (List Nat)), σ = [some (.ref m), some (.int (20 - (n : Int))), some (.str (S [cl])), some (.int (j : Nat)), some (.ref U)] ∧ Go m t (i + 1 + kk + a) H G' ∧ G' U = some (.lst (us2.map fun x => .str (S x))) ∧ i + 1 + kk + a ≤ t.length ∧ us2.length ≤ kk + a ∧ tot = adv kk (lbody F cl (lit F cl M) j us2 (t.drop (i + 1 + kk)) a)) ?_ ?_
      · walk_at "sx"
        by_cases c125 : cl = 125
        · subst c125
          rw [e125, if_pos (by simp)]
          simp only [lit, if_true] at eq
          refine ⟨⟨by decide, by decide, by decide⟩, ?_⟩
          refine ⟨_, _, _, rfl, m, U, t, i + 1 + kk, 100000, us, rfl, by rfl, rfl, Um, gG.mt, eG, by omega, tl, tp, kl, by decide, ?_⟩
          cases hx : rstr 100000 (t.drop (i + 1 + kk)) with
          | bad k =>
            rw [hx] at eq
            exact fun G' g' => ⟨_, rfl, by rw [if_pos (by simp)]; exact fin eq (gG.trans g')⟩
          | ok x k =>
            rw [hx] at eq
            have xl := rstr_len hx
            rw [List.length_drop] at xl
            simp only at eq ⊢
            by_cases mu : x ∈ us
            · rw [if_pos mu] at eq
              rw [if_pos (.inl mu)]
              exact fun G' g' => ⟨_, rfl, by rw [if_pos (by simp)]; exact fin eq (gG.trans g')⟩
            · rw [if_neg mu] at eq
              rw [if_neg (by simp [mu])]
              intro G' g'
              refine ⟨_, rfl, ?_⟩
              rw [if_neg (by simp), e58]
              have gA : Go m t (i + 1 + kk + k + 1) H (upd G' U (.lst ((us ++ [x]).map fun x => .str (S x)))) := (gG.trans g').over hU Um
              have eA : upd G' U (.lst ((us ++ [x]).map fun x => .str (S x))) U = some (.lst ((us ++ [x]).map fun x => .str (S x))) := upd_same
              generalize upd G' U (.lst ((us ++ [x]).map fun x => .str (S x))) = A at gA eA ⊢
              refine ⟨_, _, rfl, m, t, [58, 32], i + 1 + kk + k + 1, rfl, rfl, gA.mt, tl, by omega, by simp, ?_⟩
              rw [ed] at eq
              rw [show i + 1 + kk + (k + 1) = i + 1 + kk + k + 1 from by omega] at eq
              cases hy : rex [58, 32] (t.drop (i + 1 + kk + k + 1)) with
              | bad y =>
                rw [hy] at eq
                simp only [pos, if_true] at eq
                exact fun B gB => ⟨_, rfl, by rw [if_pos (by simp)]; exact fin eq (by rw [show i + 1 + kk + (k + 1 + y) = i + 1 + kk + k + 1 + y from by omega]; exact gA.trans gB)⟩
              | ok u y =>
                rw [hy] at eq
                simp only [pos, Bool.true_eq_false, if_false] at eq
                have yl := rex_len hy
                rw [List.length_drop] at yl
                simp only [List.length_cons, List.length_nil] at yl
                refine fun B gB => ⟨_, rfl, ?_⟩
                rw [if_neg (by simp)]
                refine ⟨k + 3, by rw [show i + 1 + kk + (k + 3) = i + 1 + kk + k + 1 + y from by omega]; exact gA.trans gB, us ++ [x], gB.ot _ _ Um eA, by omega, by rw [List.length_append]; simp; omega, eq⟩
        · rw [e125, if_neg (by simp [S_eq, c125])]
          refine ⟨0, gG, us, eG, kl, by omega, ?_⟩
          rw [eq]
          simp only [lit, if_neg c125]
      rintro _ G2 ⟨a, us2, rfl, g2, e2, al, u2, eq2⟩
      have fl := rv_len n (L := 100000) (r := t.drop (i + 1 + kk + a))
      have el : (t.drop (i + 1 + kk + a)).length = t.length - (i + 1 + kk + a) := List.length_drop ..
      unfold lbody at eq2
      rw [ed] at eq2
      have hb : (F (t.drop (i + 1 + kk + a))).1 = true → (F (t.drop (i + 1 + kk + a))).2 ≤ t.length - (i + 1 + kk + a) := fun h => by
        rw [← hFa] at h ⊢
        cases hx : rv 100000 n (t.drop (i + 1 + kk + a)) with
        | bad k => rw [hx] at h; cases h
        | ok d k => have := fl _ _ hx; rw [el] at this; exact this.2
      generalize hv : F (t.drop (i + 1 + kk + a)) = V at eq2 hb
      obtain ⟨vb, vk⟩ := V
      simp only [ed] at eq2 hb
      refine mid_at (fun σ G' => vb = true ∧ σ = [some (.ref m), some (.int (20 - (n : Int))), some (.str (S [cl])), some (.int (j : Nat)), some (.ref U)] ∧ Go m t (i + 1 + kk + a + vk) H G' ∧ G' U = some (.lst (us2.map fun x => .str (S x)))) ?_ ?_
      · walk_at "sx"
        refine ⟨_, _, rfl, m, t, i + 1 + kk + a, rfl, rfl, n20, g2.mt, tl, tp, al, fun G' g' => ?_⟩
        rw [hFa, hv] at g' ⊢
        refine ⟨_, rfl, ?_⟩
        cases vb with
        | false =>
          rw [if_pos (by simp)]
          simp only [if_true] at eq2
          exact fin (k := a + vk) eq2 (by rw [← Nat.add_assoc]; exact g2.trans g')
        | true =>
          rw [if_neg (by simp)]
          exact ⟨rfl, g2.trans g', g'.ot _ _ Um e2⟩
      rintro _ G3 ⟨rfl, rfl, g3, e3⟩
      simp only [Bool.true_eq_false, if_false] at eq2
      have bl := hb rfl
      simp only [← Nat.add_assoc] at eq2
      generalize hP : i + 1 + kk + a + vk = Pq at eq2 g3
      have pl : Pq ≤ t.length := by omega
      walk_at "sx"
      refine mid_one [some (.ref m), some (.int (20 - (n : Int))), some (.str (S [cl])), some (.int ((j : Int) + 1)), some (.ref U)] (fun G => G3 = G ∧ ¬ ((t.drop Pq).head? = some cl ∧ (cl ≠ 41 ∨ 0 < j))) ?_ ?_
      · walk_at "sx"
        refine ⟨_, rfl, m, t, Pq, rfl, g3.mt, tl, pl, ?_⟩
        dsimp only
        rw [RS.eq_ss]
        refine ⟨_, rfl, ?_⟩
        by_cases h : (t.drop Pq).head? = some cl
        · rw [(take1_of h).1, if_pos (by simp), e41]
          have go : (cl ≠ 41 ∨ 0 < j) → ∃ e, Go m t e H G3 ∧ ∀ G', Go m t (e + 1) H G' → Q (.bl true) G' := fun c => by
            rw [if_pos ⟨h, c⟩] at eq2
            exact ⟨Pq, g3, fun G' g' => fin (k := a + vk + 1) (by rw [eq2]; simp only [adv, Nat.add_assoc]) (by rw [show i + 1 + kk + (a + vk + 1) = Pq + 1 from by omega]; exact g')⟩
          by_cases c41 : cl = 41
          · rw [if_neg (by simp [c41])]
            by_cases j0 : 0 < j
            · rw [if_pos (by simp only [decide_eq_true_eq]; omega)]
              exact go (.inr j0)
            · rw [if_neg (by simp only [decide_eq_true_eq]; omega)]
              exact ⟨rfl, fun z => z.2.elim (fun y => y c41) j0⟩
          · rw [if_pos (by simp [S_eq, c41])]
            exact go (.inl c41)
        · rw [if_neg (by simpa [S_eq] using take1_ne h)]
          exact ⟨rfl, fun z => h z.1⟩
      rintro _ ⟨rfl, nb⟩
      rw [if_neg nb] at eq2
      refine mid_one [some (.ref m), some (.int (20 - (n : Int))), some (.str (S [cl])), some (.int ((j : Int) + 1)), some (.ref U)] (fun G => Go m t (Pq + 1) H G ∧ G U = some (.lst (us2.map fun x => .str (S x))) ∧ (t.drop Pq).head? = some 44) ?_ ?_
      · walk_at "sx"
        rw [e44]
        refine ⟨_, _, rfl, m, t, [44], Pq, rfl, rfl, g3.mt, tl, pl, by simp, ?_⟩
        by_cases h : (t.drop Pq).head? = some 44
        · rw [show rex [44] (t.drop Pq) = .ok () 1 from by
            cases hh : t.drop Pq with
            | nil => rw [hh] at h; cases h
            | cons c r => rw [hh] at h; cases h; exact rex1 _ _]
          exact fun G' g' => ⟨_, rfl, by rw [if_neg (by simp)]; exact ⟨g3.trans g', g'.ot _ _ Um e3, h⟩⟩
        · rw [rex_no h]
          rw [if_pos h] at eq2
          exact fun G' g' => ⟨_, rfl, by rw [if_pos (by simp)]; exact fin (k := a + vk) (by rw [eq2]; simp only [adv, Nat.add_assoc]) (by rw [show i + 1 + kk + (a + vk) = Pq from by omega]; exact g3.trans g')⟩
      rintro G4 ⟨g4, e4, h44⟩
      have l44 := (take1_of h44).2
      rw [List.length_drop] at l44
      rw [if_neg (by simp [h44])] at eq2
      refine mid_one [some (.ref m), some (.int (20 - (n : Int))), some (.str (S [cl])), some (.int ((j : Int) + 1)), some (.ref U)] (fun G => G4 = G ∧ ¬ (cl = 41 ∧ j = 0 ∧ (t.drop (Pq + 1)).head? = some 41)) ?_ ?_
      · walk_at "sx"
        rw [e41]
        by_cases c41 : cl = 41
        · rw [if_pos (by simp [c41])]
          by_cases j0 : j = 0
          · rw [if_pos (by simp [j0])]
            refine ⟨_, rfl, m, t, Pq + 1, rfl, g4.mt, tl, by omega, ?_⟩
            dsimp only
            rw [RS.eq_ss]
            refine ⟨_, rfl, ?_⟩
            by_cases h : (t.drop (Pq + 1)).head? = some 41
            · rw [(take1_of h).1, if_pos (by simp)]
              rw [if_pos ⟨c41, j0, h⟩] at eq2
              exact ⟨Pq + 1, g4, fun G' g' => fin (k := a + vk + 2) (by rw [eq2]; simp only [adv, Nat.add_assoc]) (by rw [show i + 1 + kk + (a + vk + 2) = Pq + 1 + 1 from by omega]; exact g')⟩
            · rw [if_neg (by simpa [S_eq] using take1_ne h)]
              exact ⟨rfl, fun z => h z.2.2⟩
          · rw [if_neg (by simp only [decide_eq_true_eq]; omega)]
            exact fun z => j0 z.2.1
        · rw [if_neg (by simp [S_eq, c41])]
          exact fun z => c41 z.1
      rintro _ ⟨rfl, nc⟩
      rw [if_neg nc] at eq2
      walk_at "sx"
      rw [e32]
      refine ⟨_, _, rfl, m, t, [32], Pq + 1, rfl, rfl, g4.mt, tl, by omega, by simp, ?_⟩
      by_cases h : (t.drop (Pq + 1)).head? = some 32
      · rw [show rex [32] (t.drop (Pq + 1)) = .ok () 1 from by
          cases hh : t.drop (Pq + 1) with
          | nil => rw [hh] at h; cases h
          | cons c r => rw [hh] at h; cases h; exact rex1 _ _]
        have l32 := (take1_of h).2
        rw [List.length_drop] at l32
        rw [if_neg (by simp [h])] at eq2
        refine fun G' g' => ⟨_, rfl, ?_⟩
        rw [if_neg (by simp)]
        rw [List.length_drop] at lM
        refine ⟨kk + (a + vk + 2), j + 1, us2, by rfl, by rw [show i + 1 + (kk + (a + vk + 2)) = Pq + 1 + 1 from by omega]; exact g4.trans g', g'.ot _ _ Um e4, by omega, by rw [List.length_drop]; omega, by omega, by omega, ?_, by omega⟩
        rw [eq2, show i + 1 + (kk + (a + vk + 2)) = Pq + 2 from by omega]
        simp only [adv]
        congr 1; omega
      · rw [rex_no h]
        rw [if_pos h] at eq2
        exact fun G' g' => ⟨_, rfl, by rw [if_pos (by simp)]; exact fin (k := a + vk + 1) (by rw [eq2]; simp only [adv, Nat.add_assoc]) (by rw [show i + 1 + kk + (a + vk + 1) = Pq + 1 from by omega]; exact g4.trans g')⟩
  rintro _ G2 ⟨e, z, rfl, g2, q2⟩
  refine mid_at (fun σ G => Go m t (e + 1) H G) ?_ ?_
  · walk_at "sx"
    exact ⟨_, g2.mt.pos, _, g2.mt.put _, g2.trans (Go.put (j := e + 1))⟩
  intro σ G3 g3
  walk_at "sx"
  exact q2 _ g3
end
theorem pos_map {α β : Type} (f : α → β) (x : Res α) : pos (x.map f) = pos x := by cases x <;> rfl
theorem pos_up {α : Type} (k : Nat) (x : Res α) : pos (x.up k) = adv k (pos x) := by cases x <;> rfl
theorem rex_1 (c : Nat) (s : List Nat) : rex [c] s = if s.head? = some c then .ok () 1 else .bad 0 := by
  cases s with
  | nil => simp [rex]
  | cons x s =>
    by_cases h : x = c
    · subst h; simp [rex, Res.up]
    · simp [rex, h]
theorem rex_2 (c d : Nat) (s : List Nat) : rex [c, d] s = if s.head? = some c then (if (s.drop 1).head? = some d then .ok () 2 else .bad 1) else .bad 0 := by
  cases s with
  | nil => simp [rex]
  | cons x s =>
    by_cases h : x = c
    · subst h
      cases s with
      | nil => simp [rex, Res.up]
      | cons y s =>
        by_cases k : y = d
        · subst k; simp [rex, Res.up]
        · simp [rex, Res.up, k]
    · simp [rex, h]
theorem rex_34 {s : List Nat} (h : s.head? = some 34) : rex [34, 58, 32] s = (rex [58, 32] (s.drop 1)).up 1 := by
  cases s with
  | nil => cases h
  | cons x s =>
    simp only [List.head?_cons, Option.some.injEq] at h
    subst h
    simp [rex]
theorem lit_ritm {f : List Nat → Res PyData} {cl : Nat} (hcl : cl = 93 ∨ cl = 41) (h0 : f [] = .bad 0) : ∀ {M' M j : Nat} {us : List (List Nat)} {r : List Nat}, r.length ≤ M → r.length < M' → lit (fun r => pos (f r)) cl M' j us r = pos (ritm f cl M j r)
  | 0, M, j, us, r, _, h => by omega
  | M' + 1, 0, j, us, r, h1, h2 => by
    have : r = [] := List.eq_nil_of_length_eq_zero (by omega)
    subst this
    have n125 : ¬ cl = 125 := by omega
    simp only [lit, if_neg n125, lbody, List.drop_nil, h0, pos, if_true, ritm]
  | M' + 1, M + 1, j, us, r, h1, h2 => by
    have n125 : ¬ cl = 125 := by omega
    simp only [lit, if_neg n125, lbody, List.drop_zero, ritm]
    cases hx : f r with
    | bad k => simp [pos]
    | ok d k =>
      have hp : pos (Res.ok d k : Res PyData) = (true, k) := rfl
      simp only [hp, Nat.zero_add, Bool.true_eq_false, if_false]
      by_cases c1 : (r.drop k).head? = some cl ∧ (cl ≠ 41 ∨ 0 < j)
      · have d1 : ¬(cl = 41 ∧ j = 0) ∧ (r.drop k).head? = some cl := ⟨fun z => c1.2.elim (fun y => y z.1) (fun y => by omega), c1.1⟩
        rw [if_pos c1, if_pos d1]
        rfl
      · have d1 : ¬ (¬(cl = 41 ∧ j = 0) ∧ (r.drop k).head? = some cl) := fun z => c1 ⟨z.2, by
          by_cases e : cl = 41
          · exact .inr (by have := z.1; simp only [e, true_and] at this; omega)
          · exact .inl e⟩
        rw [if_neg c1, if_neg d1, rex_1]
        by_cases c2 : (r.drop k).head? = some 44
        · have n2 : ¬ ((r.drop k).head? ≠ some 44) := fun z => z c2
          rw [if_neg n2, if_pos c2]
          simp only
          by_cases c3 : cl = 41 ∧ j = 0 ∧ (r.drop (k + 1)).head? = some 41
          · have d3 : (cl = 41 ∧ j = 0) ∧ (r.drop (k + 1)).head? = some cl := ⟨⟨c3.1, c3.2.1⟩, by rw [c3.1]; exact c3.2.2⟩
            rw [if_pos c3, if_pos d3]
            rfl
          · have d3 : ¬ ((cl = 41 ∧ j = 0) ∧ (r.drop (k + 1)).head? = some cl) := fun z => c3 ⟨z.1.1, z.1.2, by rw [← z.1.1]; exact z.2⟩
            rw [if_neg c3, if_neg d3, rex_1]
            by_cases c4 : (r.drop (k + 1)).head? = some 32
            · have n4 : ¬ ((r.drop (k + 1)).head? ≠ some 32) := fun z => z c4
              rw [if_neg n4, if_pos c4]
              simp only
              have l4 := (take1_of c4).2
              rw [List.length_drop] at l4
              rw [pos_up, pos_map, lit_ritm hcl h0 (M' := M') (M := M) (by rw [List.length_drop]; omega) (by rw [List.length_drop]; omega)]
            · have n4 : (r.drop (k + 1)).head? ≠ some 32 := c4
              rw [if_pos n4, if_neg c4]
              rfl
        · have n2 : (r.drop k).head? ≠ some 44 := c2
          rw [if_pos n2, if_neg c2]
          rfl
theorem lit_rprs {f : List Nat → Res PyData} (h0 : f [] = .bad 0) : ∀ {M' M j : Nat} {us : List (List Nat)} {r : List Nat}, r.length ≤ M → r.length < M' → lit (fun r => pos (f r)) 125 M' j us r = pos (rprs f 100000 M us r)
  | 0, M, j, us, r, _, h => by omega
  | M' + 1, 0, j, us, r, h1, h2 => by
    have : r = [] := List.eq_nil_of_length_eq_zero (by omega)
    subst this
    simp [lit, rstr, rprs, pos]
  | M' + 1, M + 1, j, us, r, h1, h2 => by
    simp only [lit, if_true, rprs]
    cases hr : rstr 100000 r with
    | bad k => simp [pos]
    | ok x k =>
      have xl := rstr_len hr
      simp only
      by_cases mu : x ∈ us
      · rw [if_pos mu, if_pos mu]; rfl
      · rw [if_neg mu, if_neg mu, rex_34 xl.2.1, List.drop_drop]
        cases hy : rex [58, 32] (r.drop (k + 1)) with
        | bad y =>
          simp only [pos, if_true, Res.up]
          congr 1; omega
        | ok u y =>
          have hy1 : (pos (Res.ok u y : Res Unit)).1 = true := rfl
          rw [show (Res.ok u y : Res Unit).up 1 = Res.ok u (1 + y) from rfl]
          simp only [hy1, Bool.true_eq_false, if_false]
          cases hx : f (r.drop (k + 3)) with
          | bad i =>
            have hp : pos (Res.bad i : Res PyData) = (false, i) := rfl
            simp only [lbody, hx, hp, if_true]
            rfl
          | ok d i =>
            have hp : pos (Res.ok d i : Res PyData) = (true, i) := rfl
            simp only [lbody, hx, hp, Bool.true_eq_false, if_false]
            by_cases c1 : (r.drop (k + 3 + i)).head? = some 125
            · have d1 : (r.drop (k + 3 + i)).head? = some 125 ∧ (125 ≠ 41 ∨ 0 < j) := ⟨c1, .inl (by decide)⟩
              rw [if_pos d1, if_pos c1]
              rfl
            · have d1 : ¬ ((r.drop (k + 3 + i)).head? = some 125 ∧ (125 ≠ 41 ∨ 0 < j)) := fun z => c1 z.1
              rw [if_neg d1, if_neg c1, rex_2, List.drop_drop]
              by_cases c2 : (r.drop (k + 3 + i)).head? = some 44
              · have n2 : ¬ ((r.drop (k + 3 + i)).head? ≠ some 44) := fun z => z c2
                have d3 : ¬ (125 = 41 ∧ j = 0 ∧ (r.drop (k + 3 + i + 1)).head? = some 41) := fun z => by have := z.1; omega
                rw [if_neg n2, if_pos c2, if_neg d3]
                by_cases c4 : (r.drop (k + 3 + i + 1)).head? = some 32
                · have n4 : ¬ ((r.drop (k + 3 + i + 1)).head? ≠ some 32) := fun z => z c4
                  rw [if_neg n4, if_pos c4]
                  simp only
                  have l4 := (take1_of c4).2
                  rw [List.length_drop] at l4
                  rw [pos_up, pos_map, lit_rprs h0 (f := f) (M' := M') (M := M) (j := j + 1) (us := us ++ [x]) (r := r.drop (k + 3 + i + 2)) (by rw [List.length_drop]; omega) (by rw [List.length_drop]; omega)]
                · have n4 : (r.drop (k + 3 + i + 1)).head? ≠ some 32 := c4
                  rw [if_pos n4, if_neg c4]
                  rfl
              · have n2 : (r.drop (k + 3 + i)).head? ≠ some 44 := c2
                rw [if_pos n2, if_neg c2]
                rfl
theorem mergeK_app : ∀ (more kvs : List (Key × V)), ((kvs ++ more).map (·.1)).Nodup → mergeK kvs more = kvs ++ more
  | [], kvs, _ => by simp [mergeK]
  | p :: more, kvs, nd => by
    have e : mergeK kvs (p :: more) = mergeK (putK kvs p.1 p.2) more := rfl
    have hp : p.1 ∉ kvs.map (·.1) := by
      rw [List.map_append, List.map_cons] at nd
      intro z
      exact (List.nodup_append.mp nd).2.2 _ z _ (List.mem_cons_self ..) rfl
    rw [e, putK_new hp, mergeK_app more _ (by simpa using nd)]
    simp
theorem mergeK_nd {kvs : List (Key × V)} (nd : (kvs.map (·.1)).Nodup) : mergeK [] kvs = kvs := by simpa using mergeK_app kvs [] (by simpa using nd)
theorem brk_val {c cl : Nat} (h : (c = 91 ∧ cl = 93) ∨ (c = 40 ∧ cl = 41) ∨ (c = 123 ∧ cl = 125)) : valV (mergeK [] [((.inr (Str.ofString "[") : Key), V.str (Str.ofString "]")), (.inr (Str.ofString "("), .str (Str.ofString ")")), (.inr (Str.ofString "{"), .str (Str.ofString "}"))]) (.inr (S [c])) = some (.str (S [cl])) := by
  have e1 : Str.ofString "[" = S [91] := by decide +kernel
  have e2 : Str.ofString "]" = S [93] := by decide +kernel
  have e3 : Str.ofString "(" = S [40] := by decide +kernel
  have e4 : Str.ofString ")" = S [41] := by decide +kernel
  have e5 : Str.ofString "{" = S [123] := by decide +kernel
  have e6 : Str.ofString "}" = S [125] := by decide +kernel
  rw [e1, e2, e3, e4, e5, e6, mergeK_nd (by simp [S_eq]), vv_cons, vv_cons, vv_cons]
  rcases h with ⟨rfl, rfl⟩ | ⟨rfl, rfl⟩ | ⟨rfl, rfl⟩ <;> simp [S_eq]
def wv (x : List Nat) : Option (List Nat) := if x = [78] then some [78, 111, 110, 101] else if x = [84] then some [84, 114, 117, 101] else if x = [70] then some [70, 97, 108, 115, 101] else none
theorem wrd_val (x : List Nat) : valV (mergeK [] [((.inr (Str.ofString "N") : Key), V.str (Str.ofString "None")), (.inr (Str.ofString "T"), .str (Str.ofString "True")), (.inr (Str.ofString "F"), .str (Str.ofString "False"))]) (.inr (S x)) = (wv x).map fun w => .str (S w) := by
  have e1 : Str.ofString "N" = S [78] := by decide +kernel
  have e2 : Str.ofString "None" = S [78, 111, 110, 101] := by decide +kernel
  have e3 : Str.ofString "T" = S [84] := by decide +kernel
  have e4 : Str.ofString "True" = S [84, 114, 117, 101] := by decide +kernel
  have e5 : Str.ofString "F" = S [70] := by decide +kernel
  have e6 : Str.ofString "False" = S [70, 97, 108, 115, 101] := by decide +kernel
  rw [e1, e2, e3, e4, e5, e6, mergeK_nd (by simp [S_eq]), vv_cons, vv_cons, vv_cons]
  simp only [Sum.inr.injEq, S_eq, wv]
  by_cases a : x = [78]
  · subst a; rfl
  rw [if_neg (Ne.symm a), if_neg a]
  by_cases b : x = [84]
  · subst b; rfl
  rw [if_neg (Ne.symm b), if_neg b]
  by_cases c : x = [70]
  · subst c; rfl
  rw [if_neg (Ne.symm c), if_neg c]
  rfl
theorem inB (d : Nat) : decide (d ∈ [91, 40, 123]) = decide (d = 91 ∨ d = 40 ∨ d = 123) := by simp
theorem inD (d : Nat) : decide (d ∈ [45, 48, 49, 50, 51, 52, 53, 54, 55, 56, 57]) = decide (d = 45 ∨ isDig d = true) := by
  rw [decide_eq_decide]; simp [isDig]; omega
section
variable {g : Wd} {f : Addr} {fd : FuncData} {CI AU AW : Addr}
def sp_itf : Nat → Sp
  | 0 => fun _ _ _ _ => False
  | n + 1 => sp_itf1 n
theorem sc_l_value_fits : FnScope ["_law_m", "_law_level", "_law_sign_here", "_law_closing", "_law_words"] ["_law_m", "_law_level"] (defScope s_l_value_fits) := ⟨rfl, rfl, rfl, by decide +kernel, rfl, by decide +kernel, by decide +kernel⟩
theorem ok_valf (n : Nat) (F : Df g.K "_law_value_fits" "_law_value_fits" s_l_value_fits f fd .none) (T : Txt g) (F_l_sign : Kn g "_law_sign" 1 ["_law_m"] [] sp_sgn) (F_l_word : Kn g "_law_word" 2 ["_law_m", "_law_word_here"] [] sp_wd) (F_l_string_fits : Kn g "_law_string_fits" 3 ["_law_m", "_law_most", "_law_used"] [] sp_strf)
    (F_l_number_fits : Kn g "_law_number_fits" 2 ["_law_m"] [] sp_numf) (F_l_items_fit : Kn g "_law_items_fit" (2 * n + 5) ["_law_m", "_law_level", "_law_closing"] [] (sp_itf n)) : FnG g (2 * n + 6) f fd ["_law_m", "_law_level"] (sp_valf n) := by
  refine F.ok sc_l_value_fits (fun vs H Q E h => S2.len h) (fun cdv A outer s H vs Q E hr h => ?_)
  obtain ⟨_, _, rfl, m, t, i, rfl, rfl, n20, hm, tl, tp, il, q⟩ := h
  refine ⟨_, (pss_mid (ps_set (i := 2) sc_l_value_fits.nd rfl (Or.inl rfl) (pe_callG F_l_sign (hr.mono (by first | decide | omega)) tkD (pa_cons (pv 0) pa_nil)))
      (pss_mid (ps_if (pt_cmpR (o_eq (K := g.K) hr) (pv 2) pe_str (nomark _)) (pss_one (ps_ret (pe_callG F_l_string_fits (hr.mono (by first | decide | omega)) tkD (pa_cons (pv 0) (pa_cons (pe_op op_pow pe_int pe_int) (pa_cons (pe_lst pa_nil) pa_nil)))))) pss_nil)
      (pss_mid (ps_if (PW.pt (pw_and (pt_cmpR (o_ne (K := g.K) hr) (pv 2) pe_str (nomark _)) (pw_and1 (pt_cmpR (o_in (K := g.K)) (pv 2) pe_str (by rfl))))) (pss_cons (ps_set (i := 3) sc_l_value_fits.nd rfl (Or.inl rfl) (pe_dget (hu_of hr.room) (pe_disp (pps_cons pe_str pe_str (pps_cons pe_str pe_str (pps_cons pe_str pe_str pps_nil))) (by rfl) (by rfl) (fun z => by cases z) (by decide)) (pv 2) (fun _ _ => rfl)))
      (pss_one (ps_ret (pe_and (pe_cmpR op_lt (pv 1) pe_int (nomark _)) (pe_one (pe_callG F_l_items_fit (hr.mono (by first | decide | omega)) tkD (pa_cons (pv 0) (pa_cons (pe_op (o_add (K := g.K)) (pv 1) pe_int) (pa_cons (pv 3) pa_nil))))))))) pss_nil)
      (pss_mid (ps_if (PW.pt (pw_and (pt_cmpR (o_ne (K := g.K) hr) (pv 2) pe_str (nomark _)) (pw_and1 (pt_cmpR (o_in (K := g.K)) (pv 2) pe_str (by rfl))))) (pss_one (ps_ret (pe_callG F_l_number_fits (hr.mono (by first | decide | omega)) tkD (pa_cons (pv 0) pa_nil)))) pss_nil)
      (pss_cons (ps_set (i := 4) sc_l_value_fits.nd rfl (Or.inl rfl) (pe_disp (pps_cons pe_str pe_str (pps_cons pe_str pe_str (pps_cons pe_str pe_str pps_nil))) (by rfl) (by rfl) (fun z => by cases z) (by decide)))
      (pss_one (ps_ret (pe_and (pe_cmp (pc_din (hu_of hr.room) (pv 2) (pv 4)) (by rfl)) (pe_one (pe_callG F_l_word (hr.mono (by first | decide | omega)) tkD (pa_cons (pv 0) (pa_cons (pe_dget (hu_of hr.room) (pv 4) (pv 2) (fun _ _ => rfl)) pa_nil)))))))))))), ?_⟩
  refine mid_one [some (.ref m), some (.int (20 - (n : Int))), some (.str (S ((t.drop i).take 1))), none, none] (fun G => H = G) ?_ ?_
  · walk_at "sx"
    exact ⟨_, rfl, m, t, i, rfl, hm, tl, il, rfl, rfl⟩
  rintro _ rfl
  refine mid_at (fun σ X => σ = [some (.ref m), some (.int (20 - (n : Int))), some (.str (S ((t.drop i).take 1))), none, none] ∧ H = X ∧ (t.drop i).head? ≠ some 34) ?_ ?_
  · walk_at "sx"
    have e34 : Str.ofString "\"" = S [34] := by decide +kernel
    rw [e34]
    by_cases h : (t.drop i).head? = some 34
    · rw [(take1_of h).1, if_pos (by simp)]
      refine ⟨⟨by decide, by decide, by decide⟩, fun p hp => ?_⟩
      have pm : p ≠ m := fun z => by have := hm; unfold MAt at this; rw [← z, hp] at this; cases this
      have gp : Go m t i H (upd H p (.lst [])) := (Go.refl hm).laid hp
      refine ⟨_, _, _, rfl, m, p, t, i, 100000, [], rfl, by rfl, rfl, pm, gp.mt, by rw [upd_same]; rfl, by simp, tl, tp, il, by decide, ?_⟩
      have er : rv 100000 n (t.drop i) = match rstr 100000 (t.drop i) with
        | .bad k => .bad k
        | .ok x k => .ok (.str (S x)) (k + 1) := by
        cases hh : t.drop i with
        | nil => rw [hh] at h; cases h
        | cons c r =>
          rw [hh] at h
          cases h
          unfold rv; rw [if_pos rfl]
          all_goals (cases rstr 100000 (34 :: r) <;> rfl)
      rw [er] at q
      cases hx : rstr 100000 (t.drop i) with
      | bad k => rw [hx] at q; exact fun G gG => q G (gp.trans gG)
      | ok x k =>
        rw [hx] at q
        simp only at q ⊢
        rw [if_neg (by simp)]
        intro G gG
        exact q _ ((gp.trans (j := i + (k + 1)) (by rw [← Nat.add_assoc]; exact gG)).over hp pm)
    · rw [if_neg (by simpa [S_eq] using take1_ne h)]
      exact h
  rintro _ _ ⟨rfl, rfl, h34⟩
  refine mid_at (fun σ X => σ = [some (.ref m), some (.int (20 - (n : Int))), some (.str (S ((t.drop i).take 1))), none, none] ∧ H = X ∧ ∀ c, (t.drop i).head? = some c → ¬ (c = 91 ∨ c = 40 ∨ c = 123)) ?_ ?_
  · walk_at "sx"
    have eB : Str.ofString "[({" = S [91, 40, 123] := by decide +kernel
    have e0 : Str.ofString "" = S [] := by decide +kernel
    rw [eB, e0]
    cases hh : t.drop i with
    | nil =>
      rw [if_neg (by simp)]
      simp
    | cons c r =>
      have lt : i < t.length := by
        rcases Nat.lt_or_ge i t.length with h | h
        · exact h
        · rw [List.drop_eq_nil_of_le h] at hh; cases hh
      have hr' : t.drop (i + 1) = r := by rw [← List.drop_drop, hh]; rfl
      rw [hh] at h34
      have c34 : ¬ c = 34 := fun z => h34 (by rw [z]; rfl)
      rw [show (c :: r).take 1 = [c] from rfl, if_pos (by simp [S_eq]), has_one, inB]
      by_cases cB : c = 91 ∨ c = 40 ∨ c = 123
      · rw [if_pos (by simpa using cB)]
        intro p hp
        refine ⟨[((.inr (Str.ofString "[") : Key), V.str (Str.ofString "]")), (.inr (Str.ofString "("), .str (Str.ofString ")")), (.inr (Str.ofString "{"), .str (Str.ofString "}"))], rfl, by decide, ?_⟩
        have pm : p ≠ m := fun z => by have := hm; unfold MAt at this; rw [← z, hp] at this; cases this
        have gp : ∀ o, Go m t i H (upd (upd H p (HO.dK [])) p o) := fun o => ((Go.refl hm).laid hp).over hp pm
        obtain ⟨cl, hcl⟩ : ∃ cl, (c = 91 ∧ cl = 93) ∨ (c = 40 ∧ cl = 41) ∨ (c = 123 ∧ cl = 125) := by
          rcases cB with h | h | h
          · exact ⟨93, .inl ⟨h, rfl⟩⟩
          · exact ⟨41, .inr (.inl ⟨h, rfl⟩)⟩
          · exact ⟨125, .inr (.inr ⟨h, rfl⟩)⟩
        refine ⟨_, brk_val hcl, ?_⟩
        rw [hh] at q
        cases n with
        | zero =>
          rw [if_neg (by simp)]
          have er : rv 100000 0 (c :: r) = .bad 0 := by unfold rv; rw [if_neg c34, if_pos cB]
          rw [er] at q
          exact q _ (gp _)
        | succ n =>
          rw [if_pos (by simp only [decide_eq_true_eq]; omega)]
          refine ⟨_, _, _, rfl, m, t, i, cl, rfl, by congr 1; omega, rfl, by omega, by omega, (gp _).mt, tl, tp, by omega, ?_⟩
          rw [hr']
          have f0 : rv 100000 n [] = .bad 0 := by unfold rv; rfl
          by_cases hc : r.head? = some cl
          · rw [if_pos hc]
            have er : pos (rv 100000 (n + 1) (c :: r)) = (true, 2) := by
              unfold rv
              rw [if_neg c34, if_pos cB]
              rcases hcl with ⟨rfl, rfl⟩ | ⟨rfl, rfl⟩ | ⟨rfl, rfl⟩ <;> simp [hc, pos]
            rw [er] at q
            exact fun G gG => q G ((gp _).trans gG)
          · rw [if_neg hc]
            have er : pos (rv 100000 (n + 1) (c :: r)) = adv 1 (lit (fun r => pos (rv 100000 n r)) cl (r.length + 1) 0 [] r) := by
              conv => lhs; unfold rv
              rw [if_neg c34, if_pos cB]
              rcases hcl with ⟨rfl, rfl⟩ | ⟨rfl, rfl⟩ | ⟨rfl, rfl⟩
              · rw [lit_ritm (.inl rfl) f0 (M := r.length) (Nat.le_refl _) (Nat.lt_succ_self _), ← pos_map PyData.list, ← pos_up]
                simp [hc]
              · rw [lit_ritm (.inr rfl) f0 (M := r.length) (Nat.le_refl _) (Nat.lt_succ_self _), ← pos_map PyData.tuple, ← pos_up]
                simp [hc]
              · rw [lit_rprs f0 (M := r.length) (Nat.le_refl _) (Nat.lt_succ_self _), ← pos_map PyData.dict, ← pos_up]
                simp [hc]
            rw [er] at q
            intro G gG
            exact q G ((gp _).trans (by simp only [adv]; rw [← Nat.add_assoc]; exact gG))
      · rw [if_neg (by simpa using cB)]
        intro c' hc'
        cases hc'
        exact cB
  rintro _ _ ⟨rfl, rfl, hB⟩
  refine mid_at (fun σ X => σ = [some (.ref m), some (.int (20 - (n : Int))), some (.str (S ((t.drop i).take 1))), none, none] ∧ H = X ∧ ∀ c, (t.drop i).head? = some c → ¬ (c = 45 ∨ isDig c = true)) ?_ ?_
  · walk_at "sx"
    have eD : Str.ofString "-0123456789" = S [45, 48, 49, 50, 51, 52, 53, 54, 55, 56, 57] := by decide +kernel
    have e0 : Str.ofString "" = S [] := by decide +kernel
    rw [eD, e0]
    cases hh : t.drop i with
    | nil =>
      rw [if_neg (by simp)]
      simp
    | cons c r =>
      rw [hh] at h34 hB
      have c34 : ¬ c = 34 := fun z => h34 (by rw [z]; rfl)
      have cB := hB c rfl
      rw [show (c :: r).take 1 = [c] from rfl, if_pos (by simp [S_eq]), has_one, inD]
      by_cases cD : c = 45 ∨ isDig c = true
      · rw [if_pos (by simpa using cD)]
        have er : rv 100000 n (c :: r) = (ri (c :: r)).map PyData.int := by unfold rv; rw [if_neg c34, if_neg cB, if_pos cD]
        rw [hh, er] at q
        refine ⟨_, rfl, m, t, i, rfl, hm, tl, il, ?_⟩
        rw [hh]
        cases hx : ri (c :: r) with
        | bad k => rw [hx] at q; exact q
        | ok v k => rw [hx] at q; exact q
      · rw [if_neg (by simpa using cD)]
        intro c' hc'
        cases hc'
        exact cD
  rintro _ _ ⟨rfl, rfl, hD⟩
  walk_at "sx"
  intro p hp
  refine ⟨[((.inr (Str.ofString "N") : Key), V.str (Str.ofString "None")), (.inr (Str.ofString "T"), .str (Str.ofString "True")), (.inr (Str.ofString "F"), .str (Str.ofString "False"))], rfl, by decide, ?_⟩
  have pm : p ≠ m := fun z => by have := hm; unfold MAt at this; rw [← z, hp] at this; cases this
  have gp : ∀ o, Go m t i H (upd (upd H p (HO.dK [])) p o) := fun o => ((Go.refl hm).laid hp).over hp pm
  rw [wrd_val]
  have no : wv ((t.drop i).take 1) = none → pos (rv 100000 n (t.drop i)) = (false, 0) := fun h => by
    cases hh : t.drop i with
    | nil => unfold rv; rfl
    | cons c r =>
      rw [hh] at h34 hB hD h
      have c34 : ¬ c = 34 := fun z => h34 (by rw [z]; rfl)
      rw [show (c :: r).take 1 = [c] from rfl] at h
      have h1 : ¬ c = 78 := fun z => by rw [z] at h; cases h
      have h2 : ¬ c = 84 := fun z => by rw [z] at h; cases h
      have h3 : ¬ c = 70 := fun z => by rw [z] at h; cases h
      unfold rv
      rw [if_neg c34, if_neg (hB c rfl), if_neg (hD c rfl), if_neg h1, if_neg h2, if_neg h3]
      rfl
  cases hw : wv ((t.drop i).take 1) with
  | none =>
    rw [no hw] at q
    rw [if_neg (by simp)]
    exact q _ (gp _)
  | some w =>
    rw [if_pos (by simp)]
    refine ⟨_, rfl, ?_⟩
    have er : pos (rv 100000 n (t.drop i)) = pos (rex w (t.drop i)) ∧ w.length ≤ 100 := by
      cases hh : t.drop i with
      | nil => rw [hh] at hw; cases hw
      | cons c r =>
        rw [hh] at h34 hB hD hw
        have c34 : ¬ c = 34 := fun z => h34 (by rw [z]; rfl)
        have cB := hB c rfl
        have cD := hD c rfl
        rw [show (c :: r).take 1 = [c] from rfl] at hw
        unfold wv at hw
        unfold rv
        rw [if_neg c34, if_neg cB, if_neg cD]
        by_cases h1 : c = 78
        · subst h1
          rw [if_pos rfl] at hw
          rw [if_pos rfl]
          cases hw
          exact ⟨by rw [wrd, pos_map], by decide⟩
        rw [if_neg (by simpa using h1)] at hw
        rw [if_neg h1]
        by_cases h2 : c = 84
        · subst h2
          rw [if_pos rfl] at hw
          rw [if_pos rfl]
          cases hw
          exact ⟨by rw [wrd, pos_map], by decide⟩
        rw [if_neg (by simpa using h2)] at hw
        rw [if_neg h2]
        by_cases h3 : c = 70
        · subst h3
          rw [if_pos rfl] at hw
          rw [if_pos rfl]
          cases hw
          exact ⟨by rw [wrd, pos_map], by decide⟩
        rw [if_neg (by simpa using h3)] at hw
        cases hw
    rw [er.1] at q
    refine ⟨_, _, rfl, m, t, w, i, rfl, rfl, (gp _).mt, tl, il, er.2, ?_⟩
    cases hx : rex w (t.drop i) with
    | bad k => rw [hx] at q; exact fun G gG => q G ((gp _).trans gG)
    | ok u k => rw [hx] at q; exact fun G gG => q G ((gp _).trans gG)
end
theorem kn_fits {g : Wd} {fv fi : Addr} {fdv fdi : FuncData} (mv : g.mg "_law_value_fits" = some (.ref fv)) (kv : PySem.W.keepIn g.K (.ref fv) = true) (bv : Binds g.K fdv ["_law_m", "_law_level"] [])
    (mi : g.mg "_law_items_fit" = some (.ref fi)) (ki : PySem.W.keepIn g.K (.ref fi) = true) (bi : Binds g.K fdi ["_law_m", "_law_level", "_law_closing"] []) (Dv : Df g.K "_law_value_fits" "_law_value_fits" s_l_value_fits fv fdv .none) (Di : Df g.K "_law_items_fit" "_law_items_fit" s_l_items_fit fi fdi .none) (T : Txt g)
    (F_l_sign : Kn g "_law_sign" 1 ["_law_m"] [] sp_sgn) (F_l_word : Kn g "_law_word" 2 ["_law_m", "_law_word_here"] [] sp_wd) (F_l_string_fits : Kn g "_law_string_fits" 3 ["_law_m", "_law_most", "_law_used"] [] sp_strf) (F_l_number_fits : Kn g "_law_number_fits" 2 ["_law_m"] [] sp_numf) :
    ∀ n, Kn g "_law_value_fits" (2 * n + 6) ["_law_m", "_law_level"] [] (sp_valf n)
  | 0 => ⟨fv, fdv, [], mv, kv, ok_valf 0 Dv T F_l_sign F_l_word F_l_string_fits F_l_number_fits ⟨fi, fdi, [], mi, ki, fnG_void (fun _ _ _ _ h => h), bi, .nil⟩, bv, .nil⟩
  | n + 1 => by
    have R := kn_fits mv kv bv mi ki bi Dv Di T F_l_sign F_l_word F_l_string_fits F_l_number_fits n
    exact ⟨fv, fdv, [], mv, kv, ok_valf (n + 1) Dv T F_l_sign F_l_word F_l_string_fits F_l_number_fits ⟨fi, fdi, [], mi, ki, (ok_itf n Di T F_l_sign F_l_word F_l_string_fits R).mono (by omega), bi, .nil⟩, bv, .nil⟩
section
variable {g : Wd} {f : Addr} {fd : FuncData} {CI AU AW : Addr}
theorem sc_l_deed_fits : FnScope ["_law_m", "_law_is_put"] ["_law_m"] (defScope s_l_deed_fits) := ⟨rfl, rfl, rfl, by decide +kernel, rfl, by decide +kernel, by decide +kernel⟩
def sp_dfit : Sp := S1 fun a H Q _ => ∃ (m : Addr) (t : List Nat) (i : Nat), a = .ref m ∧ MAt H m t i ∧ t.length ≤ 100000 ∧ (∀ x ∈ t, pe x = true) ∧ i ≤ t.length ∧
  ∀ G, Go m t (i + (pos (rdeed 100000 (t.drop i))).2) H G → Q (.bl (pos (rdeed 100000 (t.drop i))).1) G
theorem ok_dfit (F : Df g.K "_law_deed_fits" "_law_deed_fits" s_l_deed_fits f fd .none) (T : Txt g) (F_l_sign : Kn g "_law_sign" 1 ["_law_m"] [] sp_sgn) (F_l_word : Kn g "_law_word" 2 ["_law_m", "_law_word_here"] [] sp_wd) (F_l_string_fits : Kn g "_law_string_fits" 3 ["_law_m", "_law_most", "_law_used"] [] sp_strf)
    (F_l_value_fits : Kn g "_law_value_fits" 46 ["_law_m", "_law_level"] [] (sp_valf 20)) : FnG g 47 f fd ["_law_m"] sp_dfit := by
  refine F.ok sc_l_deed_fits (fun vs H Q E h => S1.len h) (fun cdv A outer s H vs Q E hr h => ?_)
  obtain ⟨_, rfl, m, t, i, rfl, hm, tl, tp, il, q⟩ := h
  refine ⟨_, (pss_mid (ps_set (i := 1) sc_l_deed_fits.nd rfl (Or.inl rfl) (pe_cmpR (o_eq (K := g.K) hr) (pe_callG F_l_sign (hr.mono (by first | decide | omega)) tkD (pa_cons (pv 0) pa_nil)) pe_str (nomark _)))
      (pss_mid (ps_if (PW.pt (pw_or (pt_not (pt_val (pe_callG F_l_word (hr.mono (by first | decide | omega)) tkD (pa_cons (pv 0) (pa_cons (pe_ifExp (t_truth (K := g.K) (pv 1)) pe_str pe_str) pa_nil))))) (pw_or1 (pt_not (pt_val (pe_callG F_l_string_fits (hr.mono (by first | decide | omega)) tkD (pa_cons (pv 0) (pa_cons pe_int (pa_cons (pe_lst pa_nil) pa_nil))))))))) (pss_one (ps_ret pe_bl)) pss_nil)
      (pss_one (ps_ret (pe_or (pe_not (pv 1)) (pe_one (pe_and (pe_callG F_l_word (hr.mono (by first | decide | omega)) tkD (pa_cons (pv 0) (pa_cons pe_str pa_nil))) (pe_one (pe_callG F_l_value_fits (hr.mono (by first | decide | omega)) tkD (pa_cons (pv 0) (pa_cons pe_int pa_nil))))))))))), ?_⟩
  have e112 : Str.ofString "p" = S [112] := by decide +kernel
  have eput : Str.ofString "put " = S [112, 117, 116, 32] := by decide +kernel
  have edrop : Str.ofString "drop " = S [100, 114, 111, 112, 32] := by decide +kernel
  have e32 : Str.ofString " " = S [32] := by decide +kernel
  obtain ⟨b, hb⟩ : ∃ b, b = decide ((t.drop i).head? = some 112) := ⟨_, rfl⟩
  refine mid_one [some (.ref m), some (.bl b)] (fun G => H = G) ?_ ?_
  · walk_at "sx"
    refine ⟨_, rfl, m, t, i, rfl, hm, tl, il, ?_⟩
    dsimp only
    rw [e112, RS.eq_ss]
    have : decide (S (List.take 1 (t.drop i)) = S [112]) = b := by
      rw [hb, decide_eq_decide, S_eq]
      cases hh : t.drop i with
      | nil => simp
      | cons c r => simp
    rw [this]
    all_goals (first | rfl | exact ⟨rfl, rfl⟩ | exact ⟨_, rfl, rfl, rfl⟩ | exact ⟨_, rfl, rfl⟩)
  rintro _ rfl
  -- the word
  obtain ⟨w, hw⟩ : ∃ w, w = if b = true then [112, 117, 116, 32] else [100, 114, 111, 112, 32] := ⟨_, rfl⟩
  have key : ∀ r, rkey r = match rstr 200 r with
    | .bad k => .bad k
    | .ok x k => if x = [] then .bad k else .ok x (k + 1) := fun r => by unfold rkey; rfl
  have eD : pos (rdeed 100000 (t.drop i)) = match rex w (t.drop i) with
    | .bad k => (false, k)
    | .ok _ _ => match rkey (t.drop (i + w.length)) with
      | .bad k => (false, w.length + k)
      | .ok x k => if b = true then (match rex [32] (t.drop (i + w.length + k)) with
          | .bad j => (false, w.length + k + j)
          | .ok _ _ => adv (w.length + k + 1) (pos (rv 100000 20 (t.drop (i + w.length + k + 1))))) else (true, w.length + k) := by
    unfold rdeed
    by_cases h : (t.drop i).head? = some 112
    · have b1 : b = true := by rw [hb]; simpa using h
      rw [if_pos b1] at hw
      subst hw
      rw [if_pos h]
      simp only [if_pos b1, List.drop_drop, List.length_cons, List.length_nil, Nat.zero_add]
      cases rex [112, 117, 116, 32] (t.drop i) with
      | bad k => rfl
      | ok u k =>
        simp only
        cases rkey (t.drop (i + 4)) with
        | bad k => rfl
        | ok x k =>
          simp only
          rw [show i + (4 + k) = i + 4 + k from by omega, show i + (4 + k + 1) = i + 4 + k + 1 from by omega]
          cases rex [32] (t.drop (i + 4 + k)) with
          | bad j => rfl
          | ok u j => simp only; rw [pos_up, pos_map]
    · have b1 : ¬ b = true := by rw [hb]; simpa using h
      rw [if_neg b1] at hw
      subst hw
      rw [if_neg h]
      simp only [if_neg b1, List.drop_drop, List.length_cons, List.length_nil, Nat.zero_add]
      cases rex [100, 114, 111, 112, 32] (t.drop i) with
      | bad k => rfl
      | ok u k =>
        simp only
        cases rkey (t.drop (i + 5)) with
        | bad k => rfl
        | ok x k => rfl
  rw [eD] at q
  have wl : w.length ≤ 100 := by rw [hw]; split <;> simp
  refine mid_one [some (.ref m), some (.bl b)] (fun G => ∃ x k u j, rex w (t.drop i) = .ok u j ∧ rkey (t.drop (i + w.length)) = .ok x k ∧ Go m t (i + w.length + k) H G ∧ i + w.length + k ≤ t.length) ?_ ?_
  · walk_at "sx"
    have ew : (if b = true then Str.ofString "put " else Str.ofString "drop ") = S w := by
      rw [eput, edrop, hw]; split <;> rfl
    have go : sp_wd [.ref m, .str (S w)] H (fun x H' => ∃ k, x = V.bl k ∧ if (!k) = true then Q (.bl false) H' else ∀ (p : Addr), H' p = none → sp_strf [.ref m, .int 200, .ref p] (upd H' p (.lst [])) (fun x H' => ∃ k, x = V.bl k ∧ if (!k) = true then Q (.bl false) H' else ∃ x k u j, rex w (t.drop i) = .ok u j ∧ rkey (t.drop (i + w.length)) = .ok x k ∧ Go m t (i + w.length + k) H H' ∧ i + w.length + k ≤ t.length) (fun c d H' => E c d H')) (fun c d H' => E c d H') := by
      refine ⟨_, _, rfl, m, t, w, i, rfl, rfl, hm, tl, il, wl, ?_⟩
      cases hx : rex w (t.drop i) with
      | bad k =>
        rw [hx] at q
        exact fun G gG => ⟨_, rfl, by rw [if_pos (by simp)]; exact q G gG⟩
      | ok u k =>
        rw [hx] at q
        have xl := rex_len hx
        rw [List.length_drop] at xl
        simp only at q ⊢
        intro G gG
        refine ⟨_, rfl, ?_⟩
        rw [if_neg (by simp)]
        intro p hp
        have pm : p ≠ m := fun z => by have := gG.mt; unfold MAt at this; rw [← z, hp] at this; cases this
        have nH : H p = none := by
          cases e : H p with
          | none => rfl
          | some o => have := gG.ot p o pm e; rw [hp] at this; cases this
        rw [xl.1] at gG
        have gp : Go m t (i + w.length) H (upd G p (.lst [])) := gG.laid hp
        refine ⟨_, _, _, rfl, m, p, t, i + w.length, 200, [], rfl, by rfl, rfl, pm, gp.mt, by rw [upd_same]; rfl, by simp, tl, tp, by omega, by decide, ?_⟩
        rw [key] at q ⊢
        cases hy : rstr 200 (t.drop (i + w.length)) with
        | bad k =>
          rw [hy] at q
          exact fun X gX => ⟨_, rfl, by rw [if_pos (by simp)]; exact q X (gp.trans (by rw [← Nat.add_assoc]; exact gX))⟩
        | ok x k =>
          rw [hy] at q
          have yl := rstr_len hy
          rw [List.length_drop] at yl
          simp only at q ⊢
          by_cases x0 : x = []
          · rw [if_pos x0] at q
            rw [if_pos (by simp [x0])]
            exact fun X gX => ⟨_, rfl, by rw [if_pos (by simp)]; exact q X (gp.trans (by rw [← Nat.add_assoc]; exact gX))⟩
          · rw [if_neg (by simp [x0])]
            rw [if_neg x0]
            intro X gX
            refine ⟨_, rfl, ?_⟩
            rw [if_neg (by simp)]
            exact ⟨x, k + 1, u, w.length, by rw [xl.1], rfl, ((gG.laid (o := .lst []) hp).trans (j := i + w.length + (k + 1)) gX).over nH pm, by omega⟩
    by_cases hbb : b = true
    · rw [if_pos hbb] at ew ⊢
      rw [ew]; exact go
    · rw [if_neg hbb] at ew ⊢
      rw [ew]; exact go
  rintro G ⟨x, k, u, j, ex, ek, gG, kl⟩
  rw [ex] at q
  simp only [ek] at q
  walk_at "sx"
  by_cases b1 : b = true
  · rw [if_neg (by simp [b1])]
    simp only [if_pos b1] at q
    rw [e32]
    refine ⟨_, _, rfl, m, t, [32], i + w.length + k, rfl, rfl, gG.mt, tl, kl, by simp, ?_⟩
    cases hx : rex [32] (t.drop (i + w.length + k)) with
    | bad j =>
      rw [hx] at q
      exact fun X gX => ⟨_, rfl, by rw [if_neg (by simp)]; exact q X (gG.trans (j := i + (w.length + k + j)) (by rw [show i + (w.length + k + j) = i + w.length + k + j from by omega]; exact gX))⟩
    | ok u j =>
      rw [hx] at q
      have xl := rex_len hx
      rw [List.length_drop] at xl
      simp only [List.length_cons, List.length_nil] at xl
      obtain ⟨rfl, xl⟩ := xl
      intro X gX
      refine ⟨_, rfl, ?_⟩
      rw [if_pos rfl]
      refine ⟨_, _, rfl, m, t, i + w.length + k + 1, rfl, rfl, by decide, gX.mt, tl, tp, by omega, fun Y gY => ?_⟩
      exact q Y ((gG.trans gX).trans (by simp only [adv]; rw [show i + (w.length + k + 1 + (pos (rv 100000 20 (t.drop (i + w.length + k + 1)))).2) = i + w.length + k + 1 + (pos (rv 100000 20 (t.drop (i + w.length + k + 1)))).2 from by omega]; exact gY))
  · rw [if_pos (by simp [b1])]
    simp only [if_neg b1] at q
    exact q G (by rw [← Nat.add_assoc]; exact gG)
/-- the first wrong position, if there is one -/
def wpos (L : Nat) (dd : Bool) (t : List Nat) : Option Nat :=
  if dd = true then match rdeeds L (t.length + 1) t with
    | .bad k => some k
    | .ok _ _ => none
  else match rv L 20 t with
    | .bad k => some k
    | .ok _ k => if k = t.length then none else some k
def wd (i : Nat) : Res (List Rdd) → Option Nat
  | .bad k => some (i + k)
  | .ok _ _ => none
def optV : Option Nat → V
  | none => .non
  | some k => .int (k : Nat)
theorem sc_l_wrong : FnScope ["_law_text", "_law_is_deeds", "_law_m"] ["_law_text", "_law_is_deeds"] (defScope s_l_wrong) := ⟨rfl, rfl, rfl, by decide +kernel, rfl, by decide +kernel, by decide +kernel⟩
def sp_wrg : Sp := S2 fun a b H Q _ => ∃ (t : List Nat) (dd : Bool), a = .str (S t) ∧ b = .bl dd ∧ t.length ≤ 100000 ∧ (∀ x ∈ t, pe x = true) ∧ ∀ G, Same H G → Q (optV (wpos 100000 dd t)) G
theorem ok_wrg (F : Df g.K "_law_wrong" "_law_wrong" s_l_wrong f fd .none) (T : Txt g) (F_l_sign : Kn g "_law_sign" 1 ["_law_m"] [] sp_sgn) (F_l_word : Kn g "_law_word" 2 ["_law_m", "_law_word_here"] [] sp_wd)
    (F_l_value_fits : Kn g "_law_value_fits" 46 ["_law_m", "_law_level"] [] (sp_valf 20)) (F_l_deed_fits : Kn g "_law_deed_fits" 47 ["_law_m"] [] sp_dfit) : FnG g 48 f fd ["_law_text", "_law_is_deeds"] sp_wrg := by
  refine F.ok sc_l_wrong (fun vs H Q E h => S2.len h) (fun cdv A outer s H vs Q E hr h => ?_)
  obtain ⟨_, _, rfl, t, dd, rfl, rfl, tl, tp, q⟩ := h
  refine ⟨_, (pss_mid (ps_set (i := 2) sc_l_wrong.nd rfl (Or.inl rfl) (pe_disp (pps_cons pe_str (pv 0) (pps_cons pe_str pe_int pps_nil)) (by rfl) (by rfl) (fun z => by cases z) (by decide)))
      (pss_mid (ps_if (pt_not (t_truth (K := g.K) (pv 1))) (pss_one (ps_ret (pe_ifExp (PW.pt (pw_and (pt_val (pe_callG F_l_value_fits (hr.mono (by first | decide | omega)) tkD (pa_cons (pv 2) (pa_cons pe_int pa_nil)))) (pw_and1 (pt_cmpR (o_eq (K := g.K) hr) (pe_dget (hu_of hr.room) (pv 2) pe_str (fun _ _ => rfl)) (pe_callB (c_len (K := g.K)) (by rfl) T.b_len bb_len (pa_cons (pv 0) pa_nil)) (nomark _))))) pe_non (pe_dget (hu_of hr.room) (pv 2) pe_str (fun _ _ => rfl))))) pss_nil)
      (pss_mid (ps_while psD (pt_val (pe_callG F_l_deed_fits (hr.mono (by first | decide | omega)) tkD (pa_cons (pv 2) pa_nil))) (pss_cons (ps_if (pt_cmpR (o_ne (K := g.K) hr) (pe_callG F_l_sign (hr.mono (by first | decide | omega)) tkD (pa_cons (pv 2) pa_nil)) pe_str (nomark _)) (pss_one (ps_ret (pe_ifExp (pt_cmpR (o_eq (K := g.K) hr) (pe_dget (hu_of hr.room) (pv 2) pe_str (fun _ _ => rfl)) (pe_callB (c_len (K := g.K)) (by rfl) T.b_len bb_len (pa_cons (pv 0) pa_nil)) (nomark _)) pe_non (pe_dget (hu_of hr.room) (pv 2) pe_str (fun _ _ => rfl))))) pss_nil)
      (pss_one (ps_if (pt_not (pt_val (pe_callG F_l_word (hr.mono (by first | decide | omega)) tkD (pa_cons (pv 2) (pa_cons pe_str pa_nil))))) (pss_one (ps_ret (pe_dget (hu_of hr.room) (pv 2) pe_str (fun _ _ => rfl)))) pss_nil))))
      (pss_one (ps_ret (pe_dget (hu_of hr.room) (pv 2) pe_str (fun _ _ => rfl))))))), ?_⟩
  refine mid_at (fun σ G => ∃ m, σ = [some (.str (S t)), some (.bl dd), some (.ref m)] ∧ H m = none ∧ MAt G m t 0 ∧ Same H G) ?_ ?_
  · walk_at "sx"
    intro p hp
    refine ⟨[((.inr (Str.ofString "text") : Key), V.str (S t)), (.inr (Str.ofString "at"), .int 0)], rfl, by simp, hp, ?_, ?_⟩
    · unfold MAt
      rw [upd_same, mergeK_nd (by simp only [List.map_cons, List.map_nil]; decide +kernel)]
      rfl
    · exact fun c o e => by rw [upd_ne (ne_of_none e hp), upd_ne (ne_of_none e hp)]; exact e
  rintro _ G0 ⟨m, rfl, hm, m0, s0⟩
  have sg : ∀ {j G}, Go m t j G0 G → Same H G := fun h c o e => h.ot c o (fun z => by rw [z, hm] at e; cases e) (s0 _ _ e)
  refine mid_at (fun σ G => σ = [some (.str (S t)), some (.bl dd), some (.ref m)] ∧ G0 = G ∧ dd = true) ?_ ?_
  · walk_at "sx"
    cases dd with
    | true => rw [if_neg (by simp)]
    | false =>
      rw [if_pos (by simp)]
      simp only [wpos, Bool.false_eq_true, if_false] at q
      refine ⟨_, _, rfl, m, t, 0, rfl, rfl, by decide, m0, tl, tp, by omega, fun G gG => ?_⟩
      rw [List.drop_zero, Nat.zero_add] at gG
      rw [List.drop_zero]
      refine ⟨_, rfl, ?_⟩
      cases hx : rv 100000 20 t with
      | bad k =>
        rw [hx] at q gG
        rw [if_neg (by simp [pos])]
        exact ⟨_, gG.mt.pos, q G (sg gG)⟩
      | ok d k =>
        rw [hx] at q
        rw [hx, show pos (Res.ok d k : Res PyData) = (true, k) from rfl] at gG
        rw [show pos (Res.ok d k : Res PyData) = (true, k) from rfl]
        rw [if_pos (by simp)]
        refine ⟨_, gG.mt.pos, by rw [S_len]; omega, ?_⟩
        rw [S_len, RS.eq_ii]
        refine ⟨_, rfl, ?_⟩
        simp only at gG q ⊢
        by_cases e : k = t.length
        · simp only [if_pos e] at q
          rw [if_pos (by simp [e])]
          exact q G (sg gG)
        · simp only [if_neg e] at q
          rw [if_neg (by simp only [decide_eq_true_eq]; omega)]
          exact ⟨_, gG.mt.pos, q G (sg gG)⟩
  rintro _ _ ⟨rfl, rfl, rfl⟩
  have e44 : Str.ofString "," = S [44] := by decide +kernel
  have eC : Str.ofString ", " = S [44, 32] := by decide +kernel
  have w0 : wpos 100000 true t = wd 0 (rdeeds 100000 (t.length + 1) t) := by
    unfold wpos wd
    rw [if_pos rfl]
    cases rdeeds 100000 (t.length + 1) t <;> simp
  generalize wpos 100000 true t = W at q w0
  refine mid_at (fun σ G => ∃ j, σ = [some (.str (S t)), some (.bl true), some (.ref m)] ∧ Go m t j G0 G ∧ W = some j) ?_ ?_
  · refine ⟨fun μ σ G => ∃ (i M : Nat), σ = [some (.str (S t)), some (.bl true), some (.ref m)] ∧ Go m t i G0 G ∧ i ≤ t.length ∧ t.length - i < M ∧ W = wd i (rdeeds 100000 M (t.drop i)) ∧ μ = M, ⟨_, 0, t.length + 1, rfl, Go.refl m0, by omega, by omega, by rw [List.drop_zero]; exact w0, rfl⟩, ?_⟩
    rintro μ _ G ⟨i, M, rfl, gG, il, iM, eW, rfl⟩
    obtain ⟨M, rfl⟩ : ∃ M, μ = M + 1 := ⟨μ - 1, by omega⟩
    walk_at "sx"
    refine ⟨_, rfl, m, t, i, rfl, gG.mt, tl, tp, il, fun X gX => ?_⟩
    have dl := fun p k => rdeed_len (L := 100000) (r := t.drop i) (p := p) (k := k)
    rw [List.length_drop] at dl
    simp only [rdeeds] at eW
    refine ⟨_, rfl, ?_⟩
    cases hx : rdeed 100000 (t.drop i) with
    | bad k =>
      rw [hx] at gX eW
      rw [if_neg (by simp [pos])]
      exact ⟨i + k, gG.trans gX, eW⟩
    | ok p k =>
      rw [hx] at gX eW
      have l1 := dl p k hx
      have gY := gG.trans gX
      simp only [pos, List.drop_drop] at gY eW
      rw [if_pos (by simp [pos])]
      refine ⟨fun σ' H' => ∃ (i' : Nat), σ' = [some (.str (S t)), some (.bl true), some (.ref m)] ∧ Go m t i' G0 H' ∧ i' ≤ t.length ∧ t.length - i' < M ∧ W = wd i' (rdeeds 100000 M (t.drop i')), fun σ' H' ⟨i', a1, a2, a3, a4, a5⟩ => ⟨M, by omega, a1, i', a2, a3, M, a4, a5, rfl⟩, ?_⟩
      refine ⟨_, rfl, m, t, i + k, rfl, gY.mt, tl, by omega, ?_⟩
      dsimp only
      rw [e44, RS.ne_ss]
      refine ⟨_, rfl, ?_⟩
      by_cases h44 : (t.drop (i + k)).head? = some 44
      · rw [(take1_of h44).1, if_neg (by simp)]
        rw [if_pos h44] at eW
        rw [eC]
        refine ⟨_, _, rfl, m, t, [44, 32], i + k, rfl, rfl, gY.mt, tl, by omega, by simp, ?_⟩
        cases hy : rex [44, 32] (t.drop (i + k)) with
        | bad a =>
          rw [hy] at eW
          refine fun Z gZ => ⟨_, rfl, ?_⟩
          rw [if_pos (by simp)]
          have gz := gY.trans gZ
          have := q Z (sg gz)
          rw [eW] at this
          exact ⟨_, gz.mt.pos, by rw [show i + k + a = i + (k + a) from by omega]; exact this⟩
        | ok u a =>
          rw [hy] at eW
          have yl := rex_len hy
          rw [List.length_drop] at yl
          simp only [List.length_cons, List.length_nil] at yl
          obtain ⟨rfl, yl⟩ := yl
          refine fun Z gZ => ⟨_, rfl, ?_⟩
          rw [if_neg (by simp)]
          refine ⟨i + k + 2, rfl, gY.trans gZ, by omega, by omega, ?_⟩
          rw [eW, show i + (k + 2) = i + k + 2 from by omega]
          cases rdeeds 100000 M (t.drop (i + k + 2)) with
          | bad b => simp only [Res.map, Res.up, wd]; congr 1; omega
          | ok b c => rfl
      · rw [if_pos (by simpa [S_eq] using take1_ne h44)]
        rw [if_neg h44] at eW
        refine ⟨_, gY.mt.pos, by rw [S_len]; omega, ?_⟩
        rw [S_len, RS.eq_ii]
        refine ⟨_, rfl, ?_⟩
        by_cases e : i + k = t.length
        · rw [if_pos (by simp only [decide_eq_true_eq]; omega)]
          rw [if_pos (List.drop_eq_nil_of_le (by omega))] at eW
          have := q X (sg gY)
          rw [eW] at this
          exact this
        · rw [if_neg (by simp only [decide_eq_true_eq]; omega)]
          rw [if_neg (fun z => by have := congrArg List.length z; rw [List.length_drop] at this; simp at this; omega)] at eW
          have := q X (sg gY)
          rw [eW] at this
          exact ⟨_, gY.mt.pos, this⟩
  rintro _ G2 ⟨j, rfl, g2, eW⟩
  walk_at "sx"
  have := q G2 (sg g2)
  rw [eW] at this
  exact ⟨_, g2.mt.pos, this⟩
end
theorem take_head {r : List Nat} {k c : Nat} (h : (r.drop k).head? = some c) : r.take (k + 1) = r.take k ++ [c] := by
  rw [List.take_add, (take1_of h).1]
theorem rq_back : ∀ {m : Nat} {r x : List Nat} {k : Nat}, rq m r = .ok x k → x.flatMap esc = r.take k
  | 0, [], x, k, h => by simp [rq] at h
  | 0, c :: r, x, k, h => by
    simp only [rq] at h
    split at h
    · cases h; rfl
    · cases h
  | m + 1, [], x, k, h => by simp [rq] at h
  | m + 1, c :: r, x, k, h => by
    simp only [rq] at h
    split at h
    · cases h; rfl
    · rename_i c34
      split at h
      · rename_i c92
        cases r with
        | nil => cases h
        | cons e r' =>
          simp only at h
          split at h
          · rename_i he
            cases hx : rq m r' with
            | bad j => rw [hx] at h; cases h
            | ok a j =>
              rw [hx] at h
              simp only [Res.map, Res.up] at h
              cases h
              rw [List.flatMap_cons, rq_back hx, c92, show 2 + j = j + 1 + 1 from by omega, List.take_succ_cons, List.take_succ_cons]
              have : esc (une e) = [92, e] := by
                simp only [isE, Bool.or_eq_true, decide_eq_true_eq] at he
                rcases he with (rfl | rfl) | rfl <;> rfl
              rw [this]; rfl
          · cases h
      · rename_i c92
        split at h
        · rename_i hc
          cases hx : rq m r with
          | bad j => rw [hx] at h; cases h
          | ok a j =>
            rw [hx] at h
            simp only [Res.map, Res.up] at h
            cases h
            rw [List.flatMap_cons, rq_back hx, show 1 + j = j + 1 from by omega, List.take_succ_cons]
            have : esc c = [c] := by
              simp only [isP, Bool.and_eq_true, decide_eq_true_eq] at hc
              unfold esc
              rw [if_neg c34, if_neg c92, if_neg (by omega)]
            rw [this]; rfl
        · cases h
theorem rstr_back {m : Nat} {r x : List Nat} {k : Nat} (h : rstr m r = .ok x k) : shL note (.str (S x)) = r.take (k + 1) := by
  have hl := rstr_len h
  rw [shL_sno, sno_tl, take_head hl.2.1]
  cases r with
  | nil => simp [rstr] at h
  | cons c r =>
    simp only [rstr] at h
    split at h
    · rename_i c34
      cases hx : rq m r with
      | bad j => rw [hx] at h; cases h
      | ok a j =>
        rw [hx] at h
        simp only [Res.up] at h
        cases h
        rw [c34, show 1 + j = j + 1 from by omega, List.take_succ_cons, ← rq_back hx]
        rfl
    · cases h
theorem valL_snoc (ds : List Nat) (c : Nat) : valL (ds ++ [c]) = valL ds * 10 + (c - 48) := by simp [valL, List.foldl_append]
theorem valL_lt : ∀ {n : Nat} {ds : List Nat}, ds.length = n → (∀ c ∈ ds, isDig c = true) → valL ds < 10 ^ n
  | 0, ds, e, _ => by rw [List.length_eq_zero_iff.mp e]; decide
  | n + 1, ds, e, h => by
    have ne : ds ≠ [] := fun z => by rw [z] at e; cases e
    obtain ⟨a, c, rfl⟩ : ∃ a c, ds = a ++ [c] := ⟨ds.dropLast, ds.getLast ne, (List.dropLast_concat_getLast ne).symm⟩
    have ih := valL_lt (n := n) (ds := a) (by simpa using e) (fun d hd => h d (List.mem_append_left _ hd))
    have hc := h c (by simp)
    simp only [isDig, Bool.and_eq_true, decide_eq_true_eq] at hc
    rw [valL_snoc, Nat.pow_succ]; omega
theorem num_val : ∀ {n : Nat} {ds : List Nat} {d : Nat} {t : List Nat}, ds.length = n → ds = d :: t → isD1 d = true → (∀ c ∈ ds, isDig c = true) → 0 < valL ds ∧ numL (valL ds) = ds
  | 0, ds, d, t, e, h, _, _ => by rw [h] at e; cases e
  | n + 1, ds, d, t, e, hd, h1, h => by
    have ne : ds ≠ [] := fun z => by rw [z] at e; cases e
    obtain ⟨a, c, rfl⟩ : ∃ a c, ds = a ++ [c] := ⟨ds.dropLast, ds.getLast ne, (List.dropLast_concat_getLast ne).symm⟩
    have hc := h c (by simp)
    simp only [isDig, Bool.and_eq_true, decide_eq_true_eq] at hc
    rw [valL_snoc]
    cases a with
    | nil =>
      simp only [List.nil_append, List.cons.injEq] at hd
      obtain ⟨rfl, _⟩ := hd
      simp only [isD1, Bool.and_eq_true, decide_eq_true_eq] at h1
      have : valL [] = 0 := rfl
      rw [this]
      refine ⟨by omega, ?_⟩
      rw [numL_lt (by omega)]
      simp; omega
    | cons b a =>
      simp only [List.cons_append, List.cons.injEq] at hd
      obtain ⟨rfl, _⟩ := hd
      have ih := num_val (n := n) (ds := b :: a) (by simpa using e) rfl h1 (fun d hd => h d (List.mem_append_left _ hd))
      refine ⟨by omega, ?_⟩
      rw [numL_step (by omega), show (valL (b :: a) * 10 + (c - 48)) / 10 = valL (b :: a) from by omega, ih.2, show 48 + (valL (b :: a) * 10 + (c - 48)) % 10 = c from by omega]
theorem digs_back {c : Nat} {r : List Nat} (h : isD1 c = true) : 0 < valL (digs (c :: r)) ∧ numL (valL (digs (c :: r))) = (c :: r).take (digs (c :: r)).length ∧ valL (digs (c :: r)) < 10 ^ 100 := by
  have all : ∀ x ∈ digs (c :: r), isDig x = true := fun x hx => by
    have := digs_all _ x hx
    simp only [isDig, Bool.and_eq_true, decide_eq_true_eq]; exact this
  have e : ∃ t, digs (c :: r) = c :: t := by
    unfold digs
    rw [List.take_succ_cons, List.takeWhile_cons, if_pos (d1_dig h)]
    exact ⟨_, rfl⟩
  obtain ⟨t, e⟩ := e
  have := num_val rfl e h all
  refine ⟨this.1, by rw [this.2, digs_take], ?_⟩
  exact Nat.lt_of_lt_of_le (valL_lt rfl all) (Nat.pow_le_pow_right (by decide) (digs_len _).2)
theorem ri_back {r : List Nat} {i : Int} {k : Nat} (h : ri r = .ok i k) : sgI i = r.take k ∧ i.natAbs < 10 ^ 100 := by
  cases r with
  | nil => simp [ri] at h
  | cons c r =>
    simp only [ri] at h
    split at h
    · rename_i c45
      cases r with
      | nil => cases h
      | cons e r' =>
        simp only at h
        split at h
        · rename_i he
          cases h
          have hb := digs_back (r := r') he
          generalize valL (digs (e :: r')) = v at hb
          refine ⟨?_, by have := hb.2.2; generalize (10 : Nat) ^ 100 = B at this ⊢; omega⟩
          unfold sgI
          rw [if_pos (by omega), show (0 - (v : Int)).natAbs = v from by omega, hb.2.1, c45, Nat.add_comm 1, List.take_succ_cons]
        · cases h
    · split at h
      · rename_i c48
        cases h
        refine ⟨?_, by decide⟩
        rw [c48]; rfl
      · split at h
        · rename_i he
          cases h
          have hb := digs_back (r := r) he
          generalize valL (digs (c :: r)) = v at hb
          refine ⟨?_, by have := hb.2.2; generalize (10 : Nat) ^ 100 = B at this ⊢; omega⟩
          unfold sgI
          rw [if_neg (by omega), show ((v : Int)).natAbs = v from by omega, hb.2.1]
        · cases h
theorem rex_take : ∀ {w r : List Nat} {u : Unit} {k : Nat}, rex w r = .ok u k → r.take k = w
  | [], r, u, k, h => by simp only [rex] at h; cases h; rfl
  | w :: ws, [], u, k, h => by simp [rex] at h
  | w :: ws, c :: r, u, k, h => by
    simp only [rex] at h
    split at h
    · rename_i e
      cases hx : rex ws r with
      | bad j => rw [hx] at h; cases h
      | ok a j =>
        rw [hx] at h
        simp only [Res.up] at h
        cases h
        rw [show 1 + j = j + 1 from by omega, List.take_succ_cons, rex_take hx, e]
    · cases h
/-- a value as it stands in a text -/
structure Bk (n : Nat) (d : PyData) (w : List Nat) : Prop where
  ok : okB d = true
  dp : d.depth ≤ n
  tx : shL note d = w
theorem okAll_of : ∀ {ds : List PyData}, (∀ d ∈ ds, okB d = true) → okAll ds = true
  | [], _ => rfl
  | d :: ds, h => by
    simp only [okAll, Bool.and_eq_true]
    exact ⟨h d (List.mem_cons_self ..), okAll_of fun e he => h e (List.mem_cons_of_mem _ he)⟩
theorem okKv_of : ∀ {D : List (PyData × PyData)}, (∀ p ∈ D, okB p.1 = true ∧ okB p.2 = true) → okKv D = true
  | [], _ => rfl
  | (k, d) :: D, h => by
    simp only [okKv, Bool.and_eq_true]
    have := h _ (List.mem_cons_self ..)
    exact ⟨⟨this.1, this.2⟩, okKv_of fun e he => h e (List.mem_cons_of_mem _ he)⟩
theorem ritm_back {f : List Nat → Res PyData} {cl n B : Nat} (hf : ∀ r d k, f r = .ok d k → r.length ≤ B → Bk n d (r.take k)) : ∀ {m j : Nat} {r : List Nat} {ds : List PyData} {k : Nat}, ritm f cl m j r = .ok ds k → r.length ≤ B → ¬(cl = 41 ∧ j = 0) →
    ∃ d ds', ds = d :: ds' ∧ r.take k = shL note d ++ (tls note ds' ++ [cl]) ∧ (∀ e ∈ ds, okB e = true ∧ e.depth ≤ n)
  | 0, j, r, ds, k, h, _, _ => by simp [ritm] at h
  | m + 1, j, r, ds, k, h, hl, nc => by
    simp only [ritm] at h
    cases hx : f r with
    | bad i => rw [hx] at h; cases h
    | ok d i =>
      rw [hx] at h
      simp only at h
      have hb := hf _ _ _ hx hl
      split at h
      · rename_i c
        cases h
        refine ⟨d, [], rfl, ?_, by simp; exact ⟨hb.ok, hb.dp⟩⟩
        rw [take_head c.2, ← hb.tx]; rfl
      · cases hy : rex [44] (r.drop i) with
        | bad a => rw [hy] at h; cases h
        | ok u a =>
          rw [hy] at h
          simp only at h
          rw [if_neg (fun z => nc z.1)] at h
          cases hz : rex [32] (r.drop (i + 1)) with
          | bad a => rw [hz] at h; cases h
          | ok u2 a2 =>
            rw [hz] at h
            simp only at h
            cases hw : ritm f cl m (j + 1) (r.drop (i + 2)) with
            | bad b => rw [hw] at h; cases h
            | ok es b =>
              rw [hw] at h
              simp only [Res.map, Res.up] at h
              cases h
              obtain ⟨e, es', rfl, h1, h2⟩ := ritm_back hf hw (by rw [List.length_drop]; omega) (by omega)
              refine ⟨d, e :: es', rfl, ?_, fun z hz => ?_⟩
              · have t1 := rex_take hy
                have t2 := rex_take hz
                have l1 := (rex_len hy).1
                have l2 := (rex_len hz).1
                simp only [List.length_cons, List.length_nil] at l1 l2
                subst l1; subst l2
                rw [List.take_add (i := i + 2) (j := b), List.take_add (i := i) (j := 2), List.take_add (l := r.drop i) (i := 1) (j := 1), t1, List.drop_drop, t2, h1, ← hb.tx]
                simp [tls]
              · rcases List.mem_cons.mp hz with rfl | q
                · exact ⟨hb.ok, hb.dp⟩
                · exact h2 z q
theorem rtup_back {f : List Nat → Res PyData} {n B : Nat} (hf : ∀ r d k, f r = .ok d k → r.length ≤ B → Bk n d (r.take k)) {m : Nat} {r : List Nat} {ds : List PyData} {k : Nat} (h : ritm f 41 m 0 r = .ok ds k) (hl : r.length ≤ B) :
    ∃ d ds', ds = d :: ds' ∧ r.take k = shL note d ++ (tls note ds' ++ clT (ds'.length + 1)) ∧ (∀ e ∈ ds, okB e = true ∧ e.depth ≤ n) := by
  cases m with
  | zero => simp [ritm] at h
  | succ m =>
    simp only [ritm] at h
    cases hx : f r with
    | bad i => rw [hx] at h; cases h
    | ok d i =>
      rw [hx] at h
      simp only at h
      have hb := hf _ _ _ hx hl
      rw [if_neg (by simp)] at h
      cases hy : rex [44] (r.drop i) with
      | bad a => rw [hy] at h; cases h
      | ok u a =>
        rw [hy] at h
        simp only at h
        have t1 := rex_take hy
        have l1 := (rex_len hy).1
        simp only [List.length_cons, List.length_nil] at l1
        subst l1
        split at h
        · rename_i c
          cases h
          refine ⟨d, [], rfl, ?_, by simp; exact ⟨hb.ok, hb.dp⟩⟩
          rw [show i + 2 = i + 1 + 1 from rfl, take_head c.2, List.take_add, t1, ← hb.tx]
          simp [tls, clT]
        · cases hz : rex [32] (r.drop (i + 1)) with
          | bad a => rw [hz] at h; cases h
          | ok u2 a2 =>
            rw [hz] at h
            simp only at h
            cases hw : ritm f 41 m (0 + 1) (r.drop (i + 2)) with
            | bad b => rw [hw] at h; cases h
            | ok es b =>
              rw [hw] at h
              simp only [Res.map, Res.up] at h
              cases h
              obtain ⟨e, es', rfl, h1, h2⟩ := ritm_back hf hw (by rw [List.length_drop]; omega) (by omega)
              refine ⟨d, e :: es', rfl, ?_, fun z hz => ?_⟩
              · have t2 := rex_take hz
                have l2 := (rex_len hz).1
                simp only [List.length_cons, List.length_nil] at l2
                subst l2
                rw [List.take_add (i := i + 2) (j := b), List.take_add (i := i) (j := 2), List.take_add (l := r.drop i) (i := 1) (j := 1), t1, List.drop_drop, t2, h1, ← hb.tx]
                simp [tls, clT]
              · rcases List.mem_cons.mp hz with rfl | q
                · exact ⟨hb.ok, hb.dp⟩
                · exact h2 z q
theorem rprs_back {f : List Nat → Res PyData} {L n B : Nat} (hB : B ≤ 10000) (hf : ∀ r d k, f r = .ok d k → r.length ≤ B → Bk n d (r.take k)) : ∀ {m : Nat} {seen : List (List Nat)} {r : List Nat} {D : List (PyData × PyData)} {k : Nat}, rprs f L m seen r = .ok D k → r.length ≤ B →
    ∃ x d D', D = (.str x, d) :: D' ∧ r.take k = kvL note (.str x) d ++ (tlK note D' ++ [125]) ∧ (∀ e ∈ D, (okB e.1 = true ∧ e.1.depth = 0) ∧ okB e.2 = true ∧ e.2.depth ≤ n)
  | 0, seen, r, D, k, h, _ => by simp [rprs] at h
  | m + 1, seen, r, D, k, h, hl => by
    simp only [rprs] at h
    cases hx : rstr L r with
    | bad i => rw [hx] at h; cases h
    | ok x i =>
      rw [hx] at h
      simp only at h
      have xl := rstr_len hx
      have xo : okB (.str (S x)) = true := by simp only [okB, decide_eq_true_eq, S_len]; omega
      split at h
      · cases h
      · cases hy : rex [34, 58, 32] (r.drop i) with
        | bad a => rw [hy] at h; cases h
        | ok u a =>
          rw [hy] at h
          simp only at h
          have l1 := rex_len hy
          rw [List.length_drop] at l1
          simp only [List.length_cons, List.length_nil] at l1
          obtain ⟨rfl, l1⟩ := l1
          have t1 := rex_take hy
          have tx : r.take (i + 3) = shL note (.str (S x)) ++ [58, 32] := by
            rw [rstr_back hx, List.take_add, t1, take_head xl.2.1]
            simp
          cases hz : f (r.drop (i + 3)) with
          | bad a => rw [hz] at h; cases h
          | ok d b =>
            rw [hz] at h
            simp only at h
            have hb := hf _ _ _ hz (by rw [List.length_drop]; omega)
            split at h
            · rename_i c
              cases h
              refine ⟨S x, d, [], rfl, ?_, by simp; exact ⟨⟨xo, rfl⟩, hb.ok, hb.dp⟩⟩
              rw [take_head c, List.take_add, tx, ← hb.tx]
              simp [kvL, tlK]
            · cases hv : rex [44, 32] (r.drop (i + 3 + b)) with
              | bad a => rw [hv] at h; cases h
              | ok u2 a2 =>
                rw [hv] at h
                simp only at h
                cases hw : rprs f L m (seen ++ [x]) (r.drop (i + 3 + b + 2)) with
                | bad b => rw [hw] at h; cases h
                | ok es e =>
                  rw [hw] at h
                  simp only [Res.map, Res.up] at h
                  cases h
                  obtain ⟨x2, d2, D2, rfl, h1, h2⟩ := rprs_back hB hf hw (by rw [List.length_drop]; omega)
                  refine ⟨S x, d, (.str x2, d2) :: D2, rfl, ?_, fun z hz => ?_⟩
                  · have t2 := rex_take hv
                    have l2 := (rex_len hv).1
                    simp only [List.length_cons, List.length_nil] at l2
                    subst l2
                    rw [List.take_add (i := i + 3 + b + 2) (j := e), List.take_add (i := i + 3 + b) (j := 2), List.take_add (i := i + 3) (j := b), t2, h1, tx, ← hb.tx]
                    simp [kvL, tlK]
                  · rcases List.mem_cons.mp hz with rfl | q
                    · exact ⟨⟨xo, rfl⟩, hb.ok, hb.dp⟩
                    · exact h2 z q
theorem rv_back {L : Nat} : ∀ (n : Nat) (r : List Nat) (d : PyData) (k : Nat), rv L n r = .ok d k → r.length ≤ 10000 → Bk n d (r.take k)
  | n, [], d, k, h, _ => by unfold rv at h; cases h
  | n, c :: r, d, k, h, hl => by
    have R := rnote
    have rl : r.length ≤ 10000 := by simp only [List.length_cons] at hl; omega
    unfold rv at h
    split at h
    · cases hx : rstr L (c :: r) with
      | bad i => rw [hx] at h; cases h
      | ok x i =>
        rw [hx] at h
        simp only at h
        cases h
        have xl := rstr_len hx
        exact ⟨by simp only [okB, decide_eq_true_eq, S_len]; omega, Nat.zero_le _, rstr_back hx⟩
    split at h
    · cases n with
      | zero => cases h
      | succ n =>
        have ih := fun r d k e (l : r.length ≤ 10000) => rv_back (L := L) n r d k e l
        simp only at h
        split at h
        · rename_i _ c123
          subst c123
          split at h
          · rename_i hc
            cases h
            refine ⟨rfl, by simp [PyData.depth, PyData.depthKv], ?_⟩
            rw [shL_dict0 R, List.take_succ_cons, (take1_of hc).1]
          · cases hx : rprs (rv L n) L r.length [] r with
            | bad i => rw [hx] at h; cases h
            | ok D i =>
              rw [hx] at h
              simp only [Res.map, Res.up] at h
              cases h
              obtain ⟨x, d, D', rfl, h1, h2⟩ := rprs_back (Nat.le_refl _) ih hx rl
              have ln := (rprs_len (rv_len n) hx).2.2.2
              refine ⟨?_, ?_, ?_⟩
              · simp only [okB, Bool.and_eq_true, decide_eq_true_eq]
                exact ⟨by omega, okKv_of fun p hp => ⟨(h2 p hp).1.1, (h2 p hp).2.1⟩⟩
              · have := depthKv_le (n := n) (D := (.str x, d) :: D') fun p hp => ⟨(h2 p hp).2.2, by have := (h2 p hp).1.2; omega⟩
                simp only [PyData.depth]; omega
              · rw [shL_dict R, Nat.add_comm 1, List.take_succ_cons, h1]
        · split at h
          · rename_i _ _ c91
            subst c91
            split at h
            · rename_i hc
              cases h
              refine ⟨rfl, by simp [PyData.depth, PyData.depthAll], ?_⟩
              rw [shL_list0 R, List.take_succ_cons, (take1_of hc).1]
            · cases hx : ritm (rv L n) 93 r.length 0 r with
              | bad i => rw [hx] at h; cases h
              | ok ds i =>
                rw [hx] at h
                simp only [Res.map, Res.up] at h
                cases h
                obtain ⟨d, ds', rfl, h1, h2⟩ := ritm_back ih hx rl (by omega)
                have ln := (ritm_len (rv_len n) hx).2.2.2
                refine ⟨?_, ?_, ?_⟩
                · simp only [okB, Bool.and_eq_true, decide_eq_true_eq]
                  exact ⟨by omega, okAll_of fun p hp => (h2 p hp).1⟩
                · have := depthAll_le (n := n) (ds := d :: ds') fun p hp => (h2 p hp).2
                  simp only [PyData.depth]; omega
                · rw [shL_list R, Nat.add_comm 1, List.take_succ_cons, h1]
          · rename_i hB _ _
            have c40 : c = 40 := by omega
            subst c40
            split at h
            · rename_i hc
              cases h
              refine ⟨rfl, by simp [PyData.depth, PyData.depthAll], ?_⟩
              rw [shL_tup0 R, List.take_succ_cons, (take1_of hc).1]
            · cases hx : ritm (rv L n) 41 r.length 0 r with
              | bad i => rw [hx] at h; cases h
              | ok ds i =>
                rw [hx] at h
                simp only [Res.map, Res.up] at h
                cases h
                have ln := (ritm_len (rv_len n) hx).2.2.2
                obtain ⟨d, ds', rfl, h1, h2⟩ := rtup_back ih hx rl
                refine ⟨?_, ?_, ?_⟩
                · simp only [okB, Bool.and_eq_true, decide_eq_true_eq]
                  exact ⟨by omega, okAll_of fun p hp => (h2 p hp).1⟩
                · have := depthAll_le (n := n) (ds := d :: ds') fun p hp => (h2 p hp).2
                  simp only [PyData.depth]; omega
                · rw [shL_tup R, Nat.add_comm 1, List.take_succ_cons, h1]
    split at h
    · cases hx : ri (c :: r) with
      | bad i => rw [hx] at h; cases h
      | ok v i =>
        rw [hx] at h
        simp only [Res.map] at h
        cases h
        have := ri_back hx
        exact ⟨by simp only [okB, decide_eq_true_eq]; exact this.2, Nat.zero_le _, by rw [shL_int R, this.1]⟩
    have wr : ∀ {w : List Nat} {e : PyData}, wrd w e (c :: r) = .ok d k → d = e ∧ (c :: r).take k = w := fun {w e} h => by
      unfold wrd at h
      cases hx : rex w (c :: r) with
      | bad i => rw [hx] at h; cases h
      | ok u i =>
        rw [hx] at h
        simp only [Res.map] at h
        cases h
        exact ⟨rfl, rex_take hx⟩
    split at h
    · obtain ⟨rfl, e⟩ := wr h
      exact ⟨rfl, Nat.zero_le _, by rw [shL_none R, e]⟩
    split at h
    · obtain ⟨rfl, e⟩ := wr h
      exact ⟨rfl, Nat.zero_le _, by rw [shL_bool R, e]; rfl⟩
    split at h
    · obtain ⟨rfl, e⟩ := wr h
      exact ⟨rfl, Nat.zero_le _, by rw [shL_bool R, e]; rfl⟩
    cases h
theorem rq_L : ∀ {m m' : Nat} {r : List Nat}, r.length ≤ m → r.length ≤ m' → rq m r = rq m' r
  | 0, 0, r, _, _ => rfl
  | 0, m' + 1, [], _, _ => by simp [rq]
  | m + 1, 0, [], _, _ => by simp [rq]
  | m + 1, m' + 1, [], _, _ => by simp [rq]
  | 0, m' + 1, c :: r, h, _ => by simp at h
  | m + 1, 0, c :: r, _, h => by simp at h
  | m + 1, m' + 1, c :: r, h, h' => by
    simp only [List.length_cons] at h h'
    simp only [rq]
    rw [rq_L (m := m) (m' := m') (r := r) (by omega) (by omega)]
    cases r with
    | nil => rfl
    | cons e t =>
      simp only [List.length_cons] at h h'
      simp only
      rw [rq_L (m := m) (m' := m') (r := t) (by omega) (by omega)]
theorem rstr_L {m m' : Nat} {r : List Nat} (h : r.length ≤ m) (h' : r.length ≤ m') : rstr m r = rstr m' r := by
  cases r with
  | nil => rfl
  | cons c r =>
    simp only [List.length_cons] at h h'
    simp only [rstr]
    rw [rq_L (m := m) (m' := m') (by omega) (by omega)]
theorem ritm_L {f e : List Nat → Res PyData} {cl B : Nat} (hf : ∀ r, r.length ≤ B → f r = e r) : ∀ {m j : Nat} {r : List Nat}, r.length ≤ B → ritm f cl m j r = ritm e cl m j r
  | 0, j, r, _ => rfl
  | m + 1, j, r, h => by
    simp only [ritm]
    rw [hf r h]
    cases hx : e r with
    | bad k => rfl
    | ok d k =>
      simp only
      rw [ritm_L hf (m := m) (j := j + 1) (r := r.drop (k + 2)) (by rw [List.length_drop]; omega)]
theorem rprs_L {f e : List Nat → Res PyData} {L L' B : Nat} (l : B ≤ L) (l' : B ≤ L') (hf : ∀ r, r.length ≤ B → f r = e r) : ∀ {m : Nat} {us : List (List Nat)} {r : List Nat}, r.length ≤ B → rprs f L m us r = rprs e L' m us r
  | 0, us, r, _ => rfl
  | m + 1, us, r, h => by
    simp only [rprs]
    rw [rstr_L (m := L) (m' := L') (by omega) (by omega)]
    cases hx : rstr L' r with
    | bad k => rfl
    | ok x k =>
      simp only
      rw [hf (r.drop (k + 3)) (by rw [List.length_drop]; omega)]
      cases hy : e (r.drop (k + 3)) with
      | bad i => rfl
      | ok d i =>
        simp only
        rw [rprs_L l l' hf (m := m) (us := us ++ [x]) (r := r.drop (k + 3 + i + 2)) (by rw [List.length_drop]; omega)]
theorem rv_L {L L' : Nat} : ∀ (n : Nat) (r : List Nat), r.length ≤ L → r.length ≤ L' → rv L n r = rv L' n r
  | n, [], _, _ => by unfold rv; rfl
  | 0, c :: r, h, h' => by
    unfold rv
    rw [rstr_L h h']
  | n + 1, c :: r, h, h' => by
    have ih : ∀ B, B ≤ L → B ≤ L' → ∀ r, r.length ≤ B → rv L n r = rv L' n r := fun B b b' r hr => rv_L n r (by omega) (by omega)
    have hh := h
    have hh' := h'
    simp only [List.length_cons] at h h'
    have e0 : rprs (rv L n) L r.length [] r = rprs (rv L' n) L' r.length [] r := rprs_L (B := r.length) (by omega) (by omega) (ih r.length (by omega) (by omega)) (Nat.le_refl _)
    have e1 : ∀ cl, ritm (rv L n) cl r.length 0 r = ritm (rv L' n) cl r.length 0 r := fun cl => ritm_L (ih r.length (by omega) (by omega)) (Nat.le_refl _)
    unfold rv
    rw [rstr_L hh hh']
    simp only [e0, e1]
theorem rdeed_L {L L' : Nat} {r : List Nat} (h : r.length ≤ L) (h' : r.length ≤ L') : rdeed L r = rdeed L' r := by
  unfold rdeed
  have e : ∀ k, rv L 20 (r.drop k) = rv L' 20 (r.drop k) := fun k => rv_L 20 _ (by rw [List.length_drop]; omega) (by rw [List.length_drop]; omega)
  simp only [e]
theorem rdeeds_L {L L' : Nat} : ∀ {m : Nat} {r : List Nat}, r.length ≤ L → r.length ≤ L' → rdeeds L m r = rdeeds L' m r
  | 0, r, _, _ => rfl
  | m + 1, r, h, h' => by
    simp only [rdeeds]
    rw [rdeed_L h h']
    cases hx : rdeed L' r with
    | bad k => rfl
    | ok p k =>
      simp only
      rw [rdeeds_L (L := L) (L' := L') (m := m) (r := r.drop (k + 2)) (by rw [List.length_drop]; omega) (by rw [List.length_drop]; omega)]
theorem wpos_L {dd : Bool} {t : List Nat} (h : t.length ≤ 100000) : wpos 100000 dd t = wpos t.length dd t := by
  unfold wpos
  rw [rdeeds_L h (Nat.le_refl _), rv_L 20 t h (Nat.le_refl _)]
def num (n : Nat) : Str := Str.ofString (toString (n : Int))
mutual
def spell : PyData → Str
  | .none => "n"
  | .bool b => if b then "t" else "f"
  | .int i => ("i" : Str) ++ Str.ofString (toString i) ++ ";"
  | .str x => ("s" : Str) ++ num x.length ++ ":" ++ x
  | .list ds => ("l" : Str) ++ num ds.length ++ ":" ++ spells ds
  | .tuple ds => ("u" : Str) ++ num ds.length ++ ":" ++ spells ds
  | .dict D => ("d" : Str) ++ num D.length ++ ":" ++ spellKv D
def spells : List PyData → Str
  | [] => Str.empty
  | d :: ds => spell d ++ spells ds
def spellKv : List (PyData × PyData) → Str
  | [] => Str.empty
  | (k, d) :: r => spell k ++ spell d ++ spellKv r
end
def cat : List Str → Str
  | [] => Str.empty
  | x :: xs => x ++ cat xs
theorem join1 : ∀ xs : List Str, Str.join (Str.ofString "") xs = cat xs
  | [] => rfl
  | [x] => by show x = x ++ Str.empty; rw [Str.append_empty]
  | x :: y :: r => by
    have e : Str.join (Str.ofString "") (x :: y :: r) = x ++ Str.ofString "" ++ Str.join (Str.ofString "") (y :: r) := rfl
    have e0 : Str.ofString "" = Str.empty := by decide +kernel
    rw [e, join1 (y :: r), e0, Str.append_empty]
    rfl
theorem join0 (xs : List Str) : Txt.join (Str.ofString "") xs = cat xs := by
  exact (StrLaws.glued_eq_join _ _).trans (join1 xs)
theorem cat_len : ∀ xs : List Str, (cat xs).length = (xs.map (·.length)).sum
  | [] => rfl
  | x :: xs => by simp [cat, Str.length_append, cat_len xs]
theorem cat_map_spell : ∀ ds : List PyData, cat (ds.map spell) = spells ds
  | [] => by simp [cat, spells]
  | d :: ds => by simp [cat, spells, cat_map_spell ds]
theorem cat_map_kv : ∀ D : List (PyData × PyData), cat (D.map fun p => spell p.1 ++ spell p.2) = spellKv D
  | [] => by simp [cat, spellKv]
  | (k, d) :: r => by simp [cat, spellKv, cat_map_kv r]
theorem spells_get : ∀ {ds : List PyData} {i : Nat} {d : PyData}, ds[i]? = some d → (spell d).length ≤ (spells ds).length
  | x :: xs, 0, d, e => by cases e; simp only [spells, Str.length_append]; omega
  | x :: xs, i + 1, d, e => by
    have := spells_get (ds := xs) (by simpa using e)
    simp only [spells, Str.length_append]; omega
  | [], _, _, e => by simp at e
theorem spellKv_get : ∀ {D : List (PyData × PyData)} {i : Nat} {k d : PyData}, D[i]? = some (k, d) → (spell k).length + (spell d).length ≤ (spellKv D).length
  | (x, y) :: xs, 0, k, d, e => by cases e; simp only [spellKv, Str.length_append]; omega
  | (x, y) :: xs, i + 1, k, d, e => by
    have := spellKv_get (D := xs) (by simpa using e)
    simp only [spellKv, Str.length_append]; omega
  | [], _, _, _, e => by simp at e
theorem num_log {n : Nat} (h : n ≤ 10000) : ((n : Nat) : Int).natAbs.log2 < 1920 := by
  rw [Int.natAbs_natCast]
  by_cases z : n = 0
  · rw [z]; decide
  · exact (Nat.log2_lt z).mpr (Nat.lt_of_le_of_lt h (by decide +kernel))
theorem esc_ge : ∀ x : List Nat, x.length ≤ (x.flatMap esc).length
  | [] => by simp
  | c :: x => by
    have := esc_ge x
    have : 1 ≤ (esc c).length := by unfold esc; (repeat' split) <;> simp
    simp only [List.flatMap_cons, List.length_append, List.length_cons]; omega
theorem num_le (n : Nat) : (num n).length ≤ n + 1 := by
  unfold num
  have e : Str.ofString (toString (n : Int)) = S (TL.numL n) := by
    rw [RS.num_int (by omega)]; simp
  rw [e, S_len]
  exact TL.numL_len (by omega) (Nat.lt_of_lt_of_le (Nat.lt_pow_self (by decide)) (Nat.pow_le_pow_right (by decide) (Nat.le_succ n)))
mutual
theorem spell_le : ∀ d : PyData, okB d = true → (spell d).length ≤ 4 * (shL note d).length
  | .none, _ => by rw [shL_none rnote]; decide +kernel
  | .bool b, _ => by rw [shL_bool rnote]; cases b <;> decide +kernel
  | .int i, _ => by
    have e1 : ("i" : Str).length = 1 := by decide +kernel
    have e2 : (";" : Str).length = 1 := by decide +kernel
    have e3 : (Str.ofString (toString i)).length = (shL note (.int i)).length := by simp [shL, note, Str.length]
    have e4 : 1 ≤ (shL note (.int i)).length := by
      obtain ⟨c, t, e, _⟩ := head_of rnote (.int i)
      rw [e]; simp
    simp only [spell, Str.length_append]
    omega
  | .str x, _ => by
    have e1 : ("s" : Str).length = 1 := by decide +kernel
    have e2 : (":" : Str).length = 1 := by decide +kernel
    have e3 := num_le x.length
    have e4 : x.length + 2 ≤ (shL note (.str x)).length := by
      rw [shL_sno, sno_len]
      have e : x.cps.toList.length = x.length := by simp [Str.length]
      have := esc_ge x.cps.toList
      omega
    simp only [spell, Str.length_append]
    omega
  | .list ds, h => by
    simp only [okB, Bool.and_eq_true] at h
    have ih := spells_le ds h.2
    have e1 : ("l" : Str).length = 1 := by decide +kernel
    have e2 : (":" : Str).length = 1 := by decide +kernel
    have e3 := num_le ds.length
    simp only [spell, Str.length_append]
    cases ds with
    | nil => rw [shL_list0 rnote]; simp only [spells, List.length_nil] at *; have e0 : Str.empty.length = 0 := rfl; have : (num 0).length = 1 := by decide +kernel
             simp; omega
    | cons d ds =>
      have := tls_len ds
      rw [shL_list rnote]
      simp only [tls, List.length_cons, List.length_append] at *
      omega
  | .tuple ds, h => by
    simp only [okB, Bool.and_eq_true] at h
    have ih := spells_le ds h.2
    have e1 : ("u" : Str).length = 1 := by decide +kernel
    have e2 : (":" : Str).length = 1 := by decide +kernel
    have e3 := num_le ds.length
    simp only [spell, Str.length_append]
    cases ds with
    | nil => rw [shL_tup0 rnote]; simp only [spells, List.length_nil] at *; have e0 : Str.empty.length = 0 := rfl; have : (num 0).length = 1 := by decide +kernel
             simp; omega
    | cons d ds =>
      have := tls_len ds
      have := clT_len (ds.length + 1)
      rw [shL_tup rnote]
      simp only [tls, List.length_cons, List.length_append] at *
      omega
  | .dict D, h => by
    simp only [okB, Bool.and_eq_true] at h
    have ih := spellKv_le D h.2
    have e1 : ("d" : Str).length = 1 := by decide +kernel
    have e2 : (":" : Str).length = 1 := by decide +kernel
    have e3 := num_le D.length
    simp only [spell, Str.length_append]
    cases D with
    | nil => rw [shL_dict0 rnote]; simp only [spellKv, List.length_nil] at *; have e0 : Str.empty.length = 0 := rfl; have : (num 0).length = 1 := by decide +kernel
             simp; omega
    | cons p D =>
      obtain ⟨k, d⟩ := p
      have := tlK_len D
      rw [shL_dict rnote]
      simp only [tlK, List.length_cons, List.length_append] at *
      omega
theorem spells_le : ∀ ds : List PyData, okAll ds = true → (spells ds).length + 4 * ds.length ≤ 4 * (tls note ds).length
  | [], _ => by simp [spells, tls]; rfl
  | d :: ds, h => by
    simp only [okAll, Bool.and_eq_true] at h
    have h1 := spell_le d h.1
    have h2 := spells_le ds h.2
    simp only [spells, Str.length_append, tls, List.length_cons, List.length_append]
    omega
theorem spellKv_le : ∀ D : List (PyData × PyData), okKv D = true → (spellKv D).length + 4 * D.length ≤ 4 * (tlK note D).length
  | [], _ => by simp [spellKv, tlK]; rfl
  | (k, d) :: D, h => by
    simp only [okKv, Bool.and_eq_true] at h
    have h0 := spell_le k h.1.1
    have h1 := spell_le d h.1.2
    have h2 := spellKv_le D h.2
    simp only [spellKv, Str.length_append, tlK, kvL, List.length_cons, List.length_append]
    omega
end
section
variable {g : Wd} {f : Addr} {fd : FuncData}
theorem sc_spelled : FnScope ["value", "letter", "front", "key", "item"] ["value"] (defScope s_spelled) := ⟨rfl, rfl, rfl, by decide +kernel, rfl, by decide +kernel, by decide +kernel⟩
def sp_spell (n : Nat) : Sp := S1 fun v H Q _ => ∃ d fp, Tr H v d fp ∧ okB d = true ∧ d.depth < n ∧ (spell d).length ≤ 1000000 ∧ ∀ H', Same H H' → Q (.str (spell d)) H'
/-- the lists' and tuples' way -/
theorem spell_items {n : Nat} {H H1 : Hp} {Qf : VK} {J : It} {xs : List V} {ds : List PyData} {fp : List Addr} {σ : L2.St} {W : WX} (sl : Nat) (hw : ∀ x : V, wipe ((wipe σ [sl]).set sl (some x)) [sl] = wipe σ [sl]) (hv : ∀ x : V, ((wipe σ [sl]).set sl (some x))[sl]? = some (some x)) (sm : Same H H1) (hs : TrL H xs ds fp) (ok : okAll ds = true) (hl : ds.length ≤ 10000) (hd : PyData.depthAll ds < n) (hz : (spells ds).length ≤ 1000000)
    (go : ∀ i G, i < xs.length → Same H1 G → J.go i G) (stop : ∀ G, Same H1 G → J.stop xs.length G) (yl : ∀ i G x G', i < xs.length → Same H1 G → J.yld i G x G' → G' = G ∧ xs[i]? = some x)
    (q : ∀ (L : Addr) (ys : List Str) (G : Hp), Same H1 G → G L = some (.lst (ys.map V.str)) → cat ys = spells ds → (ys.map (·.length)).sum ≤ 1000000 → Qf (.ref L) G) :
    LcB J (gName sl) tYes (RS.tCallG (sp_spell n) [] W (tCons (tVar sl) tNil)) [sl] σ H1 Qf := by
  have ln := hs.len
  refine lc_all xs.length (fun i => .str (spell (ds[i]?.getD .none))) (by rw [sizeLine_eq]; omega) go stop (fun i G x G' K lt s y k => ?_) (fun L G hL s eL => ?_)
  · obtain ⟨rfl, hx⟩ := yl i G x G' lt s y
    obtain ⟨v, d, f', e1, e2, t, _⟩ := hs.get lt
    rw [hx] at e1
    cases e1
    refine ⟨hw x, x, hv x, ?_⟩
    have b1 := depth_all e2
    have b2 := spells_get e2
    refine ⟨_, rfl, d, f', t.same (sm.trans s), okAll_get ok e2, by omega, by omega, fun H' s' => ?_⟩
    have := k H' s'
    rw [e2] at this
    exact this
  · have e : (List.range xs.length).map (fun i => V.str (spell (ds[i]?.getD .none))) = (ds.map spell).map V.str := by
      rw [ln]
      refine List.ext_getElem (by simp) fun i h1 h2 => ?_
      simp at h1 h2
      simp [h1]
    refine q L (ds.map spell) G s (by rw [eL, e]) (cat_map_spell ds) ?_
    rw [← cat_len, cat_map_spell]; exact hz
theorem ok_spell (n : Nat) (F : Df g.K "spelled" "spelled" s_spelled f fd .none) (T : Txt g) (F_spelled : Kn g "spelled" (n + 1) ["value"] [] (sp_spell n)) : FnG g (n + 2) f fd ["value"] (sp_spell (n + 1)) := by
  refine F.ok sc_spelled (fun vs H Q E h => S1.len h) (fun cdv A outer s H vs Q E hr h => ?_)
  obtain ⟨v, rfl, d, fp, hv, hok, hn, hz, q⟩ := h
  refine ⟨_, (pss_cons (ps_if (pt_cmpR op_isN (pv 0) pe_non (nomark _)) (pss_one (ps_ret pe_str)) pss_nil)
      (pss_cons (ps_if (pt_val (pe_callB (c_is "bool") (by rfl) T.b_isinstance bb_isinstance (pa_cons (pv 0) (pa_cons (pe_bltn (v := .ty "bool") rfl T.b_bool bb_bool rfl) pa_nil)))) (pss_one (ps_ret (pe_ifExp (t_truth (K := g.K) (pv 0)) pe_str pe_str))) pss_nil)
      (pss_cons (ps_if (pt_val (pe_callB (c_is "int") (by rfl) T.b_isinstance bb_isinstance (pa_cons (pv 0) (pa_cons (pe_bltn (v := .ty "int") rfl T.b_int bb_int rfl) pa_nil)))) (pss_one (ps_ret (pe_joined (.cons pe_str (.cons (pe_fmt (pv 0)) (.cons pe_str .nil)))))) pss_nil)
      (pss_cons (ps_if (pt_val (pe_callB (c_is "str") (by rfl) T.b_isinstance bb_isinstance (pa_cons (pv 0) (pa_cons (pe_bltn (v := .ty "str") rfl T.b_str bb_str rfl) pa_nil)))) (pss_one (ps_ret (pe_joined (.cons pe_str (.cons (pe_fmt (pe_callB (c_len (K := g.K)) (by rfl) T.b_len bb_len (pa_cons (pv 0) pa_nil))) (.cons pe_str (.cons (pe_fmt (pv 0)) .nil))))))) pss_nil)
      (pss_mid (ps_set (i := 1) sc_spelled.nd rfl (Or.inl rfl) (pe_ifExp (pt_val (pe_callB (c_is "dict") (by rfl) T.b_isinstance bb_isinstance (pa_cons (pv 0) (pa_cons (pe_bltn (v := .ty "dict") rfl T.b_dict bb_dict rfl) pa_nil)))) pe_str (pe_ifExp (pt_val (pe_callB (c_is "list") (by rfl) T.b_isinstance bb_isinstance (pa_cons (pv 0) (pa_cons (pe_bltn (v := .ty "list") rfl T.b_list bb_list rfl) pa_nil)))) pe_str pe_str)))
      (pss_mid (ps_set (i := 2) sc_spelled.nd rfl (Or.inl rfl) (pe_joined (.cons (pe_fmt (pv 1)) (.cons (pe_fmt (pe_callB (c_len (K := g.K)) (by rfl) T.b_len bb_len (pa_cons (pv 0) pa_nil))) (.cons pe_str .nil)))))
      (pss_cons (ps_if (pt_cmpR (o_eq (K := g.K) hr) (pv 1) pe_str (nomark _)) (pss_one (ps_ret (pe_op (o_add (K := g.K)) (pv 2) (pe_join pe_str (pe_lock (pe_lc (own := [("key", 3)]) (tt := tYes) rfl sc_spelled.nd (pi_keys (pv 0)) (blkOk_by (own := [("key", 3)]) (N := ["value", "letter", "front", "key", "item"]) (sc := defScope s_spelled) (by decide +kernel)) (fun _ _ _ _ _ => (pg_name (i := 3) sc_spelled.nd rfl (.inl rfl))) (fun _ _ _ _ _ => pts_nil) (fun _ _ _ _ _ => (pe_op (o_add (K := g.K)) (pe_callG F_spelled (Rm.mono (Rm.mk hr.room hr.gd) (by first | decide | omega)) L2.takes0 (pa_cons (pv 3) pa_nil)) (pe_callG F_spelled (Rm.mono (Rm.mk hr.room hr.gd) (by first | decide | omega)) L2.takes0 (pa_cons (pe_dget (hu_of (Rm.mk hr.room hr.gd).room) (pv 0) (pv 3) (fun _ _ => rfl)) pa_nil)))))))))) pss_nil)
      (pss_one (ps_ret (pe_op (o_add (K := g.K)) (pv 2) (pe_join pe_str (pe_lc (own := [("item", 4)]) (tt := tYes) rfl sc_spelled.nd (pi_or (i_list (K := g.K) (pv 0)) (i_tup (K := g.K) (pv 0))) (blkOk_by (own := [("item", 4)]) (N := ["value", "letter", "front", "key", "item"]) (sc := defScope s_spelled) (by decide +kernel)) (fun _ _ _ _ _ => (pg_name (i := 4) sc_spelled.nd rfl (.inl rfl))) (fun _ _ _ _ _ => pts_nil) (fun _ _ _ _ _ => (pe_callG F_spelled (Rm.mono (Rm.mk hr.room hr.gd) (by first | decide | omega)) L2.takes0 (pa_cons (pv 4) pa_nil))))))))))))))), ?_⟩
  cases hv with
  | non =>
    walk_at "sx"
    exact q _ (Same.refl _)
  | bl b =>
    walk_at "sx"
    have := q H (Same.refl _)
    cases b <;> simpa [spell] using this
  | int i =>
    walk_at "sx"
    have hi : i.natAbs < 10 ^ 100 := by simpa [okB] using hok
    simp only [spell] at hz
    simp only [Str.empty_append]
    simp only [Str.length_append] at hz ⊢
    exact ⟨by omega, (len_100 hi).1, by omega, by omega, q _ (Same.refl _)⟩
  | str x =>
    walk_at "sx"
    have hx : x.length ≤ 10000 := by simpa [okB] using hok
    simp only [spell, num] at hz
    simp only [Str.empty_append]
    simp only [Str.length_append] at hz ⊢
    exact ⟨by omega, by omega, num_log hx, by omega, by omega, by omega, by omega, q _ (Same.refl _)⟩
  | @lst a xs ds fp h hs na =>
    simp only [okB, Bool.and_eq_true, decide_eq_true_eq] at hok
    have hl := hs.len
    simp only [spell] at hz
    have hz' := hz
    simp only [Str.length_append, num] at hz'
    simp only [tyN_l h, tRet, tRetN, tSeq, C8.tCut, tNext, tAsg, gName, gNil, gCons, gTup, gFld, tIfS, tIf, tAndV, tOrV, tNotV, tAnd, tOr, tNot, tB, tTest, tOp, tUn, tCB, tCons, tNil, tVar, tC, tChain, tDrop, RS.tCallG, RS.tMethG, tMakeG, RS.tCallK, RS.tMakeK, tEqOwn, rI, rI0, rU, add_ii, add_ss, add_rr, mul_ii, mul_si, mul_ri, RS.eq_ii, RS.eq_ss, eq_bb, eq_nn, eq_sn, eq_ns, eq_in, eq_ni, eq_bn, eq_nb, eq_is, eq_si, eq_rr, ne_ii, ne_ss, ne_bb, ne_nn, ne_sn, ne_ns, ne_in, ne_ni, ne_is, ne_si, ne_rr, in_ss, in_r, nin_ss, nin_r, len_s, len_r, RS.ix_s, RS.ix_r, sl_s, sl_r, is_eq, tyN_n, tyN_b, tyN_i, tyN_s, tru_b, tru_i, tru_n, tSl, tPart, tNoPart, tPar, tPar3, tFmtZ, tFmt, tJs, tDGet, sDPut, sFld, tFld, tTup, tLst, tNever, isB,
  L2.start, List.map_cons, List.map_nil, List.length_cons, List.length_nil, Nat.reduceAdd, Nat.reduceSub, Nat.sub_self, List.replicate_zero, List.replicate_succ, List.append_nil, List.cons_append, List.nil_append, List.getElem?_cons_zero, List.getElem?_cons_succ, List.set_cons_zero, List.set_cons_succ, Option.some.injEq, exists_eq_left, exists_eq_left', exists_and_left, V.bl.injEq, V.int.injEq, V.str.injEq, V.ref.injEq, beq_self_eq_true, Bool.true_or, Bool.or_true, Bool.false_or, Bool.or_false, Bool.and_false, Bool.false_and, Bool.true_and, Bool.and_true, Bool.not_true, Bool.not_false, Bool.false_eq_true, if_true, if_false, ite_true, ite_false, true_and, and_true, and_assoc, String.reduceBEq, String.reduceEq, reduceIte, Bool.and_self, reduceCtorEq, false_and, and_false, exists_false, or_false, false_or, exists_const, iEnumS, iStr, iList, iTup, iRng1, iEnum, tFor_eq, tLc_eq, List.cons.injEq, wipe, not_true_eq_false, not_false_eq_true, upd_same, HO.ins.injEq, HO.tup.injEq, HO.lst.injEq, ofS_eq, lk_nil, lk_cons, pu_nil, pu_cons, sizeLine_eq, Nat.reduceLT, Nat.reduceLeDiff, Nat.reduceEqDiff, Nat.le_refl, decide_true, decide_false, tPr, dget_us, dput_us, vv_nil, vv_cons, RS.pk_nil, pk_one, RS.pk_cons, inr_eq, tDisp, tPairs, tBoolOwn, rBoolOwn, tBM, rAppend, ty_list, ty_str, rEqOwn, iEnumT, RS.tCallS, tM1, tDc_eq, tLock, tLockE, iKeys, tListEnum, rUpdate, tMkX0, tMkX1, tXfv, gSub, rSetL, List.getD_cons_zero, List.getD_cons_succ, tBreak, tCMethS, ClX.tCVal, tXfa, tIxOwn, tInOwn, tPropG, tMethK, tMethP, tListGen, tDGet2, tDPop2, rNeD0, intA_i, intA_b, tRevL, sFldAug, tPm0, tPm1, tDIn, tDNotIn, tDNewK, RS.tMethS, tForK, tKM, tKC, tLcK, tKM2, tKC2, tMethStar, tKCK2, tLk, tAug, ipI, tDig, tLcX, tKMX, tKCX]
    refine mid_one [some (.ref a), some (.str "l"), none, none, none] (fun H1 => H1 = H) ?_ ?_
    · simp only [tyN_l h, tRet, tRetN, tSeq, C8.tCut, tNext, tAsg, gName, gNil, gCons, gTup, gFld, tIfS, tIf, tAndV, tOrV, tNotV, tAnd, tOr, tNot, tB, tTest, tOp, tUn, tCB, tCons, tNil, tVar, tC, tChain, tDrop, RS.tCallG, RS.tMethG, tMakeG, RS.tCallK, RS.tMakeK, tEqOwn, rI, rI0, rU, add_ii, add_ss, add_rr, mul_ii, mul_si, mul_ri, RS.eq_ii, RS.eq_ss, eq_bb, eq_nn, eq_sn, eq_ns, eq_in, eq_ni, eq_bn, eq_nb, eq_is, eq_si, eq_rr, ne_ii, ne_ss, ne_bb, ne_nn, ne_sn, ne_ns, ne_in, ne_ni, ne_is, ne_si, ne_rr, in_ss, in_r, nin_ss, nin_r, len_s, len_r, RS.ix_s, RS.ix_r, sl_s, sl_r, is_eq, tyN_n, tyN_b, tyN_i, tyN_s, tru_b, tru_i, tru_n, tSl, tPart, tNoPart, tPar, tPar3, tFmtZ, tFmt, tJs, tDGet, sDPut, sFld, tFld, tTup, tLst, tNever, isB,
  L2.start, List.map_cons, List.map_nil, List.length_cons, List.length_nil, Nat.reduceAdd, Nat.reduceSub, Nat.sub_self, List.replicate_zero, List.replicate_succ, List.append_nil, List.cons_append, List.nil_append, List.getElem?_cons_zero, List.getElem?_cons_succ, List.set_cons_zero, List.set_cons_succ, Option.some.injEq, exists_eq_left, exists_eq_left', exists_and_left, V.bl.injEq, V.int.injEq, V.str.injEq, V.ref.injEq, beq_self_eq_true, Bool.true_or, Bool.or_true, Bool.false_or, Bool.or_false, Bool.and_false, Bool.false_and, Bool.true_and, Bool.and_true, Bool.not_true, Bool.not_false, Bool.false_eq_true, if_true, if_false, ite_true, ite_false, true_and, and_true, and_assoc, String.reduceBEq, String.reduceEq, reduceIte, Bool.and_self, reduceCtorEq, false_and, and_false, exists_false, or_false, false_or, exists_const, iEnumS, iStr, iList, iTup, iRng1, iEnum, tFor_eq, tLc_eq, List.cons.injEq, wipe, not_true_eq_false, not_false_eq_true, upd_same, HO.ins.injEq, HO.tup.injEq, HO.lst.injEq, ofS_eq, lk_nil, lk_cons, pu_nil, pu_cons, sizeLine_eq, Nat.reduceLT, Nat.reduceLeDiff, Nat.reduceEqDiff, Nat.le_refl, decide_true, decide_false, tPr, dget_us, dput_us, vv_nil, vv_cons, RS.pk_nil, pk_one, RS.pk_cons, inr_eq, tDisp, tPairs, tBoolOwn, rBoolOwn, tBM, rAppend, ty_list, ty_str, rEqOwn, iEnumT, RS.tCallS, tM1, tDc_eq, tLock, tLockE, iKeys, tListEnum, rUpdate, tMkX0, tMkX1, tXfv, gSub, rSetL, List.getD_cons_zero, List.getD_cons_succ, tBreak, tCMethS, ClX.tCVal, tXfa, tIxOwn, tInOwn, tPropG, tMethK, tMethP, tListGen, tDGet2, tDPop2, rNeD0, intA_i, intA_b, tRevL, sFldAug, tPm0, tPm1, tDIn, tDNotIn, tDNewK, RS.tMethS, tForK, tKM, tKC, tLcK, tKM2, tKC2, tMethStar, tKCK2, tLk, tAug, ipI, tDig, tLcX, tKMX, tKCX]
    intro H1 e1
    rw [e1]; clear e1 H1
    refine mid_one [some (.ref a), some (.str "l"), some (.str (("l" : Str) ++ num ds.length ++ ":")), none, none] (fun H1 => H1 = H) ?_ ?_
    · walk_at "sx"
      simp only [Str.empty_append, Str.length_append]
      exact ⟨by omega, by omega, .inl ⟨xs, .inl (SqL.of h), num_log (by omega), by rw [hl]; omega, by rw [hl]; omega, by rw [hl]; rfl⟩⟩
    intro H1 e1
    rw [e1]; clear e1 H1
    walk_at "sx"
    refine ⟨⟨_, rfl⟩, .inl ⟨⟨xs, SqL.of h⟩, ?_⟩⟩
    have e2 : (("l" : Str) ++ num ds.length ++ ":" ++ spells ds).length ≤ 1000000 := hz
    refine spell_items 4 (fun _ => rfl) (fun _ => rfl) (Same.refl _) hs hok.2 hok.1 (by simp only [PyData.depth] at hn; omega) (by omega) (fun i G lt sm => ⟨_, xs[i], SqL.of (sm _ _ h), List.getElem?_eq_getElem lt⟩) (fun G sm => ⟨_, SqL.of (sm _ _ h), Nat.le_refl _⟩) (fun i G x G' lt sm y => ⟨y.1, y.2 _ (SqL.of (sm _ _ h))⟩) (fun L ys G sm eL ec hs2 => ?_)
    refine ⟨L, rfl, ys, .inl (SqL.of eL), by rw [show (Str.ofString "").length = 0 from by decide +kernel]; omega, ?_⟩
    rw [join0, ec]
    exact ⟨by simp only [Str.length_append, num]; omega, q _ sm⟩
  | @tup a xs ds fp h hs =>
    simp only [okB, Bool.and_eq_true, decide_eq_true_eq] at hok
    have hl := hs.len
    simp only [spell] at hz
    have hz' := hz
    simp only [Str.length_append, num] at hz'
    simp only [tyN_t h, tRet, tRetN, tSeq, C8.tCut, tNext, tAsg, gName, gNil, gCons, gTup, gFld, tIfS, tIf, tAndV, tOrV, tNotV, tAnd, tOr, tNot, tB, tTest, tOp, tUn, tCB, tCons, tNil, tVar, tC, tChain, tDrop, RS.tCallG, RS.tMethG, tMakeG, RS.tCallK, RS.tMakeK, tEqOwn, rI, rI0, rU, add_ii, add_ss, add_rr, mul_ii, mul_si, mul_ri, RS.eq_ii, RS.eq_ss, eq_bb, eq_nn, eq_sn, eq_ns, eq_in, eq_ni, eq_bn, eq_nb, eq_is, eq_si, eq_rr, ne_ii, ne_ss, ne_bb, ne_nn, ne_sn, ne_ns, ne_in, ne_ni, ne_is, ne_si, ne_rr, in_ss, in_r, nin_ss, nin_r, len_s, len_r, RS.ix_s, RS.ix_r, sl_s, sl_r, is_eq, tyN_n, tyN_b, tyN_i, tyN_s, tru_b, tru_i, tru_n, tSl, tPart, tNoPart, tPar, tPar3, tFmtZ, tFmt, tJs, tDGet, sDPut, sFld, tFld, tTup, tLst, tNever, isB,
  L2.start, List.map_cons, List.map_nil, List.length_cons, List.length_nil, Nat.reduceAdd, Nat.reduceSub, Nat.sub_self, List.replicate_zero, List.replicate_succ, List.append_nil, List.cons_append, List.nil_append, List.getElem?_cons_zero, List.getElem?_cons_succ, List.set_cons_zero, List.set_cons_succ, Option.some.injEq, exists_eq_left, exists_eq_left', exists_and_left, V.bl.injEq, V.int.injEq, V.str.injEq, V.ref.injEq, beq_self_eq_true, Bool.true_or, Bool.or_true, Bool.false_or, Bool.or_false, Bool.and_false, Bool.false_and, Bool.true_and, Bool.and_true, Bool.not_true, Bool.not_false, Bool.false_eq_true, if_true, if_false, ite_true, ite_false, true_and, and_true, and_assoc, String.reduceBEq, String.reduceEq, reduceIte, Bool.and_self, reduceCtorEq, false_and, and_false, exists_false, or_false, false_or, exists_const, iEnumS, iStr, iList, iTup, iRng1, iEnum, tFor_eq, tLc_eq, List.cons.injEq, wipe, not_true_eq_false, not_false_eq_true, upd_same, HO.ins.injEq, HO.tup.injEq, HO.lst.injEq, ofS_eq, lk_nil, lk_cons, pu_nil, pu_cons, sizeLine_eq, Nat.reduceLT, Nat.reduceLeDiff, Nat.reduceEqDiff, Nat.le_refl, decide_true, decide_false, tPr, dget_us, dput_us, vv_nil, vv_cons, RS.pk_nil, pk_one, RS.pk_cons, inr_eq, tDisp, tPairs, tBoolOwn, rBoolOwn, tBM, rAppend, ty_list, ty_str, rEqOwn, iEnumT, RS.tCallS, tM1, tDc_eq, tLock, tLockE, iKeys, tListEnum, rUpdate, tMkX0, tMkX1, tXfv, gSub, rSetL, List.getD_cons_zero, List.getD_cons_succ, tBreak, tCMethS, ClX.tCVal, tXfa, tIxOwn, tInOwn, tPropG, tMethK, tMethP, tListGen, tDGet2, tDPop2, rNeD0, intA_i, intA_b, tRevL, sFldAug, tPm0, tPm1, tDIn, tDNotIn, tDNewK, RS.tMethS, tForK, tKM, tKC, tLcK, tKM2, tKC2, tMethStar, tKCK2, tLk, tAug, ipI, tDig, tLcX, tKMX, tKCX]
    refine mid_one [some (.ref a), some (.str "u"), none, none, none] (fun H1 => H1 = H) ?_ ?_
    · simp only [tyN_t h, tRet, tRetN, tSeq, C8.tCut, tNext, tAsg, gName, gNil, gCons, gTup, gFld, tIfS, tIf, tAndV, tOrV, tNotV, tAnd, tOr, tNot, tB, tTest, tOp, tUn, tCB, tCons, tNil, tVar, tC, tChain, tDrop, RS.tCallG, RS.tMethG, tMakeG, RS.tCallK, RS.tMakeK, tEqOwn, rI, rI0, rU, add_ii, add_ss, add_rr, mul_ii, mul_si, mul_ri, RS.eq_ii, RS.eq_ss, eq_bb, eq_nn, eq_sn, eq_ns, eq_in, eq_ni, eq_bn, eq_nb, eq_is, eq_si, eq_rr, ne_ii, ne_ss, ne_bb, ne_nn, ne_sn, ne_ns, ne_in, ne_ni, ne_is, ne_si, ne_rr, in_ss, in_r, nin_ss, nin_r, len_s, len_r, RS.ix_s, RS.ix_r, sl_s, sl_r, is_eq, tyN_n, tyN_b, tyN_i, tyN_s, tru_b, tru_i, tru_n, tSl, tPart, tNoPart, tPar, tPar3, tFmtZ, tFmt, tJs, tDGet, sDPut, sFld, tFld, tTup, tLst, tNever, isB,
  L2.start, List.map_cons, List.map_nil, List.length_cons, List.length_nil, Nat.reduceAdd, Nat.reduceSub, Nat.sub_self, List.replicate_zero, List.replicate_succ, List.append_nil, List.cons_append, List.nil_append, List.getElem?_cons_zero, List.getElem?_cons_succ, List.set_cons_zero, List.set_cons_succ, Option.some.injEq, exists_eq_left, exists_eq_left', exists_and_left, V.bl.injEq, V.int.injEq, V.str.injEq, V.ref.injEq, beq_self_eq_true, Bool.true_or, Bool.or_true, Bool.false_or, Bool.or_false, Bool.and_false, Bool.false_and, Bool.true_and, Bool.and_true, Bool.not_true, Bool.not_false, Bool.false_eq_true, if_true, if_false, ite_true, ite_false, true_and, and_true, and_assoc, String.reduceBEq, String.reduceEq, reduceIte, Bool.and_self, reduceCtorEq, false_and, and_false, exists_false, or_false, false_or, exists_const, iEnumS, iStr, iList, iTup, iRng1, iEnum, tFor_eq, tLc_eq, List.cons.injEq, wipe, not_true_eq_false, not_false_eq_true, upd_same, HO.ins.injEq, HO.tup.injEq, HO.lst.injEq, ofS_eq, lk_nil, lk_cons, pu_nil, pu_cons, sizeLine_eq, Nat.reduceLT, Nat.reduceLeDiff, Nat.reduceEqDiff, Nat.le_refl, decide_true, decide_false, tPr, dget_us, dput_us, vv_nil, vv_cons, RS.pk_nil, pk_one, RS.pk_cons, inr_eq, tDisp, tPairs, tBoolOwn, rBoolOwn, tBM, rAppend, ty_list, ty_str, rEqOwn, iEnumT, RS.tCallS, tM1, tDc_eq, tLock, tLockE, iKeys, tListEnum, rUpdate, tMkX0, tMkX1, tXfv, gSub, rSetL, List.getD_cons_zero, List.getD_cons_succ, tBreak, tCMethS, ClX.tCVal, tXfa, tIxOwn, tInOwn, tPropG, tMethK, tMethP, tListGen, tDGet2, tDPop2, rNeD0, intA_i, intA_b, tRevL, sFldAug, tPm0, tPm1, tDIn, tDNotIn, tDNewK, RS.tMethS, tForK, tKM, tKC, tLcK, tKM2, tKC2, tMethStar, tKCK2, tLk, tAug, ipI, tDig, tLcX, tKMX, tKCX]
    intro H1 e1
    rw [e1]; clear e1 H1
    refine mid_one [some (.ref a), some (.str "u"), some (.str (("u" : Str) ++ num ds.length ++ ":")), none, none] (fun H1 => H1 = H) ?_ ?_
    · walk_at "sx"
      simp only [Str.empty_append, Str.length_append]
      exact ⟨by omega, by omega, .inl ⟨xs, .inr (SqT.of h), num_log (by omega), by rw [hl]; omega, by rw [hl]; omega, by rw [hl]; rfl⟩⟩
    intro H1 e1
    rw [e1]; clear e1 H1
    walk_at "sx"
    refine ⟨⟨_, rfl⟩, .inr ⟨⟨xs, SqT.of h⟩, ?_⟩⟩
    have e2 : (("u" : Str) ++ num ds.length ++ ":" ++ spells ds).length ≤ 1000000 := hz
    refine spell_items 4 (fun _ => rfl) (fun _ => rfl) (Same.refl _) hs hok.2 hok.1 (by simp only [PyData.depth] at hn; omega) (by omega) (fun i G lt sm => ⟨_, xs[i], SqT.of (sm _ _ h), List.getElem?_eq_getElem lt⟩) (fun G sm => ⟨_, SqT.of (sm _ _ h), Nat.le_refl _⟩) (fun i G x G' lt sm y => ⟨y.1, y.2 _ (SqT.of (sm _ _ h))⟩) (fun L ys G sm eL ec hs2 => ?_)
    refine ⟨L, rfl, ys, .inl (SqL.of eL), by rw [show (Str.ofString "").length = 0 from by decide +kernel]; omega, ?_⟩
    rw [join0, ec]
    exact ⟨by simp only [Str.length_append, num]; omega, q _ sm⟩
  | @dct a kvs D fp h hs na nd =>
    simp only [okB, Bool.and_eq_true, decide_eq_true_eq] at hok
    have hl := hs.len
    simp only [spell] at hz
    have hz' := hz
    simp only [Str.length_append, num] at hz'
    simp only [tyN_d h, tRet, tRetN, tSeq, C8.tCut, tNext, tAsg, gName, gNil, gCons, gTup, gFld, tIfS, tIf, tAndV, tOrV, tNotV, tAnd, tOr, tNot, tB, tTest, tOp, tUn, tCB, tCons, tNil, tVar, tC, tChain, tDrop, RS.tCallG, RS.tMethG, tMakeG, RS.tCallK, RS.tMakeK, tEqOwn, rI, rI0, rU, add_ii, add_ss, add_rr, mul_ii, mul_si, mul_ri, RS.eq_ii, RS.eq_ss, eq_bb, eq_nn, eq_sn, eq_ns, eq_in, eq_ni, eq_bn, eq_nb, eq_is, eq_si, eq_rr, ne_ii, ne_ss, ne_bb, ne_nn, ne_sn, ne_ns, ne_in, ne_ni, ne_is, ne_si, ne_rr, in_ss, in_r, nin_ss, nin_r, len_s, len_r, RS.ix_s, RS.ix_r, sl_s, sl_r, is_eq, tyN_n, tyN_b, tyN_i, tyN_s, tru_b, tru_i, tru_n, tSl, tPart, tNoPart, tPar, tPar3, tFmtZ, tFmt, tJs, tDGet, sDPut, sFld, tFld, tTup, tLst, tNever, isB,
  L2.start, List.map_cons, List.map_nil, List.length_cons, List.length_nil, Nat.reduceAdd, Nat.reduceSub, Nat.sub_self, List.replicate_zero, List.replicate_succ, List.append_nil, List.cons_append, List.nil_append, List.getElem?_cons_zero, List.getElem?_cons_succ, List.set_cons_zero, List.set_cons_succ, Option.some.injEq, exists_eq_left, exists_eq_left', exists_and_left, V.bl.injEq, V.int.injEq, V.str.injEq, V.ref.injEq, beq_self_eq_true, Bool.true_or, Bool.or_true, Bool.false_or, Bool.or_false, Bool.and_false, Bool.false_and, Bool.true_and, Bool.and_true, Bool.not_true, Bool.not_false, Bool.false_eq_true, if_true, if_false, ite_true, ite_false, true_and, and_true, and_assoc, String.reduceBEq, String.reduceEq, reduceIte, Bool.and_self, reduceCtorEq, false_and, and_false, exists_false, or_false, false_or, exists_const, iEnumS, iStr, iList, iTup, iRng1, iEnum, tFor_eq, tLc_eq, List.cons.injEq, wipe, not_true_eq_false, not_false_eq_true, upd_same, HO.ins.injEq, HO.tup.injEq, HO.lst.injEq, ofS_eq, lk_nil, lk_cons, pu_nil, pu_cons, sizeLine_eq, Nat.reduceLT, Nat.reduceLeDiff, Nat.reduceEqDiff, Nat.le_refl, decide_true, decide_false, tPr, dget_us, dput_us, vv_nil, vv_cons, RS.pk_nil, pk_one, RS.pk_cons, inr_eq, tDisp, tPairs, tBoolOwn, rBoolOwn, tBM, rAppend, ty_list, ty_str, rEqOwn, iEnumT, RS.tCallS, tM1, tDc_eq, tLock, tLockE, iKeys, tListEnum, rUpdate, tMkX0, tMkX1, tXfv, gSub, rSetL, List.getD_cons_zero, List.getD_cons_succ, tBreak, tCMethS, ClX.tCVal, tXfa, tIxOwn, tInOwn, tPropG, tMethK, tMethP, tListGen, tDGet2, tDPop2, rNeD0, intA_i, intA_b, tRevL, sFldAug, tPm0, tPm1, tDIn, tDNotIn, tDNewK, RS.tMethS, tForK, tKM, tKC, tLcK, tKM2, tKC2, tMethStar, tKCK2, tLk, tAug, ipI, tDig, tLcX, tKMX, tKCX]
    refine mid_one [some (.ref a), some (.str "d"), none, none, none] (fun H1 => H1 = H) ?_ ?_
    · simp only [tyN_d h, tRet, tRetN, tSeq, C8.tCut, tNext, tAsg, gName, gNil, gCons, gTup, gFld, tIfS, tIf, tAndV, tOrV, tNotV, tAnd, tOr, tNot, tB, tTest, tOp, tUn, tCB, tCons, tNil, tVar, tC, tChain, tDrop, RS.tCallG, RS.tMethG, tMakeG, RS.tCallK, RS.tMakeK, tEqOwn, rI, rI0, rU, add_ii, add_ss, add_rr, mul_ii, mul_si, mul_ri, RS.eq_ii, RS.eq_ss, eq_bb, eq_nn, eq_sn, eq_ns, eq_in, eq_ni, eq_bn, eq_nb, eq_is, eq_si, eq_rr, ne_ii, ne_ss, ne_bb, ne_nn, ne_sn, ne_ns, ne_in, ne_ni, ne_is, ne_si, ne_rr, in_ss, in_r, nin_ss, nin_r, len_s, len_r, RS.ix_s, RS.ix_r, sl_s, sl_r, is_eq, tyN_n, tyN_b, tyN_i, tyN_s, tru_b, tru_i, tru_n, tSl, tPart, tNoPart, tPar, tPar3, tFmtZ, tFmt, tJs, tDGet, sDPut, sFld, tFld, tTup, tLst, tNever, isB,
  L2.start, List.map_cons, List.map_nil, List.length_cons, List.length_nil, Nat.reduceAdd, Nat.reduceSub, Nat.sub_self, List.replicate_zero, List.replicate_succ, List.append_nil, List.cons_append, List.nil_append, List.getElem?_cons_zero, List.getElem?_cons_succ, List.set_cons_zero, List.set_cons_succ, Option.some.injEq, exists_eq_left, exists_eq_left', exists_and_left, V.bl.injEq, V.int.injEq, V.str.injEq, V.ref.injEq, beq_self_eq_true, Bool.true_or, Bool.or_true, Bool.false_or, Bool.or_false, Bool.and_false, Bool.false_and, Bool.true_and, Bool.and_true, Bool.not_true, Bool.not_false, Bool.false_eq_true, if_true, if_false, ite_true, ite_false, true_and, and_true, and_assoc, String.reduceBEq, String.reduceEq, reduceIte, Bool.and_self, reduceCtorEq, false_and, and_false, exists_false, or_false, false_or, exists_const, iEnumS, iStr, iList, iTup, iRng1, iEnum, tFor_eq, tLc_eq, List.cons.injEq, wipe, not_true_eq_false, not_false_eq_true, upd_same, HO.ins.injEq, HO.tup.injEq, HO.lst.injEq, ofS_eq, lk_nil, lk_cons, pu_nil, pu_cons, sizeLine_eq, Nat.reduceLT, Nat.reduceLeDiff, Nat.reduceEqDiff, Nat.le_refl, decide_true, decide_false, tPr, dget_us, dput_us, vv_nil, vv_cons, RS.pk_nil, pk_one, RS.pk_cons, inr_eq, tDisp, tPairs, tBoolOwn, rBoolOwn, tBM, rAppend, ty_list, ty_str, rEqOwn, iEnumT, RS.tCallS, tM1, tDc_eq, tLock, tLockE, iKeys, tListEnum, rUpdate, tMkX0, tMkX1, tXfv, gSub, rSetL, List.getD_cons_zero, List.getD_cons_succ, tBreak, tCMethS, ClX.tCVal, tXfa, tIxOwn, tInOwn, tPropG, tMethK, tMethP, tListGen, tDGet2, tDPop2, rNeD0, intA_i, intA_b, tRevL, sFldAug, tPm0, tPm1, tDIn, tDNotIn, tDNewK, RS.tMethS, tForK, tKM, tKC, tLcK, tKM2, tKC2, tMethStar, tKCK2, tLk, tAug, ipI, tDig, tLcX, tKMX, tKCX]
    intro H1 e1
    rw [e1]; clear e1 H1
    refine mid_one [some (.ref a), some (.str "d"), some (.str (("d" : Str) ++ num D.length ++ ":")), none, none] (fun H1 => H1 = H) ?_ ?_
    · walk_at "sx"
      simp only [Str.empty_append, Str.length_append]
      exact ⟨by omega, by omega, .inr ⟨kvs, h, num_log (by omega), by rw [hl]; omega, by rw [hl]; omega, by rw [hl]; rfl⟩⟩
    intro H1 e1
    rw [e1]; clear e1 H1
    walk_at "sx"
    refine ⟨⟨_, rfl⟩, a, _, h, True.intro, fun od => ⟨od, .inl ⟨kvs, upd_same, ?_⟩⟩⟩
    have hlk : ∀ c o, c ≠ a → H c = some o → upd H a (.frz od (.dK kvs)) c = some o := fun c o n z => by rw [upd_ne n]; exact z
    have hs1 : TrD (upd H a (.frz od (.dK kvs))) kvs D fp := hs.but (p := a) (fun xs z => by rw [h] at z; cases z) hlk na
    refine lc_all kvs.length (fun i => .str (spell ((D[i]?.getD (.none, .none)).1) ++ spell ((D[i]?.getD (.none, .none)).2))) (by rw [sizeLine_eq]; omega) (fun i G lt sm => ⟨sm _ _ upd_same, lt⟩) (fun G sm => ⟨sm _ _ upd_same, Nat.le_refl _⟩) (fun i G x G' K lt sm y k => ?_) (fun L G hL sm eL => ?_)
    · obtain ⟨rfl, k0, v0, hk, rfl⟩ := y
      obtain ⟨x, v, d, f', e1, e2, t, _⟩ := hs1.get lt
      rw [hk] at e1
      cases e1
      refine ⟨rfl, ?_⟩
      simp only [kV, tRet, tRetN, tSeq, C8.tCut, tNext, tAsg, gName, gNil, gCons, gTup, gFld, tIfS, tIf, tAndV, tOrV, tNotV, tAnd, tOr, tNot, tB, tTest, tOp, tUn, tCB, tCons, tNil, tVar, tC, tChain, tDrop, RS.tCallG, RS.tMethG, tMakeG, RS.tCallK, RS.tMakeK, tEqOwn, rI, rI0, rU, add_ii, add_ss, add_rr, mul_ii, mul_si, mul_ri, RS.eq_ii, RS.eq_ss, eq_bb, eq_nn, eq_sn, eq_ns, eq_in, eq_ni, eq_bn, eq_nb, eq_is, eq_si, eq_rr, ne_ii, ne_ss, ne_bb, ne_nn, ne_sn, ne_ns, ne_in, ne_ni, ne_is, ne_si, ne_rr, in_ss, in_r, nin_ss, nin_r, len_s, len_r, RS.ix_s, RS.ix_r, sl_s, sl_r, is_eq, tyN_n, tyN_b, tyN_i, tyN_s, tru_b, tru_i, tru_n, tSl, tPart, tNoPart, tPar, tPar3, tFmtZ, tFmt, tJs, tDGet, sDPut, sFld, tFld, tTup, tLst, tNever, isB,
  L2.start, List.map_cons, List.map_nil, List.length_cons, List.length_nil, Nat.reduceAdd, Nat.reduceSub, Nat.sub_self, List.replicate_zero, List.replicate_succ, List.append_nil, List.cons_append, List.nil_append, List.getElem?_cons_zero, List.getElem?_cons_succ, List.set_cons_zero, List.set_cons_succ, Option.some.injEq, exists_eq_left, exists_eq_left', exists_and_left, V.bl.injEq, V.int.injEq, V.str.injEq, V.ref.injEq, beq_self_eq_true, Bool.true_or, Bool.or_true, Bool.false_or, Bool.or_false, Bool.and_false, Bool.false_and, Bool.true_and, Bool.and_true, Bool.not_true, Bool.not_false, Bool.false_eq_true, if_true, if_false, ite_true, ite_false, true_and, and_true, and_assoc, String.reduceBEq, String.reduceEq, reduceIte, Bool.and_self, reduceCtorEq, false_and, and_false, exists_false, or_false, false_or, exists_const, iEnumS, iStr, iList, iTup, iRng1, iEnum, tFor_eq, tLc_eq, List.cons.injEq, wipe, not_true_eq_false, not_false_eq_true, upd_same, HO.ins.injEq, HO.tup.injEq, HO.lst.injEq, ofS_eq, lk_nil, lk_cons, pu_nil, pu_cons, sizeLine_eq, Nat.reduceLT, Nat.reduceLeDiff, Nat.reduceEqDiff, Nat.le_refl, decide_true, decide_false, tPr, dget_us, dput_us, vv_nil, vv_cons, RS.pk_nil, pk_one, RS.pk_cons, inr_eq, tDisp, tPairs, tBoolOwn, rBoolOwn, tBM, rAppend, ty_list, ty_str, rEqOwn, iEnumT, RS.tCallS, tM1, tDc_eq, tLock, tLockE, iKeys, tListEnum, rUpdate, tMkX0, tMkX1, tXfv, gSub, rSetL, List.getD_cons_zero, List.getD_cons_succ, tBreak, tCMethS, ClX.tCVal, tXfa, tIxOwn, tInOwn, tPropG, tMethK, tMethP, tListGen, tDGet2, tDPop2, rNeD0, intA_i, intA_b, tRevL, sFldAug, tPm0, tPm1, tDIn, tDNotIn, tDNewK, RS.tMethS, tForK, tKM, tKC, tLcK, tKM2, tKC2, tMethStar, tKCK2, tLk, tAug, ipI, tDig, tLcX, tKMX, tKCX]
      have b1 := depth_kv e2
      have b2 := spellKv_get e2
      have b3 : PyData.depthKv D < n := by simp only [PyData.depth] at hn; omega
      refine ⟨_, rfl, .str x, [], .str x, (okKv_get hok.2 e2).1, by simp only [PyData.depth]; omega, by omega, fun H' s' => ⟨v0, .inl ⟨kvs, .inr x, .inr ⟨od, s' _ _ (sm _ _ upd_same)⟩, rfl, (valV_at nd hk).symm⟩, _, rfl, d, f', t.same (sm.trans s'), (okKv_get hok.2 e2).2, by omega, by omega, fun H'' s'' => ?_⟩⟩
      walk_at "sx"
      have := k H'' (s'.trans s'')
      rw [e2] at this
      exact ⟨by omega, this⟩
    · have e : (List.range kvs.length).map (fun i => V.str (spell ((D[i]?.getD (.none, .none)).1) ++ spell ((D[i]?.getD (.none, .none)).2))) = (D.map fun p => spell p.1 ++ spell p.2).map V.str := by
        rw [hl]
        refine List.ext_getElem (by simp) fun i h1 h2 => ?_
        simp at h1 h2
        simp [h1]
      have La := fresh_lock hL
      refine ⟨sm _ _ upd_same, L, rfl, D.map fun p => spell p.1 ++ spell p.2, .inl (SqL.of (by rw [upd_ne La.1, eL, e])), ?_, ?_⟩
      · have := cat_len (D.map fun p => spell p.1 ++ spell p.2)
        rw [cat_map_kv] at this
        have e0 : (Str.ofString "").length = 0 := by decide +kernel
        rw [e0, ← this]; omega
      · rw [join0, cat_map_kv]
        exact ⟨by simp only [Str.length_append, num]; omega, q _ (unlock h sm)⟩
def sp_chk : Sp := S1 fun v H Q _ => ∃ d fp, Tr H v d fp ∧ okB d = true ∧ d.depth ≤ 20 ∧ ∀ H', Same H H' → Q .non H'
theorem ok_chk (F : Df g.K "check_value" "check_value" s_check_value f fd .none) (T : Txt g) (F_wrong_path : Kn g "wrong_path" 22 ["value", "path"] [] (sp_path 21)) : FnG g 23 f fd ["value"] sp_chk := by
  refine F.ok sc_check_value (fun vs H Q E h => S1.len h) (fun cdv A outer s H vs Q E hr h => ?_)
  obtain ⟨v, rfl, d, fp, hv, hok, hn, q⟩ := h
  refine ⟨_, (pss_cons (ps_set (i := 1) sc_check_value.nd rfl (Or.inl rfl) (pe_callG F_wrong_path (hr.mono (by first | decide | omega)) tkD (pa_cons (pv 0) (pa_cons (pe_tup pa_nil) pa_nil))))
      (pss_one (ps_if (pt_cmpR op_notN (pv 1) pe_non (nomark _)) (pss_one ps_never) pss_nil))), ?_⟩
  walk_at "sx"
  intro p hp
  have sp := same_upd (o := HO.tup []) hp
  refine ⟨_, _, rfl, d, fp, p, [], hv.same sp, hok, rfl, upd_same, by simp; omega, by omega, fun H' s' => ?_⟩
  walk_at "sx"
  exact q _ (sp.trans s')
def sp_isv20 : Sp := S1 fun v H Q _ => ∃ d fp, Tr H v d fp ∧ okB d = true ∧ d.depth ≤ 20 ∧ ∀ H', Same H H' → Q (.bl true) H'
theorem ok_isv20 (F : Df g.K "is_value" "is_value" s_is_value f fd .none) (T : Txt g) (F_wrong_path : Kn g "wrong_path" 22 ["value", "path"] [] (sp_path 21)) : FnG g 23 f fd ["value"] sp_isv20 := by
  refine F.ok sc_is_value (fun vs H Q E h => S1.len h) (fun cdv A outer s H vs Q E hr h => ?_)
  obtain ⟨v, rfl, d, fp, hv, hok, hn, q⟩ := h
  refine ⟨_, (pss_one (ps_ret (pe_cmpR op_isN (pe_callG F_wrong_path (hr.mono (by first | decide | omega)) tkD (pa_cons (pv 0) (pa_cons (pe_tup pa_nil) pa_nil))) pe_non (nomark _)))), ?_⟩
  walk_at "sx"
  intro p hp
  have sp := same_upd (o := HO.tup []) hp
  refine ⟨_, _, rfl, d, fp, p, [], hv.same sp, hok, rfl, upd_same, by simp; omega, by omega, fun H' s' => ?_⟩
  walk_at "sx"
  exact q _ (sp.trans s')
theorem sc_text_of : FnScope ["value"] ["value"] (defScope s_text_of) := ⟨rfl, rfl, rfl, by decide +kernel, rfl, by decide +kernel, by decide +kernel⟩
def sp_text : Sp := S1 fun v H Q _ => ∃ d fp, Tr H v d fp ∧ okB d = true ∧ d.depth ≤ 20 ∧ (spell d).length ≤ 1000000 ∧ ∀ H', Same H H' → Q (.str (spell d)) H'
theorem ok_text (F : Df g.K "text_of" "text_of" s_text_of f fd .none) (T : Txt g) (F_check_value : Kn g "check_value" 23 ["value"] [] sp_chk) (F_spelled : Kn g "spelled" 22 ["value"] [] (sp_spell 21)) : FnG g 24 f fd ["value"] sp_text := by
  refine F.ok sc_text_of (fun vs H Q E h => S1.len h) (fun cdv A outer s H vs Q E hr h => ?_)
  obtain ⟨v, rfl, d, fp, hv, hok, hn, hz, q⟩ := h
  refine ⟨_, (pss_cons (ps_expr (pe_callG F_check_value (hr.mono (by first | decide | omega)) tkD (pa_cons (pv 0) pa_nil)))
      (pss_one (ps_ret (pe_callG F_spelled (hr.mono (by first | decide | omega)) tkD (pa_cons (pv 0) pa_nil))))), ?_⟩
  walk_at "sx"
  refine ⟨_, rfl, d, fp, hv, hok, hn, fun H1 s1 => ?_⟩
  walk_at "sx"
  exact ⟨_, rfl, d, fp, hv.same s1, hok, by omega, hz, fun H2 s2 => q _ (s1.trans s2)⟩
theorem sc_notation : FnScope ["value"] ["value"] (defScope s_notation) := ⟨rfl, rfl, rfl, by decide +kernel, rfl, by decide +kernel, by decide +kernel⟩
def sp_notn : Sp := S1 fun v H Q _ => ∃ d fp, Tr H v d fp ∧ okB d = true ∧ d.depth ≤ 20 ∧ (shL note d).length ≤ 10000 ∧ ∀ H', Same H H' → Q (.str (note d)) H'
theorem ok_notn (F : Df g.K "notation" "notation" s_notation f fd .none) (T : Txt g) (F_text_of : Kn g "text_of" 24 ["value"] [] sp_text) (F_value_notation : Kn g "value_notation" 22 ["value"] [] (sp_vnote 21)) : FnG g 25 f fd ["value"] sp_notn := by
  refine F.ok sc_notation (fun vs H Q E h => S1.len h) (fun cdv A outer s H vs Q E hr h => ?_)
  obtain ⟨v, rfl, d, fp, hv, hok, hn, hz, q⟩ := h
  refine ⟨_, (pss_cons (ps_expr (pe_callG F_text_of (hr.mono (by first | decide | omega)) tkD (pa_cons (pv 0) pa_nil)))
      (pss_one (ps_ret (pe_callG F_value_notation (hr.mono (by first | decide | omega)) tkD (pa_cons (pv 0) pa_nil))))), ?_⟩
  have l1 := spell_le d hok
  have l2 : (shL note d).length = (note d).length := by simp [shL, Str.length]
  walk_at "sx"
  refine ⟨_, rfl, d, fp, hv, hok, hn, by omega, fun H1 s1 => ?_⟩
  walk_at "sx"
  exact ⟨_, rfl, d, fp, hv.same s1, hok, by omega, by omega, fun H2 s2 => q _ (s1.trans s2)⟩
end
/-- a deed that was read: its key, its value -/
def DP (p : Rdd) : Prop := 1 ≤ p.1.length ∧ p.1.length ≤ 200 ∧ ∀ d, p.2 = some d → okB d = true ∧ d.depth ≤ 20 ∧ (shL note d).length ≤ 10000
/-- its notation -/
def rdN : Rdd → Str
  | (x, some d) => "put" ++ " " ++ sno (S x) ++ " " ++ note d
  | (x, none) => "drop" ++ " " ++ sno (S x)
theorem sno_le (x : Str) : (sno x).length ≤ 2 * x.length + 2 := by
  unfold sno
  rw [S_len]
  have := esc_len x.cps.toList
  have e : x.cps.toList.length = x.length := by simp [Str.length]
  simp only [List.length_cons, List.length_append, List.length_nil]; omega
theorem emp_app (x : Str) : Str.empty ++ x = x := str_cps (by rw [tl_app]; rfl)
section
variable {g : Wd} {f : Addr} {fd : FuncData} {AE CD : Addr}
theorem sc_is_deed : FnScope ["deed"] ["deed"] (defScope s_is_deed) := ⟨rfl, rfl, rfl, by decide +kernel, rfl, by decide +kernel, by decide +kernel⟩
def sp_isd : Sp := S1 fun v H Q _ => ∃ p fp, RdAt H v p fp ∧ DP p ∧ ∀ H', Same H H' → Q (.bl true) H'
theorem ok_isd (F : Df g.K "is_deed" "is_deed" s_is_deed f fd .none) (T : Txt g) (F_is_key : Kn g "is_key" 1 ["value"] [] sp_iskey) (F_is_value : Kn g "is_value" 23 ["value"] [] sp_isv20) : FnG g 24 f fd ["deed"] sp_isd := by
  refine F.ok sc_is_deed (fun vs H Q E h => S1.len h) (fun cdv A outer s H vs Q E hr h => ?_)
  obtain ⟨v, rfl, ⟨x, o⟩, fp, ⟨t, rfl, hd⟩, hv, q⟩ := h
  refine ⟨_, (pss_cons (ps_if (PW.pt (pw_or (pt_not (pt_val (pe_callB (c_is "tuple") (by rfl) T.b_isinstance bb_isinstance (pa_cons (pv 0) (pa_cons (pe_bltn (v := .ty "tuple") rfl T.b_tuple bb_tuple rfl) pa_nil))))) (pw_or (pt_cmpR (op_eqT0 (K := g.K) hr) (pv 0) (pe_tup pa_nil) (nomark _)) (pw_or1 (pt_not (pt_val (pe_callB (c_is "str") (by rfl) T.b_isinstance bb_isinstance (pa_cons (pe_ix (o_ix (K := g.K)) (pv 0) pe_int (fun _ _ => rfl)) (pa_cons (pe_bltn (v := .ty "str") rfl T.b_str bb_str rfl) pa_nil))))))))) (pss_one (ps_ret pe_bl)) pss_nil)
      (pss_cons (ps_if (pt_cmpR (o_eq (K := g.K) hr) (pe_ix (o_ix (K := g.K)) (pv 0) pe_int (fun _ _ => rfl)) pe_str (nomark _)) (pss_one (ps_ret (pe_and (pe_cmpR (o_eq (K := g.K) hr) (pe_callB (c_len (K := g.K)) (by rfl) T.b_len bb_len (pa_cons (pv 0) pa_nil)) pe_int (nomark _)) (pe_and (pe_callG F_is_key (hr.mono (by first | decide | omega)) tkD (pa_cons (pe_ix (o_ix (K := g.K)) (pv 0) pe_int (fun _ _ => rfl)) pa_nil)) (pe_one (pe_callG F_is_value (hr.mono (by first | decide | omega)) tkD (pa_cons (pe_ix (o_ix (K := g.K)) (pv 0) pe_int (fun _ _ => rfl)) pa_nil))))))) pss_nil)
      (pss_one (ps_ret (pe_and (pe_cmpR (o_eq (K := g.K) hr) (pe_ix (o_ix (K := g.K)) (pv 0) pe_int (fun _ _ => rfl)) pe_str (nomark _)) (pe_and (pe_cmpR (o_eq (K := g.K) hr) (pe_callB (c_len (K := g.K)) (by rfl) T.b_len bb_len (pa_cons (pv 0) pa_nil)) pe_int (nomark _)) (pe_one (pe_callG F_is_key (hr.mono (by first | decide | omega)) tkD (pa_cons (pe_ix (o_ix (K := g.K)) (pv 0) pe_int (fun _ _ => rfl)) pa_nil))))))))), ?_⟩
  have hx : (S x).length = x.length := S_len x
  cases o with
  | some d =>
    obtain ⟨w, et, tw⟩ := hd
    simp only [tyN_t et, tRet, tRetN, tSeq, C8.tCut, tNext, tAsg, gName, gNil, gCons, gTup, gFld, tIfS, tIf, tAndV, tOrV, tNotV, tAnd, tOr, tNot, tB, tTest, tOp, tUn, tCB, tCons, tNil, tVar, tC, tChain, tDrop, RS.tCallG, RS.tMethG, tMakeG, RS.tCallK, RS.tMakeK, tEqOwn, rI, rI0, rU, add_ii, add_ss, add_rr, mul_ii, mul_si, mul_ri, RS.eq_ii, RS.eq_ss, eq_bb, eq_nn, eq_sn, eq_ns, eq_in, eq_ni, eq_bn, eq_nb, eq_is, eq_si, eq_rr, ne_ii, ne_ss, ne_bb, ne_nn, ne_sn, ne_ns, ne_in, ne_ni, ne_is, ne_si, ne_rr, in_ss, in_r, nin_ss, nin_r, len_s, len_r, RS.ix_s, RS.ix_r, sl_s, sl_r, is_eq, tyN_n, tyN_b, tyN_i, tyN_s, tru_b, tru_i, tru_n, tSl, tPart, tNoPart, tPar, tPar3, tFmtZ, tFmt, tJs, tDGet, sDPut, sFld, tFld, tTup, tLst, tNever, isB,
  L2.start, List.map_cons, List.map_nil, List.length_cons, List.length_nil, Nat.reduceAdd, Nat.reduceSub, Nat.sub_self, List.replicate_zero, List.replicate_succ, List.append_nil, List.cons_append, List.nil_append, List.getElem?_cons_zero, List.getElem?_cons_succ, List.set_cons_zero, List.set_cons_succ, Option.some.injEq, exists_eq_left, exists_eq_left', exists_and_left, V.bl.injEq, V.int.injEq, V.str.injEq, V.ref.injEq, beq_self_eq_true, Bool.true_or, Bool.or_true, Bool.false_or, Bool.or_false, Bool.and_false, Bool.false_and, Bool.true_and, Bool.and_true, Bool.not_true, Bool.not_false, Bool.false_eq_true, if_true, if_false, ite_true, ite_false, true_and, and_true, and_assoc, String.reduceBEq, String.reduceEq, reduceIte, Bool.and_self, reduceCtorEq, false_and, and_false, exists_false, or_false, false_or, exists_const, iEnumS, iStr, iList, iTup, iRng1, iEnum, tFor_eq, tLc_eq, List.cons.injEq, wipe, not_true_eq_false, not_false_eq_true, upd_same, HO.ins.injEq, HO.tup.injEq, HO.lst.injEq, ofS_eq, lk_nil, lk_cons, pu_nil, pu_cons, sizeLine_eq, Nat.reduceLT, Nat.reduceLeDiff, Nat.reduceEqDiff, Nat.le_refl, decide_true, decide_false, tPr, dget_us, dput_us, vv_nil, vv_cons, RS.pk_nil, pk_one, RS.pk_cons, inr_eq, tDisp, tPairs, tBoolOwn, rBoolOwn, tBM, rAppend, ty_list, ty_str, rEqOwn, iEnumT, RS.tCallS, tM1, tDc_eq, tLock, tLockE, iKeys, tListEnum, rUpdate, tMkX0, tMkX1, tXfv, gSub, rSetL, List.getD_cons_zero, List.getD_cons_succ, tBreak, tCMethS, ClX.tCVal, tXfa, tIxOwn, tInOwn, tPropG, tMethK, tMethP, tListGen, tDGet2, tDPop2, rNeD0, intA_i, intA_b, tRevL, sFldAug, tPm0, tPm1, tDIn, tDNotIn, tDNewK, RS.tMethS, tForK, tKM, tKC, tLcK, tKM2, tKC2, tMethStar, tKCK2, tLk, tAug, ipI, tDig, tLcX, tKMX, tKCX]
    intro p hp
    have s1 := same_upd (o := HO.tup []) hp
    refine ⟨t, p, _, _, rfl, rfl, SqT.of (s1 _ _ et), SqT.of upd_same, .inr rfl, _, rfl, ?_⟩
    have et1 := s1 _ _ et
    have tw1 := tw.same s1
    generalize upd H p (.tup []) = H1 at s1 et1 tw1 ⊢
    rw [if_neg (by simp)]
    refine ⟨_, .inr (SqT.of et1), .str "put", rfl, "str", rfl, ?_⟩
    rw [if_neg (by decide)]
    refine ⟨_, .inr (SqT.of et1), .str "put", rfl, ?_⟩
    rw [RS.eq_ss]
    refine ⟨_, rfl, ?_⟩
    rw [if_pos (by simp)]
    refine .inl ⟨_, .inr (SqT.of et1), ?_⟩
    rw [if_pos (by simp)]
    refine ⟨_, .inr (SqT.of et1), .str (S x), rfl, ?_⟩
    have h1 := hv.1
    have h2 := hv.2.1
    have h3 := hv.2.2 d rfl
    refine ⟨_, rfl, S x, rfl, by simp only at h2; omega, by simp only at h1; omega, _, rfl, ?_⟩
    rw [if_pos rfl]
    refine ⟨_, .inr (SqT.of et1), w, rfl, ?_⟩
    exact ⟨_, rfl, d, fp, tw1, h3.1, h3.2.1, fun H' s2 => q _ (s1.trans s2)⟩
  | none =>
    obtain ⟨et, rfl⟩ := hd
    simp only [tyN_t et, tRet, tRetN, tSeq, C8.tCut, tNext, tAsg, gName, gNil, gCons, gTup, gFld, tIfS, tIf, tAndV, tOrV, tNotV, tAnd, tOr, tNot, tB, tTest, tOp, tUn, tCB, tCons, tNil, tVar, tC, tChain, tDrop, RS.tCallG, RS.tMethG, tMakeG, RS.tCallK, RS.tMakeK, tEqOwn, rI, rI0, rU, add_ii, add_ss, add_rr, mul_ii, mul_si, mul_ri, RS.eq_ii, RS.eq_ss, eq_bb, eq_nn, eq_sn, eq_ns, eq_in, eq_ni, eq_bn, eq_nb, eq_is, eq_si, eq_rr, ne_ii, ne_ss, ne_bb, ne_nn, ne_sn, ne_ns, ne_in, ne_ni, ne_is, ne_si, ne_rr, in_ss, in_r, nin_ss, nin_r, len_s, len_r, RS.ix_s, RS.ix_r, sl_s, sl_r, is_eq, tyN_n, tyN_b, tyN_i, tyN_s, tru_b, tru_i, tru_n, tSl, tPart, tNoPart, tPar, tPar3, tFmtZ, tFmt, tJs, tDGet, sDPut, sFld, tFld, tTup, tLst, tNever, isB,
  L2.start, List.map_cons, List.map_nil, List.length_cons, List.length_nil, Nat.reduceAdd, Nat.reduceSub, Nat.sub_self, List.replicate_zero, List.replicate_succ, List.append_nil, List.cons_append, List.nil_append, List.getElem?_cons_zero, List.getElem?_cons_succ, List.set_cons_zero, List.set_cons_succ, Option.some.injEq, exists_eq_left, exists_eq_left', exists_and_left, V.bl.injEq, V.int.injEq, V.str.injEq, V.ref.injEq, beq_self_eq_true, Bool.true_or, Bool.or_true, Bool.false_or, Bool.or_false, Bool.and_false, Bool.false_and, Bool.true_and, Bool.and_true, Bool.not_true, Bool.not_false, Bool.false_eq_true, if_true, if_false, ite_true, ite_false, true_and, and_true, and_assoc, String.reduceBEq, String.reduceEq, reduceIte, Bool.and_self, reduceCtorEq, false_and, and_false, exists_false, or_false, false_or, exists_const, iEnumS, iStr, iList, iTup, iRng1, iEnum, tFor_eq, tLc_eq, List.cons.injEq, wipe, not_true_eq_false, not_false_eq_true, upd_same, HO.ins.injEq, HO.tup.injEq, HO.lst.injEq, ofS_eq, lk_nil, lk_cons, pu_nil, pu_cons, sizeLine_eq, Nat.reduceLT, Nat.reduceLeDiff, Nat.reduceEqDiff, Nat.le_refl, decide_true, decide_false, tPr, dget_us, dput_us, vv_nil, vv_cons, RS.pk_nil, pk_one, RS.pk_cons, inr_eq, tDisp, tPairs, tBoolOwn, rBoolOwn, tBM, rAppend, ty_list, ty_str, rEqOwn, iEnumT, RS.tCallS, tM1, tDc_eq, tLock, tLockE, iKeys, tListEnum, rUpdate, tMkX0, tMkX1, tXfv, gSub, rSetL, List.getD_cons_zero, List.getD_cons_succ, tBreak, tCMethS, ClX.tCVal, tXfa, tIxOwn, tInOwn, tPropG, tMethK, tMethP, tListGen, tDGet2, tDPop2, rNeD0, intA_i, intA_b, tRevL, sFldAug, tPm0, tPm1, tDIn, tDNotIn, tDNewK, RS.tMethS, tForK, tKM, tKC, tLcK, tKM2, tKC2, tMethStar, tKCK2, tLk, tAug, ipI, tDig, tLcX, tKMX, tKCX]
    intro p hp
    have s1 := same_upd (o := HO.tup []) hp
    refine ⟨t, p, _, _, rfl, rfl, SqT.of (s1 _ _ et), SqT.of upd_same, .inr rfl, _, rfl, ?_⟩
    have et1 := s1 _ _ et
    generalize upd H p (.tup []) = H1 at s1 et1 ⊢
    rw [if_neg (by simp)]
    refine ⟨_, .inr (SqT.of et1), .str "drop", rfl, "str", rfl, ?_⟩
    rw [if_neg (by decide)]
    refine ⟨_, .inr (SqT.of et1), .str "drop", rfl, ?_⟩
    rw [RS.eq_ss]
    refine ⟨_, rfl, ?_⟩
    rw [if_neg (by decide +kernel)]
    refine ⟨_, .inr (SqT.of et1), .str "drop", rfl, ?_⟩
    rw [RS.eq_ss]
    refine ⟨_, rfl, ?_⟩
    rw [if_pos (by simp)]
    refine .inl ⟨_, .inr (SqT.of et1), ?_⟩
    rw [if_pos (by simp)]
    refine ⟨_, .inr (SqT.of et1), .str (S x), rfl, ?_⟩
    have h1 := hv.1
    have h2 := hv.2.1
    exact ⟨_, rfl, S x, rfl, by simp only at h2; omega, by simp only at h1; omega, q _ s1⟩
theorem sc_deed_notation : FnScope ["deed", "found"] ["deed"] (defScope s_deed_notation) := ⟨rfl, rfl, rfl, by decide +kernel, rfl, by decide +kernel, by decide +kernel⟩
def sp_dnote : Sp := S1 fun v H Q _ => ∃ p fp, RdAt H v p fp ∧ DP p ∧ ∀ H', Same H H' → Q (.str (rdN p)) H'
theorem ok_dnote (F : Df g.K "deed_notation" "deed_notation" s_deed_notation f fd .none) (T : Txt g) (F_string_notation : Kn g "string_notation" 1 ["text"] [] sp_snote) (F_value_notation : Kn g "value_notation" 22 ["value"] [] (sp_vnote 21)) : FnG g 23 f fd ["deed"] sp_dnote := by
  refine F.ok sc_deed_notation (fun vs H Q E h => S1.len h) (fun cdv A outer s H vs Q E hr h => ?_)
  obtain ⟨v, rfl, ⟨x, o⟩, fw, ⟨t, rfl, hd⟩, hv, q⟩ := h
  refine ⟨_, (pss_cons (ps_set (i := 1) sc_deed_notation.nd rfl (Or.inl rfl) (pe_joined (.cons (pe_fmt (pe_ix (o_ix (K := g.K)) (pv 0) pe_int (fun _ _ => rfl))) (.cons pe_str (.cons (pe_fmt (pe_callG F_string_notation (hr.mono (by first | decide | omega)) tkD (pa_cons (pe_ix (o_ix (K := g.K)) (pv 0) pe_int (fun _ _ => rfl)) pa_nil))) .nil)))))
      (pss_one (ps_ret (pe_ifExp (pt_cmpR (o_eq (K := g.K) hr) (pe_callB (c_len (K := g.K)) (by rfl) T.b_len bb_len (pa_cons (pv 0) pa_nil)) pe_int (nomark _)) (pe_joined (.cons (pe_fmt (pv 1)) (.cons pe_str (.cons (pe_fmt (pe_callG F_value_notation (hr.mono (by first | decide | omega)) tkD (pa_cons (pe_ix (o_ix (K := g.K)) (pv 0) pe_int (fun _ _ => rfl)) pa_nil))) .nil)))) (pv 1))))), ?_⟩
  have hx : (S x).length = x.length := S_len x
  have e3 : (Str.ofString " ").length = 1 := by decide +kernel
  have h3 := sno_le (S x)
  have h1 := hv.2.1
  simp only at h1
  cases o with
  | some d =>
    obtain ⟨w, et, tw⟩ := hd
    have e1 : (Str.ofString "put").length = 3 := by decide +kernel
    have hh := hv.2.2 d rfl
    have h2 : (note d).length ≤ 10000 := by have := hh.2.2; simpa [shL, Str.length] using this
    walk_at "sx"
    simp only [emp_app, Str.length_append, e1, e3]
    refine ⟨_, .inr (SqT.of et), .str "put", rfl, .inl ⟨_, rfl, by omega, by omega, by omega, _, .inr (SqT.of et), .str (S x), rfl, _, rfl, S x, rfl, by omega, fun H1 s1 => ?_⟩⟩
    refine .inl ⟨_, rfl, by omega, by omega, .inl ⟨_, .inr (SqT.of (s1 _ _ et)), ?_⟩⟩
    rw [if_pos (by simp)]
    refine ⟨by omega, by omega, by omega, _, .inr (SqT.of (s1 _ _ et)), w, rfl, _, rfl, d, fw, tw.same s1, hh.1, by omega, by omega, fun H2 s2 => ?_⟩
    refine .inl ⟨_, rfl, by omega, by omega, ?_⟩
    exact q _ (s1.trans s2)
  | none =>
    obtain ⟨et, rfl⟩ := hd
    have e1 : (Str.ofString "drop").length = 4 := by decide +kernel
    walk_at "sx"
    simp only [emp_app, Str.length_append, e1, e3]
    refine ⟨_, .inr (SqT.of et), .str "drop", rfl, .inl ⟨_, rfl, by omega, by omega, by omega, _, .inr (SqT.of et), .str (S x), rfl, _, rfl, S x, rfl, by omega, fun H1 s1 => ?_⟩⟩
    refine .inl ⟨_, rfl, by omega, by omega, .inl ⟨_, .inr (SqT.of (s1 _ _ et)), ?_⟩⟩
    rw [if_neg (by simp)]
    exact q _ s1
theorem sc_deeds_text : FnScope ["deeds", "index", "deed"] ["deeds"] (defScope s_deeds_text) := ⟨rfl, rfl, rfl, by decide +kernel, rfl, by decide +kernel, by decide +kernel⟩
def sp_dtext : Sp := S1 fun v H Q _ => ∃ a vs ps, v = .ref a ∧ H a = some (.lst vs) ∧ Paired (fun v p => ∃ fp, RdAt H v p fp) vs ps ∧ (∀ p ∈ ps, DP p) ∧ 1 ≤ ps.length ∧ ps.length ≤ 10000 ∧ (Str.join ", " (ps.map rdN)).length ≤ 10000 ∧ ∀ G, Same H G → Q (.str (Str.join ", " (ps.map rdN))) G
theorem ok_dtext (F : Df g.K "deeds_text" "deeds_text" s_deeds_text f fd .none) (T : Txt g) (F_is_deed : Kn g "is_deed" 24 ["deed"] [] sp_isd) (F_deed_notation : Kn g "deed_notation" 23 ["deed"] [] sp_dnote)
    (X_InvalidDeed : XK1 g "InvalidDeed" CD "index") (RD : PySem.W.subIn g.K (.ref CD) (.type "BaseException") = some true ∧ PySem.W.typeIn g.K (.ref CD) = some (.type "type")) : FnG g 25 f fd ["deeds"] sp_dtext := by
  refine F.ok sc_deeds_text (fun vs H Q E h => S1.len h) (fun cdv A outer s H vs Q E hr h => ?_)
  obtain ⟨v, rfl, a, vs, ps, rfl, ha, pr, ok, l1, l2, jl, q⟩ := h
  have R_InvalidDeed := raises_own (X := cx g ["deeds", "index", "deed"] "deeds_text" s_deeds_text f cdv A outer s H E) RD.1 RD.2
  refine ⟨_, (pss_cons (ps_if (PW.pt (pw_or (pt_not (pt_val (pe_callB (c_isT ["list", "tuple"]) (by rfl) T.b_isinstance bb_isinstance (pa_cons (pv 0) (pa_cons (pe_tup (pa_cons (pe_bltn (v := .ty "list") rfl T.b_list bb_list rfl) (pa_cons (pe_bltn (v := .ty "tuple") rfl T.b_tuple bb_tuple rfl) pa_nil))) pa_nil))))) (pw_or1 (pt_cmpR (o_eq (K := g.K) hr) (pe_callB (c_len (K := g.K)) (by rfl) T.b_len bb_len (pa_cons (pv 0) pa_nil)) pe_int (nomark _))))) (pss_one (ps_raise rfl tkD (pmk_x1 X_InvalidDeed R_InvalidDeed (hr.mono (by first | decide | omega)) (pa_cons pe_non pa_nil)))) pss_nil)
      (pss_mid (ps_for psD rfl (pi_or (i_enum (K := g.K) T.b_enumerate (pa_cons (pv 0) pa_nil)) (pi_enumT (K := g.K) T.b_enumerate (pa_cons (pv 0) pa_nil))) (g_tup (K := g.K) (n := 2) (pgs_cons (pg_name (i := 1) sc_deeds_text.nd rfl (.inl rfl)) (pgs_cons (pg_name (i := 2) sc_deeds_text.nd rfl (.inl rfl)) pgs_nil))) (pss_one (ps_if (pt_not (pt_val (pe_callG F_is_deed (hr.mono (by first | decide | omega)) tkD (pa_cons (pv 2) pa_nil)))) (pss_one (ps_raise rfl tkD (pmk_x1 X_InvalidDeed R_InvalidDeed (hr.mono (by first | decide | omega)) (pa_cons (pv 1) pa_nil)))) pss_nil)))
      (pss_one (ps_ret (pe_join pe_str (pe_lc (own := [("deed", 2)]) (tt := tYes) rfl sc_deeds_text.nd (pi_or (i_list (K := g.K) (pv 0)) (i_tup (K := g.K) (pv 0))) (blkOk_by (own := [("deed", 2)]) (N := ["deeds", "index", "deed"]) (sc := defScope s_deeds_text) (by decide +kernel)) (fun _ _ _ _ _ => (pg_name (i := 2) sc_deeds_text.nd rfl (.inl rfl))) (fun _ _ _ _ _ => pts_nil) (fun _ _ _ _ _ => (pe_callG F_deed_notation (Rm.mono (Rm.mk hr.room hr.gd) (by first | decide | omega)) L2.takes0 (pa_cons (pv 2) pa_nil))))))))), ?_⟩
  walk_at "sx"
  intro p hp
  have sp := same_upd (o := HO.tup (["list", "tuple"].map V.ty)) hp
  have lv := paired_len pr
  refine isT_new (Ts := ["list", "tuple"]) (tyN_l ha) hp ⟨_, rfl, ?_⟩
  rw [if_neg (by decide)]
  have ha1 := sp _ _ ha
  have pr1 : Paired (fun v p => ∃ fp, RdAt _ v p fp) vs ps := prd_imp pr fun _ _ ⟨fp, z⟩ => ⟨fp, z.same sp⟩
  generalize upd H p (HO.tup (["list", "tuple"].map V.ty)) = H1 at sp ha1 pr1 ⊢
  refine .inl ⟨_, .inl (SqL.of ha1), ?_⟩
  rw [if_neg (by simp only [decide_eq_true_eq]; omega)]
  refine mid_at (fun σ G => ∃ y z, σ = [some (.ref a), y, z] ∧ Same H1 G) ?_ ?_
  · rw [tFor_eq]
    refine .inl ⟨_, rfl, a, rfl, vs, SqL.of ha1, ?_⟩
    refine for_by vs.length (fun i σ G => (∃ y z, σ = [some (.ref a), y, z]) ∧ Same H1 G) ⟨⟨_, _, rfl⟩, Same.refl _⟩ (fun i σ G lt P => ⟨_, vs[i], SqL.of (P.2 _ _ ha1), by simp [lt]⟩) (fun σ G P => ⟨_, SqL.of (P.2 _ _ ha1), Nat.le_refl _⟩) (fun i σ G x G' lt P y => ?_) (fun σ G P => ?_)
    · obtain ⟨⟨y1, z1, rfl⟩, sG⟩ := P
      obtain ⟨T0, u, rfl, hT, rfl, hu⟩ := y
      have hu := hu _ (SqL.of (sG _ _ ha1))
      have s2 := sG.trans (same_upd (o := HO.tup [.int (i : Nat), u]) hT)
      walk_at "sx"
      refine ⟨_, SqT.of upd_same, rfl, _, _, rfl, _, _, rfl, rfl, ?_⟩
      obtain ⟨d, e2, fp, hd⟩ := pairedO pr1 hu
      refine ⟨_, rfl, d, fp, hd.same s2, ok d (List.mem_of_getElem? e2), fun X sX => ⟨_, rfl, ?_⟩⟩
      rw [if_neg (by simp)]
      exact ⟨⟨_, rfl⟩, s2.trans sX⟩
    · obtain ⟨⟨y1, z1, rfl⟩, sG⟩ := P
      exact ⟨_, _, rfl, sG⟩
  rintro _ G ⟨y, z, rfl, sG⟩
  have ha2 := sG _ _ ha1
  have pr2 : Paired (fun v p => ∃ fp, RdAt G v p fp) vs ps := prd_imp pr1 fun _ _ ⟨fp, z⟩ => ⟨fp, z.same sG⟩
  walk_at "sx"
  refine ⟨⟨_, rfl⟩, .inl ⟨⟨_, SqL.of ha2⟩, ?_⟩⟩
  refine lc_all vs.length (fun i => .str (rdN (ps[i]?.getD ([], none)))) (by rw [sizeLine_eq]; omega) (fun i G lt s => ⟨_, vs[i], SqL.of (s _ _ ha2), by simp [lt]⟩) (fun G s => ⟨_, SqL.of (s _ _ ha2), Nat.le_refl _⟩) (fun i G x G' K lt s y k => ?_) (fun L X hL s eL => ?_)
  · obtain ⟨rfl, hx⟩ := y
    have hx := hx _ (SqL.of (s _ _ ha2))
    obtain ⟨d, e2, fp, hd⟩ := pairedO pr2 hx
    refine ⟨rfl, x, rfl, ?_⟩
    refine ⟨_, rfl, d, fp, hd.same s, ok d (List.mem_of_getElem? e2), fun H' s' => ?_⟩
    have := k H' s'
    rw [e2] at this
    exact this
  · have e : (List.range vs.length).map (fun i => V.str (rdN (ps[i]?.getD ([], none)))) = (ps.map rdN).map V.str := by
      rw [lv]
      refine List.ext_getElem (by simp) fun i h1 h2 => ?_
      simp at h1 h2
      simp [h1]
    have pl := piled_le (ts := ps.map rdN)
    rw [piled_eq, List.length_map] at pl
    have e3 : (Str.ofString ", ").length = 2 := by decide +kernel
    refine ⟨L, rfl, ps.map rdN, .inl (SqL.of (by rw [eL, e])), ?_, ?_⟩
    · rw [e3, List.length_map]; omega
    · rw [joinC]; exact q X (sp.trans (sG.trans s))
end
/-- InvalidText(v) leaves -/
def BadV (CI : Addr) (H : Hp) (v : V) (E : XK) : Prop := ∀ dd H', Same H H' → H' dd = some (.xd [("position", v)]) → E (.ref CI) (some dd) H'
/-- no text -/
def NoTx (H : Hp) (v : V) : Prop := ∃ t, tyN v H = some t ∧ t ≠ "str"
section
variable {g : Wd} {f : Addr} {fd : FuncData} {CI AU AW : Addr}
def sp_ctextN (CI : Addr) : Sp := S1 fun a H _ E => NoTx H a ∧ BadV CI H .non E
theorem ok_ctextN (F : Df g.K "checked_text" "checked_text" s_checked_text f fd .none) (T : TxR g AU AW) (X_InvalidText : XK1 g "InvalidText" CI "position") (RI : PySem.W.subIn g.K (.ref CI) (.type "BaseException") = some true ∧ PySem.W.typeIn g.K (.ref CI) = some (.type "type")) : FnG g 3 f fd ["text"] (sp_ctextN CI) := by
  refine F.ok sc_checked_text (fun vs H Q E h => S1.len h) (fun cdv A outer s H vs Q E hr h => ?_)
  obtain ⟨v, rfl, ⟨t, ht, nt⟩, q⟩ := h
  have R_InvalidText := raises_own (X := cx g ["text"] "checked_text" s_checked_text f cdv A outer s H E) RI.1 RI.2
  refine ⟨_, (pss_cons (ps_if (pt_not (pt_val (pe_callB (c_is "str") (by rfl) T.b_isinstance bb_isinstance (pa_cons (pv 0) (pa_cons (pe_bltn (v := .ty "str") rfl T.b_str bb_str rfl) pa_nil))))) (pss_one (ps_raise rfl tkD (pmk_x1 X_InvalidText R_InvalidText (hr.mono (by first | decide | omega)) (pa_cons pe_non pa_nil)))) pss_nil)
      (pss_one (ps_ret (pv 0)))), ?_⟩
  walk_at "sx"
  refine ⟨t, ht, ?_⟩
  rw [if_pos (by simp [nt])]
  exact fun dd hdd => q dd _ (same_upd hdd) upd_same
theorem sc_read_notation : FnScope ["text", "found", "at"] ["text"] (defScope s_read_notation) := ⟨rfl, rfl, rfl, by decide +kernel, rfl, by decide +kernel, by decide +kernel⟩
def sp_rnot (CI : Addr) : Sp := S1 fun a H Q E => (∃ t, a = .str (S t) ∧ t.length ≤ 10000000 ∧ match wpos t.length false t with
  | some k => BadV CI H (.int (k : Nat)) E
  | none => ∀ d v fp H', rv t.length 20 t = .ok d t.length → Same H H' → Tr H' v d fp → Q v H') ∨ (NoTx H a ∧ BadV CI H .non E)
theorem ok_rnot (F : Df g.K "read_notation" "read_notation" s_read_notation f fd .none) (T : TxR g AU AW) (F_checked_text : Kn g "checked_text" 3 ["text"] [] (SpOr sp_ctext (sp_ctextN CI))) (F_ended : Kn g "ended" 3 ["text", "found", "at"] [] (sp_ended CI)) (F_read_value : Kn g "read_value" 46 ["text", "at", "level"] [] (sp_rval CI 20)) : FnG g 47 f fd ["text"] (sp_rnot CI) := by
  refine F.ok sc_read_notation (fun vs H Q E h => S1.len h) (fun cdv A outer s H vs Q E hr h => ?_)
  obtain ⟨v, rfl, h⟩ := h
  refine ⟨_, (pss_mid (ps_asg (pe_callG F_read_value (hr.mono (by first | decide | omega)) tkD (pa_cons (pe_callG F_checked_text (hr.mono (by first | decide | omega)) tkD (pa_cons (pv 0) pa_nil)) (pa_cons pe_int (pa_cons pe_int pa_nil)))) (g_tup (K := g.K) (n := 2) (pgs_cons (pg_name (i := 1) sc_read_notation.nd rfl (.inl rfl)) (pgs_cons (pg_name (i := 2) sc_read_notation.nd rfl (.inl rfl)) pgs_nil))))
      (pss_one (ps_ret (pe_callG F_ended (hr.mono (by first | decide | omega)) tkD (pa_cons (pv 0) (pa_cons (pv 1) (pa_cons (pv 2) pa_nil))))))), ?_⟩
  rcases h with ⟨t, rfl, tl, q⟩ | ⟨no, q⟩
  · simp only [wpos, Bool.false_eq_true, if_false] at q
    cases hx : rv t.length 20 t with
    | bad k =>
      rw [hx] at q
      refine mid_at (fun _ _ => False) ?_ (fun _ _ z => z.elim)
      walk_at "sx"
      refine .inl ⟨_, rfl, _, rfl, ?_⟩
      refine ⟨_, _, _, rfl, t, 0, rfl, rfl, rfl, by decide, tl, by omega, ?_⟩
      rw [List.drop_zero, hx]
      exact fun dd H' s e => q dd H' s (by rw [e]; simp)
    | ok d k =>
      rw [hx] at q
      have kl := rv_len _ _ _ _ hx
      refine mid_at (fun σ X => ∃ v fp, σ = [some (.str (S t)), some v, some (.int (k : Nat))] ∧ Same H X ∧ Tr X v d fp) ?_ ?_
      · walk_at "sx"
        refine .inl ⟨_, rfl, _, rfl, ?_⟩
        refine ⟨_, _, _, rfl, t, 0, rfl, rfl, rfl, by decide, tl, by omega, ?_⟩
        rw [List.drop_zero, hx]
        intro p v fp H' hp s e tv nf
        exact ⟨p, rfl, _, SqT.of e, rfl, v, _, rfl, _, _, rfl, rfl, by simp, s, fp, tv⟩
      rintro _ X ⟨v, fp, rfl, sX, tv⟩
      walk_at "sx"
      refine ⟨_, _, _, rfl, t, k, rfl, rfl, tl, ?_⟩
      by_cases e : k = t.length
      · rw [if_neg (by omega)]
        simp only [if_pos e] at q
        subst e
        exact q d v fp X rfl sX tv
      · rw [if_pos (by omega)]
        simp only [if_neg e] at q
        exact fun dd H' s e => q dd H' (sX.trans s) e
  · refine mid_at (fun _ _ => False) ?_ (fun _ _ z => z.elim)
    walk_at "sx"
    exact .inr ⟨_, rfl, no, q⟩
theorem sc_is_notation : FnScope ["value"] ["value"] (defScope s_is_notation) := ⟨rfl, rfl, rfl, by decide +kernel, rfl, by decide +kernel, by decide +kernel⟩
def sp_isn : Sp := S1 fun a H Q E => (∃ t, a = .str (S t) ∧ t.length ≤ 10000000 ∧ ∀ H', Same H H' → Q (.bl (wpos t.length false t).isNone) H') ∨ (NoTx H a ∧ ∀ H', Same H H' → Q (.bl false) H')
theorem ok_isn (F : Df g.K "is_notation" "is_notation" s_is_notation f fd .none) (T : TxR g AU AW) (F_read_notation : Kn g "read_notation" 47 ["text"] [] (sp_rnot CI)) (hm : g.mg "InvalidText" = some (.ref CI)) (hex : PySem.W.exmOne g.K (.ref CI) (.ref CI) = some true) : FnG g 48 f fd ["value"] sp_isn := by
  refine F.ok sc_is_notation (fun vs H Q E h => S1.len h) (fun cdv A outer s H vs Q E hr h => ?_)
  obtain ⟨v0, rfl, h⟩ := h
  have N_InvalidText : Names (cx g ["value"] "is_notation" s_is_notation f cdv A outer s H E) "InvalidText" (.ref CI) := ⟨rfl, by decide, .inl hm⟩
  refine ⟨_, (pss_mid (ps_try_many rfl rfl tkD (fun W pn xe tk1 po1 => (pss_one (ps_expr (pe_callG F_read_notation (Rm.mono (Rm.mk hr.room hr.gd) (by first | decide | omega)) tk1 (pa_cons (pv 0) pa_nil))))) (.cons N_InvalidText (fun a oe cls d pn hz hf => (pss_one (ps_ret pe_bl))) .nil))
      (pss_one (ps_ret pe_bl))), ?_⟩
  refine mid_one [some v0] (fun X => Same H X ∧ ((∃ t, v0 = .str (S t) ∧ (wpos t.length false t).isNone = true) ∧ ∀ H', Same H H' → Q (.bl true) H')) ?_ ?_
  · walk_at "sx"
    refine ⟨_, rfl, ?_⟩
    have dn : (∀ X, Same H X → Q (.bl false) X) → ∀ v, BadV CI H v (fun c d H' => wMany (cx g ["value"] "is_notation" s_is_notation f cdv A outer s H E).K (fun c d x H' => E c d H') { nx := fun σ' H' => σ' = [some v0] ∧ Same H H' ∧ (∃ t, v0 = V.str (S t) ∧ (wpos t.length false t).isNone = true) ∧ ∀ (H' : Hp), Same H H' → Q (V.bl true) H', rt := Q } [(Value.ref CI, fun a cls d => tRet (tC (V.bl false)))] c d [some v0] H') := fun qf v dd H' s' e => by
      unfold wMany
      refine ⟨true, hex, fun _ a ha => ?_, fun z => by cases z⟩
      walk_at "sx"
      exact qf H' s'
    rcases h with ⟨t, rfl, tl, q⟩ | ⟨no, q⟩
    · refine .inl ⟨t, rfl, tl, ?_⟩
      cases hx : wpos t.length false t with
      | some k => exact dn (fun X sX => by have := q X sX; rw [hx] at this; exact this) _
      | none =>
        rw [hx] at q
        exact fun d v fp H' _ sH _ => ⟨sH, ⟨t, rfl, by rw [hx]; rfl⟩, q⟩
    · exact .inr ⟨no, dn q _⟩
  · rintro X ⟨sX, _, q⟩
    walk_at "sx"
    exact q X sX
def sp_rdeedsN (CI : Addr) : Sp := S1 fun a H _ E => NoTx H a ∧ BadV CI H .non E
theorem ok_rdeedsN (F : Df g.K "read_deeds" "read_deeds" s_read_deeds f fd .none) (T : TxR g AU AW) (F_checked_text : Kn g "checked_text" 3 ["text"] [] (sp_ctextN CI)) (F_ended : Kn g "ended" 3 ["text", "found", "at"] [] (sp_ended CI)) (F_expect : Kn g "expect" 3 ["text", "at", "word"] [] (sp_exp CI)) (F_stands : Kn g "stands" 1 ["text", "at", "signs"] [] sp_stands) (F_read_deed : Kn g "read_deed" 47 ["text", "at"] [] (sp_rdeed CI)) : FnG g 48 f fd ["text"] (sp_rdeedsN CI) := by
  refine F.ok sc_read_deeds (fun vs H Q E h => S1.len h) (fun cdv A outer s H vs Q E hr h => ?_)
  obtain ⟨v, rfl, no, q⟩ := h
  refine ⟨_, (pss_mid (ps_asg (pe_callG F_read_deed (hr.mono (by first | decide | omega)) tkD (pa_cons (pe_callG F_checked_text (hr.mono (by first | decide | omega)) tkD (pa_cons (pv 0) pa_nil)) (pa_cons pe_int pa_nil))) (g_tup (K := g.K) (n := 2) (pgs_cons (pg_name (i := 1) sc_read_deeds.nd rfl (.inl rfl)) (pgs_cons (pg_name (i := 2) sc_read_deeds.nd rfl (.inl rfl)) pgs_nil))))
      (pss_cons (ps_set (i := 3) sc_read_deeds.nd rfl (Or.inl rfl) (pe_lst (pa_cons (pv 1) pa_nil)))
      (pss_cons (ps_while psD (pt_val (pe_callG F_stands (hr.mono (by first | decide | omega)) tkD (pa_cons (pv 0) (pa_cons (pv 2) (pa_cons pe_str pa_nil))))) (pss_cons (ps_asg (pe_callG F_read_deed (hr.mono (by first | decide | omega)) tkD (pa_cons (pv 0) (pa_cons (pe_callG F_expect (hr.mono (by first | decide | omega)) tkD (pa_cons (pv 0) (pa_cons (pv 2) (pa_cons pe_str pa_nil)))) pa_nil))) (g_tup (K := g.K) (n := 2) (pgs_cons (pg_name (i := 1) sc_read_deeds.nd rfl (.inl rfl)) (pgs_cons (pg_name (i := 2) sc_read_deeds.nd rfl (.inl rfl)) pgs_nil))))
      (pss_one (ps_expr (e_bm (K := g.K) PySem.F.plainAttrs_list PySem.F.slot_list_append PySem.F.type_list_append mt_append (pv 3) (pa_cons (pv 1) pa_nil))))))
      (pss_one (ps_ret (pe_callG F_ended (hr.mono (by first | decide | omega)) tkD (pa_cons (pv 0) (pa_cons (pv 3) (pa_cons (pv 2) pa_nil))))))))), ?_⟩
  refine mid_at (fun _ _ => False) ?_ (fun _ _ z => z.elim)
  walk_at "sx"
  exact ⟨_, rfl, no, q⟩
end
theorem esc_swp (c : Nat) : (((swp 92 [92, 92] c).flatMap (swp 34 [92, 34])).flatMap (swp 10 [92, 110])) = esc c := by
  unfold esc
  by_cases h1 : c = 92
  · subst h1; rfl
  · by_cases h2 : c = 34
    · subst h2; rfl
    · by_cases h3 : c = 10
      · subst h3; rfl
      · simp [swp, h1, h2, h3]
theorem rpl_esc (x : Str) : rpl [("\\", "\\\\"), ("\"", "\\\""), ("\n", "\\n")] x = S (x.cps.toList.flatMap esc) := by
  apply str_cps
  have s1 : ("\\" : Str) = ⟨#[92]⟩ := by decide +kernel
  have s2 : ("\"" : Str) = ⟨#[34]⟩ := by decide +kernel
  have s3 : ("\n" : Str) = ⟨#[10]⟩ := by decide +kernel
  have t1 : ("\\\\" : Str).cps.toList = [92, 92] := by decide +kernel
  have t2 : ("\\\"" : Str).cps.toList = [92, 34] := by decide +kernel
  have t3 : ("\\n" : Str).cps.toList = [92, 110] := by decide +kernel
  show (Txt.replace (Txt.replace (Txt.replace x _ _) _ _) _ _).cps.toList = _
  rw [s3, replace_swp, s2, replace_swp, s1, replace_swp, t1, t2, t3]
  show _ = x.cps.toList.flatMap esc
  rw [List.flatMap_assoc, List.flatMap_assoc]
  congr 1
  funext c
  rw [← esc_swp c, List.flatMap_assoc]
section
variable {g : Wd} {f : Addr} {fd : FuncData} {AE CD : Addr}
theorem sc_l_quoted : FnScope ["_law_word_here", "_law_sign_here", "_law_code"] ["_law_word_here"] (defScope s_l_quoted) := ⟨rfl, rfl, rfl, by decide +kernel, rfl, by decide +kernel, by decide +kernel⟩
theorem ok_quoted (F : Df g.K "_law_quoted" "_law_quoted" s_l_quoted f fd .none) (T : Txt g) : FnG g 1 f fd ["_law_word_here"] sp_snote := by
  refine F.okT sc_l_quoted (by decide +kernel) (by decide) (fun vs H Q E h => S1.len h) (fun cdv A outer s H vs Q E hr h => ?_)
  obtain ⟨_, rfl, x, rfl, lx, q⟩ := h
  refine ⟨_, psst_cons (pst_repl3 (ia := 1) (ib := 2) (iw := 0) psD rfl sc_l_quoted.nd) (PSsT.of (pss_one (ps_ret (pe_op (o_add (K := g.K)) (pe_op (o_add (K := g.K)) pe_str (pv 0)) pe_str)))), ?_⟩
  refine ⟨x, none, none, rfl, rfl, rfl, by omega, fun v1 v2 H' sH => ?_⟩
  have e1 : (Str.ofString "\"").length = 1 := by decide +kernel
  have l1 := flat_esc_len x.cps.toList
  have e : x.cps.toList.length = x.length := by simp [Str.length]
  rw [rpl_esc]
  walk_at "sx"
  have es : Str.ofString "\"" ++ S (List.flatMap esc x.cps.toList) ++ Str.ofString "\"" = sno x := by
    rw [show Str.ofString "\"" = S [34] from by decide +kernel, S_cat, S_cat]
    rfl
  rw [es]
  simp only [Str.length_append, e1, S_len]
  exact ⟨by omega, by omega, q H' sH⟩
theorem sc_l_shown : FnScope ["_law_value_here", "_law_inner", "_law_key", "_law_item"] ["_law_value_here"] (defScope s_l_shown) := ⟨rfl, rfl, rfl, by decide +kernel, rfl, by decide +kernel, by decide +kernel⟩
theorem ok_shown (n : Nat) (F : Df g.K "_law_shown" "_law_shown" s_l_shown f fd .none) (T : Txt g) (SM : SmB g.base) (F_l_quoted : Kn g "_law_quoted" 1 ["_law_word_here"] [] sp_snote) (F_l_shown : Kn g "_law_shown" (n + 1) ["_law_value_here"] [] (sp_vnote n)) : FnG g (n + 2) f fd ["_law_value_here"] (sp_vnote (n + 1)) := by
  refine F.ok sc_l_shown (fun vs H Q E h => S1.len h) (fun cdv A outer s H vs Q E hr h => ?_)
  obtain ⟨v, rfl, d, fp, hv, hok, hn, hz, q⟩ := h
  refine ⟨_, (pss_cons (ps_if (pt_val (pe_callB (c_is "str") (by rfl) T.b_isinstance bb_isinstance (pa_cons (pv 0) (pa_cons (pe_bltn (v := .ty "str") rfl T.b_str bb_str rfl) pa_nil)))) (pss_one (ps_ret (pe_callG F_l_quoted (hr.mono (by first | decide | omega)) tkD (pa_cons (pv 0) pa_nil)))) pss_nil)
      (pss_cons (ps_if (pt_val (pe_callB (c_is "dict") (by rfl) T.b_isinstance bb_isinstance (pa_cons (pv 0) (pa_cons (pe_bltn (v := .ty "dict") rfl T.b_dict bb_dict rfl) pa_nil)))) (pss_one (ps_ret (pe_op (o_add (K := g.K)) (pe_op (o_add (K := g.K)) pe_str (pe_join pe_str (pe_lock (pe_lc (own := [("_law_key", 2)]) (tt := tYes) rfl sc_l_shown.nd (pi_keys (pv 0)) (blkOk_by (own := [("_law_key", 2)]) (N := ["_law_value_here", "_law_inner", "_law_key", "_law_item"]) (sc := defScope s_l_shown) (by decide +kernel)) (fun _ _ _ _ _ => (pg_name (i := 2) sc_l_shown.nd rfl (.inl rfl))) (fun _ _ _ _ _ => pts_nil) (fun _ _ _ _ _ => (pe_op (o_add (K := g.K)) (pe_op (o_add (K := g.K)) (pe_callG F_l_quoted (Rm.mono (Rm.mk hr.room hr.gd) (by first | decide | omega)) L2.takes0 (pa_cons (pv 2) pa_nil)) pe_str) (pe_callG F_l_shown (Rm.mono (Rm.mk hr.room hr.gd) (by first | decide | omega)) L2.takes0 (pa_cons (pe_dget (hu_of (Rm.mk hr.room hr.gd).room) (pv 0) (pv 2) (fun _ _ => rfl)) pa_nil)))))))) pe_str))) pss_nil)
      (pss_cons (ps_if (pt_not (pt_val (pe_callB (c_isT ["list", "tuple"]) (by rfl) T.b_isinstance bb_isinstance (pa_cons (pv 0) (pa_cons (pe_tup (pa_cons (pe_bltn (v := .ty "list") rfl T.b_list bb_list rfl) (pa_cons (pe_bltn (v := .ty "tuple") rfl T.b_tuple bb_tuple rfl) pa_nil))) pa_nil))))) (pss_one (ps_ret (pe_callB (c_reprV (K := g.K) (base := g.base) SM hr) (by rfl) T.b_repr bb_repr (pa_cons (pv 0) pa_nil)))) pss_nil)
      (pss_cons (ps_set (i := 1) sc_l_shown.nd rfl (Or.inl rfl) (pe_join pe_str (pe_lc (own := [("_law_item", 3)]) (tt := tYes) rfl sc_l_shown.nd (pi_or (i_list (K := g.K) (pv 0)) (i_tup (K := g.K) (pv 0))) (blkOk_by (own := [("_law_item", 3)]) (N := ["_law_value_here", "_law_inner", "_law_key", "_law_item"]) (sc := defScope s_l_shown) (by decide +kernel)) (fun _ _ _ _ _ => (pg_name (i := 3) sc_l_shown.nd rfl (.inl rfl))) (fun _ _ _ _ _ => pts_nil) (fun _ _ _ _ _ => (pe_callG F_l_shown (Rm.mono (Rm.mk hr.room hr.gd) (by first | decide | omega)) L2.takes0 (pa_cons (pv 3) pa_nil))))))
      (pss_cons (ps_if (pt_val (pe_callB (c_is "list") (by rfl) T.b_isinstance bb_isinstance (pa_cons (pv 0) (pa_cons (pe_bltn (v := .ty "list") rfl T.b_list bb_list rfl) pa_nil)))) (pss_one (ps_ret (pe_op (o_add (K := g.K)) (pe_op (o_add (K := g.K)) pe_str (pv 1)) pe_str))) pss_nil)
      (pss_one (ps_ret (pe_op (o_add (K := g.K)) (pe_op (o_add (K := g.K)) pe_str (pv 1)) (pe_ifExp (pt_cmpR (o_eq (K := g.K) hr) (pe_callB (c_len (K := g.K)) (by rfl) T.b_len bb_len (pa_cons (pv 0) pa_nil)) pe_int (nomark _)) pe_str pe_str))))))))), ?_⟩
  have hsT : ∀ p, H p = none → Same H (upd H p (HO.tup (["list", "tuple"].map V.ty))) := fun p hp => same_upd hp
  cases hv with
  | non =>
    walk_at "sx"
    intro p hp
    have sp := hsT p hp
    refine isT_new (Ts := ["list", "tuple"]) (v := .non) rfl hp ⟨_, rfl, ?_⟩
    rw [if_pos (by decide)]
    refine ⟨_, .none, rfl, .non, rfl, Nat.zero_le _, by decide +kernel, ?_⟩
    exact q _ sp
  | bl b =>
    walk_at "sx"
    intro p hp
    have sp := hsT p hp
    refine isT_new (Ts := ["list", "tuple"]) (v := .bl b) rfl hp ⟨_, rfl, ?_⟩
    rw [if_pos (by decide)]
    refine ⟨_, .bool b, rfl, .bl b, rfl, Nat.zero_le _, by cases b <;> decide +kernel, ?_⟩
    have := q _ sp
    simp only [note] at this
    cases b <;> exact this
  | int i =>
    walk_at "sx"
    intro p hp
    have sp := hsT p hp
    have hi : i.natAbs < 10 ^ 100 := by simpa [okB] using hok
    refine isT_new (Ts := ["list", "tuple"]) (v := .int i) rfl hp ⟨_, rfl, ?_⟩
    rw [if_pos (by decide)]
    have ft := fits (d := .int i) (by simpa [gB] using hi) (Nat.zero_le _)
    refine ⟨_, .int i, rfl, .int i, ft.1, ft.2.1, ft.2.2, ?_⟩
    have := q _ sp
    simp only [note] at this
    simpa [PyData.shown] using this
  | str x =>
    walk_at "sx"
    have hx : x.length ≤ 10000 := by simpa [okB] using hok
    exact ⟨_, rfl, x, rfl, hx, fun H' s => by have := q H' s; simp only [note] at this; exact this⟩
  | @lst a xs ds fp h hs na =>
    simp only [tyN_l h, tRet, tRetN, tSeq, C8.tCut, tNext, tAsg, gName, gNil, gCons, gTup, gFld, tIfS, tIf, tAndV, tOrV, tNotV, tAnd, tOr, tNot, tB, tTest, tOp, tUn, tCB, tCons, tNil, tVar, tC, tChain, tDrop, RS.tCallG, RS.tMethG, tMakeG, RS.tCallK, RS.tMakeK, tEqOwn, rI, rI0, rU, add_ii, add_ss, add_rr, mul_ii, mul_si, mul_ri, RS.eq_ii, RS.eq_ss, eq_bb, eq_nn, eq_sn, eq_ns, eq_in, eq_ni, eq_bn, eq_nb, eq_is, eq_si, eq_rr, ne_ii, ne_ss, ne_bb, ne_nn, ne_sn, ne_ns, ne_in, ne_ni, ne_is, ne_si, ne_rr, in_ss, in_r, nin_ss, nin_r, len_s, len_r, RS.ix_s, RS.ix_r, sl_s, sl_r, is_eq, tyN_n, tyN_b, tyN_i, tyN_s, tru_b, tru_i, tru_n, tSl, tPart, tNoPart, tPar, tPar3, tFmtZ, tFmt, tJs, tDGet, sDPut, sFld, tFld, tTup, tLst, tNever, isB,
  L2.start, List.map_cons, List.map_nil, List.length_cons, List.length_nil, Nat.reduceAdd, Nat.reduceSub, Nat.sub_self, List.replicate_zero, List.replicate_succ, List.append_nil, List.cons_append, List.nil_append, List.getElem?_cons_zero, List.getElem?_cons_succ, List.set_cons_zero, List.set_cons_succ, Option.some.injEq, exists_eq_left, exists_eq_left', exists_and_left, V.bl.injEq, V.int.injEq, V.str.injEq, V.ref.injEq, beq_self_eq_true, Bool.true_or, Bool.or_true, Bool.false_or, Bool.or_false, Bool.and_false, Bool.false_and, Bool.true_and, Bool.and_true, Bool.not_true, Bool.not_false, Bool.false_eq_true, if_true, if_false, ite_true, ite_false, true_and, and_true, and_assoc, String.reduceBEq, String.reduceEq, reduceIte, Bool.and_self, reduceCtorEq, false_and, and_false, exists_false, or_false, false_or, exists_const, iEnumS, iStr, iList, iTup, iRng1, iEnum, tFor_eq, tLc_eq, List.cons.injEq, wipe, not_true_eq_false, not_false_eq_true, upd_same, HO.ins.injEq, HO.tup.injEq, HO.lst.injEq, ofS_eq, lk_nil, lk_cons, pu_nil, pu_cons, sizeLine_eq, Nat.reduceLT, Nat.reduceLeDiff, Nat.reduceEqDiff, Nat.le_refl, decide_true, decide_false, tPr, dget_us, dput_us, vv_nil, vv_cons, RS.pk_nil, pk_one, RS.pk_cons, inr_eq, tDisp, tPairs, tBoolOwn, rBoolOwn, tBM, rAppend, ty_list, ty_str, rEqOwn, iEnumT, RS.tCallS, tM1, tDc_eq, tLock, tLockE, iKeys, tListEnum, rUpdate, tMkX0, tMkX1, tXfv, gSub, rSetL, List.getD_cons_zero, List.getD_cons_succ, tBreak, tCMethS, ClX.tCVal, tXfa, tIxOwn, tInOwn, tPropG, tMethK, tMethP, tListGen, tDGet2, tDPop2, rNeD0, intA_i, intA_b, tRevL, sFldAug, tPm0, tPm1, tDIn, tDNotIn, tDNewK, RS.tMethS, tForK, tKM, tKC, tLcK, tKM2, tKC2, tMethStar, tKCK2, tLk, tAug, ipI, tDig, tLcX, tKMX, tKCX]
    intro p hp
    have sp := hsT p hp
    refine isT_new (Ts := ["list", "tuple"]) (tyN_l h) hp ⟨_, rfl, ?_⟩
    rw [if_neg (by decide)]
    have h1 := sp _ _ h
    have hs1 := hs.same sp
    generalize upd H p (HO.tup (["list", "tuple"].map V.ty)) = H1 at sp h1 hs1 ⊢
    simp only [okB, Bool.and_eq_true, decide_eq_true_eq] at hok
    simp only [note] at hz q
    simp only [Str.length_append] at hz
    have pl := piled_le (ts := noteAll ds)
    rw [piled_eq] at pl
    have e1 : (Str.ofString "[").length = 1 := by decide +kernel
    have e2 : (Str.ofString "]").length = 1 := by decide +kernel
    have e3 : (Str.ofString ", ").length = 2 := by decide +kernel
    refine ⟨⟨_, rfl⟩, .inl ⟨⟨xs, SqL.of h1⟩, ?_⟩⟩
    refine note_items 3 (fun _ => rfl) (fun _ => rfl) (Same.refl _) hs1 hok.2 hok.1 (by simp only [PyData.depth] at hn; omega) (by omega) (fun i G lt sm => ⟨_, xs[i], SqL.of (sm _ _ h1), List.getElem?_eq_getElem lt⟩) (fun G sm => ⟨_, SqL.of (sm _ _ h1), Nat.le_refl _⟩) (fun i G x G' lt sm y => ⟨y.1, y.2 _ (SqL.of (sm _ _ h1))⟩) (fun L G sm eL => ?_)
    refine ⟨L, rfl, noteAll ds, .inl (SqL.of eL), ?_⟩
    rw [joinC, e3]
    refine ⟨by omega, ?_⟩
    refine ⟨_, tyN_l (sm _ _ h1), ?_⟩
    rw [if_pos (by decide)]
    simp only [Str.length_append]
    exact ⟨by omega, by omega, q _ (sp.trans sm)⟩
  | @tup a xs ds fp h hs =>
    simp only [tyN_t h, tRet, tRetN, tSeq, C8.tCut, tNext, tAsg, gName, gNil, gCons, gTup, gFld, tIfS, tIf, tAndV, tOrV, tNotV, tAnd, tOr, tNot, tB, tTest, tOp, tUn, tCB, tCons, tNil, tVar, tC, tChain, tDrop, RS.tCallG, RS.tMethG, tMakeG, RS.tCallK, RS.tMakeK, tEqOwn, rI, rI0, rU, add_ii, add_ss, add_rr, mul_ii, mul_si, mul_ri, RS.eq_ii, RS.eq_ss, eq_bb, eq_nn, eq_sn, eq_ns, eq_in, eq_ni, eq_bn, eq_nb, eq_is, eq_si, eq_rr, ne_ii, ne_ss, ne_bb, ne_nn, ne_sn, ne_ns, ne_in, ne_ni, ne_is, ne_si, ne_rr, in_ss, in_r, nin_ss, nin_r, len_s, len_r, RS.ix_s, RS.ix_r, sl_s, sl_r, is_eq, tyN_n, tyN_b, tyN_i, tyN_s, tru_b, tru_i, tru_n, tSl, tPart, tNoPart, tPar, tPar3, tFmtZ, tFmt, tJs, tDGet, sDPut, sFld, tFld, tTup, tLst, tNever, isB,
  L2.start, List.map_cons, List.map_nil, List.length_cons, List.length_nil, Nat.reduceAdd, Nat.reduceSub, Nat.sub_self, List.replicate_zero, List.replicate_succ, List.append_nil, List.cons_append, List.nil_append, List.getElem?_cons_zero, List.getElem?_cons_succ, List.set_cons_zero, List.set_cons_succ, Option.some.injEq, exists_eq_left, exists_eq_left', exists_and_left, V.bl.injEq, V.int.injEq, V.str.injEq, V.ref.injEq, beq_self_eq_true, Bool.true_or, Bool.or_true, Bool.false_or, Bool.or_false, Bool.and_false, Bool.false_and, Bool.true_and, Bool.and_true, Bool.not_true, Bool.not_false, Bool.false_eq_true, if_true, if_false, ite_true, ite_false, true_and, and_true, and_assoc, String.reduceBEq, String.reduceEq, reduceIte, Bool.and_self, reduceCtorEq, false_and, and_false, exists_false, or_false, false_or, exists_const, iEnumS, iStr, iList, iTup, iRng1, iEnum, tFor_eq, tLc_eq, List.cons.injEq, wipe, not_true_eq_false, not_false_eq_true, upd_same, HO.ins.injEq, HO.tup.injEq, HO.lst.injEq, ofS_eq, lk_nil, lk_cons, pu_nil, pu_cons, sizeLine_eq, Nat.reduceLT, Nat.reduceLeDiff, Nat.reduceEqDiff, Nat.le_refl, decide_true, decide_false, tPr, dget_us, dput_us, vv_nil, vv_cons, RS.pk_nil, pk_one, RS.pk_cons, inr_eq, tDisp, tPairs, tBoolOwn, rBoolOwn, tBM, rAppend, ty_list, ty_str, rEqOwn, iEnumT, RS.tCallS, tM1, tDc_eq, tLock, tLockE, iKeys, tListEnum, rUpdate, tMkX0, tMkX1, tXfv, gSub, rSetL, List.getD_cons_zero, List.getD_cons_succ, tBreak, tCMethS, ClX.tCVal, tXfa, tIxOwn, tInOwn, tPropG, tMethK, tMethP, tListGen, tDGet2, tDPop2, rNeD0, intA_i, intA_b, tRevL, sFldAug, tPm0, tPm1, tDIn, tDNotIn, tDNewK, RS.tMethS, tForK, tKM, tKC, tLcK, tKM2, tKC2, tMethStar, tKCK2, tLk, tAug, ipI, tDig, tLcX, tKMX, tKCX]
    intro p hp
    have sp := hsT p hp
    refine isT_new (Ts := ["list", "tuple"]) (tyN_t h) hp ⟨_, rfl, ?_⟩
    rw [if_neg (by decide)]
    have h1 := sp _ _ h
    have hs1 := hs.same sp
    generalize upd H p (HO.tup (["list", "tuple"].map V.ty)) = H1 at sp h1 hs1 ⊢
    simp only [okB, Bool.and_eq_true, decide_eq_true_eq] at hok
    simp only [note] at hz q
    simp only [Str.length_append] at hz
    have hl := hs.len
    have pl := piled_le (ts := noteAll ds)
    rw [piled_eq] at pl
    have e1 : (Str.ofString "(").length = 1 := by decide +kernel
    have e2 : (Str.ofString ")").length = 1 := by decide +kernel
    have e4 : (Str.ofString ",)").length = 2 := by decide +kernel
    have e3 : (Str.ofString ", ").length = 2 := by decide +kernel
    refine ⟨⟨_, rfl⟩, .inr ⟨⟨xs, SqT.of h1⟩, ?_⟩⟩
    refine note_items 3 (fun _ => rfl) (fun _ => rfl) (Same.refl _) hs1 hok.2 hok.1 (by simp only [PyData.depth] at hn; omega) (by omega) (fun i G lt sm => ⟨_, xs[i], SqT.of (sm _ _ h1), List.getElem?_eq_getElem lt⟩) (fun G sm => ⟨_, SqT.of (sm _ _ h1), Nat.le_refl _⟩) (fun i G x G' lt sm y => ⟨y.1, y.2 _ (SqT.of (sm _ _ h1))⟩) (fun L G sm eL => ?_)
    refine ⟨L, rfl, noteAll ds, .inl (SqL.of eL), ?_⟩
    rw [joinC, e3]
    refine ⟨by omega, ?_⟩
    refine ⟨_, tyN_t (sm _ _ h1), ?_⟩
    rw [if_neg (by decide)]
    simp only [Str.length_append]
    refine ⟨by omega, .inl ⟨xs, .inr (SqT.of (sm _ _ h1)), ?_⟩⟩
    rw [hl]
    have q := q _ (sp.trans sm)
    by_cases c1 : ds.length = 1
    · rw [if_pos (by simp [c1])]
      rw [if_pos (by simp [c1])] at q
      exact ⟨by omega, q⟩
    · rw [if_neg (by simp; omega)]
      rw [if_neg (by simp [c1])] at q
      exact ⟨by omega, q⟩
  | @dct a kvs D fp h hs na nd =>
    simp only [tyN_d h, tRet, tRetN, tSeq, C8.tCut, tNext, tAsg, gName, gNil, gCons, gTup, gFld, tIfS, tIf, tAndV, tOrV, tNotV, tAnd, tOr, tNot, tB, tTest, tOp, tUn, tCB, tCons, tNil, tVar, tC, tChain, tDrop, RS.tCallG, RS.tMethG, tMakeG, RS.tCallK, RS.tMakeK, tEqOwn, rI, rI0, rU, add_ii, add_ss, add_rr, mul_ii, mul_si, mul_ri, RS.eq_ii, RS.eq_ss, eq_bb, eq_nn, eq_sn, eq_ns, eq_in, eq_ni, eq_bn, eq_nb, eq_is, eq_si, eq_rr, ne_ii, ne_ss, ne_bb, ne_nn, ne_sn, ne_ns, ne_in, ne_ni, ne_is, ne_si, ne_rr, in_ss, in_r, nin_ss, nin_r, len_s, len_r, RS.ix_s, RS.ix_r, sl_s, sl_r, is_eq, tyN_n, tyN_b, tyN_i, tyN_s, tru_b, tru_i, tru_n, tSl, tPart, tNoPart, tPar, tPar3, tFmtZ, tFmt, tJs, tDGet, sDPut, sFld, tFld, tTup, tLst, tNever, isB,
  L2.start, List.map_cons, List.map_nil, List.length_cons, List.length_nil, Nat.reduceAdd, Nat.reduceSub, Nat.sub_self, List.replicate_zero, List.replicate_succ, List.append_nil, List.cons_append, List.nil_append, List.getElem?_cons_zero, List.getElem?_cons_succ, List.set_cons_zero, List.set_cons_succ, Option.some.injEq, exists_eq_left, exists_eq_left', exists_and_left, V.bl.injEq, V.int.injEq, V.str.injEq, V.ref.injEq, beq_self_eq_true, Bool.true_or, Bool.or_true, Bool.false_or, Bool.or_false, Bool.and_false, Bool.false_and, Bool.true_and, Bool.and_true, Bool.not_true, Bool.not_false, Bool.false_eq_true, if_true, if_false, ite_true, ite_false, true_and, and_true, and_assoc, String.reduceBEq, String.reduceEq, reduceIte, Bool.and_self, reduceCtorEq, false_and, and_false, exists_false, or_false, false_or, exists_const, iEnumS, iStr, iList, iTup, iRng1, iEnum, tFor_eq, tLc_eq, List.cons.injEq, wipe, not_true_eq_false, not_false_eq_true, upd_same, HO.ins.injEq, HO.tup.injEq, HO.lst.injEq, ofS_eq, lk_nil, lk_cons, pu_nil, pu_cons, sizeLine_eq, Nat.reduceLT, Nat.reduceLeDiff, Nat.reduceEqDiff, Nat.le_refl, decide_true, decide_false, tPr, dget_us, dput_us, vv_nil, vv_cons, RS.pk_nil, pk_one, RS.pk_cons, inr_eq, tDisp, tPairs, tBoolOwn, rBoolOwn, tBM, rAppend, ty_list, ty_str, rEqOwn, iEnumT, RS.tCallS, tM1, tDc_eq, tLock, tLockE, iKeys, tListEnum, rUpdate, tMkX0, tMkX1, tXfv, gSub, rSetL, List.getD_cons_zero, List.getD_cons_succ, tBreak, tCMethS, ClX.tCVal, tXfa, tIxOwn, tInOwn, tPropG, tMethK, tMethP, tListGen, tDGet2, tDPop2, rNeD0, intA_i, intA_b, tRevL, sFldAug, tPm0, tPm1, tDIn, tDNotIn, tDNewK, RS.tMethS, tForK, tKM, tKC, tLcK, tKM2, tKC2, tMethStar, tKCK2, tLk, tAug, ipI, tDig, tLcX, tKMX, tKCX]
    simp only [okB, Bool.and_eq_true, decide_eq_true_eq] at hok
    simp only [note] at hz q
    simp only [Str.length_append] at hz
    have hl := hs.len
    have pl := piled_le (ts := noteKv D)
    rw [piled_eq] at pl
    have e1 : (Str.ofString "{").length = 1 := by decide +kernel
    have e2 : (Str.ofString "}").length = 1 := by decide +kernel
    have e4 : (Str.ofString ": ").length = 2 := by decide +kernel
    have e3 : (Str.ofString ", ").length = 2 := by decide +kernel
    refine ⟨⟨_, rfl⟩, a, _, h, True.intro, fun od => ⟨od, .inl ⟨kvs, upd_same, ?_⟩⟩⟩
    have hlk : ∀ c o, c ≠ a → H c = some o → upd H a (.frz od (.dK kvs)) c = some o := fun c o n z => by rw [upd_ne n]; exact z
    have hs1 : TrD (upd H a (.frz od (.dK kvs))) kvs D fp := hs.but (p := a) (fun xs z => by rw [h] at z; cases z) hlk na
    refine lc_all kvs.length (fun i => .str (note ((D[i]?.getD (.none, .none)).1) ++ ": " ++ note ((D[i]?.getD (.none, .none)).2))) (by rw [sizeLine_eq]; omega) (fun i G lt sm => ⟨sm _ _ upd_same, lt⟩) (fun G sm => ⟨sm _ _ upd_same, Nat.le_refl _⟩) (fun i G x G' K lt sm y k => ?_) (fun L G hL sm eL => ?_)
    · obtain ⟨rfl, k0, v0, hk, rfl⟩ := y
      obtain ⟨x, v, d, f', e1, e2, t, _⟩ := hs1.get lt
      rw [hk] at e1
      cases e1
      have b1 := depth_kv e2
      have b3 : PyData.depthKv D < n := by simp only [PyData.depth] at hn; omega
      have b2 : (note (.str x) ++ ": " ++ note d).length ≤ (Str.join ", " (noteKv D)).length := len_mem (by rw [noteKv_map]; exact List.mem_map_of_mem (f := fun p : PyData × PyData => note p.1 ++ ": " ++ note p.2) (List.mem_of_getElem? e2))
      simp only [Str.length_append] at b2
      have ok2 := okKv_get hok.2 e2
      have hx : x.length ≤ 10000 := by simpa [okB] using ok2.1
      rw [e2] at k
      simp only [Option.getD_some, note] at k
      simp only [note] at b2
      refine ⟨rfl, ?_⟩
      simp only [kV, tRet, tRetN, tSeq, C8.tCut, tNext, tAsg, gName, gNil, gCons, gTup, gFld, tIfS, tIf, tAndV, tOrV, tNotV, tAnd, tOr, tNot, tB, tTest, tOp, tUn, tCB, tCons, tNil, tVar, tC, tChain, tDrop, RS.tCallG, RS.tMethG, tMakeG, RS.tCallK, RS.tMakeK, tEqOwn, rI, rI0, rU, add_ii, add_ss, add_rr, mul_ii, mul_si, mul_ri, RS.eq_ii, RS.eq_ss, eq_bb, eq_nn, eq_sn, eq_ns, eq_in, eq_ni, eq_bn, eq_nb, eq_is, eq_si, eq_rr, ne_ii, ne_ss, ne_bb, ne_nn, ne_sn, ne_ns, ne_in, ne_ni, ne_is, ne_si, ne_rr, in_ss, in_r, nin_ss, nin_r, len_s, len_r, RS.ix_s, RS.ix_r, sl_s, sl_r, is_eq, tyN_n, tyN_b, tyN_i, tyN_s, tru_b, tru_i, tru_n, tSl, tPart, tNoPart, tPar, tPar3, tFmtZ, tFmt, tJs, tDGet, sDPut, sFld, tFld, tTup, tLst, tNever, isB,
  L2.start, List.map_cons, List.map_nil, List.length_cons, List.length_nil, Nat.reduceAdd, Nat.reduceSub, Nat.sub_self, List.replicate_zero, List.replicate_succ, List.append_nil, List.cons_append, List.nil_append, List.getElem?_cons_zero, List.getElem?_cons_succ, List.set_cons_zero, List.set_cons_succ, Option.some.injEq, exists_eq_left, exists_eq_left', exists_and_left, V.bl.injEq, V.int.injEq, V.str.injEq, V.ref.injEq, beq_self_eq_true, Bool.true_or, Bool.or_true, Bool.false_or, Bool.or_false, Bool.and_false, Bool.false_and, Bool.true_and, Bool.and_true, Bool.not_true, Bool.not_false, Bool.false_eq_true, if_true, if_false, ite_true, ite_false, true_and, and_true, and_assoc, String.reduceBEq, String.reduceEq, reduceIte, Bool.and_self, reduceCtorEq, false_and, and_false, exists_false, or_false, false_or, exists_const, iEnumS, iStr, iList, iTup, iRng1, iEnum, tFor_eq, tLc_eq, List.cons.injEq, wipe, not_true_eq_false, not_false_eq_true, upd_same, HO.ins.injEq, HO.tup.injEq, HO.lst.injEq, ofS_eq, lk_nil, lk_cons, pu_nil, pu_cons, sizeLine_eq, Nat.reduceLT, Nat.reduceLeDiff, Nat.reduceEqDiff, Nat.le_refl, decide_true, decide_false, tPr, dget_us, dput_us, vv_nil, vv_cons, RS.pk_nil, pk_one, RS.pk_cons, inr_eq, tDisp, tPairs, tBoolOwn, rBoolOwn, tBM, rAppend, ty_list, ty_str, rEqOwn, iEnumT, RS.tCallS, tM1, tDc_eq, tLock, tLockE, iKeys, tListEnum, rUpdate, tMkX0, tMkX1, tXfv, gSub, rSetL, List.getD_cons_zero, List.getD_cons_succ, tBreak, tCMethS, ClX.tCVal, tXfa, tIxOwn, tInOwn, tPropG, tMethK, tMethP, tListGen, tDGet2, tDPop2, rNeD0, intA_i, intA_b, tRevL, sFldAug, tPm0, tPm1, tDIn, tDNotIn, tDNewK, RS.tMethS, tForK, tKM, tKC, tLcK, tKM2, tKC2, tMethStar, tKCK2, tLk, tAug, ipI, tDig, tLcX, tKMX, tKCX]
      refine ⟨_, rfl, x, rfl, hx, fun H' s' => ?_⟩
      dsimp only
      rw [add_ss]
      refine ⟨by rw [sizeLine_eq]; omega, v0, .inl ⟨kvs, .inr x, .inr ⟨od, s' _ _ (sm _ _ upd_same)⟩, rfl, (valV_at nd hk).symm⟩, _, rfl, d, f', t.same (sm.trans s'), ok2.2, by omega, by omega, fun H'' s'' => ?_⟩
      dsimp only
      rw [add_ss]
      exact ⟨by simp only [Str.length_append]; rw [sizeLine_eq]; omega, k H'' (s'.trans s'')⟩
    · have e : (List.range kvs.length).map (fun i => V.str (note ((D[i]?.getD (.none, .none)).1) ++ ": " ++ note ((D[i]?.getD (.none, .none)).2))) = (noteKv D).map V.str := by
        rw [hl, noteKv_map]
        refine List.ext_getElem (by simp) fun i h1 h2 => ?_
        simp at h1 h2
        simp [h1]
      have La := fresh_lock hL
      refine ⟨sm _ _ upd_same, L, rfl, noteKv D, .inl (SqL.of (by rw [upd_ne La.1, eL, e])), ?_⟩
      rw [joinC, e3]
      simp only [Str.length_append]
      exact ⟨by omega, by omega, by omega, q _ (unlock h sm)⟩
end
open PySem PySem.Spec L2 RS LamX
section
variable {g : Wd} {fa : Addr} {fd : FuncData} {CI CE : Addr}
/-- the action raises InvalidText, and the position is told; or what it returns is told -/
def TTt (CI : Addr) : Addr → Str → (XK → Hp → VK → Prop) → Hp → VK → Prop := fun c' q tl H Q =>
  ∀ (H0 : Hp) (E : XK) (K : VK), Same H H0 → (∀ cls d H', (cls = .ref CI ∧ ∃ dd v, d = some dd ∧ XdAt H' dd [("position", v)] ∧ ∀ p H'', Same H' H'' → H'' p = some (.tup [.str "text", v]) → Q (.ref p) H'') → E cls d H') → (∀ v H', (∀ p H'', H' p = none → Same H' H'' → H'' p = some (.lst [v]) → Q (.ref p) H'') → K v H') → tl E H0 K
theorem sc_l_told : FnScope ["_law_action", "_law_caught", "_law_result", "error"] ["_law_action"] (defScope s_l_told) := ⟨rfl, rfl, rfl, by decide +kernel, rfl, by decide +kernel, by decide +kernel⟩
theorem ok_told (F : Df g.K "_law_told" "_law_told" s_l_told fa fd .none) (T : Txt g) (hmg : g.mg "_law_told" = some (.ref fa)) (hb : Binds g.K fd ["_law_action"] [])
    (V_ShelfError : g.mg "ShelfError" = some (.ref CE)) (V_InvalidText : Gv g "InvalidText" (.ref CI)) (XC : ExcC g.K CI) (XFC : XfC g.K CI) (XFN : PySem.W.findIn g.K (.ref CI) "position" = some none)
    (KNN : PySem.W.kitOne g.K (.ref CI) (.ref CI) = some true) (EX : PySem.W.exmOne g.K (.ref CI) (.ref CE) = some true) : Told g 52 "_law_told" (TTt CI) := by
  refine ⟨s_l_told, fa, fd, "_law_action", ["_law_action", "_law_caught", "_law_result", "error"], hmg, F, hb, sc_l_told, rfl, .inl rfl, by decide, by decide, fun cdv A outer s H Q f c' q tl hr act hc h => ?_⟩
  have N_ShelfError : Names (cx g ["_law_action", "_law_caught", "_law_result", "error"] "_law_told" s_l_told fa cdv A outer s H fun _ _ _ => False) "ShelfError" (.ref CE) := ⟨rfl, by decide, .inl V_ShelfError⟩
  refine ⟨_, (pss_cons (ps_asg (pe_tup (pa_cons pe_non (pa_cons pe_non pa_nil))) (g_tup (K := g.K) (n := 2) (pgs_cons (pg_name (i := 1) sc_l_told.nd rfl (.inl rfl)) (pgs_cons (pg_name (i := 2) sc_l_told.nd rfl (.inl rfl)) pgs_nil))))
      (pss_cons (ps_try_keep1 (i := 3) rfl rfl rfl sc_l_told.nd rfl rfl N_ShelfError tkD (fun W pn xe tk1 po1 => (pss_one (ps_set (i := 2) sc_l_told.nd rfl (Or.inl rfl) (act _ _ _ _ _ tk1)))) (fun a oe cls d pn hz hf => (pss_one (ps_set (i := 1) sc_l_told.nd rfl (Or.inl rfl) (pv 3)))))
      (pss_cons (ps_if (pt_cmpR op_isN (pv 1) pe_non (nomark _)) (pss_one (ps_ret (pe_lst (pa_cons (pv 2) pa_nil)))) pss_nil)
      (pss_one (ps_ret (pe_ifExp (pt_val (pe_callB (c_isW (K := g.K)) (by rfl) T.b_isinstance bb_isinstance (pa_cons (pv 1) (pa_cons (e_g V_InvalidText) pa_nil)))) (pe_tup (pa_cons pe_str (pa_cons (pe_xfa (g := g) (pv 1)) pa_nil))) (pe_tup (pa_cons pe_str pa_nil)))))))), ?_⟩
  walk_at "sx"
  intro p hp
  have s1 := same_upd (o := HO.tup [.non, .non]) hp
  refine ⟨_, SqT.of upd_same, rfl, _, _, rfl, _, _, rfl, rfl, s1 _ _ hc, h _ _ _ s1 (fun cls d H' hx => ?_) (fun x X k => ?_)⟩
  · obtain ⟨rfl, dd, v, rfl, hx, k⟩ := hx
    refine ⟨true, EX, fun _ => ⟨CI, rfl, fun a ha => ?_⟩, fun z => by cases z⟩
    walk_at "sx"
    intro ha2
    have s2 := same_upd (o := exv a CI (some dd)) ha
    refine ⟨a, CI, some dd, _, _, true, rfl, XC, .own CI, upd_same, fun d e => by cases e; exact ⟨_, hx.same s2⟩, KNN, true, rfl, ?_⟩
    rw [if_pos rfl]
    exact ⟨CI, dd, upd_same, _, hx.same s2, v, by rw [lk_cons, if_pos rfl], XFC, XFN, fun p hp => k p _ (s2.trans (same_upd hp)) upd_same⟩
  · rw [if_pos (by decide)]
    exact fun p hp => k p _ hp (same_upd hp) upd_same
end
theorem rkey_back {r x : List Nat} {k : Nat} (h : rkey r = .ok x k) : (sno (S x)).cps.toList = r.take k := by
  unfold rkey at h
  cases hx : rstr 200 r with
  | bad i => rw [hx] at h; cases h
  | ok y i =>
    rw [hx] at h
    simp only at h
    split at h
    · cases h
    · cases h
      rw [← shL_sno]; exact rstr_back hx
theorem rdeed_back {L : Nat} {r : List Nat} {p : Rdd} {k : Nat} (h : rdeed L r = .ok p k) (hl : r.length ≤ 10000) : (rdN p).cps.toList = r.take k ∧ DP p := by
  unfold rdeed at h
  split at h
  · cases hx : rex [112, 117, 116, 32] r with
    | bad i => rw [hx] at h; cases h
    | ok u i =>
      rw [hx] at h
      simp only at h
      have t1 := rex_take hx
      have l1 := (rex_len hx).1
      simp only [List.length_cons, List.length_nil] at l1
      subst l1
      cases hy : rkey (r.drop 4) with
      | bad i => rw [hy] at h; cases h
      | ok x i =>
        rw [hy] at h
        simp only at h
        have t2 := rkey_back hy
        have l2 := rkey_len hy
        cases hz : rex [32] (r.drop (4 + i)) with
        | bad j => rw [hz] at h; cases h
        | ok u2 j =>
          rw [hz] at h
          simp only at h
          have t3 := rex_take hz
          have l3 := (rex_len hz).1
          simp only [List.length_cons, List.length_nil] at l3
          subst l3
          cases hv : rv L 20 (r.drop (4 + i + 1)) with
          | bad j => rw [hv] at h; cases h
          | ok d j =>
            rw [hv] at h
            simp only [Res.map, Res.up] at h
            cases h
            have hb := rv_back 20 _ d j hv (by rw [List.length_drop]; omega)
            have t4 := hb.tx
            refine ⟨?_, l2.2.2.2, l2.2.2.1, fun e he => ?_⟩
            · rw [List.take_add (i := 4 + i + 1), List.take_add (i := 4 + i), List.take_add (i := 4), t1, ← t2, t3, ← t4]
              simp only [rdN, tl_app, shL, sgn "put" [112, 117, 116], sgn " " [32], List.append_assoc, List.cons_append, List.nil_append]
            · cases he
              refine ⟨hb.ok, hb.dp, ?_⟩
              rw [t4, List.length_take, List.length_drop]; omega
  · cases hx : rex [100, 114, 111, 112, 32] r with
    | bad i => rw [hx] at h; cases h
    | ok u i =>
      rw [hx] at h
      simp only at h
      have t1 := rex_take hx
      have l1 := (rex_len hx).1
      simp only [List.length_cons, List.length_nil] at l1
      subst l1
      cases hy : rkey (r.drop 5) with
      | bad i => rw [hy] at h; cases h
      | ok x i =>
        rw [hy] at h
        simp only [Res.map, Res.up] at h
        cases h
        have t2 := rkey_back hy
        have l2 := rkey_len hy
        refine ⟨?_, l2.2.2.2, l2.2.2.1, fun e he => by cases he⟩
        rw [List.take_add (i := 5), t1, ← t2]
        simp only [rdN, tl_app, sgn "drop" [100, 114, 111, 112], sgn " " [32], List.append_assoc, List.cons_append, List.nil_append]
theorem rdeeds_back {L : Nat} : ∀ {m : Nat} {r : List Nat} {ps : List Rdd} {k : Nat}, rdeeds L m r = .ok ps k → r.length ≤ 10000 → (Str.join ", " (ps.map rdN)).cps.toList = r ∧ (∀ p ∈ ps, DP p) ∧ 1 ≤ ps.length ∧ ps.length ≤ r.length
  | 0, r, ps, k, h, _ => by simp [rdeeds] at h
  | m + 1, r, ps, k, h, hl => by
    simp only [rdeeds] at h
    cases hx : rdeed L r with
    | bad i => rw [hx] at h; cases h
    | ok p i =>
      rw [hx] at h
      simp only at h
      have hb := rdeed_back hx hl
      have il := rdeed_len hx
      split at h
      · cases hy : rex [44, 32] (r.drop i) with
        | bad j => rw [hy] at h; cases h
        | ok u j =>
          rw [hy] at h
          simp only at h
          have t2 := rex_take hy
          have l2 := (rex_len hy).1
          simp only [List.length_cons, List.length_nil] at l2
          subst l2
          cases hz : rdeeds L m (r.drop (i + 2)) with
          | bad j => rw [hz] at h; cases h
          | ok qs j =>
            rw [hz] at h
            simp only [Res.map, Res.up] at h
            cases h
            obtain ⟨h1, h2, h3, h4⟩ := rdeeds_back hz (by rw [List.length_drop]; omega)
            have l3 := (rex_len hy).2
            simp only [List.length_cons, List.length_nil, List.length_drop] at l3 h4
            refine ⟨?_, fun q hq => ?_, by simp, by simp only [List.length_cons]; omega⟩
            · obtain ⟨q, qs, rfl⟩ : ∃ q qs', qs = q :: qs' := by
                cases qs with
                | nil => simp at h3
                | cons q qs => exact ⟨q, qs, rfl⟩
              have ej : (Str.join ", " ((p :: q :: qs).map rdN)).cps.toList = (rdN p).cps.toList ++ 44 :: 32 :: (Str.join ", " ((q :: qs).map rdN)).cps.toList := by
                simp only [List.map_cons, Str.join, tl_app, sgn ", " [44, 32], List.append_assoc, List.cons_append, List.nil_append]
              rw [ej, h1, hb.1]
              conv => rhs; rw [← List.take_append_drop i r, ← List.take_append_drop 2 (r.drop i), t2, List.drop_drop]
              simp
            · rcases List.mem_cons.mp hq with rfl | z
              · exact hb.2
              · exact h2 q z
      · split at h
        · rename_i e
          cases h
          refine ⟨?_, by simp; exact hb.2, by simp, by simp; omega⟩
          simp only [List.map_cons, List.map_nil, Str.join]
          rw [hb.1]
          have := congrArg List.length e
          rw [List.length_drop] at this
          simp only [List.length_nil] at this
          exact List.take_of_length_le (by omega)
        · cases h
theorem hu64 {X : Cx} {k : Nat} (hr : Rm k X) : X.A.units + 64 < cLine := by have := hr.room.un; omega
theorem o_eqD {X : Cx} {k : Nat} {K : PySem.W.Frag} (hr : Rm k X) (hK : X.K = K := by rfl) : OpR X (compareOp .Eq) (rEqD K) := by
  subst hK; exact op_eqD (hu64 hr)
/-- what is told of a text: its first wrong position, or what was read -/
def ToldR (t : List Nat) (dd : Bool) (G : Hp) (r : Addr) : Prop := match wpos t.length dd t with
  | some k => G r = some (.tup [.str "text", .int (k : Nat)])
  | none => ∃ v, G r = some (.lst [v]) ∧ if dd = true then ∃ L vs ps k, v = .ref L ∧ G L = some (.lst vs) ∧ Paired (fun v p => ∃ fp, RdAt G v p fp) vs ps ∧ rdeeds t.length (t.length + 1) t = .ok ps k
    else ∃ d fp, Tr G v d fp ∧ rv t.length 20 t = .ok d t.length
def tx (k : Nat) : PyData := .tuple [.str "text", .int (k : Nat)]
theorem tx_sh (k : Nat) : SeqAt.shaped (tx k) = true := by
  simp [tx, SeqAt.shaped, PyData.canLay0, PyData.canLayAll0, PyData.depth, PyData.depthAll]
  decide +kernel
section
variable {g : Wd} {fa : Addr} {fd : FuncData} {CD CI c P : Addr} {TS : List (Addr × Str)}
theorem sc_l_right : FnScope ["_law_text", "_law_is_deeds", "_law_due", "_law_told_here"] ["_law_text", "_law_is_deeds"] (defScope s_l_right) := ⟨rfl, rfl, rfl, by decide +kernel, rfl, by decide +kernel, by decide +kernel⟩
def sp_right (TS : List (Addr × Str)) : Sp := S2 fun a b H Q _ => ∃ t dd, a = .str (S t) ∧ b = .bl dd ∧ t.length ≤ 10000 ∧ (∀ x ∈ t, pe x = true) ∧ Tabs TS H ∧ ∀ G, FrT [] H G → Tabs TS G → Q (.bl true) G
theorem ok_right (F : DfC g.K "_law_right" "_law_right" s_l_right fa fd c) (T : Txt g) (TOLD : Told g 52 "_law_told" (TTt CI)) (L_l_right : LamT g TS c P "_law_right") (F_l_wrong : Kn g "_law_wrong" 48 ["_law_text", "_law_is_deeds"] [] sp_wrg) (F_is_notation : Kn g "is_notation" 48 ["value"] [] sp_isn)
    (F_notation : Kn g "notation" 25 ["value"] [] sp_notn) (F_deeds_text : Kn g "deeds_text" 25 ["deeds"] [] sp_dtext) (F_read_notation : Kn g "read_notation" 47 ["text"] [] (sp_rnot CI)) (F_read_deeds : Kn g "read_deeds" 48 ["text"] [] (sp_rdeeds CI)) : FnG g 54 fa fd ["_law_text", "_law_is_deeds"] (sp_right TS) := by
  refine F.ok sc_l_right (fun vs H Q E h => S2.len h) (fun A outer s H vs Q E hr h => ?_)
  obtain ⟨_, _, rfl, t, dd, rfl, rfl, tl, tp, tb, q⟩ := h
  refine ⟨_, (pss_mid (ps_set (i := 2) sc_l_right.nd rfl (Or.inl rfl) (pe_callG F_l_wrong (hr.mono (by first | decide | omega)) tkD (pa_cons (pv 0) (pa_cons (pv 1) pa_nil))))
      (pss_mid (ps_set (i := 3) sc_l_right.nd rfl (Or.inl rfl) (pe_lam TOLD L_l_right (hr.mono (by first | decide | omega)) (by decide +kernel) (fun _ _ _ _ _ _ _ hr => (pe_ifExp (t_truth (K := g.K) (pv 1)) (pe_callG F_read_deeds (Rm.mono (Rm.mk hr.room hr.gd) (by first | decide | omega)) takesL (pa_cons (pv 0) pa_nil)) (pe_callG F_read_notation (Rm.mono (Rm.mk hr.room hr.gd) (by first | decide | omega)) takesL (pa_cons (pv 0) pa_nil))))))
      (pss_mid (ps_if (PW.pt (pw_and (pt_not (t_truth (K := g.K) (pv 1))) (pw_and1 (pt_cmpR (o_ne (K := g.K) hr) (pe_callG F_is_notation (hr.mono (by first | decide | omega)) tkD (pa_cons (pv 0) pa_nil)) (pe_cmpR op_isN (pv 2) pe_non (nomark _)) (nomark _))))) (pss_one (ps_ret pe_bl)) pss_nil)
      (pss_cons (ps_if (pt_cmpR op_notN (pv 2) pe_non (nomark _)) (pss_one (ps_ret (pe_cmpR (o_eqD (K := g.K) hr) (pv 3) (pe_tup (pa_cons pe_str (pa_cons (pv 2) pa_nil))) (nomark _)))) pss_nil)
      (pss_one (ps_ret (pe_and (pe_callB (c_is "list") (by rfl) T.b_isinstance bb_isinstance (pa_cons (pv 3) (pa_cons (pe_bltn (v := .ty "list") rfl T.b_list bb_list rfl) pa_nil))) (pe_one (pe_cmpR (o_eq (K := g.K) hr) (pe_ifExp (t_truth (K := g.K) (pv 1)) (pe_callG F_deeds_text (hr.mono (by first | decide | omega)) tkD (pa_cons (pe_ix (o_ix (K := g.K)) (pv 3) pe_int (fun _ _ => rfl)) pa_nil)) (pe_callG F_notation (hr.mono (by first | decide | omega)) tkD (pa_cons (pe_ix (o_ix (K := g.K)) (pv 3) pe_int (fun _ _ => rfl)) pa_nil))) (pv 0) (nomark _)))))))))), ?_⟩
  refine mid_one [some (.str (S t)), some (.bl dd), some (optV (wpos t.length dd t)), none] (fun G => Same H G) ?_ ?_
  · walk_at "sx"
    refine ⟨_, _, rfl, t, dd, rfl, rfl, by omega, tp, fun G sG => ?_⟩
    rw [wpos_L (by omega)]
    exact ⟨rfl, sG⟩
  intro G1 s1
  refine mid_at (fun σ G => ∃ r, σ = [some (.str (S t)), some (.bl dd), some (optV (wpos t.length dd t)), some (.ref r)] ∧ FrT [] H G ∧ Tabs TS G ∧ ToldR t dd G r) ?_ ?_
  · simp only [tLamG, tRet, tRetN, tSeq, C8.tCut, tNext, tAsg, gName, gNil, gCons, gTup, gFld, tIfS, tIf, tAndV, tOrV, tNotV, tAnd, tOr, tNot, tB, tTest, tOp, tUn, tCB, tCons, tNil, tVar, tC, tChain, tDrop, RS.tCallG, RS.tMethG, tMakeG, RS.tCallK, RS.tMakeK, tEqOwn, rI, rI0, rU, add_ii, add_ss, add_rr, mul_ii, mul_si, mul_ri, RS.eq_ii, RS.eq_ss, eq_bb, eq_nn, eq_sn, eq_ns, eq_in, eq_ni, eq_bn, eq_nb, eq_is, eq_si, eq_rr, ne_ii, ne_ss, ne_bb, ne_nn, ne_sn, ne_ns, ne_in, ne_ni, ne_is, ne_si, ne_rr, in_ss, in_r, nin_ss, nin_r, len_s, len_r, RS.ix_s, RS.ix_r, sl_s, sl_r, is_eq, tyN_n, tyN_b, tyN_i, tyN_s, tru_b, tru_i, tru_n, tSl, tPart, tNoPart, tPar, tPar3, tFmtZ, tFmt, tJs, tDGet, sDPut, sFld, tFld, tTup, tLst, tNever, isB,
  L2.start, List.map_cons, List.map_nil, List.length_cons, List.length_nil, Nat.reduceAdd, Nat.reduceSub, Nat.sub_self, List.replicate_zero, List.replicate_succ, List.append_nil, List.cons_append, List.nil_append, List.getElem?_cons_zero, List.getElem?_cons_succ, List.set_cons_zero, List.set_cons_succ, Option.some.injEq, exists_eq_left, exists_eq_left', exists_and_left, V.bl.injEq, V.int.injEq, V.str.injEq, V.ref.injEq, beq_self_eq_true, Bool.true_or, Bool.or_true, Bool.false_or, Bool.or_false, Bool.and_false, Bool.false_and, Bool.true_and, Bool.and_true, Bool.not_true, Bool.not_false, Bool.false_eq_true, if_true, if_false, ite_true, ite_false, true_and, and_true, and_assoc, String.reduceBEq, String.reduceEq, reduceIte, Bool.and_self, reduceCtorEq, false_and, and_false, exists_false, or_false, false_or, exists_const, iEnumS, iStr, iList, iTup, iRng1, iEnum, tFor_eq, tLc_eq, List.cons.injEq, wipe, not_true_eq_false, not_false_eq_true, upd_same, HO.ins.injEq, HO.tup.injEq, HO.lst.injEq, ofS_eq, lk_nil, lk_cons, pu_nil, pu_cons, sizeLine_eq, Nat.reduceLT, Nat.reduceLeDiff, Nat.reduceEqDiff, Nat.le_refl, decide_true, decide_false, tPr, dget_us, dput_us, vv_nil, vv_cons, RS.pk_nil, pk_one, RS.pk_cons, inr_eq, tDisp, tPairs, tBoolOwn, rBoolOwn, tBM, rAppend, ty_list, ty_str, rEqOwn, iEnumT, RS.tCallS, tM1, tDc_eq, tLock, tLockE, iKeys, tListEnum, rUpdate, tMkX0, tMkX1, tXfv, gSub, rSetL, List.getD_cons_zero, List.getD_cons_succ, tBreak, tCMethS, ClX.tCVal, tXfa, tIxOwn, tInOwn, tPropG, tMethK, tMethP, tListGen, tDGet2, tDPop2, rNeD0, intA_i, intA_b, tRevL, sFldAug, tPm0, tPm1, tDIn, tDNotIn, tDNewK, RS.tMethS, tForK, tKM, tKC, tLcK, tKM2, tKC2, tMethStar, tKCK2, tLk, tAug, ipI, tDig, tLcX, tKMX, tKCX]
    refine ⟨RS.Tabs.same tb s1, fun c' H1 eN t1 hc => ?_⟩
    have f1 : FrT [] H H1 := (FrT.of s1).trans (FrT.ofN eN)
    intro H0 E' K' s0 hE hK
    have bad : ∀ {k : Nat}, wpos t.length dd t = some k → BadV CI H0 (.int (k : Nat)) E' := fun {k} ew dy H' s' e => hE _ _ _ ⟨rfl, dy, _, rfl, .inl e, fun p X s2 ep => by
      have sA := s0.trans (s'.trans s2)
      refine ⟨p, rfl, f1.trans (FrT.of sA), RS.Tabs.same t1 sA, ?_⟩
      unfold ToldR
      rw [ew]
      exact ep⟩
    cases dd with
    | true =>
      rw [if_pos rfl]
      refine ⟨_, rfl, t, rfl, by omega, ?_⟩
      cases hx : rdeeds t.length (t.length + 1) t with
      | bad k => exact bad (by simp only [wpos, if_true]; rw [hx])
      | ok ps k =>
        intro L vs fa' H' hL s' eL pr
        refine hK _ _ fun p X np s2 ep => ?_
        have sA := s0.trans (s'.trans s2)
        refine ⟨p, rfl, f1.trans (FrT.of sA), RS.Tabs.same t1 sA, ?_⟩
        unfold ToldR
        rw [show wpos t.length true t = none from by simp only [wpos, if_true]; rw [hx]]
        refine ⟨_, ep, ?_⟩
        rw [if_pos rfl]
        exact ⟨L, vs, ps, k, rfl, s2 _ _ eL, prd_imp pr fun v p ⟨fp, h, _⟩ => ⟨fp, h.same s2⟩, hx⟩
    | false =>
      rw [if_neg (by simp)]
      refine ⟨_, rfl, .inl ⟨t, rfl, by omega, ?_⟩⟩
      cases hx : wpos t.length false t with
      | some k => exact bad hx
      | none =>
        intro d v fp H' hr s' tv
        refine hK _ _ fun p X np s2 ep => ?_
        have sA := s0.trans (s'.trans s2)
        refine ⟨p, rfl, f1.trans (FrT.of sA), RS.Tabs.same t1 sA, ?_⟩
        unfold ToldR
        rw [hx]
        refine ⟨_, ep, ?_⟩
        rw [if_neg (by simp)]
        exact ⟨d, fp, tv.same s2, hr⟩
  rintro _ G2 ⟨r, rfl, f2, t2, hr2⟩
  refine mid_one [some (.str (S t)), some (.bl dd), some (optV (wpos t.length dd t)), some (.ref r)] (fun G => Same G2 G) ?_ ?_
  · walk_at "sx"
    cases dd with
    | true => rw [if_neg (by simp)]; exact Same.refl _
    | false =>
      rw [if_pos (by simp)]
      refine ⟨_, rfl, .inl ⟨t, rfl, by omega, fun X sX => ?_⟩⟩
      dsimp only
      rw [RS.ne_bb]
      refine ⟨_, rfl, ?_⟩
      have : (wpos t.length false t).isNone = decide (optV (wpos t.length false t) = V.non) := by
        cases wpos t.length false t <;> simp [optV]
      rw [if_neg (by rw [this]; simp)]
      exact sX
  intro G3 s3
  have fin : ∀ {X}, Same G2 X → Q (.bl true) X := fun s => q _ (f2.trans (FrT.of s)) (RS.Tabs.same t2 s)
  unfold ToldR at hr2
  cases hw : wpos t.length dd t with
  | some k =>
    rw [hw] at hr2
    simp only [optV]
    walk_at "sx"
    intro p hp
    have s4 := same_upd (o := HO.tup [.str "text", .int (k : Nat)]) hp
    refine ⟨tx k, tx k, .tup (SqT.of (s4 _ _ (s3 _ _ hr2))) (.cons (.str _) (.cons (.int _) .nil)), .tup (SqT.of upd_same) (.cons (.str _) (.cons (.int _) .nil)), tx_sh k, tx_sh k, ?_⟩
    rw [SeqAt.eqv_refl _ (SeqAt.canLay_of_shaped (tx_sh k))]
    exact fin (s3.trans s4)
  | none =>
    rw [hw] at hr2
    obtain ⟨v, er, hr2⟩ := hr2
    have er3 := s3 _ _ er
    simp only [optV]
    walk_at "sx"
    refine ⟨_, tyN_l er3, ?_⟩
    rw [if_pos (by decide)]
    cases dd with
    | true =>
      rw [if_pos rfl] at hr2
      obtain ⟨L, vs, ps, k, rfl, eL, pr, hx⟩ := hr2
      obtain ⟨h1, h2, h3, h4⟩ := rdeeds_back hx (by omega)
      have hj : Str.join ", " (ps.map rdN) = S t := str_cps h1
      rw [if_pos rfl]
      refine ⟨_, .inl (SqL.of er3), _, rfl, ?_⟩
      refine ⟨_, rfl, L, vs, ps, rfl, s3 _ _ eL, prd_imp pr fun v p ⟨fp, h⟩ => ⟨fp, h.same s3⟩, h2, h3, by omega, by rw [hj, S_len]; omega, fun X sX => ?_⟩
      dsimp only
      rw [hj, RS.eq_ss]
      rw [decide_eq_true rfl]
      exact fin (s3.trans sX)
    | false =>
      rw [if_neg (by simp)] at hr2
      obtain ⟨d, fp, tv, hx⟩ := hr2
      have hb := rv_back 20 _ _ _ hx (by omega)
      have tx := hb.tx
      rw [List.take_of_length_le (Nat.le_refl _)] at tx
      have hj : note d = S t := str_cps tx
      rw [if_neg (by simp)]
      refine ⟨_, .inl (SqL.of er3), _, rfl, ?_⟩
      refine ⟨_, rfl, d, fp, tv.same s3, hb.ok, hb.dp, by rw [tx]; omega, fun X sX => ?_⟩
      dsimp only
      rw [hj, RS.eq_ss]
      rw [decide_eq_true rfl]
      exact fin (s3.trans sX)
end
theorem esc_pe : ∀ {x : List Nat}, (∀ c ∈ x, pe c = true) → ∀ c ∈ x.flatMap esc, pe c = true := fun {x} h c hc => by
  obtain ⟨a, ha, hc⟩ := List.mem_flatMap.mp hc
  have := h a ha
  unfold esc at hc
  split at hc
  · simp only [List.mem_cons, List.not_mem_nil, or_false] at hc
    rcases hc with rfl | rfl <;> decide
  split at hc
  · simp only [List.mem_cons, List.not_mem_nil, or_false] at hc
    rcases hc with rfl | rfl <;> decide
  split at hc
  · simp only [List.mem_cons, List.not_mem_nil, or_false] at hc
    rcases hc with rfl | rfl <;> decide
  · simp only [List.mem_cons, List.not_mem_nil, or_false] at hc
    rw [hc]; exact this
theorem str_pe {x : Str} (h : asc x = true) : ∀ c ∈ shL note (.str x), pe c = true := fun c hc => by
  have e3 : shL note (.str x) = 34 :: (x.cps.toList.flatMap esc ++ [34]) := by simp only [shL, note]; rfl
  rw [e3] at hc
  unfold asc at h
  rw [List.all_eq_true] at h
  simp only [List.mem_cons, List.mem_append, List.not_mem_nil, or_false] at hc
  rcases hc with rfl | hc | rfl
  · decide
  · exact esc_pe h c hc
  · decide
theorem dig_pe {c : Nat} (h : 48 ≤ c ∧ c ≤ 57) : pe c = true := by
  simp only [pe, Bool.or_eq_true, Bool.and_eq_true, decide_eq_true_eq]; omega
mutual
theorem note_pe : ∀ d : PyData, gB d = true → ∀ c ∈ shL note d, pe c = true
  | .none, _ => by rw [shL_none rnote]; decide
  | .bool b, _ => by rw [shL_bool rnote]; cases b <;> decide
  | .int i, _ => fun c hc => by
    rw [shL_int rnote] at hc
    unfold sgI at hc
    split at hc
    · rcases List.mem_cons.mp hc with rfl | h
      · decide
      · exact dig_pe (numL_dig _ c h)
    · exact dig_pe (numL_dig _ c hc)
  | .str x, h => by
    simp only [gB, Bool.and_eq_true] at h
    exact str_pe h.2
  | .list ds, h => by
    simp only [gB, Bool.and_eq_true] at h
    have ih := notes_pe ds h.2
    cases ds with
    | nil => rw [shL_list0 rnote]; decide
    | cons d ds =>
      rw [shL_list rnote]
      simp only [tls, List.mem_cons, List.mem_append, List.not_mem_nil, or_false] at ih ⊢
      intro c hc
      rcases hc with rfl | hc | hc | rfl
      · decide
      · exact ih c (.inr (.inr (.inl hc)))
      · exact ih c (.inr (.inr (.inr hc)))
      · decide
  | .tuple ds, h => by
    simp only [gB, Bool.and_eq_true] at h
    have ih := notes_pe ds h.2
    cases ds with
    | nil => rw [shL_tup0 rnote]; decide
    | cons d ds =>
      rw [shL_tup rnote]
      simp only [tls, List.mem_cons, List.mem_append, List.not_mem_nil, or_false] at ih ⊢
      intro c hc
      rcases hc with rfl | hc | hc | hc
      · decide
      · exact ih c (.inr (.inr (.inl hc)))
      · exact ih c (.inr (.inr (.inr hc)))
      · unfold clT at hc
        split at hc <;> simp only [List.mem_cons, List.not_mem_nil, or_false] at hc
        · rcases hc with rfl | rfl <;> decide
        · rw [hc]; decide
  | .dict D, h => by
    simp only [gB, Bool.and_eq_true] at h
    have ih := noteKv_pe D h.2
    cases D with
    | nil => rw [shL_dict0 rnote]; decide
    | cons p D =>
      obtain ⟨k, d⟩ := p
      rw [shL_dict rnote]
      simp only [tlK, List.mem_cons, List.mem_append, List.not_mem_nil, or_false] at ih ⊢
      intro c hc
      rcases hc with rfl | hc | hc | rfl
      · decide
      · exact ih c (.inr (.inr (.inl hc)))
      · exact ih c (.inr (.inr (.inr hc)))
      · decide
theorem notes_pe : ∀ ds : List PyData, gAll ds = true → ∀ c ∈ tls note ds, pe c = true
  | [], _ => by simp [tls]
  | d :: ds, h => by
    simp only [gAll, Bool.and_eq_true] at h
    have h1 := note_pe d h.1
    have h2 := notes_pe ds h.2
    simp only [tls, List.mem_cons, List.mem_append]
    intro c hc
    rcases hc with rfl | rfl | hc | hc
    · decide
    · decide
    · exact h1 c hc
    · exact h2 c hc
theorem noteKv_pe : ∀ D : List (PyData × PyData), gKv D = true → ∀ c ∈ tlK note D, pe c = true
  | [], _ => by simp [tlK]
  | (k, d) :: D, h => by
    simp only [gKv, Bool.and_eq_true] at h
    have h1 := note_pe d h.1.2
    have h2 := noteKv_pe D h.2
    obtain ⟨x, rfl⟩ := gkey_str h.1.1
    have h0 := h.1.1
    simp only [gkeyB, Bool.and_eq_true] at h0
    have h0 := str_pe h0.2
    simp only [tlK, kvL, List.mem_cons, List.mem_append]
    intro c hc
    rcases hc with rfl | rfl | (hc | rfl | rfl | hc) | hc
    · decide
    · decide
    · exact h0 c hc
    · decide
    · decide
    · exact h1 c hc
    · exact h2 c hc
end
/-- a text that may be asked -/
def tOk (x : Str) : Bool := decide (x.cps.toList.length ≤ 10000) && x.cps.toList.all pe
theorem tOk.go {x : Str} (h : tOk x = true) : x.cps.toList.length ≤ 10000 ∧ ∀ c ∈ x.cps.toList, pe c = true := by
  simp only [tOk, Bool.and_eq_true, decide_eq_true_eq, List.all_eq_true] at h
  exact h
/-- a comprehension that keeps nothing, the tables growing -/
theorem lc_noneT {J : It} {g : TG} {tt : TT} {te : TE} {vs : List Nat} {σ : L2.St} {H1 : Hp} {Qf : VK} {T : List (Addr × Str)} (n : Nat) (t0 : Tabs T H1)
    (hgo : ∀ i H, i < n → FrT [] H1 H → J.go i H) (hst : ∀ H, FrT [] H1 H → J.stop n H)
    (hs : ∀ i H x H' (K : VK) (K0 : Hp → Prop), i < n → FrT [] H1 H → Tabs T H → J.yld i H x H' → (∀ H4, FrT [] H H4 → Tabs T H4 → K0 H4) →
      g x (wipe σ vs) H' fun σ2 H2 => wipe σ2 vs = wipe σ vs ∧ tt σ2 H2 fun b H3 => if b = true then te σ2 H3 K else K0 H3)
    (hd : ∀ D H, H1 D = none → FrT [] H1 H → Tabs T H → H D = some (.lst []) → Qf (.ref D) H) :
    LcB J g tt te vs σ H1 Qf := by
  intro D hD
  have sD := same_upd (o := HO.lst []) hD
  refine ⟨fun i m H => m = n - i ∧ i ≤ n ∧ FrT [] H1 H ∧ Tabs T H ∧ H D = some (.lst []), ⟨n, by omega, Nat.zero_le _, FrT.of sD, RS.Tabs.same t0 sD, upd_same⟩, ?_⟩
  rintro i m H ⟨rfl, hi, s, t, eD⟩
  by_cases lt : i < n
  · refine .inr ⟨hgo i H lt s, fun H' => FrT [] H1 H' ∧ Tabs T H' ∧ H' D = some (.lst []), fun H' p' => ⟨n - (i + 1), by omega, rfl, lt, p'⟩, fun x H' y => ?_⟩
    exact hs i H x H' _ _ lt s t y fun H4 f4 t4 => ⟨s.trans f4, t4, f4 _ _ (by simp) (fun ps z => by cases z) eD⟩
  · have e : i = n := by omega
    subst e
    exact .inl ⟨hst H s, hd D H hD s t eD⟩
def kq : Str := Str.ofString "\"" ++ repS (Str.ofString "k") (Int.toNat 200) ++ Str.ofString "\""
/-- a list of texts that may be asked -/
def TxL (H X : Hp) (a : Addr) (xs : List Str) : Prop := Same H X ∧ X a = some (.lst (xs.map V.str)) ∧ xs.all tOk = true ∧ xs.length ≤ 100 ∧ H a = none
theorem cat_step {H X : Hp} {a p : Addr} {xs ys : List Str} {Qf : VK} (h : TxL H X a xs) (hp : X p = none) (o : ys.all tOk = true) (l : xs.length + ys.length ≤ 100) (q : ∀ W G, TxL H G W (xs ++ ys) → Qf (.ref W) G) : rCat (.ref a) (.ref p) (upd X p (.lst (ys.map V.str))) Qf := by
  have s1 := same_upd (o := HO.lst (ys.map V.str)) hp
  refine ⟨a, p, _, _, rfl, rfl, s1 _ _ h.2.1, upd_same, by rw [List.length_map, List.length_map, sizeLine_eq]; omega, fun W hW => ?_⟩
  exact q W _ ⟨h.1.trans (s1.trans (same_upd hW)), by rw [upd_same, List.map_append], by rw [List.all_append, h.2.2.1, o]; rfl, by rw [List.length_append]; exact l, same_none h.1 (same_none s1 hW)⟩
theorem app_step {H X : Hp} {a : Addr} {xs : List Str} {y : Str} (h : TxL H X a xs) (o : tOk y = true) (l : xs.length < 100) : TxL H (upd X a (.lst (xs.map V.str ++ [V.str y]))) a (xs ++ [y]) :=
  ⟨fun c u e => by rw [upd_ne (fun z => by rw [z, h.2.2.2.2] at e; cases e)]; exact h.1 c u e, by rw [upd_same, List.map_append]; rfl, by rw [List.all_append, h.2.2.1]; simp [o], by rw [List.length_append]; exact l, h.2.2.2.2⟩
theorem nil_sh : SeqAt.shaped (.list []) = true := by decide +kernel
theorem all_right {g : Wd} {TS : List (Addr × Str)} {dd : Bool} {X : Hp} {a : Addr} {xs : List Str} {v0 v1 v2 v3 : Option V} {Qf : VK} {W : WX} (e : X a = some (.lst (xs.map V.str))) (tb : Tabs TS X) (o : xs.all tOk = true) (l : xs.length ≤ 100) (q : ∀ D Y, FrT [] X Y → Tabs TS Y → Y D = some (.lst []) → Qf (.ref D) Y) :
    LcB (Itl g.K a) (gName 3) (tNot (tB (RS.tCallG (sp_right TS) [] W (tCons (tVar 3) (tCons (tC (V.bl dd)) tNil))))) (tC (.int 1)) [3] [v0, v1, v2, v3] X Qf := by
  have kp : ∀ {G}, FrT [] X G → SqL g.K G a (xs.map V.str) := fun f => SqL.of (f _ _ (by simp) (fun ps z => by cases z) e)
  refine lc_noneT (T := TS) (xs.map V.str).length tb (fun i G lt f => ⟨_, (xs.map V.str)[i], kp f, List.getElem?_eq_getElem lt⟩) (fun G f => ⟨_, kp f, Nat.le_refl _⟩) (fun i G x G' K K0 lt f tG y k0 => ?_) (fun D G hD f tG eD => q D G f tG eD)
  obtain ⟨rfl, hx⟩ := y
  have hx := hx _ (kp f)
  rw [List.getElem?_map] at hx
  cases hy : xs[i]? with
  | none => rw [hy] at hx; cases hx
  | some y =>
    rw [hy] at hx
    cases hx
    rw [List.all_eq_true] at o
    have oy := tOk.go (o y (List.mem_of_getElem? hy))
    refine ⟨rfl, ?_⟩
    walk_at "sx"
    refine ⟨_, _, rfl, y.cps.toList, dd, by rw [S_self], rfl, oy.1, oy.2, tG, fun Y fY tY => ?_⟩
    refine ⟨_, rfl, ?_⟩
    rw [if_neg (by simp)]
    exact k0 Y fY tY
section
variable {g : Wd} {fa : Addr} {fd : FuncData} {CD CI c P : Addr} {TS : List (Addr × Str)}
theorem sc_l_by_hand_right : FnScope ["_law_some", "_law_long", "_law_rows", "_law_text"] [] (defScope s_l_by_hand_right) := ⟨rfl, rfl, rfl, by decide +kernel, rfl, by decide +kernel, by decide +kernel⟩
def sp_hand (TS : List (Addr × Str)) : Sp := S0 fun H Q _ => Tabs TS H ∧ ∀ G, FrT [] H G → Tabs TS G → Q (.bl true) G
theorem ok_hand (F : Df g.K "_law_by_hand_right" "_law_by_hand_right" s_l_by_hand_right fa fd .none) (T : Txt g) (F_l_right : Kn g "_law_right" 54 ["_law_text", "_law_is_deeds"] [] (sp_right TS)) : FnG g 55 fa fd [] (sp_hand TS) := by
  refine F.ok sc_l_by_hand_right (fun vs H Q E h => S0.len h) (fun cdv A outer s H vs Q E hr h => ?_)
  obtain ⟨rfl, tb, q⟩ := h
  refine ⟨_, (pss_mid (ps_set (i := 0) sc_l_by_hand_right.nd rfl (Or.inl rfl) (pe_lst (pa_cons pe_str (pa_cons pe_str (pa_cons pe_str (pa_cons pe_str (pa_cons pe_str (pa_cons pe_str (pa_cons pe_str (pa_cons pe_str (pa_cons pe_str (pa_cons pe_str (pa_cons pe_str (pa_cons pe_str (pa_cons pe_str (pa_cons pe_str (pa_cons pe_str pa_nil)))))))))))))))))
      (pss_mid (ps_set (i := 0) sc_l_by_hand_right.nd rfl (Or.inl rfl) (pe_op (o_add (K := g.K)) (pv 0) (pe_lst (pa_cons pe_str (pa_cons pe_str (pa_cons pe_str (pa_cons pe_str (pa_cons pe_str (pa_cons pe_str (pa_cons pe_str (pa_cons pe_str (pa_cons pe_str pa_nil))))))))))))
      (pss_mid (ps_set (i := 0) sc_l_by_hand_right.nd rfl (Or.inl rfl) (pe_op (o_add (K := g.K)) (pv 0) (pe_lst (pa_cons pe_str (pa_cons pe_str (pa_cons pe_str (pa_cons pe_str (pa_cons pe_str (pa_cons pe_str (pa_cons (pe_op (o_add (K := g.K)) (pe_op o_mul pe_str pe_int) (pe_op o_mul pe_str pe_int)) (pa_cons (pe_op o_mul pe_str pe_int) pa_nil)))))))))))
      (pss_mid (ps_set (i := 0) sc_l_by_hand_right.nd rfl (Or.inl rfl) (pe_op (o_add (K := g.K)) (pv 0) (pe_lst (pa_cons (pe_op (o_add (K := g.K)) (pe_op o_mul pe_str pe_int) pe_str) (pa_cons (pe_op o_mul pe_str pe_int) (pa_cons (pe_op o_mul pe_str pe_int) (pa_cons (pe_op o_mul pe_str pe_int) (pa_cons (pe_op (o_add (K := g.K)) pe_str (pe_op o_mul pe_str pe_int)) (pa_cons (pe_op (o_add (K := g.K)) pe_str (pe_op o_mul pe_str pe_int)) pa_nil)))))))))
      (pss_mid (ps_set (i := 0) sc_l_by_hand_right.nd rfl (Or.inl rfl) (pe_op (o_add (K := g.K)) (pv 0) (pe_lst (pa_cons pe_str (pa_cons pe_str (pa_cons pe_str (pa_cons pe_str pa_nil)))))))
      (pss_mid (ps_if (pt_cmpR (o_ne (K := g.K) hr) (pe_lc (own := [("_law_text", 3)]) rfl sc_l_by_hand_right.nd (i_list (K := g.K) (pv 0)) (blkOk_by (own := [("_law_text", 3)]) (N := ["_law_some", "_law_long", "_law_rows", "_law_text"]) (sc := defScope s_l_by_hand_right) (by decide +kernel)) (fun _ _ _ _ _ => (pg_name (i := 3) sc_l_by_hand_right.nd rfl (.inl rfl))) (fun _ _ _ _ _ => (pts_one (pt_not (pt_val (pe_callG F_l_right (Rm.mono (Rm.mk hr.room hr.gd) (by first | decide | omega)) L2.takes0 (pa_cons (pv 3) (pa_cons pe_bl pa_nil))))))) (fun _ _ _ _ _ => pe_int)) (pe_lst pa_nil) (nomark _)) (pss_one (ps_ret pe_bl)) pss_nil)
      (pss_mid (ps_set (i := 1) sc_l_by_hand_right.nd rfl (Or.inl rfl) (pe_op (o_add (K := g.K)) (pe_op (o_add (K := g.K)) pe_str (pe_op o_mul pe_str pe_int)) pe_str))
      (pss_mid (ps_set (i := 2) sc_l_by_hand_right.nd rfl (Or.inl rfl) (pe_lst (pa_cons pe_str (pa_cons pe_str (pa_cons pe_str (pa_cons pe_str (pa_cons pe_str (pa_cons pe_str (pa_cons pe_str (pa_cons (pe_op (o_add (K := g.K)) (pe_op (o_add (K := g.K)) pe_str (pv 1)) pe_str) (pa_cons (pe_op (o_add (K := g.K)) pe_str (pv 1)) pa_nil)))))))))))
      (pss_mid (ps_set (i := 2) sc_l_by_hand_right.nd rfl (Or.inl rfl) (pe_op (o_add (K := g.K)) (pv 2) (pe_lst (pa_cons pe_str (pa_cons pe_str (pa_cons pe_str (pa_cons pe_str pa_nil)))))))
      (pss_mid (ps_expr (e_bm (K := g.K) PySem.F.plainAttrs_list PySem.F.slot_list_append PySem.F.type_list_append mt_append (pv 2) (pa_cons (pe_op (o_add (K := g.K)) (pe_op (o_add (K := g.K)) pe_str (pe_slice (o_sl (K := g.K)) (pv 1) po_none (po_some (pe_un un_neg pe_int)))) pe_str) pa_nil)))
      (pss_mid (ps_set (i := 2) sc_l_by_hand_right.nd rfl (Or.inl rfl) (pe_op (o_add (K := g.K)) (pv 2) (pe_lst (pa_cons pe_str (pa_cons pe_str (pa_cons pe_str (pa_cons pe_str (pa_cons pe_str (pa_cons (pe_op (o_add (K := g.K)) pe_str (pe_op o_mul pe_str pe_int)) (pa_cons pe_str pa_nil))))))))))
      (pss_one (ps_ret (pe_cmpR (o_eq (K := g.K) hr) (pe_lc (own := [("_law_text", 3)]) rfl sc_l_by_hand_right.nd (i_list (K := g.K) (pv 2)) (blkOk_by (own := [("_law_text", 3)]) (N := ["_law_some", "_law_long", "_law_rows", "_law_text"]) (sc := defScope s_l_by_hand_right) (by decide +kernel)) (fun _ _ _ _ _ => (pg_name (i := 3) sc_l_by_hand_right.nd rfl (.inl rfl))) (fun _ _ _ _ _ => (pts_one (pt_not (pt_val (pe_callG F_l_right (Rm.mono (Rm.mk hr.room hr.gd) (by first | decide | omega)) L2.takes0 (pa_cons (pv 3) (pa_cons pe_bl pa_nil))))))) (fun _ _ _ _ _ => pe_int)) (pe_lst pa_nil) (nomark _))))))))))))))), ?_⟩
  refine mid_at (fun σ X => ∃ a xs, σ = [some (.ref a), none, none, none] ∧ TxL H X a xs ∧ xs.length = 15) ?_ ?_
  · walk_at "sx"
    intro a ha
    exact ⟨["", "-", "-0", "00", "01", "1 ", " 1", "None,", "none", "Tru", "Truee", "[1,2]", "[1, ]", "[,]", "(1)"], ⟨same_upd ha, upd_same, by decide +kernel, by decide, ha⟩, rfl⟩
  rintro _ X1 ⟨a1, x1, rfl, h1, l1⟩
  refine mid_at (fun σ X => ∃ a xs, σ = [some (.ref a), none, none, none] ∧ TxL H X a xs ∧ xs.length = 24) ?_ ?_
  · walk_at "sx"
    intro p hp
    exact .inl (cat_step (ys := ["(1,)", "(1, )", "(1, 2,)", "()", "( )", "{}", "{\"a\":1}", "{\"a\": 1, \"a\": 2}", "{\"a\": 1, \"a"]) h1 hp (by decide +kernel) (by rw [l1]; decide) fun W G t => ⟨W, rfl, _, t, by rw [List.length_append, l1]; rfl⟩)
  rintro _ X2 ⟨a2, x2, rfl, h2, l2⟩
  refine mid_at (fun σ X => ∃ a xs, σ = [some (.ref a), none, none, none] ∧ TxL H X a xs ∧ xs.length = 32) ?_ ?_
  · walk_at "sx"
    refine ⟨by decide, by decide, by decide +kernel, by decide, by decide, by decide +kernel, by decide +kernel, by decide, by decide, by decide +kernel, fun p hp => ?_⟩
    exact .inl (cat_step (ys := ["{1: 2}", "\"a", "\"\\", "\"\\x\"", "\"a\nb\"", "'a'", repS (Str.ofString "[") (Int.toNat 20) ++ repS (Str.ofString "]") (Int.toNat 20), repS (Str.ofString "[") (Int.toNat 21)]) h2 hp (by decide +kernel) (by rw [l2]; decide) fun W G t => ⟨W, rfl, _, t, by rw [List.length_append, l2]; rfl⟩)
  rintro _ X3 ⟨a3, x3, rfl, h3, l3⟩
  refine mid_at (fun σ X => ∃ a xs, σ = [some (.ref a), none, none, none] ∧ TxL H X a xs ∧ xs.length = 38) ?_ ?_
  · walk_at "sx"
    refine ⟨by decide, by decide, by decide +kernel, by decide +kernel, by decide, by decide, by decide +kernel, by decide, by decide, by decide +kernel, by decide, by decide, by decide +kernel, by decide, by decide, by decide +kernel, by decide +kernel, by decide, by decide, by decide +kernel, by decide +kernel, fun p hp => ?_⟩
    exact .inl (cat_step (ys := [repS (Str.ofString "[") (Int.toNat 20) ++ Str.ofString "(", repS (Str.ofString "[[{\"a\": ") (Int.toNat 6), repS (Str.ofString "9") (Int.toNat 100), repS (Str.ofString "9") (Int.toNat 101), Str.ofString "-" ++ repS (Str.ofString "9") (Int.toNat 100), Str.ofString "-" ++ repS (Str.ofString "9") (Int.toNat 101)]) h3 hp (by decide +kernel) (by rw [l3]; decide) fun W G t => ⟨W, rfl, _, t, by rw [List.length_append, l3]; rfl⟩)
  rintro _ X4 ⟨a4, x4, rfl, h4, l4⟩
  refine mid_at (fun σ X => ∃ a xs, σ = [some (.ref a), none, none, none] ∧ TxL H X a xs ∧ xs.length = 42) ?_ ?_
  · walk_at "sx"
    intro p hp
    exact .inl (cat_step (ys := ["1.0", "[1 2]", "{\"a\": 1 \"b\": 2}", "\"a\" "]) h4 hp (by decide +kernel) (by rw [l4]; decide) fun W G t => ⟨W, rfl, _, t, by rw [List.length_append, l4]; rfl⟩)
  rintro _ X5 ⟨a5, x5, rfl, h5, l5⟩
  refine mid_one [some (.ref a5), none, none, none] (fun X => FrT [] H X ∧ Tabs TS X) ?_ ?_
  · walk_at "sx"
    refine ⟨⟨_, SqL.of h5.2.1⟩, all_right h5.2.1 (RS.Tabs.same tb h5.1) h5.2.2.1 (by omega) fun D Y fY tY eD p hp => ?_⟩
    have s1 := same_upd (o := HO.lst []) hp
    refine ⟨.list [], .list [], .lst (SqL.of (s1 _ _ eD)) .nil, .lst (SqL.of upd_same) .nil, nil_sh, nil_sh, _, rfl, ?_⟩
    rw [SeqAt.eqv_refl _ (SeqAt.canLay_of_shaped nil_sh), if_neg (by decide)]
    exact ⟨((FrT.of h5.1).trans fY).trans (FrT.of s1), RS.Tabs.same tY s1⟩
  rintro X6 ⟨f6, t6⟩
  refine mid_one [some (.ref a5), some (.str kq), none, none] (fun X => X6 = X) ?_ ?_
  · walk_at "sx"
    refine ⟨by decide, by decide, by decide +kernel, by decide +kernel, by decide +kernel, rfl⟩
  rintro _ rfl
  refine mid_at (fun σ X => ∃ a xs, σ = [some (.ref a5), some (.str kq), some (.ref a), none] ∧ TxL X6 X a xs ∧ xs.length = 9) ?_ ?_
  · walk_at "sx"
    refine ⟨by decide +kernel, by decide +kernel, by decide +kernel, fun p hp => ?_⟩
    exact ⟨["", "put", "put a", "put \"a\"", "put \"a\" ", "put \"a\" 1", "put \"\" 1", Str.ofString "put " ++ kq ++ Str.ofString " 1", Str.ofString "drop " ++ kq], ⟨same_upd hp, upd_same, by decide +kernel, by decide, hp⟩, rfl⟩
  rintro _ X7 ⟨a7, x7, rfl, h7, l7⟩
  refine mid_at (fun σ X => ∃ a xs, σ = [some (.ref a5), some (.str kq), some (.ref a), none] ∧ TxL X6 X a xs ∧ xs.length = 13) ?_ ?_
  · walk_at "sx"
    intro p hp
    exact .inl (cat_step (ys := ["drop \"a\", put \"a\" [], drop \"b\"", "drop \"a\",drop \"b\"", "drop \"a\", ", "drop \"a\" 1"]) h7 hp (by decide +kernel) (by rw [l7]; decide) fun W G t => ⟨W, rfl, _, t, by rw [List.length_append, l7]; rfl⟩)
  rintro _ X8 ⟨a8, x8, rfl, h8, l8⟩
  refine mid_at (fun σ X => ∃ a xs, σ = [some (.ref a5), some (.str kq), some (.ref a), none] ∧ TxL X6 X a xs ∧ xs.length = 14) ?_ ?_
  · walk_at "sx"
    refine ⟨⟨_, SqL.of h8.2.1⟩, by decide +kernel, by decide +kernel, by decide +kernel, _, h8.2.1, by rw [List.length_map]; omega, _, app_step h8 (by decide +kernel) (by omega), by rw [List.length_append, l8]; rfl⟩
  rintro _ X9 ⟨a9, x9, rfl, h9, l9⟩
  refine mid_at (fun σ X => ∃ a xs, σ = [some (.ref a5), some (.str kq), some (.ref a), none] ∧ TxL X6 X a xs ∧ xs.length = 21) ?_ ?_
  · walk_at "sx"
    refine ⟨by decide, by decide, by decide +kernel, by decide +kernel, fun p hp => ?_⟩
    exact .inl (cat_step (ys := ["Put \"a\" 1", "put  \"a\" 1", "put \"a\" 1 ", "dro \"a\"", "1", Str.ofString "put \"a\" " ++ repS (Str.ofString "[") (Int.toNat 21), "drop \"\\n\""]) h9 hp (by decide +kernel) (by rw [l9]; decide) fun W G t => ⟨W, rfl, _, t, by rw [List.length_append, l9]; rfl⟩)
  rintro _ Y1 ⟨b1, y1, rfl, k1, m1⟩
  walk_at "sx"
  refine ⟨⟨_, SqL.of k1.2.1⟩, all_right k1.2.1 (RS.Tabs.same t6 k1.1) k1.2.2.1 (by omega) fun D Y fY tY eD p hp => ?_⟩
  have s1 := same_upd (o := HO.lst []) hp
  refine ⟨.list [], .list [], .lst (SqL.of (s1 _ _ eD)) .nil, .lst (SqL.of upd_same) .nil, nil_sh, nil_sh, ?_⟩
  rw [SeqAt.eqv_refl _ (SeqAt.canLay_of_shaped nil_sh)]
  exact q _ (((f6.trans (FrT.of k1.1)).trans fY).trans (FrT.of s1)) (RS.Tabs.same tY s1)
end
theorem tyN_to {H G : Hp} {v : V} {t : String} (k : ∀ c o, H c = some o → (∀ ps, o ≠ .tbl ps) → G c = some o) (h : tyN v H = some t) : tyN v G = some t := by
  cases v with
  | ref a =>
    unfold tyN at h ⊢
    simp only at h ⊢
    split at h <;> first | (cases h; done) | skip
    all_goals (rename_i e; rw [k _ _ e (fun ps z => by cases z)]; exact h)
  | _ => exact h
theorem NoTx.to {H G : Hp} {z : V} (h : NoTx H z) (f : FrT [] H G) : NoTx G z := by
  obtain ⟨t, e, n⟩ := h
  exact ⟨t, tyN_to (fun c o e n => f c o (by simp) n e) e, n⟩
theorem NoTx.same {H G : Hp} {z : V} (h : NoTx H z) (s : Same H G) : NoTx G z := h.to (FrT.of s)
def txN : PyData := .list [.tuple [.str "text", .none], .tuple [.str "text", .none]]
theorem txN_sh : SeqAt.shaped txN = true := by decide +kernel
def txF : PyData := .list [.tuple [.str "text", .int 100], .tuple [.str "text", .int 20]]
theorem txF_sh : SeqAt.shaped txF = true := by decide +kernel
theorem rep1 (s : String) (c n : Nat) (h : Str.ofString s = S [c]) : repS (Str.ofString s) n = S (List.replicate n c) := by
  apply str_cps
  rw [h]
  simp [repS, S]
theorem far9 : wpos (List.replicate 5000 57).length false (List.replicate 5000 57) = some 100 := by
  rw [List.length_replicate]
  decide +kernel
theorem farB : wpos (List.replicate 1200 91).length false (List.replicate 1200 91) = some 20 := by
  rw [List.length_replicate]
  decide +kernel
theorem sq_step {K : PySem.W.Frag} {X G : Hp} {a : Addr} {xs : List V} {fp : List Addr} (h : SqL K X a xs) (na : a ∉ fp ∨ X a = none) (f : FrT fp X G) : SqL K G a xs := by
  rcases h with (h | ⟨o, h⟩) | h
  · exact .inl (.inl (f _ _ (na.elim id fun z => by rw [z] at h; cases h) (fun ps z => by cases z) h))
  · exact .inl (.inr ⟨o, f _ _ (na.elim id fun z => by rw [z] at h; cases h) (fun ps z => by cases z) h⟩)
  · exact .inr h
theorem sq_stepR {K : PySem.W.Frag} {X X1 G : Hp} {a r : Addr} {xs : List V} (h : SqL K X a xs) (s : Same X X1) (hr : X r = none) (f : FrT [r] X1 G) : SqL K G a xs := by
  rcases h with (h | ⟨o, h⟩) | h
  · exact .inl (.inl (f _ _ (by simpa using fun z => by rw [z, hr] at h; cases h) (fun ps z => by cases z) (s _ _ h)))
  · exact .inl (.inr ⟨o, f _ _ (by simpa using fun z => by rw [z, hr] at h; cases h) (fun ps z => by cases z) (s _ _ h)⟩)
  · exact .inr h
/-- what stays while a text is drawn and asked -/
structure Wk (TS : List (Addr × Str)) (r : Addr) (X1 X : Hp) : Prop where
  fr : FrT [r] X1 X
  src : Src X r
  tb : Tabs TS X
theorem Wk.dr {TS : List (Addr × Str)} {r : Addr} {X1 X Y : Hp} (h : Wk TS r X1 X) (d : Dr r X Y) : Wk TS r X1 Y := by
  obtain ⟨_, _, _, _, es⟩ := h.src
  refine ⟨h.fr.trans fun c o n _ e => d.ot c o (by simpa using n) e, d.src, RS.Tabs.fr (fp := [r]) h.tb (fun c hc o e => ?_) (fun b o nb e => d.ot b o (by simpa using nb) e)⟩
  rw [List.mem_singleton.mp hc, es] at e
  cases e
  exact ⟨(fun _ z => by cases z), (fun _ z => by cases z)⟩
theorem Wk.pick {TS : List (Addr × Str)} {r : Addr} {X1 X : Hp} (h : Wk TS r X1 X) {x y : Int} (hx : 0 ≤ x) (hy : 0 ≤ y) : Wk TS r X1 (upd X r (.lst [.int x, .int y])) :=
  h.dr ⟨fun c o n e => by rw [upd_ne n]; exact e, ⟨x, y, hx, hy, upd_same⟩⟩
theorem Wk.right {TS : List (Addr × Str)} {r : Addr} {X1 X Y : Hp} (h : Wk TS r X1 X) (f : FrT [] X Y) (t : Tabs TS Y) : Wk TS r X1 Y := by
  obtain ⟨x, y, hx, hy, es⟩ := h.src
  exact ⟨h.fr.trans (f.sub (by simp)), ⟨x, y, hx, hy, f _ _ (by simp) (fun ps z => by cases z) es⟩, t⟩
section
variable {g : Wd} {fa : Addr} {fd : FuncData} {CD CI c P : Addr} {TS : List (Addr × Str)}
theorem sc_law : FnScope ["_law_script", "_law_odd", "_law_told_here", "_law_far", "_law_k", "_law_source_here", "_law_is_deeds", "_law_text", "_law_turn", "_law_place", "_law_way", "_law_sign_here", "_law_rest"] ["_law_script"] (defScope s_law) := ⟨rfl, rfl, rfl, by decide +kernel, rfl, by decide +kernel, by decide +kernel⟩
def sp_law (K : PySem.W.Frag) (TS : List (Addr × Str)) : Sp := S1 fun v H Q _ => ∃ (a : Addr) (ns : List Int), v = .ref a ∧ SqL K H a (ns.map V.int) ∧ ns.length ≤ 63 ∧ Tabs TS H ∧ ∀ G, Q (.bl true) G
theorem ok_law (F : DfC g.K "law" "law" s_law fa fd c) (T : Txt g) (TOLD : Told g 52 "_law_told" (TTt CI)) (L_law : LamT g TS c P "law") (F_is_notation : Kn g "is_notation" 48 ["value"] [] sp_isn) (F_read_notation : Kn g "read_notation" 47 ["text"] [] (sp_rnot CI)) (F_read_deeds : Kn g "read_deeds" 48 ["text"] [] (sp_rdeedsN CI))
    (F_l_right : Kn g "_law_right" 54 ["_law_text", "_law_is_deeds"] [] (sp_right TS)) (F_l_by_hand_right : Kn g "_law_by_hand_right" 55 [] [] (sp_hand TS)) (F_l_value : Kn g "_law_value" 7 ["_law_source_here", "_law_depth"] [] (sp_value 4)) (F_l_shown : Kn g "_law_shown" 10 ["_law_value_here"] [] (sp_vnote 9)) (F_l_pick : Kn g "_law_pick" 1 ["_law_source_here", "_law_amount"] [] sp_pick) (F_l_source : Kn g "_law_source" 1 ["_law_script", "_law_k"] [] (sp_source g.K)) : FnG g 56 fa fd ["_law_script"] (sp_law g.K TS) := by
  refine F.ok sc_law (fun vs H Q E h => S1.len h) (fun A outer s H vs Q E hr h => ?_)
  obtain ⟨_, rfl, a, ns, rfl, hl, hz, tb, q⟩ := h
  refine ⟨_, (pss_mid (ps_for psD rfl (i_tup (K := g.K) (pe_tup (pa_cons pe_non (pa_cons pe_int (pa_cons pe_bl (pa_cons (pe_lst (pa_cons pe_str pa_nil)) (pa_cons (pe_tup (pa_cons pe_str pa_nil)) (pa_cons pe_dnewK pa_nil)))))))) (pg_name (i := 1) sc_law.nd rfl (.inr rfl)) (pss_mid (ps_set (i := 2) sc_law.nd rfl (Or.inl rfl) (pe_lst (pa_cons (pe_lam TOLD L_law (hr.mono (by first | decide | omega)) (by decide +kernel) (fun _ _ _ _ _ _ _ hr => (pe_callG F_read_notation (Rm.mono (Rm.mk hr.room hr.gd) (by first | decide | omega)) takesL (pa_cons (pv 1) pa_nil)))) (pa_cons (pe_lamD "_law_none" TOLD L_law (hr.mono (by first | decide | omega)) (by decide +kernel) (fun _ _ _ _ _ _ _ hr => (pe_callG F_read_deeds (Rm.mono (Rm.mk hr.room hr.gd) (by first | decide | omega)) takesL (pa_cons (pv 1) pa_nil)))) pa_nil))))
      (pss_one (ps_if (PW.pt (pw_or (pt_cmpR (o_ne (K := g.K) hr) (pv 2) (pe_op o_mul (pe_lst (pa_cons (pe_tup (pa_cons pe_str (pa_cons pe_non pa_nil))) pa_nil)) pe_int) (nomark _)) (pw_or1 (pt_cmpR op_notB (pe_callG F_is_notation (hr.mono (by first | decide | omega)) tkD (pa_cons (pv 1) pa_nil)) pe_bl (nomark _))))) (pss_one (ps_ret pe_bl)) pss_nil))))
      (pss_mid (ps_set (i := 3) sc_law.nd rfl (Or.inl rfl) (pe_lst (pa_cons (pe_lam TOLD L_law (hr.mono (by first | decide | omega)) (by decide +kernel) (fun _ _ _ _ _ _ _ hr => (pe_callG F_read_notation (Rm.mono (Rm.mk hr.room hr.gd) (by first | decide | omega)) takesL (pa_cons (pe_op o_mul pe_str pe_int) pa_nil)))) (pa_cons (pe_lamD "_law_none" TOLD L_law (hr.mono (by first | decide | omega)) (by decide +kernel) (fun _ _ _ _ _ _ _ hr => (pe_callG F_read_notation (Rm.mono (Rm.mk hr.room hr.gd) (by first | decide | omega)) takesL (pa_cons (pe_op o_mul pe_str pe_int) pa_nil)))) pa_nil))))
      (pss_mid (ps_if (PW.pt (pw_or (pt_cmpR (o_ne (K := g.K) hr) (pv 3) (pe_lst (pa_cons (pe_tup (pa_cons pe_str (pa_cons pe_int pa_nil))) (pa_cons (pe_tup (pa_cons pe_str (pa_cons pe_int pa_nil))) pa_nil))) (nomark _)) (pw_or1 (pt_not (pt_val (pe_callG0 F_l_by_hand_right (hr.mono (by first | decide | omega)) tkD)))))) (pss_one (ps_ret pe_bl)) pss_nil)
      (pss_cons (ps_for psD rfl (pi_range1 rfl T.b_range (pa_cons (pe_callB (call_max2 rfl) (by rfl) T.b_max (by decide +kernel) (pa_cons pe_int (pa_cons (pe_callB (call_min2 rfl) (by rfl) T.b_min (by decide +kernel) (pa_cons (pe_callB (c_len (K := g.K)) (by rfl) T.b_len bb_len (pa_cons (pv 0) pa_nil)) (pa_cons pe_int pa_nil))) pa_nil))) pa_nil)) (pg_name (i := 4) sc_law.nd rfl (.inl rfl)) (pss_cons (ps_set (i := 5) sc_law.nd rfl (Or.inl rfl) (pe_callG F_l_source (hr.mono (by first | decide | omega)) tkD (pa_cons (pv 0) (pa_cons (pv 4) pa_nil))))
      (pss_mid (ps_set (i := 6) sc_law.nd rfl (Or.inl rfl) (pe_cmpR (o_eq (K := g.K) hr) (pe_callG F_l_pick (hr.mono (by first | decide | omega)) tkD (pa_cons (pv 5) (pa_cons pe_int pa_nil))) pe_int (nomark _)))
      (pss_mid (ps_set (i := 7) sc_law.nd rfl (Or.inl rfl) (pe_callG F_l_shown (hr.mono (by first | decide | omega)) tkD (pa_cons (pe_callG F_l_value (hr.mono (by first | decide | omega)) tkD (pa_cons (pv 5) (pa_cons pe_int pa_nil))) pa_nil)))
      (pss_mid (ps_if (t_truth (K := g.K) (pv 6)) (pss_one (ps_set (i := 7) sc_law.nd rfl (Or.inl rfl) (pe_op (o_add (K := g.K)) (pe_op (o_add (K := g.K)) pe_str (pv 7)) pe_str))) pss_nil)
      (pss_mid (ps_if (PW.pt (pw_or (pt_not (pt_val (pe_callG F_l_right (hr.mono (by first | decide | omega)) tkD (pa_cons (pv 7) (pa_cons (pv 6) pa_nil))))) (pw_or1 (pt_not (pt_val (pe_callG F_l_right (hr.mono (by first | decide | omega)) tkD (pa_cons (pe_slice (o_sl (K := g.K)) (pv 7) po_none (po_some (pe_callG F_l_pick (hr.mono (by first | decide | omega)) tkD (pa_cons (pv 5) (pa_cons (pe_op (o_add (K := g.K)) (pe_callB (c_len (K := g.K)) (by rfl) T.b_len bb_len (pa_cons (pv 7) pa_nil)) pe_int) pa_nil))))) (pa_cons (pv 6) pa_nil)))))))) (pss_one (ps_ret pe_bl)) pss_nil)
      (pss_one (ps_for psD rfl (pi_range1 rfl T.b_range (pa_cons pe_int pa_nil)) (pg_name (i := 8) sc_law.nd rfl (.inl rfl)) (pss_mid (ps_par (i := 9) (j := 10) (by rfl) sc_law.nd rfl rfl (by decide) rfl rfl (pa_cons (pe_callG F_l_pick (hr.mono (by first | decide | omega)) tkD (pa_cons (pv 5) (pa_cons (pe_op (o_add (K := g.K)) (pe_callB (c_len (K := g.K)) (by rfl) T.b_len bb_len (pa_cons (pv 7) pa_nil)) pe_int) pa_nil))) (pa_cons (pe_callG F_l_pick (hr.mono (by first | decide | omega)) tkD (pa_cons (pv 5) (pa_cons pe_int pa_nil))) pa_nil)) (by rfl))
      (pss_mid (ps_set (i := 11) sc_law.nd rfl (Or.inl rfl) (pe_ix (o_ix (K := g.K)) pe_str (pe_callG F_l_pick (hr.mono (by first | decide | omega)) tkD (pa_cons (pv 5) (pa_cons pe_int pa_nil))) (fun _ _ => rfl)))
      (pss_mid (ps_set (i := 12) sc_law.nd rfl (Or.inl rfl) (pe_slice (o_sl (K := g.K)) (pv 7) (po_some (pe_op (o_add (K := g.K)) (pv 9) (pe_callTy c_intA (by rfl) T.b_int bb_int (pa_cons (pe_cmpR op_gt (pv 10) pe_int (nomark _)) pa_nil)))) po_none))
      (pss_mid (ps_set (i := 7) sc_law.nd rfl (Or.inl rfl) (pe_op (o_add (K := g.K)) (pe_op (o_add (K := g.K)) (pe_slice (o_sl (K := g.K)) (pv 7) po_none (po_some (pv 9))) (pe_op o_mul (pv 11) (pe_callTy c_intA (by rfl) T.b_int bb_int (pa_cons (pe_cmpR op_lt (pv 10) pe_int (nomark _)) pa_nil)))) (pv 12)))
      (pss_one (ps_if (pt_not (pt_val (pe_callG F_l_right (hr.mono (by first | decide | omega)) tkD (pa_cons (pv 7) (pa_cons (pv 6) pa_nil))))) (pss_one (ps_ret pe_bl)) pss_nil))))))))))))))
      (pss_one (ps_ret pe_bl)))))), ?_⟩
  refine mid_at (fun σ G => ∃ y z, σ = [some (.ref a), y, z, none, none, none, none, none, none, none, none, none, none] ∧ SqL g.K G a (ns.map V.int) ∧ Tabs TS G) ?_ ?_
  · rw [tFor_eq]
    walk_at "sx"
    intro p0 h0
    have s0' := same_upd (o := HO.lst [.str "1"]) h0
    have e0 : upd H p0 (HO.lst [.str "1"]) p0 = some (HO.lst [.str "1"]) := upd_same
    generalize upd H p0 (HO.lst [.str "1"]) = A0 at s0' e0 ⊢
    have o0 : NoTx A0 (.ref p0) := ⟨_, tyN_l e0, by decide⟩
    intro p1 h1
    have s1' := same_upd (o := HO.tup [.str "1"]) h1
    have e1 : upd A0 p1 (HO.tup [.str "1"]) p1 = some (HO.tup [.str "1"]) := upd_same
    generalize upd A0 p1 (HO.tup [.str "1"]) = A1 at s1' e1 ⊢
    have o0 := o0.same s1'
    have o1 : NoTx A1 (.ref p1) := ⟨_, tyN_t e1, by decide⟩
    intro p2 h2
    have s2' := same_upd (o := HO.dK []) h2
    have e2 : upd A1 p2 (HO.dK []) p2 = some (HO.dK []) := upd_same
    generalize upd A1 p2 (HO.dK []) = A2 at s2' e2 ⊢
    have o0 := o0.same s2'
    have o1 := o1.same s2'
    have o2 : NoTx A2 (.ref p2) := ⟨_, tyN_d e2, by decide⟩
    intro p4 h4
    have s4' := same_upd (o := HO.tup [.non, .int 5, .bl true, .ref p0, .ref p1, .ref p2]) h4
    have e4 : upd A2 p4 (HO.tup [.non, .int 5, .bl true, .ref p0, .ref p1, .ref p2]) p4 = some (HO.tup [.non, .int 5, .bl true, .ref p0, .ref p1, .ref p2]) := upd_same
    generalize upd A2 p4 (HO.tup [.non, .int 5, .bl true, .ref p0, .ref p1, .ref p2]) = A4 at s4' e4 ⊢
    have o0 := o0.same s4'
    have o1 := o1.same s4'
    have o2 := o2.same s4'
    have sA := s0'.trans (s1'.trans (s2'.trans s4'))
    have item : ∀ i, i < 6 → ∃ z, [V.non, .int 5, .bl true, .ref p0, .ref p1, .ref p2][i]? = some z ∧ NoTx A4 z := by
      intro i hi
      match i, hi with
      | 0, _ => exact ⟨_, rfl, ⟨_, rfl, by decide⟩⟩
      | 1, _ => exact ⟨_, rfl, ⟨_, rfl, by decide⟩⟩
      | 2, _ => exact ⟨_, rfl, ⟨_, rfl, by decide⟩⟩
      | 3, _ => exact ⟨_, rfl, o0⟩
      | 4, _ => exact ⟨_, rfl, o1⟩
      | 5, _ => exact ⟨_, rfl, o2⟩
    refine ⟨⟨_, SqT.of e4⟩, ?_⟩
    refine for_by 6 (fun i σ X => (∃ y z, σ = [some (.ref a), y, z, none, none, none, none, none, none, none, none, none, none]) ∧ FrT [] A4 X ∧ Tabs TS X) ⟨⟨_, _, rfl⟩, FrT.of (Same.refl _), RS.Tabs.same tb sA⟩ (fun i σ X lt P => ?_) (fun σ X P => ?_) (fun i σ X z X' lt P yl => ?_) (fun σ X P => ?_)
    · obtain ⟨z, ez, _⟩ := item i lt
      exact ⟨_, z, SqT.of (P.2.1 _ _ (by simp) (fun ps z => by cases z) e4), ez⟩
    · exact ⟨_, SqT.of (P.2.1 _ _ (by simp) (fun ps z => by cases z) e4), Nat.le_refl _⟩
    · obtain ⟨⟨y, w, rfl⟩, fX, tX⟩ := P
      obtain ⟨rfl, hz'⟩ := yl
      obtain ⟨z', ez, bz⟩ := item i lt
      have ez' := hz' _ (SqT.of (fX _ _ (by simp) (fun ps z => by cases z) e4))
      rw [ez] at ez'
      cases ez'
      refine mid_at (fun σ Y => ∃ L t1 t2, σ = [some (.ref a), some z, some (.ref L), none, none, none, none, none, none, none, none, none, none] ∧ FrT [] X' Y ∧ Tabs TS Y ∧ Y L = some (.lst [.ref t1, .ref t2]) ∧ Y t1 = some (.tup [.str "text", .non]) ∧ Y t2 = some (.tup [.str "text", .non])) ?_ ?_
      · simp only [tLamG, tRet, tRetN, tSeq, C8.tCut, tNext, tAsg, gName, gNil, gCons, gTup, gFld, tIfS, tIf, tAndV, tOrV, tNotV, tAnd, tOr, tNot, tB, tTest, tOp, tUn, tCB, tCons, tNil, tVar, tC, tChain, tDrop, RS.tCallG, RS.tMethG, tMakeG, RS.tCallK, RS.tMakeK, tEqOwn, rI, rI0, rU, add_ii, add_ss, add_rr, mul_ii, mul_si, mul_ri, RS.eq_ii, RS.eq_ss, eq_bb, eq_nn, eq_sn, eq_ns, eq_in, eq_ni, eq_bn, eq_nb, eq_is, eq_si, eq_rr, ne_ii, ne_ss, ne_bb, ne_nn, ne_sn, ne_ns, ne_in, ne_ni, ne_is, ne_si, ne_rr, in_ss, in_r, nin_ss, nin_r, len_s, len_r, RS.ix_s, RS.ix_r, sl_s, sl_r, is_eq, tyN_n, tyN_b, tyN_i, tyN_s, tru_b, tru_i, tru_n, tSl, tPart, tNoPart, tPar, tPar3, tFmtZ, tFmt, tJs, tDGet, sDPut, sFld, tFld, tTup, tLst, tNever, isB,
  L2.start, List.map_cons, List.map_nil, List.length_cons, List.length_nil, Nat.reduceAdd, Nat.reduceSub, Nat.sub_self, List.replicate_zero, List.replicate_succ, List.append_nil, List.cons_append, List.nil_append, List.getElem?_cons_zero, List.getElem?_cons_succ, List.set_cons_zero, List.set_cons_succ, Option.some.injEq, exists_eq_left, exists_eq_left', exists_and_left, V.bl.injEq, V.int.injEq, V.str.injEq, V.ref.injEq, beq_self_eq_true, Bool.true_or, Bool.or_true, Bool.false_or, Bool.or_false, Bool.and_false, Bool.false_and, Bool.true_and, Bool.and_true, Bool.not_true, Bool.not_false, Bool.false_eq_true, if_true, if_false, ite_true, ite_false, true_and, and_true, and_assoc, String.reduceBEq, String.reduceEq, reduceIte, Bool.and_self, reduceCtorEq, false_and, and_false, exists_false, or_false, false_or, exists_const, iEnumS, iStr, iList, iTup, iRng1, iEnum, tFor_eq, tLc_eq, List.cons.injEq, wipe, not_true_eq_false, not_false_eq_true, upd_same, HO.ins.injEq, HO.tup.injEq, HO.lst.injEq, ofS_eq, lk_nil, lk_cons, pu_nil, pu_cons, sizeLine_eq, Nat.reduceLT, Nat.reduceLeDiff, Nat.reduceEqDiff, Nat.le_refl, decide_true, decide_false, tPr, dget_us, dput_us, vv_nil, vv_cons, RS.pk_nil, pk_one, RS.pk_cons, inr_eq, tDisp, tPairs, tBoolOwn, rBoolOwn, tBM, rAppend, ty_list, ty_str, rEqOwn, iEnumT, RS.tCallS, tM1, tDc_eq, tLock, tLockE, iKeys, tListEnum, rUpdate, tMkX0, tMkX1, tXfv, gSub, rSetL, List.getD_cons_zero, List.getD_cons_succ, tBreak, tCMethS, ClX.tCVal, tXfa, tIxOwn, tInOwn, tPropG, tMethK, tMethP, tListGen, tDGet2, tDPop2, rNeD0, intA_i, intA_b, tRevL, sFldAug, tPm0, tPm1, tDIn, tDNotIn, tDNewK, RS.tMethS, tForK, tKM, tKC, tLcK, tKM2, tKC2, tMethStar, tKCK2, tLk, tAug, ipI, tDig, tLcX, tKMX, tKCX]
        refine ⟨tX, fun c1 H1 x1 T1 hc1 => ?_⟩
        have f1 : FrT [] X' H1 := FrT.ofN x1
        have b1 := bz.to (fX.trans f1)
        intro H0 E1 K1 s0 hE _
        refine ⟨_, rfl, .inr ⟨b1.same s0, fun dd Y1 sY e => hE _ _ _ ⟨rfl, dd, _, rfl, .inl e, fun t1 Z1 sZ et1 => ?_⟩⟩⟩
        have sA1 := s0.trans (sY.trans sZ)
        have f2 := f1.trans (FrT.of sA1)
        have T2 := RS.Tabs.same T1 sA1
        refine ⟨T2, fun c2 H2 x2 T3 hc2 => ?_⟩
        have f3 : FrT [] Z1 H2 := FrT.ofN x2
        have et1' := f3 _ _ (by simp) (fun ps z => by cases z) et1
        have b2 := bz.to ((fX.trans f2).trans f3)
        intro H3 E2 K2 s3 hE2 _
        refine ⟨_, rfl, b2.same s3, fun dd Y2 sY2 e2 => hE2 _ _ _ ⟨rfl, dd, _, rfl, .inl e2, fun t2 Z2 sZ2 et2 => ?_⟩⟩
        have sA2 := s3.trans (sY2.trans sZ2)
        intro L hL
        have sL := same_upd (o := HO.lst [.ref t1, .ref t2]) hL
        have sA3 := sA2.trans sL
        exact ⟨(f2.trans f3).trans (FrT.of sA3), RS.Tabs.same T3 sA3, t1, rfl, t2, rfl, sA3 _ _ et1', sL _ _ et2⟩
      rintro _ Y ⟨L, t1, t2, rfl, fY, tY, eL, et1, et2⟩
      walk_at "sx"
      intro q1 hq1
      have s1q := same_upd (o := HO.tup [.str "text", .non]) hq1
      have eq1 : upd Y q1 (.tup [.str "text", .non]) q1 = some (.tup [.str "text", .non]) := upd_same
      intro q2 hq2
      have s2q := same_upd (o := HO.lst [.ref q1]) hq2
      refine ⟨q2, 2, _, rfl, rfl, upd_same, by decide, by decide, (by decide : (2 : Nat) ≤ sizeLine), fun q3 hq3 => ?_⟩
      have s3q := same_upd (o := HO.lst (List.replicate (Int.toNat 2) [V.ref q1]).flatten) hq3
      have sQ := s1q.trans (s2q.trans s3q)
      have eq13 := s3q _ _ (s2q _ _ eq1)
      refine ⟨txN, txN, .lst (SqL.of (sQ _ _ eL)) (.cons (.tup (SqT.of (sQ _ _ et1)) (.cons (.str _) (.cons .non .nil))) (.cons (.tup (SqT.of (sQ _ _ et2)) (.cons (.str _) (.cons .non .nil))) .nil)), .lst (SqL.of upd_same) (.cons (.tup (SqT.of eq13) (.cons (.str _) (.cons .non .nil))) (.cons (.tup (SqT.of eq13) (.cons (.str _) (.cons .non .nil))) .nil)), txN_sh, txN_sh, _, rfl, ?_⟩
      rw [SeqAt.eqv_refl _ (SeqAt.canLay_of_shaped txN_sh), if_neg (by decide)]
      have fQ := fY.trans (FrT.of sQ)
      refine ⟨_, rfl, .inr ⟨bz.to (fX.trans fQ), fun Z sZ => ?_⟩⟩
      dsimp only
      rw [if_neg (by simp)]
      have sQZ := sQ.trans sZ
      exact ⟨⟨_, rfl⟩, fX.trans (fY.trans (FrT.of sQZ)), RS.Tabs.same tY sQZ⟩
    · obtain ⟨⟨y, w, rfl⟩, fX, tX⟩ := P
      exact ⟨y, w, rfl, sq_step (sq_same hl sA) (.inl (by simp)) fX, tX⟩
  rintro _ G1 ⟨y, z, rfl, hl1, t1⟩
  have hb9 : Str.ofString "9" = S [57] := by decide +kernel
  have hbB : Str.ofString "[" = S [91] := by decide +kernel
  refine mid_at (fun σ G => ∃ L t1 t2, σ = [some (.ref a), y, z, some (.ref L), none, none, none, none, none, none, none, none, none] ∧ FrT [] G1 G ∧ Tabs TS G ∧ G L = some (.lst [.ref t1, .ref t2]) ∧ G t1 = some (.tup [.str "text", .int 100]) ∧ G t2 = some (.tup [.str "text", .int 20])) ?_ ?_
  · simp only [tLamG, tRet, tRetN, tSeq, C8.tCut, tNext, tAsg, gName, gNil, gCons, gTup, gFld, tIfS, tIf, tAndV, tOrV, tNotV, tAnd, tOr, tNot, tB, tTest, tOp, tUn, tCB, tCons, tNil, tVar, tC, tChain, tDrop, RS.tCallG, RS.tMethG, tMakeG, RS.tCallK, RS.tMakeK, tEqOwn, rI, rI0, rU, add_ii, add_ss, add_rr, mul_ii, mul_si, mul_ri, RS.eq_ii, RS.eq_ss, eq_bb, eq_nn, eq_sn, eq_ns, eq_in, eq_ni, eq_bn, eq_nb, eq_is, eq_si, eq_rr, ne_ii, ne_ss, ne_bb, ne_nn, ne_sn, ne_ns, ne_in, ne_ni, ne_is, ne_si, ne_rr, in_ss, in_r, nin_ss, nin_r, len_s, len_r, RS.ix_s, RS.ix_r, sl_s, sl_r, is_eq, tyN_n, tyN_b, tyN_i, tyN_s, tru_b, tru_i, tru_n, tSl, tPart, tNoPart, tPar, tPar3, tFmtZ, tFmt, tJs, tDGet, sDPut, sFld, tFld, tTup, tLst, tNever, isB,
  L2.start, List.map_cons, List.map_nil, List.length_cons, List.length_nil, Nat.reduceAdd, Nat.reduceSub, Nat.sub_self, List.replicate_zero, List.replicate_succ, List.append_nil, List.cons_append, List.nil_append, List.getElem?_cons_zero, List.getElem?_cons_succ, List.set_cons_zero, List.set_cons_succ, Option.some.injEq, exists_eq_left, exists_eq_left', exists_and_left, V.bl.injEq, V.int.injEq, V.str.injEq, V.ref.injEq, beq_self_eq_true, Bool.true_or, Bool.or_true, Bool.false_or, Bool.or_false, Bool.and_false, Bool.false_and, Bool.true_and, Bool.and_true, Bool.not_true, Bool.not_false, Bool.false_eq_true, if_true, if_false, ite_true, ite_false, true_and, and_true, and_assoc, String.reduceBEq, String.reduceEq, reduceIte, Bool.and_self, reduceCtorEq, false_and, and_false, exists_false, or_false, false_or, exists_const, iEnumS, iStr, iList, iTup, iRng1, iEnum, tFor_eq, tLc_eq, List.cons.injEq, wipe, not_true_eq_false, not_false_eq_true, upd_same, HO.ins.injEq, HO.tup.injEq, HO.lst.injEq, ofS_eq, lk_nil, lk_cons, pu_nil, pu_cons, sizeLine_eq, Nat.reduceLT, Nat.reduceLeDiff, Nat.reduceEqDiff, Nat.le_refl, decide_true, decide_false, tPr, dget_us, dput_us, vv_nil, vv_cons, RS.pk_nil, pk_one, RS.pk_cons, inr_eq, tDisp, tPairs, tBoolOwn, rBoolOwn, tBM, rAppend, ty_list, ty_str, rEqOwn, iEnumT, RS.tCallS, tM1, tDc_eq, tLock, tLockE, iKeys, tListEnum, rUpdate, tMkX0, tMkX1, tXfv, gSub, rSetL, List.getD_cons_zero, List.getD_cons_succ, tBreak, tCMethS, ClX.tCVal, tXfa, tIxOwn, tInOwn, tPropG, tMethK, tMethP, tListGen, tDGet2, tDPop2, rNeD0, intA_i, intA_b, tRevL, sFldAug, tPm0, tPm1, tDIn, tDNotIn, tDNewK, RS.tMethS, tForK, tKM, tKC, tLcK, tKM2, tKC2, tMethStar, tKCK2, tLk, tAug, ipI, tDig, tLcX, tKMX, tKCX]
    refine ⟨t1, fun c1 H1 x1 T1 hc1 => ?_⟩
    have f1 : FrT [] G1 H1 := FrT.ofN x1
    intro H0 E1 K1 s0 hE _
    refine ⟨by decide, by decide, by decide +kernel, _, rfl, .inl ⟨List.replicate 5000 57, by rw [rep1 "9" 57 _ hb9]; rfl, by rw [List.length_replicate]; decide, ?_⟩⟩
    rw [far9]
    refine fun dd Y1 sY e => hE _ _ _ ⟨rfl, dd, _, rfl, .inl e, fun u1 Z1 sZ eu1 => ?_⟩
    have sA1 := s0.trans (sY.trans sZ)
    have g2 := f1.trans (FrT.of sA1)
    have T2 := RS.Tabs.same T1 sA1
    refine ⟨T2, fun c2 H2 x2 T3 hc2 => ?_⟩
    have f3 : FrT [] Z1 H2 := FrT.ofN x2
    have eu1' := f3 _ _ (by simp) (fun ps z => by cases z) eu1
    intro H3 E2 K2 s3 hE2 _
    refine ⟨by decide, by decide, by decide +kernel, _, rfl, .inl ⟨List.replicate 1200 91, by rw [rep1 "[" 91 _ hbB]; rfl, by rw [List.length_replicate]; decide, ?_⟩⟩
    rw [farB]
    refine fun dd Y2 sY2 e2 => hE2 _ _ _ ⟨rfl, dd, _, rfl, .inl e2, fun u2 Z2 sZ2 eu2 => ?_⟩
    have sA2 := s3.trans (sY2.trans sZ2)
    intro L hL
    have sL := same_upd (o := HO.lst [.ref u1, .ref u2]) hL
    have sA3 := sA2.trans sL
    exact ⟨(g2.trans f3).trans (FrT.of sA3), RS.Tabs.same T3 sA3, u1, rfl, u2, rfl, sA3 _ _ eu1', sL _ _ eu2⟩
  rintro _ G2 ⟨L, u1, u2, rfl, f2, t2, eL, eu1, eu2⟩
  have hl2 := sq_step hl1 (.inl (by simp)) f2
  refine mid_at (fun σ G => σ = [some (.ref a), y, z, some (.ref L), none, none, none, none, none, none, none, none, none] ∧ FrT [] G2 G ∧ Tabs TS G) ?_ ?_
  · walk_at "sx"
    intro q1 hq1
    have s1q := same_upd (o := HO.tup [.str "text", .int 100]) hq1
    have eq1 : upd G2 q1 (.tup [.str "text", .int 100]) q1 = some (.tup [.str "text", .int 100]) := upd_same
    generalize upd G2 q1 (.tup [.str "text", .int 100]) = W1 at s1q eq1 ⊢
    intro q2 hq2
    have s2q := same_upd (o := HO.tup [.str "text", .int 20]) hq2
    have eq2 : upd W1 q2 (.tup [.str "text", .int 20]) q2 = some (.tup [.str "text", .int 20]) := upd_same
    generalize upd W1 q2 (.tup [.str "text", .int 20]) = W2 at s2q eq2 ⊢
    intro q3 hq3
    have s3q := same_upd (o := HO.lst [.ref q1, .ref q2]) hq3
    have sQ := s1q.trans (s2q.trans s3q)
    refine ⟨txF, txF, .lst (SqL.of (sQ _ _ eL)) (.cons (.tup (SqT.of (sQ _ _ eu1)) (.cons (.str _) (.cons (.int _) .nil))) (.cons (.tup (SqT.of (sQ _ _ eu2)) (.cons (.str _) (.cons (.int _) .nil))) .nil)), .lst (SqL.of upd_same) (.cons (.tup (SqT.of (s3q _ _ (s2q _ _ eq1))) (.cons (.str _) (.cons (.int _) .nil))) (.cons (.tup (SqT.of (s3q _ _ eq2)) (.cons (.str _) (.cons (.int _) .nil))) .nil)), txF_sh, txF_sh, _, rfl, ?_⟩
    rw [SeqAt.eqv_refl _ (SeqAt.canLay_of_shaped txF_sh), if_neg (by decide)]
    refine ⟨rfl, RS.Tabs.same t2 sQ, fun Z fZ tZ => ⟨_, rfl, ?_⟩⟩
    rw [if_neg (by simp)]
    exact ⟨(FrT.of sQ).trans fZ, tZ⟩
  rintro _ G3 ⟨rfl, f3, t3⟩
  have hl3 := sq_step hl2 (.inl (by simp)) f3
  walk_at "sx"
  refine .inl ⟨_, .inl hl3, ?_⟩
  rw [List.length_map]
  refine ⟨by split <;> (try split) <;> omega, by split <;> (try split) <;> omega, ?_⟩
  refine for_by _ (fun i σ X => (∃ v0 v1 v2 v3 v4 v5 v6 v7 v8, σ = [some (.ref a), y, z, some (.ref L), v0, v1, v2, v3, v4, v5, v6, v7, v8]) ∧ SqL g.K X a (ns.map V.int) ∧ Tabs TS X) ⟨⟨_, _, _, _, _, _, _, _, _, rfl⟩, hl3, t3⟩ (fun i σ X lt P => lt) (fun σ X P => Nat.le_refl _) (fun i σ X zz X' lt P yl => ?_) (fun σ X P => q X)
  obtain ⟨⟨v0, v1, v2, v3, v4, v5, v6, v7, v8, rfl⟩, hX, tX⟩ := P
  obtain ⟨rfl, rfl⟩ := yl
  walk_at "sx"
  refine ⟨_, _, rfl, a, _, i, rfl, hX, fun v hv => ?_, by congr 1; omega, fun r X1 s1 hr hsrc => ?_⟩
  · obtain ⟨n, _, e⟩ := List.mem_map.mp hv
    exact ⟨n, e.symm⟩
  have wk1 : Wk TS r X1 X1 := ⟨FrT.refl _, hsrc, RS.Tabs.same tX s1⟩
  dsimp only
  refine mid_at (fun σ X => ∃ kk dd, σ = [some (.ref a), y, z, some (.ref L), kk, some (.ref r), some (.bl dd), v3, v4, v5, v6, v7, v8] ∧ Wk TS r X1 X) ?_ ?_
  · walk_at "sx"
    refine ⟨_, _, rfl, r, 3, rfl, hsrc, rfl, by decide, by decide, fun x w c hx hw hc hm => ?_⟩
    dsimp only
    rw [RS.eq_ii]
    exact ⟨_, rfl, wk1.pick hx hw⟩
  rintro _ X2 ⟨kk, dd, rfl, wk2⟩
  refine mid_at (fun σ X => ∃ t, σ = [some (.ref a), y, z, some (.ref L), kk, some (.ref r), some (.bl dd), some (.str (S t)), v4, v5, v6, v7, v8] ∧ Wk TS r X1 X ∧ t.length ≤ 1542 ∧ ∀ c ∈ t, pe c = true) ?_ ?_
  · walk_at "sx"
    refine ⟨_, _, rfl, r, 3, rfl, rfl, wk2.src, rfl, fun v d fp G dr tv nf ok => ?_⟩
    have el : (shL note d).length = (note d).length := by simp [shL, Str.length]
    have le := ok.le
    have n3 : NB 3 = 1542 := by decide
    refine ⟨_, rfl, d, fp, tv, ok_g _ ok.ok, by have := ok.dep; omega, by omega, fun Y sY => ?_⟩
    exact ⟨shL note d, by rw [show S (shL note d) = note d from S_self _], (wk2.dr dr).right (FrT.of sY) (RS.Tabs.same (wk2.dr dr).tb sY), by omega, note_pe d ok.ok⟩
  rintro _ X3 ⟨t, rfl, wk3, tl3, tp3⟩
  refine mid_at (fun σ X => ∃ t, σ = [some (.ref a), y, z, some (.ref L), kk, some (.ref r), some (.bl dd), some (.str (S t)), v4, v5, v6, v7, v8] ∧ Wk TS r X1 X ∧ t.length ≤ 1600 ∧ ∀ c ∈ t, pe c = true) ?_ ?_
  · walk_at "sx"
    have ep : Str.ofString "put \"a\" " = S [112, 117, 116, 32, 34, 97, 34, 32] := by decide +kernel
    have eq : Str.ofString ", drop \"b\\n\"" = S [44, 32, 100, 114, 111, 112, 32, 34, 98, 92, 110, 34] := by decide +kernel
    cases dd with
    | true =>
      rw [if_pos rfl, ep, eq, S_cat, S_cat]
      simp only [S_len]
      refine ⟨by simp; omega, by simp; omega, _, rfl, wk3, by simp; omega, fun c hc => ?_⟩
      rcases List.mem_append.mp hc with h | h
      · rcases List.mem_append.mp h with h | h
        · exact (by decide : ∀ c ∈ [112, 117, 116, 32, 34, 97, 34, 32], pe c = true) c h
        · exact tp3 c h
      · exact (by decide : ∀ c ∈ [44, 32, 100, 114, 111, 112, 32, 34, 98, 92, 110, 34], pe c = true) c h
    | false =>
      rw [if_neg (by simp)]
      exact ⟨t, rfl, wk3, by omega, tp3⟩
  rintro _ X4 ⟨t, rfl, wk4, tl4, tp4⟩
  refine mid_one [some (.ref a), y, z, some (.ref L), kk, some (.ref r), some (.bl dd), some (.str (S t)), v4, v5, v6, v7, v8] (fun X => Wk TS r X1 X) ?_ ?_
  · walk_at "sx"
    refine ⟨_, _, rfl, t, dd, rfl, rfl, by omega, tp4, wk4.tb, fun Y fY tY => ⟨_, rfl, ?_⟩⟩
    have wkY := wk4.right fY tY
    rw [if_neg (by simp), S_len]
    refine ⟨by omega, _, _, rfl, r, _, rfl, wkY.src, rfl, by omega, by omega, fun x w c hx hw hc hm => ⟨_, rfl, by omega, ?_⟩⟩
    rw [cut_to t hc]
    have wkZ := wkY.pick hx hw
    refine ⟨_, _, rfl, t.take c.toNat, dd, rfl, rfl, by rw [List.length_take]; omega, fun c hc => tp4 c (List.mem_of_mem_take hc), wkZ.tb, fun Y2 fY2 tY2 => ⟨_, rfl, ?_⟩⟩
    rw [if_neg (by simp)]
    exact wkZ.right fY2 tY2
  intro X5 wk5
  walk_at "sx"
  refine ⟨by decide, by decide, ?_⟩
  refine for_by 3 (fun j σ X => (∃ t w4 w5 w6 w7 w8, σ = [some (.ref a), y, z, some (.ref L), kk, some (.ref r), some (.bl dd), some (.str (S t)), w4, w5, w6, w7, w8] ∧ t.length ≤ 1600 + j ∧ ∀ c ∈ t, pe c = true) ∧ Wk TS r X1 X) ⟨⟨t, _, _, _, _, _, rfl, by omega, tp4⟩, wk5⟩ (fun j σ X lt P => lt) (fun σ X P => Nat.le_refl _) (fun j σ X zz X' lt P yl => ?_) (fun σ X P => ?_)
  · obtain ⟨⟨t, w4, w5, w6, w7, w8, rfl, tl, tp⟩, wk⟩ := P
    obtain ⟨rfl, rfl⟩ := yl
    walk_at "sx"
    refine mid_at (fun σ Y => ∃ (k m : Nat) (zj : Option V), σ = [some (.ref a), y, z, some (.ref L), kk, some (.ref r), some (.bl dd), some (.str (S t)), zj, some (.int (k : Nat)), some (.int (m : Nat)), w7, w8] ∧ Wk TS r X1 Y ∧ k ≤ t.length) ?_ ?_
    · walk_at "sx"
      rw [S_len]
      refine ⟨by omega, _, _, rfl, r, _, rfl, wk.src, rfl, by omega, by omega, fun x w k hx hw hk hkm => ?_⟩
      have wk2 := wk.pick hx hw
      refine ⟨_, _, rfl, r, 3, rfl, wk2.src, rfl, by decide, by decide, fun x2 w2 m hx2 hw2 hm hm3 => ?_⟩
      exact ⟨k.toNat, by congr 1; omega, m.toNat, by congr 1; omega, wk2.pick hx2 hw2, by omega⟩
    rintro _ Y1 ⟨k, m, zj, rfl, wkA, kl⟩
    refine mid_at (fun σ Y => ∃ sg, σ = [some (.ref a), y, z, some (.ref L), kk, some (.ref r), some (.bl dd), some (.str (S t)), zj, some (.int (k : Nat)), some (.int (m : Nat)), some (.str (S [sg])), w8] ∧ Wk TS r X1 Y ∧ pe sg = true) ?_ ?_
    · walk_at "sx"
      have e19 : Str.ofString "[](){}\"\\, :n-01NTa\n" = S [91, 93, 40, 41, 123, 125, 34, 92, 44, 32, 58, 110, 45, 48, 49, 78, 84, 97, 10] := by decide +kernel
      refine ⟨_, _, rfl, r, 19, rfl, wkA.src, rfl, by decide, by decide, fun x w n hx hw hn hn19 => ?_⟩
      rw [e19]
      obtain ⟨n, rfl⟩ := Int.eq_ofNat_of_zero_le hn
      have ln : n < ([91, 93, 40, 41, 123, 125, 34, 92, 44, 32, 58, 110, 45, 48, 49, 78, 84, 97, 10] : List Nat).length := by simp; omega
      refine ⟨by decide, _, at_lt ln, _, rfl, wkA.pick hx hw, ?_⟩
      rw [List.getD_eq_getElem?_getD, List.getElem?_eq_getElem ln]
      exact (by decide : ∀ c ∈ ([91, 93, 40, 41, 123, 125, 34, 92, 44, 32, 58, 110, 45, 48, 49, 78, 84, 97, 10] : List Nat), pe c = true) _ (List.getElem_mem ln)
    rintro _ Y2 ⟨sg, rfl, wkB, psg⟩
    refine mid_at (fun σ Y => ∃ u, σ = [some (.ref a), y, z, some (.ref L), kk, some (.ref r), some (.bl dd), some (.str (S t)), zj, some (.int (k : Nat)), some (.int (m : Nat)), some (.str (S [sg])), some (.str (S (t.drop u)))] ∧ Y2 = Y ∧ k ≤ u) ?_ ?_
    · walk_at "sx"
      rw [S_len]
      refine ⟨by omega, _, cut_from t (by split <;> omega), ?_⟩
      split <;> omega
    rintro _ _ ⟨u, rfl, rfl, uk⟩
    refine mid_at (fun σ Y => ∃ t2, σ = [some (.ref a), y, z, some (.ref L), kk, some (.ref r), some (.bl dd), some (.str (S t2)), zj, some (.int (k : Nat)), some (.int (m : Nat)), some (.str (S [sg])), some (.str (S (t.drop u)))] ∧ Y2 = Y ∧ t2.length ≤ 1600 + (j + 1) ∧ ∀ c ∈ t2, pe c = true) ?_ ?_
    · walk_at "sx"
      have l1 := List.length_take (i := k) (l := t)
      have l2 := List.length_drop (i := u) (l := t)
      rw [cut_to t (by omega), Int.toNat_natCast]
      generalize hn : (if decide ((m : Int) < 2) = true then (1 : Int) else 0) = n
      have n01 : 0 ≤ n ∧ n ≤ 1 := by rw [← hn]; split <;> omega
      rw [rep_one, S_cat, S_cat]
      simp only [S_len, List.length_append, List.length_replicate, List.length_cons, List.length_nil]
      refine ⟨by omega, by omega, by omega, by omega, by omega, by omega, _, rfl, ?_, fun c hc => ?_⟩
      · simp only [List.length_append, List.length_replicate]; omega
      · rcases List.mem_append.mp hc with h | h
        · rcases List.mem_append.mp h with h | h
          · exact tp c (List.mem_of_mem_take h)
          · rw [List.eq_of_mem_replicate h]; exact psg
        · exact tp c (List.mem_of_mem_drop h)
    rintro _ _ ⟨t2, rfl, rfl, tl2, tp2⟩
    walk_at "sx"
    refine ⟨_, _, rfl, t2, dd, rfl, rfl, by omega, tp2, wkB.tb, fun Z fZ tZ => ⟨_, rfl, ?_⟩⟩
    rw [if_neg (by simp)]
    exact ⟨⟨t2, rfl, tl2, tp2⟩, wkB.right fZ tZ⟩
  · obtain ⟨⟨t, w4, w5, w6, w7, w8, rfl, tl, tp⟩, wk⟩ := P
    exact ⟨⟨_, _, _, _, _, _, _, _, _, rfl⟩, sq_stepR hX s1 hr wk.fr, wk.tb⟩
end
open PySem PySem.Spec PyProof.Rows L2 RS LamX
theorem xst_InvalidDeed : XSt1 "InvalidDeed.__init__" s_InvalidDeed__init "index" "index" where
  bd := ⟨_, _, _, _, _, _, _, _, _, _, _, _, rfl, fun L fI cda cc => ⟨rfl, rfl, rfl, ⟨_, rfl⟩, rfl⟩⟩
  ar := ⟨_, rfl, rfl⟩
  ks := rfl
  kc := rfl
  ka := rfl
  kx := rfl
  kd := rfl
  co := rfl
  ge := rfl
  ce := by decide +kernel
  bi := fun oc kV doc pm an cdv ct cc u v => rfl
  ne := by decide
  dbg := by decide
theorem xst_InvalidText : XSt1 "InvalidText.__init__" s_InvalidText__init "position" "position" where
  bd := ⟨_, _, _, _, _, _, _, _, _, _, _, _, rfl, fun L fI cda cc => ⟨rfl, rfl, rfl, ⟨_, rfl⟩, rfl⟩⟩
  ar := ⟨_, rfl, rfl⟩
  ks := rfl
  kc := rfl
  ka := rfl
  kx := rfl
  kd := rfl
  co := rfl
  ge := rfl
  ce := by decide +kernel
  bi := fun oc kV doc pm an cdv ct cc u v => rfl
  ne := by decide
  dbg := by decide
theorem all_mk {l : PySem.W.OpenLaw} {w : World} {K : PySem.W.Frag} {h : Heap} {mg : Str → Option Value} {fa : Addr} {q : Program}
    {C_InvalidDeed fI_InvalidDeed cda_InvalidDeed cc_InvalidDeed : Addr} {oc_InvalidDeed kV_InvalidDeed doc_InvalidDeed pm_InvalidDeed ct_InvalidDeed ccl_InvalidDeed cl_InvalidDeed : Value} {od_InvalidDeed an_InvalidDeed cdd_InvalidDeed cld_InvalidDeed : Option Addr} {osl_InvalidDeed ccs_InvalidDeed csl_InvalidDeed : Array (Option Value)} {vs_InvalidDeed : Array Value} {file_InvalidDeed : Str} {tf_InvalidDeed : Tok}
    {C_InvalidText fI_InvalidText cda_InvalidText cc_InvalidText : Addr} {oc_InvalidText kV_InvalidText doc_InvalidText pm_InvalidText ct_InvalidText ccl_InvalidText cl_InvalidText : Value} {od_InvalidText an_InvalidText cdd_InvalidText cld_InvalidText : Option Addr} {osl_InvalidText ccs_InvalidText csl_InvalidText : Array (Option Value)} {vs_InvalidText : Array Value} {file_InvalidText : Str} {tf_InvalidText : Tok}
    {C_ShelfError : Addr}
    {f_items_of : Addr} {od_items_of an_items_of : Option Addr} {sl_items_of : Array (Option Value)} {oc_items_of kV_items_of dc_items_of pm_items_of cd_items_of ct_items_of : Value}
    {f_is_wrong_part : Addr} {od_is_wrong_part an_is_wrong_part : Option Addr} {sl_is_wrong_part : Array (Option Value)} {oc_is_wrong_part kV_is_wrong_part dc_is_wrong_part pm_is_wrong_part cd_is_wrong_part ct_is_wrong_part : Value}
    {f_string_notation : Addr} {od_string_notation an_string_notation : Option Addr} {sl_string_notation : Array (Option Value)} {oc_string_notation kV_string_notation dc_string_notation pm_string_notation cd_string_notation ct_string_notation : Value}
    {f_is_key : Addr} {od_is_key an_is_key : Option Addr} {sl_is_key : Array (Option Value)} {oc_is_key kV_is_key dc_is_key pm_is_key cd_is_key ct_is_key : Value}
    {f_expect : Addr} {od_expect an_expect : Option Addr} {sl_expect : Array (Option Value)} {oc_expect kV_expect dc_expect pm_expect cd_expect ct_expect : Value}
    {f_stands : Addr} {od_stands an_stands : Option Addr} {sl_stands : Array (Option Value)} {oc_stands kV_stands dc_stands pm_stands cd_stands ct_stands : Value}
    {f_is_plain_sign : Addr} {od_is_plain_sign an_is_plain_sign : Option Addr} {sl_is_plain_sign : Array (Option Value)} {oc_is_plain_sign kV_is_plain_sign dc_is_plain_sign pm_is_plain_sign cd_is_plain_sign ct_is_plain_sign : Value}
    {f_read_string : Addr} {od_read_string an_read_string : Option Addr} {sl_read_string : Array (Option Value)} {oc_read_string kV_read_string dc_read_string pm_read_string cd_read_string ct_read_string : Value}
    {f_read_key : Addr} {od_read_key an_read_key : Option Addr} {sl_read_key : Array (Option Value)} {oc_read_key kV_read_key dc_read_key pm_read_key cd_read_key ct_read_key : Value}
    {f_read_integer : Addr} {od_read_integer an_read_integer : Option Addr} {sl_read_integer : Array (Option Value)} {oc_read_integer kV_read_integer dc_read_integer pm_read_integer cd_read_integer ct_read_integer : Value}
    {f_checked_text : Addr} {od_checked_text an_checked_text : Option Addr} {sl_checked_text : Array (Option Value)} {oc_checked_text kV_checked_text dc_checked_text pm_checked_text cd_checked_text ct_checked_text : Value}
    {f_ended : Addr} {od_ended an_ended : Option Addr} {sl_ended : Array (Option Value)} {oc_ended kV_ended dc_ended pm_ended cd_ended ct_ended : Value}
    {f_read_deed : Addr} {od_read_deed an_read_deed : Option Addr} {sl_read_deed : Array (Option Value)} {oc_read_deed kV_read_deed dc_read_deed pm_read_deed cd_read_deed ct_read_deed : Value}
    {f_read_deeds : Addr} {od_read_deeds an_read_deeds : Option Addr} {sl_read_deeds : Array (Option Value)} {oc_read_deeds kV_read_deeds dc_read_deeds pm_read_deeds cd_read_deeds ct_read_deeds : Value}
    {f_l_pick : Addr} {od_l_pick an_l_pick : Option Addr} {sl_l_pick : Array (Option Value)} {oc_l_pick kV_l_pick dc_l_pick pm_l_pick cd_l_pick ct_l_pick : Value}
    {f_l_source : Addr} {od_l_source an_l_source : Option Addr} {sl_l_source : Array (Option Value)} {oc_l_source kV_l_source dc_l_source pm_l_source cd_l_source ct_l_source : Value}
    {f_l_string : Addr} {od_l_string an_l_string : Option Addr} {sl_l_string : Array (Option Value)} {oc_l_string kV_l_string dc_l_string pm_l_string cd_l_string ct_l_string : Value}
    {f_l_sign : Addr} {od_l_sign an_l_sign : Option Addr} {sl_l_sign : Array (Option Value)} {oc_l_sign kV_l_sign dc_l_sign pm_l_sign cd_l_sign ct_l_sign : Value}
    {f_l_word : Addr} {od_l_word an_l_word : Option Addr} {sl_l_word : Array (Option Value)} {oc_l_word kV_l_word dc_l_word pm_l_word cd_l_word ct_l_word : Value}
    {f_l_string_fits : Addr} {od_l_string_fits an_l_string_fits : Option Addr} {sl_l_string_fits : Array (Option Value)} {oc_l_string_fits kV_l_string_fits dc_l_string_fits pm_l_string_fits cd_l_string_fits ct_l_string_fits : Value}
    {f_l_number_fits : Addr} {od_l_number_fits an_l_number_fits : Option Addr} {sl_l_number_fits : Array (Option Value)} {oc_l_number_fits kV_l_number_fits dc_l_number_fits pm_l_number_fits cd_l_number_fits ct_l_number_fits : Value}
    {f_l_deed_fits : Addr} {od_l_deed_fits an_l_deed_fits : Option Addr} {sl_l_deed_fits : Array (Option Value)} {oc_l_deed_fits kV_l_deed_fits dc_l_deed_fits pm_l_deed_fits cd_l_deed_fits ct_l_deed_fits : Value}
    {f_l_wrong : Addr} {od_l_wrong an_l_wrong : Option Addr} {sl_l_wrong : Array (Option Value)} {oc_l_wrong kV_l_wrong dc_l_wrong pm_l_wrong cd_l_wrong ct_l_wrong : Value}
    {f_check_value : Addr} {od_check_value an_check_value : Option Addr} {sl_check_value : Array (Option Value)} {oc_check_value kV_check_value dc_check_value pm_check_value cd_check_value ct_check_value : Value}
    {f_is_value : Addr} {od_is_value an_is_value : Option Addr} {sl_is_value : Array (Option Value)} {oc_is_value kV_is_value dc_is_value pm_is_value cd_is_value ct_is_value : Value}
    {f_text_of : Addr} {od_text_of an_text_of : Option Addr} {sl_text_of : Array (Option Value)} {oc_text_of kV_text_of dc_text_of pm_text_of cd_text_of ct_text_of : Value}
    {f_notation : Addr} {od_notation an_notation : Option Addr} {sl_notation : Array (Option Value)} {oc_notation kV_notation dc_notation pm_notation cd_notation ct_notation : Value}
    {f_is_deed : Addr} {od_is_deed an_is_deed : Option Addr} {sl_is_deed : Array (Option Value)} {oc_is_deed kV_is_deed dc_is_deed pm_is_deed cd_is_deed ct_is_deed : Value}
    {f_deed_notation : Addr} {od_deed_notation an_deed_notation : Option Addr} {sl_deed_notation : Array (Option Value)} {oc_deed_notation kV_deed_notation dc_deed_notation pm_deed_notation cd_deed_notation ct_deed_notation : Value}
    {f_deeds_text : Addr} {od_deeds_text an_deeds_text : Option Addr} {sl_deeds_text : Array (Option Value)} {oc_deeds_text kV_deeds_text dc_deeds_text pm_deeds_text cd_deeds_text ct_deeds_text : Value}
    {f_read_notation : Addr} {od_read_notation an_read_notation : Option Addr} {sl_read_notation : Array (Option Value)} {oc_read_notation kV_read_notation dc_read_notation pm_read_notation cd_read_notation ct_read_notation : Value}
    {f_is_notation : Addr} {od_is_notation an_is_notation : Option Addr} {sl_is_notation : Array (Option Value)} {oc_is_notation kV_is_notation dc_is_notation pm_is_notation cd_is_notation ct_is_notation : Value}
    {f_l_quoted : Addr} {od_l_quoted an_l_quoted : Option Addr} {sl_l_quoted : Array (Option Value)} {oc_l_quoted kV_l_quoted dc_l_quoted pm_l_quoted cd_l_quoted ct_l_quoted : Value}
    {f_l_told : Addr} {od_l_told an_l_told : Option Addr} {sl_l_told : Array (Option Value)} {oc_l_told kV_l_told dc_l_told pm_l_told cd_l_told ct_l_told : Value}
    {f_l_right c_o_l_right P_l_right : Addr} {oo_l_right : Value} {ov_l_right : Array Value} {odd_l_right : Option Addr} {oss_l_right : Array (Option Value)} {od_l_right an_l_right : Option Addr} {sl_l_right : Array (Option Value)} {oc_l_right kV_l_right dc_l_right pm_l_right ct_l_right : Value}
    {f_l_by_hand_right : Addr} {od_l_by_hand_right an_l_by_hand_right : Option Addr} {sl_l_by_hand_right : Array (Option Value)} {oc_l_by_hand_right kV_l_by_hand_right dc_l_by_hand_right pm_l_by_hand_right cd_l_by_hand_right ct_l_by_hand_right : Value}
    {f_law c_o_law P_law : Addr} {oo_law : Value} {ov_law : Array Value} {odd_law : Option Addr} {oss_law : Array (Option Value)} {od_law an_law : Option Addr} {sl_law : Array (Option Value)} {oc_law kV_law dc_law pm_law ct_law : Value}
    {f_wrong_path : Addr} {od_wrong_path an_wrong_path : Option Addr} {sl_wrong_path : Array (Option Value)} {oc_wrong_path kV_wrong_path dc_wrong_path pm_wrong_path cd_wrong_path ct_wrong_path : Value}
    {f_value_notation : Addr} {od_value_notation an_value_notation : Option Addr} {sl_value_notation : Array (Option Value)} {oc_value_notation kV_value_notation dc_value_notation pm_value_notation cd_value_notation ct_value_notation : Value}
    {f_l_value : Addr} {od_l_value an_l_value : Option Addr} {sl_l_value : Array (Option Value)} {oc_l_value kV_l_value dc_l_value pm_l_value cd_l_value ct_l_value : Value}
    {f_read_value : Addr} {od_read_value an_read_value : Option Addr} {sl_read_value : Array (Option Value)} {oc_read_value kV_read_value dc_read_value pm_read_value cd_read_value ct_read_value : Value}
    {f_read_items : Addr} {od_read_items an_read_items : Option Addr} {sl_read_items : Array (Option Value)} {oc_read_items kV_read_items dc_read_items pm_read_items cd_read_items ct_read_items : Value}
    {f_read_pairs : Addr} {od_read_pairs an_read_pairs : Option Addr} {sl_read_pairs : Array (Option Value)} {oc_read_pairs kV_read_pairs dc_read_pairs pm_read_pairs cd_read_pairs ct_read_pairs : Value}
    {f_l_shown : Addr} {od_l_shown an_l_shown : Option Addr} {sl_l_shown : Array (Option Value)} {oc_l_shown kV_l_shown dc_l_shown pm_l_shown cd_l_shown ct_l_shown : Value}
    {f_spelled : Addr} {od_spelled an_spelled : Option Addr} {sl_spelled : Array (Option Value)} {oc_spelled kV_spelled dc_spelled pm_spelled cd_spelled ct_spelled : Value}
    {f_l_value_fits : Addr} {od_l_value_fits an_l_value_fits : Option Addr} {sl_l_value_fits : Array (Option Value)} {oc_l_value_fits kV_l_value_fits dc_l_value_fits pm_l_value_fits cd_l_value_fits ct_l_value_fits : Value}
    {f_l_items_fit : Addr} {od_l_items_fit an_l_items_fit : Option Addr} {sl_l_items_fit : Array (Option Value)} {oc_l_items_fit kV_l_items_fit dc_l_items_fit pm_l_items_fit cd_l_items_fit ct_l_items_fit : Value}
    {t_MOST_DIGITS_values : Tok}
    {t_MOST_ITEMS : Tok}
    {t_MOST_LEVELS_values : Tok}
    {t_MOST_KEY_values : Tok}
    {t_MOST_DIGITS_notation : Tok}
    {t_MOST_LEVELS_notation : Tok}
    {t_MOST_KEY_notation : Tok}
    {t_DIGITS : Tok}
    {A_ESC : Addr} {h1_ESC h2_ESC h3_ESC : Int} {k1_ESC k2_ESC k3_ESC u1_ESC u2_ESC u3_ESC : Tok} {n_ESC : Nat}
    {A_UNE A_WRD A_W1 A_W2 A_W3 : Addr} {h1_UNE h2_UNE h3_UNE : Int} {k1_UNE k2_UNE k3_UNE u1_UNE u2_UNE u3_UNE t_W1 t_W2 t_W3 : Tok} {n_UNE n_WRD n_W1 n_W2 n_W3 : Nat} (X : K.In h) (G : h.Ns mainGlobals mg) (hfa : mg "law" = some (.ref fa)) (TF : TabF q K h)
    (b_super : PySem.W.nsIn K mainGlobals "super" = some none)
    (xa : XA l.prog K)
    (aC_InvalidDeed : PySem.W.nsIn K mainGlobals "InvalidDeed" = some (some (.ref C_InvalidDeed)))
    (in_InvalidDeed : PySem.W.findIn K (.ref C_InvalidDeed) "__init__" = some (some (.ref fI_InvalidDeed)))
    (l_InvalidDeed : K.lookup fI_InvalidDeed = some ⟨oc_InvalidDeed, od_InvalidDeed, .func (PySem.W.ksFn "__init__" "InvalidDeed.__init__" (defArgs s_InvalidDeed__init) (defBody s_InvalidDeed__init) (defScope s_InvalidDeed__init) .none kV_InvalidDeed doc_InvalidDeed pm_InvalidDeed an_InvalidDeed (.ref cda_InvalidDeed) ct_InvalidDeed cc_InvalidDeed), osl_InvalidDeed⟩)
    (co_InvalidDeed : K.lookup cda_InvalidDeed = some ⟨ccl_InvalidDeed, cdd_InvalidDeed, .fields vs_InvalidDeed, ccs_InvalidDeed⟩)
    (fi_InvalidDeed : vs_InvalidDeed[2]? = some (.str file_InvalidDeed tf_InvalidDeed))
    (fe_InvalidDeed : ((l.prog.main.file : Str) == file_InvalidDeed) = true)
    (ce_InvalidDeed : K.lookup cc_InvalidDeed = some ⟨cl_InvalidDeed, cld_InvalidDeed, .cell (some (.ref C_InvalidDeed)), csl_InvalidDeed⟩)
    (xb_InvalidDeed : XB K C_InvalidDeed fI_InvalidDeed cda_InvalidDeed "InvalidDeed.__init__" "ValueError" "ValueError.__new__" "ValueError.__init__" [.type "ValueError", .type "Exception", .type "BaseException", .type "object"])
    (nf_InvalidDeed : PySem.W.findIn K (.ref C_InvalidDeed) "index" = some none)
    (aC_InvalidText : PySem.W.nsIn K mainGlobals "InvalidText" = some (some (.ref C_InvalidText)))
    (in_InvalidText : PySem.W.findIn K (.ref C_InvalidText) "__init__" = some (some (.ref fI_InvalidText)))
    (l_InvalidText : K.lookup fI_InvalidText = some ⟨oc_InvalidText, od_InvalidText, .func (PySem.W.ksFn "__init__" "InvalidText.__init__" (defArgs s_InvalidText__init) (defBody s_InvalidText__init) (defScope s_InvalidText__init) .none kV_InvalidText doc_InvalidText pm_InvalidText an_InvalidText (.ref cda_InvalidText) ct_InvalidText cc_InvalidText), osl_InvalidText⟩)
    (co_InvalidText : K.lookup cda_InvalidText = some ⟨ccl_InvalidText, cdd_InvalidText, .fields vs_InvalidText, ccs_InvalidText⟩)
    (fi_InvalidText : vs_InvalidText[2]? = some (.str file_InvalidText tf_InvalidText))
    (fe_InvalidText : ((l.prog.main.file : Str) == file_InvalidText) = true)
    (ce_InvalidText : K.lookup cc_InvalidText = some ⟨cl_InvalidText, cld_InvalidText, .cell (some (.ref C_InvalidText)), csl_InvalidText⟩)
    (xb_InvalidText : XB K C_InvalidText fI_InvalidText cda_InvalidText "InvalidText.__init__" "ValueError" "ValueError.__new__" "ValueError.__init__" [.type "ValueError", .type "Exception", .type "BaseException", .type "object"])
    (nf_InvalidText : PySem.W.findIn K (.ref C_InvalidText) "position" = some none)
    (tyX_InvalidDeed : PySem.W.typeIn K (.ref C_InvalidDeed) = some (.type "type"))
    (tyX_InvalidText : PySem.W.typeIn K (.ref C_InvalidText) = some (.type "type"))
    (aC_ShelfError : PySem.W.nsIn K mainGlobals "ShelfError" = some (some (.ref C_ShelfError)))
    (a_items_of : PySem.W.nsIn K mainGlobals "items_of" = some (some (.ref f_items_of)))
    (l_items_of : K.lookup f_items_of = some ⟨oc_items_of, od_items_of, .func (PySem.W.fnOf "items_of" "items_of" (defArgs s_items_of) (defBody s_items_of) (defScope s_items_of) .none kV_items_of dc_items_of pm_items_of an_items_of cd_items_of ct_items_of), sl_items_of⟩)
    (c_items_of : PySem.W.codeIn K cd_items_of "items_of" = true)
    (k_items_of : PySem.W.keepIn K (.ref f_items_of) = true)
    (a_is_wrong_part : PySem.W.nsIn K mainGlobals "is_wrong_part" = some (some (.ref f_is_wrong_part)))
    (l_is_wrong_part : K.lookup f_is_wrong_part = some ⟨oc_is_wrong_part, od_is_wrong_part, .func (PySem.W.fnOf "is_wrong_part" "is_wrong_part" (defArgs s_is_wrong_part) (defBody s_is_wrong_part) (defScope s_is_wrong_part) .none kV_is_wrong_part dc_is_wrong_part pm_is_wrong_part an_is_wrong_part cd_is_wrong_part ct_is_wrong_part), sl_is_wrong_part⟩)
    (c_is_wrong_part : PySem.W.codeIn K cd_is_wrong_part "is_wrong_part" = true)
    (k_is_wrong_part : PySem.W.keepIn K (.ref f_is_wrong_part) = true)
    (a_string_notation : PySem.W.nsIn K mainGlobals "string_notation" = some (some (.ref f_string_notation)))
    (l_string_notation : K.lookup f_string_notation = some ⟨oc_string_notation, od_string_notation, .func (PySem.W.fnOf "string_notation" "string_notation" (defArgs s_string_notation) (defBody s_string_notation) (defScope s_string_notation) .none kV_string_notation dc_string_notation pm_string_notation an_string_notation cd_string_notation ct_string_notation), sl_string_notation⟩)
    (c_string_notation : PySem.W.codeIn K cd_string_notation "string_notation" = true)
    (k_string_notation : PySem.W.keepIn K (.ref f_string_notation) = true)
    (a_is_key : PySem.W.nsIn K mainGlobals "is_key" = some (some (.ref f_is_key)))
    (l_is_key : K.lookup f_is_key = some ⟨oc_is_key, od_is_key, .func (PySem.W.fnOf "is_key" "is_key" (defArgs s_is_key) (defBody s_is_key) (defScope s_is_key) .none kV_is_key dc_is_key pm_is_key an_is_key cd_is_key ct_is_key), sl_is_key⟩)
    (c_is_key : PySem.W.codeIn K cd_is_key "is_key" = true)
    (k_is_key : PySem.W.keepIn K (.ref f_is_key) = true)
    (a_expect : PySem.W.nsIn K mainGlobals "expect" = some (some (.ref f_expect)))
    (l_expect : K.lookup f_expect = some ⟨oc_expect, od_expect, .func (PySem.W.fnOf "expect" "expect" (defArgs s_expect) (defBody s_expect) (defScope s_expect) .none kV_expect dc_expect pm_expect an_expect cd_expect ct_expect), sl_expect⟩)
    (c_expect : PySem.W.codeIn K cd_expect "expect" = true)
    (k_expect : PySem.W.keepIn K (.ref f_expect) = true)
    (a_stands : PySem.W.nsIn K mainGlobals "stands" = some (some (.ref f_stands)))
    (l_stands : K.lookup f_stands = some ⟨oc_stands, od_stands, .func (PySem.W.fnOf "stands" "stands" (defArgs s_stands) (defBody s_stands) (defScope s_stands) .none kV_stands dc_stands pm_stands an_stands cd_stands ct_stands), sl_stands⟩)
    (c_stands : PySem.W.codeIn K cd_stands "stands" = true)
    (k_stands : PySem.W.keepIn K (.ref f_stands) = true)
    (a_is_plain_sign : PySem.W.nsIn K mainGlobals "is_plain_sign" = some (some (.ref f_is_plain_sign)))
    (l_is_plain_sign : K.lookup f_is_plain_sign = some ⟨oc_is_plain_sign, od_is_plain_sign, .func (PySem.W.fnOf "is_plain_sign" "is_plain_sign" (defArgs s_is_plain_sign) (defBody s_is_plain_sign) (defScope s_is_plain_sign) .none kV_is_plain_sign dc_is_plain_sign pm_is_plain_sign an_is_plain_sign cd_is_plain_sign ct_is_plain_sign), sl_is_plain_sign⟩)
    (c_is_plain_sign : PySem.W.codeIn K cd_is_plain_sign "is_plain_sign" = true)
    (k_is_plain_sign : PySem.W.keepIn K (.ref f_is_plain_sign) = true)
    (a_read_string : PySem.W.nsIn K mainGlobals "read_string" = some (some (.ref f_read_string)))
    (l_read_string : K.lookup f_read_string = some ⟨oc_read_string, od_read_string, .func (PySem.W.fnOf "read_string" "read_string" (defArgs s_read_string) (defBody s_read_string) (defScope s_read_string) .none kV_read_string dc_read_string pm_read_string an_read_string cd_read_string ct_read_string), sl_read_string⟩)
    (c_read_string : PySem.W.codeIn K cd_read_string "read_string" = true)
    (k_read_string : PySem.W.keepIn K (.ref f_read_string) = true)
    (a_read_key : PySem.W.nsIn K mainGlobals "read_key" = some (some (.ref f_read_key)))
    (l_read_key : K.lookup f_read_key = some ⟨oc_read_key, od_read_key, .func (PySem.W.fnOf "read_key" "read_key" (defArgs s_read_key) (defBody s_read_key) (defScope s_read_key) .none kV_read_key dc_read_key pm_read_key an_read_key cd_read_key ct_read_key), sl_read_key⟩)
    (c_read_key : PySem.W.codeIn K cd_read_key "read_key" = true)
    (k_read_key : PySem.W.keepIn K (.ref f_read_key) = true)
    (a_read_integer : PySem.W.nsIn K mainGlobals "read_integer" = some (some (.ref f_read_integer)))
    (l_read_integer : K.lookup f_read_integer = some ⟨oc_read_integer, od_read_integer, .func (PySem.W.fnOf "read_integer" "read_integer" (defArgs s_read_integer) (defBody s_read_integer) (defScope s_read_integer) .none kV_read_integer dc_read_integer pm_read_integer an_read_integer cd_read_integer ct_read_integer), sl_read_integer⟩)
    (c_read_integer : PySem.W.codeIn K cd_read_integer "read_integer" = true)
    (k_read_integer : PySem.W.keepIn K (.ref f_read_integer) = true)
    (a_checked_text : PySem.W.nsIn K mainGlobals "checked_text" = some (some (.ref f_checked_text)))
    (l_checked_text : K.lookup f_checked_text = some ⟨oc_checked_text, od_checked_text, .func (PySem.W.fnOf "checked_text" "checked_text" (defArgs s_checked_text) (defBody s_checked_text) (defScope s_checked_text) .none kV_checked_text dc_checked_text pm_checked_text an_checked_text cd_checked_text ct_checked_text), sl_checked_text⟩)
    (c_checked_text : PySem.W.codeIn K cd_checked_text "checked_text" = true)
    (k_checked_text : PySem.W.keepIn K (.ref f_checked_text) = true)
    (a_ended : PySem.W.nsIn K mainGlobals "ended" = some (some (.ref f_ended)))
    (l_ended : K.lookup f_ended = some ⟨oc_ended, od_ended, .func (PySem.W.fnOf "ended" "ended" (defArgs s_ended) (defBody s_ended) (defScope s_ended) .none kV_ended dc_ended pm_ended an_ended cd_ended ct_ended), sl_ended⟩)
    (c_ended : PySem.W.codeIn K cd_ended "ended" = true)
    (k_ended : PySem.W.keepIn K (.ref f_ended) = true)
    (a_read_deed : PySem.W.nsIn K mainGlobals "read_deed" = some (some (.ref f_read_deed)))
    (l_read_deed : K.lookup f_read_deed = some ⟨oc_read_deed, od_read_deed, .func (PySem.W.fnOf "read_deed" "read_deed" (defArgs s_read_deed) (defBody s_read_deed) (defScope s_read_deed) .none kV_read_deed dc_read_deed pm_read_deed an_read_deed cd_read_deed ct_read_deed), sl_read_deed⟩)
    (c_read_deed : PySem.W.codeIn K cd_read_deed "read_deed" = true)
    (k_read_deed : PySem.W.keepIn K (.ref f_read_deed) = true)
    (a_read_deeds : PySem.W.nsIn K mainGlobals "read_deeds" = some (some (.ref f_read_deeds)))
    (l_read_deeds : K.lookup f_read_deeds = some ⟨oc_read_deeds, od_read_deeds, .func (PySem.W.fnOf "read_deeds" "read_deeds" (defArgs s_read_deeds) (defBody s_read_deeds) (defScope s_read_deeds) .none kV_read_deeds dc_read_deeds pm_read_deeds an_read_deeds cd_read_deeds ct_read_deeds), sl_read_deeds⟩)
    (c_read_deeds : PySem.W.codeIn K cd_read_deeds "read_deeds" = true)
    (k_read_deeds : PySem.W.keepIn K (.ref f_read_deeds) = true)
    (a_l_pick : PySem.W.nsIn K mainGlobals "_law_pick" = some (some (.ref f_l_pick)))
    (l_l_pick : K.lookup f_l_pick = some ⟨oc_l_pick, od_l_pick, .func (PySem.W.fnOf "_law_pick" "_law_pick" (defArgs s_l_pick) (defBody s_l_pick) (defScope s_l_pick) .none kV_l_pick dc_l_pick pm_l_pick an_l_pick cd_l_pick ct_l_pick), sl_l_pick⟩)
    (c_l_pick : PySem.W.codeIn K cd_l_pick "_law_pick" = true)
    (k_l_pick : PySem.W.keepIn K (.ref f_l_pick) = true)
    (a_l_source : PySem.W.nsIn K mainGlobals "_law_source" = some (some (.ref f_l_source)))
    (l_l_source : K.lookup f_l_source = some ⟨oc_l_source, od_l_source, .func (PySem.W.fnOf "_law_source" "_law_source" (defArgs s_l_source) (defBody s_l_source) (defScope s_l_source) .none kV_l_source dc_l_source pm_l_source an_l_source cd_l_source ct_l_source), sl_l_source⟩)
    (c_l_source : PySem.W.codeIn K cd_l_source "_law_source" = true)
    (k_l_source : PySem.W.keepIn K (.ref f_l_source) = true)
    (a_l_string : PySem.W.nsIn K mainGlobals "_law_string" = some (some (.ref f_l_string)))
    (l_l_string : K.lookup f_l_string = some ⟨oc_l_string, od_l_string, .func (PySem.W.fnOf "_law_string" "_law_string" (defArgs s_l_string) (defBody s_l_string) (defScope s_l_string) .none kV_l_string dc_l_string pm_l_string an_l_string cd_l_string ct_l_string), sl_l_string⟩)
    (c_l_string : PySem.W.codeIn K cd_l_string "_law_string" = true)
    (k_l_string : PySem.W.keepIn K (.ref f_l_string) = true)
    (a_l_sign : PySem.W.nsIn K mainGlobals "_law_sign" = some (some (.ref f_l_sign)))
    (l_l_sign : K.lookup f_l_sign = some ⟨oc_l_sign, od_l_sign, .func (PySem.W.fnOf "_law_sign" "_law_sign" (defArgs s_l_sign) (defBody s_l_sign) (defScope s_l_sign) .none kV_l_sign dc_l_sign pm_l_sign an_l_sign cd_l_sign ct_l_sign), sl_l_sign⟩)
    (c_l_sign : PySem.W.codeIn K cd_l_sign "_law_sign" = true)
    (k_l_sign : PySem.W.keepIn K (.ref f_l_sign) = true)
    (a_l_word : PySem.W.nsIn K mainGlobals "_law_word" = some (some (.ref f_l_word)))
    (l_l_word : K.lookup f_l_word = some ⟨oc_l_word, od_l_word, .func (PySem.W.fnOf "_law_word" "_law_word" (defArgs s_l_word) (defBody s_l_word) (defScope s_l_word) .none kV_l_word dc_l_word pm_l_word an_l_word cd_l_word ct_l_word), sl_l_word⟩)
    (c_l_word : PySem.W.codeIn K cd_l_word "_law_word" = true)
    (k_l_word : PySem.W.keepIn K (.ref f_l_word) = true)
    (a_l_string_fits : PySem.W.nsIn K mainGlobals "_law_string_fits" = some (some (.ref f_l_string_fits)))
    (l_l_string_fits : K.lookup f_l_string_fits = some ⟨oc_l_string_fits, od_l_string_fits, .func (PySem.W.fnOf "_law_string_fits" "_law_string_fits" (defArgs s_l_string_fits) (defBody s_l_string_fits) (defScope s_l_string_fits) .none kV_l_string_fits dc_l_string_fits pm_l_string_fits an_l_string_fits cd_l_string_fits ct_l_string_fits), sl_l_string_fits⟩)
    (c_l_string_fits : PySem.W.codeIn K cd_l_string_fits "_law_string_fits" = true)
    (k_l_string_fits : PySem.W.keepIn K (.ref f_l_string_fits) = true)
    (a_l_number_fits : PySem.W.nsIn K mainGlobals "_law_number_fits" = some (some (.ref f_l_number_fits)))
    (l_l_number_fits : K.lookup f_l_number_fits = some ⟨oc_l_number_fits, od_l_number_fits, .func (PySem.W.fnOf "_law_number_fits" "_law_number_fits" (defArgs s_l_number_fits) (defBody s_l_number_fits) (defScope s_l_number_fits) .none kV_l_number_fits dc_l_number_fits pm_l_number_fits an_l_number_fits cd_l_number_fits ct_l_number_fits), sl_l_number_fits⟩)
    (c_l_number_fits : PySem.W.codeIn K cd_l_number_fits "_law_number_fits" = true)
    (k_l_number_fits : PySem.W.keepIn K (.ref f_l_number_fits) = true)
    (a_l_deed_fits : PySem.W.nsIn K mainGlobals "_law_deed_fits" = some (some (.ref f_l_deed_fits)))
    (l_l_deed_fits : K.lookup f_l_deed_fits = some ⟨oc_l_deed_fits, od_l_deed_fits, .func (PySem.W.fnOf "_law_deed_fits" "_law_deed_fits" (defArgs s_l_deed_fits) (defBody s_l_deed_fits) (defScope s_l_deed_fits) .none kV_l_deed_fits dc_l_deed_fits pm_l_deed_fits an_l_deed_fits cd_l_deed_fits ct_l_deed_fits), sl_l_deed_fits⟩)
    (c_l_deed_fits : PySem.W.codeIn K cd_l_deed_fits "_law_deed_fits" = true)
    (k_l_deed_fits : PySem.W.keepIn K (.ref f_l_deed_fits) = true)
    (a_l_wrong : PySem.W.nsIn K mainGlobals "_law_wrong" = some (some (.ref f_l_wrong)))
    (l_l_wrong : K.lookup f_l_wrong = some ⟨oc_l_wrong, od_l_wrong, .func (PySem.W.fnOf "_law_wrong" "_law_wrong" (defArgs s_l_wrong) (defBody s_l_wrong) (defScope s_l_wrong) .none kV_l_wrong dc_l_wrong pm_l_wrong an_l_wrong cd_l_wrong ct_l_wrong), sl_l_wrong⟩)
    (c_l_wrong : PySem.W.codeIn K cd_l_wrong "_law_wrong" = true)
    (k_l_wrong : PySem.W.keepIn K (.ref f_l_wrong) = true)
    (a_check_value : PySem.W.nsIn K mainGlobals "check_value" = some (some (.ref f_check_value)))
    (l_check_value : K.lookup f_check_value = some ⟨oc_check_value, od_check_value, .func (PySem.W.fnOf "check_value" "check_value" (defArgs s_check_value) (defBody s_check_value) (defScope s_check_value) .none kV_check_value dc_check_value pm_check_value an_check_value cd_check_value ct_check_value), sl_check_value⟩)
    (c_check_value : PySem.W.codeIn K cd_check_value "check_value" = true)
    (k_check_value : PySem.W.keepIn K (.ref f_check_value) = true)
    (a_is_value : PySem.W.nsIn K mainGlobals "is_value" = some (some (.ref f_is_value)))
    (l_is_value : K.lookup f_is_value = some ⟨oc_is_value, od_is_value, .func (PySem.W.fnOf "is_value" "is_value" (defArgs s_is_value) (defBody s_is_value) (defScope s_is_value) .none kV_is_value dc_is_value pm_is_value an_is_value cd_is_value ct_is_value), sl_is_value⟩)
    (c_is_value : PySem.W.codeIn K cd_is_value "is_value" = true)
    (k_is_value : PySem.W.keepIn K (.ref f_is_value) = true)
    (a_text_of : PySem.W.nsIn K mainGlobals "text_of" = some (some (.ref f_text_of)))
    (l_text_of : K.lookup f_text_of = some ⟨oc_text_of, od_text_of, .func (PySem.W.fnOf "text_of" "text_of" (defArgs s_text_of) (defBody s_text_of) (defScope s_text_of) .none kV_text_of dc_text_of pm_text_of an_text_of cd_text_of ct_text_of), sl_text_of⟩)
    (c_text_of : PySem.W.codeIn K cd_text_of "text_of" = true)
    (k_text_of : PySem.W.keepIn K (.ref f_text_of) = true)
    (a_notation : PySem.W.nsIn K mainGlobals "notation" = some (some (.ref f_notation)))
    (l_notation : K.lookup f_notation = some ⟨oc_notation, od_notation, .func (PySem.W.fnOf "notation" "notation" (defArgs s_notation) (defBody s_notation) (defScope s_notation) .none kV_notation dc_notation pm_notation an_notation cd_notation ct_notation), sl_notation⟩)
    (c_notation : PySem.W.codeIn K cd_notation "notation" = true)
    (k_notation : PySem.W.keepIn K (.ref f_notation) = true)
    (a_is_deed : PySem.W.nsIn K mainGlobals "is_deed" = some (some (.ref f_is_deed)))
    (l_is_deed : K.lookup f_is_deed = some ⟨oc_is_deed, od_is_deed, .func (PySem.W.fnOf "is_deed" "is_deed" (defArgs s_is_deed) (defBody s_is_deed) (defScope s_is_deed) .none kV_is_deed dc_is_deed pm_is_deed an_is_deed cd_is_deed ct_is_deed), sl_is_deed⟩)
    (c_is_deed : PySem.W.codeIn K cd_is_deed "is_deed" = true)
    (k_is_deed : PySem.W.keepIn K (.ref f_is_deed) = true)
    (a_deed_notation : PySem.W.nsIn K mainGlobals "deed_notation" = some (some (.ref f_deed_notation)))
    (l_deed_notation : K.lookup f_deed_notation = some ⟨oc_deed_notation, od_deed_notation, .func (PySem.W.fnOf "deed_notation" "deed_notation" (defArgs s_deed_notation) (defBody s_deed_notation) (defScope s_deed_notation) .none kV_deed_notation dc_deed_notation pm_deed_notation an_deed_notation cd_deed_notation ct_deed_notation), sl_deed_notation⟩)
    (c_deed_notation : PySem.W.codeIn K cd_deed_notation "deed_notation" = true)
    (k_deed_notation : PySem.W.keepIn K (.ref f_deed_notation) = true)
    (a_deeds_text : PySem.W.nsIn K mainGlobals "deeds_text" = some (some (.ref f_deeds_text)))
    (l_deeds_text : K.lookup f_deeds_text = some ⟨oc_deeds_text, od_deeds_text, .func (PySem.W.fnOf "deeds_text" "deeds_text" (defArgs s_deeds_text) (defBody s_deeds_text) (defScope s_deeds_text) .none kV_deeds_text dc_deeds_text pm_deeds_text an_deeds_text cd_deeds_text ct_deeds_text), sl_deeds_text⟩)
    (c_deeds_text : PySem.W.codeIn K cd_deeds_text "deeds_text" = true)
    (k_deeds_text : PySem.W.keepIn K (.ref f_deeds_text) = true)
    (a_read_notation : PySem.W.nsIn K mainGlobals "read_notation" = some (some (.ref f_read_notation)))
    (l_read_notation : K.lookup f_read_notation = some ⟨oc_read_notation, od_read_notation, .func (PySem.W.fnOf "read_notation" "read_notation" (defArgs s_read_notation) (defBody s_read_notation) (defScope s_read_notation) .none kV_read_notation dc_read_notation pm_read_notation an_read_notation cd_read_notation ct_read_notation), sl_read_notation⟩)
    (c_read_notation : PySem.W.codeIn K cd_read_notation "read_notation" = true)
    (k_read_notation : PySem.W.keepIn K (.ref f_read_notation) = true)
    (a_is_notation : PySem.W.nsIn K mainGlobals "is_notation" = some (some (.ref f_is_notation)))
    (l_is_notation : K.lookup f_is_notation = some ⟨oc_is_notation, od_is_notation, .func (PySem.W.fnOf "is_notation" "is_notation" (defArgs s_is_notation) (defBody s_is_notation) (defScope s_is_notation) .none kV_is_notation dc_is_notation pm_is_notation an_is_notation cd_is_notation ct_is_notation), sl_is_notation⟩)
    (c_is_notation : PySem.W.codeIn K cd_is_notation "is_notation" = true)
    (k_is_notation : PySem.W.keepIn K (.ref f_is_notation) = true)
    (a_l_quoted : PySem.W.nsIn K mainGlobals "_law_quoted" = some (some (.ref f_l_quoted)))
    (l_l_quoted : K.lookup f_l_quoted = some ⟨oc_l_quoted, od_l_quoted, .func (PySem.W.fnOf "_law_quoted" "_law_quoted" (defArgs s_l_quoted) (defBody s_l_quoted) (defScope s_l_quoted) .none kV_l_quoted dc_l_quoted pm_l_quoted an_l_quoted cd_l_quoted ct_l_quoted), sl_l_quoted⟩)
    (c_l_quoted : PySem.W.codeIn K cd_l_quoted "_law_quoted" = true)
    (k_l_quoted : PySem.W.keepIn K (.ref f_l_quoted) = true)
    (a_l_told : PySem.W.nsIn K mainGlobals "_law_told" = some (some (.ref f_l_told)))
    (l_l_told : K.lookup f_l_told = some ⟨oc_l_told, od_l_told, .func (PySem.W.fnOf "_law_told" "_law_told" (defArgs s_l_told) (defBody s_l_told) (defScope s_l_told) .none kV_l_told dc_l_told pm_l_told an_l_told cd_l_told ct_l_told), sl_l_told⟩)
    (c_l_told : PySem.W.codeIn K cd_l_told "_law_told" = true)
    (k_l_told : PySem.W.keepIn K (.ref f_l_told) = true)
    (a_l_right : PySem.W.nsIn K mainGlobals "_law_right" = some (some (.ref f_l_right)))
    (l_l_right : K.lookup f_l_right = some ⟨oc_l_right, od_l_right, .func (PySem.W.fnOf "_law_right" "_law_right" (defArgs s_l_right) (defBody s_l_right) (defScope s_l_right) .none kV_l_right dc_l_right pm_l_right an_l_right (.ref c_o_l_right) ct_l_right), sl_l_right⟩)
    (c_l_right : PySem.W.codeIn K (.ref c_o_l_right) "_law_right" = true)
    (k_l_right : PySem.W.keepIn K (.ref f_l_right) = true)
    (co_l_right : K.lookup c_o_l_right = some ⟨oo_l_right, odd_l_right, .fields ov_l_right, oss_l_right⟩)
    (ov_l_right : (ov_l_right[11]? : Option Value) = some (.ref P_l_right))
    (ti_l_right : PySem.W.tabIn K "_law_right" = some (c_o_l_right, P_l_right))
    (tn_l_right : K.lookup P_l_right = none)
    (rs_l_right : ((recsOf q).find? (fun e => e.name == ("_law_right" : Str))).isSome = true)
    (a_l_by_hand_right : PySem.W.nsIn K mainGlobals "_law_by_hand_right" = some (some (.ref f_l_by_hand_right)))
    (l_l_by_hand_right : K.lookup f_l_by_hand_right = some ⟨oc_l_by_hand_right, od_l_by_hand_right, .func (PySem.W.fnOf "_law_by_hand_right" "_law_by_hand_right" (defArgs s_l_by_hand_right) (defBody s_l_by_hand_right) (defScope s_l_by_hand_right) .none kV_l_by_hand_right dc_l_by_hand_right pm_l_by_hand_right an_l_by_hand_right cd_l_by_hand_right ct_l_by_hand_right), sl_l_by_hand_right⟩)
    (c_l_by_hand_right : PySem.W.codeIn K cd_l_by_hand_right "_law_by_hand_right" = true)
    (k_l_by_hand_right : PySem.W.keepIn K (.ref f_l_by_hand_right) = true)
    (a_law : PySem.W.nsIn K mainGlobals "law" = some (some (.ref f_law)))
    (l_law : K.lookup f_law = some ⟨oc_law, od_law, .func (PySem.W.fnOf "law" "law" (defArgs s_law) (defBody s_law) (defScope s_law) .none kV_law dc_law pm_law an_law (.ref c_o_law) ct_law), sl_law⟩)
    (c_law : PySem.W.codeIn K (.ref c_o_law) "law" = true)
    (k_law : PySem.W.keepIn K (.ref f_law) = true)
    (co_law : K.lookup c_o_law = some ⟨oo_law, odd_law, .fields ov_law, oss_law⟩)
    (ov_law : (ov_law[11]? : Option Value) = some (.ref P_law))
    (ti_law : PySem.W.tabIn K "law" = some (c_o_law, P_law))
    (tn_law : K.lookup P_law = none)
    (rs_law : ((recsOf q).find? (fun e => e.name == ("law" : Str))).isSome = true)
    (a_wrong_path : PySem.W.nsIn K mainGlobals "wrong_path" = some (some (.ref f_wrong_path)))
    (l_wrong_path : K.lookup f_wrong_path = some ⟨oc_wrong_path, od_wrong_path, .func (PySem.W.fnOf "wrong_path" "wrong_path" (defArgs s_wrong_path) (defBody s_wrong_path) (defScope s_wrong_path) .none kV_wrong_path dc_wrong_path pm_wrong_path an_wrong_path cd_wrong_path ct_wrong_path), sl_wrong_path⟩)
    (c_wrong_path : PySem.W.codeIn K cd_wrong_path "wrong_path" = true)
    (k_wrong_path : PySem.W.keepIn K (.ref f_wrong_path) = true)
    (a_value_notation : PySem.W.nsIn K mainGlobals "value_notation" = some (some (.ref f_value_notation)))
    (l_value_notation : K.lookup f_value_notation = some ⟨oc_value_notation, od_value_notation, .func (PySem.W.fnOf "value_notation" "value_notation" (defArgs s_value_notation) (defBody s_value_notation) (defScope s_value_notation) .none kV_value_notation dc_value_notation pm_value_notation an_value_notation cd_value_notation ct_value_notation), sl_value_notation⟩)
    (c_value_notation : PySem.W.codeIn K cd_value_notation "value_notation" = true)
    (k_value_notation : PySem.W.keepIn K (.ref f_value_notation) = true)
    (a_l_value : PySem.W.nsIn K mainGlobals "_law_value" = some (some (.ref f_l_value)))
    (l_l_value : K.lookup f_l_value = some ⟨oc_l_value, od_l_value, .func (PySem.W.fnOf "_law_value" "_law_value" (defArgs s_l_value) (defBody s_l_value) (defScope s_l_value) .none kV_l_value dc_l_value pm_l_value an_l_value cd_l_value ct_l_value), sl_l_value⟩)
    (c_l_value : PySem.W.codeIn K cd_l_value "_law_value" = true)
    (k_l_value : PySem.W.keepIn K (.ref f_l_value) = true)
    (a_read_value : PySem.W.nsIn K mainGlobals "read_value" = some (some (.ref f_read_value)))
    (l_read_value : K.lookup f_read_value = some ⟨oc_read_value, od_read_value, .func (PySem.W.fnOf "read_value" "read_value" (defArgs s_read_value) (defBody s_read_value) (defScope s_read_value) .none kV_read_value dc_read_value pm_read_value an_read_value cd_read_value ct_read_value), sl_read_value⟩)
    (c_read_value : PySem.W.codeIn K cd_read_value "read_value" = true)
    (k_read_value : PySem.W.keepIn K (.ref f_read_value) = true)
    (a_read_items : PySem.W.nsIn K mainGlobals "read_items" = some (some (.ref f_read_items)))
    (l_read_items : K.lookup f_read_items = some ⟨oc_read_items, od_read_items, .func (PySem.W.fnOf "read_items" "read_items" (defArgs s_read_items) (defBody s_read_items) (defScope s_read_items) .none kV_read_items dc_read_items pm_read_items an_read_items cd_read_items ct_read_items), sl_read_items⟩)
    (c_read_items : PySem.W.codeIn K cd_read_items "read_items" = true)
    (k_read_items : PySem.W.keepIn K (.ref f_read_items) = true)
    (a_read_pairs : PySem.W.nsIn K mainGlobals "read_pairs" = some (some (.ref f_read_pairs)))
    (l_read_pairs : K.lookup f_read_pairs = some ⟨oc_read_pairs, od_read_pairs, .func (PySem.W.fnOf "read_pairs" "read_pairs" (defArgs s_read_pairs) (defBody s_read_pairs) (defScope s_read_pairs) .none kV_read_pairs dc_read_pairs pm_read_pairs an_read_pairs cd_read_pairs ct_read_pairs), sl_read_pairs⟩)
    (c_read_pairs : PySem.W.codeIn K cd_read_pairs "read_pairs" = true)
    (k_read_pairs : PySem.W.keepIn K (.ref f_read_pairs) = true)
    (a_l_shown : PySem.W.nsIn K mainGlobals "_law_shown" = some (some (.ref f_l_shown)))
    (l_l_shown : K.lookup f_l_shown = some ⟨oc_l_shown, od_l_shown, .func (PySem.W.fnOf "_law_shown" "_law_shown" (defArgs s_l_shown) (defBody s_l_shown) (defScope s_l_shown) .none kV_l_shown dc_l_shown pm_l_shown an_l_shown cd_l_shown ct_l_shown), sl_l_shown⟩)
    (c_l_shown : PySem.W.codeIn K cd_l_shown "_law_shown" = true)
    (k_l_shown : PySem.W.keepIn K (.ref f_l_shown) = true)
    (a_spelled : PySem.W.nsIn K mainGlobals "spelled" = some (some (.ref f_spelled)))
    (l_spelled : K.lookup f_spelled = some ⟨oc_spelled, od_spelled, .func (PySem.W.fnOf "spelled" "spelled" (defArgs s_spelled) (defBody s_spelled) (defScope s_spelled) .none kV_spelled dc_spelled pm_spelled an_spelled cd_spelled ct_spelled), sl_spelled⟩)
    (c_spelled : PySem.W.codeIn K cd_spelled "spelled" = true)
    (k_spelled : PySem.W.keepIn K (.ref f_spelled) = true)
    (a_l_value_fits : PySem.W.nsIn K mainGlobals "_law_value_fits" = some (some (.ref f_l_value_fits)))
    (l_l_value_fits : K.lookup f_l_value_fits = some ⟨oc_l_value_fits, od_l_value_fits, .func (PySem.W.fnOf "_law_value_fits" "_law_value_fits" (defArgs s_l_value_fits) (defBody s_l_value_fits) (defScope s_l_value_fits) .none kV_l_value_fits dc_l_value_fits pm_l_value_fits an_l_value_fits cd_l_value_fits ct_l_value_fits), sl_l_value_fits⟩)
    (c_l_value_fits : PySem.W.codeIn K cd_l_value_fits "_law_value_fits" = true)
    (k_l_value_fits : PySem.W.keepIn K (.ref f_l_value_fits) = true)
    (a_l_items_fit : PySem.W.nsIn K mainGlobals "_law_items_fit" = some (some (.ref f_l_items_fit)))
    (l_l_items_fit : K.lookup f_l_items_fit = some ⟨oc_l_items_fit, od_l_items_fit, .func (PySem.W.fnOf "_law_items_fit" "_law_items_fit" (defArgs s_l_items_fit) (defBody s_l_items_fit) (defScope s_l_items_fit) .none kV_l_items_fit dc_l_items_fit pm_l_items_fit an_l_items_fit cd_l_items_fit ct_l_items_fit), sl_l_items_fit⟩)
    (c_l_items_fit : PySem.W.codeIn K cd_l_items_fit "_law_items_fit" = true)
    (k_l_items_fit : PySem.W.keepIn K (.ref f_l_items_fit) = true)
    (ne_l_right_law : P_l_right ≠ P_law)
    (b_len : PySem.W.nsIn K mainGlobals "len" = some none)
    (b_isinstance : PySem.W.nsIn K mainGlobals "isinstance" = some none)
    (b_repr : PySem.W.nsIn K mainGlobals "repr" = some none)
    (b_enumerate : PySem.W.nsIn K mainGlobals "enumerate" = some none)
    (b_range : PySem.W.nsIn K mainGlobals "range" = some none)
    (b_list : PySem.W.nsIn K mainGlobals "list" = some none)
    (b_tuple : PySem.W.nsIn K mainGlobals "tuple" = some none)
    (b_dict : PySem.W.nsIn K mainGlobals "dict" = some none)
    (b_bool : PySem.W.nsIn K mainGlobals "bool" = some none)
    (b_int : PySem.W.nsIn K mainGlobals "int" = some none)
    (b_str : PySem.W.nsIn K mainGlobals "str" = some none)
    (b_abs : PySem.W.nsIn K mainGlobals "abs" = some none)
    (b_all : PySem.W.nsIn K mainGlobals "all" = some none)
    (b_any : PySem.W.nsIn K mainGlobals "any" = some none)
    (b_sorted : PySem.W.nsIn K mainGlobals "sorted" = some none)
    (b_set : PySem.W.nsIn K mainGlobals "set" = some none)
    (b_max : PySem.W.nsIn K mainGlobals "max" = some none)
    (b_min : PySem.W.nsIn K mainGlobals "min" = some none)
    (v_MOST_DIGITS_values : PySem.W.nsIn K mainGlobals "MOST_DIGITS_values" = some (some (.int 100 t_MOST_DIGITS_values)))
    (v_MOST_ITEMS : PySem.W.nsIn K mainGlobals "MOST_ITEMS" = some (some (.int 10000 t_MOST_ITEMS)))
    (v_MOST_LEVELS_values : PySem.W.nsIn K mainGlobals "MOST_LEVELS_values" = some (some (.int 20 t_MOST_LEVELS_values)))
    (v_MOST_KEY_values : PySem.W.nsIn K mainGlobals "MOST_KEY_values" = some (some (.int 200 t_MOST_KEY_values)))
    (v_MOST_DIGITS_notation : PySem.W.nsIn K mainGlobals "MOST_DIGITS_notation" = some (some (.int 100 t_MOST_DIGITS_notation)))
    (v_MOST_LEVELS_notation : PySem.W.nsIn K mainGlobals "MOST_LEVELS_notation" = some (some (.int 20 t_MOST_LEVELS_notation)))
    (v_MOST_KEY_notation : PySem.W.nsIn K mainGlobals "MOST_KEY_notation" = some (some (.int 200 t_MOST_KEY_notation)))
    (b_ord : PySem.W.nsIn K mainGlobals "ord" = some none)
    (v_DIGITS : PySem.W.nsIn K mainGlobals "DIGITS" = some (some (.str "0123456789" t_DIGITS)))
    (nd : PySem.W.nsIn K cStatics "sys.int_max_str_digits" = some none)
    (v_ESCAPES : PySem.W.nsIn K mainGlobals "ESCAPES" = some (some (.ref A_ESC)))
    (lk_ESC : K.lookup A_ESC = some ⟨.type "dict", none, .dict #[⟨h1_ESC, .str "\"" k1_ESC, .str "\\\"" u1_ESC⟩, ⟨h2_ESC, .str "\\" k2_ESC, .str "\\\\" u2_ESC⟩, ⟨h3_ESC, .str "\n" k3_ESC, .str "\\n" u3_ESC⟩] n_ESC, #[]⟩)
    (e1_ESC : h1_ESC = PySem.PyData.keyHash w.params "\"")
    (e2_ESC : h2_ESC = PySem.PyData.keyHash w.params "\\")
    (e3_ESC : h3_ESC = PySem.PyData.keyHash w.params "\n")
    (lo_ESC : (A_ESC == sysModules) = false)
    (kNN : PySem.W.kitOne K (.ref C_InvalidText) (.ref C_InvalidText) = some true)
    (exN : PySem.W.exmOne K (.ref C_InvalidText) (.ref C_ShelfError) = some true)
    (exI : PySem.W.exmOne K (.ref C_InvalidText) (.ref C_InvalidText) = some true)
    (v_UNE : PySem.W.nsIn K mainGlobals "UNESCAPED" = some (some (.ref A_UNE)))
    (lk_UNE : K.lookup A_UNE = some ⟨.type "dict", none, .dict #[⟨h1_UNE, .str "\"" k1_UNE, .str "\"" u1_UNE⟩, ⟨h2_UNE, .str "\\" k2_UNE, .str "\\" u2_UNE⟩, ⟨h3_UNE, .str "n" k3_UNE, .str "\n" u3_UNE⟩] n_UNE, #[]⟩)
    (e1_UNE : h1_UNE = PySem.PyData.keyHash w.params "\"")
    (e2_UNE : h2_UNE = PySem.PyData.keyHash w.params "\\")
    (e3_UNE : h3_UNE = PySem.PyData.keyHash w.params "n")
    (lo_UNE : (A_UNE == sysModules) = false)
    (v_WRD : PySem.W.nsIn K mainGlobals "WORDS" = some (some (.ref A_WRD)))
    (lk_WRD : K.lookup A_WRD = some ⟨.type "tuple", none, .seq #[.ref A_W1, .ref A_W2, .ref A_W3] n_WRD, #[]⟩)
    (lk_W1 : K.lookup A_W1 = some ⟨.type "tuple", none, .seq #[.str "None" t_W1, .none] n_W1, #[]⟩)
    (lk_W2 : K.lookup A_W2 = some ⟨.type "tuple", none, .seq #[.str "True" t_W2, .bool true] n_W2, #[]⟩)
    (lk_W3 : K.lookup A_W3 = some ⟨.type "tuple", none, .seq #[.str "False" t_W3, .bool false] n_W3, #[]⟩) :
    LawTs l w K 56 63 "_law_script" mg fa h := by
  have e := hfa.symm.trans (PySem.W.mg_of X G a_law)
  cases e
  have D_items_of := df_mk (st := s_items_of) l_items_of c_items_of k_items_of
  have b_items_of : Binds K (PySem.W.fnOf "items_of" "items_of" (defArgs s_items_of) (defBody s_items_of) (defScope s_items_of) .none kV_items_of dc_items_of pm_items_of an_items_of cd_items_of ct_items_of) ["value"] [] := Binds.all fun us hl => match us, hl with | [_], _ => rfl
  have D_is_wrong_part := df_mk (st := s_is_wrong_part) l_is_wrong_part c_is_wrong_part k_is_wrong_part
  have b_is_wrong_part : Binds K (PySem.W.fnOf "is_wrong_part" "is_wrong_part" (defArgs s_is_wrong_part) (defBody s_is_wrong_part) (defScope s_is_wrong_part) .none kV_is_wrong_part dc_is_wrong_part pm_is_wrong_part an_is_wrong_part cd_is_wrong_part ct_is_wrong_part) ["value", "depth"] [] := Binds.all fun us hl => match us, hl with | [_, _], _ => rfl
  have D_string_notation := df_mk (st := s_string_notation) l_string_notation c_string_notation k_string_notation
  have b_string_notation : Binds K (PySem.W.fnOf "string_notation" "string_notation" (defArgs s_string_notation) (defBody s_string_notation) (defScope s_string_notation) .none kV_string_notation dc_string_notation pm_string_notation an_string_notation cd_string_notation ct_string_notation) ["text"] [] := Binds.all fun us hl => match us, hl with | [_], _ => rfl
  have D_is_key := df_mk (st := s_is_key) l_is_key c_is_key k_is_key
  have b_is_key : Binds K (PySem.W.fnOf "is_key" "is_key" (defArgs s_is_key) (defBody s_is_key) (defScope s_is_key) .none kV_is_key dc_is_key pm_is_key an_is_key cd_is_key ct_is_key) ["value"] [] := Binds.all fun us hl => match us, hl with | [_], _ => rfl
  have D_expect := df_mk (st := s_expect) l_expect c_expect k_expect
  have b_expect : Binds K (PySem.W.fnOf "expect" "expect" (defArgs s_expect) (defBody s_expect) (defScope s_expect) .none kV_expect dc_expect pm_expect an_expect cd_expect ct_expect) ["text", "at", "word"] [] := Binds.all fun us hl => match us, hl with | [_, _, _], _ => rfl
  have D_stands := df_mk (st := s_stands) l_stands c_stands k_stands
  have b_stands : Binds K (PySem.W.fnOf "stands" "stands" (defArgs s_stands) (defBody s_stands) (defScope s_stands) .none kV_stands dc_stands pm_stands an_stands cd_stands ct_stands) ["text", "at", "signs"] [] := Binds.all fun us hl => match us, hl with | [_, _, _], _ => rfl
  have D_is_plain_sign := df_mk (st := s_is_plain_sign) l_is_plain_sign c_is_plain_sign k_is_plain_sign
  have b_is_plain_sign : Binds K (PySem.W.fnOf "is_plain_sign" "is_plain_sign" (defArgs s_is_plain_sign) (defBody s_is_plain_sign) (defScope s_is_plain_sign) .none kV_is_plain_sign dc_is_plain_sign pm_is_plain_sign an_is_plain_sign cd_is_plain_sign ct_is_plain_sign) ["sign"] [] := Binds.all fun us hl => match us, hl with | [_], _ => rfl
  have D_read_string := df_mk (st := s_read_string) l_read_string c_read_string k_read_string
  have b_read_string : Binds K (PySem.W.fnOf "read_string" "read_string" (defArgs s_read_string) (defBody s_read_string) (defScope s_read_string) .none kV_read_string dc_read_string pm_read_string an_read_string cd_read_string ct_read_string) ["text", "at", "most"] [] := Binds.all fun us hl => match us, hl with | [_, _, _], _ => rfl
  have D_read_key := df_mk (st := s_read_key) l_read_key c_read_key k_read_key
  have b_read_key : Binds K (PySem.W.fnOf "read_key" "read_key" (defArgs s_read_key) (defBody s_read_key) (defScope s_read_key) .none kV_read_key dc_read_key pm_read_key an_read_key cd_read_key ct_read_key) ["text", "at"] [] := Binds.all fun us hl => match us, hl with | [_, _], _ => rfl
  have D_read_integer := df_mk (st := s_read_integer) l_read_integer c_read_integer k_read_integer
  have b_read_integer : Binds K (PySem.W.fnOf "read_integer" "read_integer" (defArgs s_read_integer) (defBody s_read_integer) (defScope s_read_integer) .none kV_read_integer dc_read_integer pm_read_integer an_read_integer cd_read_integer ct_read_integer) ["text", "at"] [] := Binds.all fun us hl => match us, hl with | [_, _], _ => rfl
  have D_checked_text := df_mk (st := s_checked_text) l_checked_text c_checked_text k_checked_text
  have b_checked_text : Binds K (PySem.W.fnOf "checked_text" "checked_text" (defArgs s_checked_text) (defBody s_checked_text) (defScope s_checked_text) .none kV_checked_text dc_checked_text pm_checked_text an_checked_text cd_checked_text ct_checked_text) ["text"] [] := Binds.all fun us hl => match us, hl with | [_], _ => rfl
  have D_ended := df_mk (st := s_ended) l_ended c_ended k_ended
  have b_ended : Binds K (PySem.W.fnOf "ended" "ended" (defArgs s_ended) (defBody s_ended) (defScope s_ended) .none kV_ended dc_ended pm_ended an_ended cd_ended ct_ended) ["text", "found", "at"] [] := Binds.all fun us hl => match us, hl with | [_, _, _], _ => rfl
  have D_read_deed := df_mk (st := s_read_deed) l_read_deed c_read_deed k_read_deed
  have b_read_deed : Binds K (PySem.W.fnOf "read_deed" "read_deed" (defArgs s_read_deed) (defBody s_read_deed) (defScope s_read_deed) .none kV_read_deed dc_read_deed pm_read_deed an_read_deed cd_read_deed ct_read_deed) ["text", "at"] [] := Binds.all fun us hl => match us, hl with | [_, _], _ => rfl
  have D_read_deeds := df_mk (st := s_read_deeds) l_read_deeds c_read_deeds k_read_deeds
  have b_read_deeds : Binds K (PySem.W.fnOf "read_deeds" "read_deeds" (defArgs s_read_deeds) (defBody s_read_deeds) (defScope s_read_deeds) .none kV_read_deeds dc_read_deeds pm_read_deeds an_read_deeds cd_read_deeds ct_read_deeds) ["text"] [] := Binds.all fun us hl => match us, hl with | [_], _ => rfl
  have D_l_pick := df_mk (st := s_l_pick) l_l_pick c_l_pick k_l_pick
  have b_l_pick : Binds K (PySem.W.fnOf "_law_pick" "_law_pick" (defArgs s_l_pick) (defBody s_l_pick) (defScope s_l_pick) .none kV_l_pick dc_l_pick pm_l_pick an_l_pick cd_l_pick ct_l_pick) ["_law_source_here", "_law_amount"] [] := Binds.all fun us hl => match us, hl with | [_, _], _ => rfl
  have D_l_source := df_mk (st := s_l_source) l_l_source c_l_source k_l_source
  have b_l_source : Binds K (PySem.W.fnOf "_law_source" "_law_source" (defArgs s_l_source) (defBody s_l_source) (defScope s_l_source) .none kV_l_source dc_l_source pm_l_source an_l_source cd_l_source ct_l_source) ["_law_script", "_law_k"] [] := Binds.all fun us hl => match us, hl with | [_, _], _ => rfl
  have D_l_string := df_mk (st := s_l_string) l_l_string c_l_string k_l_string
  have b_l_string : Binds K (PySem.W.fnOf "_law_string" "_law_string" (defArgs s_l_string) (defBody s_l_string) (defScope s_l_string) .none kV_l_string dc_l_string pm_l_string an_l_string cd_l_string ct_l_string) ["_law_source_here"] [] := Binds.all fun us hl => match us, hl with | [_], _ => rfl
  have D_l_sign := df_mk (st := s_l_sign) l_l_sign c_l_sign k_l_sign
  have b_l_sign : Binds K (PySem.W.fnOf "_law_sign" "_law_sign" (defArgs s_l_sign) (defBody s_l_sign) (defScope s_l_sign) .none kV_l_sign dc_l_sign pm_l_sign an_l_sign cd_l_sign ct_l_sign) ["_law_m"] [] := Binds.all fun us hl => match us, hl with | [_], _ => rfl
  have D_l_word := df_mk (st := s_l_word) l_l_word c_l_word k_l_word
  have b_l_word : Binds K (PySem.W.fnOf "_law_word" "_law_word" (defArgs s_l_word) (defBody s_l_word) (defScope s_l_word) .none kV_l_word dc_l_word pm_l_word an_l_word cd_l_word ct_l_word) ["_law_m", "_law_word_here"] [] := Binds.all fun us hl => match us, hl with | [_, _], _ => rfl
  have D_l_string_fits := df_mk (st := s_l_string_fits) l_l_string_fits c_l_string_fits k_l_string_fits
  have b_l_string_fits : Binds K (PySem.W.fnOf "_law_string_fits" "_law_string_fits" (defArgs s_l_string_fits) (defBody s_l_string_fits) (defScope s_l_string_fits) .none kV_l_string_fits dc_l_string_fits pm_l_string_fits an_l_string_fits cd_l_string_fits ct_l_string_fits) ["_law_m", "_law_most", "_law_used"] [] := Binds.all fun us hl => match us, hl with | [_, _, _], _ => rfl
  have D_l_number_fits := df_mk (st := s_l_number_fits) l_l_number_fits c_l_number_fits k_l_number_fits
  have b_l_number_fits : Binds K (PySem.W.fnOf "_law_number_fits" "_law_number_fits" (defArgs s_l_number_fits) (defBody s_l_number_fits) (defScope s_l_number_fits) .none kV_l_number_fits dc_l_number_fits pm_l_number_fits an_l_number_fits cd_l_number_fits ct_l_number_fits) ["_law_m"] [] := Binds.all fun us hl => match us, hl with | [_], _ => rfl
  have D_l_deed_fits := df_mk (st := s_l_deed_fits) l_l_deed_fits c_l_deed_fits k_l_deed_fits
  have b_l_deed_fits : Binds K (PySem.W.fnOf "_law_deed_fits" "_law_deed_fits" (defArgs s_l_deed_fits) (defBody s_l_deed_fits) (defScope s_l_deed_fits) .none kV_l_deed_fits dc_l_deed_fits pm_l_deed_fits an_l_deed_fits cd_l_deed_fits ct_l_deed_fits) ["_law_m"] [] := Binds.all fun us hl => match us, hl with | [_], _ => rfl
  have D_l_wrong := df_mk (st := s_l_wrong) l_l_wrong c_l_wrong k_l_wrong
  have b_l_wrong : Binds K (PySem.W.fnOf "_law_wrong" "_law_wrong" (defArgs s_l_wrong) (defBody s_l_wrong) (defScope s_l_wrong) .none kV_l_wrong dc_l_wrong pm_l_wrong an_l_wrong cd_l_wrong ct_l_wrong) ["_law_text", "_law_is_deeds"] [] := Binds.all fun us hl => match us, hl with | [_, _], _ => rfl
  have D_check_value := df_mk (st := s_check_value) l_check_value c_check_value k_check_value
  have b_check_value : Binds K (PySem.W.fnOf "check_value" "check_value" (defArgs s_check_value) (defBody s_check_value) (defScope s_check_value) .none kV_check_value dc_check_value pm_check_value an_check_value cd_check_value ct_check_value) ["value"] [] := Binds.all fun us hl => match us, hl with | [_], _ => rfl
  have D_is_value := df_mk (st := s_is_value) l_is_value c_is_value k_is_value
  have b_is_value : Binds K (PySem.W.fnOf "is_value" "is_value" (defArgs s_is_value) (defBody s_is_value) (defScope s_is_value) .none kV_is_value dc_is_value pm_is_value an_is_value cd_is_value ct_is_value) ["value"] [] := Binds.all fun us hl => match us, hl with | [_], _ => rfl
  have D_text_of := df_mk (st := s_text_of) l_text_of c_text_of k_text_of
  have b_text_of : Binds K (PySem.W.fnOf "text_of" "text_of" (defArgs s_text_of) (defBody s_text_of) (defScope s_text_of) .none kV_text_of dc_text_of pm_text_of an_text_of cd_text_of ct_text_of) ["value"] [] := Binds.all fun us hl => match us, hl with | [_], _ => rfl
  have D_notation := df_mk (st := s_notation) l_notation c_notation k_notation
  have b_notation : Binds K (PySem.W.fnOf "notation" "notation" (defArgs s_notation) (defBody s_notation) (defScope s_notation) .none kV_notation dc_notation pm_notation an_notation cd_notation ct_notation) ["value"] [] := Binds.all fun us hl => match us, hl with | [_], _ => rfl
  have D_is_deed := df_mk (st := s_is_deed) l_is_deed c_is_deed k_is_deed
  have b_is_deed : Binds K (PySem.W.fnOf "is_deed" "is_deed" (defArgs s_is_deed) (defBody s_is_deed) (defScope s_is_deed) .none kV_is_deed dc_is_deed pm_is_deed an_is_deed cd_is_deed ct_is_deed) ["deed"] [] := Binds.all fun us hl => match us, hl with | [_], _ => rfl
  have D_deed_notation := df_mk (st := s_deed_notation) l_deed_notation c_deed_notation k_deed_notation
  have b_deed_notation : Binds K (PySem.W.fnOf "deed_notation" "deed_notation" (defArgs s_deed_notation) (defBody s_deed_notation) (defScope s_deed_notation) .none kV_deed_notation dc_deed_notation pm_deed_notation an_deed_notation cd_deed_notation ct_deed_notation) ["deed"] [] := Binds.all fun us hl => match us, hl with | [_], _ => rfl
  have D_deeds_text := df_mk (st := s_deeds_text) l_deeds_text c_deeds_text k_deeds_text
  have b_deeds_text : Binds K (PySem.W.fnOf "deeds_text" "deeds_text" (defArgs s_deeds_text) (defBody s_deeds_text) (defScope s_deeds_text) .none kV_deeds_text dc_deeds_text pm_deeds_text an_deeds_text cd_deeds_text ct_deeds_text) ["deeds"] [] := Binds.all fun us hl => match us, hl with | [_], _ => rfl
  have D_read_notation := df_mk (st := s_read_notation) l_read_notation c_read_notation k_read_notation
  have b_read_notation : Binds K (PySem.W.fnOf "read_notation" "read_notation" (defArgs s_read_notation) (defBody s_read_notation) (defScope s_read_notation) .none kV_read_notation dc_read_notation pm_read_notation an_read_notation cd_read_notation ct_read_notation) ["text"] [] := Binds.all fun us hl => match us, hl with | [_], _ => rfl
  have D_is_notation := df_mk (st := s_is_notation) l_is_notation c_is_notation k_is_notation
  have b_is_notation : Binds K (PySem.W.fnOf "is_notation" "is_notation" (defArgs s_is_notation) (defBody s_is_notation) (defScope s_is_notation) .none kV_is_notation dc_is_notation pm_is_notation an_is_notation cd_is_notation ct_is_notation) ["value"] [] := Binds.all fun us hl => match us, hl with | [_], _ => rfl
  have D_l_quoted := df_mk (st := s_l_quoted) l_l_quoted c_l_quoted k_l_quoted
  have b_l_quoted : Binds K (PySem.W.fnOf "_law_quoted" "_law_quoted" (defArgs s_l_quoted) (defBody s_l_quoted) (defScope s_l_quoted) .none kV_l_quoted dc_l_quoted pm_l_quoted an_l_quoted cd_l_quoted ct_l_quoted) ["_law_word_here"] [] := Binds.all fun us hl => match us, hl with | [_], _ => rfl
  have D_l_told := df_mk (st := s_l_told) l_l_told c_l_told k_l_told
  have b_l_told : Binds K (PySem.W.fnOf "_law_told" "_law_told" (defArgs s_l_told) (defBody s_l_told) (defScope s_l_told) .none kV_l_told dc_l_told pm_l_told an_l_told cd_l_told ct_l_told) ["_law_action"] [] := Binds.all fun us hl => match us, hl with | [_], _ => rfl
  have D_l_right := dfc_mk (st := s_l_right) l_l_right c_l_right k_l_right
  obtain ⟨d_l_right, hd_l_right⟩ := Option.isSome_iff_exists.mp rs_l_right
  have tf_l_right := TF _ _ _ _ hd_l_right ti_l_right
  have b_l_right : Binds K (PySem.W.fnOf "_law_right" "_law_right" (defArgs s_l_right) (defBody s_l_right) (defScope s_l_right) .none kV_l_right dc_l_right pm_l_right an_l_right (.ref c_o_l_right) ct_l_right) ["_law_text", "_law_is_deeds"] [] := Binds.all fun us hl => match us, hl with | [_, _], _ => rfl
  have D_l_by_hand_right := df_mk (st := s_l_by_hand_right) l_l_by_hand_right c_l_by_hand_right k_l_by_hand_right
  have b_l_by_hand_right : Binds K (PySem.W.fnOf "_law_by_hand_right" "_law_by_hand_right" (defArgs s_l_by_hand_right) (defBody s_l_by_hand_right) (defScope s_l_by_hand_right) .none kV_l_by_hand_right dc_l_by_hand_right pm_l_by_hand_right an_l_by_hand_right cd_l_by_hand_right ct_l_by_hand_right) [] [] := Binds.all fun us hl => match us, hl with | [], _ => rfl
  have D_law := dfc_mk (st := s_law) l_law c_law k_law
  obtain ⟨d_law, hd_law⟩ := Option.isSome_iff_exists.mp rs_law
  have tf_law := TF _ _ _ _ hd_law ti_law
  have b_law : Binds K (PySem.W.fnOf "law" "law" (defArgs s_law) (defBody s_law) (defScope s_law) .none kV_law dc_law pm_law an_law (.ref c_o_law) ct_law) ["_law_script"] [] := Binds.all fun us hl => match us, hl with | [_], _ => rfl
  have D_wrong_path := df_mk (st := s_wrong_path) l_wrong_path c_wrong_path k_wrong_path
  have b_wrong_path : Binds K (PySem.W.fnOf "wrong_path" "wrong_path" (defArgs s_wrong_path) (defBody s_wrong_path) (defScope s_wrong_path) .none kV_wrong_path dc_wrong_path pm_wrong_path an_wrong_path cd_wrong_path ct_wrong_path) ["value", "path"] [] := Binds.all fun us hl => match us, hl with | [_, _], _ => rfl
  have D_value_notation := df_mk (st := s_value_notation) l_value_notation c_value_notation k_value_notation
  have b_value_notation : Binds K (PySem.W.fnOf "value_notation" "value_notation" (defArgs s_value_notation) (defBody s_value_notation) (defScope s_value_notation) .none kV_value_notation dc_value_notation pm_value_notation an_value_notation cd_value_notation ct_value_notation) ["value"] [] := Binds.all fun us hl => match us, hl with | [_], _ => rfl
  have D_l_value := df_mk (st := s_l_value) l_l_value c_l_value k_l_value
  have b_l_value : Binds K (PySem.W.fnOf "_law_value" "_law_value" (defArgs s_l_value) (defBody s_l_value) (defScope s_l_value) .none kV_l_value dc_l_value pm_l_value an_l_value cd_l_value ct_l_value) ["_law_source_here", "_law_depth"] [] := Binds.all fun us hl => match us, hl with | [_, _], _ => rfl
  have D_read_value := df_mk (st := s_read_value) l_read_value c_read_value k_read_value
  have b_read_value : Binds K (PySem.W.fnOf "read_value" "read_value" (defArgs s_read_value) (defBody s_read_value) (defScope s_read_value) .none kV_read_value dc_read_value pm_read_value an_read_value cd_read_value ct_read_value) ["text", "at", "level"] [] := Binds.all fun us hl => match us, hl with | [_, _, _], _ => rfl
  have D_read_items := df_mk (st := s_read_items) l_read_items c_read_items k_read_items
  have b_read_items : Binds K (PySem.W.fnOf "read_items" "read_items" (defArgs s_read_items) (defBody s_read_items) (defScope s_read_items) .none kV_read_items dc_read_items pm_read_items an_read_items cd_read_items ct_read_items) ["text", "at", "level", "closing"] [] := Binds.all fun us hl => match us, hl with | [_, _, _, _], _ => rfl
  have D_read_pairs := df_mk (st := s_read_pairs) l_read_pairs c_read_pairs k_read_pairs
  have b_read_pairs : Binds K (PySem.W.fnOf "read_pairs" "read_pairs" (defArgs s_read_pairs) (defBody s_read_pairs) (defScope s_read_pairs) .none kV_read_pairs dc_read_pairs pm_read_pairs an_read_pairs cd_read_pairs ct_read_pairs) ["text", "at", "level"] [] := Binds.all fun us hl => match us, hl with | [_, _, _], _ => rfl
  have D_l_shown := df_mk (st := s_l_shown) l_l_shown c_l_shown k_l_shown
  have b_l_shown : Binds K (PySem.W.fnOf "_law_shown" "_law_shown" (defArgs s_l_shown) (defBody s_l_shown) (defScope s_l_shown) .none kV_l_shown dc_l_shown pm_l_shown an_l_shown cd_l_shown ct_l_shown) ["_law_value_here"] [] := Binds.all fun us hl => match us, hl with | [_], _ => rfl
  have D_spelled := df_mk (st := s_spelled) l_spelled c_spelled k_spelled
  have b_spelled : Binds K (PySem.W.fnOf "spelled" "spelled" (defArgs s_spelled) (defBody s_spelled) (defScope s_spelled) .none kV_spelled dc_spelled pm_spelled an_spelled cd_spelled ct_spelled) ["value"] [] := Binds.all fun us hl => match us, hl with | [_], _ => rfl
  have D_l_value_fits := df_mk (st := s_l_value_fits) l_l_value_fits c_l_value_fits k_l_value_fits
  have b_l_value_fits : Binds K (PySem.W.fnOf "_law_value_fits" "_law_value_fits" (defArgs s_l_value_fits) (defBody s_l_value_fits) (defScope s_l_value_fits) .none kV_l_value_fits dc_l_value_fits pm_l_value_fits an_l_value_fits cd_l_value_fits ct_l_value_fits) ["_law_m", "_law_level"] [] := Binds.all fun us hl => match us, hl with | [_, _], _ => rfl
  have D_l_items_fit := df_mk (st := s_l_items_fit) l_l_items_fit c_l_items_fit k_l_items_fit
  have b_l_items_fit : Binds K (PySem.W.fnOf "_law_items_fit" "_law_items_fit" (defArgs s_l_items_fit) (defBody s_l_items_fit) (defScope s_l_items_fit) .none kV_l_items_fit dc_l_items_fit pm_l_items_fit an_l_items_fit cd_l_items_fit ct_l_items_fit) ["_law_m", "_law_level", "_law_closing"] [] := Binds.all fun us hl => match us, hl with | [_, _, _], _ => rfl
  refine ⟨PySem.W.fnOf "law" "law" (defArgs s_law) (defBody s_law) (defScope s_law) .none kV_law dc_law pm_law an_law (.ref c_o_law) ct_law, [(c_o_l_right, P_l_right), (c_o_law, P_law)], (sp_law K [(P_l_right, ("_law_right" ++ ".<locals>.") ++ "<lambda>"), (P_law, ("law" ++ ".<locals>.") ++ "<lambda>")]), (List.forall_mem_cons.mpr ⟨tf_l_right.2, (List.forall_mem_cons.mpr ⟨tf_law.2, (fun _ h => nomatch h)⟩)⟩), (List.forall_mem_cons.mpr ⟨tn_l_right, (List.forall_mem_cons.mpr ⟨tn_law, (fun _ h => nomatch h)⟩)⟩), (List.forall_mem_cons.mpr ⟨tf_l_right.1, (List.forall_mem_cons.mpr ⟨tf_law.1, (fun _ h => nomatch h)⟩)⟩), fun s v => .of_eq rfl, fun H a ns hl hc hS => ⟨_, rfl, a, ns, rfl, hS, by omega, (tabs0 (List.forall_mem_cons.mpr ⟨(hc (c_o_l_right, P_l_right) (by simp)), (List.forall_mem_cons.mpr ⟨(hc (c_o_law, P_law) (by simp)), (fun _ h => nomatch h)⟩)⟩)), fun _ => rfl⟩, fun base KB GB SM TBs => ?_⟩
  have TB_l_right : TabB base mg c_o_l_right P_l_right := TBs (c_o_l_right, P_l_right) (by simp)
  have L_l_right : LamT ⟨l.prog, w, K, mg, base⟩ [(P_l_right, ("_law_right" ++ ".<locals>.") ++ "<lambda>"), (P_law, ("law" ++ ".<locals>.") ++ "<lambda>")] c_o_l_right P_l_right "_law_right" := ⟨TB_l_right, by simp, (List.forall_mem_cons.mpr ⟨fun _ => rfl, (List.forall_mem_cons.mpr ⟨fun z => absurd z (by first | exact ne_l_right_law.symm | exact (ne_law_l_right)), (fun _ h => nomatch h)⟩)⟩)⟩
  have TB_law : TabB base mg c_o_law P_law := TBs (c_o_law, P_law) (by simp)
  have L_law : LamT ⟨l.prog, w, K, mg, base⟩ [(P_l_right, ("_law_right" ++ ".<locals>.") ++ "<lambda>"), (P_law, ("law" ++ ".<locals>.") ++ "<lambda>")] c_o_law P_law "law" := ⟨TB_law, by simp, (List.forall_mem_cons.mpr ⟨fun z => absurd z (by first | exact ne_l_right_law | exact ne_l_right_law.symm), (List.forall_mem_cons.mpr ⟨fun _ => rfl, (fun _ h => nomatch h)⟩)⟩)⟩
  have T : Txt ⟨l.prog, w, K, mg, base⟩ := { b_len := PySem.W.mg_none_of X G b_len, b_isinstance := PySem.W.mg_none_of X G b_isinstance, b_repr := PySem.W.mg_none_of X G b_repr, b_enumerate := PySem.W.mg_none_of X G b_enumerate, b_range := PySem.W.mg_none_of X G b_range, b_list := PySem.W.mg_none_of X G b_list, b_tuple := PySem.W.mg_none_of X G b_tuple, b_dict := PySem.W.mg_none_of X G b_dict, b_bool := PySem.W.mg_none_of X G b_bool, b_int := PySem.W.mg_none_of X G b_int, b_str := PySem.W.mg_none_of X G b_str, b_abs := PySem.W.mg_none_of X G b_abs, b_all := PySem.W.mg_none_of X G b_all, b_any := PySem.W.mg_none_of X G b_any, b_sorted := PySem.W.mg_none_of X G b_sorted, b_set := PySem.W.mg_none_of X G b_set, b_max := PySem.W.mg_none_of X G b_max, b_min := PySem.W.mg_none_of X G b_min, nd := nd, c_MOST_DIGITS_values := ⟨_, PySem.W.mg_of X G v_MOST_DIGITS_values, _, rfl⟩, c_MOST_ITEMS := ⟨_, PySem.W.mg_of X G v_MOST_ITEMS, _, rfl⟩, c_MOST_LEVELS_values := ⟨_, PySem.W.mg_of X G v_MOST_LEVELS_values, _, rfl⟩, c_MOST_KEY_values := ⟨_, PySem.W.mg_of X G v_MOST_KEY_values, _, rfl⟩, c_MOST_DIGITS_notation := ⟨_, PySem.W.mg_of X G v_MOST_DIGITS_notation, _, rfl⟩, c_MOST_LEVELS_notation := ⟨_, PySem.W.mg_of X G v_MOST_LEVELS_notation, _, rfl⟩, c_MOST_KEY_notation := ⟨_, PySem.W.mg_of X G v_MOST_KEY_notation, _, rfl⟩, c_DIGITS := ⟨_, PySem.W.mg_of X G v_DIGITS, _, rfl⟩ }
  have X_InvalidDeed : XK1 ⟨l.prog, w, K, mg, base⟩ "InvalidDeed" C_InvalidDeed "index" := ⟨PySem.W.mg_of X G aC_InvalidDeed, PySem.W.mg_none_of X G b_super, xb_InvalidDeed.kp, xb_InvalidDeed.hd, xb_InvalidDeed.sa, nf_InvalidDeed, _, _, _, _, _, _, _, _, _, _, xc_mk PySem.F.excBase_ValueError PySem.W.kxs_ValueError PySem.F.store_ValueError xa xb_InvalidDeed in_InvalidDeed l_InvalidDeed co_InvalidDeed fi_InvalidDeed fe_InvalidDeed ce_InvalidDeed, xst_InvalidDeed⟩
  have RE_InvalidDeed : PySem.W.subIn K (.ref C_InvalidDeed) (.type "BaseException") = some true ∧ PySem.W.typeIn K (.ref C_InvalidDeed) = some (.type "type") := ⟨xb_InvalidDeed.hs, tyX_InvalidDeed⟩
  have X_InvalidText : XK1 ⟨l.prog, w, K, mg, base⟩ "InvalidText" C_InvalidText "position" := ⟨PySem.W.mg_of X G aC_InvalidText, PySem.W.mg_none_of X G b_super, xb_InvalidText.kp, xb_InvalidText.hd, xb_InvalidText.sa, nf_InvalidText, _, _, _, _, _, _, _, _, _, _, xc_mk PySem.F.excBase_ValueError PySem.W.kxs_ValueError PySem.F.store_ValueError xa xb_InvalidText in_InvalidText l_InvalidText co_InvalidText fi_InvalidText fe_InvalidText ce_InvalidText, xst_InvalidText⟩
  have RE_InvalidText : PySem.W.subIn K (.ref C_InvalidText) (.type "BaseException") = some true ∧ PySem.W.typeIn K (.ref C_InvalidText) = some (.type "type") := ⟨xb_InvalidText.hs, tyX_InvalidText⟩
  have V_ShelfError : Gv ⟨l.prog, w, K, mg, base⟩ "ShelfError" (.ref C_ShelfError) := ⟨_, PySem.W.mg_of X G aC_ShelfError, rfl⟩
  have V_InvalidDeed : Gv ⟨l.prog, w, K, mg, base⟩ "InvalidDeed" (.ref C_InvalidDeed) := ⟨_, PySem.W.mg_of X G aC_InvalidDeed, rfl⟩
  have V_InvalidText : Gv ⟨l.prog, w, K, mg, base⟩ "InvalidText" (.ref C_InvalidText) := ⟨_, PySem.W.mg_of X G aC_InvalidText, rfl⟩
  obtain ⟨kE, e34, e92, e10, eN⟩ := esc_tab (w := w) lk_ESC e1_ESC e2_ESC e3_ESC lo_ESC
  have TN : TxN ⟨l.prog, w, K, mg, base⟩ A_ESC := { toTxt := T, c_ESCAPES := ⟨_, PySem.W.mg_of X G v_ESCAPES, rfl⟩, kE := kE, e34 := e34, e92 := e92, e10 := e10, eN := eN }
  obtain ⟨u34, u92, u110⟩ := une_tab (w := w) lk_UNE e1_UNE e2_UNE e3_UNE lo_UNE
  have TR : TxR ⟨l.prog, w, K, mg, base⟩ A_UNE A_WRD := { toTxt := T, b_ord := PySem.W.mg_none_of X G b_ord, c_UNESCAPED := ⟨_, PySem.W.mg_of X G v_UNE, rfl⟩, u34 := u34, u92 := u92, u110 := u110, c_WORDS := ⟨_, PySem.W.mg_of X G v_WRD, rfl⟩, wds := words_tab lk_WRD lk_W1 lk_W2 lk_W3 }
  have O_items := ok_items (g := ⟨l.prog, w, K, mg, base⟩)  D_items_of T
  have O_wrong := ok_wrong (g := ⟨l.prog, w, K, mg, base⟩)  D_is_wrong_part T
  have O_snote := ok_snote (g := ⟨l.prog, w, K, mg, base⟩)  D_string_notation TN
  have O_iskey := ok_iskey (g := ⟨l.prog, w, K, mg, base⟩)  D_is_key T
  have O_exp := ok_exp (g := ⟨l.prog, w, K, mg, base⟩)  D_expect TR X_InvalidText RE_InvalidText
  have O_stands := ok_stands (g := ⟨l.prog, w, K, mg, base⟩)  D_stands TR
  have O_plain := ok_plain (g := ⟨l.prog, w, K, mg, base⟩)  D_is_plain_sign TR
  have F_expect : Kn ⟨l.prog, w, K, mg, base⟩ "expect" 3 ["text", "at", "word"] [] (sp_exp C_InvalidText) := ⟨_, _, [], PySem.W.mg_of X G a_expect, k_expect, (O_exp.mono (by decide)), b_expect, .nil⟩
  have F_stands : Kn ⟨l.prog, w, K, mg, base⟩ "stands" 1 ["text", "at", "signs"] [] sp_stands := ⟨_, _, [], PySem.W.mg_of X G a_stands, k_stands, (O_stands.mono (by decide)), b_stands, .nil⟩
  have F_is_plain_sign : Kn ⟨l.prog, w, K, mg, base⟩ "is_plain_sign" 1 ["sign"] [] sp_plain := ⟨_, _, [], PySem.W.mg_of X G a_is_plain_sign, k_is_plain_sign, (O_plain.mono (by decide)), b_is_plain_sign, .nil⟩
  have O_rstr := ok_rstr (g := ⟨l.prog, w, K, mg, base⟩)  D_read_string TR F_expect F_stands F_is_plain_sign X_InvalidText RE_InvalidText
  have F_read_string : Kn ⟨l.prog, w, K, mg, base⟩ "read_string" 4 ["text", "at", "most"] [] (sp_rstr C_InvalidText) := ⟨_, _, [], PySem.W.mg_of X G a_read_string, k_read_string, (O_rstr.mono (by decide)), b_read_string, .nil⟩
  have O_rkey := ok_rkey (g := ⟨l.prog, w, K, mg, base⟩)  D_read_key TR F_read_string X_InvalidText RE_InvalidText
  have O_rint := ok_rint (g := ⟨l.prog, w, K, mg, base⟩)  D_read_integer TR F_stands X_InvalidText RE_InvalidText
  have O_ctext := ok_ctext (g := ⟨l.prog, w, K, mg, base⟩)  D_checked_text TR X_InvalidText RE_InvalidText
  have O_ended := ok_ended (g := ⟨l.prog, w, K, mg, base⟩)  D_ended TR X_InvalidText RE_InvalidText
  have F_read_integer : Kn ⟨l.prog, w, K, mg, base⟩ "read_integer" 3 ["text", "at"] [] (sp_rint C_InvalidText) := ⟨_, _, [], PySem.W.mg_of X G a_read_integer, k_read_integer, (O_rint.mono (by decide)), b_read_integer, .nil⟩
  have R_rv := kn_read (g := ⟨l.prog, w, K, mg, base⟩) (PySem.W.mg_of X G a_read_value) k_read_value b_read_value (PySem.W.mg_of X G a_read_items) k_read_items b_read_items (PySem.W.mg_of X G a_read_pairs) k_read_pairs b_read_pairs D_read_value D_read_items D_read_pairs TR F_expect F_stands F_read_string F_read_integer X_InvalidText RE_InvalidText
  have F_read_value : Kn ⟨l.prog, w, K, mg, base⟩ "read_value" 46 ["text", "at", "level"] [] (sp_rval C_InvalidText 20) := R_rv 20
  have F_read_key : Kn ⟨l.prog, w, K, mg, base⟩ "read_key" 5 ["text", "at"] [] (sp_rkey C_InvalidText) := ⟨_, _, [], PySem.W.mg_of X G a_read_key, k_read_key, (O_rkey.mono (by decide)), b_read_key, .nil⟩
  have O_rdeed := ok_rdeed (g := ⟨l.prog, w, K, mg, base⟩)  D_read_deed TR F_expect F_stands F_read_key F_read_value
  have F_checked_text : Kn ⟨l.prog, w, K, mg, base⟩ "checked_text" 3 ["text"] [] sp_ctext := ⟨_, _, [], PySem.W.mg_of X G a_checked_text, k_checked_text, (O_ctext.mono (by decide)), b_checked_text, .nil⟩
  have F_ended : Kn ⟨l.prog, w, K, mg, base⟩ "ended" 3 ["text", "found", "at"] [] (sp_ended C_InvalidText) := ⟨_, _, [], PySem.W.mg_of X G a_ended, k_ended, (O_ended.mono (by decide)), b_ended, .nil⟩
  have F_read_deed : Kn ⟨l.prog, w, K, mg, base⟩ "read_deed" 47 ["text", "at"] [] (sp_rdeed C_InvalidText) := ⟨_, _, [], PySem.W.mg_of X G a_read_deed, k_read_deed, (O_rdeed.mono (by decide)), b_read_deed, .nil⟩
  have O_rdeeds := ok_rdeeds (g := ⟨l.prog, w, K, mg, base⟩)  D_read_deeds TR F_checked_text F_ended F_expect F_stands F_read_deed
  have O_pick := ok_pick (g := ⟨l.prog, w, K, mg, base⟩)  D_l_pick T
  have O_source := ok_source (g := ⟨l.prog, w, K, mg, base⟩)  D_l_source T
  have F_l_pick : Kn ⟨l.prog, w, K, mg, base⟩ "_law_pick" 1 ["_law_source_here", "_law_amount"] [] sp_pick := ⟨_, _, [], PySem.W.mg_of X G a_l_pick, k_l_pick, (O_pick.mono (by decide)), b_l_pick, .nil⟩
  have O_string := ok_string (g := ⟨l.prog, w, K, mg, base⟩)  D_l_string T F_l_pick
  have O_sgn := ok_sgn (g := ⟨l.prog, w, K, mg, base⟩)  D_l_sign T
  have F_l_sign : Kn ⟨l.prog, w, K, mg, base⟩ "_law_sign" 1 ["_law_m"] [] sp_sgn := ⟨_, _, [], PySem.W.mg_of X G a_l_sign, k_l_sign, (O_sgn.mono (by decide)), b_l_sign, .nil⟩
  have O_wd := ok_wd (g := ⟨l.prog, w, K, mg, base⟩)  D_l_word T F_l_sign
  have F_l_word : Kn ⟨l.prog, w, K, mg, base⟩ "_law_word" 2 ["_law_m", "_law_word_here"] [] sp_wd := ⟨_, _, [], PySem.W.mg_of X G a_l_word, k_l_word, (O_wd.mono (by decide)), b_l_word, .nil⟩
  have O_strf := ok_strf (g := ⟨l.prog, w, K, mg, base⟩)  D_l_string_fits T F_l_sign F_l_word
  have O_numf := ok_numf (g := ⟨l.prog, w, K, mg, base⟩)  D_l_number_fits T F_l_sign
  have F_l_string_fits : Kn ⟨l.prog, w, K, mg, base⟩ "_law_string_fits" 3 ["_law_m", "_law_most", "_law_used"] [] sp_strf := ⟨_, _, [], PySem.W.mg_of X G a_l_string_fits, k_l_string_fits, (O_strf.mono (by decide)), b_l_string_fits, .nil⟩
  have F_l_number_fits : Kn ⟨l.prog, w, K, mg, base⟩ "_law_number_fits" 2 ["_law_m"] [] sp_numf := ⟨_, _, [], PySem.W.mg_of X G a_l_number_fits, k_l_number_fits, (O_numf.mono (by decide)), b_l_number_fits, .nil⟩
  have R_vf := kn_fits (g := ⟨l.prog, w, K, mg, base⟩) (PySem.W.mg_of X G a_l_value_fits) k_l_value_fits b_l_value_fits (PySem.W.mg_of X G a_l_items_fit) k_l_items_fit b_l_items_fit D_l_value_fits D_l_items_fit T F_l_sign F_l_word F_l_string_fits F_l_number_fits
  have F_l_value_fits : Kn ⟨l.prog, w, K, mg, base⟩ "_law_value_fits" 46 ["_law_m", "_law_level"] [] (sp_valf 20) := R_vf 20
  have O_dfit := ok_dfit (g := ⟨l.prog, w, K, mg, base⟩)  D_l_deed_fits T F_l_sign F_l_word F_l_string_fits F_l_value_fits
  have F_l_deed_fits : Kn ⟨l.prog, w, K, mg, base⟩ "_law_deed_fits" 47 ["_law_m"] [] sp_dfit := ⟨_, _, [], PySem.W.mg_of X G a_l_deed_fits, k_l_deed_fits, (O_dfit.mono (by decide)), b_l_deed_fits, .nil⟩
  have O_wrg := ok_wrg (g := ⟨l.prog, w, K, mg, base⟩)  D_l_wrong T F_l_sign F_l_word F_l_value_fits F_l_deed_fits
  have F_is_wrong_part : Kn ⟨l.prog, w, K, mg, base⟩ "is_wrong_part" 1 ["value", "depth"] [] sp_wrong := ⟨_, _, [], PySem.W.mg_of X G a_is_wrong_part, k_is_wrong_part, (O_wrong.mono (by decide)), b_is_wrong_part, .nil⟩
  have F_items_of : Kn ⟨l.prog, w, K, mg, base⟩ "items_of" 1 ["value"] [] sp_items := ⟨_, _, [], PySem.W.mg_of X G a_items_of, k_items_of, (O_items.mono (by decide)), b_items_of, .nil⟩
  have R_wrong_path : ∀ n, Kn ⟨l.prog, w, K, mg, base⟩ "wrong_path" (n + 1) ["value", "path"] [] (sp_path n) := kn_rec (g := ⟨l.prog, w, K, mg, base⟩) (PySem.W.mg_of X G a_wrong_path) k_wrong_path b_wrong_path (fun vs H Q E z => by obtain ⟨v, u, _, d, fp, a, ps, _, _, _, _, _, h, _⟩ := z; exact absurd h (Nat.not_lt_zero _)) fun n F => ok_path n D_wrong_path T F_is_wrong_part F_items_of F
  have F_wrong_path : Kn ⟨l.prog, w, K, mg, base⟩ "wrong_path" 22 ["value", "path"] [] (sp_path 21) := R_wrong_path 21
  have O_chk := ok_chk (g := ⟨l.prog, w, K, mg, base⟩)  D_check_value T F_wrong_path
  have O_isv20 := ok_isv20 (g := ⟨l.prog, w, K, mg, base⟩)  D_is_value T F_wrong_path
  have R_spelled : ∀ n, Kn ⟨l.prog, w, K, mg, base⟩ "spelled" (n + 1) ["value"] [] (sp_spell n) := kn_rec (g := ⟨l.prog, w, K, mg, base⟩) (PySem.W.mg_of X G a_spelled) k_spelled b_spelled (fun vs H Q E z => by obtain ⟨v, _, d, fp, _, _, h, _⟩ := z; exact absurd h (Nat.not_lt_zero _)) fun n F => ok_spell n D_spelled T F
  have F_spelled : Kn ⟨l.prog, w, K, mg, base⟩ "spelled" 22 ["value"] [] (sp_spell 21) := R_spelled 21
  have F_check_value : Kn ⟨l.prog, w, K, mg, base⟩ "check_value" 23 ["value"] [] sp_chk := ⟨_, _, [], PySem.W.mg_of X G a_check_value, k_check_value, (O_chk.mono (by decide)), b_check_value, .nil⟩
  have O_text := ok_text (g := ⟨l.prog, w, K, mg, base⟩)  D_text_of T F_check_value F_spelled
  have F_string_notation : Kn ⟨l.prog, w, K, mg, base⟩ "string_notation" 1 ["text"] [] sp_snote := ⟨_, _, [], PySem.W.mg_of X G a_string_notation, k_string_notation, (O_snote.mono (by decide)), b_string_notation, .nil⟩
  have R_value_notation : ∀ n, Kn ⟨l.prog, w, K, mg, base⟩ "value_notation" (n + 1) ["value"] [] (sp_vnote n) := kn_rec (g := ⟨l.prog, w, K, mg, base⟩) (PySem.W.mg_of X G a_value_notation) k_value_notation b_value_notation (fun vs H Q E z => by obtain ⟨v, _, d, fp, _, _, h, _⟩ := z; exact absurd h (Nat.not_lt_zero _)) fun n F => ok_vnote n D_value_notation T F_string_notation F
  have F_value_notation : Kn ⟨l.prog, w, K, mg, base⟩ "value_notation" 22 ["value"] [] (sp_vnote 21) := R_value_notation 21
  have F_text_of : Kn ⟨l.prog, w, K, mg, base⟩ "text_of" 24 ["value"] [] sp_text := ⟨_, _, [], PySem.W.mg_of X G a_text_of, k_text_of, (O_text.mono (by decide)), b_text_of, .nil⟩
  have O_notn := ok_notn (g := ⟨l.prog, w, K, mg, base⟩)  D_notation T F_text_of F_value_notation
  have F_is_key : Kn ⟨l.prog, w, K, mg, base⟩ "is_key" 1 ["value"] [] sp_iskey := ⟨_, _, [], PySem.W.mg_of X G a_is_key, k_is_key, (O_iskey.mono (by decide)), b_is_key, .nil⟩
  have F_is_value : Kn ⟨l.prog, w, K, mg, base⟩ "is_value" 23 ["value"] [] sp_isv20 := ⟨_, _, [], PySem.W.mg_of X G a_is_value, k_is_value, (O_isv20.mono (by decide)), b_is_value, .nil⟩
  have O_isd := ok_isd (g := ⟨l.prog, w, K, mg, base⟩)  D_is_deed T F_is_key F_is_value
  have O_dnote := ok_dnote (g := ⟨l.prog, w, K, mg, base⟩)  D_deed_notation T F_string_notation F_value_notation
  have F_is_deed : Kn ⟨l.prog, w, K, mg, base⟩ "is_deed" 24 ["deed"] [] sp_isd := ⟨_, _, [], PySem.W.mg_of X G a_is_deed, k_is_deed, (O_isd.mono (by decide)), b_is_deed, .nil⟩
  have F_deed_notation : Kn ⟨l.prog, w, K, mg, base⟩ "deed_notation" 23 ["deed"] [] sp_dnote := ⟨_, _, [], PySem.W.mg_of X G a_deed_notation, k_deed_notation, (O_dnote.mono (by decide)), b_deed_notation, .nil⟩
  have O_dtext := ok_dtext (g := ⟨l.prog, w, K, mg, base⟩)  D_deeds_text T F_is_deed F_deed_notation X_InvalidDeed RE_InvalidDeed
  have O_ctextN := ok_ctextN (g := ⟨l.prog, w, K, mg, base⟩)  D_checked_text TR X_InvalidText RE_InvalidText
  have F_checked_text : Kn ⟨l.prog, w, K, mg, base⟩ "checked_text" 3 ["text"] [] (SpOr sp_ctext (sp_ctextN C_InvalidText)) := ⟨_, _, [], PySem.W.mg_of X G a_checked_text, k_checked_text, (FnG.or (O_ctext.mono (by decide)) (O_ctextN.mono (by decide))), b_checked_text, .nil⟩
  have O_rnot := ok_rnot (g := ⟨l.prog, w, K, mg, base⟩)  D_read_notation TR F_checked_text F_ended F_read_value
  have F_read_notation : Kn ⟨l.prog, w, K, mg, base⟩ "read_notation" 47 ["text"] [] (sp_rnot C_InvalidText) := ⟨_, _, [], PySem.W.mg_of X G a_read_notation, k_read_notation, (O_rnot.mono (by decide)), b_read_notation, .nil⟩
  have O_isn := ok_isn (g := ⟨l.prog, w, K, mg, base⟩)  D_is_notation TR F_read_notation (PySem.W.mg_of X G aC_InvalidText) exI
  have F_checked_text : Kn ⟨l.prog, w, K, mg, base⟩ "checked_text" 3 ["text"] [] (sp_ctextN C_InvalidText) := ⟨_, _, [], PySem.W.mg_of X G a_checked_text, k_checked_text, (O_ctextN.mono (by decide)), b_checked_text, .nil⟩
  have O_rdeedsN := ok_rdeedsN (g := ⟨l.prog, w, K, mg, base⟩)  D_read_deeds TR F_checked_text F_ended F_expect F_stands F_read_deed
  have O_quoted := ok_quoted (g := ⟨l.prog, w, K, mg, base⟩)  D_l_quoted T
  have TOLD : Told ⟨l.prog, w, K, mg, base⟩ 52 "_law_told" (TTt C_InvalidText) := ok_told (g := ⟨l.prog, w, K, mg, base⟩) D_l_told T (PySem.W.mg_of X G a_l_told) b_l_told (PySem.W.mg_of X G aC_ShelfError) V_InvalidText (xb_InvalidText.exc xa) xb_InvalidText.xf nf_InvalidText kNN exN
  have F_l_wrong : Kn ⟨l.prog, w, K, mg, base⟩ "_law_wrong" 48 ["_law_text", "_law_is_deeds"] [] sp_wrg := ⟨_, _, [], PySem.W.mg_of X G a_l_wrong, k_l_wrong, (O_wrg.mono (by decide)), b_l_wrong, .nil⟩
  have F_is_notation : Kn ⟨l.prog, w, K, mg, base⟩ "is_notation" 48 ["value"] [] sp_isn := ⟨_, _, [], PySem.W.mg_of X G a_is_notation, k_is_notation, (O_isn.mono (by decide)), b_is_notation, .nil⟩
  have F_notation : Kn ⟨l.prog, w, K, mg, base⟩ "notation" 25 ["value"] [] sp_notn := ⟨_, _, [], PySem.W.mg_of X G a_notation, k_notation, (O_notn.mono (by decide)), b_notation, .nil⟩
  have F_deeds_text : Kn ⟨l.prog, w, K, mg, base⟩ "deeds_text" 25 ["deeds"] [] sp_dtext := ⟨_, _, [], PySem.W.mg_of X G a_deeds_text, k_deeds_text, (O_dtext.mono (by decide)), b_deeds_text, .nil⟩
  have F_read_deeds : Kn ⟨l.prog, w, K, mg, base⟩ "read_deeds" 48 ["text"] [] (sp_rdeeds C_InvalidText) := ⟨_, _, [], PySem.W.mg_of X G a_read_deeds, k_read_deeds, (O_rdeeds.mono (by decide)), b_read_deeds, .nil⟩
  have O_right := ok_right (g := ⟨l.prog, w, K, mg, base⟩) (TS := [(P_l_right, ("_law_right" ++ ".<locals>.") ++ "<lambda>"), (P_law, ("law" ++ ".<locals>.") ++ "<lambda>")])  D_l_right T TOLD L_l_right F_l_wrong F_is_notation F_notation F_deeds_text F_read_notation F_read_deeds
  have F_l_right : Kn ⟨l.prog, w, K, mg, base⟩ "_law_right" 54 ["_law_text", "_law_is_deeds"] [] (sp_right [(P_l_right, ("_law_right" ++ ".<locals>.") ++ "<lambda>"), (P_law, ("law" ++ ".<locals>.") ++ "<lambda>")]) := ⟨_, _, [], PySem.W.mg_of X G a_l_right, k_l_right, (O_right.mono (by decide)), b_l_right, .nil⟩
  have O_hand := ok_hand (g := ⟨l.prog, w, K, mg, base⟩) (TS := [(P_l_right, ("_law_right" ++ ".<locals>.") ++ "<lambda>"), (P_law, ("law" ++ ".<locals>.") ++ "<lambda>")])  D_l_by_hand_right T F_l_right
  have F_l_string : Kn ⟨l.prog, w, K, mg, base⟩ "_law_string" 2 ["_law_source_here"] [] sp_string := ⟨_, _, [], PySem.W.mg_of X G a_l_string, k_l_string, (O_string.mono (by decide)), b_l_string, .nil⟩
  have R_l_value : ∀ n, Kn ⟨l.prog, w, K, mg, base⟩ "_law_value" (n + 3) ["_law_source_here", "_law_depth"] [] (sp_value n) := kn_rec (g := ⟨l.prog, w, K, mg, base⟩) (PySem.W.mg_of X G a_l_value) k_l_value b_l_value (fun vs H Q E z => by obtain ⟨v, u, _, a, n, h, _⟩ := z; exact absurd h (by omega)) fun n F => ok_value n D_l_value T F_l_pick F_l_string F
  have F_l_value : Kn ⟨l.prog, w, K, mg, base⟩ "_law_value" 7 ["_law_source_here", "_law_depth"] [] (sp_value 4) := R_l_value 4
  have F_l_quoted : Kn ⟨l.prog, w, K, mg, base⟩ "_law_quoted" 1 ["_law_word_here"] [] sp_snote := ⟨_, _, [], PySem.W.mg_of X G a_l_quoted, k_l_quoted, (O_quoted.mono (by decide)), b_l_quoted, .nil⟩
  have R_l_shown : ∀ n, Kn ⟨l.prog, w, K, mg, base⟩ "_law_shown" (n + 1) ["_law_value_here"] [] (sp_vnote n) := kn_rec (g := ⟨l.prog, w, K, mg, base⟩) (PySem.W.mg_of X G a_l_shown) k_l_shown b_l_shown (fun vs H Q E z => by obtain ⟨v, _, d, fp, _, _, h, _⟩ := z; exact absurd h (Nat.not_lt_zero _)) fun n F => ok_shown n D_l_shown T SM F_l_quoted F
  have F_l_shown : Kn ⟨l.prog, w, K, mg, base⟩ "_law_shown" 10 ["_law_value_here"] [] (sp_vnote 9) := R_l_shown 9
  have F_read_deeds : Kn ⟨l.prog, w, K, mg, base⟩ "read_deeds" 48 ["text"] [] (sp_rdeedsN C_InvalidText) := ⟨_, _, [], PySem.W.mg_of X G a_read_deeds, k_read_deeds, (O_rdeedsN.mono (by decide)), b_read_deeds, .nil⟩
  have F_l_by_hand_right : Kn ⟨l.prog, w, K, mg, base⟩ "_law_by_hand_right" 55 [] [] (sp_hand [(P_l_right, ("_law_right" ++ ".<locals>.") ++ "<lambda>"), (P_law, ("law" ++ ".<locals>.") ++ "<lambda>")]) := ⟨_, _, [], PySem.W.mg_of X G a_l_by_hand_right, k_l_by_hand_right, (O_hand.mono (by decide)), b_l_by_hand_right, .nil⟩
  have F_l_source : Kn ⟨l.prog, w, K, mg, base⟩ "_law_source" 1 ["_law_script", "_law_k"] [] (sp_source K) := ⟨_, _, [], PySem.W.mg_of X G a_l_source, k_l_source, (O_source.mono (by decide)), b_l_source, .nil⟩
  exact ok_law (g := ⟨l.prog, w, K, mg, base⟩) (TS := [(P_l_right, ("_law_right" ++ ".<locals>.") ++ "<lambda>"), (P_law, ("law" ++ ".<locals>.") ++ "<lambda>")]) D_law T TOLD L_law F_is_notation F_read_notation F_read_deeds F_l_right F_l_by_hand_right F_l_value F_l_shown F_l_pick F_l_source
end K58
open PySem PySem.W PyProof.Rows
local macro_rules | `(tactic| o_head ($f:ident $k $a $e $t)) => `(tactic| o_head (RS.smHook ($f $k $a $e $t)))
set_option maxRecDepth 100000 in
set_option maxHeartbeats 0 in
theorem PySem.Challenge.cw_recordshelf_k58_first_wrong_positions_holds : PySem.Challenge.rw_recordshelf_k58_first_wrong_positions.Holds := by
  w_on; o_law; k_head; (case hw => w_witness2)
  k_fill
  refine RS.walkT (l := PySem.Challenge.rw_recordshelf_k58_first_wrong_positions) (n := 63) (k := 56) (x := "_law_script") rfl (by decide) rfl ⟨rfl, by decide, by decide⟩ (fun w h Y => PySem.W.km_in_of Y.1) (fun w h Y => Y.2) ?F
  case F =>
    intro w mg fa h Y KX G hmg TF
    refine' K58.all_mk (l := PySem.Challenge.rw_recordshelf_k58_first_wrong_positions) KX G hmg TF ?b_super ?xa ?aC_InvalidDeed ?in_InvalidDeed ?l_InvalidDeed ?co_InvalidDeed ?fi_InvalidDeed ?fe_InvalidDeed ?ce_InvalidDeed ?xb_InvalidDeed ?nf_InvalidDeed ?aC_InvalidText ?in_InvalidText ?l_InvalidText ?co_InvalidText ?fi_InvalidText ?fe_InvalidText ?ce_InvalidText ?xb_InvalidText ?nf_InvalidText ?tyX_InvalidDeed ?tyX_InvalidText ?aC_ShelfError ?a_items_of ?l_items_of ?c_items_of ?k_items_of ?a_is_wrong_part ?l_is_wrong_part ?c_is_wrong_part ?k_is_wrong_part ?a_string_notation ?l_string_notation ?c_string_notation ?k_string_notation ?a_is_key ?l_is_key ?c_is_key ?k_is_key ?a_expect ?l_expect ?c_expect ?k_expect ?a_stands ?l_stands ?c_stands ?k_stands ?a_is_plain_sign ?l_is_plain_sign ?c_is_plain_sign ?k_is_plain_sign ?a_read_string ?l_read_string ?c_read_string ?k_read_string ?a_read_key ?l_read_key ?c_read_key ?k_read_key ?a_read_integer ?l_read_integer ?c_read_integer ?k_read_integer ?a_checked_text ?l_checked_text ?c_checked_text ?k_checked_text ?a_ended ?l_ended ?c_ended ?k_ended ?a_read_deed ?l_read_deed ?c_read_deed ?k_read_deed ?a_read_deeds ?l_read_deeds ?c_read_deeds ?k_read_deeds ?a_l_pick ?l_l_pick ?c_l_pick ?k_l_pick ?a_l_source ?l_l_source ?c_l_source ?k_l_source ?a_l_string ?l_l_string ?c_l_string ?k_l_string ?a_l_sign ?l_l_sign ?c_l_sign ?k_l_sign ?a_l_word ?l_l_word ?c_l_word ?k_l_word ?a_l_string_fits ?l_l_string_fits ?c_l_string_fits ?k_l_string_fits ?a_l_number_fits ?l_l_number_fits ?c_l_number_fits ?k_l_number_fits ?a_l_deed_fits ?l_l_deed_fits ?c_l_deed_fits ?k_l_deed_fits ?a_l_wrong ?l_l_wrong ?c_l_wrong ?k_l_wrong ?a_check_value ?l_check_value ?c_check_value ?k_check_value ?a_is_value ?l_is_value ?c_is_value ?k_is_value ?a_text_of ?l_text_of ?c_text_of ?k_text_of ?a_notation ?l_notation ?c_notation ?k_notation ?a_is_deed ?l_is_deed ?c_is_deed ?k_is_deed ?a_deed_notation ?l_deed_notation ?c_deed_notation ?k_deed_notation ?a_deeds_text ?l_deeds_text ?c_deeds_text ?k_deeds_text ?a_read_notation ?l_read_notation ?c_read_notation ?k_read_notation ?a_is_notation ?l_is_notation ?c_is_notation ?k_is_notation ?a_l_quoted ?l_l_quoted ?c_l_quoted ?k_l_quoted ?a_l_told ?l_l_told ?c_l_told ?k_l_told ?a_l_right ?l_l_right ?c_l_right ?k_l_right ?co_l_right ?ov_l_right ?ti_l_right ?tn_l_right ?rs_l_right ?a_l_by_hand_right ?l_l_by_hand_right ?c_l_by_hand_right ?k_l_by_hand_right ?a_law ?l_law ?c_law ?k_law ?co_law ?ov_law ?ti_law ?tn_law ?rs_law ?a_wrong_path ?l_wrong_path ?c_wrong_path ?k_wrong_path ?a_value_notation ?l_value_notation ?c_value_notation ?k_value_notation ?a_l_value ?l_l_value ?c_l_value ?k_l_value ?a_read_value ?l_read_value ?c_read_value ?k_read_value ?a_read_items ?l_read_items ?c_read_items ?k_read_items ?a_read_pairs ?l_read_pairs ?c_read_pairs ?k_read_pairs ?a_l_shown ?l_l_shown ?c_l_shown ?k_l_shown ?a_spelled ?l_spelled ?c_spelled ?k_spelled ?a_l_value_fits ?l_l_value_fits ?c_l_value_fits ?k_l_value_fits ?a_l_items_fit ?l_l_items_fit ?c_l_items_fit ?k_l_items_fit ?ne_l_right_law ?b_len ?b_isinstance ?b_repr ?b_enumerate ?b_range ?b_list ?b_tuple ?b_dict ?b_bool ?b_int ?b_str ?b_abs ?b_all ?b_any ?b_sorted ?b_set ?b_max ?b_min ?v_MOST_DIGITS_values ?v_MOST_ITEMS ?v_MOST_LEVELS_values ?v_MOST_KEY_values ?v_MOST_DIGITS_notation ?v_MOST_LEVELS_notation ?v_MOST_KEY_notation ?b_ord ?v_DIGITS ?nd ?v_ESCAPES ?lk_ESC ?e1_ESC ?e2_ESC ?e3_ESC ?lo_ESC ?kNN ?exN ?exI ?v_UNE ?lk_UNE ?e1_UNE ?e2_UNE ?e3_UNE ?lo_UNE ?v_WRD ?lk_WRD ?lk_W1 ?lk_W2 ?lk_W3
    (case b_super => k_is)
    (case xa => exact ⟨by kernel_rfl, by kernel_rfl, by kernel_rfl, by kernel_rfl⟩)
    (case aC_InvalidDeed => k_is)
    (case in_InvalidDeed => k_is)
    (case l_InvalidDeed => k_is)
    (case co_InvalidDeed => k_is)
    (case fi_InvalidDeed => exact rfl)
    (case fe_InvalidDeed => kernel_rfl)
    (case ce_InvalidDeed => k_is)
    (case xb_InvalidDeed => exact ⟨by kernel_rfl, by kernel_rfl, by kernel_rfl, by kernel_rfl, by kernel_rfl, by kernel_rfl, by kernel_rfl, by kernel_rfl, by kernel_rfl, by kernel_rfl, by kernel_rfl, by kernel_rfl, by kernel_rfl, by kernel_rfl, by kernel_rfl⟩)
    (case nf_InvalidDeed => kernel_rfl)
    (case aC_InvalidText => k_is)
    (case in_InvalidText => k_is)
    (case l_InvalidText => k_is)
    (case co_InvalidText => k_is)
    (case fi_InvalidText => exact rfl)
    (case fe_InvalidText => kernel_rfl)
    (case ce_InvalidText => k_is)
    (case xb_InvalidText => exact ⟨by kernel_rfl, by kernel_rfl, by kernel_rfl, by kernel_rfl, by kernel_rfl, by kernel_rfl, by kernel_rfl, by kernel_rfl, by kernel_rfl, by kernel_rfl, by kernel_rfl, by kernel_rfl, by kernel_rfl, by kernel_rfl, by kernel_rfl⟩)
    (case nf_InvalidText => kernel_rfl)
    (case tyX_InvalidDeed => kernel_rfl)
    (case tyX_InvalidText => kernel_rfl)
    (case aC_ShelfError => k_is)
    (case a_items_of => k_is)
    (case l_items_of => k_is)
    (case c_items_of => k_is)
    (case k_items_of => k_is)
    (case a_is_wrong_part => k_is)
    (case l_is_wrong_part => k_is)
    (case c_is_wrong_part => k_is)
    (case k_is_wrong_part => k_is)
    (case a_string_notation => k_is)
    (case l_string_notation => k_is)
    (case c_string_notation => k_is)
    (case k_string_notation => k_is)
    (case a_is_key => k_is)
    (case l_is_key => k_is)
    (case c_is_key => k_is)
    (case k_is_key => k_is)
    (case a_expect => k_is)
    (case l_expect => k_is)
    (case c_expect => k_is)
    (case k_expect => k_is)
    (case a_stands => k_is)
    (case l_stands => k_is)
    (case c_stands => k_is)
    (case k_stands => k_is)
    (case a_is_plain_sign => k_is)
    (case l_is_plain_sign => k_is)
    (case c_is_plain_sign => k_is)
    (case k_is_plain_sign => k_is)
    (case a_read_string => k_is)
    (case l_read_string => k_is)
    (case c_read_string => k_is)
    (case k_read_string => k_is)
    (case a_read_key => k_is)
    (case l_read_key => k_is)
    (case c_read_key => k_is)
    (case k_read_key => k_is)
    (case a_read_integer => k_is)
    (case l_read_integer => k_is)
    (case c_read_integer => k_is)
    (case k_read_integer => k_is)
    (case a_checked_text => k_is)
    (case l_checked_text => k_is)
    (case c_checked_text => k_is)
    (case k_checked_text => k_is)
    (case a_ended => k_is)
    (case l_ended => k_is)
    (case c_ended => k_is)
    (case k_ended => k_is)
    (case a_read_deed => k_is)
    (case l_read_deed => k_is)
    (case c_read_deed => k_is)
    (case k_read_deed => k_is)
    (case a_read_deeds => k_is)
    (case l_read_deeds => k_is)
    (case c_read_deeds => k_is)
    (case k_read_deeds => k_is)
    (case a_l_pick => k_is)
    (case l_l_pick => k_is)
    (case c_l_pick => k_is)
    (case k_l_pick => k_is)
    (case a_l_source => k_is)
    (case l_l_source => k_is)
    (case c_l_source => k_is)
    (case k_l_source => k_is)
    (case a_l_string => k_is)
    (case l_l_string => k_is)
    (case c_l_string => k_is)
    (case k_l_string => k_is)
    (case a_l_sign => k_is)
    (case l_l_sign => k_is)
    (case c_l_sign => k_is)
    (case k_l_sign => k_is)
    (case a_l_word => k_is)
    (case l_l_word => k_is)
    (case c_l_word => k_is)
    (case k_l_word => k_is)
    (case a_l_string_fits => k_is)
    (case l_l_string_fits => k_is)
    (case c_l_string_fits => k_is)
    (case k_l_string_fits => k_is)
    (case a_l_number_fits => k_is)
    (case l_l_number_fits => k_is)
    (case c_l_number_fits => k_is)
    (case k_l_number_fits => k_is)
    (case a_l_deed_fits => k_is)
    (case l_l_deed_fits => k_is)
    (case c_l_deed_fits => k_is)
    (case k_l_deed_fits => k_is)
    (case a_l_wrong => k_is)
    (case l_l_wrong => k_is)
    (case c_l_wrong => k_is)
    (case k_l_wrong => k_is)
    (case a_check_value => k_is)
    (case l_check_value => k_is)
    (case c_check_value => k_is)
    (case k_check_value => k_is)
    (case a_is_value => k_is)
    (case l_is_value => k_is)
    (case c_is_value => k_is)
    (case k_is_value => k_is)
    (case a_text_of => k_is)
    (case l_text_of => k_is)
    (case c_text_of => k_is)
    (case k_text_of => k_is)
    (case a_notation => k_is)
    (case l_notation => k_is)
    (case c_notation => k_is)
    (case k_notation => k_is)
    (case a_is_deed => k_is)
    (case l_is_deed => k_is)
    (case c_is_deed => k_is)
    (case k_is_deed => k_is)
    (case a_deed_notation => k_is)
    (case l_deed_notation => k_is)
    (case c_deed_notation => k_is)
    (case k_deed_notation => k_is)
    (case a_deeds_text => k_is)
    (case l_deeds_text => k_is)
    (case c_deeds_text => k_is)
    (case k_deeds_text => k_is)
    (case a_read_notation => k_is)
    (case l_read_notation => k_is)
    (case c_read_notation => k_is)
    (case k_read_notation => k_is)
    (case a_is_notation => k_is)
    (case l_is_notation => k_is)
    (case c_is_notation => k_is)
    (case k_is_notation => k_is)
    (case a_l_quoted => k_is)
    (case l_l_quoted => k_is)
    (case c_l_quoted => k_is)
    (case k_l_quoted => k_is)
    (case a_l_told => k_is)
    (case l_l_told => k_is)
    (case c_l_told => k_is)
    (case k_l_told => k_is)
    (case a_l_right => k_is)
    (case l_l_right => k_is)
    (case c_l_right => k_is)
    (case k_l_right => k_is)
    (case co_l_right => k_is)
    (case ov_l_right => exact rfl)
    (case ti_l_right => kernel_rfl)
    (case tn_l_right => kernel_rfl)
    (case rs_l_right => kernel_rfl)
    (case a_l_by_hand_right => k_is)
    (case l_l_by_hand_right => k_is)
    (case c_l_by_hand_right => k_is)
    (case k_l_by_hand_right => k_is)
    (case a_law => k_is)
    (case l_law => k_is)
    (case c_law => k_is)
    (case k_law => k_is)
    (case co_law => k_is)
    (case ov_law => exact rfl)
    (case ti_law => kernel_rfl)
    (case tn_law => kernel_rfl)
    (case rs_law => kernel_rfl)
    (case a_wrong_path => k_is)
    (case l_wrong_path => k_is)
    (case c_wrong_path => k_is)
    (case k_wrong_path => k_is)
    (case a_value_notation => k_is)
    (case l_value_notation => k_is)
    (case c_value_notation => k_is)
    (case k_value_notation => k_is)
    (case a_l_value => k_is)
    (case l_l_value => k_is)
    (case c_l_value => k_is)
    (case k_l_value => k_is)
    (case a_read_value => k_is)
    (case l_read_value => k_is)
    (case c_read_value => k_is)
    (case k_read_value => k_is)
    (case a_read_items => k_is)
    (case l_read_items => k_is)
    (case c_read_items => k_is)
    (case k_read_items => k_is)
    (case a_read_pairs => k_is)
    (case l_read_pairs => k_is)
    (case c_read_pairs => k_is)
    (case k_read_pairs => k_is)
    (case a_l_shown => k_is)
    (case l_l_shown => k_is)
    (case c_l_shown => k_is)
    (case k_l_shown => k_is)
    (case a_spelled => k_is)
    (case l_spelled => k_is)
    (case c_spelled => k_is)
    (case k_spelled => k_is)
    (case a_l_value_fits => k_is)
    (case l_l_value_fits => k_is)
    (case c_l_value_fits => k_is)
    (case k_l_value_fits => k_is)
    (case a_l_items_fit => k_is)
    (case l_l_items_fit => k_is)
    (case c_l_items_fit => k_is)
    (case k_l_items_fit => k_is)
    (case ne_l_right_law => decide)
    (case b_len => k_is)
    (case b_isinstance => k_is)
    (case b_repr => k_is)
    (case b_enumerate => k_is)
    (case b_range => k_is)
    (case b_list => k_is)
    (case b_tuple => k_is)
    (case b_dict => k_is)
    (case b_bool => k_is)
    (case b_int => k_is)
    (case b_str => k_is)
    (case b_abs => k_is)
    (case b_all => k_is)
    (case b_any => k_is)
    (case b_sorted => k_is)
    (case b_set => k_is)
    (case b_max => k_is)
    (case b_min => k_is)
    (case v_MOST_DIGITS_values => k_is)
    (case v_MOST_ITEMS => k_is)
    (case v_MOST_LEVELS_values => k_is)
    (case v_MOST_KEY_values => k_is)
    (case v_MOST_DIGITS_notation => k_is)
    (case v_MOST_LEVELS_notation => k_is)
    (case v_MOST_KEY_notation => k_is)
    (case b_ord => k_is)
    (case v_DIGITS => k_is)
    (case nd => k_is)
    (case v_ESCAPES => k_is)
    (case lk_ESC => k_is)
    (case e1_ESC => exact rfl)
    (case e2_ESC => exact rfl)
    (case e3_ESC => exact rfl)
    (case lo_ESC => exact rfl)
    (case kNN => kernel_rfl)
    (case exN => kernel_rfl)
    (case exI => kernel_rfl)
    (case v_UNE => k_is)
    (case lk_UNE => k_is)
    (case e1_UNE => exact rfl)
    (case e2_UNE => exact rfl)
    (case e3_UNE => exact rfl)
    (case lo_UNE => exact rfl)
    (case v_WRD => k_is)
    (case lk_WRD => k_is)
    (case lk_W1 => k_is)
    (case lk_W2 => k_is)
    (case lk_W3 => k_is)
