import PyProof.Rows.All
import Wide.All
import OpenK.AllK
import Wide.FinOn
import HandS.ForMost
import HandS.Exc
import HandS.WordsExc
import HandS.Flow
import HandS.IsInst
import HandS.FStr
import HandS.TupAny
import HandS.Style
import PyProof.ReprRoads
import KE.GoesMore
import PyProof.FString3
import PyProof.Rows.StrIntSpec
import KE.KFmtOwn
import PyProof.StrBlock2
import HandS.Property
import HandS.Text
import PyProof.Rows.Range3
import PyProof.Conv_bool
import HandS.Small
import PyProof.InstEq
import HandS.EndBits
import HandS.Codes
import PyProof.ReprLen
import HandS.Dict
import KE.KExcSuper
import HandS.ExcInit
import HandS.ExcField
import HandS.ExcIs
import PyProof.RowDictHeap
import PyProof.Rows.SeqMore
import PyProof.FitsInt
import KE.KExcInit
import HandS.DictComp
import HandS.Wide
import PyProof.NeKinds
import KE.KDictZip
import KE.GoesEnum
import HandS.Star
import HandS.ExcValue
import PyProof.RulesMatch
import KE.KTryMore
import HandS.Lambda
import HandS.EndTab
import HandS.ClsMeth
import HandS.GenList
import HandS.SortInts
import HandS.Defaults
import HandS.DeepEq
import KE.KDflt
import PyProof.StrLawsRepr
import KE.IntTextLaws
import HandS.Conv
import PyProof.ReprBulk
import KE.KExcLine
import PySem.Challenge.RW_recordshelf_k05_whole_wrong_texts
set_option Elab.async false
set_option linter.all false
set_option maxRecDepth 100000
set_option maxHeartbeats 4000000
namespace RS
open PySem PySem.Spec L2

/-- what a law's text is, as it stands behind its top -/
structure Wd where
  P : Program
  w : World
  K : PySem.W.Frag
  mg : Str → Option Value
  base : Heap

/-- a def that keeps its promise wherever no repr is under way -/
structure FnG (g : Wd) (k : Nat) (f : Addr) (fd : FuncData) (ps : List Str) (sp : Sp) : Prop where
  len : ∀ vs H Q E, sp vs H Q E → vs.length = ps.length
  run : ∀ (A : Around) (outer : List Env) (s : Shared) (H : Hp) (args : Args) (us : List Value) (vs : List V) (Q : VK) (E : XK),
    Room k A → A.guards = some [] → Env0 g.P g.w g.K g.mg g.base A outer s H → BindsTo s fd args (ps.zip us) → Vals vs us → sp vs H Q E →
      codeAny (model g.P g.w) A (.call (.ref f) args) (CR (L2.CX g.P g.w) outer g.P g.w H s Q E) s

theorem FnG.mono {g : Wd} {j k : Nat} {f : Addr} {fd : FuncData} {ps : List Str} {sp : Sp} (F : FnG g j f fd ps sp) (h : j ≤ k) : FnG g k f fd ps sp :=
  ⟨F.len, fun A outer s H args us vs Q E hr => F.run A outer s H args us vs Q E (hr.mono h)⟩
theorem FnG.imp {g : Wd} {k : Nat} {f : Addr} {fd : FuncData} {ps : List Str} {sp sp' : Sp} (F : FnG g k f fd ps sp) (h : ∀ vs H Q E, sp' vs H Q E → sp vs H Q E) : FnG g k f fd ps sp' :=
  ⟨fun vs H Q E q => F.len vs H Q E (h _ _ _ _ q), fun A outer s H args us vs Q E hr hg he hb hv hs => F.run A outer s H args us vs Q E hr hg he hb hv (h _ _ _ _ hs)⟩

/-- a def of the text, with the value of its defaults -/
structure Df (K : PySem.W.Frag) (x qual : Str) (st : Stmt) (f : Addr) (fd : FuncData) (dV : Value) : Prop where
  ex : ∃ (oc : Value) (od : Option Addr) (kV doc pm : Value) (an : Option Addr) (cdv ct : Value) (osl : Array (Option Value)),
    fd = PySem.W.fnOf x qual (defArgs st) (defBody st) (defScope st) dV kV doc pm an cdv ct ∧ K.lookup f = some ⟨oc, od, .func fd, osl⟩ ∧ PySem.W.codeIn K cdv qual = true
  kp : PySem.W.keepIn K (.ref f) = true

/-- the context of its body -/
abbrev cx (g : Wd) (N : List Str) (qual : Str) (st : Stmt) (f : Addr) (cdv : Value) (A : Around) (outer : List Env) (s : Shared) (H : Hp) (E : XK) : Cx :=
  cxOf (L2.CX g.P g.w) g.P g.w g.K g.mg g.base N qual (defScope st) f cdv A outer s H E

/-- what a body may lean on: room, and no repr under way -/
structure Rm (k : Nat) (X : Cx) : Prop where
  room : Room k X.A
  gd : X.A.guards = some []
theorem Rm.mono {j k : Nat} {X : Cx} (r : Rm k X) (h : j ≤ k) : Rm j X := ⟨r.room.mono h, r.gd⟩

theorem Df.ok {g : Wd} {x qual : Str} {st : Stmt} {f : Addr} {fd : FuncData} {dV : Value} {N ps : List Str} {k : Nat} {sp : Sp} (F : Df g.K x qual st f fd dV) (S : FnScope N ps (defScope st))
    (len : ∀ vs H Q E, sp vs H Q E → vs.length = ps.length)
    (hbody : ∀ (cdv : Value) (A : Around) (outer : List Env) (s : Shared) (H : Hp) (vs : List V) (Q : VK) (E : XK), Rm k (cx g N qual st f cdv A outer s H E) → sp vs H Q E →
      ∃ t, PSs (cx g N qual st f cdv A outer s H E) (defBody st) t ∧ t { nx := fun _ H' => Q .non H', rt := Q } (start N vs) H) : FnG g (k + 1) f fd ps sp := by
  obtain ⟨oc, od, kV, doc, pm, an, cdv, ct, osl, rfl, lk, hcd⟩ := F.ex
  refine ⟨len, fun A outer s H args us vs Q E hr hg e0 hb rv hsp => ?_⟩
  have kept : ∀ b o, g.base.get? b = some o → s.heap.get? b = some o := fun b o e => (e0.bs b o e).1
  have KX := e0.mod.kin.keeps kept
  have par : ∀ y ∈ ps.zip us, (defScope st).names.lookup y.1 = some .local ∨ ((defScope st).names.lookup y.1 = some .cell ∧ ((cellsFrom (s.heap.objs.size + 1) (defScope st).names []).lookup y.1).isSome = true) := by
    rintro ⟨n, v⟩ hy
    exact (S.par n (List.of_mem_zip hy).1).imp id fun q => ⟨q, PySem.W.cellsFrom_some _ _ _ (.inl q)⟩
  refine codeAny_call_function hr.depth (KX _ _ lk) rfl S.co S.gen rfl (PySem.W.codeRec_of KX hcd) (hb _ _ _ _ (wpAny_newFunctionEnv_cells S.kind par ?_))
  rintro env rfl s1 ic
  refine ⟨(e0.mod.nolimit.keeps kept).keeps ic.toInCall.keep, codeAny_func ?_⟩
  obtain ⟨t, ht, hq⟩ := hbody cdv A outer s H vs Q E ⟨hr.deeper _, hg⟩ hsp
  have J := inv_start (CX := L2.CX g.P g.w) (E := E) (qual := qual) (f := f) (cd := cdv) S hr.hd e0 (len _ _ _ _ hsp) rv ic
  refine wpAny_mono (ht.run [] s1 _ H _ J hq) ?_ fun _ _ z => z
  rintro fl s' hs
  cases fl with
  | ret u => obtain ⟨v, σ', H', I, r, q⟩ := hs; exact ⟨v, H', I.os, I.bare, I.base, I.hok, r, q⟩
  | next => obtain ⟨σ', H', I, q⟩ := hs; exact ⟨.non, H', I.os, I.bare, I.base, I.hok, rfl, q⟩
  | brk => obtain ⟨_, _, _, q⟩ := hs; exact q.elim
  | cont => obtain ⟨_, _, _, q⟩ := hs; exact q.elim

/-! ### calls -/
/-- X stands in the world g -/
structure At (g : Wd) (X : Cx) : Prop where
  P : X.prog = g.P
  w : X.w = g.w
  K : X.K = g.K
  mg : X.mg = g.mg
  base : X.base = g.base

section
variable {g : Wd} {X : Cx} {k : Nat} {f : Addr} {fd : FuncData} {ps : List Str} {sp : Sp} {W : WX}
/-- the callee runs, its arguments bound somehow -/
theorem runG (a : At g X) (F : FnG g k f fd ps sp) (hr : Rm k X) (tk : Takes X W) {pins : List (Addr × Obj)} {σ : St} {H : Hp} {s : Shared} {Q : VK} {args : Args} {us : List Value} {vs : List V}
    (I : Inv X pins σ H s) (hb : BindsTo s fd args (ps.zip us)) (r : Vals vs us) (h : sp vs H Q (fun c d H' => W c d σ H')) :
    codeAny (model X.prog X.w) X.A (.call (.ref f) args) (fun res s' => match res with | .ok fl => (match fl with | .ret u => EP X pins σ Q u s' | _ => False) | .error e => X.xe e s') s := by
  obtain ⟨P, w, K, mg, base⟩ := g
  obtain ⟨rfl, rfl, rfl, rfl, rfl⟩ := a
  refine codeAny_mono (F.run X.A X.stack s H args us vs Q _ hr.room hr.gd I.env0 hb r h) fun res s' hq => ?_
  cases res with
  | error e => exact tk e s' (XE.of_call (E := fun c d H' => W c d σ H') I (fun _ _ _ z => z) hq)
  | ok fl =>
    cases fl with
    | ret u => exact I.after hq
    | _ => exact hq.elim
end
end RS


namespace RS
open PySem PySem.Spec L2

/-! ### promises by the number of arguments -/
def S0 (g : Hp → VK → XK → Prop) : Sp := fun vs H Q E => vs = [] ∧ g H Q E
def S1 (g : V → Hp → VK → XK → Prop) : Sp := fun vs H Q E => ∃ a, vs = [a] ∧ g a H Q E
def S2 (g : V → V → Hp → VK → XK → Prop) : Sp := fun vs H Q E => ∃ a b, vs = [a, b] ∧ g a b H Q E
def S3 (g : V → V → V → Hp → VK → XK → Prop) : Sp := fun vs H Q E => ∃ a b c, vs = [a, b, c] ∧ g a b c H Q E
def S4 (g : V → V → V → V → Hp → VK → XK → Prop) : Sp := fun vs H Q E => ∃ a b c d, vs = [a, b, c, d] ∧ g a b c d H Q E
def S5 (g : V → V → V → V → V → Hp → VK → XK → Prop) : Sp := fun vs H Q E => ∃ a b c d e, vs = [a, b, c, d, e] ∧ g a b c d e H Q E
theorem S0.len {g} {vs : List V} {H Q E} (h : S0 g vs H Q E) : vs.length = 0 := by obtain ⟨rfl, _⟩ := h; rfl
theorem S1.len {g} {vs : List V} {H Q E} (h : S1 g vs H Q E) : vs.length = 1 := by obtain ⟨_, rfl, _⟩ := h; rfl
theorem S2.len {g} {vs : List V} {H Q E} (h : S2 g vs H Q E) : vs.length = 2 := by obtain ⟨_, _, rfl, _⟩ := h; rfl
theorem S3.len {g} {vs : List V} {H Q E} (h : S3 g vs H Q E) : vs.length = 3 := by obtain ⟨_, _, _, rfl, _⟩ := h; rfl
theorem S4.len {g} {vs : List V} {H Q E} (h : S4 g vs H Q E) : vs.length = 4 := by obtain ⟨_, _, _, _, rfl, _⟩ := h; rfl
theorem S5.len {g} {vs : List V} {H Q E} (h : S5 g vs H Q E) : vs.length = 5 := by obtain ⟨_, _, _, _, _, rfl, _⟩ := h; rfl

/-! ### a def by its name -/
/-- what the module's name x holds is worth v -/
def Gv (g : Wd) (x : Str) (v : V) : Prop := ∃ u, g.mg x = some u ∧ RelV v u
/-- the module's name x holds a def that keeps sp; ds: its defaults that fill up -/
def Kn (g : Wd) (x : Str) (k : Nat) (ps : List Str) (ds : List V) (sp : Sp) : Prop :=
  ∃ f fd dsV, g.mg x = some (.ref f) ∧ PySem.W.keepIn g.K (.ref f) = true ∧ FnG g k f fd ps sp ∧ Binds g.K fd ps dsV ∧ Vals ds dsV

section
variable {g : Wd} {X : Cx} {k : Nat} {f : Addr} {fd : FuncData} {ps : List Str} {sp : Sp} {W : WX} {ds : List V} {x : Str} {p pos : Pos} {e : Expr} {es : List Expr} {t : TA}

theorem e_g {v : V} (h : Gv g x v) (hg : Gl X x := by rfl) (hd : (x == ("__debug__" : Str)) = false := by decide) (a : At g X := by exact ⟨rfl, rfl, rfl, rfl, rfl⟩) : PE X (.Name x pos) (tC v) := by
  obtain ⟨u, hm, r⟩ := h
  exact pe_glob hg (by rw [a.mg]; exact hm) r hd

def tCallG (sp : Sp) (ds : List V) (W : WX) (t : TA) : TE := fun σ H Q => t σ H fun vs H1 => sp (vs ++ ds) H1 Q (fun c d H' => W c d σ H')

/-- the call itself, the arguments at hand -/
theorem callG {dsV : List Value} (a : At g X) (F : FnG g k f fd ps sp) (hr : Rm k X) (tk : Takes X W) (hb : Binds g.K fd ps dsV) (rd : Vals ds dsV) {pins : List (Addr × Obj)} {σ : L2.St} {H : Hp} {s : Shared} {Q : VK} {us : List Value} {vs : List V}
    (I : Inv X pins σ H s) (r : Vals vs us) (h : sp (vs ++ ds) H Q (fun c d H' => W c d σ H')) : wpAny (model X.prog X.w) X.A (call (.ref f) us) (EP X pins σ Q) X.xe s := by
  have r2 := Vals.append r rd
  have hl : (us ++ dsV).length = ps.length := by rw [← r2.length]; exact F.len _ _ _ _ h
  have KI : g.K.In s.heap := by rw [← a.K]; exact I.kIn
  refine wpAny_call (codeAny_mono (runG a F hr tk I (hb s us KI hl) r2 h) fun res s' hq => ?_)
  cases res with
  | error e => exact hq
  | ok fl => cases fl with
    | ret u => exact hq
    | _ => exact hq.elim

theorem pe_callG (F : Kn g x k ps ds sp) (hr : Rm k X) (tk : Takes X W) (ha : PA X (e :: es) t) (hg : Gl X x := by rfl) (hdb : (x == ("__debug__" : Str)) = false := by decide)
    (he : starEach (e :: es) X.env = (false, eval e X.env) :: starEach es X.env := by rfl) (hpl : (backTo pos (starEach es X.env)).any (·.1) = false := by rfl) (a : At g X := by exact ⟨rfl, rfl, rfl, rfl, rfl⟩) :
    PE X (.Call (.Name x p) (e :: es) [] pos) (tCallG sp ds W t) := by
  obtain ⟨f, fd, dsV, hm, hk, F, hb, rd⟩ := F
  refine ⟨fun pins s σ H Q I h => wpAny_Call_Name_kw (ld_glob I hg (by rw [a.mg]; exact hm) ?_ hdb)⟩
  refine PySem.W.callWith_K (h₀ := X.base) I.ok.mod.kin (by rw [a.K]; exact hk) (thn (ha.run pos pins s σ H _ I h) ?_) he hpl
  rintro us s1 ⟨vs, H1, I1, r, q⟩
  exact ⟨I1.kIn, callG a F hr tk hb rd I1 r q⟩
theorem pe_callG0 (F : Kn g x k ps ds sp) (hr : Rm k X) (tk : Takes X W) (hg : Gl X x := by rfl) (hdb : (x == ("__debug__" : Str)) = false := by decide) (a : At g X := by exact ⟨rfl, rfl, rfl, rfl, rfl⟩) :
    PE X (.Call (.Name x p) [] [] pos) (tCallG sp ds W tNil) := by
  obtain ⟨f, fd, dsV, hm, hk, F, hb, rd⟩ := F
  refine ⟨fun pins s σ H Q I h => wpAny_Call_Name_kw (ld_glob I hg (by rw [a.mg]; exact hm) ?_ hdb)⟩
  exact PySem.W.callWith_K0 I.kIn (by rw [a.K]; exact hk) (callG a F hr tk hb rd I .nil h)
end

/-! ### repr -/
section
variable {X : Cx} {k : Nat}
mutual
theorem Dp.noDict {K : PySem.W.Frag} {H : Hp} : ∀ {d : PyData} {v : V}, Dp K H v d → d.hasDict = false
  | .none, _, _ => rfl
  | .bool _, _, _ => rfl
  | .int _, _, _ => rfl
  | .str _, _, _ => rfl
  | .list ds, _, h => by cases h with | lst _ ha => simp only [PyData.hasDict]; exact DpAll.noDict ha
  | .tuple ds, _, h => by cases h with | tup _ ha => simp only [PyData.hasDict]; exact DpAll.noDict ha
  | .dict _, _, h => by cases h
theorem DpAll.noDict {K : PySem.W.Frag} {H : Hp} : ∀ {ds : List PyData} {vs : List V}, DpAll K H vs ds → PyData.hasDictAll ds = false
  | [], _, _ => rfl
  | d :: ds, _, h => by cases h with | cons h1 h2 => simp only [PyData.hasDictAll, Dp.noDict h1, DpAll.noDict h2, Bool.or_self]
end
def rRepr (K : PySem.W.Frag) : List V → Hp → VK → Prop := fun xs H Q => ∃ a d, xs = [.ref a] ∧ Dp K H (.ref a) d ∧ d.showable = true ∧ d.depth ≤ 60 ∧ d.shown.length ≤ sizeLine ∧ Q (.str d.shown) H
theorem c_repr {K : PySem.W.Frag} (hr : Rm k X) (hK : X.K = K := by rfl) : CallR X (.builtin "repr") (rRepr K) := by
  subst hK
  intro pins s σ H xs us Q I r h
  obtain ⟨a, d, rfl, hd, hs, hz, hl, q⟩ := h
  obtain ⟨u, rfl, ru⟩ := vals1 r
  cases ru
  obtain ⟨as, rd⟩ := Dp.reads I d (.ref a) (.ref a) hd rfl
  refine repr_of_reads' (h₀ := s.heap) rd hs (PyData.noDict_hsm (Dp.noDict hd)) hr.gd (by have := hr.room.un; omega) (fun _ _ e => e) (fun h' u tk kp => ?_) hl
  exact ⟨.str _, H, I.kept kp, ⟨_, rfl⟩, q⟩
end
end RS


namespace RS
open PySem PySem.Spec L2

/-! ### enumerate(text) -/
/-- the signs of x, each with its index in a new pair -/
def ItEs (x : Str) : It :=
  ⟨fun i _ => i < x.cps.size, fun i H v H' => ∃ T c, v = .ref T ∧ H T = none ∧ H' = upd H T (.tup [.int (i : Nat), .str ⟨#[c]⟩]) ∧ x.cps[i]? = some c, fun i _ => i = x.cps.size⟩
theorem turn_enumS {P : Program} {w : World} {K : PySem.W.Frag} {elts : List Expr} {kk : Nat} {tpos : Pos} (x : Str) (t : Tok) (e it : Addr) :
    Turn P w K (.Tuple elts kk tpos) (ItEs x) [e, it] e (fun i h => (∃ old, IsEnum h e it ((i : Nat) : Int) old) ∧ h.IsStrIter it (strIterType x) x t i ∧ e ≠ it) where
  mem := List.mem_cons_self
  obj := by
    rintro i h ⟨⟨old, he⟩, ⟨o, ho, hc, hd⟩, _⟩ b hb
    rcases List.mem_cons.mp hb with rfl | hb
    · exact ⟨_, he, fun v q => nomatch q⟩
    · obtain rfl := List.mem_singleton.mp hb
      exact ⟨o, ho, fun v q => by rw [hd] at q; cases q⟩
  keep := by
    rintro i h h' ⟨⟨old, he⟩, ⟨o, ho, hr⟩, hne⟩ k
    exact ⟨⟨old, k e (by simp) _ he⟩, ⟨o, k it (by simp) o ho, hr⟩, hne⟩
  item := by
    intro X hP hw hK hc i pins s σ H E I hf st hg
    subst hP hw hK
    obtain ⟨⟨old, he⟩, hit, hne⟩ := st
    have hel : e < s.heap.objs.size := Heap.lt_size he
    have hil : it < s.heap.objs.size := by obtain ⟨_, q, _⟩ := hit; exact Heap.lt_size q
    refine wpAny_pyNext_enum_itemD (Draws.text (A := X.A.in1) (I.ok.hd hc) it x t) he hit hg hne (by simpa using hne) fun u h' tk hp ho hit' hT hsz hk => ?_
    obtain ⟨c, tu, hcx, rfl⟩ := hp
    refine ⟨_, rfl, wpAny_letOwnedTupleGo_enum (s := { s with heap := h', toks := tk + 1 }) ho fun h2 he' sb => ?_⟩
    have hT2 : h2.get? s.heap.objs.size = some { cls := .type "tuple", data := .seq #[.int i tk, .str ⟨#[c]⟩ tu] } := (sb.2 _ (Nat.ne_of_gt hel)).trans hT
    have lay : ObjOk X.prog X.w (upd H s.heap.objs.size (.tup [.int (i : Nat), .str ⟨#[c]⟩])) h2 s.heap.objs.size (.tup [.int (i : Nat), .str ⟨#[c]⟩]) :=
      ⟨by show 2 ≤ sizeLine; decide, _, .cons ⟨_, rfl⟩ (.cons ⟨_, rfl⟩ .nil), _, hT2, rfl, _, rfl⟩
    have keepB : ∀ b o, b ∉ [e, it] → s.heap.get? b = some o → h2.get? b = some o := fun b o hb q => by
      have n1 : b ≠ e := fun z => hb (by simp [z])
      have n2 : b ≠ it := fun z => hb (by simp [z])
      exact (sb.2 b n1).trans (hk b o n1 n2 q)
    have I1 := I.turnedNew (t' := tk + 1) keepB hf (Nat.le_refl _) lay
    refine ⟨.ref s.heap.objs.size, _, I1, rfl, ⟨_, c, rfl, I.hok.fresh (Nat.le_refl _), rfl, hcx⟩, ⟨⟨_, by simpa using he'⟩, ?_, hne⟩, fun b hb => ?_⟩
    · obtain ⟨o, ho2, hr⟩ := hit'
      exact ⟨o, (sb.2 it (Ne.symm hne)).trans ho2, hr⟩
    · have lt : b < s.heap.objs.size := by
        rcases List.mem_cons.mp hb with rfl | hb
        · exact hel
        · rw [List.mem_singleton.mp hb]; exact hil
      rw [upd_ne (Nat.ne_of_lt lt)]
      exact (hf b hb).1
  done := by
    intro X hP hw hK hc i pins s σ H E I hf st hg
    subst hP hw hK
    obtain ⟨⟨old, he⟩, hit, hne⟩ := st
    obtain rfl : i = x.cps.size := hg
    obtain ⟨f0, f1, f2, f3, f4, f5⟩ := hf it (by simp)
    refine wpAny_pyNext_enum_endD (Draws.text (A := X.A.in1) (I.ok.hd hc) it x t) he hit fun h' eb => ⟨rfl, ?_⟩
    exact I.turned (t' := s.toks) (fun b o hb q => eb b o hb q) f0 f1 f3 f4 f5
  self := fun A i s Q E st h => let ⟨⟨_, he⟩, _⟩ := st; wpAny_pyIter_enum he h

def iEnumS (ta : TA) : TI := fun σ H R => ta σ H fun vs H1 => ∃ x, vs = [.str x] ∧ R (ItEs x) H1
theorem pi_enumS {X : Cx} {e : Expr} {ta : TA} {p pos tpos : Pos} {elts : List Expr} {kk : Nat} (hm : X.mg "enumerate" = none) (ha : PA X [e] ta) (hg : Gl X "enumerate" := by rfl) (hs : starEach [e] X.env = [(false, eval e X.env)] := by rfl) :
    PI X (.Tuple elts kk tpos) (.Call (.Name "enumerate" p) [e] [] pos) (iEnumS ta) := by
  refine ⟨fun pins s σ H R I h => ?_⟩
  refine PyProof.Rows.Call_ (ld_blt I hg hm PyProof.Rows.boot_enumerate (PyProof.Rows.callWith_type1 (thn (ha.run pos pins s σ H _ I h) ?_) hs rfl))
  rintro us s1 ⟨vs, H1, I1, r1, x, rfl, q⟩
  obtain ⟨u, rfl, t, rfl⟩ := vals1 r1
  refine call_enumerate_str fun h' he hit hsz hk => wpAny_pyIter_enum he ?_
  refine ⟨s1.heap.objs.size + 1, [s1.heap.objs.size + 1, s1.heap.objs.size], _, _, H1, rfl, I1.kept (t' := s1.toks) hk, turn_enumS x t _ _, ⟨⟨.none, he⟩, hit, Nat.succ_ne_self _⟩, fun b hb => ?_, q⟩
  have le : s1.heap.objs.size ≤ b := by
    rcases List.mem_cons.mp hb with rfl | hb
    · exact Nat.le_succ _
    · rw [List.mem_singleton.mp hb]; exact Nat.le_refl _
  exact I1.fpOk le (I1.hok.fresh le)

/-! ### a number with zeros in front -/
theorem ns_none {K : PySem.W.Frag} {h : Heap} {a : Addr} {m : Str → Option Value} {n : Str} (X : K.In h) (G : h.Ns a m) (e : PySem.W.nsIn K a n = some none) : m n = none := by
  obtain ⟨o, es, ep, ho, hd, _, hf⟩ := G
  unfold PySem.W.nsIn at e
  split at e
  · rename_i q
    have z := X _ _ q
    rw [ho] at z
    cases z
    cases hd
    split at e
    · cases e
    · rename_i he
      rw [← hf]
      unfold nsFind findBy
      rw [← Array.find?_toList, he]
      split at e <;> first | rfl | cases e
  · cases e
/-- i with zeros in front, W signs at least -/
def padZ (W : Nat) (i : Int) : Str := ⟨(List.replicate (W - (Nat.toDigits 10 i.natAbs).length) 48).toArray⟩ ++ Str.ofString (toString i)
section
variable {X : Cx} {e spec : Expr} {te : TE} {pos : Pos} {sp : Str}
def tFmtZ (W : Nat) (te : TE) : TE := fun σ H Q => te σ H fun x H1 => ∃ i : Int, x = .int i ∧ 0 ≤ i ∧ i < 10 ^ 12 ∧ Q (.str (padZ W i)) H1
theorem pe_fmtZ (W : Nat) (he : PE X e te) (hs : PE X spec (tC (.str sp))) (nd : PySem.W.nsIn X.K cStatics "sys.int_max_str_digits" = some none) (hok : PyProof.Rows.intSpecOk sp = true := by decide +kernel) (hz : PyProof.Rows.intSpecZeroOf sp = true := by decide +kernel)
    (hW : PyProof.Rows.intSpecWidthOf sp = W := by decide +kernel) (hl : sp.length ≤ sizeLine := by decide +kernel) : PE X (.FormattedValue e (-1) (some spec) pos) (tFmtZ W te) := by
  refine ⟨fun pins s σ H Q I h => wpAny_FormattedValue_spec (thn (he.run pins s σ H _ I h) ?_)⟩
  rintro v s1 ⟨x, H1, I1, r1, i, rfl, i0, i1, q⟩
  obtain ⟨t, rfl⟩ := r1
  refine thn (hs.run pins s1 σ H1 (fun y H2 => y = .str sp ∧ H2 = H1) I1 ⟨rfl, rfl⟩) ?_
  rintro u s2 ⟨y, H2, I2, r2, rfl, rfl⟩
  obtain ⟨t2, rfl⟩ := r2
  have nd2 : s2.heap.NoDigits := by
    obtain ⟨mc, hn, _⟩ := I2.nolimit
    exact ⟨mc, hn, ns_none I2.kIn hn nd⟩
  have lt : i.natAbs < 10 ^ 4300 := Nat.lt_of_lt_of_le (show i.natAbs < 10 ^ 12 by omega) (Nat.pow_le_pow_right (by decide) (by decide))
  refine ⟨sp, t2, rfl, PyProof.Rows.formatField_int_specOf nd2 lt hok (fun W' hW' f => ?_) hl⟩
  have e2 := f.zeroG hz i0
  rw [hW', hW] at e2
  rw [e2]
  exact ⟨.str (padZ W i), H2, I2.tok _, ⟨_, rfl⟩, q⟩
end
end RS


namespace RS
open PySem PySem.Spec L2
section
variable {X : Cx}

/-! ### + of whatever -/
def rAdd (K : PySem.W.Frag) : R2 := fun x y H Q => match x, y with
  | .int i, .int j => Q (.int (i + j)) H
  | .str a, .str b => a.length + b.length ≤ sizeLine ∧ Q (.str (a ++ b)) H
  | .ref p, .ref q => rCat (.ref p) (.ref q) H Q ∨ rCatA K (.ref p) (.ref q) H Q
  | _, _ => False
theorem o_add {K : PySem.W.Frag} (hK : X.K = K := by rfl) : OpR X (binaryOp .Add) (rAdd K) := by
  subst hK
  intro pins s σ H x y v u Q I rx ry h
  cases x <;> cases y <;> first
    | exact (show False from h).elim
    | exact op_add pins s σ H _ _ v u Q I rx ry ⟨_, _, rfl, rfl, h⟩
    | exact op_add_str pins s σ H _ _ v u Q I rx ry ⟨_, _, rfl, rfl, h.1, h.2⟩
    | exact (show _ ∨ _ from h).elim (op_cat pins s σ H _ _ v u Q I rx ry) (op_catA pins s σ H _ _ v u Q I rx ry)

/-! ### * of whatever -/
/-- a, n times -/
def repS (a : Str) (n : Nat) : Str := ⟨(List.replicate n a.cps.toList).flatten.toArray⟩
theorem foldl_app (a : Array Nat) : ∀ (n : Nat) (acc : Array Nat), (List.replicate n a).foldl (· ++ ·) acc = acc ++ (List.replicate n a.toList).flatten.toArray
  | 0, acc => by simp
  | n + 1, acc => by
    rw [List.replicate_succ, List.foldl_cons, foldl_app a n (acc ++ a), List.replicate_succ, List.flatten_cons]
    apply Array.ext'
    simp [Array.toList_append, List.append_assoc]
theorem txt_mul (a : Str) (n : Int) : Txt.mul a n = repS a n.toNat := by
  unfold Txt.mul repS
  by_cases h1 : n < 1
  · rw [if_pos h1]
    have e : n.toNat = 0 := by omega
    rw [e]
    rfl
  · rw [if_neg h1]
    have e : ({ cps := (List.replicate n.toNat a.cps).foldl (· ++ ·) #[] } : Str) = { cps := (List.replicate n.toNat a.cps.toList).flatten.toArray } := by
      rw [foldl_app]
      congr 1
      apply Array.ext'
      simp
    split
    · rename_i c
      rcases Bool.or_eq_true_iff.mp c with c | c
      · have : n = 1 := by simpa using c
        subst this
        obtain ⟨l⟩ := a
        simp
      · have : a.cps.size = 0 := by simpa [Str.length] using c
        obtain ⟨⟨l⟩⟩ := a
        have : l = [] := by simpa using this
        subst this
        simp
    · exact e
def rMul : R2 := fun x y H Q => match x, y with
  | .int i, .int j => CMul i j ∧ Q (.int (i * j)) H
  | .str a, .int n => n < 2 ^ 31 ∧ -(2 ^ 31) < n ∧ a.length * n.toNat ≤ sizeLine ∧ Q (.str (repS a n.toNat)) H
  | .ref p, .int n => rRep (.ref p) (.int n) H Q
  | _, _ => False
theorem o_mul : OpR X (binaryOp .Mult) rMul := by
  intro pins s σ H x y v u Q I rx ry h
  cases x <;> cases y <;> first
    | exact (show False from h).elim
    | exact op_mul pins s σ H _ _ v u Q I rx ry ⟨_, _, rfl, rfl, h.1, h.2⟩
    | exact op_rep pins s σ H _ _ v u Q I rx ry h
    | skip
  rename_i a n
  obtain ⟨t, rfl⟩ := rx
  obtain ⟨t', rfl⟩ := ry
  obtain ⟨h1, h2, h3, q⟩ := h
  have hs : sizeLine = 16777216 := sizeLine_eq
  refine SB.mul (x := a) (n := n) ⟨?_, fun hn hc => ?_, fun hn hc => ?_⟩ fun t' k => ?_
  · rw [decide_eq_false (by omega), decide_eq_false (by omega)]; rfl
  · have h4 : (a.length : Int) * n ≤ 16777216 := by
      have : ((a.length * n.toNat : Nat) : Int) ≤ 16777216 := by omega
      rw [Int.natCast_mul] at this
      have e : ((n.toNat : Nat) : Int) = n := by omega
      rw [e] at this
      exact this
    have h5 : (a.length : Int) ≤ a.length * n := by
      have e : (a.length : Int) * 1 ≤ a.length * n := Int.mul_le_mul_of_nonneg_left (by omega) (by omega)
      omega
    have h6 : (4294967296 : Int) ≤ (2 ^ 63 - 1) / n := by
      rw [Int.le_ediv_iff_mul_le (by omega)]
      omega
    omega
  · unfold Builtin.Str.tooLong
    simp
    omega
  · rw [txt_mul]
    exact ⟨.str _, H, I.tok k, ⟨t', rfl⟩, q⟩

/-! ### == and != of scalars and of data -/
def rEqU (K : PySem.W.Frag) : R2 := fun x y H Q => match x, y with
  | .ref a, .ref b => rEqD K (.ref a) (.ref b) H Q
  | x, y => rEq x y H Q
theorem o_eq {K : PySem.W.Frag} {k : Nat} (hr : Rm k X) (hK : X.K = K := by rfl) : OpR X (compareOp .Eq) (rEqU K) := by
  subst hK
  intro pins s σ H x y v u Q I rx ry h
  cases x <;> cases y <;> first
    | exact op_eqD hr.room.units pins s σ H _ _ v u Q I rx ry h
    | exact op_eq pins s σ H _ _ v u Q I rx ry h
def rNeU (K : PySem.W.Frag) : R2 := fun x y H Q => match x, y with
  | .ref a, .ref b => rNeD K (.ref a) (.ref b) H Q
  | x, y => rNe x y H Q
theorem o_ne {K : PySem.W.Frag} {k : Nat} (hr : Rm k X) (hK : X.K = K := by rfl) : OpR X (compareOp .NotEq) (rNeU K) := by
  subst hK
  intro pins s σ H x y v u Q I rx ry h
  cases x <;> cases y <;> first
    | exact op_neD hr.room.units pins s σ H _ _ v u Q I rx ry h
    | exact op_ne pins s σ H _ _ v u Q I rx ry h

/-! ### in, not in: a text in a text, a thing in a list or a tuple -/
def hasS (z y : Str) : Bool := !(Builtin.Str.occurrences y z 0 y.length 1).isEmpty
def rInU (K : PySem.W.Frag) : R2 := fun x y H Q => match x, y with
  | .str z, .str y => Q (.bl (hasS z y)) H
  | x, .ref p => rIn K false x (.ref p) H Q
  | _, _ => False
theorem o_in {K : PySem.W.Frag} (hK : X.K = K := by rfl) : OpR X (compareOp .In) (rInU K) := by
  subst hK
  intro pins s σ H x y v u Q I rx ry h
  cases x <;> cases y <;> first
    | exact (show False from h).elim
    | exact op_in_str pins s σ H _ _ v u Q I rx ry ⟨_, _, rfl, rfl, h⟩
    | exact op_in_seq pins s σ H _ _ v u Q I rx ry h
def rNinU (K : PySem.W.Frag) : R2 := fun x y H Q => match x, y with
  | .str z, .str y => Q (.bl (!hasS z y)) H
  | x, .ref p => rIn K true x (.ref p) H Q
  | _, _ => False
theorem o_nin {K : PySem.W.Frag} (hK : X.K = K := by rfl) : OpR X (compareOp .NotIn) (rNinU K) := by
  subst hK
  intro pins s σ H x y v u Q I rx ry h
  cases x <;> cases y <;> first
    | exact (show False from h).elim
    | exact op_notin_str pins s σ H _ _ v u Q I rx ry ⟨_, _, rfl, rfl, h⟩
    | exact op_notIn_seq pins s σ H _ _ v u Q I rx ry h

/-! ### len -/
def rLen (K : PySem.W.Frag) : List V → Hp → VK → Prop := fun xs H Q => match xs with
  | [.str y] => y.length ≤ sizeLine ∧ Q (.int y.length) H
  | [.ref p] => (∃ xs, (SqL K H p xs ∨ SqT K H p xs) ∧ Q (.int xs.length) H) ∨ ∃ kvs, H p = some (.dK kvs) ∧ Q (.int kvs.length) H
  | _ => False
theorem c_len {K : PySem.W.Frag} (hK : X.K = K := by rfl) : CallR X (.builtin "len") (rLen K) := by
  subst hK
  intro pins s σ H xs us Q I r h
  cases xs with
  | nil => exact (show False from h).elim
  | cons x xs =>
    cases xs with
    | cons y ys => cases x <;> exact (show False from h).elim
    | nil =>
      cases x with
      | str y => exact call_len pins s σ H _ us Q I r ⟨_, y.length, rfl, ⟨h.1, rfl⟩, h.2⟩
      | ref p =>
        rcases (show _ ∨ _ from h) with ⟨xs, hx | hx, q⟩ | ⟨kvs, hk, q⟩
        · exact call_len pins s σ H _ us Q I r ⟨_, xs.length, rfl, .inl ⟨xs, hx, rfl⟩, q⟩
        · exact call_len pins s σ H _ us Q I r ⟨_, xs.length, rfl, .inr ⟨xs, hx, rfl⟩, q⟩
        · exact call_lenD pins s σ H _ us Q I r ⟨p, kvs, rfl, hk, q⟩
      | _ => exact (show False from h).elim

/-! ### isinstance of one built-in class -/
/-- the name of a value's built-in type -/
def tyN (x : V) (H : Hp) : Option String := match x with
  | .non => some "NoneType"
  | .bl _ => some "bool"
  | .int _ => some "int"
  | .str _ => some "str"
  | .ref a => match H a with
    | some (.lst _) => some "list"
    | some (.tup _) => some "tuple"
    | some (.dK _) => some "dict"
    | some (.frz _ (.lst _)) => some "list"
    | some (.frz _ (.dK _)) => some "dict"
    | _ => none
  | _ => none
def isB (t T : String) : Bool := t == T || (t == "bool" && T == "int")
theorem kitB_tab : ∀ t ∈ ["NoneType", "bool", "int", "str", "list", "tuple", "dict"], ∀ T ∈ ["bool", "int", "str", "list", "tuple", "dict", "float"], kitB t T = some (isB t T) := by decide +kernel
theorem tyN_tyX {K : PySem.W.Frag} {H : Hp} {x : V} {t : String} (h : tyN x H = some t) : TyX K H x (.type t) ∧ t ∈ ["NoneType", "bool", "int", "str", "list", "tuple", "dict"] := by
  cases x with
  | non => cases h; exact ⟨.base .non, by simp⟩
  | bl b => cases h; exact ⟨.base (.bl b), by simp⟩
  | int i => cases h; exact ⟨.base (.int i), by simp⟩
  | str y => cases h; exact ⟨.base (.str y), by simp⟩
  | ref a =>
    unfold tyN at h
    simp only at h
    split at h <;> first | (cases h; done) | skip
    · rename_i e; cases h; exact ⟨.base (.lst e), by simp⟩
    · rename_i e; cases h; exact ⟨.base (.tup e), by simp⟩
    · rename_i e; cases h; exact ⟨.base (.dK e), by simp⟩
    · rename_i e; cases h; exact ⟨.base (.frz e), by simp⟩
    · rename_i e; cases h; exact ⟨.fDict e, by simp⟩
  | _ => cases h
def rIs (T : String) : List V → Hp → VK → Prop := fun xs H Q => match xs with
  | [x, .ty T'] => T' = T ∧ ∃ t, tyN x H = some t ∧ Q (.bl (isB t T)) H
  | _ => False
theorem c_is (T : String) (hT : T ∈ ["bool", "int", "str", "list", "tuple", "dict", "float"] := by decide) : CallR X (.builtin "isinstance") (rIs T) := by
  intro pins s σ H xs us Q I r h
  unfold rIs at h
  split at h
  · obtain ⟨rfl, t, ht, q⟩ := h
    obtain ⟨ty, m⟩ := tyN_tyX (K := X.K) ht
    exact call_isi pins s σ H _ us Q I r ⟨_, _, _, _, _, rfl, .ty _, ty, kit_ty (kitB_tab _ m _ hT), q⟩
  · exact h.elim
end
end RS


namespace RS
open PySem PySem.Spec L2

/-- another surrounding of the same frames -/
structure Rb (k : Nat) (X : Cx) (B : Around) : Prop where
  room : Room k B
  gd : B.guards = some []
  fr : B.frames = X.A.frames
theorem Rm.here {k : Nat} {X : Cx} (r : Rm k X) : Rb k X X.A := ⟨r.room, r.gd, rfl⟩
theorem Rb.in1 {k : Nat} {X : Cx} {B : Around} (r : Rb (k + 1) X B) : Rb k X B.in1 := ⟨r.room.in1, r.gd, r.fr⟩
theorem Rb.mono {j k : Nat} {X : Cx} {B : Around} (r : Rb k X B) (h : j ≤ k) : Rb j X B := ⟨r.room.mono h, r.gd, r.fr⟩
theorem Rb.make {k : Nat} {X : Cx} {B : Around} (r : Rb (k + 1) X B) (C : Addr) (us : List Value) (kw : List (Str × Value)) : Rb k X (B.under (.builtin "type.__call__" ⟨.ref C :: us, kw⟩)) := by
  refine ⟨r.room.make C us kw, ?_, ?_⟩
  · have g : (Code.builtin "type.__call__" ⟨.ref C :: us, kw⟩).isGuard = false := by show guardIds.contains "type.__call__" = false; decide +kernel
    simp [Around.under, Code.guards, g, pushGuards, r.gd]
  · have e : (B.under (.builtin "type.__call__" ⟨.ref C :: us, kw⟩)).frames = B.frames := by
      first | rfl | simp [Around.under, Code.envs, Code.isFrame, pushEnvs]
    rw [e]; exact r.fr

section
variable {g : Wd} {X : Cx} {k : Nat} {f C : Addr} {fd : FuncData} {ps : List Str} {sp : Sp} {W : WX}
/-- the callee runs in another surrounding of the same frames -/
theorem runB {B : Around} (a : At g X) (F : FnG g k f fd ps sp) (hr : Rb k X B) (tk : Takes X W) {pins : List (Addr × Obj)} {σ : L2.St} {H : Hp} {s : Shared} {Q : VK} {args : Args} {us : List Value} {vs : List V}
    (I : Inv X pins σ H s) (hb : BindsTo s fd args (ps.zip us)) (r : Vals vs us) (h : sp vs H Q (fun c d H' => W c d σ H')) :
    codeAny (model X.prog X.w) B (.call (.ref f) args) (fun res s' => match res with | .ok fl => (match fl with | .ret u => EP X pins σ Q u s' | _ => False) | .error e => X.xe e s') s := by
  obtain ⟨P, w, K, mg, base⟩ := g
  obtain ⟨rfl, rfl, rfl, rfl, rfl⟩ := a
  have e := I.env0
  have e' : Env0 X.prog X.w X.K X.mg X.base B X.stack s H := ⟨hr.fr.trans e.frames, e.mod, e.bs, e.bsz, e.funs, e.frf, e.hok, e.bare⟩
  refine codeAny_mono (F.run B X.stack s H args us vs Q _ hr.room hr.gd e' hb r h) fun res s' hq => ?_
  cases res with
  | error e => exact tk e s' (XE.of_call (E := fun c d H' => W c d σ H') I (fun _ _ _ z => z) hq)
  | ok fl =>
    cases fl with
    | ret u => exact I.after hq
    | _ => exact hq.elim

/-- a method of the class at C -/
def Km (g : Wd) (C : Addr) (m : Str) (k : Nat) (ps : List Str) (ds : List V) (sp : Sp) : Prop :=
  ∃ f fd dsV, PySem.W.findIn g.K (.ref C) m = some (some (.ref f)) ∧ PySem.W.isFn g.K (.ref f) = true ∧ PySem.W.keepIn g.K (.ref f) = true ∧ FnG g k f fd ps sp ∧ Binds g.K fd ps dsV ∧ Vals ds dsV

/-- f(self, ..) by values, in any surrounding -/
theorem callB {B : Around} {ds : List V} {dsV : List Value} (a : At g X) (F : FnG g k f fd ps sp) (hr : Rb k X B) (tk : Takes X W) (hb : Binds g.K fd ps dsV) (rd : Vals ds dsV) {pins : List (Addr × Obj)} {σ : L2.St} {H : Hp} {s : Shared} {Q : VK} {us : List Value} {vs : List V}
    (I : Inv X pins σ H s) (r : Vals vs us) (h : sp (vs ++ ds) H Q (fun c d H' => W c d σ H')) : wpAny (model X.prog X.w) B (call (.ref f) us) (EP X pins σ Q) X.xe s := by
  have r2 := Vals.append r rd
  have hl : (us ++ dsV).length = ps.length := by rw [← r2.length]; exact F.len _ _ _ _ h
  have KI : g.K.In s.heap := by rw [← a.K]; exact I.kIn
  refine wpAny_call (codeAny_mono (runB a F hr tk I (hb s us KI hl) r2 h) fun res s' hq => ?_)
  cases res with
  | error e => exact hq
  | ok fl => cases fl with
    | ret u => exact hq
    | _ => exact hq.elim

/-! ### o.m(..) -/
variable {m : Str} {ds : List V} {o e : Expr} {es : List Expr} {ta : TE} {t : TA} {p pos apos : Pos}
def tMethG (C : Addr) (m : Str) (sp : Sp) (ds : List V) (W : WX) (ta : TE) (t : TA) : TE := fun σ H Q => ta σ H fun x H1 => ∃ a dx fs, x = .ref a ∧ H1 a = some (.ins C dx fs) ∧ fs.lookup m = none ∧
  t σ H1 fun vs H2 => sp (x :: (vs ++ ds)) H2 Q (fun c d H' => W c d σ H')
theorem pe_methG {pl : Sem Bool} (he : PE X o ta) (c : Cls g.K C) (F : Km g C m k ps ds sp) (hr : Rm k X) (tk : Takes X W) (ha : PA X (e :: es) t)
    (hst : starEach (e :: es) X.env = (false, eval e X.env) :: starEach es X.env := by rfl) (hpl : (backTo pos (starEach es X.env)).any (·.1) = false := by rfl)
    (ht : eval (.Call (.Attribute o m apos) (e :: es) [] pos) X.env = (do
      let ov ← eval o X.env
      standAt apos.atName
      let (f, first) ← holding [ov] (getMethod ov m pl)
      callWith pos f first (backTo pos (starEach (e :: es) X.env)) (backToKw pos (keywordEach [] X.env))) := by rfl) (a : At g X := by exact ⟨rfl, rfl, rfl, rfl, rfl⟩) :
    PE X (.Call (.Attribute o m apos) (e :: es) [] pos) (tMethG C m sp ds W ta t) := by
  obtain ⟨f, fd, dsV, hf, hi, hk, F, hb, rd⟩ := F
  refine ⟨fun pins s σ H Q I h => PySem.W.methodCall_KW (pl := pl) (thn (he.run pins s σ H _ I h) ?_) ht⟩
  rintro u s1 ⟨x, H1, I1, rx, q, dx, fs, rfl, ea, l, h1⟩
  obtain rfl : u = Value.ref q := rx
  refine getmeth_ok I1 ea (by rw [a.K]; exact c) (g := f) (by rw [a.K]; exact ⟨hf, hi, hk⟩) l ?_
  refine PySem.W.callWith_K (first := [.ref q]) (h₀ := X.base) I.ok.mod.kin (by rw [a.K]; exact hk) (thn (ha.run pos pins s1 σ H1 _ I1 h1) ?_) hst hpl
  rintro us s2 ⟨vs, H2, I2, r, q2⟩
  exact ⟨I2.kIn, callG (vs := .ref q :: vs) (us := .ref q :: us) a F hr tk hb rd I2 (.cons rfl r) q2⟩
theorem pe_methG0 {pl : Sem Bool} (he : PE X o ta) (c : Cls g.K C) (F : Km g C m k ps ds sp) (hr : Rm k X) (tk : Takes X W)
    (ht : eval (.Call (.Attribute o m apos) [] [] pos) X.env = (do
      let ov ← eval o X.env
      standAt apos.atName
      let (f, first) ← holding [ov] (getMethod ov m pl)
      callWith pos f first (backTo pos (starEach [] X.env)) (backToKw pos (keywordEach [] X.env))) := by rfl) (a : At g X := by exact ⟨rfl, rfl, rfl, rfl, rfl⟩) :
    PE X (.Call (.Attribute o m apos) [] [] pos) (tMethG C m sp ds W ta tNil) := by
  obtain ⟨f, fd, dsV, hf, hi, hk, F, hb, rd⟩ := F
  refine ⟨fun pins s σ H Q I h => PySem.W.methodCall_KW (pl := pl) (thn (he.run pins s σ H _ I h) ?_) ht⟩
  rintro u s1 ⟨x, H1, I1, rx, q, dx, fs, rfl, ea, l, h1⟩
  obtain rfl : u = Value.ref q := rx
  refine getmeth_ok I1 ea (by rw [a.K]; exact c) (g := f) (by rw [a.K]; exact ⟨hf, hi, hk⟩) l ?_
  exact PySem.W.callWith_K0 (first := [.ref q]) I1.kIn (by rw [a.K]; exact hk) (callG (vs := [.ref q]) (us := [.ref q]) a F hr tk hb rd I1 (.cons rfl .nil) h1)

/-! ### C(..) -/
/-- the class at C, made by its own __init__ -/
def Kc (g : Wd) (x : Str) (C : Addr) (k : Nat) (ps : List Str) (ds : List V) (sp : Sp) : Prop :=
  g.mg x = some (.ref C) ∧ ∃ f fd dsV, Mk g.K C f ∧ FnG g k f fd ps sp ∧ Binds g.K fd ps dsV ∧ Vals ds dsV
theorem makeG {dsV : List Value} (a : At g X) (M : Mk g.K C f) (F : FnG g k f fd ps sp) (hr : Rm (k + 1) X) (tk : Takes X W) (rd : Vals ds dsV) {pins : List (Addr × Obj)} {σ : L2.St} {H : Hp} {s : Shared} {Q : VK} {us : List Value} {kw : List (Str × Value)} {all : List Value} {vs : List V}
    (I : Inv X pins σ H s) (r : Vals vs all)
    (hb : ∀ s' : Shared, g.K.In s'.heap → BindsTo s' fd ⟨.ref (s.heap.objs.size + 1) :: us, kw⟩ (ps.zip (.ref (s.heap.objs.size + 1) :: all)))
    (h : ∀ y dy, H y = none → H dy = none → dy ≠ y → sp (.ref y :: vs) (upd (upd H dy (.own y)) y (.ins C dy [])) (fun v H2 => v = .non ∧ Q (.ref y) H2) (fun c d H' => W c d σ H')) :
    wpAny (model X.prog X.w) X.A (call (.ref C) us kw) (EP X pins σ Q) X.xe s := by
  have hq := h (s.heap.objs.size + 1) s.heap.objs.size (I.hok.fresh (Nat.le_succ _)) (I.hok.fresh (Nat.le_refl _)) (Nat.ne_of_lt (Nat.lt_succ_self _))
  have J := Inv.made (C := C) I
  have KI := J.kIn
  rw [a.K] at KI
  have rr : Vals (V.ref (s.heap.objs.size + 1) :: vs) (Value.ref (s.heap.objs.size + 1) :: all) := .cons rfl r
  refine wpAny_call (make_map (K := X.K) (f := f) I.kIn (by rw [a.K]; exact M.makes) (by rw [a.K]; exact M.init) (by rw [a.K]; exact beq_iff_eq.mp M.fn) (codeAny_mono (runB a F (hr.here.make C us kw) tk J (hb _ KI) rr hq) fun res s' hz => ?_))
  cases res with
  | error e => exact hz
  | ok fl => cases fl with
    | ret u =>
      obtain ⟨v, H', I3, rv, rfl, q3⟩ := hz
      exact ⟨rv, ⟨.ref (s.heap.objs.size + 1), H', I3, rfl, q3⟩⟩
    | _ => exact hz.elim
def tMakeG (C : Addr) (sp : Sp) (ds : List V) (W : WX) (t : TA) : TE := fun σ H Q => t σ H fun vs H1 => ∀ y dy, H1 y = none → H1 dy = none → dy ≠ y →
  sp (.ref y :: (vs ++ ds)) (upd (upd H1 dy (.own y)) y (.ins C dy [])) (fun v H2 => v = .non ∧ Q (.ref y) H2) (fun c d H' => W c d σ H')
variable {x : Str}
theorem pe_makeG (F : Kc g x C k ps ds sp) (hr : Rm (k + 1) X) (tk : Takes X W) (ha : PA X (e :: es) t) (hg : Gl X x := by rfl) (hdb : (x == ("__debug__" : Str)) = false := by decide)
    (he : starEach (e :: es) X.env = (false, eval e X.env) :: starEach es X.env := by rfl) (hpl : (backTo pos (starEach es X.env)).any (·.1) = false := by rfl) (a : At g X := by exact ⟨rfl, rfl, rfl, rfl, rfl⟩) :
    PE X (.Call (.Name x p) (e :: es) [] pos) (tMakeG C sp ds W t) := by
  obtain ⟨hm, f, fd, dsV, M, F, hb, rd⟩ := F
  refine ⟨fun pins s σ H Q I h => wpAny_Call_Name_kw (ld_glob I hg (by rw [a.mg]; exact hm) ?_ hdb)⟩
  refine PySem.W.callWith_K (h₀ := X.base) I.ok.mod.kin (by rw [a.K]; exact M.kp) (thn (ha.run pos pins s σ H _ I h) ?_) he hpl
  rintro us s1 ⟨vs, H1, I1, r, q⟩
  have r2 := Vals.append r rd
  refine ⟨I1.kIn, makeG a M F hr tk rd I1 r2 (fun s' KI => ?_) q⟩
  have hl := F.len _ _ _ _ (q (s1.heap.objs.size + 1) s1.heap.objs.size (I1.hok.fresh (Nat.le_succ _)) (I1.hok.fresh (Nat.le_refl _)) (Nat.ne_of_lt (Nat.lt_succ_self _)))
  exact hb s' (.ref (s1.heap.objs.size + 1) :: us) KI (by
    rw [← hl]
    show (us ++ dsV).length + 1 = (vs ++ ds).length + 1
    rw [← r2.length])
theorem pe_makeG0 (F : Kc g x C k ps ds sp) (hr : Rm (k + 1) X) (tk : Takes X W) (hg : Gl X x := by rfl) (hdb : (x == ("__debug__" : Str)) = false := by decide) (a : At g X := by exact ⟨rfl, rfl, rfl, rfl, rfl⟩) :
    PE X (.Call (.Name x p) [] [] pos) (tMakeG C sp ds W tNil) := by
  obtain ⟨hm, f, fd, dsV, M, F, hb, rd⟩ := F
  refine ⟨fun pins s σ H Q I h => wpAny_Call_Name_kw (ld_glob I hg (by rw [a.mg]; exact hm) ?_ hdb)⟩
  refine PySem.W.callWith_K0 I.kIn (by rw [a.K]; exact M.kp) (makeG a M F hr tk rd I (vs := [] ++ ds) rd (fun s' KI => ?_) h)
  have hl := F.len _ _ _ _ (h (s.heap.objs.size + 1) s.heap.objs.size (I.hok.fresh (Nat.le_succ _)) (I.hok.fresh (Nat.le_refl _)) (Nat.ne_of_lt (Nat.lt_succ_self _)))
  exact hb s' [.ref (s.heap.objs.size + 1)] KI (by
    rw [← hl]
    show dsV.length + 1 = ds.length + 1
    rw [← rd.length])
end
end RS


namespace RS
open PySem PySem.Spec L2
section
variable {g : Wd} {X : Cx} {k : Nat} {f C : Addr} {fd : FuncData} {ps ks : List Str} {sp : Sp} {W : WX} {ds : List V} {x : Str} {p pos : Pos} {kws : List Keyword} {tk' : TA} {pm : List Nat}

/-! ### calls by keywords alone: pm tells which keyword's value each parameter gets -/
def Kk (g : Wd) (x : Str) (k : Nat) (ps ks : List Str) (pm : List Nat) (sp : Sp) : Prop :=
  ∃ f fd, g.mg x = some (.ref f) ∧ PySem.W.keepIn g.K (.ref f) = true ∧ FnG g k f fd ps sp ∧
    ∀ (s : Shared) (ws : List Value), ws.length = ks.length → BindsTo s fd ⟨[], ks.zip ws⟩ (ps.zip (pm.map fun i => ws.getD i .none))
theorem vals_getD {zs : List V} {ws : List Value} (r : Vals zs ws) (i : Nat) : RelV (zs.getD i .non) (ws.getD i .none) := by
  cases e : zs[i]? with
  | none =>
    have e2 := Vals.none_of r e
    rw [List.getD_eq_getElem?_getD, List.getD_eq_getElem?_getD, e, e2]
    exact rfl
  | some v =>
    obtain ⟨u, e2, rv⟩ := r.get e
    rw [List.getD_eq_getElem?_getD, List.getD_eq_getElem?_getD, e, e2]
    exact rv
theorem vals_pm {zs : List V} {ws : List Value} (r : Vals zs ws) : ∀ pm : List Nat, Vals (pm.map fun i => zs.getD i .non) (pm.map fun i => ws.getD i .none)
  | [] => .nil
  | i :: pm => .cons (vals_getD r i) (vals_pm r pm)
def tCallK (n : Nat) (sp : Sp) (pm : List Nat) (W : WX) (t : TA) : TE := fun σ H Q => t σ H fun zs H1 => zs.length = n ∧ sp (pm.map fun i => zs.getD i .non) H1 Q (fun c d H' => W c d σ H')
theorem pe_callK (F : Kk g x k ps ks pm sp) (hr : Rm k X) (tk : Takes X W) (hkw : PK X kws tk') (hg : Gl X x := by rfl)
    (hall : (backToKw pos (keywordEach kws X.env)).all (·.1.isSome) = true := by rfl) (hks : (backToKw pos (keywordEach kws X.env)).filterMap (·.1) = ks := by rfl) (hdb : (x == ("__debug__" : Str)) = false := by decide)
    (hpl : ((backTo pos (starEach [] X.env)).any (·.1) || (backToKw pos (keywordEach kws X.env)).any (·.1.isNone)) = false := by rfl) (a : At g X := by exact ⟨rfl, rfl, rfl, rfl, rfl⟩) :
    PE X (.Call (.Name x p) [] kws pos) (tCallK ks.length sp pm W tk') := by
  obtain ⟨f, fd, hm, hk, F, hb⟩ := F
  refine ⟨fun pins s σ H Q I h => wpAny_Call_Name_kw (ld_glob I hg (by rw [a.mg]; exact hm) ?_ hdb)⟩
  refine PySem.W.callWith_KW0 (h₀ := X.base) I.ok.mod.kin (by rw [a.K]; exact hk) hall (thn (hkw.run pos pins s σ H _ I h) ?_) hpl
  rintro ws s2 ⟨zs, H2, I2, rz, lz, q⟩
  refine ⟨I2.kIn, ?_⟩
  rw [hks]
  refine wpAny_call (codeAny_mono (runG a F hr tk I2 (hb s2 ws (by rw [← rz.length]; exact lz)) (vals_pm rz pm) q) fun res s' hq => ?_)
  cases res with
  | error e => exact hq
  | ok fl => cases fl with
    | ret u => exact hq
    | _ => exact hq.elim
/-- C(k = v, ..) -/
def Kck (g : Wd) (x : Str) (C : Addr) (k : Nat) (ps ks : List Str) (pm : List Nat) (sp : Sp) : Prop :=
  g.mg x = some (.ref C) ∧ ∃ f fd, Mk g.K C f ∧ FnG g k f fd ps sp ∧
    ∀ (s : Shared) (y : Value) (ws : List Value), ws.length = ks.length → BindsTo s fd ⟨[y], ks.zip ws⟩ (ps.zip (y :: pm.map fun i => ws.getD i .none))
def tMakeK (n : Nat) (C : Addr) (sp : Sp) (pm : List Nat) (W : WX) (t : TA) : TE := fun σ H Q => t σ H fun zs H1 => zs.length = n ∧ ∀ y dy, H1 y = none → H1 dy = none → dy ≠ y →
  sp (.ref y :: pm.map fun i => zs.getD i .non) (upd (upd H1 dy (.own y)) y (.ins C dy [])) (fun v H2 => v = .non ∧ Q (.ref y) H2) (fun c d H' => W c d σ H')
theorem pe_makeK (F : Kck g x C k ps ks pm sp) (hr : Rm (k + 1) X) (tk : Takes X W) (hkw : PK X kws tk') (hg : Gl X x := by rfl)
    (hall : (backToKw pos (keywordEach kws X.env)).all (·.1.isSome) = true := by rfl) (hks : (backToKw pos (keywordEach kws X.env)).filterMap (·.1) = ks := by rfl) (hdb : (x == ("__debug__" : Str)) = false := by decide)
    (hpl : ((backTo pos (starEach [] X.env)).any (·.1) || (backToKw pos (keywordEach kws X.env)).any (·.1.isNone)) = false := by rfl) (a : At g X := by exact ⟨rfl, rfl, rfl, rfl, rfl⟩) :
    PE X (.Call (.Name x p) [] kws pos) (tMakeK ks.length C sp pm W tk') := by
  obtain ⟨hm, f, fd, M, F, hb⟩ := F
  refine ⟨fun pins s σ H Q I h => wpAny_Call_Name_kw (ld_glob I hg (by rw [a.mg]; exact hm) ?_ hdb)⟩
  refine PySem.W.callWith_KW0 (h₀ := X.base) I.ok.mod.kin (by rw [a.K]; exact M.kp) hall (thn (hkw.run pos pins s σ H _ I h) ?_) hpl
  rintro ws s2 ⟨zs, H2, I2, rz, lz, q⟩
  refine ⟨I2.kIn, ?_⟩
  rw [hks]
  exact makeG a M F hr tk .nil I2 (vals_pm rz pm) (fun s' _ => hb s' _ ws (by rw [← rz.length]; exact lz)) q

/-! ### o.f as a target among others -/
def gFld (K : PySem.W.Frag) (ta : TE) (f : Str) : TG := fun v σ H Q => ta σ H fun x H1 => ∃ a C dx fs, x = .ref a ∧ H1 a = some (.ins C dx fs) ∧ Cls K C ∧ NoAttr K C f ∧ fs.length < 1000 ∧ Q σ (upd H1 a (.ins C dx (putF f v fs)))
theorem pg_fld {o : Expr} {fl : Str} {ta : TE} (ho : PE X o ta) : PG X (.Attribute o fl pos) (gFld X.K ta fl) := by
  refine ⟨fun pins s σ H v u Q I r h => ?_⟩
  rw [assign_Attribute]
  refine wpAny_bind (wpAny_holding (thn (ho.run pins s σ H _ I h) ?_))
  rintro ov s1 ⟨y, H1, I1, ry, a, C, dx, fs, rfl, ea, c, n, l, q⟩
  obtain rfl : ov = Value.ref a := ry
  refine wpAny_bind (wpAny_standAt (wpAny_bind (wpAny_holding ?_)))
  exact setattr_ok I1 ea c n l r fun s2 I2 => wpAny_release ⟨σ, _, I2, q⟩

/-! ### ==, !=, bool of an instance, by its own defs -/
theorem noRef_mro : ∀ T ∈ ["NoneType", "bool", "int", "str", "list", "tuple", "dict"], ((fastBuiltinMro T).any fun l => l.all fun v => match v with | .type _ => true | _ => false) = true := by decide +kernel
theorem notFirst_ty {K : PySem.W.Frag} {C : Addr} {T : String} (h : T ∈ ["NoneType", "bool", "int", "str", "list", "tuple", "dict"]) : PySem.W.notFirst K C (.type T) = true := by
  have e := noRef_mro T h
  unfold PySem.W.notFirst PySem.W.subIn
  cases q : fastBuiltinMro T with
  | none => rw [q] at e; cases e
  | some l =>
    rw [q] at e
    simp only [q]
    have e2 : l.contains (.ref C) = false := by
      rw [List.contains_eq_any_beq, List.any_eq_false]
      intro v hv
      have z := List.all_eq_true.mp (show (l.all fun v => match v with | .type _ => true | _ => false) = true from e) v hv
      cases v <;> first | (intro z2; cases z2; done) | (cases z; done) | skip
      all_goals simp
    show (_ || ((some l).map _ == some false)) = true
    rw [Option.map_some, e2]
    simp
/-- what may stand on the other side: a plain thing, or an instance of the same class -/
def Oth (C : Addr) (H : Hp) (y : V) : Prop := (∃ t, tyN y H = some t) ∨ ∃ b dx fs, y = .ref b ∧ H b = some (.ins C dx fs)
theorem oth_looks {pins : List (Addr × Obj)} {σ : L2.St} {H : Hp} {s : Shared} {y : V} {u : Value} (I : Inv X pins σ H s) (o : Oth C H y) (r : RelV y u) :
    ∃ tb, PySem.W.Looks (model X.prog X.w) s.heap (typeOf u) tb ∧ PySem.W.notFirst X.K C tb = true := by
  rcases o with ⟨t, ht⟩ | ⟨b, dx, fs, rfl, hb⟩
  · obtain ⟨ty, m⟩ := tyN_tyX (K := X.K) ht
    obtain ⟨P, Z, hp, _⟩ := kit_of I r ty
    exact ⟨.type t, Z.ty _ _ I.kIn hp, notFirst_ty m⟩
  · cases r
    obtain ⟨mA, J, _⟩ := ins_get I.hok hb
    obtain ⟨od, J, _⟩ := J.look
    exact ⟨.ref C, J.type, by simp [PySem.W.notFirst]⟩
def rEqOwn (C : Addr) (sp : Sp) (ds : List V) (W : WX) (neg : Bool) : L2.St → R2 := fun σ x y H Q => ∃ a dx fs, x = .ref a ∧ H a = some (.ins C dx fs) ∧ Oth C H y ∧
  sp ([x, y] ++ ds) H (fun v H' => ∃ b, v = .bl b ∧ Q (.bl (if neg then !b else b)) H') (fun c d H' => W c d σ H')
theorem run_eq (F : Km g C "__eq__" k ps ds sp) {B : Around} (hr : Rb k X B) (tk : Takes X W) (a : At g X) {pins : List (Addr × Obj)} {σ : L2.St} {H : Hp} {s : Shared} {y : V} {u : Value} {Q : Bool → Hp → Prop} {q dx : Addr} {fs : List (Str × V)}
    (I : Inv X pins σ H s) (ea : H q = some (.ins C dx fs)) (o : Oth C H y) (r : RelV y u) (h : sp ([.ref q, y] ++ ds) H (fun v H' => ∃ b, v = .bl b ∧ Q b H') (fun c d H' => W c d σ H')) :
    wpAny (model X.prog X.w) B (richCompare .Eq (.ref q) u) (fun v s' => ∃ b H', v = .bool b ∧ Inv X pins σ H' s' ∧ Q b H') X.xe s := by
  obtain ⟨f, fd, dsV, hf, hi, hk, F, hb, rd⟩ := F
  obtain ⟨tb, L, nf⟩ := oth_looks I o r
  obtain ⟨mA, J, _⟩ := ins_get I.hok ea
  obtain ⟨od, J, _⟩ := J.look
  obtain ⟨m, hF⟩ := I.fr
  refine PySem.W.cmp_K (op := .Eq) hr.room.units0 hF I.ok.mod.kin J L nf (by rw [a.K]; exact hf) (by rw [a.K]; exact hi) (wpAny_mono (callB a F hr tk hb rd (vs := [.ref q, y]) (us := [.ref q, u]) I (.cons rfl (.cons r .nil)) h) ?_ fun _ _ z => z)
  rintro v s' ⟨z, H', I', rz, b, rfl, hq⟩
  cases rz
  exact ⟨b, H', rfl, I', hq⟩
end
section
variable {g : Wd} {X : Cx} {k : Nat} {C : Addr} {ps : List Str} {sp : Sp} {W : WX} {ds : List V} {p pos : Pos} {a b : Expr} {ta tb : TE}
def tEqOwn (C : Addr) (sp : Sp) (ds : List V) (W : WX) (neg : Bool) (ta tb : TE) : TE := fun σ H Q => ta σ H fun x H1 => tb σ H1 fun y H2 => rEqOwn C sp ds W neg σ x y H2 Q
theorem c_eqOwn (F : Km g C "__eq__" k ps ds sp) (hr : Rm k X) (tk : Takes X W) (ha : PE X a ta) (hb : PE X b tb) (at_ : At g X := by exact ⟨rfl, rfl, rfl, rfl, rfl⟩) : PC X .Eq a b (tEqOwn C sp ds W false ta tb) := by
    refine ⟨fun pins s σ H Q I h => ?_⟩
    refine bin (R := fun x y H2 => rEqOwn C sp ds W false σ x y H2 Q) ha hb I h fun v u s2 x y H2 I2 rx ry q => ?_
    obtain ⟨q, dx, fs, rfl, ea, o, hs⟩ := q
    cases rx
    refine wpAny_mono (run_eq F hr.here tk at_ (Q := fun b H' => Q (.bl b) H') I2 ea o ry hs) ?_ fun _ _ z => z
    rintro v s' ⟨b, H', rfl, I', hq⟩
    exact ⟨.bl b, H', I', rfl, hq⟩
theorem e_eqOwn (F : Km g C "__eq__" k ps ds sp) (hr : Rm k X) (tk : Takes X W) (ha : PE X a ta) (hb : PE X b tb) (at_ : At g X := by exact ⟨rfl, rfl, rfl, rfl, rfl⟩) : PE X (.Compare a [.Eq] [b] pos) (tEqOwn C sp ds W false ta tb) := pe_cmp (c_eqOwn F hr tk ha hb at_) (nomark b)
theorem t_eqOwn (F : Km g C "__eq__" k ps ds sp) (hr : Rm k X) (tk : Takes X W) (ha : PE X a ta) (hb : PE X b tb) (at_ : At g X := by exact ⟨rfl, rfl, rfl, rfl, rfl⟩) : PT X (.Compare a [.Eq] [b] pos) (tB (tEqOwn C sp ds W false ta tb)) := pt_cmp (c_eqOwn F hr tk ha hb at_) (nomark b)
end
section
variable {g : Wd} {X : Cx} {k : Nat} {C : Addr} {ps : List Str} {sp : Sp} {W : WX} {ds : List V}

/-- what the written part says of != and bool of the class -/
structure Plain (g : Wd) (C : Addr) : Prop where
  ne : PySem.W.findIn g.K (.ref C) "__ne__" = some (some (.builtin "object.__ne__"))
  ob : PySem.W.mroIn g.K C (.type "object") = some true
end
end RS


namespace RS
open PySem PySem.Spec L2
section
variable {M : Model} {A : Around} {E : Value → Shared → Prop} {s : Shared} {K : PySem.W.Frag} {x C : Addr} {ox : Obj} {od : Option Obj} {name : Str} {id : String}
/-- a special method that is a built-in, where it is bound -/
theorem ifBound_B {args : List Value} {Q : Option Value → Shared → Prop} (KI : K.In s.heap) (I : PySem.W.InstAt s.heap x ox C od) (hs : PySem.W.findIn K (.ref C) name = some (some (.builtin id)))
    (hb : ∀ self, bindSpecial (.builtin id) self = pure (.builtin id, [self])) (h : wpAny M A (call (.builtin id) (.ref x :: args)) (fun v => Q (some v)) E s) : wpAny M A (callSpecialIfBound? (.ref x) name args) Q E s := by
  simp only [callSpecialIfBound?, bindSpecialIfBound?]
  refine wpAny_holding (wpAny_bind (wpAny_bind (wpAny_bind (I.type.here ((PySem.W.looks_findIn KI hs).here ?_)))))
  refine wpAny_bind (wpAny_askSetting (wpAny_ite ?_))
  have fin : wpAny M A (call (.builtin id) ([.ref x] ++ args) >>= fun v => pure (some v)) Q E s := wpAny_bind (wpAny_mono h (fun v s' h' => wpAny_pure h') fun _ _ h' => h')
  split
  · exact wpAny_bind ((PySem.W.Looks.of_pure (hb _)).here (wpAny_pure (by exact fin)))
  · exact wpAny_tryCatch (wpAny_bind ((PySem.W.Looks.of_pure (hb _)).here (wpAny_pure (by exact fin))))
end
section
variable {g : Wd} {X : Cx} {k : Nat} {C : Addr} {ps : List Str} {sp : Sp} {W : WX} {ds : List V} {p pos : Pos} {a b : Expr} {ta tb : TE}
theorem bind_ne : ∀ self, bindSpecial (.builtin "object.__ne__") self = pure (.builtin "object.__ne__", [self]) := fun self => (F.cmp_object.ne).bind self
theorem run_ne (F : Km g C "__eq__" k ps ds sp) (Pl : Plain g C) {B : Around} (hr : Rb (k + 1) X B) (tk : Takes X W) (at_ : At g X) {pins : List (Addr × Obj)} {σ : L2.St} {H : Hp} {s : Shared} {y : V} {u : Value} {Q : Bool → Hp → Prop} {q dx : Addr} {fs : List (Str × V)}
    (I : Inv X pins σ H s) (ea : H q = some (.ins C dx fs)) (o : Oth C H y) (r : RelV y u) (h : sp ([.ref q, y] ++ ds) H (fun v H' => ∃ b, v = .bl b ∧ Q (!b) H') (fun c d H' => W c d σ H')) :
    wpAny (model X.prog X.w) B (richCompare .NotEq (.ref q) u) (fun v s' => ∃ b H', v = .bool b ∧ Inv X pins σ H' s' ∧ Q b H') X.xe s := by
  obtain ⟨f, fd, dsV, hf, hi, hk, F, hb, rd⟩ := F
  obtain ⟨tb, L, nf⟩ := oth_looks I o r
  obtain ⟨mA, J, _⟩ := ins_get I.hok ea
  obtain ⟨od, J, _⟩ := J.look
  have KI : X.K.In s.heap := I.kIn
  have inner : wpAny (model X.prog X.w) B (tryCompare (.ref q) (cmpInfo .NotEq).2.1 u) (fun r s' => ∃ b H', r = some (.bool b) ∧ Inv X pins σ H' s' ∧ Q b H') X.xe s := by
    unfold tryCompare
    refine wpAny_bind (ifBound_B (id := "object.__ne__") KI J (by rw [at_.K]; exact Pl.ne) bind_ne ?_)
    refine wpAny_call (codeAny_call_builtin (PySem.F.cmp_object.ne).plain PySem.F.cmpEntry_ne (PySem.W.check_slot (i := "object.__ne__") (owner := "object") (n := "__ne__") PySem.F.cmpKind_ne PySem.F.cmpSplit_ne (J.type.andThen (PySem.W.looks_mroIn KI (by rw [at_.K]; exact Pl.ob))) (PySem.F.cmpArgs_ne _ _) ?_))
    unfold Builtin.«object.__ne__»
    refine wpAny_bind (wpAny_of_eq (a := (.ref q, [u])) (by first | rfl | kernel_rfl) ?_)
    refine wpAny_bind (wpAny_cRoomFor (hr.in1.room.units0) ?_)
    refine wpAny_bind (PySem.W.ifBound_K KI J (by rw [at_.K]; exact hf) (by rw [at_.K]; exact hi) (wpAny_mono (callB at_ F hr.in1 tk hb rd (vs := [.ref q, y]) (us := [.ref q, u]) I (.cons rfl (.cons r .nil)) h) ?_ fun _ _ z => z))
    rintro v s' ⟨z, H', I', rz, b, rfl, hq⟩
    cases rz
    refine wpAny_bind (wpAny_truthy_bool ?_)
    refine wpAny_pure ?_
    refine wpAny_pure ?_
    exact ⟨!b, H', rfl, I', hq⟩
  unfold richCompare
  simp only [oneThing_ref]
  refine wpAny_holding (wpAny_bind (wpAny_cRoomFor hr.room.units0 ?_))
  refine wpAny_bind (J.type.here (wpAny_bind (L.here ?_)))
  have rest : wpAny (model X.prog X.w) B (tryCompare (.ref q) (cmpInfo .NotEq).2.1 u) (fun r s' => ∃ v, r = some v ∧ ∃ b H', v = .bool b ∧ Inv X pins σ H' s' ∧ Q b H') X.xe s :=
    wpAny_mono inner (fun r s' ⟨b, H', e, z⟩ => ⟨_, e, b, H', rfl, z⟩) fun _ _ z => z
  split
  · rename_i ne
    have e : PySem.W.subIn X.K tb (.ref C) = some false := by
      rcases Bool.or_eq_true_iff.mp nf with e | e
      · rw [beq_iff_eq.mp e] at ne; simp at ne
      · exact beq_iff_eq.mp e
    refine wpAny_bind ((PySem.W.looks_subIn KI e).here ?_)
    simp only [Bool.false_eq_true, if_false]
    refine wpAny_bind (wpAny_mono rest ?_ fun _ _ z => z)
    rintro r s' ⟨v, rfl, z⟩
    exact wpAny_pure z
  · refine wpAny_bind (wpAny_pure ?_)
    simp only [Bool.false_eq_true, if_false]
    refine wpAny_bind (wpAny_mono rest ?_ fun _ _ z => z)
    rintro r s' ⟨v, rfl, z⟩
    exact wpAny_pure z
theorem c_neOwn (F : Km g C "__eq__" k ps ds sp) (Pl : Plain g C) (hr : Rm (k + 1) X) (tk : Takes X W) (ha : PE X a ta) (hb : PE X b tb) (at_ : At g X := by exact ⟨rfl, rfl, rfl, rfl, rfl⟩) : PC X .NotEq a b (tEqOwn C sp ds W true ta tb) := by
    refine ⟨fun pins s σ H Q I h => ?_⟩
    refine bin (R := fun x y H2 => rEqOwn C sp ds W true σ x y H2 Q) ha hb I h fun v u s2 x y H2 I2 rx ry q => ?_
    obtain ⟨q, dx, fs, rfl, ea, o, hs⟩ := q
    cases rx
    refine wpAny_mono (run_ne F Pl hr.here tk at_ (Q := fun b H' => Q (.bl b) H') I2 ea o ry hs) ?_ fun _ _ z => z
    rintro v s' ⟨b, H', rfl, I', hq⟩
    exact ⟨.bl b, H', I', rfl, hq⟩

theorem e_neOwn (F : Km g C "__eq__" k ps ds sp) (Pl : Plain g C) (hr : Rm (k + 1) X) (tk : Takes X W) (ha : PE X a ta) (hb : PE X b tb) (at_ : At g X := by exact ⟨rfl, rfl, rfl, rfl, rfl⟩) : PE X (.Compare a [.NotEq] [b] pos) (tEqOwn C sp ds W true ta tb) := pe_cmp (c_neOwn F Pl hr tk ha hb at_) (nomark b)
theorem t_neOwn (F : Km g C "__eq__" k ps ds sp) (Pl : Plain g C) (hr : Rm (k + 1) X) (tk : Takes X W) (ha : PE X a ta) (hb : PE X b tb) (at_ : At g X := by exact ⟨rfl, rfl, rfl, rfl, rfl⟩) : PT X (.Compare a [.NotEq] [b] pos) (tB (tEqOwn C sp ds W true ta tb)) := pt_cmp (c_neOwn F Pl hr tk ha hb at_) (nomark b)

/-! ### bool(o) by the own __bool__ -/
def rBoolOwn (C : Addr) (sp : Sp) (ds : List V) (W : WX) : L2.St → List V → Hp → VK → Prop := fun σ xs H Q => ∃ q dx fs, xs = [.ref q] ∧ H q = some (.ins C dx fs) ∧
  sp ([.ref q] ++ ds) H (fun v H' => ∃ b, v = .bl b ∧ Q (.bl b) H') (fun c d H' => W c d σ H')
def tBoolOwn (C : Addr) (sp : Sp) (ds : List V) (W : WX) (ta : TA) : TE := fun σ H Q => ta σ H fun xs H1 => rBoolOwn C sp ds W σ xs H1 Q
theorem e_boolOwn {e : Expr} {t : TA} (F : Km g C "__bool__" k ps ds sp) (hr : Rm (k + 2) X) (tk : Takes X W) (hm : X.mg "bool" = none) (ha : PA X [e] t) (hg : Gl X "bool" := by rfl)
    (he : starEach (e :: []) X.env = (false, eval e X.env) :: starEach [] X.env := by rfl) (hpl : (backTo pos (starEach [] X.env)).any (·.1) = false := by rfl) (at_ : At g X := by exact ⟨rfl, rfl, rfl, rfl, rfl⟩) :
    PE X (.Call (.Name "bool" p) [e] [] pos) (tBoolOwn C sp ds W t) := by
  obtain ⟨f, fd, dsV, hf, hi, hk, F, hb, rd⟩ := F
  refine ⟨fun pins s σ H Q I h => wpAny_Call_Name_kw (ld_blt (u := .type "bool") I hg hm (by decide +kernel) ?_ (by decide) (by decide))⟩
  refine PyProof.Rows.callWith_type1 (thn (ha.run pos pins s σ H _ I h) ?_) he hpl
  rintro us s1 ⟨vs, H1, I1, r1, q, dx, fs, rfl, ea, hs⟩
  obtain ⟨u, rfl, ru⟩ := vals1 r1
  cases ru
  obtain ⟨mA, J, _⟩ := ins_get I1.hok ea
  obtain ⟨od, J, _⟩ := J.look
  obtain ⟨m, hF⟩ := I1.fr
  have tr : wpAny (model X.prog X.w) X.A.in1.in1 (truthy (.ref q)) (fun b s' => ∃ H', Inv X pins σ H' s' ∧ Q (.bl b) H') X.xe s1 := by
    refine PySem.W.truthy_K hF I1.ok.mod.kin J (by rw [at_.K]; exact hf) (by rw [at_.K]; exact hi) (wpAny_mono (callB at_ F hr.here.in1.in1 tk hb rd (vs := [.ref q]) (us := [.ref q]) I1 (.cons rfl .nil) hs) ?_ fun _ _ z => z)
    rintro v s' ⟨z, H', I', rz, b, rfl, hq⟩
    cases rz
    exact ⟨H', I', hq⟩
  refine callType_newIn PySem.F.called_bool PySem.F.newNe_bool (PySem.F.typeCall_bool_1 _) (PySem.F.newCall_bool_1 _) (fun obj => PySem.F.args_object_init_2 obj _) PySem.F.entry_bool_new
    (S := fun A R s' => wpAny (model X.prog X.w) A.in1 (truthy (.ref q)) (fun b s2 => R (.ok (.ret (.bool b))) s2) (fun e s2 => R (.error e) s2) s') (MeetsIn.of_wp fun A R s' hs' => ?_) ?_
  · obtain ⟨hp, g', d', tk', os'⟩ := s'
    have f1 := PySem.F.conv_sub_bool
    repeat (any_goals (first | (with_reducible refine wpAny_bind (wpAny_mono hs' ?_ fun _ _ z => z)) | wp_step))
    all_goals (intro b s2 h2)
    all_goals exact wpAny_pure ⟨_, rfl, h2⟩
  · refine wpAny_mono tr ?_ fun _ _ z => z
    rintro b s' ⟨H', I', hq⟩
    exact ⟨typeIs_bool _ _, .bl b, H', I', rfl, hq⟩
end
end RS


namespace RS
open PySem PySem.Spec PyProof.Rows L2

/-- the law's call, from its promise, where no repr is under way -/
theorem lawG {P : Program} {w : World} {K : PySem.W.Frag} {mg mb : Str → Option Value} {k : Nat} {fa a : Addr} {fd : FuncData} {x : Str} {sp : Sp} {s₁ : Shared} {vs : List Value} {ns : List Int}
    (KX : K.In s₁.heap) (gl : s₁.heap.Ns mainGlobals mg) (bl : s₁.heap.Ns builtinsNs mb) (bb : ∀ x : Str, x ≠ "__name__" → mb x = bootBuiltins x) (lim : s₁.heap.NoLimit) (ge : s₁.gens = #[])
    (ha : s₁.heap.get? a = some { cls := .type "list", data := .seq vs.toArray }) (hi : IntsAre vs ns) (hl : ns.length ≤ sizeLine) (hr : Room k callerA)
    (F : ∀ base : Heap, K.In base → base.Ns mainGlobals mg → FnG ⟨P, w, K, mg, base⟩ k fa fd [x] sp) (bd : ∀ (s : Shared) (u : Value), BindsTo s fd ⟨[u], []⟩ [(x, u)])
    (hsp : ∀ H : Hp, Only H → SqL K H a (ns.map V.int) → sp [.ref a] H (fun v _ => v = .bl true) fun _ _ _ => False) :
    codeAny (model P w) callerA (.call (.ref fa) ⟨[.ref a], []⟩) (fun r s' => r = .ok (.ret (.bool true)) ∧ OldK s₁.heap s'.heap ∧ s'.os = s₁.os ∧ AllBare s'.gens) s₁ := by
  have rv := vals_ints hi
  -- H tracks the script, or nothing
  have go : ∀ H : Hp, Only H → SqL K H a (ns.map V.int) → HOk P w H s₁.heap → (∀ b o, s₁.heap.get? b = some o → (∃ u, H b = some u) → b = a ∧ K.lookup a = none) →
      codeAny (model P w) callerA (.call (.ref fa) ⟨[.ref a], []⟩) (fun r s' => r = .ok (.ret (.bool true)) ∧ OldK s₁.heap s'.heap ∧ s'.os = s₁.os ∧ AllBare s'.gens) s₁ := by
    intro H hO hS hok hA
    have free : ∀ {b : Addr} {o : Obj}, s₁.heap.get? b = some o → (∀ v n, o.data ≠ .seq v n) → H b = none := by
      intro b o e nd
      cases q : H b with
      | none => rfl
      | some u =>
        obtain ⟨rfl, _⟩ := hA b o e ⟨u, q⟩
        rw [ha] at e
        cases e
        exact absurd rfl (nd _ _)
    have ns1 : ∀ {b : Addr} {m : Str → Option Value}, s₁.heap.Ns b m → (hidT s₁.heap H).Ns b m := by
      rintro b m ⟨o, es, ep, e, d, r⟩
      exact ⟨o, es, ep, hidT_get e (free e fun v n z => by rw [d] at z; cases z), d, r⟩
    have K1 : K.In (hidT s₁.heap H) := by
      intro b o e
      refine hidT_get (KX b o e) ?_
      cases q : H b with
      | none => rfl
      | some u =>
        obtain ⟨rfl, z⟩ := hA b o (KX b o e) ⟨u, q⟩
        rw [z] at e
        cases e
    have md : Mod K mg (hidT s₁.heap H) := by
      obtain ⟨mc, l1, l2⟩ := lim
      exact ⟨K1, ns1 gl, ⟨mb, ns1 bl, bb⟩, mc, ns1 l1, l2⟩
    have e0 : Env0 P w K mg (hidT s₁.heap H) callerA [] s₁ H :=
      { frames := rfl, mod := md, bs := fun b o e => of_hidT e, bsz := Nat.le_of_eq (hidT_size _ _), funs := trivial, frf := fun b hb => (nomatch hb), hok := hok, bare := .of_eq ge }
    refine codeAny_mono ((F _ K1 (ns1 gl)).run callerA [] s₁ H ⟨[.ref a], []⟩ [.ref a] [.ref a] _ _ hr rfl e0 (bd s₁ (.ref a)) (.cons rfl .nil) (hsp H hO hS)) ?_
    rintro r s' h
    cases r with
    | error e =>
      obtain ⟨_, _, _, _, _, _, _, _, _, _, _, _, z⟩ := h
      exact z.elim
    | ok fl => cases fl with
      | ret u =>
        obtain ⟨v, H', os, bare, un, hok', r', q⟩ := h
        obtain rfl : v = .bl true := q
        obtain rfl : u = Value.bool true := r'
        refine ⟨rfl, OldK.of_keep fun b o e => ?_, os, bare⟩
        rcases hO b with z | ⟨ob, xs, z⟩
        · exact un.keep b o e z (fun y => (nomatch y)) (fun y => (nomatch y))
        · have z2 := un.frzs b ob _ z
          have e1 := (hok b _ z).1
          rw [e] at e1
          cases e1
          exact (hok' b _ z2).1
      | _ => exact h.elim
  cases hk : K.lookup a with
  | some o =>
    have e := KX a o hk
    rw [ha] at e
    cases e
    refine go (fun _ => none) (fun _ => .inl rfl) (.inr ⟨_, vs.toArray, _, hk, rfl, rfl, rfl, by rw [List.size_toArray, hi.length]; exact hl, by simpa using rv⟩) (fun b u z => nomatch z) fun b o _ z => ?_
    obtain ⟨u, z⟩ := z
    cases z
  | none =>
    refine go (upd (fun _ => none) a (.frz { cls := .type "list", data := .seq vs.toArray } (.lst (ns.map V.int)))) (fun b => ?_) (.inl (.inr ⟨_, upd_same⟩)) (fun b u z => ?_) fun b o e z => ?_
    · by_cases hb : b = a
      · subst hb; exact .inr ⟨_, _, upd_same⟩
      · exact .inl (upd_ne hb)
    · by_cases hb : b = a
      · subst hb
        rw [upd_same] at z
        cases z
        exact ⟨ha, by rw [List.length_map]; exact hl, vs, _, rv, ha⟩
      · rw [upd_ne hb] at z
        cases z
    · obtain ⟨u, z⟩ := z
      by_cases hb : b = a
      · exact ⟨hb, hk⟩
      · rw [upd_ne hb] at z
        cases z

/-- the goal that k_head leaves, from the law's promise -/
theorem walkG {l : PySem.W.OpenLaw} {n k : Nat} {q : Program} {loose : List Str} {XP : (Str → Option Value) → Heap → Prop} {YP : World → Heap → Prop} {d : DefRec} {K : Params → PySem.W.Frag} {sp : World → Sp} {x : Str}
    (hn : l.most = some n) (hn2 : n ≤ sizeLine) (hdf : d.params.defaults = []) (hr : Room k callerA)
    (hY : ∀ (w : World) (h : Heap), YP w h → (K w.params).In h)
    (F : ∀ (w : World) (mg : Str → Option Value) (fa : Addr) (h : Heap), (K w.params).In h → h.Ns mainGlobals mg → mg d.name = some (.ref fa) →
      ∃ fd : FuncData, (∀ (s : Shared) (u : Value), BindsTo s fd ⟨[u], []⟩ [(x, u)]) ∧
        ∀ base : Heap, (K w.params).In base → base.Ns mainGlobals mg → FnG ⟨l.prog, w, K w.params, mg, base⟩ k fa fd [x] (sp w))
    (hsp : ∀ (w : World) (H : Hp) (a : Addr) (ns : List Int), ns.length ≤ n → (∀ z ∈ ns, Builtin.Int.intBits z ≤ 1048576) → Only H → SqL (K w.params) H a (ns.map V.int) → sp w [.ref a] H (fun v _ => v = .bl true) fun _ _ _ => False) :
    PySem.W.WalkO q loose XP YP l.row.toRowW d [] (fun f vs => PySem.call f vs) := by
  refine Att.attach_callB hn hdf fun w s₀ s₁ mg mb fa o pm cd doc a vs ns G Y ho hd hcd hmg hobj hints hlen hbits hg => ?_
  obtain ⟨fd, hb, hF⟩ := F w mg fa _ (hY w _ Y) G.T.g hmg
  exact lawG (hY w _ Y) G.T.g G.T.b G.T.builtins G.T.nolimit hg hobj hints (Nat.le_trans hlen hn2) hr hF hb fun H hO hS => hsp w H a ns hlen hbits hO hS
end RS


namespace RS
open PySem PySem.Spec L2
/-- in a def's body: what is raised goes on to the caller -/
theorem tkD {g : Wd} {N : List Str} {qual : Str} {st : Stmt} {f : Addr} {cdv : Value} {A : Around} {outer : List Env} {s : Shared} {H : Hp} {E : XK} : Takes (cx g N qual st f cdv A outer s H E) (fun c d _ H' => E c d H') := takes_of rfl rfl rfl rfl
theorem psD {g : Wd} {N : List Str} {qual : Str} {st : Stmt} {f : Addr} {cdv : Value} {A : Around} {outer : List Env} {s : Shared} {H : Hp} {E : XK} :
    PassesOwn (model (cx g N qual st f cdv A outer s H E).prog (cx g N qual st f cdv A outer s H E).w) (cx g N qual st f cdv A outer s H E).A (cx g N qual st f cdv A outer s H E).env (cx g N qual st f cdv A outer s H E).xe := passes_of rfl
theorem bb_len : bootBuiltins "len" = some (.builtin "len") := by decide +kernel
theorem bb_isinstance : bootBuiltins "isinstance" = some (.builtin "isinstance") := by decide +kernel
theorem bb_sum : bootBuiltins "sum" = some (.builtin "sum") := by decide +kernel
theorem bb_ord : bootBuiltins "ord" = some (.builtin "ord") := by decide +kernel
theorem bb_abs : bootBuiltins "abs" = some (.builtin "abs") := by decide +kernel
theorem bb_repr : bootBuiltins "repr" = some (.builtin "repr") := by decide +kernel
theorem bb_all : bootBuiltins "all" = some (.builtin "all") := by decide +kernel
theorem bb_any : bootBuiltins "any" = some (.builtin "any") := by decide +kernel
theorem bb_sorted : bootBuiltins "sorted" = some (.builtin "sorted") := by decide +kernel
theorem bb_str : bootBuiltins "str" = some (.type "str") := by decide +kernel
theorem bb_int : bootBuiltins "int" = some (.type "int") := by decide +kernel
theorem bb_list : bootBuiltins "list" = some (.type "list") := by decide +kernel
theorem bb_tuple : bootBuiltins "tuple" = some (.type "tuple") := by decide +kernel
theorem bb_bool : bootBuiltins "bool" = some (.type "bool") := by decide +kernel
section
variable {X : Cx}
/-! ### an item, a slice of whatever -/
def rIxU (K : PySem.W.Frag) : R2 := fun x y H Q => match x, y with
  | .str z, .int i => z.length ≤ sizeLine ∧ ∃ c, atI z.cps.toList i = some c ∧ Q (.str ⟨#[c]⟩) H
  | .ref p, .int i => ∃ xs, (SqL K H p xs ∨ SqT K H p xs) ∧ ∃ v, atI xs i = some v ∧ Q v H
  | _, _ => False
theorem o_ix {K : PySem.W.Frag} (hK : X.K = K := by rfl) : IxR X (rIxU K) := by
  subst hK
  intro ve se pins s σ H x y v u Q I rx ry h hsub
  cases x <;> cases y <;> first
    | exact (show False from h).elim
    | (obtain ⟨h1, c, h2, q⟩ := h; exact ix_str ve se pins s σ H _ _ v u Q I rx ry ⟨_, _, c, rfl, rfl, h1, h2, q⟩ hsub)
    | skip
  obtain ⟨xs, hx | hx, w, h2, q⟩ := h
  · exact ix_list ve se pins s σ H _ _ v u Q I rx ry ⟨_, xs, _, w, rfl, rfl, hx, h2, q⟩ hsub
  · exact ix_tup ve se pins s σ H _ _ v u Q I rx ry ⟨_, xs, _, w, rfl, rfl, hx, h2, q⟩ hsub
def rSlU (K : PySem.W.Frag) : V → Option Int → Option Int → Hp → VK → Prop := fun x lo hi H Q => match x with
  | .str z => z.length ≤ sizeLine ∧ Q (.str (cutS z lo hi)) H
  | .ref p => rSlL K (.ref p) lo hi H Q ∨ rSlA K (.ref p) lo hi H Q
  | _ => False
theorem o_sl {K : PySem.W.Frag} (hK : X.K = K := by rfl) : SlR X (rSlU K) := by
  subst hK
  intro pins s σ H x v vl vu lo hi sl Q I rx hs pl pu h
  cases x <;> first
    | exact (show False from h).elim
    | exact sl_str pins s σ H _ v vl vu lo hi sl Q I rx hs pl pu ⟨_, rfl, h.1, h.2⟩
    | exact (show _ ∨ _ from h).elim (sl_list pins s σ H _ v vl vu lo hi sl Q I rx hs pl pu) (sl_tupA pins s σ H _ v vl vu lo hi sl Q I rx hs pl pu)

/-! ### rules that name the written part, with that part told -/
variable {K : PySem.W.Frag} {p pos tpos : Pos} {e o : Expr} {es : List Expr} {ta te : TE} {t : TA}
theorem c_sum (hK : X.K = K := by rfl) (hc : X.calm = true := by rfl) : CallR X (.builtin "sum") (rSum K) := by subst hK; exact cr_sum hc
theorem c_all (hK : X.K = K := by rfl) (hc : X.calm = true := by rfl) : CallR X (.builtin "all") (rAll K) := by subst hK; exact cr_all hc
theorem c_any (hK : X.K = K := by rfl) (hc : X.calm = true := by rfl) : CallR X (.builtin "any") (rAny K) := by subst hK; exact cr_any hc
theorem c_list (hK : X.K = K := by rfl) : CallR X (.type "list") (fun xs H Q => ∃ p ys, xs = [.ref p] ∧ (SqL K H p ys ∨ SqT K H p ys) ∧ ∀ l, H l = none → Q (.ref l) (upd H l (.lst ys))) := by subst hK; exact call_list_of
theorem c_isi (hK : X.K = K := by rfl) : CallR X (.builtin "isinstance") (rIsi K) := by subst hK; exact call_isi
theorem e_fld {f : Str} (he : PE X e ta) (hb : attributeBase e f X.env (eval e X.env) = eval e X.env := by rfl) (hK : X.K = K := by rfl) : PE X (.Attribute e f pos) (tFld K ta f) := by subst hK; exact pe_fld he hb
theorem t_truth (ha : PE X e ta) (he : ∀ whole, isTrue e X.env whole = (do let v ← whole; standAt e.pos; holding [v] (truthy v)) := by intro _; rfl) (hK : X.K = K := by rfl) :
    PT X e (fun σ H Q => ta σ H fun x H' => ∃ k, TruV K x H' k ∧ Q k H') := by subst hK; exact pt_truth ha he
theorem g_tup {k : Nat} {t : TGs} {n : Nat} (h : PGs X es t) (hc : X.calm = true := by rfl) (hn : (assignEach es X.env).length = n := by rfl) (hst : (assignEach es X.env).findIdx? (·.1) = none := by rfl) (hK : X.K = K := by rfl) :
    PG X (.Tuple es k pos) (gTup K n t) := by subst hK; exact pg_tup hc h hn hst
theorem g_fld {fl : Str} (ho : PE X o ta) (hK : X.K = K := by rfl) : PG X (.Attribute o fl pos) (gFld K ta fl) := by subst hK; exact pg_fld ho
theorem e_bm {T id : String} {name : Str} {apos cpos : Pos} {to : TE} {r : V → List V → Hp → VK → Prop} (pa : PlainAttrs T) (slot : Slot T name id) (hty : typeOf (.builtin id) = pure (.type "method_descriptor")) (hm : MtR X id r) (ho : PE X o to) (ha : PA X (e :: es) t)
    (hbase : attributeBase o name X.env (eval o X.env) = eval o X.env := by rfl)
    (hfew : ((backTo cpos (starEach (e :: es) X.env)).all (fun x => !x.1) && (backToKw cpos (keywordEach [] X.env)).all (fun x => x.1.isSome)
      && decide ((e :: es).length + ([] : List Keyword).length + (if ([] : List Keyword).isEmpty then 0 else 1) < 30)) = true := by rfl)
    (hline : (apos.endLine == cpos.line) = true := by rfl) (hs : starEach (e :: es) X.env = (false, eval e X.env) :: starEach es X.env := by rfl) (hplain : (backTo cpos (starEach es X.env)).any (·.1) = false := by rfl) (hK : X.K = K := by rfl) :
    PE X (.Call (.Attribute o name apos) (e :: es) [] cpos) (tBM K T r to t) := by subst hK; exact pe_bm pa slot hty hm ho ha hbase hfew hline hs hplain
theorem i_list {tg : Expr} (hl : PE X e te) (hK : X.K = K := by rfl) : PI X tg e (iList K te) := by subst hK; exact pi_list hl
theorem i_tup {tg : Expr} (hl : PE X e te) (hK : X.K = K := by rfl) : PI X tg e (iTup K te) := by subst hK; exact pi_tup hl
theorem i_enum {kk : Nat} (hm : X.mg "enumerate" = none) (ha : PA X [e] t) (hg : Gl X "enumerate" := by rfl) (hs : starEach [e] X.env = [(false, eval e X.env)] := by rfl) (hK : X.K = K := by rfl) :
    PI X (.Tuple es kk tpos) (.Call (.Name "enumerate" p) [e] [] pos) (iEnum K t) := by subst hK; exact pi_enum hg hm ha hs
theorem s_fld {f : Str} {value : Expr} {tv : TE} {pos' : Pos} (ha : PE X o ta) (hv : PE X value tv) (hs : swapsWith value (some (.Attribute o f pos')) pos.line X.env = pure false := by rfl) (hK : X.K = K := by rfl) :
    PS X (.Assign [.Attribute o f pos'] value pos) (sFld K ta tv f) := by subst hK; exact ps_fld ha hv hs
end
end RS


namespace RS
open PySem PySem.Spec L2

theorem same_new {H H1 : Hp} {p : Addr} {o : HO} (h : Same H H1) (n : H1 p = none) : Same H (upd H1 p o) := fun b u e => by
  rw [upd_ne (ne_of_none (h b u e) n)]; exact h b u e
theorem same_upd {H : Hp} {p : Addr} {o : HO} (n : H p = none) : Same H (L2.upd H p o) := same_new (Same.refl H) n

/-! ### the inside of a loop and of a comprehension, behind what is walked -/
def ForB (J : It) (g : TG) (tb : TS) (D : Ends) (σ : L2.St) (H : Hp) : Prop := ∃ W : Nat → Nat → L2.St → Hp → Prop, (∃ m, W 0 m σ H) ∧ ∀ i m σ H, W i m σ H →
  (J.stop i H ∧ D.nx σ H) ∨ (J.go i H ∧ ∃ N : L2.St → Hp → Prop, (∀ σ' H', N σ' H' → ∃ m', m' < m ∧ W (i + 1) m' σ' H') ∧ ∀ x H', J.yld i H x H' → g x σ H' fun σ2 H2 => tb { D with nx := N, ct := N, bk := D.nx } σ2 H2)
theorem tFor_eq (wi : TI) (g : TG) (tb : TS) (D : Ends) (σ : L2.St) (H : Hp) : tFor wi g tb D σ H = wi σ H fun J H1 => ForB J g tb D σ H1 := rfl
def LcB (J : It) (g : TG) (tt : TT) (te : TE) (vs : List Nat) (σ : L2.St) (H1 : Hp) (Q : VK) : Prop := ∀ D, H1 D = none → ∃ W : Nat → Nat → Hp → Prop, (∃ m, W 0 m (upd H1 D (.lst []))) ∧ ∀ i m H, W i m H →
  (J.stop i H ∧ Q (.ref D) H) ∨ (J.go i H ∧ ∃ Nx : Hp → Prop, (∀ H', Nx H' → ∃ m', m' < m ∧ W (i + 1) m' H') ∧ ∀ x H', J.yld i H x H' → g x (wipe σ vs) H' fun σ2 H2 => wipe σ2 vs = wipe σ vs ∧ tt σ2 H2 fun b H3 =>
    if b = true then te σ2 H3 fun y H4 => ∃ acc, H4 D = some (.lst acc) ∧ acc.length < sizeLine ∧ Nx (upd H4 D (.lst (acc ++ [y]))) else Nx H3)
theorem tLc_eq (wi : TI) (g : TG) (tt : TT) (te : TE) (vs : List Nat) (σ : L2.St) (H : Hp) (Q : VK) : tLc wi g tt te vs σ H Q = wi σ H fun J H1 => LcB J g tt te vs σ H1 Q := rfl

/-! ### for over n items that are told by their index -/
theorem for_by {J : It} {g : TG} {tb : TS} {D : Ends} {σ : L2.St} {H : Hp} (n : Nat) (Pv : Nat → L2.St → Hp → Prop) (h0 : Pv 0 σ H) (hgo : ∀ i σ H, i < n → Pv i σ H → J.go i H) (hst : ∀ σ H, Pv n σ H → J.stop n H)
    (hs : ∀ i σ H x H', i < n → Pv i σ H → J.yld i H x H' → g x σ H' fun σ2 H2 => tb { D with nx := Pv (i + 1), ct := Pv (i + 1), bk := D.nx } σ2 H2) (hd : ∀ σ H, Pv n σ H → D.nx σ H) :
    ForB J g tb D σ H := by
  refine ⟨fun i m σ H => m = n - i ∧ i ≤ n ∧ Pv i σ H, ⟨n, by omega, Nat.zero_le _, h0⟩, ?_⟩
  rintro i m σ H ⟨rfl, hi, p⟩
  by_cases lt : i < n
  · exact .inr ⟨hgo i σ H lt p, Pv (i + 1), fun σ' H' p' => ⟨n - (i + 1), by omega, rfl, lt, p'⟩, fun x H' y => hs i σ H x H' lt p y⟩
  · have e : i = n := by omega
    subst e
    exact .inl ⟨hst σ H p, hd σ H p⟩

/-! ### a list comprehension over n items: the list of what is kept -/
theorem lc_kept {J : It} {g : TG} {tt : TT} {te : TE} {vs : List Nat} {σ : L2.St} {H1 : Hp} {Qf : VK} (n : Nat) (kept : Nat → Option V) (hn : n ≤ sizeLine)
    (hgo : ∀ i H, i < n → Same H1 H → J.go i H) (hst : ∀ H, Same H1 H → J.stop n H)
    (hs : ∀ i H x H' (K : VK) (K0 : Hp → Prop), i < n → Same H1 H → J.yld i H x H' → (∀ v H4, kept i = some v → Same H H4 → K v H4) → (kept i = none → ∀ H4, Same H H4 → K0 H4) →
      g x (wipe σ vs) H' fun σ2 H2 => wipe σ2 vs = wipe σ vs ∧ tt σ2 H2 fun b H3 => if b = true then te σ2 H3 K else K0 H3)
    (hd : ∀ D H, H1 D = none → Same H1 H → H D = some (.lst ((List.range n).filterMap kept)) → Qf (.ref D) H) :
    LcB J g tt te vs σ H1 Qf := by
  intro D hD
  have len : ∀ i, ((List.range i).filterMap kept).length ≤ i := fun i => Nat.le_trans (List.length_filterMap_le _ _) (by rw [List.length_range]; exact Nat.le_refl _)
  have succ : ∀ i, (List.range (i + 1)).filterMap kept = (List.range i).filterMap kept ++ (match kept i with | some v => [v] | none => []) := fun i => by
    rw [List.range_succ, List.filterMap_append]
    cases e : kept i <;> simp [List.filterMap_cons, e]
  let Pv : Nat → Hp → Prop := fun i H => Same H1 H ∧ H D = some (.lst ((List.range i).filterMap kept))
  have store : ∀ i H4 v, Same H1 H4 → H4 D = some (.lst ((List.range i).filterMap kept)) → kept i = some v → Pv (i + 1) (upd H4 D (.lst ((List.range i).filterMap kept ++ [v]))) := fun i H4 v s e k =>
    ⟨fun b o q => by rw [upd_ne (ne_of_none q hD)]; exact s b o q, by rw [upd_same, succ, k]⟩
  refine ⟨fun i m H => m = n - i ∧ i ≤ n ∧ Pv i H, ⟨n, by omega, Nat.zero_le _, fun b o q => by rw [upd_ne (ne_of_none q hD)]; exact q, upd_same⟩, ?_⟩
  rintro i m H ⟨rfl, hi, s, eD⟩
  by_cases lt : i < n
  · refine .inr ⟨hgo i H lt s, Pv (i + 1), fun H' p' => ⟨n - (i + 1), by omega, rfl, lt, p'⟩, fun x H' y => ?_⟩
    refine hs i H x H' _ (Pv (i + 1)) lt s y (fun v H4 k s4 => ⟨_, s4 D _ eD, by have := len i; omega, store i H4 v (s.trans s4) (s4 D _ eD) k⟩) fun k H4 s4 => ⟨s.trans s4, ?_⟩
    rw [succ, k, s4 D _ eD, List.append_nil]
  · have e : i = n := by omega
    subst e
    exact .inl ⟨hst H s, hd D H hD s eD⟩
/-- .. where all are kept -/
theorem lc_all {J : It} {g : TG} {te : TE} {vs : List Nat} {σ : L2.St} {H1 : Hp} {Qf : VK} (n : Nat) (val : Nat → V) (hn : n ≤ sizeLine)
    (hgo : ∀ i H, i < n → Same H1 H → J.go i H) (hst : ∀ H, Same H1 H → J.stop n H)
    (hs : ∀ i H x H' (K : VK), i < n → Same H1 H → J.yld i H x H' → (∀ H4, Same H H4 → K (val i) H4) →
      g x (wipe σ vs) H' fun σ2 H2 => wipe σ2 vs = wipe σ vs ∧ te σ2 H2 K)
    (hd : ∀ D H, H1 D = none → Same H1 H → H D = some (.lst ((List.range n).map val)) → Qf (.ref D) H) :
    LcB J g tYes te vs σ H1 Qf := by
  refine lc_kept n (fun i => some (val i)) hn hgo hst (fun i H x H' K K0 lt s y k _ => ?_) (fun D H h1 h2 h3 => hd D H h1 h2 ?_)
  · have e : (fun (σ2 : L2.St) (H2 : Hp) => wipe σ2 vs = wipe σ vs ∧ tYes σ2 H2 fun b H3 => if b = true then te σ2 H3 K else K0 H3) = fun σ2 H2 => wipe σ2 vs = wipe σ vs ∧ te σ2 H2 K := by
      funext σ2 H2
      simp only [tYes, if_true]
    rw [e]
    exact hs i H x H' K lt s y fun H4 s4 => k _ H4 rfl s4
  · rw [h3]
    congr 2
    rw [show (fun i => some (val i)) = some ∘ val from rfl, ← List.filterMap_eq_map]
end RS


namespace RS
open PySem PySem.Spec L2
section
variable {K : PySem.W.Frag} {H : Hp} {Q : VK} {i j : Int} {a b z : Str} {p q : Addr} {c d : Bool} {x : V}
theorem add_ii : rAdd K (.int i) (.int j) H Q = Q (.int (i + j)) H := rfl
theorem add_ss : rAdd K (.str a) (.str b) H Q = (a.length + b.length ≤ sizeLine ∧ Q (.str (a ++ b)) H) := rfl
theorem add_rr : rAdd K (.ref p) (.ref q) H Q = (rCat (.ref p) (.ref q) H Q ∨ rCatA K (.ref p) (.ref q) H Q) := rfl
theorem mul_ii : rMul (.int i) (.int j) H Q = (CMul i j ∧ Q (.int (i * j)) H) := rfl
theorem mul_si : rMul (.str a) (.int i) H Q = (i < 2 ^ 31 ∧ -(2 ^ 31) < i ∧ a.length * i.toNat ≤ sizeLine ∧ Q (.str (repS a i.toNat)) H) := rfl
theorem mul_ri : rMul (.ref p) (.int i) H Q = rRep (.ref p) (.int i) H Q := rfl
theorem eq_of {x y : V} {k : Bool} (h : scal x y = true) (e : decide (x = y) = k) : rEq x y H Q = Q (.bl k) H := by
  unfold rEq; rw [h, e]; simp
theorem ne_of' {x y : V} {k : Bool} (h : scal x y = true) (e : decide (x = y) = k) : rNe x y H Q = Q (.bl (!k)) H := by
  unfold rNe; rw [h, e]; simp
theorem eq_ii : rEqU K (.int i) (.int j) H Q = Q (.bl (decide (i = j))) H := eq_of rfl (by simp)
theorem eq_ss : rEqU K (.str a) (.str b) H Q = Q (.bl (decide (a = b))) H := eq_of rfl (by simp)
theorem eq_bb : rEqU K (.bl c) (.bl d) H Q = Q (.bl (decide (c = d))) H := eq_of rfl (by simp)
theorem eq_nn : rEqU K .non .non H Q = Q (.bl true) H := eq_of rfl (by simp)
theorem eq_sn : rEqU K (.str a) .non H Q = Q (.bl false) H := eq_of rfl (by simp)
theorem eq_ns : rEqU K .non (.str a) H Q = Q (.bl false) H := eq_of rfl (by simp)
theorem eq_in : rEqU K (.int i) .non H Q = Q (.bl false) H := eq_of rfl (by simp)
theorem eq_ni : rEqU K .non (.int i) H Q = Q (.bl false) H := eq_of rfl (by simp)
theorem eq_bn : rEqU K (.bl c) .non H Q = Q (.bl false) H := eq_of rfl (by simp)
theorem eq_nb : rEqU K .non (.bl c) H Q = Q (.bl false) H := eq_of rfl (by simp)
theorem eq_is : rEqU K (.int i) (.str a) H Q = Q (.bl false) H := eq_of rfl (by simp)
theorem eq_si : rEqU K (.str a) (.int i) H Q = Q (.bl false) H := eq_of rfl (by simp)
theorem eq_rr : rEqU K (.ref p) (.ref q) H Q = rEqD K (.ref p) (.ref q) H Q := rfl
theorem ne_ii : rNeU K (.int i) (.int j) H Q = Q (.bl (!decide (i = j))) H := ne_of' rfl (by simp)
theorem ne_ss : rNeU K (.str a) (.str b) H Q = Q (.bl (!decide (a = b))) H := ne_of' rfl (by simp)
theorem ne_bb : rNeU K (.bl c) (.bl d) H Q = Q (.bl (!decide (c = d))) H := ne_of' rfl (by simp)
theorem ne_nn : rNeU K .non .non H Q = Q (.bl false) H := ne_of' (k := true) rfl (by simp)
theorem ne_sn : rNeU K (.str a) .non H Q = Q (.bl true) H := ne_of' (k := false) rfl (by simp)
theorem ne_ns : rNeU K .non (.str a) H Q = Q (.bl true) H := ne_of' (k := false) rfl (by simp)
theorem ne_in : rNeU K (.int i) .non H Q = Q (.bl true) H := ne_of' (k := false) rfl (by simp)
theorem ne_ni : rNeU K .non (.int i) H Q = Q (.bl true) H := ne_of' (k := false) rfl (by simp)
theorem ne_is : rNeU K (.int i) (.str a) H Q = Q (.bl true) H := ne_of' (k := false) rfl (by simp)
theorem ne_si : rNeU K (.str a) (.int i) H Q = Q (.bl true) H := ne_of' (k := false) rfl (by simp)
theorem ne_rr : rNeU K (.ref p) (.ref q) H Q = rNeD K (.ref p) (.ref q) H Q := rfl
theorem in_ss : rInU K (.str a) (.str b) H Q = Q (.bl (hasS a b)) H := rfl
theorem in_r : rInU K x (.ref p) H Q = ∃ xs, (SqL K H p xs ∨ SqT K H p xs) ∧ flatV x = true ∧ xs.all flatV = true ∧ Q (.bl (inV x xs)) H := by
  cases x <;> simp [rInU, rIn]
theorem nin_ss : rNinU K (.str a) (.str b) H Q = Q (.bl (!hasS a b)) H := rfl
theorem nin_r : rNinU K x (.ref p) H Q = ∃ xs, (SqL K H p xs ∨ SqT K H p xs) ∧ flatV x = true ∧ xs.all flatV = true ∧ Q (.bl (!inV x xs)) H := by
  cases x <;> simp [rNinU, rIn]
theorem len_s : rLen K [.str a] H Q = (a.length ≤ sizeLine ∧ Q (.int a.length) H) := rfl
theorem len_r : rLen K [.ref p] H Q = ((∃ xs, (SqL K H p xs ∨ SqT K H p xs) ∧ Q (.int xs.length) H) ∨ ∃ kvs, H p = some (.dK kvs) ∧ Q (.int kvs.length) H) := rfl
theorem ix_s : rIxU K (.str a) (.int i) H Q = (a.length ≤ sizeLine ∧ ∃ c, atI a.cps.toList i = some c ∧ Q (.str ⟨#[c]⟩) H) := rfl
theorem ix_r : rIxU K (.ref p) (.int i) H Q = ∃ xs, (SqL K H p xs ∨ SqT K H p xs) ∧ ∃ v, atI xs i = some v ∧ Q v H := rfl
theorem sl_s {lo hi : Option Int} : rSlU K (.str a) lo hi H Q = (a.length ≤ sizeLine ∧ Q (.str (cutS a lo hi)) H) := rfl
theorem sl_r {lo hi : Option Int} : rSlU K (.ref p) lo hi H Q = (rSlL K (.ref p) lo hi H Q ∨ rSlA K (.ref p) lo hi H Q) := rfl
theorem is_eq {T T' : String} : rIs T [x, .ty T'] H Q = (T' = T ∧ ∃ t, tyN x H = some t ∧ Q (.bl (isB t T)) H) := rfl
theorem tyN_n : tyN .non H = some "NoneType" := rfl
theorem tyN_b : tyN (.bl c) H = some "bool" := rfl
theorem tyN_i : tyN (.int i) H = some "int" := rfl
theorem tyN_s : tyN (.str a) H = some "str" := rfl
theorem tru_b {k : Bool} : TruV K (.bl c) H k = (k = c) := rfl
theorem tru_i {k : Bool} : TruV K (.int i) H k = (k = (i != 0)) := rfl
theorem tru_n {k : Bool} : TruV K .non H k = (k = false) := rfl
end
/-- a tuple or a list that stands in H -/
theorem isL {K : PySem.W.Frag} {H : Hp} {a : Addr} {xs : List V} (h : H a = some (.lst xs)) : SqL K H a xs := SqL.of h
theorem isT {K : PySem.W.Frag} {H : Hp} {a : Addr} {xs : List V} (h : H a = some (.tup xs)) : SqT K H a xs := SqT.of h
end RS


/-! texts as lists of their signs -/
namespace RS
open PySem PySem.Spec L2
open SX (S S_len S_cat S_tl S_inj)
theorem sIx_nat (n d : Nat) {i : Int} (h : 0 ≤ i) : HT.sIx n d (some i) = min i.toNat n := by
  unfold HT.sIx
  simp only
  split <;> omega
theorem cut_to (a : List Nat) {i : Int} (h : 0 ≤ i) : cutS (S a) none (some i) = S (a.take i.toNat) := by
  unfold cutS
  rw [sIx_nat _ _ h, S_len]
  show (⟨_⟩ : Str) = _
  congr 2
  simp [HT.sIx]
theorem cut_from (a : List Nat) {i : Int} (h : 0 ≤ i) : cutS (S a) (some i) none = S (a.drop i.toNat) := by
  unfold cutS
  rw [sIx_nat _ _ h, S_len]
  show (⟨_⟩ : Str) = _
  congr 2
  simp only [HT.sIx]
  by_cases c : i.toNat ≤ a.length
  · rw [Nat.min_eq_left c, List.take_of_length_le (by simp)]
  · rw [Nat.min_eq_right (by omega), List.drop_of_length_le (Nat.le_refl _), List.drop_of_length_le (by omega)]; simp
theorem cut_both (a : List Nat) {i j : Int} (h : 0 ≤ i) (h2 : 0 ≤ j) : cutS (S a) (some i) (some j) = S ((a.drop i.toNat).take (j.toNat - i.toNat)) := by
  unfold cutS
  rw [sIx_nat _ _ h, sIx_nat _ _ h2, S_len]
  show (⟨_⟩ : Str) = _
  congr 2
  by_cases c : i.toNat ≤ a.length
  · rw [Nat.min_eq_left c, List.take_eq_take_iff]; simp; omega
  · rw [show min i.toNat a.length = a.length by omega, List.drop_of_length_le (Nat.le_refl _), List.drop_of_length_le (by omega)]; simp
theorem rep_S (a : List Nat) (n : Nat) : repS (S a) n = S (List.replicate n a).flatten := rfl
theorem rep_one (c n : Nat) : repS (S [c]) n = S (List.replicate n c) := by
  rw [rep_S]
  congr 2
  induction n with
  | zero => rfl
  | succ n ih => rw [List.replicate_succ, List.flatten_cons, ih, List.replicate_succ]; rfl
theorem has_one (c : Nat) (a : List Nat) : hasS (S [c]) (S a) = decide (c ∈ a) := SX.in_one a c
theorem S_eq {a b : List Nat} : (S a = S b) = (a = b) := propext ⟨S_inj, fun h => by rw [h]⟩
theorem at_lt {a : List Nat} {i : Nat} (h : i < a.length) : atI (S a).cps.toList (i : Int) = some (a.getD i 0) := by
  refine atI_nat ?_
  show a.toArray.toList[i]? = _
  rw [List.getD_eq_getElem?_getD, List.getElem?_eq_getElem (by simpa using h)]
  simp
theorem num_int {i : Int} (h : 0 ≤ i) : (Str.ofString (toString i)) = S (TL.numL i.toNat) := by
  obtain ⟨n, rfl⟩ := Int.eq_ofNat_of_zero_le h
  exact SX.num_S n
theorem ofS_tl (a : String) : (Str.ofString a).cps.toList = a.toList.map Char.toNat := PyProof.Rows.signs_ofString a
theorem ofS_eq {a b : String} : (Str.ofString a = Str.ofString b) = (a = b) := by
  refine propext ⟨fun h => ?_, fun h => by rw [h]⟩
  have e : a.toList.map Char.toNat = b.toList.map Char.toNat := by rw [← ofS_tl, ← ofS_tl, h]
  have inj : ∀ l m : List Char, l.map Char.toNat = m.map Char.toNat → l = m := by
    intro l
    induction l with
    | nil => intro m h; cases m with | nil => rfl | cons => simp at h
    | cons c l ih =>
      intro m h
      cases m with
      | nil => simp at h
      | cons d m =>
        simp only [List.map_cons, List.cons.injEq] at h
        rw [ih m h.2, show c = d from Char.toNat_inj.mp h.1]
  exact String.toList_inj.mp (inj _ _ e)
theorem lk_nil {a : Str} : List.lookup a ([] : List (Str × V)) = none := rfl
theorem lk_cons {a k : Str} {v : V} {es : List (Str × V)} : List.lookup a ((k, v) :: es) = if a = k then some v else List.lookup a es := by
  rw [List.lookup_cons]
  by_cases h : a = k
  · subst h; simp
  · rw [if_neg h, beq_eq_false_iff_ne.mpr h]
theorem pu_nil {f : Str} {v : V} : putF f v [] = [(f, v)] := rfl
theorem pu_cons {f k : Str} {v x : V} {r : List (Str × V)} : putF f v ((k, x) :: r) = if k = f then (k, v) :: r else (k, x) :: putF f v r := rfl
theorem sq_new {K : PySem.W.Frag} {H : Hp} {p : Addr} {xs : List V} : SqT K (upd H p (.tup xs)) p xs := SqT.of upd_same
theorem ty_ins {K : PySem.W.Frag} {H : Hp} {a C dx : Addr} {fs : List (Str × V)} (c : C8.InsC K C) (e : H a = some (.ins C dx fs)) : TyX K H (.ref a) (.ref C) := .base (.ins e c.cl c.ha c.hn c.htk c.hm)
theorem isi_ins {K : PySem.W.Frag} {H : Hp} {Q : VK} {a C D dx : Addr} {fs : List (Str × V)} {b : Bool} (c : C8.InsC K C) (e : H a = some (.ins C dx fs)) (k : PySem.W.kitOne K (.ref C) (.ref D) = some b) (q : Q (.bl b) H) : rIsi K [.ref a, .ref D] H Q :=
  ⟨_, _, _, _, _, rfl, .own D, ty_ins c e, k, q⟩
theorem isi_of {K : PySem.W.Frag} {H : Hp} {Q : VK} {x : V} {D : Addr} {t : String} {b : Bool} (e : tyN x H = some t) (k : PySem.W.kitOne K (.type t) (.ref D) = some b) (q : Q (.bl b) H) : rIsi K [x, .ref D] H Q :=
  ⟨_, _, _, _, _, rfl, .own D, (tyN_tyX e).1, k, q⟩
/-- repr of what is small -/
theorem repr_by {K : PySem.W.Frag} {H : Hp} {Q : VK} {a : Addr} (d : PyData) (h : Dp K H (.ref a) d) (h1 : d.showable = true) (h2 : d.depth ≤ 60) (h3 : d.leavesShort 13 = true) (h4 : d.weight ≤ 2 ^ 20) (q : Q (.str d.shown) H) : rRepr K [.ref a] H Q :=
  ⟨a, d, rfl, h, h1, h2, PyData.shown_fits (by decide) (by decide) h3 h4, q⟩
end RS


namespace RS
open PySem PySem.Spec L2
/-- the class at C has the property n, which hands the field f -/
def Pr (g : Wd) (C : Addr) (n f : Str) : Prop := ∃ p gt fd, PropOf g.K C n p gt ∧ FnOk g.P g.w g.K g.mg g.base C8.CX0 1 gt fd ["self"] (getSp C f) ∧ Binds g.K fd ["self"] []
def tPr (C : Addr) (f : Str) (ta : TE) : TE := fun σ H Q => ta σ H fun x H1 => ∃ a dx fs v, x = .ref a ∧ H1 a = some (.ins C dx fs) ∧ fs.lookup f = some v ∧ Q v H1
theorem e_prop {g : Wd} {X : Cx} {C : Addr} {n f : Str} {e : Expr} {ta : TE} {pos : Pos} (P : Pr g C n f) (c : Cls g.K C) (hr : Rm 2 X) (he : PE X e ta) (hab : attributeBase e n X.env (eval e X.env) = eval e X.env := by rfl) (a : At g X := by exact ⟨rfl, rfl, rfl, rfl, rfl⟩) :
    PE X (.Attribute e n pos) (tPr C f ta) := by
  obtain ⟨p, gt, fd, hp, F, hb⟩ := P
  obtain ⟨P, w, K, mg, base⟩ := g
  obtain ⟨rfl, rfl, rfl, rfl, rfl⟩ := a
  have h := pe_prop (pos := pos) (E := fun _ _ _ => False) he c hp F hr.room hb .nil C8.pass0 hab
  refine ⟨fun pins s σ H Q I q => h.run pins s σ H Q I ?_⟩
  have mono := he
  exact (show tProp C (getSp C f) [] (fun _ _ _ => False) ta σ H Q from by
    unfold tProp
    unfold tPr at q
    have e : (fun x H1 => ∃ a dx fs v, x = V.ref a ∧ H1 a = some (.ins C dx fs) ∧ fs.lookup f = some v ∧ Q v H1) = (fun x H1 => ∃ a dx fs, x = V.ref a ∧ H1 a = some (.ins C dx fs) ∧ getSp C f [.ref a] H1 Q fun _ _ _ => False) := by
      funext x H1
      refine propext ⟨?_, ?_⟩
      · rintro ⟨a, dx, fs, v, rfl, h1, h2, q⟩
        exact ⟨a, dx, fs, rfl, h1, a, dx, fs, v, rfl, h1, h2, q⟩
      · rintro ⟨a, dx, fs, rfl, h1, a', dx', fs', v, e, h1', h2, q⟩
        cases e
        exact ⟨a, dx', fs', v, rfl, h1', h2, q⟩
    rw [e] at q
    exact q)
end RS


/-! dicts with texts or numbers as keys, as equations -/
namespace RS
open PySem PySem.Spec L2
theorem dget_of {H : Hp} {a : Addr} {kvs : List (Key × V)} {k : Key} {o : Option V} (e : H a = some (.dK kvs)) : DGet H a (kV k) o = (valV kvs k = o) := by
  refine propext ⟨?_, fun h => .inl ⟨kvs, k, .inl e, rfl, h.symm⟩⟩
  rintro (⟨kvs', k', h, ek, rfl⟩ | ⟨kvs', k', b, h, ek, _⟩)
  · have : k' = k := by cases k <;> cases k' <;> simp_all [kV]
    subst this
    rcases h with h | ⟨o, h⟩
    · rw [e] at h; cases h; rfl
    · rw [e] at h; cases h
  · cases k <;> cases ek
theorem dget_s {H : Hp} {a : Addr} {kvs : List (Key × V)} {k : Str} {o : Option V} (e : H a = some (.dK kvs)) : DGet H a (.str k) o = (valV kvs (.inr k) = o) := dget_of (k := .inr k) e
theorem dget_i {H : Hp} {a : Addr} {kvs : List (Key × V)} {k : Int} {o : Option V} (e : H a = some (.dK kvs)) : DGet H a (.int k) o = (valV kvs (.inl k) = o) := dget_of (k := .inl k) e
theorem dget_us {H : Hp} {a : Addr} {kvs : List (Key × V)} {k : Str} {o : Option V} : DGet (upd H a (.dK kvs)) a (.str k) o = (valV kvs (.inr k) = o) := dget_s upd_same
theorem dput_of {H : Hp} {a : Addr} {kvs : List (Key × V)} {k : Key} {v : V} {P : Hp → Prop} (e : H a = some (.dK kvs)) : (∃ H4, DPut H a (kV k) v H4 ∧ P H4) = (kvs.length < sizeLine ∧ P (upd H a (.dK (putK kvs k v)))) := by
  refine propext ⟨?_, fun h => ⟨_, .k e h.1, h.2⟩⟩
  rintro ⟨H4, (⟨kvs', k', h, ek, hl, rfl⟩ | ⟨kvs', k', b, h, ek, _⟩), q⟩
  · have : k' = k := by cases k <;> cases k' <;> simp_all [kV]
    subst this
    rw [e] at h; cases h
    exact ⟨hl, q⟩
  · cases k <;> cases ek
theorem dput_s {H : Hp} {a : Addr} {kvs : List (Key × V)} {k : Str} {v : V} {P : Hp → Prop} (e : H a = some (.dK kvs)) : (∃ H4, DPut H a (.str k) v H4 ∧ P H4) = (kvs.length < sizeLine ∧ P (upd H a (.dK (putK kvs (.inr k) v)))) := dput_of (k := .inr k) e
theorem dput_us {H : Hp} {a : Addr} {kvs : List (Key × V)} {k : Str} {v : V} {P : Hp → Prop} : (∃ H4, DPut (upd H a (.dK kvs)) a (.str k) v H4 ∧ P H4) = (kvs.length < sizeLine ∧ P (upd (upd H a (.dK kvs)) a (.dK (putK kvs (.inr k) v)))) := dput_s upd_same
theorem vv_nil {k : Key} : valV ([] : List (Key × V)) k = none := rfl
theorem vv_cons {p k : Key} {v : V} {r : List (Key × V)} : valV ((p, v) :: r) k = if p = k then some v else valV r k := by
  by_cases h : p = k
  · rw [valV_pos (p := (p, v)) h, if_pos h]
  · rw [valV_neg (p := (p, v)) h, if_neg h]
theorem pk_nil {k : Key} {v : V} : putK ([] : List (Key × V)) k v = [(k, v)] := rfl
theorem pk_cons {p k : Key} {v x : V} {r : List (Key × V)} (hr : valV r p = none := by first | rfl | decide) : putK ((p, x) :: r) k v = if p = k then (p, v) :: r else (p, x) :: putK r k v := by
  unfold putK
  by_cases h : p = k
  · subst h
    rw [if_pos rfl, if_pos (by simp)]
    simp only [List.map_cons, if_true]
    congr 1
    have : ∀ q ∈ r, q.1 ≠ p := fun q hq e => by
      have := valV_any p r
      rw [hr] at this
      have t : (r.any fun kv => decide (kv.1 = p)) = true := List.any_eq_true.mpr ⟨q, hq, by simp [e]⟩
      rw [this] at t; cases t
    have e : r.map (fun kv => if kv.1 = p then (kv.1, v) else kv) = r.map id := List.map_congr_left fun q hq => by simp [this q hq]
    rw [e, List.map_id]
  · rw [if_neg h]
    by_cases c : (r.any fun kv => decide (kv.1 = k)) = true
    · rw [if_pos (by simp [c]), if_pos c]
      simp [h]
    · rw [if_neg (by simp [c, h]), if_neg c]; rfl
theorem pk_one {p k : Key} {v x : V} : putK [(p, x)] k v = if p = k then [(p, v)] else [(p, x), (k, v)] := pk_cons (hr := rfl)
theorem inr_eq {a b : Str} : ((.inr a : Key) = .inr b) = (a = b) := by simp
end RS
namespace RS
open PySem PySem.Spec L2
/-! ### repr of lists and tuples of small leaves -/
def Leaf (d : PyData) : Prop := match d with
  | .none => True
  | .bool _ => True
  | .int i => i.natAbs < 10 ^ 12
  | .str x => (∀ c ∈ x.cps.toList, c < 16 ^ 8) ∧ x.length ≤ 10000
  | _ => False
theorem log2_small {n : Nat} (h : n < 10 ^ 12) : n.log2 ≤ 40 := by
  rcases Nat.eq_zero_or_pos n with rfl | h0
  · simp
  · have : n.log2 < 41 := (Nat.log2_lt (by omega)).mpr (show n < 2 ^ 41 by omega)
    omega
theorem Leaf.all {d : PyData} (h : Leaf d) : d.showable = true ∧ d.leavesShort 13 = true ∧ d.weight ≤ 10000 ∧ d.depth ≤ 1 := by
  cases d with
  | none => exact ⟨rfl, rfl, by decide, by decide⟩
  | bool b => exact ⟨rfl, rfl, by simp [PyData.weight], by simp [PyData.depth]⟩
  | int i =>
    have h : i.natAbs < 10 ^ 12 := h
    have l := log2_small h
    refine ⟨?_, ?_, ?_, by simp [PyData.depth]⟩
    · simp only [PyData.showable, decide_eq_true_eq]; omega
    · simp only [PyData.leavesShort, decide_eq_true_eq]; exact PyData.shown_int_le h
    · simp only [PyData.weight]; split <;> omega
  | str x =>
    refine ⟨rfl, ?_, ?_, by simp [PyData.depth]⟩
    · simp only [PyData.leavesShort, List.all_eq_true, decide_eq_true_eq]; exact h.1
    · simp only [PyData.weight]; exact h.2
  | list _ => exact h.elim
  | tuple _ => exact h.elim
  | dict _ => exact h.elim
theorem leafs_all : ∀ {ds : List PyData}, (∀ d ∈ ds, Leaf d) → PyData.showableAll ds = true ∧ PyData.leavesShortAll 13 ds = true ∧ PyData.weightAll ds ≤ 10001 * ds.length ∧ PyData.depthAll ds ≤ 1
  | [], _ => ⟨rfl, rfl, by simp [PyData.weightAll], by simp [PyData.depthAll]⟩
  | d :: ds, h => by
    have a := (h d List.mem_cons_self).all
    have b := leafs_all (ds := ds) fun x hx => h x (List.mem_cons_of_mem _ hx)
    refine ⟨?_, ?_, ?_, ?_⟩
    · simp [PyData.showableAll, a.1, b.1]
    · simp [PyData.leavesShortAll, a.2.1, b.2.1]
    · simp only [PyData.weightAll, List.length_cons]; omega
    · simp only [PyData.depthAll]; omega
theorem repr_list {K : PySem.W.Frag} {H : Hp} {Q : VK} {a : Addr} {xs : List V} {ds : List PyData} (h : SqL K H a xs) (hd : DpAll K H xs ds) (hl : ∀ d ∈ ds, Leaf d) (n : ds.length ≤ 100) (q : Q (.str (PyData.list ds).shown) H) : rRepr K [.ref a] H Q := by
  obtain ⟨a1, a2, a3, a4⟩ := leafs_all hl
  refine repr_by (.list ds) (.lst h hd) ?_ ?_ ?_ ?_ q
  · simpa only [PyData.showable] using a1
  · simp only [PyData.depth]; omega
  · simpa only [PyData.leavesShort] using a2
  · simp only [PyData.weight]; omega
end RS


namespace RS
open PySem PySem.Spec L2
theorem sq_same {K : PySem.W.Frag} {H H' : Hp} {a : Addr} {xs : List V} (h : SqL K H a xs) (s : Same H H') : SqL K H' a xs := by
  rcases h with (h | ⟨o, h⟩) | h
  · exact .inl (.inl (s _ _ h))
  · exact .inl (.inr ⟨o, s _ _ h⟩)
  · exact .inr h
theorem dp_ints {K : PySem.W.Frag} {H : Hp} : ∀ ns : List Int, DpAll K H (ns.map V.int) (ns.map PyData.int)
  | [] => .nil
  | n :: ns => .cons (.int n) (dp_ints ns)
theorem lay_ints : ∀ ns : List Int, PyData.canLayAll0 (ns.map PyData.int) = true ∧ PyData.depthAll (ns.map PyData.int) = 0
  | [] => ⟨rfl, rfl⟩
  | n :: ns => by
    have h := lay_ints ns
    simp [PyData.canLayAll0, PyData.canLay0, PyData.depthAll, PyData.depth, h]
theorem shaped_ints (ns : List Int) : SeqAt.shaped (.list (ns.map PyData.int)) = true := by
  have h := lay_ints ns
  simp [SeqAt.shaped, PyData.canLay0, PyData.depth, h]
theorem eqv_nil (ns : List Int) : PyData.eqv (.list (ns.map PyData.int)) (.list []) = ns.isEmpty := by
  cases ns <;> rfl
/-- ns != [] -/
theorem ne_empty {K : PySem.W.Frag} {H : Hp} {Q : VK} {a p : Addr} {ns : List Int} (h : SqL K H a (ns.map V.int)) (hp : H p = some (.lst [])) (q : Q (.bl (!ns.isEmpty)) H) : rNeD K (.ref a) (.ref p) H Q := by
  refine ⟨.list (ns.map PyData.int), .list [], .lst h (dp_ints ns), .lst (SqL.of hp) .nil, shaped_ints ns, rfl, ?_⟩
  rw [eqv_nil]; exact q
theorem ty_list {K : PySem.W.Frag} {p : Addr} {H : Hp} : tyV K "list" (.ref p) H = ∃ xs, SqL K H p xs := by simp [tyV]
theorem ty_str {K : PySem.W.Frag} {x : Str} {H : Hp} : tyV K "str" (.str x) H = True := by simp [tyV]
theorem cutV_to (a : List V) {i : Int} (h : 0 ≤ i) : cutV a none (some i) = a.take i.toNat := by
  unfold cutV
  rw [sIx_nat _ _ h]
  simp [HT.sIx]
theorem cutV_from (a : List V) {i : Int} (h : 0 ≤ i) : cutV a (some i) none = a.drop i.toNat := by
  unfold cutV
  rw [sIx_nat _ _ h]
  simp only [HT.sIx]
  by_cases c : i.toNat ≤ a.length
  · rw [Nat.min_eq_left c, List.take_of_length_le (by simp)]
  · rw [Nat.min_eq_right (by omega), List.drop_of_length_le (Nat.le_refl _), List.drop_of_length_le (by omega)]; simp
/-- a statement, then the rest, with a word between them that the simp set leaves alone -/
def tMid (t u : TS) : TS := fun D σ H => ∃ Mid : L2.St → Hp → Prop, t { D with nx := Mid } σ H ∧ ∀ σ' H', Mid σ' H' → u D σ' H'
theorem pss_mid {X : Cx} {st : Stmt} {rest : List Stmt} {t u : TS} (h1 : PS X st t) (h2 : PSs X rest u) : PSs X (st :: rest) (tMid t u) := C8.pss_cut h1 h2
theorem mid_at {t u : TS} {D : Ends} {σ : L2.St} {H : Hp} (Mid : L2.St → Hp → Prop) (h1 : t { D with nx := Mid } σ H) (h2 : ∀ σ' H', Mid σ' H' → u D σ' H') : tMid t u D σ H := ⟨Mid, h1, h2⟩
/-- .. where one state alone is left -/
theorem mid_one {t u : TS} {D : Ends} {σ : L2.St} {H : Hp} (σ1 : L2.St) (R : Hp → Prop) (h1 : t { D with nx := fun σ' H' => σ' = σ1 ∧ R H' } σ H) (h2 : ∀ H', R H' → u D σ1 H') : tMid t u D σ H :=
  ⟨_, h1, fun _ _ ⟨e, r⟩ => by subst e; exact h2 _ r⟩
end RS


namespace RS
open PySem PySem.Spec PySem.W PySem.Calls PyProof.Rows
/-- what the text says of an own exception class C: its __init__ at fI is one that says super().__init__(..) -/
structure XC (P : Program) (K : Frag) (C fI cda cc : Addr) (qual : Str) (st : Stmt) (B newId initId : String) (bmB : List Value) : Prop where
  FB : ExcBaseFacts B newId initId bmB
  KF : KxsFacts B initId
  SF : StoreFacts B bmB "object.__setattr__" "object"
  q : excInitIn K C bmB newId = true
  ov : excOver K C bmB = true
  sup : ks_superIn K C C "__init__" = some (some (.builtin initId))
  sub : subIn K (.ref C) (.type B) = some true
  ini : findIn K (.ref C) "__init__" = some (some (.ref fI))
  fn : typeIn K (.ref fI) = some (.type "function")
  lk : ∃ oc od kV doc pm an ct osl, K.lookup fI = some ⟨oc, od, .func (ksFn "__init__" qual (L2.defArgs st) (L2.defBody st) (L2.defScope st) .none kV doc pm an (.ref cda) ct cc), osl⟩
  cd : codeIn K (.ref cda) qual = true
  co : ∃ ccl cdd vs ccs file tf, K.lookup cda = some ⟨ccl, cdd, .fields vs, ccs⟩ ∧ vs[2]? = some (.str file tf) ∧ ((P.main.file : Str) == file) = true
  ce : ∃ cl cld csl, K.lookup cc = some ⟨cl, cld, .cell (some (.ref C)), csl⟩
  me : mroIn K C (.ref C) = some true
  op : nsIn K cStatics "thirdparty.any" = some none
  nt : (P.main.scope.names.lookup ("super" : Str)).isSome = false
section
variable {prog : Program} {w : World} {A : Around} {E : Value → Shared → Prop} {h : Heap} {g : Array GenState} {d : Drawn} {t : Nat} {os : OsState} {K : Frag} {C fI cda cc e u t0 : Addr} {B newId initId : String} {bmB : List Value} {qual : Str} {st : Stmt}
/-- the bound __init__, called: the args are laid anew -/
theorem call_mw {rest : List Value} {Q : Value → Shared → Prop} (KX : K.In h) (FB : ExcBaseFacts B newId initId bmB) (q : excInitIn K C bmB newId = true) (hu : h.get? u = some (kxs_mw initId e)) (he : h.get? e = some (HandSPX.excO C t0)) (hz : rest.length ≤ sizeLine)
    (hq : ∀ h' t1, (∀ b o, b ≠ e → h.get? b = some o → h'.get? b = some o) → h'.get? e = some (HandSPX.excO C t1) → Q .none ⟨h', g, d, t, os⟩) :
    wpAny (model prog w) A (call (.ref u) rest) Q E ⟨h, g, d, t, os⟩ := by
  obtain ⟨nm, N', qn, bs, bm, hdct, sn, sub, ab, col, dd, k0, k1, k2, k3, k5, hC, hT⟩ := excInit_of KX q
  refine wpAny_call (codeAny_of_tree ?_)
  show wpAny _ A.in1 (callAny (.ref u) ⟨rest, []⟩) _ _ _
  simp only [callAny]
  refine wpAny_bind (wpAny_load hu ?_)
  have m1 : (Value.type "method-wrapper" == Value.type "method" || Value.type "method-wrapper" == Value.type "builtin_function_or_method" || Value.type "method-wrapper" == Value.type "method-wrapper") = true := by decide
  simp only [kxs_mw, m1, if_true]
  refine KFB.if_so (by decide) ?_
  refine wpAny_bind (check_bound_init FB.toExcCallFacts hC he rfl ?_)
  refine wpAny_bind (wpAny_pure (wpAny_pure ?_))
  refine ⟨plainId_quiet FB.init.plain _, codeAny_builtin FB.initEntry ?_⟩
  exact exc_init_tree (cls := .ref C) (t0 := t0) (dv := none) (c2 := .none) (c3 := .none) (b4 := .bool false) he hz fun h' k e' t' => hq h' _ k e'
end
end RS
namespace RS
open PySem PySem.Spec PySem.W PySem.Calls PyProof.Rows
section
variable {prog : Program} {w : World} {A : Around} {E : Value → Shared → Prop} {h : Heap} {g : Array GenState} {d : Drawn} {t : Nat} {os : OsState} {K : Frag} {C fI cda cc e t0 L : Addr} {B newId initId : String} {bmB : List Value} {qual : Str} {st : Stmt} {mg mb m : Str → Option Value}
/-- super().__init__('..') in the own __init__ -/
theorem sup_init {body : List Stmt} {ar : Arg} {msg : Str} {j : _} {pc p0 p1 p2 p3 p4 : Pos} {Q : Flow → Shared → Prop} (X : XC prog K C fI cda cc qual st B newId initId bmB) (KX : K.In h) (hns : h.Ns L m) (hp : ((L2.defArgs st).posonlyargs ++ (L2.defArgs st).args).head? = some ar) (hv : m ar.arg = some (.ref e))
    (he : h.get? e = some (HandSPX.excO C t0)) (hg : h.Ns mainGlobals mg) (hm : mg "super" = none) (hb : h.Ns builtinsNs mb) (bb : ∀ x : Str, x ≠ "__name__" → mb x = bootBuiltins x)
    (hks : (L2.defScope st).names.lookup ("super" : Str) = some .globalImplicit) (hkc : (L2.defScope st).names.lookup ("__class__" : Str) = some .free) (hka : (L2.defScope st).names.lookup ar.arg = some .local) (hk : (L2.defScope st).kind = .function)
    {pl : Sem Bool} (hi : interactive (ksEnv qual (L2.defScope st) L fI (.ref cda) cc) = false) (hsw : swapsWith (.Call (.Attribute (.Call (.Name "super" p0) [] [] p1) "__init__" p2) [.Constant (.str msg) j pc] [] p3) none p4.line (ksEnv qual (L2.defScope st) L fI (.ref cda) cc) = pure false)
    (hst : starEach [.Constant (.str msg) j pc] (ksEnv qual (L2.defScope st) L fI (.ref cda) cc) = [(false, eval (.Constant (.str msg) j pc) (ksEnv qual (L2.defScope st) L fI (.ref cda) cc))])
    (hev : eval (.Call (.Attribute (.Call (.Name "super" p0) [] [] p1) "__init__" p2) [.Constant (.str msg) j pc] [] p3) (ksEnv qual (L2.defScope st) L fI (.ref cda) cc) = (do
      let ov ← attributeBase (.Call (.Name "super" p0) [] [] p1) "__init__" (ksEnv qual (L2.defScope st) L fI (.ref cda) cc) (eval (.Call (.Name "super" p0) [] [] p1) (ksEnv qual (L2.defScope st) L fI (.ref cda) cc))
      standAt p2.atName
      let (f, first) ← holding [ov] (getMethod ov "__init__" pl)
      callWith p3 f first (backTo p3 (starEach [.Constant (.str msg) j pc] (ksEnv qual (L2.defScope st) L fI (.ref cda) cc))) []))
    (hq : ∀ h' t1 tk, (∀ b o, b ≠ e → h.get? b = some o → h'.get? b = some o) → h'.get? e = some (HandSPX.excO C t1) → Q .next ⟨h', g, d, tk, os⟩) :
    _root_.PySem.wpAt (model prog w) A (.func body (ksEnv qual (L2.defScope st) L fI (.ref cda) cc)) (exec (.Expr (.Call (.Attribute (.Call (.Name "super" p0) [] [] p1) "__init__" p2) [.Constant (.str msg) j pc] [] p3) p4) (ksEnv qual (L2.defScope st) L fI (.ref cda) cc)) Q E ⟨h, g, d, t, os⟩ := by
  obtain ⟨oc, od, kV, doc, pm, an, ct, osl, lk⟩ := X.lk
  obtain ⟨ccl, cdd, vs, ccs, file, tf, lc, hvs, hfile⟩ := X.co
  obtain ⟨cl, cld, csl, lce⟩ := X.ce
  obtain ⟨nm, N', qn, bs, bm, hdct, sn, sub, ab, col, dd, k0, k1, k2, k3, k5, hC, hT⟩ := excInit_of KX X.q
  refine ks_wpAt_Expr_any (ks_wpAt_MethodCall (pl := pl) ?_ hev) hi hsw
  refine ks_wpAt_super_base (env := ksEnv qual (L2.defScope st) L fI (.ref cda) cc) hks hkc (by decide) rfl (KX _ _ lk) rfl hp rfl (KX _ _ lc) rfl hvs hfile X.nt ?_
  refine ks_loadName_global hk hks (loadGlobal_builtin (env := ksEnv qual (L2.defScope st) L fI (.ref cda) cc) hg hm hb ((bb _ (by decide +kernel)).trans (by decide +kernel)) ⟨rfl, ?_⟩)
  refine wpAny_loadName_free hk hkc rfl ⟨_, KX _ _ lce, rfl⟩ ?_
  refine wpAny_loadName_local hk hka hns hv ?_
  refine ks_wpAny_isType_cls hC rfl ⟨rfl, ?_⟩
  refine ks_wpAny_call_super hC rfl he rfl (fun c z => nomatch z) (looks_mroIn KX X.me) (fun h1 hso k1 => ?_)
  have KX1 : K.In h1 := fun b o z => k1 b o (KX b o z)
  have he1 := k1 _ _ he
  have I1 : InstAt h1 e (HandSPX.excO C t0) C none := ⟨he1, rfl, rfl, trivial⟩
  have hI : Looks (model prog w) h1 (isInstance (.ref e) (.type B)) true := I1.type.andThen (looks_subIn KX1 X.sub)
  have sup := X.sup
  cases hc : clsIn K C with
  | none => unfold ks_superIn at sup; rw [hc] at sup; cases sup
  | some cd =>
    unfold ks_superIn at sup
    rw [hc] at sup
    refine kxs_getMethod X.KF hso (looks_opaque KX1 X.op) (l₀ := cd.mro) (fun A Q E s k q => wpAny_bind ((looks_clsIn KX1 hc) A _ E s k (wpAny_pure q))) rfl KX1 sup hI (ks_ne KX1 I1 hc) (by decide) ?_
    have k2 : ∀ b o, h1.get? b = some o → (h1.push (kxs_mw initId e)).get? b = some o := fun b o z => Heap.get?_push_of_some _ z
    have hu : (h1.push (kxs_mw initId e)).get? h1.objs.size = some (kxs_mw initId e) := Heap.get?_push_at rfl rfl
    rw [hst]
    refine kxs_callWith (i := initId) (x := e) rfl ?_
    show wpAny (model prog w) A (evalArgs (.ref h1.objs.size) true ((false, eval (.Constant (.str msg) j pc) _) :: backTo p3 []) []) _ E _
    refine evalArgs_plain (spliced_cons (Calls.Constant_str ?_))
    refine spliced_nil ⟨hu, ?_⟩
    refine call_mw (t0 := t0) (fun b o z => k2 b o (KX1 b o z)) X.FB X.q hu (k2 _ _ he1) (by rw [sizeLine_eq]; simp) fun h' t1 k3 e3 => ?_
    exact hq h' t1 _ (fun b o hb z => k3 b o hb (k2 b o (k1 b o z))) e3
end
end RS
namespace RS
open PySem PySem.Spec PySem.W PySem.Calls PyProof.Rows Builtin Builtin.ObjectAttr
section
variable {prog : Program} {w : World} {A : Around} {E : Value → Shared → Prop} {R : Result → Shared → Prop} {hp : Heap} {g : Array GenState} {d : Drawn} {t : Nat} {os : OsState} {K : Frag} {C x : Addr} {B : String} {bmB : List Value}
/-- self.name = v on an exception that has no dict yet, over any built-in base -/
theorem osa_newX {name : Str} {tk : Tok} {v : Value} {fv : Array Value} {cd : ClassData} (SF : StoreFacts B bmB "object.__setattr__" "object") (KX : K.In hp) (hx : hp.get? x = some { cls := .ref C, data := .fields fv }) (hcd : clsIn K C = some cd) (hh : cd.hasDict = true) (ov : excOver K C bmB = true)
    (ha : findIn K (.ref C) name = some none)
    (hq : ∀ h' tk' dx, (∀ b o, b ≠ x → hp.get? b = some o → h'.get? b = some o) → hp.objs.size ≤ dx → dx ≠ x → h'.get? x = some { cls := .ref C, dict := some dx, data := .fields fv } →
      h'.Ns1 dx (fun y => if y = name then some v else none) → R (.ok (.ret .none)) ⟨h', g, d, tk', os⟩) :
    codeAny (model prog w) A (.call (.builtin "object.__setattr__") ⟨[.ref x, .str name tk, v], []⟩) R ⟨hp, g, d, t, os⟩ := by
  have I : InstAt hp x { cls := .ref C, data := .fields fv } C none := ⟨hx, rfl, rfl, trivial⟩
  have hxs : x ≠ hp.objs.size := Nat.ne_of_lt (Heap.lt_size hx)
  have ht : takerIn K C name = some none := L2.NoAttr.taker ha
  have hcls : Looks (model prog w) hp (classData C) cd := looks_clsIn KX hcd
  refine osa_openX (s := ⟨hp, g, d, t, os⟩) SF KX I ov ht fun b => ?_
  show wpAny _ _ (storeInOwnDict (.ref x) (.ref C) (.str name tk) name v b) _ _ _
  cases cd with | mk nm bs mro ns qn hd sn sb ab col del =>
  simp only at hh
  subst hh
  unfold storeInOwnDict
  unfold ownDictForStores
  repeat (first | with_reducible refine HandSPX.store_in_new ?_ ?_ | with_reducible refine wpAny_loadPart_at hx ?_ | with_reducible refine hcls.at ?_ | wp_step)
  · refine ⟨_, #[], _, (Heap.get?_update_ne _ _ _ _ hxs.symm).trans (Heap.get?_push_at rfl rfl), rfl, ?_, fun _ => rfl⟩
    exact fun z hz => absurd hz (by simp)
  · intro h2 tk2 hn2 same
    have up2 : ∀ b o, hp.get? b = some o → (hp.push { cls := .type "dict", data := .dict #[] }).get? b = some o := fun b o z => Heap.get?_push_of_some _ z
    refine hq h2 tk2 hp.objs.size (fun b o hb z => ?_) (Nat.le_refl _) hxs.symm ((same.2 x hxs).trans (Heap.get?_update_self _ (up2 _ _ hx) rfl)) hn2
    exact (same.2 b (Nat.ne_of_lt (Heap.lt_size z))).trans ((Heap.get?_update_ne _ _ _ _ hb).trans (up2 _ _ z))
end
end RS
namespace RS
open PySem PySem.Spec PySem.W PySem.Calls PyProof.Rows
/-- the form of such an __init__: super().__init__(msg), then self.f = x -/
structure XSt1 (qual : Str) (st : Stmt) (x f : Str) : Prop where
  bd : ∃ p0 p1 p2 p3 p4 p5 p6 p7 p8 pc msg, ∃ j : Nat, L2.defBody st = [.Expr (.Call (.Attribute (.Call (.Name "super" p0) [] [] p1) "__init__" p2) [.Constant (.str msg) j pc] [] p3) p4, .Assign [.Attribute (.Name "self" p5) f p6] (.Name x p7) p8] ∧
    ∀ (L fI cda cc : Addr), interactive (ksEnv qual (L2.defScope st) L fI (.ref cda) cc) = false ∧
      swapsWith (.Call (.Attribute (.Call (.Name "super" p0) [] [] p1) "__init__" p2) [.Constant (.str msg) j pc] [] p3) none p4.line (ksEnv qual (L2.defScope st) L fI (.ref cda) cc) = pure false ∧
      starEach [.Constant (.str msg) j pc] (ksEnv qual (L2.defScope st) L fI (.ref cda) cc) = [(false, eval (.Constant (.str msg) j pc) (ksEnv qual (L2.defScope st) L fI (.ref cda) cc))] ∧
      (∃ pl, eval (.Call (.Attribute (.Call (.Name "super" p0) [] [] p1) "__init__" p2) [.Constant (.str msg) j pc] [] p3) (ksEnv qual (L2.defScope st) L fI (.ref cda) cc) = (do
        let ov ← attributeBase (.Call (.Name "super" p0) [] [] p1) "__init__" (ksEnv qual (L2.defScope st) L fI (.ref cda) cc) (eval (.Call (.Name "super" p0) [] [] p1) (ksEnv qual (L2.defScope st) L fI (.ref cda) cc))
        standAt p2.atName
        let (f, first) ← holding [ov] (getMethod ov "__init__" pl)
        callWith p3 f first (backTo p3 (starEach [.Constant (.str msg) j pc] (ksEnv qual (L2.defScope st) L fI (.ref cda) cc))) [])) ∧
      swapsWith (.Name x p7) (some (.Attribute (.Name "self" p5) f p6)) p8.line (ksEnv qual (L2.defScope st) L fI (.ref cda) cc) = pure false
  ar : ∃ ar, ((L2.defArgs st).posonlyargs ++ (L2.defArgs st).args).head? = some ar ∧ ar.arg = "self"
  ks : (L2.defScope st).names.lookup ("super" : Str) = some .globalImplicit
  kc : (L2.defScope st).names.lookup ("__class__" : Str) = some .free
  ka : (L2.defScope st).names.lookup ("self" : Str) = some .local
  kx : (L2.defScope st).names.lookup x = some .local
  kd : (L2.defScope st).kind = .function
  co : (L2.defScope st).isCoroutine = false
  ge : (L2.defScope st).isGenerator = false
  ce : ∀ y ∈ (L2.defScope st).names, y.2 ≠ .cell
  bi : ∀ (oc : Value) (kV doc pm : Value) (an : Option Addr) (cdv ct : Value) (cc : Addr) (u v : Value), bindArgs (ksFn "__init__" qual (L2.defArgs st) (L2.defBody st) (L2.defScope st) .none kV doc pm an cdv ct cc) ⟨[u, v], []⟩ = pure ([("self", u), (x, v)] : List (Str × Value))
  ne : ¬ ("self" : Str) = x
  dbg : (x == ("__debug__" : Str)) = false
section
variable {prog : Program} {w : World} {A : Around} {R : Result → Shared → Prop} {h : Heap} {g : Array GenState} {d : Drawn} {t : Nat} {os : OsState} {K : Frag} {C fI cda cc e t0 : Addr} {B newId initId : String} {bmB : List Value} {qual x f : Str} {st : Stmt} {mg mb : Str → Option Value}
theorem xinit1 {v : Value} (X : XC prog K C fI cda cc qual st B newId initId bmB) (Y : XSt1 qual st x f) (hd : hasDictIn K C = true) (sa : findIn K (.ref C) "__setattr__" = some (some (.builtin "object.__setattr__"))) (nf : findIn K (.ref C) f = some none)
    (KX : K.In h) (ke : K.lookup e = none) (hroom : A.depth < recursionLimit) (hlim : h.NoLimit) (he : h.get? e = some (HandSPX.excO C t0)) (hg : h.Ns mainGlobals mg) (hm : mg "super" = none) (hb : h.Ns builtinsNs mb) (bb : ∀ x : Str, x ≠ "__name__" → mb x = bootBuiltins x)
    (hq : ∀ h' t1 dx tk, (∀ b o, b ≠ e → h.get? b = some o → h'.get? b = some o) → h.objs.size ≤ dx → dx ≠ e → h'.get? e = some { cls := .ref C, dict := some dx, data := .fields #[.ref t1, .none, .none, .none, .bool false, .none] } →
      h'.Ns1 dx (fun y => if y = f then some v else none) → R (.ok (.ret .none)) ⟨h', g, d, tk, os⟩) :
    codeAny (model prog w) A (.call (.ref fI) ⟨[.ref e, v], []⟩) R ⟨h, g, d, t, os⟩ := by
  obtain ⟨oc, od, kV, doc, pm, an, ct, osl, lk⟩ := X.lk
  obtain ⟨p0, p1, p2, p3, p4, p5, p6, p7, p8, pc, msg, j, hbd, hform⟩ := Y.bd
  obtain ⟨ar, har, harg⟩ := Y.ar
  obtain ⟨cd, hc, hh⟩ := any_some hd
  refine ks_codeAny_call_defAt (s := ⟨h, g, d, t, os⟩) (body := L2.defBody st) (binds := ([("self", .ref e), (x, v)] : List (Str × Value))) hroom (KX _ _ lk) rfl hlim (codeRec_of KX X.cd) rfl (.of_eq (Y.bi oc kV doc pm an _ ct cc _ _)) Y.ce (fun y hy => ?_) (fun h1 hns k1 => ?_) Y.co Y.ge Y.kd
  · simp only [List.mem_cons, List.not_mem_nil, or_false] at hy
    rcases hy with rfl | rfl
    · exact Y.ka
    · exact Y.kx
  obtain ⟨hi, hsw, hst, ⟨pl, hev⟩, hsw2⟩ := hform h.objs.size fI cda cc
  have KX1 : K.In h1 := fun b o z => k1 b o (KX b o z)
  have lt_e : e < h.objs.size := Heap.lt_size he
  rw [hbd]
  refine ks_wpAt_execs_cons ?_
  have hv1 : (fun y => ([("self", Value.ref e), (x, v)] : List (Str × Value)).reverse.lookup y) ar.arg = some (.ref e) := by
    rw [harg]
    show List.lookup ("self" : Str) ([(x, v), ("self", Value.ref e)] : List (Str × Value)) = _
    rw [List.lookup_cons, beq_eq_false_iff_ne.mpr Y.ne]
    rfl
  have hv2 : (fun y => ([("self", Value.ref e), (x, v)] : List (Str × Value)).reverse.lookup y) x = some v := by
    show List.lookup x ([(x, v), ("self", Value.ref e)] : List (Str × Value)) = _
    rw [List.lookup_cons, beq_self_eq_true]
  refine sup_init X KX1 hns har hv1 (k1 _ _ he) (hg.keeps k1) hm (hb.keeps k1) bb Y.ks Y.kc (by rw [harg]; exact Y.ka) Y.kd (pl := pl) hi hsw hst hev fun h2 t1 tk k2 e2 => ?_
  have hns2 : h2.Ns h.objs.size (fun y => ([("self", Value.ref e), (x, v)] : List (Str × Value)).reverse.lookup y) := by
    obtain ⟨oL, es, ep, hL, r⟩ := hns
    exact ⟨oL, es, ep, k2 _ _ (Nat.ne_of_gt lt_e) hL, r⟩
  refine ks_wpAt_execs_cons (ks_wpAt_Assign_Attr ?_ hsw2)
  have KX2 : K.In h2 := fun b o z => k2 b o (fun y => by rw [y, ke] at z; cases z) (KX1 b o z)
  refine wpAt_of_wpAny (wpAny_Name (wpAny_loadName_local Y.kd Y.kx hns2 hv2 ?_) Y.dbg)
  refine wpAny_Name (wpAny_loadName_local Y.kd Y.ka hns2 (by rw [harg] at hv1; exact hv1) ?_)
  refine set_plain (s := ⟨h2, g, d, tk, os⟩) (ox := HandSPX.excO C t1) (od := none) KX2 ⟨e2, rfl, rfl, trivial⟩ sa ?_
  refine osa_newX X.SF KX2 e2 hc hh X.ov nf fun h3 tk3 dx k3 ldx nex e3 n3 => ?_
  have sz : h.objs.size < h2.objs.size := by
    obtain ⟨oL, es, ep, hL, r⟩ := hns2
    exact Heap.lt_size hL
  refine wpAt_of_wpAny (wpAny_execs_nil ?_)
  exact hq h3 t1 dx _ (fun b o hb z => k3 b o hb (k2 b o hb (k1 b o z))) (Nat.le_trans (Nat.le_of_lt sz) ldx) nex e3 n3
end
end RS
namespace RS
open PySem PySem.Spec PySem.W PySem.Calls PyProof.Rows
/-- the form of an __init__ that says super().__init__(msg) alone -/
structure XSt0 (qual : Str) (st : Stmt) : Prop where
  bd : ∃ p0 p1 p2 p3 p4 pc msg, ∃ j : Nat, L2.defBody st = [.Expr (.Call (.Attribute (.Call (.Name "super" p0) [] [] p1) "__init__" p2) [.Constant (.str msg) j pc] [] p3) p4] ∧
    ∀ (L fI cda cc : Addr), interactive (ksEnv qual (L2.defScope st) L fI (.ref cda) cc) = false ∧
      swapsWith (.Call (.Attribute (.Call (.Name "super" p0) [] [] p1) "__init__" p2) [.Constant (.str msg) j pc] [] p3) none p4.line (ksEnv qual (L2.defScope st) L fI (.ref cda) cc) = pure false ∧
      starEach [.Constant (.str msg) j pc] (ksEnv qual (L2.defScope st) L fI (.ref cda) cc) = [(false, eval (.Constant (.str msg) j pc) (ksEnv qual (L2.defScope st) L fI (.ref cda) cc))] ∧
      (∃ pl, eval (.Call (.Attribute (.Call (.Name "super" p0) [] [] p1) "__init__" p2) [.Constant (.str msg) j pc] [] p3) (ksEnv qual (L2.defScope st) L fI (.ref cda) cc) = (do
        let ov ← attributeBase (.Call (.Name "super" p0) [] [] p1) "__init__" (ksEnv qual (L2.defScope st) L fI (.ref cda) cc) (eval (.Call (.Name "super" p0) [] [] p1) (ksEnv qual (L2.defScope st) L fI (.ref cda) cc))
        standAt p2.atName
        let (f, first) ← holding [ov] (getMethod ov "__init__" pl)
        callWith p3 f first (backTo p3 (starEach [.Constant (.str msg) j pc] (ksEnv qual (L2.defScope st) L fI (.ref cda) cc))) []))
  ar : ∃ ar, ((L2.defArgs st).posonlyargs ++ (L2.defArgs st).args).head? = some ar ∧ ar.arg = "self"
  ks : (L2.defScope st).names.lookup ("super" : Str) = some .globalImplicit
  kc : (L2.defScope st).names.lookup ("__class__" : Str) = some .free
  ka : (L2.defScope st).names.lookup ("self" : Str) = some .local
  kd : (L2.defScope st).kind = .function
  co : (L2.defScope st).isCoroutine = false
  ge : (L2.defScope st).isGenerator = false
  ce : ∀ y ∈ (L2.defScope st).names, y.2 ≠ .cell
  bi : ∀ (oc : Value) (kV doc pm : Value) (an : Option Addr) (cdv ct : Value) (cc : Addr) (u : Value), bindArgs (ksFn "__init__" qual (L2.defArgs st) (L2.defBody st) (L2.defScope st) .none kV doc pm an cdv ct cc) ⟨[u], []⟩ = pure ([("self", u)] : List (Str × Value))
section
variable {prog : Program} {w : World} {A : Around} {R : Result → Shared → Prop} {h : Heap} {g : Array GenState} {d : Drawn} {t : Nat} {os : OsState} {K : Frag} {C fI cda cc e t0 : Addr} {B newId initId : String} {bmB : List Value} {qual : Str} {st : Stmt} {mg mb : Str → Option Value}
theorem xinit0 (X : XC prog K C fI cda cc qual st B newId initId bmB) (Y : XSt0 qual st)
    (KX : K.In h) (hroom : A.depth < recursionLimit) (hlim : h.NoLimit) (he : h.get? e = some (HandSPX.excO C t0)) (hg : h.Ns mainGlobals mg) (hm : mg "super" = none) (hb : h.Ns builtinsNs mb) (bb : ∀ x : Str, x ≠ "__name__" → mb x = bootBuiltins x)
    (hq : ∀ h' t1 tk, (∀ b o, b ≠ e → h.get? b = some o → h'.get? b = some o) → h'.get? e = some (HandSPX.excO C t1) → R (.ok (.ret .none)) ⟨h', g, d, tk, os⟩) :
    codeAny (model prog w) A (.call (.ref fI) ⟨[.ref e], []⟩) R ⟨h, g, d, t, os⟩ := by
  obtain ⟨oc, od, kV, doc, pm, an, ct, osl, lk⟩ := X.lk
  obtain ⟨p0, p1, p2, p3, p4, pc, msg, j, hbd, hform⟩ := Y.bd
  obtain ⟨ar, har, harg⟩ := Y.ar
  refine ks_codeAny_call_defAt (s := ⟨h, g, d, t, os⟩) (body := L2.defBody st) (binds := ([("self", .ref e)] : List (Str × Value))) hroom (KX _ _ lk) rfl hlim (codeRec_of KX X.cd) rfl (.of_eq (Y.bi oc kV doc pm an _ ct cc _)) Y.ce (fun y hy => ?_) (fun h1 hns k1 => ?_) Y.co Y.ge Y.kd
  · rw [List.mem_singleton.mp hy]; exact Y.ka
  obtain ⟨hi, hsw, hst, ⟨pl, hev⟩⟩ := hform h.objs.size fI cda cc
  rw [hbd]
  refine ks_wpAt_execs_cons ?_
  have hv1 : (fun y => ([("self", Value.ref e)] : List (Str × Value)).reverse.lookup y) ar.arg = some (.ref e) := by
    rw [harg]
    rfl
  refine sup_init X (fun b o z => k1 b o (KX b o z)) hns har hv1 (k1 _ _ he) (hg.keeps k1) hm (hb.keeps k1) bb Y.ks Y.kc (by rw [harg]; exact Y.ka) Y.kd (pl := pl) hi hsw hst hev fun h2 t1 tk k2 e2 => ?_
  refine wpAt_of_wpAny (wpAny_execs_nil ?_)
  exact hq h2 t1 _ (fun b o hb z => k2 b o hb (k1 b o z)) e2
end
end RS


/-! own exceptions as values of the hand layer -/
namespace RS
open PySem PySem.Spec L2
/-- at e: an exception of the class at C, its dict at d -/
def exv (e C : Addr) (d : Option Addr) : HO := .ext fun h => ∃ oe vs, h.get? e = some oe ∧ oe.cls = .ref C ∧ oe.dict = d ∧ oe.data = .fields vs
theorem exv_ok {P : Program} {w : World} {H : Hp} {h : Heap} {e C : Addr} {d : Option Addr} {oe : Obj} {vs : Array Value} (he : h.get? e = some oe) (h1 : oe.cls = .ref C) (h2 : oe.dict = d) (h3 : oe.data = .fields vs) : ObjOk P w H h e (exv e C d) :=
  ⟨⟨oe, vs, he, h1, h2, h3⟩, ⟨_, he⟩, fun g1 g2 z k => by
    obtain ⟨o2, v2, q, r⟩ := z
    exact ⟨o2, v2, k _ q, r⟩⟩
theorem exv_at {P : Program} {w : World} {H : Hp} {h : Heap} {e C : Addr} {d : Option Addr} (hok : HOk P w H h) (he : H e = some (exv e C d)) : ∃ oe vs, h.get? e = some oe ∧ oe.cls = .ref C ∧ oe.dict = d ∧ oe.data = .fields vs := by
  have x : ObjOk P w H h e (.ext fun h => ∃ oe vs, h.get? e = some oe ∧ oe.cls = .ref C ∧ oe.dict = d ∧ oe.data = .fields vs) := hok e _ he
  exact x.1
/-- two new objects, both tracked from now on -/
theorem inv_two {X : Cx} {pins : List (Addr × Obj)} {σ : L2.St} {H : Hp} {s : Shared} {h' : Heap} {a b : Addr} {o u : HO} {t' : Nat} (I : Inv X pins σ H s) (k : ∀ c z, s.heap.get? c = some z → h'.get? c = some z) (ha : s.heap.get? a = none) (hb : s.heap.get? b = none) (na : H a = none) (nb : H b = none) (ab : a ≠ b)
    (oa : ObjOk X.prog X.w (upd (upd H b u) a o) h' a o) (ob : ObjOk X.prog X.w (upd (upd H b u) a o) h' b u) : Inv X pins σ (upd (upd H b u) a o) { s with heap := h', toks := t' } := by
  have nA : ∀ {c : Addr} {z : Obj}, s.heap.get? c = some z → c ≠ a := fun q y => by rw [y, ha] at q; cases q
  have nB : ∀ {c : Addr} {z : Obj}, s.heap.get? c = some z → c ≠ b := fun q y => by rw [y, hb] at q; cases q
  have sm : ∀ {c : Addr} {z : HO}, H c = some z → upd (upd H b u) a o c = some z := fun q => by rw [upd_ne (ne_of_none q na), upd_ne (ne_of_none q nb)]; exact q
  have U : Un X.fs [] H (upd (upd H b u) a o) s.heap h' := {
    keep := fun c z q _ _ _ => k c z q
    slot := fun c z q _ _ _ => ⟨z.slots, k c z q⟩
    free := fun c z q n _ => by rw [upd_ne (nA q), upd_ne (nB q)]; exact n
    there := fun c z q _ => ⟨z, k c z q⟩
    tups := fun c xs q => sm q
    frzs := fun c z v q => sm q
    tbls := fun c ps q => ⟨#[], by rw [sm q]; simp⟩ }
  refine I.un (t' := t') U fun c z q => ?_
  by_cases hc : c = a
  · subst hc
    rw [upd_same] at q
    cases q
    exact oa
  · rw [upd_ne hc] at q
    by_cases hd : c = b
    · subst hd
      rw [upd_same] at q
      cases q
      exact ob
    · rw [upd_ne hd] at q
      exact (I.hok c z q).stay (fun y v _ w' => k y v w') (fun y hy => sm hy) (fun y xs hy => sm hy)
end RS
namespace RS
open PySem PySem.Spec L2 PySem.W
/-- the class x at C: C(v) is a new exception whose field f is v -/
def XK1 (g : Wd) (x : Str) (C : Addr) (f : Str) : Prop := g.mg x = some (.ref C) ∧ g.mg "super" = none ∧ keepIn g.K (.ref C) = true ∧ hasDictIn g.K C = true ∧ findIn g.K (.ref C) "__setattr__" = some (some (.builtin "object.__setattr__")) ∧ findIn g.K (.ref C) f = some none ∧
  ∃ fI cda cc qual st B newId initId bmB xp, XC g.P g.K C fI cda cc qual st B newId initId bmB ∧ XSt1 qual st xp f
section
variable {g : Wd} {X : Cx} {C : Addr} {x f : Str} {e : Expr} {t : TA} {p pos : Pos}
def tMkX1 (C : Addr) (f : Str) (t : TA) : TE := fun σ H Q => t σ H fun vs H1 => ∃ v, vs = [v] ∧ ∀ y dy, H1 y = none → H1 dy = none → y ≠ dy → Q (.ref y) (upd (upd H1 dy (exd dy [(f, v)])) y (exv y C (some dy)))
theorem pe_mkX1 (F : XK1 g x C f) (hr : Rm 2 X) (ha : PA X [e] t) (hg : Gl X x := by rfl) (hdb : (x == ("__debug__" : Str)) = false := by decide)
    (he : starEach [e] X.env = (false, eval e X.env) :: starEach [] X.env := by rfl) (hpl : (backTo pos (starEach [] X.env)).any (·.1) = false := by rfl) (a : At g X := by exact ⟨rfl, rfl, rfl, rfl, rfl⟩) :
    PE X (.Call (.Name x p) [e] [] pos) (tMkX1 C f t) := by
  obtain ⟨hm, ms, kp, hd, sa, nf, fI, cda, cc, qual, st, B, newId, initId, bmB, xp, XX, Y⟩ := F
  refine ⟨fun pins s σ H Q I h => wpAny_Call_Name_kw (ld_glob I hg (by rw [a.mg]; exact hm) ?_ hdb)⟩
  refine PySem.W.callWith_K (h₀ := X.base) I.ok.mod.kin (by rw [a.K]; exact kp) (thn (ha.run pos pins s σ H _ I h) ?_) he hpl
  rintro us s1 ⟨vs, H1, I1, r, v, rfl, q⟩
  obtain ⟨u, rfl, ru⟩ := vals1 r
  refine ⟨I1.kIn, ?_⟩
  have KI := I1.kIn
  rw [a.K] at KI
  obtain ⟨nm, N', qn, bs, bm, hdct, sn, sub, ab, col, dd, k0, k1, k2, k3, k5, hC, hT⟩ := excInit_of KI XX.q
  obtain ⟨oc, od, kV, doc, pm, an, ct, osl, lk⟩ := XX.lk
  have hfn : oc = .type "function" := by
    have z := XX.fn
    unfold typeIn at z
    simp only [lk] at z
    simpa using z
  have hglob : s1.heap.Ns mainGlobals g.mg := by rw [← a.mg]; exact I1.mod.glob.keeps I1.bk
  obtain ⟨mb, hblt, bb⟩ := I1.mod.blt
  have hblt2 := hblt.keeps I1.bk
  have hlim := I1.nolimit
  obtain ⟨hp, gg, dr, tt, oo⟩ := s1
  have up : ∀ b o, hp.get? b = some o → ((hp.push (kdv_tup [u])).push (HandSPX.excO C hp.objs.size)).get? b = some o := fun b o z => Heap.get?_push_of_some _ (Heap.get?_push_of_some _ z)
  have hget : ((hp.push (kdv_tup [u])).push (HandSPX.excO C hp.objs.size)).get? (hp.objs.size + 1) = some (HandSPX.excO C hp.objs.size) := by heap_get
  refine wpAny_call (HandSPX.call_own XX.FB hT hC (looks_findIn KI XX.ini) (fun self => exc_bind (KI _ _ lk) hfn self) (by rw [sizeLine_eq]; simp) ?_)
  rw [a.P]
  refine xinit1 XX Y hd sa nf (fun b o z => up b o (KI b o z)) ?_ (hr.here.make C [u] []).room.depth (hlim.keeps up) hget (hglob.keeps up) ms (hblt2.keeps up) bb fun h' t1 dx tk k ldx nex e' n' => ⟨rfl, ?_⟩
  · cases z : g.K.lookup (hp.objs.size + 1) with
    | none => rfl
    | some o => exact absurd (Heap.lt_size (KI _ _ z)) (by show ¬ hp.objs.size + 1 < hp.objs.size; omega)
  have k' : ∀ b o, hp.get? b = some o → h'.get? b = some o := fun b o z => k b o (fun y => by
    have := Heap.lt_size z
    rw [y] at this
    exact absurd this (by show ¬ hp.objs.size + 1 < hp.objs.size; omega)) (up b o z)
  have ld2 : hp.objs.size + 2 ≤ dx := by
    have e2 : ((hp.push (kdv_tup ([] ++ [u]))).push (HandSPX.excO C hp.objs.size)).objs.size = hp.objs.size + 2 := by simp [Heap.size_push]
    rw [e2] at ldx
    exact ldx
  have n1 : hp.get? (hp.objs.size + 1) = none := by
    cases z : hp.get? (hp.objs.size + 1) with
    | none => rfl
    | some o => exact absurd (Heap.lt_size z) (by show ¬ hp.objs.size + 1 < hp.objs.size; omega)
  have n2 : hp.get? dx = none := by
    cases z : hp.get? dx with
    | none => rfl
    | some o => exact absurd (Heap.lt_size z) (by show ¬ dx < hp.objs.size; omega)
  have f1 : H1 (hp.objs.size + 1) = none := I1.hok.fresh (Nat.le_succ _)
  have f2 : H1 dx = none := I1.hok.fresh (by show hp.objs.size ≤ dx; omega)
  have J := inv_two (t' := tk) (o := exv (hp.objs.size + 1) C (some dx)) (u := exd dx [(f, v)]) I1 k' n1 n2 f1 f2 (fun z => nex z.symm) (exv_ok e' rfl rfl rfl) (exd_ok n' (relO_put (fs := []) ru fun g => True.intro))
  exact ⟨.ref (hp.objs.size + 1), _, J, rfl, q _ _ f1 f2 fun z => nex z.symm⟩
end
end RS
namespace RS
open PySem PySem.Spec L2 PySem.W
/-- the class x at C: C() is a new exception without a dict -/
def XK0 (g : Wd) (x : Str) (C : Addr) : Prop := g.mg x = some (.ref C) ∧ g.mg "super" = none ∧ keepIn g.K (.ref C) = true ∧
  ∃ fI cda cc qual st B newId initId bmB, XC g.P g.K C fI cda cc qual st B newId initId bmB ∧ XSt0 qual st
section
variable {g : Wd} {X : Cx} {C : Addr} {x f : Str} {e o : Expr} {t : TA} {ta : TE} {p pos : Pos}
def tMkX0 (C : Addr) : TE := fun σ H Q => ∀ y, H y = none → Q (.ref y) (upd H y (exv y C none))
theorem pe_mkX0 (F : XK0 g x C) (hr : Rm 2 X) (hg : Gl X x := by rfl) (hdb : (x == ("__debug__" : Str)) = false := by decide) (a : At g X := by exact ⟨rfl, rfl, rfl, rfl, rfl⟩) :
    PE X (.Call (.Name x p) [] [] pos) (tMkX0 C) := by
  obtain ⟨hm, ms, kp, fI, cda, cc, qual, st, B, newId, initId, bmB, XX, Y⟩ := F
  refine ⟨fun pins s σ H Q I q => wpAny_Call_Name_kw (ld_glob I hg (by rw [a.mg]; exact hm) ?_ hdb)⟩
  refine PySem.W.callWith_K0 I.kIn (by rw [a.K]; exact kp) ?_
  have KI := I.kIn
  rw [a.K] at KI
  obtain ⟨nm, N', qn, bs, bm, hdct, sn, sub, ab, col, dd, k0, k1, k2, k3, k5, hC, hT⟩ := excInit_of KI XX.q
  obtain ⟨oc, od, kV, doc, pm, an, ct, osl, lk⟩ := XX.lk
  have hfn : oc = .type "function" := by
    have z := XX.fn
    unfold typeIn at z
    simp only [lk] at z
    simpa using z
  have hglob : s.heap.Ns mainGlobals g.mg := by rw [← a.mg]; exact I.mod.glob.keeps I.bk
  obtain ⟨mb, hblt, bb⟩ := I.mod.blt
  have hblt2 := hblt.keeps I.bk
  have hlim := I.nolimit
  obtain ⟨hp, gg, dr, tt, oo⟩ := s
  have up : ∀ b o, hp.get? b = some o → ((hp.push (kdv_tup [])).push (HandSPX.excO C hp.objs.size)).get? b = some o := fun b o z => Heap.get?_push_of_some _ (Heap.get?_push_of_some _ z)
  have hget : ((hp.push (kdv_tup [])).push (HandSPX.excO C hp.objs.size)).get? (hp.objs.size + 1) = some (HandSPX.excO C hp.objs.size) := by heap_get
  refine wpAny_call (HandSPX.call_own XX.FB hT hC (looks_findIn KI XX.ini) (fun self => exc_bind (KI _ _ lk) hfn self) (by rw [sizeLine_eq]; simp) ?_)
  rw [a.P]
  refine xinit0 XX Y (fun b o z => up b o (KI b o z)) (hr.here.make C [] []).room.depth (hlim.keeps up) hget (hglob.keeps up) ms (hblt2.keeps up) bb fun h' t1 tk k e' => ⟨rfl, ?_⟩
  have k' : ∀ b o, hp.get? b = some o → h'.get? b = some o := fun b o z => k b o (fun y => by
    have := Heap.lt_size z
    rw [y] at this
    exact absurd this (by show ¬ hp.objs.size + 1 < hp.objs.size; omega)) (up b o z)
  have n1 : hp.get? (hp.objs.size + 1) = none := by
    cases z : hp.get? (hp.objs.size + 1) with
    | none => rfl
    | some o => exact absurd (Heap.lt_size z) (by show ¬ hp.objs.size + 1 < hp.objs.size; omega)
  have f1 : H (hp.objs.size + 1) = none := I.hok.fresh (Nat.le_succ _)
  have J := I.laid (a := hp.objs.size + 1) (o := exv (hp.objs.size + 1) C none) (h' := h') (t' := tk) k' (Nat.le_succ _) (exv_ok e' rfl rfl rfl)
  exact ⟨.ref (hp.objs.size + 1), _, J, rfl, q _ f1⟩

/-! ### a field of such a value -/
def tXfv (K : Frag) (C : Addr) (f : Str) (ta : TE) : TE := fun σ H Q => ta σ H fun x H1 => ∃ a dd fs v, x = .ref a ∧ H1 a = some (exv a C (some dd)) ∧ H1 dd = some (exd dd fs) ∧ fs.lookup f = some v ∧ Q v H1
theorem pe_xfv (T : XfC g.K C) (hno : findIn g.K (.ref C) f = some none) (he : PE X e ta) (hb : attributeBase e f X.env (eval e X.env) = eval e X.env := by rfl) (at_ : At g X := by exact ⟨rfl, rfl, rfl, rfl, rfl⟩) : PE X (.Attribute e f pos) (tXfv g.K C f ta) := by
  refine ⟨fun pins s σ H Q I h => ?_⟩
  refine attr_of hb (thn (he.run pins s σ H _ I h) fun u s1 hh => ?_)
  obtain ⟨x, H1, I1, rx, a, dd, fs, v, rfl, ea, ed, l, q⟩ := hh
  obtain rfl : u = Value.ref a := rx
  obtain ⟨oe, vs, hoe, c1, c2, c3⟩ := exv_at I1.hok ea
  obtain ⟨mA, hns, hr⟩ := exd_at I1.hok ed
  obtain ⟨od, ho, hl⟩ := lookIn_ns hns
  obtain ⟨u, hu, ru⟩ := RelO.some_of (v := v) (o := mA f) (by rw [← l]; exact hr f)
  have J : InstAt s1.heap a oe C (some od) := ⟨hoe, c1, by unfold notCls; rw [c3] <;> rfl, by rw [c2]; exact ho⟩
  have KI := I1.kIn
  rw [at_.K] at KI
  exact HandSPX.exc_get KI J T.ga T.gg T.exC (findObj_own T.hdC hno rfl (by rw [hl, hu])) (handed_of ru) ⟨v, H1, I1.tok _, ru, q⟩
end
end RS


/-! isinstance of own exceptions held as values -/
namespace RS
open PySem PySem.Spec PySem.W PySem.Calls PyProof.Rows
section
variable {prog : Program} {w : World} {A : Around} {E : Value → Shared → Prop} {s : Shared} {K : Frag} {x C : Addr} {ox : Obj} {od : Option Obj}
theorem clsX (T : L2.ExcC K C) {Q : Option Value → Shared → Prop} (KX : K.In s.heap) (I : InstAt s.heap x ox C od) (q : Q (some (.ref C)) { s with toks := s.toks + 1 }) : wpAny (model prog w) A (getAttr? (.ref x) "__class__") Q E s := by
  have some_cls : (clsIn K C).isSome = true := by
    obtain ⟨cd, hc, _⟩ := any_some T.hd
    rw [hc]; rfl
  have found : findObj K C od "__class__" = some (.bind (.builtin "getset_descriptor.__get__") (.builtin "object.__class__")) := by
    cases od with
    | none => exact findObj_dataN some_cls T.ha T.hn T.ht
    | some od => exact findObj_data some_cls T.ha T.hn T.ht
  obtain ⟨hp, gs, dr, tk, os⟩ := s
  have la := I.type (M := model prog w)
  have lb := looks_findIn (M := model prog w) KX T.hg
  have lc := looks_findIn (M := model prog w) KX T.hk
  have ld := looks_find (M := model prog w) KX I found
  have lsub : Looks (model prog w) hp (isInstance (.ref x) (.type "BaseException")) true := la.andThen (looks_subIn KX T.hs)
  have other : (Value.builtin "BaseException.__getattribute__" == Value.builtin "object.__getattribute__") = false := by decide +kernel
  unfold getAttr?
  unfold getAttrBy?
  unfold getAttrBy
  refine wpAny_bind (wpAny_mkText (wpAny_bind (wpAny_attempt ?_)))
  refine wpAny_holding (wpAny_bind (la.at (wpAny_bind (lb.at ?_))))
  dsimp only
  rw [if_neg (by rw [other]; simp)]
  unfold getAttrByItsOwn
  unfold hookBefore
  refine wpAny_bind ?_
  rw [if_pos (by rfl)]
  refine lc.at ?_
  refine wpAny_bind (wpAny_attempt ?_)
  refine wpAny_holding ?_
  unfold callGetattribute
  rw [if_neg (by simp)]
  unfold boundAndCalled
  rw [PySem.F.excAttr_ValueError.ga.bind (.ref x)]
  refine wpAny_bind (wpAny_pure ?_)
  show wpAny _ _ (call (.builtin "BaseException.__getattribute__") [.ref x, .str "__class__" tk]) _ _ _
  refine wpAny_call (codeAny_call_builtin PySem.F.excAttr_ValueError.ga.plain PySem.F.entry_bexc_ga ?_)
  refine @check_slot (model prog w) _ _ ⟨hp, gs, dr, tk + 1, os⟩ "BaseException.__getattribute__" "BaseException" "__getattribute__" (.ref x) [.str "__class__" tk] [] _ (by decide +kernel) (by decide +kernel) lsub (PySem.F.args_bexc_ga _ _) ?_
  unfold Builtin.«object.__getattribute__»
  refine wpAny_bind (wpAny_of_eq (a := ((Value.ref x : Value), [Value.str "__class__" tk])) (by first | rfl | (simp only [slotArgs]; rfl)) ?_)
  refine wpAny_bind (wpAny_pure ?_)
  refine wpAny_bind (la.at (wpAny_bind (ld.at ?_)))
  refine wpAny_bind (wpAny_holding (wpAny_call (class_get (s := ⟨hp, gs, dr, tk + 1, os⟩) (ox := ox) (od := od) KX I T.hm ?_)))
  refine wpAny_pure ?_
  show wpAny _ _ (handedOut (.ref C)) _ _ _
  rw [handedOut_of (v := .ref C) rfl]
  first
    | exact wpAny_pure (wpAny_pure q)
    | exact wpAny_pure q
    | exact wpAny_pure (wpAny_bind (wpAny_pure (wpAny_pure q)))
theorem kitX (T : L2.ExcC K C) : KitX K (.ref x) (.ref C) (fun h => ∃ ox od, InstAt h x ox C od) where
  ty := fun _ _ _ ⟨_, _, I⟩ => I.type
  it := fun M h KX _ => by
    obtain ⟨cd, hc, _⟩ := any_some T.hd
    unfold clsIn at hc
    split at hc
    · rename_i ho
      intro A' Q' E' s' k q
      unfold isType
      unfold loadHead
      exact wpAny_bind (wpAny_loadPart (k _ _ (KX _ _ ho)) (wpAny_pure q))
    · cases hc
  ne := fun h tp dd its n sl KX htp => by
    obtain ⟨cd, hc, _⟩ := any_some T.hd
    refine Bool.eq_false_iff.mpr fun q => ?_
    obtain rfl : C = tp := Value.ref.inj (beq_iff_eq.mp q)
    unfold clsIn at hc
    split at hc
    · rename_i ho
      cases (KX _ _ ho).symm.trans htp
    · cases hc
  ca := fun KX ⟨_, _, I⟩ q => clsX T KX I q
end
end RS
namespace RS
open PySem PySem.Spec L2
section
variable {X : Cx} {g : Wd}
/-- isinstance(x, c), x an exception of the class at C held as a value -/
def rIsX (K : PySem.W.Frag) : List V → Hp → VK → Prop := fun xs H Q => ∃ (a C : Addr) (d : Option Addr) (c : V) (u : Value) (b : Bool), xs = [.ref a, c] ∧ ExcC K C ∧ ClsV c u ∧ H a = some (exv a C d) ∧ (∀ dd, d = some dd → ∃ fs, H dd = some (exd dd fs)) ∧ PySem.W.kitOne K (.ref C) u = some b ∧ Q (.bl b) H
theorem c_isX {K : PySem.W.Frag} (hK : X.K = K := by rfl) : CallR X (.builtin "isinstance") (rIsX K) := by
  subst hK
  intro pins s σ H xs us Q I r h
  obtain ⟨a, C, d, c, u, b, rfl, T, k, ea, ed, e, q⟩ := h
  obtain ⟨u1, u2, rfl, r1, r2⟩ := vals2 r
  have e2 := k.eq r2
  subst e2
  cases r1
  obtain ⟨oe, vs, hoe, c1, c2, c3⟩ := exv_at I.hok ea
  have J : ∃ ox od, PySem.W.InstAt s.heap a ox C od := by
    cases d with
    | none => exact ⟨oe, none, hoe, c1, by unfold PySem.W.notCls; rw [c3] <;> rfl, by rw [c2]; trivial⟩
    | some dd =>
      obtain ⟨fs, ef⟩ := ed dd rfl
      obtain ⟨mA, hns, hr⟩ := exd_at I.hok ef
      obtain ⟨od, ho, hl⟩ := lookIn_ns hns
      exact ⟨oe, some od, hoe, c1, by unfold PySem.W.notCls; rw [c3] <;> rfl, by rw [c2]; exact ho⟩
  exact PySem.W.kia_one (kitX T) I.kIn J e (fun z => nomatch z) fun tk => ⟨.bl b, H, I.tok tk, rfl, q⟩
end
end RS


/-! repr of data with dicts in it -/
namespace RS
open PySem PySem.Spec L2
def keyD : Key → PyData
  | .inl i => .int i
  | .inr x => .str x
mutual
/-- v stands for the data d -/
inductive DpX (K : PySem.W.Frag) (H : Hp) : V → PyData → Prop
  | non : DpX K H .non .none
  | bl (b : Bool) : DpX K H (.bl b) (.bool b)
  | int (i : Int) : DpX K H (.int i) (.int i)
  | str (x : Str) : DpX K H (.str x) (.str x)
  | lst {a : Addr} {xs : List V} {ds : List PyData} (h : SqL K H a xs) (hs : DpXs K H xs ds) : DpX K H (.ref a) (.list ds)
  | tup {a : Addr} {xs : List V} {ds : List PyData} (h : SqT K H a xs) (hs : DpXs K H xs ds) : DpX K H (.ref a) (.tuple ds)
  | dct {a : Addr} {kvs : List (Key × V)} {D : List (PyData × PyData)} (h : H a = some (.dK kvs)) (hs : DpXd K H kvs D) : DpX K H (.ref a) (.dict D)
inductive DpXs (K : PySem.W.Frag) (H : Hp) : List V → List PyData → Prop
  | nil : DpXs K H [] []
  | cons {v : V} {vs : List V} {d : PyData} {ds : List PyData} (h : DpX K H v d) (hs : DpXs K H vs ds) : DpXs K H (v :: vs) (d :: ds)
inductive DpXd (K : PySem.W.Frag) (H : Hp) : List (Key × V) → List (PyData × PyData) → Prop
  | nil : DpXd K H [] []
  | cons {k : Key} {v : V} {kvs : List (Key × V)} {d : PyData} {D : List (PyData × PyData)} (h : DpX K H v d) (hs : DpXd K H kvs D) : DpXd K H ((k, v) :: kvs) ((keyD k, d) :: D)
end
/-- sys.modules stands in the base, a dict -/
def SmB (base : Heap) : Prop := ∃ o es n, base.get? sysModules = some o ∧ o.data = .dict es n
theorem SmB.ne {X : Cx} {pins : List (Addr × Obj)} {σ : L2.St} {H : Hp} {s : Shared} {a : Addr} {its : Array Value} {n : Nat} {o : Obj} (I : Inv X pins σ H s) (sm : SmB X.base) (h : s.heap.get? a = some o) (hd : o.data = .seq its n) : sysModules ≠ a := fun z => by
  obtain ⟨o2, es, k, e, d⟩ := sm
  have e2 := (I.bs _ _ e).1
  rw [z, h] at e2
  cases e2
  rw [hd] at d
  cases d
section
variable {X : Cx} {pins : List (Addr × Obj)} {σ : L2.St} {H : Hp} {s : Shared}
theorem key_reads {h : Heap} (k : Key) (key : Value) (e : (mixKind X.prog X.w).is k key = true) : Reads h key (keyD k) [] := by
  rcases keyIs_shape e with ⟨i, t, rfl, rfl⟩ | ⟨x, t, rfl, rfl⟩
  · exact Reads.int i t
  · exact Reads.str x t
mutual
theorem DpX.reads (I : Inv X pins σ H s) (sm : SmB X.base) : ∀ {d : PyData} {v : V} {u : Value}, DpX X.K H v d → RelV v u → ∃ as, Reads s.heap u d as ∧ sysModules ∉ as
  | _, _, _, .non, r => by cases r; exact ⟨_, Reads.none, by simp⟩
  | _, _, _, .bl b, r => by cases r; exact ⟨_, Reads.bool b, by simp⟩
  | _, _, _, .int i, r => by obtain ⟨t, rfl⟩ := r; exact ⟨_, Reads.int i t, by simp⟩
  | _, _, _, .str x, r => by obtain ⟨t, rfl⟩ := r; exact ⟨_, Reads.str x t, by simp⟩
  | _, _, _, .lst hs ha, r => by
    cases r
    obtain ⟨its, rv, ⟨o, n, ho, hc, _, hd⟩, _⟩ := I.list hs
    obtain ⟨as, hr, na⟩ := DpXs.reads I sm ha rv
    refine ⟨_, Reads.list ho hc hd hr, fun z => ?_⟩
    rcases List.mem_cons.mp z with z | z
    · exact SmB.ne I sm ho hd z
    · exact na z
  | _, _, _, .tup hs ha, r => by
    cases r
    obtain ⟨its, rv, ⟨o, ho, hc, n, hd⟩, _⟩ := I.tuple hs
    obtain ⟨as, hr, na⟩ := DpXs.reads I sm ha rv
    exact ⟨_, Reads.tuple ho hc hd hr, na⟩
  | _, _, _, .dct hs ha, r => by
    cases r
    obtain ⟨_, ns, vs, kv, dd⟩ := dk_of I.hok hs
    obtain ⟨bs, hp, nb⟩ := DpXd.reads I sm ha kv
    refine ⟨_, PyProof.V.reads_dictOf (enc := keyD) (fun k key e => key_reads (X := X) k key e) dd hp, fun z => ?_⟩
    rcases List.mem_cons.mp z with z | z
    · rw [z] at ns; simp at ns
    · exact nb z
theorem DpXs.reads (I : Inv X pins σ H s) (sm : SmB X.base) : ∀ {ds : List PyData} {vs : List V} {us : List Value}, DpXs X.K H vs ds → Vals vs us → ∃ as, ReadsAll s.heap us ds as ∧ sysModules ∉ as
  | _, _, _, .nil, r => by cases r; exact ⟨_, ReadsAll.nil, by simp⟩
  | _, _, _, .cons h1 h2, r => by
    cases r with
    | cons r1 r2 =>
      obtain ⟨as, q1, n1⟩ := DpX.reads I sm h1 r1
      obtain ⟨bs, q2, n2⟩ := DpXs.reads I sm h2 r2
      exact ⟨_, ReadsAll.cons q1 q2, fun z => (List.mem_append.mp z).elim n1 n2⟩
theorem DpXd.reads (I : Inv X pins σ H s) (sm : SmB X.base) : ∀ {D : List (PyData × PyData)} {kvs : List (Key × V)} {vs : List (Key × Value)}, DpXd X.K H kvs D → KV kvs vs → ∃ bs, PyProof.V.PairsRead s.heap keyD vs D bs ∧ sysModules ∉ bs
  | _, _, _, .nil, r => by cases r; exact ⟨_, PyProof.V.PairsRead.nil, by simp⟩
  | _, _, _, .cons h1 h2, r => by
    cases r with
    | @cons _ q _ _ r1 r2 =>
      obtain ⟨k', v'⟩ := q
      obtain ⟨e1, e2⟩ := r1
      simp only at e1 e2
      subst e1
      obtain ⟨as, q1, n1⟩ := DpX.reads I sm h1 e2
      obtain ⟨bs, q2, n2⟩ := DpXd.reads I sm h2 r2
      exact ⟨_, PyProof.V.PairsRead.cons q1 q2, fun z => (List.mem_append.mp z).elim n1 n2⟩
end
end
end RS
namespace RS
open PySem PySem.Spec L2
section
variable {X : Cx} {k : Nat}
def rReprX (K : PySem.W.Frag) : List V → Hp → VK → Prop := fun xs H Q => ∃ a d, xs = [.ref a] ∧ DpX K H (.ref a) d ∧ d.showable = true ∧ d.depth ≤ 60 ∧ d.shown.length ≤ sizeLine ∧ Q (.str d.shown) H
theorem c_reprX {K : PySem.W.Frag} {base : Heap} (sm : SmB base) (hr : Rm k X) (hK : X.K = K := by rfl) (hB : X.base = base := by rfl) : CallR X (.builtin "repr") (rReprX K) := by
  subst hK
  subst hB
  intro pins s σ H xs us Q I r h
  obtain ⟨a, d, rfl, hd, hs, hz, hl, q⟩ := h
  obtain ⟨u, rfl, ru⟩ := vals1 r
  cases ru
  obtain ⟨as, rd, na⟩ := DpX.reads I sm hd rfl
  refine repr_of_reads' (h₀ := s.heap) rd hs (fun _ => na) hr.gd (by have := hr.room.un; omega) (fun _ _ e => e) (fun h' u tk kp => ?_) hl
  exact ⟨.str _, H, I.kept kp, ⟨_, rfl⟩, q⟩
end
end RS
namespace RS
open PySem PySem.Spec L2
theorem sqT_same {K : PySem.W.Frag} {H H' : Hp} {a : Addr} {xs : List V} (h : SqT K H a xs) (s : Same H H') : SqT K H' a xs := by
  rcases h with (h | ⟨o, h⟩) | h
  · exact .inl (.inl (s _ _ h))
  · exact .inl (.inr ⟨o, s _ _ h⟩)
  · exact .inr h
mutual
theorem DpX.same {K : PySem.W.Frag} {H H' : Hp} (s : Same H H') : ∀ {v : V} {d : PyData}, DpX K H v d → DpX K H' v d
  | _, _, .non => .non
  | _, _, .bl b => .bl b
  | _, _, .int i => .int i
  | _, _, .str x => .str x
  | _, _, .lst h hs => .lst (sq_same h s) (hs.same s)
  | _, _, .tup h hs => .tup (sqT_same h s) (hs.same s)
  | _, _, .dct h hs => .dct (s _ _ h) (hs.same s)
theorem DpXs.same {K : PySem.W.Frag} {H H' : Hp} (s : Same H H') : ∀ {vs : List V} {ds : List PyData}, DpXs K H vs ds → DpXs K H' vs ds
  | _, _, .nil => .nil
  | _, _, .cons h hs => .cons (h.same s) (hs.same s)
theorem DpXd.same {K : PySem.W.Frag} {H H' : Hp} (s : Same H H') : ∀ {kvs : List (Key × V)} {D : List (PyData × PyData)}, DpXd K H kvs D → DpXd K H' kvs D
  | _, _, .nil => .nil
  | _, _, .cons h hs => .cons (h.same s) (hs.same s)
end
theorem DpXs.rep {K : PySem.W.Frag} {H : Hp} {v : V} {d : PyData} (h : DpX K H v d) : ∀ n, DpXs K H (List.replicate n v) (List.replicate n d)
  | 0 => .nil
  | n + 1 => .cons h (DpXs.rep h n)
end RS


namespace RS
open PySem PySem.Spec L2
theorem dp_bools {K : PySem.W.Frag} {H : Hp} : ∀ bs : List Bool, DpAll K H (bs.map V.bl) (bs.map PyData.bool)
  | [] => .nil
  | b :: bs => .cons (.bl b) (dp_bools bs)
theorem lay_bools : ∀ bs : List Bool, PyData.canLayAll0 (bs.map PyData.bool) = true ∧ PyData.depthAll (bs.map PyData.bool) = 0
  | [] => ⟨rfl, rfl⟩
  | b :: bs => by
    have h := lay_bools bs
    simp [PyData.canLayAll0, PyData.canLay0, PyData.depthAll, PyData.depth, h]
theorem shaped_bools (bs : List Bool) : SeqAt.shaped (.list (bs.map PyData.bool)) = true := by
  have h := lay_bools bs
  simp [SeqAt.shaped, PyData.canLay0, PyData.depth, h]
theorem eqv_bools : ∀ bs : List Bool, PyData.eqvAll (bs.map PyData.bool) (bs.map PyData.bool) = true
  | [] => rfl
  | b :: bs => by
    have h := eqv_bools bs
    simp [PyData.eqvAll, PyData.eqv, h]
/-- two lists of the same truth values: != says False -/
theorem ne_bools {K : PySem.W.Frag} {H : Hp} {Q : VK} {a p : Addr} (bs : List Bool) (h : SqL K H a (bs.map V.bl)) (hp : SqL K H p (bs.map V.bl)) (q : Q (.bl false) H) : rNeD K (.ref a) (.ref p) H Q := by
  refine ⟨.list (bs.map PyData.bool), .list (bs.map PyData.bool), .lst h (dp_bools bs), .lst hp (dp_bools bs), shaped_bools bs, shaped_bools bs, ?_⟩
  have e : PyData.eqv (.list (bs.map PyData.bool)) (.list (bs.map PyData.bool)) = true := by simp only [PyData.eqv]; exact eqv_bools bs
  rw [e]; exact q
end RS


namespace RS
open PySem PySem.Spec L2 PyProof.Rows
section
variable {X : Cx}
/-- list + list, of whatever standing -/
def rCatW (K : PySem.W.Frag) : R2 := fun x y H Q => ∃ l b xs zs, x = .ref l ∧ y = .ref b ∧ SqL K H l xs ∧ SqL K H b zs ∧ xs.length + zs.length ≤ sizeLine ∧ ∀ p, H p = none → Q (.ref p) (upd H p (.lst (xs ++ zs)))
theorem op_catW {K : PySem.W.Frag} (hK : X.K = K := by rfl) : OpR X (binaryOp .Add) (rCatW K) := by
  subst hK
  intro pins s σ H x y v u Q I rx ry h
  obtain ⟨l, b, xs, zs, rfl, rfl, hH, hB, hz, q⟩ := h
  cases rx
  cases ry
  obtain ⟨its, r, ⟨⟨c1, d1, t1, sl1⟩, n, ho, hc, hdd, hd⟩, _⟩ := I.list hH
  obtain ⟨its2, r2, ⟨⟨c2, d2, t2, sl2⟩, n2, ho2, hc2, hdd2, hd2⟩, _⟩ := I.list hB
  simp only at hc hd hdd hc2 hd2 hdd2
  subst hc hd hdd hc2 hd2 hdd2
  have l1 := r.length
  have l2 := r2.length
  refine concat_meets ⟨_, ho, rfl⟩ ⟨_, ho2, rfl⟩ noFill_list_add seq_list_add PySem.F.slot_list_add PySem.F.entry_list_add (PySem.F.args_list_add_2 _ _) (list_addW l b its.toArray its2.toArray n n2 none none sl1 sl2 (by rw [List.size_toArray, List.size_toArray]; omega)) ⟨ho, ho2, ?_⟩
  have ea : its.toArray ++ its2.toArray = (its ++ its2).toArray := by simp
  rw [ea]
  exact ⟨.ref _, _, I.lnew (t' := s.toks) (r.append r2) (by rw [List.length_append]; omega), rfl, q _ I.fresh⟩
end
end RS
namespace RS
open PySem PySem.Spec L2
theorem join_len_le (n b : Nat) : ∀ ts : List Str, ts.length ≤ n → (∀ t ∈ ts, t.length ≤ b) → (Str.join ", " ts).length ≤ n * (b + 2) := by
  intro ts hn hb
  by_cases e : ts = []
  · subst e; exact Nat.le_trans (by decide) (Nat.zero_le _)
  · have h := join_length_add ts e
    have hp : piled ts ≤ ts.length * (b + 2) := by
      clear h e hn
      induction ts with
      | nil => simp [piled]
      | cons t ts ih =>
        have h1 := hb t (List.mem_cons_self ..)
        have h2 := ih fun x hx => hb x (List.mem_cons_of_mem _ hx)
        simp only [piled, List.map_cons, List.sum_cons, List.length_cons] at h2 ⊢
        rw [Nat.add_mul]
        omega
    have : ts.length * (b + 2) ≤ n * (b + 2) := Nat.mul_le_mul_right _ hn
    omega
theorem shownAll_rep (d : PyData) : ∀ n, PyData.shownAll (List.replicate n d) = List.replicate n d.shown
  | 0 => by simp [PyData.shownAll]
  | n + 1 => by simp [List.replicate_succ, PyData.shownAll, shownAll_rep d n]
theorem showableAll_rep {d : PyData} (h : d.showable = true) : ∀ n, PyData.showableAll (List.replicate n d) = true
  | 0 => by simp [PyData.showableAll]
  | n + 1 => by simp [List.replicate_succ, PyData.showableAll, showableAll_rep h n, h]
theorem depthAll_rep (d : PyData) : ∀ n, PyData.depthAll (List.replicate n d) ≤ d.depth
  | 0 => by simp [PyData.depthAll]
  | n + 1 => by
    have := depthAll_rep d n
    simp only [List.replicate_succ, PyData.depthAll]; omega
theorem show_int {i : Int} (h : i.natAbs < 10 ^ 30) : (PyData.int i).showable = true ∧ (PyData.int i).depth = 0 ∧ (PyData.int i).shown.length ≤ 1000 := by
  refine ⟨?_, by simp [PyData.depth], ?_⟩
  · simp only [PyData.showable, decide_eq_true_eq]
    have h2 : i.natAbs < 2 ^ 1920 := Nat.lt_of_lt_of_le h (by decide +kernel)
    by_cases z : i.natAbs = 0
    · rw [z]; decide
    · exact (Nat.log2_lt z).mpr h2
  · rw [PyData.shown_int]
    have h3 := int_text_length_le10 (a := i) (k := 30) (by decide) h
    rw [ofString_length]
    omega
end RS


/-! own exception classes at the end of a law -/
namespace RS
open PySem PySem.Spec PySem.W L2
/-- what the kernel tells of an own exception class -/
structure XB (K : Frag) (C fI cda : Addr) (qual : Str) (B newId initId : String) (bmB : List Value) : Prop where
  q : excInitIn K C bmB newId = true
  ov : excOver K C bmB = true
  sup : ks_superIn K C C "__init__" = some (some (.builtin initId))
  sub : subIn K (.ref C) (.type B) = some true
  fn : typeIn K (.ref fI) = some (.type "function")
  cd : codeIn K (.ref cda) qual = true
  me : mroIn K C (.ref C) = some true
  kp : keepIn K (.ref C) = true
  hd : hasDictIn K C = true
  sa : findIn K (.ref C) "__setattr__" = some (some (.builtin "object.__setattr__"))
  hg : findIn K (.ref C) "__getattribute__" = some (some (.builtin "BaseException.__getattribute__"))
  hk : findIn K (.ref C) "__getattr__" = some none
  hs : subIn K (.ref C) (.type "BaseException") = some true
  ha : findIn K (.ref C) "__class__" = some (some (.builtin "object.__class__"))
  hm : mroIn K C (.type "object") = some true
/-- what is common -/
structure XA (P : Program) (K : Frag) : Prop where
  op : nsIn K cStatics "thirdparty.any" = some none
  nt : (P.main.scope.names.lookup ("super" : Str)).isSome = false
  hn : specialIn K (.builtin "object.__class__") "__get__" = some (some (.builtin "getset_descriptor.__get__"))
  ht : takesIn K (.builtin "object.__class__") = some true
section
variable {P : Program} {K : Frag} {C fI cda cc : Addr} {qual : Str} {st : Stmt} {B newId initId : String} {bmB : List Value}
  {oc kV doc pm ct ccl cl : Value} {od an cdd cld : Option Addr} {osl ccs csl : Array (Option Value)} {vs : Array Value} {file : Str} {tf : Tok}
theorem xc_mk (FB : ExcBaseFacts B newId initId bmB) (KF : KxsFacts B initId) (SF : StoreFacts B bmB "object.__setattr__" "object") (A : XA P K) (b : XB K C fI cda qual B newId initId bmB) (ini : findIn K (.ref C) "__init__" = some (some (.ref fI)))
    (l : K.lookup fI = some ⟨oc, od, .func (ksFn "__init__" qual (L2.defArgs st) (L2.defBody st) (L2.defScope st) .none kV doc pm an (.ref cda) ct cc), osl⟩)
    (co : K.lookup cda = some ⟨ccl, cdd, .fields vs, ccs⟩) (fi : vs[2]? = some (.str file tf)) (fe : ((P.main.file : Str) == file) = true) (ce : K.lookup cc = some ⟨cl, cld, .cell (some (.ref C)), csl⟩) :
    XC P K C fI cda cc qual st B newId initId bmB :=
  ⟨FB, KF, SF, b.q, b.ov, b.sup, b.sub, ini, b.fn, ⟨_, _, _, _, _, _, _, _, l⟩, b.cd, ⟨_, _, _, _, _, _, co, fi, fe⟩, ⟨_, _, _, ce⟩, b.me, A.op, A.nt⟩
theorem XB.exc (A : XA P K) (b : XB K C fI cda qual B newId initId bmB) : ExcC K C := ⟨b.hg, b.hk, b.hs, b.hd, b.ha, A.hn, A.ht, b.hm⟩
theorem XB.xf (b : XB K C fI cda qual B newId initId bmB) : XfC K C := ⟨b.hg, b.hk, b.hs, b.hd⟩
end
theorem df_mk {K : PySem.W.Frag} {x qual : Str} {st : Stmt} {f : Addr} {oc : Value} {od an : Option Addr} {osl : Array (Option Value)} {dV kV doc pm cdv ct : Value} (l : K.lookup f = some ⟨oc, od, .func (PySem.W.fnOf x qual (defArgs st) (defBody st) (defScope st) dV kV doc pm an cdv ct), osl⟩)
    (c : PySem.W.codeIn K cdv qual = true) (k : PySem.W.keepIn K (.ref f) = true) : Df K x qual st f (PySem.W.fnOf x qual (defArgs st) (defBody st) (defScope st) dV kV doc pm an cdv ct) dV := ⟨⟨oc, od, kV, doc, pm, an, cdv, ct, osl, rfl, l, c⟩, k⟩
end RS


namespace RS
open PySem PySem.Spec PyProof.Rows L2
/-- whether sys.modules is a dict -/
def smOk (h : Heap) : Bool := match h.get? sysModules with
  | some ⟨_, _, .dict _ _, _⟩ => true
  | _ => false
theorem smB_of {h : Heap} (e : smOk h = true) : SmB h := by
  unfold smOk at e
  split at e
  · rename_i c d es n sl q
    exact ⟨_, es, n, q, rfl⟩
  · cases e
/-- a hook that tells of sys.modules too -/
def smHook (k : PySem.W.Hook) : PySem.W.Hook :=
  ⟨k.α × Bool, fun s => (k.obs s, smOk s.heap), fun w => (k.val w, true), fun w h => k.says w h ∧ SmB h, fun w s e => ⟨k.of w s (Prod.mk.inj e).1, smB_of (Prod.mk.inj e).2⟩,
    fun w h h' x kp => ⟨k.keeps w h h' x.1 kp, by obtain ⟨o, es, n, e, d⟩ := x.2; exact ⟨o, es, n, kp _ _ e, d⟩⟩⟩
/-- the law's call, from its promise, where no repr is under way -/
theorem lawS {P : Program} {w : World} {K : PySem.W.Frag} {mg mb : Str → Option Value} {k : Nat} {fa a : Addr} {fd : FuncData} {x : Str} {sp : Sp} {s₁ : Shared} {vs : List Value} {ns : List Int}
    (KX : K.In s₁.heap) (gl : s₁.heap.Ns mainGlobals mg) (bl : s₁.heap.Ns builtinsNs mb) (bb : ∀ x : Str, x ≠ "__name__" → mb x = bootBuiltins x) (lim : s₁.heap.NoLimit) (ge : s₁.gens = #[])
    (ha : s₁.heap.get? a = some { cls := .type "list", data := .seq vs.toArray }) (hi : IntsAre vs ns) (hl : ns.length ≤ sizeLine) (hr : Room k callerA)
    (sm : SmB s₁.heap) (F : ∀ base : Heap, K.In base → base.Ns mainGlobals mg → SmB base → FnG ⟨P, w, K, mg, base⟩ k fa fd [x] sp) (bd : ∀ (s : Shared) (u : Value), BindsTo s fd ⟨[u], []⟩ [(x, u)])
    (hsp : ∀ H : Hp, Only H → SqL K H a (ns.map V.int) → sp [.ref a] H (fun v _ => v = .bl true) fun _ _ _ => False) :
    codeAny (model P w) callerA (.call (.ref fa) ⟨[.ref a], []⟩) (fun r s' => r = .ok (.ret (.bool true)) ∧ OldK s₁.heap s'.heap ∧ s'.os = s₁.os ∧ AllBare s'.gens) s₁ := by
  have rv := vals_ints hi
  -- H tracks the script, or nothing
  have go : ∀ H : Hp, Only H → SqL K H a (ns.map V.int) → HOk P w H s₁.heap → (∀ b o, s₁.heap.get? b = some o → (∃ u, H b = some u) → b = a ∧ K.lookup a = none) →
      codeAny (model P w) callerA (.call (.ref fa) ⟨[.ref a], []⟩) (fun r s' => r = .ok (.ret (.bool true)) ∧ OldK s₁.heap s'.heap ∧ s'.os = s₁.os ∧ AllBare s'.gens) s₁ := by
    intro H hO hS hok hA
    have free : ∀ {b : Addr} {o : Obj}, s₁.heap.get? b = some o → (∀ v n, o.data ≠ .seq v n) → H b = none := by
      intro b o e nd
      cases q : H b with
      | none => rfl
      | some u =>
        obtain ⟨rfl, _⟩ := hA b o e ⟨u, q⟩
        rw [ha] at e
        cases e
        exact absurd rfl (nd _ _)
    have ns1 : ∀ {b : Addr} {m : Str → Option Value}, s₁.heap.Ns b m → (hidT s₁.heap H).Ns b m := by
      rintro b m ⟨o, es, ep, e, d, r⟩
      exact ⟨o, es, ep, hidT_get e (free e fun v n z => by rw [d] at z; cases z), d, r⟩
    have K1 : K.In (hidT s₁.heap H) := by
      intro b o e
      refine hidT_get (KX b o e) ?_
      cases q : H b with
      | none => rfl
      | some u =>
        obtain ⟨rfl, z⟩ := hA b o (KX b o e) ⟨u, q⟩
        rw [z] at e
        cases e
    have md : Mod K mg (hidT s₁.heap H) := by
      obtain ⟨mc, l1, l2⟩ := lim
      exact ⟨K1, ns1 gl, ⟨mb, ns1 bl, bb⟩, mc, ns1 l1, l2⟩
    have e0 : Env0 P w K mg (hidT s₁.heap H) callerA [] s₁ H :=
      { frames := rfl, mod := md, bs := fun b o e => of_hidT e, bsz := Nat.le_of_eq (hidT_size _ _), funs := trivial, frf := fun b hb => (nomatch hb), hok := hok, bare := .of_eq ge }
    have sm1 : SmB (hidT s₁.heap H) := by
      obtain ⟨o, es, n, e, d⟩ := sm
      exact ⟨o, es, n, hidT_get e (free e fun v n z => by rw [d] at z; cases z), d⟩
    refine codeAny_mono ((F _ K1 (ns1 gl) sm1).run callerA [] s₁ H ⟨[.ref a], []⟩ [.ref a] [.ref a] _ _ hr rfl e0 (bd s₁ (.ref a)) (.cons rfl .nil) (hsp H hO hS)) ?_
    rintro r s' h
    cases r with
    | error e =>
      obtain ⟨_, _, _, _, _, _, _, _, _, _, _, _, z⟩ := h
      exact z.elim
    | ok fl => cases fl with
      | ret u =>
        obtain ⟨v, H', os, bare, un, hok', r', q⟩ := h
        obtain rfl : v = .bl true := q
        obtain rfl : u = Value.bool true := r'
        refine ⟨rfl, OldK.of_keep fun b o e => ?_, os, bare⟩
        rcases hO b with z | ⟨ob, xs, z⟩
        · exact un.keep b o e z (fun y => (nomatch y)) (fun y => (nomatch y))
        · have z2 := un.frzs b ob _ z
          have e1 := (hok b _ z).1
          rw [e] at e1
          cases e1
          exact (hok' b _ z2).1
      | _ => exact h.elim
  cases hk : K.lookup a with
  | some o =>
    have e := KX a o hk
    rw [ha] at e
    cases e
    refine go (fun _ => none) (fun _ => .inl rfl) (.inr ⟨_, vs.toArray, _, hk, rfl, rfl, rfl, by rw [List.size_toArray, hi.length]; exact hl, by simpa using rv⟩) (fun b u z => nomatch z) fun b o _ z => ?_
    obtain ⟨u, z⟩ := z
    cases z
  | none =>
    refine go (upd (fun _ => none) a (.frz { cls := .type "list", data := .seq vs.toArray } (.lst (ns.map V.int)))) (fun b => ?_) (.inl (.inr ⟨_, upd_same⟩)) (fun b u z => ?_) fun b o e z => ?_
    · by_cases hb : b = a
      · subst hb; exact .inr ⟨_, _, upd_same⟩
      · exact .inl (upd_ne hb)
    · by_cases hb : b = a
      · subst hb
        rw [upd_same] at z
        cases z
        exact ⟨ha, by rw [List.length_map]; exact hl, vs, _, rv, ha⟩
      · rw [upd_ne hb] at z
        cases z
    · obtain ⟨u, z⟩ := z
      by_cases hb : b = a
      · exact ⟨hb, hk⟩
      · rw [upd_ne hb] at z
        cases z

/-- the goal that k_head leaves, from the law's promise -/
theorem walkS {l : PySem.W.OpenLaw} {n k : Nat} {q : Program} {loose : List Str} {XP : (Str → Option Value) → Heap → Prop} {YP : World → Heap → Prop} {d : DefRec} {K : Params → PySem.W.Frag} {sp : World → Sp} {x : Str}
    (hn : l.most = some n) (hn2 : n ≤ sizeLine) (hdf : d.params.defaults = []) (hr : Room k callerA)
    (hY : ∀ (w : World) (h : Heap), YP w h → (K w.params).In h) (hY2 : ∀ (w : World) (h : Heap), YP w h → SmB h)
    (F : ∀ (w : World) (mg : Str → Option Value) (fa : Addr) (h : Heap), (K w.params).In h → h.Ns mainGlobals mg → mg d.name = some (.ref fa) →
      ∃ fd : FuncData, (∀ (s : Shared) (u : Value), BindsTo s fd ⟨[u], []⟩ [(x, u)]) ∧
        ∀ base : Heap, (K w.params).In base → base.Ns mainGlobals mg → SmB base → FnG ⟨l.prog, w, K w.params, mg, base⟩ k fa fd [x] (sp w))
    (hsp : ∀ (w : World) (H : Hp) (a : Addr) (ns : List Int), ns.length ≤ n → (∀ z ∈ ns, Builtin.Int.intBits z ≤ 1048576) → Only H → SqL (K w.params) H a (ns.map V.int) → sp w [.ref a] H (fun v _ => v = .bl true) fun _ _ _ => False) :
    PySem.W.WalkO q loose XP YP l.row.toRowW d [] (fun f vs => PySem.call f vs) := by
  refine Att.attach_callB hn hdf fun w s₀ s₁ mg mb fa o pm cd doc a vs ns G Y ho hd hcd hmg hobj hints hlen hbits hg => ?_
  obtain ⟨fd, hb, hF⟩ := F w mg fa _ (hY w _ Y) G.T.g hmg
  exact lawS (hY w _ Y) G.T.g G.T.b G.T.builtins G.T.nolimit hg hobj hints (Nat.le_trans hlen hn2) hr (hY2 w _ Y) hF hb fun H hO hS => hsp w H a ns hlen hbits hO hS
end RS


namespace RS
open PySem PySem.Spec L2 PyProof.Rows
section
variable {X : Cx} {k : Nat}
/-! ### repr of whatever is data -/
def rReprV (K : PySem.W.Frag) : List V → Hp → VK → Prop := fun xs H Q => ∃ v d, xs = [v] ∧ DpX K H v d ∧ d.showable = true ∧ d.depth ≤ 60 ∧ d.shown.length ≤ sizeLine ∧ Q (.str d.shown) H
theorem c_reprV {K : PySem.W.Frag} {base : Heap} (sm : SmB base) (hr : Rm k X) (hK : X.K = K := by rfl) (hB : X.base = base := by rfl) : CallR X (.builtin "repr") (rReprV K) := by
  subst hK
  subst hB
  intro pins s σ H xs us Q I r h
  obtain ⟨v, d, rfl, hd, hs, hz, hl, q⟩ := h
  obtain ⟨u, rfl, ru⟩ := vals1 r
  cases hd with
  | non =>
    cases ru
    rw [PyData.shown_none] at q
    exact PySem.P.repr_of_none ⟨.str _, H, I.tok _, ⟨_, rfl⟩, q⟩
  | bl b =>
    cases ru
    rw [PyData.shown_bool] at q
    exact PySem.P.repr_of_bool ⟨.str _, H, I.tok _, ⟨_, rfl⟩, q⟩
  | int i =>
    obtain ⟨t, rfl⟩ := ru
    rw [PyData.shown_int] at q
    have hb : i.natAbs.log2 < 1920 := by simpa [PyData.showable] using hs
    exact PySem.P.repr_of_int hb ⟨.str _, H, I.tok _, ⟨_, rfl⟩, q⟩
  | str x =>
    obtain ⟨t, rfl⟩ := ru
    rw [PyData.shown_str] at q hl
    exact PySem.P.repr_of_str ⟨.str _, H, I.tok _, ⟨_, rfl⟩, q⟩ hl
  | @lst a xs ds h1 h2 => exact c_reprX (base := X.base) sm hr rfl rfl pins s σ H _ _ Q I r ⟨a, _, rfl, .lst h1 h2, hs, hz, hl, q⟩
  | @tup a xs ds h1 h2 => exact c_reprX (base := X.base) sm hr rfl rfl pins s σ H _ _ Q I r ⟨a, _, rfl, .tup h1 h2, hs, hz, hl, q⟩
  | @dct a kvs D h1 h2 => exact c_reprX (base := X.base) sm hr rfl rfl pins s σ H _ _ Q I r ⟨a, _, rfl, .dct h1 h2, hs, hz, hl, q⟩
/-! ### two lists, one of them empty -/
def rNeE (K : PySem.W.Frag) : R2 := fun x y H Q => ∃ a b xs ys, x = .ref a ∧ y = .ref b ∧ SqL K H a xs ∧ SqL K H b ys ∧ (xs = [] ∨ ys = []) ∧ Q (.bl (decide (xs.length ≠ ys.length))) H
theorem op_neE {K : PySem.W.Frag} (hr : Rm k X) (hK : X.K = K := by rfl) : OpR X (compareOp .NotEq) (rNeE K) := by
  subst hK
  intro pins s σ H x y v u Q I rx ry h
  obtain ⟨a, b, xs, ys, rfl, rfl, ha, hb, he, q⟩ := h
  cases rx
  cases ry
  obtain ⟨its, r1, ⟨o1, n1, ho1, hc1, hdd1, hd1⟩, _⟩ := I.list ha
  obtain ⟨its2, r2, ⟨o2, n2, ho2, hc2, hdd2, hd2⟩, _⟩ := I.list hb
  have l1 := r1.length
  have l2 := r2.length
  have hu : X.A.units < cLine := by have := hr.room.un; omega
  by_cases hl : xs.length = ys.length
  · have z : its.toArray.size = its2.toArray.size := by simp; omega
    have zz : its.length = 0 := by
      rcases he with e | e
      · rw [← l1, e]; rfl
      · rw [← l1, hl, e]; rfl
    have := SeqAt.RcNeAt.lists (A := X.A) (s := s) (l := a) (b := b) (e := fun _ => true) ⟨o1, ho1, hc1, n1, hd1⟩ ⟨o2, ho2, hc2, n2, hd2⟩ z hu (fun j h1 _ => by simp [zz] at h1)
    refine this X.prog X.w X.xe _ ⟨.bl (decide (xs.length ≠ ys.length)), H, I, ?_, q⟩
    simp [hl, zz]; exact rfl
  · have z : (its.toArray.size != its2.toArray.size) = true := by simp; omega
    have := SeqAt.RcNeAt.lists_lengths (A := X.A) (s := s) (l := a) (b := b) ⟨o1, ho1, hc1, n1, hd1⟩ ⟨o2, ho2, hc2, n2, hd2⟩ z hu
    refine this X.prog X.w X.xe _ ⟨.bl (decide (xs.length ≠ ys.length)), H, I, ?_, q⟩
    simp [hl]; exact rfl
end
end RS


/-! list(enumerate(x)), x a list or a tuple -/
namespace RS
open PySem PySem.Spec
/-- an iterator whose turns give out no token -/
structure Dr (prog : Program) (w : World) (A : Around) (it : Addr) (fp : List Addr) (n : Nat) (P : Nat → Value → Prop) (St : Nat → Heap → Prop) : Prop where
  fr : ∀ i h h', St i h → (∀ b ∈ fp, ∀ o, h.get? b = some o → h'.get? b = some o) → St i h'
  nx : ∀ i (s : Shared) (Q : Value → Shared → Prop) (E : Value → Shared → Prop), i < n → St i s.heap → (∀ x h', P i x → St (i + 1) h' → Heap.SameBut it s.heap h' → Q x { s with heap := h' }) → wpAny (model prog w) A (Builtin.SmallTypes.nextOf (.ref it)) Q E s
  dn : ∀ (s : Shared) (Q : Value → Shared → Prop) (E : Value → Shared → Prop), St n s.heap → (∀ h' e, Heap.ExtBut it s.heap h' → (∃ o, h'.get? e = some o ∧ o.cls = .type "StopIteration") → E (.ref e) { s with heap := h' }) → wpAny (model prog w) A (Builtin.SmallTypes.nextOf (.ref it)) Q E s
section
variable {prog : Program} {w : World} {A : Around} {E : Value → Shared → Prop} {s : Shared}
theorem dr_list (hh : A.handled = none) (it l : Addr) (ne : l ≠ it) (xs : Array Value) : Dr prog w A it [it, l] xs.size (fun i v => xs[i]? = some v) (fun i h => h.IsListIter it l i ∧ h.IsList l xs) :=
  ⟨fun _ _ _ z k => ⟨z.1.at fun o e => k it (by simp) o e, z.2.at fun o e => k l (by simp) o e⟩,
   fun i s Q E lt z k => wpAny_nextOf_list_item z.1 z.2 (x := xs[i]) (by simp [lt]) fun h' a b => k _ h' (by simp [lt]) ⟨a, z.2.extBut b.extBut ne⟩ b,
   fun s Q E z k => wpAny_nextOf_list_end hh z.1 z.2 (by simp) k⟩
theorem dr_tup (hh : A.handled = none) (it l : Addr) (ne : l ≠ it) (xs : Array Value) : Dr prog w A it [it, l] xs.size (fun i v => xs[i]? = some v) (fun i h => h.IsTupleIter it l i ∧ h.IsTuple l xs) :=
  ⟨fun _ _ _ z k => ⟨z.1.at fun o e => k it (by simp) o e, z.2.at fun o e => k l (by simp) o e⟩,
   fun i s Q E lt z k => wpAny_nextOf_tuple_item z.1 z.2 (x := xs[i]) (by simp [lt]) fun h' a b => k _ h' (by simp [lt]) ⟨a, z.2.extBut b.extBut ne⟩ b,
   fun s Q E z k => wpAny_nextOf_tuple_end hh z.1 z.2 (by simp) k⟩
/-- an enumerate's record -/
abbrev enO (f0 f1 : Value) (it : Addr) (c : Int) (old : Value) : Obj := { cls := .type "enumerate", dict := none, data := .fields #[f0, f1, .ref it, rawInt c, .none, old], slots := #[] }
abbrev tupO (c : Int) (t : Tok) (x : Value) : Obj := { cls := .type "tuple", data := .seq #[.int c t, x] }
/-- its state: no tuple is out, or one is out and held -/
def EnS (h : Heap) (e it : Addr) (c : Int) : Prop := (∃ old, h.get? e = some (enO .none (.bool false) it c old)) ∨ ∃ (old : Value) (T : Addr) (f : Bool) (o : Obj), h.get? e = some (enO (rawInt T) (.bool f) it c old) ∧ h.get? T = some o ∧ T ≠ e ∧ T ≠ it ∧ o.cls = .type "tuple"
theorem en_next {e it : Addr} {fp : List Addr} {n i : Nat} {P : Nat → Value → Prop} {St : Nat → Heap → Prop} {Q : Value → Shared → Prop} (D : Dr prog w A it fp n P St) (he : EnS s.heap e it i) (hst : St i s.heap) (lt : i < n) (ne : e ≠ it) (nf : e ∉ fp) (hi : it < s.heap.objs.size)
    (k : ∀ x h', P i x → EnS h' e it (i + 1 : Nat) → St (i + 1) h' → h'.get? s.heap.objs.size = some (tupO i s.toks x) → h'.objs.size = s.heap.objs.size + 1 → (∀ b o, b ≠ e → b ≠ it → s.heap.get? b = some o → h'.get? b = some o) → Q (.ref s.heap.objs.size) { s with heap := h', toks := s.toks + 1 }) :
    wpAny (model prog w) A (Builtin.«enumerate.__next__» ⟨[.ref e], []⟩) (fun r z => ∃ v, r = .done (.ret v) ∧ Q v z) E s := by
  obtain ⟨H, gs, dr, tk, os⟩ := s
  have ec : ((i + 1 : Nat) : Int) = (i : Int) + 1 := by omega
  obtain ⟨f0, f1, old, hE⟩ : ∃ f0 f1 old, H.get? e = some (enO f0 f1 it i old) := by
    rcases he with ⟨old, z⟩ | ⟨old, T, f, o, z, _⟩
    · exact ⟨_, _, _, z⟩
    · exact ⟨_, _, _, z⟩
  have le : e < H.objs.size := Heap.lt_size hE
  unfold Builtin.«enumerate.__next__»
  refine wpAny_bind (wpAny_of_eq (a := ((Value.ref e : Value), ([] : List Value))) (by rfl) ?_)
  refine wpAny_bind (wpAny_field hE rfl (x := .ref it) rfl ?_)
  refine wpAny_bind (D.nx i ⟨H, gs, dr, tk, os⟩ _ _ lt hst fun x H1 px st1 m1 => ?_)
  have E1 : H1.get? e = some (enO f0 f1 it i old) := (m1.2 e ne).trans hE
  refine wpAny_bind (wpAny_field E1 rfl (x := rawInt i) rfl ?_)
  refine wpAny_bind (wpAny_field E1 rfl (x := .none) rfl ?_)
  show wpAny _ _ ((mkInt (i : Int)) >>= _) _ _ ⟨H1, gs, dr, tk, os⟩
  refine wpAny_bind (wpAny_mkInt ?_)
  refine wpAny_bind (wpAny_setField_rec (s := ⟨H1, gs, dr, tk + 1, os⟩) E1 (by simp) fun H2 E2 m2 => ?_)
  have E2' : H2.get? e = some (enO f0 f1 it ((i : Int) + 1) old) := E2
  refine wpAny_bind (wpAny_setField_rec (s := ⟨H2, gs, dr, tk + 1, os⟩) E2' (by simp) fun H3 E3 m3 => ?_)
  have E3' : H3.get? e = some (enO f0 f1 it ((i : Int) + 1) old) := E3
  have m2' : Heap.SameBut e H1 H2 := m2
  have m3' : Heap.SameBut e H2 H3 := m3
  have m1' : Heap.SameBut it H H1 := m1
  have z3 : H3.objs.size = H.objs.size := by rw [m3'.1, m2'.1, m1'.1]
  refine wpAny_bind (wpAny_newTuple ?_)
  have keep4 : ∀ b o, b ≠ e → b ≠ it → H.get? b = some o → (H3.push (tupO i tk x)).get? b = some o := fun b o x1 x2 z => Heap.get?_push_of_some _ (m3'.extBut b o x1 (m2'.extBut b o x1 (m1'.extBut b o x2 z)))
  have E4 : (H3.push (tupO i tk x)).get? e = some (enO f0 f1 it ((i : Int) + 1) old) := Heap.get?_push_of_some _ E3'
  have T4 : (H3.push (tupO i tk x)).get? H.objs.size = some (tupO i tk x) := by rw [← z3]; exact Heap.get?_push_size _ rfl
  have st4 : St (i + 1) (H3.push (tupO i tk x)) := D.fr _ _ _ st1 fun b hb o z => by
    have x1 : b ≠ e := fun q => nf (q ▸ hb)
    exact Heap.get?_push_of_some _ (m3'.extBut b o x1 (m2'.extBut b o x1 z))
  have z4 : (H3.push (tupO i tk x)).objs.size = H.objs.size + 1 := by rw [Heap.size_push, z3]
  have keepT : ∀ T o, T ≠ e → T ≠ it → H.get? T = some o → (H3.push (tupO i tk x)).get? T = some o := keep4
  show wpAny _ _ (Builtin.SmallTypes.ownedTupleIsFree (.ref e) >>= _) _ _ ⟨H3.push (tupO i tk x), gs, dr, tk + 1, os⟩
  rw [z3]
  generalize H3.push (tupO i tk x) = H4 at keep4 E4 T4 st4 z4 keepT ⊢
  have nT : H.objs.size ≠ e := Nat.ne_of_gt le
  have nI : H.objs.size ≠ it := Nat.ne_of_gt hi
  rcases he with ⟨old', z⟩ | ⟨old', T, f, oT, z, hT, n1, n2, ct⟩
  · have q : enO f0 f1 it i old = enO .none (.bool false) it i old' := Option.some.inj (hE.symm.trans z)
    have qq := congrArg (fun o : Obj => match o.data with | .fields vs => vs.toList | _ => []) q
    simp only [List.cons.injEq] at qq
    have q0 : f0 = .none := qq.1
    have q1 : f1 = .bool false := qq.2.1
    subst q0 q1
    refine wpAny_bind ?_
    unfold Builtin.SmallTypes.ownedTupleIsFree
    refine wpAny_bind (wpAny_field E4 rfl (x := .none) rfl (wpAny_pure ?_))
    simp only [if_true]
    refine wpAny_bind (wpAny_rule ?_)
    refine wpAny_bind (wpAny_field E4 rfl (x := old) rfl ?_)
    refine wpAny_bind (wpAny_setField_rec E4 (by simp) fun H5 E5 m5 => ?_)
    have E5' : H5.get? e = some (enO .none (.bool false) it ((i : Int) + 1) x) := E5
    have m5' : Heap.SameBut e H4 H5 := m5
    refine wpAny_bind ?_
    unfold Builtin.SmallTypes.ownedTupleHandOut
    refine wpAny_bind (wpAny_setField_rec E5' (by simp) fun H6 E6 m6 => ?_)
    have m6' : Heap.SameBut e H5 H6 := m6
    refine wpAny_setField_rec E6 (by simp) fun H7 E7 m7 => ?_
    have m7' : Heap.SameBut e H6 H7 := m7
    have E7' : H7.get? e = some (enO (rawInt H.objs.size) (.bool false) it ((i + 1 : Nat) : Int) x) := by rw [ec]; exact E7
    have kk : ∀ b o, b ≠ e → H4.get? b = some o → H7.get? b = some o := fun b o x1 z => m7'.extBut b o x1 (m6'.extBut b o x1 (m5'.extBut b o x1 z))
    refine wpAny_bind (wpAny_letGo (wpAny_pure ⟨_, rfl, k x H7 px (.inr ⟨x, H.objs.size, false, _, E7', kk _ _ nT T4, nT, nI, rfl⟩) (D.fr _ _ _ st4 fun b hb o z => kk b o (fun q => nf (q ▸ hb)) z) (kk _ _ nT T4) ?_ fun b o x1 x2 z => kk b o x1 (keep4 b o x1 x2 z)⟩))
    show H7.objs.size = H.objs.size + 1
    rw [m7'.1, m6'.1, m5'.1, z4]
  · have q : enO f0 f1 it i old = enO (rawInt T) (.bool f) it i old' := Option.some.inj (hE.symm.trans z)
    have qq := congrArg (fun o : Obj => match o.data with | .fields vs => vs.toList | _ => []) q
    simp only [List.cons.injEq] at qq
    have q0 : f0 = rawInt T := qq.1
    have q1 : f1 = .bool f := qq.2.1
    subst q0 q1
    refine wpAny_bind (wpAny_tupleHeld_enum (s := ⟨H4, gs, dr, tk + 1, os⟩) E4 (keepT T oT n1 n2 hT) fun H5 E5 m5 => ?_)
    have m5' : Heap.SameBut e H4 H5 := m5
    simp only [Bool.false_eq_true, if_false]
    have kk : ∀ b o, b ≠ e → H4.get? b = some o → H5.get? b = some o := fun b o x1 z => m5'.extBut b o x1 z
    refine wpAny_pure ⟨_, rfl, k x H5 px (.inr ⟨old, T, true, oT, by rw [ec]; exact E5, kk _ _ n1 (keepT T oT n1 n2 hT), n1, n2, ct⟩) (D.fr _ _ _ st4 fun b hb o z => kk b o (fun q => nf (q ▸ hb)) z) (kk _ _ nT T4) ?_ fun b o x1 x2 z => kk b o x1 (keep4 b o x1 x2 z)⟩
    show H5.objs.size = H.objs.size + 1
    rw [m5'.1, z4]
end
end RS


namespace RS
open PySem PySem.Spec
section
variable {prog : Program} {w : World} {A : Around} {E : Value → Shared → Prop} {s : Shared} {e it : Addr} {fp : List Addr} {n i : Nat} {P : Nat → Value → Prop} {St : Nat → Heap → Prop}
theorem EnS.ty {h : Heap} {c : Int} (x : EnS h e it c) : ∃ o, h.get? e = some o ∧ o.cls = .type "enumerate" := by
  rcases x with ⟨old, z⟩ | ⟨old, T, f, o, z, _⟩
  · exact ⟨_, z, rfl⟩
  · exact ⟨_, z, rfl⟩
theorem en_item {Q : Option Value → Shared → Prop} (D : Dr prog w A.in1 it fp n P St) (he : EnS s.heap e it i) (hst : St i s.heap) (lt : i < n) (ne : e ≠ it) (nf : e ∉ fp) (hi : it < s.heap.objs.size)
    (k : ∀ x h', P i x → EnS h' e it (i + 1 : Nat) → St (i + 1) h' → h'.get? s.heap.objs.size = some (tupO i s.toks x) → h'.objs.size = s.heap.objs.size + 1 → (∀ b o, b ≠ e → b ≠ it → s.heap.get? b = some o → h'.get? b = some o) → Q (some (.ref s.heap.objs.size)) { s with heap := h', toks := s.toks + 1 }) :
    wpAny (model prog w) A (pyNext (.ref e)) Q E s := by
  have ty : s.TypeIs (.ref e) "enumerate" := he.ty
  unfold pyNext
  refine wpAny_bind (wpAny_attempt (wpAny_callSpecial?_slot (name := ("__next__" : Str)) ty F.slot_enumerate_next (wpAny_call_entry F.slot_enumerate_next ty F.entry_enumerate_next ?_ (F.args_enumerate_next_1 _))))
  exact en_next D he hst lt ne nf hi fun x h' a b c d f g => wpAny_pure (k x h' a b c d f g)
theorem en_end {Q : Option Value → Shared → Prop} {c : Int} (D : Dr prog w A.in1 it fp n P St) (he : EnS s.heap e it c) (hst : St n s.heap) (k : ∀ h', Heap.ExtBut it s.heap h' → Q none { s with heap := h' }) : wpAny (model prog w) A (pyNext (.ref e)) Q E s := by
  have ty : s.TypeIs (.ref e) "enumerate" := he.ty
  obtain ⟨f0, f1, old, hE⟩ : ∃ f0 f1 old, s.heap.get? e = some (enO f0 f1 it c old) := by
    rcases he with ⟨old, z⟩ | ⟨old, T, f, o, z, _⟩
    · exact ⟨_, _, _, z⟩
    · exact ⟨_, _, _, z⟩
  unfold pyNext
  refine wpAny_bind (wpAny_attempt (wpAny_callSpecial?_slot (name := ("__next__" : Str)) ty F.slot_enumerate_next (wpAny_call_entry F.slot_enumerate_next ty F.entry_enumerate_next ?_ (F.args_enumerate_next_1 _))))
  unfold Builtin.«enumerate.__next__»
  refine wpAny_bind (wpAny_of_eq (a := ((Value.ref e : Value), ([] : List Value))) (by rfl) ?_)
  refine wpAny_bind (wpAny_field hE rfl (x := .ref it) rfl ?_)
  refine wpAny_bind (D.dn s _ _ hst fun h' x eb hx => ?_)
  obtain ⟨o, ho, hc⟩ := hx
  exact wpAny_bind (wpAny_isInstance (T := "StopIteration") (b := true) ⟨o, ho, hc⟩ isSubtype_stop (wpAny_pure (k _ eb)))
abbrev lstO (acc : Array Value) (c : Nat) : Obj := { cls := .type "list", dict := none, data := .seq acc c, slots := #[] }
/-- the tuples laid so far -/
def Laid (P : Nat → Value → Prop) (b0 m : Nat) (h : Heap) : Prop := ∀ j, j < m → ∃ t x, h.get? (b0 + j) = some (tupO j t x) ∧ P j x
def refsR (b0 m : Nat) : List Value := (List.range m).map fun j => .ref (b0 + j)
theorem refsR_succ (b0 m : Nat) : refsR b0 (m + 1) = refsR b0 m ++ [.ref (b0 + m)] := by simp [refsR, List.range_succ]
theorem en_loop {R : Result → Shared → Prop} {S : Addr} {b0 : Nat} {h₁ : Heap} {res : Value} (D : Dr prog w A.in1.in1 it fp n P St) (ne : e ≠ it) (nf : e ∉ fp) (Sf : S ∉ fp) (Se : S ≠ e) (Si : S ≠ it) (hn : n ≤ sizeLine) (lS : S < b0) (li : it < b0) (le : e < b0)
    (hR : ∀ h' tk c, (∀ b o, b ≠ S → b ≠ e → b ≠ it → h₁.get? b = some o → h'.get? b = some o) → h'.get? S = some (lstO (refsR b0 n).toArray c) → Laid P b0 n h' → R (.ok (.ret res)) { s with heap := h', toks := tk }) :
    ∀ (k i : Nat) (h : Heap) (tk c : Nat), n - i = k → i ≤ n → EnS h e it i → St i h → h.objs.size = b0 + i → (∀ b o, b ≠ S → b ≠ e → b ≠ it → h₁.get? b = some o → h.get? b = some o) → h.get? S = some (lstO (refsR b0 i).toArray c) → Laid P b0 i h →
      codeAny (model prog w) A (.builtin "list.extend.loop" ⟨[.ref S, .ref e, res], []⟩) R { s with heap := h, toks := tk } := by
  have nS : ∀ j : Nat, (b0 + j : Nat) ≠ S := fun j => Nat.ne_of_gt (Nat.lt_of_lt_of_le lS (Nat.le_add_right _ _))
  have nE : ∀ j : Nat, (b0 + j : Nat) ≠ e := fun j => Nat.ne_of_gt (Nat.lt_of_lt_of_le le (Nat.le_add_right _ _))
  have nI : ∀ j : Nat, (b0 + j : Nat) ≠ it := fun j => Nat.ne_of_gt (Nat.lt_of_lt_of_le li (Nat.le_add_right _ _))
  intro k
  induction k with
  | zero =>
    intro i h tk c hk hi he st sz kp hS la
    have : i = n := by omega
    subst this
    refine codeAny_builtin PySem.F.entry_extend_loop ?_
    rw [Around.under_plainId PySem.F.plain_extend_loop _]
    unfold Builtin.«list.extend.loop»
    refine wpAny_bind (en_end (s := { s with heap := h, toks := tk }) D he st fun h' eb => wpAny_pure (hR h' tk c (fun b o x1 x2 x3 z => eb b o x3 (kp b o x1 x2 x3 z)) (eb S _ Si hS) fun j hj => ?_))
    obtain ⟨t, x, z, p⟩ := la j hj
    exact ⟨t, x, eb _ _ (nI j) z, p⟩
  | succ k ih =>
    intro i h tk c hk hi he st sz kp hS la
    have lt : i < n := by omega
    refine codeAny_builtin PySem.F.entry_extend_loop ?_
    rw [Around.under_plainId PySem.F.plain_extend_loop _]
    unfold Builtin.«list.extend.loop»
    refine wpAny_bind (en_item (s := { s with heap := h, toks := tk }) D he st lt ne nf (by show it < h.objs.size; rw [sz]; exact Nat.lt_of_lt_of_le li (Nat.le_add_right _ _)) fun x h' px he' st' T' z' k' => ?_)
    have T2 : h'.get? (b0 + i) = some (tupO i tk x) := by rw [← sz]; exact T'
    have z2 : h'.objs.size = b0 + i + 1 := by rw [z']; show h.objs.size + 1 = _; rw [sz]
    have S2 := k' S _ Se Si hS
    have up : Heap.SameBut S h' (h'.update S (Obj.mapSeq (·.push (.ref (b0 + i))))) := Heap.SameBut.update ..
    have S3 := Heap.get?_update_self (Obj.mapSeq (·.push (Value.ref (b0 + i)))) S2 rfl
    have szr : (refsR b0 i).toArray.size = i := by simp [refsR]
    show wpAny _ A.in1 (updateSeq S (·.push (.ref h.objs.size)) >>= fun _ => _) _ _ _
    rw [sz]
    refine wpAny_bind (wpAny_updateSeq S2 rfl (wpAny_pure ⟨plainId_quiet PySem.F.plain_extend_loop _, ih (i + 1) _ _ (if ((refsR b0 i).toArray.push (Value.ref (b0 + i))).size == (refsR b0 i).toArray.size then c else c + 1) (by omega) lt ?_ ?_ ?_ ?_ ?_ ?_⟩) (by rw [szr]; omega) (by show ((refsR b0 i).toArray.push _).size ≤ sizeLine + 1; rw [Array.size_push, szr]; omega))
    · rcases he' with ⟨old, z⟩ | ⟨old, T, f, o, z, y1, y2, y3, y4⟩
      · exact .inl ⟨old, up.extBut _ _ (Ne.symm Se) z⟩
      · refine .inr ⟨old, T, f, o, up.extBut _ _ (Ne.symm Se) z, up.extBut _ _ (fun q => ?_) y1, y2, y3, y4⟩
        rw [q, S2] at y1
        cases y1
        exact absurd y4 (by show ¬ Value.type "list" = Value.type "tuple"; decide)
    · exact D.fr _ _ _ st' fun b hb o z => up.extBut _ _ (fun q => Sf (q ▸ hb)) z
    · rw [up.1, z2]; omega
    · exact fun b o x1 x2 x3 z => up.extBut b o x1 (k' b o x2 x3 (kp b o x1 x2 x3 z))
    · have : (refsR b0 (i + 1)).toArray = (refsR b0 i).toArray.push (.ref (b0 + i)) := by rw [refsR_succ]; simp
      rw [this]; exact S3
    · intro j hj
      by_cases q : j = i
      · subst q
        exact ⟨tk, x, up.extBut _ _ (nS _) T2, px⟩
      · obtain ⟨t, y, z, p⟩ := la j (by omega)
        exact ⟨t, y, up.extBut _ _ (nS _) (k' _ _ (nE _) (nI _) z), p⟩
end
end RS


namespace RS
open PySem PySem.Spec
abbrev itO (kind : String) (l : Addr) : Obj := { cls := .type kind, data := .fields #[.ref l, .int 0 0] }
abbrev en0 (it : Addr) : Obj := { cls := .type "enumerate", data := .fields #[.none, .bool false, .ref it, rawInt 0, .none, .none] }
theorem enew_meets {v : Value} {o : Obj} {H : Heap → Prop} (B : Begins v o H) :
    Meets (Builtin.«enumerate.__new__» ⟨[.type "enumerate", v], []⟩) (fun _ R s => H s.heap ∧ R (.ok (.ret (.ref (s.heap.push o).objs.size))) { s with heap := (s.heap.push o).push (en0 s.heap.objs.size) }) :=
  .of_wp fun prog w A R s h => by
    obtain ⟨hp, g, d, tk, os⟩ := s
    obtain ⟨h1, h⟩ := h
    have sub := sub_enumerate
    have go : ∀ {A' : Around} {E : Value → Shared → Prop} {Q : Value → Shared → Prop}, Q (.ref hp.objs.size) ⟨hp.push o, g, d, tk, os⟩ → wpAny (model prog w) A' (pyIter v) Q E ⟨hp, g, d, tk, os⟩ := fun q => B.iter prog w _ _ ⟨hp, g, d, tk, os⟩ _ h1 q
    wp_walk using go
    refine wpAny_stack_any fun st => wpAny_pure ?_
    split
    · rename_i c _ _ _ _ _
      cases (c == Value.type "enumerate")
      · wp_walk using go
        exact ⟨_, rfl, h⟩
      · wp_walk using go
        exact ⟨_, rfl, h⟩
    · wp_walk using go
      exact ⟨_, rfl, h⟩
section
variable {prog : Program} {w : World} {A : Around} {E : Value → Shared → Prop} {s : Shared}
theorem call_enumB {v : Value} {o : Obj} {H : Heap → Prop} {Q : Value → Shared → Prop} (B : Begins v o H) (h1 : H s.heap)
    (k : ∀ h', h'.get? (s.heap.objs.size + 1) = some (enO .none (.bool false) s.heap.objs.size (0 : Nat) .none) → h'.get? s.heap.objs.size = some o → h'.objs.size = s.heap.objs.size + 2 → (∀ b o, s.heap.get? b = some o → h'.get? b = some o) → Q (.ref (s.heap.objs.size + 1)) { s with heap := h' }) :
    wpAny (model prog w) A (call (.type "enumerate") [v]) Q E s := by
  refine callType_new F.called_enumerate (by decide) (F.typeCall_enumerate_1 _) (F.newCall_enumerate_1 _) (fun obj => F.args_object_init_2 obj _) F.entry_enumerate_new (enew_meets B) ⟨h1, ?_⟩
  have z : (s.heap.push o).objs.size = s.heap.objs.size + 1 := Heap.size_push ..
  show _ ∧ _
  rw [z]
  have he : ((s.heap.push o).push (en0 s.heap.objs.size)).get? (s.heap.objs.size + 1) = some (en0 s.heap.objs.size) := by
    have y := Heap.get?_push_size (s.heap.push o) (o := en0 s.heap.objs.size) rfl
    rw [z] at y
    exact y
  exact ⟨⟨_, he, rfl⟩, k _ he (Heap.get?_push_of_some _ (Heap.get?_push_size _ B.free)) (by rw [Heap.size_push, z]) fun b o x => Heap.get?_push_of_some _ (Heap.get?_push_of_some _ x)⟩
theorem en_no_len : typeLookup (.type "enumerate") "__len__" = pure none := am_miss_of_fast (by decide +kernel)
theorem en_no_hint : typeLookup (.type "enumerate") "__length_hint__" = pure none := am_miss_of_fast (by decide +kernel)
variable {e it : Addr} {fp : List Addr} {n : Nat} {P : Nat → Value → Prop} {St : Nat → Heap → Prop}
/-- list(e), e an enumerate that has not begun -/
theorem list_enum {Q : Value → Shared → Prop} (D : Dr prog w A.in1.in1.in1 it fp n P St) {old0 : Value} (he0 : s.heap.get? e = some (enO .none (.bool false) it (0 : Nat) old0)) (st : St 0 s.heap) (ne : e ≠ it) (nf : e ∉ fp) (hn : n ≤ sizeLine) (li : it < s.heap.objs.size) (lf : ∀ b ∈ fp, b < s.heap.objs.size)
    (k : ∀ h' tk c, (∀ b o, b ≠ e → b ≠ it → s.heap.get? b = some o → h'.get? b = some o) → h'.get? s.heap.objs.size = some (lstO (refsR (s.heap.objs.size + 1) n).toArray c) → Laid P (s.heap.objs.size + 1) n h' → Q (.ref s.heap.objs.size) { s with heap := h', toks := tk }) :
    wpAny (model prog w) A (call (.type "list") [.ref e]) Q E s := by
  have he : EnS s.heap e it (0 : Nat) := .inl ⟨_, he0⟩
  have le : e < s.heap.objs.size := Heap.lt_size he0
  refine callType_codes (Q₁ := fun obj z => obj = .ref s.heap.objs.size ∧ z = { s with heap := s.heap.push { cls := .type "list", data := .seq #[] } }) F.called_list (F.typeCall_list_1 _) F.entry_list_init (code_list_new _ ⟨rfl, rfl⟩) fun obj z hz => ?_
  obtain ⟨rfl, rfl⟩ := hz
  have hS : (s.heap.push (lstO #[] 0)).get? s.heap.objs.size = some (lstO #[] 0) := Heap.get?_push_size _ rfl
  have Se : s.heap.objs.size ≠ e := Nat.ne_of_gt le
  have Si : s.heap.objs.size ≠ it := Nat.ne_of_gt li
  have Sf : s.heap.objs.size ∉ fp := fun hm => Nat.lt_irrefl _ (lf _ hm)
  refine ⟨⟨_, hS, rfl⟩, F.args_list_init_2 _ _, ?_⟩
  have kp : ∀ (h : Heap), Heap.SameBut s.heap.objs.size (s.heap.push (lstO #[] 0)) h → EnS h e it (0 : Nat) ∧ St 0 h ∧ h.objs.size = s.heap.objs.size + 1 + 0 ∧ ∀ b o, b ≠ s.heap.objs.size → b ≠ e → b ≠ it → s.heap.get? b = some o → h.get? b = some o := fun h m => by
    have kk : ∀ b o, b ≠ s.heap.objs.size → s.heap.get? b = some o → h.get? b = some o := fun b o x z => m.extBut b o x (Heap.get?_push_of_some _ z)
    refine ⟨?_, D.fr _ _ _ st fun b hb o z => kk b o (fun q => Sf (q ▸ hb)) z, by rw [m.1, Heap.size_push], fun b o x _ _ z => kk b o x z⟩
    rcases he with ⟨old, z⟩ | ⟨old, T, f, o, z, y1, y2, y3, y4⟩
    · exact .inl ⟨old, kk _ _ (Ne.symm Se) z⟩
    · exact .inr ⟨old, T, f, o, kk _ _ (Ne.symm Se) z, kk _ _ (Nat.ne_of_lt (Heap.lt_size y1)) y1, y2, y3, y4⟩
  show wpAny _ A.in1.in1 (do let old ← Builtin.List.listItems (.ref s.heap.objs.size); Builtin.List.listUpdate (.ref s.heap.objs.size) (fun _ => #[]); letGo old.toList.reverse; Builtin.List.listExtendWith (.ref s.heap.objs.size) (.ref e) .none) _ _ _
  refine wpAny_bind ?_
  unfold Builtin.List.listItems
  refine wpAny_bind (wpAny_seqItems hS rfl (wpAny_pure ?_))
  show wpAny _ _ (updateSeq s.heap.objs.size (fun _ => #[]) >>= fun _ => _) _ _ _
  refine wpAny_bind (wpAny_updateSeq hS rfl ?_)
  have hS2 := Heap.get?_update_self (Obj.mapSeq (fun _ => (#[] : Array Value))) hS rfl
  refine wpAny_bind (wpAny_letGo ?_)
  unfold Builtin.List.listExtendWith
  obtain ⟨e2, s2, z2, k2⟩ := kp _ (Heap.SameBut.update ..)
  have ty2 := e2.ty
  refine wpAny_bind (wpAny_typeOf ty2 ?_)
  have h1 : Builtin.List.listSameRef (.ref s.heap.objs.size) (.ref e) = false := by simp [Builtin.List.listSameRef, Se]
  have h2 : (Value.type "enumerate" == Value.type "list") = false := by decide
  have h3 : (Value.type "enumerate" == Value.type "tuple") = false := by decide
  simp only [h1, h2, h3, Bool.or_false, Bool.false_eq_true, if_false]
  have e3 : ((s.heap.push (lstO #[] 0)).update s.heap.objs.size (Obj.mapSeq (fun _ => (#[] : Array Value)))).get? e = some (enO .none (.bool false) it (0 : Nat) old0) := (Heap.get?_update_other _ _ Se).trans (Heap.get?_push_of_some _ he0)
  refine wpAny_bind (wpAny_pyIter_enum e3 ?_)
  refine wpAny_bind (wpAny_holding ?_)
  unfold Builtin.List.listLengthHint
  refine wpAny_bind (wpAny_specialOf ty2 en_no_len ?_)
  show wpAny _ _ (specialOf (Value.ref e) (Str.ofString "__length_hint__") >>= _) _ _ _
  refine wpAny_bind (wpAny_specialOf ty2 en_no_hint ?_)
  refine wpAny_pure ?_
  rw [if_pos (by rfl)]
  refine wpAny_bind (wpAny_rule ?_)
  show wpAny _ _ ((updateSeq s.heap.objs.size (·.push .none) >>= fun _ => updateSeq s.heap.objs.size (·.pop)) >>= fun _ => _) _ _ _
  refine wpAny_bind (wpAny_bind (wpAny_updateSeq hS2 rfl ?_))
  have hS3 := Heap.get?_update_self (Obj.mapSeq (·.push Value.none)) hS2 rfl
  refine wpAny_updateSeq (hz := by seq_fits) hS3 rfl ?_
  have hS4 := Heap.get?_update_self (Obj.mapSeq (·.pop)) hS3 rfl
  refine wpAny_pure ⟨plainId_quiet PySem.F.plain_extend_loop _, ?_⟩
  have m : Heap.SameBut s.heap.objs.size (s.heap.push (lstO #[] 0)) ((((s.heap.push (lstO #[] 0)).update s.heap.objs.size (Obj.mapSeq (fun _ => (#[] : Array Value)))).update s.heap.objs.size (Obj.mapSeq (·.push Value.none))).update s.heap.objs.size (Obj.mapSeq (·.pop))) := by
    have a1 : Heap.SameBut s.heap.objs.size _ _ := Heap.SameBut.update (h := s.heap.push (lstO #[] 0)) (a := s.heap.objs.size) (f := Obj.mapSeq (fun _ => (#[] : Array Value)))
    have a2 : Heap.SameBut s.heap.objs.size _ _ := Heap.SameBut.update (h := (s.heap.push (lstO #[] 0)).update s.heap.objs.size (Obj.mapSeq (fun _ => (#[] : Array Value)))) (a := s.heap.objs.size) (f := Obj.mapSeq (·.push Value.none))
    have a3 : Heap.SameBut s.heap.objs.size _ _ := Heap.SameBut.update (h := ((s.heap.push (lstO #[] 0)).update s.heap.objs.size (Obj.mapSeq (fun _ => (#[] : Array Value)))).update s.heap.objs.size (Obj.mapSeq (·.push Value.none))) (a := s.heap.objs.size) (f := Obj.mapSeq (·.pop))
    exact ⟨a3.1.trans (a2.1.trans a1.1), fun b hb => (a3.2 b hb).trans ((a2.2 b hb).trans (a1.2 b hb))⟩
  obtain ⟨e5, s5, z5, k5⟩ := kp _ m
  exact en_loop (s := s) (h₁ := s.heap) (A := A.in1) D ne nf Sf Se Si hn (Nat.lt_succ_self _) (Nat.lt_succ_of_lt li) (Nat.lt_succ_of_lt le) (fun h' tk c y1 y2 y3 => ⟨rfl, k h' tk c (fun b o x1 x2 z => y1 b o (Nat.ne_of_lt (Heap.lt_size z)) x1 x2 z) y2 y3⟩) n 0 _ s.toks _ (Nat.sub_zero _) (Nat.zero_le _) e5 s5 z5 k5 hS4 fun j hj => absurd hj (Nat.not_lt_zero _)
end
end RS


namespace RS
open PySem PySem.Spec L2 PyProof.Rows
/-- the list at S and the pairs behind it, tracked -/
def enH (H : Hp) (S : Addr) (b0 : Nat) (xs : List V) : Hp := fun b =>
  if b = S then some (.lst ((List.range xs.length).map fun j => V.ref (b0 + j)))
  else if b0 ≤ b then (match xs[b - b0]? with | some x => some (.tup [.int ((b - b0 : Nat) : Int), x]) | none => H b) else H b
theorem enH_S {H : Hp} {S : Addr} {b0 : Nat} {xs : List V} : enH H S b0 xs S = some (.lst ((List.range xs.length).map fun j => V.ref (b0 + j))) := by simp [enH]
theorem enH_at {H : Hp} {S : Addr} {b0 : Nat} {xs : List V} {j : Nat} {x : V} (hS : S < b0) (h : xs[j]? = some x) : enH H S b0 xs (b0 + j) = some (.tup [.int (j : Nat), x]) := by
  unfold enH
  rw [if_neg (Nat.ne_of_gt (Nat.lt_of_lt_of_le hS (Nat.le_add_right _ _))), if_pos (Nat.le_add_right _ _)]
  have e : b0 + j - b0 = j := by omega
  rw [e, h]
theorem enH_lo {H : Hp} {S : Addr} {b0 : Nat} {xs : List V} {b : Addr} (h1 : b ≠ S) (h2 : b < b0) : enH H S b0 xs b = H b := by
  unfold enH
  rw [if_neg h1, if_neg (Nat.not_le.mpr h2)]
/-- list(enumerate(x)) -/
def tListEnum (K : PySem.W.Frag) (ta : TA) : TE := fun σ H Q => ta σ H fun vs H1 => ∃ a xs, vs = [.ref a] ∧ (SqL K H1 a xs ∨ SqT K H1 a xs) ∧
  ∀ (p : Addr) (ts : List Addr) (H' : Hp), Same H1 H' → H1 p = none → H' p = some (.lst (ts.map V.ref)) → ts.length = xs.length → (∀ (j : Nat) (x : V), xs[j]? = some x → ∃ t, ts[j]? = some t ∧ H1 t = none ∧ H' t = some (.tup [.int (j : Nat), x])) → Q (.ref p) H'
section
variable {X : Cx} {K : PySem.W.Frag} {e : Expr} {ta : TA} {p p2 pos pos2 : Pos}
theorem en_laid {pins : List (Addr × Obj)} {σ : L2.St} {H : Hp} {s : Shared} {Q : VK} {h' : Heap} {tk c : Nat} {xs : List V} {its : List Value} {q : Nat} (I : Inv X pins σ H s) (r : Vals xs its) (hz : xs.length ≤ sizeLine) (lo : s.heap.objs.size ≤ q)
    (kp : ∀ b o, s.heap.get? b = some o → h'.get? b = some o) (hS : h'.get? q = some (lstO (refsR (q + 1) its.toArray.size).toArray c)) (la : Laid (fun i v => its.toArray[i]? = some v) (q + 1) its.toArray.size h')
    (k : ∀ (p : Addr) (ts : List Addr) (H' : Hp), Same H H' → H p = none → H' p = some (.lst (ts.map V.ref)) → ts.length = xs.length → (∀ (j : Nat) (x : V), xs[j]? = some x → ∃ t, ts[j]? = some t ∧ H t = none ∧ H' t = some (.tup [.int (j : Nat), x])) → Q (.ref p) H') :
    EP X pins σ Q (.ref q) { s with heap := h', toks := tk } := by
  have ln := r.length
  have fr : ∀ b : Nat, s.heap.objs.size ≤ b → H b = none := fun b hb => I.hok.fresh hb
  have lt : ∀ b o, H b = some o → b < q := fun b o z => by
    rcases Nat.lt_or_ge b s.heap.objs.size with y | y
    · exact Nat.lt_of_lt_of_le y lo
    · rw [fr b y] at z; cases z
  have ltH : ∀ b o, s.heap.get? b = some o → b < q := fun b o z => Nat.lt_of_lt_of_le (Heap.lt_size z) lo
  have sm : Same H (enH H q (q + 1) xs) := fun b o z => by rw [enH_lo (Nat.ne_of_lt (lt b o z)) (Nat.lt_succ_of_lt (lt b o z))]; exact z
  have szits : its.toArray.size = xs.length := by simp; omega
  have J : Inv X pins σ (enH H q (q + 1) xs) { s with heap := h', toks := tk } := by
    have U : Un X.fs [] H (enH H q (q + 1) xs) s.heap h' := {
      keep := fun b o z _ _ _ => kp b o z
      slot := fun b o z _ _ _ => ⟨o.slots, kp b o z⟩
      free := fun b o z n _ => by rw [enH_lo (Nat.ne_of_lt (ltH b o z)) (Nat.lt_succ_of_lt (ltH b o z))]; exact n
      there := fun b o z _ => ⟨o, kp b o z⟩
      tups := fun b ys z => sm _ _ z
      frzs := fun b o v z => sm _ _ z
      tbls := fun b ps z => ⟨#[], by rw [sm _ _ z]; simp⟩ }
    refine I.un (t' := tk) U fun b z hb => ?_
    by_cases h1 : b = q
    · subst h1
      rw [enH_S] at hb
      cases hb
      refine ⟨by rw [List.length_map, List.length_range]; exact hz, refsR (b + 1) its.toArray.size, c, ?_, hS⟩
      rw [szits]
      show Vals _ ((List.range xs.length).map _)
      generalize List.range xs.length = l
      induction l with
      | nil => exact .nil
      | cons a l ih => exact .cons rfl ih
    · by_cases h2 : q + 1 ≤ b
      · obtain ⟨j, rfl⟩ : ∃ j, b = q + 1 + j := ⟨b - (q + 1), (Nat.add_sub_cancel' h2).symm⟩
        cases hx : xs[j]? with
        | none =>
          unfold enH at hb
          rw [if_neg h1, if_pos h2] at hb
          have ej : q + 1 + j - (q + 1) = j := by omega
          rw [ej, hx] at hb
          rw [fr _ (by omega)] at hb
          cases hb
        | some x =>
          rw [enH_at (Nat.lt_succ_self _) hx] at hb
          cases hb
          have jl : j < xs.length := (List.getElem?_eq_some_iff.mp hx).1
          obtain ⟨t, u, hT, pu⟩ := la j (by rw [szits]; exact jl)
          obtain ⟨u', hu', ru⟩ := r.get hx
          have : u = u' := by simp only [List.getElem?_toArray] at pu; rw [hu'] at pu; exact (Option.some.inj pu).symm
          subst this
          exact ⟨by show 2 ≤ sizeLine; decide, [.int (j : Nat) t, u], .cons ⟨_, rfl⟩ (.cons ru .nil), ⟨_, hT, rfl, _, rfl⟩⟩
      · rw [enH_lo h1 (Nat.lt_of_not_le h2)] at hb
        exact (I.hok b z hb).stay (fun y v _ w' => kp y v w') (fun y hy => sm _ _ hy) fun y ys hy => sm _ _ hy
  refine ⟨.ref q, _, J, rfl, k q ((List.range xs.length).map fun j => q + 1 + j) _ sm (fr q lo) ?_ (by simp) fun j x hx => ?_⟩
  · rw [enH_S, List.map_map]; rfl
  · have jl : j < xs.length := (List.getElem?_eq_some_iff.mp hx).1
    exact ⟨q + 1 + j, by simp [jl], fr _ (by omega), enH_at (Nat.lt_succ_self _) hx⟩
theorem pe_listEnum (hm : X.mg "list" = none) (hm2 : X.mg "enumerate" = none) (ha : PA X [e] ta) (hc : X.calm = true := by rfl) (hg : Gl X "list" := by rfl) (hg2 : Gl X "enumerate" := by rfl) (hs2 : starEach [e] X.env = [(false, eval e X.env)] := by rfl)
    (hs : starEach [.Call (.Name "enumerate" p2) [e] [] pos2] X.env = (false, eval (.Call (.Name "enumerate" p2) [e] [] pos2) X.env) :: starEach [] X.env := by rfl) (hK : X.K = K := by rfl) :
    PE X (.Call (.Name "list" p) [.Call (.Name "enumerate" p2) [e] [] pos2] [] pos) (tListEnum K ta) := by
  subst hK
  refine ⟨fun pins s σ H Q I hq => ?_⟩
  refine wpAny_Call_Name_kw (ld_blt I hg hm bb_list ?_)
  refine PyProof.Rows.callWith_type1 ?_ hs rfl
  rw [hs]
  refine Calls.spliced_cons ?_
  refine Call_ (ld_blt I hg2 hm2 boot_enumerate (PyProof.Rows.callWith_type1 (thn (ha.run pos2 pins s σ H _ I hq) fun us s1 ⟨vs, H1, I1, r1, q1⟩ => ?_) hs2 rfl))
  obtain ⟨a, xs, rfl, hx, k⟩ := q1
  obtain ⟨u, rfl, ru⟩ := vals1 r1
  cases ru
  rcases hx with hx | hx
  · obtain ⟨its, rv, pl, hz⟩ := I1.list hx
    have hl := pl.isList
    have la : a < s1.heap.objs.size := by obtain ⟨o, z, _⟩ := hl; exact Heap.lt_size z
    refine call_enumB (begins_list a its.toArray) hl fun h' he hi z kp => Calls.spliced_nil ?_
    have al : a ≠ s1.heap.objs.size := Nat.ne_of_lt la
    refine list_enum (s := { s1 with heap := h' }) (dr_list (A := X.A.in1.in1.in1) (I.ok.hd hc) s1.heap.objs.size a al its.toArray) he ⟨⟨_, hi, rfl, rfl⟩, hl.at fun o x => kp _ _ x⟩ (Nat.succ_ne_self _) ?_ (by simp; have := rv.length; omega) ?_ ?_ fun h'' tk c kp2 hS la2 => ?_
    · simp only [List.mem_cons, List.not_mem_nil, or_false, not_or]
      exact ⟨Nat.succ_ne_self _, Nat.ne_of_gt (Nat.lt_succ_of_lt la)⟩
    · show s1.heap.objs.size < h'.objs.size; rw [z]; omega
    · intro b hb
      simp only [List.mem_cons, List.not_mem_nil, or_false] at hb
      show b < h'.objs.size
      rw [z]
      rcases hb with rfl | rfl
      · exact Nat.lt_succ_of_lt (Nat.lt_succ_self _)
      · exact Nat.lt_succ_of_lt (Nat.lt_succ_of_lt la)
    · have z' : h'.objs.size = s1.heap.objs.size + 2 := z
      exact en_laid (s := s1) (h' := h'') (tk := tk) (c := c) (q := h'.objs.size) I1 rv hz (by rw [z']; omega) (fun b o y => kp2 b o (Nat.ne_of_lt (Nat.lt_succ_of_lt (Heap.lt_size y))) (Nat.ne_of_lt (Heap.lt_size y)) (kp b o y)) hS la2 k
  · obtain ⟨its, rv, pl, hz⟩ := I1.tuple hx
    have hl : s1.heap.IsTuple a its.toArray := pl
    have la : a < s1.heap.objs.size := by obtain ⟨o, z, _⟩ := hl; exact Heap.lt_size z
    refine call_enumB (begins_tuple a its.toArray) hl fun h' he hi z kp => Calls.spliced_nil ?_
    have al : a ≠ s1.heap.objs.size := Nat.ne_of_lt la
    refine list_enum (s := { s1 with heap := h' }) (dr_tup (A := X.A.in1.in1.in1) (I.ok.hd hc) s1.heap.objs.size a al its.toArray) he ⟨⟨_, hi, rfl, rfl⟩, hl.at fun o x => kp _ _ x⟩ (Nat.succ_ne_self _) ?_ (by simp; have := rv.length; omega) ?_ ?_ fun h'' tk c kp2 hS la2 => ?_
    · simp only [List.mem_cons, List.not_mem_nil, or_false, not_or]
      exact ⟨Nat.succ_ne_self _, Nat.ne_of_gt (Nat.lt_succ_of_lt la)⟩
    · show s1.heap.objs.size < h'.objs.size; rw [z]; omega
    · intro b hb
      simp only [List.mem_cons, List.not_mem_nil, or_false] at hb
      show b < h'.objs.size
      rw [z]
      rcases hb with rfl | rfl
      · exact Nat.lt_succ_of_lt (Nat.lt_succ_self _)
      · exact Nat.lt_succ_of_lt (Nat.lt_succ_of_lt la)
    · have z' : h'.objs.size = s1.heap.objs.size + 2 := z
      exact en_laid (s := s1) (h' := h'') (tk := tk) (c := c) (q := h'.objs.size) I1 rv hz (by rw [z']; omega) (fun b o y => kp2 b o (Nat.ne_of_lt (Nat.lt_succ_of_lt (Heap.lt_size y))) (Nat.ne_of_lt (Heap.lt_size y)) (kp b o y)) hS la2 k
end
end RS


/-! values as trees in the heap, with the addresses of their lists and dicts -/
namespace RS
open PySem PySem.Spec L2
mutual
inductive Tr (H : Hp) : V → PyData → List Addr → Prop
  | non : Tr H .non .none []
  | bl (b : Bool) : Tr H (.bl b) (.bool b) []
  | int (i : Int) : Tr H (.int i) (.int i) []
  | str (x : Str) : Tr H (.str x) (.str x) []
  | lst {a : Addr} {xs : List V} {ds : List PyData} {fp : List Addr} (h : H a = some (.lst xs)) (hs : TrL H xs ds fp) (na : a ∉ fp) : Tr H (.ref a) (.list ds) (a :: fp)
  | tup {a : Addr} {xs : List V} {ds : List PyData} {fp : List Addr} (h : H a = some (.tup xs)) (hs : TrL H xs ds fp) : Tr H (.ref a) (.tuple ds) fp
  | dct {a : Addr} {kvs : List (Key × V)} {D : List (PyData × PyData)} {fp : List Addr} (h : H a = some (.dK kvs)) (hs : TrD H kvs D fp) (na : a ∉ fp) (nd : (kvs.map (·.1)).Nodup) : Tr H (.ref a) (.dict D) (a :: fp)
inductive TrL (H : Hp) : List V → List PyData → List Addr → Prop
  | nil : TrL H [] [] []
  | cons {v : V} {vs : List V} {d : PyData} {ds : List PyData} {f1 f2 : List Addr} (h : Tr H v d f1) (hs : TrL H vs ds f2) : TrL H (v :: vs) (d :: ds) (f1 ++ f2)
inductive TrD (H : Hp) : List (Key × V) → List (PyData × PyData) → List Addr → Prop
  | nil : TrD H [] [] []
  | cons {x : Str} {v : V} {kvs : List (Key × V)} {d : PyData} {D : List (PyData × PyData)} {f1 f2 : List Addr} (h : Tr H v d f1) (hs : TrD H kvs D f2) : TrD H ((.inr x, v) :: kvs) ((.str x, d) :: D) (f1 ++ f2)
end
/-! ### kept where other places change -/
mutual
theorem Tr.keep {H H' : Hp} {S : Addr → Prop} (hS : ∀ c, S c → ∀ xs, H c ≠ some (.tup xs)) (hk : ∀ c o, ¬ S c → H c = some o → H' c = some o) : ∀ {v : V} {d : PyData} {fp : List Addr}, Tr H v d fp → (∀ c ∈ fp, ¬ S c) → Tr H' v d fp
  | _, _, _, .non, _ => .non
  | _, _, _, .bl b, _ => .bl b
  | _, _, _, .int i, _ => .int i
  | _, _, _, .str x, _ => .str x
  | _, _, _, .lst h hs na, f => .lst (hk _ _ (f _ (List.mem_cons_self ..)) h) (hs.keep hS hk fun c hc => f c (List.mem_cons_of_mem _ hc)) na
  | _, _, _, .tup h hs, f => .tup (hk _ _ (fun z => hS _ z _ h) h) (hs.keep hS hk f)
  | _, _, _, .dct h hs na nd, f => .dct (hk _ _ (f _ (List.mem_cons_self ..)) h) (hs.keep hS hk fun c hc => f c (List.mem_cons_of_mem _ hc)) na nd
theorem TrL.keep {H H' : Hp} {S : Addr → Prop} (hS : ∀ c, S c → ∀ xs, H c ≠ some (.tup xs)) (hk : ∀ c o, ¬ S c → H c = some o → H' c = some o) : ∀ {vs : List V} {ds : List PyData} {fp : List Addr}, TrL H vs ds fp → (∀ c ∈ fp, ¬ S c) → TrL H' vs ds fp
  | _, _, _, .nil, _ => .nil
  | _, _, _, .cons h hs, f => .cons (h.keep hS hk fun c hc => f c (List.mem_append_left _ hc)) (hs.keep hS hk fun c hc => f c (List.mem_append_right _ hc))
theorem TrD.keep {H H' : Hp} {S : Addr → Prop} (hS : ∀ c, S c → ∀ xs, H c ≠ some (.tup xs)) (hk : ∀ c o, ¬ S c → H c = some o → H' c = some o) : ∀ {kvs : List (Key × V)} {D : List (PyData × PyData)} {fp : List Addr}, TrD H kvs D fp → (∀ c ∈ fp, ¬ S c) → TrD H' kvs D fp
  | _, _, _, .nil, _ => .nil
  | _, _, _, .cons h hs, f => .cons (h.keep hS hk fun c hc => f c (List.mem_append_left _ hc)) (hs.keep hS hk fun c hc => f c (List.mem_append_right _ hc))
end
theorem Tr.same {H H' : Hp} (s : Same H H') {v : V} {d : PyData} {fp : List Addr} (h : Tr H v d fp) : Tr H' v d fp := h.keep (S := fun _ => False) (fun _ z => z.elim) (fun c o _ z => s c o z) fun _ _ z => z
theorem TrL.same {H H' : Hp} (s : Same H H') {v : List V} {d : List PyData} {fp : List Addr} (h : TrL H v d fp) : TrL H' v d fp := h.keep (S := fun _ => False) (fun _ z => z.elim) (fun c o _ z => s c o z) fun _ _ z => z
theorem TrD.same {H H' : Hp} (s : Same H H') {v : List (Key × V)} {d : List (PyData × PyData)} {fp : List Addr} (h : TrD H v d fp) : TrD H' v d fp := h.keep (S := fun _ => False) (fun _ z => z.elim) (fun c o _ z => s c o z) fun _ _ z => z
/-- one place alone changes -/
theorem keep_one {H H' : Hp} {p : Addr} (n : ∀ xs, H p ≠ some (.tup xs)) (k : ∀ c o, c ≠ p → H c = some o → H' c = some o) : (∀ c, c = p → ∀ xs, H c ≠ some (.tup xs)) ∧ ∀ c o, ¬ c = p → H c = some o → H' c = some o := ⟨fun c e => by subst e; exact n, k⟩
theorem Tr.but {H H' : Hp} {p : Addr} {v : V} {d : PyData} {fp : List Addr} (h : Tr H v d fp) (n : ∀ xs, H p ≠ some (.tup xs)) (k : ∀ c o, c ≠ p → H c = some o → H' c = some o) (np : p ∉ fp) : Tr H' v d fp :=
  h.keep (S := fun c => c = p) (keep_one n k).1 k fun c hc e => np (e ▸ hc)
theorem TrL.but {H H' : Hp} {p : Addr} {v : List V} {d : List PyData} {fp : List Addr} (h : TrL H v d fp) (n : ∀ xs, H p ≠ some (.tup xs)) (k : ∀ c o, c ≠ p → H c = some o → H' c = some o) (np : p ∉ fp) : TrL H' v d fp :=
  h.keep (S := fun c => c = p) (keep_one n k).1 k fun c hc e => np (e ▸ hc)
theorem TrD.but {H H' : Hp} {p : Addr} {v : List (Key × V)} {d : List (PyData × PyData)} {fp : List Addr} (h : TrD H v d fp) (n : ∀ xs, H p ≠ some (.tup xs)) (k : ∀ c o, c ≠ p → H c = some o → H' c = some o) (np : p ∉ fp) : TrD H' v d fp :=
  h.keep (S := fun c => c = p) (keep_one n k).1 k fun c hc e => np (e ▸ hc)
/-! ### the addresses are there -/
mutual
theorem Tr.there {H : Hp} : ∀ {v : V} {d : PyData} {fp : List Addr}, Tr H v d fp → ∀ c ∈ fp, (∃ xs, H c = some (.lst xs)) ∨ ∃ kvs, H c = some (.dK kvs)
  | _, _, _, .non, _, h => by cases h
  | _, _, _, .bl _, _, h => by cases h
  | _, _, _, .int _, _, h => by cases h
  | _, _, _, .str _, _, h => by cases h
  | _, _, _, .lst h hs _, c, m => (List.mem_cons.mp m).elim (fun e => .inl ⟨_, e ▸ h⟩) (hs.there c)
  | _, _, _, .tup h hs, c, m => hs.there c m
  | _, _, _, .dct h hs _ _, c, m => (List.mem_cons.mp m).elim (fun e => .inr ⟨_, e ▸ h⟩) (hs.there c)
theorem TrL.there {H : Hp} : ∀ {vs : List V} {ds : List PyData} {fp : List Addr}, TrL H vs ds fp → ∀ c ∈ fp, (∃ xs, H c = some (.lst xs)) ∨ ∃ kvs, H c = some (.dK kvs)
  | _, _, _, .nil, _, h => by cases h
  | _, _, _, .cons h hs, c, m => (List.mem_append.mp m).elim (h.there c) (hs.there c)
theorem TrD.there {H : Hp} : ∀ {kvs : List (Key × V)} {D : List (PyData × PyData)} {fp : List Addr}, TrD H kvs D fp → ∀ c ∈ fp, (∃ xs, H c = some (.lst xs)) ∨ ∃ kvs, H c = some (.dK kvs)
  | _, _, _, .nil, _, h => by cases h
  | _, _, _, .cons h hs, c, m => (List.mem_append.mp m).elim (h.there c) (hs.there c)
end
/-! ### as data -/
mutual
theorem Tr.dp {K : PySem.W.Frag} {H : Hp} : ∀ {v : V} {d : PyData} {fp : List Addr}, Tr H v d fp → DpX K H v d
  | _, _, _, .non => .non
  | _, _, _, .bl b => .bl b
  | _, _, _, .int i => .int i
  | _, _, _, .str x => .str x
  | _, _, _, .lst h hs _ => .lst (SqL.of h) hs.dp
  | _, _, _, .tup h hs => .tup (SqT.of h) hs.dp
  | _, _, _, .dct h hs _ _ => .dct h hs.dp
theorem TrL.dp {K : PySem.W.Frag} {H : Hp} : ∀ {vs : List V} {ds : List PyData} {fp : List Addr}, TrL H vs ds fp → DpXs K H vs ds
  | _, _, _, .nil => .nil
  | _, _, _, .cons h hs => .cons h.dp hs.dp
theorem TrD.dp {K : PySem.W.Frag} {H : Hp} : ∀ {kvs : List (Key × V)} {D : List (PyData × PyData)} {fp : List Addr}, TrD H kvs D fp → DpXd K H kvs D
  | _, _, _, .nil => .nil
  | _, _, _, .cons h hs => .cons (k := .inr _) h.dp hs.dp
end
/-! ### items -/
theorem TrL.len {H : Hp} : ∀ {vs : List V} {ds : List PyData} {fp : List Addr}, TrL H vs ds fp → vs.length = ds.length
  | _, _, _, .nil => rfl
  | _, _, _, .cons _ hs => by simp [hs.len]
theorem TrD.len {H : Hp} : ∀ {vs : List (Key × V)} {ds : List (PyData × PyData)} {fp : List Addr}, TrD H vs ds fp → vs.length = ds.length
  | _, _, _, .nil => rfl
  | _, _, _, .cons _ hs => by simp [hs.len]
theorem TrL.get {H : Hp} : ∀ {vs : List V} {ds : List PyData} {fp : List Addr}, TrL H vs ds fp → ∀ {i : Nat}, i < vs.length → ∃ v d f, vs[i]? = some v ∧ ds[i]? = some d ∧ Tr H v d f ∧ ∀ c ∈ f, c ∈ fp
  | _, _, _, .cons h _, 0, _ => ⟨_, _, _, rfl, rfl, h, fun c hc => List.mem_append_left _ hc⟩
  | _, _, _, .cons _ hs, i + 1, l => by
    obtain ⟨v, d, f, h1, h2, h3, h4⟩ := hs.get (i := i) (by simpa using l)
    exact ⟨v, d, f, by simpa using h1, by simpa using h2, h3, fun c hc => List.mem_append_right _ (h4 c hc)⟩
theorem TrD.get {H : Hp} : ∀ {vs : List (Key × V)} {ds : List (PyData × PyData)} {fp : List Addr}, TrD H vs ds fp → ∀ {i : Nat}, i < vs.length → ∃ x v d f, vs[i]? = some (.inr x, v) ∧ ds[i]? = some (.str x, d) ∧ Tr H v d f ∧ ∀ c ∈ f, c ∈ fp
  | _, _, _, .cons h _, 0, _ => ⟨_, _, _, _, rfl, rfl, h, fun c hc => List.mem_append_left _ hc⟩
  | _, _, _, .cons _ hs, i + 1, l => by
    obtain ⟨x, v, d, f, h1, h2, h3, h4⟩ := hs.get (i := i) (by simpa using l)
    exact ⟨x, v, d, f, by simpa using h1, by simpa using h2, h3, fun c hc => List.mem_append_right _ (h4 c hc)⟩
/-- a key's own value -/
theorem valV_at : ∀ {kvs : List (Key × V)} {i : Nat} {k : Key} {v : V}, (kvs.map (·.1)).Nodup → kvs[i]? = some (k, v) → valV kvs k = some v
  | (k', v') :: r, 0, k, v, nd, h => by
    cases h
    rw [vv_cons, if_pos rfl]
  | (k', v') :: r, i + 1, k, v, nd, h => by
    have h' : r[i]? = some (k, v) := by simpa using h
    have nd' := List.nodup_cons.mp nd
    have ne : k' ≠ k := fun e => nd'.1 (by
      have := List.mem_of_getElem? h'
      rw [e]
      exact List.mem_map.mpr ⟨_, this, rfl⟩)
    rw [vv_cons, if_neg ne]
    exact valV_at nd'.2 h'
  | [], _, _, _, _, h => by simp at h
theorem depth_all {ds : List PyData} : ∀ {d : PyData} {i : Nat}, ds[i]? = some d → d.depth ≤ PyData.depthAll ds := by
  induction ds with
  | nil => intro d i h; simp at h
  | cons x xs ih =>
    intro d i h
    cases i with
    | zero => cases h; simp only [PyData.depthAll]; omega
    | succ i => have := ih (by simpa using h); simp only [PyData.depthAll]; omega
theorem depth_kv {D : List (PyData × PyData)} : ∀ {k d : PyData} {i : Nat}, D[i]? = some (k, d) → d.depth ≤ PyData.depthKv D := by
  induction D with
  | nil => intro k d i h; simp at h
  | cons x xs ih =>
    obtain ⟨x1, x2⟩ := x
    intro k d i h
    cases i with
    | zero => cases h; simp only [PyData.depthKv]; omega
    | succ i => have := ih (by simpa using h); simp only [PyData.depthKv]; omega
end RS


namespace RS
open PySem PySem.Spec L2
/-! ### isinstance of several built-in classes -/
section
variable {X : Cx}
def rIsT (Ts : List String) : List V → Hp → VK → Prop := fun xs H Q => match xs with
  | [x, .ref tp] => H tp = some (.tup (Ts.map V.ty)) ∧ ∃ t, tyN x H = some t ∧ Q (.bl (Ts.any (isB t))) H
  | _ => False
theorem clsV_tys : ∀ Ts : List String, Paired ClsV (Ts.map V.ty) (Ts.map Value.type)
  | [] => .nil
  | T :: Ts => .cons (.ty T) (clsV_tys Ts)
theorem kitAny_tys {K : PySem.W.Frag} {t : String} (m : t ∈ ["NoneType", "bool", "int", "str", "list", "tuple", "dict"]) : ∀ {Ts : List String}, (∀ T ∈ Ts, T ∈ ["bool", "int", "str", "list", "tuple", "dict", "float"]) → PySem.W.kitAny K (.type t) (Ts.map Value.type) = some (Ts.any (isB t))
  | [], _ => rfl
  | T :: Ts, h => by
    have e1 : PySem.W.kitOne K (.type t) (.type T) = some (isB t T) := kit_ty (kitB_tab t m T (h T (List.mem_cons_self ..)))
    have e2 := kitAny_tys (K := K) m fun T' hT => h T' (List.mem_cons_of_mem _ hT)
    show PySem.W.kitAny K (.type t) (.type T :: Ts.map Value.type) = _
    unfold PySem.W.kitAny
    rw [e1]
    cases hb : isB t T with
    | true => simp [hb]
    | false => simp only [List.any_cons, hb, Bool.false_or]; exact e2
theorem c_isT (Ts : List String) (hT : ∀ T ∈ Ts, T ∈ ["bool", "int", "str", "list", "tuple", "dict", "float"] := by decide) : CallR X (.builtin "isinstance") (rIsT Ts) := by
  intro pins s σ H xs us Q I r h
  unfold rIsT at h
  split at h
  · obtain ⟨h1, t, ht, q⟩ := h
    obtain ⟨ty, m⟩ := tyN_tyX (K := X.K) ht
    exact call_isiT pins s σ H _ us Q I r ⟨_, _, _, _, _, _, rfl, h1, clsV_tys Ts, ty, kitAny_tys m hT, q⟩
  · exact h.elim
/-! ### walks of one kind or another -/
theorem pi_or {tg e : Expr} {w1 w2 : TI} (h1 : PI X tg e w1) (h2 : PI X tg e w2) : PI X tg e (fun σ H R => w1 σ H R ∨ w2 σ H R) :=
  ⟨fun pins s σ H R I h => h.elim (h1.run pins s σ H R I) (h2.run pins s σ H R I)⟩
end
/-! ### the kind of a tree -/
def kindN : PyData → String
  | .none => "NoneType"
  | .bool _ => "bool"
  | .int _ => "int"
  | .str _ => "str"
  | .list _ => "list"
  | .tuple _ => "tuple"
  | .dict _ => "dict"
theorem tyN_l {H : Hp} {a : Addr} {xs : List V} (h : H a = some (.lst xs)) : tyN (.ref a) H = some "list" := by simp [tyN, h]
theorem tyN_t {H : Hp} {a : Addr} {xs : List V} (h : H a = some (.tup xs)) : tyN (.ref a) H = some "tuple" := by simp [tyN, h]
theorem tyN_d {H : Hp} {a : Addr} {xs : List (Key × V)} (h : H a = some (.dK xs)) : tyN (.ref a) H = some "dict" := by simp [tyN, h]
theorem Tr.ty {H : Hp} {v : V} {d : PyData} {fp : List Addr} (h : Tr H v d fp) : tyN v H = some (kindN d) := by
  cases h with
  | non => rfl
  | bl b => rfl
  | int i => rfl
  | str x => rfl
  | lst h _ _ => exact tyN_l h
  | tup h _ => exact tyN_t h
  | dct h _ _ _ => exact tyN_d h
/-- a tree's value is no new place -/
theorem Tr.ne {H : Hp} {a p : Addr} {d : PyData} {fp : List Addr} (h : Tr H (.ref a) d fp) (n : H p = none) : a ≠ p := fun e => by
  cases h with
  | lst h _ _ => rw [e, n] at h; cases h
  | tup h _ => rw [e, n] at h; cases h
  | dct h _ _ _ => rw [e, n] at h; cases h
theorem tyN_same {H H' : Hp} {v : V} {t : String} (s : Same H H') (h : tyN v H = some t) : tyN v H' = some t := by
  cases v with
  | ref a =>
    unfold tyN at h ⊢
    simp only at h ⊢
    split at h <;> first | (cases h; done) | skip
    all_goals (rename_i e; rw [s _ _ e]; exact h)
  | _ => exact h
/-- isinstance(v, (..)): the tuple is laid -/
theorem isT_new {Ts : List String} {H : Hp} {v : V} {t : String} {p : Addr} {Q : VK} (ht : tyN v H = some t) (n : H p = none) (q : Q (.bl (Ts.any (isB t))) (upd H p (.tup (Ts.map V.ty)))) : rIsT Ts [v, .ref p] (upd H p (.tup (Ts.map V.ty))) Q :=
  ⟨upd_same, t, tyN_same (same_upd n) ht, q⟩
/-! ### comprehensions by an invariant -/
theorem lc_inv {J : It} {g : TG} {tt : TT} {te : TE} {vs : List Nat} {σ : L2.St} {H1 : Hp} {Qf : VK} (n : Nat) (Pv : Addr → Nat → List V → Hp → Prop) (hn : n ≤ sizeLine)
    (h0 : ∀ D, H1 D = none → Pv D 0 [] (upd H1 D (.lst []))) (hgo : ∀ D i acc H, H1 D = none → i < n → Pv D i acc H → J.go i H) (hst : ∀ D acc H, H1 D = none → Pv D n acc H → J.stop n H)
    (hs : ∀ D i acc H x H' (K : VK) (K0 : Hp → Prop), H1 D = none → i < n → acc.length ≤ i → Pv D i acc H → H D = some (.lst acc) → J.yld i H x H' → (∀ y H4, H4 D = some (.lst acc) → Pv D (i + 1) (acc ++ [y]) (upd H4 D (.lst (acc ++ [y]))) → K y H4) → (∀ H4, H4 D = some (.lst acc) → Pv D (i + 1) acc H4 → K0 H4) →
      g x (wipe σ vs) H' fun σ2 H2 => wipe σ2 vs = wipe σ vs ∧ tt σ2 H2 fun b H3 => if b = true then te σ2 H3 K else K0 H3)
    (hd : ∀ D acc H, H1 D = none → Pv D n acc H → H D = some (.lst acc) → Qf (.ref D) H) : LcB J g tt te vs σ H1 Qf := by
  intro D hD
  let W : Nat → Hp → Prop := fun i H => ∃ acc, acc.length ≤ i ∧ Pv D i acc H ∧ H D = some (.lst acc)
  refine ⟨fun i m H => m = n - i ∧ i ≤ n ∧ W i H, ⟨n, by omega, Nat.zero_le _, [], Nat.le_refl _, h0 D hD, upd_same⟩, ?_⟩
  rintro i m H ⟨rfl, hi, acc, la, pv, eD⟩
  by_cases lt : i < n
  · refine .inr ⟨hgo D i acc H hD lt pv, W (i + 1), fun H' w => ⟨n - (i + 1), by omega, rfl, lt, w⟩, fun x H' y => ?_⟩
    refine hs D i acc H x H' _ (W (i + 1)) hD lt la pv eD y (fun v H4 e4 p4 => ⟨acc, e4, by omega, acc ++ [v], by simp; omega, p4, upd_same⟩) fun H4 e4 p4 => ⟨acc, by omega, p4, e4⟩
  · have e : i = n := by omega
    subst e
    exact .inl ⟨hst D acc H hD pv, hd D acc H hD pv eD⟩
/-- .. where all are kept -/
theorem lc_invA {J : It} {g : TG} {te : TE} {vs : List Nat} {σ : L2.St} {H1 : Hp} {Qf : VK} (n : Nat) (Pv : Addr → Nat → List V → Hp → Prop) (hn : n ≤ sizeLine)
    (h0 : ∀ D, H1 D = none → Pv D 0 [] (upd H1 D (.lst []))) (hgo : ∀ D i acc H, H1 D = none → i < n → Pv D i acc H → J.go i H) (hst : ∀ D acc H, H1 D = none → Pv D n acc H → J.stop n H)
    (hs : ∀ D i acc H x H' (K : VK), H1 D = none → i < n → acc.length ≤ i → Pv D i acc H → H D = some (.lst acc) → J.yld i H x H' → (∀ y H4, H4 D = some (.lst acc) → Pv D (i + 1) (acc ++ [y]) (upd H4 D (.lst (acc ++ [y]))) → K y H4) →
      g x (wipe σ vs) H' fun σ2 H2 => wipe σ2 vs = wipe σ vs ∧ te σ2 H2 K)
    (hd : ∀ D acc H, H1 D = none → Pv D n acc H → H D = some (.lst acc) → Qf (.ref D) H) : LcB J g tYes te vs σ H1 Qf := by
  refine lc_inv n Pv hn h0 hgo hst (fun D i acc H x H' K K0 hD lt la pv eD y k _ => ?_) hd
  have e : (fun (σ2 : L2.St) (H2 : Hp) => wipe σ2 vs = wipe σ vs ∧ tYes σ2 H2 fun b H3 => if b = true then te σ2 H3 K else K0 H3) = fun σ2 H2 => wipe σ2 vs = wipe σ vs ∧ te σ2 H2 K := by
    funext σ2 H2
    simp only [tYes, if_true]
  rw [e]
  exact hs D i acc H x H' K hD lt la pv eD y k
def DcB (J : It) (g : TG) (tt : TT) (tk tv : TE) (vs : List Nat) (σ : L2.St) (H1 : Hp) (Q : VK) : Prop := ∀ D, H1 D = none → ∃ W : Nat → Nat → Hp → Prop, (∃ m, W 0 m (upd H1 D (.dK []))) ∧ ∀ i m H, W i m H →
  (J.stop i H ∧ Q (.ref D) H) ∨ (J.go i H ∧ ∃ Nx : Hp → Prop, (∀ H', Nx H' → ∃ m', m' < m ∧ W (i + 1) m' H') ∧ ∀ x H', J.yld i H x H' → g x (wipe σ vs) H' fun σ2 H2 => wipe σ2 vs = wipe σ vs ∧ tt σ2 H2 fun b H3 =>
    if b = true then tk σ2 H3 fun y H4 => tv σ2 H4 fun z H5 => ∃ kvs k, y = kV k ∧ H5 D = some (.dK kvs) ∧ kvs.length < sizeLine ∧ Nx (upd H5 D (.dK (putK kvs k z))) else Nx H3)
theorem tDc_eq (wi : TI) (g : TG) (tt : TT) (tk tv : TE) (vs : List Nat) (σ : L2.St) (H : Hp) (Q : VK) : tDc wi g tt tk tv vs σ H Q = wi σ H fun J H1 => DcB J g tt tk tv vs σ H1 Q := rfl
theorem dc_invA {J : It} {g : TG} {tk tv : TE} {vs : List Nat} {σ : L2.St} {H1 : Hp} {Qf : VK} (n : Nat) (Pv : Addr → Nat → List (Key × V) → Hp → Prop)
    (h0 : ∀ D, H1 D = none → Pv D 0 [] (upd H1 D (.dK []))) (hgo : ∀ D i acc H, H1 D = none → i < n → Pv D i acc H → J.go i H) (hst : ∀ D acc H, H1 D = none → Pv D n acc H → J.stop n H)
    (hs : ∀ D i acc H x H' (K : V → V → Hp → Prop), H1 D = none → i < n → Pv D i acc H → H D = some (.dK acc) → J.yld i H x H' → (∀ k z H5, H5 D = some (.dK acc) → acc.length < sizeLine → Pv D (i + 1) (putK acc k z) (upd H5 D (.dK (putK acc k z))) → K (kV k) z H5) →
      g x (wipe σ vs) H' fun σ2 H2 => wipe σ2 vs = wipe σ vs ∧ tk σ2 H2 fun y H4 => tv σ2 H4 fun z H5 => K y z H5)
    (hd : ∀ D acc H, H1 D = none → Pv D n acc H → H D = some (.dK acc) → Qf (.ref D) H) : DcB J g tYes tk tv vs σ H1 Qf := by
  intro D hD
  let W : Nat → Hp → Prop := fun i H => ∃ acc, Pv D i acc H ∧ H D = some (.dK acc)
  refine ⟨fun i m H => m = n - i ∧ i ≤ n ∧ W i H, ⟨n, by omega, Nat.zero_le _, [], h0 D hD, upd_same⟩, ?_⟩
  rintro i m H ⟨rfl, hi, acc, pv, eD⟩
  by_cases lt : i < n
  · refine .inr ⟨hgo D i acc H hD lt pv, W (i + 1), fun H' w => ⟨n - (i + 1), by omega, rfl, lt, w⟩, fun x H' y => ?_⟩
    have e : (fun (σ2 : L2.St) (H2 : Hp) => wipe σ2 vs = wipe σ vs ∧ tYes σ2 H2 fun b H3 => if b = true then tk σ2 H3 (fun y H4 => tv σ2 H4 fun z H5 => ∃ kvs k, y = kV k ∧ H5 D = some (.dK kvs) ∧ kvs.length < sizeLine ∧ W (i + 1) (upd H5 D (.dK (putK kvs k z)))) else W (i + 1) H3) =
        fun σ2 H2 => wipe σ2 vs = wipe σ vs ∧ tk σ2 H2 (fun y H4 => tv σ2 H4 fun z H5 => ∃ kvs k, y = kV k ∧ H5 D = some (.dK kvs) ∧ kvs.length < sizeLine ∧ W (i + 1) (upd H5 D (.dK (putK kvs k z)))) := by
      funext σ2 H2
      simp only [tYes, if_true]
    rw [e]
    exact hs D i acc H x H' _ hD lt pv eD y fun k z H5 e5 l5 p5 => ⟨acc, k, rfl, e5, l5, _, p5, upd_same⟩
  · have e : i = n := by omega
    subst e
    exact .inl ⟨hst D acc H hD pv, hd D acc H hD pv eD⟩
end RS
namespace RS
open PySem PySem.Spec L2
section
variable {X : Cx}
/-- d.update(another dict) -/
def rUpdate : V → List V → Hp → VK → Prop := fun x xs H Q => ∃ d o kvs more, x = .ref d ∧ xs = [.ref o] ∧ d ≠ o ∧ H d = some (.dK kvs) ∧ H o = some (.dK more) ∧ kvs.length + more.length ≤ sizeLine ∧ Q .non (upd H d (.dK (mergeK kvs more)))
theorem mt_update : MtR X "dict.update" rUpdate := by
  intro pins s σ H x xs v us Q I rx rv h
  obtain ⟨d, o, kvs, more, rfl, rfl, ne, hd, ho, hz, q⟩ := h
  cases rx
  obtain ⟨u, rfl, ru⟩ := vals1 rv
  cases ru
  obtain ⟨z1, n1, vs, rel, dd⟩ := dk_of I.hok hd
  obtain ⟨z2, n2, ws, rel2, dd2⟩ := dk_of I.hok ho
  refine call_meetsIn PySem.F.slot_dict_update dd.typeIs PySem.F.entry_dict_update (PySem.F.args_dict_update_2 _ _) (meets_dict_update (mixKind X.prog X.w) d o ne n2) ⟨vs, ws, dd, dd2, by rw [← rel.length, ← rel2.length]; exact hz, fun h' dd' _ hs => ?_⟩
  have he : ∃ q, h'.get? d = some q := let ⟨q, _, _, hq, _⟩ := dd'; ⟨q, hq⟩
  exact ⟨.non, _, d_write (t' := s.toks) I (by rw [hd]; exact True.intro) hs he (dk_new (Nat.le_trans (length_mergeK more kvs) hz) n1 (rel2.merge rel) dd'), rfl, q⟩
end
end RS


/-! defs with a star parameter, under the promise without a repr under way -/
namespace RS
open PySem PySem.Spec L2
/-- a def that takes any number of arguments -/
def FnS (g : Wd) (k : Nat) (f : Addr) (sp : Sp) : Prop :=
  ∀ (A : Around) (outer : List Env) (s : Shared) (H : Hp) (us : List Value) (vs : List V) (Q : VK) (E : XK), Room k A → A.guards = some [] → Env0 g.P g.w g.K g.mg g.base A outer s H → Vals vs us → sp vs H Q E → codeAny (model g.P g.w) A (.call (.ref f) ⟨us, []⟩) (CR (L2.CX g.P g.w) outer g.P g.w H s Q E) s
theorem FnS.mono {g : Wd} {j k : Nat} {f : Addr} {sp : Sp} (F : FnS g j f sp) (h : j ≤ k) : FnS g k f sp := fun A outer s H us vs Q E hr => F A outer s H us vs Q E (hr.mono h)
/-- the module's name x holds such a def -/
def KnS (g : Wd) (x : Str) (k : Nat) (sp : Sp) : Prop := ∃ f, g.mg x = some (.ref f) ∧ PySem.W.keepIn g.K (.ref f) = true ∧ FnS g k f sp
def spS (n : Nat) (sp : Sp) : Sp := fun vs H Q E => ∃ ws rest, vs = ws ++ rest ∧ ws.length = n ∧ rest.length ≤ sizeLine ∧ ∀ p, H p = none → sp (ws ++ [V.ref p]) (upd H p (.tup rest)) Q E
theorem Df.okS {g : Wd} {x qual pv : Str} {st : Stmt} {f : Addr} {fd : FuncData} {dV : Value} {N ps : List Str} {k : Nat} {sp : Sp} (F : Df g.K x qual st f fd dV) (S : FnScope N (ps ++ [pv]) (defScope st))
    (hb : ∀ us rest : List Value, us.length = ps.length → bindArgs fd ⟨us ++ rest, []⟩ = (newTuple rest >>= fun t => pure (ps.zip us ++ [(pv, t)])))
    (hbody : ∀ (cdv : Value) (A : Around) (outer : List Env) (s : Shared) (H : Hp) (vs : List V) (Q : VK) (E : XK), Rm k (cx g N qual st f cdv A outer s H E) → sp vs H Q E →
      ∃ t, PSs (cx g N qual st f cdv A outer s H E) (defBody st) t ∧ t { nx := fun _ H' => Q .non H', rt := Q } (start N vs) H) : FnS g (k + 1) f (spS ps.length sp) := by
  obtain ⟨oc, od, kV, doc, pm, an, cdv, ct, osl, rfl, lk, hcd⟩ := F.ex
  intro A outer s H us vs Q E hr hg e0 r hsp
  obtain ⟨ws, rest, rfl, hl, hz, hq⟩ := hsp
  obtain ⟨u1, u2, rfl, r1, r2⟩ := StX.vals_split r
  have nH : H s.heap.objs.size = none := e0.hok.fresh (Nat.le_refl _)
  have l1 : u1.length = ps.length := by rw [← r1.length]; exact hl
  have l2 : u2.length ≤ sizeLine := by rw [← r2.length]; exact hz
  refine StX.run_bnd lk hcd S hr e0 (G := fun ys G => ∃ p, H p = none ∧ ys = ws ++ [V.ref p] ∧ G = upd H p (.tup rest)) (fun A' Ex Q' k => ?_) fun s2 G ys z hr2 => ?_
  · rw [hb u1 u2 l1]
    refine wpAny_bind (wpAny_newTuple (wpAny_pure ?_) l2)
    have new : ObjOk g.P g.w (upd H s.heap.objs.size (.tup rest)) (s.heap.push { cls := .type "tuple", data := .seq u2.toArray }) s.heap.objs.size (.tup rest) := ⟨hz, u2, r2, ⟨_, Heap.get?_push_size _ rfl, rfl, _, rfl⟩⟩
    have U := StX.un_laid (fs := frs outer) (s := s) (o := { cls := .type "tuple", data := .seq u2.toArray }) (u := .tup rest) nH
    have y := k _ _ (ws ++ [V.ref s.heap.objs.size]) (u1 ++ [Value.ref s.heap.objs.size]) (StX.env0_laid e0 new) U rfl (fun e s' => StX.cxUp outer s H _ _ E e s' U (fun b o q => Heap.get?_push_of_some _ q) rfl) (r1.append (.cons rfl .nil)) (by simp [hl]) ⟨_, nH, rfl, rfl⟩
    rw [List.zip_append l1.symm] at y
    exact y
  · obtain ⟨p, hp, rfl, rfl⟩ := z
    exact hbody cdv A outer s2 _ _ Q E ⟨hr2, hg⟩ (hq p hp)
section
variable {g : Wd} {X : Cx} {k : Nat} {f : Addr} {sp : Sp} {W : WX} {x : Str} {p pos : Pos} {e : Expr} {es : List Expr} {t : TA}
theorem callS (a : At g X) (F : FnS g k f sp) (hr : Rm k X) (tk : Takes X W) {pins : List (Addr × Obj)} {σ : L2.St} {H : Hp} {s : Shared} {Q : VK} {us : List Value} {vs : List V} (I : Inv X pins σ H s) (r : Vals vs us) (h : sp vs H Q (fun c d H' => W c d σ H')) :
    wpAny (model X.prog X.w) X.A (call (.ref f) us) (EP X pins σ Q) X.xe s := by
  obtain ⟨P, w, K, mg, base⟩ := g
  obtain ⟨rfl, rfl, rfl, rfl, rfl⟩ := a
  refine wpAny_call (codeAny_mono (F X.A X.stack s H us vs Q _ hr.room hr.gd I.env0 r h) fun res s' hq => ?_)
  cases res with
  | error e => exact tk e s' (XE.of_call (E := fun c d H' => W c d σ H') I (fun _ _ _ z => z) hq)
  | ok fl => cases fl with
    | ret u => exact I.after hq
    | _ => exact hq.elim
def tCallS (sp : Sp) (W : WX) (t : TA) : TE := fun σ H Q => t σ H fun vs H1 => sp vs H1 Q (fun c d H' => W c d σ H')
theorem pe_callS (F : KnS g x k sp) (hr : Rm k X) (tk : Takes X W) (ha : PA X (e :: es) t) (hg : Gl X x := by rfl) (hdb : (x == ("__debug__" : Str)) = false := by decide)
    (he : starEach (e :: es) X.env = (false, eval e X.env) :: starEach es X.env := by rfl) (hpl : (backTo pos (starEach es X.env)).any (·.1) = false := by rfl) (a : At g X := by exact ⟨rfl, rfl, rfl, rfl, rfl⟩) :
    PE X (.Call (.Name x p) (e :: es) [] pos) (tCallS sp W t) := by
  obtain ⟨f, hm, hk, F⟩ := F
  refine ⟨fun pins s σ H Q I h => wpAny_Call_Name_kw (ld_glob I hg (by rw [a.mg]; exact hm) ?_ hdb)⟩
  refine PySem.W.callWith_K (h₀ := X.base) I.ok.mod.kin (by rw [a.K]; exact hk) (thn (ha.run pos pins s σ H _ I h) ?_) he hpl
  rintro us s1 ⟨vs, H1, I1, r, q⟩
  exact ⟨I1.kIn, callS a F hr tk I1 r q⟩
theorem pe_callS0 (F : KnS g x k sp) (hr : Rm k X) (tk : Takes X W) (hg : Gl X x := by rfl) (hdb : (x == ("__debug__" : Str)) = false := by decide) (a : At g X := by exact ⟨rfl, rfl, rfl, rfl, rfl⟩) :
    PE X (.Call (.Name x p) [] [] pos) (tCallS sp W tNil) := by
  obtain ⟨f, hm, hk, F⟩ := F
  refine ⟨fun pins s σ H Q I h => wpAny_Call_Name_kw (ld_glob I hg (by rw [a.mg]; exact hm) ?_ hdb)⟩
  exact PySem.W.callWith_K0 I.kIn (by rw [a.K]; exact hk) (callS a F hr tk I .nil h)
end
end RS


/-! for i, x in enumerate(a tuple) -/
namespace RS
open PySem PySem.Spec L2
/-- the items of the tuple at a, each with its index in a new pair -/
def ItEt (K : PySem.W.Frag) (a : Addr) : It :=
  ⟨fun i H => ∃ (xs : List V) (x : V), SqT K H a xs ∧ xs[i]? = some x, fun i H v H' => ∃ T x, v = .ref T ∧ H T = none ∧ H' = upd H T (.tup [.int (i : Nat), x]) ∧ ∀ xs, SqT K H a xs → xs[i]? = some x, fun i H => ∃ xs : List V, SqT K H a xs ∧ xs.length = i⟩
theorem turn_enumT {P : Program} {w : World} {K : PySem.W.Frag} {elts : List Expr} {kk : Nat} {tpos : Pos} (a e it : Addr) :
    Turn P w K (.Tuple elts kk tpos) (ItEt K a) [e, it] e (fun i h => (∃ old, IsEnum h e it ((i : Nat) : Int) old) ∧ h.IsTupleIter it a i ∧ e ≠ it ∧ a ≠ it ∧ a ≠ e) where
  mem := List.mem_cons_self
  obj := by
    rintro i h ⟨⟨old, he⟩, ⟨o, ho, hc, hd⟩, _⟩ b hb
    rcases List.mem_cons.mp hb with rfl | hb
    · exact ⟨_, he, fun v q => nomatch q⟩
    · obtain rfl := List.mem_singleton.mp hb
      exact ⟨o, ho, fun v q => by rw [hd] at q; cases q⟩
  keep := by
    rintro i h h' ⟨⟨old, he⟩, ⟨o, ho, hr⟩, hne⟩ k
    exact ⟨⟨old, k e (by simp) _ he⟩, ⟨o, k it (by simp) o ho, hr⟩, hne⟩
  item := by
    intro X hP hw hK hc i pins s σ H E I hf st hg
    subst hP hw hK
    obtain ⟨⟨old, he⟩, hit, hne, nai, nae⟩ := st
    obtain ⟨xs, x, hq, hx⟩ := hg
    obtain ⟨its, rv, pl, hz⟩ := I.tuple hq
    obtain ⟨u0, hu0, ru0⟩ := rv.get hx
    have ln := rv.length
    have li : i < its.toArray.size := by have := (List.getElem?_eq_some_iff.mp hx).1; simp; omega
    have hel : e < s.heap.objs.size := Heap.lt_size he
    have hil : it < s.heap.objs.size := by obtain ⟨_, q, _⟩ := hit; exact Heap.lt_size q
    refine wpAny_pyNext_enum_itemD (Draws.tuple (A := X.A.in1) (I.ok.hd hc) it a nai its.toArray) he ⟨hit, pl⟩ li hne (by simp only [List.mem_cons, List.not_mem_nil, or_false, not_or]; exact ⟨hne, Ne.symm nae⟩) fun u h' tk hp ho hit' hT hsz hk => ?_
    have eu : u = u0 := by simp only [List.getElem?_toArray] at hp; rw [hu0] at hp; exact (Option.some.inj hp).symm
    subst eu
    refine ⟨_, rfl, wpAny_letOwnedTupleGo_enum (s := { s with heap := h', toks := tk + 1 }) ho fun h2 he' sb => ?_⟩
    have hT2 : h2.get? s.heap.objs.size = some { cls := .type "tuple", data := .seq #[.int i tk, u] } := (sb.2 _ (Nat.ne_of_gt hel)).trans hT
    have lay : ObjOk X.prog X.w (upd H s.heap.objs.size (.tup [.int (i : Nat), x])) h2 s.heap.objs.size (.tup [.int (i : Nat), x]) :=
      ⟨by show 2 ≤ sizeLine; decide, _, .cons ⟨_, rfl⟩ (.cons ru0 .nil), _, hT2, rfl, _, rfl⟩
    have keepB : ∀ b o, b ∉ [e, it] → s.heap.get? b = some o → h2.get? b = some o := fun b o hb q => by
      have n1 : b ≠ e := fun z => hb (by simp [z])
      have n2 : b ≠ it := fun z => hb (by simp [z])
      exact (sb.2 b n1).trans (hk b o n1 n2 q)
    have I1 := I.turnedNew (t' := tk + 1) keepB hf (Nat.le_refl _) lay
    refine ⟨.ref s.heap.objs.size, _, I1, rfl, ⟨_, x, rfl, I.hok.fresh (Nat.le_refl _), rfl, fun ys hy => by rw [I.tuple_inj hy hq]; exact hx⟩, ⟨⟨_, by simpa using he'⟩, ?_, hne, nai, nae⟩, fun b hb => ?_⟩
    · obtain ⟨o, ho2, hr⟩ := hit'.1
      exact ⟨o, (sb.2 it (Ne.symm hne)).trans ho2, hr⟩
    · have lt : b < s.heap.objs.size := by
        rcases List.mem_cons.mp hb with rfl | hb
        · exact hel
        · rw [List.mem_singleton.mp hb]; exact hil
      rw [upd_ne (Nat.ne_of_lt lt)]
      exact (hf b hb).1
  done := by
    intro X hP hw hK hc i pins s σ H E I hf st hg
    subst hP hw hK
    obtain ⟨⟨old, he⟩, hit, hne, nai, nae⟩ := st
    obtain ⟨xs, hq, rfl⟩ := hg
    obtain ⟨its, rv, pl, hz⟩ := I.tuple hq
    have ln := rv.length
    obtain ⟨f0, f1, f2, f3, f4, f5⟩ := hf it (by simp)
    refine wpAny_pyNext_enum_endD (Draws.tuple (A := X.A.in1) (I.ok.hd hc) it a nai its.toArray) he (by rw [show its.toArray.size = xs.length by simp; omega]; exact ⟨hit, pl⟩) fun h' eb => ⟨rfl, ?_⟩
    exact I.turned (t' := s.toks) (fun b o hb q => eb b o hb q) f0 f1 f3 f4 f5
  self := fun A i s Q E st h => let ⟨⟨_, he⟩, _⟩ := st; wpAny_pyIter_enum he h
def iEnumT (K : PySem.W.Frag) (ta : TA) : TI := fun σ H R => ta σ H fun vs H1 => ∃ a xs, vs = [.ref a] ∧ SqT K H1 a xs ∧ R (ItEt K a) H1
theorem pi_enumT {X : Cx} {K : PySem.W.Frag} {e : Expr} {ta : TA} {p pos tpos : Pos} {elts : List Expr} {kk : Nat} (hm : X.mg "enumerate" = none) (ha : PA X [e] ta) (hg : Gl X "enumerate" := by rfl) (hs : starEach [e] X.env = [(false, eval e X.env)] := by rfl) (hK : X.K = K := by rfl) :
    PI X (.Tuple elts kk tpos) (.Call (.Name "enumerate" p) [e] [] pos) (iEnumT K ta) := by
  subst hK
  refine ⟨fun pins s σ H R I h => ?_⟩
  refine PyProof.Rows.Call_ (ld_blt I hg hm PyProof.Rows.boot_enumerate (PyProof.Rows.callWith_type1 (thn (ha.run pos pins s σ H _ I h) ?_) hs rfl))
  rintro us s1 ⟨vs, H1, I1, r1, a, xs, rfl, hx, q⟩
  obtain ⟨u, rfl, ru⟩ := vals1 r1
  cases ru
  obtain ⟨its, rv, pl, hz⟩ := I1.tuple hx
  have la : a < s1.heap.objs.size := by obtain ⟨o, z, _⟩ := pl; exact Heap.lt_size z
  refine call_enumB (begins_tuple a its.toArray) pl fun h' he hi z hk => wpAny_pyIter_enum he ?_
  refine ⟨s1.heap.objs.size + 1, [s1.heap.objs.size + 1, s1.heap.objs.size], _, _, H1, rfl, I1.kept (t' := s1.toks) hk, turn_enumT a _ _, ⟨⟨.none, he⟩, ⟨_, hi, rfl, rfl⟩, Nat.succ_ne_self _, Nat.ne_of_lt la, Nat.ne_of_lt (Nat.lt_succ_of_lt la)⟩, fun b hb => ?_, q⟩
  have le : s1.heap.objs.size ≤ b := by
    rcases List.mem_cons.mp hb with rfl | hb
    · exact Nat.le_succ _
    · rw [List.mem_singleton.mp hb]; exact Nat.le_refl _
  exact I1.fpOk le (I1.hok.fresh le)
end RS


/-! raising exceptions of own classes -/
namespace RS
open PySem PySem.Spec L2 PySem.W
section
variable {g : Wd} {X : Cx} {C : Addr} {x f : Str} {e : Expr} {t : TA} {p pos : Pos}
def tPm1 (C : Addr) (f : Str) (t : TA) : L2.St → Hp → XK → Prop := fun σ H Q => t σ H fun vs H1 => ∃ v, vs = [v] ∧ ∀ dy, H1 dy = none → Q (.ref C) (some dy) (upd H1 dy (.xd [(f, v)]))
theorem pmk_x1 (F : XK1 g x C f) (R : Raises X (.ref C)) (hr : Rm 2 X) (ha : PA X [e] t) (hg : Gl X x := by rfl) (hdb : (x == ("__debug__" : Str)) = false := by decide)
    (he : starEach [e] X.env = (false, eval e X.env) :: starEach [] X.env := by rfl) (hpl : (backTo pos (starEach [] X.env)).any (·.1) = false := by rfl) (a : At g X := by exact ⟨rfl, rfl, rfl, rfl, rfl⟩) :
    PMk X (.Call (.Name x p) [e] [] pos) (tPm1 C f t) := by
  obtain ⟨hm, ms, kp, hd, sa, nf, fI, cda, cc, qual, st, B, newId, initId, bmB, xp, XX, Y⟩ := F
  intro pins s σ H Q I h
  refine wpAny_Call_Name_kw (ld_glob I hg (by rw [a.mg]; exact hm) ?_ hdb)
  refine PySem.W.callWith_K (h₀ := X.base) I.ok.mod.kin (by rw [a.K]; exact kp) (thn (ha.run pos pins s σ H _ I h) ?_) he hpl
  rintro us s1 ⟨vs, H1, I1, r, v, rfl, q⟩
  obtain ⟨u, rfl, ru⟩ := vals1 r
  refine ⟨I1.kIn, ?_⟩
  have KI := I1.kIn
  rw [a.K] at KI
  obtain ⟨nm, N', qn, bs, bm, hdct, sn, sub, ab, col, dd, k0, k1, k2, k3, k5, hC, hT⟩ := excInit_of KI XX.q
  obtain ⟨oc, od, kV, doc, pm, an, ct, osl, lk⟩ := XX.lk
  have hfn : oc = .type "function" := by
    have z := XX.fn
    unfold typeIn at z
    simp only [lk] at z
    simpa using z
  have hglob : s1.heap.Ns mainGlobals g.mg := by rw [← a.mg]; exact I1.mod.glob.keeps I1.bk
  obtain ⟨mb, hblt, bb⟩ := I1.mod.blt
  have hblt2 := hblt.keeps I1.bk
  have hlim := I1.nolimit
  have bare := I1.bare
  obtain ⟨hp, gg, dr, tt, oo⟩ := s1
  have up : ∀ b o, hp.get? b = some o → ((hp.push (kdv_tup [u])).push (HandSPX.excO C hp.objs.size)).get? b = some o := fun b o z => Heap.get?_push_of_some _ (Heap.get?_push_of_some _ z)
  have hget : ((hp.push (kdv_tup [u])).push (HandSPX.excO C hp.objs.size)).get? (hp.objs.size + 1) = some (HandSPX.excO C hp.objs.size) := by heap_get
  refine wpAny_call (HandSPX.call_own XX.FB hT hC (looks_findIn KI XX.ini) (fun self => exc_bind (KI _ _ lk) hfn self) (by rw [sizeLine_eq]; simp) ?_)
  rw [a.P]
  refine xinit1 XX Y hd sa nf (fun b o z => up b o (KI b o z)) ?_ (hr.here.make C [u] []).room.depth (hlim.keeps up) hget (hglob.keeps up) ms (hblt2.keeps up) bb fun h' t1 dx tk k ldx nex e' n' => ⟨rfl, ?_⟩
  · cases z : g.K.lookup (hp.objs.size + 1) with
    | none => rfl
    | some o => exact absurd (Heap.lt_size (KI _ _ z)) (by show ¬ hp.objs.size + 1 < hp.objs.size; omega)
  have old : ∀ {b : Addr} {o : Obj}, hp.get? b = some o → b ≠ hp.objs.size + 1 := fun {b o} z y => by
    have := Heap.lt_size z
    rw [y] at this
    exact absurd this (by show ¬ hp.objs.size + 1 < hp.objs.size; omega)
  have k' : ∀ b o, hp.get? b = some o → h'.get? b = some o := fun b o z => k b o (old z) (up b o z)
  have ld2 : hp.objs.size + 2 ≤ dx := by
    have e2 : ((hp.push (kdv_tup ([] ++ [u]))).push (HandSPX.excO C hp.objs.size)).objs.size = hp.objs.size + 2 := by simp [Heap.size_push]
    rw [e2] at ldx
    exact ldx
  have n2 : hp.get? dx = none := by
    cases z : hp.get? dx with
    | none => rfl
    | some o => exact absurd (Heap.lt_size z) (by show ¬ dx < hp.objs.size; omega)
  have f1 : H1 (hp.objs.size + 1) = none := I1.hok.fresh (Nat.le_succ _)
  have f2 : H1 dx = none := I1.hok.fresh (by show hp.objs.size ≤ dx; omega)
  obtain ⟨G, g1, g2⟩ := restrict h' fun b => decide (b ≠ hp.objs.size + 1)
  have gk : ∀ b, b ≠ hp.objs.size + 1 → G.get? b = h'.get? b := fun b hb => g1 b (decide_eq_true hb)
  have ge : G.get? (hp.objs.size + 1) = none := g2 _ (by simp)
  have J := Inv.laidN (t' := tk) (a := dx) (o := HO.xd [(f, v)]) (h' := G) I1 (fun b o z => by rw [gk b (old z)]; exact k' b o z) n2 f2 ⟨_, n'.at fun o y => (gk dx nex).trans y, relO_put (fs := []) ru fun _ => True.intro⟩
  refine ⟨hp.objs.size + 1, _, _, _, _, .ref C, some dx, rfl, J, fun b o z => ?_, ge, e', ⟨rfl, rfl⟩, rfl, rfl, ?_, rfl, bare, R, q dx f2⟩
  · by_cases hb : b = hp.objs.size + 1
    · rw [hb] at z
      have z' : G.get? (hp.objs.size + 1) = some o := z
      rw [ge] at z'; cases z'
    · exact (gk b hb).symm.trans z
  · rw [upd_ne (Ne.symm nex)]; exact f1
end
end RS


/-! the walrus in a test with or; match over texts -/
namespace RS
open PySem PySem.Spec L2 PyProof.Rows
section
variable {X : Cx} {a b : Expr} {rest : List Expr} {pos : Pos}
def wOr (t u : TTw) : TTw := fun σ H Q => t σ H fun c σ1 H1 => if c = true then Q true σ1 H1 else u σ1 H1 Q
/-- (x := e) op f or .. -/
theorem ptw_or {t : TTw} {u : TT} (ha : PTw X a t) (hb : PW X (.BoolOp .Or (b :: rest) pos) u) : PTw X (.BoolOp .Or (a :: b :: rest) pos) (wOr t (wT u)) := by
  refine ⟨fun pins s σ H Q I h => ?_⟩
  refine isTrue_or (thn (ha.run pins s σ H _ I h) fun c s1 ⟨σ1, H1, I1, q1⟩ => ?_)
  cases c with
  | true => exact ⟨σ1, H1, I1, q1⟩
  | false => exact thn (hb.run _ pins s1 σ1 H1 (fun b H2 => Q b σ1 H2) I1 q1) fun b s2 ⟨H2, I2, q2⟩ => ⟨σ1, H2, I2, q2⟩
end
/-! ### match -/
/-- the cases of a match over a value -/
structure PMc (X : Cx) (cs : List MatchCase) (t : V → TS) : Prop where
  run : ∀ (first : Bool) (pins : List (Addr × Obj)) (s : Shared) (σ : L2.St) (H : Hp) (x : V) (v : Value) (D : Ends), Inv X pins σ H s → RelV x v → t x D σ H → wpAny (model X.prog X.w) X.A (matchCases cs X.env v first) (SP X pins D) X.xe s
/-- a pattern that binds nothing, over a text -/
structure PPt (X : Cx) (p : Pattern) (m : Str → Bool) : Prop where
  run : ∀ (pins : List (Addr × Obj)) (s : Shared) (σ : L2.St) (H : Hp) (x : Str) (tk : Tok) (Q : Option (List (Str × Value)) → Shared → Prop), Inv X pins σ H s → (∀ s', Inv X pins σ H s' → Q (if m x = true then some [] else none) s') → wpAny (model X.prog X.w) X.A (matchPattern p X.env (.str x tk)) Q X.xe s
section
variable {X : Cx} {e : Expr} {te : TE} {pos : Pos} {p : Pattern} {ps : List Pattern} {m : Str → Bool} {body : List Stmt} {cs : List MatchCase} {tb : TS} {t : V → TS}
def tMatch (te : TE) (t : V → TS) : TS := fun D σ H => te σ H fun x H1 => t x D σ H1
theorem ps_match (he : PE X e te) (hc : PMc X cs t) : PS X (.Match e cs pos) (tMatch te t) :=
  ⟨fun pins s σ H D I h => wpAny_Match (thn (he.run pins s σ H _ I h) fun v s1 ⟨x, H1, I1, r1, q1⟩ => hc.run true pins s1 σ H1 x v D I1 r1 q1)⟩
theorem pmc_nil : PMc X [] (fun _ D σ H => D.nx σ H) := ⟨fun first pins s σ H x v D I r h => wpAny_matchCases_nil ⟨σ, H, I, h⟩⟩
def tCase (m : Str → Bool) (tb : TS) (t : V → TS) : V → TS := fun x D σ H => ∃ y, x = .str y ∧ if m y = true then tb D σ H else t x D σ H
theorem pmc_case (hp : PPt X p m) (hb : PSs X body tb) (hc : PMc X cs t) : PMc X (⟨p, none, body⟩ :: cs) (tCase m tb t) := by
  refine ⟨fun first pins s σ H x v D I r h => ?_⟩
  obtain ⟨y, rfl, h⟩ := h
  obtain ⟨tk, rfl⟩ := r
  refine wpAny_matchCases_cons (hp.run pins s σ H y tk _ I fun s1 I1 => ?_)
  cases hm : m y with
  | true =>
    rw [hm, if_pos rfl] at h
    rw [if_pos rfl]
    exact wpAny_assignInOrder_none (hb.run pins s1 σ H D I1 h)
  | false =>
    rw [hm, if_neg Bool.false_ne_true] at h
    rw [if_neg Bool.false_ne_true]
    exact hc.run false pins s1 σ H (.str y) _ D I1 ⟨tk, rfl⟩ h
/-- case _ -/
theorem pmc_rest (hb : PSs X body tb) {q : Pos} : PMc X [⟨.MatchAs none none q, none, body⟩] (fun _ => tb) :=
  ⟨fun first pins s σ H x v D I r h => wpAny_matchCases_cons (wpAny_matchPattern_Capture (wpAny_assignInOrder_none (hb.run pins s σ H D I h)))⟩
theorem ppt_str {z : Str} {j : Nat} {q q' : Pos} : PPt X (.MatchValue (.Constant (.str z) j q) q') (fun x => decide (x = z)) := by
  refine ⟨fun pins s σ H x tk Q I h => ?_⟩
  refine wpAny_matchPattern_Value (thn ((pe_str (X := X) (x := z) (j := j) (pos := q)).run pins s σ H (fun y H1 => y = .str z ∧ H1 = H) I ⟨rfl, rfl⟩) fun u s1 ⟨y, H1, I1, r1, e1, e2⟩ => ?_)
  subst e1
  subst e2
  refine thn (op_eq pins s1 σ H1 (.str x) (.str z) _ u (fun w H2 => w = .bl (decide (x = z)) ∧ H2 = H1) I1 ⟨tk, rfl⟩ r1 ?_) fun c s2 ⟨w, H2, I2, r2, e3, e4⟩ => ?_
  · exact ⟨rfl, by simp, rfl⟩
  · subst e3
    subst e4
    cases r2
    refine wpAny_truthy_bool ?_
    have := h s2 I2
    cases hm : decide (x = z) with
    | true => rw [hm] at this; exact this
    | false => rw [hm] at this; exact this
/-- some patterns that bind nothing -/
structure PPs (X : Cx) (ps : List Pattern) (m : Str → Bool) : Prop where
  run : ∀ (pins : List (Addr × Obj)) (s : Shared) (σ : L2.St) (H : Hp) (x : Str) (tk : Tok) (Q : Option (List (Str × Value)) → Shared → Prop), Inv X pins σ H s → (∀ s', Inv X pins σ H s' → Q (if m x = true then some [] else none) s') → wpAny (model X.prog X.w) X.A (matchFirst ps X.env (.str x tk)) Q X.xe s
theorem pps_nil : PPs X [] (fun _ => false) := ⟨fun pins s σ H x tk Q I h => wpAny_matchFirst_nil (h s I)⟩
theorem pps_cons {m' : Str → Bool} (hp : PPt X p m) (hs : PPs X ps m') : PPs X (p :: ps) (fun x => m x || m' x) := by
  refine ⟨fun pins s σ H x tk Q I h => ?_⟩
  refine wpAny_matchFirst_cons (hp.run pins s σ H x tk _ I fun s1 I1 => ?_)
  cases hm : m x with
  | true =>
    have := h s1 I1
    simp only [hm, Bool.true_or, if_true] at this
    exact this
  | false =>
    refine hs.run pins s1 σ H x tk Q I1 fun s2 I2 => ?_
    have := h s2 I2
    simpa only [hm, Bool.false_or] using this
theorem ppt_or (hs : PPs X ps m) {q : Pos} (hn : namesOfAll (ps.take 1) = [] := by rfl) : PPt X (.MatchOr ps q) m := by
  refine ⟨fun pins s σ H x tk Q I k => ?_⟩
  refine wpAny_matchPattern_Or (hs.run pins s σ H x tk _ I fun s1 I1 => ?_)
  have := k s1 I1
  cases hm : m x with
  | true =>
    rw [hm, if_pos rfl] at this
    rw [if_pos rfl]
    simpa [hn] using this
  | false =>
    rw [hm, if_neg Bool.false_ne_true] at this
    rw [if_neg Bool.false_ne_true]
    exact this
end
end RS


/-! is True, is False; two promises of one def -/
namespace RS
open PySem PySem.Spec L2 PyProof.Rows
section
variable {X : Cx}
theorem is_bool {M : Model} {A : Around} {E : Value → Shared → Prop} {s : Shared} {x : V} {u : Value} {b : Bool} {R : Bool → Shared → Prop} (r : RelV x u) (q : R (decide (x = .bl b)) s) : wpAny M A (isSame u (.bool b)) R E s := by
  have eq_ : ∀ {u : Value} {z : Bool}, plainIs u (.bool b) = true → (u == Value.bool b) = z → R z s → wpAny M A (isSame u (.bool b)) R E s := fun h1 h2 q => wpAny_isSame_plain h1 (by rw [h2]; exact q)
  have no : ∀ {u : Value}, plainIs u (.bool b) = true → (u == Value.bool b) = false → decide (x = .bl b) = false → wpAny M A (isSame u (.bool b)) R E s := fun h1 h2 h3 => eq_ h1 h2 (by rw [← h3]; exact q)
  cases x with
  | ref a => cases r; exact no rfl rfl (by simp)
  | non => cases r; exact no rfl rfl (by simp)
  | bl c =>
    cases r
    refine eq_ rfl rfl ?_
    have e : (Value.bool c == Value.bool b) = decide (V.bl c = V.bl b) := by cases c <;> cases b <;> rfl
    rw [e]; exact q
  | int i => obtain ⟨t, rfl⟩ := r; exact no rfl rfl (by simp)
  | str x => obtain ⟨t, rfl⟩ := r; exact no rfl rfl (by simp)
  | byt x => obtain ⟨t, rfl⟩ := r; exact no rfl rfl (by simp)
  | flt x => obtain ⟨t, rfl⟩ := r; exact no rfl rfl (by simp)
  | ty n => cases r; exact no rfl rfl (by simp)
/-- x is True, x is False -/
theorem op_isB : OpR X (compareOp .Is) (fun x y H Q => ∃ b, y = .bl b ∧ Q (.bl (decide (x = .bl b))) H) := by
  intro pins s σ H x y v u Q I rx ry h
  obtain ⟨b, rfl, q⟩ := h
  cases ry
  show wpAny _ _ ((isSame v (Value.bool b)) >>= fun z => pure (Value.bool z)) _ _ s
  exact wpAny_bind (is_bool rx (wpAny_pure (fin_bl I q rfl)))
theorem op_notB : OpR X (compareOp .IsNot) (fun x y H Q => ∃ b, y = .bl b ∧ Q (.bl (!decide (x = .bl b))) H) := by
  intro pins s σ H x y v u Q I rx ry h
  obtain ⟨b, rfl, q⟩ := h
  cases ry
  show wpAny _ _ ((isSame v (Value.bool b)) >>= fun z => pure (Value.bool (!z))) _ _ s
  exact wpAny_bind (is_bool rx (wpAny_pure (fin_bl I q rfl)))
end
/-- either promise -/
def SpOr (sp sp' : Sp) : Sp := fun vs H Q E => sp vs H Q E ∨ sp' vs H Q E
theorem FnG.or {g : Wd} {k : Nat} {f : Addr} {fd : FuncData} {ps : List Str} {sp sp' : Sp} (F : FnG g k f fd ps sp) (F' : FnG g k f fd ps sp') : FnG g k f fd ps (SpOr sp sp') :=
  ⟨fun vs H Q E h => h.elim (F.len vs H Q E) (F'.len vs H Q E), fun A outer s H args us vs Q E hr hg he hb hv h => h.elim (F.run A outer s H args us vs Q E hr hg he hb hv) (F'.run A outer s H args us vs Q E hr hg he hb hv)⟩
end RS


/-! try .. except (A, B, C) as e: what is caught may be kept -/
namespace RS
open PySem PySem.Spec L2 PyProof.Rows
/-- an object that came to be behind the entry is known from now on -/
theorem track {X : Cx} {pins : List (Addr × Obj)} {σ : L2.St} {H : Hp} {s : Shared} {a : Addr} {u : HO} (I : Inv X pins σ H s) (na : H a = none) (n0 : X.s_0.heap.get? a = none) (nL : a ≠ X.env.locals)
    (nc : ∀ x c, X.env.cells.lookup x = some c → c ≠ a) (np : ∀ p ∈ X.pn ++ pins, p.1 ≠ a) (ok : ObjOk X.prog X.w (upd H a u) s.heap a u) : Inv X pins σ (upd H a u) s where
  ok := I.ok
  os := I.os
  bare := I.bare
  base := {
    keep := I.base.keep
    slot := I.base.slot
    free := fun b o q n hx => by rw [upd_ne (fun z => by rw [z, n0] at q; cases q)]; exact I.base.free b o q n hx
    there := I.base.there
    tups := fun b xs q => by
      have z := I.base.tups b xs q
      rw [upd_ne (ne_of_none z na)]; exact z
    frzs := fun b o v q => by
      have z := I.base.frzs b o v q
      rw [upd_ne (ne_of_none z na)]; exact z
    tbls := fun b ps q => by
      obtain ⟨m, z⟩ := I.base.tbls b ps q
      exact ⟨m, by rw [upd_ne (ne_of_none z na)]; exact z⟩ }
  loc := I.loc
  cell := I.cell
  free := by rw [upd_ne (Ne.symm nL)]; exact I.free
  freeC := fun x c q => by rw [upd_ne (nc x c q)]; exact I.freeC x c q
  pin := fun p hp => by
    obtain ⟨e1, e2, e3⟩ := I.pin p hp
    exact ⟨e1, by rw [upd_ne (np p hp)]; exact e2, e3⟩
  hok := fun b o q => by
    by_cases hb : b = a
    · subst hb
      rw [upd_same] at q
      cases q
      exact ok
    · rw [upd_ne hb] at q
      exact (I.hok b o q).stay (fun _ _ _ z => z) (fun y hy => by rw [upd_ne (ne_of_none hy na)]; exact hy) (fun y xs hy => by rw [upd_ne (ne_of_none hy na)]; exact hy)
  len := I.len
theorem fly_kept {B : Heap} {l : List Env} {a : Addr} {Z : Obj → Prop} {h h' : Heap} (k : ∀ b o, h.get? b = some o → h'.get? b = some o) (f : HandSPX.FlyingZ B l a Z h) : HandSPX.FlyingZ B l a Z h' := by
  obtain ⟨st, n, ff, oe, vs, T, oT, ts, h1, h2, h3, h4, h5, h6, h7, h8, h9⟩ := f
  exact ⟨fun b o q => k b o (st b o q), n, Heap.FunFrames.of_keeps (fun b o q _ => ⟨o, k b o q, rfl⟩) ff, oe, vs, T, oT, ts, k _ _ h1, h2, h3, h4, h5, h6, k _ _ h7, h8, h9⟩
theorem sky_none {B : Heap} {l : List Env} {a L : Addr} {Z : Obj → Prop} {h : Heap} (x : Sky B l a Z L h) : B.get? a = none := by
  rcases x with x | x | x
  · exact x.2.1
  · exact x.2.1
  · exact x.2.1
/-- what the clause wishes of an exception: it is kept, as a value -/
def wKeep (K : PySem.W.Frag) (cs : List Value) (i : Nat) (ts : Addr → Value → Option Addr → TS) (Wout : WX) (D : Ends) : WX := fun cls d σ H =>
  ∃ b, PySem.W.exmAny K cls cs = some b ∧ (b = true → ∃ C, cls = .ref C ∧ ∀ a, H a = none → ts a cls d { nx := fun σ' H' => H' a = none → D.nx (σ'.set i none) (upd H' a (exv a C d)), rt := fun _ _ => False, bk := fun _ _ => False, ct := fun _ _ => False } (σ.set i (some (.ref a))) H) ∧
    (b = false → Wout cls d σ H)
section
variable {X : Cx} {x1 x2 x3 n : Str} {C1 C2 C3 : Addr} {i kk : Nat} {body suite : List Stmt} {b₀ : Stmt} {q1 q2 q3 tp pos pos' : Pos} {tb : WX → TS} {ts : Addr → Value → Option Addr → TS} {Wout : WX}
theorem ps_try_keep (hs : X.stack = X.env :: X.outer) (hf : X.env.frame = some X.env.locals) (hex : X.ex = []) (hN : X.N.Nodup) (hi : X.N[i]? = some n) (hln : X.env.kindOf n = some .local) (g1 : Names X x1 (.ref C1)) (g2 : Names X x2 (.ref C2)) (g3 : Names X x3 (.ref C3)) (tk : Takes X Wout)
    (hb : ∀ (W : WX) (pn : List (Addr × Obj)) (xe : Value → Shared → Prop), Takes (X.tr pn xe) W → PassesOwn (model X.prog X.w) X.A X.env xe → PSs (X.tr pn xe) body (tb W))
    (hsu : ∀ (a : Addr) (oe : Obj) (cls : Value) (d : Option Addr) (pn : List (Addr × Obj)), Zc cls d oe → (∃ vs, oe.data = .fields vs) → PSs (X.suite a ((a, oe) :: pn)) (b₀ :: suite) (ts a cls d)) :
    PS X (.Try body [.ExceptHandler (some (.Tuple [.Name x1 q1, .Name x2 q2, .Name x3 q3] kk tp)) (some n) (b₀ :: suite) pos'] [] [] pos) (fun D σ H => tb (wKeep X.K [.ref C1, .ref C2, .ref C3] i ts Wout D) D σ H) := by
  refine ⟨fun pins s σ H D I h => ?_⟩
  have ok := I.ok
  have hfr : X.A.frames = some (X.env :: X.outer) := by rw [ok.frames, hs]
  refine wpAny_Try_except ?_
  let clause : ExceptHandler := .ExceptHandler (some (.Tuple [.Name x1 q1, .Name x2 q2, .Name x3 q3] kk tp)) (some n) (b₀ :: suite) pos'
  let M := model X.prog X.w
  let xe' : Value → Shared → Prop := fun e s₁ => wpAny M X.A (noteFrame e X.env) (fun _ s₂ => wpAny M X.A (setFlight e none) (fun _ s₃ => wpAny M X.A (handleBy e X.env [clause]) (SP X pins D) X.xe s₃) X.xe s₂) X.xe s₁
  have run := (hb (wKeep X.K [.ref C1, .ref C2, .ref C3] i ts Wout D) (X.pn ++ pins) xe' (fun u s' xx => ?caught) PassesOwn.looking).run [] s σ H D (I.toTry _) h
  · refine wpAny_mono run (fun f s1 hsp => ?_) (fun e s1 he => he)
    cases f with
    | next =>
      obtain ⟨σ', H', J', q⟩ := hsp
      exact wpAny_execs_nil ⟨σ', H', J'.ofTry ok, q⟩
    | brk =>
      obtain ⟨σ', H', J', q⟩ := hsp
      exact ⟨σ', H', J'.ofTry ok, q⟩
    | cont =>
      obtain ⟨σ', H', J', q⟩ := hsp
      exact ⟨σ', H', J'.ofTry ok, q⟩
    | ret u =>
      obtain ⟨v, σ', H', J', r, q⟩ := hsp
      exact ⟨v, σ', H', J'.ofTry ok, r, q⟩
  case caught =>
    obtain ⟨a, B, sI, pins', σ', H', cls, d, rfl, J', nb, up, sky, na, os, ag, b, hb1, hyes, hno⟩ := xx
    have J : Inv X pins σ' H' sI := J'.ofTry ok
    have sky' : Sky B (X.env :: X.outer) a (Zc cls d) X.env.locals s'.heap := by rw [← hs]; exact sky
    have nB := sky_none sky'
    show wpAny M X.A (noteFrame (.ref a) X.env) _ _ _
    refine Sky.land Zc.steady hfr hf sky' fun h3 fl3 up3 => ?_
    have land : ∀ h, HandSPX.FlyingZ B (X.env :: X.outer) a (Zc cls d) h → s'.heap.UpToSlots h → Inv X pins σ' H' { s' with heap := h } := fun h fl u => J.landed nb fl.1 (up.trans u) os ag
    have J3 := land h3 fl3 up3
    obtain ⟨oe3, vs3, he3, hz3, hd3⟩ := fl3.there
    have nfr : a ∉ frs (X.env :: X.outer) := fun hm => by
      obtain ⟨_, o', e', hnf⟩ := fl3.2.2.1.mem hm
      rw [he3] at e'
      cases e'
      exact hnf _ hd3
    have nL : a ≠ X.env.locals := fun z => nfr (List.mem_filterMap.mpr ⟨X.env, List.mem_cons_self, by rw [hf, z]⟩)
    have nF : a ∉ X.fs := fun hm => by
      obtain ⟨e, he, q⟩ := List.mem_filterMap.mp hm
      exact nfr (List.mem_filterMap.mpr ⟨e, List.mem_cons_of_mem _ he, q⟩)
    have nI : sI.heap.get? a = none := by
      cases z : sI.heap.get? a with
      | none => rfl
      | some o =>
        have := nb a o z (by rw [hs]; exact nfr)
        rw [nB] at this; cases this
    have n0 : X.s_0.heap.get? a = none := by
      cases z : X.s_0.heap.get? a with
      | none => rfl
      | some o =>
        obtain ⟨o', z'⟩ := J.base.there a o z (by rw [hex]; simp)
        rw [nI] at z'; cases z'
    have npin : ∀ p ∈ X.pn ++ pins, p.1 ≠ a := fun p hp z => by
      have := (J.pin p hp).1
      rw [z, nI] at this; cases this
    have S3 := J3.suite he3 hd3 na nL nF
    refine wpAny_handleBy_cons (codeAny_handlers_test ?_) (by intro q; cases q)
    have LT : PySem.W.Looks M h3 (typeOf (.ref a)) cls := fun A Q E s k q => wpAny_typeOf_ref (k _ _ he3) (by rw [hz3.1]; exact q)
    have ld : ∀ {x : Str} {C : Addr} {np : Pos} {Q : Value → Shared → Prop} {E : Value → Shared → Prop}, Names X x (.ref C) → Q (.ref C) { s' with heap := h3 } → wpAny M (X.A.mark (some (.ref a))) (eval (.Name x np) X.env) Q E { s' with heap := h3 } := fun {x C np Q E} hc q => by
      obtain ⟨hg, hdbg, hm | ⟨hm, hv, hnn⟩⟩ := hc
      · exact ld_glob (X := X.suite a ((a, oe3) :: (X.pn ++ pins))) S3 hg hm q hdbg
      · exact ld_blt (X := X.suite a ((a, oe3) :: (X.pn ++ pins))) S3 hg hm hv q hnn hdbg
    refine wpAny_Tuple (wpAny_items_cons (ld g1 (wpAny_items_cons (ld g2 (wpAny_items_cons (ld g3 (wpAny_items_nil ⟨by size_fits, ?_⟩)))))))
    have kp : ∀ b o, h3.get? b = some o → (h3.push { cls := .type "tuple", data := .seq [Value.ref C1, .ref C2, .ref C3].toArray }).get? b = some o := fun _ _ z => Heap.get?_push_of_some _ z
    refine (PySem.W.exm_tup3 (M := M) (J3.kIn.keeps kp) (LT.keeps kp) (Heap.get?_push_size h3 rfl) hb1).here ?_
    have fl := fly_kept kp fl3
    have upk : s'.heap.UpToSlots (h3.push { cls := .type "tuple", data := .seq [Value.ref C1, .ref C2, .ref C3].toArray }) := up3.trans (Heap.UpToSlots.of_keeps kp)
    cases b with
    | true =>
      obtain ⟨C, rfl, hyes⟩ := hyes rfl
      refine codeAny_handlers_suite_as ?_
      refine HandSPX.lands_againZ fl fun h4 fl4 up4 => ?_
      have J4 := land h4 fl4 (upk.trans up4)
      obtain ⟨oe4, vs4, he4, hz4, hd4⟩ := fl4.there
      have S4 := J4.suite he4 hd4 na nL nF
      refine store_ok (X := X.suite a ((a, oe4) :: (X.pn ++ pins))) (v := .ref a) S4 hN hi (.inl hln) rfl (fun s5 S5 => ?_) (.inr hln)
      refine wpAny_mono ((hsu a oe4 (.ref C) d (X.pn ++ pins) hz4 ⟨_, hd4⟩).run [] s5 _ H' _ S5 (hyes a na)) (fun f s6 hsp => ?_) (fun _ _ z => False.elim z)
      cases f with
      | next =>
        obtain ⟨σ6, H6, S6, q6⟩ := hsp
        have p6 := S6.pin (a, oe4) (List.mem_append_left _ (List.mem_cons_self ..))
        have Jp : Inv X ((a, oe4) :: pins) σ6 H6 s6 := ⟨ok, S6.os, S6.bare, S6.base, S6.loc, S6.cell, S6.free, S6.freeC, fun p hp => by
          rcases List.mem_append.mp hp with z | z
          · exact S6.pin p (List.mem_append_left _ (List.mem_cons_of_mem _ (List.mem_append_left _ z)))
          · rcases List.mem_cons.mp z with z | z
            · rw [z]; exact p6
            · exact S6.pin p (List.mem_append_left _ (List.mem_cons_of_mem _ (List.mem_append_right _ z))), S6.hok, S6.len⟩
        refine gone_ok Jp hN hi hln fun s7 J7 => ?_
        obtain ⟨e7, n7, l7, f7, c7⟩ := J7.pin (a, oe4) (List.mem_append_right _ (List.mem_cons_self ..))
        have J8 : Inv X pins (σ6.set i none) H6 s7 := ⟨ok, J7.os, J7.bare, J7.base, J7.loc, J7.cell, J7.free, J7.freeC, fun p hp => J7.pin p ((List.mem_append.mp hp).elim (List.mem_append_left _) fun z => List.mem_append_right _ (List.mem_cons_of_mem _ z)), J7.hok, J7.len⟩
        refine ⟨_, _, track (u := exv a C d) J8 n7 n0 l7 (fun x c hc z => ?_) npin (exv_ok e7 hz4.1 hz4.2 hd4), q6 n7⟩
        obtain ⟨v, o, ho, hd⟩ := J7.cell x c hc
        rw [z, e7] at ho
        cases ho
        exact c7 v hd
      | brk =>
        obtain ⟨σ6, H6, S6, q6⟩ := hsp
        exact q6.elim
      | cont =>
        obtain ⟨σ6, H6, S6, q6⟩ := hsp
        exact q6.elim
      | ret u =>
        obtain ⟨v6, σ6, H6, S6, r6, q6⟩ := hsp
        exact q6.elim
    | false =>
      show wpAny _ X.A (handleBy (.ref a) X.env []) _ _ _
      refine wpAny_handleBy_nil ?_
      have fl' := fl
      obtain ⟨k1, k2, k3, oe, vs, T, oT, ts', he, hz, hd, h1, hr⟩ := fl'
      unfold PySem.passOn
      refine wpAny_bind (wpAny_field he hd h1 ?_)
      rw [if_neg (show ¬ ((Value.ref T == Value.none) = true) from by simp)]
      have fin : wpAny M X.A (setFlight (.ref a) X.env.frame) (fun _ s4 => wpAny M X.A (throw (.ref a) : Sem Flow) (SP X pins D) X.xe s4) X.xe { s' with heap := h3.push { cls := .type "tuple", data := .seq [Value.ref C1, .ref C2, .ref C3].toArray } } := by
        rw [hf]
        refine HandSPX.setFlight_upZ fl fun h4 hh4 up4 => wpAny_throw (tk _ _ ?_)
        exact ⟨a, B, sI, pins, σ', H', cls, d, rfl, J, nb, up.trans (upk.trans up4), .inr (.inr (by rw [hs]; exact hh4)), na, os, ag, hno rfl⟩
      first
        | exact wpAny_bind (wpAny_pure (wpAny_bind fin))
        | exact wpAny_bind fin
end
end RS


/-! f(lambda: e), f a def of the text that calls what it is given -/
namespace RS
open PySem PySem.Spec L2 PyProof.Rows LamX
/-- within the context Z, entered with the lambda at f in the slot 0: a() does what tl says -/
def Acts (Z : Cx) (a : Str) (f c' : Addr) (q : Str) (tl : XK → Hp → VK → Prop) : Prop :=
  ∀ (W : WX) (pn : List (Addr × Obj)) (xe : Value → Shared → Prop) (p1 p2 : Pos), Takes (Z.tr pn xe) W →
    PE (Z.tr pn xe) (.Call (.Name a p1) [] [] p2) (fun σZ HZ Q => σZ[0]? = some (some (.ref f)) ∧ HZ c' = some (CodeO c' q) ∧ tl (fun cls d H' => W cls d σZ H') HZ Q)
/-- the module's name x holds a def with one parameter a, which it calls; TT: what it makes of the lambda's reading -/
structure Told (g : Wd) (k : Nat) (x : Str) (TT : Addr → Str → (XK → Hp → VK → Prop) → Hp → VK → Prop) : Prop where
  ex : ∃ (st : Stmt) (gf : Addr) (fd : FuncData) (a : Str) (N : List Str), g.mg x = some (.ref gf) ∧ Df g.K x x st gf fd .none ∧ Binds g.K fd [a] [] ∧ FnScope N [a] (defScope st) ∧ N[0]? = some a ∧ Vis (defScope st) a ∧ (a == ("__debug__" : Str)) = false ∧ (a == ("__classdict__" : Str)) = false ∧
    ∀ (cdv : Value) (A : Around) (outer : List Env) (s : Shared) (H : Hp) (Q : VK) (f c' : Addr) (q : Str) (tl : XK → Hp → VK → Prop), Rm k (cx g N x st gf cdv A outer s H fun _ _ _ => False) →
      Acts (cx g N x st gf cdv A outer s H fun _ _ _ => False) a f c' q tl → H c' = some (CodeO c' q) → TT c' q tl H Q →
      ∃ t, PSs (cx g N x st gf cdv A outer s H fun _ _ _ => False) (defBody st) t ∧ t { nx := fun _ H' => Q .non H', rt := Q } (start N [.ref f]) H
section
variable {X : Cx} {pins : List (Addr × Obj)} {σ : L2.St} {H : Hp} {s : Shared}
/-- the lambda at f, run from the frames of Z -/
theorem lam_run {f c' : Addr} {pm ctv : Value} {params : Arguments} {body : Expr} {scope : Scope} {k : Nat} {E : XK} {tb : TE} {A : Around} {outer : List Env} {s1 : Shared} {HZ : Hp} {Q : VK}
    (I : Inv X pins σ H s) (L : LamS X.env.scope scope) (hc : HZ c' = some (CodeO c' (X.env.qual ++ "<lambda>"))) (e0 : Env0 X.prog X.w X.K X.mg X.base A outer s1 HZ) (lim : s1.heap.NoLimit)
    (of1 : s1.heap.get? f = some (PySem.W.kla_obj "<lambda>" (X.env.qual ++ "<lambda>") params body scope (cloFrom X.env.cells scope.names []) pm c' ctv)) (un : Un (frs X.stack) [] H HZ s.heap s1.heap)
    (hbind : bindArgs (PySem.W.kla_fn "<lambda>" (X.env.qual ++ "<lambda>") params body scope (cloFrom X.env.cells scope.names []) pm (.ref c') ctv) ⟨[], []⟩ = pure []) (hr : Room (k + 1) A) (gd : A.guards = some [])
    (hbody : Rm k (lamCx X A outer s1 HZ E scope f c') → PE (lamCx X A outer s1 HZ E scope f c') body tb) (ht : tb σ HZ Q) :
    codeAny (model X.prog X.w) A (.call (.ref f) ⟨[], []⟩) (CR (L2.CX X.prog X.w) outer X.prog X.w HZ s1 Q E) s1 := by
  obtain ⟨⟨oc, vs, t, hoc, hdc, hvc⟩, _, _⟩ := e0.hok c' _ hc
  refine PySem.W.kla_callFunE hr.depth of1 rfl L.co L.gen rfl ⟨c', oc, vs, t, rfl, hoc, hdc, hvc⟩ ?_
  rw [hbind]
  refine wpAny_pure (wpAny_newFunctionEnv (fun y hy => (L.own y hy).2) (fun y hy => absurd hy (by simp)) (fun h₁ hns hsb => ⟨lim.fresh _ hsb, ?_⟩) L.kind)
  show codeAny _ _ (.expr body (lamEnv X scope s1.heap.objs.size f c')) _ _
  have kp : ∀ b o, s1.heap.get? b = some o → h₁.get? b = some o := fun b o q => hsb.extBut b o (Nat.ne_of_lt (Heap.lt_size q)) (Heap.get?_push_of_some _ q)
  have J := lam_start2 (E := E) (f := f) (c' := c') (tk := s1.toks + ([] : List (Str × Value)).length) I L e0 hr.hd un hns kp
  have P := hbody ⟨hr.deeper _, gd⟩
  refine PySem.W.kla_codeExpr (wpAny_mono (P.run [] _ _ HZ Q J ht) (fun v s' hq => ?_) fun e s' hq => hq)
  obtain ⟨w', H', J', rv, q⟩ := hq
  exact ⟨w', H', J'.os, J'.bare, J'.base, J'.hok, rv, q⟩
def tLamG (T : List (Addr × Str)) (TT : Addr → Str → (XK → Hp → VK → Prop) → Hp → VK → Prop) (q : Str) (t : XK → TE) : TE := fun σ H Q => Tabs T H ∧ ∀ c' H1, ExtN H H1 → Tabs T H1 → H1 c' = some (CodeO c' q) → TT c' q (fun E H' Q' => t E σ H' Q') H1 Q
/-- x(lambda: body) -/
theorem pe_lamG {g : Wd} {T : List (Addr × Str)} {TT : Addr → Str → (XK → Hp → VK → Prop) → Hp → VK → Prop} {x : Str} {c P : Addr} {k : Nat} {params : Arguments} {body : Expr} {scope : Scope} {t : XK → TE} {p lpos pos : Pos}
    (F : Told g (k + 1) x TT) (hr : Rm (k + 2) X) (TB : TabB X.base X.mg c P) (hcode : X.env.code = .ref c) (hmT : (P, X.env.qual ++ "<lambda>") ∈ T) (hu : ∀ p ∈ T, p.1 = P → p.2 = X.env.qual ++ "<lambda>")
    (L : LamS X.env.scope scope) (hdef : defaultsOf params X.env = ([], []))
    (hbind : ∀ (q : Str) (cl : List (Str × Addr)) (pm cv ctv : Value), bindArgs (PySem.W.kla_fn "<lambda>" q params body scope cl pm cv ctv) ⟨[], []⟩ = pure [])
    (hbody : ∀ (A : Around) (outer : List Env) (s : Shared) (H : Hp) (E : XK) (f c' : Addr), Rm k (lamCx X A outer s H E scope f c') → PE (lamCx X A outer s H E scope f c') body (t E))
    (hg : Gl X x := by rfl) (hdb : (x == ("__debug__" : Str)) = false := by decide) (at_ : At g X := by exact ⟨rfl, rfl, rfl, rfl, rfl⟩) :
    PE X (.Call (.Name x p) [.Lambda params body scope lpos] [] pos) (tLamG T TT (X.env.qual ++ "<lambda>") t) := by
  refine ⟨fun pins s σ H Q I h => ?_⟩
  obtain ⟨hT, h⟩ := h
  obtain ⟨st, gf, fd, a, N, hm, DF, hb, Sg, hN0, hva, hd1, hd2, body_⟩ := F.ex
  obtain ⟨oc, od, kV, doc, pm0, an, cdv, ct, osl, rfl, lk, hcd⟩ := DF.ex
  have hm' : X.mg x = some (.ref gf) := by rw [at_.mg]; exact hm
  refine wpAny_Call_Name_kw (ld_glob I hg hm' ?_ hdb)
  refine PySem.W.callWith_K (h₀ := X.base) I.ok.mod.kin (by rw [at_.K]; exact DF.kp) ?_ (by rfl) (by rfl)
  show wpAny _ _ (spliced ((false, eval (.Lambda params body scope lpos) X.env) :: backTo pos (starEach [] X.env))) _ _ s
  refine Calls.spliced_cons (lam_make2 I TB hcode hmT hu hT hdef (L.has I.ok) fun f c' pm' ctv H1 s' I1 eN T1 hf hfn hfr hco => ?_)
  refine Calls.spliced_nil ⟨I1.kIn, ?_⟩
  have KX := I1.kIn
  rw [at_.K] at KX
  have rc : codeAny (model X.prog X.w) X.A (.call (.ref gf) ⟨[.ref f], []⟩) (CR (L2.CX X.prog X.w) X.stack X.prog X.w H1 s' Q fun _ _ _ => False) s' := by
    obtain ⟨P0, w0, K0, mg0, base0⟩ := g
    obtain ⟨rfl, rfl, rfl, rfl, rfl⟩ := at_
    refine run_ofS (N := N) (ps := [a]) (us := [.ref f]) (vs := [.ref f]) lk hcd Sg hr.room I1.env0 (hb s' [.ref f] I1.kIn rfl) (.cons rfl .nil) rfl fun hr' => ?_
    refine body_ cdv X.A X.stack s' H1 Q f c' (X.env.qual ++ "<lambda>") (fun E H' Q' => t E σ H' Q') ⟨hr', hr.gd⟩ (fun W pn xe p1 p2 tk => ⟨fun pinsZ sZ σZ HZ Q IZ hz => ?_⟩) hco (h c' H1 eN T1 hco)
    obtain ⟨hs, hc, ht⟩ := hz
    refine wpAny_Call_Name_kw (thn ((pe_var (pos := p1) (i := 0) hN0 hva hd1 hd2).run pinsZ sZ σZ HZ (fun v H1 => v = .ref f ∧ H1 = HZ) IZ ⟨.ref f, hs, rfl, rfl⟩) fun u s1 ⟨v, H2, I2, r2, q2⟩ => ?_)
    obtain ⟨ev, eH⟩ := q2
    subst ev
    rw [eH] at I2
    obtain rfl : u = Value.ref f := r2
    have of1 := I2.base.keep f _ hf hfn hfr (fun z => nomatch (show f ∈ ([] : List Addr) from z))
    refine PySem.W.callWith_F0 ⟨_, _, _, _, of1⟩ ?_
    have un : Un (frs X.stack) [] H1 HZ s'.heap s1.heap := I2.base
    have rl := lam_run (X := X) (k := k) (E := fun cls d H' => W cls d σZ H') (A := X.A.deeper (envOfC x (defScope st) s'.heap.objs.size gf cdv)) (outer := envOfC x (defScope st) s'.heap.objs.size gf cdv :: X.stack) (s1 := s1) (Q := Q) I1 L hc I2.env0 I2.nolimit of1 un (hbind _ _ _ _ _) hr' hr.gd (hbody _ _ _ _ _ _ _) ht
    refine wpAny_call (codeAny_mono rl fun r s2 hq => ?_)
    cases r with
    | error e => exact tk e s2 (XE.of_call (E := fun cls d H' => W cls d σZ H') I2 (fun _ _ _ z => z) hq)
    | ok fl =>
      cases fl with
      | ret u => exact I2.after hq
      | next => exact False.elim hq
      | brk => exact False.elim hq
      | cont => exact False.elim hq
  refine wpAny_call (codeAny_mono rc fun r s2 hq => ?_)
  cases r with
  | error e =>
    obtain ⟨_, _, _, _, _, _, _, _, _, _, _, _, z⟩ := hq
    exact z.elim
  | ok fl =>
    cases fl with
    | ret u => exact I1.after hq
    | next => exact False.elim hq
    | brk => exact False.elim hq
    | cont => exact False.elim hq
end
end RS


/-! what was caught, as a value: its field, its class; raise C() -/
namespace RS
open PySem PySem.Spec L2 PySem.W
/-- the fields of an exception, however they are known -/
def XdAt (H : Hp) (dd : Addr) (fs : List (Str × V)) : Prop := H dd = some (.xd fs) ∨ H dd = some (exd dd fs)
theorem XdAt.same {H H' : Hp} {dd : Addr} {fs : List (Str × V)} (h : XdAt H dd fs) (s : Same H H') : XdAt H' dd fs := h.imp (s _ _) (s _ _)
theorem XdAt.at {P : Program} {w : World} {H : Hp} {h : Heap} {dd : Addr} {fs : List (Str × V)} (hok : HOk P w H h) (e : XdAt H dd fs) : ∃ mA, h.Ns1 dd mA ∧ ∀ f, RelO (fs.lookup f) (mA f) := by
  rcases e with e | e
  · have x : ObjOk P w H h dd (.xd fs) := hok dd _ e
    exact x
  · exact exd_at hok e
section
variable {g : Wd} {X : Cx} {C : Addr} {x f : Str} {e o : Expr} {t : TA} {ta : TE} {p pos : Pos}
def tXfa (K : Frag) (f : Str) (ta : TE) : TE := fun σ H Q => ta σ H fun x H1 => ∃ a C dd fs v, x = .ref a ∧ H1 a = some (exv a C (some dd)) ∧ XdAt H1 dd fs ∧ fs.lookup f = some v ∧ XfC K C ∧ findIn K (.ref C) f = some none ∧ Q v H1
theorem pe_xfa (he : PE X e ta) (hb : attributeBase e f X.env (eval e X.env) = eval e X.env := by rfl) (at_ : At g X := by exact ⟨rfl, rfl, rfl, rfl, rfl⟩) : PE X (.Attribute e f pos) (tXfa g.K f ta) := by
  refine ⟨fun pins s σ H Q I h => ?_⟩
  refine attr_of hb (thn (he.run pins s σ H _ I h) fun u s1 hh => ?_)
  obtain ⟨x, H1, I1, rx, a, C, dd, fs, v, rfl, ea, ed, l, T, hno, q⟩ := hh
  obtain rfl : u = Value.ref a := rx
  obtain ⟨oe, vs, hoe, c1, c2, c3⟩ := exv_at I1.hok ea
  obtain ⟨mA, hns, hr⟩ := ed.at I1.hok
  obtain ⟨od, ho, hl⟩ := lookIn_ns hns
  obtain ⟨u, hu, ru⟩ := RelO.some_of (v := v) (o := mA f) (by rw [← l]; exact hr f)
  have J : InstAt s1.heap a oe C (some od) := ⟨hoe, c1, by unfold notCls; rw [c3] <;> rfl, by rw [c2]; exact ho⟩
  have KI := I1.kIn
  rw [at_.K] at KI
  exact HandSPX.exc_get KI J T.ga T.gg T.exC (findObj_own T.hdC hno rfl (by rw [hl, hu])) (handed_of ru) ⟨v, H1, I1.tok _, ru, q⟩
/-- isinstance(x, c), x what was caught -/
def rIsW (K : Frag) : List V → Hp → VK → Prop := fun xs H Q => ∃ (a C : Addr) (d : Option Addr) (c : V) (u : Value) (b : Bool), xs = [.ref a, c] ∧ ExcC K C ∧ ClsV c u ∧ H a = some (exv a C d) ∧ (∀ dd, d = some dd → ∃ fs, XdAt H dd fs) ∧ kitOne K (.ref C) u = some b ∧ Q (.bl b) H
theorem c_isW {K : Frag} (hK : X.K = K := by rfl) : CallR X (.builtin "isinstance") (rIsW K) := by
  subst hK
  intro pins s σ H xs us Q I r h
  obtain ⟨a, C, d, c, u, b, rfl, T, k, ea, ed, e, q⟩ := h
  obtain ⟨u1, u2, rfl, r1, r2⟩ := vals2 r
  have e2 := k.eq r2
  subst e2
  cases r1
  obtain ⟨oe, vs, hoe, c1, c2, c3⟩ := exv_at I.hok ea
  have J : ∃ ox od, InstAt s.heap a ox C od := by
    cases d with
    | none => exact ⟨oe, none, hoe, c1, by unfold notCls; rw [c3] <;> rfl, by rw [c2]; trivial⟩
    | some dd =>
      obtain ⟨fs, ef⟩ := ed dd rfl
      obtain ⟨mA, hns, hr⟩ := ef.at I.hok
      obtain ⟨od, ho, hl⟩ := lookIn_ns hns
      exact ⟨oe, some od, hoe, c1, by unfold notCls; rw [c3] <;> rfl, by rw [c2]; exact ho⟩
  exact kia_one (kitX T) I.kIn J e (fun z => nomatch z) fun tk => ⟨.bl b, H, I.tok tk, rfl, q⟩
/-- raise C() -/
def tPm0 (C : Addr) : L2.St → Hp → XK → Prop := fun σ H Q => Q (.ref C) none H
theorem pmk_x0 (F : XK0 g x C) (R : Raises X (.ref C)) (hr : Rm 2 X) (hg : Gl X x := by rfl) (hdb : (x == ("__debug__" : Str)) = false := by decide) (a : At g X := by exact ⟨rfl, rfl, rfl, rfl, rfl⟩) : PMk X (.Call (.Name x p) [] [] pos) (tPm0 C) := by
  obtain ⟨hm, ms, kp, fI, cda, cc, qual, st, B, newId, initId, bmB, XX, Y⟩ := F
  intro pins s σ H Q I q
  refine wpAny_Call_Name_kw (ld_glob I hg (by rw [a.mg]; exact hm) ?_ hdb)
  refine PySem.W.callWith_K0 I.kIn (by rw [a.K]; exact kp) ?_
  have KI := I.kIn
  rw [a.K] at KI
  obtain ⟨nm, N', qn, bs, bm, hdct, sn, sub, ab, col, dd, k0, k1, k2, k3, k5, hC, hT⟩ := excInit_of KI XX.q
  obtain ⟨oc, od, kV, doc, pm, an, ct, osl, lk⟩ := XX.lk
  have hfn : oc = .type "function" := by
    have z := XX.fn
    unfold typeIn at z
    simp only [lk] at z
    simpa using z
  have hglob : s.heap.Ns mainGlobals g.mg := by rw [← a.mg]; exact I.mod.glob.keeps I.bk
  obtain ⟨mb, hblt, bb⟩ := I.mod.blt
  have hblt2 := hblt.keeps I.bk
  have hlim := I.nolimit
  have bare := I.bare
  obtain ⟨hp, gg, dr, tt, oo⟩ := s
  have up : ∀ b o, hp.get? b = some o → ((hp.push (kdv_tup [])).push (HandSPX.excO C hp.objs.size)).get? b = some o := fun b o z => Heap.get?_push_of_some _ (Heap.get?_push_of_some _ z)
  have hget : ((hp.push (kdv_tup [])).push (HandSPX.excO C hp.objs.size)).get? (hp.objs.size + 1) = some (HandSPX.excO C hp.objs.size) := by heap_get
  refine wpAny_call (HandSPX.call_own XX.FB hT hC (looks_findIn KI XX.ini) (fun self => exc_bind (KI _ _ lk) hfn self) (by rw [sizeLine_eq]; simp) ?_)
  rw [a.P]
  refine xinit0 XX Y (fun b o z => up b o (KI b o z)) (hr.here.make C [] []).room.depth (hlim.keeps up) hget (hglob.keeps up) ms (hblt2.keeps up) bb fun h' t1 tk k e' => ⟨rfl, ?_⟩
  have k' : ∀ b o, hp.get? b = some o → h'.get? b = some o := fun b o z => k b o (fun y => by
    have := Heap.lt_size z
    rw [y] at this
    exact absurd this (by show ¬ hp.objs.size + 1 < hp.objs.size; omega)) (up b o z)
  have n1 : hp.get? (hp.objs.size + 1) = none := by
    cases z : hp.get? (hp.objs.size + 1) with
    | none => rfl
    | some o => exact absurd (Heap.lt_size z) (by show ¬ hp.objs.size + 1 < hp.objs.size; omega)
  have f1 : H (hp.objs.size + 1) = none := I.hok.fresh (Nat.le_succ _)
  have J : Inv X pins σ H { heap := hp, gens := gg, drawn := dr, toks := tt, os := oo } := I
  obtain ⟨G, g1, g2⟩ := restrict h' fun b => decide (b ≠ hp.objs.size + 1)
  have gk : ∀ b, b ≠ hp.objs.size + 1 → G.get? b = h'.get? b := fun b hb => g1 b (decide_eq_true hb)
  have ge : G.get? (hp.objs.size + 1) = none := g2 _ (by simp)
  have J2 := J.kept (h' := G) (t' := tk) fun b o z => by
    rw [gk b (fun y => by rw [y] at z; rw [n1] at z; cases z)]
    exact k' b o z
  refine ⟨hp.objs.size + 1, _, _, _, _, .ref C, none, rfl, J2, fun b o z => ?_, ge, e', ⟨rfl, rfl⟩, rfl, rfl, f1, rfl, bare, R, q⟩
  by_cases hb : b = hp.objs.size + 1
  · rw [hb] at z
    have z' : G.get? (hp.objs.size + 1) = some o := z
    rw [ge] at z'; cases z'
  · exact (gk b hb).symm.trans z
end
end RS


/-! the end of a law that makes lambdas: tables of code objects -/
namespace RS
open PySem PySem.Spec PyProof.Rows L2 LamX
/-- nothing but the script and the tables is tracked -/
def OnlyT (cs : List (Addr × Addr)) (H : Hp) : Prop := ∀ b, H b = none ∨ b ∈ cs.map (·.2) ∨ ∃ o xs, H b = some (.frz o (.lst xs))
theorem lawT {P : Program} {w : World} {K : PySem.W.Frag} {mg mb : Str → Option Value} {k : Nat} {fa a : Addr} {cs : List (Addr × Addr)} {fd : FuncData} {x : Str} {sp : Sp} {s₁ : Shared} {vs : List Value} {ns : List Int}
    (KX : K.In s₁.heap) (gl : s₁.heap.Ns mainGlobals mg) (bl : s₁.heap.Ns builtinsNs mb) (bb : ∀ x : Str, x ≠ "__name__" → mb x = bootBuiltins x) (lim : s₁.heap.NoLimit) (ge : s₁.gens = #[])
    (tab : ∀ p ∈ cs, s₁.heap.get? p.2 = some { cls := .none, data := .fields #[] }) (tabN : ∀ p ∈ cs, K.lookup p.2 = none) (cod : ∀ p ∈ cs, PySem.W.CodeHd s₁.heap p.1 p.2)
    (bmd : ∃ (bm : Addr) (ob : Obj), mg "__builtins__" = some (.ref bm) ∧ bm ≠ builtinsNs ∧ s₁.heap.get? bm = some ob ∧ ob.cls = .type "module" ∧ ob.dict = some builtinsNs ∧ ob.data = .plain)
    (ha : s₁.heap.get? a = some { cls := .type "list", data := .seq vs.toArray }) (hi : IntsAre vs ns) (hl : ns.length ≤ sizeLine) (hr : Room k callerA) (sm : SmB s₁.heap)
    (F : ∀ base : Heap, K.In base → base.Ns mainGlobals mg → SmB base → (∀ p ∈ cs, TabB base mg p.1 p.2) → FnG ⟨P, w, K, mg, base⟩ k fa fd [x] sp) (bd : ∀ (s : Shared) (u : Value), BindsTo s fd ⟨[u], []⟩ [(x, u)])
    (hsp : ∀ H : Hp, (∀ p ∈ cs, H p.2 = some (.tbl #[])) → SqL K H a (ns.map V.int) → sp [.ref a] H (fun v _ => v = .bl true) fun _ _ _ => False) :
    codeAny (model P w) callerA (.call (.ref fa) ⟨[.ref a], []⟩) (fun r s' => r = .ok (.ret (.bool true)) ∧ OldK s₁.heap s'.heap ∧ s'.os = s₁.os ∧ AllBare s'.gens) s₁ := by
  have rv := vals_ints hi
  have tabM : ∀ b, b ∈ cs.map (·.2) → s₁.heap.get? b = some { cls := .none, data := .fields #[] } := fun b hb => by
    obtain ⟨p, hp, rfl⟩ := List.mem_map.mp hb
    exact tab p hp
  have mem : ∀ p ∈ cs, p.2 ∈ cs.map (·.2) := fun p hp => List.mem_map.mpr ⟨p, hp, rfl⟩
  have ncs : a ∉ cs.map (·.2) := fun z => by
    have q := tabM a z
    rw [ha] at q
    have z' : Data.seq vs.toArray _ = Data.fields #[] := congrArg Obj.data (Option.some.inj q)
    cases z'
  have go : ∀ H : Hp, (∀ p ∈ cs, H p.2 = some (.tbl #[])) → OnlyT cs H → SqL K H a (ns.map V.int) → HOk P w H s₁.heap → (∀ b, H b ≠ none → b = a ∨ b ∈ cs.map (·.2)) → (H a ≠ none → K.lookup a = none) →
      codeAny (model P w) callerA (.call (.ref fa) ⟨[.ref a], []⟩) (fun r s' => r = .ok (.ret (.bool true)) ∧ OldK s₁.heap s'.heap ∧ s'.os = s₁.os ∧ AllBare s'.gens) s₁ := by
    intro H hH hO hS hok hA hK
    have free : ∀ {b : Addr} {o : Obj}, s₁.heap.get? b = some o → (∀ v n, o.data ≠ .seq v n) → o.data ≠ .fields #[] → H b = none := by
      intro b o e n1 n2
      cases q : H b with
      | none => rfl
      | some u =>
        rcases hA b (by rw [q]; simp) with rfl | z
        · rw [ha] at e
          cases e
          exact absurd rfl (n1 _ _)
        · rw [tabM b z] at e
          cases e
          exact absurd rfl n2
    have freeD : ∀ {b : Addr} {o : Obj} {es : Array DictEntry} {n : Nat}, s₁.heap.get? b = some o → o.data = .dict es n → H b = none := fun e d =>
      free e (fun v m z => by rw [d] at z; cases z) (fun z => by rw [d] at z; cases z)
    have ns1 : ∀ {b : Addr} {m : Str → Option Value}, s₁.heap.Ns b m → (hidT s₁.heap H).Ns b m := by
      rintro b m ⟨o, es, ep, e, d, r⟩
      exact ⟨o, es, ep, hidT_get e (freeD e d), d, r⟩
    have K1 : K.In (hidT s₁.heap H) := by
      intro b o e
      refine hidT_get (KX b o e) ?_
      cases q : H b with
      | none => rfl
      | some u =>
        rcases hA b (by rw [q]; simp) with rfl | z
        · rw [hK (by rw [q]; simp)] at e
          cases e
        · obtain ⟨p, hp, rfl⟩ := List.mem_map.mp z
          rw [tabN p hp] at e
          cases e
    have md : Mod K mg (hidT s₁.heap H) := by
      obtain ⟨mc, l1, l2⟩ := lim
      exact ⟨K1, ns1 gl, ⟨mb, ns1 bl, bb⟩, mc, ns1 l1, l2⟩
    have TB : ∀ p ∈ cs, TabB (hidT s₁.heap H) mg p.1 p.2 := by
      intro p hp
      refine ⟨?_, ?_, fun z => ?_⟩
      · obtain ⟨o, us, file, tf, flags, tg, inF, text, tt, e1, r1, r2, r3, rest⟩ := cod p hp
        refine ⟨o, us, file, tf, flags, tg, inF, text, tt, hidT_get e1 (free e1 (fun v n z => by rw [r2] at z; cases z) fun z => ?_), r1, r2, r3, rest⟩
        rw [r2] at z
        cases z
        simp at r3
      · obtain ⟨bm, ob, b1, b2, b3, b4, b5, b6⟩ := bmd
        refine ⟨bm, ob, b1, b2, fun z => ?_, fun z => ?_, hidT_get b3 (free b3 (fun v n y => by rw [b6] at y; cases y) fun y => by rw [b6] at y; cases y), b4, b5, b6⟩
        · obtain ⟨o, es, ep, e, d, _⟩ := gl
          rw [z, e] at b3
          cases b3
          rw [d] at b6; cases b6
        · rw [z, tab p hp] at b3
          cases b3
          cases b6
      · obtain ⟨o, es, ep, e, d, _⟩ := gl
        rw [z, tab p hp] at e
        cases e
        cases d
    have e0 : Env0 P w K mg (hidT s₁.heap H) callerA [] s₁ H :=
      { frames := rfl, mod := md, bs := fun b o e => of_hidT e, bsz := Nat.le_of_eq (hidT_size _ _), funs := trivial, frf := fun b hb => (nomatch hb), hok := hok, bare := .of_eq ge }
    have sm1 : SmB (hidT s₁.heap H) := by
      obtain ⟨o, es, n, e, d⟩ := sm
      exact ⟨o, es, n, hidT_get e (freeD e d), d⟩
    refine codeAny_mono ((F _ K1 (ns1 gl) sm1 TB).run callerA [] s₁ H ⟨[.ref a], []⟩ [.ref a] [.ref a] _ _ hr rfl e0 (bd s₁ (.ref a)) (.cons rfl .nil) (hsp H hH hS)) ?_
    rintro r s' h
    cases r with
    | error e =>
      obtain ⟨_, _, _, _, _, _, _, _, _, _, _, _, z⟩ := h
      exact z.elim
    | ok fl => cases fl with
      | ret u =>
        obtain ⟨v, H', os, bare, un, hok', r', q⟩ := h
        obtain rfl : v = .bl true := q
        obtain rfl : u = Value.bool true := r'
        have kept : ∀ b o, b ∉ cs.map (·.2) → s₁.heap.get? b = some o → s'.heap.get? b = some o := fun b o nb e => by
          rcases hO b with z | z | ⟨ob, xs, z⟩
          · exact un.keep b o e z (fun y => (nomatch y)) (fun y => (nomatch y))
          · exact absurd z nb
          · have z2 := un.frzs b ob _ z
            have e1 := (hok b _ z).1
            rw [e] at e1
            cases e1
            exact (hok' b _ z2).1
        have grown : ∀ p ∈ cs, ∃ more : Array Value, s'.heap.get? p.2 = some { cls := .none, data := .fields more } := fun p hp => by
          obtain ⟨more, z⟩ := un.tbls p.2 #[] (hH p hp)
          exact ⟨_, hok' p.2 _ z⟩
        refine ⟨rfl, ⟨fun b o e => ?_, fun b o e => ?_⟩, os, bare⟩
        · by_cases hb : b ∈ cs.map (·.2)
          · obtain ⟨p, hp, rfl⟩ := List.mem_map.mp hb
            obtain ⟨more, hm⟩ := grown p hp
            rw [tab p hp] at e
            cases e
            refine .inr (.inl ⟨((cod p hp).tab (tab p hp)).isCodeTable, rfl, #[], more, rfl, ?_⟩)
            rw [Array.empty_append]; exact hm
          · exact .inl (kept b o hb e)
        · by_cases hb : b ∈ cs.map (·.2)
          · obtain ⟨p, hp, rfl⟩ := List.mem_map.mp hb
            obtain ⟨more, hm⟩ := grown p hp
            exact ⟨_, hm⟩
          · exact ⟨o, kept b o hb e⟩
      | _ => exact h.elim
  let Ht : Hp := fun b => if b ∈ cs.map (·.2) then some (.tbl #[]) else none
  have ht1 : ∀ b, b ∈ cs.map (·.2) → Ht b = some (.tbl #[]) := fun b hb => if_pos hb
  have ht0 : ∀ b, b ∉ cs.map (·.2) → Ht b = none := fun b hb => if_neg hb
  have htok : HOk P w Ht s₁.heap := fun b u z => by
    by_cases hb : b ∈ cs.map (·.2)
    · rw [ht1 b hb] at z
      cases z
      exact tabM b hb
    · rw [ht0 b hb] at z; cases z
  cases hk : K.lookup a with
  | some o =>
    have e := KX a o hk
    rw [ha] at e
    cases e
    refine go Ht (fun p hp => ht1 _ (mem p hp)) (fun b => ?_) (.inr ⟨_, vs.toArray, _, hk, rfl, rfl, rfl, by rw [List.size_toArray, hi.length]; exact hl, by simpa using rv⟩) htok (fun b z => ?_) fun z => absurd (ht0 a ncs) z
    · by_cases hb : b ∈ cs.map (·.2)
      · exact .inr (.inl hb)
      · exact .inl (ht0 b hb)
    · by_cases hb : b ∈ cs.map (·.2)
      · exact .inr hb
      · exact absurd (ht0 b hb) z
  | none =>
    have hta := ht0 a ncs
    refine go (upd Ht a (.frz { cls := .type "list", data := .seq vs.toArray } (.lst (ns.map V.int)))) (fun p hp => ?_) (fun b => ?_) (.inl (.inr ⟨_, upd_same⟩)) (fun b u z => ?_) (fun b z => ?_) fun _ => hk
    · rw [upd_ne (fun y : p.2 = a => ncs (by rw [← y]; exact mem p hp))]; exact ht1 _ (mem p hp)
    · by_cases hb : b = a
      · subst hb; exact .inr (.inr ⟨_, _, upd_same⟩)
      · rw [upd_ne hb]
        by_cases hc : b ∈ cs.map (·.2)
        · exact .inr (.inl hc)
        · exact .inl (ht0 b hc)
    · by_cases hb : b = a
      · subst hb
        rw [upd_same] at z
        cases z
        exact ⟨ha, by rw [List.length_map]; exact hl, vs, _, rv, ha⟩
      · rw [upd_ne hb] at z
        exact (htok b u z).stay (fun _ _ _ q => q) (fun y hy => by rw [upd_ne (ne_of_none hy hta)]; exact hy) (fun y xs hy => by rw [upd_ne (ne_of_none hy hta)]; exact hy)
    · by_cases hb : b = a
      · exact .inl hb
      · rw [upd_ne hb] at z
        by_cases hc : b ∈ cs.map (·.2)
        · exact .inr hc
        · exact absurd (ht0 b hc) z
/-- what the facts of the top give: the law's def with the tables of its makers of lambdas -/
def LawTs (l : PySem.W.OpenLaw) (w : World) (K : PySem.W.Frag) (k n : Nat) (x : Str) (mg : Str → Option Value) (fa : Addr) (h : Heap) : Prop :=
  ∃ (fd : FuncData) (cs : List (Addr × Addr)) (sp : Sp), (∀ p ∈ cs, h.get? p.2 = some { cls := .none, data := .fields #[] }) ∧ (∀ p ∈ cs, K.lookup p.2 = none) ∧ (∀ p ∈ cs, PySem.W.CodeHd h p.1 p.2) ∧ (∀ (s : Shared) (u : Value), BindsTo s fd ⟨[u], []⟩ [(x, u)]) ∧
    (∀ (H : Hp) (a : Addr) (ns : List Int), ns.length ≤ n → (∀ p ∈ cs, H p.2 = some (.tbl #[])) → SqL K H a (ns.map V.int) → sp [.ref a] H (fun v _ => v = .bl true) fun _ _ _ => False) ∧
    ∀ base : Heap, K.In base → base.Ns mainGlobals mg → SmB base → (∀ p ∈ cs, TabB base mg p.1 p.2) → FnG ⟨l.prog, w, K, mg, base⟩ k fa fd [x] sp
/-- the tables of the defs, by their names -/
def TabF (q : Program) (K : PySem.W.Frag) (h : Heap) : Prop := ∀ (x : Str) (d : DefRec) (c P : Addr), (recsOf q).find? (fun e => e.name == x) = some d → PySem.W.tabIn K x = some (c, P) → PySem.W.CodeHd h c P ∧ h.get? P = some { cls := .none, data := .fields #[] }
theorem walkT {l : PySem.W.OpenLaw} {n k : Nat} {q : Program} {loose : List Str} {XP : (Str → Option Value) → Heap → Prop} {YP : World → Heap → Prop} {d : DefRec} {K : Params → PySem.W.Frag} {x : Str}
    (hn : l.most = some n) (hn2 : n ≤ sizeLine) (hdf : d.params.defaults = []) (hr : Room k callerA)
    (hY : ∀ (w : World) (h : Heap), YP w h → (K w.params).In h) (hY2 : ∀ (w : World) (h : Heap), YP w h → SmB h)
    (F : ∀ (w : World) (mg : Str → Option Value) (fa : Addr) (h : Heap), YP w h → (K w.params).In h → h.Ns mainGlobals mg → mg d.name = some (.ref fa) → TabF q (K w.params) h → LawTs l w (K w.params) k n x mg fa h) :
    PySem.W.WalkO q loose XP YP l.row.toRowW d [] (fun f vs => PySem.call f vs) := by
  refine Att.attach_callB hn hdf fun w s₀ s₁ mg mb fa o pm cd doc a vs ns G Y ho hd hcd hmg hobj hints hlen hbits hg => ?_
  obtain ⟨fd, cs, sp, t1, t2, t3, hb, hsp, hF⟩ := F w mg fa _ Y (hY w _ Y) G.T.g hmg fun x d c P h1 h2 => PySem.W.tab_of G.T (hY w _ Y) h1 h2
  exact lawT (hY w _ Y) G.T.g G.T.b G.T.builtins G.T.nolimit hg t1 t2 t3 G.T.bmain hobj hints (Nat.le_trans hlen hn2) hr (hY2 w _ Y) hF hb fun H hH hS => hsp H a ns hlen hH hS
end RS


/-! instances of own classes: o[i], x in o, properties, constants of a class, methods by keywords -/
namespace RS
open PySem PySem.Spec L2 PyProof.Rows ClX
section
variable {g : Wd} {X : Cx} {k : Nat} {C : Addr} {ps : List Str} {sp : Sp} {W : WX} {ds : List V} {p pos apos : Pos} {a b o i : Expr} {ta tb to ti : TE}
/-! ### o[i] -/
def tIxOwn (C : Addr) (sp : Sp) (ds : List V) (W : WX) (to ti : TE) : TE := fun σ H Q => to σ H fun x H1 => ti σ H1 fun y H2 => ∃ q dx fs, x = .ref q ∧ H2 q = some (.ins C dx fs) ∧ sp ([.ref q, y] ++ ds) H2 Q (fun c d H' => W c d σ H')
/-- the method that the class at C has under the name m is a def -/
def FnAtC (K : PySem.W.Frag) (C : Addr) (m : Str) : Prop := ∀ f, PySem.W.findIn K (.ref C) m = some (some (.ref f)) → PySem.W.fnIn K f = true
theorem e_ixOwn (F : Km g C "__getitem__" k ps ds sp) (fi : FnAtC g.K C "__getitem__") (hr : Rm (k + 1) X) (tk : Takes X W) (ho : PE X o to) (hi : PE X i ti)
    (hsl : ∀ x iv, subscripted i true (.ref x) iv = runValue (.builtin "lifetime.subscript" ⟨[.ref x, iv], []⟩) := by intro _ _; with_unfolding_all rfl) (at_ : At g X := by exact ⟨rfl, rfl, rfl, rfl, rfl⟩) : PE X (.Subscript o i pos) (tIxOwn C sp ds W to ti) := by
  obtain ⟨f, fd, dsV, hf, hi', hk, F, hb, rd⟩ := F
  refine ⟨fun pins s σ H Q I h => ?_⟩
  refine Subscript_ (thn (ho.run pins s σ H _ I h) fun u s1 ⟨x, H1, I1, rx, q1⟩ => thn (hi.run pins s1 σ H1 _ I1 q1) fun iv s2 ⟨y, H2, I2, ry, q, dx, fs, ex, ea, hs⟩ => ?_)
  subst ex
  cases rx
  obtain ⟨mA, J, _⟩ := ins_get I2.hok ea
  obtain ⟨od, J, _⟩ := J.look
  obtain ⟨m, hF⟩ := I2.fr
  refine PySem.W.sub_K hF I2.ok.mod.kin J (by rw [at_.K]; exact hf) (by rw [at_.K]; exact fi f hf) (by rw [at_.K]; exact hi') ?_ (hsl _ _)
  exact callB at_ F hr.here.in1 tk hb rd (vs := [.ref q, y]) (us := [.ref q, iv]) I2 (.cons rfl (.cons ry .nil)) hs
/-! ### x in o -/
def tInOwn (C : Addr) (sp : Sp) (ds : List V) (W : WX) (n : Bool) (ta tb : TE) : TE := fun σ H Q => ta σ H fun y H1 => tb σ H1 fun x H2 => ∃ q dx fs, x = .ref q ∧ H2 q = some (.ins C dx fs) ∧
  sp ([.ref q, y] ++ ds) H2 (fun v H' => ∃ c, v = .bl c ∧ Q (.bl (n != c)) H') (fun c d H' => W c d σ H')
theorem c_inOwn (F : Km g C "__contains__" k ps ds sp) (hr : Rm k X) (tk : Takes X W) (ha : PE X a ta) (hb : PE X b tb) (at_ : At g X := by exact ⟨rfl, rfl, rfl, rfl, rfl⟩) : PC X .In a b (tInOwn C sp ds W false ta tb) := by
  obtain ⟨f, fd, dsV, hf, hi, hk, F, hbd, rd⟩ := F
  refine ⟨fun pins s σ H Q I h => ?_⟩
  refine thn (ha.run pins s σ H _ I h) fun iv s1 ⟨y, H1, I1, ry, q1⟩ => thn (hb.run pins s1 σ H1 _ I1 q1) fun u s2 ⟨x, H2, I2, rx, q, dx, fs, ex, ea, hs⟩ => ?_
  subst ex
  cases rx
  obtain ⟨mA, J, _⟩ := ins_get I2.hok ea
  obtain ⟨od, J, _⟩ := J.look
  obtain ⟨m, hF⟩ := I2.fr
  refine PySem.W.in_K hF I2.ok.mod.kin J (by rw [at_.K]; exact hf) (by rw [at_.K]; exact hi) ?_
  refine wpAny_mono (callB at_ F hr.here tk hbd rd (vs := [.ref q, y]) (us := [.ref q, iv]) I2 (.cons rfl (.cons ry .nil)) hs) ?_ fun _ _ z => z
  rintro v s' ⟨z, H', I', rz, c, rfl, hq⟩
  cases rz
  refine wpAny_truthy_bool ?_
  refine ⟨.bl c, H', I', rfl, ?_⟩
  cases c <;> exact hq
/-! ### a constant of a class -/
theorem e_cval {f : Str} {e : Expr} (he : PE X e ta) (hb : attributeBase e f X.env (eval e X.env) = eval e X.env := by rfl) (at_ : At g X := by exact ⟨rfl, rfl, rfl, rfl, rfl⟩) : PE X (.Attribute e f pos) (tCVal g.K ta f) := by
  rw [← at_.K]
  exact pe_cval he hb
/-! ### a property, by its def's promise -/
def Kp (g : Wd) (C : Addr) (n : Str) (k : Nat) (sp : Sp) : Prop := ∃ p gt fd, PropOf g.K C n p gt ∧ FnG g k gt fd ["self"] sp ∧ Binds g.K fd ["self"] []
def tPropG (C : Addr) (sp : Sp) (W : WX) (ta : TE) : TE := fun σ H Q => ta σ H fun x H1 => ∃ q dx fs, x = .ref q ∧ H1 q = some (.ins C dx fs) ∧ sp [.ref q] H1 Q (fun c d H' => W c d σ H')
theorem e_propG {n : Str} {e : Expr} (F : Kp g C n k sp) (c : Cls g.K C) (hr : Rm (k + 1) X) (he : PE X e ta) (hab : attributeBase e n X.env (eval e X.env) = eval e X.env := by rfl) (at_ : At g X := by exact ⟨rfl, rfl, rfl, rfl, rfl⟩) :
    PE X (.Attribute e n pos) (tPropG C sp (fun _ _ _ _ => False) ta) := by
  obtain ⟨p, gt, fd, hp, F, hb⟩ := F
  refine ⟨fun pins s σ H Q I h => attr_of hab (thn (he.run pins s σ H _ I h) fun u s1 ⟨x, H1, I1, rx, q, dx, fs, ex, ea, hs⟩ => ?_)⟩
  subst ex
  obtain rfl : u = Value.ref q := rx
  obtain ⟨P, w, K, mg, base⟩ := g
  obtain ⟨rfl, rfl, rfl, rfl, rfl⟩ := at_
  obtain ⟨mA, O, _, _, _, _⟩ := ins_get I1.hok ea
  obtain ⟨od, J, _⟩ := O.look
  obtain ⟨rest, hrec⟩ := hp.rec_
  have I2 := I1.tok (s1.toks + 1)
  have hc : (PySem.W.clsIn X.K C).isSome = true := by
    obtain ⟨cd, hc, _⟩ := PySem.W.any_some c.hd
    rw [hc]; rfl
  refine PySem.W.get_bind I1.kIn J (PySem.W.plainGet_of (c.get n)).1 (PySem.W.findObj_data hc hp.at_ hp.get hp.tak) (PySem.W.plainGet_of (c.get n)).2 (wpAny_call (PySem.W.prop_get (s := { s1 with toks := s1.toks + 1 }) I1.kIn hrec ?_))
  refine codeAny_mono (F.run X.A.in1 X.stack { s1 with toks := s1.toks + 1 } H1 ⟨[.ref q], []⟩ [.ref q] [.ref q] Q _ hr.room.in1 hr.gd I2.env0.in1 (hb _ [.ref q] I2.kIn rfl) (.cons rfl .nil) hs) fun r s' hq => ?_
  cases r with
  | error er =>
    obtain ⟨_, _, _, _, _, _, _, _, _, _, _, _, z⟩ := hq
    exact z.elim
  | ok fl =>
    cases fl with
    | ret u =>
      obtain ⟨v, H', I3, rv, q3⟩ := I2.after hq
      show wpAny _ _ (handedOut u) _ _ _
      rw [PySem.W.handedOut_of (handed_of rv)]
      exact wpAny_pure ⟨v, H', I3, rv, q3⟩
    | next => exact False.elim hq
    | brk => exact False.elim hq
    | cont => exact False.elim hq
/-! ### o.m(k = v, ..) -/
def Kmk (g : Wd) (C : Addr) (m : Str) (k : Nat) (ps ks : List Str) (pm : List Nat) (dvs : List V) (sp : Sp) : Prop :=
  ∃ f fd dsV, PySem.W.findIn g.K (.ref C) m = some (some (.ref f)) ∧ PySem.W.isFn g.K (.ref f) = true ∧ PySem.W.keepIn g.K (.ref f) = true ∧ FnG g k f fd ps sp ∧ Vals dvs dsV ∧
    ∀ (s : Shared) (y : Value) (ws : List Value), g.K.In s.heap → ws.length = ks.length → BindsTo s fd ⟨[y], ks.zip ws⟩ (ps.zip (y :: (pm.map fun i => ws.getD i .none) ++ dsV))
def tMethK (C : Addr) (m : Str) (n : Nat) (sp : Sp) (pm : List Nat) (dvs : List V) (W : WX) (ta : TE) (t : TA) : TE := fun σ H Q => ta σ H fun x H1 => ∃ q dx fs, x = .ref q ∧ H1 q = some (.ins C dx fs) ∧ fs.lookup m = none ∧
  t σ H1 fun zs H2 => zs.length = n ∧ sp (.ref q :: (pm.map fun i => zs.getD i .non) ++ dvs) H2 Q (fun c d H' => W c d σ H')
theorem pe_methK {m : Str} {ks : List Str} {pm : List Nat} {dvs : List V} {kws : List Keyword} {t : TA} {pl : Sem Bool} (he : PE X o ta) (c : Cls g.K C) (F : Kmk g C m k ps ks pm dvs sp) (hr : Rm k X) (tk : Takes X W) (hkw : PK X kws t)
    (hall : (backToKw pos (keywordEach kws X.env)).all (·.1.isSome) = true := by rfl) (hks : (backToKw pos (keywordEach kws X.env)).filterMap (·.1) = ks := by rfl)
    (hpl : ((backTo pos (starEach [] X.env)).any (·.1) || (backToKw pos (keywordEach kws X.env)).any (·.1.isNone)) = false := by rfl)
    (ht : eval (.Call (.Attribute o m apos) [] kws pos) X.env = (do
      let ov ← eval o X.env
      standAt apos.atName
      let (f, first) ← holding [ov] (getMethod ov m pl)
      callWith pos f first (backTo pos (starEach [] X.env)) (backToKw pos (keywordEach kws X.env))) := by rfl) (at_ : At g X := by exact ⟨rfl, rfl, rfl, rfl, rfl⟩) :
    PE X (.Call (.Attribute o m apos) [] kws pos) (tMethK C m ks.length sp pm dvs W ta t) := by
  obtain ⟨f, fd, dsV, hf, hi, hk, F, rd, hb⟩ := F
  refine ⟨fun pins s σ H Q I h => PySem.W.methodCall_KW (pl := pl) (thn (he.run pins s σ H _ I h) ?_) ht⟩
  rintro u s1 ⟨x, H1, I1, rx, q, dx, fs, rfl, ea, l, h1⟩
  obtain rfl : u = Value.ref q := rx
  refine getmeth_ok I1 ea (by rw [at_.K]; exact c) (g := f) (by rw [at_.K]; exact ⟨hf, hi, hk⟩) l ?_
  refine PySem.W.callWith_KW0 (first := [.ref q]) (h₀ := X.base) I.ok.mod.kin (by rw [at_.K]; exact hk) hall (thn (hkw.run pos pins s1 σ H1 _ I1 h1) ?_) hpl
  rintro ws s2 ⟨zs, H2, I2, rz, lz, q2⟩
  refine ⟨I2.kIn, ?_⟩
  rw [hks]
  have rr : Vals (.ref q :: (pm.map fun i => zs.getD i .non) ++ dvs) (.ref q :: (pm.map fun i => ws.getD i .none) ++ dsV) := Vals.append (.cons rfl (vals_pm rz pm)) rd
  refine wpAny_call (codeAny_mono (runG at_ F hr tk I2 (hb s2 (.ref q) ws (at_.K ▸ I2.kIn) (by rw [← rz.length]; exact lz)) rr q2) fun res s' hq => ?_)
  cases res with
  | error e => exact hq
  | ok fl => cases fl with
    | ret u => exact hq
    | _ => exact hq.elim
end
end RS


/-! for .. in ..: within a generator def -/
namespace RS
open PySem PySem.Spec L2 PyProof.Rows GenW
/-- for x in e: .., in a generator: W by the turn, a measure, what is out, the slots and the heap -/
def tGFor (wi : TI) (gt : TG) (tb : TGn) : TGn := fun D ys σ H => wi σ H fun J H1 => ∃ W : Nat → Nat → List V → L2.St → Hp → Prop, (∃ m, W 0 m ys σ H1) ∧ ∀ i m ys σ H, W i m ys σ H →
  (J.stop i H ∧ D.nx ys σ H) ∨ (J.go i H ∧ ∃ N : List V → L2.St → Hp → Prop, (∀ ys' σ' H', N ys' σ' H' → ∃ m', m' < m ∧ W (i + 1) m' ys' σ' H') ∧ ∀ x H', J.yld i H x H' → gt x σ H' fun σ2 H2 => tb { D with nx := N, ct := N, bk := D.nx } ys σ2 H2)
section
variable {X : Cx} {tg iter : Expr} {body : List Stmt} {pos : Pos} {wi : TI} {gt : TG} {tb : TGn}
abbrev segE (env : Env) (x : Value) : Sem PySem.Fin := (do noteFrame x env; theTreesLotGoes x : Sem Unit).wrap (fun _ => .raise x) .raise id id
/-- one turn of a for loop within a generator -/
theorem seg_forLoop {prog : Program} {w : World} {A : Around} {R : GenEnd} {Y : Protocol} {n : Nat} {s₀ s : Shared} {fs : List Frame} {env : Env} {it : Value}
    (h : wpAny (model prog w) (A.over (.forLoop tg it body [] env) fs) (pyNext it) (fun r s1 => match r with
      | none => Seg (model prog w) A R Y n s₀ (.forLoop tg it body [] env) (.pure (.again (.block [] env))) fs s1
      | some v => wpAny (model prog w) (A.over (.forLoop tg it body [] env) fs) (letOwnedTupleGo tg it v) (fun _ s2 => wpAny (model prog w) (A.over (.forLoop tg it body [] env) fs) (assign tg env v) (fun _ s3 =>
          ∀ (K : Flow → Sem PySem.Fin) (J : Value → Sem PySem.Fin) (gd : Bool → Bool) (lv : List Value → List Value), gd false = false → K .next = .pure (.again (.forLoop tg it body [] env)) → K .cont = .pure (.again (.forLoop tg it body [] env)) → K .brk = .pure (.done .next) → (∀ u, K (.ret u) = .pure (.done (.ret u))) → (∀ x, J x = segE env x) →
            Seg (model prog w) A R Y n s₀ (.forLoop tg it body [] env) ((execs body env).wrap K J gd lv) fs s3)
          (fun x s' => Seg (model prog w) A R Y n s₀ (.forLoop tg it body [] env) (segE env x) fs s') s2) (fun x s' => Seg (model prog w) A R Y n s₀ (.forLoop tg it body [] env) (segE env x) fs s') s1)
      (fun x s' => Seg (model prog w) A R Y n s₀ (.forLoop tg it body [] env) (segE env x) fs s') s) :
    Seg (model prog w) A R Y n s₀ (.forLoop tg it body [] env) ((model prog w).den (.forLoop tg it body [] env)) fs s := by
  have ex : ∀ x : Value, ((do noteFrame x env; theTreesLotGoes x : Sem Unit).bind fun _ => (.raise x : Sem PySem.Fin)) = segE env x := fun x => Sem.bind_eq_wrap _ _
  show Seg _ A R Y n s₀ _ ((forTurn tg it body [] env).onRaise (fun x => do noteFrame x env; theTreesLotGoes x)) fs s
  rw [Sem.onRaise_eq_wrap]
  unfold forTurn
  rw [Sem.bind_eq_wrap', Sem.wrap_wrap]
  refine seg_wrap (wpAny_standAt ?_)
  rw [Sem.bind_eq_wrap', Sem.wrap_wrap]
  refine seg_wrap (wpAny_onRaise (wpAny_mono h (fun r s1 h1 => ?_) fun x s1 hx => wpAny_standAt ?_))
  · cases r with
    | none => exact h1
    | some v =>
      show Seg _ A R Y n s₀ _ (Sem.wrap _ _ _ _ (letOwnedTupleGo tg it v >>= _)) fs s1
      rw [Sem.bind_eq_wrap', Sem.wrap_wrap]
      refine seg_wrap (wpAny_mono h1 (fun _ s2 h2 => ?_) fun x s2 hx => ?_)
      · show Seg _ A R Y n s₀ _ (Sem.wrap _ _ _ _ (assign tg env v >>= _)) fs s2
        rw [Sem.bind_eq_wrap', Sem.wrap_wrap]
        refine seg_wrap (wpAny_mono h2 (fun _ s3 h3 => ?_) fun x s3 hx => ?_)
        · show Seg _ A R Y n s₀ _ (Sem.wrap _ _ _ _ (execs body env >>= _)) fs s3
          rw [Sem.bind_eq_wrap', Sem.wrap_wrap]
          exact h3 _ _ _ _ rfl rfl rfl rfl (fun _ => rfl) (fun x => ex x)
        · show Seg _ A R Y n s₀ _ ((do noteFrame x env; theTreesLotGoes x : Sem Unit).bind fun _ => .raise x) fs s3
          rw [ex]; exact hx
      · show Seg _ A R Y n s₀ _ ((do noteFrame x env; theTreesLotGoes x : Sem Unit).bind fun _ => .raise x) fs s2
        rw [ex]; exact hx
  · show Seg _ A R Y n s₀ _ ((do noteFrame x env; theTreesLotGoes x : Sem Unit).bind fun _ => .raise x) fs s1
    rw [ex]; exact hx
theorem gs_for (hp : PassesOwn (model X.prog X.w) X.A X.env X.xe) (hc : X.calm = true) (hi : PI X tg iter wi) (hg : PG X tg gt) (hb : GSs X body tb) (hs : ∀ x, foldedSetIterable iter X.env x = pure x := by intro _; rfl) : GS X (.For tg iter body [] pos) (tGFor wi gt tb) := by
  refine ⟨fun A S ip R n ys s₀ c fs K J gd lv s σ H D g hn k hI ht => ?_⟩
  obtain ⟨acc, cc, r, I⟩ := hI
  rw [exec_For]
  rw [Sem.bind_eq_wrap', Sem.wrap_wrap]
  refine seg_wrap (wpAny_standAt ?_)
  show Seg _ A R _ n s₀ c (Sem.wrap K J gd lv (eval iter X.env >>= _)) fs s
  rw [Sem.bind_eq_wrap', Sem.wrap_wrap]
  refine seg_wrap ?_
  rw [g.over]
  refine wpAny_mono (hi.run _ s σ H _ I ht) (fun v s1 h1 => ?_) fun x s1 hx => k.exc n s₀ x s1 hx
  show Seg _ A R _ n s₀ c (Sem.wrap K J gd lv (foldedSetIterable iter X.env v >>= _)) fs s1
  rw [hs v]
  show Seg _ A R _ n s₀ c (Sem.wrap K J gd lv (standAt iter.pos >>= _)) fs s1
  rw [Sem.bind_eq_wrap', Sem.wrap_wrap]
  refine seg_wrap (wpAny_standAt ?_)
  show Seg _ A R _ n s₀ c (Sem.wrap K J gd lv (holding [v] (pyIter v) >>= _)) fs s1
  rw [Sem.bind_eq_wrap', Sem.wrap_wrap]
  refine seg_wrap ?_
  rw [g.over]
  refine wpAny_holding (wpAny_mono h1 (fun itv s2 h2 => ?_) fun x s2 hx => k.exc n s₀ x s2 hx)
  obtain ⟨it, fp, tn, It0, H2, e, I2, T, st2, f2, W, ⟨m0, w0⟩, turn⟩ := h2
  subst e
  show Seg _ A R _ n s₀ c (Sem.wrap K J gd lv (runOwn (.forLoop tg (.ref it) body [] X.env) X.env)) fs s2
  refine seg_call fun p => ?_
  have gl := fun (kk : Result → Sem PySem.Fin) => gc_loop (k := kk) (c' := .forLoop tg (.ref it) body [] X.env) (l := lv []) (kp := []) (p := p) g rfl rfl
  have stat : ∀ {H' : Hp} {o : Obj}, (∀ b ∈ fp, H' b = none) → ∀ b ∈ fp, FpOk X ((S, o) :: ip) H' b := fun {H' o} hn b hb => by
    obtain ⟨_, a1, a2, a3, a4, a5⟩ := f2 b hb
    refine ⟨hn b hb, a1, a2, a3, a4, fun q hq => ?_⟩
    rcases List.mem_append.mp hq with z | z
    · exact a5 q (List.mem_append_left _ z)
    · rcases List.mem_cons.mp z with z | z
      · rw [z]; exact a5 (S, lstObj acc cc) (List.mem_append_right _ (List.mem_cons_self ..))
      · exact a5 q (List.mem_append_right _ (List.mem_cons_of_mem _ z))
  have loop : ∀ (m i n : Nat) (ys : List V) (s₀ s : Shared) (σ : L2.St) (H : Hp), n + ys.length = sizeLine → W i m ys σ H → GI X S ip ys σ H s → tn i s.heap → (∀ b ∈ fp, H b = none) →
      Seg (model X.prog X.w) A R (GY X S) n s₀ (.forLoop tg (.ref it) body [] X.env) ((model X.prog X.w).den (.forLoop tg (.ref it) body [] X.env))
        (.ret (fun r => ((match r with | .ok f => (.pure f : Sem Flow) | .error e => .raise e).onRaise (cameBack X.env)).wrap K J gd lv) none (gd false) (lv []) c p [] :: fs) s := by
    intro m
    induction m using Nat.strongRecOn with
    | ind m ih =>
      intro i n ys s₀ s σ H hn w hI st fr
      have ee : ∀ (n : Nat) (s₀ : Shared) (x : Value) (s' : Shared), X.xe x s' → Seg (model X.prog X.w) A R (GY X S) n s₀ (.forLoop tg (.ref it) body [] X.env) (segE X.env x)
          (.ret (fun r => ((match r with | .ok f => (.pure f : Sem Flow) | .error e => .raise e).onRaise (cameBack X.env)).wrap K J gd lv) none (gd false) (lv []) c p [] :: fs) s' := fun n s₀ x s' hx => by
        refine seg_wrap ?_
        rw [(gl _).over]
        refine wpAny_bind (wpAny_mono (hp x s' hx) (fun _ s'' hcb => wpAny_theTreesLotGoes ?_) fun y s'' hcb => ?_)
        · exact seg_leaf (.error x) (seg_cameBack g k hcb)
        · exact seg_leaf (.error y) (seg_cameBack g k hcb)
      refine seg_forLoop ?_
      rw [(gl _).over]
      obtain ⟨acc, cc, r, I⟩ := hI
      rcases turn i m ys σ H w with ⟨stop, qn⟩ | ⟨go, N, hN, step⟩
      · refine wpAny_mono (T.done X rfl rfl rfl hc i _ s σ H _ I (stat fr) st stop) (fun rr s4 ⟨hr, I4⟩ => ?_) fun _ _ z => z
        subst hr
        refine seg_again rfl ?_
        refine seg_leaf (.ok .next) ?_
        exact k.ok n ys s₀ s4 .next hn ⟨σ, H, ⟨acc, cc, r, I4⟩, qn⟩
      · refine wpAny_mono (T.item X rfl rfl rfl hc i _ s σ H _ I (stat fr) st go) (fun rr s4 ⟨u, hr, h4⟩ => ?_) fun _ _ z => z
        subst hr
        refine wpAny_mono h4 (fun _ s5 ⟨x, H5, I5, r5, y5, st5, fr5⟩ => ?_) fun _ _ z => z
        have I5' := I5.pinned (stat fr5) (T.obj _ _ st5)
        refine wpAny_mono (hg.run _ s5 σ H5 x u _ I5' r5 (step x H5 y5)) (fun _ s6 ⟨σ6, H6, I6, q6⟩ => ?_) fun x s6 hx => ee n s₀ x s6 hx
        intro K1 J1 gd1 lv1 e1 e2 e3 e4 e5 e6
        have G1 : GC X S (ip ++ pinsAt fp s5.heap) A (.forLoop tg (.ref it) body [] X.env) (.ret (fun r => ((match r with | .ok f => (.pure f : Sem Flow) | .error e => .raise e).onRaise (cameBack X.env)).wrap K J gd lv) none (gd false) (lv []) c p [] :: fs) gd1 :=
          { pn := g.pn
            ip := fun q hq => by
              rcases List.mem_append.mp hq with z | z
              · exact g.ip q z
              · obtain ⟨hb', _⟩ := of_pinsAt z
                exact Ne.symm ((stat (o := lstObj acc cc) fr5 q.1 hb').2.2.2.2.2 (S, lstObj acc cc) (List.mem_append_right _ (List.mem_cons_self ..)))
            apart := g.apart
            over := (gl _).over
            split := (gl _).split
            guard := (gl _).guard
            gd := e1 }
        refine hb.run A S (ip ++ pinsAt fp s5.heap) R n ys s₀ _ _ K1 J1 gd1 lv1 s6 σ6 H6 { D with nx := N, ct := N, bk := D.nx } G1 hn ⟨fun n' ys' s₀' s7 f hn' hs' => ?_, fun n' s₀' x s7 hx => by rw [e6]; exact ee n' s₀' x s7 hx⟩ ⟨acc, cc, r, I6⟩ q6
        have back : ∀ {σ7 : L2.St} {H7 : Hp}, GI X S (ip ++ pinsAt fp s5.heap) ys' σ7 H7 s7 → GI X S ip ys' σ7 H7 s7 := fun {σ7 H7} ⟨a7, c7, r7, I7⟩ => ⟨a7, c7, r7, I7.pins_of fun q hq => I7.pin q (List.mem_append_right _ (by
          rcases List.mem_cons.mp hq with z | z
          · rw [z]; exact List.mem_cons_self ..
          · exact List.mem_cons_of_mem _ (List.mem_append_left _ z)))⟩
        have again_ : ∀ {σ7 : L2.St} {H7 : Hp}, GI X S (ip ++ pinsAt fp s5.heap) ys' σ7 H7 s7 → N ys' σ7 H7 → Seg (model X.prog X.w) A R (GY X S) n' s₀' (.forLoop tg (.ref it) body [] X.env) (.pure (.again (.forLoop tg (.ref it) body [] X.env))) (.ret (fun r => ((match r with | .ok f => (.pure f : Sem Flow) | .error e => .raise e).onRaise (cameBack X.env)).wrap K J gd lv) none (gd false) (lv []) c p [] :: fs) s7 := fun {σ7 H7} I7 n7 => by
          obtain ⟨m', hm, w7⟩ := hN ys' σ7 H7 n7
          have pin : ∀ b ∈ fp, ∀ o, s5.heap.get? b = some o → s7.heap.get? b = some o ∧ H7 b = none := fun b hb' o e => by
            obtain ⟨a7, c7, r7, J7⟩ := I7
            obtain ⟨z1, z2, _⟩ := J7.pin (b, o) (List.mem_append_right _ (List.mem_cons_of_mem _ (List.mem_append_right _ (mem_pinsAt hb' e))))
            exact ⟨z1, z2⟩
          refine seg_again rfl (ih m' hm (i + 1) n' ys' s₀' s7 σ7 H7 hn' w7 (back I7) (T.keep _ _ _ st5 fun b hb' o e => (pin b hb' o e).1) fun b hb' => ?_)
          obtain ⟨o, e, d⟩ := T.obj _ _ st5 b hb'
          exact (pin b hb' o e).2
        cases f with
        | next =>
          obtain ⟨σ7, H7, I7, n7⟩ := hs'
          rw [e2]
          exact again_ I7 n7
        | cont =>
          obtain ⟨σ7, H7, I7, n7⟩ := hs'
          rw [e3]
          exact again_ I7 n7
        | brk =>
          obtain ⟨σ7, H7, I7, n7⟩ := hs'
          rw [e4]
          exact seg_leaf (.ok .next) (k.ok n' ys' s₀' s7 .next hn' ⟨σ7, H7, back I7, n7⟩)
        | ret v =>
          obtain ⟨x7, σ7, H7, I7, r7, n7⟩ := hs'
          rw [e5]
          exact seg_leaf (.ok (.ret v)) (k.ok n' ys' s₀' s7 (.ret v) hn' ⟨x7, σ7, H7, back I7, r7, n7⟩)
  exact loop m0 0 n ys s₀ s2 σ H2 hn w0 ⟨acc, cc, r, I2⟩ st2 fun b hb' => (f2 b hb').1
end
end RS


/-! defs that make lambdas; frames of what stays -/
namespace RS
open PySem PySem.Spec L2 PyProof.Rows LamX
/-- a def of the text whose code object stands at c -/
structure DfC (K : PySem.W.Frag) (x qual : Str) (st : Stmt) (f : Addr) (fd : FuncData) (c : Addr) : Prop where
  ex : ∃ (oc : Value) (od : Option Addr) (kV doc pm : Value) (an : Option Addr) (ct : Value) (osl : Array (Option Value)),
    fd = PySem.W.fnOf x qual (defArgs st) (defBody st) (defScope st) .none kV doc pm an (.ref c) ct ∧ K.lookup f = some ⟨oc, od, .func fd, osl⟩ ∧ PySem.W.codeIn K (.ref c) qual = true
  kp : PySem.W.keepIn K (.ref f) = true
theorem DfC.df {K : PySem.W.Frag} {x qual : Str} {st : Stmt} {f : Addr} {fd : FuncData} {c : Addr} (F : DfC K x qual st f fd c) : Df K x qual st f fd .none := by
  obtain ⟨oc, od, kV, doc, pm, an, ct, osl, e, l, h⟩ := F.ex
  exact ⟨⟨oc, od, kV, doc, pm, an, .ref c, ct, osl, e, l, h⟩, F.kp⟩
theorem DfC.ok {g : Wd} {x qual : Str} {st : Stmt} {f : Addr} {fd : FuncData} {c : Addr} {N ps : List Str} {k : Nat} {sp : Sp} (F : DfC g.K x qual st f fd c) (S : FnScope N ps (defScope st))
    (len : ∀ vs H Q E, sp vs H Q E → vs.length = ps.length)
    (hbody : ∀ (A : Around) (outer : List Env) (s : Shared) (H : Hp) (vs : List V) (Q : VK) (E : XK), Rm k (cx g N qual st f (.ref c) A outer s H E) → sp vs H Q E →
      ∃ t, PSs (cx g N qual st f (.ref c) A outer s H E) (defBody st) t ∧ t { nx := fun _ H' => Q .non H', rt := Q } (start N vs) H) : FnG g (k + 1) f fd ps sp := by
  obtain ⟨oc, od, kV, doc, pm, an, ct, osl, rfl, lk, hcd⟩ := F.ex
  refine ⟨len, fun A outer s H args us vs Q E hr hg e0 hb rv hsp => ?_⟩
  exact run_ofS (CX := L2.CX g.P g.w) lk hcd S hr e0 hb rv (len _ _ _ _ hsp) fun hr' => hbody A outer s H vs Q E ⟨hr', hg⟩ hsp
/-- what is known of the tables: T tells them all; c: the code object of the def qual, P its table -/
structure LamT (g : Wd) (T : List (Addr × Str)) (c P : Addr) (qual : Str) : Prop where
  tb : TabB g.base g.mg c P
  mem : (P, (qual ++ ".<locals>.") ++ "<lambda>") ∈ T
  uni : ∀ p ∈ T, p.1 = P → p.2 = (qual ++ ".<locals>.") ++ "<lambda>"
/-- but for the places fp and the tables all stays -/
def FrT (fp : List Addr) (H H' : Hp) : Prop := ∀ b o, b ∉ fp → (∀ ps, o ≠ .tbl ps) → H b = some o → H' b = some o
theorem FrT.refl {fp : List Addr} (H : Hp) : FrT fp H H := fun _ _ _ _ h => h
theorem FrT.trans {fp : List Addr} {H H1 H2 : Hp} (a : FrT fp H H1) (b : FrT fp H1 H2) : FrT fp H H2 := fun c o n t h => b c o n t (a c o n t h)
theorem FrT.of {fp : List Addr} {H H' : Hp} (s : Same H H') : FrT fp H H' := fun c o _ _ h => s c o h
theorem FrT.ofN {fp : List Addr} {H H' : Hp} (s : ExtN H H') : FrT fp H H' := fun c o _ t h => s c o h t
theorem FrT.sub {fp fq : List Addr} {H H' : Hp} (a : FrT fp H H') (h : ∀ c ∈ fp, c ∈ fq ∨ H c = none) : FrT fq H H' := fun c o n t e => a c o (fun z => (h c z).elim n (fun y => by rw [y] at e; cases e)) t e
/-- but for the places fp all stays -/
def Fr1 (fp : List Addr) (H H' : Hp) : Prop := ∀ b o, b ∉ fp → H b = some o → H' b = some o
theorem Fr1.refl {fp : List Addr} (H : Hp) : Fr1 fp H H := fun _ _ _ h => h
theorem Fr1.trans {fp : List Addr} {H H1 H2 : Hp} (a : Fr1 fp H H1) (b : Fr1 fp H1 H2) : Fr1 fp H H2 := fun c o n h => b c o n (a c o n h)
theorem Fr1.of {fp : List Addr} {H H' : Hp} (s : Same H H') : Fr1 fp H H' := fun c o _ h => s c o h
theorem Fr1.sub {fp fq : List Addr} {H H' : Hp} (a : Fr1 fp H H') (h : ∀ c ∈ fp, c ∈ fq ∨ H c = none) : Fr1 fq H H' := fun c o n e => a c o (fun z => (h c z).elim n (fun y => by rw [y] at e; cases e)) e
theorem Fr1.t {fp : List Addr} {H H' : Hp} (a : Fr1 fp H H') : FrT fp H H' := fun c o n _ h => a c o n h
theorem Fr1.upd {fp : List Addr} {H : Hp} {a : Addr} {o : HO} (h : a ∈ fp) : Fr1 fp H (L2.upd H a o) := fun c u n e => by rw [upd_ne (fun z : c = a => n (by rw [z]; exact h))]; exact e
/-- the tables stand where only other things change -/
theorem Tabs.fr {T : List (Addr × Str)} {fp : List Addr} {H H' : Hp} (t : Tabs T H) (n : ∀ c ∈ fp, ∀ o, H c = some o → (∀ ps, o ≠ .tbl ps) ∧ ∀ φ, o ≠ .ext φ) (f : Fr1 fp H H') : Tabs T H' := fun p hp => by
  obtain ⟨ps, h1, h2, h3⟩ := t p hp
  have k : ∀ c o, H c = some o → ((∃ ps, o = .tbl ps) ∨ ∃ φ, o = .ext φ) → H' c = some o := fun c o e z => f c o (fun m => by
    have := n c m o e
    rcases z with ⟨ps, z⟩ | ⟨φ, z⟩
    · exact this.1 ps z
    · exact this.2 φ z) e
  refine ⟨ps, k _ _ h1 (.inl ⟨_, rfl⟩), h2, fun pos cv hc => ?_⟩
  obtain ⟨c, e1, e2⟩ := h3 pos cv hc
  exact ⟨c, e1, k _ _ e2 (.inr ⟨_, rfl⟩)⟩
theorem Tabs.same {T : List (Addr × Str)} {H H' : Hp} (t : Tabs T H) (s : Same H H') : Tabs T H' := t.ext s
section
variable {g : Wd} {k : Nat} {N ps : List Str} {x qual : Str} {st : Stmt} {f c P : Addr} {A : Around} {outer : List Env} {s : Shared} {H : Hp} {E : XK} {T : List (Addr × Str)} {TT : Addr → Str → (XK → Hp → VK → Prop) → Hp → VK → Prop}
  {params : Arguments} {body : Expr} {scope : Scope} {t : XK → TE} {p lpos pos : Pos}
/-- x(lambda: body), in a def that is walked -/
theorem pe_lam (F : Told g (k + 1) x TT) (L : LamT g T c P qual) (hr : Rm (k + 2) (cx g N qual st f (.ref c) A outer s H E)) (LS : lamSB (defScope st) scope = true)
    (hbody : ∀ (A' : Around) (outer' : List Env) (s' : Shared) (H' : Hp) (E' : XK) (f' c' : Addr), Rm k (lamCx (cx g N qual st f (.ref c) A outer s H E) A' outer' s' H' E' scope f' c') → PE (lamCx (cx g N qual st f (.ref c) A outer s H E) A' outer' s' H' E' scope f' c') body (t E'))
    (hdef : defaultsOf params (cx g N qual st f (.ref c) A outer s H E).env = ([], []) := by rfl)
    (hbind : ∀ (q : Str) (cl : List (Str × Addr)) (pm cv ctv : Value), bindArgs (PySem.W.kla_fn "<lambda>" q params body scope cl pm cv ctv) ⟨[], []⟩ = pure [] := by intro _ _ _ _ _; rfl)
    (hg : Gl (cx g N qual st f (.ref c) A outer s H E) x := by rfl) (hdb : (x == ("__debug__" : Str)) = false := by decide) :
    PE (cx g N qual st f (.ref c) A outer s H E) (.Call (.Name x p) [.Lambda params body scope lpos] [] pos) (tLamG T TT ((qual ++ ".<locals>.") ++ "<lambda>") t) :=
  pe_lamG F hr L.tb rfl L.mem L.uni (lamS_by LS) hdef hbind hbody hg hdb
end
/-- what a lambda's body may raise into -/
theorem takesL {X : Cx} {A : Around} {outer : List Env} {s : Shared} {H : Hp} {E : XK} {scope : Scope} {f c' : Addr} : Takes (lamCx X A outer s H E scope f c') (fun cls d _ H' => E cls d H') := by
  intro u s' x
  exact XE.leave (X := lamCx X A outer s H E scope f c') (E := E) rfl rfl rfl (fun _ _ _ _ h => h) x
end RS


/-! rules with K told; list(o.m()) of a generator method -/
namespace RS
open PySem PySem.Spec L2 PyProof.Rows
section
variable {g : Wd} {X : Cx} {K : PySem.W.Frag} {C : Addr} {e o i f value : Expr} {ta te tv td ty tx : TE} {p pos apos cpos tpos : Pos} {k : Nat}
theorem e_revL {j : Nat} {p1 p2 p3 : Pos} (he : PE X e te) (hK : X.K = K := by rfl) : PE X (.Subscript e (.Slice none none (some (.UnaryOp .USub (.Constant (.int 1) j p1) p2)) p3) pos) (tRevL K te) := by subst hK; exact pe_revL he
theorem s_fldaug {op : Operator} {rd : V → V → Hp → VK → Prop} {fl : Str} (ha : PE X o ta) (hv : PE X value tv) (hop : InOp X op rd) (hK : X.K = K := by rfl) : PS X (.AugAssign (.Attribute o fl tpos) op value pos) (sFldAug K ta tv rd fl) := by subst hK; exact ps_fldaug ha hv hop
theorem c_sortedI (hK : X.K = K := by rfl) : CallR X (.builtin "sorted") (rSortedI K) := by subst hK; exact cr_sortedI
theorem c_max (hK : X.K = K := by rfl) (hc : X.calm = true := by rfl) : CallR X (.builtin "max") (rMax K) := by subst hK; exact cr_max hc
theorem e_get2 (hu : X.A.units + 1 < cLine) (ho : PE X o td) (he : PE X e ty) (hf : PE X f tx) (m : M2 X o "get" apos e f cpos := by exact ⟨rfl, rfl, rfl, rfl⟩) : PE X (.Call (.Attribute o "get" apos) [e, f] [] cpos) (tDGet2 td ty tx) := pe_dget2 hu ho he hf m
theorem e_pop2 (ho : PE X o td) (he : PE X e ty) (hf : PE X f tx) (m : M2 X o "pop" apos e f cpos := by exact ⟨rfl, rfl, rfl, rfl⟩) : PE X (.Call (.Attribute o "pop" apos) [e, f] [] cpos) (tDPop2 td ty tx) := pe_dpop2 ho he hf m
/-- the class at C has a generator method m without further parameters -/
def Kg (g : Wd) (C : Addr) (m : Str) (k : Nat) (sp : SpG) : Prop := ∃ f fd, PySem.W.findIn g.K (.ref C) m = some (some (.ref f)) ∧ PySem.W.isFn g.K (.ref f) = true ∧ PySem.W.keepIn g.K (.ref f) = true ∧ GFn g.P g.w g.K g.mg g.base k f fd ["self"] sp ∧ Binds g.K fd ["self"] []
def tListGen (C : Addr) (m : Str) (sp : SpG) (ta : TE) : TE := fun σ H Q => ta σ H fun x H1 => ∃ a dx fs, x = .ref a ∧ H1 a = some (.ins C dx fs) ∧ fs.lookup m = none ∧ sp [.ref a] H1 (fun out H2 => ∀ p, H2 p = none → Q (.ref p) (upd H2 p (.lst out))) (fun _ _ _ => False)
theorem e_listGen {m : Str} {sp : SpG} {pl : Sem Bool} (F : Kg g C m k sp) (c : Cls g.K C) (hr : Rm (k + 3) X) (hmg : X.mg "list" = none) (he : PE X o ta) (hg : Gl X "list" := by rfl)
    (hst : starEach [Expr.Call (.Attribute o m apos) [] [] cpos] X.env = (false, eval (.Call (.Attribute o m apos) [] [] cpos) X.env) :: starEach [] X.env := by rfl)
    (ht : eval (.Call (.Attribute o m apos) [] [] cpos) X.env = (do
      let ov ← eval o X.env
      standAt apos.atName
      let (f, first) ← holding [ov] (getMethod ov m pl)
      callWith cpos f first (backTo cpos (starEach [] X.env)) (backToKw cpos (keywordEach [] X.env))) := by rfl) (at_ : At g X := by exact ⟨rfl, rfl, rfl, rfl, rfl⟩) :
    PE X (.Call (.Name "list" p) [.Call (.Attribute o m apos) [] [] cpos] [] pos) (tListGen C m sp ta) := by
  obtain ⟨fa, fd, h1, h2, h3, F, hb⟩ := F
  obtain ⟨P, w, K, mg, base⟩ := g
  obtain ⟨rfl, rfl, rfl, rfl, rfl⟩ := at_
  have G := pgen_meth0 (pl := pl) (E := fun _ _ _ => False) (dvs := []) he c ⟨h1, h2, h3⟩ F (hr.room.mono (by omega)) hb .nil ht
  have R := pe_listG (p := p) (pos := pos) (nm := "list") G (fun _ _ _ _ _ _ _ z => by obtain ⟨_, _, _, _, _, _, _, _, _, _, _, _, z⟩ := z; exact z.elim) (fun _ _ _ z => z.elim) hr.room hg hmg (by decide +kernel) (by decide) (by decide) hst
  refine ⟨fun pins s σ H Q I h => R.run pins s σ H Q I ?_⟩
  unfold tListGen at h
  unfold tListG L2.tMethG
  refine cast (congrArg (ta σ H) ?_) h
  funext x H1
  refine propext ⟨?_, ?_⟩
  · rintro ⟨a, dx, fs, rfl, z⟩
    exact ⟨a, dx, fs, rfl, z⟩
  · rintro ⟨a, dx, fs, rfl, z⟩
    exact ⟨a, dx, fs, rfl, z⟩
end
end RS
namespace RS
open PySem PySem.Spec L2 PyProof.Rows
section
variable {X : Cx} {k : Nat}
/-- d != {} -/
def rNeD0 : R2 := fun x y H Q => ∃ a b ks, x = .ref a ∧ y = .ref b ∧ H a = some (.dK ks) ∧ H b = some (.dK []) ∧ Q (.bl (!ks.isEmpty)) H
theorem op_neD0 (hr : Rm k X) : OpR X (compareOp .NotEq) rNeD0 := by
  intro pins s σ H x y v u Q I rx ry h
  obtain ⟨a, b, ks, rfl, rfl, ea, eb, q⟩ := h
  obtain rfl : v = Value.ref a := rx
  obtain rfl : u = Value.ref b := ry
  obtain ⟨_, ya, va, ra, da⟩ := (show ObjOk X.prog X.w H s.heap a (.dK ks) from I.hok a _ ea)
  obtain ⟨_, yb, vb, rb, db⟩ := (show ObjOk X.prog X.w H s.heap b (.dK []) from I.hok b _ eb)
  have l1 := ra.length
  have l2 := rb.length
  have hu : X.A.units < cLine := by have := hr.room.un; omega
  have vb0 : vb = [] := List.eq_nil_of_length_eq_zero (by simpa using l2.symm)
  subst vb0
  refine PySem.W.keq_ne (knd := mixKind X.prog X.w) (r := true) ya yb da db hu (fun e => ?_) (fin_bl I q ?_)
  · have va0 : va = [] := List.eq_nil_of_length_eq_zero (by simpa using e)
    subst va0
    exact PySem.W.KeqHits.nil
  · have e : (va.length == ([] : List (Key × Value)).length) = ks.isEmpty := by
      rw [← l1]; cases ks <;> simp
    rw [e, Bool.and_true]
/-- int(x): of an int, of a truth value, of a text -/
def rIntA : List V → Hp → VK → Prop := fun xs H Q => ((∃ i, xs = [.int i] ∧ Q (.int i) H) ∨ ∃ k, xs = [.bl k] ∧ Q (.int (if k then 1 else 0)) H) ∨ ∃ a n, xs = [.str a] ∧ PySem.intText? a = some n ∧ a.length ≤ 640 ∧ Q (.int n) H
theorem c_intA : CallR X (.type "int") rIntA := fun pins s σ H xs us Q I r h => h.elim (call_int1 pins s σ H xs us Q I r) (call_int_str pins s σ H xs us Q I r)
theorem intA_i {i : Int} {H : Hp} {Q : VK} : rIntA [.int i] H Q = Q (.int i) H := by
  refine propext ⟨fun h => ?_, fun q => .inl (.inl ⟨i, rfl, q⟩)⟩
  rcases h with (⟨j, e, q⟩ | ⟨k, e, q⟩) | ⟨a, n, e, _⟩
  · cases e; exact q
  · cases e
  · cases e
theorem intA_b {b : Bool} {H : Hp} {Q : VK} : rIntA [.bl b] H Q = Q (.int (if b then 1 else 0)) H := by
  refine propext ⟨fun h => ?_, fun q => .inl (.inr ⟨b, rfl, q⟩)⟩
  rcases h with (⟨j, e, q⟩ | ⟨k, e, q⟩) | ⟨a, n, e, _⟩
  · cases e
  · cases e; exact q
  · cases e
end
end RS


/-! methods by positions and keywords -/
namespace RS
open PySem PySem.Spec L2 PyProof.Rows
section
variable {g : Wd} {X : Cx} {k : Nat} {C : Addr} {ps : List Str} {sp : Sp} {W : WX} {p pos apos : Pos} {o e : Expr} {es : List Expr} {ta : TE} {tp : TA}
/-- the method m by np positions and the keywords ks; pm: the places of the keywords in the parameters behind -/
def Kmp (g : Wd) (C : Addr) (m : Str) (k : Nat) (ps : List Str) (np : Nat) (ks : List Str) (pm : List Nat) (dvs : List V) (sp : Sp) : Prop :=
  ∃ f fd dsV, PySem.W.findIn g.K (.ref C) m = some (some (.ref f)) ∧ PySem.W.isFn g.K (.ref f) = true ∧ PySem.W.keepIn g.K (.ref f) = true ∧ FnG g k f fd ps sp ∧ Vals dvs dsV ∧
    ∀ (s : Shared) (y : Value) (us ws : List Value), g.K.In s.heap → us.length = np → ws.length = ks.length → BindsTo s fd ⟨y :: us, ks.zip ws⟩ (ps.zip (y :: us ++ (pm.map fun i => ws.getD i .none) ++ dsV))
def tMethP (C : Addr) (m : Str) (np n : Nat) (sp : Sp) (pm : List Nat) (dvs : List V) (W : WX) (ta : TE) (tp t : TA) : TE := fun σ H Q => ta σ H fun x H1 => ∃ q dx fs, x = .ref q ∧ H1 q = some (.ins C dx fs) ∧ fs.lookup m = none ∧
  tp σ H1 fun us H2 => t σ H2 fun zs H3 => us.length = np ∧ zs.length = n ∧ sp (.ref q :: us ++ (pm.map fun i => zs.getD i .non) ++ dvs) H3 Q (fun c d H' => W c d σ H')
theorem pe_methP {m : Str} {np : Nat} {ks : List Str} {pm : List Nat} {dvs : List V} {kws : List Keyword} {t : TA} {pl : Sem Bool} (he : PE X o ta) (c : Cls g.K C) (F : Kmp g C m k ps np ks pm dvs sp) (hr : Rm k X) (tk : Takes X W) (hp : PA X (e :: es) tp) (hkw : PK X kws t)
    (hall : (backToKw pos (keywordEach kws X.env)).all (·.1.isSome) = true := by rfl) (hks : (backToKw pos (keywordEach kws X.env)).filterMap (·.1) = ks := by rfl)
    (hpl : ((backTo pos (starEach (e :: es) X.env)).any (·.1) || (backToKw pos (keywordEach kws X.env)).any (·.1.isNone)) = false := by rfl) (hst : starEach (e :: es) X.env = (false, eval e X.env) :: starEach es X.env := by rfl)
    (ht : eval (.Call (.Attribute o m apos) (e :: es) kws pos) X.env = (do
      let ov ← eval o X.env
      standAt apos.atName
      let (f, first) ← holding [ov] (getMethod ov m pl)
      callWith pos f first (backTo pos (starEach (e :: es) X.env)) (backToKw pos (keywordEach kws X.env))) := by rfl) (at_ : At g X := by exact ⟨rfl, rfl, rfl, rfl, rfl⟩) :
    PE X (.Call (.Attribute o m apos) (e :: es) kws pos) (tMethP C m np ks.length sp pm dvs W ta tp t) := by
  obtain ⟨f, fd, dsV, hf, hi, hk, F, rd, hb⟩ := F
  refine ⟨fun pins s σ H Q I h => PySem.W.methodCall_KW (pl := pl) (thn (he.run pins s σ H _ I h) ?_) ht⟩
  rintro u s1 ⟨x, H1, I1, rx, q, dx, fs, rfl, ea, l, h1⟩
  obtain rfl : u = Value.ref q := rx
  refine getmeth_ok I1 ea (by rw [at_.K]; exact c) (g := f) (by rw [at_.K]; exact ⟨hf, hi, hk⟩) l ?_
  refine PySem.W.callWith_KW (first := [.ref q]) (h₀ := X.base) I.ok.mod.kin (by rw [at_.K]; exact hk) hall (thn (hp.run pos pins s1 σ H1 _ I1 h1) ?_) hpl hst
  rintro us s2 ⟨vs, H2, I2, rv, h2⟩
  refine thn (hkw.run pos pins s2 σ H2 _ I2 h2) ?_
  rintro ws s3 ⟨zs, H3, I3, rz, lv, lz, q3⟩
  refine ⟨I3.kIn, ?_⟩
  rw [hks]
  have rr : Vals (.ref q :: vs ++ (pm.map fun i => zs.getD i .non) ++ dvs) (.ref q :: us ++ (pm.map fun i => ws.getD i .none) ++ dsV) := Vals.append (Vals.append (.cons rfl rv) (vals_pm rz pm)) rd
  refine wpAny_call (codeAny_mono (runG at_ F hr tk I3 (hb s3 (.ref q) us ws (at_.K ▸ I3.kIn) (by rw [← rv.length]; exact lv) (by rw [← rz.length]; exact lz)) rr q3) fun res s' hq => ?_)
  cases res with
  | error e => exact hq
  | ok fl => cases fl with
    | ret u => exact hq
    | _ => exact hq.elim
end
end RS


/-! the end of a law: defs with defaults, defs that make lambdas, tables -/
namespace RS
open PySem PySem.Spec L2 LamX
theorem bindsD {K : PySem.W.Frag} {s : Shared} {fd : FuncData} {args : Args} {binds : List (Str × Value)} {T : Addr} {oc : Value} {od : Option Addr} {its : Array Value} {n : Nat} {sl : Array (Option Value)} (X : K.In s.heap) (lT : K.lookup T = some ⟨oc, od, .seq its n, sl⟩)
    (h : ∃ k, bindArgs fd args = seqItems? (.ref T) >>= k ∧ k (some its) = pure binds) : BindsTo s fd args binds := by
  obtain ⟨k, e1, e2⟩ := h
  refine BindsTo.of_looks fun M => ?_
  rw [e1]
  exact looks_items X lT rfl (.of_pure e2)
theorem dfc_mk {K : PySem.W.Frag} {x qual : Str} {st : Stmt} {f c : Addr} {oc : Value} {od an : Option Addr} {osl : Array (Option Value)} {kV doc pm ct : Value} (l : K.lookup f = some ⟨oc, od, .func (PySem.W.fnOf x qual (defArgs st) (defBody st) (defScope st) .none kV doc pm an (.ref c) ct), osl⟩)
    (h : PySem.W.codeIn K (.ref c) qual = true) (k : PySem.W.keepIn K (.ref f) = true) : DfC K x qual st f (PySem.W.fnOf x qual (defArgs st) (defBody st) (defScope st) .none kV doc pm an (.ref c) ct) c := ⟨⟨oc, od, kV, doc, pm, an, ct, osl, rfl, l, h⟩, k⟩
theorem FnAtC.of {K : PySem.W.Frag} {C f : Addr} {m : Str} (h : PySem.W.findIn K (.ref C) m = some (some (.ref f))) (h2 : PySem.W.fnIn K f = true) : FnAtC K C m := fun f' e => by
  rw [h] at e
  cases e
  exact h2
/-- empty tables -/
theorem tabs0 {T : List (Addr × Str)} {H : Hp} (h : ∀ p ∈ T, H p.1 = some (.tbl #[])) : Tabs T H := fun p hp =>
  ⟨#[], h p hp, by simp [TriplesOk], fun pos cv e => by simp [codeAmong] at e⟩
end RS


/-! methods with a star parameter -/
namespace RS
open PySem PySem.Spec L2
section
variable {g : Wd} {X : Cx} {k : Nat} {C : Addr} {sp : Sp} {W : WX} {m : Str} {p pos apos : Pos} {o e : Expr} {es : List Expr} {ta : TE} {t : TA}
def KmS (g : Wd) (C : Addr) (m : Str) (k : Nat) (sp : Sp) : Prop := ∃ f, PySem.W.findIn g.K (.ref C) m = some (some (.ref f)) ∧ PySem.W.isFn g.K (.ref f) = true ∧ PySem.W.keepIn g.K (.ref f) = true ∧ FnS g k f sp
def tMethS (C : Addr) (m : Str) (sp : Sp) (W : WX) (ta : TE) (t : TA) : TE := fun σ H Q => ta σ H fun x H1 => ∃ a dx fs, x = .ref a ∧ H1 a = some (.ins C dx fs) ∧ fs.lookup m = none ∧
  t σ H1 fun vs H2 => sp (x :: vs) H2 Q (fun c d H' => W c d σ H')
theorem pe_methS {pl : Sem Bool} (he : PE X o ta) (c : Cls g.K C) (F : KmS g C m k sp) (hr : Rm k X) (tk : Takes X W) (ha : PA X (e :: es) t)
    (hst : starEach (e :: es) X.env = (false, eval e X.env) :: starEach es X.env := by rfl) (hpl : (backTo pos (starEach es X.env)).any (·.1) = false := by rfl)
    (ht : eval (.Call (.Attribute o m apos) (e :: es) [] pos) X.env = (do
      let ov ← eval o X.env
      standAt apos.atName
      let (f, first) ← holding [ov] (getMethod ov m pl)
      callWith pos f first (backTo pos (starEach (e :: es) X.env)) (backToKw pos (keywordEach [] X.env))) := by rfl) (a : At g X := by exact ⟨rfl, rfl, rfl, rfl, rfl⟩) :
    PE X (.Call (.Attribute o m apos) (e :: es) [] pos) (tMethS C m sp W ta t) := by
  obtain ⟨f, hf, hi, hk, F⟩ := F
  refine ⟨fun pins s σ H Q I h => PySem.W.methodCall_KW (pl := pl) (thn (he.run pins s σ H _ I h) ?_) ht⟩
  rintro u s1 ⟨x, H1, I1, rx, q, dx, fs, rfl, ea, l, h1⟩
  obtain rfl : u = Value.ref q := rx
  refine getmeth_ok I1 ea (by rw [a.K]; exact c) (g := f) (by rw [a.K]; exact ⟨hf, hi, hk⟩) l ?_
  refine PySem.W.callWith_K (first := [.ref q]) (h₀ := X.base) I.ok.mod.kin (by rw [a.K]; exact hk) (thn (ha.run pos pins s1 σ H1 _ I1 h1) ?_) hst hpl
  rintro us s2 ⟨vs, H2, I2, r, q2⟩
  exact ⟨I2.kIn, callS (vs := .ref q :: vs) (us := .ref q :: us) a F hr tk I2 (.cons rfl r) q2⟩
theorem pe_methS0 {pl : Sem Bool} (he : PE X o ta) (c : Cls g.K C) (F : KmS g C m k sp) (hr : Rm k X) (tk : Takes X W)
    (ht : eval (.Call (.Attribute o m apos) [] [] pos) X.env = (do
      let ov ← eval o X.env
      standAt apos.atName
      let (f, first) ← holding [ov] (getMethod ov m pl)
      callWith pos f first (backTo pos (starEach [] X.env)) (backToKw pos (keywordEach [] X.env))) := by rfl) (a : At g X := by exact ⟨rfl, rfl, rfl, rfl, rfl⟩) :
    PE X (.Call (.Attribute o m apos) [] [] pos) (tMethS C m sp W ta tNil) := by
  obtain ⟨f, hf, hi, hk, F⟩ := F
  refine ⟨fun pins s σ H Q I h => PySem.W.methodCall_KW (pl := pl) (thn (he.run pins s σ H _ I h) ?_) ht⟩
  rintro u s1 ⟨x, H1, I1, rx, q, dx, fs, rfl, ea, l, h1⟩
  obtain rfl : u = Value.ref q := rx
  refine getmeth_ok I1 ea (by rw [a.K]; exact c) (g := f) (by rw [a.K]; exact ⟨hf, hi, hk⟩) l ?_
  exact PySem.W.callWith_K0 (first := [.ref q]) I1.kIn (by rw [a.K]; exact hk) (callS (vs := [.ref q]) (us := [.ref q]) a F hr tk I1 (.cons rfl .nil) h1)
/-- == of two dicts or two lists that are equal -/
theorem o_eqV {j : Nat} {K : PySem.W.Frag} (hr : Rm j X) (hK : X.K = K := by rfl) : OpR X (compareOp .Eq) (rEqV K) := by subst hK; exact op_eqV (by have := hr.room.un; omega)
end
end RS


/-! f(lambda p=0: e): the lambda bears one parameter of its own, told by its default -/
namespace RS
open PySem PySem.Spec L2 PyProof.Rows LamX
section
variable {X : Cx} {pins : List (Addr × Obj)} {σ : L2.St} {H : Hp} {s : Shared}
/-- the tail of a making: the defaults' tuple stands at T0 -/
theorem lam_tailD {T : List (Addr × Str)} {c P T0 : Addr} {v0 : Value} {params : Arguments} {body : Expr} {scope : Scope} {pos : Pos} {E : Value → Shared → Prop} {Q : Value → Shared → Prop} (I : Inv X pins σ H s) (TB : TabB X.base X.mg c P) (hcode : X.env.code = .ref c)
    (hm : (P, X.env.qual ++ "<lambda>") ∈ T) (hu : ∀ p ∈ T, p.1 = P → p.2 = X.env.qual ++ "<lambda>") (hT : Tabs T H) (hfree : ∀ y ∈ scope.names, y.2 = .free → ∃ c, X.env.cells.lookup y.1 = some c)
    (h0 : s.heap.get? T0 = some (PySem.W.kdv_tup [v0])) (n0 : H T0 = none) (r0 : T0 ∉ frs X.stack)
    (h : ∀ (f c' : Addr) (pm ctv doc : Value) (H1 : Hp) (s' : Shared), Inv X pins σ H1 s' → ExtN H H1 → Tabs T H1 →
      s'.heap.get? f = some (PySem.W.kdv_obj "<lambda>" (X.env.qual ++ "<lambda>") params (.expr body) scope (cloFrom X.env.cells scope.names []) (.ref T0) doc pm c' ctv) → H1 f = none → f ∉ frs X.stack →
      s'.heap.get? T0 = some (PySem.W.kdv_tup [v0]) → H1 T0 = none → H1 c' = some (CodeO c' (X.env.qual ++ "<lambda>")) → Q (.ref f) s') :
    wpAny (model X.prog X.w) X.A (makeTail "<lambda>" (X.env.qual ++ "<lambda>") params (.expr body) scope X.env (.ref T0) .none none pos pos.line) Q E s := by
  obtain ⟨ps, hP, ht, ha⟩ := hT _ hm
  have bP : s.heap.BuiltinsAt X.mg P := TB.bm.keeps I.bk
  have hP' : s.heap.get? P = some { cls := .none, data := .fields ps } := I.hok P _ hP
  have nofr : ∀ f, s.heap.objs.size ≤ f → f ∉ frs X.stack := fun f hf z => by
    rcases List.mem_cons.mp (I.stkSub _ z) with e | e
    · have h1 := I.lt
      rw [← e] at h1
      exact Nat.lt_irrefl _ (Nat.lt_of_lt_of_le h1 hf)
    · exact I.nofs hf e
  have n0P : T0 ≠ P := fun z => by rw [z, hP] at n0; cases n0
  cases hc : codeAmong pos ps.toList with
  | none =>
    refine PySem.W.kdv_makeTail (mg := X.mg) (c := c) (P := P) (ps := ps) (closure_ok hfree) I.ok.glob (I.mod.glob.keeps I.bk) hcode (TB.code.keeps I.bk) hP' ht hc TB.gP bP fun c' ctv doc h' tk hx hge hlt hrec htb => ?_
    obtain ⟨c2, oc, vs, t, e2, hoc, hd, hv⟩ := hrec
    cases e2
    have hsz : s.heap.objs.size ≤ h'.objs.size := Nat.le_trans hge (Nat.le_of_lt hlt)
    have nC : H c' = none := I.hok.fresh hge
    have I1 := inv_table (t' := tk) (more := #[rawInt pos.line, rawInt pos.col, .ref c']) (h' := h'.push (PySem.W.kdv_obj "<lambda>" (X.env.qual ++ "<lambda>") params (.expr body) scope (cloFrom X.env.cells scope.names []) (.ref T0) doc ((X.mg "__name__").getD .none) c' ctv)) I hP
      (fun b o hb e => Heap.get?_push_of_some _ (hx b o hb e)) (Heap.get?_push_of_some _ htb) hge ⟨oc, vs, t, Heap.get?_push_of_some _ hoc, hd, hv⟩
    have hE : ExtN H (upd (upd H P (.tbl (ps ++ #[rawInt pos.line, rawInt pos.col, .ref c']))) c' (CodeO c' (X.env.qual ++ "<lambda>"))) := fun b o e n => by
      rw [upd_ne (ne_of_none e nC), upd_ne (fun z => n ps (Option.some.inj (e.symm.trans (by rw [z]; exact hP))))]
      exact e
    have eL : (ps ++ #[rawInt pos.line, rawInt pos.col, .ref c']).toList = ps.toList ++ [rawInt pos.line, rawInt pos.col, .ref c'] := by simp
    refine h h'.objs.size c' ((X.mg "__name__").getD .none) ctv doc _ _ I1 hE (fun p hp => ?_) (Heap.get?_push_size _ rfl) ?_ (nofr _ hsz) (Heap.get?_push_of_some _ (hx _ _ n0P h0)) ?_ upd_same
    · by_cases hb : p.1 = P
      · rw [hu p hp hb, hb]
        refine ⟨_, by rw [upd_ne (ne_of_none hP nC), upd_same], by rw [eL]; exact PySem.TriplesOk_snoc _ _ _ _ ht, fun p' cv hcv => ?_⟩
        rw [eL] at hcv
        rcases among_app _ ht hcv with z | z
        · obtain ⟨c0, e1, e2⟩ := ha p' cv z
          exact ⟨c0, e1, hE _ _ e2 codeO_ne⟩
        · exact ⟨c', z, upd_same⟩
      · obtain ⟨ps', a1, a2, a3⟩ := hT p hp
        refine ⟨ps', by rw [upd_ne (ne_of_none a1 nC), upd_ne hb]; exact a1, a2, fun p' cv hcv => ?_⟩
        obtain ⟨c0, e1, e2⟩ := a3 p' cv hcv
        exact ⟨c0, e1, hE _ _ e2 codeO_ne⟩
    · have n1 : h'.objs.size ≠ c' := Nat.ne_of_gt hlt
      have n2 : h'.objs.size ≠ P := Nat.ne_of_gt (Nat.lt_of_lt_of_le (Heap.lt_size hP') hsz)
      rw [upd_ne n1, upd_ne n2]
      exact I.hok.fresh hsz
    · have n1 : T0 ≠ c' := Nat.ne_of_lt (Nat.lt_of_lt_of_le (Heap.lt_size h0) hge)
      rw [upd_ne n1, upd_ne n0P]
      exact n0
  | some cv =>
    obtain ⟨c', e, hco⟩ := ha pos cv hc
    subst e
    refine PySem.W.kdv_makeTailHit (mg := X.mg) (c := c) (P := P) (ps := ps) (closure_ok hfree) I.ok.glob (I.mod.glob.keeps I.bk) hcode (TB.code.keeps I.bk) hP' ht hc bP fun ctv doc h' tk hx hsz => ?_
    have I1 : Inv X pins σ H { s with heap := h'.push (PySem.W.kdv_obj "<lambda>" (X.env.qual ++ "<lambda>") params (.expr body) scope (cloFrom X.env.cells scope.names []) (.ref T0) doc ((X.mg "__name__").getD .none) c' ctv), toks := tk } := I.kept fun b o e => Heap.get?_push_of_some _ (hx b o e)
    exact h h'.objs.size c' ((X.mg "__name__").getD .none) ctv doc H _ I1 (ExtN.refl H) hT (Heap.get?_push_size _ rfl) (I.hok.fresh hsz) (nofr _ hsz) (Heap.get?_push_of_some _ (hx _ _ h0)) n0 hco
/-- the lambda is made -/
theorem lam_makeD {T : List (Addr × Str)} {c P : Addr} {params : Arguments} {body : Expr} {scope : Scope} {pos : Pos} {z : Int} {kk : Nat} {pp : Pos} {E : Value → Shared → Prop} {Q : Value → Shared → Prop} (I : Inv X pins σ H s) (TB : TabB X.base X.mg c P) (hcode : X.env.code = .ref c)
    (hm : (P, X.env.qual ++ "<lambda>") ∈ T) (hu : ∀ p ∈ T, p.1 = P → p.2 = X.env.qual ++ "<lambda>") (hT : Tabs T H) (hdf : params.defaults = [.Constant (.int z) kk pp]) (hk0 : params.kw_defaults = []) (hfree : ∀ y ∈ scope.names, y.2 = .free → ∃ c, X.env.cells.lookup y.1 = some c)
    (h : ∀ (f c' T0 : Addr) (v0 pm ctv doc : Value) (H1 : Hp) (s' : Shared), Inv X pins σ H1 s' → ExtN H H1 → Tabs T H1 →
      s'.heap.get? f = some (PySem.W.kdv_obj "<lambda>" (X.env.qual ++ "<lambda>") params (.expr body) scope (cloFrom X.env.cells scope.names []) (.ref T0) doc pm c' ctv) → H1 f = none → f ∉ frs X.stack →
      s'.heap.get? T0 = some (PySem.W.kdv_tup [v0]) → H1 T0 = none → T0 ∉ frs X.stack → H1 c' = some (CodeO c' (X.env.qual ++ "<lambda>")) → Q (.ref f) s') :
    wpAny (model X.prog X.w) X.A (eval (.Lambda params body scope pos) X.env) Q E s := by
  refine PySem.W.kdv_lam (by rw [hdf]; rfl) hk0 ?_
  rw [hdf]
  refine PySem.W.kdv_all1 (wpAny_Constant_int (PySem.W.kdv_all0 ?_))
  rw [makeFunction_eq]
  simp only [List.zip_nil_right, List.filterMap_nil, List.isEmpty_nil, List.isEmpty_cons, if_true, pure_bind, Bool.false_eq_true, if_false]
  have nofr : s.heap.objs.size ∉ frs X.stack := fun z => by
    rcases List.mem_cons.mp (I.stkSub _ z) with e | e
    · have h1 := I.lt
      rw [← e] at h1
      exact Nat.lt_irrefl _ h1
    · exact I.nofs (Nat.le_refl _) e
  have I1 : Inv X pins σ H { s with heap := s.heap.push (PySem.W.kdv_tup [.int z s.toks]), toks := s.toks + 1 } := I.kept fun b o e => Heap.get?_push_of_some _ e
  refine wpAny_bind (wpAny_newTextTuple ?_)
  exact lam_tailD (s := { s with heap := s.heap.push (PySem.W.kdv_tup [.int z s.toks]), toks := s.toks + 1 }) I1 TB hcode hm hu hT hfree (Heap.get?_push_size _ rfl) (I.hok.fresh (Nat.le_refl _)) nofr fun f c' pm ctv doc H1 s' I' e T' hf hfn hfr ht0 hn0 hco => h f c' s.heap.objs.size (.int z s.toks) pm ctv doc H1 s' I' e T' hf hfn hfr ht0 hn0 nofr hco
end
/-- one parameter p of its own, else captured names and globals -/
structure LamD (p : Str) (sc scope : Scope) : Prop where
  kind : scope.kind = .function
  co : scope.isCoroutine = false
  gen : scope.isGenerator = false
  par : scope.names.lookup p = some .local
  own : ∀ y ∈ scope.names, (y.2 = .local → y.1 = p) ∧ y.2 ≠ .cell
  free : ∀ y ∈ scope.names, y.2 = .free → sc.names.lookup y.1 = some .cell ∨ sc.names.lookup y.1 = some .free
def lamDB (p : Str) (sc scope : Scope) : Bool :=
  decide (scope.kind = .function) && !scope.isCoroutine && !scope.isGenerator && decide (scope.names.lookup p = some .local) && scope.names.all fun y => (!decide (y.2 = .local) || decide (y.1 = p)) && !decide (y.2 = .cell) && (!decide (y.2 = .free) || decide (sc.names.lookup y.1 = some .cell) || decide (sc.names.lookup y.1 = some .free))
theorem lamD_by {p : Str} {sc scope : Scope} (h : lamDB p sc scope = true) : LamD p sc scope := by
  unfold lamDB at h
  simp only [Bool.and_eq_true, Bool.or_eq_true, Bool.not_eq_true', decide_eq_true_eq, decide_eq_false_iff_not, List.all_eq_true] at h
  obtain ⟨⟨⟨⟨h1, h2⟩, h3⟩, h5⟩, h4⟩ := h
  refine ⟨h1, h2, h3, h5, fun y hy => ⟨fun e => ?_, (h4 y hy).1.2⟩, fun y hy e => ?_⟩
  · rcases (h4 y hy).1.1 with z | z
    · exact absurd e z
    · exact z
  · rcases (h4 y hy).2 with (z | z) | z
    · exact absurd e z
    · exact .inl z
    · exact .inr z
theorem LamD.has {p : Str} {X : Cx} {scope : Scope} (L : LamD p X.env.scope scope) (ok : X.Ok) : ∀ y ∈ scope.names, y.2 = .free → ∃ c, X.env.cells.lookup y.1 = some c := fun y hy e => by
  rcases L.free y hy e with k | k
  · exact ok.has _ (.inl k)
  · exact ok.has _ (.inr k)
section
variable {X : Cx} {pins : List (Addr × Obj)} {σ : L2.St} {H HZ : Hp} {s s1 : Shared}
theorem lam_startD {p : Str} {A : Around} {outer : List Env} {E : XK} {scope : Scope} {f c' : Addr} {h₁ : Heap} {tk : Nat} {m1 : Str → Option Value} (I : Inv X pins σ H s) (L : LamD p X.env.scope scope) (np : p ∉ X.N) (e0 : Env0 X.prog X.w X.K X.mg X.base A outer s1 HZ) (hd : A.handled = none)
    (un : Un (frs X.stack) [] H HZ s.heap s1.heap) (hns : h₁.Ns s1.heap.objs.size m1) (kp : ∀ b o, s1.heap.get? b = some o → h₁.get? b = some o) :
    Inv (lamCx X A outer s1 HZ E scope f c') [] σ HZ { s1 with heap := h₁, toks := tk } := by
  have hfree := L.has I.ok
  have cm : ∀ {y c}, (cloFrom X.env.cells scope.names []).lookup y = some c → X.env.cells.lookup y = some c := fun {y c} e => by
    rcases cloFrom_mem (PySem.mem_of_lookup e) with hm | ⟨h1, h2⟩
    · cases hm
    · obtain ⟨c1, hc⟩ := hfree _ h1 rfl
      have hc : X.env.cells.lookup y = some c1 := hc
      have e2 : c = c1 := by
        rw [h2, hc] <;> rfl
      rw [e2]
      exact hc
  have look : ∀ {y}, scope.names.lookup y = some .free → ∃ c, (cloFrom X.env.cells scope.names []).lookup y = some c := fun {y} hl => by
    have hy : (y, NameKind.free) ∈ scope.names := PySem.mem_of_lookup hl
    exact mem_lookup (cloFrom_has (cells := X.env.cells) (acc := []) hy)
  have cellK : ∀ {c : Addr} {v : Option Value}, H c = none → s.heap.IsCell c v → h₁.IsCell c v := fun {c v} n ⟨o, ho, hd⟩ => by
    obtain ⟨sl, q⟩ := un.any ho n (by simp)
    exact ⟨_, kp _ _ q, hd⟩
  have noA : ∀ b : Addr, b ∉ (lamCx X A outer s1 HZ E scope f c').ex := fun b z => absurd (show b ∈ ([] : List Addr) from z) (by simp)
  refine ⟨⟨e0.mod, L.kind, rfl, rfl, Nat.le_refl _, fun y z c e1 e2 => I.ok.inj y z c (cm e1) (cm e2), fun y hy => ?_, fun y c z _ => ?_, fun _ => hd, Around.frames_deeper e0.frames, .inr ⟨rfl, rfl⟩, fun b z => absurd z (noA b), e0.bs, e0.bsz, fun b _ _ => noA b,
      fun b z => absurd z (noA b), e0.funs, e0.frf⟩,
    rfl, e0.bare, Un.kept kp, ⟨_, hns, fun i y v e1 e2 e3 => ?_⟩, fun y c e => ?_, e0.hok.fresh (Nat.le_refl _), fun y c e => ?_, fun q hq => absurd (show q ∈ ([] : List (Addr × Obj)) ++ [] from hq) (by simp), e0.hok.kept kp, I.len⟩
  · have hy : scope.names.lookup y = some .cell ∨ scope.names.lookup y = some .free := hy
    rcases hy with hy | hy
    · exact absurd rfl (L.own _ (PySem.mem_of_lookup hy)).2
    · exact look hy
  · have z : false = true := z
    cases z
  · have e3 : Vis scope y := e3
    rcases e3 with k | k | k
    · have z : y = p := (L.own _ (PySem.mem_of_lookup k)).1 rfl
      have e1 : X.N[i]? = some y := e1
      rw [z] at e1
      exact absurd (List.mem_of_getElem? e1) np
    · exact absurd rfl (L.own _ (PySem.mem_of_lookup k)).2
    · obtain ⟨m, hn, hl⟩ := I.loc
      have hvis : Vis X.env.scope y := (L.free _ (PySem.mem_of_lookup k) rfl).elim (fun k => .inr (.inl k)) (fun k => .inr (.inr k))
      obtain ⟨w', r, q⟩ := hl i y v e1 e2 hvis
      obtain ⟨c2, h2⟩ := look k
      refine ⟨w', r, .inr ⟨.inr k, c2, h2, ?_⟩⟩
      have c1 := cm h2
      rcases q with ⟨k', _⟩ | ⟨_, c3, e', z⟩
      · have k' : X.env.scope.names.lookup y = some .local := k'
        rcases L.free _ (PySem.mem_of_lookup k) rfl with k2 | k2 <;> rw [show X.env.scope.names.lookup y = _ from k2] at k' <;> cases k'
      · rw [c1] at e'
        cases e'
        exact cellK (I.freeC y _ c1) z
  · obtain ⟨w', z⟩ := I.cell y c (cm e)
    exact ⟨w', cellK (I.freeC y c (cm e)) z⟩
  · obtain ⟨v, o, ho, hd⟩ := I.cell y c (cm e)
    exact un.free c o ho (I.freeC y c (cm e)) (by simp)
/-- the lambda at f, run from the frames of Z -/
theorem lam_runD {p : Str} {f c' T0 : Addr} {v0 pm ctv doc : Value} {params : Arguments} {body : Expr} {scope : Scope} {k : Nat} {E : XK} {tb : TE} {A : Around} {outer : List Env} {s1 : Shared} {HZ : Hp} {Q : VK}
    (I : Inv X pins σ H s) (L : LamD p X.env.scope scope) (np : p ∉ X.N) (hc : HZ c' = some (CodeO c' (X.env.qual ++ "<lambda>"))) (e0 : Env0 X.prog X.w X.K X.mg X.base A outer s1 HZ) (lim : s1.heap.NoLimit)
    (of1 : s1.heap.get? f = some (PySem.W.kdv_obj "<lambda>" (X.env.qual ++ "<lambda>") params (.expr body) scope (cloFrom X.env.cells scope.names []) (.ref T0) doc pm c' ctv)) (ot : s1.heap.get? T0 = some (PySem.W.kdv_tup [v0])) (un : Un (frs X.stack) [] H HZ s.heap s1.heap)
    (hbind : ∃ kk, bindArgs (PySem.W.kdv_fn "<lambda>" (X.env.qual ++ "<lambda>") params (.expr body) scope (cloFrom X.env.cells scope.names []) (.ref T0) doc pm (.ref c') ctv) ⟨[], []⟩ = seqItems? (.ref T0) >>= kk ∧ kk (some #[v0]) = pure [(p, v0)]) (hr : Room (k + 1) A) (gd : A.guards = some [])
    (hbody : Rm k (lamCx X A outer s1 HZ E scope f c') → PE (lamCx X A outer s1 HZ E scope f c') body tb) (ht : tb σ HZ Q) :
    codeAny (model X.prog X.w) A (.call (.ref f) ⟨[], []⟩) (CR (L2.CX X.prog X.w) outer X.prog X.w HZ s1 Q E) s1 := by
  obtain ⟨⟨oc, vs, t, hoc, hdc, hvc⟩, _, _⟩ := e0.hok c' _ hc
  obtain ⟨kk, b1, b2⟩ := hbind
  refine PySem.W.kla_callFunE hr.depth of1 rfl L.co L.gen rfl ⟨c', oc, vs, t, rfl, hoc, hdc, hvc⟩ ?_
  refine BindsTo.of_defaults (T := T0) rfl ot rfl b1 b2 _ _ _ _ ?_
  refine (wpAny_newFunctionEnv (fun y hy => (L.own y hy).2) (fun y hy => ?_) (fun h₁ hns hsb => ⟨lim.fresh _ hsb, ?_⟩) L.kind)
  · rw [List.mem_singleton.mp hy]
    exact L.par
  show codeAny _ _ (.expr body (lamEnv X scope s1.heap.objs.size f c')) _ _
  have kp : ∀ b o, s1.heap.get? b = some o → h₁.get? b = some o := fun b o q => hsb.extBut b o (Nat.ne_of_lt (Heap.lt_size q)) (Heap.get?_push_of_some _ q)
  have J := lam_startD (E := E) (f := f) (c' := c') (tk := s1.toks + ([(p, v0)] : List (Str × Value)).length) I L np e0 hr.hd un hns kp
  have P := hbody ⟨hr.deeper _, gd⟩
  refine PySem.W.kla_codeExpr (wpAny_mono (P.run [] _ _ HZ Q J ht) (fun v s' hq => ?_) fun e s' hq => hq)
  obtain ⟨w', H', J', rv, q⟩ := hq
  exact ⟨w', H', J'.os, J'.bare, J'.base, J'.hok, rv, q⟩
/-- x(lambda p=0: body) -/
theorem pe_lamGD {g : Wd} {T : List (Addr × Str)} {TT : Addr → Str → (XK → Hp → VK → Prop) → Hp → VK → Prop} {x ap : Str} {c P : Addr} {k : Nat} {params : Arguments} {body : Expr} {scope : Scope} {t : XK → TE} {p lpos pos : Pos} {z : Int} {kk : Nat} {pp : Pos}
    (F : Told g (k + 1) x TT) (hr : Rm (k + 2) X) (TB : TabB X.base X.mg c P) (hcode : X.env.code = .ref c) (hmT : (P, X.env.qual ++ "<lambda>") ∈ T) (hu : ∀ p ∈ T, p.1 = P → p.2 = X.env.qual ++ "<lambda>")
    (L : LamD ap X.env.scope scope) (np : ap ∉ X.N) (hdf : params.defaults = [.Constant (.int z) kk pp]) (hk0 : params.kw_defaults = [])
    (hbind : ∀ (q : Str) (cl : List (Str × Addr)) (T0 : Addr) (v0 doc pm cv ctv : Value), ∃ kk, bindArgs (PySem.W.kdv_fn "<lambda>" q params (.expr body) scope cl (.ref T0) doc pm cv ctv) ⟨[], []⟩ = seqItems? (.ref T0) >>= kk ∧ kk (some #[v0]) = pure [(ap, v0)])
    (hbody : ∀ (A : Around) (outer : List Env) (s : Shared) (H : Hp) (E : XK) (f c' : Addr), Rm k (lamCx X A outer s H E scope f c') → PE (lamCx X A outer s H E scope f c') body (t E))
    (hg : Gl X x := by rfl) (hdb : (x == ("__debug__" : Str)) = false := by decide) (at_ : At g X := by exact ⟨rfl, rfl, rfl, rfl, rfl⟩) :
    PE X (.Call (.Name x p) [.Lambda params body scope lpos] [] pos) (tLamG T TT (X.env.qual ++ "<lambda>") t) := by
  refine ⟨fun pins s σ H Q I h => ?_⟩
  obtain ⟨hT, h⟩ := h
  obtain ⟨st, gf, fd, a, N, hm, DF, hb, Sg, hN0, hva, hd1, hd2, body_⟩ := F.ex
  obtain ⟨oc, od, kV, doc, pm0, an, cdv, ct, osl, rfl, lk, hcd⟩ := DF.ex
  have hm' : X.mg x = some (.ref gf) := by rw [at_.mg]; exact hm
  refine wpAny_Call_Name_kw (ld_glob I hg hm' ?_ hdb)
  refine PySem.W.callWith_K (h₀ := X.base) I.ok.mod.kin (by rw [at_.K]; exact DF.kp) ?_ (by rfl) (by rfl)
  show wpAny _ _ (spliced ((false, eval (.Lambda params body scope lpos) X.env) :: backTo pos (starEach [] X.env))) _ _ s
  refine Calls.spliced_cons (lam_makeD I TB hcode hmT hu hT hdf hk0 (L.has I.ok) fun f c' T0 v0 pm' ctv doc' H1 s' I1 eN T1 hf hfn hfr ht0 hn0 hr0 hco => ?_)
  refine Calls.spliced_nil ⟨I1.kIn, ?_⟩
  have KX := I1.kIn
  rw [at_.K] at KX
  have rc : codeAny (model X.prog X.w) X.A (.call (.ref gf) ⟨[.ref f], []⟩) (CR (L2.CX X.prog X.w) X.stack X.prog X.w H1 s' Q fun _ _ _ => False) s' := by
    obtain ⟨P0, w0, K0, mg0, base0⟩ := g
    obtain ⟨rfl, rfl, rfl, rfl, rfl⟩ := at_
    refine run_ofS (N := N) (ps := [a]) (us := [.ref f]) (vs := [.ref f]) lk hcd Sg hr.room I1.env0 (hb s' [.ref f] I1.kIn rfl) (.cons rfl .nil) rfl fun hr' => ?_
    refine body_ cdv X.A X.stack s' H1 Q f c' (X.env.qual ++ "<lambda>") (fun E H' Q' => t E σ H' Q') ⟨hr', hr.gd⟩ (fun W pn xe p1 p2 tk => ⟨fun pinsZ sZ σZ HZ Q IZ hz => ?_⟩) hco (h c' H1 eN T1 hco)
    obtain ⟨hs, hc, ht⟩ := hz
    refine wpAny_Call_Name_kw (thn ((pe_var (pos := p1) (i := 0) hN0 hva hd1 hd2).run pinsZ sZ σZ HZ (fun v H1 => v = .ref f ∧ H1 = HZ) IZ ⟨.ref f, hs, rfl, rfl⟩) fun u s1 ⟨v, H2, I2, r2, q2⟩ => ?_)
    obtain ⟨ev, eH⟩ := q2
    subst ev
    rw [eH] at I2
    obtain rfl : u = Value.ref f := r2
    have of1 := I2.base.keep f _ hf hfn hfr (fun z => nomatch (show f ∈ ([] : List Addr) from z))
    have ot1 := I2.base.keep T0 _ ht0 hn0 hr0 (fun z => nomatch (show T0 ∈ ([] : List Addr) from z))
    refine PySem.W.callWith_F0 ⟨_, _, _, _, of1⟩ ?_
    have un : Un (frs X.stack) [] H1 HZ s'.heap s1.heap := I2.base
    have rl := lam_runD (X := X) (k := k) (E := fun cls d H' => W cls d σZ H') (A := X.A.deeper (envOfC x (defScope st) s'.heap.objs.size gf cdv)) (outer := envOfC x (defScope st) s'.heap.objs.size gf cdv :: X.stack) (s1 := s1) (Q := Q) I1 L np hc I2.env0 I2.nolimit of1 ot1 un (hbind _ _ _ _ _ _ _ _) hr' hr.gd (hbody _ _ _ _ _ _ _) ht
    refine wpAny_call (codeAny_mono rl fun r s2 hq => ?_)
    cases r with
    | error e => exact tk e s2 (XE.of_call (E := fun cls d H' => W cls d σZ H') I2 (fun _ _ _ z => z) hq)
    | ok fl =>
      cases fl with
      | ret u => exact I2.after hq
      | next => exact False.elim hq
      | brk => exact False.elim hq
      | cont => exact False.elim hq
  refine wpAny_call (codeAny_mono rc fun r s2 hq => ?_)
  cases r with
  | error e =>
    obtain ⟨_, _, _, _, _, _, _, _, _, _, _, _, z⟩ := hq
    exact z.elim
  | ok fl =>
    cases fl with
    | ret u => exact I1.after hq
    | next => exact False.elim hq
    | brk => exact False.elim hq
    | cont => exact False.elim hq
end
section
variable {g : Wd} {k : Nat} {N ps : List Str} {x ap qual : Str} {st : Stmt} {f c P : Addr} {A : Around} {outer : List Env} {s : Shared} {H : Hp} {E : XK} {T : List (Addr × Str)} {TT : Addr → Str → (XK → Hp → VK → Prop) → Hp → VK → Prop}
  {params : Arguments} {body : Expr} {scope : Scope} {t : XK → TE} {p lpos pos : Pos} {z : Int} {kk : Nat} {pp : Pos}
/-- x(lambda ap=0: body), in a def that is walked -/
theorem pe_lamD (ap : Str) (F : Told g (k + 1) x TT) (L : LamT g T c P qual) (hr : Rm (k + 2) (cx g N qual st f (.ref c) A outer s H E)) (LS : lamDB ap (defScope st) scope = true)
    (hbody : ∀ (A' : Around) (outer' : List Env) (s' : Shared) (H' : Hp) (E' : XK) (f' c' : Addr), Rm k (lamCx (cx g N qual st f (.ref c) A outer s H E) A' outer' s' H' E' scope f' c') → PE (lamCx (cx g N qual st f (.ref c) A outer s H E) A' outer' s' H' E' scope f' c') body (t E'))
    (np : ap ∉ N := by decide +kernel) (hdf : params.defaults = [.Constant (.int z) kk pp] := by rfl) (hk0 : params.kw_defaults = [] := by rfl)
    (hbind : ∀ (q : Str) (cl : List (Str × Addr)) (T0 : Addr) (v0 doc pm cv ctv : Value), ∃ kk, bindArgs (PySem.W.kdv_fn "<lambda>" q params (.expr body) scope cl (.ref T0) doc pm cv ctv) ⟨[], []⟩ = seqItems? (.ref T0) >>= kk ∧ kk (some #[v0]) = pure [(ap, v0)] := by intro _ _ _ _ _ _ _ _; exact ⟨_, rfl, rfl⟩)
    (hg : Gl (cx g N qual st f (.ref c) A outer s H E) x := by rfl) (hdb : (x == ("__debug__" : Str)) = false := by decide) :
    PE (cx g N qual st f (.ref c) A outer s H E) (.Call (.Name x p) [.Lambda params body scope lpos] [] pos) (tLamG T TT ((qual ++ ".<locals>.") ++ "<lambda>") t) :=
  pe_lamGD F hr L.tb rfl L.mem L.uni (lamD_by LS) np hdf hk0 hbind hbody hg hdb
end
end RS


/-! C.m(x, ..), C a class of the text, m a classmethod def m(cls, *xs) -/
namespace RS
open PySem PySem.Spec L2 PyProof.Rows ClX
/-- the module's name c holds the class at C, whose classmethod m does what sp says -/
def KcmS (g : Wd) (C : Addr) (m : Str) (k : Nat) (sp : Sp) : Prop := ∃ p f mc, CRead g.K C mc ∧ CMet g.K C mc m p f ∧ FnS g k f sp
section
variable {g : Wd} {X : Cx} {k : Nat} {f C q : Addr} {sp : Sp} {W : WX} {m : Str} {o e : Expr} {es : List Expr} {pos apos : Pos} {ta : TE} {t : TA} {pl : Sem Bool}
theorem call_cmS (a : At g X) (F : FnS g k f sp) (hr : Rm k X) (tk : Takes X W) {pins : List (Addr × Obj)} {σ : L2.St} {H : Hp} {s : Shared} {Q : VK} {us : List Value} {vs : List V} (I : Inv X ((q, PySem.W.methodObj (.ref f) (.ref C)) :: pins) σ H s) (r : Vals vs us)
    (h : sp (.ref C :: vs) H Q (fun c d H' => W c d σ H')) : wpAny (model X.prog X.w) X.A (call (.ref q) us) (EP X pins σ Q) X.xe s := by
  obtain ⟨P, w, K, mg, base⟩ := g
  obtain ⟨rfl, rfl, rfl, rfl, rfl⟩ := a
  refine wpAny_call (PySem.W.method_call (pin_at I) (codeAny_mono (F X.A X.stack s H (.ref C :: us) (.ref C :: vs) Q _ hr.room hr.gd I.env0 (.cons rfl r) h) fun res s' hq => ?_))
  cases res with
  | error e => exact tk e s' (XE.of_call (E := fun c d H' => W c d σ H') I (fun _ _ _ z => z) hq)
  | ok fl => cases fl with
    | ret u => exact unpinE (I.after hq)
    | _ => exact hq.elim
/-- e.m(..), e the class at C -/
def tCMethS (C : Addr) (sp : Sp) (W : WX) (ta : TE) (t : TA) : TE := fun σ H Q => ta σ H fun x H1 => x = .ref C ∧ t σ H1 fun vs H2 => sp (.ref C :: vs) H2 Q (fun c d H' => W c d σ H')
theorem pe_cmS (he : PE X o ta) (F : KcmS g C m k sp) (hr : Rm k X) (tk : Takes X W) (ha : PA X (e :: es) t)
    (hst : starEach (e :: es) X.env = (false, eval e X.env) :: starEach es X.env := by rfl) (hpl : (backTo pos (starEach es X.env)).any (·.1) = false := by rfl)
    (ht : eval (.Call (.Attribute o m apos) (e :: es) [] pos) X.env = (do
      let ov ← eval o X.env
      standAt apos.atName
      let (f, first) ← holding [ov] (getMethod ov m pl)
      callWith pos f first (backTo pos (starEach (e :: es) X.env)) (backToKw pos (keywordEach [] X.env))) := by rfl) (a : At g X := by exact ⟨rfl, rfl, rfl, rfl, rfl⟩) :
    PE X (.Call (.Attribute o m apos) (e :: es) [] pos) (tCMethS C sp W ta t) := by
  obtain ⟨p, f, mc, r, c, F⟩ := F
  rw [← a.K] at r c
  refine ⟨fun pins s σ H Q I h => ?_⟩
  refine PySem.W.methodCall_KW (pl := pl) (thn (he.run pins s σ H _ I h) fun u s1 ⟨x, H1, I1, rx, ex, q⟩ => ?_) ht
  subst ex
  obtain rfl : u = Value.ref C := rx
  refine getmethcm_ok I1 r c fun s2 I2 => ?_
  refine callwith_cm I2 (base_none I1 (Nat.le_refl _)) c.fi (thn (ha.run pos _ s2 σ H1 _ I2 q) fun us s3 ⟨vs, H2, I3, rv, q2⟩ => ⟨⟨pin_at I3, I3.kIn⟩, ?_⟩) hst hpl
  exact call_cmS a F hr tk I3 rv q2
end
end RS
namespace RS
open PySem PySem.Spec L2 PyProof.Rows ClX
/-- z(), z a local name that holds the class at C -/
def tMakeL (C : Addr) (sp : Sp) (ds : List V) (W : WX) (ta : TE) : TE := fun σ H Q => ta σ H fun v H1 => v = .ref C ∧ tMakeG C sp ds W tNil σ H1 Q
theorem pe_makeL0 {g : Wd} {X : Cx} {k : Nat} {C : Addr} {sp : Sp} {ps : List Str} {ds : List V} {W : WX} {x z : Str} {p pos : Pos} {ta : TE} (he : PE X (.Name z p) ta) (F : Kc g x C k ps ds sp) (hr : Rm (k + 1) X) (tk : Takes X W) (a : At g X := by exact ⟨rfl, rfl, rfl, rfl, rfl⟩) :
    PE X (.Call (.Name z p) [] [] pos) (tMakeL C sp ds W ta) := by
  obtain ⟨hm, f, fd, dsV, M, F, hb, rd⟩ := F
  refine ⟨fun pins s σ H Q I h => wpAny_Call_Name_kw (thn (he.run pins s σ H _ I h) fun u s1 ⟨v, H1, I1, rv, ev, q⟩ => ?_)⟩
  subst ev
  obtain rfl : u = Value.ref C := rv
  refine PySem.W.callWith_K0 I1.kIn (by rw [a.K]; exact M.kp) (makeG a M F hr tk rd I1 (vs := [] ++ ds) rd (fun s' KI => ?_) q)
  have hl := F.len _ _ _ _ (q (s1.heap.objs.size + 1) s1.heap.objs.size (I1.hok.fresh (Nat.le_succ _)) (I1.hok.fresh (Nat.le_refl _)) (Nat.ne_of_lt (Nat.lt_succ_self _)))
  exact hb s' [.ref (s1.heap.objs.size + 1)] KI (by
    rw [← hl]
    show dsV.length + 1 = ds.length + 1
    rw [← rd.length])
end RS
namespace RS
open PySem PySem.Spec L2 PyProof.Rows ClX
/-! x not in o -/
section
variable {g : Wd} {X : Cx} {k : Nat} {C : Addr} {ps : List Str} {sp : Sp} {W : WX} {ds : List V} {a b : Expr} {ta tb : TE}
theorem c_ninOwn (F : Km g C "__contains__" k ps ds sp) (hr : Rm k X) (tk : Takes X W) (ha : PE X a ta) (hb : PE X b tb) (at_ : At g X := by exact ⟨rfl, rfl, rfl, rfl, rfl⟩) : PC X .NotIn a b (tInOwn C sp ds W true ta tb) := by
  obtain ⟨f, fd, dsV, hf, hi, hk, F, hbd, rd⟩ := F
  refine ⟨fun pins s σ H Q I h => ?_⟩
  refine thn (ha.run pins s σ H _ I h) fun iv s1 ⟨y, H1, I1, ry, q1⟩ => thn (hb.run pins s1 σ H1 _ I1 q1) fun u s2 ⟨x, H2, I2, rx, q, dx, fs, ex, ea, hs⟩ => ?_
  subst ex
  cases rx
  obtain ⟨mA, J, _⟩ := ins_get I2.hok ea
  obtain ⟨od, J, _⟩ := J.look
  obtain ⟨m, hF⟩ := I2.fr
  refine PySem.W.notIn_K hF I2.ok.mod.kin J (by rw [at_.K]; exact hf) (by rw [at_.K]; exact hi) ?_
  refine wpAny_mono (callB at_ F hr.here tk hbd rd (vs := [.ref q, y]) (us := [.ref q, iv]) I2 (.cons rfl (.cons ry .nil)) hs) ?_ fun _ _ z => z
  rintro v s' ⟨z, H', I', rz, c, rfl, hq⟩
  cases rz
  refine wpAny_truthy_bool ?_
  refine ⟨.bl (!c), H', I', rfl, ?_⟩
  cases c <;> exact hq
end
end RS


/-! == of two dicts of texts, both answers -/
namespace RS
open PySem PySem.Spec L2 PyProof.Rows
def strV (v : V) : Prop := ∃ t : Str, v = .str t ∧ PyData.strOk t = true
theorem valV_in : ∀ {ls : List (Key × V)} {k : Key} {u : V}, valV ls k = some u → (k, u) ∈ ls
  | [], _, _, e => by cases e
  | (p, v) :: r, k, u, e => by
    rw [vv_cons] at e
    split at e
    · rename_i h
      cases e
      rw [h]; exact List.mem_cons_self ..
    · exact List.mem_cons_of_mem _ (valV_in e)
theorem hits_pg {A : Around} {s : Shared} {ls : List (Key × V)} {vb : List (Key × Value)} (rb : KV ls vb) (hl : ∀ p ∈ ls, strV p.2) (hu : A.in1.units + 64 < cLine) {ks : List (Key × V)} {va : List (Key × Value)} (ra : KV ks va) :
    (∀ p ∈ ks, strV p.2) → ∃ r : Bool, (r = true ↔ ∀ p ∈ ks, valV ls p.1 = some p.2) ∧ PySem.W.KeqHits A.in1 s vb va r := by
  unfold KV at ra
  induction ra with
  | nil => exact fun _ => ⟨true, by simp, .nil⟩
  | @cons p q ps qs h t k =>
    intro hp
    obtain ⟨h1, h2⟩ := h
    obtain ⟨r, ir, hr⟩ := k fun p' hm => hp p' (List.mem_cons_of_mem _ hm)
    obtain ⟨key, v⟩ := q
    have h1' : p.1 = key := h1
    have h2 : RelV p.2 v := h2
    cases e : valV ls p.1 with
    | none =>
      have rr : RelO none (valueAt vb p.1) := by rw [← e]; exact rb.val p.1
      have hn : valueAt vb key = none := by
        rw [← h1']
        cases e2 : valueAt vb p.1 with
        | none => rfl
        | some y => rw [e2] at rr; cases rr
      refine ⟨false, ?_, .miss hn⟩
      simp [e]
    | some u =>
      have rr : RelO (some u) (valueAt vb p.1) := by rw [← e]; exact rb.val p.1
      obtain ⟨y, hy, ry⟩ := rr.some_of
      rw [h1'] at hy
      obtain ⟨a, ea, oa⟩ := hp p List.mem_cons_self
      obtain ⟨b, eb, ob⟩ := hl _ (valV_in e)
      simp only at eb
      rw [ea] at h2
      rw [eb] at ry
      obtain ⟨ta, rfl⟩ := h2
      obtain ⟨tb, rfl⟩ := ry
      have ev := PySem.W.keq_at (A := A) (Reads.str (h := s.heap) a ta) (Reads.str (h := s.heap) b tb) (by simp [SeqAt.shaped, PyData.canLay0, PyData.depth, oa]) (by simp [SeqAt.shaped, PyData.canLay0, PyData.depth, ob]) hu
      refine ⟨PyData.eqv (.str a) (.str b) && r, ?_, .hit hy ev hr⟩
      rw [Bool.and_eq_true, ir]
      have e3 : PyData.eqv (.str a) (.str b) = true ↔ a = b := by simp [PyData.eqv]
      rw [e3]
      constructor
      · rintro ⟨e1, e2⟩ p' hm
        rcases List.mem_cons.mp hm with z | z
        · rw [z, e, ea, eb, e1]
        · exact e2 p' z
      · intro z
        refine ⟨?_, fun p' hm => z p' (List.mem_cons_of_mem _ hm)⟩
        have := z p List.mem_cons_self
        rw [e, ea, eb] at this
        cases this; rfl
section
variable {X : Cx} {k : Nat}
def rEqPg : R2 := fun x y H Q => ∃ a b ks ls, x = .ref a ∧ y = .ref b ∧ H a = some (.dK ks) ∧ H b = some (.dK ls) ∧ (∀ p ∈ ks, strV p.2) ∧ (∀ p ∈ ls, strV p.2) ∧ ∀ c : Bool, (c = true ↔ ks.length = ls.length ∧ ∀ p ∈ ks, valV ls p.1 = some p.2) → Q (.bl c) H
theorem op_eqPg (hr : Rm k X) : OpR X (compareOp .Eq) rEqPg := by
  intro pins s σ H x y v u Q I rx ry h
  obtain ⟨a, b, ks, ls, rfl, rfl, ea, eb, hk, hl, q⟩ := h
  obtain rfl : v = Value.ref a := rx
  obtain rfl : u = Value.ref b := ry
  obtain ⟨_, ya, va, ra, da⟩ := (show ObjOk X.prog X.w H s.heap a (.dK ks) from I.hok a _ ea)
  obtain ⟨_, yb, vb, rb, db⟩ := (show ObjOk X.prog X.w H s.heap b (.dK ls) from I.hok b _ eb)
  have l1 := ra.length
  have l2 := rb.length
  have hun := hr.room.un
  have hu : X.A.units < cLine := by omega
  obtain ⟨r, ir, hh⟩ := hits_pg (A := X.A) (s := s) rb hl (by show X.A.units + 1 + 64 < cLine; omega) ra hk
  refine PySem.W.keq_eq (knd := mixKind X.prog X.w) (r := r) ya yb da db hu (fun _ => hh) (fin_bl I (q (va.length == vb.length && r) ?_) rfl)
  rw [Bool.and_eq_true, beq_iff_eq, ir, ← l1, ← l2]
end
end RS
namespace RS
open PySem PySem.Spec L2 PyProof.Rows ClX
/-- C.m(), a classmethod with a star -/
theorem pe_cmS0 {g : Wd} {X : Cx} {k : Nat} {C : Addr} {sp : Sp} {W : WX} {m : Str} {o : Expr} {pos apos : Pos} {ta : TE} {pl : Sem Bool} (he : PE X o ta) (F : KcmS g C m k sp) (hr : Rm k X) (tk : Takes X W)
    (ht : eval (.Call (.Attribute o m apos) [] [] pos) X.env = (do
      let ov ← eval o X.env
      standAt apos.atName
      let (f, first) ← holding [ov] (getMethod ov m pl)
      callWith pos f first (backTo pos (starEach [] X.env)) (backToKw pos (keywordEach [] X.env))) := by rfl) (a : At g X := by exact ⟨rfl, rfl, rfl, rfl, rfl⟩) :
    PE X (.Call (.Attribute o m apos) [] [] pos) (tCMethS C sp W ta tNil) := by
  obtain ⟨p, f, mc, r, c, F⟩ := F
  rw [← a.K] at r c
  refine ⟨fun pins s σ H Q I h => ?_⟩
  refine PySem.W.methodCall_KW (pl := pl) (thn (he.run pins s σ H _ I h) fun u s1 ⟨x, H1, I1, rx, ex, q⟩ => ?_) ht
  subst ex
  obtain rfl : u = Value.ref C := rx
  refine getmethcm_ok I1 r c fun s2 I2 => ?_
  refine PySem.W.callWith_M0 (K := X.K) (first := []) ⟨pin_at I2, I2.kIn⟩ c.fi ?_
  exact call_cmS a F hr tk I2 .nil q
end RS


/-! == of two lists, one of them empty -/
namespace RS
open PySem PySem.Spec L2 PyProof.Rows
section
variable {X : Cx} {k : Nat}
def rEqE (K : PySem.W.Frag) : R2 := fun x y H Q => ∃ a b xs ys, x = .ref a ∧ y = .ref b ∧ SqL K H a xs ∧ SqL K H b ys ∧ (xs = [] ∨ ys = []) ∧ Q (.bl (decide (xs.length = ys.length))) H
theorem op_eqE {K : PySem.W.Frag} (hr : Rm k X) (hK : X.K = K := by rfl) : OpR X (compareOp .Eq) (rEqE K) := by
  subst hK
  intro pins s σ H x y v u Q I rx ry h
  obtain ⟨a, b, xs, ys, rfl, rfl, ha, hb, he, q⟩ := h
  cases rx
  cases ry
  obtain ⟨its, r1, ⟨o1, n1, ho1, hc1, hdd1, hd1⟩, _⟩ := I.list ha
  obtain ⟨its2, r2, ⟨o2, n2, ho2, hc2, hdd2, hd2⟩, _⟩ := I.list hb
  have l1 := r1.length
  have l2 := r2.length
  have hu : X.A.units < cLine := by have := hr.room.un; omega
  by_cases hl : xs.length = ys.length
  · have z : its.toArray.size = its2.toArray.size := by simp; omega
    have zz : its.length = 0 := by
      rcases he with e | e
      · rw [← l1, e]; rfl
      · rw [← l1, hl, e]; rfl
    have := SeqAt.RcAt.lists (A := X.A) (s := s) (l := a) (b := b) (e := fun _ => true) ⟨o1, ho1, hc1, n1, hd1⟩ ⟨o2, ho2, hc2, n2, hd2⟩ z hu (fun j h1 _ => by simp [zz] at h1)
    refine this X.prog X.w X.xe _ ⟨.bl (decide (xs.length = ys.length)), H, I, ?_, q⟩
    simp [hl, zz]; exact rfl
  · have z : (its.toArray.size != its2.toArray.size) = true := by simp; omega
    have := SeqAt.RcAt.lists_lengths (A := X.A) (s := s) (l := a) (b := b) ⟨o1, ho1, hc1, n1, hd1⟩ ⟨o2, ho2, hc2, n2, hd2⟩ z hu
    refine this X.prog X.w X.xe _ ⟨.bl (decide (xs.length = ys.length)), H, I, ?_, q⟩
    simp [hl]; exact rfl
end
end RS


namespace K05
open PySem PySem.Spec L2 RS
/-- the texts of values -/
def num (n : Nat) : Str := Str.ofString (toString (n : Int))
mutual
def spell : PyData → Str
  | .none => "n"
  | .bool b => if b then "t" else "f"
  | .int i => ("i" : Str) ++ Str.ofString (toString i) ++ ";"
  | .str x => ("s" : Str) ++ num x.length ++ ":" ++ x
  | .list ds => ("l" : Str) ++ num ds.length ++ ":" ++ spells ds
  | .tuple ds => ("u" : Str) ++ num ds.length ++ ":" ++ spells ds
  | .dict D => ("d" : Str) ++ num D.length ++ ":" ++ spellKv D
def spells : List PyData → Str
  | [] => Str.empty
  | d :: ds => spell d ++ spells ds
def spellKv : List (PyData × PyData) → Str
  | [] => Str.empty
  | (k, d) :: r => spell k ++ spell d ++ spellKv r
end
def cat : List Str → Str
  | [] => Str.empty
  | x :: xs => x ++ cat xs
theorem join1 : ∀ xs : List Str, Str.join (Str.ofString "") xs = cat xs
  | [] => rfl
  | [x] => by show x = x ++ Str.empty; rw [Str.append_empty]
  | x :: y :: r => by
    have e : Str.join (Str.ofString "") (x :: y :: r) = x ++ Str.ofString "" ++ Str.join (Str.ofString "") (y :: r) := rfl
    have e0 : Str.ofString "" = Str.empty := by decide +kernel
    rw [e, join1 (y :: r), e0, Str.append_empty]
    rfl
theorem join0 (xs : List Str) : Txt.join (Str.ofString "") xs = cat xs := by
  exact (StrLaws.glued_eq_join _ _).trans (join1 xs)
theorem cat_len : ∀ xs : List Str, (cat xs).length = (xs.map (·.length)).sum
  | [] => rfl
  | x :: xs => by simp [cat, Str.length_append, cat_len xs]
theorem cat_map_spell : ∀ ds : List PyData, cat (ds.map spell) = spells ds
  | [] => by simp [cat, spells]
  | d :: ds => by simp [cat, spells, cat_map_spell ds]
theorem cat_map_kv : ∀ D : List (PyData × PyData), cat (D.map fun p => spell p.1 ++ spell p.2) = spellKv D
  | [] => by simp [cat, spellKv]
  | (k, d) :: r => by simp [cat, spellKv, cat_map_kv r]
theorem spells_get : ∀ {ds : List PyData} {i : Nat} {d : PyData}, ds[i]? = some d → (spell d).length ≤ (spells ds).length
  | x :: xs, 0, d, e => by cases e; simp only [spells, Str.length_append]; omega
  | x :: xs, i + 1, d, e => by
    have := spells_get (ds := xs) (by simpa using e)
    simp only [spells, Str.length_append]; omega
  | [], _, _, e => by simp at e
theorem spellKv_get : ∀ {D : List (PyData × PyData)} {i : Nat} {k d : PyData}, D[i]? = some (k, d) → (spell k).length + (spell d).length ≤ (spellKv D).length
  | (x, y) :: xs, 0, k, d, e => by cases e; simp only [spellKv, Str.length_append]; omega
  | (x, y) :: xs, i + 1, k, d, e => by
    have := spellKv_get (D := xs) (by simpa using e)
    simp only [spellKv, Str.length_append]; omega
  | [], _, _, _, e => by simp at e
theorem num_log {n : Nat} (h : n ≤ 10000) : ((n : Nat) : Int).natAbs.log2 < 1920 := by
  rw [Int.natAbs_natCast]
  by_cases z : n = 0
  · rw [z]; decide
  · exact (Nat.log2_lt z).mpr (Nat.lt_of_le_of_lt h (by decide +kernel))


/-- signs of ASCII alone -/
def asc (x : Str) : Bool := x.cps.toList.all (· < 128)
theorem asc_app {x y : Str} (h1 : asc x = true) (h2 : asc y = true) : asc (x ++ y) = true := by
  unfold asc at *
  simp only [Str.cps_append, Array.toList_append, List.all_append, h1, h2, Bool.and_self]
/-! the values that the law draws, and what is put together of them -/
def keyB : PyData → Bool
  | .str x => decide (x.length ≤ 4) && asc x
  | _ => false
mutual
def smB : PyData → Bool
  | .none => true
  | .bool _ => true
  | .int i => decide (i.natAbs < 10 ^ 100)
  | .str x => decide (x.length ≤ 8) && asc x
  | .list ds => decide (ds.length ≤ 3) && smAll ds
  | .tuple ds => decide (ds.length ≤ 3) && smAll ds
  | .dict D => decide (D.length ≤ 3) && smKv D
def smAll : List PyData → Bool
  | [] => true
  | d :: ds => smB d && smAll ds
def smKv : List (PyData × PyData) → Bool
  | [] => true
  | (k, d) :: r => keyB k && smB d && smKv r
end
/-! ### lengths of texts -/
def W : Nat → Nat
  | 0 => 130
  | n + 1 => 30 + 4 * (W n + 30)
theorem W_lo : ∀ n, 130 ≤ W n
  | 0 => Nat.le_refl _
  | n + 1 => by have := W_lo n; simp only [W]; omega
theorem num_len {n : Nat} (h : n ≤ 10000) : (num n).length ≤ 5 := by
  unfold num
  rw [ofString_length]
  exact (Nat.length_repr_le_iff (n := n) (by decide)).mpr (by omega)
theorem key_spell {k : PyData} (h : keyB k = true) : (spell k).length ≤ 20 := by
  cases k with
  | str x =>
    simp only [keyB, Bool.and_eq_true, decide_eq_true_eq] at h
    simp only [spell, Str.length_append]
    have := num_len (n := x.length) (by omega)
    have e1 : ((("s" : Str)).length) = 1 := by decide +kernel
    have e2 : (((":" : Str)).length) = 1 := by decide +kernel
    omega
  | _ => cases h
theorem one_len (c : String) (h : (Str.ofString c).length = 1 := by decide +kernel) : (Str.ofString c).length = 1 := h
mutual
theorem spell_le : ∀ (d : PyData) (n : Nat), smB d = true → d.depth ≤ n → (spell d).length ≤ W n
  | .none, n, _, _ => by
    have := W_lo n
    have e : (spell .none).length = 1 := by decide +kernel
    omega
  | .bool b, n, _, _ => by
    have := W_lo n
    have e : (spell (.bool b)).length = 1 := by cases b <;> decide +kernel
    omega
  | .int i, n, h, _ => by
    have := W_lo n
    simp only [smB, decide_eq_true_eq] at h
    have hl := int_text_length_le10 (a := i) (k := 100) (by decide) h
    simp only [spell, Str.length_append, ofString_length]
    have e1 : ("i" : String).length = 1 := rfl
    have e2 : (";" : String).length = 1 := rfl
    omega
  | .str x, n, h, _ => by
    have := W_lo n
    simp only [smB, Bool.and_eq_true, decide_eq_true_eq] at h
    have hl := num_len (n := x.length) (by omega)
    simp only [spell, Str.length_append, ofString_length]
    have e1 : ("s" : String).length = 1 := rfl
    have e2 : (":" : String).length = 1 := rfl
    omega
  | .list ds, 0, _, hd => by simp only [PyData.depth] at hd; omega
  | .list ds, n + 1, h, hd => by
    simp only [smB, Bool.and_eq_true, decide_eq_true_eq] at h
    have hl := num_len (n := ds.length) (by omega)
    have hs := spells_le ds n h.2 (by simp only [PyData.depth] at hd; omega)
    have := W_lo n
    simp only [spell, Str.length_append, ofString_length, W]
    have e1 : ("l" : String).length = 1 := rfl
    have e2 : (":" : String).length = 1 := rfl
    have : ds.length * W n ≤ 3 * W n := Nat.mul_le_mul_right _ h.1
    omega
  | .tuple ds, 0, _, hd => by simp only [PyData.depth] at hd; omega
  | .tuple ds, n + 1, h, hd => by
    simp only [smB, Bool.and_eq_true, decide_eq_true_eq] at h
    have hl := num_len (n := ds.length) (by omega)
    have hs := spells_le ds n h.2 (by simp only [PyData.depth] at hd; omega)
    have := W_lo n
    simp only [spell, Str.length_append, ofString_length, W]
    have e1 : ("u" : String).length = 1 := rfl
    have e2 : (":" : String).length = 1 := rfl
    have : ds.length * W n ≤ 3 * W n := Nat.mul_le_mul_right _ h.1
    omega
  | .dict D, 0, _, hd => by simp only [PyData.depth] at hd; omega
  | .dict D, n + 1, h, hd => by
    simp only [smB, Bool.and_eq_true, decide_eq_true_eq] at h
    have hl := num_len (n := D.length) (by omega)
    have hs := spellKv_le D n h.2 (by simp only [PyData.depth] at hd; omega)
    simp only [spell, Str.length_append, ofString_length, W]
    have e1 : ("d" : String).length = 1 := rfl
    have e2 : (":" : String).length = 1 := rfl
    have : D.length * (W n + 20) ≤ 3 * (W n + 20) := Nat.mul_le_mul_right _ h.1
    omega
theorem spells_le : ∀ (ds : List PyData) (n : Nat), smAll ds = true → PyData.depthAll ds ≤ n → (spells ds).length ≤ ds.length * W n
  | [], n, _, _ => by simp [spells]; rfl
  | d :: ds, n, h, hd => by
    simp only [smAll, Bool.and_eq_true] at h
    simp only [PyData.depthAll] at hd
    have h1 := spell_le d n h.1 (by omega)
    have h2 := spells_le ds n h.2 (by omega)
    simp only [spells, Str.length_append, List.length_cons, Nat.add_mul]
    omega
theorem spellKv_le : ∀ (D : List (PyData × PyData)) (n : Nat), smKv D = true → PyData.depthKv D ≤ n → (spellKv D).length ≤ D.length * (W n + 20)
  | [], n, _, _ => by simp [spellKv]; rfl
  | (k, d) :: r, n, h, hd => by
    simp only [smKv, Bool.and_eq_true] at h
    simp only [PyData.depthKv] at hd
    have h0 := key_spell h.1.1
    have h1 := spell_le d n h.1.2 (by omega)
    have h2 := spellKv_le r n h.2 (by omega)
    simp only [spellKv, Str.length_append, List.length_cons, Nat.add_mul]
    omega
end
/-! ### lengths of what repr shows, and what shaking does -/
def gkeyB : PyData → Bool
  | .str x => decide (x.length ≤ 6) && asc x
  | _ => false
mutual
/-- a little wider: shaken values too -/
def gB : PyData → Bool
  | .none => true
  | .bool _ => true
  | .int i => decide (i.natAbs < 10 ^ 100)
  | .str x => decide (x.length ≤ 8) && asc x
  | .list ds => decide (ds.length ≤ 4) && gAll ds
  | .tuple ds => decide (ds.length ≤ 4) && gAll ds
  | .dict D => decide (D.length ≤ 4) && gKv D
def gAll : List PyData → Bool
  | [] => true
  | d :: ds => gB d && gAll ds
def gKv : List (PyData × PyData) → Bool
  | [] => true
  | (k, d) :: r => gkeyB k && gB d && gKv r
end
mutual
/-- the value with all its lists and dicts changed -/
def shk : PyData → PyData
  | .list ds => .list (shkAll ds ++ [.str "shaken"])
  | .tuple ds => .tuple (shkAll ds)
  | .dict D => .dict (shkKv D ++ [(.str "shaken", .int 1)])
  | .none => .none
  | .bool b => .bool b
  | .int i => .int i
  | .str x => .str x
def shkAll : List PyData → List PyData
  | [] => []
  | d :: ds => shk d :: shkAll ds
def shkKv : List (PyData × PyData) → List (PyData × PyData)
  | [] => []
  | (k, d) :: r => (k, shk d) :: shkKv r
end
mutual
/-- has it lists or dicts -/
def hm : PyData → Bool
  | .list _ => true
  | .dict _ => true
  | .tuple ds => hmAll ds
  | _ => false
def hmAll : List PyData → Bool
  | [] => false
  | d :: ds => hm d || hmAll ds
end
theorem shkAll_len : ∀ ds : List PyData, (shkAll ds).length = ds.length
  | [] => rfl
  | d :: ds => by simp [shkAll, shkAll_len ds]
theorem shkKv_len : ∀ ds : List (PyData × PyData), (shkKv ds).length = ds.length
  | [] => rfl
  | (k, d) :: ds => by simp [shkKv, shkKv_len ds]
theorem gAll_app : ∀ {a b : List PyData}, gAll a = true → gAll b = true → gAll (a ++ b) = true
  | [], _, _, h => h
  | x :: a, b, h1, h2 => by
    simp only [gAll, Bool.and_eq_true] at h1
    simp only [List.cons_append, gAll, Bool.and_eq_true]
    exact ⟨h1.1, gAll_app h1.2 h2⟩
theorem gKv_app : ∀ {a b : List (PyData × PyData)}, gKv a = true → gKv b = true → gKv (a ++ b) = true
  | [], _, _, h => h
  | (k, x) :: a, b, h1, h2 => by
    simp only [gKv, Bool.and_eq_true] at h1
    simp only [List.cons_append, gKv, Bool.and_eq_true]
    exact ⟨h1.1, gKv_app h1.2 h2⟩
mutual
theorem g_of : ∀ d : PyData, smB d = true → gB d = true ∧ gB (shk d) = true
  | .none, _ => ⟨rfl, rfl⟩
  | .bool _, _ => ⟨rfl, rfl⟩
  | .int i, h => by simp only [smB] at h; simp only [shk, gB]; exact ⟨h, h⟩
  | .str x, h => by simp only [smB] at h; simp only [shk, gB]; exact ⟨h, h⟩
  | .list ds, h => by
    simp only [smB, Bool.and_eq_true, decide_eq_true_eq] at h
    obtain ⟨h1, h2⟩ := gAll_of ds h.2
    simp only [gB, shk, Bool.and_eq_true, decide_eq_true_eq, List.length_append, shkAll_len]
    exact ⟨⟨by omega, h1⟩, by simp; omega, gAll_app h2 (by decide +kernel)⟩
  | .tuple ds, h => by
    simp only [smB, Bool.and_eq_true, decide_eq_true_eq] at h
    obtain ⟨h1, h2⟩ := gAll_of ds h.2
    simp only [gB, shk, Bool.and_eq_true, decide_eq_true_eq, shkAll_len]
    exact ⟨⟨by omega, h1⟩, by omega, h2⟩
  | .dict D, h => by
    simp only [smB, Bool.and_eq_true, decide_eq_true_eq] at h
    obtain ⟨h1, h2⟩ := gKv_of D h.2
    simp only [gB, shk, Bool.and_eq_true, decide_eq_true_eq, List.length_append, shkKv_len]
    exact ⟨⟨by omega, h1⟩, by simp; omega, gKv_app h2 (by decide +kernel)⟩
theorem gAll_of : ∀ ds : List PyData, smAll ds = true → gAll ds = true ∧ gAll (shkAll ds) = true
  | [], _ => ⟨rfl, rfl⟩
  | d :: ds, h => by
    simp only [smAll, Bool.and_eq_true] at h
    have h1 := g_of d h.1
    have h2 := gAll_of ds h.2
    simp only [gAll, shkAll, Bool.and_eq_true]
    exact ⟨⟨h1.1, h2.1⟩, h1.2, h2.2⟩
theorem gKv_of : ∀ D : List (PyData × PyData), smKv D = true → gKv D = true ∧ gKv (shkKv D) = true
  | [], _ => ⟨rfl, rfl⟩
  | (k, d) :: r, h => by
    simp only [smKv, Bool.and_eq_true] at h
    have h1 := g_of d h.1.2
    have h2 := gKv_of r h.2
    have h0 : gkeyB k = true := by
      cases k with
      | str x =>
        have := h.1.1
        simp only [keyB, Bool.and_eq_true, decide_eq_true_eq] at this
        simp only [gkeyB, Bool.and_eq_true, decide_eq_true_eq]
        exact ⟨by omega, this.2⟩
      | _ => cases h.1.1
    simp only [gKv, shkKv, Bool.and_eq_true]
    exact ⟨⟨⟨h0, h1.1⟩, h2.1⟩, ⟨h0, h1.2⟩, h2.2⟩
end
mutual
theorem shk_depth : ∀ d : PyData, (shk d).depth = d.depth
  | .none => rfl
  | .bool _ => rfl
  | .int _ => rfl
  | .str _ => rfl
  | .list ds => by
    simp only [shk, PyData.depth]
    have : ∀ (a : List PyData), PyData.depthAll (a ++ [.str "shaken"]) = PyData.depthAll a := fun a => by
      induction a with
      | nil => rfl
      | cons x a ih => simp only [List.cons_append, PyData.depthAll, ih]
    rw [this, shkAll_depth]
  | .tuple ds => by simp only [shk, PyData.depth, shkAll_depth]
  | .dict D => by
    simp only [shk, PyData.depth]
    have : ∀ (a : List (PyData × PyData)), PyData.depthKv (a ++ [(.str "shaken", .int 1)]) = PyData.depthKv a := fun a => by
      induction a with
      | nil => rfl
      | cons x a ih => obtain ⟨x1, x2⟩ := x; simp only [List.cons_append, PyData.depthKv, ih]
    rw [this, shkKv_depth]
theorem shkAll_depth : ∀ ds : List PyData, PyData.depthAll (shkAll ds) = PyData.depthAll ds
  | [] => rfl
  | d :: ds => by simp only [shkAll, PyData.depthAll, shk_depth d, shkAll_depth ds]
theorem shkKv_depth : ∀ D : List (PyData × PyData), PyData.depthKv (shkKv D) = PyData.depthKv D
  | [] => rfl
  | (k, d) :: r => by simp only [shkKv, PyData.depthKv, shk_depth d, shkKv_depth r]
end


theorem rep_len {x : Str} {n : Nat} (h : asc x = true) (hn : x.length ≤ n) : (reprText x).length ≤ 10 * n + 2 := by
  have := StrLaws.reprText_len x fun c hc => by
    have := List.all_eq_true.mp h c hc
    have : c < 128 := by simpa using this
    omega
  omega
def SH : Nat → Nat
  | 0 => 105
  | n + 1 => 10 + 4 * (SH n + 80)
theorem SH_lo : ∀ n, 105 ≤ SH n
  | 0 => Nat.le_refl _
  | n + 1 => by have := SH_lo n; simp only [SH]; omega
theorem ol (c : String) : (Str.ofString c).length = c.length := ofString_length c
mutual
theorem shown_le : ∀ (d : PyData) (n : Nat), gB d = true → d.depth ≤ n → d.shown.length ≤ SH n
  | .none, n, _, _ => by
    have := SH_lo n
    have e : (PyData.none).shown.length = 4 := by decide +kernel
    omega
  | .bool b, n, _, _ => by
    have := SH_lo n
    have e : (PyData.bool b).shown.length ≤ 5 := by cases b <;> decide +kernel
    omega
  | .int i, n, h, _ => by
    have := SH_lo n
    simp only [gB, decide_eq_true_eq] at h
    have hl := int_text_length_le10 (a := i) (k := 100) (by decide) h
    rw [PyData.shown_int, ofString_length]
    omega
  | .str x, n, h, _ => by
    have := SH_lo n
    simp only [gB, Bool.and_eq_true, decide_eq_true_eq] at h
    rw [PyData.shown_str]
    have := rep_len h.2 h.1
    omega
  | .list ds, 0, _, hd => by simp only [PyData.depth] at hd; omega
  | .list ds, n + 1, h, hd => by
    simp only [gB, Bool.and_eq_true, decide_eq_true_eq] at h
    have hs := shownAll_le ds n h.2 (by simp only [PyData.depth] at hd; omega)
    have hj := join_len_le 4 (SH n) (PyData.shownAll ds) (by rw [PyData.shownAll_length]; exact h.1) hs
    rw [PyData.shown_list, Str.length_append, Str.length_append]
    have e1 : ((("[" : String) : Str)).length = 1 := by decide +kernel
    have e2 : ((("]" : String) : Str)).length = 1 := by decide +kernel
    simp only [SH]; omega
  | .tuple ds, 0, _, hd => by simp only [PyData.depth] at hd; omega
  | .tuple ds, n + 1, h, hd => by
    simp only [gB, Bool.and_eq_true, decide_eq_true_eq] at h
    have hs := shownAll_le ds n h.2 (by simp only [PyData.depth] at hd; omega)
    have hj := join_len_le 4 (SH n) (PyData.shownAll ds) (by rw [PyData.shownAll_length]; exact h.1) hs
    rw [PyData.shown_tuple, Str.length_append, Str.length_append]
    have e1 : ((("(" : String) : Str)).length = 1 := by decide +kernel
    have e2 : (Str.ofString (if ds.length == 1 then ",)" else ")" : String)).length ≤ 2 := by split <;> decide +kernel
    simp only [SH]; omega
  | .dict D, 0, _, hd => by simp only [PyData.depth] at hd; omega
  | .dict D, n + 1, h, hd => by
    simp only [gB, Bool.and_eq_true, decide_eq_true_eq] at h
    have hs := shownKv_le D n h.2 (by simp only [PyData.depth] at hd; omega)
    have hj := join_len_le 4 (SH n + 70) (PyData.shownKv D) (by rw [PyData.shownKv_length]; exact h.1) hs
    rw [PyData.shown_dict, Str.length_append, Str.length_append]
    have e1 : ((("{" : String) : Str)).length = 1 := by decide +kernel
    have e2 : ((("}" : String) : Str)).length = 1 := by decide +kernel
    simp only [SH]; omega
theorem shownAll_le : ∀ (ds : List PyData) (n : Nat), gAll ds = true → PyData.depthAll ds ≤ n → ∀ t ∈ PyData.shownAll ds, t.length ≤ SH n
  | [], n, _, _ => by simp [PyData.shownAll]
  | d :: ds, n, h, hd => by
    simp only [gAll, Bool.and_eq_true] at h
    simp only [PyData.depthAll] at hd
    have h1 := shown_le d n h.1 (by omega)
    have h2 := shownAll_le ds n h.2 (by omega)
    intro t ht
    rw [PyData.shownAll_cons] at ht
    rcases List.mem_cons.mp ht with e | e
    · rw [e]; exact h1
    · exact h2 t e
theorem shownKv_le : ∀ (D : List (PyData × PyData)) (n : Nat), gKv D = true → PyData.depthKv D ≤ n → ∀ t ∈ PyData.shownKv D, t.length ≤ SH n + 70
  | [], n, _, _ => by simp [PyData.shownKv]
  | (k, d) :: r, n, h, hd => by
    simp only [gKv, Bool.and_eq_true] at h
    simp only [PyData.depthKv] at hd
    have h1 := shown_le d n h.1.2 (by omega)
    have h2 := shownKv_le r n h.2 (by omega)
    have h0 : k.shown.length ≤ 62 := by
      cases k with
      | str x =>
        have := h.1.1
        simp only [gkeyB, Bool.and_eq_true, decide_eq_true_eq] at this
        rw [PyData.shown_str]
        exact rep_len this.2 this.1
      | _ => cases h.1.1
    intro t ht
    rw [PyData.shownKv_cons] at ht
    rcases List.mem_cons.mp ht with e | e
    · rw [e, Str.length_append, Str.length_append]
      have e1 : (((": " : String) : Str)).length = 2 := by decide +kernel
      omega
    · exact h2 t e
end
mutual
theorem showable_g : ∀ d : PyData, gB d = true → d.showable = true
  | .none, _ => rfl
  | .bool _, _ => rfl
  | .int i, h => by
    simp only [gB, decide_eq_true_eq] at h
    simp only [PyData.showable, decide_eq_true_eq]
    have h2 : i.natAbs < 2 ^ 1920 := Nat.lt_of_lt_of_le h (by decide +kernel)
    by_cases z : i.natAbs = 0
    · rw [z]; decide
    · exact (Nat.log2_lt z).mpr h2
  | .str _, _ => by simp only [PyData.showable]
  | .list ds, h => by simp only [gB, Bool.and_eq_true] at h; simp only [PyData.showable]; exact showableAll_g ds h.2
  | .tuple ds, h => by simp only [gB, Bool.and_eq_true] at h; simp only [PyData.showable]; exact showableAll_g ds h.2
  | .dict D, h => by simp only [gB, Bool.and_eq_true] at h; simp only [PyData.showable]; exact showableKv_g D h.2
theorem showableAll_g : ∀ ds : List PyData, gAll ds = true → PyData.showableAll ds = true
  | [], _ => by simp only [PyData.showableAll]
  | d :: ds, h => by simp only [gAll, Bool.and_eq_true] at h; simp only [PyData.showableAll, Bool.and_eq_true]; exact ⟨showable_g d h.1, showableAll_g ds h.2⟩
theorem showableKv_g : ∀ D : List (PyData × PyData), gKv D = true → PyData.showableKv D = true
  | [], _ => by simp only [PyData.showableKv]
  | (k, d) :: r, h => by
    simp only [gKv, Bool.and_eq_true] at h
    simp only [PyData.showableKv, Bool.and_eq_true]
    refine ⟨⟨?_, showable_g d h.1.2⟩, showableKv_g r h.2⟩
    cases k with
    | str x => simp only [PyData.showable]
    | _ => cases h.1.1
end
/-! ### shaking shows -/
theorem jl_eq (ts : List Str) : (Str.join ", " ts).length = piled ts - 2 := by
  by_cases e : ts = []
  · subst e; rfl
  · have := join_length_add ts e; omega
theorem piled_cons (t : Str) (ts : List Str) : piled (t :: ts) = t.length + 2 + piled ts := by simp [piled]
theorem piled_app (a : List Str) (t : Str) : piled (a ++ [t]) = piled a + (t.length + 2) := by simp [piled]
theorem shownAll_app : ∀ (a b : List PyData), PyData.shownAll (a ++ b) = PyData.shownAll a ++ PyData.shownAll b
  | [], b => by simp [PyData.shownAll]
  | x :: a, b => by simp [PyData.shownAll, shownAll_app a b]
theorem shownKv_app : ∀ (a b : List (PyData × PyData)), PyData.shownKv (a ++ b) = PyData.shownKv a ++ PyData.shownKv b
  | [], b => by simp [PyData.shownKv]
  | (x, y) :: a, b => by simp [PyData.shownKv, shownKv_app a b]
mutual
theorem grow : ∀ d : PyData, d.shown.length ≤ (shk d).shown.length ∧ (hm d = true → d.shown.length < (shk d).shown.length)
  | .none => ⟨Nat.le_refl _, nofun⟩
  | .bool _ => ⟨Nat.le_refl _, nofun⟩
  | .int _ => ⟨Nat.le_refl _, nofun⟩
  | .str _ => ⟨Nat.le_refl _, nofun⟩
  | .list ds => by
    have h := growAll ds
    have e1 : (PyData.list ds).shown.length = 2 + (piled (PyData.shownAll ds) - 2) := by
      rw [PyData.shown_list, Str.length_append, Str.length_append, jl_eq]
      have a1 : ((("[" : String) : Str)).length = 1 := by decide +kernel
      have a2 : ((("]" : String) : Str)).length = 1 := by decide +kernel
      omega
    have e2 : (shk (PyData.list ds)).shown.length = 2 + (piled (PyData.shownAll (shkAll ds)) + 10 - 2) := by
      simp only [shk]
      rw [PyData.shown_list, Str.length_append, Str.length_append, jl_eq, shownAll_app]
      have a1 : ((("[" : String) : Str)).length = 1 := by decide +kernel
      have a2 : ((("]" : String) : Str)).length = 1 := by decide +kernel
      have a3 : PyData.shownAll [.str "shaken"] = [reprText "shaken"] := by simp [PyData.shownAll, PyData.shown]
      have a4 : (reprText ("shaken" : Str)).length = 8 := by decide +kernel
      rw [a3, piled_app, a4]
      omega
    omega
  | .tuple ds => by
    have h := growAll ds
    have e : ∀ xs : List PyData, xs.length = ds.length → (PyData.tuple xs).shown.length = 1 + (piled (PyData.shownAll xs) - 2) + (Str.ofString (if ds.length == 1 then ",)" else ")" : String)).length := fun xs hx => by
      rw [PyData.shown_tuple, Str.length_append, Str.length_append, jl_eq, hx]
      have a1 : ((("(" : String) : Str)).length = 1 := by decide +kernel
      omega
    simp only [shk]
    rw [e ds rfl, e (shkAll ds) (shkAll_len ds)]
    refine ⟨by omega, fun hh => ?_⟩
    have h2 := h.2 hh
    have h3 : 2 ≤ piled (PyData.shownAll ds) := by
      cases ds with
      | nil => cases hh
      | cons d ds => rw [PyData.shownAll_cons, piled_cons]; omega
    omega
  | .dict D => by
    have h := growKv D
    have e1 : (PyData.dict D).shown.length = 2 + (piled (PyData.shownKv D) - 2) := by
      rw [PyData.shown_dict, Str.length_append, Str.length_append, jl_eq]
      have a1 : ((("{" : String) : Str)).length = 1 := by decide +kernel
      have a2 : ((("}" : String) : Str)).length = 1 := by decide +kernel
      omega
    have e2 : (shk (PyData.dict D)).shown.length = 2 + (piled (PyData.shownKv (shkKv D)) + 13 - 2) := by
      simp only [shk]
      rw [PyData.shown_dict, Str.length_append, Str.length_append, jl_eq, shownKv_app]
      have a1 : ((("{" : String) : Str)).length = 1 := by decide +kernel
      have a2 : ((("}" : String) : Str)).length = 1 := by decide +kernel
      have a3 : PyData.shownKv [(.str "shaken", .int 1)] = [reprText "shaken" ++ ": " ++ "1"] := by
        rw [PyData.shownKv_cons, PyData.shownKv_nil, PyData.shown_str, PyData.shown_int]; rfl
      have a4 : (reprText ("shaken" : Str) ++ ": " ++ "1").length = 11 := by decide +kernel
      rw [a3, piled_app, a4]
      omega
    omega
theorem growAll : ∀ ds : List PyData, piled (PyData.shownAll ds) ≤ piled (PyData.shownAll (shkAll ds)) ∧ (hmAll ds = true → piled (PyData.shownAll ds) < piled (PyData.shownAll (shkAll ds)))
  | [] => ⟨Nat.le_refl _, nofun⟩
  | d :: ds => by
    have h1 := grow d
    have h2 := growAll ds
    simp only [shkAll, PyData.shownAll_cons, piled_cons, hmAll, Bool.or_eq_true]
    refine ⟨by omega, fun h => ?_⟩
    rcases h with h | h
    · have := h1.2 h; omega
    · have := h2.2 h; omega
theorem growKv : ∀ D : List (PyData × PyData), piled (PyData.shownKv D) ≤ piled (PyData.shownKv (shkKv D))
  | [] => Nat.le_refl _
  | (k, d) :: r => by
    have h1 := grow d
    have h2 := growKv r
    simp only [shkKv, PyData.shownKv_cons, piled_cons, Str.length_append]
    omega
end
mutual
theorem still : ∀ d : PyData, hm d = false → shk d = d
  | .none, _ => rfl
  | .bool _, _ => rfl
  | .int _, _ => rfl
  | .str _, _ => rfl
  | .list _, h => by simp [hm] at h
  | .dict _, h => by simp [hm] at h
  | .tuple ds, h => by simp only [hm] at h; simp only [shk, stillAll ds h]
theorem stillAll : ∀ ds : List PyData, hmAll ds = false → shkAll ds = ds
  | [], _ => rfl
  | d :: ds, h => by
    simp only [hmAll, Bool.or_eq_false_iff] at h
    simp only [shkAll, still d h.1, stillAll ds h.2]
end
theorem shown_ne {d : PyData} : ((shk d).shown = d.shown) ↔ hm d = false := by
  constructor
  · intro e
    cases h : hm d with
    | false => rfl
    | true => have := (grow d).2 h; rw [e] at this; omega
  · intro h; rw [still d h]


local macro_rules | `(tactic| walk_at "sx") => `(tactic| simp only [tRet, tRetN, tSeq, C8.tCut, tNext, tAsg, gName, gNil, gCons, gTup, gFld, tIfS, tIf, tAndV, tOrV, tNotV, tAnd, tOr, tNot, tB, tTest, tOp, tUn, tCB, tCons, tNil, tVar, tC, tChain, tDrop, RS.tCallG, RS.tMethG, tMakeG, RS.tCallK, RS.tMakeK, tEqOwn, rI, rI0, rU, add_ii, add_ss, add_rr, mul_ii, mul_si, mul_ri, RS.eq_ii, RS.eq_ss, eq_bb, eq_nn, eq_sn, eq_ns, eq_in, eq_ni, eq_bn, eq_nb, eq_is, eq_si, eq_rr, ne_ii, ne_ss, ne_bb, ne_nn, ne_sn, ne_ns, ne_in, ne_ni, ne_is, ne_si, ne_rr, in_ss, in_r, nin_ss, nin_r, len_s, len_r, RS.ix_s, RS.ix_r, sl_s, sl_r, is_eq, tyN_n, tyN_b, tyN_i, tyN_s, tru_b, tru_i, tru_n, tSl, tPart, tNoPart, tPar, tPar3, tFmtZ, tFmt, tJs, tDGet, sDPut, sFld, tFld, tTup, tLst, tNever, isB,
  L2.start, List.map_cons, List.map_nil, List.length_cons, List.length_nil, Nat.reduceAdd, Nat.reduceSub, Nat.sub_self, List.replicate_zero, List.replicate_succ, List.append_nil, List.cons_append, List.nil_append, List.getElem?_cons_zero, List.getElem?_cons_succ, List.set_cons_zero, List.set_cons_succ, Option.some.injEq, exists_eq_left, exists_eq_left', exists_and_left, V.bl.injEq, V.int.injEq, V.str.injEq, V.ref.injEq, beq_self_eq_true, Bool.true_or, Bool.or_true, Bool.false_or, Bool.or_false, Bool.and_false, Bool.false_and, Bool.true_and, Bool.and_true, Bool.not_true, Bool.not_false, Bool.false_eq_true, if_true, if_false, ite_true, ite_false, true_and, and_true, and_assoc, String.reduceBEq, String.reduceEq, reduceIte, Bool.and_self, reduceCtorEq, false_and, and_false, exists_false, or_false, false_or, exists_const, iEnumS, iStr, iList, iTup, iRng1, iEnum, tFor_eq, tLc_eq, List.cons.injEq, wipe, not_true_eq_false, not_false_eq_true, upd_same, HO.ins.injEq, HO.tup.injEq, HO.lst.injEq, ofS_eq, lk_nil, lk_cons, pu_nil, pu_cons, sizeLine_eq, Nat.reduceLT, Nat.reduceLeDiff, Nat.reduceEqDiff, Nat.le_refl, decide_true, decide_false, tPr, dget_us, dput_us, vv_nil, vv_cons, RS.pk_nil, pk_one, RS.pk_cons, inr_eq, tDisp, tPairs, tBoolOwn, rBoolOwn, tBM, rAppend, ty_list, ty_str, rEqOwn, iEnumT, RS.tCallS, tM1, tDc_eq, tLock, tLockE, iKeys, tListEnum, rUpdate, tMkX0, tMkX1, tXfv, gSub, rSetL, List.getD_cons_zero, List.getD_cons_succ])
theorem lit_0 : (Str.ofString "recordshelf.errors") = SX.S [114, 101, 99, 111, 114, 100, 115, 104, 101, 108, 102, 46, 101, 114, 114, 111, 114, 115] := by decide +kernel
theorem lit_1 : (Str.ofString "recordshelf.values") = SX.S [114, 101, 99, 111, 114, 100, 115, 104, 101, 108, 102, 46, 118, 97, 108, 117, 101, 115] := by decide +kernel
theorem lit_2 : (Str.ofString "0123456789") = SX.S [48, 49, 50, 51, 52, 53, 54, 55, 56, 57] := by decide +kernel
theorem lit_3 : (Str.ofString "law_recordshelf_k05_whole_wrong_texts") = SX.S [108, 97, 119, 95, 114, 101, 99, 111, 114, 100, 115, 104, 101, 108, 102, 95, 107, 48, 53, 95, 119, 104, 111, 108, 101, 95, 119, 114, 111, 110, 103, 95, 116, 101, 120, 116, 115] := by decide +kernel
theorem lit_n : (Str.ofString "n") = SX.S [110] := by decide +kernel
theorem lit_d : (Str.ofString "d") = SX.S [100] := by decide +kernel
theorem lit_6 : (Str.ofString ":") = SX.S [58] := by decide +kernel
theorem lit_7 : (Str.ofString "") = SX.S [] := by decide +kernel
theorem lit_a : (Str.ofString "a") = SX.S [97] := by decide +kernel
theorem lit_b : (Str.ofString "b") = SX.S [98] := by decide +kernel
theorem lit_10 : (Str.ofString "s1:a") = SX.S [115, 49, 58, 97] := by decide +kernel
theorem lit_11 : (Str.ofString "i5;") = SX.S [105, 53, 59] := by decide +kernel
theorem lit_12 : (Str.ofString "l0:") = SX.S [108, 48, 58] := by decide +kernel
theorem lit_13 : (Str.ofString ";") = SX.S [59] := by decide +kernel
theorem lit_14 : (Str.ofString "0") = SX.S [48] := by decide +kernel
theorem lit_15 : (Str.ofString "\n") = SX.S [10] := by decide +kernel
theorem lit_16 : (Str.ofString "ab c") = SX.S [97, 98, 32, 99] := by decide +kernel
theorem lit_17 : (Str.ofString "\"") = SX.S [34] := by decide +kernel
theorem lit_18 : (Str.ofString "d1:") = SX.S [100, 49, 58] := by decide +kernel
theorem lit_s : (Str.ofString "s") = SX.S [115] := by decide +kernel
theorem lit_ntf : (Str.ofString "ntf") = SX.S [110, 116, 102] := by decide +kernel
theorem lit_i : (Str.ofString "i") = SX.S [105] := by decide +kernel
theorem lit_t : (Str.ofString "t") = SX.S [116] := by decide +kernel
theorem lit_l : (Str.ofString "l") = SX.S [108] := by decide +kernel
theorem lit_u : (Str.ofString "u") = SX.S [117] := by decide +kernel
theorem lit_25 : (Str.ofString "-") = SX.S [45] := by decide +kernel
theorem lit_26 : (Str.ofString "1") = SX.S [49] := by decide +kernel
theorem lit_27 : (Str.ofString "9") = SX.S [57] := by decide +kernel
theorem lit_28 : (Str.ofString "00") = SX.S [48, 48] := by decide +kernel
theorem lit_29 : (Str.ofString "-0") = SX.S [45, 48] := by decide +kernel
theorem lit_30 : (Str.ofString "l1:") = SX.S [108, 49, 58] := by decide +kernel
theorem lit_31 : (Str.ofString "s0:") = SX.S [115, 48, 58] := by decide +kernel
theorem lit_x : (Str.ofString "x") = SX.S [120] := by decide +kernel
theorem lit_33 : (Str.ofString "not a value") = SX.S [110, 111, 116, 32, 97, 32, 118, 97, 108, 117, 101] := by decide +kernel
theorem lit_34 : (Str.ofString "not a text of the expected form") = SX.S [110, 111, 116, 32, 97, 32, 116, 101, 120, 116, 32, 111, 102, 32, 116, 104, 101, 32, 101, 120, 112, 101, 99, 116, 101, 100, 32, 102, 111, 114, 109] := by decide +kernel
theorem lit_35 : (Str.ofString "no part has this path") = SX.S [110, 111, 32, 112, 97, 114, 116, 32, 104, 97, 115, 32, 116, 104, 105, 115, 32, 112, 97, 116, 104] := by decide +kernel
theorem lit_f : (Str.ofString "f") = SX.S [102] := by decide +kernel
theorem lit_37 : (Str.ofString "k 1") = SX.S [107, 32, 49] := by decide +kernel
theorem lit_ntfis : (Str.ofString "ntfis") = SX.S [110, 116, 102, 105, 115] := by decide +kernel
theorem lit_ntfislud : (Str.ofString "ntfislud") = SX.S [110, 116, 102, 105, 115, 108, 117, 100] := by decide +kernel
theorem lit_value : (Str.ofString "value") = SX.S [118, 97, 108, 117, 101] := by decide +kernel
theorem lit_text : (Str.ofString "text") = SX.S [116, 101, 120, 116] := by decide +kernel
theorem lit_path : (Str.ofString "path") = SX.S [112, 97, 116, 104] := by decide +kernel
theorem lit_other : (Str.ofString "other") = SX.S [111, 116, 104, 101, 114] := by decide +kernel
theorem lit_44 : (Str.ofString "i-0;") = SX.S [105, 45, 48, 59] := by decide +kernel
theorem lit_45 : (Str.ofString "i00;") = SX.S [105, 48, 48, 59] := by decide +kernel
theorem lit_46 : (Str.ofString "i;") = SX.S [105, 59] := by decide +kernel
theorem lit_lud : (Str.ofString "lud") = SX.S [108, 117, 100] := by decide +kernel
theorem lit_48 : (Str.ofString "10:") = SX.S [49, 48, 58] := by decide +kernel
theorem lit_49 : (Str.ofString "10001") = SX.S [49, 48, 48, 48, 49] := by decide +kernel
theorem lit_50 : (Str.ofString "i-;") = SX.S [105, 45, 59] := by decide +kernel
theorem lit_51 : (Str.ofString "s01:a") = SX.S [115, 48, 49, 58, 97] := by decide +kernel
theorem lit_52 : (Str.ofString "s3:ab") = SX.S [115, 51, 58, 97, 98] := by decide +kernel
theorem lit_53 : (Str.ofString "l10000:") = SX.S [108, 49, 48, 48, 48, 48, 58] := by decide +kernel
theorem lit_54 : (Str.ofString "l10001:") = SX.S [108, 49, 48, 48, 48, 49, 58] := by decide +kernel
theorem lit_55 : (Str.ofString "s10000:") = SX.S [115, 49, 48, 48, 48, 48, 58] := by decide +kernel
theorem lit_56 : (Str.ofString "d2:s0:ns0:n") = SX.S [100, 50, 58, 115, 48, 58, 110, 115, 48, 58, 110] := by decide +kernel
theorem lit_57 : (Str.ofString "d2:s1:ans1:an") = SX.S [100, 50, 58, 115, 49, 58, 97, 110, 115, 49, 58, 97, 110] := by decide +kernel
theorem lit_58 : (Str.ofString "d1:i1;n") = SX.S [100, 49, 58, 105, 49, 59, 110] := by decide +kernel
theorem lit_59 : (Str.ofString "d1:s1:a") = SX.S [100, 49, 58, 115, 49, 58, 97] := by decide +kernel
theorem lit_60 : (Str.ofString "n ") = SX.S [110, 32] := by decide +kernel
theorem lit_61 : (Str.ofString "l2:n") = SX.S [108, 50, 58, 110] := by decide +kernel
theorem lit_62 : (Str.ofString "u1:l1:d1:s1:bt") = SX.S [117, 49, 58, 108, 49, 58, 100, 49, 58, 115, 49, 58, 98, 116] := by decide +kernel
theorem lit_63 : (Str.ofString "d10001:") = SX.S [100, 49, 48, 48, 48, 49, 58] := by decide +kernel
theorem lit_64 : (Str.ofString "u10001:") = SX.S [117, 49, 48, 48, 48, 49, 58] := by decide +kernel
theorem lit_65 : (Str.ofString "i-") = SX.S [105, 45] := by decide +kernel
theorem lit_66 : (Str.ofString "u1:") = SX.S [117, 49, 58] := by decide +kernel
local macro_rules | `(tactic| walk_at "lt") => `(tactic| simp only [lit_0, lit_1, lit_2, lit_3, lit_n, lit_d, lit_6, lit_7, lit_a, lit_b, lit_10, lit_11, lit_12, lit_13, lit_14, lit_15, lit_16, lit_17, lit_18, lit_s, lit_ntf, lit_i, lit_t, lit_l, lit_u, lit_25, lit_26, lit_27, lit_28, lit_29, lit_30, lit_31, lit_x, lit_33, lit_34, lit_35, lit_f, lit_37, lit_ntfis, lit_ntfislud, lit_value, lit_text, lit_path, lit_other, lit_44, lit_45, lit_46, lit_lud, lit_48, lit_49, lit_50, lit_51, lit_52, lit_53, lit_54, lit_55, lit_56, lit_57, lit_58, lit_59, lit_60, lit_61, lit_62, lit_63, lit_64, lit_65, lit_66])
def top (i : Nat) : Stmt := PySem.Challenge.pw_recordshelf_k05_whole_wrong_texts.main.body.getD i (.Pass ⟨0, 0, 0, 0⟩)
abbrev s_InvalidValue__init : Stmt := inClass (top 4) 0
abbrev s_InvalidText__init : Stmt := inClass (top 5) 0
abbrev s_InvalidPath__init : Stmt := inClass (top 6) 0
abbrev s_items_of : Stmt := top 12
abbrev s_is_wrong_part : Stmt := top 13
abbrev s_wrong_path : Stmt := top 14
abbrev s_check_value : Stmt := top 15
abbrev s_spelled : Stmt := top 16
abbrev s_text_of : Stmt := top 17
abbrev s_TextReader__init : Stmt := inClass (top 18) 0
abbrev s_TextReader_sign : Stmt := inClass (top 18) 1
abbrev s_TextReader_refuse : Stmt := inClass (top 18) 2
abbrev s_TextReader_read_digits : Stmt := inClass (top 18) 3
abbrev s_TextReader_read_count : Stmt := inClass (top 18) 4
abbrev s_TextReader_read_integer : Stmt := inClass (top 18) 5
abbrev s_TextReader_read_string : Stmt := inClass (top 18) 6
abbrev s_TextReader_read_pairs : Stmt := inClass (top 18) 7
abbrev s_TextReader_read_items : Stmt := inClass (top 18) 8
abbrev s_TextReader_read_part : Stmt := inClass (top 18) 9
abbrev s_TextReader_is_done : Stmt := inClass (top 18) 10
abbrev s_check_string : Stmt := top 19
abbrev s_value_of : Stmt := top 20
abbrev s_first_wrong : Stmt := top 21
abbrev s_is_text : Stmt := top 22
abbrev s_l_mixed : Stmt := top 24
abbrev s_l_stream : Stmt := top 25
abbrev s_l_draw : Stmt := top 26
abbrev s_l_pick : Stmt := top 27
abbrev s_l_word : Stmt := top 28
abbrev s_l_plain : Stmt := top 29
abbrev s_l_value : Stmt := top 30
abbrev s_l_count : Stmt := top 31
abbrev s_l_number : Stmt := top 32
abbrev s_l_item : Stmt := top 33
abbrev s_l_scan : Stmt := top 34
abbrev s_l_bent : Stmt := top 35
abbrev s_l_told : Stmt := top 36
abbrev s_l_right : Stmt := top 37
abbrev s_l_tower_right : Stmt := top 38
abbrev s_law : Stmt := top 39
theorem bb_dict : bootBuiltins "dict" = some (.type "dict") := by decide +kernel
structure Txt (g : Wd) : Prop where
  b_len : g.mg "len" = none
  b_isinstance : g.mg "isinstance" = none
  b_repr : g.mg "repr" = none
  b_enumerate : g.mg "enumerate" = none
  b_range : g.mg "range" = none
  b_list : g.mg "list" = none
  b_tuple : g.mg "tuple" = none
  b_dict : g.mg "dict" = none
  b_bool : g.mg "bool" = none
  b_int : g.mg "int" = none
  b_str : g.mg "str" = none
  b_abs : g.mg "abs" = none
  b_all : g.mg "all" = none
  nd : PySem.W.nsIn g.K cStatics "sys.int_max_str_digits" = some none
  c_MOST_DIGITS : Gv g "MOST_DIGITS" (.int 100)
  c_MOST_ITEMS : Gv g "MOST_ITEMS" (.int 10000)
  c_MOST_LEVELS : Gv g "MOST_LEVELS" (.int 20)
/-! what the program takes for a value, but for its levels -/
mutual
def okB : PyData → Bool
  | .none => true
  | .bool _ => true
  | .int i => decide (i.natAbs < 10 ^ 100)
  | .str x => decide (x.length ≤ 10000)
  | .list ds => decide (ds.length ≤ 10000) && okAll ds
  | .tuple ds => decide (ds.length ≤ 10000) && okAll ds
  | .dict D => decide (D.length ≤ 10000) && okKv D
def okAll : List PyData → Bool
  | [] => true
  | d :: ds => okB d && okAll ds
def okKv : List (PyData × PyData) → Bool
  | [] => true
  | (k, d) :: r => okB k && okB d && okKv r
end
theorem okAll_get : ∀ {ds : List PyData} {i : Nat} {d : PyData}, okAll ds = true → ds[i]? = some d → okB d = true
  | x :: xs, 0, d, h, e => by
    cases e
    simp only [okAll, Bool.and_eq_true] at h
    exact h.1
  | x :: xs, i + 1, d, h, e => by
    simp only [okAll, Bool.and_eq_true] at h
    exact okAll_get h.2 (by simpa using e)
  | [], _, _, _, e => by simp at e
theorem okKv_get : ∀ {D : List (PyData × PyData)} {i : Nat} {k d : PyData}, okKv D = true → D[i]? = some (k, d) → okB k = true ∧ okB d = true
  | (x, y) :: xs, 0, k, d, h, e => by
    cases e
    simp only [okKv, Bool.and_eq_true] at h
    exact h.1
  | (x, y) :: xs, i + 1, k, d, h, e => by
    simp only [okKv, Bool.and_eq_true] at h
    exact okKv_get h.2 (by simpa using e)
  | [], _, _, _, _, e => by simp at e
/-- the pairs of steps and items -/
def idx (xs : List V) : List (V × V) := (List.range xs.length).map fun j => (.int (j : Nat), xs[j]?.getD .non)
def prs (H : Hp) : V → List (V × V)
  | .ref a => match H a with
    | some (.lst xs) => idx xs
    | some (.tup xs) => idx xs
    | some (.dK kvs) => kvs.map fun kv => (kV kv.1, kv.2)
    | _ => []
  | _ => []
/-- tuples of these pairs -/
def Prd (H : Hp) (ts : List V) (ps : List (V × V)) : Prop := ts.length = ps.length ∧ ∀ (j : Nat) (s x : V), ps[j]? = some (s, x) → ∃ t : Addr, ts[j]? = some (.ref t) ∧ H t = some (.tup [s, x])
theorem Prd.snoc {H H' : Hp} {ts : List V} {ps : List (V × V)} {t : Addr} {s x : V} (h : Prd H ts ps) (sm : Same H H') (ht : H' t = some (.tup [s, x])) : Prd H' (ts ++ [.ref t]) (ps ++ [(s, x)]) := by
  refine ⟨by simp [h.1], fun j s' x' hj => ?_⟩
  by_cases lt : j < ps.length
  · rw [List.getElem?_append_left lt] at hj
    obtain ⟨t', h1, h2⟩ := h.2 j s' x' hj
    exact ⟨t', by rw [List.getElem?_append_left (by rw [h.1]; exact lt)]; exact h1, sm _ _ h2⟩
  · rw [List.getElem?_append_right (by omega)] at hj
    have e : j - ps.length = 0 := by
      cases hh : j - ps.length with
      | zero => rfl
      | succ n => rw [hh] at hj; simp at hj
    rw [e] at hj
    cases hj
    exact ⟨t, by rw [List.getElem?_append_right (by rw [h.1]; omega), h.1, e]; rfl, ht⟩
theorem Prd.tups {H H' : Hp} {ts : List V} {ps : List (V × V)} (h : Prd H ts ps) (k : ∀ t xs, H t = some (.tup xs) → H' t = some (.tup xs)) : Prd H' ts ps :=
  ⟨h.1, fun j s x hj => by obtain ⟨t, h1, h2⟩ := h.2 j s x hj; exact ⟨t, h1, k _ _ h2⟩⟩
/-- a lock taken off -/
theorem unlock {H G : Hp} {a : Addr} {od : Obj} {u : HO} (h : H a = some u) (s : Same (upd H a (.frz od u)) G) : Same H (upd G a u) := fun b o e => by
  by_cases z : b = a
  · subst z; rw [upd_same, ← e]; exact h.symm
  · rw [upd_ne z]; exact s b o (by rw [upd_ne z]; exact e)
theorem fresh_lock {H : Hp} {a b : Addr} {o : HO} (h : upd H a o b = none) : b ≠ a ∧ H b = none := by
  by_cases z : b = a
  · subst z; rw [upd_same] at h; cases h
  · rw [upd_ne z] at h; exact ⟨z, h⟩
theorem idx_get {xs : List V} {j : Nat} {s x : V} (h : (idx xs)[j]? = some (s, x)) : s = .int (j : Nat) ∧ xs[j]? = some x := by
  unfold idx at h
  by_cases lt : j < xs.length
  · simp [lt] at h
    exact ⟨h.1.symm, by simp [lt, ← h.2]⟩
  · simp [lt] at h
theorem idx_len (xs : List V) : (idx xs).length = xs.length := by simp [idx]
section
variable {g : Wd} {f : Addr} {fd : FuncData}
/-- the dict's way -/
theorem dict_pairs {H : Hp} {Q : VK} {a : Addr} {kvs : List (Key × V)} (h : H a = some (.dK kvs)) (nd : (kvs.map (·.1)).Nodup) (hz : kvs.length ≤ sizeLine) (od : Obj)
    (q : ∀ p ts H', Same H H' → H p = none → H' p = some (.lst ts) → Prd H' ts (prs H (.ref a)) → Q (.ref p) H') :
    LcB (Itk a od kvs) (gName 1) tYes (tTup (tCons (tVar 1) (tCons (tDGet (tVar 0) (tVar 1)) tNil))) [1] [some (.ref a), none] (upd H a (.frz od (.dK kvs))) fun v H' => H' a = some (.frz od (.dK kvs)) ∧ Q v (upd H' a (.dK kvs)) := by
  refine lc_invA kvs.length (fun D i acc G => Same (upd H a (.frz od (.dK kvs))) G ∧ Prd G acc ((kvs.map fun kv => (kV kv.1, kv.2)).take i)) hz (fun D hD => ⟨same_upd hD, rfl, by simp⟩) (fun D i acc G hD lt ⟨s, _⟩ => ⟨s _ _ upd_same, lt⟩) (fun D acc G hD ⟨s, _⟩ => ⟨s _ _ upd_same, Nat.le_refl _⟩) (fun D i acc G x G' K hD lt la ⟨s, pr⟩ eD yl k => ?_) (fun D acc G hD ⟨s, pr⟩ eD => ?_)
  · obtain ⟨rfl, k0, v0, hk, rfl⟩ := yl
    have ea : G' a = some (.frz od (.dK kvs)) := s _ _ upd_same
    refine ⟨rfl, ?_⟩
    walk_at "sx"
    refine ⟨v0, .inl ⟨kvs, k0, .inr ⟨od, ea⟩, rfl, (valV_at nd hk).symm⟩, fun t ht => ?_⟩
    have st := same_upd (o := HO.tup [kV k0, v0]) ht
    have Dt : t ≠ D := fun e => by rw [e, eD] at ht; cases ht
    refine k _ _ (st _ _ eD) ⟨fun b o e => ?_, ?_⟩
    · have bD : b ≠ D := fun z => by rw [z, hD] at e; cases e
      rw [upd_ne bD]
      exact st _ _ (s _ _ e)
    · have e1 : (kvs.map fun kv => (kV kv.1, kv.2)).take (i + 1) = (kvs.map fun kv => (kV kv.1, kv.2)).take i ++ [(kV k0, v0)] := by
        rw [List.take_add_one]
        simp [hk]
      rw [e1]
      exact (Prd.snoc pr st upd_same).tups fun t' xs z => by
        have n : t' ≠ D := fun e => by rw [e, st _ _ eD] at z; cases z
        rw [upd_ne n]; exact z
  · have Da := fresh_lock hD
    refine ⟨s _ _ upd_same, q D acc _ (unlock h s) Da.2 (by rw [upd_ne Da.1]; exact eD) ?_⟩
    have e1 : (kvs.map fun kv => (kV kv.1, kv.2)).take kvs.length = prs H (.ref a) := by
      simp only [prs, h]
      exact List.take_of_length_le (by simp)
    rw [← e1]
    exact pr.tups fun t xs z => by
      have ta : t ≠ a := fun e => by rw [e, s _ _ upd_same] at z; cases z
      rw [upd_ne ta]; exact z
theorem sc_items_of : FnScope ["value", "key"] ["value"] (defScope s_items_of) := ⟨rfl, rfl, rfl, by decide +kernel, rfl, by decide +kernel, by decide +kernel⟩
def sp_items : Sp := S1 fun v H Q _ => ∃ d fp, Tr H v d fp ∧ okB d = true ∧ ∀ p ts H', Same H H' → H p = none → H' p = some (.lst ts) → Prd H' ts (prs H v) → Q (.ref p) H'
theorem ok_items (F : Df g.K "items_of" "items_of" s_items_of f fd .none) (T : Txt g) : FnG g 1 f fd ["value"] sp_items := by
  refine F.ok sc_items_of (fun vs H Q E h => S1.len h) (fun cdv A outer s H vs Q E hr h => ?_)
  obtain ⟨v, rfl, d, fp, hv, hok, q⟩ := h
  refine ⟨_, (pss_cons (ps_if (pt_val (pe_callB (c_is "dict") (by rfl) T.b_isinstance bb_isinstance (pa_cons (pv 0) (pa_cons (pe_bltn (v := .ty "dict") rfl T.b_dict bb_dict rfl) pa_nil)))) (pss_one (ps_ret (pe_lock (pe_lc (own := [("key", 1)]) (tt := tYes) rfl sc_items_of.nd (pi_keys (pv 0)) (blkOk_by (own := [("key", 1)]) (N := ["value", "key"]) (sc := defScope s_items_of) (by decide +kernel)) (fun _ _ _ _ _ => (pg_name (i := 1) sc_items_of.nd rfl (.inl rfl))) (fun _ _ _ _ _ => pts_nil) (fun _ _ _ _ _ => (pe_tup (pa_cons (pv 1) (pa_cons (pe_dget (hu_of (Rm.mk hr.room hr.gd).room) (pv 0) (pv 1) (fun _ _ => rfl)) pa_nil)))))))) pss_nil)
      (pss_one (ps_ret (pe_ifExp (pt_val (pe_callB (c_isT ["list", "tuple"]) (by rfl) T.b_isinstance bb_isinstance (pa_cons (pv 0) (pa_cons (pe_tup (pa_cons (pe_bltn (v := .ty "list") rfl T.b_list bb_list rfl) (pa_cons (pe_bltn (v := .ty "tuple") rfl T.b_tuple bb_tuple rfl) pa_nil))) pa_nil)))) (pe_listEnum (K := g.K) T.b_list T.b_enumerate (pa_cons (pv 0) pa_nil)) (pe_lst pa_nil))))), ?_⟩
  walk_at "sx"
  refine ⟨_, hv.ty, ?_⟩
  cases hv with
  | @dct a kvs D fp h hs na nd =>
    rw [if_pos (by simp [kindN])]
    exact ⟨a, _, h, True.intro, fun od => ⟨a, rfl, od, .inl ⟨kvs, upd_same, dict_pairs h nd (by simp only [okB, Bool.and_eq_true, decide_eq_true_eq] at hok; rw [hs.len, sizeLine_eq]; omega) od q⟩⟩⟩
  | @lst a xs ds fp h hs na =>
    rw [if_neg (by simp [kindN])]
    intro p hp
    refine isT_new (Ts := ["list", "tuple"]) (tyN_l h) hp ⟨_, rfl, ?_⟩
    rw [if_pos (by decide)]
    have sp := same_upd (o := HO.tup (["list", "tuple"].map V.ty)) hp
    refine ⟨a, rfl, xs, .inl (SqL.of (sp _ _ h)), fun p2 ts H' s2 n2 e2 l2 k2 => q p2 _ H' (sp.trans s2) (fresh_lock n2).2 e2 ⟨by rw [List.length_map, l2]; simp [prs, h, idx_len], fun j s' x hj => ?_⟩⟩
    have hj' : (idx xs)[j]? = some (s', x) := by simpa [prs, h] using hj
    obtain ⟨rfl, hx⟩ := idx_get hj'
    obtain ⟨t, t1, _, t3⟩ := k2 j x hx
    exact ⟨t, by simp [t1], t3⟩
  | @tup a xs ds fp h hs =>
    rw [if_neg (by simp [kindN])]
    intro p hp
    refine isT_new (Ts := ["list", "tuple"]) (tyN_t h) hp ⟨_, rfl, ?_⟩
    rw [if_pos (by decide)]
    have sp := same_upd (o := HO.tup (["list", "tuple"].map V.ty)) hp
    refine ⟨a, rfl, xs, .inr (SqT.of (sp _ _ h)), fun p2 ts H' s2 n2 e2 l2 k2 => q p2 _ H' (sp.trans s2) (fresh_lock n2).2 e2 ⟨by rw [List.length_map, l2]; simp [prs, h, idx_len], fun j s' x hj => ?_⟩⟩
    have hj' : (idx xs)[j]? = some (s', x) := by simpa [prs, h] using hj
    obtain ⟨rfl, hx⟩ := idx_get hj'
    obtain ⟨t, t1, _, t3⟩ := k2 j x hx
    exact ⟨t, by simp [t1], t3⟩
  | _ =>
    rw [if_neg (by simp [kindN])]
    intro p hp
    refine isT_new (Ts := ["list", "tuple"]) rfl hp ⟨_, rfl, ?_⟩
    rw [if_neg (by decide)]
    exact fun p2 n2 => q p2 _ _ (same_new (same_upd hp) n2) (fresh_lock n2).2 upd_same ⟨rfl, fun j s' x hj => by simp [prs] at hj⟩
end


theorem len_100 {i : Int} (h : i.natAbs < 10 ^ 100) : i.natAbs.log2 < 1920 ∧ (Str.ofString (toString ((i.natAbs : Nat) : Int))).length ≤ 100 := by
  refine ⟨?_, ?_⟩
  · have h2 : i.natAbs < 2 ^ 1920 := Nat.lt_of_lt_of_le h (by decide +kernel)
    by_cases z : i.natAbs = 0
    · rw [z]; decide
    · exact (Nat.log2_lt z).mpr h2
  · rw [ofString_length]
    exact (Nat.length_repr_le_iff (by decide)).mpr h
section
variable {g : Wd} {f : Addr} {fd : FuncData}
theorem sc_is_wrong_part : FnScope ["value", "depth", "key"] ["value", "depth"] (defScope s_is_wrong_part) := ⟨rfl, rfl, rfl, by decide +kernel, rfl, by decide +kernel, by decide +kernel⟩
def sp_wrong : Sp := S2 fun v k H Q _ => ∃ d fp n, Tr H v d fp ∧ okB d = true ∧ k = .int n ∧ (0 < d.depth → n < 20) ∧ ∀ H', Same H H' → Q (.bl false) H'
theorem ok_wrong (F : Df g.K "is_wrong_part" "is_wrong_part" s_is_wrong_part f fd .none) (T : Txt g) : FnG g 1 f fd ["value", "depth"] sp_wrong := by
  refine F.ok sc_is_wrong_part (fun vs H Q E h => S2.len h) (fun cdv A outer s H vs Q E hr h => ?_)
  obtain ⟨v, _, rfl, d, fp, n, hv, hok, rfl, hn, q⟩ := h
  refine ⟨_, (pss_cons (ps_if (PW.pt (pw_or (pt_cmpR op_isN (pv 0) pe_non (nomark _)) (pw_or1 (pt_val (pe_callB (c_is "bool") (by rfl) T.b_isinstance bb_isinstance (pa_cons (pv 0) (pa_cons (pe_bltn (v := .ty "bool") rfl T.b_bool bb_bool rfl) pa_nil))))))) (pss_one (ps_ret pe_bl)) pss_nil)
      (pss_cons (ps_if (pt_val (pe_callB (c_is "int") (by rfl) T.b_isinstance bb_isinstance (pa_cons (pv 0) (pa_cons (pe_bltn (v := .ty "int") rfl T.b_int bb_int rfl) pa_nil)))) (pss_one (ps_ret (pe_cmpR op_gt (pe_callB (c_len (K := g.K)) (by rfl) T.b_len bb_len (pa_cons (pe_callTy call_str_int (by rfl) T.b_str bb_str (pa_cons (pe_callB call_abs (by rfl) T.b_abs bb_abs (pa_cons (pv 0) pa_nil)) pa_nil)) pa_nil)) (e_g T.c_MOST_DIGITS) (nomark _)))) pss_nil)
      (pss_cons (ps_if (pt_val (pe_callB (c_is "str") (by rfl) T.b_isinstance bb_isinstance (pa_cons (pv 0) (pa_cons (pe_bltn (v := .ty "str") rfl T.b_str bb_str rfl) pa_nil)))) (pss_one (ps_ret (pe_cmpR op_gt (pe_callB (c_len (K := g.K)) (by rfl) T.b_len bb_len (pa_cons (pv 0) pa_nil)) (e_g T.c_MOST_ITEMS) (nomark _)))) pss_nil)
      (pss_cons (ps_if (PW.pt (pw_or (pt_not (pt_val (pe_callB (c_isT ["list", "tuple", "dict"]) (by rfl) T.b_isinstance bb_isinstance (pa_cons (pv 0) (pa_cons (pe_tup (pa_cons (pe_bltn (v := .ty "list") rfl T.b_list bb_list rfl) (pa_cons (pe_bltn (v := .ty "tuple") rfl T.b_tuple bb_tuple rfl) (pa_cons (pe_bltn (v := .ty "dict") rfl T.b_dict bb_dict rfl) pa_nil)))) pa_nil))))) (pw_or (pt_cmpR op_ge (pv 1) (e_g T.c_MOST_LEVELS) (nomark _)) (pw_or1 (pt_cmpR op_gt (pe_callB (c_len (K := g.K)) (by rfl) T.b_len bb_len (pa_cons (pv 0) pa_nil)) (e_g T.c_MOST_ITEMS) (nomark _)))))) (pss_one (ps_ret pe_bl)) pss_nil)
      (pss_one (ps_ret (pe_and (pe_callB (c_is "dict") (by rfl) T.b_isinstance bb_isinstance (pa_cons (pv 0) (pa_cons (pe_bltn (v := .ty "dict") rfl T.b_dict bb_dict rfl) pa_nil))) (pe_one (pe_not (pe_callB (c_all (K := g.K)) (by rfl) T.b_all bb_all (pa_cons (pe_lock (pe_lc (own := [("key", 2)]) (tt := tYes) rfl sc_is_wrong_part.nd (pi_keys (pv 0)) (blkOk_by (own := [("key", 2)]) (N := ["value", "depth", "key"]) (sc := defScope s_is_wrong_part) (by decide +kernel)) (fun _ _ _ _ _ => (pg_name (i := 2) sc_is_wrong_part.nd rfl (.inl rfl))) (fun _ _ _ _ _ => pts_nil) (fun _ _ _ _ _ => (pe_and (pe_callB (c_is "str") (by rfl) T.b_isinstance bb_isinstance (pa_cons (pv 2) (pa_cons (pe_bltn (v := .ty "str") rfl T.b_str bb_str rfl) pa_nil))) (pe_one (pe_cmpR op_le (pe_callB (c_len (K := g.K)) (by rfl) T.b_len bb_len (pa_cons (pv 2) pa_nil)) (e_g T.c_MOST_ITEMS) (nomark _))))))) pa_nil))))))))))), ?_⟩
  cases hv with
  | non =>
    walk_at "sx"
    exact q _ (Same.refl _)
  | bl b =>
    walk_at "sx"
    exact q _ (Same.refl _)
  | int i =>
    walk_at "sx"
    have hi : i.natAbs < 10 ^ 100 := by simpa [okB] using hok
    have ea : ((if i < 0 then -i else i : Int)) = ((i.natAbs : Nat) : Int) := by split <;> omega
    rw [ea]
    obtain ⟨l1, l2⟩ := len_100 hi
    refine ⟨?_, by omega, ?_⟩
    · rw [Int.natAbs_natCast]
      exact l1
    · rw [decide_eq_false (by omega)]
      exact q _ (Same.refl _)
  | str x =>
    walk_at "sx"
    have hx : x.length ≤ 10000 := by simpa [okB] using hok
    refine ⟨by omega, ?_⟩
    rw [decide_eq_false (by omega)]
    exact q _ (Same.refl _)
  | @lst a xs ds fp h hs na =>
    simp only [tyN_l h, tRet, tRetN, tSeq, C8.tCut, tNext, tAsg, gName, gNil, gCons, gTup, gFld, tIfS, tIf, tAndV, tOrV, tNotV, tAnd, tOr, tNot, tB, tTest, tOp, tUn, tCB, tCons, tNil, tVar, tC, tChain, tDrop, RS.tCallG, RS.tMethG, tMakeG, RS.tCallK, RS.tMakeK, tEqOwn, rI, rI0, rU, add_ii, add_ss, add_rr, mul_ii, mul_si, mul_ri, RS.eq_ii, RS.eq_ss, eq_bb, eq_nn, eq_sn, eq_ns, eq_in, eq_ni, eq_bn, eq_nb, eq_is, eq_si, eq_rr, ne_ii, ne_ss, ne_bb, ne_nn, ne_sn, ne_ns, ne_in, ne_ni, ne_is, ne_si, ne_rr, in_ss, in_r, nin_ss, nin_r, len_s, len_r, RS.ix_s, RS.ix_r, sl_s, sl_r, is_eq, tyN_n, tyN_b, tyN_i, tyN_s, tru_b, tru_i, tru_n, tSl, tPart, tNoPart, tPar, tPar3, tFmtZ, tFmt, tJs, tDGet, sDPut, sFld, tFld, tTup, tLst, tNever, isB,
  L2.start, List.map_cons, List.map_nil, List.length_cons, List.length_nil, Nat.reduceAdd, Nat.reduceSub, Nat.sub_self, List.replicate_zero, List.replicate_succ, List.append_nil, List.cons_append, List.nil_append, List.getElem?_cons_zero, List.getElem?_cons_succ, List.set_cons_zero, List.set_cons_succ, Option.some.injEq, exists_eq_left, exists_eq_left', exists_and_left, V.bl.injEq, V.int.injEq, V.str.injEq, V.ref.injEq, beq_self_eq_true, Bool.true_or, Bool.or_true, Bool.false_or, Bool.or_false, Bool.and_false, Bool.false_and, Bool.true_and, Bool.and_true, Bool.not_true, Bool.not_false, Bool.false_eq_true, if_true, if_false, ite_true, ite_false, true_and, and_true, and_assoc, String.reduceBEq, String.reduceEq, reduceIte, Bool.and_self, reduceCtorEq, false_and, and_false, exists_false, or_false, false_or, exists_const, iEnumS, iStr, iList, iTup, iRng1, iEnum, tFor_eq, tLc_eq, List.cons.injEq, wipe, not_true_eq_false, not_false_eq_true, upd_same, HO.ins.injEq, HO.tup.injEq, HO.lst.injEq, ofS_eq, lk_nil, lk_cons, pu_nil, pu_cons, sizeLine_eq, Nat.reduceLT, Nat.reduceLeDiff, Nat.reduceEqDiff, Nat.le_refl, decide_true, decide_false, tPr, dget_us, dput_us, vv_nil, vv_cons, RS.pk_nil, pk_one, RS.pk_cons, inr_eq, tDisp, tPairs, tBoolOwn, rBoolOwn, tBM, rAppend, ty_list, ty_str, rEqOwn, iEnumT, RS.tCallS, tM1, tDc_eq, tLock, tLockE, iKeys, tListEnum, rUpdate, tMkX0, tMkX1, tXfv, gSub, rSetL, List.getD_cons_zero, List.getD_cons_succ, tCMethS, ClX.tCVal, tXfa, tIxOwn, tInOwn, tPropG, tMethK, tMethP, tListGen, tDGet2, tDPop2, rNeD0, intA_i, intA_b, tRevL, sFldAug, tPm0, tPm1, tDIn, tDNotIn, tDNewK, RS.tMethS]
    intro p hp
    have hl : xs.length ≤ 10000 := by rw [hs.len]; simp only [okB, Bool.and_eq_true, decide_eq_true_eq] at hok; exact hok.1
    have hn := hn (by simp [PyData.depth])
    have sp := same_upd (o := HO.tup (["list", "tuple", "dict"].map V.ty)) hp
    refine isT_new (Ts := ["list", "tuple", "dict"]) (tyN_l h) hp ⟨_, rfl, ?_⟩
    rw [if_neg (by decide), if_neg (by simp; omega)]
    refine .inl ⟨xs, .inl (SqL.of (sp _ _ h)), ?_⟩
    rw [if_neg (by simp; omega)]
    refine ⟨_, tyN_l (sp _ _ h), ?_⟩
    rw [if_neg (by decide)]
    exact q _ sp
  | @tup a xs ds fp h hs =>
    simp only [tyN_t h, tRet, tRetN, tSeq, C8.tCut, tNext, tAsg, gName, gNil, gCons, gTup, gFld, tIfS, tIf, tAndV, tOrV, tNotV, tAnd, tOr, tNot, tB, tTest, tOp, tUn, tCB, tCons, tNil, tVar, tC, tChain, tDrop, RS.tCallG, RS.tMethG, tMakeG, RS.tCallK, RS.tMakeK, tEqOwn, rI, rI0, rU, add_ii, add_ss, add_rr, mul_ii, mul_si, mul_ri, RS.eq_ii, RS.eq_ss, eq_bb, eq_nn, eq_sn, eq_ns, eq_in, eq_ni, eq_bn, eq_nb, eq_is, eq_si, eq_rr, ne_ii, ne_ss, ne_bb, ne_nn, ne_sn, ne_ns, ne_in, ne_ni, ne_is, ne_si, ne_rr, in_ss, in_r, nin_ss, nin_r, len_s, len_r, RS.ix_s, RS.ix_r, sl_s, sl_r, is_eq, tyN_n, tyN_b, tyN_i, tyN_s, tru_b, tru_i, tru_n, tSl, tPart, tNoPart, tPar, tPar3, tFmtZ, tFmt, tJs, tDGet, sDPut, sFld, tFld, tTup, tLst, tNever, isB,
  L2.start, List.map_cons, List.map_nil, List.length_cons, List.length_nil, Nat.reduceAdd, Nat.reduceSub, Nat.sub_self, List.replicate_zero, List.replicate_succ, List.append_nil, List.cons_append, List.nil_append, List.getElem?_cons_zero, List.getElem?_cons_succ, List.set_cons_zero, List.set_cons_succ, Option.some.injEq, exists_eq_left, exists_eq_left', exists_and_left, V.bl.injEq, V.int.injEq, V.str.injEq, V.ref.injEq, beq_self_eq_true, Bool.true_or, Bool.or_true, Bool.false_or, Bool.or_false, Bool.and_false, Bool.false_and, Bool.true_and, Bool.and_true, Bool.not_true, Bool.not_false, Bool.false_eq_true, if_true, if_false, ite_true, ite_false, true_and, and_true, and_assoc, String.reduceBEq, String.reduceEq, reduceIte, Bool.and_self, reduceCtorEq, false_and, and_false, exists_false, or_false, false_or, exists_const, iEnumS, iStr, iList, iTup, iRng1, iEnum, tFor_eq, tLc_eq, List.cons.injEq, wipe, not_true_eq_false, not_false_eq_true, upd_same, HO.ins.injEq, HO.tup.injEq, HO.lst.injEq, ofS_eq, lk_nil, lk_cons, pu_nil, pu_cons, sizeLine_eq, Nat.reduceLT, Nat.reduceLeDiff, Nat.reduceEqDiff, Nat.le_refl, decide_true, decide_false, tPr, dget_us, dput_us, vv_nil, vv_cons, RS.pk_nil, pk_one, RS.pk_cons, inr_eq, tDisp, tPairs, tBoolOwn, rBoolOwn, tBM, rAppend, ty_list, ty_str, rEqOwn, iEnumT, RS.tCallS, tM1, tDc_eq, tLock, tLockE, iKeys, tListEnum, rUpdate, tMkX0, tMkX1, tXfv, gSub, rSetL, List.getD_cons_zero, List.getD_cons_succ, tCMethS, ClX.tCVal, tXfa, tIxOwn, tInOwn, tPropG, tMethK, tMethP, tListGen, tDGet2, tDPop2, rNeD0, intA_i, intA_b, tRevL, sFldAug, tPm0, tPm1, tDIn, tDNotIn, tDNewK, RS.tMethS]
    intro p hp
    have hl : xs.length ≤ 10000 := by rw [hs.len]; simp only [okB, Bool.and_eq_true, decide_eq_true_eq] at hok; exact hok.1
    have hn := hn (by simp [PyData.depth])
    have sp := same_upd (o := HO.tup (["list", "tuple", "dict"].map V.ty)) hp
    refine isT_new (Ts := ["list", "tuple", "dict"]) (tyN_t h) hp ⟨_, rfl, ?_⟩
    rw [if_neg (by decide), if_neg (by simp; omega)]
    refine .inl ⟨xs, .inr (SqT.of (sp _ _ h)), ?_⟩
    rw [if_neg (by simp; omega)]
    refine ⟨_, tyN_t (sp _ _ h), ?_⟩
    rw [if_neg (by decide)]
    exact q _ sp
  | @dct a kvs D fp h hs na nd =>
    simp only [tyN_d h, tRet, tRetN, tSeq, C8.tCut, tNext, tAsg, gName, gNil, gCons, gTup, gFld, tIfS, tIf, tAndV, tOrV, tNotV, tAnd, tOr, tNot, tB, tTest, tOp, tUn, tCB, tCons, tNil, tVar, tC, tChain, tDrop, RS.tCallG, RS.tMethG, tMakeG, RS.tCallK, RS.tMakeK, tEqOwn, rI, rI0, rU, add_ii, add_ss, add_rr, mul_ii, mul_si, mul_ri, RS.eq_ii, RS.eq_ss, eq_bb, eq_nn, eq_sn, eq_ns, eq_in, eq_ni, eq_bn, eq_nb, eq_is, eq_si, eq_rr, ne_ii, ne_ss, ne_bb, ne_nn, ne_sn, ne_ns, ne_in, ne_ni, ne_is, ne_si, ne_rr, in_ss, in_r, nin_ss, nin_r, len_s, len_r, RS.ix_s, RS.ix_r, sl_s, sl_r, is_eq, tyN_n, tyN_b, tyN_i, tyN_s, tru_b, tru_i, tru_n, tSl, tPart, tNoPart, tPar, tPar3, tFmtZ, tFmt, tJs, tDGet, sDPut, sFld, tFld, tTup, tLst, tNever, isB,
  L2.start, List.map_cons, List.map_nil, List.length_cons, List.length_nil, Nat.reduceAdd, Nat.reduceSub, Nat.sub_self, List.replicate_zero, List.replicate_succ, List.append_nil, List.cons_append, List.nil_append, List.getElem?_cons_zero, List.getElem?_cons_succ, List.set_cons_zero, List.set_cons_succ, Option.some.injEq, exists_eq_left, exists_eq_left', exists_and_left, V.bl.injEq, V.int.injEq, V.str.injEq, V.ref.injEq, beq_self_eq_true, Bool.true_or, Bool.or_true, Bool.false_or, Bool.or_false, Bool.and_false, Bool.false_and, Bool.true_and, Bool.and_true, Bool.not_true, Bool.not_false, Bool.false_eq_true, if_true, if_false, ite_true, ite_false, true_and, and_true, and_assoc, String.reduceBEq, String.reduceEq, reduceIte, Bool.and_self, reduceCtorEq, false_and, and_false, exists_false, or_false, false_or, exists_const, iEnumS, iStr, iList, iTup, iRng1, iEnum, tFor_eq, tLc_eq, List.cons.injEq, wipe, not_true_eq_false, not_false_eq_true, upd_same, HO.ins.injEq, HO.tup.injEq, HO.lst.injEq, ofS_eq, lk_nil, lk_cons, pu_nil, pu_cons, sizeLine_eq, Nat.reduceLT, Nat.reduceLeDiff, Nat.reduceEqDiff, Nat.le_refl, decide_true, decide_false, tPr, dget_us, dput_us, vv_nil, vv_cons, RS.pk_nil, pk_one, RS.pk_cons, inr_eq, tDisp, tPairs, tBoolOwn, rBoolOwn, tBM, rAppend, ty_list, ty_str, rEqOwn, iEnumT, RS.tCallS, tM1, tDc_eq, tLock, tLockE, iKeys, tListEnum, rUpdate, tMkX0, tMkX1, tXfv, gSub, rSetL, List.getD_cons_zero, List.getD_cons_succ, tCMethS, ClX.tCVal, tXfa, tIxOwn, tInOwn, tPropG, tMethK, tMethP, tListGen, tDGet2, tDPop2, rNeD0, intA_i, intA_b, tRevL, sFldAug, tPm0, tPm1, tDIn, tDNotIn, tDNewK, RS.tMethS]
    intro p hp
    simp only [okB, Bool.and_eq_true, decide_eq_true_eq] at hok
    have hl : kvs.length ≤ 10000 := by rw [hs.len]; exact hok.1
    have hn := hn (by simp [PyData.depth])
    have sp := same_upd (o := HO.tup (["list", "tuple", "dict"].map V.ty)) hp
    refine isT_new (Ts := ["list", "tuple", "dict"]) (tyN_d h) hp ⟨_, rfl, ?_⟩
    rw [if_neg (by decide), if_neg (by simp; omega)]
    have h2 := sp _ _ h
    generalize upd H p (HO.tup (["list", "tuple", "dict"].map V.ty)) = G at sp h2 ⊢
    refine .inr ⟨kvs, h2, ?_⟩
    rw [if_neg (by simp; omega)]
    refine ⟨_, tyN_d h2, ?_⟩
    rw [if_pos (by decide)]
    refine ⟨a, _, h2, True.intro, fun od => ⟨od, .inl ⟨kvs, upd_same, ?_⟩⟩⟩
    refine lc_all kvs.length (fun _ => .bl true) (by rw [sizeLine_eq]; omega) (fun i G' lt s => ⟨s _ _ upd_same, lt⟩) (fun G' s => ⟨s _ _ upd_same, Nat.le_refl _⟩) (fun i G' x G'' K lt s yl k => ?_) (fun L G' hL s eL => ?_)
    · obtain ⟨rfl, k0, v0, hk, rfl⟩ := yl
      obtain ⟨x, v, d, f', e1, e2, _, _⟩ := hs.get lt
      rw [hk] at e1
      cases e1
      have hx : x.length ≤ 10000 := by simpa [okB] using (okKv_get hok.2 e2).1
      refine ⟨rfl, ?_⟩
      show _
      simp only [kV, tRet, tRetN, tSeq, C8.tCut, tNext, tAsg, gName, gNil, gCons, gTup, gFld, tIfS, tIf, tAndV, tOrV, tNotV, tAnd, tOr, tNot, tB, tTest, tOp, tUn, tCB, tCons, tNil, tVar, tC, tChain, tDrop, RS.tCallG, RS.tMethG, tMakeG, RS.tCallK, RS.tMakeK, tEqOwn, rI, rI0, rU, add_ii, add_ss, add_rr, mul_ii, mul_si, mul_ri, RS.eq_ii, RS.eq_ss, eq_bb, eq_nn, eq_sn, eq_ns, eq_in, eq_ni, eq_bn, eq_nb, eq_is, eq_si, eq_rr, ne_ii, ne_ss, ne_bb, ne_nn, ne_sn, ne_ns, ne_in, ne_ni, ne_is, ne_si, ne_rr, in_ss, in_r, nin_ss, nin_r, len_s, len_r, RS.ix_s, RS.ix_r, sl_s, sl_r, is_eq, tyN_n, tyN_b, tyN_i, tyN_s, tru_b, tru_i, tru_n, tSl, tPart, tNoPart, tPar, tPar3, tFmtZ, tFmt, tJs, tDGet, sDPut, sFld, tFld, tTup, tLst, tNever, isB,
  L2.start, List.map_cons, List.map_nil, List.length_cons, List.length_nil, Nat.reduceAdd, Nat.reduceSub, Nat.sub_self, List.replicate_zero, List.replicate_succ, List.append_nil, List.cons_append, List.nil_append, List.getElem?_cons_zero, List.getElem?_cons_succ, List.set_cons_zero, List.set_cons_succ, Option.some.injEq, exists_eq_left, exists_eq_left', exists_and_left, V.bl.injEq, V.int.injEq, V.str.injEq, V.ref.injEq, beq_self_eq_true, Bool.true_or, Bool.or_true, Bool.false_or, Bool.or_false, Bool.and_false, Bool.false_and, Bool.true_and, Bool.and_true, Bool.not_true, Bool.not_false, Bool.false_eq_true, if_true, if_false, ite_true, ite_false, true_and, and_true, and_assoc, String.reduceBEq, String.reduceEq, reduceIte, Bool.and_self, reduceCtorEq, false_and, and_false, exists_false, or_false, false_or, exists_const, iEnumS, iStr, iList, iTup, iRng1, iEnum, tFor_eq, tLc_eq, List.cons.injEq, wipe, not_true_eq_false, not_false_eq_true, upd_same, HO.ins.injEq, HO.tup.injEq, HO.lst.injEq, ofS_eq, lk_nil, lk_cons, pu_nil, pu_cons, sizeLine_eq, Nat.reduceLT, Nat.reduceLeDiff, Nat.reduceEqDiff, Nat.le_refl, decide_true, decide_false, tPr, dget_us, dput_us, vv_nil, vv_cons, RS.pk_nil, pk_one, RS.pk_cons, inr_eq, tDisp, tPairs, tBoolOwn, rBoolOwn, tBM, rAppend, ty_list, ty_str, rEqOwn, iEnumT, RS.tCallS, tM1, tDc_eq, tLock, tLockE, iKeys, tListEnum, rUpdate, tMkX0, tMkX1, tXfv, gSub, rSetL, List.getD_cons_zero, List.getD_cons_succ, tCMethS, ClX.tCVal, tXfa, tIxOwn, tInOwn, tPropG, tMethK, tMethP, tListGen, tDGet2, tDPop2, rNeD0, intA_i, intA_b, tRevL, sFldAug, tPm0, tPm1, tDIn, tDNotIn, tDNewK, RS.tMethS]
      refine ⟨by omega, ?_⟩
      rw [decide_eq_true (by omega)]
      exact k _ (Same.refl _)
    · refine ⟨s _ _ upd_same, L, List.replicate kvs.length true, rfl, SqL.of ?_, ?_⟩
      · rw [upd_ne (fresh_lock hL).1, eL]
        congr 2
        rw [List.map_replicate]
        exact List.ext_getElem (by simp) (by simp)
      · walk_at "sx"
        have e : (List.replicate kvs.length true).all id = true := by simp [List.all_eq_true]
        rw [e]
        exact q _ (sp.trans (unlock h2 s))
end


theorem fnG_void {g : Wd} {k : Nat} {f : Addr} {fd : FuncData} {ps : List Str} {sp : Sp} (h : ∀ vs H Q E, ¬ sp vs H Q E) : FnG g k f fd ps sp :=
  ⟨fun vs H Q E z => (h vs H Q E z).elim, fun A outer s H args us vs Q E _ _ _ _ _ z => (h vs H Q E z).elim⟩
theorem kn_rec {g : Wd} {x : Str} {f : Addr} {fd : FuncData} {ps : List Str} {c : Nat} {sp : Nat → Sp} (m : g.mg x = some (.ref f)) (kp : PySem.W.keepIn g.K (.ref f) = true) (b : Binds g.K fd ps []) (h0 : ∀ vs H Q E, ¬ sp 0 vs H Q E)
    (hs : ∀ n, Kn g x (n + c) ps [] (sp n) → FnG g (n + c + 1) f fd ps (sp (n + 1))) : ∀ n, Kn g x (n + c) ps [] (sp n)
  | 0 => ⟨f, fd, [], m, kp, fnG_void h0, b, .nil⟩
  | n + 1 => ⟨f, fd, [], m, kp, (hs n (kn_rec m kp b h0 hs n)).mono (by omega), b, .nil⟩
/-- an item's data -/
theorem prs_get {H : Hp} {v : V} {d : PyData} {fp : List Addr} (h : Tr H v d fp) (ok : okB d = true) {j : Nat} {s x : V} (e : (prs H v)[j]? = some (s, x)) : ∃ d' f', Tr H x d' f' ∧ okB d' = true ∧ d'.depth < d.depth ∧ ∀ c ∈ f', c ∈ fp := by
  cases h with
  | @lst a xs ds fp h hs na =>
    have e' : (idx xs)[j]? = some (s, x) := by simpa [prs, h] using e
    obtain ⟨rfl, hx⟩ := idx_get e'
    obtain ⟨v, d, f', e1, e2, t, sub⟩ := hs.get (List.getElem?_eq_some_iff.mp hx).1
    rw [hx] at e1
    cases e1
    simp only [okB, Bool.and_eq_true] at ok
    refine ⟨d, f', t, okAll_get ok.2 e2, ?_, fun c hc => List.mem_cons_of_mem _ (sub c hc)⟩
    have := depth_all e2
    simp only [PyData.depth]; omega
  | @tup a xs ds fp h hs =>
    have e' : (idx xs)[j]? = some (s, x) := by simpa [prs, h] using e
    obtain ⟨rfl, hx⟩ := idx_get e'
    obtain ⟨v, d, f', e1, e2, t, sub⟩ := hs.get (List.getElem?_eq_some_iff.mp hx).1
    rw [hx] at e1
    cases e1
    simp only [okB, Bool.and_eq_true] at ok
    refine ⟨d, f', t, okAll_get ok.2 e2, ?_, sub⟩
    have := depth_all e2
    simp only [PyData.depth]; omega
  | @dct a kvs D fp h hs na nd =>
    have e' : (kvs.map fun kv => (kV kv.1, kv.2))[j]? = some (s, x) := by simpa [prs, h] using e
    rw [List.getElem?_map] at e'
    cases hk : kvs[j]? with
    | none => rw [hk] at e'; cases e'
    | some kv =>
      rw [hk] at e'
      cases e'
      obtain ⟨y, v, d, f', e1, e2, t, sub⟩ := hs.get (List.getElem?_eq_some_iff.mp hk).1
      rw [hk] at e1
      cases e1
      simp only [okB, Bool.and_eq_true] at ok
      refine ⟨d, f', t, (okKv_get ok.2 e2).2, ?_, fun c hc => List.mem_cons_of_mem _ (sub c hc)⟩
      have := depth_kv e2
      simp only [PyData.depth]; omega
  | _ => simp [prs] at e
section
variable {g : Wd} {f : Addr} {fd : FuncData}
theorem sc_wrong_path : FnScope ["value", "path", "step", "item", "found"] ["value", "path"] (defScope s_wrong_path) := ⟨rfl, rfl, rfl, by decide +kernel, rfl, by decide +kernel, by decide +kernel⟩
def sp_path (n : Nat) : Sp := S2 fun v p H Q _ => ∃ d fp a ps, Tr H v d fp ∧ okB d = true ∧ p = .ref a ∧ H a = some (.tup ps) ∧ ps.length + d.depth ≤ 20 ∧ d.depth < n ∧ ∀ H', Same H H' → Q .non H'
theorem ok_path (n : Nat) (F : Df g.K "wrong_path" "wrong_path" s_wrong_path f fd .none) (T : Txt g) (F_is_wrong_part : Kn g "is_wrong_part" 1 ["value", "depth"] [] sp_wrong) (F_items_of : Kn g "items_of" 1 ["value"] [] sp_items) (F_wrong_path : Kn g "wrong_path" (n + 1) ["value", "path"] [] (sp_path n)) : FnG g (n + 2) f fd ["value", "path"] (sp_path (n + 1)) := by
  refine F.ok sc_wrong_path (fun vs H Q E h => S2.len h) (fun cdv A outer s H vs Q E hr h => ?_)
  obtain ⟨v, _, rfl, d, fp, a, ps, hv, hok, rfl, ha, hl, hn, q⟩ := h
  refine ⟨_, (pss_mid (ps_if (pt_val (pe_callG F_is_wrong_part (hr.mono (by first | decide | omega)) tkD (pa_cons (pv 0) (pa_cons (pe_callB (c_len (K := g.K)) (by rfl) T.b_len bb_len (pa_cons (pv 1) pa_nil)) pa_nil)))) (pss_one (ps_ret (pv 1))) pss_nil)
      (pss_cons (ps_for psD rfl (i_list (K := g.K) (pe_callG F_items_of (hr.mono (by first | decide | omega)) tkD (pa_cons (pv 0) pa_nil))) (g_tup (K := g.K) (n := 2) (pgs_cons (pg_name (i := 2) sc_wrong_path.nd rfl (.inl rfl)) (pgs_cons (pg_name (i := 3) sc_wrong_path.nd rfl (.inl rfl)) pgs_nil))) (pss_cons (ps_set (i := 4) sc_wrong_path.nd rfl (Or.inl rfl) (pe_callG F_wrong_path (hr.mono (by first | decide | omega)) tkD (pa_cons (pv 3) (pa_cons (pe_op (o_add (K := g.K)) (pv 1) (pe_tup (pa_cons (pv 2) pa_nil))) pa_nil))))
      (pss_one (ps_if (pt_cmpR op_notN (pv 4) pe_non (nomark _)) (pss_one (ps_ret (pv 4))) pss_nil))))
      (pss_one (ps_ret pe_non)))), ?_⟩
  refine mid_one [some v, some (.ref a), none, none, none] (fun H1 => Same H H1) ?_ fun H1 s1 => ?_
  · walk_at "sx"
    refine .inl ⟨ps, .inr (SqT.of ha), _, _, rfl, d, fp, _, hv, hok, rfl, fun z => by omega, fun H' s' => ?_⟩
    walk_at "sx"
    exact s'
  walk_at "sx"
  refine ⟨_, rfl, d, fp, hv.same s1, hok, fun L ts H2 s2 _ eL pr => ?_⟩
  walk_at "sx"
  refine ⟨⟨_, SqL.of eL⟩, ?_⟩
  have s12 := s1.trans s2
  refine for_by ts.length (fun i σ H' => (∃ v2 v3 v4, σ = [some v, some (.ref a), v2, v3, v4]) ∧ Same H2 H') ⟨⟨_, _, _, rfl⟩, Same.refl _⟩ (fun i σ H3 lt P => ⟨_, ts[i], SqL.of (P.2 _ _ eL), List.getElem?_eq_getElem lt⟩) (fun σ H3 P => ⟨_, SqL.of (P.2 _ _ eL), Nat.le_refl _⟩) (fun i σ H3 x H4 lt P yl => ?_) (fun σ H3 P => ?_)
  · obtain ⟨⟨v2, v3, v4, rfl⟩, s3⟩ := P
    obtain ⟨rfl, hx⟩ := yl
    have hx := hx _ (SqL.of (s3 _ _ eL))
    have lp : i < (prs H1 v).length := by rw [← pr.1]; exact lt
    obtain ⟨st, it, hp⟩ : ∃ st it, (prs H1 v)[i]? = some (st, it) := ⟨_, _, List.getElem?_eq_getElem lp⟩
    obtain ⟨t, ht, et⟩ := pr.2 i st it hp
    rw [ht] at hx
    obtain rfl : V.ref t = x := Option.some.inj hx
    obtain ⟨d', f', hd', ok', dl, _⟩ := prs_get (hv.same s1) hok hp
    have et3 := s3 _ _ et
    walk_at "sx"
    refine ⟨_, SqT.of et3, rfl, ?_⟩
    walk_at "sx"
    intro u hu
    have su := same_upd (o := HO.tup [st]) hu
    have a3 := su _ _ (s3 _ _ (s12 _ _ ha))
    have s23 := s2.trans s3
    have go : ∀ (b : Addr) (G : Hp), Same (upd H4 u (HO.tup [st])) G → G b = some (.tup (ps ++ [st])) → sp_path n [it, .ref b] G (fun x H1 => if (!decide (x = V.non)) = true then Q x H1 else (∃ x_1, some x = x_1) ∧ Same H2 H1) fun c d H' => E c d H' := fun b G sG hb =>
      ⟨_, _, rfl, d', f', b, _, hd'.same ((s23.trans su).trans sG), ok', rfl, hb, by simp; omega, by omega, fun H5 s5 => by show (if _ then _ else _); rw [if_neg (by simp)]; exact ⟨⟨_, rfl⟩, ((s3.trans su).trans sG).trans s5⟩⟩
    refine .inr ⟨a, u, ps, [st], rfl, rfl, SqT.of a3, SqT.of upd_same, by rw [sizeLine_eq]; simp; omega, fun e => ?_, (fun _ e => nomatch e), fun _ _ b hb => ?_⟩
    · subst e
      have := go u _ (Same.refl _) upd_same
      simpa using this
    · have := go b _ (same_upd hb) upd_same
      simpa using this
  · obtain ⟨⟨v2, v3, v4, rfl⟩, s3⟩ := P
    walk_at "sx"
    exact q _ (s12.trans s3)
end


section
variable {g : Wd} {f : Addr} {fd : FuncData}
theorem sc_check_value : FnScope ["value", "path"] ["value"] (defScope s_check_value) := ⟨rfl, rfl, rfl, by decide +kernel, rfl, by decide +kernel, by decide +kernel⟩
def sp_check : Sp := S1 fun v H Q _ => ∃ d fp, Tr H v d fp ∧ okB d = true ∧ d.depth < 21 ∧ ∀ H', Same H H' → Q .non H'
theorem ok_check (F : Df g.K "check_value" "check_value" s_check_value f fd .none) (T : Txt g) (F_wrong_path : Kn g "wrong_path" 22 ["value", "path"] [] (sp_path 21)) : FnG g 23 f fd ["value"] sp_check := by
  refine F.ok sc_check_value (fun vs H Q E h => S1.len h) (fun cdv A outer s H vs Q E hr h => ?_)
  obtain ⟨v, rfl, d, fp, hv, hok, hn, q⟩ := h
  refine ⟨_, (pss_cons (ps_set (i := 1) sc_check_value.nd rfl (Or.inl rfl) (pe_callG F_wrong_path (hr.mono (by first | decide | omega)) tkD (pa_cons (pv 0) (pa_cons (pe_tup pa_nil) pa_nil))))
      (pss_one (ps_if (pt_cmpR op_notN (pv 1) pe_non (nomark _)) (pss_one ps_never) pss_nil))), ?_⟩
  walk_at "sx"
  intro p hp
  have sp := same_upd (o := HO.tup []) hp
  refine ⟨_, _, rfl, d, fp, p, [], hv.same sp, hok, rfl, upd_same, by simp; omega, hn, fun H' s' => ?_⟩
  walk_at "sx"
  exact q _ (sp.trans s')
theorem sc_spelled : FnScope ["value", "letter", "front", "key", "item"] ["value"] (defScope s_spelled) := ⟨rfl, rfl, rfl, by decide +kernel, rfl, by decide +kernel, by decide +kernel⟩
def sp_spell (n : Nat) : Sp := S1 fun v H Q _ => ∃ d fp, Tr H v d fp ∧ okB d = true ∧ d.depth < n ∧ (spell d).length ≤ 1000000 ∧ ∀ H', Same H H' → Q (.str (spell d)) H'
/-- the lists' and tuples' way -/
theorem spell_items {n : Nat} {H H1 : Hp} {Qf : VK} {J : It} {xs : List V} {ds : List PyData} {fp : List Addr} {σ : L2.St} {W : WX} (sl : Nat) (hw : ∀ x : V, wipe ((wipe σ [sl]).set sl (some x)) [sl] = wipe σ [sl]) (hv : ∀ x : V, ((wipe σ [sl]).set sl (some x))[sl]? = some (some x)) (sm : Same H H1) (hs : TrL H xs ds fp) (ok : okAll ds = true) (hl : ds.length ≤ 10000) (hd : PyData.depthAll ds < n) (hz : (spells ds).length ≤ 1000000)
    (go : ∀ i G, i < xs.length → Same H1 G → J.go i G) (stop : ∀ G, Same H1 G → J.stop xs.length G) (yl : ∀ i G x G', i < xs.length → Same H1 G → J.yld i G x G' → G' = G ∧ xs[i]? = some x)
    (q : ∀ (L : Addr) (ys : List Str) (G : Hp), Same H1 G → G L = some (.lst (ys.map V.str)) → cat ys = spells ds → (ys.map (·.length)).sum ≤ 1000000 → Qf (.ref L) G) :
    LcB J (gName sl) tYes (tCallG (sp_spell n) [] W (tCons (tVar sl) tNil)) [sl] σ H1 Qf := by
  have ln := hs.len
  refine lc_all xs.length (fun i => .str (spell (ds[i]?.getD .none))) (by rw [sizeLine_eq]; omega) go stop (fun i G x G' K lt s y k => ?_) (fun L G hL s eL => ?_)
  · obtain ⟨rfl, hx⟩ := yl i G x G' lt s y
    obtain ⟨v, d, f', e1, e2, t, _⟩ := hs.get lt
    rw [hx] at e1
    cases e1
    refine ⟨hw x, x, hv x, ?_⟩
    have b1 := depth_all e2
    have b2 := spells_get e2
    refine ⟨_, rfl, d, f', t.same (sm.trans s), okAll_get ok e2, by omega, by omega, fun H' s' => ?_⟩
    have := k H' s'
    rw [e2] at this
    exact this
  · have e : (List.range xs.length).map (fun i => V.str (spell (ds[i]?.getD .none))) = (ds.map spell).map V.str := by
      rw [ln]
      refine List.ext_getElem (by simp) fun i h1 h2 => ?_
      simp at h1 h2
      simp [h1]
    refine q L (ds.map spell) G s (by rw [eL, e]) (cat_map_spell ds) ?_
    rw [← cat_len, cat_map_spell]; exact hz
theorem ok_spell (n : Nat) (F : Df g.K "spelled" "spelled" s_spelled f fd .none) (T : Txt g) (F_spelled : Kn g "spelled" (n + 1) ["value"] [] (sp_spell n)) : FnG g (n + 2) f fd ["value"] (sp_spell (n + 1)) := by
  refine F.ok sc_spelled (fun vs H Q E h => S1.len h) (fun cdv A outer s H vs Q E hr h => ?_)
  obtain ⟨v, rfl, d, fp, hv, hok, hn, hz, q⟩ := h
  refine ⟨_, (pss_cons (ps_if (pt_cmpR op_isN (pv 0) pe_non (nomark _)) (pss_one (ps_ret pe_str)) pss_nil)
      (pss_cons (ps_if (pt_val (pe_callB (c_is "bool") (by rfl) T.b_isinstance bb_isinstance (pa_cons (pv 0) (pa_cons (pe_bltn (v := .ty "bool") rfl T.b_bool bb_bool rfl) pa_nil)))) (pss_one (ps_ret (pe_ifExp (t_truth (K := g.K) (pv 0)) pe_str pe_str))) pss_nil)
      (pss_cons (ps_if (pt_val (pe_callB (c_is "int") (by rfl) T.b_isinstance bb_isinstance (pa_cons (pv 0) (pa_cons (pe_bltn (v := .ty "int") rfl T.b_int bb_int rfl) pa_nil)))) (pss_one (ps_ret (pe_joined (.cons pe_str (.cons (pe_fmt (pv 0)) (.cons pe_str .nil)))))) pss_nil)
      (pss_cons (ps_if (pt_val (pe_callB (c_is "str") (by rfl) T.b_isinstance bb_isinstance (pa_cons (pv 0) (pa_cons (pe_bltn (v := .ty "str") rfl T.b_str bb_str rfl) pa_nil)))) (pss_one (ps_ret (pe_joined (.cons pe_str (.cons (pe_fmt (pe_callB (c_len (K := g.K)) (by rfl) T.b_len bb_len (pa_cons (pv 0) pa_nil))) (.cons pe_str (.cons (pe_fmt (pv 0)) .nil))))))) pss_nil)
      (pss_mid (ps_set (i := 1) sc_spelled.nd rfl (Or.inl rfl) (pe_ifExp (pt_val (pe_callB (c_is "dict") (by rfl) T.b_isinstance bb_isinstance (pa_cons (pv 0) (pa_cons (pe_bltn (v := .ty "dict") rfl T.b_dict bb_dict rfl) pa_nil)))) pe_str (pe_ifExp (pt_val (pe_callB (c_is "list") (by rfl) T.b_isinstance bb_isinstance (pa_cons (pv 0) (pa_cons (pe_bltn (v := .ty "list") rfl T.b_list bb_list rfl) pa_nil)))) pe_str pe_str)))
      (pss_mid (ps_set (i := 2) sc_spelled.nd rfl (Or.inl rfl) (pe_joined (.cons (pe_fmt (pv 1)) (.cons (pe_fmt (pe_callB (c_len (K := g.K)) (by rfl) T.b_len bb_len (pa_cons (pv 0) pa_nil))) (.cons pe_str .nil)))))
      (pss_cons (ps_if (pt_cmpR (o_eq (K := g.K) hr) (pv 1) pe_str (nomark _)) (pss_one (ps_ret (pe_op (o_add (K := g.K)) (pv 2) (pe_join pe_str (pe_lock (pe_lc (own := [("key", 3)]) (tt := tYes) rfl sc_spelled.nd (pi_keys (pv 0)) (blkOk_by (own := [("key", 3)]) (N := ["value", "letter", "front", "key", "item"]) (sc := defScope s_spelled) (by decide +kernel)) (fun _ _ _ _ _ => (pg_name (i := 3) sc_spelled.nd rfl (.inl rfl))) (fun _ _ _ _ _ => pts_nil) (fun _ _ _ _ _ => (pe_op (o_add (K := g.K)) (pe_callG F_spelled (Rm.mono (Rm.mk hr.room hr.gd) (by first | decide | omega)) L2.takes0 (pa_cons (pv 3) pa_nil)) (pe_callG F_spelled (Rm.mono (Rm.mk hr.room hr.gd) (by first | decide | omega)) L2.takes0 (pa_cons (pe_dget (hu_of (Rm.mk hr.room hr.gd).room) (pv 0) (pv 3) (fun _ _ => rfl)) pa_nil)))))))))) pss_nil)
      (pss_one (ps_ret (pe_op (o_add (K := g.K)) (pv 2) (pe_join pe_str (pe_lc (own := [("item", 4)]) (tt := tYes) rfl sc_spelled.nd (pi_or (i_list (K := g.K) (pv 0)) (i_tup (K := g.K) (pv 0))) (blkOk_by (own := [("item", 4)]) (N := ["value", "letter", "front", "key", "item"]) (sc := defScope s_spelled) (by decide +kernel)) (fun _ _ _ _ _ => (pg_name (i := 4) sc_spelled.nd rfl (.inl rfl))) (fun _ _ _ _ _ => pts_nil) (fun _ _ _ _ _ => (pe_callG F_spelled (Rm.mono (Rm.mk hr.room hr.gd) (by first | decide | omega)) L2.takes0 (pa_cons (pv 4) pa_nil))))))))))))))), ?_⟩
  cases hv with
  | non =>
    walk_at "sx"
    exact q _ (Same.refl _)
  | bl b =>
    walk_at "sx"
    have := q H (Same.refl _)
    cases b <;> simpa [spell] using this
  | int i =>
    walk_at "sx"
    have hi : i.natAbs < 10 ^ 100 := by simpa [okB] using hok
    simp only [spell] at hz
    simp only [Str.empty_append]
    simp only [Str.length_append] at hz ⊢
    exact ⟨by omega, (len_100 hi).1, by omega, by omega, q _ (Same.refl _)⟩
  | str x =>
    walk_at "sx"
    have hx : x.length ≤ 10000 := by simpa [okB] using hok
    simp only [spell, num] at hz
    simp only [Str.empty_append]
    simp only [Str.length_append] at hz ⊢
    exact ⟨by omega, by omega, num_log hx, by omega, by omega, by omega, by omega, q _ (Same.refl _)⟩
  | @lst a xs ds fp h hs na =>
    simp only [okB, Bool.and_eq_true, decide_eq_true_eq] at hok
    have hl := hs.len
    simp only [spell] at hz
    have hz' := hz
    simp only [Str.length_append, num] at hz'
    simp only [tyN_l h, tRet, tRetN, tSeq, C8.tCut, tNext, tAsg, gName, gNil, gCons, gTup, gFld, tIfS, tIf, tAndV, tOrV, tNotV, tAnd, tOr, tNot, tB, tTest, tOp, tUn, tCB, tCons, tNil, tVar, tC, tChain, tDrop, RS.tCallG, RS.tMethG, tMakeG, RS.tCallK, RS.tMakeK, tEqOwn, rI, rI0, rU, add_ii, add_ss, add_rr, mul_ii, mul_si, mul_ri, RS.eq_ii, RS.eq_ss, eq_bb, eq_nn, eq_sn, eq_ns, eq_in, eq_ni, eq_bn, eq_nb, eq_is, eq_si, eq_rr, ne_ii, ne_ss, ne_bb, ne_nn, ne_sn, ne_ns, ne_in, ne_ni, ne_is, ne_si, ne_rr, in_ss, in_r, nin_ss, nin_r, len_s, len_r, RS.ix_s, RS.ix_r, sl_s, sl_r, is_eq, tyN_n, tyN_b, tyN_i, tyN_s, tru_b, tru_i, tru_n, tSl, tPart, tNoPart, tPar, tPar3, tFmtZ, tFmt, tJs, tDGet, sDPut, sFld, tFld, tTup, tLst, tNever, isB,
  L2.start, List.map_cons, List.map_nil, List.length_cons, List.length_nil, Nat.reduceAdd, Nat.reduceSub, Nat.sub_self, List.replicate_zero, List.replicate_succ, List.append_nil, List.cons_append, List.nil_append, List.getElem?_cons_zero, List.getElem?_cons_succ, List.set_cons_zero, List.set_cons_succ, Option.some.injEq, exists_eq_left, exists_eq_left', exists_and_left, V.bl.injEq, V.int.injEq, V.str.injEq, V.ref.injEq, beq_self_eq_true, Bool.true_or, Bool.or_true, Bool.false_or, Bool.or_false, Bool.and_false, Bool.false_and, Bool.true_and, Bool.and_true, Bool.not_true, Bool.not_false, Bool.false_eq_true, if_true, if_false, ite_true, ite_false, true_and, and_true, and_assoc, String.reduceBEq, String.reduceEq, reduceIte, Bool.and_self, reduceCtorEq, false_and, and_false, exists_false, or_false, false_or, exists_const, iEnumS, iStr, iList, iTup, iRng1, iEnum, tFor_eq, tLc_eq, List.cons.injEq, wipe, not_true_eq_false, not_false_eq_true, upd_same, HO.ins.injEq, HO.tup.injEq, HO.lst.injEq, ofS_eq, lk_nil, lk_cons, pu_nil, pu_cons, sizeLine_eq, Nat.reduceLT, Nat.reduceLeDiff, Nat.reduceEqDiff, Nat.le_refl, decide_true, decide_false, tPr, dget_us, dput_us, vv_nil, vv_cons, RS.pk_nil, pk_one, RS.pk_cons, inr_eq, tDisp, tPairs, tBoolOwn, rBoolOwn, tBM, rAppend, ty_list, ty_str, rEqOwn, iEnumT, RS.tCallS, tM1, tDc_eq, tLock, tLockE, iKeys, tListEnum, rUpdate, tMkX0, tMkX1, tXfv, gSub, rSetL, List.getD_cons_zero, List.getD_cons_succ, tCMethS, ClX.tCVal, tXfa, tIxOwn, tInOwn, tPropG, tMethK, tMethP, tListGen, tDGet2, tDPop2, rNeD0, intA_i, intA_b, tRevL, sFldAug, tPm0, tPm1, tDIn, tDNotIn, tDNewK, RS.tMethS]
    refine mid_one [some (.ref a), some (.str "l"), none, none, none] (fun H1 => H1 = H) ?_ ?_
    · simp only [tyN_l h, tRet, tRetN, tSeq, C8.tCut, tNext, tAsg, gName, gNil, gCons, gTup, gFld, tIfS, tIf, tAndV, tOrV, tNotV, tAnd, tOr, tNot, tB, tTest, tOp, tUn, tCB, tCons, tNil, tVar, tC, tChain, tDrop, RS.tCallG, RS.tMethG, tMakeG, RS.tCallK, RS.tMakeK, tEqOwn, rI, rI0, rU, add_ii, add_ss, add_rr, mul_ii, mul_si, mul_ri, RS.eq_ii, RS.eq_ss, eq_bb, eq_nn, eq_sn, eq_ns, eq_in, eq_ni, eq_bn, eq_nb, eq_is, eq_si, eq_rr, ne_ii, ne_ss, ne_bb, ne_nn, ne_sn, ne_ns, ne_in, ne_ni, ne_is, ne_si, ne_rr, in_ss, in_r, nin_ss, nin_r, len_s, len_r, RS.ix_s, RS.ix_r, sl_s, sl_r, is_eq, tyN_n, tyN_b, tyN_i, tyN_s, tru_b, tru_i, tru_n, tSl, tPart, tNoPart, tPar, tPar3, tFmtZ, tFmt, tJs, tDGet, sDPut, sFld, tFld, tTup, tLst, tNever, isB,
  L2.start, List.map_cons, List.map_nil, List.length_cons, List.length_nil, Nat.reduceAdd, Nat.reduceSub, Nat.sub_self, List.replicate_zero, List.replicate_succ, List.append_nil, List.cons_append, List.nil_append, List.getElem?_cons_zero, List.getElem?_cons_succ, List.set_cons_zero, List.set_cons_succ, Option.some.injEq, exists_eq_left, exists_eq_left', exists_and_left, V.bl.injEq, V.int.injEq, V.str.injEq, V.ref.injEq, beq_self_eq_true, Bool.true_or, Bool.or_true, Bool.false_or, Bool.or_false, Bool.and_false, Bool.false_and, Bool.true_and, Bool.and_true, Bool.not_true, Bool.not_false, Bool.false_eq_true, if_true, if_false, ite_true, ite_false, true_and, and_true, and_assoc, String.reduceBEq, String.reduceEq, reduceIte, Bool.and_self, reduceCtorEq, false_and, and_false, exists_false, or_false, false_or, exists_const, iEnumS, iStr, iList, iTup, iRng1, iEnum, tFor_eq, tLc_eq, List.cons.injEq, wipe, not_true_eq_false, not_false_eq_true, upd_same, HO.ins.injEq, HO.tup.injEq, HO.lst.injEq, ofS_eq, lk_nil, lk_cons, pu_nil, pu_cons, sizeLine_eq, Nat.reduceLT, Nat.reduceLeDiff, Nat.reduceEqDiff, Nat.le_refl, decide_true, decide_false, tPr, dget_us, dput_us, vv_nil, vv_cons, RS.pk_nil, pk_one, RS.pk_cons, inr_eq, tDisp, tPairs, tBoolOwn, rBoolOwn, tBM, rAppend, ty_list, ty_str, rEqOwn, iEnumT, RS.tCallS, tM1, tDc_eq, tLock, tLockE, iKeys, tListEnum, rUpdate, tMkX0, tMkX1, tXfv, gSub, rSetL, List.getD_cons_zero, List.getD_cons_succ, tCMethS, ClX.tCVal, tXfa, tIxOwn, tInOwn, tPropG, tMethK, tMethP, tListGen, tDGet2, tDPop2, rNeD0, intA_i, intA_b, tRevL, sFldAug, tPm0, tPm1, tDIn, tDNotIn, tDNewK, RS.tMethS]
    intro H1 e1
    rw [e1]; clear e1 H1
    refine mid_one [some (.ref a), some (.str "l"), some (.str (("l" : Str) ++ num ds.length ++ ":")), none, none] (fun H1 => H1 = H) ?_ ?_
    · walk_at "sx"
      simp only [Str.empty_append, Str.length_append]
      exact ⟨by omega, by omega, .inl ⟨xs, .inl (SqL.of h), num_log (by omega), by rw [hl]; omega, by rw [hl]; omega, by rw [hl]; rfl⟩⟩
    intro H1 e1
    rw [e1]; clear e1 H1
    walk_at "sx"
    refine ⟨⟨_, rfl⟩, .inl ⟨⟨xs, SqL.of h⟩, ?_⟩⟩
    have e2 : (("l" : Str) ++ num ds.length ++ ":" ++ spells ds).length ≤ 1000000 := hz
    refine spell_items 4 (fun _ => rfl) (fun _ => rfl) (Same.refl _) hs hok.2 hok.1 (by simp only [PyData.depth] at hn; omega) (by omega) (fun i G lt sm => ⟨_, xs[i], SqL.of (sm _ _ h), List.getElem?_eq_getElem lt⟩) (fun G sm => ⟨_, SqL.of (sm _ _ h), Nat.le_refl _⟩) (fun i G x G' lt sm y => ⟨y.1, y.2 _ (SqL.of (sm _ _ h))⟩) (fun L ys G sm eL ec hs2 => ?_)
    refine ⟨L, rfl, ys, .inl (SqL.of eL), by rw [show (Str.ofString "").length = 0 from by decide +kernel]; omega, ?_⟩
    rw [join0, ec]
    exact ⟨by simp only [Str.length_append, num]; omega, q _ sm⟩
  | @tup a xs ds fp h hs =>
    simp only [okB, Bool.and_eq_true, decide_eq_true_eq] at hok
    have hl := hs.len
    simp only [spell] at hz
    have hz' := hz
    simp only [Str.length_append, num] at hz'
    simp only [tyN_t h, tRet, tRetN, tSeq, C8.tCut, tNext, tAsg, gName, gNil, gCons, gTup, gFld, tIfS, tIf, tAndV, tOrV, tNotV, tAnd, tOr, tNot, tB, tTest, tOp, tUn, tCB, tCons, tNil, tVar, tC, tChain, tDrop, RS.tCallG, RS.tMethG, tMakeG, RS.tCallK, RS.tMakeK, tEqOwn, rI, rI0, rU, add_ii, add_ss, add_rr, mul_ii, mul_si, mul_ri, RS.eq_ii, RS.eq_ss, eq_bb, eq_nn, eq_sn, eq_ns, eq_in, eq_ni, eq_bn, eq_nb, eq_is, eq_si, eq_rr, ne_ii, ne_ss, ne_bb, ne_nn, ne_sn, ne_ns, ne_in, ne_ni, ne_is, ne_si, ne_rr, in_ss, in_r, nin_ss, nin_r, len_s, len_r, RS.ix_s, RS.ix_r, sl_s, sl_r, is_eq, tyN_n, tyN_b, tyN_i, tyN_s, tru_b, tru_i, tru_n, tSl, tPart, tNoPart, tPar, tPar3, tFmtZ, tFmt, tJs, tDGet, sDPut, sFld, tFld, tTup, tLst, tNever, isB,
  L2.start, List.map_cons, List.map_nil, List.length_cons, List.length_nil, Nat.reduceAdd, Nat.reduceSub, Nat.sub_self, List.replicate_zero, List.replicate_succ, List.append_nil, List.cons_append, List.nil_append, List.getElem?_cons_zero, List.getElem?_cons_succ, List.set_cons_zero, List.set_cons_succ, Option.some.injEq, exists_eq_left, exists_eq_left', exists_and_left, V.bl.injEq, V.int.injEq, V.str.injEq, V.ref.injEq, beq_self_eq_true, Bool.true_or, Bool.or_true, Bool.false_or, Bool.or_false, Bool.and_false, Bool.false_and, Bool.true_and, Bool.and_true, Bool.not_true, Bool.not_false, Bool.false_eq_true, if_true, if_false, ite_true, ite_false, true_and, and_true, and_assoc, String.reduceBEq, String.reduceEq, reduceIte, Bool.and_self, reduceCtorEq, false_and, and_false, exists_false, or_false, false_or, exists_const, iEnumS, iStr, iList, iTup, iRng1, iEnum, tFor_eq, tLc_eq, List.cons.injEq, wipe, not_true_eq_false, not_false_eq_true, upd_same, HO.ins.injEq, HO.tup.injEq, HO.lst.injEq, ofS_eq, lk_nil, lk_cons, pu_nil, pu_cons, sizeLine_eq, Nat.reduceLT, Nat.reduceLeDiff, Nat.reduceEqDiff, Nat.le_refl, decide_true, decide_false, tPr, dget_us, dput_us, vv_nil, vv_cons, RS.pk_nil, pk_one, RS.pk_cons, inr_eq, tDisp, tPairs, tBoolOwn, rBoolOwn, tBM, rAppend, ty_list, ty_str, rEqOwn, iEnumT, RS.tCallS, tM1, tDc_eq, tLock, tLockE, iKeys, tListEnum, rUpdate, tMkX0, tMkX1, tXfv, gSub, rSetL, List.getD_cons_zero, List.getD_cons_succ, tCMethS, ClX.tCVal, tXfa, tIxOwn, tInOwn, tPropG, tMethK, tMethP, tListGen, tDGet2, tDPop2, rNeD0, intA_i, intA_b, tRevL, sFldAug, tPm0, tPm1, tDIn, tDNotIn, tDNewK, RS.tMethS]
    refine mid_one [some (.ref a), some (.str "u"), none, none, none] (fun H1 => H1 = H) ?_ ?_
    · simp only [tyN_t h, tRet, tRetN, tSeq, C8.tCut, tNext, tAsg, gName, gNil, gCons, gTup, gFld, tIfS, tIf, tAndV, tOrV, tNotV, tAnd, tOr, tNot, tB, tTest, tOp, tUn, tCB, tCons, tNil, tVar, tC, tChain, tDrop, RS.tCallG, RS.tMethG, tMakeG, RS.tCallK, RS.tMakeK, tEqOwn, rI, rI0, rU, add_ii, add_ss, add_rr, mul_ii, mul_si, mul_ri, RS.eq_ii, RS.eq_ss, eq_bb, eq_nn, eq_sn, eq_ns, eq_in, eq_ni, eq_bn, eq_nb, eq_is, eq_si, eq_rr, ne_ii, ne_ss, ne_bb, ne_nn, ne_sn, ne_ns, ne_in, ne_ni, ne_is, ne_si, ne_rr, in_ss, in_r, nin_ss, nin_r, len_s, len_r, RS.ix_s, RS.ix_r, sl_s, sl_r, is_eq, tyN_n, tyN_b, tyN_i, tyN_s, tru_b, tru_i, tru_n, tSl, tPart, tNoPart, tPar, tPar3, tFmtZ, tFmt, tJs, tDGet, sDPut, sFld, tFld, tTup, tLst, tNever, isB,
  L2.start, List.map_cons, List.map_nil, List.length_cons, List.length_nil, Nat.reduceAdd, Nat.reduceSub, Nat.sub_self, List.replicate_zero, List.replicate_succ, List.append_nil, List.cons_append, List.nil_append, List.getElem?_cons_zero, List.getElem?_cons_succ, List.set_cons_zero, List.set_cons_succ, Option.some.injEq, exists_eq_left, exists_eq_left', exists_and_left, V.bl.injEq, V.int.injEq, V.str.injEq, V.ref.injEq, beq_self_eq_true, Bool.true_or, Bool.or_true, Bool.false_or, Bool.or_false, Bool.and_false, Bool.false_and, Bool.true_and, Bool.and_true, Bool.not_true, Bool.not_false, Bool.false_eq_true, if_true, if_false, ite_true, ite_false, true_and, and_true, and_assoc, String.reduceBEq, String.reduceEq, reduceIte, Bool.and_self, reduceCtorEq, false_and, and_false, exists_false, or_false, false_or, exists_const, iEnumS, iStr, iList, iTup, iRng1, iEnum, tFor_eq, tLc_eq, List.cons.injEq, wipe, not_true_eq_false, not_false_eq_true, upd_same, HO.ins.injEq, HO.tup.injEq, HO.lst.injEq, ofS_eq, lk_nil, lk_cons, pu_nil, pu_cons, sizeLine_eq, Nat.reduceLT, Nat.reduceLeDiff, Nat.reduceEqDiff, Nat.le_refl, decide_true, decide_false, tPr, dget_us, dput_us, vv_nil, vv_cons, RS.pk_nil, pk_one, RS.pk_cons, inr_eq, tDisp, tPairs, tBoolOwn, rBoolOwn, tBM, rAppend, ty_list, ty_str, rEqOwn, iEnumT, RS.tCallS, tM1, tDc_eq, tLock, tLockE, iKeys, tListEnum, rUpdate, tMkX0, tMkX1, tXfv, gSub, rSetL, List.getD_cons_zero, List.getD_cons_succ, tCMethS, ClX.tCVal, tXfa, tIxOwn, tInOwn, tPropG, tMethK, tMethP, tListGen, tDGet2, tDPop2, rNeD0, intA_i, intA_b, tRevL, sFldAug, tPm0, tPm1, tDIn, tDNotIn, tDNewK, RS.tMethS]
    intro H1 e1
    rw [e1]; clear e1 H1
    refine mid_one [some (.ref a), some (.str "u"), some (.str (("u" : Str) ++ num ds.length ++ ":")), none, none] (fun H1 => H1 = H) ?_ ?_
    · walk_at "sx"
      simp only [Str.empty_append, Str.length_append]
      exact ⟨by omega, by omega, .inl ⟨xs, .inr (SqT.of h), num_log (by omega), by rw [hl]; omega, by rw [hl]; omega, by rw [hl]; rfl⟩⟩
    intro H1 e1
    rw [e1]; clear e1 H1
    walk_at "sx"
    refine ⟨⟨_, rfl⟩, .inr ⟨⟨xs, SqT.of h⟩, ?_⟩⟩
    have e2 : (("u" : Str) ++ num ds.length ++ ":" ++ spells ds).length ≤ 1000000 := hz
    refine spell_items 4 (fun _ => rfl) (fun _ => rfl) (Same.refl _) hs hok.2 hok.1 (by simp only [PyData.depth] at hn; omega) (by omega) (fun i G lt sm => ⟨_, xs[i], SqT.of (sm _ _ h), List.getElem?_eq_getElem lt⟩) (fun G sm => ⟨_, SqT.of (sm _ _ h), Nat.le_refl _⟩) (fun i G x G' lt sm y => ⟨y.1, y.2 _ (SqT.of (sm _ _ h))⟩) (fun L ys G sm eL ec hs2 => ?_)
    refine ⟨L, rfl, ys, .inl (SqL.of eL), by rw [show (Str.ofString "").length = 0 from by decide +kernel]; omega, ?_⟩
    rw [join0, ec]
    exact ⟨by simp only [Str.length_append, num]; omega, q _ sm⟩
  | @dct a kvs D fp h hs na nd =>
    simp only [okB, Bool.and_eq_true, decide_eq_true_eq] at hok
    have hl := hs.len
    simp only [spell] at hz
    have hz' := hz
    simp only [Str.length_append, num] at hz'
    simp only [tyN_d h, tRet, tRetN, tSeq, C8.tCut, tNext, tAsg, gName, gNil, gCons, gTup, gFld, tIfS, tIf, tAndV, tOrV, tNotV, tAnd, tOr, tNot, tB, tTest, tOp, tUn, tCB, tCons, tNil, tVar, tC, tChain, tDrop, RS.tCallG, RS.tMethG, tMakeG, RS.tCallK, RS.tMakeK, tEqOwn, rI, rI0, rU, add_ii, add_ss, add_rr, mul_ii, mul_si, mul_ri, RS.eq_ii, RS.eq_ss, eq_bb, eq_nn, eq_sn, eq_ns, eq_in, eq_ni, eq_bn, eq_nb, eq_is, eq_si, eq_rr, ne_ii, ne_ss, ne_bb, ne_nn, ne_sn, ne_ns, ne_in, ne_ni, ne_is, ne_si, ne_rr, in_ss, in_r, nin_ss, nin_r, len_s, len_r, RS.ix_s, RS.ix_r, sl_s, sl_r, is_eq, tyN_n, tyN_b, tyN_i, tyN_s, tru_b, tru_i, tru_n, tSl, tPart, tNoPart, tPar, tPar3, tFmtZ, tFmt, tJs, tDGet, sDPut, sFld, tFld, tTup, tLst, tNever, isB,
  L2.start, List.map_cons, List.map_nil, List.length_cons, List.length_nil, Nat.reduceAdd, Nat.reduceSub, Nat.sub_self, List.replicate_zero, List.replicate_succ, List.append_nil, List.cons_append, List.nil_append, List.getElem?_cons_zero, List.getElem?_cons_succ, List.set_cons_zero, List.set_cons_succ, Option.some.injEq, exists_eq_left, exists_eq_left', exists_and_left, V.bl.injEq, V.int.injEq, V.str.injEq, V.ref.injEq, beq_self_eq_true, Bool.true_or, Bool.or_true, Bool.false_or, Bool.or_false, Bool.and_false, Bool.false_and, Bool.true_and, Bool.and_true, Bool.not_true, Bool.not_false, Bool.false_eq_true, if_true, if_false, ite_true, ite_false, true_and, and_true, and_assoc, String.reduceBEq, String.reduceEq, reduceIte, Bool.and_self, reduceCtorEq, false_and, and_false, exists_false, or_false, false_or, exists_const, iEnumS, iStr, iList, iTup, iRng1, iEnum, tFor_eq, tLc_eq, List.cons.injEq, wipe, not_true_eq_false, not_false_eq_true, upd_same, HO.ins.injEq, HO.tup.injEq, HO.lst.injEq, ofS_eq, lk_nil, lk_cons, pu_nil, pu_cons, sizeLine_eq, Nat.reduceLT, Nat.reduceLeDiff, Nat.reduceEqDiff, Nat.le_refl, decide_true, decide_false, tPr, dget_us, dput_us, vv_nil, vv_cons, RS.pk_nil, pk_one, RS.pk_cons, inr_eq, tDisp, tPairs, tBoolOwn, rBoolOwn, tBM, rAppend, ty_list, ty_str, rEqOwn, iEnumT, RS.tCallS, tM1, tDc_eq, tLock, tLockE, iKeys, tListEnum, rUpdate, tMkX0, tMkX1, tXfv, gSub, rSetL, List.getD_cons_zero, List.getD_cons_succ, tCMethS, ClX.tCVal, tXfa, tIxOwn, tInOwn, tPropG, tMethK, tMethP, tListGen, tDGet2, tDPop2, rNeD0, intA_i, intA_b, tRevL, sFldAug, tPm0, tPm1, tDIn, tDNotIn, tDNewK, RS.tMethS]
    refine mid_one [some (.ref a), some (.str "d"), none, none, none] (fun H1 => H1 = H) ?_ ?_
    · simp only [tyN_d h, tRet, tRetN, tSeq, C8.tCut, tNext, tAsg, gName, gNil, gCons, gTup, gFld, tIfS, tIf, tAndV, tOrV, tNotV, tAnd, tOr, tNot, tB, tTest, tOp, tUn, tCB, tCons, tNil, tVar, tC, tChain, tDrop, RS.tCallG, RS.tMethG, tMakeG, RS.tCallK, RS.tMakeK, tEqOwn, rI, rI0, rU, add_ii, add_ss, add_rr, mul_ii, mul_si, mul_ri, RS.eq_ii, RS.eq_ss, eq_bb, eq_nn, eq_sn, eq_ns, eq_in, eq_ni, eq_bn, eq_nb, eq_is, eq_si, eq_rr, ne_ii, ne_ss, ne_bb, ne_nn, ne_sn, ne_ns, ne_in, ne_ni, ne_is, ne_si, ne_rr, in_ss, in_r, nin_ss, nin_r, len_s, len_r, RS.ix_s, RS.ix_r, sl_s, sl_r, is_eq, tyN_n, tyN_b, tyN_i, tyN_s, tru_b, tru_i, tru_n, tSl, tPart, tNoPart, tPar, tPar3, tFmtZ, tFmt, tJs, tDGet, sDPut, sFld, tFld, tTup, tLst, tNever, isB,
  L2.start, List.map_cons, List.map_nil, List.length_cons, List.length_nil, Nat.reduceAdd, Nat.reduceSub, Nat.sub_self, List.replicate_zero, List.replicate_succ, List.append_nil, List.cons_append, List.nil_append, List.getElem?_cons_zero, List.getElem?_cons_succ, List.set_cons_zero, List.set_cons_succ, Option.some.injEq, exists_eq_left, exists_eq_left', exists_and_left, V.bl.injEq, V.int.injEq, V.str.injEq, V.ref.injEq, beq_self_eq_true, Bool.true_or, Bool.or_true, Bool.false_or, Bool.or_false, Bool.and_false, Bool.false_and, Bool.true_and, Bool.and_true, Bool.not_true, Bool.not_false, Bool.false_eq_true, if_true, if_false, ite_true, ite_false, true_and, and_true, and_assoc, String.reduceBEq, String.reduceEq, reduceIte, Bool.and_self, reduceCtorEq, false_and, and_false, exists_false, or_false, false_or, exists_const, iEnumS, iStr, iList, iTup, iRng1, iEnum, tFor_eq, tLc_eq, List.cons.injEq, wipe, not_true_eq_false, not_false_eq_true, upd_same, HO.ins.injEq, HO.tup.injEq, HO.lst.injEq, ofS_eq, lk_nil, lk_cons, pu_nil, pu_cons, sizeLine_eq, Nat.reduceLT, Nat.reduceLeDiff, Nat.reduceEqDiff, Nat.le_refl, decide_true, decide_false, tPr, dget_us, dput_us, vv_nil, vv_cons, RS.pk_nil, pk_one, RS.pk_cons, inr_eq, tDisp, tPairs, tBoolOwn, rBoolOwn, tBM, rAppend, ty_list, ty_str, rEqOwn, iEnumT, RS.tCallS, tM1, tDc_eq, tLock, tLockE, iKeys, tListEnum, rUpdate, tMkX0, tMkX1, tXfv, gSub, rSetL, List.getD_cons_zero, List.getD_cons_succ, tCMethS, ClX.tCVal, tXfa, tIxOwn, tInOwn, tPropG, tMethK, tMethP, tListGen, tDGet2, tDPop2, rNeD0, intA_i, intA_b, tRevL, sFldAug, tPm0, tPm1, tDIn, tDNotIn, tDNewK, RS.tMethS]
    intro H1 e1
    rw [e1]; clear e1 H1
    refine mid_one [some (.ref a), some (.str "d"), some (.str (("d" : Str) ++ num D.length ++ ":")), none, none] (fun H1 => H1 = H) ?_ ?_
    · walk_at "sx"
      simp only [Str.empty_append, Str.length_append]
      exact ⟨by omega, by omega, .inr ⟨kvs, h, num_log (by omega), by rw [hl]; omega, by rw [hl]; omega, by rw [hl]; rfl⟩⟩
    intro H1 e1
    rw [e1]; clear e1 H1
    walk_at "sx"
    refine ⟨⟨_, rfl⟩, a, _, h, True.intro, fun od => ⟨od, .inl ⟨kvs, upd_same, ?_⟩⟩⟩
    have hlk : ∀ c o, c ≠ a → H c = some o → upd H a (.frz od (.dK kvs)) c = some o := fun c o n z => by rw [upd_ne n]; exact z
    have hs1 : TrD (upd H a (.frz od (.dK kvs))) kvs D fp := hs.but (p := a) (fun xs z => by rw [h] at z; cases z) hlk na
    refine lc_all kvs.length (fun i => .str (spell ((D[i]?.getD (.none, .none)).1) ++ spell ((D[i]?.getD (.none, .none)).2))) (by rw [sizeLine_eq]; omega) (fun i G lt sm => ⟨sm _ _ upd_same, lt⟩) (fun G sm => ⟨sm _ _ upd_same, Nat.le_refl _⟩) (fun i G x G' K lt sm y k => ?_) (fun L G hL sm eL => ?_)
    · obtain ⟨rfl, k0, v0, hk, rfl⟩ := y
      obtain ⟨x, v, d, f', e1, e2, t, _⟩ := hs1.get lt
      rw [hk] at e1
      cases e1
      refine ⟨rfl, ?_⟩
      simp only [kV, tRet, tRetN, tSeq, C8.tCut, tNext, tAsg, gName, gNil, gCons, gTup, gFld, tIfS, tIf, tAndV, tOrV, tNotV, tAnd, tOr, tNot, tB, tTest, tOp, tUn, tCB, tCons, tNil, tVar, tC, tChain, tDrop, RS.tCallG, RS.tMethG, tMakeG, RS.tCallK, RS.tMakeK, tEqOwn, rI, rI0, rU, add_ii, add_ss, add_rr, mul_ii, mul_si, mul_ri, RS.eq_ii, RS.eq_ss, eq_bb, eq_nn, eq_sn, eq_ns, eq_in, eq_ni, eq_bn, eq_nb, eq_is, eq_si, eq_rr, ne_ii, ne_ss, ne_bb, ne_nn, ne_sn, ne_ns, ne_in, ne_ni, ne_is, ne_si, ne_rr, in_ss, in_r, nin_ss, nin_r, len_s, len_r, RS.ix_s, RS.ix_r, sl_s, sl_r, is_eq, tyN_n, tyN_b, tyN_i, tyN_s, tru_b, tru_i, tru_n, tSl, tPart, tNoPart, tPar, tPar3, tFmtZ, tFmt, tJs, tDGet, sDPut, sFld, tFld, tTup, tLst, tNever, isB,
  L2.start, List.map_cons, List.map_nil, List.length_cons, List.length_nil, Nat.reduceAdd, Nat.reduceSub, Nat.sub_self, List.replicate_zero, List.replicate_succ, List.append_nil, List.cons_append, List.nil_append, List.getElem?_cons_zero, List.getElem?_cons_succ, List.set_cons_zero, List.set_cons_succ, Option.some.injEq, exists_eq_left, exists_eq_left', exists_and_left, V.bl.injEq, V.int.injEq, V.str.injEq, V.ref.injEq, beq_self_eq_true, Bool.true_or, Bool.or_true, Bool.false_or, Bool.or_false, Bool.and_false, Bool.false_and, Bool.true_and, Bool.and_true, Bool.not_true, Bool.not_false, Bool.false_eq_true, if_true, if_false, ite_true, ite_false, true_and, and_true, and_assoc, String.reduceBEq, String.reduceEq, reduceIte, Bool.and_self, reduceCtorEq, false_and, and_false, exists_false, or_false, false_or, exists_const, iEnumS, iStr, iList, iTup, iRng1, iEnum, tFor_eq, tLc_eq, List.cons.injEq, wipe, not_true_eq_false, not_false_eq_true, upd_same, HO.ins.injEq, HO.tup.injEq, HO.lst.injEq, ofS_eq, lk_nil, lk_cons, pu_nil, pu_cons, sizeLine_eq, Nat.reduceLT, Nat.reduceLeDiff, Nat.reduceEqDiff, Nat.le_refl, decide_true, decide_false, tPr, dget_us, dput_us, vv_nil, vv_cons, RS.pk_nil, pk_one, RS.pk_cons, inr_eq, tDisp, tPairs, tBoolOwn, rBoolOwn, tBM, rAppend, ty_list, ty_str, rEqOwn, iEnumT, RS.tCallS, tM1, tDc_eq, tLock, tLockE, iKeys, tListEnum, rUpdate, tMkX0, tMkX1, tXfv, gSub, rSetL, List.getD_cons_zero, List.getD_cons_succ, tCMethS, ClX.tCVal, tXfa, tIxOwn, tInOwn, tPropG, tMethK, tMethP, tListGen, tDGet2, tDPop2, rNeD0, intA_i, intA_b, tRevL, sFldAug, tPm0, tPm1, tDIn, tDNotIn, tDNewK, RS.tMethS]
      have b1 := depth_kv e2
      have b2 := spellKv_get e2
      have b3 : PyData.depthKv D < n := by simp only [PyData.depth] at hn; omega
      refine ⟨_, rfl, .str x, [], .str x, (okKv_get hok.2 e2).1, by simp only [PyData.depth]; omega, by omega, fun H' s' => ⟨v0, .inl ⟨kvs, .inr x, .inr ⟨od, s' _ _ (sm _ _ upd_same)⟩, rfl, (valV_at nd hk).symm⟩, _, rfl, d, f', t.same (sm.trans s'), (okKv_get hok.2 e2).2, by omega, by omega, fun H'' s'' => ?_⟩⟩
      walk_at "sx"
      have := k H'' (s'.trans s'')
      rw [e2] at this
      exact ⟨by omega, this⟩
    · have e : (List.range kvs.length).map (fun i => V.str (spell ((D[i]?.getD (.none, .none)).1) ++ spell ((D[i]?.getD (.none, .none)).2))) = (D.map fun p => spell p.1 ++ spell p.2).map V.str := by
        rw [hl]
        refine List.ext_getElem (by simp) fun i h1 h2 => ?_
        simp at h1 h2
        simp [h1]
      have La := fresh_lock hL
      refine ⟨sm _ _ upd_same, L, rfl, D.map fun p => spell p.1 ++ spell p.2, .inl (SqL.of (by rw [upd_ne La.1, eL, e])), ?_, ?_⟩
      · have := cat_len (D.map fun p => spell p.1 ++ spell p.2)
        rw [cat_map_kv] at this
        have e0 : (Str.ofString "").length = 0 := by decide +kernel
        rw [e0, ← this]; omega
      · rw [join0, cat_map_kv]
        exact ⟨by simp only [Str.length_append, num]; omega, q _ (unlock h sm)⟩
end


theorem TrL.snoc {H : Hp} {v : V} {d : PyData} {f2 : List Addr} (h : Tr H v d f2) : ∀ {vs : List V} {ds : List PyData} {f1 : List Addr}, TrL H vs ds f1 → TrL H (vs ++ [v]) (ds ++ [d]) (f1 ++ f2)
  | _, _, _, .nil => by simpa using TrL.cons h .nil
  | _, _, _, .cons h1 hs => by simpa [List.append_assoc] using TrL.cons h1 (TrL.snoc h hs)
theorem TrD.snoc {H : Hp} {x : Str} {v : V} {d : PyData} {f2 : List Addr} (h : Tr H v d f2) : ∀ {vs : List (Key × V)} {ds : List (PyData × PyData)} {f1 : List Addr}, TrD H vs ds f1 → TrD H (vs ++ [(.inr x, v)]) (ds ++ [(.str x, d)]) (f1 ++ f2)
  | _, _, _, .nil => by simpa using TrD.cons (x := x) h .nil
  | _, _, _, .cons h1 hs => by simpa [List.append_assoc] using TrD.cons h1 (TrD.snoc h hs)
/-- a new key is put behind -/
theorem putK_new {kvs : List (Key × V)} {k : Key} {v : V} (h : k ∉ kvs.map (·.1)) : putK kvs k v = kvs ++ [(k, v)] := by
  unfold putK
  rw [if_neg]
  intro z
  obtain ⟨p, hp, e⟩ := List.any_eq_true.mp z
  exact h (List.mem_map.mpr ⟨p, hp, by simpa using e⟩)


section
variable {g : Wd} {f : Addr} {fd : FuncData}
theorem sc_text_of : FnScope ["value"] ["value"] (defScope s_text_of) := ⟨rfl, rfl, rfl, by decide +kernel, rfl, by decide +kernel, by decide +kernel⟩
def sp_text : Sp := S1 fun v H Q _ => ∃ d fp, Tr H v d fp ∧ okB d = true ∧ d.depth < 21 ∧ (spell d).length ≤ 1000000 ∧ ∀ H', Same H H' → Q (.str (spell d)) H'
theorem ok_text (F : Df g.K "text_of" "text_of" s_text_of f fd .none) (T : Txt g) (F_check_value : Kn g "check_value" 23 ["value"] [] sp_check) (F_spelled : Kn g "spelled" 22 ["value"] [] (sp_spell 21)) : FnG g 24 f fd ["value"] sp_text := by
  refine F.ok sc_text_of (fun vs H Q E h => S1.len h) (fun cdv A outer s H vs Q E hr h => ?_)
  obtain ⟨v, rfl, d, fp, hv, hok, hn, hz, q⟩ := h
  refine ⟨_, (pss_cons (ps_expr (pe_callG F_check_value (hr.mono (by first | decide | omega)) tkD (pa_cons (pv 0) pa_nil)))
      (pss_one (ps_ret (pe_callG F_spelled (hr.mono (by first | decide | omega)) tkD (pa_cons (pv 0) pa_nil))))), ?_⟩
  walk_at "sx"
  refine ⟨_, rfl, d, fp, hv, hok, hn, fun H1 s1 => ?_⟩
  walk_at "sx"
  exact ⟨_, rfl, d, fp, hv.same s1, hok, hn, hz, fun H2 s2 => q _ (s1.trans s2)⟩
end


section
variable {g : Wd} {f : Addr} {fd : FuncData}
theorem sc_l_mixed : FnScope ["_law_number_here", "_law_k"] ["_law_number_here", "_law_k"] (defScope s_l_mixed) := ⟨rfl, rfl, rfl, by decide +kernel, rfl, by decide +kernel, by decide +kernel⟩
def mixed (n k : Int) : Int := (n % 2147483647 + 7919 * k * k + 31 * k) * 48271 % 2147483647 * (69621 + 2 * k) % 2147483629
def sp_mixed : Sp := S2 fun a b H Q _ => ∃ n k : Int, a = .int n ∧ b = .int k ∧ 0 ≤ k ∧ k < 1000000 ∧ Q (.int (mixed n k)) H
theorem ok_mixed (F : Df g.K "_law_mixed" "_law_mixed" s_l_mixed f fd .none) (T : Txt g) : FnG g 1 f fd ["_law_number_here", "_law_k"] sp_mixed := by
  refine F.ok sc_l_mixed (fun vs H Q E h => S2.len h) (fun cdv A outer s H vs Q E hr h => ?_)
  obtain ⟨_, _, rfl, n, k, rfl, rfl, k0, k1, q⟩ := h
  refine ⟨_, (pss_cons (ps_set (i := 0) sc_l_mixed.nd rfl (Or.inl rfl) (pe_op op_mod (pe_op o_mul (pe_op (o_add (K := g.K)) (pe_op (o_add (K := g.K)) (pe_op op_mod (pv 0) pe_int) (pe_op o_mul (pe_op o_mul pe_int (pv 1)) (pv 1))) (pe_op o_mul pe_int (pv 1))) pe_int) pe_int))
      (pss_one (ps_ret (pe_op op_mod (pe_op o_mul (pv 0) (pe_op (o_add (K := g.K)) pe_int (pe_op o_mul pe_int (pv 1)))) pe_int)))), ?_⟩
  walk_at "sx"
  refine ⟨by decide, .inl ⟨by decide, by decide⟩, .inr ⟨by omega, by omega⟩, .inl ⟨by decide, by decide⟩, .inr ⟨by decide, by decide⟩, by decide, .inl ⟨by decide, by decide⟩, .inr ⟨by omega, by omega⟩, by decide, q⟩
theorem mixed_lo (n k : Int) : 0 ≤ mixed n k := Int.emod_nonneg _ (by decide)
/-- a stream: three numbers in a list -/
def Str3 (H : Hp) (p : Addr) (N : Nat) : Prop := ∃ a b c : Int, H p = some (.lst [.int a, .int b, .int c]) ∧ 0 ≤ b ∧ b ≤ N
theorem sc_l_stream : FnScope ["_law_item_here", "_law_k"] ["_law_item_here", "_law_k"] (defScope s_l_stream) := ⟨rfl, rfl, rfl, by decide +kernel, rfl, by decide +kernel, by decide +kernel⟩
def sp_stream : Sp := S2 fun a b H Q _ => ∃ n k : Int, a = .int n ∧ b = .int k ∧ 0 ≤ k ∧ k < 1000000 ∧ ∀ p H', H p = none → Same H H' → Str3 H' p 0 → Q (.ref p) H'
theorem ok_stream (F : Df g.K "_law_stream" "_law_stream" s_l_stream f fd .none) (T : Txt g) (F_l_mixed : Kn g "_law_mixed" 1 ["_law_number_here", "_law_k"] [] sp_mixed) : FnG g 2 f fd ["_law_item_here", "_law_k"] sp_stream := by
  refine F.ok sc_l_stream (fun vs H Q E h => S2.len h) (fun cdv A outer s H vs Q E hr h => ?_)
  obtain ⟨_, _, rfl, n, k, rfl, rfl, k0, k1, q⟩ := h
  refine ⟨_, (pss_one (ps_ret (pe_lst (pa_cons (pe_ifExp (pt_cmpR op_ge (pv 0) (pe_op op_pow pe_int pe_int) (nomark _)) (pv 0) pe_int) (pa_cons pe_int (pa_cons (pe_callG F_l_mixed (hr.mono (by first | decide | omega)) tkD (pa_cons (pv 0) (pa_cons (pv 1) pa_nil))) pa_nil)))))), ?_⟩
  walk_at "sx"
  refine ⟨⟨by decide, by decide, by decide⟩, ?_⟩
  split
  · exact ⟨_, _, rfl, n, k, rfl, rfl, k0, k1, fun p hp => q p _ hp (same_upd hp) ⟨_, _, _, upd_same, by decide, by decide⟩⟩
  · exact ⟨_, _, rfl, n, k, rfl, rfl, k0, k1, fun p hp => q p _ hp (same_upd hp) ⟨_, _, _, upd_same, by decide, by decide⟩⟩
theorem sc_l_draw : FnScope ["_law_stream_here", "_law_top", "_law_number_here"] ["_law_stream_here", "_law_top"] (defScope s_l_draw) := ⟨rfl, rfl, rfl, by decide +kernel, rfl, by decide +kernel, by decide +kernel⟩
def sp_draw : Sp := S2 fun a b H Q _ => ∃ (p : Addr) (N : Nat) (m : Int), a = .ref p ∧ b = .int m ∧ 0 < m ∧ m < 1000000 ∧ Str3 H p N ∧ N < 100000 ∧ ∀ (r : Int) H', 0 ≤ r → r < m → Str3 H' p (N + 1) → (∀ c o, c ≠ p → H c = some o → H' c = some o) → Q (.int r) H'
theorem ok_draw (F : Df g.K "_law_draw" "_law_draw" s_l_draw f fd .none) (T : Txt g) (F_l_mixed : Kn g "_law_mixed" 1 ["_law_number_here", "_law_k"] [] sp_mixed) : FnG g 2 f fd ["_law_stream_here", "_law_top"] sp_draw := by
  refine F.ok sc_l_draw (fun vs H Q E h => S2.len h) (fun cdv A outer s H vs Q E hr h => ?_)
  obtain ⟨_, _, rfl, p, N, m, rfl, rfl, m0, m1, ⟨a, b, c, hp, b0, b1⟩, hN, q⟩ := h
  refine ⟨_, (pss_cons (ps_asg (pe_op (o_add (K := g.K)) (pe_ix (o_ix (K := g.K)) (pv 0) pe_int (fun _ _ => rfl)) pe_int) (pg_sub (pv 0) pe_int set_list))
      (pss_cons (ps_if (pt_cmpR (o_eq (K := g.K) hr) (pe_ix (o_ix (K := g.K)) (pv 0) pe_int (fun _ _ => rfl)) pe_int (nomark _)) (pss_one (ps_ret (pe_op op_mod (pe_callG F_l_mixed (hr.mono (by first | decide | omega)) tkD (pa_cons (pe_callG F_l_mixed (hr.mono (by first | decide | omega)) tkD (pa_cons (pe_ix (o_ix (K := g.K)) (pv 0) pe_int (fun _ _ => rfl)) (pa_cons (pe_ix (o_ix (K := g.K)) (pv 0) pe_int (fun _ _ => rfl)) pa_nil))) (pa_cons pe_int pa_nil))) (pv 1)))) pss_nil)
      (pss_cons (ps_set (i := 2) sc_l_draw.nd rfl (Or.inl rfl) (pe_op op_mod (pe_ix (o_ix (K := g.K)) (pv 0) pe_int (fun _ _ => rfl)) (pv 1)))
      (pss_cons (ps_asg (pe_op op_fdiv (pe_ix (o_ix (K := g.K)) (pv 0) pe_int (fun _ _ => rfl)) (pv 1)) (pg_sub (pv 0) pe_int set_list))
      (pss_one (ps_ret (pv 2))))))), ?_⟩
  walk_at "sx"
  refine ⟨_, .inl (SqL.of hp), _, rfl, ?_⟩
  walk_at "sx"
  refine ⟨_, hp, 1, rfl, _, .inl (SqL.of upd_same), _, rfl, ?_⟩
  have e1 : upd H p (.lst ([V.int a, V.int b, V.int c].set 1 (.int (b + 1)))) p = some (.lst [.int a, .int (b + 1), .int c]) := upd_same
  have k1 : ∀ z o, z ≠ p → H z = some o → upd H p (.lst ([V.int a, V.int b, V.int c].set 1 (.int (b + 1)))) z = some o := fun z o hz ho => by rw [upd_ne hz]; exact ho
  generalize upd H p (.lst ([V.int a, V.int b, V.int c].set 1 (.int (b + 1)))) = G at e1 k1 ⊢
  show rEqU g.K (.int a) (.int 0) G _
  walk_at "sx"
  by_cases h0 : a = 0
  · rw [if_pos (by simpa using h0)]
    refine ⟨_, .inl (SqL.of e1), _, rfl, _, .inl (SqL.of e1), _, rfl, ?_⟩
    refine ⟨_, _, rfl, c, b + 1, rfl, rfl, by omega, by omega, _, _, rfl, _, 7, rfl, rfl, by decide, by decide, _, rfl, m0, ?_⟩
    exact q _ _ (Int.emod_nonneg _ (by omega)) (Int.emod_lt_of_pos _ m0) ⟨_, _, _, e1, by omega, by omega⟩ k1
  · rw [if_neg (by simpa using h0)]
    refine ⟨_, .inl (SqL.of e1), _, rfl, _, rfl, m0, _, .inl (SqL.of e1), _, rfl, _, rfl, ⟨m0, by omega⟩, _, e1, 0, rfl, ?_⟩
    exact q _ _ (Int.emod_nonneg _ (by omega)) (Int.emod_lt_of_pos _ m0) ⟨_, _, _, upd_same, by omega, by omega⟩ fun z o hz ho => by rw [upd_ne hz]; exact k1 z o hz ho
theorem sc_l_pick : FnScope ["_law_stream_here", "_law_some"] ["_law_stream_here", "_law_some"] (defScope s_l_pick) := ⟨rfl, rfl, rfl, by decide +kernel, rfl, by decide +kernel, by decide +kernel⟩
def sp_pick : Sp := S2 fun a b H Q _ => ∃ (p s : Addr) (xs : List V) (N : Nat), a = .ref p ∧ b = .ref s ∧ Str3 H p N ∧ N < 100000 ∧ H s = some (.lst xs) ∧ p ≠ s ∧ 0 < xs.length ∧ xs.length < 1000 ∧
  ∀ v H', v ∈ xs → Str3 H' p (N + 1) → (∀ c o, c ≠ p → H c = some o → H' c = some o) → Q v H'
theorem ok_pick (F : Df g.K "_law_pick" "_law_pick" s_l_pick f fd .none) (T : Txt g) (F_l_draw : Kn g "_law_draw" 2 ["_law_stream_here", "_law_top"] [] sp_draw) : FnG g 3 f fd ["_law_stream_here", "_law_some"] sp_pick := by
  refine F.ok sc_l_pick (fun vs H Q E h => S2.len h) (fun cdv A outer s H vs Q E hr h => ?_)
  obtain ⟨_, _, rfl, p, s', xs, N, rfl, rfl, hS, hN, hs, ne, l0, l1, q⟩ := h
  refine ⟨_, (pss_one (ps_ret (pe_ix (o_ix (K := g.K)) (pv 1) (pe_callG F_l_draw (hr.mono (by first | decide | omega)) tkD (pa_cons (pv 0) (pa_cons (pe_callB (c_len (K := g.K)) (by rfl) T.b_len bb_len (pa_cons (pv 1) pa_nil)) pa_nil))) (fun _ _ => rfl)))), ?_⟩
  walk_at "sx"
  refine .inl ⟨xs, .inl (SqL.of hs), ?_⟩
  refine ⟨_, _, rfl, p, N, xs.length, rfl, rfl, by omega, by omega, hS, hN, fun r H' r0 r1 S' k => ?_⟩
  obtain ⟨j, rfl⟩ := Int.eq_ofNat_of_zero_le r0
  have hj : j < xs.length := by omega
  walk_at "sx"
  exact ⟨xs, .inl (SqL.of (k _ _ (Ne.symm ne) hs)), xs[j], atI_nat (List.getElem?_eq_getElem hj), q _ _ (List.getElem_mem hj) S' k⟩

/-- but for the stream at p all stays -/
def But (p : Addr) (H H' : Hp) : Prop := ∀ c o, c ≠ p → H c = some o → H' c = some o
theorem But.trans {p : Addr} {H H1 H2 : Hp} (a : But p H H1) (b : But p H1 H2) : But p H H2 := fun c o n z => b c o n (a c o n z)
theorem But.of {p : Addr} {H H' : Hp} (s : Same H H') : But p H H' := fun c o _ z => s c o z
theorem Str3.same {H H' : Hp} {p : Addr} {N : Nat} (h : Str3 H p N) (s : Same H H') : Str3 H' p N := by obtain ⟨a, b, c, h1, h2⟩ := h; exact ⟨a, b, c, s _ _ h1, h2⟩
theorem Str3.ne {H : Hp} {p q : Addr} {N : Nat} (h : Str3 H p N) (n : H q = none) : q ≠ p := fun e => by obtain ⟨a, b, c, h1, _⟩ := h; rw [← e, n] at h1; cases h1
def wordsA : List Str := ["", "a", "b", "s1:a", "i5;", "l0:", ":", ";", "0", "\n", "n", "ab c", "\"", "d1:"]
def wordsB : List Str := ["", "", "x", "10:"]
theorem wordsA_len : ∀ x ∈ wordsA, x.length ≤ 4 ∧ asc x = true := by decide +kernel
theorem wordsB_len : ∀ x ∈ wordsB, x.length ≤ 4 ∧ asc x = true := by decide +kernel
theorem sc_l_word : FnScope ["_law_stream_here", "_law_some"] ["_law_stream_here"] (defScope s_l_word) := ⟨rfl, rfl, rfl, by decide +kernel, rfl, by decide +kernel, by decide +kernel⟩
def sp_word : Sp := S1 fun a H Q _ => ∃ p N, a = .ref p ∧ Str3 H p N ∧ N + 2 < 100000 ∧ ∀ x H', x.length ≤ 8 → asc x = true → Str3 H' p (N + 2) → But p H H' → Q (.str x) H'
theorem ok_word (F : Df g.K "_law_word" "_law_word" s_l_word f fd .none) (T : Txt g) (F_l_pick : Kn g "_law_pick" 3 ["_law_stream_here", "_law_some"] [] sp_pick) : FnG g 4 f fd ["_law_stream_here"] sp_word := by
  refine F.ok sc_l_word (fun vs H Q E h => S1.len h) (fun cdv A outer s H vs Q E hr h => ?_)
  obtain ⟨_, rfl, p, N, rfl, hS, hN, q⟩ := h
  refine ⟨_, (pss_cons (ps_set (i := 1) sc_l_word.nd rfl (Or.inl rfl) (pe_lst (pa_cons pe_str (pa_cons pe_str (pa_cons pe_str (pa_cons pe_str (pa_cons pe_str (pa_cons pe_str (pa_cons pe_str (pa_cons pe_str (pa_cons pe_str (pa_cons pe_str (pa_cons pe_str (pa_cons pe_str (pa_cons pe_str (pa_cons pe_str pa_nil))))))))))))))))
      (pss_one (ps_ret (pe_op (o_add (K := g.K)) (pe_callG F_l_pick (hr.mono (by first | decide | omega)) tkD (pa_cons (pv 0) (pa_cons (pv 1) pa_nil))) (pe_callG F_l_pick (hr.mono (by first | decide | omega)) tkD (pa_cons (pv 0) (pa_cons (pe_lst (pa_cons pe_str (pa_cons pe_str (pa_cons pe_str (pa_cons pe_str pa_nil))))) pa_nil))))))), ?_⟩
  walk_at "sx"
  intro p1 hp1
  have s1 := same_upd (o := HO.lst (wordsA.map V.str)) hp1
  refine ⟨_, _, rfl, p, p1, wordsA.map V.str, N, rfl, rfl, hS.same s1, by omega, upd_same, (hS.ne hp1).symm, by decide, by decide, fun v1 H1 hv1 S1 k1 => ?_⟩
  walk_at "sx"
  intro p2 hp2
  have s2 := same_upd (o := HO.lst (wordsB.map V.str)) hp2
  refine ⟨_, _, rfl, p, p2, wordsB.map V.str, N + 1, rfl, rfl, S1.same s2, by omega, upd_same, (S1.ne hp2).symm, by decide, by decide, fun v2 H2 hv2 S2 k2 => ?_⟩
  obtain ⟨x1, m1, rfl⟩ := List.mem_map.mp hv1
  obtain ⟨x2, m2, rfl⟩ := List.mem_map.mp hv2
  have l1 := wordsA_len x1 m1
  have l2 := wordsB_len x2 m2
  walk_at "sx"
  exact ⟨by omega, q _ _ (by rw [Str.length_append]; omega) (asc_app l1.2 l2.2) S2 (((But.of s1).trans k1).trans ((But.of s2).trans k2))⟩
theorem Str3.up {H : Hp} {p : Addr} {N M : Nat} (h : Str3 H p N) (l : N ≤ M) : Str3 H p M := by obtain ⟨a, b, c, h1, h2, h3⟩ := h; exact ⟨a, b, c, h1, h2, by omega⟩
theorem sc_l_plain : FnScope ["_law_stream_here", "_law_way", "_law_small", "_law_big"] ["_law_stream_here"] (defScope s_l_plain) := ⟨rfl, rfl, rfl, by decide +kernel, rfl, by decide +kernel, by decide +kernel⟩
def sp_plain : Sp := S1 fun a H Q _ => ∃ p N, a = .ref p ∧ Str3 H p N ∧ N + 4 < 100000 ∧ ∀ v d H', Tr H' v d [] → smB d = true → d.depth = 0 → Str3 H' p (N + 4) → But p H H' → Q v H'
theorem ok_plain (F : Df g.K "_law_plain" "_law_plain" s_l_plain f fd .none) (T : Txt g) (F_l_pick : Kn g "_law_pick" 3 ["_law_stream_here", "_law_some"] [] sp_pick) (F_l_draw : Kn g "_law_draw" 2 ["_law_stream_here", "_law_top"] [] sp_draw) (F_l_word : Kn g "_law_word" 4 ["_law_stream_here"] [] sp_word) : FnG g 5 f fd ["_law_stream_here"] sp_plain := by
  refine F.ok sc_l_plain (fun vs H Q E h => S1.len h) (fun cdv A outer s H vs Q E hr h => ?_)
  obtain ⟨_, rfl, p, N, rfl, hS, hN, q⟩ := h
  refine ⟨_, (pss_mid (ps_par3 (i := 1) (j := 2) (l := 3) (by rfl) sc_l_plain.nd rfl rfl rfl (by decide) (by decide) (by decide) rfl rfl rfl (pa_cons (pe_callG F_l_draw (hr.mono (by first | decide | omega)) tkD (pa_cons (pv 0) (pa_cons pe_int pa_nil))) (pa_cons (pe_op op_sub (pe_callG F_l_draw (hr.mono (by first | decide | omega)) tkD (pa_cons (pv 0) (pa_cons pe_int pa_nil))) pe_int) (pa_cons (pe_op op_mulW (pe_op op_pow pe_int pe_int) (pe_op op_pow pe_int pe_int)) pa_nil))) (by rfl))
      (pss_cons (ps_if (pt_cmpR op_lt (pv 1) pe_int (nomark _)) (pss_one (ps_ret (pe_callG F_l_word (hr.mono (by first | decide | omega)) tkD (pa_cons (pv 0) pa_nil)))) pss_nil)
      (pss_cons (ps_if (pt_cmpR (o_eq (K := g.K) hr) (pv 1) pe_int (nomark _)) (pss_one (ps_ret (pe_callG F_l_pick (hr.mono (by first | decide | omega)) tkD (pa_cons (pv 0) (pa_cons (pe_lst (pa_cons pe_non (pa_cons pe_bl (pa_cons pe_bl pa_nil)))) pa_nil))))) pss_nil)
      (pss_cons (ps_if (pt_cmpR (o_eq (K := g.K) hr) (pv 1) pe_int (nomark _)) (pss_one (ps_ret (pv 2))) pss_nil)
      (pss_one (ps_ret (pe_callG F_l_pick (hr.mono (by first | decide | omega)) tkD (pa_cons (pv 0) (pa_cons (pe_lst (pa_cons pe_int (pa_cons pe_int (pa_cons (pe_un un_neg pe_int) (pa_cons pe_int (pa_cons (pe_un un_neg pe_int) (pa_cons pe_int (pa_cons (pe_op op_sub (pv 3) pe_int) (pa_cons (pe_op op_sub pe_int (pv 3)) (pa_cons (pe_op op_fdiv (pv 3) pe_int) (pa_cons (pe_op op_sub (pe_op op_sub (pe_op op_fdiv (pv 3) pe_int) pe_int) (pe_callB call_abs (by rfl) T.b_abs bb_abs (pa_cons (pv 2) pa_nil))) pa_nil))))))))))) pa_nil))))))))), ?_⟩
  refine mid_at (fun σ H1 => ∃ w sm : Int, σ = [some (.ref p), some (.int w), some (.int sm), some (.int (10 ^ 50 * 10 ^ 50))] ∧ -1000 ≤ sm ∧ sm < 1000 ∧ Str3 H1 p (N + 2) ∧ But p H H1) ?_ ?_
  · walk_at "sx"
    refine ⟨_, _, rfl, p, N, 6, rfl, rfl, by decide, by decide, hS, by omega, fun r H1 r0 r1 S1 k1 => ?_⟩
    walk_at "sx"
    refine ⟨_, _, rfl, p, N + 1, 2000, rfl, rfl, by decide, by decide, S1, by omega, fun r2 H2 r20 r21 S2 k2 => ?_⟩
    walk_at "sx"
    exact ⟨⟨by decide, by decide, by decide⟩, ⟨by decide, by decide, by decide⟩, by unfold CMulW; decide +kernel, rfl, by omega, by omega, S2, But.trans k1 k2⟩
  rintro _ H1 ⟨w, sm, rfl, sm0, sm1, S1, k1⟩
  walk_at "sx"
  split
  · refine ⟨_, rfl, p, N + 2, rfl, S1, by omega, fun x H2 hx ha S2 k2 => q _ (.str x) _ (.str x) ?_ rfl S2 (k1.trans k2)⟩
    simp only [smB, Bool.and_eq_true, decide_eq_true_eq]
    exact ⟨hx, ha⟩
  split
  · intro p1 hp1
    have s1 := same_upd (o := HO.lst [V.non, V.bl true, V.bl false]) hp1
    refine ⟨_, _, rfl, p, p1, _, N + 2, rfl, rfl, S1.same s1, by omega, upd_same, (S1.ne hp1).symm, by decide, by decide, fun v H2 hv S2 k2 => ?_⟩
    have kk := k1.trans ((But.of s1).trans k2)
    simp only [List.mem_cons, List.not_mem_nil, or_false] at hv
    rcases hv with rfl | rfl | rfl
    · exact q _ _ _ .non rfl rfl (S2.up (by omega)) kk
    · exact q _ _ _ (.bl _) rfl rfl (S2.up (by omega)) kk
    · exact q _ _ _ (.bl _) rfl rfl (S2.up (by omega)) kk
  have big : ∀ i : Int, i.natAbs < 10 ^ 100 → smB (.int i) = true := fun i h => by simp only [smB, decide_eq_true_eq]; exact h
  split
  · exact q _ (.int sm) _ (.int sm) (big sm (by omega)) rfl (S1.up (by omega)) k1
  · have e100 : (10 : Int) ^ 50 * 10 ^ 50 = 10 ^ 100 := by decide +kernel
    refine ⟨⟨by decide, by decide⟩, ⟨by decide, by decide⟩, fun p1 hp1 => ?_⟩
    have s1 := same_upd (o := HO.lst [V.int 0, V.int 1, V.int (-1), V.int 10, V.int (-10), V.int 100, V.int (10 ^ 50 * 10 ^ 50 - 1), V.int (1 - 10 ^ 50 * 10 ^ 50), V.int (10 ^ 50 * 10 ^ 50 / 10), V.int (10 ^ 50 * 10 ^ 50 / 10 - 1 - if sm < 0 then -sm else sm)]) hp1
    refine ⟨_, _, rfl, p, p1, _, N + 2, rfl, rfl, S1.same s1, by omega, upd_same, (S1.ne hp1).symm, by simp, by simp, fun v H2 hv S2 k2 => ?_⟩
    have kk := k1.trans ((But.of s1).trans k2)
    have S2' := S2.up (M := N + 4) (by omega)
    simp only [List.mem_cons, List.not_mem_nil, or_false] at hv
    rw [e100] at hv
    have e99 : (10 : Int) ^ 100 / 10 = 10 ^ 99 := by decide +kernel
    rw [e99] at hv
    rcases hv with rfl | rfl | rfl | rfl | rfl | rfl | rfl | rfl | rfl | rfl
    · exact q _ _ _ (.int _) (big _ (by decide +kernel)) rfl S2' kk
    · exact q _ _ _ (.int _) (big _ (by decide +kernel)) rfl S2' kk
    · exact q _ _ _ (.int _) (big _ (by decide +kernel)) rfl S2' kk
    · exact q _ _ _ (.int _) (big _ (by decide +kernel)) rfl S2' kk
    · exact q _ _ _ (.int _) (big _ (by decide +kernel)) rfl S2' kk
    · exact q _ _ _ (.int _) (big _ (by decide +kernel)) rfl S2' kk
    · exact q _ _ _ (.int _) (big _ (by decide +kernel)) rfl S2' kk
    · exact q _ _ _ (.int _) (big _ (by decide +kernel)) rfl S2' kk
    · exact q _ _ _ (.int _) (big _ (by decide +kernel)) rfl S2' kk
    · refine q _ _ _ (.int _) (big _ ?_) rfl S2' kk
      have a1 : (10 : Int) ^ 99 = 10 ^ 4 * 10 ^ 95 := by decide +kernel
      have a2 : (1 : Int) ≤ 10 ^ 95 := by decide +kernel
      have a3 : (10 : Int) ^ 99 < 10 ^ 100 := by decide +kernel
      have a4 : (((10 : Nat) ^ 100 : Nat) : Int) = 10 ^ 100 := by decide +kernel
      split <;> omega
end


def cst : Nat → Nat
  | 0 => 4
  | n + 1 => 8 + 3 * cst n
theorem smAll_app : ∀ {a b : List PyData}, smAll a = true → smAll b = true → smAll (a ++ b) = true
  | [], _, _, h => h
  | x :: a, b, h1, h2 => by
    simp only [smAll, Bool.and_eq_true] at h1
    simp only [List.cons_append, smAll, Bool.and_eq_true]
    exact ⟨h1.1, smAll_app h1.2 h2⟩
theorem depthAll_app : ∀ (a b : List PyData), PyData.depthAll (a ++ b) = max (PyData.depthAll a) (PyData.depthAll b)
  | [], b => by simp [PyData.depthAll]
  | x :: a, b => by simp only [List.cons_append, PyData.depthAll, depthAll_app a b]; omega
def words5 : List Str := ["a", "b", "", "s1:a", "k 1"]
def w5 (i : Int) : Str := (words5[i.toNat]?).getD ""
def kv5 (r : Int) : List V → List (Key × V)
  | [] => []
  | x :: xs => (.inr (w5 (r % 5)), x) :: kv5 (r + 1) xs
def kd5 (r : Int) : List PyData → List (PyData × PyData)
  | [] => []
  | x :: xs => (.str (w5 (r % 5)), x) :: kd5 (r + 1) xs
theorem kv5_len : ∀ (r : Int) (xs : List V), (kv5 r xs).length = xs.length
  | _, [] => rfl
  | r, x :: xs => by simp [kv5, kv5_len (r + 1) xs]
theorem kd5_len : ∀ (r : Int) (xs : List PyData), (kd5 r xs).length = xs.length
  | _, [] => rfl
  | r, x :: xs => by simp [kd5, kd5_len (r + 1) xs]
theorem kv5_get : ∀ (xs : List V) (r : Int) (i : Nat), (kv5 r xs)[i]? = (xs[i]?).map fun x => ((.inr (w5 ((r + (i : Nat)) % 5)) : Key), x)
  | [], _, _ => by simp [kv5]
  | x :: xs, r, 0 => by simp [kv5]
  | x :: xs, r, i + 1 => by
    have := kv5_get xs (r + 1) i
    have e : r + 1 + (i : Nat) = r + ((i + 1 : Nat) : Int) := by omega
    rw [e] at this
    simpa [kv5] using this
theorem trD5 {H : Hp} : ∀ {xs : List V} {ds : List PyData} {fp : List Addr}, TrL H xs ds fp → ∀ r : Int, TrD H (kv5 r xs) (kd5 r ds) fp
  | _, _, _, .nil, _ => .nil
  | _, _, _, .cons h hs, r => .cons h (trD5 hs (r + 1))
theorem w5_ok : ∀ r : Int, (w5 r).length ≤ 4 ∧ asc (w5 r) = true := fun r => by
  have : ∀ j : Nat, j < 5 → ((words5[j]?).getD "").length ≤ 4 ∧ asc ((words5[j]?).getD "") = true := by decide +kernel
  unfold w5
  by_cases h : r.toNat < 5
  · exact this _ h
  · rw [List.getElem?_eq_none (by show 5 ≤ r.toNat; omega)]
    decide +kernel
theorem kd5_sm : ∀ (ds : List PyData) (r : Int), smAll ds = true → smKv (kd5 r ds) = true
  | [], _, _ => rfl
  | d :: ds, r, h => by
    simp only [smAll, Bool.and_eq_true] at h
    have := w5_ok (r % 5)
    simp only [kd5, smKv, keyB, Bool.and_eq_true, decide_eq_true_eq]
    exact ⟨⟨this, h.1⟩, kd5_sm ds (r + 1) h.2⟩
theorem kd5_depth : ∀ (ds : List PyData) (r : Int), PyData.depthKv (kd5 r ds) = PyData.depthAll ds
  | [], _ => rfl
  | d :: ds, r => by simp only [kd5, PyData.depthKv, PyData.depthAll, kd5_depth ds (r + 1), PyData.depth]; omega
theorem kv5_nodup (r : Int) (xs : List V) (r0 : 0 ≤ r) (r1 : r < 5) (h : xs.length ≤ 3) : ((kv5 r xs).map (·.1)).Nodup := by
  have hr : r = 0 ∨ r = 1 ∨ r = 2 ∨ r = 3 ∨ r = 4 := by omega
  match xs, h with
  | [], _ => exact .nil
  | [x], _ => simp [kv5]
  | [x, y], _ => rcases hr with rfl | rfl | rfl | rfl | rfl <;> (simp only [kv5, List.map_cons, List.map_nil]; decide +kernel)
  | [x, y, z], _ => rcases hr with rfl | rfl | rfl | rfl | rfl <;> (simp only [kv5, List.map_cons, List.map_nil]; decide +kernel)
theorem mergeK_app : ∀ (more kvs : List (Key × V)), ((kvs ++ more).map (·.1)).Nodup → mergeK kvs more = kvs ++ more
  | [], kvs, _ => by simp [mergeK]
  | p :: more, kvs, nd => by
    have e : mergeK kvs (p :: more) = mergeK (putK kvs p.1 p.2) more := rfl
    have hp : p.1 ∉ kvs.map (·.1) := by
      rw [List.map_append, List.map_cons] at nd
      intro z
      exact (List.nodup_append.mp nd).2.2 _ z _ (List.mem_cons_self ..) rfl
    rw [e, putK_new hp, mergeK_app more _ (by simpa using nd)]
    simp
theorem mergeK_nd {kvs : List (Key × V)} (nd : (kvs.map (·.1)).Nodup) : mergeK [] kvs = kvs := by simpa using mergeK_app kvs [] (by simpa using nd)
theorem paired_imp {α β : Type} {F G : α → β → Prop} : ∀ {xs : List α} {ys : List β}, Paired F xs ys → (∀ x y, F x y → G x y) → Paired G xs ys
  | _, _, .nil, _ => .nil
  | _, _, .cons h hs, k => .cons (k _ _ h) (paired_imp hs k)
theorem paired_snoc {α β : Type} {F : α → β → Prop} : ∀ {xs : List α} {ys : List β} {x : α} {y : β}, Paired F xs ys → F x y → Paired F (xs ++ [x]) (ys ++ [y])
  | _, _, _, _, .nil, h => .cons h .nil
  | _, _, _, _, .cons a as, h => .cons a (paired_snoc as h)
section
variable {g : Wd} {f : Addr} {fd : FuncData}
theorem sc_l_value : FnScope ["_law_stream_here", "_law_deep", "_law_way", "_law_items", "_law_words", "_law_first", "_law_turn", "_law_at", "_law_item_here"] ["_law_stream_here", "_law_deep"] (defScope s_l_value) := ⟨rfl, rfl, rfl, by decide +kernel, rfl, by decide +kernel, by decide +kernel⟩
def sp_value (n : Nat) : Sp := S2 fun a b H Q _ => ∃ (p : Addr) (N k : Nat), a = .ref p ∧ b = .int (k : Nat) ∧ k < n ∧ k ≤ 3 ∧ Str3 H p N ∧ N + cst k < 100000 ∧
  ∀ v d fp H', Tr H' v d fp → smB d = true → d.depth ≤ k → (∀ c ∈ fp, H c = none) → Str3 H' p (N + cst k) → But p H H' → Q v H'
theorem ok_value (n : Nat) (F : Df g.K "_law_value" "_law_value" s_l_value f fd .none) (T : Txt g) (F_l_draw : Kn g "_law_draw" 2 ["_law_stream_here", "_law_top"] [] sp_draw) (F_l_plain : Kn g "_law_plain" 5 ["_law_stream_here"] [] sp_plain) (F_l_value : Kn g "_law_value" (n + 5) ["_law_stream_here", "_law_deep"] [] (sp_value n)) : FnG g (n + 6) f fd ["_law_stream_here", "_law_deep"] (sp_value (n + 1)) := by
  refine F.ok sc_l_value (fun vs H Q E h => S2.len h) (fun cdv A outer s H vs Q E hr h => ?_)
  obtain ⟨_, _, rfl, p, N, k, rfl, rfl, hk, k3, hS, hN, q⟩ := h
  refine ⟨_, (pss_mid (ps_set (i := 2) sc_l_value.nd rfl (Or.inl rfl) (pe_ifExp (pt_cmpR op_gt (pv 1) pe_int (nomark _)) (pe_callG F_l_draw (hr.mono (by first | decide | omega)) tkD (pa_cons (pv 0) (pa_cons pe_int pa_nil))) pe_int))
      (pss_cons (ps_if (pt_cmpR op_lt (pv 2) pe_int (nomark _)) (pss_one (ps_ret (pe_callG F_l_plain (hr.mono (by first | decide | omega)) tkD (pa_cons (pv 0) pa_nil)))) pss_nil)
      (pss_mid (ps_setLc (i := 3) (own := [("_law_turn", 6)]) (tt := tYes) rfl sc_l_value.nd rfl rfl (sw_true rfl rfl rfl (by decide +kernel)) (pi_range1 rfl T.b_range (pa_cons (pe_callG F_l_draw (hr.mono (by first | decide | omega)) tkD (pa_cons (pv 0) (pa_cons pe_int pa_nil))) pa_nil)) (blkOk_by (own := [("_law_turn", 6)]) (N := ["_law_stream_here", "_law_deep", "_law_way", "_law_items", "_law_words", "_law_first", "_law_turn", "_law_at", "_law_item_here"]) (sc := defScope s_l_value) (by decide +kernel)) (fun _ _ _ _ _ => (pg_name (i := 6) sc_l_value.nd rfl (.inl rfl))) (fun _ _ _ _ _ => pts_nil) (fun _ _ _ _ _ => (pe_callG F_l_value (Rm.mono (Rm.mk hr.room hr.gd) (by first | decide | omega)) L2.takes0 (pa_cons (pv 0) (pa_cons (pe_op op_sub (pv 1) pe_int) pa_nil)))))
      (pss_cons (ps_if (pt_cmpR op_lt (pv 2) pe_int (nomark _)) (pss_one (ps_ret (pv 3))) pss_nil)
      (pss_cons (ps_if (pt_cmpR op_lt (pv 2) pe_int (nomark _)) (pss_one (ps_ret (pe_callTy call_tuple_of (by rfl) T.b_tuple bb_tuple (pa_cons (pv 3) pa_nil)))) pss_nil)
      (pss_mid (ps_asg (pe_tup (pa_cons (pe_lst (pa_cons pe_str (pa_cons pe_str (pa_cons pe_str (pa_cons pe_str (pa_cons pe_str pa_nil)))))) (pa_cons (pe_callG F_l_draw (hr.mono (by first | decide | omega)) tkD (pa_cons (pv 0) (pa_cons pe_int pa_nil))) pa_nil))) (g_tup (K := g.K) (n := 2) (pgs_cons (pg_name (i := 4) sc_l_value.nd rfl (.inr rfl)) (pgs_cons (pg_name (i := 5) sc_l_value.nd rfl (.inr rfl)) pgs_nil))))
      (pss_one (ps_ret (pe_callTy (call_dictP rfl) (by rfl) T.b_dict bb_dict (pa_cons (pe_lc (own := [("_law_at", 7), ("_law_item_here", 8)]) (tt := tYes) rfl sc_l_value.nd (i_enum (K := g.K) T.b_enumerate (pa_cons (pv 3) pa_nil)) (blkOk_by (own := [("_law_at", 7), ("_law_item_here", 8)]) (N := ["_law_stream_here", "_law_deep", "_law_way", "_law_items", "_law_words", "_law_first", "_law_turn", "_law_at", "_law_item_here"]) (sc := defScope s_l_value) (by decide +kernel)) (fun _ _ _ _ _ => (g_tup (K := g.K) (n := 2) (pgs_cons (pg_name (i := 7) sc_l_value.nd rfl (.inl rfl)) (pgs_cons (pg_name (i := 8) sc_l_value.nd rfl (.inl rfl)) pgs_nil)))) (fun _ _ _ _ _ => pts_nil) (fun _ _ _ _ _ => (pe_tup (pa_cons (pe_ix (o_ix (K := g.K)) (pv 4) (pe_op op_mod (pe_op (o_add (K := g.K)) (pv 5) (pv 7)) pe_int) (fun _ _ => rfl)) (pa_cons (pv 8) pa_nil))))) pa_nil)))))))))), ?_⟩
  refine mid_at (fun σ H1 => ∃ w : Int, σ = [some (.ref p), some (.int (k : Nat)), some (.int w), none, none, none, none, none, none] ∧ (k = 0 → w = 0) ∧ Str3 H1 p (N + min k 1) ∧ But p H H1) ?_ ?_
  · walk_at "sx"
    split
    · rename_i hk0
      have hk0 : 0 < k := by simpa using hk0
      refine ⟨_, _, rfl, p, N, 9, rfl, rfl, by decide, by decide, hS, by omega, fun r H1 r0 r1 S1 k1 => ⟨r, rfl, by omega, S1.up (by omega), k1⟩⟩
    · rename_i hk0
      have hk0 : k = 0 := by simpa using hk0
      subst hk0
      exact ⟨fun _ => trivial, hS, But.of (Same.refl _)⟩
  rintro _ H1 ⟨w, rfl, w0, S1, k1⟩
  have cst4 : 4 + min k 1 ≤ cst k := by cases k with | zero => decide | succ k => simp only [cst]; omega
  walk_at "sx"
  split
  · refine ⟨_, rfl, p, N + min k 1, rfl, S1, by omega, fun v d H2 tr sm dp S2 k2 => q v d [] H2 tr sm (by omega) (by simp) (S2.up (by omega)) (k1.trans k2)⟩
  · rename_i hw3
    have hw3 : 3 ≤ w := by simpa using hw3
    obtain ⟨k', rfl⟩ : ∃ k', k = k' + 1 := by
      cases k with
      | zero => have := w0 rfl; omega
      | succ k' => exact ⟨k', rfl⟩
    have S1 : Str3 H1 p (N + 1) := S1.up (by omega)
    simp only [cst] at hN q
    have k1n : ∀ c, H1 c = none → H c = none := fun c z => by
      cases e : H c with
      | none => rfl
      | some o =>
        have cp : c ≠ p := fun y => by obtain ⟨_, _, _, h1, _⟩ := S1; rw [y, h1] at z; cases z
        have := k1 c o cp e
        rw [z] at this; cases this
    refine mid_at (fun σ H2 => ∃ D acc ds fa, σ = [some (.ref p), some (.int ((k' + 1 : Nat) : Nat)), some (.int w), some (.ref D), none, none, none, none, none] ∧ Str3 H2 p (N + 2 + 3 * cst k') ∧ But p H H2 ∧ H D = none ∧ D ≠ p ∧ H2 D = some (.lst acc) ∧ TrL H2 acc ds fa ∧ smAll ds = true ∧ PyData.depthAll ds ≤ k' ∧ ds.length ≤ 3 ∧ (∀ c ∈ fa, H c = none) ∧ D ∉ fa ∧ p ∉ fa) ?_ ?_
    · walk_at "sx"
      refine ⟨_, _, rfl, p, N + 1, 4, rfl, rfl, by decide, by decide, S1, by omega, fun r H2 r0 r1 S2 k2 => ⟨r, rfl, by omega, by omega, ?_⟩⟩
      have k2n : ∀ c, H2 c = none → H c = none := fun c z => by
        cases e : H1 c with
        | none => exact k1n c e
        | some o =>
          have cp : c ≠ p := fun y => by obtain ⟨_, _, _, h1, _⟩ := S2; rw [y, h1] at z; cases z
          have := k2 c o cp e
          rw [z] at this; cases this
      refine lc_invA r.toNat (fun D i acc G => But p H2 G ∧ Str3 G p (N + 2 + i * cst k') ∧ ∃ ds fa, TrL G acc ds fa ∧ smAll ds = true ∧ PyData.depthAll ds ≤ k' ∧ ds.length = i ∧ ∀ c ∈ fa, H2 c = none ∧ c ≠ D) (by rw [sizeLine_eq]; omega) (fun D hD => ⟨But.of (same_upd hD), by simpa using S2.same (same_upd hD), [], [], .nil, rfl, Nat.zero_le _, rfl, by simp⟩) (fun D i acc G hD lt P => by simpa [Itr] using lt) (fun D acc G hD P => by simp [Itr]; omega) (fun D i acc G x G' K hD lt la P eD y k0 => ?_) (fun D acc G hD P eD => ?_)
      · obtain ⟨b, SG, ds, fa, ta, sa, da, la', na⟩ := P
        obtain ⟨rfl, rfl⟩ := y
        refine ⟨rfl, ?_⟩
        walk_at "sx"
        have pD : D ≠ p := S2.ne hD
        have i3 : i < 3 := by omega
        have ci : i * cst k' + cst k' ≤ 3 * cst k' := by
          have : (i + 1) * cst k' ≤ 3 * cst k' := Nat.mul_le_mul_right _ (by omega)
          rw [Nat.add_mul, Nat.one_mul] at this; exact this
        refine ⟨_, _, rfl, p, N + 2 + i * cst k', k', rfl, by simp, by omega, by omega, SG, by omega, fun v d fp G2 tr sm dp nf S3 b3 => ?_⟩
        have eD2 := b3 _ _ pD eD
        have nD : ∀ ys, G2 D ≠ some (.tup ys) := fun ys z => by rw [eD2] at z; cases z
        have kD : ∀ c o, c ≠ D → G2 c = some o → upd G2 D (.lst (acc ++ [v])) c = some o := fun c o n z => by rw [upd_ne n]; exact z
        have fD : D ∉ fp := fun z => by rw [nf D z] at eD; cases eD
        have np : ∀ ys, G' p ≠ some (.tup ys) := fun ys z => by obtain ⟨_, _, _, h1, _⟩ := SG; rw [h1] at z; cases z
        have pa : p ∉ fa := fun z => by obtain ⟨_, _, _, h1, _⟩ := S2; rw [(na p z).1] at h1; cases h1
        refine k0 v G2 eD2 ⟨fun c o n z => ?_, ?_, ds ++ [d], fa ++ fp, TrL.snoc (tr.but nD kD fD) ((ta.but np b3 pa).but nD kD fun z => (na D z).2 rfl), ?_, ?_, by simp [la'], fun c hc => ?_⟩
        · have cD : c ≠ D := fun e => by rw [e, hD] at z; cases z
          rw [upd_ne cD]; exact b3 _ _ n (b _ _ n z)
        · have : (i + 1) * cst k' = i * cst k' + cst k' := by rw [Nat.add_mul, Nat.one_mul]
          rw [this]
          obtain ⟨a1, b1, c1, h1, h2⟩ := S3
          exact ⟨a1, b1, c1, by rw [upd_ne (Ne.symm pD)]; exact h1, by omega, by omega⟩
        · exact smAll_app sa (by simp [smAll, sm])
        · rw [depthAll_app]; simp only [PyData.depthAll]; omega
        · rcases List.mem_append.mp hc with h | h
          · exact na c h
          · refine ⟨?_, fun e => fD (e ▸ h)⟩
            cases e : H2 c with
            | none => rfl
            | some o =>
              have cp : c ≠ p := fun y => by obtain ⟨_, _, _, h1, _⟩ := SG; rw [← y, nf c h] at h1; cases h1
              have := b _ _ cp e
              rw [nf c h] at this; cases this
      · obtain ⟨b, SG, ds, fa, ta, sa, da, la', na⟩ := P
        have l3 : r.toNat ≤ 3 := by omega
        have pD : D ≠ p := S2.ne hD
        refine ⟨D, rfl, SG.up ?_, k1.trans (But.trans k2 b), k2n D hD, pD, acc, eD, ds, fa, ta, sa, da, by omega, fun c hc => k2n c (na c hc).1, fun z => (na D z).2 rfl, fun z => by obtain ⟨_, _, _, h1, _⟩ := S2; rw [(na p z).1] at h1; cases h1⟩
        have : r.toNat * cst k' ≤ 3 * cst k' := Nat.mul_le_mul_right _ l3
        omega
    rintro _ H2 ⟨D, acc, ds, fa, rfl, S2, k2, nD, Dp, eD, ta, sa, da, l3, nfa, Dfa, pfa⟩
    walk_at "sx"
    split
    · exact q _ (.list ds) (D :: fa) H2 (.lst eD ta Dfa) (by simp only [smB, Bool.and_eq_true, decide_eq_true_eq]; exact ⟨l3, sa⟩) (by simp only [PyData.depth]; omega) (fun c hc => (List.mem_cons.mp hc).elim (fun e => e ▸ nD) (nfa c)) (S2.up (by omega)) k2
    split
    · exact ⟨acc, .inl ⟨SqL.of eD, fun l hl => q _ (.tuple ds) fa _ (.tup upd_same (ta.same (same_upd hl))) (by simp only [smB, Bool.and_eq_true, decide_eq_true_eq]; exact ⟨l3, sa⟩) (by simp only [PyData.depth]; omega) nfa ((S2.same (same_upd hl)).up (by omega)) (k2.trans (But.of (same_upd hl)))⟩⟩
    · have ln := ta.len
      refine mid_at (fun σ H3 => ∃ (L : Addr) (r : Int), σ = [some (.ref p), some (.int ((k' + 1 : Nat) : Nat)), some (.int w), some (.ref D), some (.ref L), some (.int r), none, none, none] ∧ 0 ≤ r ∧ r < 5 ∧ Str3 H3 p (N + 3 + 3 * cst k') ∧ But p H2 H3 ∧ H3 L = some (.lst (words5.map V.str))) ?_ ?_
      · walk_at "sx"
        intro L hL
        have sL := same_upd (o := HO.lst (words5.map V.str)) hL
        have Lp := S2.ne hL
        have eL : upd H2 L (HO.lst (words5.map V.str)) L = some (.lst (words5.map V.str)) := upd_same
        refine ⟨_, _, rfl, p, N + 2 + 3 * cst k', 5, rfl, rfl, by decide, by decide, S2.same sL, by omega, fun r H3 r0 r1 S3 k3 => ?_⟩
        walk_at "sx"
        intro T' hT
        have sT := same_upd (o := HO.tup [.ref L, .int r]) hT
        refine ⟨_, SqT.of upd_same, rfl, ?_⟩
        walk_at "sx"
        exact ⟨r0, r1, (S3.same sT).up (by omega), ((But.of sL).trans k3).trans (But.of sT), sT _ _ (k3 _ _ Lp eL)⟩
      rintro _ H3 ⟨L, r, rfl, r0, r1, S3, b3, eL⟩
      have eD3 := b3 _ _ Dp eD
      have np2 : ∀ ys, H2 p ≠ some (.tup ys) := fun ys z => by obtain ⟨_, _, _, h1, _⟩ := S2; rw [h1] at z; cases z
      have ta3 := ta.but np2 b3 pfa
      have k3n : ∀ c, H3 c = none → H c = none := fun c z => by
        cases e : H c with
        | none => rfl
        | some o =>
          have cp : c ≠ p := fun y => by obtain ⟨_, _, _, h1, _⟩ := S3; rw [y, h1] at z; cases z
          have := b3 c o cp (k2 c o cp e)
          rw [z] at this; cases this
      walk_at "sx"
      refine ⟨acc, SqL.of eD3, ?_⟩
      refine lc_invA acc.length (fun E' i acc2 G => Same H3 G ∧ ∃ ts : List Addr, acc2 = ts.map V.ref ∧ Paired (fun t kv => G t = some (.tup [kV kv.1, kv.2])) ts ((kv5 r acc).take i)) (by rw [sizeLine_eq]; omega) (fun E' hE => ⟨same_upd hE, [], rfl, by simpa using Paired.nil⟩) (fun E' i acc2 G hE lt P => ⟨_, acc[i], SqL.of (P.1 _ _ eD3), List.getElem?_eq_getElem lt⟩) (fun E' acc2 G hE P => ⟨_, SqL.of (P.1 _ _ eD3), Nat.le_refl _⟩) (fun E' i acc2 G x G' K hE lt la P eE y k0 => ?_) (fun E' acc2 G hE P eE => ?_)
      · obtain ⟨sG, ts, rfl, pr⟩ := P
        obtain ⟨T', z, rfl, hT, rfl, hz⟩ := y
        have hz := hz _ (SqL.of (sG _ _ eD3))
        have sT := same_upd (o := HO.tup [.int (i : Nat), z]) hT
        walk_at "sx"
        refine ⟨_, SqT.of upd_same, rfl, ?_⟩
        walk_at "sx"
        obtain ⟨j, hj⟩ := Int.eq_ofNat_of_zero_le (show 0 ≤ (r + (i : Nat)) % 5 from Int.emod_nonneg _ (by decide))
        have j5 : j < 5 := by have := Int.emod_lt_of_pos (r + (i : Nat)) (show (0 : Int) < 5 by decide); omega
        refine ⟨by decide, _, .inl (SqL.of (sT _ _ (sG _ _ eL))), .str (w5 ((r + (i : Nat)) % 5)), ?_, fun t ht => ?_⟩
        · rw [hj]
          refine atI_nat ?_
          rw [List.getElem?_map]
          simp only [w5, Int.toNat_natCast]
          rw [List.getElem?_eq_getElem (by show j < 5; exact j5)]
          rfl
        · have st := same_upd (o := HO.tup [V.str (w5 ((r + (i : Nat)) % 5)), z]) ht
          have eE2 := st _ _ (sT _ _ eE)
          refine k0 _ _ eE2 ⟨fun c o e => ?_, ts ++ [t], by simp, ?_⟩
          · have cE : c ≠ E' := fun y => by rw [y, hE] at e; cases e
            rw [upd_ne cE]; exact st _ _ (sT _ _ (sG _ _ e))
          · have e1 : (kv5 r acc).take (i + 1) = (kv5 r acc).take i ++ [(.inr (w5 ((r + (i : Nat)) % 5)), z)] := by
              rw [List.take_add_one, kv5_get, hz]; rfl
            rw [e1]
            refine paired_snoc (paired_imp pr fun t' kv h' => ?_) ?_
            · have n : t' ≠ E' := fun y => by rw [y, eE] at h'; cases h'
              rw [upd_ne n]; exact st _ _ (sT _ _ h')
            · have n : t ≠ E' := fun y => by rw [y, sT _ _ eE] at ht; cases ht
              rw [upd_ne n, upd_same]; rfl
      · obtain ⟨sG, ts, rfl, pr⟩ := P
        rw [List.take_of_length_le (by rw [kv5_len]; exact Nat.le_refl _)] at pr
        refine ⟨E', rfl, ts, SqL.of eE, kv5 r acc, paired_imp pr fun t kv h => SqT.of h, fun l hl => ?_⟩
        have sl := same_upd (o := HO.dK (mergeK [] (kv5 r acc))) hl
        have ndk := kv5_nodup r acc r0 r1 (by omega)
        have Hl : H l = none := k3n l (by
          cases e : H3 l with
          | none => rfl
          | some o => have := sG _ _ e; rw [hl] at this; cases this)
        have lf : l ∉ fa := fun z => by
          have tG := ta3.same sG
          rcases tG.there l z with ⟨_, y⟩ | ⟨_, y⟩ <;> (rw [hl] at y; cases y)
        refine q _ (.dict (kd5 r ds)) (l :: fa) _ (.dct (kvs := kv5 r acc) (by rw [upd_same, mergeK_nd ndk]) (trD5 ((ta3.same sG).same sl) r) lf ndk) ?_ ?_ (fun c hc => (List.mem_cons.mp hc).elim (fun e => e ▸ Hl) (nfa c)) (((S3.same sG).same sl).up (by omega)) ((k2.trans b3).trans (But.of (sG.trans sl)))
        · simp only [smB, Bool.and_eq_true, decide_eq_true_eq, kd5_len]; exact ⟨l3, kd5_sm ds r sa⟩
        · simp only [PyData.depth]; rw [kd5_depth]; omega
end


def flp (b : Bool) : List (V × V) → List V
  | [] => []
  | (s, x) :: r => (if b then [s, x] else [x]) ++ flp b r
theorem flp_snoc (b : Bool) : ∀ (ps : List (V × V)) (s x : V), flp b (ps ++ [(s, x)]) = flp b ps ++ (if b then [s, x] else [x])
  | [], s, x => by simp [flp]
  | (s', x') :: r, s, x => by simp [flp, flp_snoc b r s x]
theorem flp_len (b : Bool) : ∀ ps : List (V × V), (flp b ps).length ≤ 2 * ps.length
  | [] => Nat.le_refl _
  | (s, x) :: r => by
    have := flp_len b r
    cases b <;> simp [flp] <;> omega
def flD : List (PyData × PyData) → List PyData
  | [] => []
  | (k, d) :: r => k :: d :: flD r
theorem flp_map : ∀ (xs : List (V × V)), flp false xs = xs.map (·.2)
  | [] => rfl
  | (s, x) :: r => by simp [flp, flp_map r]
theorem idx_snd (xs : List V) : (idx xs).map (·.2) = xs := by
  refine List.ext_getElem (by simp [idx]) fun i h1 h2 => ?_
  simp [idx, h2]
theorem flp_idx (xs : List V) : flp false (idx xs) = xs := by rw [flp_map, idx_snd]
theorem trL_fl {H : Hp} : ∀ {kvs : List (Key × V)} {D : List (PyData × PyData)} {fp : List Addr}, TrD H kvs D fp → TrL H (flp true (kvs.map fun kv => (kV kv.1, kv.2))) (flD D) fp
  | _, _, _, .nil => .nil
  | _, _, _, .cons (x := x) h hs => by
    have := TrL.cons (.str x) (TrL.cons h (trL_fl hs))
    simpa [flp, flD, kV] using this
theorem spells_fl : ∀ D : List (PyData × PyData), spells (flD D) = spellKv D
  | [] => by simp [flD, spells, spellKv]
  | (k, d) :: r => by simp [flD, spells, spellKv, spells_fl r, Str.append_assoc]
theorem okAll_fl : ∀ {D : List (PyData × PyData)}, okKv D = true → okAll (flD D) = true
  | [], _ => rfl
  | (k, d) :: r, h => by
    simp only [okKv, Bool.and_eq_true] at h
    simp only [flD, okAll, Bool.and_eq_true]
    exact ⟨h.1.1, h.1.2, okAll_fl h.2⟩
theorem okAll_app : ∀ {a b : List PyData}, okAll a = true → okAll b = true → okAll (a ++ b) = true
  | [], _, _, h => h
  | x :: a, b, h1, h2 => by
    simp only [okAll, Bool.and_eq_true] at h1
    simp only [List.cons_append, okAll, Bool.and_eq_true]
    exact ⟨h1.1, okAll_app h1.2 h2⟩
theorem spells_app : ∀ (a b : List PyData), spells (a ++ b) = spells a ++ spells b
  | [], b => by simp [spells, Str.empty_append]
  | x :: a, b => by simp [spells, spells_app a b, Str.append_assoc]
theorem TrL.app {H : Hp} : ∀ {xs ys : List V} {a b : List PyData} {f1 f2 : List Addr}, TrL H xs a f1 → TrL H ys b f2 → TrL H (xs ++ ys) (a ++ b) (f1 ++ f2)
  | _, _, _, _, _, _, .nil, h => h
  | _, _, _, _, _, _, .cons h hs, k => by simpa [List.append_assoc] using TrL.cons h (TrL.app hs k)
theorem spell_pos (d : PyData) : 1 ≤ (spell d).length := by
  cases d with
  | none => decide +kernel
  | bool b => cases b <;> decide +kernel
  | int i => simp only [spell, Str.length_append, ofString_length]; have : ("i" : String).length = 1 := rfl; omega
  | str i => simp only [spell, Str.length_append, ofString_length]; have : ("s" : String).length = 1 := rfl; omega
  | list i => simp only [spell, Str.length_append, ofString_length]; have : ("l" : String).length = 1 := rfl; omega
  | tuple i => simp only [spell, Str.length_append, ofString_length]; have : ("u" : String).length = 1 := rfl; omega
  | dict i => simp only [spell, Str.length_append, ofString_length]; have : ("d" : String).length = 1 := rfl; omega
theorem spells_pos : ∀ ds : List PyData, ds.length ≤ (spells ds).length
  | [] => Nat.zero_le _
  | d :: ds => by
    have := spell_pos d
    have := spells_pos ds
    simp only [spells, Str.length_append, List.length_cons]; omega


/-! ### the reader, in plain words: what is read of some signs, and how many of them; or the place of the first wrong one -/
inductive Res (α : Type) where
  | bad (k : Nat)
  | ok (a : α) (k : Nat)
def Res.up {α : Type} (j : Nat) : Res α → Res α
  | .bad k => .bad (j + k)
  | .ok a k => .ok a (j + k)
def Res.map {α β : Type} (f : α → β) : Res α → Res β
  | .bad k => .bad k
  | .ok a k => .ok (f a) k
def isDig (c : Nat) : Bool := decide (48 ≤ c) && decide (c ≤ 57)
/-- digits and a semicolon: z: the first one is a zero, n: so many are read, v: their value -/
def dg (z : Bool) (n v : Nat) : List Nat → Res Nat
  | [] => .bad n
  | c :: r => if c = 59 ∧ n ≠ 0 then .ok v (n + 1)
    else if isDig c = true ∧ (n = 0 ∨ (n < 100 ∧ z = false)) then dg (if n = 0 then decide (c = 48) else z) (n + 1) (10 * v + (c - 48)) r
    else .bad n
/-- a count and a colon -/
def ct (n v : Nat) : List Nat → Res Nat
  | [] => .bad n
  | c :: r => if c = 58 ∧ n ≠ 0 then .ok v (n + 1)
    else if isDig c = true ∧ (n = 0 ∨ v ≠ 0) ∧ 10 * v + (c - 48) ≤ 10000 then ct (n + 1) (10 * v + (c - 48)) r
    else .bad n
def ig (r : List Nat) : Res Int := match r with
  | 45 :: r' => match r' with
    | 48 :: _ => .bad 1
    | _ => ((dg false 0 0 r').map fun v : Nat => (0 - (v : Int))).up 1
  | _ => (dg false 0 0 r).map fun v : Nat => (v : Int)
def rs (r : List Nat) : Res (List Nat) := match ct 0 0 r with
  | .bad k => .bad k
  | .ok n k => if n ≤ (r.drop k).length then .ok ((r.drop k).take n) (k + n) else .bad r.length
def mny {α : Type} (f : List Nat → Res α) : Nat → List Nat → Res (List α)
  | 0, _ => .ok [] 0
  | m + 1, r => match f r with
    | .bad k => .bad k
    | .ok a k => ((mny f m (r.drop k)).map fun as => a :: as).up k
def mnyK (f : List Nat → Res PyData) : Nat → List (List Nat) → List Nat → Res (List (PyData × PyData))
  | 0, _, _ => .ok [] 0
  | m + 1, seen, r => match r with
    | [] => .bad 0
    | c :: r1 => if c ≠ 115 then .bad 0 else match rs r1 with
      | .bad k => .bad (1 + k)
      | .ok key k => if key ∈ seen then .bad k else match f (r1.drop k) with
        | .bad j => .bad (1 + k + j)
        | .ok d j => ((mnyK f m (seen ++ [key]) (r1.drop (k + j))).map fun D => (.str (SX.S key), d) :: D).up (1 + k + j)
/-- a value; n levels are left -/
def rp : Nat → List Nat → Res PyData
  | _, [] => .bad 0
  | n, c :: r => if c = 110 then .ok .none 1 else if c = 116 then .ok (.bool true) 1 else if c = 102 then .ok (.bool false) 1
    else if c = 105 then ((ig r).map PyData.int).up 1
    else if c = 115 then ((rs r).map fun x => .str (SX.S x)).up 1
    else match n with
      | 0 => .bad 0
      | n + 1 => if c = 108 ∨ c = 117 ∨ c = 100 then
          match ct 0 0 r with
          | .bad k => .bad (1 + k)
          | .ok m k => if c = 100 then ((mnyK (rp n) m [] (r.drop k)).map PyData.dict).up (1 + k)
            else ((mny (rp n) m (r.drop k)).map fun ds => if c = 108 then .list ds else .tuple ds).up (1 + k)
        else .bad 0
theorem ct_len : ∀ {r : List Nat} {n v m k : Nat}, ct n v r = .ok m k → k ≤ n + r.length ∧ m ≤ max v 10000
  | [], n, v, m, k, h => by simp [ct] at h
  | c :: r, n, v, m, k, h => by
    simp only [ct] at h
    split at h
    · cases h; simp <;> omega
    · split at h
      · rename_i _ z
        have := ct_len h
        simp; omega
      · cases h
theorem dg_len : ∀ {r : List Nat} {z : Bool} {n v m k : Nat}, dg z n v r = .ok m k → k ≤ n + r.length
  | [], z, n, v, m, k, h => by simp [dg] at h
  | c :: r, z, n, v, m, k, h => by
    simp only [dg] at h
    split at h
    · cases h; simp <;> omega
    · split at h
      · have := dg_len h
        simp; omega
      · cases h


open SX (S S_len S_cat S_tl S_inj)
structure Txt2 (g : Wd) : Prop extends Txt g where
  c_DIGITS : Gv g "DIGITS" (.str "0123456789")
structure RF (g : Wd) (C : Addr) : Prop where
  cls : Cls g.K C
  n1 : NoAttr g.K C "own_text"
  n2 : NoAttr g.K C "at"
/-- a reader of the signs t, at the place i -/
def Rd (C : Addr) (H : Hp) (y dy : Addr) (t : List Nat) (i : Nat) : Prop := H y = some (.ins C dy [("own_text", .str (S t)), ("at", .int (i : Nat))])
/-- InvalidText(i) leaves; nothing but the reader has changed -/
def Bad (CI y : Addr) (H : Hp) (i : Nat) (E : XK) : Prop := ∀ dd H', But y H H' → H' dd = some (.xd [("position", .int (i : Nat))]) → E (.ref CI) (some dd) H'
local macro_rules | `(tactic| walk_at "st") => `(tactic| simp only [S_cat, S_len, rep_one, has_one, S_eq, List.nil_append, List.append_assoc, List.cons_append, List.length_append, List.length_cons, List.length_nil, List.length_replicate])
theorem rd_at {C y dy : Addr} {G : Hp} {t : List Nat} {j k : Nat} {i : Int} (e : i = (k : Nat)) : Rd C (upd G y (.ins C dy (putF "at" (.int i) [("own_text", .str (S t)), ("at", .int (j : Nat))]))) y dy t k ∧ But y G (upd G y (.ins C dy (putF "at" (.int i) [("own_text", .str (S t)), ("at", .int (j : Nat))]))) := by
  subst e
  refine ⟨?_, fun c o n z => by rw [upd_ne n]; exact z⟩
  unfold Rd
  rw [upd_same]
  have h1 : ¬ (Str.ofString "own_text" = Str.ofString "at") := by decide +kernel
  rw [pu_cons, if_neg h1, pu_cons, if_pos rfl]
theorem lk_at {t : List Nat} {j : Nat} : List.lookup (Str.ofString "at") [((Str.ofString "own_text"), V.str (S t)), ((Str.ofString "at"), V.int (j : Nat))] = some (.int (j : Nat)) := by
  have h1 : ¬ (Str.ofString "at" = Str.ofString "own_text") := by decide +kernel
  rw [lk_cons, if_neg h1, lk_cons, if_pos rfl]
theorem lk_no {x : Str} {t : List Nat} {j : Nat} (h1 : ¬ x = Str.ofString "own_text" := by decide +kernel) (h2 : ¬ x = Str.ofString "at" := by decide +kernel) : List.lookup x [((Str.ofString "own_text"), V.str (S t)), ((Str.ofString "at"), V.int (j : Nat))] = none := by
  rw [lk_cons, if_neg h1, lk_cons, if_neg h2]; rfl
theorem dig_in (c : Nat) : decide (c ∈ [48, 49, 50, 51, 52, 53, 54, 55, 56, 57]) = isDig c := by
  rw [Bool.eq_iff_iff]
  simp [isDig]; omega
theorem int_sign {c : Nat} (h : isDig c = true) : PySem.intText? (S [c]) = some ((c - 48 : Nat) : Int) := by
  have h2 : 48 ≤ c ∧ c ≤ 57 := by simpa [isDig] using h
  have : ∀ k : Nat, k < 10 → PySem.intText? (S [48 + k]) = some (k : Int) := by decide +kernel
  have := this (c - 48) (by omega)
  rw [show 48 + (c - 48) = c from by omega] at this
  exact this
def sp_refuse (CI : Addr) : Sp := S2 fun z i H Q E => ∃ y, z = .ref y ∧ ∀ dd, H dd = none → E (.ref CI) (some dd) (upd H dd (.xd [("position", i)]))
theorem rf {g : Wd} {C CI y dy : Addr} {H G : Hp} {t : List Nat} {j : Nat} {P : VK} {E : XK} (R : RF g C) (hG : Rd C G y dy t j) (q : Bad CI y H j E) (b : But y H G) :
    ∃ x x_1, G y = some (HO.ins C x x_1) ∧ List.lookup (Str.ofString "refuse") x_1 = none ∧ ∃ x x_2 x_3, G y = some (HO.ins x x_2 x_3) ∧ Cls g.K x ∧ NoAttr g.K x (Str.ofString "at") ∧ ∃ x, List.lookup (Str.ofString "at") x_3 = some x ∧ sp_refuse CI [V.ref y, x] G P fun c d H' => E c d H' :=
  ⟨_, _, hG, lk_no, _, _, _, hG, R.cls, R.n2, _, lk_at, _, _, rfl, y, rfl, fun dd hdd => q dd _ (b.trans (But.of (same_upd hdd))) upd_same⟩
section
variable {g : Wd} {f : Addr} {fd : FuncData} {C_TextReader CI : Addr}
theorem sc_TextReader_sign : FnScope ["self"] ["self"] (defScope s_TextReader_sign) := ⟨rfl, rfl, rfl, by decide +kernel, rfl, by decide +kernel, by decide +kernel⟩
def sp_sign (C : Addr) : Sp := S1 fun z H Q _ => ∃ y dy t i, z = .ref y ∧ Rd C H y dy t i ∧ t.length ≤ 10000000 ∧ Q (.str (S ((t.drop i).take 1))) H
theorem ok_sign (F : Df g.K "sign" "TextReader.sign" s_TextReader_sign f fd .none) (T : Txt2 g) (R : RF g C_TextReader) : FnG g 1 f fd ["self"] (sp_sign C_TextReader) := by
  refine F.ok sc_TextReader_sign (fun vs H Q E h => S1.len h) (fun cdv A outer s H vs Q E hr h => ?_)
  obtain ⟨_, rfl, y, dy, t, i, rfl, hy, hl, q⟩ := h
  refine ⟨_, (pss_one (ps_ret (pe_slice (o_sl (K := g.K)) (e_fld (K := g.K) (pv 0)) (po_some (e_fld (K := g.K) (pv 0))) (po_some (pe_op (o_add (K := g.K)) (e_fld (K := g.K) (pv 0)) pe_int))))), ?_⟩
  unfold Rd at hy
  walk_at "sx"
  (simp only [hy]; (try walk_at "sx"); (try simp only [R.cls, R.n1, R.n2, true_and]); (try walk_at "lt"); (try walk_at "sx"))
  refine ⟨by rw [S_len]; omega, ?_⟩
  rw [cut_both _ (by omega) (by omega)]
  have e : (i + 1 : Int).toNat - (i : Int).toNat = 1 := by omega
  rw [e]
  simpa using q
theorem sc_TextReader_refuse : FnScope ["self", "index"] ["self", "index"] (defScope s_TextReader_refuse) := ⟨rfl, rfl, rfl, by decide +kernel, rfl, by decide +kernel, by decide +kernel⟩
theorem ok_refuse (F : Df g.K "refuse" "TextReader.refuse" s_TextReader_refuse f fd .none) (T : Txt2 g) (X_InvalidText : XK1 g "InvalidText" CI "position") (RI : PySem.W.subIn g.K (.ref CI) (.type "BaseException") = some true ∧ PySem.W.typeIn g.K (.ref CI) = some (.type "type")) : FnG g 3 f fd ["self", "index"] (sp_refuse CI) := by
  refine F.ok sc_TextReader_refuse (fun vs H Q E h => S2.len h) (fun cdv A outer s H vs Q E hr h => ?_)
  obtain ⟨_, _, rfl, y, rfl, q⟩ := h
  have R_InvalidText := raises_own (X := cx g ["self", "index"] "TextReader.refuse" s_TextReader_refuse f cdv A outer s H E) RI.1 RI.2
  refine ⟨_, (pss_one (ps_raise rfl tkD (pmk_x1 X_InvalidText R_InvalidText (hr.mono (by first | decide | omega)) (pa_cons (pv 1) pa_nil)))), ?_⟩
  walk_at "sx"
  simp only [tPm1]
  walk_at "sx"
  exact q
theorem sc_TextReader_read_count : FnScope ["self", "found", "begin", "sign"] ["self"] (defScope s_TextReader_read_count) := ⟨rfl, rfl, rfl, by decide +kernel, rfl, by decide +kernel, by decide +kernel⟩
def sp_count (C CI : Addr) : Sp := S1 fun z H Q E => ∃ y dy t i, z = .ref y ∧ Rd C H y dy t i ∧ t.length ≤ 10000000 ∧ i ≤ t.length ∧ match ct 0 0 (t.drop i) with
  | .bad k => Bad CI y H (i + k) E
  | .ok n k => ∀ H', But y H H' → Rd C H' y dy t (i + k) → Q (.int (n : Nat)) H'
theorem ok_count (F : Df g.K "read_count" "TextReader.read_count" s_TextReader_read_count f fd .none) (T : Txt2 g) (R : RF g C_TextReader) (CL_TextReader : Cls g.K C_TextReader) (M_TextReader_sign : Km g C_TextReader "sign" 1 ["self"] [] (sp_sign C_TextReader)) (M_TextReader_refuse : Km g C_TextReader "refuse" 3 ["self", "index"] [] (sp_refuse CI)) : FnG g 4 f fd ["self"] (sp_count C_TextReader CI) := by
  refine F.ok sc_TextReader_read_count (fun vs H Q E h => S1.len h) (fun cdv A outer s H vs Q E hr h => ?_)
  obtain ⟨_, rfl, y, dy, t, i, rfl, hy, hl, hi, q⟩ := h
  refine ⟨_, (pss_mid (ps_set (i := 1) sc_TextReader_read_count.nd rfl (Or.inl rfl) pe_int)
      (pss_mid (ps_set (i := 2) sc_TextReader_read_count.nd rfl (Or.inl rfl) (e_fld (K := g.K) (pv 0)))
      (pss_mid (ps_whileW psD (ptw_or (ptw_cmp (o_ne (K := g.K) hr) (pew_named (i := 3) sc_TextReader_read_count.nd rfl (Or.inl rfl) (pew_of (pe_methG0 (pv 0) CL_TextReader M_TextReader_sign (hr.mono (by first | decide | omega)) tkD))) pe_str (nomark _)) (pw_or1 (pt_cmpR (o_eq (K := g.K) hr) (e_fld (K := g.K) (pv 0)) (pv 2) (nomark _)))) (pss_mid (ps_if (PW.pt (pw_or (pt_cmpR (o_eq (K := g.K) hr) (pv 3) pe_str (nomark _)) (pw_or (pt_cmpR (o_nin (K := g.K)) (pv 3) (e_g T.c_DIGITS) (by rfl)) (pw_or1 (PW.pt (pw_and (pt_cmpR op_gt (e_fld (K := g.K) (pv 0)) (pv 2) (nomark _)) (pw_and1 (pt_cmpR (o_eq (K := g.K) hr) (pv 1) pe_int (nomark _))))))))) (pss_one (ps_expr (pe_methG (pv 0) CL_TextReader M_TextReader_refuse (hr.mono (by first | decide | omega)) tkD (pa_cons (e_fld (K := g.K) (pv 0)) pa_nil)))) pss_nil)
      (pss_mid (ps_set (i := 1) sc_TextReader_read_count.nd rfl (Or.inl rfl) (pe_op (o_add (K := g.K)) (pe_op o_mul pe_int (pv 1)) (pe_callTy call_int_str (by rfl) T.b_int bb_int (pa_cons (pv 3) pa_nil))))
      (pss_mid (ps_if (pt_cmpR op_gt (pv 1) (e_g T.c_MOST_ITEMS) (nomark _)) (pss_one (ps_expr (pe_methG (pv 0) CL_TextReader M_TextReader_refuse (hr.mono (by first | decide | omega)) tkD (pa_cons (e_fld (K := g.K) (pv 0)) pa_nil)))) pss_nil)
      (pss_one (s_fld (K := g.K) (pv 0) (pe_op (o_add (K := g.K)) (e_fld (K := g.K) (pv 0)) pe_int)))))) pss_nil)
      (pss_mid (s_fld (K := g.K) (pv 0) (pe_op (o_add (K := g.K)) (e_fld (K := g.K) (pv 0)) pe_int))
      (pss_one (ps_ret (pv 1))))))), ?_⟩
  refine mid_one [some (.ref y), some (.int 0), none, none] (fun H1 => H1 = H) ?_ ?_
  · walk_at "sx"
  intro H1 e1
  rw [e1]; clear e1 H1
  refine mid_one [some (.ref y), some (.int 0), some (.int (i : Nat)), none] (fun H1 => H1 = H) ?_ ?_
  · unfold Rd at hy
    walk_at "sx"
    (simp only [hy]; (try walk_at "sx"); (try simp only [R.cls, R.n1, R.n2, true_and]); (try walk_at "lt"); (try walk_at "sx"))
  intro H1 e1
  rw [e1]; clear e1 H1
  refine mid_at (fun σ G => ∃ n v, σ = [some (.ref y), some (.int (v : Nat)), some (.int (i : Nat)), some (.str (S [58]))] ∧ Rd C_TextReader G y dy t (i + n) ∧ But y H G ∧ ct 0 0 (t.drop i) = .ok v (n + 1) ∧ i + n < t.length) ?_ ?_
  · refine ⟨fun m σ G => ∃ n v sg, σ = [some (.ref y), some (.int (v : Nat)), some (.int (i : Nat)), sg] ∧ Rd C_TextReader G y dy t (i + n) ∧ But y H G ∧ i + n ≤ t.length ∧ v ≤ 10000 ∧ ct n v (t.drop (i + n)) = ct 0 0 (t.drop i) ∧ m = t.length - (i + n), ⟨_, 0, 0, none, rfl, hy, But.of (Same.refl _), by omega, by omega, rfl, rfl⟩, ?_⟩
    rintro m _ G ⟨n, v, sg, rfl, hG, bG, hn, hv, ec, rfl⟩
    rw [← ec] at q
    have hG' := hG
    unfold Rd at hG'
    simp only [wOr, wCmp, wNm, wE, wT, tRet, tRetN, tSeq, C8.tCut, tNext, tAsg, gName, gNil, gCons, gTup, gFld, tIfS, tIf, tAndV, tOrV, tNotV, tAnd, tOr, tNot, tB, tTest, tOp, tUn, tCB, tCons, tNil, tVar, tC, tChain, tDrop, RS.tCallG, RS.tMethG, tMakeG, RS.tCallK, RS.tMakeK, tEqOwn, rI, rI0, rU, add_ii, add_ss, add_rr, mul_ii, mul_si, mul_ri, RS.eq_ii, RS.eq_ss, eq_bb, eq_nn, eq_sn, eq_ns, eq_in, eq_ni, eq_bn, eq_nb, eq_is, eq_si, eq_rr, ne_ii, ne_ss, ne_bb, ne_nn, ne_sn, ne_ns, ne_in, ne_ni, ne_is, ne_si, ne_rr, in_ss, in_r, nin_ss, nin_r, len_s, len_r, RS.ix_s, RS.ix_r, sl_s, sl_r, is_eq, tyN_n, tyN_b, tyN_i, tyN_s, tru_b, tru_i, tru_n, tSl, tPart, tNoPart, tPar, tPar3, tFmtZ, tFmt, tJs, tDGet, sDPut, sFld, tFld, tTup, tLst, tNever, isB,
  L2.start, List.map_cons, List.map_nil, List.length_cons, List.length_nil, Nat.reduceAdd, Nat.reduceSub, Nat.sub_self, List.replicate_zero, List.replicate_succ, List.append_nil, List.cons_append, List.nil_append, List.getElem?_cons_zero, List.getElem?_cons_succ, List.set_cons_zero, List.set_cons_succ, Option.some.injEq, exists_eq_left, exists_eq_left', exists_and_left, V.bl.injEq, V.int.injEq, V.str.injEq, V.ref.injEq, beq_self_eq_true, Bool.true_or, Bool.or_true, Bool.false_or, Bool.or_false, Bool.and_false, Bool.false_and, Bool.true_and, Bool.and_true, Bool.not_true, Bool.not_false, Bool.false_eq_true, if_true, if_false, ite_true, ite_false, true_and, and_true, and_assoc, String.reduceBEq, String.reduceEq, reduceIte, Bool.and_self, reduceCtorEq, false_and, and_false, exists_false, or_false, false_or, exists_const, iEnumS, iStr, iList, iTup, iRng1, iEnum, tFor_eq, tLc_eq, List.cons.injEq, wipe, not_true_eq_false, not_false_eq_true, upd_same, HO.ins.injEq, HO.tup.injEq, HO.lst.injEq, ofS_eq, lk_nil, lk_cons, pu_nil, pu_cons, sizeLine_eq, Nat.reduceLT, Nat.reduceLeDiff, Nat.reduceEqDiff, Nat.le_refl, decide_true, decide_false, tPr, dget_us, dput_us, vv_nil, vv_cons, RS.pk_nil, pk_one, RS.pk_cons, inr_eq, tDisp, tPairs, tBoolOwn, rBoolOwn, tBM, rAppend, ty_list, ty_str, rEqOwn, iEnumT, RS.tCallS, tM1, tDc_eq, tLock, tLockE, iKeys, tListEnum, rUpdate, tMkX0, tMkX1, tXfv, gSub, rSetL, List.getD_cons_zero, List.getD_cons_succ, tCMethS, ClX.tCVal, tXfa, tIxOwn, tInOwn, tPropG, tMethK, tMethP, tListGen, tDGet2, tDPop2, rNeD0, intA_i, intA_b, tRevL, sFldAug, tPm0, tPm1, tDIn, tDNotIn, tDNewK, RS.tMethS]
    (simp only [hG']; (try walk_at "sx"); (try simp only [R.cls, R.n1, R.n2, true_and]); (try walk_at "lt"); (try walk_at "sx"))
    refine ⟨_, rfl, y, dy, t, i + n, rfl, hG, hl, ?_⟩
    have len := congrArg List.length (List.take_append_drop (i + n) t)
    cases hr : t.drop (i + n) with
    | nil =>
      rw [hr] at q
      simp only [ct] at q
      simp only [List.take_nil, ne_ss, S_eq]
      refine ⟨_, rfl, ?_⟩
      rw [if_pos (by decide)]
      refine ⟨fun _ _ => False, fun _ _ z => z.elim, ?_⟩
      refine mid_at (fun _ _ => False) ?_ (fun _ _ z => z.elim)
      walk_at "sx"
      (simp only [hG']; (try walk_at "sx"); (try simp only [R.cls, R.n1, R.n2, true_and]); (try walk_at "lt"); (try walk_at "sx"))
      exact ⟨_, _, rfl, y, rfl, fun dd hdd => q dd _ (bG.trans (But.of (same_upd hdd))) upd_same⟩
    | cons c r =>
      rw [hr] at q
      rw [hr] at ec
      have hlt : i + n < t.length := by
        have := congrArg List.length hr
        simp at this; omega
      have hdr : t.drop (i + (n + 1)) = r := by
        have : t.drop (i + (n + 1)) = (t.drop (i + n)).drop 1 := by rw [List.drop_drop]; rfl
        rw [this, hr]; rfl
      simp only [List.take_succ_cons, List.take_zero, ne_ss, S_eq]
      refine ⟨_, rfl, ?_⟩
      by_cases c58 : c = 58
      · subst c58
        rw [if_neg (by simp)]
        (simp only [hG']; (try walk_at "sx"); (try simp only [R.cls, R.n1, R.n2, true_and]); (try walk_at "lt"); (try walk_at "sx"))
        by_cases n0 : n = 0
        · subst n0
          have q' : Bad CI y H (i + 0) E := by simpa [ct, isDig] using q
          rw [if_pos (by simp)]
          refine ⟨fun _ _ => False, fun _ _ z => z.elim, ?_⟩
          refine mid_at (fun _ _ => False) ?_ (fun _ _ z => z.elim)
          walk_at "sx"
          walk_at "st"
          rw [if_neg (by simp), if_pos (by decide)]
          exact rf R hG q' bG
        · rw [if_neg (by simp; omega)]
          have e2 : ct n v (58 :: r) = .ok v (n + 1) := by simp [ct, n0]
          exact ⟨n, v, rfl, hG, bG, by rw [← ec, e2], hlt⟩
      · rw [if_pos (by simp [c58])]
        by_cases dgc : isDig c = true ∧ (n = 0 ∨ v ≠ 0)
        · by_cases big : 10 * v + (c - 48) ≤ 10000
          · have e2 : ct n v (c :: r) = ct (n + 1) (10 * v + (c - 48)) r := by simp only [ct]; rw [if_neg (by simp [c58]), if_pos ⟨dgc.1, dgc.2, big⟩]
            refine ⟨fun σ' G' => σ' = [some (.ref y), some (.int ((10 * v + (c - 48) : Nat))), some (.int (i : Nat)), some (.str (S [c]))] ∧ Rd C_TextReader G' y dy t (i + (n + 1)) ∧ But y H G', fun σ' G' z => ⟨t.length - (i + (n + 1)), by omega, n + 1, _, _, z.1, z.2.1, z.2.2, by omega, big, by rw [hdr, ← e2, ec], rfl⟩, ?_⟩
            refine mid_one [some (.ref y), some (.int (v : Nat)), some (.int (i : Nat)), some (.str (S [c]))] (fun G1 => G1 = G) ?_ ?_
            · walk_at "sx"
              walk_at "st"
              rw [if_neg (by simp), if_neg (by rw [dig_in, dgc.1]; decide)]
              refine ⟨_, _, _, hG', R.cls, R.n2, _, lk_at, _, rfl, ?_⟩
              rcases dgc.2 with n0 | v0
              · rw [if_neg (by simp; omega)]
                trivial
              · split
                · rw [if_neg (by simpa using v0)]; trivial
                · trivial
            intro G1 e1
            rw [e1]; clear e1 G1
            refine mid_one [some (.ref y), some (.int ((10 * v + (c - 48) : Nat))), some (.int (i : Nat)), some (.str (S [c]))] (fun G1 => G1 = G) ?_ ?_
            · walk_at "sx"
              exact ⟨.inl ⟨by decide, by decide⟩, _, int_sign dgc.1, by rw [S_len]; simp, by omega⟩
            intro G1 e1
            rw [e1]; clear e1 G1
            refine mid_one [some (.ref y), some (.int ((10 * v + (c - 48) : Nat))), some (.int (i : Nat)), some (.str (S [c]))] (fun G1 => G1 = G) ?_ ?_
            · walk_at "sx"
              rw [if_neg (by simp; omega)]
              trivial
            intro G1 e1
            rw [e1]; clear e1 G1
            walk_at "sx"
            (simp only [hG']; (try walk_at "sx"); (try simp only [R.cls, R.n1, R.n2, true_and]); (try walk_at "lt"); (try walk_at "sx"))
            have e3 := rd_at (C := C_TextReader) (y := y) (dy := dy) (G := G) (t := t) (j := i + n) (k := i + (n + 1)) (i := ((i + n : Nat) : Int) + 1) (by omega)
            exact ⟨_, _, _, hG', R.cls, R.n2, by simp, e3.1, bG.trans e3.2⟩
          · have q' : Bad CI y H (i + n) E := by
              have e2 : ct n v (c :: r) = .bad n := by simp only [ct]; rw [if_neg (by simp [c58]), if_neg (fun z => big z.2.2)]
              rw [e2] at q; exact q
            refine ⟨fun _ _ => False, fun _ _ z => z.elim, ?_⟩
            refine mid_one [some (.ref y), some (.int (v : Nat)), some (.int (i : Nat)), some (.str (S [c]))] (fun G1 => G1 = G) ?_ ?_
            · walk_at "sx"
              walk_at "st"
              rw [if_neg (by simp), if_neg (by rw [dig_in, dgc.1]; decide)]
              refine ⟨_, _, _, hG', R.cls, R.n2, _, lk_at, _, rfl, ?_⟩
              rcases dgc.2 with n0 | v0
              · rw [if_neg (by simp; omega)]
                trivial
              · split
                · rw [if_neg (by simpa using v0)]; trivial
                · trivial
            intro G1 e1
            rw [e1]; clear e1 G1
            refine mid_one [some (.ref y), some (.int ((10 * v + (c - 48) : Nat))), some (.int (i : Nat)), some (.str (S [c]))] (fun G1 => G1 = G) ?_ ?_
            · walk_at "sx"
              exact ⟨.inl ⟨by decide, by decide⟩, _, int_sign dgc.1, by rw [S_len]; simp, by omega⟩
            intro G1 e1
            rw [e1]; clear e1 G1
            refine mid_at (fun _ _ => False) ?_ (fun _ _ z => z.elim)
            walk_at "sx"
            rw [if_pos (by simp; omega)]
            exact rf R hG q' bG
        · have q' : Bad CI y H (i + n) E := by
            have e2 : ct n v (c :: r) = .bad n := by simp only [ct]; rw [if_neg (by simp [c58]), if_neg (fun z => dgc ⟨z.1, z.2.1⟩)]
            rw [e2] at q; exact q
          refine ⟨fun _ _ => False, fun _ _ z => z.elim, ?_⟩
          refine mid_at (fun _ _ => False) ?_ (fun _ _ z => z.elim)
          walk_at "sx"
          walk_at "st"
          rw [if_neg (by simp)]
          by_cases hd : isDig c = true
          · rw [if_neg (by rw [dig_in, hd]; decide)]
            refine ⟨_, _, _, hG', R.cls, R.n2, _, lk_at, _, rfl, ?_⟩
            have n0 : n ≠ 0 := fun z => dgc ⟨hd, .inl z⟩
            have v0 : v = 0 := by
              cases v with
              | zero => rfl
              | succ v => exact absurd ⟨hd, .inr (by omega)⟩ dgc
            rw [if_pos (by simp; omega), if_pos (by simpa using v0)]
            exact rf R hG q' bG
          · rw [if_pos (by rw [dig_in]; simpa using hd)]
            exact rf R hG q' bG
  rintro _ G ⟨n, v, rfl, hG, bG, ec, hn⟩
  rw [ec] at q
  have hG' := hG
  unfold Rd at hG'
  refine mid_one [some (.ref y), some (.int (v : Nat)), some (.int (i : Nat)), some (.str (S [58]))] (fun G1 => But y H G1 ∧ Rd C_TextReader G1 y dy t (i + (n + 1))) ?_ ?_
  · walk_at "sx"
    (simp only [hG']; (try walk_at "sx"); (try simp only [R.cls, R.n1, R.n2, true_and]); (try walk_at "lt"); (try walk_at "sx"))
    have e3 := rd_at (C := C_TextReader) (y := y) (dy := dy) (G := G) (t := t) (j := i + n) (k := i + (n + 1)) (i := ((i + n : Nat) : Int) + 1) (by omega)
    exact ⟨_, _, _, hG', R.cls, R.n2, by simp, bG.trans e3.2, e3.1⟩
  rintro G1 ⟨b1, r1⟩
  walk_at "sx"
  exact q _ b1 r1
end


open NumText
theorem lk_tx {t : List Nat} {j : Nat} : List.lookup (Str.ofString "own_text") [((Str.ofString "own_text"), V.str (S t)), ((Str.ofString "at"), V.int (j : Nat))] = some (.str (S t)) := by
  rw [lk_cons, if_pos rfl]
section
variable {g : Wd} {f : Addr} {fd : FuncData} {C_TextReader CI : Addr}
theorem sc_TextReader_read_digits : FnScope ["self", "closing", "most", "begin", "sign", "is_more"] ["self", "closing", "most"] (defScope s_TextReader_read_digits) := ⟨rfl, rfl, rfl, by decide +kernel, rfl, by decide +kernel, by decide +kernel⟩
def sp_digits (C CI : Addr) : Sp := S3 fun z a b H Q E => ∃ y dy t i, z = .ref y ∧ a = .str (S [59]) ∧ b = .int 100 ∧ Rd C H y dy t i ∧ t.length ≤ 10000000 ∧ i ≤ t.length ∧ match dg false 0 0 (t.drop i) with
  | .bad k => Bad CI y H (i + k) E
  | .ok n k => ∀ H', But y H H' → Rd C H' y dy t (i + k) → Q (.int (n : Nat)) H'
theorem ok_digits (F : Df g.K "read_digits" "TextReader.read_digits" s_TextReader_read_digits f fd .none) (T : Txt2 g) (R : RF g C_TextReader) (CL_TextReader : Cls g.K C_TextReader) (M_TextReader_sign : Km g C_TextReader "sign" 1 ["self"] [] (sp_sign C_TextReader)) (M_TextReader_refuse : Km g C_TextReader "refuse" 3 ["self", "index"] [] (sp_refuse CI)) : FnG g 4 f fd ["self", "closing", "most"] (sp_digits C_TextReader CI) := by
  refine F.ok sc_TextReader_read_digits (fun vs H Q E h => S3.len h) (fun cdv A outer s H vs Q E hr h => ?_)
  obtain ⟨_, _, _, rfl, y, dy, t, i, rfl, rfl, rfl, hy, hl, hi, q⟩ := h
  refine ⟨_, (pss_mid (ps_set (i := 3) sc_TextReader_read_digits.nd rfl (Or.inl rfl) (e_fld (K := g.K) (pv 0)))
      (pss_mid (ps_whileW psD (ptw_or (ptw_cmp (o_ne (K := g.K) hr) (pew_named (i := 4) sc_TextReader_read_digits.nd rfl (Or.inl rfl) (pew_of (pe_methG0 (pv 0) CL_TextReader M_TextReader_sign (hr.mono (by first | decide | omega)) tkD))) (pv 1) (nomark _)) (pw_or1 (pt_cmpR (o_eq (K := g.K) hr) (e_fld (K := g.K) (pv 0)) (pv 3) (nomark _)))) (pss_mid (ps_set (i := 5) sc_TextReader_read_digits.nd rfl (Or.inl rfl) (pe_or (pe_cmpR (o_eq (K := g.K) hr) (e_fld (K := g.K) (pv 0)) (pv 3) (nomark _)) (pe_one (pe_and (pe_cmpR op_lt (pe_op op_sub (e_fld (K := g.K) (pv 0)) (pv 3)) (pv 2) (nomark _)) (pe_one (pe_cmpR (o_ne (K := g.K) hr) (pe_ix (o_ix (K := g.K)) (e_fld (K := g.K) (pv 0)) (pv 3) (fun _ _ => rfl)) pe_str (nomark _)))))))
      (pss_mid (ps_if (PW.pt (pw_or (pt_cmpR (o_eq (K := g.K) hr) (pv 4) pe_str (nomark _)) (pw_or (pt_cmpR (o_nin (K := g.K)) (pv 4) (e_g T.c_DIGITS) (by rfl)) (pw_or1 (pt_not (t_truth (K := g.K) (pv 5))))))) (pss_one (ps_expr (pe_methG (pv 0) CL_TextReader M_TextReader_refuse (hr.mono (by first | decide | omega)) tkD (pa_cons (e_fld (K := g.K) (pv 0)) pa_nil)))) pss_nil)
      (pss_one (s_fld (K := g.K) (pv 0) (pe_op (o_add (K := g.K)) (e_fld (K := g.K) (pv 0)) pe_int))))) pss_nil)
      (pss_mid (s_fld (K := g.K) (pv 0) (pe_op (o_add (K := g.K)) (e_fld (K := g.K) (pv 0)) pe_int))
      (pss_one (ps_ret (pe_callTy call_int_str (by rfl) T.b_int bb_int (pa_cons (pe_slice (o_sl (K := g.K)) (e_fld (K := g.K) (pv 0)) (po_some (pv 3)) (po_some (pe_op op_sub (e_fld (K := g.K) (pv 0)) pe_int))) pa_nil))))))), ?_⟩
  refine mid_one [some (.ref y), some (.str (S [59])), some (.int 100), some (.int (i : Nat)), none, none] (fun H1 => H1 = H) ?_ ?_
  · unfold Rd at hy
    walk_at "sx"
    (simp only [hy]; (try walk_at "sx"); (try simp only [R.cls, R.n1, R.n2, true_and]); (try walk_at "lt"); (try walk_at "sx"))
  intro H1 e1
  rw [e1]; clear e1 H1
  refine mid_at (fun σ G => ∃ n v s5, σ = [some (.ref y), some (.str (S [59])), some (.int 100), some (.int (i : Nat)), some (.str (S [59])), s5] ∧ Rd C_TextReader G y dy t (i + n) ∧ But y H G ∧ dg false 0 0 (t.drop i) = .ok v (n + 1) ∧ i + n < t.length ∧ n ≠ 0 ∧ n ≤ 100 ∧ AllDigits ((t.drop i).take n) ∧ digitsVal ((t.drop i).take n) = v) ?_ ?_
  · refine ⟨fun m σ G => ∃ n v s4 s5, σ = [some (.ref y), some (.str (S [59])), some (.int 100), some (.int (i : Nat)), s4, s5] ∧ Rd C_TextReader G y dy t (i + n) ∧ But y H G ∧ i + n ≤ t.length ∧ n ≤ 100 ∧ AllDigits ((t.drop i).take n) ∧ digitsVal ((t.drop i).take n) = v ∧ dg (decide (n ≠ 0) && decide (t.getD i 0 = 48)) n v (t.drop (i + n)) = dg false 0 0 (t.drop i) ∧ m = t.length - (i + n), ⟨_, 0, 0, none, none, rfl, hy, But.of (Same.refl _), by omega, by omega, by simp [AllDigits], rfl, rfl, rfl⟩, ?_⟩
    rintro m _ G ⟨n, v, s4, s5, rfl, hG, bG, hn, h100, had, hdv, ec, rfl⟩
    rw [← ec] at q
    have hG' := hG
    unfold Rd at hG'
    simp only [wOr, wCmp, wNm, wE, wT, tRet, tRetN, tSeq, C8.tCut, tNext, tAsg, gName, gNil, gCons, gTup, gFld, tIfS, tIf, tAndV, tOrV, tNotV, tAnd, tOr, tNot, tB, tTest, tOp, tUn, tCB, tCons, tNil, tVar, tC, tChain, tDrop, RS.tCallG, RS.tMethG, tMakeG, RS.tCallK, RS.tMakeK, tEqOwn, rI, rI0, rU, add_ii, add_ss, add_rr, mul_ii, mul_si, mul_ri, RS.eq_ii, RS.eq_ss, eq_bb, eq_nn, eq_sn, eq_ns, eq_in, eq_ni, eq_bn, eq_nb, eq_is, eq_si, eq_rr, ne_ii, ne_ss, ne_bb, ne_nn, ne_sn, ne_ns, ne_in, ne_ni, ne_is, ne_si, ne_rr, in_ss, in_r, nin_ss, nin_r, len_s, len_r, RS.ix_s, RS.ix_r, sl_s, sl_r, is_eq, tyN_n, tyN_b, tyN_i, tyN_s, tru_b, tru_i, tru_n, tSl, tPart, tNoPart, tPar, tPar3, tFmtZ, tFmt, tJs, tDGet, sDPut, sFld, tFld, tTup, tLst, tNever, isB,
  L2.start, List.map_cons, List.map_nil, List.length_cons, List.length_nil, Nat.reduceAdd, Nat.reduceSub, Nat.sub_self, List.replicate_zero, List.replicate_succ, List.append_nil, List.cons_append, List.nil_append, List.getElem?_cons_zero, List.getElem?_cons_succ, List.set_cons_zero, List.set_cons_succ, Option.some.injEq, exists_eq_left, exists_eq_left', exists_and_left, V.bl.injEq, V.int.injEq, V.str.injEq, V.ref.injEq, beq_self_eq_true, Bool.true_or, Bool.or_true, Bool.false_or, Bool.or_false, Bool.and_false, Bool.false_and, Bool.true_and, Bool.and_true, Bool.not_true, Bool.not_false, Bool.false_eq_true, if_true, if_false, ite_true, ite_false, true_and, and_true, and_assoc, String.reduceBEq, String.reduceEq, reduceIte, Bool.and_self, reduceCtorEq, false_and, and_false, exists_false, or_false, false_or, exists_const, iEnumS, iStr, iList, iTup, iRng1, iEnum, tFor_eq, tLc_eq, List.cons.injEq, wipe, not_true_eq_false, not_false_eq_true, upd_same, HO.ins.injEq, HO.tup.injEq, HO.lst.injEq, ofS_eq, lk_nil, lk_cons, pu_nil, pu_cons, sizeLine_eq, Nat.reduceLT, Nat.reduceLeDiff, Nat.reduceEqDiff, Nat.le_refl, decide_true, decide_false, tPr, dget_us, dput_us, vv_nil, vv_cons, RS.pk_nil, pk_one, RS.pk_cons, inr_eq, tDisp, tPairs, tBoolOwn, rBoolOwn, tBM, rAppend, ty_list, ty_str, rEqOwn, iEnumT, RS.tCallS, tM1, tDc_eq, tLock, tLockE, iKeys, tListEnum, rUpdate, tMkX0, tMkX1, tXfv, gSub, rSetL, List.getD_cons_zero, List.getD_cons_succ, tCMethS, ClX.tCVal, tXfa, tIxOwn, tInOwn, tPropG, tMethK, tMethP, tListGen, tDGet2, tDPop2, rNeD0, intA_i, intA_b, tRevL, sFldAug, tPm0, tPm1, tDIn, tDNotIn, tDNewK, RS.tMethS]
    (simp only [hG']; (try walk_at "sx"); (try simp only [R.cls, R.n1, R.n2, true_and]); (try walk_at "lt"); (try walk_at "sx"))
    refine ⟨_, rfl, y, dy, t, i + n, rfl, hG, hl, ?_⟩
    cases hr : t.drop (i + n) with
    | nil =>
      rw [hr] at q
      simp only [dg] at q
      simp only [List.take_nil, ne_ss, S_eq]
      refine ⟨_, rfl, ?_⟩
      rw [if_pos (by decide)]
      refine ⟨fun _ _ => False, fun _ _ z => z.elim, ?_⟩
      refine mid_one [some (.ref y), some (.str (S [59])), some (.int 100), some (.int (i : Nat)), some (.str (S [])), some (.bl (decide (n = 0 ∨ (n < 100 ∧ ¬ t.getD i 0 = 48))))] (fun G1 => G1 = G) ?_ ?_
      · walk_at "sx"
        (simp only [hG']; (try walk_at "sx"); (try simp only [R.cls, R.n1, R.n2, true_and]); (try walk_at "lt"); (try walk_at "sx"))
        by_cases n0 : n = 0
        · rw [if_pos (by simp [n0])]
          simp [n0]
        · rw [if_neg (by simp; omega)]
          refine ⟨_, _, _, hG', R.cls, R.n2, _, lk_at, _, rfl, ?_⟩
          by_cases n1 : n < 100
          · rw [if_pos (by simp; omega)]
            refine ⟨_, _, _, hG', R.cls, R.n1, _, lk_tx, ?_⟩
            rw [RS.ix_s]
            refine ⟨by rw [S_len, sizeLine_eq]; omega, _, at_lt (by omega), ?_⟩
            show rNeU g.K (.str (S [t.getD i 0])) (.str (S [48])) G _
            simp only [ne_ss, S_eq]
            simp [n0, n1]
          · rw [if_neg (by simp; omega)]
            simp [n0, n1]
      intro G1 e1
      rw [e1]; clear e1 G1
      refine mid_at (fun _ _ => False) ?_ (fun _ _ z => z.elim)
      walk_at "sx"
      try walk_at "st"
      exact rf R hG q bG
    | cons c r =>
      rw [hr] at q
      rw [hr] at ec
      have hlt : i + n < t.length := by
        have := congrArg List.length hr
        simp at this; omega
      have hdr : t.drop (i + (n + 1)) = r := by
        have : t.drop (i + (n + 1)) = (t.drop (i + n)).drop 1 := by rw [List.drop_drop]; rfl
        rw [this, hr]; rfl
      have htk : (t.drop i).take (n + 1) = (t.drop i).take n ++ [c] := by
        rw [List.take_add_one, List.getElem?_drop]
        have : t[i + n]? = some c := by
          have := congrArg List.head? hr
          rw [List.head?_drop] at this
          exact this
        rw [this]; rfl
      simp only [List.take_succ_cons, List.take_zero, ne_ss, S_eq]
      refine ⟨_, rfl, ?_⟩
      by_cases c59 : c = 59
      · subst c59
        rw [if_neg (by simp)]
        (simp only [hG']; (try walk_at "sx"); (try simp only [R.cls, R.n1, R.n2, true_and]); (try walk_at "lt"); (try walk_at "sx"))
        by_cases n0 : n = 0
        · subst n0
          have q' : Bad CI y H (i + 0) E := by simpa [dg, isDig] using q
          rw [if_pos (by simp)]
          refine ⟨fun _ _ => False, fun _ _ z => z.elim, ?_⟩
          refine mid_at (fun σ G1 => (∃ b, σ = [some (.ref y), some (.str (S [59])), some (.int 100), some (.int (i : Nat)), some (.str (S [59])), some (.bl b)]) ∧ G1 = G) ?_ ?_
          · walk_at "sx"
            (simp only [hG']; (try walk_at "sx"); (try simp only [R.cls, R.n1, R.n2, true_and]); (try walk_at "lt"); (try walk_at "sx"))
            rw [if_pos (by simp)]
            simp
          rintro _ G1 ⟨⟨b, rfl⟩, rfl⟩
          refine mid_at (fun _ _ => False) ?_ (fun _ _ z => z.elim)
          walk_at "sx"
          walk_at "st"
          rw [if_neg (by simp), if_pos (by decide)]
          exact rf R hG q' bG
        · rw [if_neg (by simp; omega)]
          have e2 : dg (decide (n ≠ 0) && decide (t.getD i 0 = 48)) n v (59 :: r) = .ok v (n + 1) := by simp [dg, n0]
          exact ⟨n, hG, bG, v, by rw [← ec, e2], hlt, n0, h100, had, hdv⟩
      · rw [if_pos (by simp [c59])]
        have zz : (n = 0 ∨ (n < 100 ∧ (decide (n ≠ 0) && decide (t.getD i 0 = 48)) = false)) ↔ (n = 0 ∨ (n < 100 ∧ ¬ t.getD i 0 = 48)) := by
          by_cases n0 : n = 0
          · simp [n0]
          · simp [n0]
        by_cases dgc : isDig c = true ∧ (n = 0 ∨ (n < 100 ∧ ¬ t.getD i 0 = 48))
        · have e2 : dg (decide (n ≠ 0) && decide (t.getD i 0 = 48)) n v (c :: r) = dg (decide (n + 1 ≠ 0) && decide (t.getD i 0 = 48)) (n + 1) (10 * v + (c - 48)) r := by
            simp only [dg]
            rw [if_neg (by simp [c59]), if_pos ⟨dgc.1, zz.mpr dgc.2⟩]
            congr 1
            by_cases n0 : n = 0
            · subst n0
              have : t.getD i 0 = c := by
                have := congrArg List.head? hr
                rw [List.head?_drop] at this
                simp at this
                rw [List.getD_eq_getElem?_getD, this]; rfl
              rw [this]; simp
            · simp [n0]
          refine ⟨fun σ' G' => σ' = [some (.ref y), some (.str (S [59])), some (.int 100), some (.int (i : Nat)), some (.str (S [c])), some (.bl true)] ∧ Rd C_TextReader G' y dy t (i + (n + 1)) ∧ But y H G', fun σ' G' z => ⟨t.length - (i + (n + 1)), by omega, n + 1, 10 * v + (c - 48), _, _, z.1, z.2.1, z.2.2, by omega, by omega, ?_, ?_, by rw [hdr, ← e2, ec], rfl⟩, ?_⟩
          · rw [htk]
            intro c' hc'
            rcases List.mem_append.mp hc' with h | h
            · exact had c' h
            · rw [List.mem_singleton.mp h]; simpa [isDig] using dgc.1
          · rw [htk, ← hdv]
            unfold digitsVal
            rw [List.foldl_append]
            simp; omega
          refine mid_one [some (.ref y), some (.str (S [59])), some (.int 100), some (.int (i : Nat)), some (.str (S [c])), some (.bl (decide (n = 0 ∨ (n < 100 ∧ ¬ t.getD i 0 = 48))))] (fun G1 => G1 = G) ?_ ?_
          · walk_at "sx"
            (simp only [hG']; (try walk_at "sx"); (try simp only [R.cls, R.n1, R.n2, true_and]); (try walk_at "lt"); (try walk_at "sx"))
            by_cases n0 : n = 0
            · rw [if_pos (by simp [n0])]
              simp [n0]
            · rw [if_neg (by simp; omega)]
              refine ⟨_, _, _, hG', R.cls, R.n2, _, lk_at, _, rfl, ?_⟩
              by_cases n1 : n < 100
              · rw [if_pos (by simp; omega)]
                refine ⟨_, _, _, hG', R.cls, R.n1, _, lk_tx, ?_⟩
                rw [RS.ix_s]
                refine ⟨by rw [S_len, sizeLine_eq]; omega, _, at_lt (by omega), ?_⟩
                show rNeU g.K (.str (S [t.getD i 0])) (.str (S [48])) G _
                simp only [ne_ss, S_eq]
                simp [n0, n1]
              · rw [if_neg (by simp; omega)]
                simp [n0, n1]
          intro G1 e1
          rw [e1]; clear e1 G1
          refine mid_one [some (.ref y), some (.str (S [59])), some (.int 100), some (.int (i : Nat)), some (.str (S [c])), some (.bl (decide (n = 0 ∨ (n < 100 ∧ ¬ t.getD i 0 = 48))))] (fun G1 => G1 = G) ?_ ?_
          · walk_at "sx"
            walk_at "st"
            rw [if_neg (by simp), if_neg (by rw [dig_in, dgc.1]; decide), if_neg (by rw [decide_eq_true dgc.2]; decide)]
            trivial
          intro G1 e1
          rw [e1]; clear e1 G1
          walk_at "sx"
          (simp only [hG']; (try walk_at "sx"); (try simp only [R.cls, R.n1, R.n2, true_and]); (try walk_at "lt"); (try walk_at "sx"))
          have e3 := rd_at (C := C_TextReader) (y := y) (dy := dy) (G := G) (t := t) (j := i + n) (k := i + (n + 1)) (i := ((i + n : Nat) : Int) + 1) (by omega)
          exact ⟨_, _, _, hG', R.cls, R.n2, by simp, decide_eq_true dgc.2, e3.1, bG.trans e3.2⟩
        · have q' : Bad CI y H (i + n) E := by
            have e2 : dg (decide (n ≠ 0) && decide (t.getD i 0 = 48)) n v (c :: r) = .bad n := by simp only [dg]; rw [if_neg (by simp [c59]), if_neg (fun z => dgc ⟨z.1, zz.mp z.2⟩)]
            rw [e2] at q; exact q
          refine ⟨fun _ _ => False, fun _ _ z => z.elim, ?_⟩
          refine mid_one [some (.ref y), some (.str (S [59])), some (.int 100), some (.int (i : Nat)), some (.str (S [c])), some (.bl (decide (n = 0 ∨ (n < 100 ∧ ¬ t.getD i 0 = 48))))] (fun G1 => G1 = G) ?_ ?_
          · walk_at "sx"
            (simp only [hG']; (try walk_at "sx"); (try simp only [R.cls, R.n1, R.n2, true_and]); (try walk_at "lt"); (try walk_at "sx"))
            by_cases n0 : n = 0
            · rw [if_pos (by simp [n0])]
              simp [n0]
            · rw [if_neg (by simp; omega)]
              refine ⟨_, _, _, hG', R.cls, R.n2, _, lk_at, _, rfl, ?_⟩
              by_cases n1 : n < 100
              · rw [if_pos (by simp; omega)]
                refine ⟨_, _, _, hG', R.cls, R.n1, _, lk_tx, ?_⟩
                rw [RS.ix_s]
                refine ⟨by rw [S_len, sizeLine_eq]; omega, _, at_lt (by omega), ?_⟩
                show rNeU g.K (.str (S [t.getD i 0])) (.str (S [48])) G _
                simp only [ne_ss, S_eq]
                simp [n0, n1]
              · rw [if_neg (by simp; omega)]
                simp [n0, n1]
          intro G1 e1
          rw [e1]; clear e1 G1
          refine mid_at (fun _ _ => False) ?_ (fun _ _ z => z.elim)
          walk_at "sx"
          walk_at "st"
          rw [if_neg (by simp)]
          by_cases hd : isDig c = true
          · rw [if_neg (by rw [dig_in, hd]; decide), if_pos (by rw [decide_eq_false (fun z => dgc ⟨hd, z⟩)]; rfl)]
            exact rf R hG q' bG
          · rw [if_pos (by rw [dig_in]; simpa using hd)]
            exact rf R hG q' bG
  rintro _ G ⟨n, v, s5, rfl, hG, bG, ec, hn, n0, h100, had, hdv⟩
  rw [ec] at q
  have hG' := hG
  unfold Rd at hG'
  refine mid_one [some (.ref y), some (.str (S [59])), some (.int 100), some (.int (i : Nat)), some (.str (S [59])), s5] (fun G1 => But y H G1 ∧ Rd C_TextReader G1 y dy t (i + (n + 1))) ?_ ?_
  · walk_at "sx"
    (simp only [hG']; (try walk_at "sx"); (try simp only [R.cls, R.n1, R.n2, true_and]); (try walk_at "lt"); (try walk_at "sx"))
    have e3 := rd_at (C := C_TextReader) (y := y) (dy := dy) (G := G) (t := t) (j := i + n) (k := i + (n + 1)) (i := ((i + n : Nat) : Int) + 1) (by omega)
    exact ⟨_, _, _, hG', R.cls, R.n2, by simp, bG.trans e3.2, e3.1⟩
  rintro G1 ⟨b1, r1⟩
  have r1' := r1
  unfold Rd at r1'
  walk_at "sx"
  (simp only [r1']; (try walk_at "sx"); (try simp only [R.cls, R.n1, R.n2, true_and]); (try walk_at "lt"); (try walk_at "sx"))
  rw [cut_both _ (by omega) (by omega)]
  have e4 : (((i + (n + 1) : Nat) : Int) - 1).toNat - (i : Int).toNat = n := by omega
  rw [e4]
  have e5 : ((i : Nat) : Int).toNat = i := by omega
  rw [e5]
  have nn : (t.drop i).take n ≠ [] := fun z => by
    have := congrArg List.length z
    simp at this; omega
  refine ⟨by rw [S_len]; omega, _, intText_digits (x := S ((t.drop i).take n)) had nn (by rw [S_len, List.length_take]; omega), by rw [S_len, List.length_take]; omega, ?_⟩
  have e6 : digitsVal (S ((t.drop i).take n)).cps.toList = v := hdv
  rw [e6]
  exact q _ b1 r1
end


section
variable {g : Wd} {f : Addr} {fd : FuncData} {C_TextReader CI : Addr}
theorem sc_TextReader_read_integer : FnScope ["self"] ["self"] (defScope s_TextReader_read_integer) := ⟨rfl, rfl, rfl, by decide +kernel, rfl, by decide +kernel, by decide +kernel⟩
def sp_integer (C CI : Addr) : Sp := S1 fun z H Q E => ∃ y dy t i, z = .ref y ∧ Rd C H y dy t i ∧ t.length ≤ 10000000 ∧ i ≤ t.length ∧ match ig (t.drop i) with
  | .bad k => Bad CI y H (i + k) E
  | .ok n k => ∀ H', But y H H' → Rd C H' y dy t (i + k) → Q (.int n) H'
theorem ok_integer (F : Df g.K "read_integer" "TextReader.read_integer" s_TextReader_read_integer f fd .none) (T : Txt2 g) (R : RF g C_TextReader) (CL_TextReader : Cls g.K C_TextReader) (M_TextReader_sign : Km g C_TextReader "sign" 1 ["self"] [] (sp_sign C_TextReader)) (M_TextReader_refuse : Km g C_TextReader "refuse" 3 ["self", "index"] [] (sp_refuse CI)) (M_TextReader_read_digits : Km g C_TextReader "read_digits" 4 ["self", "closing", "most"] [] (sp_digits C_TextReader CI)) : FnG g 5 f fd ["self"] (sp_integer C_TextReader CI) := by
  refine F.ok sc_TextReader_read_integer (fun vs H Q E h => S1.len h) (fun cdv A outer s H vs Q E hr h => ?_)
  obtain ⟨_, rfl, y, dy, t, i, rfl, hy, hl, hi, q⟩ := h
  refine ⟨_, (pss_mid (ps_if (pt_cmpR (o_ne (K := g.K) hr) (pe_methG0 (pv 0) CL_TextReader M_TextReader_sign (hr.mono (by first | decide | omega)) tkD) pe_str (nomark _)) (pss_one (ps_ret (pe_methG (pv 0) CL_TextReader M_TextReader_read_digits (hr.mono (by first | decide | omega)) tkD (pa_cons pe_str (pa_cons (e_g T.c_MOST_DIGITS) pa_nil))))) pss_nil)
      (pss_mid (s_fld (K := g.K) (pv 0) (pe_op (o_add (K := g.K)) (e_fld (K := g.K) (pv 0)) pe_int))
      (pss_mid (ps_if (pt_cmpR (o_eq (K := g.K) hr) (pe_methG0 (pv 0) CL_TextReader M_TextReader_sign (hr.mono (by first | decide | omega)) tkD) pe_str (nomark _)) (pss_one (ps_expr (pe_methG (pv 0) CL_TextReader M_TextReader_refuse (hr.mono (by first | decide | omega)) tkD (pa_cons (e_fld (K := g.K) (pv 0)) pa_nil)))) pss_nil)
      (pss_one (ps_ret (pe_op op_sub pe_int (pe_methG (pv 0) CL_TextReader M_TextReader_read_digits (hr.mono (by first | decide | omega)) tkD (pa_cons pe_str (pa_cons (e_g T.c_MOST_DIGITS) pa_nil))))))))), ?_⟩
  have hy' := hy
  unfold Rd at hy'
  by_cases mi : (t.drop i).take 1 = [45]
  · obtain ⟨r, hr⟩ : ∃ r, t.drop i = 45 :: r := by
      cases hh : t.drop i with
      | nil => rw [hh] at mi; simp at mi
      | cons c r => rw [hh] at mi; simp at mi; exact ⟨r, by rw [mi]⟩
    have hdr : t.drop (i + 1) = r := by
      have : t.drop (i + 1) = (t.drop i).drop 1 := by rw [List.drop_drop]
      rw [this, hr]; rfl
    have hlt : i + 1 ≤ t.length := by
      have := congrArg List.length hr
      simp at this; omega
    refine mid_one [some (.ref y)] (fun H1 => H1 = H) ?_ ?_
    · walk_at "sx"
      (simp only [hy']; (try walk_at "sx"); (try simp only [R.cls, R.n1, R.n2, true_and]); (try walk_at "lt"); (try walk_at "sx"))
      refine ⟨_, rfl, y, dy, t, i, rfl, hy, hl, ?_⟩
      rw [mi]
      simp only [ne_ss]
      refine ⟨_, rfl, ?_⟩
      rw [if_neg (by simp)]
      trivial
    intro H1 e1
    rw [e1]; clear e1 H1
    refine mid_one [some (.ref y)] (fun G => But y H G ∧ Rd C_TextReader G y dy t (i + 1)) ?_ ?_
    · walk_at "sx"
      (simp only [hy']; (try walk_at "sx"); (try simp only [R.cls, R.n1, R.n2, true_and]); (try walk_at "lt"); (try walk_at "sx"))
      have e3 := rd_at (C := C_TextReader) (y := y) (dy := dy) (G := H) (t := t) (j := i) (k := i + 1) (i := (i : Int) + 1) (by omega)
      exact ⟨_, _, _, hy', R.cls, R.n2, by simp, e3.2, e3.1⟩
    rintro G ⟨bG, hG⟩
    have hG' := hG
    unfold Rd at hG'
    by_cases ze : r.take 1 = [48]
    · obtain ⟨r2, hr2⟩ : ∃ r2, r = 48 :: r2 := by
        cases r with
        | nil => simp at ze
        | cons c r => simp at ze; exact ⟨r, by rw [ze]⟩
      have q' : Bad CI y H (i + 1) E := by rw [hr, hr2] at q; simpa [ig] using q
      refine mid_at (fun _ _ => False) ?_ (fun _ _ z => z.elim)
      walk_at "sx"
      (simp only [hG']; (try walk_at "sx"); (try simp only [R.cls, R.n1, R.n2, true_and]); (try walk_at "lt"); (try walk_at "sx"))
      refine ⟨_, rfl, y, dy, t, i + 1, rfl, hG, hl, ?_⟩
      rw [hdr, ze]
      simp only [RS.eq_ss]
      refine ⟨_, rfl, ?_⟩
      rw [if_pos (by simp)]
      exact rf R hG q' bG
    · have eig : ig (t.drop i) = ((dg false 0 0 r).map fun v : Nat => (0 - (v : Int))).up 1 := by
        rw [hr]
        unfold ig
        cases r with
        | nil => rfl
        | cons c r => 
          have : c ≠ 48 := fun e => ze (by simp [e])
          simp [this]
      refine mid_one [some (.ref y)] (fun G1 => G1 = G) ?_ ?_
      · walk_at "sx"
        (simp only [hG']; (try walk_at "sx"); (try simp only [R.cls, R.n1, R.n2, true_and]); (try walk_at "lt"); (try walk_at "sx"))
        refine ⟨_, rfl, y, dy, t, i + 1, rfl, hG, hl, ?_⟩
        rw [hdr]
        simp only [RS.eq_ss, S_eq]
        refine ⟨_, rfl, ?_⟩
        rw [if_neg (by simpa using ze)]
        trivial
      intro G1 e1
      rw [e1]; clear e1 G1
      walk_at "sx"
      (simp only [hG']; (try walk_at "sx"); (try simp only [R.cls, R.n1, R.n2, true_and]); (try walk_at "lt"); (try walk_at "sx"))
      refine ⟨_, _, _, rfl, y, dy, t, i + 1, rfl, rfl, rfl, hG, hl, hlt, ?_⟩
      rw [eig] at q
      rw [hdr]
      cases hd : dg false 0 0 r with
      | bad k =>
        rw [hd] at q
        simp only [Res.map, Res.up] at q
        rw [← Nat.add_assoc] at q
        exact fun dd H' b h => q dd H' (bG.trans b) h
      | ok n k =>
        rw [hd] at q
        simp only [Res.map, Res.up] at q
        rw [← Nat.add_assoc] at q
        exact fun H' b h => ⟨_, rfl, q H' (bG.trans b) h⟩
  · have eig : ig (t.drop i) = (dg false 0 0 (t.drop i)).map fun v : Nat => (v : Int) := by
      cases hh : t.drop i with
      | nil => rfl
      | cons c r =>
        have : c ≠ 45 := fun e => mi (by rw [hh]; simp [e])
        unfold ig
        simp [this]
    refine mid_at (fun _ _ => False) ?_ (fun _ _ z => z.elim)
    walk_at "sx"
    (simp only [hy']; (try walk_at "sx"); (try simp only [R.cls, R.n1, R.n2, true_and]); (try walk_at "lt"); (try walk_at "sx"))
    refine ⟨_, rfl, y, dy, t, i, rfl, hy, hl, ?_⟩
    simp only [ne_ss, S_eq]
    refine ⟨_, rfl, ?_⟩
    rw [if_pos (by simpa using mi)]
    (simp only [hy']; (try walk_at "sx"); (try simp only [R.cls, R.n1, R.n2, true_and]); (try walk_at "lt"); (try walk_at "sx"))
    refine ⟨_, _, _, rfl, y, dy, t, i, rfl, rfl, rfl, hy, hl, hi, ?_⟩
    rw [eig] at q
    cases hd : dg false 0 0 (t.drop i) with
    | bad k => rw [hd] at q; exact q
    | ok n k => rw [hd] at q; exact q
theorem sc_TextReader_read_string : FnScope ["self", "size", "found"] ["self"] (defScope s_TextReader_read_string) := ⟨rfl, rfl, rfl, by decide +kernel, rfl, by decide +kernel, by decide +kernel⟩
def sp_string (C CI : Addr) : Sp := S1 fun z H Q E => ∃ y dy t i, z = .ref y ∧ Rd C H y dy t i ∧ t.length ≤ 10000000 ∧ i ≤ t.length ∧ match rs (t.drop i) with
  | .bad k => Bad CI y H (i + k) E
  | .ok x k => ∀ H', But y H H' → Rd C H' y dy t (i + k) → Q (.str (S x)) H'
theorem ok_string (F : Df g.K "read_string" "TextReader.read_string" s_TextReader_read_string f fd .none) (T : Txt2 g) (R : RF g C_TextReader) (CL_TextReader : Cls g.K C_TextReader) (M_TextReader_refuse : Km g C_TextReader "refuse" 3 ["self", "index"] [] (sp_refuse CI)) (M_TextReader_read_count : Km g C_TextReader "read_count" 4 ["self"] [] (sp_count C_TextReader CI)) : FnG g 5 f fd ["self"] (sp_string C_TextReader CI) := by
  refine F.ok sc_TextReader_read_string (fun vs H Q E h => S1.len h) (fun cdv A outer s H vs Q E hr h => ?_)
  obtain ⟨_, rfl, y, dy, t, i, rfl, hy, hl, hi, q⟩ := h
  refine ⟨_, (pss_mid (ps_set (i := 1) sc_TextReader_read_string.nd rfl (Or.inl rfl) (pe_methG0 (pv 0) CL_TextReader M_TextReader_read_count (hr.mono (by first | decide | omega)) tkD))
      (pss_mid (ps_if (pt_cmpR op_gt (pe_op (o_add (K := g.K)) (e_fld (K := g.K) (pv 0)) (pv 1)) (pe_callB (c_len (K := g.K)) (by rfl) T.b_len bb_len (pa_cons (e_fld (K := g.K) (pv 0)) pa_nil)) (nomark _)) (pss_one (ps_expr (pe_methG (pv 0) CL_TextReader M_TextReader_refuse (hr.mono (by first | decide | omega)) tkD (pa_cons (pe_callB (c_len (K := g.K)) (by rfl) T.b_len bb_len (pa_cons (e_fld (K := g.K) (pv 0)) pa_nil)) pa_nil)))) pss_nil)
      (pss_mid (ps_set (i := 2) sc_TextReader_read_string.nd rfl (Or.inl rfl) (pe_slice (o_sl (K := g.K)) (e_fld (K := g.K) (pv 0)) (po_some (e_fld (K := g.K) (pv 0))) (po_some (pe_op (o_add (K := g.K)) (e_fld (K := g.K) (pv 0)) (pv 1)))))
      (pss_mid (s_fld (K := g.K) (pv 0) (pe_op (o_add (K := g.K)) (e_fld (K := g.K) (pv 0)) (pv 1)))
      (pss_one (ps_ret (pv 2))))))), ?_⟩
  have hy' := hy
  unfold Rd at hy'
  unfold rs at q
  refine mid_at (fun σ G => ∃ n k, ct 0 0 (t.drop i) = .ok n k ∧ σ = [some (.ref y), some (.int (n : Nat)), none] ∧ But y H G ∧ Rd C_TextReader G y dy t (i + k)) ?_ ?_
  · walk_at "sx"
    (simp only [hy']; (try walk_at "sx"); (try simp only [R.cls, R.n1, R.n2, true_and]); (try walk_at "lt"); (try walk_at "sx"))
    refine ⟨_, rfl, y, dy, t, i, rfl, hy, hl, hi, ?_⟩
    cases hc : ct 0 0 (t.drop i) with
    | bad k => rw [hc] at q; exact q
    | ok n k => exact fun H' b h => ⟨n, k, rfl, rfl, b, h⟩
  rintro _ G ⟨n, k, hc, rfl, bG, hG⟩
  rw [hc] at q
  have hG' := hG
  unfold Rd at hG'
  simp only at q
  by_cases fit : n ≤ ((t.drop i).drop k).length
  · rw [if_pos fit] at q
    have f2 : i + k + n ≤ t.length := by
      rw [List.drop_drop, List.length_drop] at fit
      have := (ct_len hc).1
      rw [List.length_drop] at this
      omega
    refine mid_one [some (.ref y), some (.int (n : Nat)), none] (fun G1 => G1 = G) ?_ ?_
    · walk_at "sx"
      (simp only [hG']; (try walk_at "sx"); (try simp only [R.cls, R.n1, R.n2, true_and]); (try walk_at "lt"); (try walk_at "sx"))
      refine ⟨_, _, _, hG', R.cls, R.n1, _, lk_tx, ?_⟩
      simp only [len_s, S_len]
      refine ⟨by rw [sizeLine_eq]; omega, _, rfl, ?_⟩
      rw [if_neg (by simp; omega)]
      trivial
    intro G1 e1
    rw [e1]; clear e1 G1
    refine mid_one [some (.ref y), some (.int (n : Nat)), some (.str (S (((t.drop i).drop k).take n)))] (fun G1 => G1 = G) ?_ ?_
    · walk_at "sx"
      (simp only [hG']; (try walk_at "sx"); (try simp only [R.cls, R.n1, R.n2, true_and]); (try walk_at "lt"); (try walk_at "sx"))
      refine ⟨by rw [S_len]; omega, ?_⟩
      rw [cut_both _ (by omega) (by omega), List.drop_drop]
      congr 2
      · omega
    intro G1 e1
    rw [e1]; clear e1 G1
    refine mid_one [some (.ref y), some (.int (n : Nat)), some (.str (S (((t.drop i).drop k).take n)))] (fun G1 => But y H G1 ∧ Rd C_TextReader G1 y dy t (i + (k + n))) ?_ ?_
    · walk_at "sx"
      (simp only [hG']; (try walk_at "sx"); (try simp only [R.cls, R.n1, R.n2, true_and]); (try walk_at "lt"); (try walk_at "sx"))
      have e3 := rd_at (C := C_TextReader) (y := y) (dy := dy) (G := G) (t := t) (j := i + k) (k := i + (k + n)) (i := ((i + k : Nat) : Int) + (n : Nat)) (by omega)
      exact ⟨_, _, _, hG', R.cls, R.n2, by simp, bG.trans e3.2, e3.1⟩
    rintro G1 ⟨b1, r1⟩
    walk_at "sx"
    exact q _ b1 r1
  · rw [if_neg fit] at q
    have q' : Bad CI y H t.length E := by
      have : i + (t.drop i).length = t.length := by rw [List.length_drop]; omega
      simp only at q
      rw [this] at q; exact q
    refine mid_at (fun _ _ => False) ?_ (fun _ _ z => z.elim)
    walk_at "sx"
    (simp only [hG']; (try walk_at "sx"); (try simp only [R.cls, R.n1, R.n2, true_and]); (try walk_at "lt"); (try walk_at "sx"))
    refine ⟨_, _, _, hG', R.cls, R.n1, _, lk_tx, ?_⟩
    simp only [len_s, S_len]
    refine ⟨by rw [sizeLine_eq]; omega, _, rfl, ?_⟩
    rw [List.drop_drop, List.length_drop] at fit
    rw [if_pos (by simp; omega)]
    refine ⟨_, _, hG', lk_no, _, _, _, hG', R.cls, R.n1, _, lk_tx, ?_⟩
    simp only [len_s, S_len]
    exact ⟨by rw [sizeLine_eq]; omega, _, _, rfl, y, rfl, fun dd hdd => q' dd _ (bG.trans (But.of (same_upd hdd))) upd_same⟩
end


theorem up_map {α : Type} (x : Res (List α)) (a : α) (ds : List α) (k kk : Nat) : (((x.map fun as => a :: as).up k).map fun as => ds ++ as).up kk = (x.map fun as => (ds ++ [a]) ++ as).up (kk + k) := by
  cases x with
  | bad j => simp only [Res.map, Res.up]; congr 1; omega
  | ok b j => simp only [Res.map, Res.up, List.append_assoc, List.cons_append, List.nil_append]; congr 1; omega
theorem mny_len {α : Type} {f : List Nat → Res α} (hf : ∀ r a k, f r = .ok a k → k ≤ r.length) : ∀ {m : Nat} {r : List Nat} {as : List α} {k : Nat}, mny f m r = .ok as k → k ≤ r.length ∧ as.length = m
  | 0, r, as, k, h => by simp only [mny] at h; cases h; simp
  | m + 1, r, as, k, h => by
    simp only [mny] at h
    cases hx : f r with
    | bad j => rw [hx] at h; cases h
    | ok a j =>
      rw [hx] at h
      have l1 := hf r a j hx
      cases hy : mny f m (r.drop j) with
      | bad j2 => simp only [hy, Res.map, Res.up] at h; cases h
      | ok bs j2 =>
        simp only [hy, Res.map, Res.up] at h
        cases h
        have := mny_len hf hy
        rw [List.length_drop] at this
        simp; omega
section
variable {g : Wd} {f : Addr} {fd : FuncData} {C_TextReader CI : Addr}
/-- read_part with n levels left -/
def sp_part (C CI : Addr) (n : Nat) : Sp := S2 fun z dep H Q E => ∃ y dy t i, z = .ref y ∧ dep = .int (20 - (n : Int)) ∧ n ≤ 20 ∧ Rd C H y dy t i ∧ t.length ≤ 10000000 ∧ i ≤ t.length ∧ match rp n (t.drop i) with
  | .bad k => Bad CI y H (i + k) E
  | .ok d k => ∀ v fp H', Tr H' v d fp → (∀ c ∈ fp, H c = none) → But y H H' → Rd C H' y dy t (i + k) → Q v H'
/-- the items of a value that has n levels -/
def rpI (n : Nat) (r : List Nat) : Res (List PyData) := match ct 0 0 r with
  | .bad k => .bad k
  | .ok m k => (mny (rp n) m (r.drop k)).up k
theorem sc_TextReader_read_items : FnScope ["self", "depth", "found", "turn"] ["self", "depth"] (defScope s_TextReader_read_items) := ⟨rfl, rfl, rfl, by decide +kernel, rfl, by decide +kernel, by decide +kernel⟩
def sp_its1 (C CI : Addr) (n : Nat) : Sp := S2 fun z dep H Q E => ∃ y dy t i, z = .ref y ∧ dep = .int (20 - ((n + 1 : Nat) : Int)) ∧ n + 1 ≤ 20 ∧ Rd C H y dy t i ∧ t.length ≤ 10000000 ∧ i ≤ t.length ∧ match rpI n (t.drop i) with
  | .bad k => Bad CI y H (i + k) E
  | .ok ds k => ∀ p vs fp H', H' p = some (.lst vs) → TrL H' vs ds fp → H p = none → (∀ c ∈ fp, H c = none ∧ c ≠ p) → But y H H' → Rd C H' y dy t (i + k) → Q (.ref p) H'
def sp_its (C CI : Addr) : Nat → Sp
  | 0 => fun _ _ _ _ => False
  | n + 1 => sp_its1 C CI n
theorem ok_its (n : Nat) (hrp : ∀ r d k, rp n r = .ok d k → k ≤ r.length) (F : Df g.K "read_items" "TextReader.read_items" s_TextReader_read_items f fd .none) (T : Txt2 g) (R : RF g C_TextReader) (CL_TextReader : Cls g.K C_TextReader) (M_TextReader_read_count : Km g C_TextReader "read_count" 4 ["self"] [] (sp_count C_TextReader CI)) (M_TextReader_read_part : Km g C_TextReader "read_part" (2 * n + 6) ["self", "depth"] [] (sp_part C_TextReader CI n)) : FnG g (2 * n + 7) f fd ["self", "depth"] (sp_its1 C_TextReader CI n) := by
  refine F.ok sc_TextReader_read_items (fun vs H Q E h => S2.len h) (fun cdv A outer s H vs Q E hr h => ?_)
  obtain ⟨_, _, rfl, y, dy, t, i, rfl, rfl, h20, hy, hl, hi, q⟩ := h
  refine ⟨_, (pss_mid (ps_set (i := 2) sc_TextReader_read_items.nd rfl (Or.inl rfl) (pe_lst pa_nil))
      (pss_mid (ps_for psD rfl (pi_range1 rfl T.b_range (pa_cons (pe_methG0 (pv 0) CL_TextReader M_TextReader_read_count (hr.mono (by first | decide | omega)) tkD) pa_nil)) (pg_name (i := 3) sc_TextReader_read_items.nd rfl (.inl rfl)) (pss_one (ps_expr (e_bm (K := g.K) PySem.F.plainAttrs_list PySem.F.slot_list_append PySem.F.type_list_append mt_append (pv 2) (pa_cons (pe_methG (pv 0) CL_TextReader M_TextReader_read_part (hr.mono (by first | decide | omega)) tkD (pa_cons (pe_op (o_add (K := g.K)) (pv 1) pe_int) pa_nil)) pa_nil)))))
      (pss_one (ps_ret (pv 2))))), ?_⟩
  unfold rpI at q
  refine mid_at (fun σ G => ∃ p, σ = [some (.ref y), some (.int (20 - ((n + 1 : Nat) : Int))), some (.ref p), none] ∧ H p = none ∧ G = upd H p (.lst [])) ?_ ?_
  · walk_at "sx"
    exact fun p hp => hp
  rintro _ H1 ⟨p, rfl, hp, rfl⟩
  have s1 := same_upd (o := HO.lst []) hp
  have ep : upd H p (HO.lst []) p = some (.lst []) := upd_same
  have hy1 : Rd C_TextReader (upd H p (HO.lst [])) y dy t i := s1 _ _ hy
  have yp : y ≠ p := fun e => by unfold Rd at hy; rw [e, hp] at hy; cases hy
  generalize upd H p (HO.lst []) = H1 at s1 ep hy1 ⊢
  have hy' := hy1
  unfold Rd at hy'
  refine mid_at (fun σ G => ∃ v3 ds k vs fp, σ = [some (.ref y), some (.int (20 - ((n + 1 : Nat) : Int))), some (.ref p), v3] ∧ rpI n (t.drop i) = .ok ds k ∧ G p = some (.lst vs) ∧ TrL G vs ds fp ∧ (∀ c ∈ fp, H c = none ∧ c ≠ p) ∧ But y H G ∧ Rd C_TextReader G y dy t (i + k)) ?_ ?_
  · walk_at "sx"
    (simp only [hy']; (try walk_at "sx"); (try simp only [R.cls, R.n1, R.n2, true_and]); (try walk_at "lt"); (try walk_at "sx"))
    refine ⟨_, rfl, y, dy, t, i, rfl, hy1, hl, hi, ?_⟩
    cases hc : ct 0 0 (t.drop i) with
    | bad k =>
      rw [hc] at q
      exact fun dd H' b h => q dd H' (fun c o n z => b c o n (s1 _ _ z)) h
    | ok m k =>
      rw [hc] at q
      simp only at q
      intro H2 b2 r2
      have ck := ct_len hc
      rw [List.length_drop] at ck
      refine ⟨_, rfl, by omega, by omega, ?_⟩
      have e0 : rpI n (t.drop i) = ((mny (rp n) (m - 0) (t.drop (i + k))).map fun as => [] ++ as).up k := by
        unfold rpI
        rw [hc]
        simp only [List.drop_drop, Nat.sub_zero]
        cases mny (rp n) m (t.drop (i + k)) <;> rfl
      have b12 : But y H H2 := fun c o n z => b2 c o n (s1 _ _ z)
      have eq2 : (match rpI n (t.drop i) with
        | .bad k => Bad CI y H (i + k) E
        | .ok ds k => ∀ p vs fp H', H' p = some (.lst vs) → TrL H' vs ds fp → H p = none → (∀ c ∈ fp, H c = none ∧ c ≠ p) → But y H H' → Rd C_TextReader H' y dy t (i + k) → Q (.ref p) H') := by
        unfold rpI
        rw [hc]
        exact q
      refine for_by m (fun j σ G => (∃ v3, σ = [some (.ref y), some (.int (20 - ((n + 1 : Nat) : Int))), some (.ref p), v3]) ∧ ∃ ds kk vs fa, G p = some (.lst vs) ∧ vs.length = j ∧ TrL G vs ds fa ∧ (∀ c ∈ fa, H c = none ∧ c ≠ p) ∧ But y H G ∧ Rd C_TextReader G y dy t (i + kk) ∧ i + kk ≤ t.length ∧ rpI n (t.drop i) = ((mny (rp n) (m - j) (t.drop (i + kk))).map fun as => ds ++ as).up kk) ⟨⟨_, rfl⟩, [], k, [], [], b2 _ _ (Ne.symm yp) ep, rfl, .nil, by simp, b12, r2, by omega, e0⟩ (fun j σ G lt P => by simpa [Itr] using lt) (fun σ G P => by simp [Itr]) (fun j σ G x G1 lt P yl => ?_) (fun σ G P => ?_)
      · obtain ⟨⟨v3, rfl⟩, ds, kk, vs, fa, eG, lv, tl, nf, bG, hG, hk, er⟩ := P
        obtain ⟨rfl, rfl⟩ := yl
        have hG' := hG
        unfold Rd at hG'
        walk_at "sx"
        refine ⟨⟨_, SqL.of eG⟩, ?_⟩
        (simp only [hG']; (try walk_at "sx"); (try simp only [R.cls, R.n1, R.n2, true_and]); (try walk_at "lt"); (try walk_at "sx"))
        refine ⟨_, _, rfl, y, dy, t, i + kk, rfl, by congr 1; omega, by omega, hG, hl, hk, ?_⟩
        have em : m - j = (m - (j + 1)) + 1 := by omega
        rw [em] at er
        simp only [mny] at er
        cases hx : rp n (t.drop (i + kk)) with
        | bad k2 =>
          rw [hx] at er
          simp only [Res.map, Res.up] at er
          rw [er] at eq2
          simp only at eq2
          rw [← Nat.add_assoc] at eq2
          exact fun dd H' b h => eq2 dd H' (bG.trans b) h
        | ok d k2 =>
          rw [hx] at er
          simp only at er
          rw [up_map] at er
          intro v fpv G2 tv nv bv rv
          have l2 := hrp _ _ _ hx
          rw [List.length_drop] at l2
          have eG2 := bv _ _ (Ne.symm yp) eG
          have nD : ∀ ys, G2 p ≠ some (.tup ys) := fun ys z => by rw [eG2] at z; cases z
          have kD : ∀ c o, c ≠ p → G2 c = some o → upd G2 p (.lst (vs ++ [v])) c = some o := fun c o n z => by rw [upd_ne n]; exact z
          have fD : p ∉ fpv := fun z => by rw [nv p z] at eG; cases eG
          have ny : ∀ ys, G1 y ≠ some (.tup ys) := fun ys z => by rw [hG'] at z; cases z
          have ya : y ∉ fa := fun z => by
            have := (nf y z).1
            unfold Rd at hy; rw [this] at hy; cases hy
          refine ⟨vs, eG2, by omega, ⟨_, rfl⟩, by simp [lv], ds ++ [d], kk + k2, fa ++ fpv, TrL.snoc (tv.but nD kD fD) ((tl.but ny bv ya).but nD kD fun z => (nf p z).2 rfl), fun c hc => ?_, fun c o n z => ?_, ?_, by omega, ?_⟩
          · rcases List.mem_append.mp hc with h | h
            · exact nf c h
            · refine ⟨?_, fun e => fD (e ▸ h)⟩
              cases e : H c with
              | none => rfl
              | some o =>
                have cy : c ≠ y := fun z => by rw [z] at h; have := nv y h; rw [hG'] at this; cases this
                have := bG _ _ cy e
                rw [nv c h] at this; cases this
          · have cp : c ≠ p := fun e => by rw [e, hp] at z; cases z
            rw [upd_ne cp]; exact bv _ _ n (bG _ _ n z)
          · unfold Rd at rv ⊢
            rw [upd_ne yp, rv, Nat.add_assoc]
          · rw [er, ← Nat.add_assoc, List.drop_drop]
      · obtain ⟨⟨v3, rfl⟩, ds, kk, vs, fa, eG, lv, tl, nf, bG, hG, hk, er⟩ := P
        rw [Nat.sub_self] at er
        simp only [mny, Res.map, Res.up, List.append_nil, Nat.add_zero] at er
        exact ⟨_, rfl, ds, kk, er, vs, eG, fa, tl, nf, bG, hG⟩
  rintro _ G ⟨v3, ds, k, vs, fp, rfl, er, eG, tl, nf, bG, hG⟩
  unfold rpI at er
  rw [er] at q
  walk_at "sx"
  exact q p vs fp G eG tl hp nf bG hG
end


section
variable {g : Wd} {f : Addr} {fd : FuncData} {C_TextReader CI : Addr}
/-- the pairs of a value that has n levels -/
def rpK (n : Nat) (r : List Nat) : Res (List (PyData × PyData)) := match ct 0 0 r with
  | .bad k => .bad k
  | .ok m k => (mnyK (rp n) m [] (r.drop k)).up k
def sp_prs1 (C CI : Addr) (n : Nat) : Sp := S2 fun z dep H Q E => ∃ y dy t i, z = .ref y ∧ dep = .int (20 - ((n + 1 : Nat) : Int)) ∧ n + 1 ≤ 20 ∧ Rd C H y dy t i ∧ t.length ≤ 10000000 ∧ i ≤ t.length ∧ match rpK n (t.drop i) with
  | .bad k => Bad CI y H (i + k) E
  | .ok D k => ∀ p kvs fp H', H' p = some (.dK kvs) → TrD H' kvs D fp → (kvs.map (·.1)).Nodup → H p = none → (∀ c ∈ fp, H c = none ∧ c ≠ p) → But y H H' → Rd C H' y dy t (i + k) → Q (.ref p) H'
def sp_prs (C CI : Addr) : Nat → Sp
  | 0 => fun _ _ _ _ => False
  | n + 1 => sp_prs1 C CI n
theorem sc_TextReader_read_part : FnScope ["self", "depth", "letter", "is_open"] ["self", "depth"] (defScope s_TextReader_read_part) := ⟨rfl, rfl, rfl, by decide +kernel, rfl, by decide +kernel, by decide +kernel⟩
theorem ok_part (n : Nat) (F : Df g.K "read_part" "TextReader.read_part" s_TextReader_read_part f fd .none) (T : Txt2 g) (R : RF g C_TextReader) (CL_TextReader : Cls g.K C_TextReader) (M_TextReader_sign : Km g C_TextReader "sign" 1 ["self"] [] (sp_sign C_TextReader)) (M_TextReader_refuse : Km g C_TextReader "refuse" 3 ["self", "index"] [] (sp_refuse CI))
    (M_TextReader_read_integer : Km g C_TextReader "read_integer" 5 ["self"] [] (sp_integer C_TextReader CI)) (M_TextReader_read_string : Km g C_TextReader "read_string" 5 ["self"] [] (sp_string C_TextReader CI)) (M_TextReader_read_items : Km g C_TextReader "read_items" (2 * n + 5) ["self", "depth"] [] (sp_its C_TextReader CI n)) (M_TextReader_read_pairs : Km g C_TextReader "read_pairs" (2 * n + 5) ["self", "depth"] [] (sp_prs C_TextReader CI n)) : FnG g (2 * n + 6) f fd ["self", "depth"] (sp_part C_TextReader CI n) := by
  refine F.ok sc_TextReader_read_part (fun vs H Q E h => S2.len h) (fun cdv A outer s H vs Q E hr h => ?_)
  obtain ⟨_, _, rfl, y, dy, t, i, rfl, rfl, h20, hy, hl, hi, q⟩ := h
  refine ⟨_, (pss_mid (ps_set (i := 2) sc_TextReader_read_part.nd rfl (Or.inl rfl) (pe_methG0 (pv 0) CL_TextReader M_TextReader_sign (hr.mono (by first | decide | omega)) tkD))
      (pss_mid (ps_set (i := 3) sc_TextReader_read_part.nd rfl (Or.inl rfl) (pe_and (pe_cmpR (o_ne (K := g.K) hr) (pv 2) pe_str (nomark _)) (pe_one (pe_cmpR (o_in (K := g.K)) (pv 2) pe_str (by rfl)))))
      (pss_mid (ps_if (PW.pt (pw_or (pt_cmpR (o_eq (K := g.K) hr) (pv 2) pe_str (nomark _)) (pw_or (pt_cmpR (o_nin (K := g.K)) (pv 2) pe_str (by rfl)) (pw_or1 (PW.pt (pw_and (t_truth (K := g.K) (pv 3)) (pw_and1 (pt_cmpR op_ge (pv 1) (e_g T.c_MOST_LEVELS) (nomark _))))))))) (pss_one (ps_expr (pe_methG (pv 0) CL_TextReader M_TextReader_refuse (hr.mono (by first | decide | omega)) tkD (pa_cons (e_fld (K := g.K) (pv 0)) pa_nil)))) pss_nil)
      (pss_mid (s_fld (K := g.K) (pv 0) (pe_op (o_add (K := g.K)) (e_fld (K := g.K) (pv 0)) pe_int))
      (pss_one (ps_match (pv 2) (pmc_case ppt_str (pss_one (ps_ret pe_non)) (pmc_case (ppt_or (pps_cons ppt_str (pps_cons ppt_str pps_nil))) (pss_one (ps_ret (pe_cmpR (o_eq (K := g.K) hr) (pv 2) pe_str (nomark _)))) (pmc_case ppt_str (pss_one (ps_ret (pe_methG0 (pv 0) CL_TextReader M_TextReader_read_integer (hr.mono (by first | decide | omega)) tkD))) (pmc_case ppt_str (pss_one (ps_ret (pe_methG0 (pv 0) CL_TextReader M_TextReader_read_string (hr.mono (by first | decide | omega)) tkD))) (pmc_case ppt_str (pss_one (ps_ret (pe_methG (pv 0) CL_TextReader M_TextReader_read_pairs (hr.mono (by first | decide | omega)) tkD (pa_cons (pv 1) pa_nil)))) (pmc_case ppt_str (pss_one (ps_ret (pe_methG (pv 0) CL_TextReader M_TextReader_read_items (hr.mono (by first | decide | omega)) tkD (pa_cons (pv 1) pa_nil)))) (pmc_rest (pss_one (ps_ret (pe_callTy call_tuple_of (by rfl) T.b_tuple bb_tuple (pa_cons (pe_methG (pv 0) CL_TextReader M_TextReader_read_items (hr.mono (by first | decide | omega)) tkD (pa_cons (pv 1) pa_nil)) pa_nil))))))))))))))))), ?_⟩
  have hy' := hy
  unfold Rd at hy'
  refine mid_one [some (.ref y), some (.int (20 - (n : Int))), some (.str (S ((t.drop i).take 1))), none] (fun G => G = H) ?_ ?_
  · walk_at "sx"
    (simp only [hy']; (try walk_at "sx"); (try simp only [R.cls, R.n1, R.n2, true_and]); (try walk_at "lt"); (try walk_at "sx"))
    exact ⟨_, rfl, y, dy, t, i, rfl, hy, hl, rfl, rfl⟩
  intro G e1
  rw [e1]; clear e1 G
  cases hr : t.drop i with
  | nil =>
    rw [hr] at q
    have q' : Bad CI y H (i + 0) E := by cases n <;> simpa [rp] using q
    refine mid_at (fun σ G => (∃ b, σ = [some (.ref y), some (.int (20 - (n : Int))), some (.str (S [])), some (.bl b)]) ∧ G = H) ?_ ?_
    · walk_at "sx"
      simp only [List.take_nil]
      walk_at "lt"
      simp
    rintro _ G ⟨⟨b, rfl⟩, rfl⟩
    refine mid_at (fun _ _ => False) ?_ (fun _ _ z => z.elim)
    walk_at "sx"
    exact rf R hy q' (But.of (Same.refl _))
  | cons c r =>
    rw [hr] at q
    refine mid_one [some (.ref y), some (.int (20 - (n : Int))), some (.str (S [c])), some (.bl (decide (c ∈ [108, 117, 100])))] (fun G => G = H) ?_ ?_
    · walk_at "sx"
      simp only [List.take_succ_cons, List.take_zero]
      walk_at "lt"
      walk_at "st"
      simp
    intro G e1
    rw [e1]; clear e1 G
    have hlt : i + 1 ≤ t.length := by
      have := congrArg List.length hr
      simp at this; omega
    have hdr : t.drop (i + 1) = r := by
      have : t.drop (i + 1) = (t.drop i).drop 1 := by rw [List.drop_drop]
      rw [this, hr]; rfl
    by_cases let8 : c ∈ [110, 116, 102, 105, 115, 108, 117, 100]
    · by_cases deep : c ∈ [108, 117, 100] ∧ n = 0
      · have q' : Bad CI y H (i + 0) E := by
          obtain ⟨hc, rfl⟩ := deep
          simp only [List.mem_cons, List.not_mem_nil, or_false] at hc
          rcases hc with rfl | rfl | rfl <;> simpa [rp] using q
        refine mid_at (fun _ _ => False) ?_ (fun _ _ z => z.elim)
        walk_at "sx"
        walk_at "lt"
        walk_at "st"
        rw [if_neg (by simp), if_neg (by rw [decide_eq_true let8]; decide), if_pos (decide_eq_true deep.1), if_pos (by rw [deep.2]; decide)]
        exact rf R hy q' (But.of (Same.refl _))
      · refine mid_one [some (.ref y), some (.int (20 - (n : Int))), some (.str (S [c])), some (.bl (decide (c ∈ [108, 117, 100])))] (fun G => G = H) ?_ ?_
        · walk_at "sx"
          walk_at "lt"
          walk_at "st"
          rw [if_neg (by simp), if_neg (by rw [decide_eq_true let8]; decide)]
          by_cases hc : c ∈ [108, 117, 100]
          · have n0 : n ≠ 0 := fun z => deep ⟨hc, z⟩
            rw [if_pos (decide_eq_true hc), if_neg (by simp; omega)]
            trivial
          · rw [if_neg (by rw [decide_eq_false hc]; decide)]
            trivial
        intro G e1
        rw [e1]; clear e1 G
        refine mid_one [some (.ref y), some (.int (20 - (n : Int))), some (.str (S [c])), some (.bl (decide (c ∈ [108, 117, 100])))] (fun G => But y H G ∧ Rd C_TextReader G y dy t (i + 1)) ?_ ?_
        · walk_at "sx"
          (simp only [hy']; (try walk_at "sx"); (try simp only [R.cls, R.n1, R.n2, true_and]); (try walk_at "lt"); (try walk_at "sx"))
          have e3 := rd_at (C := C_TextReader) (y := y) (dy := dy) (G := H) (t := t) (j := i) (k := i + 1) (i := (i : Int) + 1) (by omega)
          exact ⟨_, _, _, hy', R.cls, R.n2, by simp, e3.2, e3.1⟩
        rintro G ⟨bG, hG⟩
        have hG' := hG
        unfold Rd at hG'
        simp only [tMatch, tCase, tRet, tRetN, tSeq, C8.tCut, tNext, tAsg, gName, gNil, gCons, gTup, gFld, tIfS, tIf, tAndV, tOrV, tNotV, tAnd, tOr, tNot, tB, tTest, tOp, tUn, tCB, tCons, tNil, tVar, tC, tChain, tDrop, RS.tCallG, RS.tMethG, tMakeG, RS.tCallK, RS.tMakeK, tEqOwn, rI, rI0, rU, add_ii, add_ss, add_rr, mul_ii, mul_si, mul_ri, RS.eq_ii, RS.eq_ss, eq_bb, eq_nn, eq_sn, eq_ns, eq_in, eq_ni, eq_bn, eq_nb, eq_is, eq_si, eq_rr, ne_ii, ne_ss, ne_bb, ne_nn, ne_sn, ne_ns, ne_in, ne_ni, ne_is, ne_si, ne_rr, in_ss, in_r, nin_ss, nin_r, len_s, len_r, RS.ix_s, RS.ix_r, sl_s, sl_r, is_eq, tyN_n, tyN_b, tyN_i, tyN_s, tru_b, tru_i, tru_n, tSl, tPart, tNoPart, tPar, tPar3, tFmtZ, tFmt, tJs, tDGet, sDPut, sFld, tFld, tTup, tLst, tNever, isB,
  L2.start, List.map_cons, List.map_nil, List.length_cons, List.length_nil, Nat.reduceAdd, Nat.reduceSub, Nat.sub_self, List.replicate_zero, List.replicate_succ, List.append_nil, List.cons_append, List.nil_append, List.getElem?_cons_zero, List.getElem?_cons_succ, List.set_cons_zero, List.set_cons_succ, Option.some.injEq, exists_eq_left, exists_eq_left', exists_and_left, V.bl.injEq, V.int.injEq, V.str.injEq, V.ref.injEq, beq_self_eq_true, Bool.true_or, Bool.or_true, Bool.false_or, Bool.or_false, Bool.and_false, Bool.false_and, Bool.true_and, Bool.and_true, Bool.not_true, Bool.not_false, Bool.false_eq_true, if_true, if_false, ite_true, ite_false, true_and, and_true, and_assoc, String.reduceBEq, String.reduceEq, reduceIte, Bool.and_self, reduceCtorEq, false_and, and_false, exists_false, or_false, false_or, exists_const, iEnumS, iStr, iList, iTup, iRng1, iEnum, tFor_eq, tLc_eq, List.cons.injEq, wipe, not_true_eq_false, not_false_eq_true, upd_same, HO.ins.injEq, HO.tup.injEq, HO.lst.injEq, ofS_eq, lk_nil, lk_cons, pu_nil, pu_cons, sizeLine_eq, Nat.reduceLT, Nat.reduceLeDiff, Nat.reduceEqDiff, Nat.le_refl, decide_true, decide_false, tPr, dget_us, dput_us, vv_nil, vv_cons, RS.pk_nil, pk_one, RS.pk_cons, inr_eq, tDisp, tPairs, tBoolOwn, rBoolOwn, tBM, rAppend, ty_list, ty_str, rEqOwn, iEnumT, RS.tCallS, tM1, tDc_eq, tLock, tLockE, iKeys, tListEnum, rUpdate, tMkX0, tMkX1, tXfv, gSub, rSetL, List.getD_cons_zero, List.getD_cons_succ, tCMethS, ClX.tCVal, tXfa, tIxOwn, tInOwn, tPropG, tMethK, tMethP, tListGen, tDGet2, tDPop2, rNeD0, intA_i, intA_b, tRevL, sFldAug, tPm0, tPm1, tDIn, tDNotIn, tDNewK, RS.tMethS]
        walk_at "lt"
        simp only [S_eq]
        have new : ∀ {H' : Hp} {fp : List Addr}, (∀ c ∈ fp, G c = none) → ∀ c ∈ fp, H c = none := fun nf c hc => by
          cases e : H c with
          | none => rfl
          | some o =>
            have cy : c ≠ y := fun z => by rw [z] at hc; have := nf y hc; rw [hG'] at this; cases this
            have := bG _ _ cy e
            rw [nf c hc] at this; cases this
        simp only [List.mem_cons, List.not_mem_nil, or_false] at let8
        rcases let8 with rfl | rfl | rfl | rfl | rfl | rfl | rfl | rfl
        · rw [if_pos (by decide)]
          have e : rp n (110 :: r) = .ok .none 1 := by cases n <;> simp [rp]
          rw [e] at q
          exact q .non [] G .non (by simp) bG hG
        · rw [if_neg (by decide), if_pos (by decide)]
          have e : rp n (116 :: r) = .ok (.bool true) 1 := by cases n <;> simp [rp]
          rw [e] at q
          exact q (.bl true) [] G (.bl true) (by simp) bG hG
        · rw [if_neg (by decide), if_pos (by decide)]
          have e : rp n (102 :: r) = .ok (.bool false) 1 := by cases n <;> simp [rp]
          rw [e] at q
          exact q (.bl false) [] G (.bl false) (by simp) bG hG
        · rw [if_neg (by decide), if_neg (by decide), if_pos (by decide)]
          have e : rp n (105 :: r) = ((ig r).map PyData.int).up 1 := by cases n <;> simp [rp]
          rw [e] at q
          refine ⟨_, _, hG', lk_no, _, rfl, y, dy, t, i + 1, rfl, hG, hl, hlt, ?_⟩
          rw [hdr]
          cases hg : ig r with
          | bad k =>
            rw [hg] at q
            simp only [Res.map, Res.up] at q
            rw [← Nat.add_assoc] at q
            exact fun dd H' b h => q dd H' (bG.trans b) h
          | ok m k =>
            rw [hg] at q
            simp only [Res.map, Res.up] at q
            rw [← Nat.add_assoc] at q
            exact fun H' b h => q (.int m) [] H' (.int m) (by simp) (bG.trans b) h
        · rw [if_neg (by decide), if_neg (by decide), if_neg (by decide), if_pos (by decide)]
          have e : rp n (115 :: r) = ((rs r).map fun x => PyData.str (S x)).up 1 := by cases n <;> simp [rp]
          rw [e] at q
          refine ⟨_, _, hG', lk_no, _, rfl, y, dy, t, i + 1, rfl, hG, hl, hlt, ?_⟩
          rw [hdr]
          cases hg : rs r with
          | bad k =>
            rw [hg] at q
            simp only [Res.map, Res.up] at q
            rw [← Nat.add_assoc] at q
            exact fun dd H' b h => q dd H' (bG.trans b) h
          | ok m k =>
            rw [hg] at q
            simp only [Res.map, Res.up] at q
            rw [← Nat.add_assoc] at q
            exact fun H' b h => q (.str (S m)) [] H' (.str (S m)) (by simp) (bG.trans b) h
        · rw [if_neg (by decide), if_neg (by decide), if_neg (by decide), if_neg (by decide), if_neg (by decide), if_pos (by decide)]
          cases n with
          | zero => exact absurd ⟨by decide, rfl⟩ deep
          | succ n =>
          have e : rp (n + 1) (108 :: r) = ((rpI n r).map PyData.list).up 1 := by
            unfold rpI
            simp only [rp]
            cases hc : ct 0 0 r with
            | bad k => simp [Res.map, Res.up]
            | ok m k =>
              cases hm : mny (rp n) m (r.drop k) with
              | bad j => simp [hm, Res.map, Res.up]; omega
              | ok ds j => simp [hm, Res.map, Res.up]; omega
          rw [e] at q
          refine ⟨_, _, hG', lk_no, _, _, rfl, y, dy, t, i + 1, rfl, rfl, h20, hG, hl, hlt, ?_⟩
          rw [hdr]
          cases hg : rpI n r with
          | bad k =>
            rw [hg] at q
            simp only [Res.map, Res.up] at q
            rw [← Nat.add_assoc] at q
            exact fun dd H' b h => q dd H' (bG.trans b) h
          | ok ds k =>
            rw [hg] at q
            simp only [Res.map, Res.up] at q
            rw [← Nat.add_assoc] at q
            exact fun p vs fp H' ep tl hp nf b h => q (.ref p) (p :: fp) H' (.lst ep tl fun z => (nf p z).2 rfl) (new (H' := H') fun c hc => (List.mem_cons.mp hc).elim (fun e => e ▸ hp) fun hc => (nf c hc).1) (bG.trans b) h
        · rw [if_neg (by decide), if_neg (by decide), if_neg (by decide), if_neg (by decide), if_neg (by decide), if_neg (by decide)]
          cases n with
          | zero => exact absurd ⟨by decide, rfl⟩ deep
          | succ n =>
          have e : rp (n + 1) (117 :: r) = ((rpI n r).map PyData.tuple).up 1 := by
            unfold rpI
            simp only [rp]
            cases hc : ct 0 0 r with
            | bad k => simp [Res.map, Res.up]
            | ok m k =>
              cases hm : mny (rp n) m (r.drop k) with
              | bad j => simp [hm, Res.map, Res.up]; omega
              | ok ds j => simp [hm, Res.map, Res.up]; omega
          rw [e] at q
          refine ⟨_, _, hG', lk_no, _, _, rfl, y, dy, t, i + 1, rfl, rfl, h20, hG, hl, hlt, ?_⟩
          rw [hdr]
          cases hg : rpI n r with
          | bad k =>
            rw [hg] at q
            simp only [Res.map, Res.up] at q
            rw [← Nat.add_assoc] at q
            exact fun dd H' b h => q dd H' (bG.trans b) h
          | ok ds k =>
            rw [hg] at q
            simp only [Res.map, Res.up] at q
            rw [← Nat.add_assoc] at q
            intro p vs fp H' ep tl hp nf b h
            refine ⟨p, rfl, vs, .inl ⟨SqL.of ep, fun l hl => ?_⟩⟩
            have sl := same_upd (o := HO.tup vs) hl
            exact q (.ref l) fp _ (.tup upd_same (tl.same sl)) (new (H' := H') fun c hc => (nf c hc).1) (bG.trans (b.trans (But.of sl))) (sl _ _ h)
        · rw [if_neg (by decide), if_neg (by decide), if_neg (by decide), if_neg (by decide), if_pos (by decide)]
          cases n with
          | zero => exact absurd ⟨by decide, rfl⟩ deep
          | succ n =>
          refine ⟨_, _, hG', lk_no, _, _, rfl, y, dy, t, i + 1, rfl, rfl, h20, hG, hl, hlt, ?_⟩
          rw [hdr]
          simp only [rp] at q
          unfold rpK
          cases hc : ct 0 0 r with
          | bad k =>
            simp [hc] at q
            rw [← Nat.add_assoc] at q
            exact fun dd H' b h => q dd H' (bG.trans b) h
          | ok m k =>
            simp [hc] at q
            simp only
            cases hg : mnyK (rp n) m [] (r.drop k) with
            | bad k2 =>
              rw [hg] at q
              simp only [Res.map, Res.up] at q ⊢
              have e : i + (1 + k + k2) = i + 1 + (k + k2) := by omega
              rw [e] at q
              exact fun dd H' b h => q dd H' (bG.trans b) h
            | ok D k2 =>
              rw [hg] at q
              simp only [Res.map, Res.up] at q ⊢
              have e : i + (1 + k + k2) = i + 1 + (k + k2) := by omega
              rw [e] at q
              exact fun p kvs fp H' ep tl nd hp nf b h => q (.ref p) (p :: fp) H' (.dct ep tl (fun z => (nf p z).2 rfl) nd) (new (H' := H') fun c hc => (List.mem_cons.mp hc).elim (fun e => e ▸ hp) fun hc => (nf c hc).1) (bG.trans b) h
    · have q' : Bad CI y H (i + 0) E := by
        simp only [List.mem_cons, List.not_mem_nil, or_false, not_or] at let8
        cases n <;> simpa [rp, let8] using q
      refine mid_at (fun _ _ => False) ?_ (fun _ _ z => z.elim)
      walk_at "sx"
      walk_at "lt"
      walk_at "st"
      rw [if_neg (by simp), if_pos (by rw [decide_eq_false let8]; rfl)]
      exact rf R hy q' (But.of (Same.refl _))
end


theorem up_mapK (x : Res (List (PyData × PyData))) (a : PyData × PyData) (ds : List (PyData × PyData)) (k kk : Nat) : (((x.map fun as => a :: as).up k).map fun as => ds ++ as).up kk = (x.map fun as => (ds ++ [a]) ++ as).up (kk + k) := up_map x a ds k kk
theorem nodup_S {l : List (List Nat)} (h : l.Nodup) : (l.map fun x => (.inr (S x) : Key)).Nodup :=
  List.pairwise_map.mpr (List.Pairwise.imp (fun h e => h (S_inj (Sum.inr.inj e))) h)
theorem val_none : ∀ {kvs : List (Key × V)} {k : Key}, k ∉ kvs.map (·.1) → valV kvs k = none
  | [], _, _ => rfl
  | (p, v) :: r, k, h => by
    rw [vv_cons, if_neg (fun e => h (by simp [e]))]
    exact val_none fun z => h (List.mem_cons_of_mem _ z)
theorem val_some : ∀ {kvs : List (Key × V)} {k : Key}, k ∈ kvs.map (·.1) → ∃ v, valV kvs k = some v
  | (p, v) :: r, k, h => by
    rw [vv_cons]
    by_cases e : p = k
    · exact ⟨v, if_pos e⟩
    · rw [if_neg e]
      exact val_some ((List.mem_cons.mp h).resolve_left fun z => e z.symm)
  | [], _, h => by simp at h
theorem mem_S {l : List (List Nat)} {x : List Nat} : (.inr (S x) : Key) ∈ l.map (fun x => (.inr (S x) : Key)) ↔ x ∈ l := by
  constructor
  · intro h
    obtain ⟨z, hz, e⟩ := List.mem_map.mp h
    rw [← S_inj (Sum.inr.inj e)]; exact hz
  · exact fun h => List.mem_map.mpr ⟨x, h, rfl⟩
theorem rs_len {r x : List Nat} {k : Nat} (h : rs r = .ok x k) : k ≤ r.length ∧ x.length ≤ 10000 := by
  unfold rs at h
  cases hc : ct 0 0 r with
  | bad j => rw [hc] at h; cases h
  | ok n j =>
    rw [hc] at h
    simp only at h
    split at h
    · cases h
      have := ct_len hc
      rename_i fit
      rw [List.length_drop] at fit
      rw [List.length_take, List.length_drop]
      omega
    · cases h
section
variable {g : Wd} {f : Addr} {fd : FuncData} {C_TextReader CI : Addr}
theorem sc_TextReader_read_pairs : FnScope ["self", "depth", "found", "turn", "key"] ["self", "depth"] (defScope s_TextReader_read_pairs) := ⟨rfl, rfl, rfl, by decide +kernel, rfl, by decide +kernel, by decide +kernel⟩
theorem ok_prs (n : Nat) (hrp : ∀ r d k, rp n r = .ok d k → k ≤ r.length) (F : Df g.K "read_pairs" "TextReader.read_pairs" s_TextReader_read_pairs f fd .none) (T : Txt2 g) (R : RF g C_TextReader) (CL_TextReader : Cls g.K C_TextReader) (M_TextReader_sign : Km g C_TextReader "sign" 1 ["self"] [] (sp_sign C_TextReader)) (M_TextReader_refuse : Km g C_TextReader "refuse" 3 ["self", "index"] [] (sp_refuse CI)) (M_TextReader_read_string : Km g C_TextReader "read_string" 5 ["self"] [] (sp_string C_TextReader CI)) (M_TextReader_read_count : Km g C_TextReader "read_count" 4 ["self"] [] (sp_count C_TextReader CI)) (M_TextReader_read_part : Km g C_TextReader "read_part" (2 * n + 6) ["self", "depth"] [] (sp_part C_TextReader CI n)) : FnG g (2 * n + 7) f fd ["self", "depth"] (sp_prs1 C_TextReader CI n) := by
  refine F.ok sc_TextReader_read_pairs (fun vs H Q E h => S2.len h) (fun cdv A outer s H vs Q E hr h => ?_)
  obtain ⟨_, _, rfl, y, dy, t, i, rfl, rfl, h20, hy, hl, hi, q⟩ := h
  refine ⟨_, (pss_mid (ps_set (i := 2) sc_TextReader_read_pairs.nd rfl (Or.inl rfl) pe_dnewK)
      (pss_mid (ps_for psD rfl (pi_range1 rfl T.b_range (pa_cons (pe_methG0 (pv 0) CL_TextReader M_TextReader_read_count (hr.mono (by first | decide | omega)) tkD) pa_nil)) (pg_name (i := 3) sc_TextReader_read_pairs.nd rfl (.inl rfl)) (pss_mid (ps_if (pt_cmpR (o_ne (K := g.K) hr) (pe_methG0 (pv 0) CL_TextReader M_TextReader_sign (hr.mono (by first | decide | omega)) tkD) pe_str (nomark _)) (pss_one (ps_expr (pe_methG (pv 0) CL_TextReader M_TextReader_refuse (hr.mono (by first | decide | omega)) tkD (pa_cons (e_fld (K := g.K) (pv 0)) pa_nil)))) pss_nil)
      (pss_mid (s_fld (K := g.K) (pv 0) (pe_op (o_add (K := g.K)) (e_fld (K := g.K) (pv 0)) pe_int))
      (pss_mid (ps_set (i := 4) sc_TextReader_read_pairs.nd rfl (Or.inl rfl) (pe_methG0 (pv 0) CL_TextReader M_TextReader_read_string (hr.mono (by first | decide | omega)) tkD))
      (pss_mid (ps_if (pt_cmp (pc_din (hu_of hr.room) (pv 4) (pv 2))) (pss_one (ps_expr (pe_methG (pv 0) CL_TextReader M_TextReader_refuse (hr.mono (by first | decide | omega)) tkD (pa_cons (pe_op op_sub (e_fld (K := g.K) (pv 0)) pe_int) pa_nil)))) pss_nil)
      (pss_one (ps_dput (hu_of hr.room) (pv 2) (pv 4) (pe_methG (pv 0) CL_TextReader M_TextReader_read_part (hr.mono (by first | decide | omega)) tkD (pa_cons (pe_op (o_add (K := g.K)) (pv 1) pe_int) pa_nil)) rfl)))))))
      (pss_one (ps_ret (pv 2))))), ?_⟩
  refine mid_at (fun σ G => ∃ p, σ = [some (.ref y), some (.int (20 - ((n + 1 : Nat) : Int))), some (.ref p), none, none] ∧ H p = none ∧ G = upd H p (.dK [])) ?_ ?_
  · walk_at "sx"
    exact fun p hp => ⟨p, rfl, hp, rfl⟩
  rintro _ H1 ⟨p, rfl, hp, rfl⟩
  have s1 := same_upd (o := HO.dK []) hp
  have ep : upd H p (HO.dK []) p = some (.dK []) := upd_same
  have hy1 : Rd C_TextReader (upd H p (HO.dK [])) y dy t i := s1 _ _ hy
  have yp : y ≠ p := fun e => by unfold Rd at hy; rw [e, hp] at hy; cases hy
  generalize upd H p (HO.dK []) = H1 at s1 ep hy1 ⊢
  have hy' := hy1
  unfold Rd at hy'
  obtain ⟨RR, hR⟩ : ∃ RR, RR = rpK n (t.drop i) := ⟨_, rfl⟩
  rw [← hR] at q
  unfold rpK at hR
  refine mid_at (fun σ G => ∃ v3 v4 D k kvs fp, σ = [some (.ref y), some (.int (20 - ((n + 1 : Nat) : Int))), some (.ref p), v3, v4] ∧ RR = .ok D k ∧ G p = some (.dK kvs) ∧ TrD G kvs D fp ∧ (kvs.map (·.1)).Nodup ∧ (∀ c ∈ fp, H c = none ∧ c ≠ p) ∧ But y H G ∧ Rd C_TextReader G y dy t (i + k)) ?_ ?_
  · walk_at "sx"
    (simp only [hy']; (try walk_at "sx"); (try simp only [R.cls, R.n1, R.n2, true_and]); (try walk_at "lt"); (try walk_at "sx"))
    refine ⟨_, rfl, y, dy, t, i, rfl, hy1, hl, hi, ?_⟩
    cases hc : ct 0 0 (t.drop i) with
    | bad k =>
      rw [hc] at hR
      rw [hR] at q
      exact fun dd H' b h => q dd H' (fun c o n z => b c o n (s1 _ _ z)) h
    | ok m k =>
      rw [hc] at hR
      simp only at hR
      intro H2 b2 r2
      have ck := ct_len hc
      rw [List.length_drop] at ck
      refine ⟨_, rfl, by omega, by omega, ?_⟩
      have e0 : RR = ((mnyK (rp n) (m - 0) ([] : List (List Nat)) (t.drop (i + k))).map fun as => [] ++ as).up k := by
        rw [hR, List.drop_drop, Nat.sub_zero]
        cases mnyK (rp n) m [] (t.drop (i + k)) <;> rfl
      have b12 : But y H H2 := fun c o n z => b2 c o n (s1 _ _ z)
      refine for_by m (fun j σ G => (∃ v3 v4, σ = [some (.ref y), some (.int (20 - ((n + 1 : Nat) : Int))), some (.ref p), v3, v4]) ∧ ∃ D kk kvs fa seen, G p = some (.dK kvs) ∧ kvs.length = j ∧ kvs.map (·.1) = seen.map (fun x => (.inr (S x) : Key)) ∧ seen.Nodup ∧ TrD G kvs D fa ∧ (∀ c ∈ fa, H c = none ∧ c ≠ p) ∧ But y H G ∧ Rd C_TextReader G y dy t (i + kk) ∧ i + kk ≤ t.length ∧ RR = ((mnyK (rp n) (m - j) seen (t.drop (i + kk))).map fun as => D ++ as).up kk) ⟨⟨_, _, rfl⟩, [], k, [], [], [], b2 _ _ (Ne.symm yp) ep, rfl, rfl, .nil, .nil, by simp, b12, r2, by omega, e0⟩ (fun j σ G lt P => by simpa [Itr] using lt) (fun σ G P => by simp [Itr]) (fun j σ G x G1 lt P yl => ?_) (fun σ G P => ?_)
      · obtain ⟨⟨v3, v4, rfl⟩, D, kk, kvs, fa, seen, eG, lv, ks, nd, tl, nf, bG, hG, hk, er⟩ := P
        obtain ⟨rfl, rfl⟩ := yl
        have hG' := hG
        unfold Rd at hG'
        walk_at "sx"
        have em : m - j = (m - (j + 1)) + 1 := by omega
        rw [em] at er
        simp only [mnyK] at er
        cases hr : t.drop (i + kk) with
        | nil =>
          rw [hr] at er
          simp only [Res.map, Res.up, Nat.add_zero] at er
          rw [er] at q
          refine mid_at (fun _ _ => False) ?_ (fun _ _ z => z.elim)
          walk_at "sx"
          (simp only [hG']; (try walk_at "sx"); (try simp only [R.cls, R.n1, R.n2, true_and]); (try walk_at "lt"); (try walk_at "sx"))
          refine ⟨_, rfl, y, dy, t, i + kk, rfl, hG, hl, ?_⟩
          rw [hr]
          simp only [List.take_nil, ne_ss, S_eq]
          refine ⟨_, rfl, ?_⟩
          rw [if_pos (by simp)]
          exact rf R hG q bG
        | cons c r =>
          rw [hr] at er
          simp only at er
          have hlt : i + (kk + 1) ≤ t.length := by
            have := congrArg List.length hr
            simp at this; omega
          have hdr : t.drop (i + (kk + 1)) = r := by
            have : t.drop (i + (kk + 1)) = (t.drop (i + kk)).drop 1 := by rw [List.drop_drop]; rfl
            rw [this, hr]; rfl
          by_cases c115 : c = 115
          · rw [if_neg (by simp [c115])] at er
            refine mid_one [some (.ref y), some (.int (20 - ((n + 1 : Nat) : Int))), some (.ref p), some (.int (0 + (j : Nat))), v4] (fun G2 => G2 = G1) ?_ ?_
            · walk_at "sx"
              (simp only [hG']; (try walk_at "sx"); (try simp only [R.cls, R.n1, R.n2, true_and]); (try walk_at "lt"); (try walk_at "sx"))
              refine ⟨_, rfl, y, dy, t, i + kk, rfl, hG, hl, ?_⟩
              rw [hr]
              simp only [List.take_succ_cons, List.take_zero, ne_ss, S_eq]
              refine ⟨_, rfl, ?_⟩
              rw [if_neg (by simp [c115])]
              trivial
            intro G2 e2
            rw [e2]; clear e2 G2
            refine mid_one [some (.ref y), some (.int (20 - ((n + 1 : Nat) : Int))), some (.ref p), some (.int (0 + (j : Nat))), v4] (fun G2 => But y G1 G2 ∧ Rd C_TextReader G2 y dy t (i + (kk + 1))) ?_ ?_
            · walk_at "sx"
              (simp only [hG']; (try walk_at "sx"); (try simp only [R.cls, R.n1, R.n2, true_and]); (try walk_at "lt"); (try walk_at "sx"))
              have e3 := rd_at (C := C_TextReader) (y := y) (dy := dy) (G := G1) (t := t) (j := i + kk) (k := i + (kk + 1)) (i := ((i + kk : Nat) : Int) + 1) (by omega)
              exact ⟨_, _, _, hG', R.cls, R.n2, by simp, e3.2, e3.1⟩
            rintro G2 ⟨b3, h3⟩
            have h3' := h3
            unfold Rd at h3'
            refine mid_at (fun σ G3 => ∃ key k2, rs r = .ok key k2 ∧ σ = [some (.ref y), some (.int (20 - ((n + 1 : Nat) : Int))), some (.ref p), some (.int (0 + (j : Nat))), some (.str (S key))] ∧ But y G1 G3 ∧ Rd C_TextReader G3 y dy t (i + (kk + 1) + k2)) ?_ ?_
            · walk_at "sx"
              (simp only [h3']; (try walk_at "sx"); (try simp only [R.cls, R.n1, R.n2, true_and]); (try walk_at "lt"); (try walk_at "sx"))
              refine ⟨_, rfl, y, dy, t, i + (kk + 1), rfl, h3, hl, hlt, ?_⟩
              rw [hdr]
              cases hs : rs r with
              | bad k2 =>
                rw [hs] at er
                simp only [Res.map, Res.up] at er
                rw [er] at q
                simp only at q
                have e : i + (kk + (1 + k2)) = i + (kk + 1) + k2 := by omega
                rw [e] at q
                exact fun dd H' b h => q dd H' (bG.trans (b3.trans b)) h
              | ok key k2 => exact fun H' b h => ⟨key, k2, rfl, rfl, b3.trans b, h⟩
            rintro _ G3 ⟨key, k2, hs, rfl, b4, h4⟩
            rw [hs] at er
            simp only at er
            have h4' := h4
            unfold Rd at h4'
            have eG3 := b4 _ _ (Ne.symm yp) eG
            have l2 := (rs_len hs).1
            have lr : r.length = t.length - (i + (kk + 1)) := by rw [← hdr, List.length_drop]
            have hd2 : t.drop (i + (kk + 1) + k2) = r.drop k2 := by rw [← hdr, List.drop_drop]
            by_cases isin : key ∈ seen
            · rw [if_pos isin] at er
              simp only [Res.map, Res.up] at er
              rw [er] at q
              simp only at q
              obtain ⟨v0, hv0⟩ := val_some (kvs := kvs) (k := .inr (S key)) (by rw [ks]; exact mem_S.mpr isin)
              refine mid_at (fun _ _ => False) ?_ (fun _ _ z => z.elim)
              simp only [tDIn, tRet, tRetN, tSeq, C8.tCut, tNext, tAsg, gName, gNil, gCons, gTup, gFld, tIfS, tIf, tAndV, tOrV, tNotV, tAnd, tOr, tNot, tB, tTest, tOp, tUn, tCB, tCons, tNil, tVar, tC, tChain, tDrop, RS.tCallG, RS.tMethG, tMakeG, RS.tCallK, RS.tMakeK, tEqOwn, rI, rI0, rU, add_ii, add_ss, add_rr, mul_ii, mul_si, mul_ri, RS.eq_ii, RS.eq_ss, eq_bb, eq_nn, eq_sn, eq_ns, eq_in, eq_ni, eq_bn, eq_nb, eq_is, eq_si, eq_rr, ne_ii, ne_ss, ne_bb, ne_nn, ne_sn, ne_ns, ne_in, ne_ni, ne_is, ne_si, ne_rr, in_ss, in_r, nin_ss, nin_r, len_s, len_r, RS.ix_s, RS.ix_r, sl_s, sl_r, is_eq, tyN_n, tyN_b, tyN_i, tyN_s, tru_b, tru_i, tru_n, tSl, tPart, tNoPart, tPar, tPar3, tFmtZ, tFmt, tJs, tDGet, sDPut, sFld, tFld, tTup, tLst, tNever, isB,
  L2.start, List.map_cons, List.map_nil, List.length_cons, List.length_nil, Nat.reduceAdd, Nat.reduceSub, Nat.sub_self, List.replicate_zero, List.replicate_succ, List.append_nil, List.cons_append, List.nil_append, List.getElem?_cons_zero, List.getElem?_cons_succ, List.set_cons_zero, List.set_cons_succ, Option.some.injEq, exists_eq_left, exists_eq_left', exists_and_left, V.bl.injEq, V.int.injEq, V.str.injEq, V.ref.injEq, beq_self_eq_true, Bool.true_or, Bool.or_true, Bool.false_or, Bool.or_false, Bool.and_false, Bool.false_and, Bool.true_and, Bool.and_true, Bool.not_true, Bool.not_false, Bool.false_eq_true, if_true, if_false, ite_true, ite_false, true_and, and_true, and_assoc, String.reduceBEq, String.reduceEq, reduceIte, Bool.and_self, reduceCtorEq, false_and, and_false, exists_false, or_false, false_or, exists_const, iEnumS, iStr, iList, iTup, iRng1, iEnum, tFor_eq, tLc_eq, List.cons.injEq, wipe, not_true_eq_false, not_false_eq_true, upd_same, HO.ins.injEq, HO.tup.injEq, HO.lst.injEq, ofS_eq, lk_nil, lk_cons, pu_nil, pu_cons, sizeLine_eq, Nat.reduceLT, Nat.reduceLeDiff, Nat.reduceEqDiff, Nat.le_refl, decide_true, decide_false, tPr, dget_us, dput_us, vv_nil, vv_cons, RS.pk_nil, pk_one, RS.pk_cons, inr_eq, tDisp, tPairs, tBoolOwn, rBoolOwn, tBM, rAppend, ty_list, ty_str, rEqOwn, iEnumT, RS.tCallS, tM1, tDc_eq, tLock, tLockE, iKeys, tListEnum, rUpdate, tMkX0, tMkX1, tXfv, gSub, rSetL, List.getD_cons_zero, List.getD_cons_succ, tCMethS, ClX.tCVal, tXfa, tIxOwn, tInOwn, tPropG, tMethK, tMethP, tListGen, tDGet2, tDPop2, rNeD0, intA_i, intA_b, tRevL, sFldAug, tPm0, tPm1, tDIn, tDNotIn, tDNewK, RS.tMethS]
              (simp only [h4']; (try walk_at "sx"); (try simp only [R.cls, R.n1, R.n2, true_and]); (try walk_at "lt"); (try walk_at "sx"))
              refine ⟨some v0, by rw [dget_s eG3]; exact hv0, ?_⟩
              rw [if_pos (by simp)]
              have e5 : ((i + (kk + 1) + k2 : Nat) : Int) - 1 = ((i + (kk + k2) : Nat) : Int) := by omega
              rw [e5]
              exact ⟨_, _, rfl, y, rfl, fun dd hdd => q dd _ ((bG.trans b4).trans (But.of (same_upd hdd))) upd_same⟩
            · rw [if_neg isin] at er
              have nov := val_none (kvs := kvs) (k := .inr (S key)) (by rw [ks]; exact fun z => isin (mem_S.mp z))
              refine mid_one [some (.ref y), some (.int (20 - ((n + 1 : Nat) : Int))), some (.ref p), some (.int (0 + (j : Nat))), some (.str (S key))] (fun G4 => G4 = G3) ?_ ?_
              · simp only [tDIn, tRet, tRetN, tSeq, C8.tCut, tNext, tAsg, gName, gNil, gCons, gTup, gFld, tIfS, tIf, tAndV, tOrV, tNotV, tAnd, tOr, tNot, tB, tTest, tOp, tUn, tCB, tCons, tNil, tVar, tC, tChain, tDrop, RS.tCallG, RS.tMethG, tMakeG, RS.tCallK, RS.tMakeK, tEqOwn, rI, rI0, rU, add_ii, add_ss, add_rr, mul_ii, mul_si, mul_ri, RS.eq_ii, RS.eq_ss, eq_bb, eq_nn, eq_sn, eq_ns, eq_in, eq_ni, eq_bn, eq_nb, eq_is, eq_si, eq_rr, ne_ii, ne_ss, ne_bb, ne_nn, ne_sn, ne_ns, ne_in, ne_ni, ne_is, ne_si, ne_rr, in_ss, in_r, nin_ss, nin_r, len_s, len_r, RS.ix_s, RS.ix_r, sl_s, sl_r, is_eq, tyN_n, tyN_b, tyN_i, tyN_s, tru_b, tru_i, tru_n, tSl, tPart, tNoPart, tPar, tPar3, tFmtZ, tFmt, tJs, tDGet, sDPut, sFld, tFld, tTup, tLst, tNever, isB,
  L2.start, List.map_cons, List.map_nil, List.length_cons, List.length_nil, Nat.reduceAdd, Nat.reduceSub, Nat.sub_self, List.replicate_zero, List.replicate_succ, List.append_nil, List.cons_append, List.nil_append, List.getElem?_cons_zero, List.getElem?_cons_succ, List.set_cons_zero, List.set_cons_succ, Option.some.injEq, exists_eq_left, exists_eq_left', exists_and_left, V.bl.injEq, V.int.injEq, V.str.injEq, V.ref.injEq, beq_self_eq_true, Bool.true_or, Bool.or_true, Bool.false_or, Bool.or_false, Bool.and_false, Bool.false_and, Bool.true_and, Bool.and_true, Bool.not_true, Bool.not_false, Bool.false_eq_true, if_true, if_false, ite_true, ite_false, true_and, and_true, and_assoc, String.reduceBEq, String.reduceEq, reduceIte, Bool.and_self, reduceCtorEq, false_and, and_false, exists_false, or_false, false_or, exists_const, iEnumS, iStr, iList, iTup, iRng1, iEnum, tFor_eq, tLc_eq, List.cons.injEq, wipe, not_true_eq_false, not_false_eq_true, upd_same, HO.ins.injEq, HO.tup.injEq, HO.lst.injEq, ofS_eq, lk_nil, lk_cons, pu_nil, pu_cons, sizeLine_eq, Nat.reduceLT, Nat.reduceLeDiff, Nat.reduceEqDiff, Nat.le_refl, decide_true, decide_false, tPr, dget_us, dput_us, vv_nil, vv_cons, RS.pk_nil, pk_one, RS.pk_cons, inr_eq, tDisp, tPairs, tBoolOwn, rBoolOwn, tBM, rAppend, ty_list, ty_str, rEqOwn, iEnumT, RS.tCallS, tM1, tDc_eq, tLock, tLockE, iKeys, tListEnum, rUpdate, tMkX0, tMkX1, tXfv, gSub, rSetL, List.getD_cons_zero, List.getD_cons_succ, tCMethS, ClX.tCVal, tXfa, tIxOwn, tInOwn, tPropG, tMethK, tMethP, tListGen, tDGet2, tDPop2, rNeD0, intA_i, intA_b, tRevL, sFldAug, tPm0, tPm1, tDIn, tDNotIn, tDNewK, RS.tMethS]
                refine ⟨none, by rw [dget_s eG3]; exact nov, ?_⟩
                rw [if_neg (by simp)]
                trivial
              intro G4 e4
              rw [e4]; clear e4 G4
              walk_at "sx"
              (simp only [h4']; (try walk_at "sx"); (try simp only [R.cls, R.n1, R.n2, true_and]); (try walk_at "lt"); (try walk_at "sx"))
              refine ⟨_, _, rfl, y, dy, t, i + (kk + 1) + k2, rfl, by congr 1; omega, by omega, h4, hl, by omega, ?_⟩
              rw [hd2]
              cases hx : rp n (r.drop k2) with
              | bad j2 =>
                rw [hx] at er
                simp only [Res.map, Res.up] at er
                rw [er] at q
                simp only at q
                have e : i + (kk + (1 + k2 + j2)) = i + (kk + 1) + k2 + j2 := by omega
                rw [e] at q
                exact fun dd H' b h => q dd H' ((bG.trans b4).trans b) h
              | ok d j2 =>
                rw [hx] at er
                simp only at er
                rw [up_mapK] at er
                intro v fpv G4 tv nv bv rv
                have l3 := hrp _ _ _ hx
                rw [List.length_drop] at l3
                have eG4 := bv _ _ (Ne.symm yp) eG3
                have knew : (.inr (S key) : Key) ∉ kvs.map (·.1) := by rw [ks]; exact fun z => isin (mem_S.mp z)
                rw [dput_s eG4, putK_new knew]
                have nD : ∀ ys, G4 p ≠ some (.tup ys) := fun ys z => by rw [eG4] at z; cases z
                have kD : ∀ c o, c ≠ p → G4 c = some o → upd G4 p (.dK (kvs ++ [(.inr (S key), v)])) c = some o := fun c o n z => by rw [upd_ne n]; exact z
                have fD : p ∉ fpv := fun z => by rw [nv p z] at eG3; cases eG3
                have ny : ∀ ys, G1 y ≠ some (.tup ys) := fun ys z => by rw [hG'] at z; cases z
                have ya : y ∉ fa := fun z => by
                  have := (nf y z).1
                  unfold Rd at hy; rw [this] at hy; cases hy
                have b14 := b4.trans bv
                refine ⟨by rw [sizeLine_eq]; omega, ⟨_, rfl⟩, D ++ [(.str (S key), d)], kk + (1 + k2 + j2), kvs ++ [(.inr (S key), v)], upd_same, by simp [lv], fa ++ fpv, seen ++ [key], by simp [ks], ?_, TrD.snoc (tv.but nD kD fD) ((tl.but ny b14 ya).but nD kD fun z => (nf p z).2 rfl), fun c hc => ?_, fun c o n z => ?_, ?_, by omega, ?_⟩
                · exact List.nodup_append.mpr ⟨nd, by simp, fun a ha b hb e => isin (by rw [← List.mem_singleton.mp hb, ← e]; exact ha)⟩
                · rcases List.mem_append.mp hc with h | h
                  · exact nf c h
                  · refine ⟨?_, fun e => fD (e ▸ h)⟩
                    cases e : H c with
                    | none => rfl
                    | some o =>
                      have cy : c ≠ y := fun z => by rw [z] at h; have := nv y h; rw [h4'] at this; cases this
                      have := b4 _ _ cy (bG _ _ cy e)
                      rw [nv c h] at this; cases this
                · have cp : c ≠ p := fun e => by rw [e, hp] at z; cases z
                  rw [upd_ne cp]; exact b14 _ _ n (bG _ _ n z)
                · unfold Rd at rv ⊢
                  have e : i + (kk + (1 + k2 + j2)) = i + (kk + 1) + k2 + j2 := by omega
                  rw [upd_ne yp, rv, e]
                · have e : i + (kk + (1 + k2 + j2)) = i + (kk + 1) + (k2 + j2) := by omega
                  have e6 : t.drop (i + (kk + 1) + (k2 + j2)) = r.drop (k2 + j2) := by rw [← hdr, List.drop_drop]
                  rw [er, e, e6]
          · rw [if_pos (by simpa using c115)] at er
            simp only [Res.map, Res.up, Nat.add_zero] at er
            rw [er] at q
            refine mid_at (fun _ _ => False) ?_ (fun _ _ z => z.elim)
            walk_at "sx"
            (simp only [hG']; (try walk_at "sx"); (try simp only [R.cls, R.n1, R.n2, true_and]); (try walk_at "lt"); (try walk_at "sx"))
            refine ⟨_, rfl, y, dy, t, i + kk, rfl, hG, hl, ?_⟩
            rw [hr]
            simp only [List.take_succ_cons, List.take_zero, ne_ss, S_eq]
            refine ⟨_, rfl, ?_⟩
            rw [if_pos (by simpa using c115)]
            exact rf R hG q bG
      · obtain ⟨⟨v3, v4, rfl⟩, D, kk, kvs, fa, seen, eG, lv, ks, nd, tl, nf, bG, hG, hk, er⟩ := P
        rw [Nat.sub_self] at er
        simp only [mnyK, Res.map, Res.up, List.append_nil, Nat.add_zero] at er
        refine ⟨_, _, rfl, D, kk, er, kvs, eG, fa, tl, ?_, nf, bG, hG⟩
        rw [ks]
        exact nodup_S nd
  rintro _ G ⟨v3, v4, D, k, kvs, fp, rfl, er, eG, tl, nd, nf, bG, hG⟩
  rw [er] at q
  walk_at "sx"
  exact q p kvs fp G eG tl nd hp nf bG hG
end


theorem up_ok {α β : Type} {x : Res α} {g : α → β} {j k : Nat} {b : β} (h : (x.map g).up j = .ok b k) : ∃ a k', x = .ok a k' ∧ k = j + k' := by
  cases x with
  | bad i => simp only [Res.map, Res.up] at h; cases h
  | ok a i => simp only [Res.map, Res.up] at h; cases h; exact ⟨a, i, rfl, rfl⟩
theorem mnyK_len {f : List Nat → Res PyData} (hf : ∀ r a k, f r = .ok a k → k ≤ r.length) : ∀ {m : Nat} {seen : List (List Nat)} {r : List Nat} {D : List (PyData × PyData)} {k : Nat}, mnyK f m seen r = .ok D k → k ≤ r.length
  | 0, seen, r, D, k, h => by simp only [mnyK] at h; cases h; simp
  | m + 1, seen, [], D, k, h => by simp only [mnyK] at h; cases h
  | m + 1, seen, c :: r, D, k, h => by
    simp only [mnyK] at h
    split at h
    · cases h
    · cases hs : rs r with
      | bad j => rw [hs] at h; cases h
      | ok key j =>
        rw [hs] at h
        simp only at h
        have l1 := (rs_len hs).1
        split at h
        · cases h
        · cases hx : f (r.drop j) with
          | bad i => rw [hx] at h; cases h
          | ok d i =>
            rw [hx] at h
            have l2 := hf _ _ _ hx
            rw [List.length_drop] at l2
            obtain ⟨a, k', e1, e2⟩ := up_ok h
            have l3 := mnyK_len hf e1
            rw [List.length_drop] at l3
            simp; omega
theorem ig_len {r : List Nat} {v : Int} {k : Nat} (h : ig r = .ok v k) : k ≤ r.length := by
  unfold ig at h
  split at h
  · split at h
    · cases h
    · obtain ⟨a, k', e1, e2⟩ := up_ok h
      have := dg_len e1
      simp; omega
  · cases hd : dg false 0 0 r with
    | bad j => rw [hd] at h; cases h
    | ok a j =>
      rw [hd] at h
      simp only [Res.map] at h
      cases h
      have := dg_len hd
      omega
theorem rp_len : ∀ (n : Nat) (r : List Nat) (d : PyData) (k : Nat), rp n r = .ok d k → k ≤ r.length
  | n, [], d, k, h => by cases n <;> (simp only [rp] at h; cases h)
  | n, c :: r, d, k, h => by
    unfold rp at h
    split at h
    · cases h; simp
    split at h
    · cases h; simp
    split at h
    · cases h; simp
    split at h
    · obtain ⟨a, k', e1, e2⟩ := up_ok h
      have := ig_len e1
      simp; omega
    split at h
    · obtain ⟨a, k', e1, e2⟩ := up_ok h
      have := (rs_len e1).1
      simp; omega
    cases n with
    | zero => cases h
    | succ n =>
      simp only at h
      split at h
      · cases hc : ct 0 0 r with
        | bad j => rw [hc] at h; cases h
        | ok m j =>
          rw [hc] at h
          simp only at h
          have l1 := (ct_len hc).1
          split at h
          · obtain ⟨a, k', e1, e2⟩ := up_ok h
            have := mnyK_len (rp_len n) e1
            rw [List.length_drop] at this
            simp; omega
          · obtain ⟨a, k', e1, e2⟩ := up_ok h
            have := (mny_len (rp_len n) e1).1
            rw [List.length_drop] at this
            simp; omega
      · cases h
/-- the whole of some signs as a text -/
def vo (t : List Nat) : Res PyData := match rp 20 t with
  | .bad k => .bad k
  | .ok d k => if t.length ≤ k then .ok d k else .bad k
section
variable {g : Wd} {f : Addr} {fd : FuncData} {C_TextReader CI : Addr}
theorem sc_TextReader__init : FnScope ["self", "text"] ["self", "text"] (defScope s_TextReader__init) := ⟨rfl, rfl, rfl, by decide +kernel, rfl, by decide +kernel, by decide +kernel⟩
def sp_rinit (C : Addr) : Sp := S2 fun z x H Q _ => ∃ y dy t, z = .ref y ∧ x = .str (S t) ∧ H y = some (.ins C dy []) ∧ ∀ H', But y H H' → Rd C H' y dy t 0 → Q .non H'
theorem ok_rinit (F : Df g.K "__init__" "TextReader.__init__" s_TextReader__init f fd .none) (T : Txt2 g) (R : RF g C_TextReader) : FnG g 1 f fd ["self", "text"] (sp_rinit C_TextReader) := by
  refine F.ok sc_TextReader__init (fun vs H Q E h => S2.len h) (fun cdv A outer s H vs Q E hr h => ?_)
  obtain ⟨_, _, rfl, y, dy, t, rfl, rfl, hy, q⟩ := h
  refine ⟨_, (pss_cons (s_fld (K := g.K) (pv 0) (pv 1))
      (pss_one (s_fld (K := g.K) (pv 0) pe_int))), ?_⟩
  walk_at "sx"
  refine ⟨_, _, _, hy, R.cls, R.n1, by simp, R.cls, R.n2, by simp [pu_nil], q _ (fun c o n z => by rw [upd_ne n, upd_ne n]; exact z) ?_⟩
  unfold Rd
  have h1 : ¬ (Str.ofString "own_text" = Str.ofString "at") := by decide +kernel
  rw [upd_same, pu_nil, pu_cons, if_neg h1, pu_nil]
  rfl
theorem sc_TextReader_is_done : FnScope ["self"] ["self"] (defScope s_TextReader_is_done) := ⟨rfl, rfl, rfl, by decide +kernel, rfl, by decide +kernel, by decide +kernel⟩
def sp_done (C : Addr) : Sp := S1 fun z H Q _ => ∃ y dy t i, z = .ref y ∧ Rd C H y dy t i ∧ t.length ≤ 10000000 ∧ Q (.bl (decide (t.length ≤ i))) H
theorem ok_done (F : Df g.K "is_done" "TextReader.is_done" s_TextReader_is_done f fd .none) (T : Txt2 g) (R : RF g C_TextReader) : FnG g 1 f fd ["self"] (sp_done C_TextReader) := by
  refine F.ok sc_TextReader_is_done (fun vs H Q E h => S1.len h) (fun cdv A outer s H vs Q E hr h => ?_)
  obtain ⟨_, rfl, y, dy, t, i, rfl, hy, hl, q⟩ := h
  refine ⟨_, (pss_one (ps_ret (pe_cmpR op_ge (e_fld (K := g.K) (pv 0)) (pe_callB (c_len (K := g.K)) (by rfl) T.b_len bb_len (pa_cons (e_fld (K := g.K) (pv 0)) pa_nil)) (nomark _)))), ?_⟩
  have hy' := hy
  unfold Rd at hy'
  walk_at "sx"
  (simp only [hy']; (try walk_at "sx"); (try simp only [R.cls, R.n1, R.n2, true_and]); (try walk_at "lt"); (try walk_at "sx"))
  rw [S_len]
  exact ⟨by omega, by simpa using q⟩
theorem sc_check_string : FnScope ["text"] ["text"] (defScope s_check_string) := ⟨rfl, rfl, rfl, by decide +kernel, rfl, by decide +kernel, by decide +kernel⟩
def sp_cstr : Sp := S1 fun z H Q _ => ∃ x, z = .str x ∧ Q .non H
theorem ok_cstr (F : Df g.K "check_string" "check_string" s_check_string f fd .none) (T : Txt2 g) : FnG g 1 f fd ["text"] sp_cstr := by
  refine F.ok sc_check_string (fun vs H Q E h => S1.len h) (fun cdv A outer s H vs Q E hr h => ?_)
  obtain ⟨_, rfl, x, rfl, q⟩ := h
  refine ⟨_, (pss_one (ps_if (pt_not (pt_val (pe_callB (c_is "str") (by rfl) T.b_isinstance bb_isinstance (pa_cons (pv 0) (pa_cons (pe_bltn (v := .ty "str") rfl T.b_str bb_str rfl) pa_nil))))) (pss_one ps_never) pss_nil)), ?_⟩
  walk_at "sx"
  exact q
theorem sc_value_of : FnScope ["text", "reader", "found"] ["text"] (defScope s_value_of) := ⟨rfl, rfl, rfl, by decide +kernel, rfl, by decide +kernel, by decide +kernel⟩
def sp_vof (CI : Addr) : Sp := S1 fun z H Q E => ∃ t, z = .str (S t) ∧ t.length ≤ 10000000 ∧ match vo t with
  | .bad k => ∀ dd H', Same H H' → H' dd = some (.xd [("position", .int (k : Nat))]) → E (.ref CI) (some dd) H'
  | .ok d k => ∀ v fp H', Tr H' v d fp → (∀ c ∈ fp, H c = none) → Same H H' → Q v H'
theorem ok_vof (F : Df g.K "value_of" "value_of" s_value_of f fd .none) (T : Txt2 g) (R : RF g C_TextReader) (CL_TextReader : Cls g.K C_TextReader) (F_check_string : Kn g "check_string" 1 ["text"] [] sp_cstr) (F_TextReader : Kc g "TextReader" C_TextReader 1 ["self", "text"] [] (sp_rinit C_TextReader)) (M_TextReader_read_part : Km g C_TextReader "read_part" 46 ["self", "depth"] [] (sp_part C_TextReader CI 20)) (M_TextReader_is_done : Km g C_TextReader "is_done" 1 ["self"] [] (sp_done C_TextReader)) (M_TextReader_refuse : Km g C_TextReader "refuse" 3 ["self", "index"] [] (sp_refuse CI)) : FnG g 47 f fd ["text"] (sp_vof CI) := by
  refine F.ok sc_value_of (fun vs H Q E h => S1.len h) (fun cdv A outer s H vs Q E hr h => ?_)
  obtain ⟨_, rfl, t, rfl, hl, q⟩ := h
  refine ⟨_, (pss_mid (ps_expr (pe_callG F_check_string (hr.mono (by first | decide | omega)) tkD (pa_cons (pv 0) pa_nil)))
      (pss_mid (ps_set (i := 1) sc_value_of.nd rfl (Or.inl rfl) (pe_makeG F_TextReader (hr.mono (by first | decide | omega)) tkD (pa_cons (pv 0) pa_nil)))
      (pss_mid (ps_set (i := 2) sc_value_of.nd rfl (Or.inl rfl) (pe_methG (pv 1) CL_TextReader M_TextReader_read_part (hr.mono (by first | decide | omega)) tkD (pa_cons pe_int pa_nil)))
      (pss_mid (ps_if (pt_not (pt_val (pe_methG0 (pv 1) CL_TextReader M_TextReader_is_done (hr.mono (by first | decide | omega)) tkD))) (pss_one (ps_expr (pe_methG (pv 1) CL_TextReader M_TextReader_refuse (hr.mono (by first | decide | omega)) tkD (pa_cons (e_fld (K := g.K) (pv 1)) pa_nil)))) pss_nil)
      (pss_one (ps_ret (pv 2))))))), ?_⟩
  refine mid_one [some (.str (S t)), none, none] (fun G => G = H) ?_ ?_
  · walk_at "sx"
    exact ⟨_, rfl, _, rfl, rfl⟩
  intro G e0
  rw [e0]; clear e0 G
  refine mid_at (fun σ G => ∃ y dy, σ = [some (.str (S t)), some (.ref y), none] ∧ H y = none ∧ Same H G ∧ Rd C_TextReader G y dy t 0) ?_ ?_
  · walk_at "sx"
    intro y dy hy hdy ne
    refine ⟨_, _, rfl, y, dy, t, rfl, rfl, upd_same, fun H' b h => ⟨rfl, hy, fun c o z => ?_, dy, h⟩⟩
    have cy : c ≠ y := ne_of_none z hy
    exact b c o cy (by rw [upd_ne cy, upd_ne (ne_of_none z hdy)]; exact z)
  rintro _ G ⟨y, dy, rfl, ny, sG, hG⟩
  have hG' := hG
  unfold Rd at hG'
  have sm : ∀ {G2 : Hp}, But y G G2 → Same H G2 := fun b c o z => b c o (fun e => by rw [e, ny] at z; cases z) (sG _ _ z)
  refine mid_at (fun σ G2 => ∃ v d k fp, rp 20 t = .ok d k ∧ σ = [some (.str (S t)), some (.ref y), some v] ∧ Tr G2 v d fp ∧ (∀ c ∈ fp, H c = none) ∧ But y G G2 ∧ Rd C_TextReader G2 y dy t k) ?_ ?_
  · walk_at "sx"
    (simp only [hG']; (try walk_at "sx"); (try simp only [R.cls, R.n1, R.n2, true_and]); (try walk_at "lt"); (try walk_at "sx"))
    refine ⟨_, _, rfl, y, dy, t, 0, rfl, by rfl, by decide, hG, hl, Nat.zero_le _, ?_⟩
    rw [List.drop_zero]
    unfold vo at q
    cases hx : rp 20 t with
    | bad k =>
      rw [hx] at q
      simp only [Nat.zero_add]
      exact fun dd H' b h => q dd H' (sm b) h
    | ok d k =>
      simp only [Nat.zero_add]
      intro v fp H' tv nv bv rv
      refine ⟨v, d, k, rfl, rfl, fp, tv, fun c hc => ?_, bv, rv⟩
      cases e : H c with
      | none => rfl
      | some o => have := sG _ _ e; rw [nv c hc] at this; cases this
  rintro _ G2 ⟨v, d, k, fp, hx, rfl, tv, nv, b2, h2⟩
  unfold vo at q
  rw [hx] at q
  simp only at q
  have h2' := h2
  unfold Rd at h2'
  by_cases dn : t.length ≤ k
  · rw [if_pos dn] at q
    refine mid_one [some (.str (S t)), some (.ref y), some v] (fun G3 => G3 = G2) ?_ ?_
    · walk_at "sx"
      (simp only [h2']; (try walk_at "sx"); (try simp only [R.cls, R.n1, R.n2, true_and]); (try walk_at "lt"); (try walk_at "sx"))
      refine ⟨_, rfl, y, dy, t, k, rfl, h2, hl, _, rfl, ?_⟩
      rw [decide_eq_true dn, if_neg (by decide)]
    intro G3 e3
    rw [e3]; clear e3 G3
    walk_at "sx"
    exact q v fp G2 tv nv (sm b2)
  · rw [if_neg dn] at q
    refine mid_at (fun _ _ => False) ?_ (fun _ _ z => z.elim)
    walk_at "sx"
    (simp only [h2']; (try walk_at "sx"); (try simp only [R.cls, R.n1, R.n2, true_and]); (try walk_at "lt"); (try walk_at "sx"))
    refine ⟨_, rfl, y, dy, t, k, rfl, h2, hl, _, rfl, ?_⟩
    rw [decide_eq_false dn, if_pos (by decide)]
    have q' : Bad CI y G k E := fun dd H' b h => q dd H' (sm b) h
    exact rf R h2 q' b2
theorem sc_first_wrong : FnScope ["text", "found", "error"] ["text"] (defScope s_first_wrong) := ⟨rfl, rfl, rfl, by decide +kernel, rfl, by decide +kernel, by decide +kernel⟩
def sp_fw : Sp := S1 fun z H Q E => ∃ t, z = .str (S t) ∧ t.length ≤ 10000000 ∧ match vo t with
  | .bad k => ∀ H', Same H H' → Q (.int (k : Nat)) H'
  | .ok d k => ∀ H', Same H H' → Q .non H'
theorem ok_fw (F : Df g.K "first_wrong" "first_wrong" s_first_wrong f fd .none) (T : Txt2 g) (F_check_string : Kn g "check_string" 1 ["text"] [] sp_cstr) (F_value_of : Kn g "value_of" 47 ["text"] [] (sp_vof CI)) (hm : g.mg "InvalidText" = some (.ref CI)) (hex : PySem.W.exmOne g.K (.ref CI) (.ref CI) = some true) (XF_InvalidText : XfC g.K CI) (NF_InvalidText : PySem.W.findIn g.K (.ref CI) "position" = some none) : FnG g 48 f fd ["text"] sp_fw := by
  refine F.ok sc_first_wrong (fun vs H Q E h => S1.len h) (fun cdv A outer s H vs Q E hr h => ?_)
  obtain ⟨_, rfl, t, rfl, hl, q⟩ := h
  have N_InvalidText : Names (cx g ["text", "found", "error"] "first_wrong" s_first_wrong f cdv A outer s H E) "InvalidText" (.ref CI) := ⟨rfl, by decide, .inl hm⟩
  refine ⟨_, (pss_mid (ps_expr (pe_callG F_check_string (hr.mono (by first | decide | omega)) tkD (pa_cons (pv 0) pa_nil)))
      (pss_mid (ps_set (i := 1) sc_first_wrong.nd rfl (Or.inl rfl) pe_non)
      (pss_mid (ps_try_as (i := 2) rfl rfl sc_first_wrong.nd rfl rfl N_InvalidText tkD (fun W pn xe tk1 po1 => (pss_one (ps_expr (pe_callG F_value_of (Rm.mono (Rm.mk hr.room hr.gd) (by first | decide | omega)) tk1 (pa_cons (pv 0) pa_nil))))) (fun a oe cls d pn hz hf => (pss_one (ps_set (i := 1) sc_first_wrong.nd rfl (Or.inl rfl) (pe_xf XF_InvalidText NF_InvalidText hz hf (pv 2))))))
      (pss_one (ps_ret (pv 1)))))), ?_⟩
  refine mid_one [some (.str (S t)), none, none] (fun G => G = H) ?_ ?_
  · walk_at "sx"
    exact ⟨_, rfl, _, rfl, rfl⟩
  intro G e0
  rw [e0]; clear e0 G
  refine mid_one [some (.str (S t)), some .non, none] (fun G => G = H) ?_ ?_
  · walk_at "sx"
  intro G e0
  rw [e0]; clear e0 G
  refine mid_at (fun σ G => ∃ v, σ = [some (.str (S t)), some v, none] ∧ Same H G ∧ v = (match vo t with
    | .bad k => .int (k : Nat)
    | .ok _ _ => .non)) ?_ ?_
  · walk_at "sx"
    refine ⟨_, rfl, t, rfl, hl, ?_⟩
    cases hv : vo t with
    | bad k =>
      intro dd H' s' h'
      refine ⟨true, hex, fun _ a ha => ?_, fun z => by cases z⟩
      simp only [tXf, tRet, tRetN, tSeq, C8.tCut, tNext, tAsg, gName, gNil, gCons, gTup, gFld, tIfS, tIf, tAndV, tOrV, tNotV, tAnd, tOr, tNot, tB, tTest, tOp, tUn, tCB, tCons, tNil, tVar, tC, tChain, tDrop, RS.tCallG, RS.tMethG, tMakeG, RS.tCallK, RS.tMakeK, tEqOwn, rI, rI0, rU, add_ii, add_ss, add_rr, mul_ii, mul_si, mul_ri, RS.eq_ii, RS.eq_ss, eq_bb, eq_nn, eq_sn, eq_ns, eq_in, eq_ni, eq_bn, eq_nb, eq_is, eq_si, eq_rr, ne_ii, ne_ss, ne_bb, ne_nn, ne_sn, ne_ns, ne_in, ne_ni, ne_is, ne_si, ne_rr, in_ss, in_r, nin_ss, nin_r, len_s, len_r, RS.ix_s, RS.ix_r, sl_s, sl_r, is_eq, tyN_n, tyN_b, tyN_i, tyN_s, tru_b, tru_i, tru_n, tSl, tPart, tNoPart, tPar, tPar3, tFmtZ, tFmt, tJs, tDGet, sDPut, sFld, tFld, tTup, tLst, tNever, isB,
  L2.start, List.map_cons, List.map_nil, List.length_cons, List.length_nil, Nat.reduceAdd, Nat.reduceSub, Nat.sub_self, List.replicate_zero, List.replicate_succ, List.append_nil, List.cons_append, List.nil_append, List.getElem?_cons_zero, List.getElem?_cons_succ, List.set_cons_zero, List.set_cons_succ, Option.some.injEq, exists_eq_left, exists_eq_left', exists_and_left, V.bl.injEq, V.int.injEq, V.str.injEq, V.ref.injEq, beq_self_eq_true, Bool.true_or, Bool.or_true, Bool.false_or, Bool.or_false, Bool.and_false, Bool.false_and, Bool.true_and, Bool.and_true, Bool.not_true, Bool.not_false, Bool.false_eq_true, if_true, if_false, ite_true, ite_false, true_and, and_true, and_assoc, String.reduceBEq, String.reduceEq, reduceIte, Bool.and_self, reduceCtorEq, false_and, and_false, exists_false, or_false, false_or, exists_const, iEnumS, iStr, iList, iTup, iRng1, iEnum, tFor_eq, tLc_eq, List.cons.injEq, wipe, not_true_eq_false, not_false_eq_true, upd_same, HO.ins.injEq, HO.tup.injEq, HO.lst.injEq, ofS_eq, lk_nil, lk_cons, pu_nil, pu_cons, sizeLine_eq, Nat.reduceLT, Nat.reduceLeDiff, Nat.reduceEqDiff, Nat.le_refl, decide_true, decide_false, tPr, dget_us, dput_us, vv_nil, vv_cons, RS.pk_nil, pk_one, RS.pk_cons, inr_eq, tDisp, tPairs, tBoolOwn, rBoolOwn, tBM, rAppend, ty_list, ty_str, rEqOwn, iEnumT, RS.tCallS, tM1, tDc_eq, tLock, tLockE, iKeys, tListEnum, rUpdate, tMkX0, tMkX1, tXfv, gSub, rSetL, List.getD_cons_zero, List.getD_cons_succ, tCMethS, ClX.tCVal, tXfa, tIxOwn, tInOwn, tPropG, tMethK, tMethP, tListGen, tDGet2, tDPop2, rNeD0, intA_i, intA_b, tRevL, sFldAug, tPm0, tPm1, tDIn, tDNotIn, tDNewK, RS.tMethS]
      exact ⟨_, h', _, by rw [lk_cons, if_pos rfl], s', rfl⟩
    | ok d k => 
      intro v fp H' tv nv s'
      exact ⟨s', rfl⟩
  rintro _ G ⟨v, rfl, sG, rfl⟩
  walk_at "sx"
  cases hv : vo t with
  | bad k => rw [hv] at q; exact q _ sG
  | ok d k => rw [hv] at q; exact q _ sG
end


def isOk {α : Type} : Res α → Bool
  | .ok _ _ => true
  | .bad _ => false
section
variable {g : Wd} {f : Addr} {fd : FuncData} {C_TextReader CI : Addr}
theorem sc_is_text : FnScope ["value"] ["value"] (defScope s_is_text) := ⟨rfl, rfl, rfl, by decide +kernel, rfl, by decide +kernel, by decide +kernel⟩
def sp_ist : Sp := S1 fun z H Q E => ∃ t, z = .str (S t) ∧ t.length ≤ 10000000 ∧ ∀ H', Same H H' → Q (.bl (isOk (vo t))) H'
theorem ok_ist (F : Df g.K "is_text" "is_text" s_is_text f fd .none) (T : Txt2 g) (F_first_wrong : Kn g "first_wrong" 48 ["text"] [] sp_fw) : FnG g 49 f fd ["value"] sp_ist := by
  refine F.ok sc_is_text (fun vs H Q E h => S1.len h) (fun cdv A outer s H vs Q E hr h => ?_)
  obtain ⟨_, rfl, t, rfl, hl, q⟩ := h
  refine ⟨_, (pss_one (ps_ret (pe_and (pe_callB (c_is "str") (by rfl) T.b_isinstance bb_isinstance (pa_cons (pv 0) (pa_cons (pe_bltn (v := .ty "str") rfl T.b_str bb_str rfl) pa_nil))) (pe_one (pe_cmpR op_isN (pe_callG F_first_wrong (hr.mono (by first | decide | omega)) tkD (pa_cons (pv 0) pa_nil)) pe_non (nomark _)))))), ?_⟩
  walk_at "sx"
  refine ⟨_, rfl, t, rfl, hl, ?_⟩
  cases hv : vo t with
  | bad k =>
    rw [hv] at q
    intro H' s'
    have := q H' s'
    simpa [hv, isOk] using this
  | ok d k =>
    rw [hv] at q
    intro H' s'
    have := q H' s'
    simpa [hv, isOk] using this
end


/-! what is written is read again -/
open TL (numL numL_lt numL_step numL_digits numL_ne)
theorem ct_num (m : Nat) (h : m ≤ 10000) (r : List Nat) : ct 0 0 (numL m ++ r) = ct (numL m).length m r := by
  induction m using Nat.strongRecOn generalizing r with
  | ind m ih =>
    by_cases lt : m < 10
    · rw [numL_lt lt]
      simp only [List.cons_append, List.nil_append, ct, List.length_cons, List.length_nil]
      rw [if_neg (by simp), if_pos ⟨by simp [isDig]; omega, .inl trivial, by omega⟩]
      congr 1; omega
    · rw [numL_step (by omega), List.append_assoc, ih (m / 10) (by omega) (by omega)]
      have l0 : (numL (m / 10)).length ≠ 0 := fun z => numL_ne (m / 10) (List.eq_nil_of_length_eq_zero z)
      simp only [List.cons_append, List.nil_append, ct]
      rw [if_neg (by omega), if_pos ⟨by simp [isDig]; omega, .inr (by omega), by omega⟩]
      rw [List.length_append]
      congr 1; omega
theorem ct_num_ok {m : Nat} (h : m ≤ 10000) (r : List Nat) : ct 0 0 (numL m ++ 58 :: r) = .ok m ((numL m).length + 1) := by
  rw [ct_num m h]
  have l0 : (numL m).length ≠ 0 := fun z => numL_ne m (List.eq_nil_of_length_eq_zero z)
  simp only [ct]
  rw [if_pos ⟨trivial, l0⟩]
theorem ct_num_cut {m : Nat} (h : m ≤ 10000) {p q : List Nat} (e : p ++ q = numL m) : ct 0 0 p = .bad p.length := by
  induction m using Nat.strongRecOn generalizing p q with
  | ind m ih =>
    by_cases nq : q = []
    · subst nq
      rw [List.append_nil] at e
      have := ct_num m h []
      rw [List.append_nil] at this
      rw [e, this]; rfl
    · by_cases lt : m < 10
      · rw [numL_lt lt] at e
        cases p with
        | nil => rfl
        | cons c p =>
          simp only [List.cons_append, List.cons.injEq, List.append_eq_nil_iff] at e
          exact absurd e.2.2 nq
      · rw [numL_step (by omega)] at e
        obtain ⟨q', c, rfl⟩ : ∃ q' c, q = q' ++ [c] := ⟨q.dropLast, q.getLast nq, (List.dropLast_concat_getLast nq).symm⟩
        rw [← List.append_assoc] at e
        have := (List.append_inj' e rfl).1
        exact ih (m / 10) (by omega) (by omega) this
theorem dg_num (m : Nat) (h : (numL m).length ≤ 100) (r : List Nat) : dg false 0 0 (numL m ++ r) = dg (decide (m = 0)) (numL m).length m r := by
  induction m using Nat.strongRecOn generalizing r with
  | ind m ih =>
    by_cases lt : m < 10
    · rw [numL_lt lt]
      simp only [List.cons_append, List.nil_append, dg, List.length_cons, List.length_nil]
      rw [if_neg (by simp), if_pos ⟨by simp [isDig]; omega, .inl trivial⟩]
      simp
    · have ls : (numL m).length = (numL (m / 10)).length + 1 := by rw [numL_step (by omega)]; simp
      rw [numL_step (by omega), List.append_assoc, ih (m / 10) (by omega) (by omega)]
      have l0 : (numL (m / 10)).length ≠ 0 := fun z => numL_ne (m / 10) (List.eq_nil_of_length_eq_zero z)
      have z0 : decide (m / 10 = 0) = false := decide_eq_false (by omega)
      have z1 : decide (m = 0) = false := decide_eq_false (by omega)
      simp only [List.cons_append, List.nil_append, dg, z0, z1]
      rw [if_neg (by omega), if_pos ⟨by simp [isDig]; omega, .inr ⟨by omega, trivial⟩⟩, if_neg l0]
      rw [List.length_append]
      congr 1; omega
theorem dg_num_ok {m : Nat} (h : (numL m).length ≤ 100) (r : List Nat) : dg false 0 0 (numL m ++ 59 :: r) = .ok m ((numL m).length + 1) := by
  rw [dg_num m h]
  have l0 : (numL m).length ≠ 0 := fun z => numL_ne m (List.eq_nil_of_length_eq_zero z)
  simp only [dg]
  rw [if_pos ⟨trivial, l0⟩]
theorem dg_num_cut {m : Nat} (h : (numL m).length ≤ 100) {p q : List Nat} (e : p ++ q = numL m) : dg false 0 0 p = .bad p.length := by
  induction m using Nat.strongRecOn generalizing p q with
  | ind m ih =>
    by_cases nq : q = []
    · subst nq
      rw [List.append_nil] at e
      have := dg_num m h []
      rw [List.append_nil] at this
      rw [e, this]; rfl
    · by_cases lt : m < 10
      · rw [numL_lt lt] at e
        cases p with
        | nil => rfl
        | cons c p =>
          simp only [List.cons_append, List.cons.injEq, List.append_eq_nil_iff] at e
          exact absurd e.2.2 nq
      · have ls : (numL m).length = (numL (m / 10)).length + 1 := by rw [numL_step (by omega)]; simp
        rw [numL_step (by omega)] at e
        obtain ⟨q', c, rfl⟩ : ∃ q' c, q = q' ++ [c] := ⟨q.dropLast, q.getLast nq, (List.dropLast_concat_getLast nq).symm⟩
        rw [← List.append_assoc] at e
        have := (List.append_inj' e rfl).1
        exact ih (m / 10) (by omega) (by omega) this


/-- a string behind its letter -/
def strL (x : List Nat) : List Nat := numL x.length ++ 58 :: x
theorem rs_ok {x : List Nat} (h : x.length ≤ 10000) (r : List Nat) : rs (strL x ++ r) = .ok x (strL x).length := by
  unfold rs strL
  rw [List.append_assoc, List.cons_append, ct_num_ok h]
  simp only
  have e : (numL x.length ++ 58 :: (x ++ r)).drop ((numL x.length).length + 1) = x ++ r := by
    rw [← List.drop_drop, List.drop_left]; rfl
  rw [e, if_pos (by simp)]
  congr 1
  · simp
  · simp; omega
theorem rs_cut {x p q : List Nat} (h : x.length ≤ 10000) (e : p ++ q = strL x) (nq : q ≠ []) : rs p = .bad p.length := by
  unfold strL at e
  rcases List.append_eq_append_iff.mp e with ⟨a', h1, h2⟩ | ⟨c', h1, h2⟩
  · unfold rs
    rw [ct_num_cut h (p := p) (q := a') h1.symm]
  · cases c' with
    | nil =>
      rw [List.append_nil] at h1
      unfold rs
      rw [ct_num_cut h (p := p) (q := []) (by rw [List.append_nil]; exact h1)]
    | cons c y =>
      simp only [List.cons_append, List.cons.injEq] at h2
      obtain ⟨rfl, h2⟩ := h2
      unfold rs
      rw [h1, ct_num_ok h]
      simp only
      have e2 : (numL x.length ++ 58 :: y).drop ((numL x.length).length + 1) = y := by
        rw [← List.drop_drop, List.drop_left]; rfl
      rw [e2, if_neg]
      rw [h2]
      cases q with
      | nil => exact absurd rfl nq
      | cons a q => simp
/-- an integer behind its letter -/
def intL (i : Int) : List Nat := (if i < 0 then 45 :: numL i.natAbs else numL i.natAbs) ++ [59]
theorem num_head {m : Nat} (h : m ≠ 0) : ∃ c r, numL m = c :: r ∧ c ≠ 48 ∧ c ≠ 45 := by
  induction m using Nat.strongRecOn with
  | ind m ih =>
    by_cases lt : m < 10
    · exact ⟨48 + m, [], numL_lt lt, by omega, by omega⟩
    · obtain ⟨c, r, e, n⟩ := ih (m / 10) (by omega) (by omega)
      exact ⟨c, r ++ [48 + m % 10], by rw [numL_step (by omega), e]; rfl, n⟩
theorem num_first (m : Nat) : ∃ c r, numL m = c :: r ∧ c ≠ 45 := by
  by_cases h : m = 0
  · subst h; exact ⟨48, [], numL_lt (by decide), by decide⟩
  · obtain ⟨c, r, e, n⟩ := num_head h
    exact ⟨c, r, e, n.2⟩
theorem ig_neg {c : Nat} {r : List Nat} (h : c ≠ 48) : ig (45 :: c :: r) = ((dg false 0 0 (c :: r)).map fun v : Nat => (0 - (v : Int))).up 1 := by unfold ig; simp [h]
theorem ig_pos {c : Nat} {r : List Nat} (h : c ≠ 45) : ig (c :: r) = (dg false 0 0 (c :: r)).map fun v : Nat => (v : Int) := by unfold ig; simp [h]
theorem ig_ok {i : Int} (h : (numL i.natAbs).length ≤ 100) (r : List Nat) : ig (intL i ++ r) = .ok i (intL i).length := by
  unfold intL
  have d := dg_num_ok (m := i.natAbs) h r
  by_cases neg : i < 0
  · rw [if_pos neg]
    obtain ⟨c, s, e, n⟩ := num_head (m := i.natAbs) (by omega)
    have e2 : (45 :: numL i.natAbs ++ [59] ++ r) = 45 :: (numL i.natAbs ++ 59 :: r) := by simp
    rw [e2, e, List.cons_append, ig_neg n.1, ← List.cons_append, ← e, d]
    simp only [Res.map, Res.up]
    congr 1
    · omega
    · simp; omega
  · rw [if_neg neg]
    obtain ⟨c, s, e, n⟩ := num_first i.natAbs
    have e2 : (numL i.natAbs ++ [59] ++ r) = numL i.natAbs ++ 59 :: r := by simp
    rw [e2, e, List.cons_append, ig_pos n, ← List.cons_append, ← e, d]
    simp only [Res.map]
    congr 1
    · omega
    · simp
theorem ig_cut {i : Int} (h : (numL i.natAbs).length ≤ 100) {p q : List Nat} (e : p ++ q = intL i) (nq : q ≠ []) : ig p = .bad p.length := by
  unfold intL at e
  -- the front without the semicolon
  have e1 : ∃ q', p ++ q' = (if i < 0 then 45 :: numL i.natAbs else numL i.natAbs) := by
    obtain ⟨q', c, rfl⟩ : ∃ q' c, q = q' ++ [c] := ⟨q.dropLast, q.getLast nq, (List.dropLast_concat_getLast nq).symm⟩
    rw [← List.append_assoc] at e
    exact ⟨q', (List.append_inj' e rfl).1⟩
  obtain ⟨q', e1⟩ := e1
  by_cases neg : i < 0
  · rw [if_pos neg] at e1
    cases p with
    | nil => rfl
    | cons a p =>
      simp only [List.cons_append, List.cons.injEq] at e1
      obtain ⟨rfl, e1⟩ := e1
      have d := dg_num_cut h e1
      cases p with
      | nil => rfl
      | cons c p =>
        obtain ⟨c', s, e', n⟩ := num_head (m := i.natAbs) (by omega)
        rw [e'] at e1
        simp only [List.cons_append, List.cons.injEq] at e1
        rw [ig_neg (by rw [e1.1]; exact n.1), d]
        simp only [Res.map, Res.up, List.length_cons]
        congr 1; omega
  · rw [if_neg neg] at e1
    have d := dg_num_cut h e1
    cases p with
    | nil => rfl
    | cons c p =>
      obtain ⟨c', s, e', n⟩ := num_first i.natAbs
      rw [e'] at e1
      simp only [List.cons_append, List.cons.injEq] at e1
      rw [ig_pos (by rw [e1.1]; exact n), d]
      rfl


mutual
/-- the text of a value as a list of signs -/
def sl : PyData → List Nat
  | .none => [110]
  | .bool b => [if b then 116 else 102]
  | .int i => 105 :: intL i
  | .str x => 115 :: strL x.cps.toList
  | .list ds => 108 :: (numL ds.length ++ 58 :: sls ds)
  | .tuple ds => 117 :: (numL ds.length ++ 58 :: sls ds)
  | .dict D => 100 :: (numL D.length ++ 58 :: slK D)
def sls : List PyData → List Nat
  | [] => []
  | d :: ds => sl d ++ sls ds
def slK : List (PyData × PyData) → List Nat
  | [] => []
  | (k, d) :: r => sl k ++ (sl d ++ slK r)
end
mutual
/-- what can be written: the keys are strings and apart -/
def wf : PyData → Prop
  | .none => True
  | .bool _ => True
  | .int i => (numL i.natAbs).length ≤ 100
  | .str x => x.length ≤ 10000
  | .list ds => ds.length ≤ 10000 ∧ wfs ds
  | .tuple ds => ds.length ≤ 10000 ∧ wfs ds
  | .dict D => D.length ≤ 10000 ∧ wfK [] D
def wfs : List PyData → Prop
  | [] => True
  | d :: ds => wf d ∧ wfs ds
def wfK : List (List Nat) → List (PyData × PyData) → Prop
  | _, [] => True
  | seen, (k, d) :: r => (∃ x : Str, k = .str x ∧ x.length ≤ 10000 ∧ x.cps.toList ∉ seen ∧ wfK (seen ++ [x.cps.toList]) r) ∧ wf d
end
theorem str_S (x : Str) : SX.S x.cps.toList = x := by cases x; rfl
theorem str_len (x : Str) : x.cps.toList.length = x.length := rfl
mutual
theorem rp_ok : ∀ (d : PyData) (n : Nat) (r : List Nat), wf d → d.depth ≤ n → rp n (sl d ++ r) = .ok d (sl d).length
  | .none, n, r, _, _ => by cases n <;> simp [sl, rp]
  | .bool b, n, r, _, _ => by cases b <;> cases n <;> simp [sl, rp]
  | .int i, n, r, h, _ => by
    simp only [wf] at h
    have e := ig_ok h r
    cases n <;> simp [sl, rp, e, Res.map, Res.up] <;> omega
  | .str x, n, r, h, _ => by
    simp only [wf] at h
    have e := rs_ok (x := x.cps.toList) (by rw [str_len]; exact h) r
    cases n <;> simp [sl, rp, e, Res.map, Res.up, str_S] <;> omega
  | .list ds, 0, r, h, hd => by simp only [PyData.depth] at hd; omega
  | .list ds, n + 1, r, h, hd => by
    simp only [wf] at h
    have e := mny_ok ds n r h.2 (by simp only [PyData.depth] at hd; omega)
    have c := ct_num_ok h.1 (sls ds ++ r)
    have dr : (numL ds.length ++ 58 :: (sls ds ++ r)).drop ((numL ds.length).length + 1) = sls ds ++ r := by rw [← List.drop_drop, List.drop_left]; rfl
    simp [sl, rp, c, dr, e, Res.map, Res.up]
    omega
  | .tuple ds, 0, r, h, hd => by simp only [PyData.depth] at hd; omega
  | .tuple ds, n + 1, r, h, hd => by
    simp only [wf] at h
    have e := mny_ok ds n r h.2 (by simp only [PyData.depth] at hd; omega)
    have c := ct_num_ok h.1 (sls ds ++ r)
    have dr : (numL ds.length ++ 58 :: (sls ds ++ r)).drop ((numL ds.length).length + 1) = sls ds ++ r := by rw [← List.drop_drop, List.drop_left]; rfl
    simp [sl, rp, c, dr, e, Res.map, Res.up]
    omega
  | .dict D, 0, r, h, hd => by simp only [PyData.depth] at hd; omega
  | .dict D, n + 1, r, h, hd => by
    simp only [wf] at h
    have e := mnyK_ok D n [] r h.2 (by simp only [PyData.depth] at hd; omega)
    have c := ct_num_ok h.1 (slK D ++ r)
    have dr : (numL D.length ++ 58 :: (slK D ++ r)).drop ((numL D.length).length + 1) = slK D ++ r := by rw [← List.drop_drop, List.drop_left]; rfl
    simp [sl, rp, c, dr, e, Res.map, Res.up]
    omega
theorem mny_ok : ∀ (ds : List PyData) (n : Nat) (r : List Nat), wfs ds → PyData.depthAll ds ≤ n → mny (rp n) ds.length (sls ds ++ r) = .ok ds (sls ds).length
  | [], n, r, _, _ => by simp [mny, sls]
  | d :: ds, n, r, h, hd => by
    simp only [wfs] at h
    simp only [PyData.depthAll] at hd
    have e1 := rp_ok d n (sls ds ++ r) h.1 (by omega)
    have e2 := mny_ok ds n r h.2 (by omega)
    simp [sls, mny, e1, e2, Res.map, Res.up]
theorem mnyK_ok : ∀ (D : List (PyData × PyData)) (n : Nat) (seen : List (List Nat)) (r : List Nat), wfK seen D → PyData.depthKv D ≤ n → mnyK (rp n) D.length seen (slK D ++ r) = .ok D (slK D).length
  | [], n, seen, r, _, _ => by simp [mnyK, slK]
  | (k, d) :: D, n, seen, r, h, hd => by
    simp only [wfK] at h
    simp only [PyData.depthKv] at hd
    obtain ⟨⟨x, rfl, hx, ns, hk⟩, hw⟩ := h
    have e0 := rs_ok (x := x.cps.toList) (by rw [str_len]; exact hx) (sl d ++ (slK D ++ r))
    have e1 := rp_ok d n (slK D ++ r) hw (by omega)
    have e2 := mnyK_ok D n (seen ++ [x.cps.toList]) r hk (by omega)
    have d1 : (strL x.cps.toList ++ (sl d ++ (slK D ++ r))).drop (strL x.cps.toList).length = sl d ++ (slK D ++ r) := List.drop_left
    have d2 : (strL x.cps.toList ++ (sl d ++ (slK D ++ r))).drop ((strL x.cps.toList).length + (sl d).length) = slK D ++ r := by rw [← List.drop_drop, d1, List.drop_left]
    simp [slK, sl, mnyK, e0, ns, d1, d2, e1, e2, Res.map, Res.up, str_S]
    omega
end


/-- a count that is cut off, or what stands behind it -/
theorem front {m : Nat} (h : m ≤ 10000) {p q b : List Nat} (e : p ++ q = numL m ++ 58 :: b) (nq : q ≠ []) : ct 0 0 p = .bad p.length ∨ ∃ y, p = numL m ++ 58 :: y ∧ y ++ q = b ∧ ct 0 0 p = .ok m ((numL m).length + 1) ∧ p.drop ((numL m).length + 1) = y := by
  rcases List.append_eq_append_iff.mp e with ⟨a', h1, h2⟩ | ⟨c', h1, h2⟩
  · exact .inl (ct_num_cut h (p := p) (q := a') h1.symm)
  · cases c' with
    | nil =>
      rw [List.append_nil] at h1
      exact .inl (ct_num_cut h (p := p) (q := []) (by rw [List.append_nil]; exact h1))
    | cons c y =>
      simp only [List.cons_append, List.cons.injEq] at h2
      obtain ⟨rfl, h2⟩ := h2
      refine .inr ⟨y, h1, h2.symm, by rw [h1, ct_num_ok h], ?_⟩
      rw [h1, ← List.drop_drop, List.drop_left]; rfl
mutual
theorem rp_cut : ∀ (d : PyData) (n : Nat) (p q : List Nat), wf d → d.depth ≤ n → p ++ q = sl d → q ≠ [] → rp n p = .bad p.length
  | d, n, [], q, _, _, _, _ => by cases n <;> simp [rp]
  | .none, n, a :: p, q, _, _, e, nq => by simp only [sl, List.cons_append, List.cons.injEq, List.append_eq_nil_iff] at e; exact absurd e.2.2 nq
  | .bool b, n, a :: p, q, _, _, e, nq => by simp only [sl, List.cons_append, List.cons.injEq, List.append_eq_nil_iff] at e; exact absurd e.2.2 nq
  | .int i, n, a :: p, q, h, _, e, nq => by
    simp only [sl, List.cons_append, List.cons.injEq] at e
    obtain ⟨rfl, e⟩ := e
    simp only [wf] at h
    have c := ig_cut h e nq
    cases n <;> simp [rp, c, Res.map, Res.up] <;> omega
  | .str x, n, a :: p, q, h, _, e, nq => by
    simp only [sl, List.cons_append, List.cons.injEq] at e
    obtain ⟨rfl, e⟩ := e
    simp only [wf] at h
    have c := rs_cut (x := x.cps.toList) (by rw [str_len]; exact h) e nq
    cases n <;> simp [rp, c, Res.map, Res.up] <;> omega
  | .list ds, 0, a :: p, q, h, hd, e, nq => by simp only [PyData.depth] at hd; omega
  | .list ds, n + 1, a :: p, q, h, hd, e, nq => by
    simp only [sl, List.cons_append, List.cons.injEq] at e
    obtain ⟨rfl, e⟩ := e
    simp only [wf] at h
    rcases front h.1 e nq with c | ⟨y, h1, h2, c, dr⟩
    · simp [rp, c]; omega
    · have m := mny_cut ds n y q h.2 (by simp only [PyData.depth] at hd; omega) h2 nq
      simp [rp, c, dr, m, Res.map, Res.up]
      rw [h1]; simp; omega
  | .tuple ds, 0, a :: p, q, h, hd, e, nq => by simp only [PyData.depth] at hd; omega
  | .tuple ds, n + 1, a :: p, q, h, hd, e, nq => by
    simp only [sl, List.cons_append, List.cons.injEq] at e
    obtain ⟨rfl, e⟩ := e
    simp only [wf] at h
    rcases front h.1 e nq with c | ⟨y, h1, h2, c, dr⟩
    · simp [rp, c]; omega
    · have m := mny_cut ds n y q h.2 (by simp only [PyData.depth] at hd; omega) h2 nq
      simp [rp, c, dr, m, Res.map, Res.up]
      rw [h1]; simp; omega
  | .dict D, 0, a :: p, q, h, hd, e, nq => by simp only [PyData.depth] at hd; omega
  | .dict D, n + 1, a :: p, q, h, hd, e, nq => by
    simp only [sl, List.cons_append, List.cons.injEq] at e
    obtain ⟨rfl, e⟩ := e
    simp only [wf] at h
    rcases front h.1 e nq with c | ⟨y, h1, h2, c, dr⟩
    · simp [rp, c]; omega
    · have m := mnyK_cut D n [] y q h.2 (by simp only [PyData.depth] at hd; omega) h2 nq
      simp [rp, c, dr, m, Res.map, Res.up]
      rw [h1]; simp; omega
theorem mny_cut : ∀ (ds : List PyData) (n : Nat) (p q : List Nat), wfs ds → PyData.depthAll ds ≤ n → p ++ q = sls ds → q ≠ [] → mny (rp n) ds.length p = .bad p.length
  | [], n, p, q, _, _, e, nq => by simp only [sls, List.append_eq_nil_iff] at e; exact absurd e.2 nq
  | d :: ds, n, p, q, h, hd, e, nq => by
    simp only [wfs] at h
    simp only [PyData.depthAll] at hd
    simp only [sls] at e
    rcases List.append_eq_append_iff.mp e with ⟨a', h1, h2⟩ | ⟨c', h1, h2⟩
    · by_cases na : a' = []
      · subst na
        rw [List.append_nil] at h1
        have e1 := rp_ok d n [] h.1 (by omega)
        rw [List.append_nil, h1] at e1
        have e2 := mny_cut ds n [] q h.2 (by omega) h2 nq
        simp [mny, e1, e2, Res.map, Res.up]
      · have c := rp_cut d n p a' h.1 (by omega) h1.symm na
        simp [mny, c]
    · have e1 := rp_ok d n c' h.1 (by omega)
      have e2 := mny_cut ds n c' q h.2 (by omega) h2.symm nq
      simp [mny, h1, e1, e2, Res.map, Res.up]
theorem mnyK_cut : ∀ (D : List (PyData × PyData)) (n : Nat) (seen : List (List Nat)) (p q : List Nat), wfK seen D → PyData.depthKv D ≤ n → p ++ q = slK D → q ≠ [] → mnyK (rp n) D.length seen p = .bad p.length
  | [], n, seen, p, q, _, _, e, nq => by simp only [slK, List.append_eq_nil_iff] at e; exact absurd e.2 nq
  | (k, d) :: D, n, seen, [], q, h, hd, e, nq => by simp [mnyK]
  | (k, d) :: D, n, seen, a :: p, q, h, hd, e, nq => by
    simp only [wfK] at h
    simp only [PyData.depthKv] at hd
    obtain ⟨⟨x, rfl, hx, ns, hk⟩, hw⟩ := h
    simp only [slK, sl, List.cons_append, List.cons.injEq] at e
    obtain ⟨rfl, e⟩ := e
    have hx' : x.cps.toList.length ≤ 10000 := by rw [str_len]; exact hx
    rcases List.append_eq_append_iff.mp e with ⟨a', h1, h2⟩ | ⟨c', h1, h2⟩
    · by_cases na : a' = []
      · subst na
        rw [List.append_nil] at h1
        have e0 := rs_ok hx' []
        rw [List.append_nil, h1] at e0
        have c := rp_cut d n [] (sl d) hw (by omega) rfl (by cases d <;> simp [sl])
        simp [mnyK, e0, ns, c]
        omega
      · have c := rs_cut hx' h1.symm na
        simp [mnyK, c]; omega
    · have e0 := rs_ok hx' c'
      have d1 : (strL x.cps.toList ++ c').drop (strL x.cps.toList).length = c' := List.drop_left
      rcases List.append_eq_append_iff.mp h2.symm with ⟨a2, g1, g2⟩ | ⟨c2, g1, g2⟩
      · by_cases na : a2 = []
        · subst na
          rw [List.append_nil] at g1
          have e1 := rp_ok d n [] hw (by omega)
          rw [List.append_nil, g1] at e1
          have e2 := mnyK_cut D n (seen ++ [x.cps.toList]) [] q hk (by omega) g2 nq
          have d2 : (strL x.cps.toList ++ c').drop ((strL x.cps.toList).length + c'.length) = [] := by simp
          simp [mnyK, h1, e0, ns, d1, e1, d2, e2, Res.map, Res.up]
          omega
        · have c := rp_cut d n c' a2 hw (by omega) g1.symm na
          simp [mnyK, h1, e0, ns, d1, c]
          omega
      · have e1 := rp_ok d n c2 hw (by omega)
        have e2 := mnyK_cut D n (seen ++ [x.cps.toList]) c2 q hk (by omega) g2.symm nq
        subst g1
        have d2 : (strL x.cps.toList ++ (sl d ++ c2)).drop ((strL x.cps.toList).length + (sl d).length) = c2 := by rw [← List.drop_drop, d1, List.drop_left]
        simp [mnyK, h1, e0, ns, d1, e1, d2, e2, Res.map, Res.up]
        omega
end


theorem vo_ok {d : PyData} (h : wf d) (hd : d.depth ≤ 20) : vo (sl d) = .ok d (sl d).length := by
  unfold vo
  have e := rp_ok d 20 [] h hd
  rw [List.append_nil] at e
  rw [e]
  simp
theorem vo_cut {d : PyData} (h : wf d) (hd : d.depth ≤ 20) {p q : List Nat} (e : p ++ q = sl d) (nq : q ≠ []) : vo p = .bad p.length := by
  unfold vo
  rw [rp_cut d 20 p q h hd e nq]
theorem vo_more {d : PyData} (h : wf d) (hd : d.depth ≤ 20) {q : List Nat} (nq : q ≠ []) : vo (sl d ++ q) = .bad (sl d).length := by
  unfold vo
  rw [rp_ok d 20 q h hd]
  have : 0 < q.length := List.length_pos_iff.mpr nq
  simp
  omega
/-- no text begins another one -/
theorem sl_front {d e : PyData} (h : wf d) (hd : d.depth ≤ 20) (h' : wf e) (hd' : e.depth ≤ 20) {q : List Nat} (eq : sl d ++ q = sl e) : q = [] ∧ d = e := by
  by_cases nq : q = []
  · subst nq
    rw [List.append_nil] at eq
    have a := vo_ok h hd
    have b := vo_ok h' hd'
    rw [eq, b] at a
    injection a with a1 a2
    exact ⟨rfl, a1.symm⟩
  · have a := vo_ok h hd
    rw [vo_cut h' hd' eq nq] at a
    cases a
theorem int_sign_text (i : Int) : (Str.ofString (toString i)).cps.toList = if i < 0 then 45 :: numL i.natAbs else numL i.natAbs := by
  cases i with
  | ofNat m =>
    have := TL.tl_num m
    rw [if_neg (by simp)]
    exact this
  | negSucc m =>
    rw [if_pos (Int.negSucc_lt_zero m)]
    have e : toString (Int.negSucc m) = "-" ++ toString (m + 1) := rfl
    have e2 := TL.tl_num (m + 1)
    have e3 : toString (((m + 1 : Nat)) : Int) = toString (m + 1) := rfl
    rw [e, ofS_tl, String.toList_append, List.map_append, ← ofS_tl, ← ofS_tl, ← e3]
    show [45] ++ _ = 45 :: numL (m + 1)
    rw [← e2]; rfl
theorem tl_app (x y : Str) : (x ++ y).cps.toList = x.cps.toList ++ y.cps.toList := by rw [Str.cps_append, Array.toList_append]
theorem tl_nm (n : Nat) : (num n).cps.toList = numL n := TL.tl_num n
theorem tl_c (s : String) (l : List Nat) (h : (Str.ofString s).cps.toList = l := by decide +kernel) : (Str.ofString s).cps.toList = l := h
mutual
theorem spell_sl : ∀ d : PyData, (∀ k : PyData, True) → (spell d).cps.toList = sl d
  | .none, _ => by simp only [spell, sl]; decide +kernel
  | .bool b, _ => by cases b <;> (simp only [spell, sl]; decide +kernel)
  | .int i, _ => by
    simp only [spell, sl, tl_app, int_sign_text, intL, tl_c "i" [105], tl_c ";" [59]]
    rfl
  | .str x, _ => by
    simp only [spell, sl, tl_app, tl_nm, strL, str_len, tl_c "s" [115], tl_c ":" [58]]
    simp
  | .list ds, _ => by
    simp only [spell, sl, tl_app, tl_nm, tl_c "l" [108], tl_c ":" [58], spells_sl ds]
    simp
  | .tuple ds, _ => by
    simp only [spell, sl, tl_app, tl_nm, tl_c "u" [117], tl_c ":" [58], spells_sl ds]
    simp
  | .dict D, _ => by
    simp only [spell, sl, tl_app, tl_nm, tl_c "d" [100], tl_c ":" [58], spellKv_sl D]
    simp
theorem spells_sl : ∀ ds : List PyData, (spells ds).cps.toList = sls ds
  | [] => by simp only [spells, sls]; decide +kernel
  | d :: ds => by simp only [spells, sls, tl_app, spell_sl d (fun _ => trivial), spells_sl ds]
theorem spellKv_sl : ∀ D : List (PyData × PyData), (spellKv D).cps.toList = slK D
  | [] => by simp only [spellKv, slK]; decide +kernel
  | (k, d) :: D => by simp only [spellKv, slK, tl_app, spell_sl k (fun _ => trivial), spell_sl d (fun _ => trivial), spellKv_sl D, List.append_assoc]
end


theorem str_cps {x y : Str} (h : x.cps.toList = y.cps.toList) : x = y := by rw [← str_S x, ← str_S y, h]
mutual
theorem Tr.wf {H : Hp} : ∀ {v : V} {d : PyData} {fp : List Addr}, Tr H v d fp → okB d = true → K05.wf d
  | _, _, _, .non, _ => by simp only [K05.wf]
  | _, _, _, .bl _, _ => by simp only [K05.wf]
  | _, _, _, .int i, ok => by
    simp only [okB, decide_eq_true_eq] at ok
    simp only [K05.wf]
    exact TL.numL_len (by decide) ok
  | _, _, _, .str x, ok => by simpa [okB, K05.wf] using ok
  | _, _, _, .lst _ hs _, ok => by
    simp only [okB, Bool.and_eq_true, decide_eq_true_eq] at ok
    simp only [K05.wf]
    exact ⟨ok.1, TrL.wf hs ok.2⟩
  | _, _, _, .tup _ hs, ok => by
    simp only [okB, Bool.and_eq_true, decide_eq_true_eq] at ok
    simp only [K05.wf]
    exact ⟨ok.1, TrL.wf hs ok.2⟩
  | _, _, _, .dct _ hs _ nd, ok => by
    simp only [okB, Bool.and_eq_true, decide_eq_true_eq] at ok
    simp only [K05.wf]
    exact ⟨ok.1, TrD.wf hs ok.2 [] nd (by simp)⟩
theorem TrL.wf {H : Hp} : ∀ {v : List V} {d : List PyData} {fp : List Addr}, TrL H v d fp → okAll d = true → wfs d
  | _, _, _, .nil, _ => by simp only [wfs]
  | _, _, _, .cons h hs, ok => by
    simp only [okAll, Bool.and_eq_true] at ok
    simp only [wfs]
    exact ⟨Tr.wf h ok.1, TrL.wf hs ok.2⟩
theorem TrD.wf {H : Hp} : ∀ {v : List (Key × V)} {d : List (PyData × PyData)} {fp : List Addr}, TrD H v d fp → okKv d = true → ∀ (seen : List (List Nat)), (v.map (·.1)).Nodup → (∀ z : Str, (.inr z : Key) ∈ v.map (·.1) → z.cps.toList ∉ seen) → wfK seen d
  | _, _, _, .nil, _, _, _, _ => by simp only [wfK]
  | _, _, _, .cons (x := x) h hs, ok, seen, nd, ns => by
    simp only [okKv, okB, Bool.and_eq_true, decide_eq_true_eq] at ok
    simp only [wfK]
    simp only [List.map_cons, List.nodup_cons] at nd
    refine ⟨⟨x, rfl, ok.1.1, ns x (by simp), TrD.wf hs ok.2 _ nd.2 fun z hz => ?_⟩, Tr.wf h ok.1.2⟩
    intro m
    rcases List.mem_append.mp m with m | m
    · exact ns z (List.mem_cons_of_mem _ hz) m
    · have e := str_cps (List.mem_singleton.mp m)
      rw [e] at hz
      exact nd.1 hz
end


/-! the law's own scanner, in plain words: it finds the same first wrong sign -/
structure Fr where
  k : Nat
  m : Nat
  seen : List (List Nat)
def wantsK : List Fr → Bool
  | f :: _ => decide (f.k = 100) && decide (f.m % 2 = 0)
  | [] => false
def dec : List Fr → List Fr
  | f :: F => { f with m := f.m - 1 } :: F
  | [] => []
def pops : List Fr → List Fr
  | f :: F => if f.m = 0 then pops F else f :: F
  | [] => []
/-- may this sign begin what is wanted? -/
def okSign (F : List Fr) (c : Nat) : Bool := if wantsK F = true then decide (c = 115) else decide (c = 110 ∨ c = 116 ∨ c = 102 ∨ c = 105 ∨ c = 115) || (decide (F.length ≠ 20) && decide (c = 108 ∨ c = 117 ∨ c = 100))
def item (r : List Nat) (F : List Fr) : Res (List Fr) := match r with
  | [] => .bad 0
  | c :: r1 => if okSign F c = false then .bad 0
    else if c = 110 ∨ c = 116 ∨ c = 102 then .ok (dec F) 1
    else if c = 105 then ((ig r1).map fun _ => dec F).up 1
    else if c = 115 then match rs r1 with
      | .bad k => .bad (1 + k)
      | .ok key k => match F with
        | f :: G => if wantsK (f :: G) = true then (if key ∈ f.seen then .bad k else .ok ({ f with m := f.m - 1, seen := f.seen ++ [key] } :: G) (1 + k)) else .ok (dec (f :: G)) (1 + k)
        | [] => .ok [] (1 + k)
    else match ct 0 0 r1 with
      | .bad k => .bad (1 + k)
      | .ok m k => .ok (⟨c, if c = 100 then m * 2 else m, []⟩ :: dec F) (1 + k)
/-- the first wrong sign; e: a whole value stands before -/
def scanF : Nat → List Nat → Nat → List Fr → Bool → Option Nat
  | 0, _, _, _, _ => none
  | n + 1, r, o, F, e => if e = true ∧ F = [] then (if r = [] then none else some o) else match item r F with
    | .bad k => some (o + k)
    | .ok F' k => scanF n (r.drop k) (o + k) (pops F') (e || decide (pops F' = []))
/-- from here one value is read -/
def Goes (r : List Nat) (o : Nat) (F F2 : List Fr) {α : Type} (x : Res α) (fuel : Nat) : Prop := match x with
  | .bad k => scanF fuel r o F false = some (o + k)
  | .ok _ k => k ≤ r.length ∧ ∃ f2, (r.drop k).length + 1 ≤ f2 ∧ scanF fuel r o F false = scanF f2 (r.drop k) (o + k) F2 (decide (F2 = []))
theorem Goes.map {r : List Nat} {o : Nat} {F F2 : List Fr} {α β : Type} {x : Res α} {f : α → β} {fuel : Nat} (h : Goes r o F F2 x fuel) : Goes r o F F2 (x.map f) fuel := by cases x <;> exact h
theorem Goes.to {r : List Nat} {o : Nat} {F F2 : List Fr} {α β : Type} {x : Res α} {y : Res β} {fuel : Nat} (h : Goes r o F F2 x fuel) (e : (∀ k, x = .bad k → y = .bad k) ∧ ∀ a k, x = .ok a k → ∃ b, y = .ok b k) : Goes r o F F2 y fuel := by
  cases x with
  | bad k => rw [e.1 k rfl]; exact h
  | ok a k => obtain ⟨b, eb⟩ := e.2 a k rfl; rw [eb]; exact h
theorem dg_pos : ∀ {r : List Nat} {z : Bool} {n v m k : Nat}, dg z n v r = .ok m k → n < k
  | [], z, n, v, m, k, h => by simp [dg] at h
  | c :: r, z, n, v, m, k, h => by
    simp only [dg] at h
    split at h
    · cases h; omega
    · split at h
      · have := dg_pos h; omega
      · cases h
/-- one step of the scanner that reads what it wants -/
theorem step1 {r : List Nat} {o fuel : Nat} {F F2 : List Fr} {k : Nat} (h : item r F = .ok F2 k) (k1 : 1 ≤ k) (kl : k ≤ r.length) (fl : r.length + 1 ≤ fuel) :
    ∃ f2, (r.drop k).length + 1 ≤ f2 ∧ scanF fuel r o F false = scanF f2 (r.drop k) (o + k) (pops F2) (decide (pops F2 = [])) := by
  obtain ⟨m, rfl⟩ : ∃ m, fuel = m + 1 := ⟨fuel - 1, by omega⟩
  refine ⟨m, by rw [List.length_drop]; omega, ?_⟩
  conv => lhs; unfold scanF
  rw [if_neg (by simp), h]
  simp
theorem step0 {r : List Nat} {o fuel : Nat} {F : List Fr} {k : Nat} (h : item r F = .bad k) (fl : r.length + 1 ≤ fuel) : scanF fuel r o F false = some (o + k) := by
  obtain ⟨m, rfl⟩ : ∃ m, fuel = m + 1 := ⟨fuel - 1, by omega⟩
  unfold scanF
  rw [if_neg (by simp), h]
theorem Goes.step {r : List Nat} {o fuel : Nat} {F F1 F2 : List Fr} {α : Type} {k : Nat} {x : Res α} (h : item r F = .ok F1 k) (k1 : 1 ≤ k) (kl : k ≤ r.length) (fl : r.length + 1 ≤ fuel) (ne : pops F1 ≠ [])
    (g : ∀ f2, (r.drop k).length + 1 ≤ f2 → Goes (r.drop k) (o + k) (pops F1) F2 x f2) : Goes r o F F2 (x.up k) fuel := by
  obtain ⟨f2, l2, e2⟩ := step1 (o := o) h k1 kl fl
  rw [decide_eq_false ne] at e2
  have g := g f2 l2
  cases x with
  | bad j =>
    show scanF fuel r o F false = some (o + (k + j))
    rw [e2, show o + (k + j) = o + k + j from by omega]
    exact g
  | ok a j =>
    obtain ⟨jl, f3, l3, e3⟩ := g
    refine ⟨by rw [List.length_drop] at jl; omega, f3, ?_, ?_⟩
    · rw [List.drop_drop] at l3; exact l3
    · rw [e2, e3, List.drop_drop, Nat.add_assoc]
theorem Goes.trans {r : List Nat} {o fuel : Nat} {F F1 F2 : List Fr} {α β : Type} {k : Nat} {a : α} {x : Res β} (h : Goes r o F F1 (Res.ok a k) fuel) (ne : F1 ≠ []) (g : ∀ f2, (r.drop k).length + 1 ≤ f2 → Goes (r.drop k) (o + k) F1 F2 x f2) : Goes r o F F2 (x.up k) fuel := by
  obtain ⟨kl, f2, l2, e2⟩ := h
  rw [decide_eq_false ne] at e2
  have g := g f2 l2
  cases x with
  | bad j =>
    show scanF fuel r o F false = some (o + (k + j))
    rw [e2, show o + (k + j) = o + k + j from by omega]
    exact g
  | ok a j =>
    obtain ⟨jl, f3, l3, e3⟩ := g
    refine ⟨by rw [List.length_drop] at jl; omega, f3, ?_, ?_⟩
    · rw [List.drop_drop] at l3; exact l3
    · rw [e2, e3, List.drop_drop, Nat.add_assoc]
def Big (n : Nat) : Prop := ∀ (F : List Fr) (r : List Nat) (o fuel : Nat), F.length + n = 20 → wantsK F = false → r.length + 1 ≤ fuel → Goes r o F (pops (dec F)) (rp n r) fuel
theorem many {n : Nat} (hb : Big n) {c : Nat} (hc : c ≠ 100) : ∀ (m : Nat) (G : List Fr) (r : List Nat) (o fuel : Nat), G.length + n + 1 = 20 → r.length + 1 ≤ fuel → Goes r o (⟨c, m + 1, []⟩ :: G) (pops G) (mny (rp n) (m + 1) r) fuel
  | m, G, r, o, fuel, gl, fl => by
    have h := hb (⟨c, m + 1, []⟩ :: G) r o fuel (by simp; omega) (by simp [wantsK, hc]) fl
    rw [mny]
    cases hx : rp n r with
    | bad k => rw [hx] at h; exact h
    | ok a k =>
      rw [hx] at h
      cases m with
      | zero =>
        have e : pops (dec (⟨c, 0 + 1, []⟩ :: G)) = pops G := by simp [dec, pops]
        rw [e] at h
        exact h
      | succ m =>
        have e : pops (dec (⟨c, m + 1 + 1, []⟩ :: G)) = ⟨c, m + 1, []⟩ :: G := by simp [dec, pops]
        rw [e] at h
        exact Goes.trans h (by simp) fun f2 l2 => (many hb hc m G (r.drop k) (o + k) f2 gl l2).map
theorem ct_pos : ∀ {r : List Nat} {n v m k : Nat}, ct n v r = .ok m k → n < k
  | [], n, v, m, k, h => by simp [ct] at h
  | c :: r, n, v, m, k, h => by
    simp only [ct] at h
    split at h
    · cases h; omega
    · split at h
      · have := ct_pos h; omega
      · cases h
theorem rs_k {r key : List Nat} {k : Nat} (h : rs r = .ok key k) : k ≤ r.length := by
  unfold rs at h
  cases hc : ct 0 0 r with
  | bad j => rw [hc] at h; cases h
  | ok m j =>
    rw [hc] at h
    have := (ct_len hc).1
    simp only at h
    split at h
    · rename_i l
      cases h
      rw [List.length_drop] at l
      omega
    · cases h
theorem manyK {n : Nat} (hb : Big n) : ∀ (m : Nat) (seen : List (List Nat)) (G : List Fr) (r : List Nat) (o fuel : Nat), G.length + n + 1 = 20 → r.length + 1 ≤ fuel → Goes r o (⟨100, (m + 1) * 2, seen⟩ :: G) (pops G) (mnyK (rp n) (m + 1) seen r) fuel
  | m, seen, G, [], o, fuel, gl, fl => step0 rfl fl
  | m, seen, G, c :: r, o, fuel, gl, fl => by
    have wk : wantsK (⟨100, (m + 1) * 2, seen⟩ :: G) = true := by simp [wantsK]
    rw [mnyK]
    by_cases hc : c = 115
    · rw [if_neg (by simpa using hc)]
      have ok : okSign (⟨100, (m + 1) * 2, seen⟩ :: G) c = true := by unfold okSign; rw [if_pos wk]; simpa using hc
      have it : item (c :: r) (⟨100, (m + 1) * 2, seen⟩ :: G) = (match rs r with
        | .bad k => .bad (1 + k)
        | .ok key k => if key ∈ seen then .bad k else .ok (⟨100, (m + 1) * 2 - 1, seen ++ [key]⟩ :: G) (1 + k)) := by
        show (if okSign _ c = false then _ else _) = _
        rw [if_neg (by rw [ok]; simp), if_neg (by omega), if_neg (by omega), if_pos hc]
        cases rs r with
        | bad k => rfl
        | ok key k => simp only [wk, if_true]
      cases hr : rs r with
      | bad k => rw [hr] at it; exact step0 it fl
      | ok key k =>
        rw [hr] at it
        have kl := rs_k hr
        simp only at it ⊢
        by_cases hk : key ∈ seen
        · rw [if_pos hk] at it ⊢
          exact step0 it fl
        · rw [if_neg hk] at it ⊢
          have e1 : pops (⟨100, (m + 1) * 2 - 1, seen ++ [key]⟩ :: G) = ⟨100, m * 2 + 1, seen ++ [key]⟩ :: G := by
            rw [show (m + 1) * 2 - 1 = m * 2 + 1 from by omega]; simp [pops]
          have d1 : (c :: r).drop (1 + k) = r.drop k := by rw [Nat.add_comm]; rfl
          have main : ∀ f2, ((c :: r).drop (1 + k)).length + 1 ≤ f2 → Goes ((c :: r).drop (1 + k)) (o + (1 + k)) (pops (⟨100, (m + 1) * 2 - 1, seen ++ [key]⟩ :: G)) (pops G) (match rp n (r.drop k) with
            | .bad j => .bad j
            | .ok d j => ((mnyK (rp n) m (seen ++ [key]) (r.drop (k + j))).map fun D => (PyData.str (SX.S key), d) :: D).up j) f2 := fun f2 l2 => by
            rw [e1]
            have h := hb (⟨100, m * 2 + 1, seen ++ [key]⟩ :: G) ((c :: r).drop (1 + k)) (o + (1 + k)) f2 (by simp; omega) (by simp [wantsK]) l2
            rw [d1] at h ⊢
            cases hx : rp n (r.drop k) with
            | bad j => rw [hx] at h; exact h
            | ok d j =>
              rw [hx] at h
              cases m with
              | zero =>
                have e : pops (dec (⟨100, 0 * 2 + 1, seen ++ [key]⟩ :: G)) = pops G := by simp [dec, pops]
                rw [e] at h
                exact h
              | succ m =>
                have e : pops (dec (⟨100, (m + 1) * 2 + 1, seen ++ [key]⟩ :: G)) = ⟨100, (m + 1) * 2, seen ++ [key]⟩ :: G := by simp [dec, pops]
                rw [e] at h
                have dd : r.drop (k + j) = (r.drop k).drop j := (List.drop_drop ..).symm
                show Goes _ _ _ _ (Res.up j (Res.map _ (mnyK _ _ _ (r.drop (k + j))))) f2
                rw [dd]
                exact Goes.trans h (by simp) fun f3 l3 => (manyK hb m (seen ++ [key]) G ((r.drop k).drop j) _ f3 gl l3).map
          have g := Goes.step (o := o) it (by omega) (by simp; omega) fl (by rw [e1]; simp) main
          refine g.to ⟨fun j e => ?_, fun a j e => ?_⟩
          · cases hx : rp n (r.drop k) with
            | bad i => rw [hx] at e; simpa [Res.up] using e
            | ok d i =>
              rw [hx] at e
              simp only at e ⊢
              cases hm : mnyK (rp n) m (seen ++ [key]) (r.drop (k + i)) with
              | bad z => rw [hm] at e; simp only [Res.map, Res.up] at e ⊢; cases e; congr 1; omega
              | ok z1 z2 => rw [hm] at e; simp only [Res.map, Res.up] at e; cases e
          · cases hx : rp n (r.drop k) with
            | bad i => rw [hx] at e; simp only [Res.up] at e; cases e
            | ok d i =>
              rw [hx] at e
              simp only at e ⊢
              cases hm : mnyK (rp n) m (seen ++ [key]) (r.drop (k + i)) with
              | bad z => rw [hm] at e; simp only [Res.map, Res.up] at e; cases e
              | ok z1 z2 =>
                rw [hm] at e; simp only [Res.map, Res.up] at e ⊢; cases e
                exact ⟨_, by congr 1; omega⟩
    · rw [if_pos (by simpa using hc)]
      refine step0 ?_ fl
      show (if okSign _ c = false then _ else _) = _
      rw [if_pos]
      unfold okSign
      rw [if_pos wk]
      simpa using hc
theorem ig_k {r : List Nat} {v : Int} {k : Nat} (h : ig r = .ok v k) : k ≤ r.length := by
  unfold ig at h
  split at h
  · rename_i r'
    split at h
    · cases h
    · cases hd : dg false 0 0 r' with
      | bad j => rw [hd] at h; cases h
      | ok a j =>
        rw [hd] at h
        have := dg_len hd
        simp only [Res.map, Res.up] at h
        cases h
        simp; omega
  · cases hd : dg false 0 0 r with
    | bad j => rw [hd] at h; cases h
    | ok a j =>
      rw [hd] at h
      have := dg_len hd
      simp only [Res.map] at h
      cases h
      omega
theorem Goes.leaf {r : List Nat} {o fuel : Nat} {F F1 : List Fr} {α : Type} {k : Nat} {a : α} (h : item r F = .ok F1 k) (k1 : 1 ≤ k) (kl : k ≤ r.length) (fl : r.length + 1 ≤ fuel) : Goes r o F (pops F1) (Res.ok a k) fuel := ⟨kl, step1 h k1 kl fl⟩
theorem item_leaf {F : List Fr} {c : Nat} {r : List Nat} (wk : wantsK F = false) (h : c = 110 ∨ c = 116 ∨ c = 102) : item (c :: r) F = .ok (dec F) 1 := by
  have ok : okSign F c = true := by
    unfold okSign
    rw [if_neg (by simp [wk])]
    rcases h with rfl | rfl | rfl <;> simp
  show (if okSign F c = false then _ else _) = _
  rw [if_neg (by rw [ok]; simp), if_pos h]
theorem item_int {F : List Fr} {r : List Nat} (wk : wantsK F = false) : item (105 :: r) F = ((ig r).map fun _ => dec F).up 1 := by
  have ok : okSign F 105 = true := by
    unfold okSign
    rw [if_neg (by simp [wk])]
    simp
  show (if okSign F 105 = false then _ else _) = _
  rw [if_neg (by rw [ok]; simp), if_neg (by decide), if_pos rfl]
theorem item_str {F : List Fr} {r : List Nat} (wk : wantsK F = false) : item (115 :: r) F = (match rs r with
    | .bad k => .bad (1 + k)
    | .ok _ k => .ok (dec F) (1 + k)) := by
  have ok : okSign F 115 = true := by
    unfold okSign
    rw [if_neg (by simp [wk])]
    simp
  show (if okSign F 115 = false then _ else _) = _
  rw [if_neg (by rw [ok]; simp), if_neg (by decide), if_neg (by decide), if_pos rfl]
  cases rs r with
  | bad k => rfl
  | ok key k =>
    cases F with
    | nil => rfl
    | cons f G => simp only [wk]; rfl
theorem item_box {F : List Fr} {c : Nat} {r : List Nat} (wk : wantsK F = false) (fl : F.length ≠ 20) (h : c = 108 ∨ c = 117 ∨ c = 100) : item (c :: r) F = (match ct 0 0 r with
    | .bad k => .bad (1 + k)
    | .ok m k => .ok (⟨c, if c = 100 then m * 2 else m, []⟩ :: dec F) (1 + k)) := by
  have ok : okSign F c = true := by
    unfold okSign
    rw [if_neg (by simp [wk])]
    rcases h with rfl | rfl | rfl <;> simp [fl]
  show (if okSign F c = false then _ else _) = _
  rw [if_neg (by rw [ok]; simp), if_neg (by omega), if_neg (by omega), if_neg (by omega)]
theorem item_no {F : List Fr} {c : Nat} {r : List Nat} (h : okSign F c = false) : item (c :: r) F = .bad 0 := if_pos h
theorem dec_len (F : List Fr) : (dec F).length = F.length := by cases F <;> rfl
theorem big : ∀ n, Big n := by
  intro n
  induction n with
  | zero =>
    intro F r o fuel fn wk fl
    cases r with
    | nil => exact step0 rfl fl
    | cons c r =>
      unfold rp
      split
      · rename_i h; exact Goes.leaf (item_leaf wk (.inl h)) (by omega) (by simp) fl
      split
      · rename_i h; exact Goes.leaf (item_leaf wk (.inr (.inl h))) (by omega) (by simp) fl
      split
      · rename_i h; exact Goes.leaf (item_leaf wk (.inr (.inr h))) (by omega) (by simp) fl
      split
      · rename_i h
        subst h
        have it := item_int (r := r) wk
        cases hi : ig r with
        | bad k => rw [hi] at it; exact step0 it fl
        | ok v k => rw [hi] at it; exact Goes.leaf it (by omega) (by have := ig_k hi; simp; omega) fl
      split
      · rename_i h
        subst h
        have it := item_str (r := r) wk
        cases hi : rs r with
        | bad k => rw [hi] at it; exact step0 it fl
        | ok v k => rw [hi] at it; exact Goes.leaf it (by omega) (by have := rs_k hi; simp; omega) fl
      · refine step0 (item_no ?_) fl
        unfold okSign
        rw [if_neg (by simp [wk])]
        have : F.length = 20 := by omega
        simp [*]
  | succ n ih =>
    intro F r o fuel fn wk fl
    cases r with
    | nil => exact step0 rfl fl
    | cons c r =>
      unfold rp
      split
      · rename_i h; exact Goes.leaf (item_leaf wk (.inl h)) (by omega) (by simp) fl
      split
      · rename_i h; exact Goes.leaf (item_leaf wk (.inr (.inl h))) (by omega) (by simp) fl
      split
      · rename_i h; exact Goes.leaf (item_leaf wk (.inr (.inr h))) (by omega) (by simp) fl
      split
      · rename_i h
        subst h
        have it := item_int (r := r) wk
        cases hi : ig r with
        | bad k => rw [hi] at it; exact step0 it fl
        | ok v k => rw [hi] at it; exact Goes.leaf it (by omega) (by have := ig_k hi; simp; omega) fl
      split
      · rename_i h
        subst h
        have it := item_str (r := r) wk
        cases hi : rs r with
        | bad k => rw [hi] at it; exact step0 it fl
        | ok v k => rw [hi] at it; exact Goes.leaf it (by omega) (by have := rs_k hi; simp; omega) fl
      simp only
      split
      · rename_i h
        have it := item_box (r := r) wk (by omega) h
        cases hc : ct 0 0 r with
        | bad k => rw [hc] at it; exact step0 it fl
        | ok m k =>
          rw [hc] at it
          simp only at it ⊢
          have kl := (ct_len hc).1
          have d1 : (c :: r).drop (1 + k) = r.drop k := by rw [Nat.add_comm]; rfl
          have k1 : 1 ≤ 1 + k := by omega
          have k2 : 1 + k ≤ (c :: r).length := by simp; omega
          cases m with
          | zero =>
            have e : pops (⟨c, if c = 100 then 0 * 2 else 0, []⟩ :: dec F) = pops (dec F) := by simp [pops]
            have g := Goes.leaf (o := o) (a := PyData.none) it k1 k2 fl
            rw [e] at g
            by_cases h1 : c = 100
            · rw [if_pos h1]
              exact g
            · rw [if_neg h1]
              exact g
          | succ m =>
            by_cases h1 : c = 100
            · subst h1
              rw [if_pos rfl] at it ⊢
              have e : pops (⟨100, (m + 1) * 2, []⟩ :: dec F) = ⟨100, (m + 1) * 2, []⟩ :: dec F := by simp [pops]
              refine Goes.step it k1 k2 fl (by rw [e]; simp) fun f2 l2 => ?_
              rw [e, d1]
              rw [d1] at l2
              exact (manyK ih m [] (dec F) (r.drop k) (o + (1 + k)) f2 (by rw [dec_len]; omega) l2).map
            · rw [if_neg h1] at it ⊢
              have e : pops (⟨c, m + 1, []⟩ :: dec F) = ⟨c, m + 1, []⟩ :: dec F := by simp [pops]
              refine Goes.step it k1 k2 fl (by rw [e]; simp) fun f2 l2 => ?_
              rw [e, d1]
              rw [d1] at l2
              exact (many ih h1 m (dec F) (r.drop k) (o + (1 + k)) f2 (by rw [dec_len]; omega) l2).map
      · refine step0 (item_no ?_) fl
        unfold okSign
        rw [if_neg (by simp [wk])]
        simp [*]
/-- the scanner and the reader find the same sign -/
def wr {α : Type} : Res α → Option Nat
  | .bad k => some k
  | .ok _ _ => none
theorem scan_rp (t : List Nat) : scanF (t.length + 1) t 0 [] false = match rp 20 t with
    | .bad k => some k
    | .ok _ k => if t.length ≤ k then none else some k := by
  have h := big 20 [] t 0 (t.length + 1) rfl rfl (Nat.le_refl _)
  cases hx : rp 20 t with
  | bad k => rw [hx] at h; simpa [Goes] using h
  | ok d k =>
    rw [hx] at h
    obtain ⟨kl, f2, l2, e2⟩ := h
    rw [e2]
    obtain ⟨m, rfl⟩ : ∃ m, f2 = m + 1 := ⟨f2 - 1, by omega⟩
    unfold scanF
    have e : pops (dec []) = [] := rfl
    rw [e, if_pos ⟨by simp, rfl⟩]
    by_cases l : t.length ≤ k
    · rw [if_pos (by rw [List.drop_eq_nil_iff]; exact l)]
      simp [l]
    · rw [if_neg (by rw [List.drop_eq_nil_iff]; exact l)]
      simp [l]


/-! what is read is what is written; what stands before the first wrong sign -/
theorem dig_of {c : Nat} (h : isDig c = true) : ∃ d, d < 10 ∧ c = 48 + d := by
  simp only [isDig, Bool.and_eq_true, decide_eq_true_eq] at h
  exact ⟨c - 48, by omega, by omega⟩
theorem num_more {v d : Nat} (hv : v ≠ 0) (hd : d < 10) : numL (10 * v + d) = numL v ++ [48 + d] := by
  rw [numL_step (by omega), show (10 * v + d) / 10 = v from by omega, show (10 * v + d) % 10 = d from by omega]
def pre (n v : Nat) : List Nat := if n = 0 then [] else numL v
theorem ct_inv : ∀ (r : List Nat) (n v m k : Nat), ct n v r = .ok m k → (n = 0 → v = 0) → (n ≠ 0 → n = (numL v).length) → v ≤ 10000 → n < k ∧ m ≤ 10000 ∧ ∃ q, r.take (k - n) = q ++ [58] ∧ pre n v ++ q = numL m
  | [], n, v, m, k, h, _, _, _ => by simp [ct] at h
  | c :: r, n, v, m, k, h, h0, h1, hv => by
    simp only [ct] at h
    split at h
    · rename_i hc
      cases h
      refine ⟨by omega, hv, [], ?_, ?_⟩
      · rw [show n + 1 - n = 1 from by omega, hc.1]; rfl
      · simp [pre, hc.2]
    · split at h
      · rename_i _ hd
        obtain ⟨d, d10, rfl⟩ := dig_of hd.1
        have e : 10 * v + (48 + d - 48) = 10 * v + d := by omega
        rw [e] at h hd
        have en : numL (10 * v + d) = pre n v ++ [48 + d] := by
          unfold pre
          by_cases n0 : n = 0
          · rw [if_pos n0, h0 n0, show 10 * 0 + d = d from by omega, numL_lt d10]; rfl
          · rw [if_neg n0]
            exact num_more (hd.2.1.resolve_left n0) d10
        have ln : n + 1 = (numL (10 * v + d)).length := by
          rw [en]
          unfold pre
          by_cases n0 : n = 0
          · rw [if_pos n0, n0]; rfl
          · rw [if_neg n0, List.length_append, ← h1 n0]; rfl
        obtain ⟨kn, m1, q, q1, q2⟩ := ct_inv r (n + 1) (10 * v + d) m k h (fun z => by omega) (fun _ => ln) hd.2.2
        refine ⟨by omega, m1, (48 + d) :: q, ?_, ?_⟩
        · rw [show k - n = (k - (n + 1)) + 1 from by omega, List.take_succ_cons, q1]; rfl
        · rw [← q2]
          unfold pre at en ⊢
          rw [if_neg (show n + 1 ≠ 0 from by omega), en]
          simp
      · cases h
theorem ct_text {r : List Nat} {m k : Nat} (h : ct 0 0 r = .ok m k) : r.take k = numL m ++ [58] ∧ m ≤ 10000 := by
  obtain ⟨_, m1, q, q1, q2⟩ := ct_inv r 0 0 m k h (fun _ => rfl) (fun z => absurd rfl z) (by decide)
  rw [← q2]
  exact ⟨q1, m1⟩
theorem dg_inv : ∀ (r : List Nat) (z : Bool) (n v m k : Nat), dg z n v r = .ok m k → (n = 0 → v = 0) → (n ≠ 0 → n = (numL v).length ∧ z = decide (v = 0)) → n ≤ 100 → n < k ∧ (numL m).length ≤ 100 ∧ ∃ q, r.take (k - n) = q ++ [59] ∧ pre n v ++ q = numL m
  | [], z, n, v, m, k, h, _, _, _ => by simp [dg] at h
  | c :: r, z, n, v, m, k, h, h0, h1, hn => by
    simp only [dg] at h
    split at h
    · rename_i hc
      cases h
      refine ⟨by omega, by rw [← (h1 hc.2).1]; exact hn, [], ?_, ?_⟩
      · rw [show n + 1 - n = 1 from by omega, hc.1]; rfl
      · simp [pre, hc.2]
    · split at h
      · rename_i _ hd
        obtain ⟨d, d10, rfl⟩ := dig_of hd.1
        have e : 10 * v + (48 + d - 48) = 10 * v + d := by omega
        rw [e] at h
        have vz : n ≠ 0 → v ≠ 0 := fun n0 => by
          have h2 := (hd.2.resolve_left n0).2
          rw [(h1 n0).2] at h2
          simpa using h2
        have en : numL (10 * v + d) = pre n v ++ [48 + d] := by
          unfold pre
          by_cases n0 : n = 0
          · rw [if_pos n0, h0 n0, show 10 * 0 + d = d from by omega, numL_lt d10]; rfl
          · rw [if_neg n0]
            exact num_more (vz n0) d10
        have ln : n + 1 = (numL (10 * v + d)).length := by
          rw [en]
          unfold pre
          by_cases n0 : n = 0
          · rw [if_pos n0, n0]; rfl
          · rw [if_neg n0, List.length_append, ← (h1 n0).1]; rfl
        have zz : (if n = 0 then decide (48 + d = 48) else z) = decide (10 * v + d = 0) := by
          by_cases n0 : n = 0
          · rw [if_pos n0, h0 n0]
            rw [decide_eq_decide]; omega
          · rw [if_neg n0, (h1 n0).2, decide_eq_decide]
            have := vz n0
            omega
        have n100 : n + 1 ≤ 100 := by rcases hd.2 with z | z <;> omega
        obtain ⟨kn, m1, q, q1, q2⟩ := dg_inv r _ (n + 1) (10 * v + d) m k h (fun z => by omega) (fun _ => ⟨ln, zz⟩) n100
        refine ⟨by omega, m1, (48 + d) :: q, ?_, ?_⟩
        · rw [show k - n = (k - (n + 1)) + 1 from by omega, List.take_succ_cons, q1]; rfl
        · rw [← q2]
          unfold pre at en ⊢
          rw [if_neg (show n + 1 ≠ 0 from by omega), en]
          simp
      · cases h
theorem dg_text {r : List Nat} {m k : Nat} (h : dg false 0 0 r = .ok m k) : r.take k = numL m ++ [59] ∧ (numL m).length ≤ 100 := by
  obtain ⟨_, m1, q, q1, q2⟩ := dg_inv r false 0 0 m k h (fun _ => rfl) (fun z => absurd rfl z) (by decide)
  rw [← q2]
  exact ⟨q1, by rw [q2]; exact m1⟩
theorem ct_bad : ∀ (r : List Nat) (n v k : Nat), ct n v r = .bad k → n ≤ k ∧ k - n ≤ r.length ∧ ct n v (r.take (k - n)) = .bad k
  | [], n, v, k, h => by simp only [ct] at h; cases h; simp [ct]
  | c :: r, n, v, k, h => by
    simp only [ct] at h
    split at h
    · cases h
    · rename_i hc
      split at h
      · rename_i hd
        obtain ⟨h1, h2, h3⟩ := ct_bad r _ _ _ h
        refine ⟨by omega, by simp; omega, ?_⟩
        rw [show k - n = (k - (n + 1)) + 1 from by omega, List.take_succ_cons]
        simp only [ct]
        rw [if_neg hc, if_pos hd]
        exact h3
      · cases h
        simp [ct]
theorem dg_bad : ∀ (r : List Nat) (z : Bool) (n v k : Nat), dg z n v r = .bad k → n ≤ k ∧ k - n ≤ r.length ∧ dg z n v (r.take (k - n)) = .bad k
  | [], z, n, v, k, h => by simp only [dg] at h; cases h; simp [dg]
  | c :: r, z, n, v, k, h => by
    simp only [dg] at h
    split at h
    · cases h
    · rename_i hc
      split at h
      · rename_i hd
        obtain ⟨h1, h2, h3⟩ := dg_bad r _ _ _ _ h
        refine ⟨by omega, by simp; omega, ?_⟩
        rw [show k - n = (k - (n + 1)) + 1 from by omega, List.take_succ_cons]
        simp only [dg]
        rw [if_neg hc, if_pos hd]
        exact h3
      · cases h
        simp [dg]
theorem ig_text {r : List Nat} {i : Int} {k : Nat} (h : ig r = .ok i k) : r.take k = intL i ∧ (numL i.natAbs).length ≤ 100 := by
  unfold ig at h
  split at h
  · rename_i r'
    split at h
    · cases h
    · rename_i n48
      cases hd : dg false 0 0 r' with
      | bad j => rw [hd] at h; cases h
      | ok a j =>
        rw [hd] at h
        simp only [Res.map, Res.up] at h
        cases h
        obtain ⟨t, l⟩ := dg_text hd
        have a0 : a ≠ 0 := fun z => by
          rw [z, numL_lt (by decide)] at t
          cases r' with
          | nil => simp at t
          | cons c r' =>
            cases j with
            | zero => simp at t
            | succ j =>
              rw [List.take_succ_cons] at t
              simp only [List.cons_append, List.cons.injEq] at t
              exact n48 r' (by rw [t.1])
        have na : (0 - (a : Int)).natAbs = a := by omega
        refine ⟨?_, by rw [na]; exact l⟩
        unfold intL
        rw [if_pos (by omega), na, Nat.add_comm, List.take_succ_cons, t]
        rfl
  · cases hd : dg false 0 0 r with
    | bad j => rw [hd] at h; cases h
    | ok a j =>
      rw [hd] at h
      simp only [Res.map] at h
      cases h
      obtain ⟨t, l⟩ := dg_text hd
      have na : ((a : Nat) : Int).natAbs = a := by omega
      refine ⟨?_, by rw [na]; exact l⟩
      unfold intL
      rw [if_neg (by omega), na, t]
theorem ig_bad {r : List Nat} {k : Nat} (h : ig r = .bad k) : k ≤ r.length ∧ ig (r.take k) = .bad k := by
  unfold ig at h
  split at h
  · rename_i r'
    split at h
    · cases h
      refine ⟨by simp, ?_⟩
      simp [ig, dg, Res.map, Res.up]
    · rename_i n48
      cases hd : dg false 0 0 r' with
      | ok a j => rw [hd] at h; cases h
      | bad j =>
        rw [hd] at h
        simp only [Res.map, Res.up] at h
        cases h
        obtain ⟨_, l, t⟩ := dg_bad _ _ _ _ _ hd
        rw [Nat.sub_zero] at l t
        refine ⟨by simp; omega, ?_⟩
        rw [Nat.add_comm, List.take_succ_cons]
        unfold ig
        simp only
        split
        · rename_i r2 e
          cases r' with
          | nil => simp at e
          | cons c r' =>
            cases j with
            | zero => simp at e
            | succ j =>
              rw [List.take_succ_cons] at e
              simp only [List.cons.injEq] at e
              exact (n48 r' (by rw [e.1])).elim
        · rw [t]
          simp only [Res.map, Res.up]
          congr 1; omega
  · rename_i n45
    cases hd : dg false 0 0 r with
    | ok a j => rw [hd] at h; cases h
    | bad j =>
      rw [hd] at h
      simp only [Res.map] at h
      cases h
      obtain ⟨_, l, t⟩ := dg_bad _ _ _ _ _ hd
      rw [Nat.sub_zero] at l t
      refine ⟨l, ?_⟩
      unfold ig
      split
      · rename_i r2 e
        cases r with
        | nil => simp at e
        | cons c r =>
          cases k with
          | zero => simp at e
          | succ k =>
            rw [List.take_succ_cons] at e
            simp only [List.cons.injEq] at e
            exact (n45 r (by rw [e.1])).elim
      · rw [t]; rfl
theorem rs_text {r key : List Nat} {k : Nat} (h : rs r = .ok key k) : r.take k = strL key ∧ key.length ≤ 10000 := by
  unfold rs at h
  cases hc : ct 0 0 r with
  | bad j => rw [hc] at h; cases h
  | ok m j =>
    rw [hc] at h
    simp only at h
    obtain ⟨t, m1⟩ := ct_text hc
    split at h
    · rename_i l
      cases h
      have e : ((r.drop j).take m).length = m := by rw [List.length_take]; omega
      refine ⟨?_, by rw [e]; exact m1⟩
      unfold strL
      rw [e, List.take_add, t]
      simp
    · cases h
theorem rs_bad {r : List Nat} {k : Nat} (h : rs r = .bad k) : k ≤ r.length ∧ rs (r.take k) = .bad k := by
  unfold rs at h
  cases hc : ct 0 0 r with
  | bad j =>
    rw [hc] at h
    cases h
    obtain ⟨_, l, t⟩ := ct_bad _ _ _ _ hc
    rw [Nat.sub_zero] at l t
    refine ⟨l, ?_⟩
    unfold rs
    rw [t]
  | ok m j =>
    rw [hc] at h
    simp only at h
    split at h
    · cases h
    · rename_i l
      cases h
      refine ⟨Nat.le_refl _, ?_⟩
      rw [List.take_length]
      unfold rs
      rw [hc]
      simp only
      rw [if_neg l]


/-! the reader: what is read is what is written; the signs before the first wrong one -/
theorem mapup_ok {α β : Type} {x : Res α} {g : α → β} {j k : Nat} {b : β} (h : (x.map g).up j = .ok b k) : ∃ a k', x = .ok a k' ∧ b = g a ∧ k = j + k' := by
  cases x with
  | bad i => simp only [Res.map, Res.up] at h; cases h
  | ok a i => simp only [Res.map, Res.up] at h; cases h; exact ⟨a, i, rfl, rfl, rfl⟩
theorem mapup_bad {α β : Type} {x : Res α} {g : α → β} {j k : Nat} (h : (x.map g).up j = .bad k) : ∃ k', x = .bad k' ∧ k = j + k' := by
  cases x with
  | bad i => simp only [Res.map, Res.up] at h; cases h; exact ⟨i, rfl, rfl⟩
  | ok a i => simp only [Res.map, Res.up] at h; cases h
/-- what rp reads is the text of a value -/
def Txts (n : Nat) : Prop := ∀ (r : List Nat) (d : PyData) (k : Nat), rp n r = .ok d k → wf d ∧ d.depth ≤ n ∧ r.take k = sl d
theorem mny_text {n : Nat} (hf : Txts n) : ∀ (m : Nat) (r : List Nat) (ds : List PyData) (k : Nat), mny (rp n) m r = .ok ds k → ds.length = m ∧ wfs ds ∧ PyData.depthAll ds ≤ n ∧ r.take k = sls ds
  | 0, r, ds, k, h => by simp only [mny] at h; cases h; simp [wfs, PyData.depthAll, sls]
  | m + 1, r, ds, k, h => by
    simp only [mny] at h
    cases hx : rp n r with
    | bad j => rw [hx] at h; cases h
    | ok a j =>
      rw [hx] at h
      obtain ⟨as, k', e1, rfl, rfl⟩ := mapup_ok h
      obtain ⟨l, w, dd, t⟩ := mny_text hf m _ _ _ e1
      obtain ⟨w1, d1, t1⟩ := hf _ _ _ hx
      refine ⟨by simp [l], by simp only [wfs]; exact ⟨w1, w⟩, by simp only [PyData.depthAll]; omega, ?_⟩
      rw [List.take_add, t1, t]; rfl
theorem mnyK_text {n : Nat} (hf : Txts n) : ∀ (m : Nat) (seen : List (List Nat)) (r : List Nat) (D : List (PyData × PyData)) (k : Nat), mnyK (rp n) m seen r = .ok D k → D.length = m ∧ wfK seen D ∧ PyData.depthKv D ≤ n ∧ r.take k = slK D
  | 0, seen, r, D, k, h => by simp only [mnyK] at h; cases h; simp [wfK, PyData.depthKv, slK]
  | m + 1, seen, [], D, k, h => by simp only [mnyK] at h; cases h
  | m + 1, seen, c :: r, D, k, h => by
    simp only [mnyK] at h
    split at h
    · cases h
    rename_i hc
    have hc : c = 115 := by simpa using hc
    subst hc
    cases hr : rs r with
    | bad j => rw [hr] at h; cases h
    | ok key j =>
      rw [hr] at h
      simp only at h
      split at h
      · cases h
      rename_i ns
      cases hx : rp n (r.drop j) with
      | bad i => rw [hx] at h; cases h
      | ok d i =>
        rw [hx] at h
        obtain ⟨D', k', e1, rfl, rfl⟩ := mapup_ok h
        obtain ⟨l, w, dd, t⟩ := mnyK_text hf m _ _ _ _ e1
        obtain ⟨w1, d1, t1⟩ := hf _ _ _ hx
        obtain ⟨t2, l2⟩ := rs_text hr
        have kk : (SX.S key).cps.toList = key := by simp [SX.S]
        refine ⟨by simp [l], ?_, ?_, ?_⟩
        · simp only [wfK]
          exact ⟨⟨SX.S key, rfl, by rw [← str_len, kk]; exact l2, by rw [kk]; exact ns, by rw [kk]; exact w⟩, w1⟩
        · simp only [PyData.depthKv, PyData.depth]; omega
        · rw [show 1 + j + i + k' = (j + (i + k')) + 1 from by omega, List.take_succ_cons, List.take_add, List.take_add, t2, t1, ← List.drop_drop] at *
          rw [t]
          simp [slK, sl, kk]
theorem rp_text : ∀ n, Txts n := by
  intro n
  induction n with
  | zero =>
    intro r d k h
    cases r with
    | nil => simp only [rp] at h; cases h
    | cons c r =>
      unfold rp at h
      split at h
      · rename_i e; subst e; cases h; simp [wf, PyData.depth, sl]
      split at h
      · rename_i e; subst e; cases h; simp [wf, PyData.depth, sl]
      split at h
      · rename_i e; subst e; cases h; simp [wf, PyData.depth, sl]
      split at h
      · rename_i e; subst e
        obtain ⟨i, k', e1, rfl, rfl⟩ := mapup_ok h
        obtain ⟨t, l⟩ := ig_text e1
        refine ⟨by simpa [wf] using l, by simp [PyData.depth], ?_⟩
        rw [Nat.add_comm, List.take_succ_cons, t]; simp [sl]
      split at h
      · rename_i e; subst e
        obtain ⟨x, k', e1, rfl, rfl⟩ := mapup_ok h
        obtain ⟨t, l⟩ := rs_text e1
        have kk : (SX.S x).cps.toList = x := by simp [SX.S]
        refine ⟨by simp only [wf]; rw [← str_len, kk]; exact l, by simp [PyData.depth], ?_⟩
        rw [Nat.add_comm, List.take_succ_cons, t]; simp [sl, kk]
      · cases h
  | succ n ih =>
    intro r d k h
    cases r with
    | nil => simp only [rp] at h; cases h
    | cons c r =>
      unfold rp at h
      split at h
      · rename_i e; subst e; cases h; simp [wf, PyData.depth, sl]
      split at h
      · rename_i e; subst e; cases h; simp [wf, PyData.depth, sl]
      split at h
      · rename_i e; subst e; cases h; simp [wf, PyData.depth, sl]
      split at h
      · rename_i e; subst e
        obtain ⟨i, k', e1, rfl, rfl⟩ := mapup_ok h
        obtain ⟨t, l⟩ := ig_text e1
        refine ⟨by simpa [wf] using l, by simp [PyData.depth], ?_⟩
        rw [Nat.add_comm, List.take_succ_cons, t]; simp [sl]
      split at h
      · rename_i e; subst e
        obtain ⟨x, k', e1, rfl, rfl⟩ := mapup_ok h
        obtain ⟨t, l⟩ := rs_text e1
        have kk : (SX.S x).cps.toList = x := by simp [SX.S]
        refine ⟨by simp only [wf]; rw [← str_len, kk]; exact l, by simp [PyData.depth], ?_⟩
        rw [Nat.add_comm, List.take_succ_cons, t]; simp [sl, kk]
      simp only at h
      split at h
      · rename_i hc
        cases hct : ct 0 0 r with
        | bad j => rw [hct] at h; cases h
        | ok m j =>
          rw [hct] at h
          simp only at h
          obtain ⟨t0, m1⟩ := ct_text hct
          split at h
          · rename_i e; subst e
            obtain ⟨D, k', e1, rfl, rfl⟩ := mapup_ok h
            obtain ⟨l, w, dd, t⟩ := mnyK_text ih m _ _ _ _ e1
            refine ⟨by simp only [wf]; exact ⟨by omega, w⟩, by simp only [PyData.depth]; omega, ?_⟩
            rw [show 1 + j + k' = (j + k') + 1 from by omega, List.take_succ_cons, List.take_add, t0, t]
            simp [sl, l]
          · rename_i n100
            obtain ⟨ds, k', e1, rfl, rfl⟩ := mapup_ok h
            obtain ⟨l, w, dd, t⟩ := mny_text ih m _ _ _ e1
            by_cases e108 : c = 108
            · subst e108
              simp only [if_true]
              refine ⟨by simp only [wf]; exact ⟨by omega, w⟩, by simp only [PyData.depth]; omega, ?_⟩
              rw [show 1 + j + k' = (j + k') + 1 from by omega, List.take_succ_cons, List.take_add, t0, t]
              simp [sl, l]
            · have e117 : c = 117 := by omega
              subst e117
              simp only [if_neg e108]
              refine ⟨by simp only [wf]; exact ⟨by omega, w⟩, by simp only [PyData.depth]; omega, ?_⟩
              rw [show 1 + j + k' = (j + k') + 1 from by omega, List.take_succ_cons, List.take_add, t0, t]
              simp [sl, l]
      · cases h
/-- the signs before the first wrong one have it wrong as well, at their end -/
def Bads (n : Nat) : Prop := ∀ (r : List Nat) (k : Nat), rp n r = .bad k → k ≤ r.length ∧ rp n (r.take k) = .bad k
theorem rp_front {n : Nat} {r : List Nat} {d : PyData} {k : Nat} (h : rp n r = .ok d k) (x : List Nat) : rp n (r.take k ++ x) = .ok d k := by
  obtain ⟨w, dd, t⟩ := rp_text n r d k h
  have kl := rp_len n r d k h
  have e : (sl d).length = k := by rw [← t, List.length_take]; omega
  have := rp_ok d n x w dd
  rw [e] at this
  rw [t]; exact this
theorem rs_front {r key : List Nat} {k : Nat} (h : rs r = .ok key k) (x : List Nat) : rs (r.take k ++ x) = .ok key k := by
  obtain ⟨t, l⟩ := rs_text h
  have kl := rs_k h
  have e : (strL key).length = k := by rw [← t, List.length_take]; omega
  have := rs_ok l x
  rw [e] at this
  rw [t]; exact this
theorem take_drop_self {r x : List Nat} {k : Nat} (h : k ≤ r.length) : (r.take k ++ x).drop k = x := by
  rw [List.drop_append_of_le_length (by rw [List.length_take]; omega)]
  simp
theorem mny_bad {n : Nat} (hf : Bads n) : ∀ (m : Nat) (r : List Nat) (k : Nat), mny (rp n) m r = .bad k → k ≤ r.length ∧ mny (rp n) m (r.take k) = .bad k
  | 0, r, k, h => by simp only [mny] at h; cases h
  | m + 1, r, k, h => by
    simp only [mny] at h ⊢
    cases hx : rp n r with
    | bad j =>
      rw [hx] at h
      cases h
      obtain ⟨l, t⟩ := hf _ _ hx
      exact ⟨l, by rw [t]⟩
    | ok a j =>
      rw [hx] at h
      obtain ⟨i, e1, rfl⟩ := mapup_bad h
      obtain ⟨l, t⟩ := mny_bad hf m _ _ e1
      have jl := rp_len n r a j hx
      rw [List.length_drop] at l
      refine ⟨by omega, ?_⟩
      rw [List.take_add, rp_front hx]
      simp only
      rw [take_drop_self jl, t]
      rfl
theorem mnyK_bad {n : Nat} (hf : Bads n) : ∀ (m : Nat) (seen : List (List Nat)) (r : List Nat) (k : Nat), mnyK (rp n) m seen r = .bad k → k ≤ r.length ∧ mnyK (rp n) m seen (r.take k) = .bad k
  | 0, seen, r, k, h => by simp only [mnyK] at h; cases h
  | m + 1, seen, [], k, h => by simp only [mnyK] at h; cases h; simp [mnyK]
  | m + 1, seen, c :: r, k, h => by
    simp only [mnyK] at h
    split at h
    · cases h; simp [mnyK]
    rename_i hc
    have hc : c = 115 := by simpa using hc
    subst hc
    cases hr : rs r with
    | bad j =>
      rw [hr] at h
      cases h
      obtain ⟨l, t⟩ := rs_bad hr
      refine ⟨by simp; omega, ?_⟩
      rw [Nat.add_comm 1 j, List.take_succ_cons]
      simp only [mnyK]
      rw [if_neg (by simp), t]
      simp only
      congr 1; omega
    | ok key j =>
      rw [hr] at h
      simp only at h
      have jl := rs_k hr
      obtain ⟨t2, l2⟩ := rs_text hr
      split at h
      · rename_i ns
        cases h
        have sl2 : 2 ≤ (strL key).length := by
          unfold strL
          have := List.length_pos_iff.mpr (numL_ne key.length)
          simp; omega
        rw [← t2, List.length_take] at sl2
        obtain ⟨i, rfl⟩ : ∃ i, k = i + 1 := ⟨k - 1, by omega⟩
        refine ⟨by simp; omega, ?_⟩
        rw [List.take_succ_cons]
        simp only [mnyK]
        rw [if_neg (by simp)]
        have cut := rs_cut (x := key) (p := r.take i) (q := (r.drop i).take 1) l2 (by rw [← List.take_add, t2]) (fun z => by
          have := congrArg List.length z
          rw [List.length_take, List.length_drop] at this
          simp at this; omega)
        rw [cut]
        simp only
        rw [List.length_take]
        congr 1; omega
      · rename_i ns
        cases hx : rp n (r.drop j) with
        | bad i =>
          rw [hx] at h
          cases h
          obtain ⟨l, t⟩ := hf _ _ hx
          rw [List.length_drop] at l
          refine ⟨by simp; omega, ?_⟩
          rw [show 1 + j + i = (j + i) + 1 from by omega, List.take_succ_cons, List.take_add]
          simp only [mnyK]
          rw [if_neg (by simp), rs_front hr]
          simp only
          rw [if_neg ns, take_drop_self jl, t]
          simp only
          congr 1; omega
        | ok d i =>
          rw [hx] at h
          obtain ⟨z, e1, rfl⟩ := mapup_bad h
          obtain ⟨l, t⟩ := mnyK_bad hf m _ _ _ e1
          have il := rp_len n _ d i hx
          rw [List.length_drop] at l il
          refine ⟨by simp; omega, ?_⟩
          rw [show 1 + j + i + z = (j + (i + z)) + 1 from by omega, List.take_succ_cons, List.take_add, List.take_add]
          simp only [mnyK]
          rw [if_neg (by simp), rs_front hr]
          simp only
          rw [if_neg ns, take_drop_self jl, rp_front hx]
          simp only
          rw [← List.drop_drop, take_drop_self jl, take_drop_self (by rw [List.length_drop]; exact il), List.drop_drop, t]
          simp only [Res.map, Res.up]
          congr 1; omega
theorem rp_bad : ∀ n, Bads n := by
  intro n
  induction n with
  | zero =>
    intro r k h
    cases r with
    | nil => simp only [rp] at h; cases h; simp [rp]
    | cons c r =>
      unfold rp at h
      split at h
      · cases h
      split at h
      · cases h
      split at h
      · cases h
      split at h
      · rename_i h1 h2 h3 e
        obtain ⟨i, e1, rfl⟩ := mapup_bad h
        obtain ⟨l, t⟩ := ig_bad e1
        refine ⟨by simp; omega, ?_⟩
        rw [Nat.add_comm, List.take_succ_cons]
        unfold rp
        rw [if_neg h1, if_neg h2, if_neg h3, if_pos e, t]
        simp only [Res.map, Res.up]
        congr 1; omega
      split at h
      · rename_i h1 h2 h3 h4 e
        obtain ⟨i, e1, rfl⟩ := mapup_bad h
        obtain ⟨l, t⟩ := rs_bad e1
        refine ⟨by simp; omega, ?_⟩
        rw [Nat.add_comm, List.take_succ_cons]
        unfold rp
        rw [if_neg h1, if_neg h2, if_neg h3, if_neg h4, if_pos e, t]
        simp only [Res.map, Res.up]
        congr 1; omega
      · cases h; simp [rp]
  | succ n ih =>
    intro r k h
    cases r with
    | nil => simp only [rp] at h; cases h; simp [rp]
    | cons c r =>
      unfold rp at h
      split at h
      · cases h
      split at h
      · cases h
      split at h
      · cases h
      split at h
      · rename_i h1 h2 h3 e
        obtain ⟨i, e1, rfl⟩ := mapup_bad h
        obtain ⟨l, t⟩ := ig_bad e1
        refine ⟨by simp; omega, ?_⟩
        rw [Nat.add_comm 1 i, List.take_succ_cons]
        unfold rp
        rw [if_neg h1, if_neg h2, if_neg h3, if_pos e, t]
        simp only [Res.map, Res.up]
        congr 1; omega
      split at h
      · rename_i h1 h2 h3 h4 e
        obtain ⟨i, e1, rfl⟩ := mapup_bad h
        obtain ⟨l, t⟩ := rs_bad e1
        refine ⟨by simp; omega, ?_⟩
        rw [Nat.add_comm 1 i, List.take_succ_cons]
        unfold rp
        rw [if_neg h1, if_neg h2, if_neg h3, if_neg h4, if_pos e, t]
        simp only [Res.map, Res.up]
        congr 1; omega
      rename_i h1 h2 h3 h4 h5
      simp only at h
      split at h
      · rename_i hc
        cases hct : ct 0 0 r with
        | bad j =>
          rw [hct] at h
          cases h
          obtain ⟨_, l, t⟩ := ct_bad _ _ _ _ hct
          rw [Nat.sub_zero] at l t
          refine ⟨by simp; omega, ?_⟩
          rw [Nat.add_comm 1 j, List.take_succ_cons]
          unfold rp
          rw [if_neg h1, if_neg h2, if_neg h3, if_neg h4, if_neg h5]
          simp only
          rw [if_pos hc, t]
          simp only
          congr 1; omega
        | ok m j =>
          rw [hct] at h
          simp only at h
          obtain ⟨t0, m1⟩ := ct_text hct
          have jl := (ct_len hct).1
          rw [Nat.zero_add] at jl
          have front : ∀ x, ct 0 0 (r.take j ++ x) = .ok m j := fun x => by
            have e : (numL m).length + 1 = j := by
              have := congrArg List.length t0
              rw [List.length_take] at this
              simp at this; omega
            rw [t0, List.append_assoc]
            have := ct_num_ok m1 x
            rw [e] at this
            exact this
          split at h
          · rename_i e
            obtain ⟨i, e1, rfl⟩ := mapup_bad h
            obtain ⟨l, t⟩ := mnyK_bad ih m _ _ _ e1
            rw [List.length_drop] at l
            refine ⟨by simp; omega, ?_⟩
            rw [show 1 + j + i = (j + i) + 1 from by omega, List.take_succ_cons, List.take_add]
            unfold rp
            rw [if_neg h1, if_neg h2, if_neg h3, if_neg h4, if_neg h5]
            simp only
            rw [if_pos hc, front]
            simp only
            rw [if_pos e, take_drop_self jl, t]
            simp only [Res.map, Res.up]
            congr 1; omega
          · rename_i e
            obtain ⟨i, e1, rfl⟩ := mapup_bad h
            obtain ⟨l, t⟩ := mny_bad ih m _ _ e1
            rw [List.length_drop] at l
            refine ⟨by simp; omega, ?_⟩
            rw [show 1 + j + i = (j + i) + 1 from by omega, List.take_succ_cons, List.take_add]
            unfold rp
            rw [if_neg h1, if_neg h2, if_neg h3, if_neg h4, if_neg h5]
            simp only
            rw [if_pos hc, front]
            simp only
            rw [if_neg e, take_drop_self jl, t]
            simp only [Res.map, Res.up]
            congr 1; omega
      · cases h
        simp [rp]
/-- a text that is read is the text of what is read -/
theorem vo_text {t : List Nat} {d : PyData} {k : Nat} (h : vo t = .ok d k) : wf d ∧ d.depth ≤ 20 ∧ t = sl d := by
  unfold vo at h
  cases hx : rp 20 t with
  | bad j => rw [hx] at h; cases h
  | ok a j =>
    rw [hx] at h
    simp only at h
    split at h
    · rename_i l
      cases h
      obtain ⟨w, dd, e⟩ := rp_text 20 t _ _ hx
      rw [List.take_of_length_le l] at e
      exact ⟨w, dd, e⟩
    · cases h
theorem vo_pre {t : List Nat} {k : Nat} (h : vo t = .bad k) : k ≤ t.length ∧ (vo (t.take k) = .bad k ∨ ∃ d j, vo (t.take k) = .ok d j) := by
  unfold vo at h
  cases hx : rp 20 t with
  | bad j =>
    rw [hx] at h
    cases h
    obtain ⟨l, e⟩ := rp_bad 20 _ _ hx
    exact ⟨l, .inl (by unfold vo; rw [e])⟩
  | ok a j =>
    rw [hx] at h
    simp only at h
    split at h
    · cases h
    · cases h
      obtain ⟨w, dd, e⟩ := rp_text 20 t _ _ hx
      rw [e]
      exact ⟨rp_len 20 t _ _ hx, .inr ⟨_, _, vo_ok w dd⟩⟩
theorem scan_vo (t : List Nat) : scanF (t.length + 1) t 0 [] false = wr (vo t) := by
  rw [scan_rp]
  unfold vo
  cases rp 20 t with
  | bad k => rfl
  | ok d k =>
    simp only
    split <;> rfl


/-! the law's own count and number -/
theorem sl_one (t : List Nat) (k : Nat) : cutS (S t) (some ((k : Nat) : Int)) (some (((k : Nat) : Int) + 1)) = S ((t.drop k).take 1) := by
  rw [cut_both _ (by omega) (by omega)]
  congr 2
  omega
theorem sl_mid (t : List Nat) (i n : Nat) : cutS (S t) (some ((i : Nat) : Int)) (some ((i + n : Nat) : Int)) = S ((t.drop i).take n) := by
  rw [cut_both _ (by omega) (by omega)]
  congr 2
  omega
theorem sl_mid1 (t : List Nat) (i n : Nat) : cutS (S t) (some ((i : Nat) : Int)) (some (((i + n : Nat) : Int) + 1)) = S ((t.drop i).take (n + 1)) := by
  rw [cut_both _ (by omega) (by omega)]
  congr 2
  omega
theorem colon : Str.ofString ":" = S [58] := by decide +kernel
theorem zero1 : Str.ofString "0" = S [48] := by decide +kernel
theorem semi : Str.ofString ";" = S [59] := by decide +kernel
theorem minus : Str.ofString "-" = S [45] := by decide +kernel
theorem digs : Str.ofString "0123456789" = S [48, 49, 50, 51, 52, 53, 54, 55, 56, 57] := by decide +kernel
theorem minus0 : Str.ofString "-0" = S [45, 48] := by decide +kernel
theorem empty0 : Str.ofString "" = S [] := by decide +kernel
theorem tk_more {t : List Nat} {i n c : Nat} {r : List Nat} (hr : t.drop (i + n) = c :: r) : (t.drop i).take (n + 1) = (t.drop i).take n ++ [c] := by
  rw [List.take_add_one, List.getElem?_drop]
  have : t[i + n]? = some c := by
    have := congrArg List.head? hr
    rw [List.head?_drop] at this
    exact this
  rw [this]; rfl
theorem had_more {l : List Nat} {c : Nat} (h : AllDigits l) (dc : isDig c = true) : AllDigits (l ++ [c]) := by
  intro c' hc'
  rcases List.mem_append.mp hc' with h' | h'
  · exact h c' h'
  · rw [List.mem_singleton.mp h']; simpa [isDig] using dc
theorem hdv_more (l : List Nat) (c : Nat) : digitsVal (l ++ [c]) = 10 * digitsVal l + (c - 48) := by
  unfold digitsVal
  rw [List.foldl_append]
  simp; omega
theorem dr_more {t : List Nat} {i n c : Nat} {r : List Nat} (hr : t.drop (i + n) = c :: r) : i + n < t.length ∧ t.drop (i + (n + 1)) = r := by
  constructor
  · have := congrArg List.length hr
    simp at this; omega
  · have : t.drop (i + (n + 1)) = (t.drop (i + n)).drop 1 := by rw [List.drop_drop]; rfl
    rw [this, hr]; rfl
theorem if_if {A B X Y : Prop} [Decidable A] [Decidable B] (h : A ∨ B) : (if A then X else if B then X else Y) = X := by
  by_cases a : A
  · rw [if_pos a]
  · rw [if_neg a, if_pos (h.resolve_left a)]
theorem few {n v : Nat} (h2 : 2 ≤ n → 10 ^ (n - 1) ≤ v) (hv : v ≤ 10000) : n ≤ 5 := by
  refine Classical.byContradiction fun z => ?_
  have h := h2 (by omega)
  have : 10 ^ 5 ≤ 10 ^ (n - 1) := Nat.pow_le_pow_right (by decide) (by omega)
  omega
section
variable {g : Wd} {f : Addr} {fd : FuncData}
theorem sc_l_count : FnScope ["_law_text", "_law_at", "_law_spot", "_law_sign"] ["_law_text", "_law_at"] (defScope s_l_count) := ⟨rfl, rfl, rfl, by decide +kernel, rfl, by decide +kernel, by decide +kernel⟩
def sp_lcount : Sp := S2 fun x a H Q _ => ∃ t i, x = .str (S t) ∧ a = .int (i : Nat) ∧ t.length ≤ 10000000 ∧ i ≤ t.length ∧ match ct 0 0 (t.drop i) with
  | .bad k => ∀ p H', Same H H' → H' p = some (.tup [.int (-1), .int (i + k : Nat)]) → Q (.ref p) H'
  | .ok m k => ∀ p H', Same H H' → H' p = some (.tup [.int (m : Nat), .int (i + k : Nat)]) → Q (.ref p) H'
theorem ok_lcount (F : Df g.K "_law_count" "_law_count" s_l_count f fd .none) (T : Txt2 g) : FnG g 1 f fd ["_law_text", "_law_at"] sp_lcount := by
  refine F.ok sc_l_count (fun vs H Q E h => S2.len h) (fun cdv A outer s H vs Q E hr h => ?_)
  obtain ⟨_, _, rfl, t, i, rfl, rfl, hl, hi, q⟩ := h
  refine ⟨_, (pss_mid (ps_set (i := 2) sc_l_count.nd rfl (Or.inl rfl) (pv 1))
      (pss_mid (ps_while psD (PW.pt (pw_or (pt_cmpR (o_ne (K := g.K) hr) (pe_slice (o_sl (K := g.K)) (pv 0) (po_some (pv 2)) (po_some (pe_op (o_add (K := g.K)) (pv 2) pe_int))) pe_str (nomark _)) (pw_or1 (pt_cmpR (o_eq (K := g.K) hr) (pv 2) (pv 1) (nomark _))))) (pss_mid (ps_set (i := 3) sc_l_count.nd rfl (Or.inl rfl) (pe_slice (o_sl (K := g.K)) (pv 0) (po_some (pv 2)) (po_some (pe_op (o_add (K := g.K)) (pv 2) pe_int))))
      (pss_cons (ps_if (PW.pt (pw_or (pt_cmpR (o_eq (K := g.K) hr) (pv 3) pe_str (nomark _)) (pw_or (pt_cmpR (o_nin (K := g.K)) (pv 3) pe_str (by rfl)) (pw_or (pt_cmpR (o_eq (K := g.K) hr) (pe_slice (o_sl (K := g.K)) (pv 0) (po_some (pv 1)) (po_some (pv 2))) pe_str (nomark _)) (pw_or1 (pt_cmpR op_gt (pe_callTy call_int_str (by rfl) T.b_int bb_int (pa_cons (pe_slice (o_sl (K := g.K)) (pv 0) (po_some (pv 1)) (po_some (pe_op (o_add (K := g.K)) (pv 2) pe_int))) pa_nil)) pe_int (nomark _))))))) (pss_one (ps_ret (pe_tup (pa_cons (pe_un un_neg pe_int) (pa_cons (pv 2) pa_nil))))) pss_nil)
      (pss_one (ps_set (i := 2) sc_l_count.nd rfl (Or.inl rfl) (pe_op (o_add (K := g.K)) (pv 2) pe_int))))))
      (pss_one (ps_ret (pe_tup (pa_cons (pe_callTy call_int_str (by rfl) T.b_int bb_int (pa_cons (pe_slice (o_sl (K := g.K)) (pv 0) (po_some (pv 1)) (po_some (pv 2))) pa_nil)) (pa_cons (pe_op (o_add (K := g.K)) (pv 2) pe_int) pa_nil))))))), ?_⟩
  refine mid_one [some (.str (S t)), some (.int (i : Nat)), some (.int (i : Nat)), none] (fun H1 => H1 = H) ?_ ?_
  · walk_at "sx"
  intro H1 e1
  rw [e1]; clear e1 H1
  refine mid_at (fun σ G => ∃ n v s5, σ = [some (.str (S t)), some (.int (i : Nat)), some (.int (i + n : Nat)), s5] ∧ G = H ∧ ct 0 0 (t.drop i) = .ok v (n + 1) ∧ i + n < t.length ∧ n ≠ 0 ∧ n ≤ 640 ∧ AllDigits ((t.drop i).take n) ∧ digitsVal ((t.drop i).take n) = v) ?_ ?_
  · refine ⟨fun m σ G => ∃ n v s5, σ = [some (.str (S t)), some (.int (i : Nat)), some (.int (i + n : Nat)), s5] ∧ G = H ∧ i + n ≤ t.length ∧ v ≤ 10000 ∧ (n = 0 → v = 0) ∧ (n ≠ 0 → v = 0 → (t.drop i).take n = [48]) ∧ (2 ≤ n → 10 ^ (n - 1) ≤ v) ∧ AllDigits ((t.drop i).take n) ∧ digitsVal ((t.drop i).take n) = v ∧ ct n v (t.drop (i + n)) = ct 0 0 (t.drop i) ∧ m = t.length - (i + n), ⟨_, 0, 0, none, rfl, rfl, by omega, by omega, fun _ => rfl, fun z => absurd rfl z, by omega, by simp [AllDigits], rfl, rfl, rfl⟩, ?_⟩
    rintro m _ G ⟨n, v, s5, rfl, rfl, hn, hv, h0, h1, h2, had, hdv, ec, rfl⟩
    rw [← ec] at q
    simp only [wOr, wCmp, wNm, wE, wT, tRet, tRetN, tSeq, C8.tCut, tNext, tAsg, gName, gNil, gCons, gTup, gFld, tIfS, tIf, tAndV, tOrV, tNotV, tAnd, tOr, tNot, tB, tTest, tOp, tUn, tCB, tCons, tNil, tVar, tC, tChain, tDrop, RS.tCallG, RS.tMethG, tMakeG, RS.tCallK, RS.tMakeK, tEqOwn, rI, rI0, rU, add_ii, add_ss, add_rr, mul_ii, mul_si, mul_ri, RS.eq_ii, RS.eq_ss, eq_bb, eq_nn, eq_sn, eq_ns, eq_in, eq_ni, eq_bn, eq_nb, eq_is, eq_si, eq_rr, ne_ii, ne_ss, ne_bb, ne_nn, ne_sn, ne_ns, ne_in, ne_ni, ne_is, ne_si, ne_rr, in_ss, in_r, nin_ss, nin_r, len_s, len_r, RS.ix_s, RS.ix_r, sl_s, sl_r, is_eq, tyN_n, tyN_b, tyN_i, tyN_s, tru_b, tru_i, tru_n, tSl, tPart, tNoPart, tPar, tPar3, tFmtZ, tFmt, tJs, tDGet, sDPut, sFld, tFld, tTup, tLst, tNever, isB,
  L2.start, List.map_cons, List.map_nil, List.length_cons, List.length_nil, Nat.reduceAdd, Nat.reduceSub, Nat.sub_self, List.replicate_zero, List.replicate_succ, List.append_nil, List.cons_append, List.nil_append, List.getElem?_cons_zero, List.getElem?_cons_succ, List.set_cons_zero, List.set_cons_succ, Option.some.injEq, exists_eq_left, exists_eq_left', exists_and_left, V.bl.injEq, V.int.injEq, V.str.injEq, V.ref.injEq, beq_self_eq_true, Bool.true_or, Bool.or_true, Bool.false_or, Bool.or_false, Bool.and_false, Bool.false_and, Bool.true_and, Bool.and_true, Bool.not_true, Bool.not_false, Bool.false_eq_true, if_true, if_false, ite_true, ite_false, true_and, and_true, and_assoc, String.reduceBEq, String.reduceEq, reduceIte, Bool.and_self, reduceCtorEq, false_and, and_false, exists_false, or_false, false_or, exists_const, iEnumS, iStr, iList, iTup, iRng1, iEnum, tFor_eq, tLc_eq, List.cons.injEq, wipe, not_true_eq_false, not_false_eq_true, upd_same, HO.ins.injEq, HO.tup.injEq, HO.lst.injEq, ofS_eq, lk_nil, lk_cons, pu_nil, pu_cons, sizeLine_eq, Nat.reduceLT, Nat.reduceLeDiff, Nat.reduceEqDiff, Nat.le_refl, decide_true, decide_false, tPr, dget_us, dput_us, vv_nil, vv_cons, RS.pk_nil, pk_one, RS.pk_cons, inr_eq, tDisp, tPairs, tBoolOwn, rBoolOwn, tBM, rAppend, ty_list, ty_str, rEqOwn, iEnumT, RS.tCallS, tM1, tDc_eq, tLock, tLockE, iKeys, tListEnum, rUpdate, tMkX0, tMkX1, tXfv, gSub, rSetL, List.getD_cons_zero, List.getD_cons_succ, tCMethS, ClX.tCVal, tXfa, tIxOwn, tInOwn, tPropG, tMethK, tMethP, tListGen, tDGet2, tDPop2, rNeD0, intA_i, intA_b, tRevL, sFldAug, tPm0, tPm1, tDIn, tDNotIn, tDNewK, RS.tMethS]
    refine ⟨by rw [S_len]; omega, ?_⟩
    rw [sl_one, colon]
    have n5 := few h2 hv
    by_cases ex : (t.drop (i + n)).take 1 = [58] ∧ n ≠ 0
    · rw [if_neg (by simp [S_eq, ex.1]), if_neg (by simp; omega)]
      cases hr : t.drop (i + n) with
      | nil => rw [hr] at ex; simp at ex
      | cons c r =>
        rw [hr] at ex ec
        obtain ⟨e1, n0⟩ := ex
        have c58 : c = 58 := by simpa using e1
        subst c58
        have hlt : i + n < t.length := by
          have := congrArg List.length hr
          simp at this; omega
        exact ⟨n, rfl, v, by rw [← ec]; simp [ct, n0], hlt, n0, by omega, had, hdv⟩
    · rw [if_if (by
        by_cases n0 : n = 0
        · exact .inr (by simp [n0])
        · exact .inl (by simp only [S_eq, Bool.not_eq_true', decide_eq_false_iff_not]; exact fun z => ex ⟨z, n0⟩))]
      by_cases good : ∃ c r, t.drop (i + n) = c :: r ∧ isDig c = true ∧ (n = 0 ∨ v ≠ 0) ∧ 10 * v + (c - 48) ≤ 10000
      · obtain ⟨c, r, hr, dc, nv, big⟩ := good
        rw [hr] at ex ec
        obtain ⟨hlt, hdr⟩ := dr_more hr
        have htk := tk_more hr
        have had' : AllDigits ((t.drop i).take (n + 1)) := by rw [htk]; exact had_more had dc
        have hdv' : digitsVal ((t.drop i).take (n + 1)) = 10 * v + (c - 48) := by rw [htk, hdv_more, hdv]
        have c58 : ¬ (c = 58 ∧ n ≠ 0) := fun z => ex ⟨by simp [z.1], z.2⟩
        refine ⟨fun σ' G' => σ' = [some (.str (S t)), some (.int (i : Nat)), some (.int (i + (n + 1) : Nat)), some (.str (S [c]))] ∧ G' = G, fun σ' G' z => ⟨t.length - (i + (n + 1)), by omega, n + 1, 10 * v + (c - 48), _, z.1, z.2, by omega, big, fun z => by omega, fun _ v0 => ?_, fun n2 => ?_, had', hdv', ?_, rfl⟩, ?_⟩
        · have n0 : n = 0 := nv.resolve_right (fun z => z (by omega))
          subst n0
          rw [htk]
          have : c = 48 := by
            simp only [isDig, Bool.and_eq_true, decide_eq_true_eq] at dc
            omega
          simp [this]
        · by_cases n1 : n = 1
          · subst n1
            have : v ≠ 0 := nv.resolve_left (by decide)
            show 10 ^ 1 ≤ _
            omega
          · have h := h2 (by omega)
            show 10 ^ n ≤ _
            rw [show n = (n - 1) + 1 from by omega, Nat.pow_succ]
            omega
        · rw [hdr, ← ec]
          conv => rhs; unfold ct
          rw [if_neg c58, if_pos ⟨dc, nv, big⟩]
        refine mid_at (fun σ G1 => σ = [some (.str (S t)), some (.int (i : Nat)), some (.int (i + n : Nat)), some (.str (S [c]))] ∧ G1 = G) ?_ ?_
        · walk_at "sx"
          refine ⟨by rw [S_len]; omega, ?_⟩
          rw [sl_one, hr]
          simp
        rintro _ G1 ⟨rfl, rfl⟩
        walk_at "sx"
        rw [empty0, if_neg (by simp [S_eq]), digs, has_one, dig_in, dc, if_neg (by simp)]
        refine ⟨by rw [S_len]; omega, ?_⟩
        rw [sl_mid, zero1, if_neg (by
          simp only [S_eq, decide_eq_true_eq]
          intro z
          rw [z] at hdv
          have v0 : v = 0 := by rw [← hdv]; rfl
          have n0 := nv.resolve_right (fun y => y v0)
          subst n0
          simp at z)]
        refine ⟨by rw [S_len]; omega, ?_⟩
        rw [sl_mid1]
        refine ⟨_, intText_digits (x := S ((t.drop i).take (n + 1))) had' (fun z => ?_) (by rw [S_len, List.length_take]; omega), by rw [S_len, List.length_take]; omega, ?_⟩
        · rw [htk] at z; simp at z
        have e6 : digitsVal (S ((t.drop i).take (n + 1))).cps.toList = 10 * v + (c - 48) := hdv'
        rw [e6, if_neg (by simp; omega)]
        omega
      · have hb : ct n v (t.drop (i + n)) = .bad n := by
          cases hr : t.drop (i + n) with
          | nil => rfl
          | cons c r =>
            simp only [ct]
            rw [if_neg (fun z => ex ⟨by rw [hr, z.1]; rfl, z.2⟩), if_neg (fun z => good ⟨c, r, hr, z.1, z.2.1, z.2.2⟩)]
        rw [hb] at q
        have fin : ∀ p, G p = none → Q (.ref p) (upd G p (.tup [.int (-1), .int (i + n : Nat)])) := fun p hp => q p _ (same_upd hp) upd_same
        refine ⟨fun _ _ => False, fun _ _ z => z.elim, ?_⟩
        refine mid_at (fun σ G1 => σ = [some (.str (S t)), some (.int (i : Nat)), some (.int (i + n : Nat)), some (.str (S ((t.drop (i + n)).take 1)))] ∧ G1 = G) ?_ ?_
        · walk_at "sx"
          refine ⟨by rw [S_len]; omega, ?_⟩
          rw [sl_one]
        rintro _ G1 ⟨rfl, rfl⟩
        walk_at "sx"
        cases hr : t.drop (i + n) with
        | nil =>
          rw [empty0, if_pos (by simp [S_eq])]
          exact fin
        | cons c r =>
          rw [List.take_succ_cons, List.take_zero, empty0, if_neg (by simp [S_eq]), digs, has_one, dig_in]
          by_cases dc : isDig c = true
          · rw [dc, if_neg (by simp)]
            refine ⟨by rw [S_len]; omega, ?_⟩
            rw [sl_mid, zero1]
            by_cases z0 : (t.drop i).take n = [48]
            · rw [if_pos (by simp [S_eq, z0])]
              exact fin
            · rw [if_neg (by simp [S_eq, z0])]
              refine ⟨by rw [S_len]; omega, ?_⟩
              have htk := tk_more hr
              have had' : AllDigits ((t.drop i).take (n + 1)) := by rw [htk]; exact had_more had dc
              have hdv' : digitsVal ((t.drop i).take (n + 1)) = 10 * v + (c - 48) := by rw [htk, hdv_more, hdv]
              have nv : n = 0 ∨ v ≠ 0 := by
                by_cases n0 : n = 0
                · exact .inl n0
                · exact .inr fun v0 => z0 (h1 n0 v0)
              have big : ¬ 10 * v + (c - 48) ≤ 10000 := fun z => good ⟨c, r, hr, dc, nv, z⟩
              rw [sl_mid1]
              refine ⟨_, intText_digits (x := S ((t.drop i).take (n + 1))) had' (fun z => ?_) (by rw [S_len, List.length_take]; omega), by rw [S_len, List.length_take]; omega, ?_⟩
              · rw [htk] at z; simp at z
              have e6 : digitsVal (S ((t.drop i).take (n + 1))).cps.toList = 10 * v + (c - 48) := hdv'
              rw [e6, if_pos (by simp; omega)]
              exact fin
          · rw [if_pos (by simpa using dc)]
            exact fin
  rintro _ G ⟨n, v, s5, rfl, rfl, ec, hn, n0, n640, had, hdv⟩
  rw [ec] at q
  walk_at "sx"
  refine ⟨by rw [S_len]; omega, ?_⟩
  rw [sl_mid]
  refine ⟨_, intText_digits (x := S ((t.drop i).take n)) had (fun z => ?_) (by rw [S_len, List.length_take]; omega), by rw [S_len, List.length_take]; omega, ?_⟩
  · have := congrArg List.length z
    simp at this; omega
  intro p hp
  have e6 : digitsVal (S ((t.drop i).take n)).cps.toList = v := hdv
  rw [e6]
  exact q p _ (same_upd hp) (by rw [upd_same]; congr 3)
theorem sc_l_number : FnScope ["_law_text", "_law_at", "_law_begin", "_law_spot", "_law_sign", "_law_front"] ["_law_text", "_law_at"] (defScope s_l_number) := ⟨rfl, rfl, rfl, by decide +kernel, rfl, by decide +kernel, by decide +kernel⟩
def sp_lnum : Sp := S2 fun x a H Q _ => ∃ t i, x = .str (S t) ∧ a = .int (i : Nat) ∧ t.length ≤ 10000000 ∧ i ≤ t.length ∧ match ig (t.drop i) with
  | .bad k => ∀ p H', Same H H' → H' p = some (.tup [.int (i + k : Nat), .int (i + k : Nat)]) → Q (.ref p) H'
  | .ok _ k => ∀ p H', Same H H' → H' p = some (.tup [.int (i + k : Nat), .int (-1)]) → Q (.ref p) H'
theorem ok_lnum (F : Df g.K "_law_number" "_law_number" s_l_number f fd .none) (T : Txt2 g) : FnG g 1 f fd ["_law_text", "_law_at"] sp_lnum := by
  refine F.ok sc_l_number (fun vs H Q E h => S2.len h) (fun cdv A outer s H vs Q E hr h => ?_)
  obtain ⟨_, _, rfl, t, i, rfl, rfl, hl, hi, q⟩ := h
  refine ⟨_, (pss_mid (ps_set (i := 2) sc_l_number.nd rfl (Or.inl rfl) (pe_ifExp (pt_cmpR (o_eq (K := g.K) hr) (pe_slice (o_sl (K := g.K)) (pv 0) (po_some (pv 1)) (po_some (pe_op (o_add (K := g.K)) (pv 1) pe_int))) pe_str (nomark _)) (pe_op (o_add (K := g.K)) (pv 1) pe_int) (pv 1)))
      (pss_mid (ps_set (i := 3) sc_l_number.nd rfl (Or.inl rfl) (pv 2))
      (pss_mid (ps_while psD (PW.pt (pw_or (pt_cmpR (o_ne (K := g.K) hr) (pe_slice (o_sl (K := g.K)) (pv 0) (po_some (pv 3)) (po_some (pe_op (o_add (K := g.K)) (pv 3) pe_int))) pe_str (nomark _)) (pw_or1 (pt_cmpR (o_eq (K := g.K) hr) (pv 3) (pv 2) (nomark _))))) (pss_mid (ps_par (i := 4) (j := 5) (by rfl) sc_l_number.nd rfl rfl (by decide) rfl rfl (pa_cons (pe_slice (o_sl (K := g.K)) (pv 0) (po_some (pv 3)) (po_some (pe_op (o_add (K := g.K)) (pv 3) pe_int))) (pa_cons (pe_slice (o_sl (K := g.K)) (pv 0) (po_some (pv 1)) (po_some (pv 3))) pa_nil)) (by rfl))
      (pss_cons (ps_if (PW.pt (pw_or (pt_cmpR (o_eq (K := g.K) hr) (pv 4) pe_str (nomark _)) (pw_or (pt_cmpR (o_nin (K := g.K)) (pv 4) pe_str (by rfl)) (pw_or (pt_cmpR (o_eq (K := g.K) hr) (pv 5) pe_str (nomark _)) (pw_or (pt_cmpR (o_eq (K := g.K) hr) (pe_op (o_add (K := g.K)) (pv 5) (pv 4)) pe_str (nomark _)) (pw_or1 (pt_cmpR (o_eq (K := g.K) hr) (pe_op op_sub (pv 3) (pv 2)) pe_int (nomark _)))))))) (pss_one (ps_ret (pe_tup (pa_cons (pv 3) (pa_cons (pv 3) pa_nil))))) pss_nil)
      (pss_one (ps_set (i := 3) sc_l_number.nd rfl (Or.inl rfl) (pe_op (o_add (K := g.K)) (pv 3) pe_int))))))
      (pss_one (ps_ret (pe_tup (pa_cons (pe_op (o_add (K := g.K)) (pv 3) pe_int) (pa_cons (pe_un un_neg pe_int) pa_nil)))))))), ?_⟩
  obtain ⟨b, hb, hb1, q1, q2⟩ : ∃ b : Nat, (decide ((t.drop i).take 1 = [45]) = decide (b = 1)) ∧ b ≤ 1 ∧ (b = 1 → ∀ r, t.drop (i + 1) = 48 :: r → ∀ p H', Same H H' → H' p = some (.tup [.int (i + 1 : Nat), .int (i + 1 : Nat)]) → Q (.ref p) H') ∧
      ((b = 1 → ∀ r, t.drop (i + 1) ≠ 48 :: r) → match dg false 0 0 (t.drop (i + b)) with
        | .bad k => ∀ p H', Same H H' → H' p = some (.tup [.int (i + b + k : Nat), .int (i + b + k : Nat)]) → Q (.ref p) H'
        | .ok _ k => ∀ p H', Same H H' → H' p = some (.tup [.int (i + b + k : Nat), .int (-1)]) → Q (.ref p) H') := by
    by_cases n45 : ∃ r, t.drop i = 45 :: r
    · obtain ⟨r, hr⟩ := n45
      have d1 : t.drop (i + 1) = r := by
        have : t.drop (i + 1) = (t.drop i).drop 1 := by rw [List.drop_drop]
        rw [this, hr]; rfl
      refine ⟨1, by rw [hr]; simp, by omega, fun _ r' e p H' => ?_, fun n48 => ?_⟩
      · rw [d1] at e
        rw [hr, e] at q
        exact q p H'
      · rw [d1] at n48 ⊢
        rw [hr] at q
        have e : ig (45 :: r) = ((dg false 0 0 r).map fun v : Nat => (0 - (v : Int))).up 1 := by
          unfold ig
          simp only
          split
          · exact (n48 rfl _ rfl).elim
          · rfl
        rw [e] at q
        cases hd : dg false 0 0 r with
        | bad k => rw [hd] at q; simp only [Res.map, Res.up] at q; simpa [Nat.add_assoc] using q
        | ok v k => rw [hd] at q; simp only [Res.map, Res.up] at q; simpa [Nat.add_assoc] using q
    · refine ⟨0, ?_, by omega, fun z => by omega, fun _ => ?_⟩
      · cases hr : t.drop i with
        | nil => simp
        | cons c r =>
          have : c ≠ 45 := fun z => n45 ⟨r, by rw [hr, z]⟩
          simp [this]
      · have e : ig (t.drop i) = (dg false 0 0 (t.drop i)).map fun v : Nat => (v : Int) := by
          unfold ig
          split
          · rename_i r e; exact (n45 ⟨r, e⟩).elim
          · rfl
        rw [e] at q
        rw [Nat.add_zero]
        cases hd : dg false 0 0 (t.drop i) with
        | bad k => rw [hd] at q; exact q
        | ok v k => rw [hd] at q; exact q
  clear q
  have lb : i + b ≤ t.length := by
    by_cases b1 : b = 1
    · have h : (t.drop i).take 1 = [45] := by simpa [b1] using hb
      cases hr : t.drop i with
      | nil => rw [hr] at h; simp at h
      | cons c r =>
        have := congrArg List.length hr
        simp at this; omega
    · omega
  refine mid_one [some (.str (S t)), some (.int (i : Nat)), some (.int (i + b : Nat)), none, none, none] (fun H1 => H1 = H) ?_ ?_
  · walk_at "sx"
    refine ⟨by rw [S_len]; omega, ?_⟩
    rw [sl_one, minus]
    simp only [S_eq, hb]
    by_cases b1 : b = 1
    · rw [if_pos (by simp [b1])]; omega
    · rw [if_neg (by simp [b1])]; omega
  intro H1 e1
  rw [e1]; clear e1 H1
  refine mid_one [some (.str (S t)), some (.int (i : Nat)), some (.int (i + b : Nat)), some (.int (i + b : Nat)), none, none] (fun H1 => H1 = H) ?_ ?_
  · walk_at "sx"
  intro H1 e1
  rw [e1]; clear e1 H1
  have f45 : b = 1 → (t.drop i).take 1 = [45] := fun b1 => by simpa [b1] using hb
  have f0 : b ≠ 1 → (t.drop i).take 1 ≠ [45] := fun b1 => by simpa [b1] using hb
  have fl : ∀ n, i + b + n ≤ t.length → ((t.drop i).take (b + n)).length = b + n := fun n hn => by rw [List.length_take, List.length_drop]; omega
  have m45 : ∀ n c, i + b + n ≤ t.length → (t.drop i).take (b + n) ++ [c] = [45, 48] → b = 1 ∧ n = 0 ∧ c = 48 := fun n c hn e => by
    have l := congrArg List.length e
    rw [List.length_append, fl n hn] at l
    have l : b + n = 1 := by simpa using l
    rw [l] at e
    have e1 : (t.drop i).take 1 = [45] ∧ c = 48 := by
      cases hr : (t.drop i).take 1 with
      | nil => rw [hr] at e; simp at e
      | cons x y =>
        rw [hr] at e
        simp only [List.cons_append, List.cons.injEq] at e
        obtain ⟨e1, e2⟩ := e
        have yn : y = [] := by
          have := congrArg List.length hr
          rw [List.length_take] at this
          cases y with
          | nil => rfl
          | cons _ _ => simp at this; omega
        subst yn
        simp at e2
        exact ⟨by rw [e1], e2⟩
    by_cases b1 : b = 1
    · exact ⟨b1, by omega, e1.2⟩
    · exact (f0 b1 e1.1).elim
  refine mid_at (fun σ G => ∃ n v s4 s5, σ = [some (.str (S t)), some (.int (i : Nat)), some (.int (i + b : Nat)), some (.int (i + b + n : Nat)), s4, s5] ∧ G = H ∧ (b = 1 → ∀ r, t.drop (i + 1) ≠ 48 :: r) ∧ dg false 0 0 (t.drop (i + b)) = .ok v (n + 1)) ?_ ?_
  · refine ⟨fun m σ G => ∃ n v z s4 s5, σ = [some (.str (S t)), some (.int (i : Nat)), some (.int (i + b : Nat)), some (.int (i + b + n : Nat)), s4, s5] ∧ G = H ∧ i + b + n ≤ t.length ∧ n ≤ 100 ∧ z = decide ((t.drop i).take (b + n) = [48]) ∧ dg z n v (t.drop (i + b + n)) = dg false 0 0 (t.drop (i + b)) ∧ (n ≠ 0 → b = 1 → ∀ r, t.drop (i + 1) ≠ 48 :: r) ∧ m = t.length - (i + b + n), ⟨_, 0, 0, false, none, none, rfl, rfl, by omega, by omega, ?_, rfl, fun z => absurd rfl z, rfl⟩, ?_⟩
    · symm
      rw [decide_eq_false_iff_not]
      intro e
      by_cases b1 : b = 1
      · rw [b1, Nat.add_zero, f45 b1] at e; simp at e
      · rw [show b + 0 = 0 from by omega] at e; simp at e
    rintro m _ G ⟨n, v, z, s4, s5, rfl, rfl, hn, h100, hz, ec, n48, rfl⟩
    simp only [wOr, wCmp, wNm, wE, wT, tRet, tRetN, tSeq, C8.tCut, tNext, tAsg, gName, gNil, gCons, gTup, gFld, tIfS, tIf, tAndV, tOrV, tNotV, tAnd, tOr, tNot, tB, tTest, tOp, tUn, tCB, tCons, tNil, tVar, tC, tChain, tDrop, RS.tCallG, RS.tMethG, tMakeG, RS.tCallK, RS.tMakeK, tEqOwn, rI, rI0, rU, add_ii, add_ss, add_rr, mul_ii, mul_si, mul_ri, RS.eq_ii, RS.eq_ss, eq_bb, eq_nn, eq_sn, eq_ns, eq_in, eq_ni, eq_bn, eq_nb, eq_is, eq_si, eq_rr, ne_ii, ne_ss, ne_bb, ne_nn, ne_sn, ne_ns, ne_in, ne_ni, ne_is, ne_si, ne_rr, in_ss, in_r, nin_ss, nin_r, len_s, len_r, RS.ix_s, RS.ix_r, sl_s, sl_r, is_eq, tyN_n, tyN_b, tyN_i, tyN_s, tru_b, tru_i, tru_n, tSl, tPart, tNoPart, tPar, tPar3, tFmtZ, tFmt, tJs, tDGet, sDPut, sFld, tFld, tTup, tLst, tNever, isB,
  L2.start, List.map_cons, List.map_nil, List.length_cons, List.length_nil, Nat.reduceAdd, Nat.reduceSub, Nat.sub_self, List.replicate_zero, List.replicate_succ, List.append_nil, List.cons_append, List.nil_append, List.getElem?_cons_zero, List.getElem?_cons_succ, List.set_cons_zero, List.set_cons_succ, Option.some.injEq, exists_eq_left, exists_eq_left', exists_and_left, V.bl.injEq, V.int.injEq, V.str.injEq, V.ref.injEq, beq_self_eq_true, Bool.true_or, Bool.or_true, Bool.false_or, Bool.or_false, Bool.and_false, Bool.false_and, Bool.true_and, Bool.and_true, Bool.not_true, Bool.not_false, Bool.false_eq_true, if_true, if_false, ite_true, ite_false, true_and, and_true, and_assoc, String.reduceBEq, String.reduceEq, reduceIte, Bool.and_self, reduceCtorEq, false_and, and_false, exists_false, or_false, false_or, exists_const, iEnumS, iStr, iList, iTup, iRng1, iEnum, tFor_eq, tLc_eq, List.cons.injEq, wipe, not_true_eq_false, not_false_eq_true, upd_same, HO.ins.injEq, HO.tup.injEq, HO.lst.injEq, ofS_eq, lk_nil, lk_cons, pu_nil, pu_cons, sizeLine_eq, Nat.reduceLT, Nat.reduceLeDiff, Nat.reduceEqDiff, Nat.le_refl, decide_true, decide_false, tPr, dget_us, dput_us, vv_nil, vv_cons, RS.pk_nil, pk_one, RS.pk_cons, inr_eq, tDisp, tPairs, tBoolOwn, rBoolOwn, tBM, rAppend, ty_list, ty_str, rEqOwn, iEnumT, RS.tCallS, tM1, tDc_eq, tLock, tLockE, iKeys, tListEnum, rUpdate, tMkX0, tMkX1, tXfv, gSub, rSetL, List.getD_cons_zero, List.getD_cons_succ, tCMethS, ClX.tCVal, tXfa, tIxOwn, tInOwn, tPropG, tMethK, tMethP, tListGen, tDGet2, tDPop2, rNeD0, intA_i, intA_b, tRevL, sFldAug, tPm0, tPm1, tDIn, tDNotIn, tDNewK, RS.tMethS]
    refine ⟨by rw [S_len]; omega, ?_⟩
    rw [sl_one, semi]
    by_cases ex : (t.drop (i + b + n)).take 1 = [59] ∧ n ≠ 0
    · rw [if_neg (by simp [S_eq, ex.1]), if_neg (by simp; omega)]
      cases hr : t.drop (i + b + n) with
      | nil => rw [hr] at ex; simp at ex
      | cons c r =>
        rw [hr] at ex ec
        obtain ⟨e1, n0⟩ := ex
        have c59 : c = 59 := by simpa using e1
        subst c59
        exact ⟨n, rfl, n48 n0, v, by rw [← ec]; simp [dg, n0]⟩
    · rw [if_if (by
        by_cases n0 : n = 0
        · exact .inr (by simp [n0])
        · exact .inl (by simp only [S_eq, Bool.not_eq_true', decide_eq_false_iff_not]; exact fun z => ex ⟨z, n0⟩))]
      have dd : t.drop (i + (b + n)) = t.drop (i + b + n) := by rw [Nat.add_assoc]
      by_cases good : ∃ c r, t.drop (i + b + n) = c :: r ∧ isDig c = true ∧ ((n = 0 ∧ ¬ (b = 1 ∧ c = 48)) ∨ (n ≠ 0 ∧ n < 100 ∧ z = false))
      · obtain ⟨c, r, hr, dc, nz⟩ := good
        rw [hr] at ex ec
        have htk := tk_more (i := i) (n := b + n) (dd.trans hr)
        obtain ⟨hlt, hdr⟩ := dr_more hr
        have c59 : ¬ (c = 59 ∧ n ≠ 0) := fun z => ex ⟨by simp [z.1], z.2⟩
        have front : (t.drop i).take (b + n) ≠ [48] := fun e => by
          rcases nz with ⟨n0, nb⟩ | ⟨n0, n1, z0⟩
          · subst n0
            by_cases b1 : b = 1
            · rw [b1, Nat.add_zero, f45 b1] at e; simp at e
            · rw [show b + 0 = 0 from by omega] at e; simp at e
          · rw [hz] at z0
            exact (of_decide_eq_false z0) e
        have n45 : (t.drop i).take (b + n) ++ [c] ≠ [45, 48] := fun e => by
          obtain ⟨b1, n0, c48⟩ := m45 n c hn e
          rcases nz with ⟨_, nb⟩ | ⟨n0', _⟩
          · exact nb ⟨b1, c48⟩
          · exact n0' n0
        have n100 : n < 100 := by rcases nz with h | h <;> omega
        refine ⟨fun σ' G' => (∃ s4 s5, σ' = [some (.str (S t)), some (.int (i : Nat)), some (.int (i + b : Nat)), some (.int (i + b + (n + 1) : Nat)), s4, s5]) ∧ G' = G, fun σ' G' zz => ?_, ?_⟩
        · obtain ⟨⟨s4, s5, e1⟩, e2⟩ := zz
          refine ⟨t.length - (i + b + (n + 1)), by omega, n + 1, 10 * v + (c - 48), if n = 0 then decide (c = 48) else z, s4, s5, e1, e2, by omega, by omega, ?_, ?_, fun _ b1 r' e => ?_, rfl⟩
          · rw [show b + (n + 1) = b + n + 1 from rfl, htk]
            by_cases n0 : n = 0
            · subst n0
              rw [if_pos rfl]
              by_cases b1 : b = 1
              · have nb : c ≠ 48 := fun z => by rcases nz with h | h; exact h.2 ⟨b1, z⟩; exact h.1 rfl
                rw [b1, Nat.add_zero, f45 b1]
                simp [nb]
              · rw [show b + 0 = 0 from by omega]
                simp
            · rw [if_neg n0]
              rcases nz with h | h
              · exact absurd h.1 n0
              · rw [h.2.2]
                symm
                rw [decide_eq_false_iff_not]
                intro e
                have := congrArg List.length e
                rw [List.length_append, fl n hn] at this
                simp at this; omega
          · rw [hdr, ← ec]
            conv => rhs; unfold dg
            rw [if_neg c59, if_pos (show isDig c = true ∧ (n = 0 ∨ (n < 100 ∧ z = false)) from ⟨dc, nz.elim (fun h => .inl h.1) fun h => .inr h.2⟩)]
          · by_cases n0 : n = 0
            · subst n0
              rw [b1, Nat.add_zero] at hr
              rw [hr] at e
              rcases nz with h | h
              · exact h.2 ⟨b1, by simpa using congrArg List.head? e⟩
              · exact h.1 rfl
            · exact n48 n0 b1 r' e
        refine mid_at (fun σ G1 => σ = [some (.str (S t)), some (.int (i : Nat)), some (.int (i + b : Nat)), some (.int (i + b + n : Nat)), some (.str (S [c])), some (.str (S ((t.drop i).take (b + n))))] ∧ G1 = G) ?_ ?_
        · simp only [tPar, tRet, tRetN, tSeq, C8.tCut, tNext, tAsg, gName, gNil, gCons, gTup, gFld, tIfS, tIf, tAndV, tOrV, tNotV, tAnd, tOr, tNot, tB, tTest, tOp, tUn, tCB, tCons, tNil, tVar, tC, tChain, tDrop, RS.tCallG, RS.tMethG, tMakeG, RS.tCallK, RS.tMakeK, tEqOwn, rI, rI0, rU, add_ii, add_ss, add_rr, mul_ii, mul_si, mul_ri, RS.eq_ii, RS.eq_ss, eq_bb, eq_nn, eq_sn, eq_ns, eq_in, eq_ni, eq_bn, eq_nb, eq_is, eq_si, eq_rr, ne_ii, ne_ss, ne_bb, ne_nn, ne_sn, ne_ns, ne_in, ne_ni, ne_is, ne_si, ne_rr, in_ss, in_r, nin_ss, nin_r, len_s, len_r, RS.ix_s, RS.ix_r, sl_s, sl_r, is_eq, tyN_n, tyN_b, tyN_i, tyN_s, tru_b, tru_i, tru_n, tSl, tPart, tNoPart, tPar, tPar3, tFmtZ, tFmt, tJs, tDGet, sDPut, sFld, tFld, tTup, tLst, tNever, isB,
  L2.start, List.map_cons, List.map_nil, List.length_cons, List.length_nil, Nat.reduceAdd, Nat.reduceSub, Nat.sub_self, List.replicate_zero, List.replicate_succ, List.append_nil, List.cons_append, List.nil_append, List.getElem?_cons_zero, List.getElem?_cons_succ, List.set_cons_zero, List.set_cons_succ, Option.some.injEq, exists_eq_left, exists_eq_left', exists_and_left, V.bl.injEq, V.int.injEq, V.str.injEq, V.ref.injEq, beq_self_eq_true, Bool.true_or, Bool.or_true, Bool.false_or, Bool.or_false, Bool.and_false, Bool.false_and, Bool.true_and, Bool.and_true, Bool.not_true, Bool.not_false, Bool.false_eq_true, if_true, if_false, ite_true, ite_false, true_and, and_true, and_assoc, String.reduceBEq, String.reduceEq, reduceIte, Bool.and_self, reduceCtorEq, false_and, and_false, exists_false, or_false, false_or, exists_const, iEnumS, iStr, iList, iTup, iRng1, iEnum, tFor_eq, tLc_eq, List.cons.injEq, wipe, not_true_eq_false, not_false_eq_true, upd_same, HO.ins.injEq, HO.tup.injEq, HO.lst.injEq, ofS_eq, lk_nil, lk_cons, pu_nil, pu_cons, sizeLine_eq, Nat.reduceLT, Nat.reduceLeDiff, Nat.reduceEqDiff, Nat.le_refl, decide_true, decide_false, tPr, dget_us, dput_us, vv_nil, vv_cons, RS.pk_nil, pk_one, RS.pk_cons, inr_eq, tDisp, tPairs, tBoolOwn, rBoolOwn, tBM, rAppend, ty_list, ty_str, rEqOwn, iEnumT, RS.tCallS, tM1, tDc_eq, tLock, tLockE, iKeys, tListEnum, rUpdate, tMkX0, tMkX1, tXfv, gSub, rSetL, List.getD_cons_zero, List.getD_cons_succ, tCMethS, ClX.tCVal, tXfa, tIxOwn, tInOwn, tPropG, tMethK, tMethP, tListGen, tDGet2, tDPop2, rNeD0, intA_i, intA_b, tRevL, sFldAug, tPm0, tPm1, tDIn, tDNotIn, tDNewK, RS.tMethS]
          refine ⟨by rw [S_len]; omega, by rw [S_len]; omega, ?_, ?_⟩
          · rw [sl_one, hr]; rfl
          · rw [Nat.add_assoc, sl_mid]
        rintro _ G1 ⟨rfl, rfl⟩
        walk_at "sx"
        rw [empty0, if_neg (by simp [S_eq]), digs, has_one, dig_in, dc, if_neg (by simp), zero1, if_neg (by simp only [S_eq, decide_eq_true_eq]; exact front)]
        refine ⟨by rw [S_len, S_len, fl n hn]; simp; omega, ?_⟩
        rw [S_cat, minus0, if_neg (by simp only [S_eq, decide_eq_true_eq]; exact n45), if_neg (by simp; omega)]
        exact ⟨by omega, _, rfl⟩
      · have fin : ∀ p, G p = none → Q (.ref p) (upd G p (.tup [.int (i + b + n : Nat), .int (i + b + n : Nat)])) := by
          by_cases k1 : b = 1 ∧ n = 0 ∧ ∃ r, t.drop (i + 1) = 48 :: r
          · obtain ⟨b1, n0, r, hr⟩ := k1
            subst n0
            subst b1
            exact fun p hp => q1 rfl r hr p _ (same_upd hp) upd_same
          · have h48 : b = 1 → ∀ r, t.drop (i + 1) ≠ 48 :: r := fun b1 r e => by
              by_cases n0 : n = 0
              · exact k1 ⟨b1, n0, r, e⟩
              · exact n48 n0 b1 r e
            have q := q2 h48
            have hbad : dg z n v (t.drop (i + b + n)) = .bad n := by
              cases hr : t.drop (i + b + n) with
              | nil => rfl
              | cons c r =>
                simp only [dg]
                rw [if_neg (fun y => ex ⟨by rw [hr, y.1]; rfl, y.2⟩), if_neg (fun y => good ⟨c, r, hr, y.1, ?_⟩)]
                by_cases n0 : n = 0
                · refine .inl ⟨n0, fun w => ?_⟩
                  subst n0
                  rw [w.1, w.2, Nat.add_zero] at hr
                  exact h48 w.1 r hr
                · exact .inr ⟨n0, y.2.resolve_left n0⟩
            rw [← ec, hbad] at q
            exact fun p hp => q p _ (same_upd hp) upd_same
        refine ⟨fun _ _ => False, fun _ _ z => z.elim, ?_⟩
        refine mid_at (fun σ G1 => σ = [some (.str (S t)), some (.int (i : Nat)), some (.int (i + b : Nat)), some (.int (i + b + n : Nat)), some (.str (S ((t.drop (i + b + n)).take 1))), some (.str (S ((t.drop i).take (b + n))))] ∧ G1 = G) ?_ ?_
        · simp only [tPar, tRet, tRetN, tSeq, C8.tCut, tNext, tAsg, gName, gNil, gCons, gTup, gFld, tIfS, tIf, tAndV, tOrV, tNotV, tAnd, tOr, tNot, tB, tTest, tOp, tUn, tCB, tCons, tNil, tVar, tC, tChain, tDrop, RS.tCallG, RS.tMethG, tMakeG, RS.tCallK, RS.tMakeK, tEqOwn, rI, rI0, rU, add_ii, add_ss, add_rr, mul_ii, mul_si, mul_ri, RS.eq_ii, RS.eq_ss, eq_bb, eq_nn, eq_sn, eq_ns, eq_in, eq_ni, eq_bn, eq_nb, eq_is, eq_si, eq_rr, ne_ii, ne_ss, ne_bb, ne_nn, ne_sn, ne_ns, ne_in, ne_ni, ne_is, ne_si, ne_rr, in_ss, in_r, nin_ss, nin_r, len_s, len_r, RS.ix_s, RS.ix_r, sl_s, sl_r, is_eq, tyN_n, tyN_b, tyN_i, tyN_s, tru_b, tru_i, tru_n, tSl, tPart, tNoPart, tPar, tPar3, tFmtZ, tFmt, tJs, tDGet, sDPut, sFld, tFld, tTup, tLst, tNever, isB,
  L2.start, List.map_cons, List.map_nil, List.length_cons, List.length_nil, Nat.reduceAdd, Nat.reduceSub, Nat.sub_self, List.replicate_zero, List.replicate_succ, List.append_nil, List.cons_append, List.nil_append, List.getElem?_cons_zero, List.getElem?_cons_succ, List.set_cons_zero, List.set_cons_succ, Option.some.injEq, exists_eq_left, exists_eq_left', exists_and_left, V.bl.injEq, V.int.injEq, V.str.injEq, V.ref.injEq, beq_self_eq_true, Bool.true_or, Bool.or_true, Bool.false_or, Bool.or_false, Bool.and_false, Bool.false_and, Bool.true_and, Bool.and_true, Bool.not_true, Bool.not_false, Bool.false_eq_true, if_true, if_false, ite_true, ite_false, true_and, and_true, and_assoc, String.reduceBEq, String.reduceEq, reduceIte, Bool.and_self, reduceCtorEq, false_and, and_false, exists_false, or_false, false_or, exists_const, iEnumS, iStr, iList, iTup, iRng1, iEnum, tFor_eq, tLc_eq, List.cons.injEq, wipe, not_true_eq_false, not_false_eq_true, upd_same, HO.ins.injEq, HO.tup.injEq, HO.lst.injEq, ofS_eq, lk_nil, lk_cons, pu_nil, pu_cons, sizeLine_eq, Nat.reduceLT, Nat.reduceLeDiff, Nat.reduceEqDiff, Nat.le_refl, decide_true, decide_false, tPr, dget_us, dput_us, vv_nil, vv_cons, RS.pk_nil, pk_one, RS.pk_cons, inr_eq, tDisp, tPairs, tBoolOwn, rBoolOwn, tBM, rAppend, ty_list, ty_str, rEqOwn, iEnumT, RS.tCallS, tM1, tDc_eq, tLock, tLockE, iKeys, tListEnum, rUpdate, tMkX0, tMkX1, tXfv, gSub, rSetL, List.getD_cons_zero, List.getD_cons_succ, tCMethS, ClX.tCVal, tXfa, tIxOwn, tInOwn, tPropG, tMethK, tMethP, tListGen, tDGet2, tDPop2, rNeD0, intA_i, intA_b, tRevL, sFldAug, tPm0, tPm1, tDIn, tDNotIn, tDNewK, RS.tMethS]
          refine ⟨by rw [S_len]; omega, by rw [S_len]; omega, ?_, ?_⟩
          · rw [sl_one]
          · rw [Nat.add_assoc, sl_mid]
        rintro _ G1 ⟨rfl, rfl⟩
        walk_at "sx"
        cases hr : t.drop (i + b + n) with
        | nil =>
          rw [empty0, if_pos (by simp [S_eq])]
          exact fin
        | cons c r =>
          rw [List.take_succ_cons, List.take_zero, empty0, if_neg (by simp [S_eq]), digs, has_one, dig_in]
          by_cases dc : isDig c = true
          · rw [dc, if_neg (by simp), zero1]
            by_cases z0 : (t.drop i).take (b + n) = [48]
            · rw [if_pos (by simp [S_eq, z0])]
              exact fin
            · rw [if_neg (by simp [S_eq, z0])]
              refine ⟨by rw [S_len, S_len, fl n hn]; simp; omega, ?_⟩
              rw [S_cat, minus0]
              by_cases y45 : (t.drop i).take (b + n) ++ [c] = [45, 48]
              · rw [if_pos (by simp only [S_eq, decide_eq_true_eq]; exact y45)]
                exact fin
              · rw [if_neg (by simp only [S_eq, decide_eq_true_eq]; exact y45)]
                have n100 : n = 100 := by
                  refine Classical.byContradiction fun nn => good ⟨c, r, hr, dc, ?_⟩
                  by_cases n0 : n = 0
                  · refine .inl ⟨n0, fun y => y45 ?_⟩
                    rw [n0, y.1, y.2, Nat.add_zero, f45 y.1]
                    rfl
                  · exact .inr ⟨n0, by omega, by rw [hz]; exact decide_eq_false z0⟩
                rw [if_pos (by simp; omega)]
                exact fin
          · rw [if_pos (by simpa using dc)]
            exact fin
  rintro _ G ⟨n, v, s4, s5, rfl, rfl, n48, ec⟩
  have q := q2 n48
  rw [ec] at q
  walk_at "sx"
  intro p hp
  exact q p _ (same_upd hp) (by rw [upd_same]; congr 3)
end


/-! one step of the law's scanner -/
/-- frames in the heap; the top one first -/
inductive FA (H : Hp) : List Addr → List V → List Fr → Prop
  | nil : FA H [] [] []
  | cons {f kn : Addr} {own : List Addr} {vs : List V} {F : List Fr} {fr : Fr} (h : H f = some (.lst [.str (S [fr.k]), .int (fr.m : Nat), .ref kn])) (h2 : H kn = some (.lst (fr.seen.map fun x => V.str (S x)))) (r : FA H own vs F) (n1 : f ∉ own) (n2 : kn ∉ own) (n3 : f ≠ kn) : FA H (f :: kn :: own) (.ref f :: vs) (fr :: F)
theorem FA.fr {H H' : Hp} {fp : List Addr} (s : Fr1 fp H H') : ∀ {own : List Addr} {vs : List V} {F : List Fr}, FA H own vs F → (∀ c ∈ own, c ∉ fp) → FA H' own vs F
  | _, _, _, .nil, _ => .nil
  | _, _, _, .cons h h2 r n1 n2 n3, o => .cons (s _ _ (o _ (by simp)) h) (s _ _ (o _ (by simp)) h2) (FA.fr s r fun c hc => o c (by simp [hc])) n1 n2 n3
theorem FA.live {H : Hp} : ∀ {own : List Addr} {vs : List V} {F : List Fr}, FA H own vs F → ∀ c ∈ own, H c ≠ none
  | _, _, _, .nil, c, hc => by cases hc
  | _, _, _, .cons h h2 r _ _ _, c, hc => by
    simp only [List.mem_cons] at hc
    rcases hc with rfl | rfl | hc
    · rw [h]; simp
    · rw [h2]; simp
    · exact r.live c hc
theorem FA.len {H : Hp} : ∀ {own : List Addr} {vs : List V} {F : List Fr}, FA H own vs F → vs.length = F.length
  | _, _, _, .nil => rfl
  | _, _, _, .cons _ _ r _ _ _ => by simp [r.len]
theorem none_of_same {H H' : Hp} {a : Addr} (s : Same H H') (h : H' a = none) : H a = none := by
  cases e : H a with
  | none => rfl
  | some o => rw [s _ _ e] at h; cases h
theorem in_strs (x : List Nat) : ∀ seen : List (List Nat), inV (.str (S x)) (seen.map fun y => V.str (S y)) = decide (x ∈ seen)
  | [] => by simp [inV]
  | y :: seen => by
    have h := in_strs x seen
    unfold inV at h ⊢
    simp only [List.map_cons, List.any_cons, h]
    have e : eqV (V.str (S y)) (V.str (S x)) = decide (y = x) := by
      show (decide (S y = S x)) = _
      rw [decide_eq_decide, S_eq]
    rw [e]
    by_cases h1 : x = y
    · simp [h1]
    · simp [h1, Ne.symm h1, fun z : y = x => h1 z.symm]
theorem flat_strs : ∀ seen : List (List Nat), (seen.map fun y => V.str (S y)).all flatV = true := fun seen => by
  rw [List.all_eq_true]
  intro v hv
  obtain ⟨y, _, rfl⟩ := List.mem_map.mp hv
  rfl
/-- the signs that may stand -/
def allowed (F : List Fr) : List Nat := if wantsK F = true then [115] else if F.length = 20 then [110, 116, 102, 105, 115] else [110, 116, 102, 105, 115, 108, 117, 100]
theorem allowed_in (F : List Fr) (c : Nat) : decide (c ∈ allowed F) = okSign F c := by
  unfold allowed okSign
  by_cases w : wantsK F = true
  · simp [w]
  · by_cases l : F.length = 20
    · simp [w, l]
    · simp [w, l, Bool.decide_or, Bool.or_assoc]
theorem l_s : Str.ofString "s" = S [115] := by decide +kernel
theorem l_ntf : Str.ofString "ntf" = S [110, 116, 102] := by decide +kernel
theorem l_i : Str.ofString "i" = S [105] := by decide +kernel
theorem l_d : Str.ofString "d" = S [100] := by decide +kernel
theorem l_ntfis : Str.ofString "ntfis" = S [110, 116, 102, 105, 115] := by decide +kernel
theorem l_all : Str.ofString "ntfislud" = S [110, 116, 102, 105, 115, 108, 117, 100] := by decide +kernel
theorem atI_last' (xs : List V) (x : V) : atI (xs ++ [x]) (-1) = some x := by
  unfold atI ixN
  rw [if_neg (by decide), if_pos (by simp; omega), Option.bind_some]
  have e : (-1 + (((xs ++ [x]).length : Nat) : Int)).toNat = xs.length := by simp; omega
  rw [e]
  simp
section
variable {g : Wd} {f : Addr} {fd : FuncData}
theorem sc_l_item : FnScope ["_law_text", "_law_at", "_law_frames", "_law_wants_key", "_law_sign", "_law_some", "_law_size", "_law_end", "_law_known"] ["_law_text", "_law_at", "_law_frames", "_law_wants_key"] (defScope s_l_item) := ⟨rfl, rfl, rfl, by decide +kernel, rfl, by decide +kernel, by decide +kernel⟩
def sp_item : Sp := S4 fun x a z w H Q _ => ∃ t i L own vs F, x = .str (S t) ∧ a = .int (i : Nat) ∧ z = .ref L ∧ w = .bl (wantsK F) ∧ H L = some (.lst vs.reverse) ∧ FA H own vs F ∧ L ∉ own ∧ F.length ≤ 20 ∧ t.length ≤ 10000000 ∧ i ≤ t.length ∧ (∀ f G, F = f :: G → f.m ≠ 0) ∧ (∀ fr ∈ F, fr.seen.length ≤ i) ∧ match item (t.drop i) F with
  | .bad k => ∀ p x H', Fr1 (L :: own) H H' → H' p = some (.tup [x, .int (i + k : Nat)]) → Q (.ref p) H'
  | .ok F' k => ∀ p H' own' vs', Fr1 (L :: own) H H' → H' p = some (.tup [.int (i + k : Nat), .int (-1)]) → H' L = some (.lst vs'.reverse) → FA H' own' vs' F' → L ∉ own' → (∀ c ∈ own', c ∈ own ∨ H c = none) → Q (.ref p) H'
theorem ok_item (F : Df g.K "_law_item" "_law_item" s_l_item f fd .none) (T : Txt2 g) (F_l_number : Kn g "_law_number" 1 ["_law_text", "_law_at"] [] sp_lnum) (F_l_count : Kn g "_law_count" 1 ["_law_text", "_law_at"] [] sp_lcount) : FnG g 2 f fd ["_law_text", "_law_at", "_law_frames", "_law_wants_key"] sp_item := by
  refine F.ok sc_l_item (fun vs H Q E h => S4.len h) (fun cdv A outer s H vs Q E hr h => ?_)
  obtain ⟨_, _, _, _, rfl, t, i, L, own, vs, F, rfl, rfl, rfl, rfl, hL, fa, nL, fl, hl, hi, lv, sn, q⟩ := h
  refine ⟨_, (pss_mid (ps_set (i := 4) sc_l_item.nd rfl (Or.inl rfl) (pe_slice (o_sl (K := g.K)) (pv 0) (po_some (pv 1)) (po_some (pe_op (o_add (K := g.K)) (pv 1) pe_int))))
      (pss_mid (ps_set (i := 5) sc_l_item.nd rfl (Or.inl rfl) (pe_ifExp (t_truth (K := g.K) (pv 3)) pe_str (pe_ifExp (pt_cmpR (o_eq (K := g.K) hr) (pe_callB (c_len (K := g.K)) (by rfl) T.b_len bb_len (pa_cons (pv 2) pa_nil)) pe_int (nomark _)) pe_str pe_str)))
      (pss_mid (ps_if (PW.pt (pw_or (pt_cmpR (o_eq (K := g.K) hr) (pv 4) pe_str (nomark _)) (pw_or1 (pt_cmpR (o_nin (K := g.K)) (pv 4) (pv 5) (by rfl))))) (pss_one (ps_ret (pe_tup (pa_cons (pv 1) (pa_cons (pv 1) pa_nil))))) pss_nil)
      (pss_mid (ps_if (pt_cmpR (op_neE (K := g.K) hr) (pv 2) (pe_lst pa_nil) (nomark _)) (pss_one (ps_asg (pe_op op_sub (pe_ix (o_ix (K := g.K)) (pe_ix (o_ix (K := g.K)) (pv 2) (pe_un un_neg pe_int) (fun _ _ => rfl)) pe_int (fun _ _ => rfl)) pe_int) (pg_sub (pe_ix (o_ix (K := g.K)) (pv 2) (pe_un un_neg pe_int) (fun _ _ => rfl)) pe_int set_list))) pss_nil)
      (pss_mid (ps_if (pt_cmpR (o_in (K := g.K)) (pv 4) pe_str (by rfl)) (pss_one (ps_ret (pe_tup (pa_cons (pe_op (o_add (K := g.K)) (pv 1) pe_int) (pa_cons (pe_un un_neg pe_int) pa_nil))))) pss_nil)
      (pss_mid (ps_if (pt_cmpR (o_eq (K := g.K) hr) (pv 4) pe_str (nomark _)) (pss_one (ps_ret (pe_callG F_l_number (hr.mono (by first | decide | omega)) tkD (pa_cons (pv 0) (pa_cons (pe_op (o_add (K := g.K)) (pv 1) pe_int) pa_nil))))) pss_nil)
      (pss_mid (ps_asg (pe_callG F_l_count (hr.mono (by first | decide | omega)) tkD (pa_cons (pv 0) (pa_cons (pe_op (o_add (K := g.K)) (pv 1) pe_int) pa_nil))) (g_tup (K := g.K) (n := 2) (pgs_cons (pg_name (i := 6) sc_l_item.nd rfl (.inl rfl)) (pgs_cons (pg_name (i := 7) sc_l_item.nd rfl (.inl rfl)) pgs_nil))))
      (pss_mid (ps_if (PW.pt (pw_or (pt_cmpR op_lt (pv 6) pe_int (nomark _)) (pw_or1 (PW.pt (pw_and (pt_cmpR (o_eq (K := g.K) hr) (pv 4) pe_str (nomark _)) (pw_and1 (pt_cmpR op_gt (pe_op (o_add (K := g.K)) (pv 7) (pv 6)) (pe_callB (c_len (K := g.K)) (by rfl) T.b_len bb_len (pa_cons (pv 0) pa_nil)) (nomark _)))))))) (pss_one (ps_ret (pe_ifExp (pt_cmpR op_lt (pv 6) pe_int (nomark _)) (pe_tup (pa_cons (pv 7) (pa_cons (pv 7) pa_nil))) (pe_tup (pa_cons (pv 7) (pa_cons (pe_callB (c_len (K := g.K)) (by rfl) T.b_len bb_len (pa_cons (pv 0) pa_nil)) pa_nil)))))) pss_nil)
      (pss_mid (ps_if (pt_cmpR (o_ne (K := g.K) hr) (pv 4) pe_str (nomark _)) (pss_cons (ps_expr (e_bm (K := g.K) PySem.F.plainAttrs_list PySem.F.slot_list_append PySem.F.type_list_append mt_append (pv 2) (pa_cons (pe_lst (pa_cons (pv 4) (pa_cons (pe_op o_mul (pv 6) (pe_ifExp (pt_cmpR (o_eq (K := g.K) hr) (pv 4) pe_str (nomark _)) pe_int pe_int)) (pa_cons (pe_lst pa_nil) pa_nil)))) pa_nil)))
      (pss_one (ps_ret (pe_tup (pa_cons (pv 7) (pa_cons (pe_un un_neg pe_int) pa_nil)))))) pss_nil)
      (pss_mid (ps_set (i := 8) sc_l_item.nd rfl (Or.inl rfl) (pe_ifExp (t_truth (K := g.K) (pv 3)) (pe_ix (o_ix (K := g.K)) (pe_ix (o_ix (K := g.K)) (pv 2) (pe_un un_neg pe_int) (fun _ _ => rfl)) pe_int (fun _ _ => rfl)) (pe_lst pa_nil)))
      (pss_mid (ps_if (pt_cmpR (o_in (K := g.K)) (pe_slice (o_sl (K := g.K)) (pv 0) (po_some (pv 7)) (po_some (pe_op (o_add (K := g.K)) (pv 7) (pv 6)))) (pv 8) (by rfl)) (pss_one (ps_ret (pe_tup (pa_cons (pv 7) (pa_cons (pe_op op_sub (pe_op (o_add (K := g.K)) (pv 7) (pv 6)) pe_int) pa_nil))))) pss_nil)
      (pss_mid (ps_expr (e_bm (K := g.K) PySem.F.plainAttrs_list PySem.F.slot_list_append PySem.F.type_list_append mt_append (pv 8) (pa_cons (pe_slice (o_sl (K := g.K)) (pv 0) (po_some (pv 7)) (po_some (pe_op (o_add (K := g.K)) (pv 7) (pv 6)))) pa_nil)))
      (pss_one (ps_ret (pe_tup (pa_cons (pe_op (o_add (K := g.K)) (pv 7) (pv 6)) (pa_cons (pe_un un_neg pe_int) pa_nil))))))))))))))))), ?_⟩
  refine mid_one [some (.str (S t)), some (.int (i : Nat)), some (.ref L), some (.bl (wantsK F)), some (.str (S ((t.drop i).take 1))), none, none, none, none] (fun G => G = H) ?_ ?_
  · walk_at "sx"
    refine ⟨by rw [S_len]; omega, ?_⟩
    rw [sl_one]
  intro G e0
  rw [e0]; clear e0 G
  refine mid_one [some (.str (S t)), some (.int (i : Nat)), some (.ref L), some (.bl (wantsK F)), some (.str (S ((t.drop i).take 1))), some (.str (S (allowed F))), none, none, none] (fun G => G = H) ?_ ?_
  · walk_at "sx"
    unfold allowed
    by_cases w : wantsK F = true
    · rw [if_pos w, if_pos w]; exact l_s
    · rw [if_neg w, if_neg w]
      refine .inl ⟨_, .inl (SqL.of hL), ?_⟩
      rw [List.length_reverse, fa.len]
      by_cases l : F.length = 20
      · rw [if_pos (by simp [l]), if_pos l]; exact l_ntfis
      · rw [if_neg (by simp; omega), if_neg l]; exact l_all
  intro G e0
  rw [e0]; clear e0 G
  cases hr : t.drop i with
  | nil =>
    rw [hr] at q
    refine mid_at (fun _ _ => False) ?_ (fun _ _ z => z.elim)
    walk_at "sx"
    rw [List.take_nil, empty0, if_pos (by simp [S_eq])]
    exact fun p hp => q p _ _ (Fr1.of (same_upd hp)) upd_same
  | cons c r =>
  rw [hr] at q
  by_cases ok : okSign F c = true
  rotate_left
  · refine mid_at (fun _ _ => False) ?_ (fun _ _ z => z.elim)
    walk_at "sx"
    have ok0 : okSign F c = false := by simpa using ok
    rw [item_no ok0] at q
    rw [List.take_succ_cons, List.take_zero, empty0, if_neg (by simp [S_eq]), has_one, allowed_in, ok0, if_pos (by simp)]
    exact fun p hp => q p _ _ (Fr1.of (same_upd hp)) upd_same
  refine mid_one [some (.str (S t)), some (.int (i : Nat)), some (.ref L), some (.bl (wantsK F)), some (.str (S [c])), some (.str (S (allowed F))), none, none, none] (fun G => G = H) ?_ ?_
  · walk_at "sx"
    rw [List.take_succ_cons, List.take_zero, empty0, if_neg (by simp [S_eq]), has_one, allowed_in, ok, if_neg (by simp)]
  intro G e0
  rw [e0]; clear e0 G
  refine mid_one [some (.str (S t)), some (.int (i : Nat)), some (.ref L), some (.bl (wantsK F)), some (.str (S [c])), some (.str (S (allowed F))), none, none, none] (fun G => Fr1 own H G ∧ FA G own vs (dec F)) ?_ ?_
  · walk_at "sx"
    intro p hp
    have sp := same_upd (o := HO.lst []) hp
    refine ⟨L, p, vs.reverse, [], rfl, rfl, SqL.of (sp _ _ hL), SqL.of upd_same, .inr rfl, _, rfl, ?_⟩
    cases fa with
    | nil =>
      rw [if_neg (by simp)]
      exact ⟨Fr1.of sp, .nil⟩
    | @cons f0 kn own vs F fr h h2 r0 n1 n2 n3 =>
      rw [if_pos (by simp)]
      have m0 := lv fr F rfl
      have e0 : atI (V.ref f0 :: vs).reverse (-1) = some (.ref f0) := by rw [List.reverse_cons]; exact atI_last' _ _
      refine ⟨_, .inl (SqL.of (sp _ _ hL)), _, e0, ?_⟩
      show rIxU g.K (.ref f0) (.int 1) _ _
      rw [RS.ix_r]
      refine ⟨_, .inl (SqL.of (sp _ _ h)), _, atI_nat (j := 1) rfl, _, rfl, _, .inl (SqL.of (sp _ _ hL)), _, e0, f0, rfl, _, sp _ _ h, 1, rfl, fun z o n e => ?_, ?_⟩
      · rw [upd_ne (fun y => n (by simp [y]))]
        exact sp _ _ e
      · have fr1 : Fr1 [f0] H (upd (upd H p (.lst [])) f0 (.lst ([V.str (S [fr.k]), .int (fr.m : Nat), .ref kn].set 1 (.int (((fr.m : Nat) : Int) - 1))))) := fun z o n e => by
          rw [upd_ne (fun y => n (by simp [y]))]
          exact sp _ _ e
        refine .cons ?_ (fr1 _ _ (by simp; exact Ne.symm n3) h2) (r0.fr fr1 fun z hz y => n1 (by rw [← List.mem_singleton.mp y]; exact hz)) n1 n2 n3
        rw [upd_same]
        have e2 : ((fr.m : Nat) : Int) - 1 = ((fr.m - 1 : Nat) : Int) := by omega
        rw [e2]
        rfl
  rintro G ⟨frG, faG⟩
  have hLG : G L = some (.lst vs.reverse) := frG _ _ nL hL
  have di : t.drop (i + 1) = r := by
    have : t.drop (i + 1) = (t.drop i).drop 1 := by rw [List.drop_drop]
    rw [this, hr]; rfl
  have il : i + 1 ≤ t.length := by
    have := congrArg List.length hr
    simp at this; omega
  have wkf : c ≠ 115 → wantsK F = false := fun n => by
    cases w : wantsK F with
    | false => rfl
    | true => unfold okSign at ok; rw [if_pos w] at ok; exact absurd (by simpa using ok) n
  have frL : ∀ {H'}, Same G H' → Fr1 (L :: own) H H' := fun s z o n e => s _ _ (frG _ _ (fun y => n (List.mem_cons_of_mem _ y)) e)
  refine mid_one [some (.str (S t)), some (.int (i : Nat)), some (.ref L), some (.bl (wantsK F)), some (.str (S [c])), some (.str (S (allowed F))), none, none, none] (fun G' => G' = G ∧ ¬ (c = 110 ∨ c = 116 ∨ c = 102)) ?_ ?_
  · walk_at "sx"
    rw [l_ntf, has_one]
    by_cases lf : c = 110 ∨ c = 116 ∨ c = 102
    · rw [if_pos (by simpa using lf)]
      rw [item_leaf (wkf (by omega)) lf] at q
      intro p hp
      have sp := same_upd (o := HO.tup [V.int ((i : Nat) + 1), .int (-1)]) hp
      exact q p _ own vs (frL sp) (by rw [upd_same]; congr 3) (sp _ _ hLG) (faG.fr (fp := []) (Fr1.of sp) (by simp)) nL fun c hc => .inl hc
    · rw [if_neg (by simpa using lf)]
      exact fun z => lf z
  rintro G' ⟨e0, nleaf⟩
  rw [e0]; clear e0 G'
  refine mid_one [some (.str (S t)), some (.int (i : Nat)), some (.ref L), some (.bl (wantsK F)), some (.str (S [c])), some (.str (S (allowed F))), none, none, none] (fun G' => G' = G ∧ c ≠ 105) ?_ ?_
  · walk_at "sx"
    rw [l_i]
    by_cases ci : c = 105
    · subst ci
      rw [if_pos (by simp [S_eq])]
      rw [item_int (wkf (by decide))] at q
      refine ⟨_, _, rfl, t, i + 1, rfl, rfl, hl, il, ?_⟩
      rw [di]
      cases hg : ig r with
      | bad k =>
        rw [hg] at q
        intro p H' s e
        exact q p _ H' (frL s) (by rw [e, Nat.add_assoc])
      | ok v k =>
        rw [hg] at q
        intro p H' s e
        exact q p H' own vs (frL s) (by rw [e, Nat.add_assoc]) (s _ _ hLG) (faG.fr (fp := []) (Fr1.of s) (by simp)) nL fun c hc => .inl hc
    · rw [if_neg (by simp [S_eq, ci])]
      exact fun z => ci z
  rintro G' ⟨e0, nint⟩
  rw [e0]; clear e0 G'
  have cc : c = 115 ∨ c = 108 ∨ c = 117 ∨ c = 100 := by
    have : c ∈ allowed F := by have := allowed_in F c; rw [ok] at this; exact of_decide_eq_true this
    unfold allowed at this
    split at this
    · simp at this; omega
    · split at this <;> (simp at this; omega)
  have nl : F.length = 20 → c = 115 := fun l => by
    have : c ∈ allowed F := by have := allowed_in F c; rw [ok] at this; exact of_decide_eq_true this
    unfold allowed at this
    rw [l] at this
    split at this
    · simpa using this
    · simp at this; omega
  have wk115 : wantsK F = true → c = 115 := fun w => by
    refine Classical.byContradiction fun n => ?_
    rw [wkf n] at w; cases w
  cases hc : ct 0 0 r with
  | bad k =>
    have q' : ∀ p x H', Fr1 (L :: own) H H' → H' p = some (.tup [x, .int (i + (1 + k) : Nat)]) → Q (.ref p) H' := by
      by_cases c5 : c = 115
      · subst c5
        have hrs : rs r = .bad k := by unfold rs; rw [hc]
        cases w : wantsK F with
        | false => rw [item_str w, hrs] at q; exact q
        | true =>
          have : item (115 :: r) F = .bad (1 + k) := by
            show (if okSign F 115 = false then _ else _) = _
            rw [if_neg (by rw [ok]; simp), if_neg (by decide), if_neg (by decide), if_pos rfl, hrs]
          rw [this] at q; exact q
      · rw [item_box (wkf c5) (fun l => c5 (nl l)) (by omega), hc] at q
        exact q
    refine mid_at (fun σ X => σ = [some (.str (S t)), some (.int (i : Nat)), some (.ref L), some (.bl (wantsK F)), some (.str (S [c])), some (.str (S (allowed F))), some (.int (-1)), some (.int (i + 1 + k : Nat)), none] ∧ Same G X) ?_ ?_
    · walk_at "sx"
      refine ⟨_, _, rfl, t, i + 1, rfl, rfl, hl, il, ?_⟩
      rw [di, hc]
      intro p H' s e
      exact ⟨p, rfl, _, SqT.of e, rfl, _, _, rfl, _, _, rfl, rfl, rfl, rfl, s⟩
    rintro _ X ⟨rfl, sX⟩
    refine mid_at (fun _ _ => False) ?_ (fun _ _ z => z.elim)
    walk_at "sx"
    intro p hp
    have sp := same_upd (o := HO.tup [V.int (i + 1 + k : Nat), .int (i + 1 + k : Nat)]) hp
    exact q' p _ _ (frL (sX.trans sp)) (by rw [upd_same, Nat.add_assoc])
  | ok m k =>
    have kl := (ct_len hc).1
    have m1 := (ct_text hc).2
    refine mid_at (fun σ X => σ = [some (.str (S t)), some (.int (i : Nat)), some (.ref L), some (.bl (wantsK F)), some (.str (S [c])), some (.str (S (allowed F))), some (.int (m : Nat)), some (.int (i + 1 + k : Nat)), none] ∧ Same G X) ?_ ?_
    · walk_at "sx"
      refine ⟨_, _, rfl, t, i + 1, rfl, rfl, hl, il, ?_⟩
      rw [di, hc]
      intro p H' s e
      exact ⟨p, rfl, _, SqT.of e, rfl, _, _, rfl, _, _, rfl, rfl, rfl, rfl, s⟩
    rintro _ X ⟨rfl, sX⟩
    refine mid_at (fun σ X' => σ = [some (.str (S t)), some (.int (i : Nat)), some (.ref L), some (.bl (wantsK F)), some (.str (S [c])), some (.str (S (allowed F))), some (.int (m : Nat)), some (.int (i + 1 + k : Nat)), none] ∧ X' = X ∧ ¬ (c = 115 ∧ r.length < k + m)) ?_ ?_
    · walk_at "sx"
      have tl : t.length = i + 1 + r.length := by
        have := congrArg List.length hr
        simp at this; omega
      rw [if_neg (by simp), l_s]
      by_cases c5 : c = 115
      · rw [if_pos (by simp [S_eq, c5])]
        refine ⟨by rw [S_len]; omega, ?_⟩
        rw [S_len, tl]
        by_cases big : r.length < k + m
        · rw [if_pos (by simp; omega), if_neg (by simp)]
          refine ⟨by omega, fun p hp => ?_⟩
          have hrs : rs r = .bad r.length := by
            unfold rs
            rw [hc]
            simp only
            rw [if_neg (by rw [List.length_drop]; omega)]
          subst c5
          have sp := same_upd (o := HO.tup [V.int (i + 1 + k : Nat), .int (i + 1 + r.length : Nat)]) hp
          have q' : ∀ p x H', Fr1 (L :: own) H H' → H' p = some (.tup [x, .int (i + (1 + r.length) : Nat)]) → Q (.ref p) H' := by
            cases w : wantsK F with
            | false => rw [item_str w, hrs] at q; exact q
            | true =>
              have : item (115 :: r) F = .bad (1 + r.length) := by
                show (if okSign F 115 = false then _ else _) = _
                rw [if_neg (by rw [ok]; simp), if_neg (by decide), if_neg (by decide), if_pos rfl, hrs]
              rw [this] at q; exact q
          exact q' p _ _ (frL (sX.trans sp)) (by rw [upd_same, Nat.add_assoc i 1 r.length])
        · rw [if_neg (by simp; omega)]
          exact fun z => big z.2
      · rw [if_neg (by simp [S_eq, c5])]
        exact fun z => c5 z.1
    rintro _ X' ⟨rfl, e0, room⟩
    rw [e0]; clear e0 X'
    refine mid_at (fun σ X' => σ = [some (.str (S t)), some (.int (i : Nat)), some (.ref L), some (.bl (wantsK F)), some (.str (S [c])), some (.str (S (allowed F))), some (.int (m : Nat)), some (.int (i + 1 + k : Nat)), none] ∧ X' = X ∧ c = 115) ?_ ?_
    · walk_at "sx"
      rw [l_s]
      by_cases c5 : c = 115
      · rw [if_neg (by simp [S_eq, c5])]
        exact c5
      · rw [if_pos (by simp [S_eq, c5])]
        have hLX := sX _ _ hLG
        have faX : FA X own vs (dec F) := faG.fr (fp := []) (Fr1.of sX) (by simp)
        refine ⟨⟨_, SqL.of hLX⟩, ?_⟩
        rw [item_box (wkf c5) (fun l => c5 (nl l)) (by omega), hc] at q
        have fin : ∀ (mm : Nat) (p1 p2 p3 : Addr), mm = (if c = 100 then m * 2 else m) → X p1 = none → upd X p1 (.lst []) p2 = none → (upd (upd (upd X p1 (.lst [])) p2 (.lst [V.str (S [c]), .int (mm : Nat), .ref p1])) L (.lst (vs.reverse ++ [V.ref p2]))) p3 = none →
            Q (.ref p3) (upd (upd (upd (upd X p1 (.lst [])) p2 (.lst [V.str (S [c]), .int (mm : Nat), .ref p1])) L (.lst (vs.reverse ++ [V.ref p2]))) p3 (.tup [V.int (i + 1 + k : Nat), .int (-1)])) := fun mm p1 p2 p3 em h1 h2 h3 => by
          have q2 := q
          dsimp only at q2
          rw [← em] at q2
          have s1 := same_upd (o := HO.lst []) h1
          have s2 := same_upd (o := HO.lst [V.str (S [c]), V.int (mm : Nat), V.ref p1]) h2
          have e1 := s2 _ _ (show upd X p1 (HO.lst []) p1 = some (HO.lst []) from upd_same)
          have e2 : upd (upd X p1 (HO.lst [])) p2 (HO.lst [V.str (S [c]), V.int (mm : Nat), V.ref p1]) p2 = some (HO.lst [V.str (S [c]), V.int (mm : Nat), V.ref p1]) := upd_same
          have s12 := s1.trans s2
          have p21 : p2 ≠ p1 := fun z => by rw [z, upd_same] at h2; cases h2
          have p2n : X p2 = none := none_of_same s1 h2
          generalize upd (upd X p1 (HO.lst [])) p2 (HO.lst [V.str (S [c]), V.int (mm : Nat), V.ref p1]) = Y at h3 e1 e2 s12 ⊢
          have L1 : L ≠ p1 := fun z => by rw [z, h1] at hLX; cases hLX
          have L2' : L ≠ p2 := fun z => by rw [z, p2n] at hLX; cases hLX
          have f1 : Fr1 [L] Y (upd Y L (.lst (vs.reverse ++ [V.ref p2]))) := Fr1.upd (by simp)
          have eL : upd Y L (.lst (vs.reverse ++ [V.ref p2])) L = some (.lst (vs.reverse ++ [V.ref p2])) := upd_same
          have s3 := same_upd (o := HO.tup [V.int (i + 1 + k : Nat), .int (-1)]) h3
          have o1 : p1 ∉ own := fun z => faX.live p1 z h1
          have o2 : p2 ∉ own := fun z => faX.live p2 z p2n
          have faY : FA Y own vs (dec F) := faX.fr (fp := []) (Fr1.of s12) (by simp)
          have fa2 : FA Y (p2 :: p1 :: own) (.ref p2 :: vs) (⟨c, mm, []⟩ :: dec F) := .cons e2 e1 faY o2 o1 p21
          have nL' : L ∉ p2 :: p1 :: own := by
            simp only [List.mem_cons, not_or]
            exact ⟨L2', L1, nL⟩
          have fa3 := (fa2.fr f1 (fun z hz y => nL' (by rw [← List.mem_singleton.mp y]; exact hz))).fr (fp := []) (Fr1.of s3) (by simp)
          refine q2 p3 _ (p2 :: p1 :: own) (.ref p2 :: vs) (fun z o n e => s3 _ _ (f1 _ _ (fun y => n (by simp [List.mem_singleton.mp y])) (s12 _ _ (sX _ _ (frG _ _ (fun y => n (List.mem_cons_of_mem _ y)) e))))) (by rw [upd_same, Nat.add_assoc]) (by rw [List.reverse_cons]; exact s3 _ _ eL) fa3 nL' fun z hz => ?_
          simp only [List.mem_cons] at hz
          have back : X z = none → z ∉ own → H z = none := fun n no => by
            cases e : H z with
            | none => rfl
            | some o => rw [sX _ _ (frG _ _ no e)] at n; cases n
          rcases hz with rfl | rfl | hz
          · exact .inr (back p2n o2)
          · exact .inr (back h1 o1)
          · exact .inl hz
        rw [l_d]
        have keep : ∀ {x1 x2 : HO} {p1 p2 : Addr}, X p1 = none → upd X p1 x1 p2 = none → upd (upd X p1 x1) p2 x2 L = some (.lst vs.reverse) := fun h1 h2 => (same_upd h2) _ _ ((same_upd h1) _ _ hLX)
        have vl : vs.reverse.length < 16777216 := by rw [List.length_reverse, fa.len]; omega
        by_cases c1 : c = 100
        · rw [if_pos (by simp [S_eq, c1])]
          refine ⟨.inr ⟨by decide, by decide⟩, fun p1 h1 p2 h2 => ⟨vs.reverse, keep h1 h2, vl, fun p3 h3 => ?_⟩⟩
          have e : ((m : Nat) : Int) * 2 = ((m * 2 : Nat) : Int) := by omega
          rw [e] at h3 ⊢
          exact fin (m * 2) p1 p2 p3 (by rw [if_pos c1]) h1 h2 h3
        · rw [if_neg (by simp [S_eq, c1])]
          refine ⟨.inr ⟨by decide, by decide⟩, fun p1 h1 p2 h2 => ⟨vs.reverse, keep h1 h2, vl, fun p3 h3 => ?_⟩⟩
          have e : ((m : Nat) : Int) * 1 = ((m : Nat) : Int) := by omega
          rw [e] at h3 ⊢
          exact fin m p1 p2 p3 (by rw [if_neg c1]) h1 h2 h3
    rintro _ X' ⟨rfl, e0, c5⟩
    rw [e0]; clear e0 X'
    subst c5
    have hLX := sX _ _ hLG
    have faX : FA X own vs (dec F) := faG.fr (fp := []) (Fr1.of sX) (by simp)
    have frX : Fr1 (L :: own) H X := frL sX
    have rm : k + m ≤ r.length := Nat.le_of_not_lt fun z => room ⟨rfl, z⟩
    have hrs : rs r = .ok ((r.drop k).take m) (k + m) := by
      unfold rs
      rw [hc]
      simp only
      rw [if_pos (by rw [List.length_drop]; omega)]
    have sl : cutS (S t) (some ((i + 1 + k : Nat) : Int)) (some (((i + 1 + k : Nat) : Int) + ((m : Nat) : Int))) = S ((r.drop k).take m) := by
      have := sl_mid t (i + 1 + k) m
      rw [show ((i + 1 + k + m : Nat) : Int) = ((i + 1 + k : Nat) : Int) + ((m : Nat) : Int) from by omega] at this
      rw [this, ← List.drop_drop, di]
    cases w : wantsK F with
    | false =>
      rw [item_str w, hrs] at q
      refine mid_at (fun σ Y => ∃ p, σ = [some (.str (S t)), some (.int (i : Nat)), some (.ref L), some (.bl false), some (.str (S [115])), some (.str (S (allowed F))), some (.int (m : Nat)), some (.int (i + 1 + k : Nat)), some (.ref p)] ∧ Same X Y ∧ X p = none ∧ Y p = some (.lst [])) ?_ ?_
      · walk_at "sx"
        exact fun p hp => ⟨same_upd hp, hp⟩
      rintro _ Y ⟨p, rfl, sY, np, ep⟩
      refine mid_at (fun σ Z => σ = [some (.str (S t)), some (.int (i : Nat)), some (.ref L), some (.bl false), some (.str (S [115])), some (.str (S (allowed F))), some (.int (m : Nat)), some (.int (i + 1 + k : Nat)), some (.ref p)] ∧ Same Y Z) ?_ ?_
      · walk_at "sx"
        refine ⟨by rw [S_len]; omega, _, .inl (SqL.of ep), rfl, rfl, ?_⟩
        rw [if_neg (by simp [inV])]
        exact Same.refl _
      rintro _ Z ⟨rfl, sZ⟩
      refine mid_at (fun σ W => σ = [some (.str (S t)), some (.int (i : Nat)), some (.ref L), some (.bl false), some (.str (S [115])), some (.str (S (allowed F))), some (.int (m : Nat)), some (.int (i + 1 + k : Nat)), some (.ref p)] ∧ Same X W) ?_ ?_
      · walk_at "sx"
        refine ⟨⟨_, SqL.of (sZ _ _ ep)⟩, by rw [S_len]; omega, _, sZ _ _ ep, by decide, fun z o e => ?_⟩
        rw [upd_ne (fun y => by rw [y, np] at e; cases e)]
        exact sZ _ _ (sY _ _ e)
      rintro _ W ⟨rfl, sW⟩
      walk_at "sx"
      intro p3 hp3
      have s3 := sW.trans (same_upd (o := HO.tup [V.int ((i + 1 + k : Nat) + (m : Nat)), .int (-1)]) hp3)
      have e3 : ((i + 1 + k : Nat) : Int) + (m : Nat) = ((i + (1 + (k + m)) : Nat) : Int) := by omega
      exact q p3 _ own vs (frL (sX.trans s3)) (by rw [upd_same, e3]) (s3 _ _ hLX) (faX.fr (fp := []) (Fr1.of s3) (by simp)) nL fun c hc => .inl hc
    | true =>
      cases fa with
      | nil => cases w
      | @cons f0 kn own vs F fr h h2 r0 n1 n2 n3 =>
        refine mid_at (fun σ Y => σ = [some (.str (S t)), some (.int (i : Nat)), some (.ref L), some (.bl true), some (.str (S [115])), some (.str (S (allowed (fr :: F)))), some (.int (m : Nat)), some (.int (i + 1 + k : Nat)), some (.ref kn)] ∧ Y = X) ?_ ?_
        · walk_at "sx"
          have e0 : atI (V.ref f0 :: vs).reverse (-1) = some (.ref f0) := by rw [List.reverse_cons]; exact atI_last' _ _
          cases faX with
          | cons g1 g2 g3 _ _ _ =>
            refine ⟨_, .inl (SqL.of hLX), _, e0, ?_⟩
            show rIxU g.K (.ref f0) (.int 2) _ _
            rw [RS.ix_r]
            exact ⟨_, .inl (SqL.of g1), _, atI_nat (j := 2) rfl, rfl, rfl⟩
        rintro _ Y ⟨rfl, e0⟩
        rw [e0]; clear e0 Y
        have it : item (115 :: r) (fr :: F) = if (r.drop k).take m ∈ fr.seen then .bad (k + m) else .ok ({ fr with m := fr.m - 1, seen := fr.seen ++ [(r.drop k).take m] } :: F) (1 + (k + m)) := by
          show (if okSign _ 115 = false then _ else _) = _
          rw [if_neg (by rw [ok]; simp), if_neg (by decide), if_neg (by decide), if_pos rfl, hrs]
          simp only [w, if_true]
        rw [it] at q
        cases faX with
        | cons g1 g2 g3 o1 o2 o3 =>
          refine mid_at (fun σ Y => σ = [some (.str (S t)), some (.int (i : Nat)), some (.ref L), some (.bl true), some (.str (S [115])), some (.str (S (allowed (fr :: F)))), some (.int (m : Nat)), some (.int (i + 1 + k : Nat)), some (.ref kn)] ∧ Y = X ∧ (r.drop k).take m ∉ fr.seen) ?_ ?_
          · walk_at "sx"
            refine ⟨by rw [S_len]; omega, _, .inl (SqL.of g2), rfl, flat_strs _, ?_⟩
            rw [sl, in_strs]
            by_cases hk : (r.drop k).take m ∈ fr.seen
            · rw [if_pos (by simpa using hk)]
              rw [if_pos hk] at q
              intro p hp
              have sp := same_upd (o := HO.tup [V.int (i + 1 + k : Nat), .int (((i + 1 + k : Nat) : Int) + (m : Nat) - 1)]) hp
              have e3 : ((i + 1 + k : Nat) : Int) + (m : Nat) - 1 = ((i + (k + m) : Nat) : Int) := by omega
              exact q p _ _ (frL (sX.trans sp)) (by rw [upd_same, e3])
            · rw [if_neg (by simpa using hk)]
              exact fun z => hk z
          rintro _ Y ⟨rfl, e0, hk⟩
          rw [e0]; clear e0 Y
          rw [if_neg hk] at q
          refine mid_at (fun σ W => σ = [some (.str (S t)), some (.int (i : Nat)), some (.ref L), some (.bl true), some (.str (S [115])), some (.str (S (allowed (fr :: F)))), some (.int (m : Nat)), some (.int (i + 1 + k : Nat)), some (.ref kn)] ∧ W = upd X kn (.lst ((fr.seen ++ [(r.drop k).take m]).map fun x => V.str (S x)))) ?_ ?_
          · walk_at "sx"
            have s1 := sn fr (by simp)
            refine ⟨⟨_, SqL.of g2⟩, by rw [S_len]; omega, _, g2, by rw [List.length_map]; show fr.seen.length < _; omega, ?_⟩
            rw [sl, List.map_append]
            rfl
          rintro _ W ⟨rfl, rfl⟩
          walk_at "sx"
          intro p3 hp3
          have e3 : ((i + 1 + k : Nat) : Int) + (m : Nat) = ((i + (1 + (k + m)) : Nat) : Int) := by omega
          rw [e3] at *
          have f1 : Fr1 [kn] X (upd X kn (.lst ((fr.seen ++ [(r.drop k).take m]).map fun x => V.str (S x)))) := Fr1.upd (by simp)
          have s3 := same_upd (o := HO.tup [V.int (i + (1 + (k + m)) : Nat), .int (-1)]) hp3
          have ek : upd X kn (.lst ((fr.seen ++ [(r.drop k).take m]).map fun x => V.str (S x))) kn = some (.lst ((fr.seen ++ [(r.drop k).take m]).map fun x => V.str (S x))) := upd_same
          have Lk : L ≠ kn := fun z => nL (by simp [z])
          refine q p3 _ (f0 :: kn :: own) (.ref f0 :: vs) (fun z o n e => s3 _ _ (f1 _ _ (fun y => n (by simp [List.mem_singleton.mp y])) (frX _ _ n e))) upd_same (s3 _ _ (f1 _ _ (by simpa using Lk) hLX)) ?_ nL fun z hz => .inl hz
          refine FA.fr (fp := []) (Fr1.of s3) (.cons (f1 _ _ (by simpa using o3) g1) ek (g3.fr f1 fun z hz y => o2 (by rw [← List.mem_singleton.mp y]; exact hz)) o1 o2 o3) (by simp)
end


/-! the law's scanner -/
theorem dec_seen {F : List Fr} {i : Nat} (h : ∀ fr ∈ F, fr.seen.length ≤ i) : ∀ fr ∈ dec F, fr.seen.length ≤ i := fun fr hf => by
  cases F with
  | nil => cases hf
  | cons a F =>
    rcases List.mem_cons.mp hf with rfl | hf
    · exact h a (by simp)
    · exact h fr (List.mem_cons_of_mem _ hf)
theorem okSign_20 {F : List Fr} {c : Nat} (h : okSign F c = true) (l : F.length = 20) : c = 110 ∨ c = 116 ∨ c = 102 ∨ c = 105 ∨ c = 115 := by
  unfold okSign at h
  split at h
  · simp at h; omega
  · simpa [l] using h
theorem item_facts {r : List Nat} {F F' : List Fr} {k i : Nat} (h : item r F = .ok F' k) (fl : F.length ≤ 20) (sn : ∀ fr ∈ F, fr.seen.length ≤ i) : 1 ≤ k ∧ k ≤ r.length ∧ F'.length ≤ 20 ∧ ∀ fr ∈ F', fr.seen.length ≤ i + k := by
  have up : ∀ {G : List Fr} {j : Nat}, (∀ fr ∈ G, fr.seen.length ≤ i) → ∀ fr ∈ G, fr.seen.length ≤ i + j := fun h fr hf => by have := h fr hf; omega
  cases r with
  | nil => cases h
  | cons c r =>
    have ok : okSign F c = true := by
      refine Classical.byContradiction fun z => ?_
      rw [item_no (by simpa using z)] at h
      cases h
    unfold item at h
    simp only at h
    rw [if_neg (by rw [ok]; simp)] at h
    by_cases lf : c = 110 ∨ c = 116 ∨ c = 102
    · rw [if_pos lf] at h
      cases h
      exact ⟨by omega, by simp, by rw [dec_len]; exact fl, up (dec_seen sn)⟩
    rw [if_neg lf] at h
    by_cases ci : c = 105
    · rw [if_pos ci] at h
      obtain ⟨a, k', e1, rfl, rfl⟩ := mapup_ok h
      have := ig_k e1
      exact ⟨by omega, by simp; omega, by rw [dec_len]; exact fl, up (dec_seen sn)⟩
    rw [if_neg ci] at h
    by_cases cs : c = 115
    · rw [if_pos cs] at h
      cases hr : rs r with
      | bad j => rw [hr] at h; cases h
      | ok key j =>
        rw [hr] at h
        have jl := rs_k hr
        cases F with
        | nil =>
          simp only at h
          cases h
          exact ⟨by omega, by simp; omega, by simp, by simp⟩
        | cons f G =>
          simp only at h
          split at h
          · split at h
            · cases h
            · cases h
              refine ⟨by omega, by simp; omega, by simpa using fl, fun fr hf => ?_⟩
              rcases List.mem_cons.mp hf with rfl | hf
              · have := sn f (by simp)
                simp; omega
              · have := sn fr (List.mem_cons_of_mem _ hf)
                omega
          · cases h
            exact ⟨by omega, by simp; omega, by rw [dec_len]; exact fl, up (dec_seen sn)⟩
    · rw [if_neg cs] at h
      cases hc : ct 0 0 r with
      | bad j => rw [hc] at h; cases h
      | ok m j =>
        rw [hc] at h
        have jl := (ct_len hc).1
        cases h
        have l20 : F.length ≠ 20 := fun l => by
          have := okSign_20 ok l
          omega
        refine ⟨by omega, by simp; omega, by simp [dec_len]; omega, fun fr hf => ?_⟩
        rcases List.mem_cons.mp hf with rfl | hf
        · simp
        · exact up (dec_seen sn) fr hf
theorem pops_live : ∀ (F : List Fr) (f : Fr) (G : List Fr), pops F = f :: G → f.m ≠ 0
  | [], f, G, h => by simp [pops] at h
  | a :: F, f, G, h => by
    unfold pops at h
    split at h
    · exact pops_live F f G h
    · rename_i n
      cases h
      exact n
theorem pops_sub : ∀ (F : List Fr), ∀ fr ∈ pops F, fr ∈ F
  | [], fr, h => by simp [pops] at h
  | a :: F, fr, h => by
    unfold pops at h
    split at h
    · exact List.mem_cons_of_mem _ (pops_sub F fr h)
    · exact h
theorem pops_len : ∀ (F : List Fr), (pops F).length ≤ F.length
  | [] => by simp [pops]
  | a :: F => by
    unfold pops
    split
    · have := pops_len F; simp; omega
    · exact Nat.le_refl _
theorem neE {K : PySem.W.Frag} {H : Hp} {L p : Addr} {xs : List V} {Q : VK} (h : H L = some (.lst xs)) (hp : H p = none) (q : Q (.bl (decide (xs ≠ []))) (upd H p (.lst []))) : rNeE K (.ref L) (.ref p) (upd H p (.lst [])) Q := by
  refine ⟨L, p, xs, [], rfl, rfl, SqL.of ((same_upd hp) _ _ h), SqL.of upd_same, .inr rfl, ?_⟩
  have e : decide (xs.length ≠ ([] : List V).length) = decide (xs ≠ []) := by cases xs <;> simp
  rw [e]; exact q
theorem eqE {K : PySem.W.Frag} {H : Hp} {L p : Addr} {xs : List V} {Q : VK} (h : H L = some (.lst xs)) (hp : H p = none) (q : Q (.bl (decide (xs = []))) (upd H p (.lst []))) : rEqE K (.ref L) (.ref p) (upd H p (.lst [])) Q := by
  refine ⟨L, p, xs, [], rfl, rfl, SqL.of ((same_upd hp) _ _ h), SqL.of upd_same, .inr rfl, ?_⟩
  have e : decide (xs.length = ([] : List V).length) = decide (xs = []) := by cases xs <;> simp
  rw [e]; exact q
theorem FA.rev {H : Hp} {own : List Addr} {vs : List V} {F : List Fr} (fa : FA H own vs F) : vs.reverse = [] ↔ F = [] := by
  rw [List.reverse_eq_nil_iff]
  have := fa.len
  constructor
  · intro z; subst z; exact List.length_eq_zero_iff.mp this.symm
  · intro z; subst z; exact List.length_eq_zero_iff.mp this
section
variable {g : Wd} {f : Addr} {fd : FuncData}
theorem sc_l_scan : FnScope ["_law_text", "_law_is_row", "_law_at", "_law_frames", "_law_ends", "_law_wants_key", "_law_wrong"] ["_law_text", "_law_is_row"] (defScope s_l_scan) := ⟨rfl, rfl, rfl, by decide +kernel, rfl, by decide +kernel, by decide +kernel⟩
def vw : Option Nat → V
  | some k => .int (k : Nat)
  | none => .non
def sp_scan : Sp := S2 fun x w H Q _ => ∃ t, x = .str (S t) ∧ w = .bl false ∧ t.length ≤ 10000000 ∧ ∀ p x H', Same H H' → H' p = some (.tup [x, vw (wr (vo t))]) → Q (.ref p) H'
theorem ok_scan (F : Df g.K "_law_scan" "_law_scan" s_l_scan f fd .none) (T : Txt2 g) (F_l_item : Kn g "_law_item" 2 ["_law_text", "_law_at", "_law_frames", "_law_wants_key"] [] sp_item) : FnG g 3 f fd ["_law_text", "_law_is_row"] sp_scan := by
  refine F.ok sc_l_scan (fun vs H Q E h => S2.len h) (fun cdv A outer s H vs Q E hr h => ?_)
  obtain ⟨_, _, rfl, t, rfl, rfl, hl, q⟩ := h
  refine ⟨_, (pss_mid (ps_par3 (i := 2) (j := 3) (l := 4) (by rfl) sc_l_scan.nd rfl rfl rfl (by decide) (by decide) (by decide) rfl rfl rfl (pa_cons pe_int (pa_cons (pe_lst pa_nil) (pa_cons (pe_lst pa_nil) pa_nil))) (by rfl))
      (pss_mid (ps_while psD (PW.pt (pw_or (pt_cmpR op_lt (pv 2) (pe_callB (c_len (K := g.K)) (by rfl) T.b_len bb_len (pa_cons (pv 0) pa_nil)) (nomark _)) (pw_or (pt_cmpR (op_neE (K := g.K) hr) (pv 3) (pe_lst pa_nil) (nomark _)) (pw_or1 (PW.pt (pw_and (pt_cmpR (op_eqE (K := g.K) hr) (pv 4) (pe_lst pa_nil) (nomark _)) (pw_and1 (pt_not (t_truth (K := g.K) (pv 1)))))))))) (pss_mid (ps_if (PW.pt (pw_and (pt_cmpR (op_eqE (K := g.K) hr) (pv 3) (pe_lst pa_nil) (nomark _)) (pw_and (pt_cmpR (op_neE (K := g.K) hr) (pv 4) (pe_lst pa_nil) (nomark _)) (pw_and1 (pt_not (t_truth (K := g.K) (pv 1))))))) (pss_one (ps_ret (pe_tup (pa_cons (pv 4) (pa_cons (pv 2) pa_nil))))) pss_nil)
      (pss_mid (ps_set (i := 5) sc_l_scan.nd rfl (Or.inl rfl) (pe_and (pe_cmpR (op_neE (K := g.K) hr) (pv 3) (pe_lst pa_nil) (nomark _)) (pe_and (pe_cmpR (o_eq (K := g.K) hr) (pe_ix (o_ix (K := g.K)) (pe_ix (o_ix (K := g.K)) (pv 3) (pe_un un_neg pe_int) (fun _ _ => rfl)) pe_int (fun _ _ => rfl)) pe_str (nomark _)) (pe_one (pe_cmpR (o_eq (K := g.K) hr) (pe_op op_mod (pe_ix (o_ix (K := g.K)) (pe_ix (o_ix (K := g.K)) (pv 3) (pe_un un_neg pe_int) (fun _ _ => rfl)) pe_int (fun _ _ => rfl)) pe_int) pe_int (nomark _))))))
      (pss_mid (ps_asg (pe_callG F_l_item (hr.mono (by first | decide | omega)) tkD (pa_cons (pv 0) (pa_cons (pv 2) (pa_cons (pv 3) (pa_cons (pv 5) pa_nil))))) (g_tup (K := g.K) (n := 2) (pgs_cons (pg_name (i := 2) sc_l_scan.nd rfl (.inl rfl)) (pgs_cons (pg_name (i := 6) sc_l_scan.nd rfl (.inl rfl)) pgs_nil))))
      (pss_mid (ps_if (pt_cmpR op_ge (pv 6) pe_int (nomark _)) (pss_one (ps_ret (pe_tup (pa_cons (pv 4) (pa_cons (pv 6) pa_nil))))) pss_nil)
      (pss_mid (ps_while psD (PW.pt (pw_and (pt_cmpR (op_neE (K := g.K) hr) (pv 3) (pe_lst pa_nil) (nomark _)) (pw_and1 (pt_cmpR (o_eq (K := g.K) hr) (pe_ix (o_ix (K := g.K)) (pe_ix (o_ix (K := g.K)) (pv 3) (pe_un un_neg pe_int) (fun _ _ => rfl)) pe_int (fun _ _ => rfl)) pe_int (nomark _))))) (pss_one (ps_expr (pe_bm0 PySem.F.plainAttrs_list PySem.F.slot_list_pop PySem.F.type_list_pop mt_pop (pv 3)))))
      (pss_one (ps_set (i := 4) sc_l_scan.nd rfl (Or.inl rfl) (pe_op (o_add (K := g.K)) (pv 4) (pe_op o_mul (pe_lst (pa_cons (pv 2) pa_nil)) (pe_callTy c_intA (by rfl) T.b_int bb_int (pa_cons (pe_cmpR (op_eqE (K := g.K) hr) (pv 3) (pe_lst pa_nil) (nomark _)) pa_nil))))))))))))
      (pss_one (ps_ret (pe_tup (pa_cons (pv 4) (pa_cons pe_non pa_nil))))))), ?_⟩
  refine mid_at (fun σ G => ∃ L Ea, σ = [some (.str (S t)), some (.bl false), some (.int (0 : Nat)), some (.ref L), some (.ref Ea), none, none] ∧ Same H G ∧ H L = none ∧ H Ea = none ∧ G L = some (.lst []) ∧ G Ea = some (.lst []) ∧ Ea ≠ L) ?_ ?_
  · simp only [tPar3, tRet, tRetN, tSeq, C8.tCut, tNext, tAsg, gName, gNil, gCons, gTup, gFld, tIfS, tIf, tAndV, tOrV, tNotV, tAnd, tOr, tNot, tB, tTest, tOp, tUn, tCB, tCons, tNil, tVar, tC, tChain, tDrop, RS.tCallG, RS.tMethG, tMakeG, RS.tCallK, RS.tMakeK, tEqOwn, rI, rI0, rU, add_ii, add_ss, add_rr, mul_ii, mul_si, mul_ri, RS.eq_ii, RS.eq_ss, eq_bb, eq_nn, eq_sn, eq_ns, eq_in, eq_ni, eq_bn, eq_nb, eq_is, eq_si, eq_rr, ne_ii, ne_ss, ne_bb, ne_nn, ne_sn, ne_ns, ne_in, ne_ni, ne_is, ne_si, ne_rr, in_ss, in_r, nin_ss, nin_r, len_s, len_r, RS.ix_s, RS.ix_r, sl_s, sl_r, is_eq, tyN_n, tyN_b, tyN_i, tyN_s, tru_b, tru_i, tru_n, tSl, tPart, tNoPart, tPar, tPar3, tFmtZ, tFmt, tJs, tDGet, sDPut, sFld, tFld, tTup, tLst, tNever, isB,
  L2.start, List.map_cons, List.map_nil, List.length_cons, List.length_nil, Nat.reduceAdd, Nat.reduceSub, Nat.sub_self, List.replicate_zero, List.replicate_succ, List.append_nil, List.cons_append, List.nil_append, List.getElem?_cons_zero, List.getElem?_cons_succ, List.set_cons_zero, List.set_cons_succ, Option.some.injEq, exists_eq_left, exists_eq_left', exists_and_left, V.bl.injEq, V.int.injEq, V.str.injEq, V.ref.injEq, beq_self_eq_true, Bool.true_or, Bool.or_true, Bool.false_or, Bool.or_false, Bool.and_false, Bool.false_and, Bool.true_and, Bool.and_true, Bool.not_true, Bool.not_false, Bool.false_eq_true, if_true, if_false, ite_true, ite_false, true_and, and_true, and_assoc, String.reduceBEq, String.reduceEq, reduceIte, Bool.and_self, reduceCtorEq, false_and, and_false, exists_false, or_false, false_or, exists_const, iEnumS, iStr, iList, iTup, iRng1, iEnum, tFor_eq, tLc_eq, List.cons.injEq, wipe, not_true_eq_false, not_false_eq_true, upd_same, HO.ins.injEq, HO.tup.injEq, HO.lst.injEq, ofS_eq, lk_nil, lk_cons, pu_nil, pu_cons, sizeLine_eq, Nat.reduceLT, Nat.reduceLeDiff, Nat.reduceEqDiff, Nat.le_refl, decide_true, decide_false, tPr, dget_us, dput_us, vv_nil, vv_cons, RS.pk_nil, pk_one, RS.pk_cons, inr_eq, tDisp, tPairs, tBoolOwn, rBoolOwn, tBM, rAppend, ty_list, ty_str, rEqOwn, iEnumT, RS.tCallS, tM1, tDc_eq, tLock, tLockE, iKeys, tListEnum, rUpdate, tMkX0, tMkX1, tXfv, gSub, rSetL, List.getD_cons_zero, List.getD_cons_succ, tCMethS, ClX.tCVal, tXfa, tIxOwn, tInOwn, tPropG, tMethK, tMethP, tListGen, tDGet2, tDPop2, rNeD0, intA_i, intA_b, tRevL, sFldAug, tPm0, tPm1, tDIn, tDNotIn, tDNewK, RS.tMethS]
    intro L hL Ea hE
    have s1 := same_upd (o := HO.lst []) hL
    have s2 := same_upd (o := HO.lst []) hE
    have ne : Ea ≠ L := fun z => by rw [z, upd_same] at hE; cases hE
    exact ⟨rfl, s1.trans s2, hL, none_of_same s1 hE, s2 _ _ upd_same, ne⟩
  rintro _ G0 ⟨L, Ea0, rfl, sG0, nL0, nE0, eL0, eE0, neq0⟩
  refine mid_at (fun σ G => ∃ i L Ea w5 w6, σ = [some (.str (S t)), some (.bl false), some (.int (i : Nat)), some (.ref L), some (.ref Ea), w5, w6] ∧ Same H G ∧ wr (vo t) = none) ?_ ?_
  rotate_left
  · rintro _ G ⟨i, L, Ea, w5, w6, rfl, sG, wn⟩
    walk_at "sx"
    intro p hp
    exact q p _ _ (sG.trans (same_upd hp)) (by rw [upd_same, wn]; rfl)
  refine ⟨fun m σ G => ∃ (i : Nat) (own : List Addr) (vs : List V) (F : List Fr) (Ea : Addr) (es : List Int) (fuel : Nat) (w5 w6 : Option V), σ = [some (.str (S t)), some (.bl false), some (.int (i : Nat)), some (.ref L), some (.ref Ea), w5, w6] ∧ Same H G ∧ G L = some (.lst vs.reverse) ∧ FA G own vs F ∧ L ∉ own ∧ (∀ c ∈ own, H c = none) ∧ G Ea = some (.lst (es.map V.int)) ∧ Ea ∉ own ∧ Ea ≠ L ∧ es.length ≤ 1 ∧ F.length ≤ 20 ∧ (∀ f G, F = f :: G → f.m ≠ 0) ∧ (∀ fr ∈ F, fr.seen.length ≤ i) ∧ i ≤ t.length ∧ scanF fuel (t.drop i) i F (decide (es ≠ [])) = wr (vo t) ∧ (t.drop i).length + 1 ≤ fuel ∧ (es ≠ [] → F = []) ∧ m = t.length + 1 - i, ⟨_, 0, [], [], [], Ea0, [], t.length + 1, none, none, rfl, sG0, eL0, .nil, by simp, by simp, eE0, by simp, neq0, by simp, by simp, by simp, by simp, by omega, scan_vo t, by simp, by simp, rfl⟩, ?_⟩
  rintro m _ G ⟨i, own, vs, F, Ea, es, fuel, w5, w6, rfl, sG, eL, fa, nL, on, eE, nE, neq, e1, fl, lv, sn, il, sc, fu, ef, rfl⟩
  have key : ∀ R : Bool → Hp → Prop, (∀ G', Same G G' → R (decide (i < t.length ∨ F ≠ [] ∨ es = [])) G') → (tOr (tTest (tOp (rI0 fun i j => V.bl (decide (i < j))) (tVar 2) (tCB (RS.rLen g.K) (tCons (tVar 0) tNil)))) (tOr (tTest (tOp (rNeE g.K) (tVar 3) (tLst tNil))) (tAnd (tTest (tOp (rEqE g.K) (tVar 4) (tLst tNil))) (tNot fun σ H Q => tVar 1 σ H fun x H' => ∃ k, TruV g.K x H' k ∧ Q k H')))) [some (.str (S t)), some (.bl false), some (.int (i : Nat)), some (.ref L), some (.ref Ea), w5, w6] G R := fun R hR => by
    walk_at "sx"
    refine ⟨by rw [S_len]; omega, ?_⟩
    rw [S_len]
    by_cases h1 : i < t.length
    · rw [if_pos (by simpa using h1)]
      have := hR G (Same.refl _)
      rwa [decide_eq_true (.inl h1)] at this
    rw [if_neg (by simpa using h1)]
    intro p hp
    have sp := same_upd (o := HO.lst []) hp
    refine neE eL hp ⟨_, rfl, ?_⟩
    by_cases h2 : F = []
    · rw [if_neg (by simp [fa.rev.mpr h2])]
      intro p2 hp2
      have sp2 := same_upd (o := HO.lst []) hp2
      refine eqE (sp _ _ eE) hp2 ⟨_, rfl, ?_⟩
      by_cases h3 : es = []
      · rw [if_pos (by simp [h3])]
        have := hR _ (sp.trans sp2)
        rwa [decide_eq_true (.inr (.inr h3))] at this
      · rw [if_neg (by simp [h3])]
        have := hR _ (sp.trans sp2)
        rwa [decide_eq_false (fun z => by rcases z with z | z | z; exact h1 z; exact z h2; exact h3 z)] at this
    · rw [if_pos (by have := mt fa.rev.mp h2; simpa using this)]
      have := hR _ sp
      rwa [decide_eq_true (.inr (.inl h2))] at this
  refine key _ fun G1 s1 => ?_
  have eL1 := s1 _ _ eL
  have eE1 := s1 _ _ eE
  have fa1 : FA G1 own vs F := fa.fr (fp := []) (Fr1.of s1) (by simp)
  have sG1 := sG.trans s1
  obtain ⟨fu0, rfl⟩ : ∃ x, fuel = x + 1 := ⟨fuel - 1, by omega⟩
  by_cases go : i < t.length ∨ F ≠ [] ∨ es = []
  rotate_left
  · rw [if_neg (by simpa using go)]
    have h1 : ¬ i < t.length := fun z => go (.inl z)
    have h2 : F = [] := Classical.byContradiction fun z => go (.inr (.inl z))
    have h3 : es ≠ [] := fun z => go (.inr (.inr z))
    unfold scanF at sc
    rw [if_pos ⟨decide_eq_true h3, h2⟩, if_pos (by rw [List.drop_eq_nil_iff]; omega)] at sc
    exact ⟨i, L, Ea, w5, w6, rfl, sG1, sc.symm⟩
  rw [if_pos (by simpa using go)]
  refine ⟨_, fun σ' H' z => z, ?_⟩
  refine mid_at (fun σ G2 => σ = [some (.str (S t)), some (.bl false), some (.int (i : Nat)), some (.ref L), some (.ref Ea), w5, w6] ∧ Same G1 G2 ∧ ¬ (F = [] ∧ es ≠ [])) ?_ ?_
  · walk_at "sx"
    intro p hp
    have sp := same_upd (o := HO.lst []) hp
    refine eqE eL1 hp ⟨_, rfl, ?_⟩
    by_cases h2 : F = []
    · rw [if_pos (by simp [fa1.rev.mpr h2])]
      intro p2 hp2
      have sp2 := same_upd (o := HO.lst []) hp2
      refine neE (sp _ _ eE1) hp2 ⟨_, rfl, ?_⟩
      by_cases h3 : es = []
      · rw [if_neg (by simp [h3])]
        exact ⟨sp.trans sp2, fun z => z.2 h3⟩
      · rw [if_pos (by simp [h3])]
        have h1 : i < t.length := by rcases go with z | z | z; exact z; exact absurd h2 z; exact absurd z h3
        unfold scanF at sc
        rw [if_pos ⟨decide_eq_true h3, h2⟩, if_neg (by rw [List.drop_eq_nil_iff]; omega)] at sc
        intro p3 hp3
        exact q p3 _ _ (((sG1.trans sp).trans sp2).trans (same_upd hp3)) (by rw [upd_same, ← sc]; rfl)
    · rw [if_neg (by have := mt fa1.rev.mp h2; simpa using this)]
      exact ⟨sp, fun z => h2 z.1⟩
  rintro _ G2 ⟨rfl, s2, nret⟩
  have eL2 := s2 _ _ eL1
  have eE2 := s2 _ _ eE1
  have fa2 : FA G2 own vs F := fa1.fr (fp := []) (Fr1.of s2) (by simp)
  have sG2 := sG1.trans s2
  refine mid_at (fun σ G3 => σ = [some (.str (S t)), some (.bl false), some (.int (i : Nat)), some (.ref L), some (.ref Ea), some (.bl (wantsK F)), w6] ∧ Same G2 G3) ?_ ?_
  · walk_at "sx"
    intro p hp
    have sp := same_upd (o := HO.lst []) hp
    refine neE eL2 hp ⟨_, rfl, ?_⟩
    cases fa2 with
    | nil =>
      rw [if_neg (by simp)]
      exact ⟨rfl, sp⟩
    | @cons f0 kn own vs F fr h h2 r0 n1 n2 n3 =>
      rw [if_pos (by simp)]
      have e0 : atI (V.ref f0 :: vs).reverse (-1) = some (.ref f0) := by rw [List.reverse_cons]; exact atI_last' _ _
      refine ⟨_, .inl (SqL.of (sp _ _ eL2)), _, e0, ?_⟩
      show rIxU g.K (.ref f0) (.int 0) _ _
      rw [RS.ix_r]
      refine ⟨_, .inl (SqL.of (sp _ _ h)), _, atI_nat (j := 0) rfl, ?_⟩
      show rEqU g.K (.str (S [fr.k])) (.str (Str.ofString "d")) _ _
      rw [l_d, eq_ss]
      refine ⟨_, rfl, ?_⟩
      by_cases k1 : fr.k = 100
      · rw [if_pos (by simp [S_eq, k1])]
        refine ⟨_, .inl (SqL.of (sp _ _ eL2)), _, e0, ?_⟩
        show rIxU g.K (.ref f0) (.int 1) _ _
        rw [RS.ix_r]
        refine ⟨_, .inl (SqL.of (sp _ _ h)), _, atI_nat (j := 1) rfl, _, rfl, by decide, ?_, sp⟩
        simp only [wantsK, k1, decide_true, Bool.true_and]
        rw [decide_eq_decide]
        omega
      · rw [if_neg (by simp [S_eq, k1])]
        exact ⟨by simp [wantsK, k1], sp⟩
  rintro _ G3 ⟨rfl, s3⟩
  have eL3 := s3 _ _ eL2
  have eE3 := s3 _ _ eE2
  have fa3 : FA G3 own vs F := fa2.fr (fp := []) (Fr1.of s3) (by simp)
  have sG3 := sG2.trans s3
  have es0 : es = [] := Classical.byContradiction fun z => nret ⟨ef z, z⟩
  subst es0
  rw [show decide (([] : List Int) ≠ []) = false from rfl] at sc
  unfold scanF at sc
  rw [if_neg (by simp)] at sc
  have back : ∀ {H'}, Fr1 (L :: own) G3 H' → Same H H' := fun fr c o e => fr c o (fun z => by
    rcases List.mem_cons.mp z with z | z
    · rw [z, nL0] at e; cases e
    · rw [on c z] at e; cases e) (sG3 _ _ e)
  cases hit : item (t.drop i) F with
  | bad k =>
    rw [hit] at sc
    refine mid_at (fun σ G4 => ∃ x, σ = [some (.str (S t)), some (.bl false), some x, some (.ref L), some (.ref Ea), some (.bl (wantsK F)), some (.int (i + k : Nat))] ∧ Same H G4) ?_ ?_
    · walk_at "sx"
      refine ⟨_, _, _, _, rfl, t, i, L, own, vs, F, rfl, rfl, rfl, rfl, eL3, fa3, nL, fl, hl, il, lv, sn, ?_⟩
      rw [hit]
      intro p x H' fr ep
      exact ⟨p, rfl, _, SqT.of ep, rfl, _, _, rfl, _, _, rfl, rfl, rfl, back fr⟩
    rintro _ G4 ⟨x, rfl, sG4⟩
    refine mid_at (fun _ _ => False) ?_ (fun _ _ z => z.elim)
    walk_at "sx"
    rw [if_pos (by simp; omega)]
    intro p hp
    exact q p _ _ (sG4.trans (same_upd hp)) (by rw [upd_same, ← sc]; rfl)
  | ok F' k =>
    rw [hit] at sc
    obtain ⟨k1, kl, fl', sn'⟩ := item_facts hit fl sn
    rw [List.length_drop] at kl
    refine mid_at (fun σ G4 => ∃ own' vs', σ = [some (.str (S t)), some (.bl false), some (.int (i + k : Nat)), some (.ref L), some (.ref Ea), some (.bl (wantsK F)), some (.int (-1))] ∧ Same H G4 ∧ G4 L = some (.lst vs'.reverse) ∧ FA G4 own' vs' F' ∧ L ∉ own' ∧ (∀ c ∈ own', H c = none) ∧ G4 Ea = some (.lst []) ∧ Ea ∉ own') ?_ ?_
    · walk_at "sx"
      refine ⟨_, _, _, _, rfl, t, i, L, own, vs, F, rfl, rfl, rfl, rfl, eL3, fa3, nL, fl, hl, il, lv, sn, ?_⟩
      rw [hit]
      intro p H' own' vs' fr ep eL' fa' nL' sub
      have on' : ∀ c ∈ own', H c = none := fun c hc => (sub c hc).elim (fun z => on c z) fun z => none_of_same sG3 z
      have nE' : Ea ∉ own' := fun z => (sub Ea z).elim (fun y => nE y) fun y => by rw [y] at eE3; cases eE3
      exact ⟨p, rfl, _, SqT.of ep, rfl, _, _, rfl, _, _, rfl, rfl, rfl, rfl, back fr, own', vs', eL', fa', nL', on', fr _ _ (by simp only [List.mem_cons, not_or]; exact ⟨neq, nE⟩) eE3, nE'⟩
    rintro _ G4 ⟨own', vs', rfl, sG4, eL4, fa4, nL4, on4, eE4, nE4⟩
    refine mid_at (fun σ G5 => σ = [some (.str (S t)), some (.bl false), some (.int (i + k : Nat)), some (.ref L), some (.ref Ea), some (.bl (wantsK F)), some (.int (-1))] ∧ G5 = G4) ?_ ?_
    · walk_at "sx"
      rw [if_neg (by decide)]
      trivial
    rintro _ G5 ⟨rfl, e5⟩
    rw [e5]; clear e5 G5
    refine mid_at (fun σ G5 => ∃ own' vs', σ = [some (.str (S t)), some (.bl false), some (.int (i + k : Nat)), some (.ref L), some (.ref Ea), some (.bl (wantsK F)), some (.int (-1))] ∧ Same H G5 ∧ G5 L = some (.lst vs'.reverse) ∧ FA G5 own' vs' (pops F') ∧ L ∉ own' ∧ (∀ c ∈ own', H c = none) ∧ G5 Ea = some (.lst []) ∧ Ea ∉ own') ?_ ?_
    · refine ⟨fun m σ G => ∃ own' vs' F2, σ = [some (.str (S t)), some (.bl false), some (.int (i + k : Nat)), some (.ref L), some (.ref Ea), some (.bl (wantsK F)), some (.int (-1))] ∧ Same H G ∧ G L = some (.lst vs'.reverse) ∧ FA G own' vs' F2 ∧ L ∉ own' ∧ (∀ c ∈ own', H c = none) ∧ G Ea = some (.lst []) ∧ Ea ∉ own' ∧ pops F2 = pops F' ∧ m = F2.length, ⟨_, own', vs', F', rfl, sG4, eL4, fa4, nL4, on4, eE4, nE4, rfl, rfl⟩, ?_⟩
      rintro m _ G ⟨own2, vs2, F2, rfl, sG5, eL5, fa5, nL5, on5, eE5, nE5, pp, rfl⟩
      simp only [wOr, wCmp, wNm, wE, wT, tBM0, tRet, tRetN, tSeq, C8.tCut, tNext, tAsg, gName, gNil, gCons, gTup, gFld, tIfS, tIf, tAndV, tOrV, tNotV, tAnd, tOr, tNot, tB, tTest, tOp, tUn, tCB, tCons, tNil, tVar, tC, tChain, tDrop, RS.tCallG, RS.tMethG, tMakeG, RS.tCallK, RS.tMakeK, tEqOwn, rI, rI0, rU, add_ii, add_ss, add_rr, mul_ii, mul_si, mul_ri, RS.eq_ii, RS.eq_ss, eq_bb, eq_nn, eq_sn, eq_ns, eq_in, eq_ni, eq_bn, eq_nb, eq_is, eq_si, eq_rr, ne_ii, ne_ss, ne_bb, ne_nn, ne_sn, ne_ns, ne_in, ne_ni, ne_is, ne_si, ne_rr, in_ss, in_r, nin_ss, nin_r, len_s, len_r, RS.ix_s, RS.ix_r, sl_s, sl_r, is_eq, tyN_n, tyN_b, tyN_i, tyN_s, tru_b, tru_i, tru_n, tSl, tPart, tNoPart, tPar, tPar3, tFmtZ, tFmt, tJs, tDGet, sDPut, sFld, tFld, tTup, tLst, tNever, isB,
  L2.start, List.map_cons, List.map_nil, List.length_cons, List.length_nil, Nat.reduceAdd, Nat.reduceSub, Nat.sub_self, List.replicate_zero, List.replicate_succ, List.append_nil, List.cons_append, List.nil_append, List.getElem?_cons_zero, List.getElem?_cons_succ, List.set_cons_zero, List.set_cons_succ, Option.some.injEq, exists_eq_left, exists_eq_left', exists_and_left, V.bl.injEq, V.int.injEq, V.str.injEq, V.ref.injEq, beq_self_eq_true, Bool.true_or, Bool.or_true, Bool.false_or, Bool.or_false, Bool.and_false, Bool.false_and, Bool.true_and, Bool.and_true, Bool.not_true, Bool.not_false, Bool.false_eq_true, if_true, if_false, ite_true, ite_false, true_and, and_true, and_assoc, String.reduceBEq, String.reduceEq, reduceIte, Bool.and_self, reduceCtorEq, false_and, and_false, exists_false, or_false, false_or, exists_const, iEnumS, iStr, iList, iTup, iRng1, iEnum, tFor_eq, tLc_eq, List.cons.injEq, wipe, not_true_eq_false, not_false_eq_true, upd_same, HO.ins.injEq, HO.tup.injEq, HO.lst.injEq, ofS_eq, lk_nil, lk_cons, pu_nil, pu_cons, sizeLine_eq, Nat.reduceLT, Nat.reduceLeDiff, Nat.reduceEqDiff, Nat.le_refl, decide_true, decide_false, tPr, dget_us, dput_us, vv_nil, vv_cons, RS.pk_nil, pk_one, RS.pk_cons, inr_eq, tDisp, tPairs, tBoolOwn, rBoolOwn, tBM, rAppend, ty_list, ty_str, rEqOwn, iEnumT, RS.tCallS, tM1, tDc_eq, tLock, tLockE, iKeys, tListEnum, rUpdate, tMkX0, tMkX1, tXfv, gSub, rSetL, List.getD_cons_zero, List.getD_cons_succ, tCMethS, ClX.tCVal, tXfa, tIxOwn, tInOwn, tPropG, tMethK, tMethP, tListGen, tDGet2, tDPop2, rNeD0, intA_i, intA_b, tRevL, sFldAug, tPm0, tPm1, tDIn, tDNotIn, tDNewK, RS.tMethS]
      intro p hp
      have sp := same_upd (o := HO.lst []) hp
      refine neE eL5 hp ⟨_, rfl, ?_⟩
      cases fa5 with
      | nil =>
        rw [if_neg (by simp)]
        exact ⟨sG5.trans sp, [], [], sp _ _ eL5, by rw [← pp]; exact .nil, nL5, on5, sp _ _ eE5, nE5⟩
      | @cons f0 kn own vs F0 fr h h2 r0 n1 n2 n3 =>
        rw [if_pos (by simp)]
        have e0 : atI (V.ref f0 :: vs).reverse (-1) = some (.ref f0) := by rw [List.reverse_cons]; exact atI_last' _ _
        refine ⟨_, .inl (SqL.of (sp _ _ eL5)), _, e0, ?_⟩
        show rIxU g.K (.ref f0) (.int 1) _ _
        rw [RS.ix_r]
        refine ⟨_, .inl (SqL.of (sp _ _ h)), _, atI_nat (j := 1) rfl, ?_⟩
        show rEqU g.K (.int (fr.m : Nat)) (.int 0) _ _
        rw [RS.eq_ii]
        refine ⟨_, rfl, ?_⟩
        have r1 : FA (upd G p (.lst [])) own vs F0 := r0.fr (fp := []) (Fr1.of sp) (by simp)
        by_cases m0 : fr.m = 0
        · rw [if_pos (by simp [m0])]
          refine ⟨_, fun σ' H' z => z, ⟨_, SqL.of (sp _ _ eL5)⟩, L, _, .ref f0, rfl, rfl, sp _ _ eL5, by simp, ?_⟩
          have f1 : Fr1 [L] (upd G p (.lst [])) (upd (upd G p (.lst [])) L (.lst (V.ref f0 :: vs).reverse.dropLast)) := Fr1.upd (by simp)
          have nLo : L ∉ own := fun z => nL5 (by simp [z])
          refine ⟨F0.length, by simp, rfl, fun z o e => f1 _ _ (fun y => by rw [List.mem_singleton.mp y, nL0] at e; cases e) (sp _ _ (sG5 _ _ e)), own, vs, ?_, F0, r1.fr f1 (fun z hz y => nLo (by rw [← List.mem_singleton.mp y]; exact hz)), nLo, fun z hz => on5 z (by simp [hz]), f1 _ _ (by simpa using neq) (sp _ _ eE5), fun z => nE5 (by simp [z]), ?_, rfl⟩
          · rw [upd_same, List.reverse_cons, List.dropLast_concat]
          · rw [← pp]; simp [pops, m0]
        · rw [if_neg (by simp; omega)]
          have e3 : pops F' = fr :: F0 := by rw [← pp]; simp [pops, m0]
          exact ⟨sG5.trans sp, _, _, sp _ _ eL5, by rw [e3]; exact .cons (sp _ _ h) (sp _ _ h2) r1 n1 n2 n3, nL5, on5, sp _ _ eE5, nE5⟩
    rintro _ G5 ⟨own5, vs5, rfl, sG5, eL5, fa5, nL5, on5, eE5, nE5⟩
    walk_at "sx"
    intro p hp p1 hp1
    have z1 := same_upd (o := HO.lst [V.int (i + k : Nat)]) hp
    have ep : upd G5 p (HO.lst [V.int (i + k : Nat)]) p = some (HO.lst [V.int (i + k : Nat)]) := upd_same
    generalize upd G5 p (HO.lst [V.int (i + k : Nat)]) = Y at hp1 z1 ep ⊢
    refine eqE (z1 _ _ eL5) hp1 (.inl (.inr ⟨_, rfl, ?_⟩))
    have z2 := same_upd (o := HO.lst []) hp1
    have ep := z2 _ _ ep
    have z12 := z1.trans z2
    generalize upd Y p1 (HO.lst []) = Y2 at z2 z12 ep ⊢
    have e1 : ∃ n : Nat, (if decide (vs5.reverse = []) = true then (1 : Int) else 0) = (n : Nat) ∧ n ≤ 1 ∧ (List.replicate n [V.int (i + k : Nat)]).flatten = (if pops F' = [] then [((i + k : Nat) : Int)] else []).map V.int := by
      by_cases z : pops F' = []
      · exact ⟨1, by rw [if_pos (by simpa using fa5.rev.mpr z)]; rfl, by omega, by rw [if_pos z]; rfl⟩
      · exact ⟨0, by rw [if_neg (by have := mt fa5.rev.mp z; simpa using this)]; rfl, by omega, by rw [if_neg z]; rfl⟩
    obtain ⟨n, en, n1, ey⟩ := e1
    rw [en]
    refine ⟨p, (n : Nat), _, rfl, rfl, ep, by omega, by omega, by rw [sizeLine_eq]; simp; omega, fun p3 hp3 => ?_⟩
    rw [Int.toNat_natCast, ey]
    generalize hes : (if pops F' = [] then [((i + k : Nat) : Int)] else []) = es' at ⊢
    have z3 := same_upd (o := HO.lst (es'.map V.int)) hp3
    have z13 := z12.trans z3
    have ep3 : upd Y2 p3 (HO.lst (es'.map V.int)) p3 = some (HO.lst (es'.map V.int)) := upd_same
    generalize upd Y2 p3 (HO.lst (es'.map V.int)) = Y3 at z13 ep3 ⊢
    have l1 : es'.length ≤ 1 := by rw [← hes]; split <;> simp
    show RS.rAdd g.K (.ref Ea) (.ref p3) Y3 _
    rw [add_rr]
    refine .inl ⟨Ea, p3, [], _, rfl, rfl, z13 _ _ eE5, ep3, by rw [sizeLine_eq]; simp; omega, fun p4 hp4 => ?_⟩
    have z4 := z13.trans (same_upd (o := HO.lst ([] ++ es'.map V.int)) hp4)
    have p4o : p4 ∉ own5 := fun z => (fa5.fr (fp := []) (Fr1.of z13) (by simp)).live p4 z hp4
    have p4L : p4 ≠ L := fun z => by rw [z, z13 _ _ eL5] at hp4; cases hp4
    refine ⟨t.length + 1 - (i + k), by omega, i + k, rfl, own5, vs5, pops F', p4, rfl, sG5.trans z4, z4 _ _ eL5, fa5.fr (fp := []) (Fr1.of z4) (by simp), nL5, on5, es', by rw [upd_same]; rfl, p4o, p4L, l1, Nat.le_trans (pops_len F') fl', pops_live F', fun fr hf => sn' fr (pops_sub F' fr hf), by omega, fu0, ?_, ?_, ?_, rfl⟩
    · dsimp only at sc
      rw [List.drop_drop] at sc
      rw [← sc, Bool.false_or]
      congr 1
      by_cases z : pops F' = []
      · rw [← hes, if_pos z]; simp [z]
      · rw [← hes, if_neg z]; simp [z]
    · rw [List.length_drop] at fu ⊢
      omega
    · rw [← hes]
      split
      · intro _; assumption
      · intro z; exact absurd rfl z
end


/-! a text is bent -/
structure Txt5 (g : Wd) : Prop extends Txt2 g where
  b_max : g.mg "max" = none
section
variable {g : Wd} {f : Addr} {fd : FuncData}
theorem sc_l_bent : FnScope ["_law_stream_here", "_law_text", "_law_at", "_law_way", "_law_some", "_law_one"] ["_law_stream_here", "_law_text"] (defScope s_l_bent) := ⟨rfl, rfl, rfl, by decide +kernel, rfl, by decide +kernel, by decide +kernel⟩
def sp_bent : Sp := S2 fun a x H Q _ => ∃ p N t, a = .ref p ∧ x = .str (S t) ∧ Str3 H p N ∧ N + 4 < 100000 ∧ t.length ≤ 900000 ∧ ∀ u N' H', u.length ≤ t.length + 6 → N' ≤ N + 4 → Str3 H' p N' → But p H H' → Q (.str (S u)) H'
theorem ok_bent (F : Df g.K "_law_bent" "_law_bent" s_l_bent f fd .none) (T : Txt5 g) (F_l_draw : Kn g "_law_draw" 2 ["_law_stream_here", "_law_top"] [] sp_draw) (F_l_pick : Kn g "_law_pick" 3 ["_law_stream_here", "_law_some"] [] sp_pick) : FnG g 4 f fd ["_law_stream_here", "_law_text"] sp_bent := by
  refine F.ok sc_l_bent (fun vs H Q E h => S2.len h) (fun cdv A outer s H vs Q E hr h => ?_)
  obtain ⟨_, _, rfl, p, N, t, rfl, rfl, st, hN, hl, q⟩ := h
  refine ⟨_, (pss_mid (ps_par (i := 2) (j := 3) (by rfl) sc_l_bent.nd rfl rfl (by decide) rfl rfl (pa_cons (pe_callG F_l_draw (hr.mono (by first | decide | omega)) tkD (pa_cons (pv 0) (pa_cons (pe_op (o_add (K := g.K)) (pe_callB (c_len (K := g.K)) (by rfl) T.b_len bb_len (pa_cons (pv 1) pa_nil)) pe_int) pa_nil))) (pa_cons (pe_callG F_l_draw (hr.mono (by first | decide | omega)) tkD (pa_cons (pv 0) (pa_cons pe_int pa_nil))) pa_nil)) (by rfl))
      (pss_mid (ps_set (i := 4) sc_l_bent.nd rfl (Or.inl rfl) (pe_lst (pa_cons pe_str (pa_cons pe_str (pa_cons pe_str (pa_cons pe_str (pa_cons pe_str (pa_cons pe_str (pa_cons pe_str (pa_cons pe_str (pa_cons pe_str (pa_cons pe_str (pa_cons pe_str (pa_cons pe_str (pa_cons pe_str (pa_cons pe_str (pa_cons pe_str (pa_cons pe_str (pa_cons pe_str (pa_cons pe_str (pa_cons pe_str pa_nil)))))))))))))))))))))
      (pss_mid (ps_set (i := 5) sc_l_bent.nd rfl (Or.inl rfl) (pe_callG F_l_pick (hr.mono (by first | decide | omega)) tkD (pa_cons (pv 0) (pa_cons (pe_op (o_add (K := g.K)) (pv 4) (pe_lst (pa_cons pe_str pa_nil))) pa_nil))))
      (pss_mid (ps_if (pt_cmpR (o_eq (K := g.K) hr) (pv 3) pe_int (nomark _)) (pss_one (ps_ret (pe_slice (o_sl (K := g.K)) (pv 1) po_none (po_some (pv 2))))) pss_nil)
      (pss_mid (ps_if (pt_cmpR (o_eq (K := g.K) hr) (pv 3) pe_int (nomark _)) (pss_one (ps_ret (pe_op (o_add (K := g.K)) (pe_slice (o_sl (K := g.K)) (pv 1) po_none (po_some (pv 2))) (pe_slice (o_sl (K := g.K)) (pv 1) (po_some (pe_op (o_add (K := g.K)) (pe_op (o_add (K := g.K)) (pv 2) pe_int) (pe_callG F_l_draw (hr.mono (by first | decide | omega)) tkD (pa_cons (pv 0) (pa_cons pe_int pa_nil))))) po_none)))) pss_nil)
      (pss_mid (ps_if (pt_cmpR (o_eq (K := g.K) hr) (pv 3) pe_int (nomark _)) (pss_one (ps_ret (pe_op (o_add (K := g.K)) (pe_op (o_add (K := g.K)) (pe_slice (o_sl (K := g.K)) (pv 1) po_none (po_some (pv 2))) (pv 5)) (pe_slice (o_sl (K := g.K)) (pv 1) (po_some (pv 2)) po_none)))) pss_nil)
      (pss_one (ps_ret (pe_ifExp (pt_cmpR (o_eq (K := g.K) hr) (pv 3) pe_int (nomark _)) (pe_op (o_add (K := g.K)) (pe_op (o_add (K := g.K)) (pe_slice (o_sl (K := g.K)) (pv 1) po_none (po_some (pv 2))) (pv 5)) (pe_slice (o_sl (K := g.K)) (pv 1) (po_some (pe_op (o_add (K := g.K)) (pv 2) (pe_callB (c_len (K := g.K)) (by rfl) T.b_len bb_len (pa_cons (pv 5) pa_nil)))) po_none)) (pe_op (o_add (K := g.K)) (pe_slice (o_sl (K := g.K)) (pv 1) po_none (po_some (pv 2))) (pe_slice (o_sl (K := g.K)) (pv 1) (po_some (pe_callB (call_max2 rfl) (by rfl) T.b_max (by decide +kernel) (pa_cons pe_int (pa_cons (pe_op op_sub (pv 2) pe_int) pa_nil)))) po_none))))))))))), ?_⟩
  have pL : ∀ {G : Hp} {M : Nat}, Str3 G p M → ∀ {q : Addr}, G q = none → q ≠ p := fun h _ n => h.ne n
  refine mid_at (fun σ G => ∃ (k w : Nat), σ = [some (.ref p), some (.str (S t)), some (.int (k : Nat)), some (.int (w : Nat)), none, none] ∧ k ≤ t.length ∧ Str3 G p (N + 2) ∧ But p H G) ?_ ?_
  · simp only [tPar, tRet, tRetN, tSeq, C8.tCut, tNext, tAsg, gName, gNil, gCons, gTup, gFld, tIfS, tIf, tAndV, tOrV, tNotV, tAnd, tOr, tNot, tB, tTest, tOp, tUn, tCB, tCons, tNil, tVar, tC, tChain, tDrop, RS.tCallG, RS.tMethG, tMakeG, RS.tCallK, RS.tMakeK, tEqOwn, rI, rI0, rU, add_ii, add_ss, add_rr, mul_ii, mul_si, mul_ri, RS.eq_ii, RS.eq_ss, eq_bb, eq_nn, eq_sn, eq_ns, eq_in, eq_ni, eq_bn, eq_nb, eq_is, eq_si, eq_rr, ne_ii, ne_ss, ne_bb, ne_nn, ne_sn, ne_ns, ne_in, ne_ni, ne_is, ne_si, ne_rr, in_ss, in_r, nin_ss, nin_r, len_s, len_r, RS.ix_s, RS.ix_r, sl_s, sl_r, is_eq, tyN_n, tyN_b, tyN_i, tyN_s, tru_b, tru_i, tru_n, tSl, tPart, tNoPart, tPar, tPar3, tFmtZ, tFmt, tJs, tDGet, sDPut, sFld, tFld, tTup, tLst, tNever, isB,
  L2.start, List.map_cons, List.map_nil, List.length_cons, List.length_nil, Nat.reduceAdd, Nat.reduceSub, Nat.sub_self, List.replicate_zero, List.replicate_succ, List.append_nil, List.cons_append, List.nil_append, List.getElem?_cons_zero, List.getElem?_cons_succ, List.set_cons_zero, List.set_cons_succ, Option.some.injEq, exists_eq_left, exists_eq_left', exists_and_left, V.bl.injEq, V.int.injEq, V.str.injEq, V.ref.injEq, beq_self_eq_true, Bool.true_or, Bool.or_true, Bool.false_or, Bool.or_false, Bool.and_false, Bool.false_and, Bool.true_and, Bool.and_true, Bool.not_true, Bool.not_false, Bool.false_eq_true, if_true, if_false, ite_true, ite_false, true_and, and_true, and_assoc, String.reduceBEq, String.reduceEq, reduceIte, Bool.and_self, reduceCtorEq, false_and, and_false, exists_false, or_false, false_or, exists_const, iEnumS, iStr, iList, iTup, iRng1, iEnum, tFor_eq, tLc_eq, List.cons.injEq, wipe, not_true_eq_false, not_false_eq_true, upd_same, HO.ins.injEq, HO.tup.injEq, HO.lst.injEq, ofS_eq, lk_nil, lk_cons, pu_nil, pu_cons, sizeLine_eq, Nat.reduceLT, Nat.reduceLeDiff, Nat.reduceEqDiff, Nat.le_refl, decide_true, decide_false, tPr, dget_us, dput_us, vv_nil, vv_cons, RS.pk_nil, pk_one, RS.pk_cons, inr_eq, tDisp, tPairs, tBoolOwn, rBoolOwn, tBM, rAppend, ty_list, ty_str, rEqOwn, iEnumT, RS.tCallS, tM1, tDc_eq, tLock, tLockE, iKeys, tListEnum, rUpdate, tMkX0, tMkX1, tXfv, gSub, rSetL, List.getD_cons_zero, List.getD_cons_succ, tCMethS, ClX.tCVal, tXfa, tIxOwn, tInOwn, tPropG, tMethK, tMethP, tListGen, tDGet2, tDPop2, rNeD0, intA_i, intA_b, tRevL, sFldAug, tPm0, tPm1, tDIn, tDNotIn, tDNewK, RS.tMethS]
    refine ⟨by rw [S_len]; omega, ?_⟩
    rw [S_len]
    refine ⟨_, _, rfl, p, N, _, rfl, rfl, by omega, by omega, st, by omega, fun r G1 r0 r1 S1 b1 => ?_⟩
    refine ⟨_, _, rfl, p, N + 1, 5, rfl, rfl, by decide, by decide, S1, by omega, fun r' G2 r0' r1' S2 b2 => ?_⟩
    obtain ⟨k, rfl⟩ := Int.eq_ofNat_of_zero_le r0
    obtain ⟨w, rfl⟩ := Int.eq_ofNat_of_zero_le r0'
    exact ⟨k, rfl, w, rfl, by omega, S2, But.trans b1 b2⟩
  rintro _ G ⟨k, w, rfl, kl, S2, bG⟩
  refine mid_at (fun σ G2 => ∃ s xs, σ = [some (.ref p), some (.str (S t)), some (.int (k : Nat)), some (.int (w : Nat)), some (.ref s), none] ∧ Same G G2 ∧ G2 s = some (.lst xs) ∧ xs.length = 19 ∧ ∀ v ∈ xs, ∃ o, v = .str (S o) ∧ o.length ≤ 5) ?_ ?_
  · walk_at "sx"
    intro s hs
    refine ⟨same_upd hs, fun v hv => ?_⟩
    simp only [List.mem_cons, List.not_mem_nil, or_false] at hv
    rcases hv with rfl | rfl | rfl | rfl | rfl | rfl | rfl | rfl | rfl | rfl | rfl | rfl | rfl | rfl | rfl | rfl | rfl | rfl | rfl <;> exact ⟨_, congrArg V.str (str_S _).symm, by decide +kernel⟩
  rintro _ G2 ⟨s, xs, rfl, sG2, es, xl, xv⟩
  refine mid_at (fun σ G3 => ∃ o, σ = [some (.ref p), some (.str (S t)), some (.int (k : Nat)), some (.int (w : Nat)), some (.ref s), some (.str (S o))] ∧ o.length ≤ 5 ∧ Str3 G3 p (N + 3) ∧ But p H G3) ?_ ?_
  · walk_at "sx"
    intro p1 hp1
    have sp := same_upd (o := HO.lst [V.str (Str.ofString "10001")]) hp1
    refine .inl ⟨s, p1, xs, _, rfl, rfl, sp _ _ es, upd_same, by rw [sizeLine_eq]; simp [xl], fun p2 hp2 => ?_⟩
    have s2 := (sG2.trans sp).trans (same_upd (o := HO.lst (xs ++ [V.str (Str.ofString "10001")])) hp2)
    have S2' := S2.same s2
    have ne : p ≠ p2 := fun z => by
      obtain ⟨a, b, c, h1, _⟩ := S2.same (sG2.trans sp)
      rw [z, hp2] at h1; cases h1
    refine ⟨_, _, rfl, p, p2, _, N + 2, rfl, rfl, S2', by omega, upd_same, ne, by simp, by simp [xl], fun v H' hv S' b' => ?_⟩
    have ho : ∃ o, v = .str (S o) ∧ o.length ≤ 5 := by
      rcases List.mem_append.mp hv with h | h
      · exact xv v h
      · rw [List.mem_singleton.mp h]
        exact ⟨_, congrArg V.str (str_S _).symm, by decide +kernel⟩
    obtain ⟨o, rfl, ol⟩ := ho
    exact ⟨o, rfl, ol, S', (bG.trans (But.of s2)).trans b'⟩
  rintro _ G3 ⟨o, rfl, ol, S3, bG3⟩
  refine mid_one [some (.ref p), some (.str (S t)), some (.int (k : Nat)), some (.int (w : Nat)), some (.ref s), some (.str (S o))] (fun G => G = G3) ?_ ?_
  · walk_at "sx"
    by_cases w0 : w = 0
    · rw [if_pos (by simp [w0])]
      refine ⟨by rw [S_len]; omega, ?_⟩
      rw [cut_to _ (by omega)]
      exact q _ (N + 3) _ (by rw [List.length_take]; omega) (by omega) S3 bG3
    · rw [if_neg (by simp [w0])]
      trivial
  intro G' e0
  rw [e0]; clear e0 G'
  refine mid_one [some (.ref p), some (.str (S t)), some (.int (k : Nat)), some (.int (w : Nat)), some (.ref s), some (.str (S o))] (fun G => G = G3) ?_ ?_
  · walk_at "sx"
    by_cases w0 : w = 1
    · rw [if_pos (by simp [w0])]
      refine ⟨by rw [S_len]; omega, ?_⟩
      refine ⟨_, _, rfl, p, N + 3, 3, rfl, rfl, by decide, by decide, S3, by omega, fun r G4 r0 r1 S4 b4 => ?_⟩
      show RS.rAdd g.K (.int _) (.int _) G4 _
      rw [add_ii]
      refine ⟨_, rfl, by rw [S_len]; omega, ?_⟩
      rw [cut_to _ (by omega), cut_from _ (by omega)]
      refine ⟨by rw [S_len, S_len, List.length_take, List.length_drop]; omega, ?_⟩
      rw [S_cat]
      exact q _ (N + 4) _ (by rw [List.length_append, List.length_take, List.length_drop]; omega) (by omega) S4 (bG3.trans b4)
    · rw [if_neg (by simp; omega)]
      trivial
  intro G' e0
  rw [e0]; clear e0 G'
  refine mid_one [some (.ref p), some (.str (S t)), some (.int (k : Nat)), some (.int (w : Nat)), some (.ref s), some (.str (S o))] (fun G => G = G3) ?_ ?_
  · walk_at "sx"
    by_cases w0 : w = 2
    · rw [if_pos (by simp [w0])]
      rw [cut_to _ (by omega), cut_from _ (by omega)]
      refine ⟨by rw [S_len]; omega, by rw [S_len, S_len, List.length_take]; omega, by rw [S_len]; omega, ?_⟩
      rw [S_cat, S_cat]
      refine ⟨by rw [S_len, S_len, List.length_append, List.length_take, List.length_drop]; omega, ?_⟩
      exact q _ (N + 3) _ (by rw [List.length_append, List.length_append, List.length_take, List.length_drop]; omega) (by omega) S3 bG3
    · rw [if_neg (by simp; omega)]
      trivial
  intro G' e0
  rw [e0]; clear e0 G'
  walk_at "sx"
  by_cases w3 : w = 3
  · rw [if_pos (by simp [w3])]
    rw [cut_to _ (by omega), cut_from _ (by omega)]
    refine ⟨by rw [S_len]; omega, by rw [S_len, S_len, List.length_take]; omega, by rw [S_len]; omega, by rw [S_len]; omega, ?_⟩
    rw [S_cat, S_cat]
    refine ⟨by rw [S_len, S_len, List.length_append, List.length_take, List.length_drop]; omega, ?_⟩
    exact q _ (N + 3) _ (by rw [List.length_append, List.length_append, List.length_take, List.length_drop]; omega) (by omega) S3 bG3
  · rw [if_neg (by simp; omega)]
    have j0 : ∃ j : Nat, (if ((k : Nat) : Int) - 5 > 0 then ((k : Nat) : Int) - 5 else 0) = (j : Nat) ∧ k ≤ j + 5 := by
      by_cases h : ((k : Nat) : Int) - 5 > 0
      · exact ⟨k - 5, by rw [if_pos h]; omega, by omega⟩
      · exact ⟨0, by rw [if_neg h]; rfl, by omega⟩
    obtain ⟨j, ej, jk⟩ := j0
    rw [ej, cut_to _ (by omega), cut_from _ (by omega)]
    refine ⟨by rw [S_len]; omega, by rw [S_len]; omega, by rw [S_len, S_len, List.length_take, List.length_drop]; omega, ?_⟩
    rw [S_cat]
    exact q _ (N + 3) _ (by rw [List.length_append, List.length_take, List.length_drop]; omega) (by omega) S3 bG3
end


/-! what is told of a call -/
/-- what _law_told makes of an exception -/
def XT5 (CI : Addr) (Q : VK) : XK := fun cls d H' => ∃ dd v, cls = .ref CI ∧ d = some dd ∧ XdAt H' dd [("position", v)] ∧ ∀ p H'', Same H' H'' → H' p = none → H'' p = some (.tup [.str "text", v]) → Q (.ref p) H''
def TT5 (CI : Addr) : Addr → Str → (XK → Hp → VK → Prop) → Hp → VK → Prop := fun c' q tl H Q =>
  ∀ (H0 : Hp) (E : XK) (K : VK), Same H H0 → (∀ cls d H', XT5 CI Q cls d H' → E cls d H') → (∀ v H2, (∀ p, H2 p = none → Q (.ref p) (upd H2 p (.lst [v]))) → K v H2) → tl E H0 K
section
variable {g : Wd} {fa : Addr} {fd : FuncData} {C1 C2 C3 CI CV CP : Addr}
theorem sc_l_told : FnScope ["_law_call", "_law_error", "_law_found", "e"] ["_law_call"] (defScope s_l_told) := ⟨rfl, rfl, rfl, by decide +kernel, rfl, by decide +kernel, by decide +kernel⟩
theorem ok_told (F : Df g.K "_law_told" "_law_told" s_l_told fa fd .none) (T : Txt g) (hmg : g.mg "_law_told" = some (.ref fa)) (hb : Binds g.K fd ["_law_call"] [])
    (V_ShelfError : g.mg "ShelfError" = some (.ref C1)) (V_ShelfStateError : g.mg "ShelfStateError" = some (.ref C2)) (V_LimitError : g.mg "LimitError" = some (.ref C3))
    (V_InvalidText : Gv g "InvalidText" (.ref CI)) (V_InvalidValue : Gv g "InvalidValue" (.ref CV)) (V_InvalidPath : Gv g "InvalidPath" (.ref CP))
    (EC : ExcC g.K CI) (kV : PySem.W.kitOne g.K (.ref CI) (.ref CV) = some false) (kT : PySem.W.kitOne g.K (.ref CI) (.ref CI) = some true) (XF : XfC g.K CI ∧ PySem.W.findIn g.K (.ref CI) "position" = some none)
    (EX : PySem.W.exmAny g.K (.ref CI) [.ref C1, .ref C2, .ref C3] = some true) : Told g 60 "_law_told" (TT5 CI) := by
  refine ⟨s_l_told, fa, fd, "_law_call", ["_law_call", "_law_error", "_law_found", "e"], hmg, F, hb, sc_l_told, rfl, .inl rfl, by decide, by decide, fun cdv A outer s H Q f c' q tl hr act hc h => ?_⟩
  have N_ShelfError : Names (cx g ["_law_call", "_law_error", "_law_found", "e"] "_law_told" s_l_told fa cdv A outer s H fun _ _ _ => False) "ShelfError" (.ref C1) := ⟨rfl, by decide, .inl V_ShelfError⟩
  have N_ShelfStateError : Names (cx g ["_law_call", "_law_error", "_law_found", "e"] "_law_told" s_l_told fa cdv A outer s H fun _ _ _ => False) "ShelfStateError" (.ref C2) := ⟨rfl, by decide, .inl V_ShelfStateError⟩
  have N_LimitError : Names (cx g ["_law_call", "_law_error", "_law_found", "e"] "_law_told" s_l_told fa cdv A outer s H fun _ _ _ => False) "LimitError" (.ref C3) := ⟨rfl, by decide, .inl V_LimitError⟩
  refine ⟨_, (pss_mid (ps_asg (pe_tup (pa_cons pe_non (pa_cons pe_non pa_nil))) (g_tup (K := g.K) (n := 2) (pgs_cons (pg_name (i := 1) sc_l_told.nd rfl (.inl rfl)) (pgs_cons (pg_name (i := 2) sc_l_told.nd rfl (.inl rfl)) pgs_nil))))
      (pss_mid (ps_try_keep (i := 3) rfl rfl rfl sc_l_told.nd rfl rfl N_ShelfError N_ShelfStateError N_LimitError tkD (fun W pn xe tk1 po1 => (pss_one (ps_set (i := 2) sc_l_told.nd rfl (Or.inl rfl) (act _ _ _ _ _ tk1)))) (fun a oe cls d pn hz hf => (pss_one (ps_set (i := 1) sc_l_told.nd rfl (Or.inl rfl) (pv 3)))))
      (pss_mid (ps_if (pt_cmpR op_isN (pv 1) pe_non (nomark _)) (pss_one (ps_ret (pe_lst (pa_cons (pv 2) pa_nil)))) pss_nil)
      (pss_mid (ps_if (pt_val (pe_callB (c_isW (K := g.K)) (by rfl) T.b_isinstance bb_isinstance (pa_cons (pv 1) (pa_cons (e_g V_InvalidValue) pa_nil)))) (pss_one (ps_ret (pe_tup (pa_cons pe_str (pa_cons (pe_xfa (g := g) (pv 1)) pa_nil))))) pss_nil)
      (pss_mid (ps_if (pt_val (pe_callB (c_isW (K := g.K)) (by rfl) T.b_isinstance bb_isinstance (pa_cons (pv 1) (pa_cons (e_g V_InvalidText) pa_nil)))) (pss_one (ps_ret (pe_tup (pa_cons pe_str (pa_cons (pe_xfa (g := g) (pv 1)) pa_nil))))) pss_nil)
      (pss_one (ps_ret (pe_ifExp (pt_val (pe_callB (c_isW (K := g.K)) (by rfl) T.b_isinstance bb_isinstance (pa_cons (pv 1) (pa_cons (e_g V_InvalidPath) pa_nil)))) (pe_tup (pa_cons pe_str (pa_cons (pe_xfa (g := g) (pv 1)) pa_nil))) (pe_tup (pa_cons pe_str pa_nil)))))))))), ?_⟩
  refine mid_at (fun σ G => σ = [some (.ref f), some .non, some .non, none] ∧ Same H G) ?_ ?_
  · walk_at "sx"
    exact fun p hp => ⟨_, SqT.of upd_same, rfl, _, _, rfl, _, _, rfl, rfl, rfl, rfl, same_upd hp⟩
  rintro _ G ⟨rfl, sG⟩
  refine mid_at (fun σ G2 => (∃ v, σ = [some (.ref f), some .non, some v, none] ∧ ∀ p, G2 p = none → Q (.ref p) (upd G2 p (.lst [v]))) ∨ ∃ a dd v H' e, σ = [some (.ref f), some (.ref a), some .non, e] ∧ G2 a = some (exv a CI (some dd)) ∧ Same H' G2 ∧ H' a = none ∧ XdAt G2 dd [("position", v)] ∧ ∀ p H'', Same H' H'' → H' p = none → H'' p = some (.tup [.str "text", v]) → Q (.ref p) H'') ?_ ?_
  · walk_at "sx"
    refine ⟨sG _ _ hc, h G _ _ sG (fun cls d H' hx => ?_) (fun v H2 hq p hp => hq p hp)⟩
    obtain ⟨dd, v, rfl, rfl, hx, k⟩ := hx
    unfold wKeep
    refine ⟨true, EX, fun _ => ⟨CI, rfl, fun a ha => ?_⟩, fun z => by cases z⟩
    walk_at "sx"
    exact fun ha2 => ⟨dd, rfl, v, H', same_upd ha, ha, hx.same (same_upd ha), k⟩
  rintro _ G2 (⟨v, rfl, hq⟩ | ⟨a, dd, v, H', e, rfl, ha, sH, nH, xd, k⟩)
  · refine mid_at (fun _ _ => False) ?_ (fun _ _ z => z.elim)
    walk_at "sx"
    exact hq
  refine mid_one [some (.ref f), some (.ref a), some .non, e] (fun G3 => G3 = G2) ?_ ?_
  · walk_at "sx"
  intro G3 e0
  rw [e0]; clear e0 G3
  have hdd : ∀ d', some dd = some d' → ∃ fs, XdAt G2 d' fs := fun d' z => by cases z; exact ⟨_, xd⟩
  refine mid_one [some (.ref f), some (.ref a), some .non, e] (fun G3 => G3 = G2) ?_ ?_
  · walk_at "sx"
    refine ⟨a, CI, some dd, .ref CV, _, false, rfl, EC, .own _, ha, hdd, kV, _, rfl, ?_⟩
    rw [if_neg (by simp)]
  intro G3 e0
  rw [e0]; clear e0 G3
  refine mid_at (fun _ _ => False) ?_ (fun _ _ z => z.elim)
  walk_at "sx"
  refine ⟨a, CI, some dd, .ref CI, _, true, rfl, EC, .own _, ha, hdd, kT, _, rfl, ?_⟩
  rw [if_pos rfl]
  refine ⟨_, rfl, ?_⟩
  exact ⟨a, CI, dd, _, v, rfl, ha, xd, by rw [lk_cons, if_pos rfl], XF.1, XF.2, fun p hp => k p _ (sH.trans (same_upd hp)) (none_of_same sH hp) upd_same⟩
end


/-! a text is asked -/
open PySem PySem.Spec L2 RS LamX
theorem num_lt (n : Nat) : n < 10 ^ (numL n).length := by
  induction n using Nat.strongRecOn with
  | ind n ih =>
    by_cases lt : n < 10
    · rw [numL_lt lt]; simpa using lt
    · rw [numL_step (by omega), List.length_append]
      have := ih (n / 10) (by omega)
      show n < 10 ^ ((numL (n / 10)).length + 1)
      rw [Nat.pow_succ]
      omega
mutual
theorem wf_ok : ∀ d : PyData, wf d → okB d = true
  | .none, _ => rfl
  | .bool _, _ => rfl
  | .int i, h => by
    simp only [wf] at h
    simp only [okB, decide_eq_true_eq]
    exact Nat.lt_of_lt_of_le (num_lt _) (Nat.pow_le_pow_right (by decide) h)
  | .str x, h => by
    simp only [wf] at h
    simpa [okB] using h
  | .list ds, h => by
    simp only [wf] at h
    simp only [okB, Bool.and_eq_true, decide_eq_true_eq]
    exact ⟨h.1, wfs_ok ds h.2⟩
  | .tuple ds, h => by
    simp only [wf] at h
    simp only [okB, Bool.and_eq_true, decide_eq_true_eq]
    exact ⟨h.1, wfs_ok ds h.2⟩
  | .dict D, h => by
    simp only [wf] at h
    simp only [okB, Bool.and_eq_true, decide_eq_true_eq]
    exact ⟨h.1, wfK_ok D [] h.2⟩
theorem wfs_ok : ∀ ds : List PyData, wfs ds → okAll ds = true
  | [], _ => rfl
  | d :: ds, h => by
    simp only [wfs] at h
    simp only [okAll, Bool.and_eq_true]
    exact ⟨wf_ok d h.1, wfs_ok ds h.2⟩
theorem wfK_ok : ∀ (D : List (PyData × PyData)) (seen : List (List Nat)), wfK seen D → okKv D = true
  | [], _, _ => rfl
  | (k, d) :: r, seen, h => by
    simp only [wfK] at h
    obtain ⟨⟨x, rfl, l, _, hr⟩, hd⟩ := h
    simp only [okKv, okB, Bool.and_eq_true, decide_eq_true_eq]
    exact ⟨⟨l, wf_ok d hd⟩, wfK_ok r _ hr⟩
end
def od : Option Nat → PyData
  | some k => .int (k : Nat)
  | none => .none
theorem show2 (o : Option Nat) (h : ∀ k, o = some k → k ≤ 10000000) (b : Bool) : (PyData.list [od o, .bool b]).showable = true ∧ (PyData.list [od o, .bool b]).depth ≤ 60 ∧ (PyData.list [od o, .bool b]).shown.length ≤ sizeLine := by
  cases o with
  | none => rw [sizeLine_eq]; cases b <;> decide +kernel
  | some k =>
    have hk := h k rfl
    refine ⟨?_, ?_, PyData.shown_fits_bulk (B := 13) (by decide) (by decide) ?_ ?_⟩
    · have : k.log2 < 1920 := by
        by_cases k0 : k = 0
        · subst k0; decide
        · refine Nat.lt_of_lt_of_le ((Nat.log2_lt k0).mpr (show k < 2 ^ 24 from by omega)) (by decide)
      simpa [od, PyData.showable, PyData.showableAll] using this
    · simp [od, PyData.depth, PyData.depthAll]
    · simp only [od, PyData.leavesShort, PyData.leavesShortAll]
      rw [PyData.shown_int, RS.num_int (i := ((k : Nat) : Int)) (by omega), S_len, Int.toNat_natCast]
      have := TL.numL_len (n := k) (k := 8) (by decide) (by omega)
      simp; omega
    · simp [od, PyData.bulk, PyData.bulkAll]
section
variable {g : Wd} {fa : Addr} {fd : FuncData} {c P CI : Addr} {TS : List (Addr × Str)}
theorem sc_l_right : FnScope ["_law_text", "_law_wrong", "_law_told_here"] ["_law_text"] (defScope s_l_right) := ⟨rfl, rfl, rfl, by decide +kernel, rfl, by decide +kernel, by decide +kernel⟩
def sp_right (T : List (Addr × Str)) : Sp := S1 fun x H Q _ => ∃ t, x = .str (S t) ∧ t.length ≤ 1000000 ∧ Tabs T H ∧ ∀ H', FrT [] H H' → Tabs T H' → Q (.bl true) H'
theorem ok_right (F : DfC g.K "_law_right" "_law_right" s_l_right fa fd c) (T : Txt5 g) (SM : SmB g.base) (TOLD : Told g 60 "_law_told" (TT5 CI)) (L_l_right : LamT g TS c P "_law_right") (F_l_scan : Kn g "_law_scan" 3 ["_law_text", "_law_is_row"] [] sp_scan)
    (F_first_wrong : Kn g "first_wrong" 48 ["text"] [] sp_fw) (F_is_text : Kn g "is_text" 49 ["value"] [] sp_ist) (F_value_of : Kn g "value_of" 47 ["text"] [] (sp_vof CI)) (F_text_of : Kn g "text_of" 24 ["value"] [] sp_text) : FnG g 64 fa fd ["_law_text"] (sp_right TS) := by
  refine F.ok sc_l_right (fun vs H Q E h => S1.len h) (fun A outer s H vs Q E hr h => ?_)
  obtain ⟨_, rfl, t, rfl, hl, tab, q⟩ := h
  refine ⟨_, (pss_mid (ps_set (i := 1) sc_l_right.nd rfl (Or.inl rfl) (pe_ix (o_ix (K := g.K)) (pe_callG F_l_scan (hr.mono (by first | decide | omega)) tkD (pa_cons (pv 0) (pa_cons pe_bl pa_nil))) pe_int (fun _ _ => rfl)))
      (pss_mid (ps_if (pt_cmpR (o_ne (K := g.K) hr) (pe_callB (c_reprV (K := g.K) (base := g.base) SM hr) (by rfl) T.b_repr bb_repr (pa_cons (pe_lst (pa_cons (pe_callG F_first_wrong (hr.mono (by first | decide | omega)) tkD (pa_cons (pv 0) pa_nil)) (pa_cons (pe_callG F_is_text (hr.mono (by first | decide | omega)) tkD (pa_cons (pv 0) pa_nil)) pa_nil))) pa_nil)) (pe_callB (c_reprV (K := g.K) (base := g.base) SM hr) (by rfl) T.b_repr bb_repr (pa_cons (pe_lst (pa_cons (pv 1) (pa_cons (pe_cmpR op_isN (pv 1) pe_non (nomark _)) pa_nil))) pa_nil)) (nomark _)) (pss_one (ps_ret pe_bl)) pss_nil)
      (pss_mid (ps_set (i := 2) sc_l_right.nd rfl (Or.inl rfl) (pe_lam TOLD L_l_right (hr.mono (by first | decide | omega)) (by decide +kernel) (fun _ _ _ _ _ _ _ hr => (pe_callG F_value_of (Rm.mono (Rm.mk hr.room hr.gd) (by first | decide | omega)) takesL (pa_cons (pv 0) pa_nil)))))
      (pss_mid (ps_if (pt_cmpR op_notN (pv 1) pe_non (nomark _)) (pss_one (ps_ret (pe_and (pe_cmpR (o_eq (K := g.K) hr) (pv 2) (pe_tup (pa_cons pe_str (pa_cons (pv 1) pa_nil))) (nomark _)) (pe_one (pe_cmpR (o_in (K := g.K)) (pe_callG F_first_wrong (hr.mono (by first | decide | omega)) tkD (pa_cons (pe_slice (o_sl (K := g.K)) (pv 0) po_none (po_some (pv 1))) pa_nil)) (pe_tup (pa_cons (pv 1) (pa_cons pe_non pa_nil))) (by rfl)))))) pss_nil)
      (pss_one (ps_ret (pe_and (pe_callB (c_is "list") (by rfl) T.b_isinstance bb_isinstance (pa_cons (pv 2) (pa_cons (pe_bltn (v := .ty "list") rfl T.b_list bb_list rfl) pa_nil))) (pe_one (pe_cmpR (o_eq (K := g.K) hr) (pe_callG F_text_of (hr.mono (by first | decide | omega)) tkD (pa_cons (pe_ix (o_ix (K := g.K)) (pv 2) pe_int (fun _ _ => rfl)) pa_nil)) (pv 0) (nomark _)))))))))), ?_⟩
  refine mid_at (fun σ G => σ = [some (.str (S t)), some (vw (wr (vo t))), none] ∧ Same H G) ?_ ?_
  · walk_at "sx"
    refine ⟨_, _, rfl, t, rfl, rfl, by omega, fun p x H' s e => ?_⟩
    show rIxU g.K (.ref p) (.int 1) H' _
    rw [RS.ix_r]
    exact ⟨_, .inr (SqT.of e), _, atI_nat (j := 1) rfl, rfl, s⟩
  rintro _ G ⟨rfl, sG⟩
  refine mid_at (fun σ G2 => σ = [some (.str (S t)), some (vw (wr (vo t))), none] ∧ Same G G2) ?_ ?_
  · walk_at "sx"
    have wl : ∀ k, wr (vo t) = some k → k ≤ 10000000 := fun k e => by
      cases hv : vo t with
      | bad j => rw [hv] at e; cases e; have := (vo_pre hv).1; omega
      | ok d j => rw [hv] at e; cases e
    have wi : decide (vw (wr (vo t)) = V.non) = isOk (vo t) := by
      cases vo t <;> simp [wr, vw, isOk]
    have main : ∀ H1, Same G H1 → sp_ist [V.str (S t)] H1 (fun x_1 H1 => ∀ (p : Addr), H1 p = none → rReprV g.K [V.ref p] (upd H1 p (HO.lst [vw (wr (vo t)), x_1])) fun x H1 => ∀ (p : Addr), H1 p = none → rReprV g.K [V.ref p] (upd H1 p (HO.lst [vw (wr (vo t)), V.bl (decide (vw (wr (vo t)) = V.non))])) fun y H2 => rNeU g.K x y H2 fun x H' => ∃ k, x = V.bl k ∧ if k = true then Q (V.bl false) H' else Same G H') (fun c d H' => E c d H') := fun H1 s1 => by
      refine ⟨_, rfl, t, rfl, by omega, fun H2 s2 p hp => ?_⟩
      have sp := same_upd (o := HO.lst [vw (wr (vo t)), V.bl (isOk (vo t))]) hp
      obtain ⟨a1, a2, a3⟩ := show2 (wr (vo t)) wl (isOk (vo t))
      have dx : ∀ {Z : Hp}, DpX g.K Z (vw (wr (vo t))) (od (wr (vo t))) := fun {Z} => by cases wr (vo t) with
        | none => exact .non
        | some k => exact .int _
      refine ⟨_, .list [od (wr (vo t)), .bool (isOk (vo t))], rfl, .lst (SqL.of upd_same) (.cons dx (.cons (.bl _) .nil)), a1, a2, a3, fun p2 hp2 => ?_⟩
      rw [wi]
      rw [wi] at *
      have sp2 := same_upd (o := HO.lst [vw (wr (vo t)), V.bl (isOk (vo t))]) hp2
      refine ⟨_, .list [od (wr (vo t)), .bool (isOk (vo t))], rfl, .lst (SqL.of upd_same) (.cons dx (.cons (.bl _) .nil)), a1, a2, a3, ?_⟩
      show rNeU g.K (.str _) (.str _) _ _
      rw [ne_ss]
      refine ⟨_, rfl, ?_⟩
      rw [if_neg (by simp)]
      exact ((s1.trans s2).trans sp).trans sp2
    refine ⟨_, rfl, t, rfl, by omega, ?_⟩
    cases hv : vo t with
    | bad k => rw [hv] at main; exact fun H1 s1 => main H1 s1
    | ok d k => rw [hv] at main; exact fun H1 s1 => main H1 s1
  rintro _ G2 ⟨rfl, sG2⟩
  have tb2 : Tabs TS G2 := RS.Tabs.same tab (sG.trans sG2)
  refine mid_at (fun σ G3 => ∃ r, σ = [some (.str (S t)), some (vw (wr (vo t))), some (.ref r)] ∧ FrT [] G2 G3 ∧ Tabs TS G3 ∧ match vo t with
    | .bad k => G3 r = some (.tup [.str "text", .int (k : Nat)])
    | .ok d _ => ∃ v fp, G3 r = some (.lst [v]) ∧ Tr G3 v d fp) ?_ ?_
  · simp only [tLamG, tRet, tRetN, tSeq, C8.tCut, tNext, tAsg, gName, gNil, gCons, gTup, gFld, tIfS, tIf, tAndV, tOrV, tNotV, tAnd, tOr, tNot, tB, tTest, tOp, tUn, tCB, tCons, tNil, tVar, tC, tChain, tDrop, RS.tCallG, RS.tMethG, tMakeG, RS.tCallK, RS.tMakeK, tEqOwn, rI, rI0, rU, add_ii, add_ss, add_rr, mul_ii, mul_si, mul_ri, RS.eq_ii, RS.eq_ss, eq_bb, eq_nn, eq_sn, eq_ns, eq_in, eq_ni, eq_bn, eq_nb, eq_is, eq_si, eq_rr, ne_ii, ne_ss, ne_bb, ne_nn, ne_sn, ne_ns, ne_in, ne_ni, ne_is, ne_si, ne_rr, in_ss, in_r, nin_ss, nin_r, len_s, len_r, RS.ix_s, RS.ix_r, sl_s, sl_r, is_eq, tyN_n, tyN_b, tyN_i, tyN_s, tru_b, tru_i, tru_n, tSl, tPart, tNoPart, tPar, tPar3, tFmtZ, tFmt, tJs, tDGet, sDPut, sFld, tFld, tTup, tLst, tNever, isB,
  L2.start, List.map_cons, List.map_nil, List.length_cons, List.length_nil, Nat.reduceAdd, Nat.reduceSub, Nat.sub_self, List.replicate_zero, List.replicate_succ, List.append_nil, List.cons_append, List.nil_append, List.getElem?_cons_zero, List.getElem?_cons_succ, List.set_cons_zero, List.set_cons_succ, Option.some.injEq, exists_eq_left, exists_eq_left', exists_and_left, V.bl.injEq, V.int.injEq, V.str.injEq, V.ref.injEq, beq_self_eq_true, Bool.true_or, Bool.or_true, Bool.false_or, Bool.or_false, Bool.and_false, Bool.false_and, Bool.true_and, Bool.and_true, Bool.not_true, Bool.not_false, Bool.false_eq_true, if_true, if_false, ite_true, ite_false, true_and, and_true, and_assoc, String.reduceBEq, String.reduceEq, reduceIte, Bool.and_self, reduceCtorEq, false_and, and_false, exists_false, or_false, false_or, exists_const, iEnumS, iStr, iList, iTup, iRng1, iEnum, tFor_eq, tLc_eq, List.cons.injEq, wipe, not_true_eq_false, not_false_eq_true, upd_same, HO.ins.injEq, HO.tup.injEq, HO.lst.injEq, ofS_eq, lk_nil, lk_cons, pu_nil, pu_cons, sizeLine_eq, Nat.reduceLT, Nat.reduceLeDiff, Nat.reduceEqDiff, Nat.le_refl, decide_true, decide_false, tPr, dget_us, dput_us, vv_nil, vv_cons, RS.pk_nil, pk_one, RS.pk_cons, inr_eq, tDisp, tPairs, tBoolOwn, rBoolOwn, tBM, rAppend, ty_list, ty_str, rEqOwn, iEnumT, RS.tCallS, tM1, tDc_eq, tLock, tLockE, iKeys, tListEnum, rUpdate, tMkX0, tMkX1, tXfv, gSub, rSetL, List.getD_cons_zero, List.getD_cons_succ, tCMethS, ClX.tCVal, tXfa, tIxOwn, tInOwn, tPropG, tMethK, tMethP, tListGen, tDGet2, tDPop2, rNeD0, intA_i, intA_b, tRevL, sFldAug, tPm0, tPm1, tDIn, tDNotIn, tDNewK, RS.tMethS]
    refine ⟨tb2, fun c' H1 eN T1 hc => ?_⟩
    intro H0 E' K' s0 hE hK
    have f0 : FrT [] G2 H0 := (FrT.ofN eN).trans (FrT.of s0)
    have t0 : Tabs TS H0 := T1.ext s0
    refine ⟨_, rfl, t, rfl, by omega, ?_⟩
    cases hv : vo t with
    | bad k =>
      intro dd H' s' ed
      exact hE _ _ _ ⟨dd, .int (k : Nat), rfl, rfl, .inl ed, fun p H'' s'' np ep => ⟨p, rfl, (f0.trans (FrT.of s')).trans (FrT.of s''), (t0.ext s').ext s'', by rw [hv]; exact ep⟩⟩
    | ok d k =>
      intro v fp H' tr fr s'
      refine hK _ _ fun p hp => ?_
      have sp := same_upd (o := HO.lst [v]) hp
      exact ⟨p, rfl, (f0.trans (FrT.of s')).trans (FrT.of sp), (t0.ext s').ext sp, by rw [hv]; exact ⟨v, upd_same, fp, tr.same sp⟩⟩
  rintro _ G3 ⟨r, rfl, f3, t3, hr3⟩
  have fH : FrT [] H G3 := (FrT.of (sG.trans sG2)).trans f3
  cases hv : vo t with
  | bad k =>
    rw [hv] at hr3
    have pre := vo_pre hv
    refine mid_at (fun _ _ => False) ?_ (fun _ _ z => z.elim)
    walk_at "sx"
    rw [if_pos (by simp [wr, vw])]
    intro p hp
    have sp := same_upd (o := HO.tup [V.str (Str.ofString "text"), V.int (k : Nat)]) hp
    have okt : PyData.strOk (Str.ofString "text") = true := by decide +kernel
    refine ⟨.tuple [.str (Str.ofString "text"), .int (k : Nat)], .tuple [.str (Str.ofString "text"), .int (k : Nat)], .tup (SqT.of (sp _ _ hr3)) (.cons (.str _) (.cons (.int _) .nil)), .tup (SqT.of upd_same) (.cons (.str _) (.cons (.int _) .nil)), ?_, ?_, ?_⟩
    · simp [SeqAt.shaped, PyData.canLay0, PyData.canLayAll0, PyData.depth, PyData.depthAll, okt]
    · simp [SeqAt.shaped, PyData.canLay0, PyData.canLayAll0, PyData.depth, PyData.depthAll, okt]
    have e1 : PyData.eqv (.tuple [.str (Str.ofString "text"), .int (k : Nat)]) (.tuple [.str (Str.ofString "text"), .int (k : Nat)]) = true := by simp [PyData.eqv, PyData.eqvAll]
    rw [e1]
    refine ⟨_, rfl, ?_⟩
    rw [if_pos rfl]
    refine ⟨(k : Nat), rfl, by rw [S_len]; omega, ?_⟩
    rw [cut_to _ (by omega), Int.toNat_natCast]
    refine ⟨_, rfl, t.take k, rfl, by rw [List.length_take]; omega, ?_⟩
    have fin : ∀ (x : V) H1, Same (upd G3 p (HO.tup [V.str (Str.ofString "text"), V.int (k : Nat)])) H1 → (x = .int (k : Nat) ∨ x = .non) → ∀ (p : Addr), H1 p = none → ∃ xs, (SqL g.K (upd H1 p (HO.tup [V.int (k : Nat), V.non])) p xs ∨ SqT g.K (upd H1 p (HO.tup [V.int (k : Nat), V.non])) p xs) ∧ flatV x = true ∧ xs.all flatV = true ∧ Q (V.bl (inV x xs)) (upd H1 p (HO.tup [V.int (k : Nat), V.non])) := fun x H1 s1 hx p2 hp2 => by
      have s2 := (sp.trans s1).trans (same_upd (o := HO.tup [V.int (k : Nat), V.non]) hp2)
      have ql := q _ (fH.trans (FrT.of s2)) (t3.ext s2)
      refine ⟨_, .inr (SqT.of upd_same), by rcases hx with rfl | rfl <;> rfl, rfl, ?_⟩
      have e2 : inV x [V.int (k : Nat), V.non] = true := by rcases hx with rfl | rfl <;> simp [inV, eqV]
      rw [e2]
      exact ql
    rcases pre.2 with e | ⟨d, j, e⟩
    · rw [e]
      exact fun H1 s1 => fin _ H1 s1 (.inl rfl)
    · rw [e]
      exact fun H1 s1 => fin _ H1 s1 (.inr rfl)
  | ok d k =>
    rw [hv] at hr3
    obtain ⟨v, fp, er, tr⟩ := hr3
    obtain ⟨w, dd, et⟩ := vo_text hv
    refine mid_one [some (.str (S t)), some .non, some (.ref r)] (fun G => G = G3) ?_ ?_
    · walk_at "sx"
      rw [if_neg (by simp [wr, vw])]
      rfl
    intro G4 e0
    rw [e0]; clear e0 G4
    walk_at "sx"
    have es : spell d = S t := str_cps (by rw [spell_sl d (fun _ => trivial), et])
    refine ⟨_, tyN_l er, ?_⟩
    rw [if_pos (by decide)]
    refine ⟨_, .inl (SqL.of er), v, atI_nat (j := 0) rfl, ?_⟩
    refine ⟨_, rfl, d, fp, tr, wf_ok d w, by omega, by rw [es, S_len]; omega, fun H' s' => ?_⟩
    show rEqU g.K (.str _) (.str _) _ _
    rw [eq_ss, es, decide_eq_true rfl]
    exact q _ (fH.trans (FrT.of s')) (t3.ext s')
end


/-! odd values are no texts -/
section
variable {g : Wd} {f : Addr} {fd : FuncData} {C_TextReader CI : Addr}
/-- no string -/
def NoS (H : Hp) (v : V) : Prop := ∃ ty, tyN v H = some ty ∧ ty ≠ "str"
def sp_cstrO (CI : Addr) : Sp := S1 fun z H Q E => NoS H z ∧ ∀ dd, H dd = none → E (.ref CI) (some dd) (upd H dd (.xd [("position", .non)]))
theorem ok_cstrO (F : Df g.K "check_string" "check_string" s_check_string f fd .none) (T : Txt2 g) (X_InvalidText : XK1 g "InvalidText" CI "position") (RI : PySem.W.subIn g.K (.ref CI) (.type "BaseException") = some true ∧ PySem.W.typeIn g.K (.ref CI) = some (.type "type")) : FnG g 3 f fd ["text"] (sp_cstrO CI) := by
  refine F.ok sc_check_string (fun vs H Q E h => S1.len h) (fun cdv A outer s H vs Q E hr h => ?_)
  obtain ⟨v, rfl, ⟨ty, ht, hn⟩, q⟩ := h
  have R_InvalidText := raises_own (X := cx g ["text"] "check_string" s_check_string f cdv A outer s H E) RI.1 RI.2
  refine ⟨_, (pss_one (ps_if (pt_not (pt_val (pe_callB (c_is "str") (by rfl) T.b_isinstance bb_isinstance (pa_cons (pv 0) (pa_cons (pe_bltn (v := .ty "str") rfl T.b_str bb_str rfl) pa_nil))))) (pss_one (ps_raise rfl tkD (pmk_x1 X_InvalidText R_InvalidText (hr.mono (by first | decide | omega)) (pa_cons pe_non pa_nil)))) pss_nil)), ?_⟩
  walk_at "sx"
  refine ⟨ty, ht, ?_⟩
  rw [if_pos (by simp [hn])]
  simp only [tPm1, tRet, tRetN, tSeq, C8.tCut, tNext, tAsg, gName, gNil, gCons, gTup, gFld, tIfS, tIf, tAndV, tOrV, tNotV, tAnd, tOr, tNot, tB, tTest, tOp, tUn, tCB, tCons, tNil, tVar, tC, tChain, tDrop, RS.tCallG, RS.tMethG, tMakeG, RS.tCallK, RS.tMakeK, tEqOwn, rI, rI0, rU, add_ii, add_ss, add_rr, mul_ii, mul_si, mul_ri, RS.eq_ii, RS.eq_ss, eq_bb, eq_nn, eq_sn, eq_ns, eq_in, eq_ni, eq_bn, eq_nb, eq_is, eq_si, eq_rr, ne_ii, ne_ss, ne_bb, ne_nn, ne_sn, ne_ns, ne_in, ne_ni, ne_is, ne_si, ne_rr, in_ss, in_r, nin_ss, nin_r, len_s, len_r, RS.ix_s, RS.ix_r, sl_s, sl_r, is_eq, tyN_n, tyN_b, tyN_i, tyN_s, tru_b, tru_i, tru_n, tSl, tPart, tNoPart, tPar, tPar3, tFmtZ, tFmt, tJs, tDGet, sDPut, sFld, tFld, tTup, tLst, tNever, isB,
  L2.start, List.map_cons, List.map_nil, List.length_cons, List.length_nil, Nat.reduceAdd, Nat.reduceSub, Nat.sub_self, List.replicate_zero, List.replicate_succ, List.append_nil, List.cons_append, List.nil_append, List.getElem?_cons_zero, List.getElem?_cons_succ, List.set_cons_zero, List.set_cons_succ, Option.some.injEq, exists_eq_left, exists_eq_left', exists_and_left, V.bl.injEq, V.int.injEq, V.str.injEq, V.ref.injEq, beq_self_eq_true, Bool.true_or, Bool.or_true, Bool.false_or, Bool.or_false, Bool.and_false, Bool.false_and, Bool.true_and, Bool.and_true, Bool.not_true, Bool.not_false, Bool.false_eq_true, if_true, if_false, ite_true, ite_false, true_and, and_true, and_assoc, String.reduceBEq, String.reduceEq, reduceIte, Bool.and_self, reduceCtorEq, false_and, and_false, exists_false, or_false, false_or, exists_const, iEnumS, iStr, iList, iTup, iRng1, iEnum, tFor_eq, tLc_eq, List.cons.injEq, wipe, not_true_eq_false, not_false_eq_true, upd_same, HO.ins.injEq, HO.tup.injEq, HO.lst.injEq, ofS_eq, lk_nil, lk_cons, pu_nil, pu_cons, sizeLine_eq, Nat.reduceLT, Nat.reduceLeDiff, Nat.reduceEqDiff, Nat.le_refl, decide_true, decide_false, tPr, dget_us, dput_us, vv_nil, vv_cons, RS.pk_nil, pk_one, RS.pk_cons, inr_eq, tDisp, tPairs, tBoolOwn, rBoolOwn, tBM, rAppend, ty_list, ty_str, rEqOwn, iEnumT, RS.tCallS, tM1, tDc_eq, tLock, tLockE, iKeys, tListEnum, rUpdate, tMkX0, tMkX1, tXfv, gSub, rSetL, List.getD_cons_zero, List.getD_cons_succ, tCMethS, ClX.tCVal, tXfa, tIxOwn, tInOwn, tPropG, tMethK, tMethP, tListGen, tDGet2, tDPop2, rNeD0, intA_i, intA_b, tRevL, sFldAug, tPm0, tPm1, tDIn, tDNotIn, tDNewK, RS.tMethS]
  exact q
def sp_istO : Sp := S1 fun z H Q E => NoS H z ∧ Q (.bl false) H
theorem ok_istO (F : Df g.K "is_text" "is_text" s_is_text f fd .none) (T : Txt2 g) (F_first_wrong : Kn g "first_wrong" 48 ["text"] [] sp_fw) : FnG g 49 f fd ["value"] sp_istO := by
  refine F.ok sc_is_text (fun vs H Q E h => S1.len h) (fun cdv A outer s H vs Q E hr h => ?_)
  obtain ⟨v, rfl, ⟨ty, ht, hn⟩, q⟩ := h
  refine ⟨_, (pss_one (ps_ret (pe_and (pe_callB (c_is "str") (by rfl) T.b_isinstance bb_isinstance (pa_cons (pv 0) (pa_cons (pe_bltn (v := .ty "str") rfl T.b_str bb_str rfl) pa_nil))) (pe_one (pe_cmpR op_isN (pe_callG F_first_wrong (hr.mono (by first | decide | omega)) tkD (pa_cons (pv 0) pa_nil)) pe_non (nomark _)))))), ?_⟩
  walk_at "sx"
  refine ⟨ty, ht, ?_⟩
  rw [if_neg (by simp [hn])]
  exact q
def sp_vofO (CI : Addr) : Sp := S1 fun z H Q E => NoS H z ∧ ∀ dd, H dd = none → E (.ref CI) (some dd) (upd H dd (.xd [("position", .non)]))
theorem ok_vofO (F : Df g.K "value_of" "value_of" s_value_of f fd .none) (T : Txt2 g) (R : RF g C_TextReader) (CL_TextReader : Cls g.K C_TextReader) (F_check_string : Kn g "check_string" 3 ["text"] [] (sp_cstrO CI)) (F_TextReader : Kc g "TextReader" C_TextReader 1 ["self", "text"] [] (sp_rinit C_TextReader)) (M_TextReader_read_part : Km g C_TextReader "read_part" 46 ["self", "depth"] [] (sp_part C_TextReader CI 20)) (M_TextReader_is_done : Km g C_TextReader "is_done" 1 ["self"] [] (sp_done C_TextReader)) (M_TextReader_refuse : Km g C_TextReader "refuse" 3 ["self", "index"] [] (sp_refuse CI)) : FnG g 47 f fd ["text"] (sp_vofO CI) := by
  refine F.ok sc_value_of (fun vs H Q E h => S1.len h) (fun cdv A outer s H vs Q E hr h => ?_)
  obtain ⟨v, rfl, nS, q⟩ := h
  refine ⟨_, (pss_mid (ps_expr (pe_callG F_check_string (hr.mono (by first | decide | omega)) tkD (pa_cons (pv 0) pa_nil)))
      (pss_cons ps_never
      (pss_cons (ps_set (i := 2) sc_value_of.nd rfl (Or.inl rfl) (pe_methG (pv 1) CL_TextReader M_TextReader_read_part (hr.mono (by first | decide | omega)) tkD (pa_cons pe_int pa_nil)))
      (pss_cons (ps_if (pt_not (pt_val (pe_methG0 (pv 1) CL_TextReader M_TextReader_is_done (hr.mono (by first | decide | omega)) tkD))) (pss_one (ps_expr (pe_methG (pv 1) CL_TextReader M_TextReader_refuse (hr.mono (by first | decide | omega)) tkD (pa_cons (e_fld (K := g.K) (pv 1)) pa_nil)))) pss_nil)
      (pss_one (ps_ret (pv 2))))))), ?_⟩
  refine mid_at (fun _ _ => False) ?_ (fun _ _ z => z.elim)
  walk_at "sx"
  exact ⟨_, rfl, nS, q⟩
theorem ok_fwO (F : Df g.K "first_wrong" "first_wrong" s_first_wrong f fd .none) (T : Txt2 g) (F_check_string : Kn g "check_string" 3 ["text"] [] (sp_cstrO CI)) (F_value_of : Kn g "value_of" 47 ["text"] [] (sp_vof CI)) (hm : g.mg "InvalidText" = some (.ref CI)) (hex : PySem.W.exmOne g.K (.ref CI) (.ref CI) = some true) (XF_InvalidText : XfC g.K CI) (NF_InvalidText : PySem.W.findIn g.K (.ref CI) "position" = some none) : FnG g 48 f fd ["text"] (sp_vofO CI) := by
  refine F.ok sc_first_wrong (fun vs H Q E h => S1.len h) (fun cdv A outer s H vs Q E hr h => ?_)
  obtain ⟨v, rfl, nS, q⟩ := h
  have N_InvalidText : Names (cx g ["text", "found", "error"] "first_wrong" s_first_wrong f cdv A outer s H E) "InvalidText" (.ref CI) := ⟨rfl, by decide, .inl hm⟩
  refine ⟨_, (pss_mid (ps_expr (pe_callG F_check_string (hr.mono (by first | decide | omega)) tkD (pa_cons (pv 0) pa_nil)))
      (pss_cons (ps_set (i := 1) sc_first_wrong.nd rfl (Or.inl rfl) pe_non)
      (pss_cons (ps_try_as (i := 2) rfl rfl sc_first_wrong.nd rfl rfl N_InvalidText tkD (fun W pn xe tk1 po1 => (pss_one (ps_expr (pe_callG F_value_of (Rm.mono (Rm.mk hr.room hr.gd) (by first | decide | omega)) tk1 (pa_cons (pv 0) pa_nil))))) (fun a oe cls d pn hz hf => (pss_one (ps_set (i := 1) sc_first_wrong.nd rfl (Or.inl rfl) (pe_xf XF_InvalidText NF_InvalidText hz hf (pv 2))))))
      (pss_one (ps_ret (pv 1)))))), ?_⟩
  refine mid_at (fun _ _ => False) ?_ (fun _ _ z => z.elim)
  walk_at "sx"
  exact ⟨_, rfl, nS, q⟩
end


/-! towers -/
def tower (sg : List Nat) (n : Nat) : List Nat := (List.replicate n sg).flatten ++ [108, 48, 58]
def sgs : List (List Nat) := [[108, 49, 58], [117, 49, 58], [100, 49, 58, 115, 49, 58, 97]]
theorem towers : ((List.range 6).all fun k => sgs.all fun sg => decide (wr (vo (tower sg (17 + k))) = if 20 ≤ 17 + k then some (20 * sg.length) else none)) = true := by decide +kernel
theorem tower_vo {sg : List Nat} {k : Nat} (h : sg ∈ sgs) (hk : k < 6) : wr (vo (tower sg (17 + k))) = if 20 ≤ 17 + k then some (20 * sg.length) else none := by
  have := List.all_eq_true.mp towers k (List.mem_range.mpr hk)
  exact of_decide_eq_true (List.all_eq_true.mp this sg h)
theorem tower_len (sg : List Nat) (n : Nat) : (tower sg n).length = n * sg.length + 3 := by
  unfold tower
  rw [List.length_append, List.length_flatten, List.map_replicate, List.sum_replicate_nat]
  rfl
theorem show1 (o : Option Nat) (h : ∀ k, o = some k → k ≤ 10000000) : (od o).showable = true ∧ (od o).depth ≤ 60 ∧ (od o).shown.length ≤ sizeLine := by
  cases o with
  | none => rw [sizeLine_eq]; decide +kernel
  | some k =>
    have hk := h k rfl
    refine ⟨?_, by simp [od, PyData.depth], ?_⟩
    · have : k.log2 < 1920 := by
        by_cases k0 : k = 0
        · subst k0; decide
        · exact Nat.lt_of_lt_of_le ((Nat.log2_lt k0).mpr (show k < 2 ^ 24 from by omega)) (by decide)
      simpa [od, PyData.showable] using this
    · show (PyData.int (k : Nat)).shown.length ≤ _
      rw [PyData.shown_int, RS.num_int (i := ((k : Nat) : Int)) (by omega), S_len, Int.toNat_natCast, sizeLine_eq]
      have := TL.numL_len (n := k) (k := 8) (by decide) (by omega)
      omega
section
variable {g : Wd} {fa : Addr} {fd : FuncData} {c P CI : Addr} {TS : List (Addr × Str)}
theorem sc_l_tower_right : FnScope ["_law_many", "_law_signs", "_law_text", "_law_due"] ["_law_many", "_law_signs"] (defScope s_l_tower_right) := ⟨rfl, rfl, rfl, by decide +kernel, rfl, by decide +kernel, by decide +kernel⟩
def sp_tower (T : List (Addr × Str)) : Sp := S2 fun n x H Q _ => ∃ k sg, n = .int (17 + k : Nat) ∧ k < 6 ∧ sg ∈ sgs ∧ x = .str (S sg) ∧ Tabs T H ∧ ∀ H', FrT [] H H' → Tabs T H' → Q (.bl true) H'
theorem ok_tower (F : Df g.K "_law_tower_right" "_law_tower_right" s_l_tower_right fa fd .none) (T : Txt5 g) (SM : SmB g.base) (F_first_wrong : Kn g "first_wrong" 48 ["text"] [] sp_fw) (F_l_right : Kn g "_law_right" 64 ["_law_text"] [] (sp_right TS)) : FnG g 66 fa fd ["_law_many", "_law_signs"] (sp_tower TS) := by
  refine F.ok sc_l_tower_right (fun vs H Q E h => S2.len h) (fun cdv A outer s H vs Q E hr h => ?_)
  obtain ⟨_, _, rfl, k, sg, rfl, hk, hs, rfl, tab, q⟩ := h
  refine ⟨_, (pss_mid (ps_set (i := 2) sc_l_tower_right.nd rfl (Or.inl rfl) (pe_op (o_add (K := g.K)) (pe_op o_mul (pv 1) (pv 0)) pe_str))
      (pss_mid (ps_set (i := 3) sc_l_tower_right.nd rfl (Or.inl rfl) (pe_ifExp (pt_cmpR op_ge (pv 0) pe_int (nomark _)) (pe_op o_mul pe_int (pe_callB (c_len (K := g.K)) (by rfl) T.b_len bb_len (pa_cons (pv 1) pa_nil))) pe_non))
      (pss_one (ps_ret (pe_and (pe_cmpR (o_eq (K := g.K) hr) (pe_callB (c_reprV (K := g.K) (base := g.base) SM hr) (by rfl) T.b_repr bb_repr (pa_cons (pe_callG F_first_wrong (hr.mono (by first | decide | omega)) tkD (pa_cons (pv 2) pa_nil)) pa_nil)) (pe_callB (c_reprV (K := g.K) (base := g.base) SM hr) (by rfl) T.b_repr bb_repr (pa_cons (pv 3) pa_nil)) (nomark _)) (pe_and (pe_callG F_l_right (hr.mono (by first | decide | omega)) tkD (pa_cons (pv 2) pa_nil)) (pe_one (pe_callG F_l_right (hr.mono (by first | decide | omega)) tkD (pa_cons (pe_slice (o_sl (K := g.K)) (pv 2) po_none (po_some (pe_un un_neg pe_int))) pa_nil))))))))), ?_⟩
  have sl : 3 ≤ sg.length ∧ sg.length ≤ 7 := by
    simp only [sgs, List.mem_cons, List.not_mem_nil, or_false] at hs
    rcases hs with rfl | rfl | rfl <;> decide
  refine mid_one [some (.int (17 + k : Nat)), some (.str (S sg)), some (.str (S (tower sg (17 + k)))), none] (fun G => G = H) ?_ ?_
  · walk_at "sx"
    have b1 : sg.length * (17 + k) ≤ 7 * 22 := Nat.mul_le_mul sl.2 (by omega)
    rw [Int.toNat_natCast, rep_S, show Str.ofString "l0:" = S [108, 48, 58] from by decide +kernel, S_cat]
    refine ⟨by omega, by omega, by rw [S_len]; omega, ?_, rfl⟩
    rw [S_len, S_len, List.length_flatten, List.map_replicate, List.sum_replicate_nat]
    have : (17 + k) * sg.length = sg.length * (17 + k) := Nat.mul_comm _ _
    simp; omega
  intro G e0
  rw [e0]; clear e0 G
  refine mid_one [some (.int (17 + k : Nat)), some (.str (S sg)), some (.str (S (tower sg (17 + k)))), some (vw (wr (vo (tower sg (17 + k)))))] (fun G => G = H) ?_ ?_
  · walk_at "sx"
    rw [tower_vo hs hk]
    by_cases h20 : 20 ≤ 17 + k
    · rw [if_pos (by simp; omega), if_pos h20]
      refine ⟨by rw [S_len]; omega, .inl ⟨by decide, by decide⟩, ?_⟩
      rw [S_len]
      show V.int _ = V.int _
      congr 1
    · rw [if_neg (by simp; omega), if_neg h20]
      rfl
  intro G e0
  rw [e0]; clear e0 G
  walk_at "sx"
  have tl := tower_len sg (17 + k)
  have b1 : (17 + k) * sg.length ≤ 22 * 7 := Nat.mul_le_mul (by omega) sl.2
  have wl : ∀ j, wr (vo (tower sg (17 + k))) = some j → j ≤ 10000000 := fun j e => by
    cases hv : vo (tower sg (17 + k)) with
    | bad i => rw [hv] at e; cases e; have := (vo_pre hv).1; omega
    | ok d i => rw [hv] at e; cases e
  obtain ⟨a1, a2, a3⟩ := show1 _ wl
  have dx : ∀ {Z : Hp}, DpX g.K Z (vw (wr (vo (tower sg (17 + k))))) (od (wr (vo (tower sg (17 + k))))) := fun {Z} => by cases wr (vo (tower sg (17 + k))) with
    | none => exact .non
    | some k => exact .int _
  refine ⟨_, rfl, tower sg (17 + k), rfl, by omega, ?_⟩
  have main : ∀ H1, Same H H1 → rReprV g.K [vw (wr (vo (tower sg (17 + k))))] H1 fun x H1 =>
        rReprV g.K [vw (wr (vo (tower sg (17 + k))))] H1 fun y H2 =>
          rEqU g.K x y H2 fun x H1 => ∃ c, x = V.bl c ∧ if c = true then sp_right TS [V.str (S (tower sg (17 + k)))] H1 (fun x H1 => ∃ c, x = V.bl c ∧ if c = true then (S (tower sg (17 + k))).length ≤ 16777216 ∧ sp_right TS [V.str (cutS (S (tower sg (17 + k))) none (some (-1)))] H1 Q fun c d H' => E c d H' else Q (V.bl false) H1) fun c d H' => E c d H' else Q (V.bl false) H1 := fun H1 s1 => by
    refine ⟨_, _, rfl, dx, a1, a2, a3, ?_⟩
    refine ⟨_, _, rfl, dx, a1, a2, a3, ?_⟩
    show rEqU g.K (.str _) (.str _) _ _
    rw [eq_ss]
    refine ⟨_, rfl, ?_⟩
    rw [if_pos (by simp)]
    refine ⟨_, rfl, tower sg (17 + k), rfl, by omega, RS.Tabs.same tab s1, fun H2 f2 t2 => ⟨_, rfl, ?_⟩⟩
    rw [if_pos rfl]
    refine ⟨by rw [S_len]; omega, ?_⟩
    exact ⟨_, rfl, (cutS (S (tower sg (17 + k))) none (some (-1))).cps.toList, by rw [str_S], by
      have h1 : (cutS (S (tower sg (17 + k))) none (some (-1))).length ≤ (tower sg (17 + k)).length := by
        have := cutS_length (S (tower sg (17 + k))) none (some (-1))
        rwa [S_len] at this
      have h2 : (cutS (S (tower sg (17 + k))) none (some (-1))).cps.toList.length = (cutS (S (tower sg (17 + k))) none (some (-1))).length := rfl
      rw [h2]; omega, t2, fun H3 f3 t3 => q H3 (((FrT.of s1).trans f2).trans f3) t3⟩
  cases hv : vo (tower sg (17 + k)) with
  | bad j => rw [hv] at main; exact main
  | ok d j => rw [hv] at main; exact main
end


/-! the law -/
mutual
theorem ok_sm : ∀ d : PyData, smB d = true → okB d = true
  | .none, _ => rfl
  | .bool _, _ => rfl
  | .int i, h => by simpa [smB, okB] using h
  | .str x, h => by
    simp only [smB, Bool.and_eq_true, decide_eq_true_eq] at h
    simp only [okB, decide_eq_true_eq]; omega
  | .list ds, h => by
    simp only [smB, Bool.and_eq_true, decide_eq_true_eq] at h
    simp only [okB, Bool.and_eq_true, decide_eq_true_eq]
    exact ⟨by omega, ok_smAll ds h.2⟩
  | .tuple ds, h => by
    simp only [smB, Bool.and_eq_true, decide_eq_true_eq] at h
    simp only [okB, Bool.and_eq_true, decide_eq_true_eq]
    exact ⟨by omega, ok_smAll ds h.2⟩
  | .dict D, h => by
    simp only [smB, Bool.and_eq_true, decide_eq_true_eq] at h
    simp only [okB, Bool.and_eq_true, decide_eq_true_eq]
    exact ⟨by omega, ok_smKv D h.2⟩
theorem ok_smAll : ∀ ds : List PyData, smAll ds = true → okAll ds = true
  | [], _ => rfl
  | d :: ds, h => by
    simp only [smAll, Bool.and_eq_true] at h
    simp only [okAll, Bool.and_eq_true]
    exact ⟨ok_sm d h.1, ok_smAll ds h.2⟩
theorem ok_smKv : ∀ D : List (PyData × PyData), smKv D = true → okKv D = true
  | [], _ => rfl
  | (k, d) :: r, h => by
    simp only [smKv, Bool.and_eq_true] at h
    simp only [okKv, Bool.and_eq_true]
    refine ⟨⟨?_, ok_sm d h.1.2⟩, ok_smKv r h.2⟩
    have hk := h.1.1
    cases k with
    | str x =>
      simp only [keyB, Bool.and_eq_true, decide_eq_true_eq] at hk
      simp only [okB, decide_eq_true_eq]; omega
    | _ => cases hk
end
/-- a row: a text and its first wrong sign -/
def RowOk (H : Hp) (x : V) : Prop := ∃ t tx, x = .ref t ∧ H t = some (.tup [.str (S tx), vw (wr (vo tx))]) ∧ tx.length ≤ 1000
theorem RowOk.fr {H H' : Hp} {x : V} (f : FrT [] H H') (h : RowOk H x) : RowOk H' x := by
  obtain ⟨t, tx, rfl, h1, h2⟩ := h
  exact ⟨t, tx, rfl, f _ _ (by simp) (fun ps z => by cases z) h1, h2⟩
theorem RowOk.new {H : Hp} {t : Addr} {x : Str} {o : Option Nat} {w : V} (ht : H t = none) (ho : (decide (x.length ≤ 1000) && decide (wr (vo x.cps.toList) = o)) = true) (hw : w = vw o) : RowOk (upd H t (.tup [.str x, w])) (.ref t) := by
  simp only [Bool.and_eq_true, decide_eq_true_eq] at ho
  refine ⟨t, x.cps.toList, rfl, ?_, by simpa [Str.length] using ho.1⟩
  rw [upd_same, ho.2, hw, str_S]
def RowsOk (H : Hp) (xs : List V) : Prop := ∀ x ∈ xs, RowOk H x
theorem RowsOk.fr {H H' : Hp} {xs : List V} (f : FrT [] H H') (h : RowsOk H xs) : RowsOk H' xs := fun x m => (h x m).fr f
theorem RowsOk.same {H H' : Hp} {xs : List V} (f : Same H H') (h : RowsOk H xs) : RowsOk H' xs := h.fr (FrT.of f)
theorem RowsOk.snoc {H : Hp} {xs : List V} {t : Addr} {x : Str} {o : Option Nat} {w : V} (h : RowsOk H xs) (ht : H t = none) (ho : (decide (x.length ≤ 1000) && decide (wr (vo x.cps.toList) = o)) = true) (hw : w = vw o) : RowsOk (upd H t (.tup [.str x, w])) (xs ++ [.ref t]) := fun y m => by
  rcases List.mem_append.mp m with m | m
  · exact (h y m).fr (FrT.of (same_upd ht))
  · rw [List.mem_singleton.mp m]
    exact .new ht ho hw
theorem RowsOk.app {H : Hp} {xs ys : List V} (h : RowsOk H xs) (k : RowsOk H ys) : RowsOk H (xs ++ ys) := fun y m => (List.mem_append.mp m).elim (h y) (k y)
/-- rows laid one by one -/
def RAcc (H G : Hp) (xs : List V) : Prop := Same H G ∧ RowsOk G xs
theorem RAcc.snoc {H G : Hp} {xs : List V} {t : Addr} {x : Str} {o : Option Nat} {w : V} (h : RAcc H G xs) (ht : G t = none) (ho : (decide (x.length ≤ 1000) && decide (wr (vo x.cps.toList) = o)) = true) (hw : w = vw o) : RAcc H (upd G t (.tup [.str x, w])) (xs ++ [.ref t]) :=
  ⟨h.1.trans (same_upd ht), h.2.snoc ht ho hw⟩
theorem Tabs.but {T : List (Addr × Str)} {H H' : Hp} {p : Addr} {N : Nat} (t : Tabs T H) (s : Str3 H p N) (b : But p H H') : Tabs T H' := by
  obtain ⟨a1, b1, c1, h, _⟩ := s
  refine RS.Tabs.fr (fp := [p]) t (fun c hc o e => ?_) (fun c o n e => b c o (by simpa using n) e)
  rw [List.mem_singleton.mp hc, h] at e
  cases e
  exact ⟨fun ps z => (by cases z), fun φ z => (by cases z)⟩
/-- far texts -/
def far1 : List Nat := [105] ++ List.replicate 5000 57 ++ [59]
def far2 : List Nat := [115] ++ List.replicate 5000 57 ++ [58]
def far3 : List Nat := (List.replicate 1200 [108, 49, 58]).flatten ++ [108, 48, 58]
theorem far1_wr : wr (vo far1) = some 101 := by decide +kernel
theorem far2_wr : wr (vo far2) = some 5 := by decide +kernel
theorem far3_wr : wr (vo far3) = some 60 := by decide +kernel
theorem far_bad {t : List Nat} {k : Nat} (h : wr (vo t) = some k) : vo t = .bad k := by
  cases hv : vo t with
  | bad j => rw [hv] at h; cases h; rfl
  | ok d j => rw [hv] at h; cases h
/-- an odd value -/
def OddV (H : Hp) (v : V) : Prop := v = .non ∨ v = .int 5 ∨ v = .bl true ∨ ∃ a, v = .ref a ∧ ((∃ xs, H a = some (.lst xs)) ∨ (∃ xs, H a = some (.tup xs)) ∨ H a = some (.dK []))
theorem OddV.fr {H H' : Hp} {v : V} (f : FrT [] H H') (h : OddV H v) : OddV H' v := by
  rcases h with h | h | h | ⟨a, e, h⟩
  · exact .inl h
  · exact .inr (.inl h)
  · exact .inr (.inr (.inl h))
  · refine .inr (.inr (.inr ⟨a, e, ?_⟩))
    rcases h with ⟨xs, h⟩ | ⟨xs, h⟩ | h
    · exact .inl ⟨xs, f _ _ (by simp) (fun ps z => by cases z) h⟩
    · exact .inr (.inl ⟨xs, f _ _ (by simp) (fun ps z => by cases z) h⟩)
    · exact .inr (.inr (f _ _ (by simp) (fun ps z => by cases z) h))
theorem OddV.nos {H : Hp} {v : V} (h : OddV H v) : NoS H v := by
  rcases h with rfl | rfl | rfl | ⟨a, rfl, h⟩
  · exact ⟨_, rfl, by decide⟩
  · exact ⟨_, rfl, by decide⟩
  · exact ⟨_, rfl, by decide⟩
  · rcases h with ⟨xs, h⟩ | ⟨xs, h⟩ | h
    · exact ⟨"list", by simp [tyN, h], by decide⟩
    · exact ⟨"tuple", by simp [tyN, h], by decide⟩
    · exact ⟨"dict", by simp [tyN, h], by decide⟩
def FarOk (H : Hp) (x : V) : Prop := ∃ t tx k, x = .ref t ∧ H t = some (.tup [.str (S tx), .int ((k : Nat) : Int)]) ∧ wr (vo tx) = some k ∧ tx.length ≤ 10000
theorem FarOk.fr {H H' : Hp} {x : V} (f : FrT [] H H') (h : FarOk H x) : FarOk H' x := by
  obtain ⟨t, tx, k, rfl, h1, h2⟩ := h
  exact ⟨t, tx, k, rfl, f _ _ (by simp) (fun ps z => by cases z) h1, h2⟩
theorem far1_S : Str.ofString "i" ++ repS (Str.ofString "9") (Int.toNat 5000) ++ Str.ofString ";" = S far1 := by
  rw [show Str.ofString "i" = S [105] from by decide +kernel, show Str.ofString "9" = S [57] from by decide +kernel, show Str.ofString ";" = S [59] from by decide +kernel, rep_one, S_cat, S_cat]
  rfl
theorem far2_S : Str.ofString "s" ++ repS (Str.ofString "9") (Int.toNat 5000) ++ Str.ofString ":" = S far2 := by
  rw [show Str.ofString "s" = S [115] from by decide +kernel, show Str.ofString "9" = S [57] from by decide +kernel, show Str.ofString ":" = S [58] from by decide +kernel, rep_one, S_cat, S_cat]
  rfl
theorem far3_S : repS (Str.ofString "l1:") (Int.toNat 1200) ++ Str.ofString "l0:" = S far3 := by
  rw [show Str.ofString "l1:" = S [108, 49, 58] from by decide +kernel, show Str.ofString "l0:" = S [108, 48, 58] from by decide +kernel, rep_S, S_cat]
  rfl
theorem rep_fit {a : Str} {n k : Nat} (h : a.length = k) : (repS a n).length = n * k := by
  have e : (repS a n).length = (List.replicate n a.cps.toList).flatten.length := by simp [repS, Str.length]
  rw [e, List.length_flatten, List.map_replicate, List.sum_replicate_nat]
  show n * a.length = _
  rw [h]
/-- a comprehension that keeps nothing, the tables growing -/
theorem lc_noneT {J : It} {g : TG} {tt : TT} {te : TE} {vs : List Nat} {σ : L2.St} {H1 : Hp} {Qf : VK} {T : List (Addr × Str)} (n : Nat) (t0 : Tabs T H1)
    (hgo : ∀ i H, i < n → FrT [] H1 H → J.go i H) (hst : ∀ H, FrT [] H1 H → J.stop n H)
    (hs : ∀ i H x H' (K : VK) (K0 : Hp → Prop), i < n → FrT [] H1 H → Tabs T H → J.yld i H x H' → (∀ H4, FrT [] H H4 → Tabs T H4 → K0 H4) →
      g x (wipe σ vs) H' fun σ2 H2 => wipe σ2 vs = wipe σ vs ∧ tt σ2 H2 fun b H3 => if b = true then te σ2 H3 K else K0 H3)
    (hd : ∀ D H, H1 D = none → FrT [] H1 H → Tabs T H → H D = some (.lst []) → Qf (.ref D) H) :
    LcB J g tt te vs σ H1 Qf := by
  intro D hD
  have sD := same_upd (o := HO.lst []) hD
  refine ⟨fun i m H => m = n - i ∧ i ≤ n ∧ FrT [] H1 H ∧ Tabs T H ∧ H D = some (.lst []), ⟨n, by omega, Nat.zero_le _, FrT.of sD, RS.Tabs.same t0 sD, upd_same⟩, ?_⟩
  rintro i m H ⟨rfl, hi, s, t, eD⟩
  by_cases lt : i < n
  · refine .inr ⟨hgo i H lt s, fun H' => FrT [] H1 H' ∧ Tabs T H' ∧ H' D = some (.lst []), fun H' p' => ⟨n - (i + 1), by omega, rfl, lt, p'⟩, fun x H' y => ?_⟩
    exact hs i H x H' _ _ lt s t y fun H4 f4 t4 => ⟨s.trans f4, t4, f4 _ _ (by simp) (fun ps z => by cases z) eD⟩
  · have e : i = n := by omega
    subst e
    exact .inl ⟨hst H s, hd D H hD s t eD⟩
section
variable {g : Wd} {fa : Addr} {fd : FuncData} {c P CI : Addr} {TS : List (Addr × Str)}
theorem sc_law : FnScope ["_law_script", "_law_k", "_law_item_here", "_law_stream_here", "_law_turn", "_law_text", "_law_once", "_law_odd", "_law_told_here", "_law_rows", "_law_far", "_law_due", "_law_row"] ["_law_script"] (defScope s_law) := ⟨rfl, rfl, rfl, by decide +kernel, rfl, by decide +kernel, by decide +kernel⟩
def sp_law (K : PySem.W.Frag) (TS : List (Addr × Str)) : Sp := S1 fun v H Q _ => ∃ (a : Addr) (ns : List Int), v = .ref a ∧ SqL K H a (ns.map V.int) ∧ ns.length ≤ 63 ∧ Tabs TS H ∧ ∀ H', Q (.bl true) H'
theorem ok_law (F : DfC g.K "law" "law" s_law fa fd c) (T : Txt5 g) (SM : SmB g.base) (TOLD : Told g 60 "_law_told" (TT5 CI)) (L_law : LamT g TS c P "law") (F_l_right : Kn g "_law_right" 64 ["_law_text"] [] (sp_right TS)) (F_l_tower_right : Kn g "_law_tower_right" 66 ["_law_many", "_law_signs"] [] (sp_tower TS)) (F_l_bent : Kn g "_law_bent" 4 ["_law_stream_here", "_law_text"] [] sp_bent)
    (F_l_stream : Kn g "_law_stream" 2 ["_law_item_here", "_law_k"] [] sp_stream) (F_l_draw : Kn g "_law_draw" 2 ["_law_stream_here", "_law_top"] [] sp_draw) (F_l_pick : Kn g "_law_pick" 3 ["_law_stream_here", "_law_some"] [] sp_pick) (F_l_value : Kn g "_law_value" 10 ["_law_stream_here", "_law_deep"] [] (sp_value 4)) (F_text_of : Kn g "text_of" 24 ["value"] [] sp_text)
    (F_first_wrong : Kn g "first_wrong" 48 ["text"] [] (SpOr sp_fw (sp_vofO CI))) (F_is_text : Kn g "is_text" 49 ["value"] [] (SpOr sp_ist sp_istO)) (F_value_of : Kn g "value_of" 47 ["text"] [] (SpOr (sp_vof CI) (sp_vofO CI))) : FnG g 70 fa fd ["_law_script"] (sp_law g.K TS) := by
  refine F.ok sc_law (fun vs H Q E h => S1.len h) (fun A outer s H vs Q E hr h => ?_)
  obtain ⟨_, rfl, a, ns, rfl, hA, hl, tab, q⟩ := h
  refine ⟨_, (pss_mid (ps_for psD rfl (i_enum (K := g.K) T.b_enumerate (pa_cons (pe_slice (o_sl (K := g.K)) (pe_op (op_catW (K := g.K)) (pv 0) (pe_lst (pa_cons pe_int pa_nil))) po_none (po_some pe_int)) pa_nil)) (g_tup (K := g.K) (n := 2) (pgs_cons (pg_name (i := 1) sc_law.nd rfl (.inl rfl)) (pgs_cons (pg_name (i := 2) sc_law.nd rfl (.inl rfl)) pgs_nil))) (pss_mid (ps_set (i := 3) sc_law.nd rfl (Or.inl rfl) (pe_callG F_l_stream (hr.mono (by first | decide | omega)) tkD (pa_cons (pv 2) (pa_cons (pv 1) pa_nil))))
      (pss_mid (ps_for psD rfl (pi_range1 rfl T.b_range (pa_cons pe_int pa_nil)) (pg_name (i := 4) sc_law.nd rfl (.inl rfl)) (pss_mid (ps_set (i := 5) sc_law.nd rfl (Or.inl rfl) (pe_callG F_text_of (hr.mono (by first | decide | omega)) tkD (pa_cons (pe_callG F_l_value (hr.mono (by first | decide | omega)) tkD (pa_cons (pv 3) (pa_cons pe_int pa_nil))) pa_nil)))
      (pss_one (ps_for psD rfl (pi_range1 rfl T.b_range (pa_cons pe_int pa_nil)) (pg_name (i := 6) sc_law.nd rfl (.inl rfl)) (pss_mid (ps_set (i := 5) sc_law.nd rfl (Or.inl rfl) (pe_callG F_l_bent (hr.mono (by first | decide | omega)) tkD (pa_cons (pv 3) (pa_cons (pv 5) pa_nil))))
      (pss_one (ps_if (pt_not (pt_val (pe_callG F_l_right (hr.mono (by first | decide | omega)) tkD (pa_cons (pv 5) pa_nil)))) (pss_one (ps_ret pe_bl)) pss_nil)))))))
      (pss_mid (ps_if (pt_not (pt_val (pe_callG F_l_tower_right (hr.mono (by first | decide | omega)) tkD (pa_cons (pe_op (o_add (K := g.K)) pe_int (pe_callG F_l_draw (hr.mono (by first | decide | omega)) tkD (pa_cons (pv 3) (pa_cons pe_int pa_nil)))) (pa_cons (pe_callG F_l_pick (hr.mono (by first | decide | omega)) tkD (pa_cons (pv 3) (pa_cons (pe_lst (pa_cons pe_str (pa_cons pe_str (pa_cons pe_str pa_nil)))) pa_nil))) pa_nil))))) (pss_one (ps_ret pe_bl)) pss_nil)
      (pss_mid (ps_set (i := 7) sc_law.nd rfl (Or.inr rfl) (pe_callG F_l_pick (hr.mono (by first | decide | omega)) tkD (pa_cons (pv 3) (pa_cons (pe_lst (pa_cons pe_non (pa_cons pe_int (pa_cons pe_bl (pa_cons (pe_tup (pa_cons pe_str pa_nil)) (pa_cons (pe_lst (pa_cons pe_str pa_nil)) (pa_cons pe_dnewK (pa_cons (pe_lst (pa_cons pe_str (pa_cons pe_str pa_nil))) pa_nil)))))))) pa_nil))))
      (pss_mid (ps_set (i := 8) sc_law.nd rfl (Or.inl rfl) (pe_lst (pa_cons (pe_lam TOLD L_law (hr.mono (by first | decide | omega)) (by decide +kernel) (fun _ _ _ _ _ _ _ hr => (pe_callG F_value_of (Rm.mono (Rm.mk hr.room hr.gd) (by first | decide | omega)) takesL (pa_cons (pv 7) pa_nil)))) (pa_cons (pe_lamD "_law_x" TOLD L_law (hr.mono (by first | decide | omega)) (by decide +kernel) (fun _ _ _ _ _ _ _ hr => (pe_callG F_first_wrong (Rm.mono (Rm.mk hr.room hr.gd) (by first | decide | omega)) takesL (pa_cons (pv 7) pa_nil)))) pa_nil))))
      (pss_one (ps_if (PW.pt (pw_or (pt_cmpR (o_ne (K := g.K) hr) (pv 8) (pe_op o_mul (pe_lst (pa_cons (pe_tup (pa_cons pe_str (pa_cons pe_non pa_nil))) pa_nil)) pe_int) (nomark _)) (pw_or1 (pt_cmpR op_notB (pe_callG F_is_text (hr.mono (by first | decide | omega)) tkD (pa_cons (pv 7) pa_nil)) pe_bl (nomark _))))) (pss_one (ps_ret pe_bl)) pss_nil))))))))
      (pss_mid (ps_set (i := 9) sc_law.nd rfl (Or.inl rfl) (pe_lst (pa_cons (pe_tup (pa_cons pe_str (pa_cons pe_int pa_nil))) (pa_cons (pe_tup (pa_cons (pe_op (o_add (K := g.K)) (pe_op (o_add (K := g.K)) pe_str (pe_op o_mul pe_str pe_int)) pe_str) (pa_cons pe_non pa_nil))) (pa_cons (pe_tup (pa_cons (pe_op (o_add (K := g.K)) (pe_op (o_add (K := g.K)) pe_str (pe_op o_mul pe_str pe_int)) pe_str) (pa_cons pe_int pa_nil))) (pa_cons (pe_tup (pa_cons pe_str (pa_cons pe_int pa_nil))) (pa_cons (pe_tup (pa_cons pe_str (pa_cons pe_int pa_nil))) (pa_cons (pe_tup (pa_cons pe_str (pa_cons pe_int pa_nil))) pa_nil))))))))
      (pss_mid (ps_set (i := 9) sc_law.nd rfl (Or.inl rfl) (pe_op (o_add (K := g.K)) (pv 9) (pe_lst (pa_cons (pe_tup (pa_cons pe_str (pa_cons pe_int pa_nil))) (pa_cons (pe_tup (pa_cons pe_str (pa_cons pe_int pa_nil))) (pa_cons (pe_tup (pa_cons pe_str (pa_cons pe_int pa_nil))) (pa_cons (pe_tup (pa_cons pe_str (pa_cons pe_int pa_nil))) (pa_cons (pe_tup (pa_cons pe_str (pa_cons pe_int pa_nil))) (pa_cons (pe_tup (pa_cons pe_str (pa_cons pe_int pa_nil))) pa_nil)))))))))
      (pss_mid (ps_set (i := 9) sc_law.nd rfl (Or.inl rfl) (pe_op (o_add (K := g.K)) (pv 9) (pe_lst (pa_cons (pe_tup (pa_cons pe_str (pa_cons pe_int pa_nil))) (pa_cons (pe_tup (pa_cons pe_str (pa_cons pe_int pa_nil))) (pa_cons (pe_tup (pa_cons pe_str (pa_cons pe_int pa_nil))) (pa_cons (pe_tup (pa_cons pe_str (pa_cons pe_int pa_nil))) (pa_cons (pe_tup (pa_cons pe_str (pa_cons pe_int pa_nil))) (pa_cons (pe_tup (pa_cons pe_str (pa_cons pe_int pa_nil))) pa_nil)))))))))
      (pss_mid (ps_set (i := 9) sc_law.nd rfl (Or.inl rfl) (pe_op (o_add (K := g.K)) (pv 9) (pe_lst (pa_cons (pe_tup (pa_cons pe_str (pa_cons pe_non pa_nil))) (pa_cons (pe_tup (pa_cons pe_str (pa_cons pe_int pa_nil))) (pa_cons (pe_tup (pa_cons pe_str (pa_cons pe_int pa_nil))) pa_nil))))))
      (pss_mid (ps_for psD rfl (i_list (K := g.K) (pe_lst (pa_cons (pe_tup (pa_cons (pe_op (o_add (K := g.K)) (pe_op (o_add (K := g.K)) pe_str (pe_op o_mul pe_str pe_int)) pe_str) (pa_cons pe_int pa_nil))) (pa_cons (pe_tup (pa_cons (pe_op (o_add (K := g.K)) (pe_op (o_add (K := g.K)) pe_str (pe_op o_mul pe_str pe_int)) pe_str) (pa_cons pe_int pa_nil))) (pa_cons (pe_tup (pa_cons (pe_op (o_add (K := g.K)) (pe_op o_mul pe_str pe_int) pe_str) (pa_cons pe_int pa_nil))) pa_nil))))) (g_tup (K := g.K) (n := 2) (pgs_cons (pg_name (i := 10) sc_law.nd rfl (.inr rfl)) (pgs_cons (pg_name (i := 11) sc_law.nd rfl (.inl rfl)) pgs_nil))) (pss_one (ps_if (PW.pt (pw_or (pt_cmpR (o_ne (K := g.K) hr) (pe_callG F_first_wrong (hr.mono (by first | decide | omega)) tkD (pa_cons (pv 10) pa_nil)) (pv 11) (nomark _)) (pw_or (pt_cmpR (o_ne (K := g.K) hr) (pe_lam TOLD L_law (hr.mono (by first | decide | omega)) (by decide +kernel) (fun _ _ _ _ _ _ _ hr => (pe_callG F_value_of (Rm.mono (Rm.mk hr.room hr.gd) (by first | decide | omega)) takesL (pa_cons (pv 10) pa_nil)))) (pe_tup (pa_cons pe_str (pa_cons (pv 11) pa_nil))) (nomark _)) (pw_or1 (pt_cmpR op_notB (pe_callG F_is_text (hr.mono (by first | decide | omega)) tkD (pa_cons (pv 10) pa_nil)) pe_bl (nomark _)))))) (pss_one (ps_ret pe_bl)) pss_nil)))
      (pss_one (ps_ret (pe_cmpR (o_eq (K := g.K) hr) (pe_lc (own := [("_law_row", 12)]) rfl sc_law.nd (i_list (K := g.K) (pv 9)) (blkOk_by (own := [("_law_row", 12)]) (N := ["_law_script", "_law_k", "_law_item_here", "_law_stream_here", "_law_turn", "_law_text", "_law_once", "_law_odd", "_law_told_here", "_law_rows", "_law_far", "_law_due", "_law_row"]) (sc := defScope s_law) (by decide +kernel)) (fun _ _ _ _ _ => (pg_name (i := 12) sc_law.nd rfl (.inl rfl))) (fun _ _ _ _ _ => (pts_one (PW.pt (pw_or (pt_cmpR (o_ne (K := g.K) (Rm.mk hr.room hr.gd)) (pe_callB (c_reprV (K := g.K) (base := g.base) SM (Rm.mk hr.room hr.gd)) (by rfl) T.b_repr bb_repr (pa_cons (pe_callG F_first_wrong (Rm.mono (Rm.mk hr.room hr.gd) (by first | decide | omega)) L2.takes0 (pa_cons (pe_ix (o_ix (K := g.K)) (pv 12) pe_int (fun _ _ => rfl)) pa_nil)) pa_nil)) (pe_callB (c_reprV (K := g.K) (base := g.base) SM (Rm.mk hr.room hr.gd)) (by rfl) T.b_repr bb_repr (pa_cons (pe_ix (o_ix (K := g.K)) (pv 12) pe_int (fun _ _ => rfl)) pa_nil)) (nomark _)) (pw_or1 (pt_not (pt_val (pe_callG F_l_right (Rm.mono (Rm.mk hr.room hr.gd) (by first | decide | omega)) L2.takes0 (pa_cons (pe_ix (o_ix (K := g.K)) (pv 12) pe_int (fun _ _ => rfl)) pa_nil))))))))) (fun _ _ _ _ _ => (pv 12))) (pe_lst pa_nil) (nomark _)))))))))), ?_⟩
  refine mid_at (fun σ H' => ∃ v1 v2 v3 v4 v5 v6 v7 v8, σ = [some (.ref a), v1, v2, v3, v4, v5, v6, v7, v8, none, none, none, none] ∧ Tabs TS H') ?_ ?_
  · walk_at "sx"
    intro p0 hp0
    refine ⟨a, p0, _, _, rfl, rfl, sq_same hA (same_upd hp0), SqL.of upd_same, by rw [sizeLine_eq, List.length_map]; simp; omega, fun p1 hp1 => ?_⟩
    refine .inl ⟨p1, _, rfl, SqL.of upd_same, fun L hL => ⟨L, rfl, _, SqL.of upd_same, ?_⟩⟩
    rw [cutV_to _ (by decide)]
    have eL : (upd (upd (upd H p0 (HO.lst [V.int 0])) p1 (HO.lst (List.map V.int ns ++ [V.int 0]))) L (HO.lst ((List.map V.int ns ++ [V.int 0]).take (Int.toNat 8)))) L = some (.lst (((ns ++ [0]).take 8).map V.int)) := by rw [upd_same]; simp
    have tb0 : Tabs TS (upd (upd (upd H p0 (HO.lst [V.int 0])) p1 (HO.lst (List.map V.int ns ++ [V.int 0]))) L (HO.lst ((List.map V.int ns ++ [V.int 0]).take (Int.toNat 8)))) := RS.Tabs.same tab (((same_upd hp0).trans (same_upd hp1)).trans (same_upd hL))
    generalize (upd (upd (upd H p0 (HO.lst [V.int 0])) p1 (HO.lst (List.map V.int ns ++ [V.int 0]))) L (HO.lst ((List.map V.int ns ++ [V.int 0]).take (Int.toNat 8)))) = G at eL tb0 ⊢
    have l8 : ((ns ++ [0]).take 8).length ≤ 8 := by simp; omega
    generalize (ns ++ [0]).take 8 = cs at eL l8 ⊢
    have gt : ∀ i : Nat, i < cs.length → (cs.map V.int)[i]? = some (.int (cs[i]?.getD 0)) := fun i h => by simp [h]
    refine for_by cs.length (fun i σ H' => (∃ v1 v2 v3 v4 v5 v6 v7 v8, σ = [some (.ref a), v1, v2, v3, v4, v5, v6, v7, v8, none, none, none, none]) ∧ Tabs TS H' ∧ H' L = some (.lst (cs.map V.int))) ⟨⟨_, _, _, _, _, _, _, _, rfl⟩, tb0, eL⟩ (fun i σ H1 lt P => ⟨_, _, SqL.of P.2.2, gt i lt⟩) (fun σ H1 P => ⟨_, SqL.of P.2.2, by simp⟩) (fun i σ H3 x H4 lt P yl => ?_) (fun σ H3 P => ?_)
    · obtain ⟨⟨v1, v2, v3, v4, v5, v6, v7, v8, rfl⟩, tb3, eL⟩ := P
      obtain ⟨T', z, rfl, hT, rfl, hz⟩ := yl
      have hz := hz _ (SqL.of eL)
      rw [gt i lt] at hz
      obtain rfl : V.int (cs[i]?.getD 0) = z := by simpa using hz
      generalize (cs[i]?.getD 0) = ci at hz ⊢
      have hi : i < 8 := by omega
      have s4 : Same H3 (upd H3 T' (.tup [.int (i : Nat), .int ci])) := same_upd hT
      have eL4 := s4 _ _ eL
      have tb4 : Tabs TS (upd H3 T' (.tup [.int (i : Nat), .int ci])) := RS.Tabs.same tb3 s4
      walk_at "sx"
      refine ⟨_, SqT.of upd_same, rfl, ?_⟩
      walk_at "sx"
      generalize upd H3 T' (.tup [.int (i : Nat), .int ci]) = G4 at s4 eL4 tb4 ⊢
      refine mid_at (fun σ H' => ∃ p, σ = [some (.ref a), some (.int (i : Nat)), some (.int ci), some (.ref p), v4, v5, v6, v7, v8, none, none, none, none] ∧ H' L = some (.lst (cs.map V.int)) ∧ L ≠ p ∧ Str3 H' p 0 ∧ Tabs TS H') ?_ ?_
      · walk_at "sx"
        refine ⟨_, _, rfl, ci, i, rfl, rfl, by omega, by omega, fun p H' n' s' h' => ?_⟩
        exact ⟨p, rfl, s' _ _ eL4, (fun e => by rw [← e, eL4] at n'; cases n'), h', RS.Tabs.same tb4 s'⟩
      rintro _ H5 ⟨p, rfl, eL5, Lp, S5, tb5⟩
      have c3 : cst 3 = 212 := by decide
      have w3 : W 3 = 11470 := by decide
      refine mid_at (fun σ G => ∃ v4 v5 v6, σ = [some (.ref a), some (.int (i : Nat)), some (.int ci), some (.ref p), v4, v5, v6, v7, v8, none, none, none, none] ∧ G L = some (.lst (cs.map V.int)) ∧ Str3 G p 600 ∧ Tabs TS G) ?_ ?_
      · walk_at "sx"
        refine ⟨by decide, by decide, ?_⟩
        refine for_by 2 (fun t σ G => (∃ v4 v5 v6, σ = [some (.ref a), some (.int (i : Nat)), some (.int ci), some (.ref p), v4, v5, v6, v7, v8, none, none, none, none]) ∧ G L = some (.lst (cs.map V.int)) ∧ Str3 G p (t * 300) ∧ Tabs TS G) ⟨⟨_, _, _, rfl⟩, eL5, S5.up (Nat.zero_le _), tb5⟩ (fun i σ G lt P => by simpa [Itr] using lt) (fun σ G P => by simp [Itr]) (fun t σ G x G1 lt P yl => ?_) (fun σ G P => ?_)
        · obtain ⟨⟨v4, v5, v6, rfl⟩, eLG, S6, tb6⟩ := P
          obtain ⟨rfl, rfl⟩ := yl
          walk_at "sx"
          refine mid_at (fun σ G2 => ∃ tx, σ = [some (.ref a), some (.int (i : Nat)), some (.int ci), some (.ref p), some (.int (0 + t)), some (.str (S tx)), v6, v7, v8, none, none, none, none] ∧ tx.length ≤ 12000 ∧ G2 L = some (.lst (cs.map V.int)) ∧ Str3 G2 p (t * 300 + 212) ∧ Tabs TS G2) ?_ ?_
          · walk_at "sx"
            refine ⟨_, _, rfl, p, t * 300, 3, rfl, rfl, by decide, by decide, S6, by omega, fun v d fp G2 tr sm dp nf S7 b7 => ?_⟩
            have le := spell_le d 3 sm dp
            refine ⟨_, rfl, d, fp, tr, ok_sm d sm, by omega, by omega, fun G3 s3 => ?_⟩
            refine ⟨(spell d).cps.toList, by rw [str_S], ?_, s3 _ _ (b7 _ _ Lp eLG), (S7.same s3).up (by omega), RS.Tabs.same (Tabs.but tb6 S6 b7) s3⟩
            have : (spell d).cps.toList.length = (spell d).length := rfl
            omega
          rintro _ G2 ⟨tx, rfl, txl, eL2, S2, tb2⟩
          walk_at "sx"
          refine ⟨by decide, by decide, ?_⟩
          refine for_by 4 (fun u σ G => (∃ tx v6, σ = [some (.ref a), some (.int (i : Nat)), some (.int ci), some (.ref p), some (.int (0 + t)), some (.str (S tx)), v6, v7, v8, none, none, none, none] ∧ tx.length ≤ 12000 + u * 6) ∧ G L = some (.lst (cs.map V.int)) ∧ Str3 G p (t * 300 + 212 + u * 4) ∧ Tabs TS G) ⟨⟨_, _, rfl, by omega⟩, eL2, S2.up (by omega), tb2⟩ (fun i σ G lt P => by simpa [Itr] using lt) (fun σ G P => by simp [Itr]) (fun u σ G x G1 lt P yl => ?_) (fun σ G P => ?_)
          · obtain ⟨⟨tx, v6, rfl, txl⟩, eLu, Su, tbu⟩ := P
            obtain ⟨rfl, rfl⟩ := yl
            walk_at "sx"
            refine mid_at (fun σ G2 => ∃ tx, σ = [some (.ref a), some (.int (i : Nat)), some (.int ci), some (.ref p), some (.int (0 + t)), some (.str (S tx)), some (.int (0 + u)), v7, v8, none, none, none, none] ∧ tx.length ≤ 12000 + (u + 1) * 6 ∧ G2 L = some (.lst (cs.map V.int)) ∧ Str3 G2 p (t * 300 + 212 + (u + 1) * 4) ∧ Tabs TS G2) ?_ ?_
            · walk_at "sx"
              refine ⟨_, _, rfl, p, t * 300 + 212 + u * 4, tx, rfl, rfl, Su, by omega, by omega, fun ux N' G2 ul nl S' b' => ?_⟩
              exact ⟨ux, rfl, by omega, b' _ _ Lp eLu, S'.up (by omega), Tabs.but tbu Su b'⟩
            rintro _ G3 ⟨tx2, rfl, tl2, eL3, S3, tb3'⟩
            walk_at "sx"
            refine ⟨_, rfl, tx2, rfl, by omega, tb3', fun G4 f4 t4 => ⟨_, rfl, ?_⟩⟩
            rw [if_neg (by simp)]
            obtain ⟨x1, x2, x3, hx, hx2⟩ := S3
            exact ⟨⟨tx2, rfl, tl2⟩, f4 _ _ (by simp) (fun ps z => by cases z) eL3, ⟨x1, x2, x3, f4 _ _ (by simp) (fun ps z => by cases z) hx, hx2⟩, t4⟩
          · obtain ⟨⟨tx, v6, rfl, txl⟩, eLu, Su, tbu⟩ := P
            exact ⟨⟨_, _, _, rfl⟩, eLu, Su.up (by omega), tbu⟩
        · obtain ⟨⟨v4, v5, v6, rfl⟩, eLG, S6, tb6⟩ := P
          exact ⟨_, _, _, rfl, eLG, S6, tb6⟩
      rintro _ H6 ⟨v4, v5, v6, rfl, eL6, S6, tb6⟩
      refine mid_at (fun σ G => σ = [some (.ref a), some (.int (i : Nat)), some (.int ci), some (.ref p), v4, v5, v6, v7, v8, none, none, none, none] ∧ G L = some (.lst (cs.map V.int)) ∧ Str3 G p 602 ∧ Tabs TS G) ?_ ?_
      · walk_at "sx"
        refine ⟨_, _, rfl, p, 600, 6, rfl, rfl, by decide, by decide, S6, by omega, fun r G1 r0 r1 S7 b7 => ?_⟩
        obtain ⟨k, rfl⟩ := Int.eq_ofNat_of_zero_le r0
        show RS.rAdd g.K (.int 17) (.int (k : Nat)) G1 _
        rw [add_ii]
        intro p2 hp2
        have s2 := same_upd (o := HO.lst [V.str (Str.ofString "l1:"), V.str (Str.ofString "u1:"), V.str (Str.ofString "d1:s1:a")]) hp2
        refine ⟨_, _, rfl, p, p2, _, 601, rfl, rfl, S7.same s2, by omega, upd_same, (S7.ne hp2).symm, by decide, by decide, fun v G3 hv S8 b8 => ?_⟩
        have hsg : ∃ sg, sg ∈ sgs ∧ v = .str (S sg) := by
          simp only [List.mem_cons, List.not_mem_nil, or_false] at hv
          rcases hv with rfl | rfl | rfl
          · exact ⟨[108, 49, 58], by decide, by decide +kernel⟩
          · exact ⟨[117, 49, 58], by decide, by decide +kernel⟩
          · exact ⟨[100, 49, 58, 115, 49, 58, 97], by decide, by decide +kernel⟩
        obtain ⟨sg, hs, rfl⟩ := hsg
        have tb8 := Tabs.but (RS.Tabs.same (Tabs.but tb6 S6 b7) s2) (S7.same s2) b8
        refine ⟨_, _, rfl, k, sg, ?_, by omega, hs, rfl, tb8, fun G4 f4 t4 => ⟨_, rfl, ?_⟩⟩
        · show V.int _ = V.int _
          congr 1
        rw [if_neg (by simp)]
        obtain ⟨x1, x2, x3, hx, hx2⟩ := S8
        exact ⟨f4 _ _ (by simp) (fun ps z => by cases z) (b8 _ _ Lp (s2 _ _ (b7 _ _ Lp eL6))), ⟨x1, x2, x3, f4 _ _ (by simp) (fun ps z => by cases z) hx, hx2⟩, t4⟩
      rintro _ H7 ⟨rfl, eL7, S7, tb7⟩
      refine mid_at (fun σ G => ∃ ov, σ = [some (.ref a), some (.int (i : Nat)), some (.int ci), some (.ref p), v4, v5, v6, some ov, v8, none, none, none, none] ∧ G L = some (.lst (cs.map V.int)) ∧ OddV G ov ∧ Tabs TS G) ?_ ?_
      · walk_at "sx"
        refine fun t1 ht1 l1 hl1 d1 hd1 l2 hl2 L5 hL5 => ?_
        have s1 := same_upd (o := HO.tup [V.str (Str.ofString "n")]) ht1
        have s2 := same_upd (o := HO.lst [V.str (Str.ofString "n")]) hl1
        have s3 := same_upd (o := HO.dK []) hd1
        have s4 := same_upd (o := HO.lst [V.str (Str.ofString "n"), V.str (Str.ofString "n")]) hl2
        have s5 := same_upd (o := HO.lst [V.non, V.int 5, V.bl true, V.ref t1, V.ref l1, V.ref d1, V.ref l2]) hL5
        have sx := (((s1.trans s2).trans s3).trans s4).trans s5
        have S7x := S7.same sx
        refine ⟨_, _, rfl, p, L5, _, 602, rfl, rfl, S7x, by omega, upd_same, (S7.same (((s1.trans s2).trans s3).trans s4)).ne hL5 |>.symm, by simp, by simp, fun v G3 hv S8 b8 => ?_⟩
        have ne : ∀ q o, (∀ a b c : Int, o ≠ HO.lst [.int a, .int b, .int c]) → (upd (upd (upd (upd (upd H7 t1 (HO.tup [V.str (Str.ofString "n")])) l1 (HO.lst [V.str (Str.ofString "n")])) d1 (HO.dK [])) l2 (HO.lst [V.str (Str.ofString "n"), V.str (Str.ofString "n")])) L5 (HO.lst [V.non, V.int 5, V.bl true, V.ref t1, V.ref l1, V.ref d1, V.ref l2])) q = some o → G3 q = some o := fun q o no e => b8 q o (fun z => by
          obtain ⟨x1, x2, x3, hx, _⟩ := S7x
          rw [z, hx] at e
          exact no x1 x2 x3 (Option.some.inj e).symm) e
        refine ⟨b8 _ _ Lp (sx _ _ eL7), ?_, Tabs.but (RS.Tabs.same tb7 sx) S7x b8⟩
        simp only [List.mem_cons, List.not_mem_nil, or_false] at hv
        rcases hv with rfl | rfl | rfl | rfl | rfl | rfl | rfl
        · exact .inl rfl
        · exact .inr (.inl rfl)
        · exact .inr (.inr (.inl rfl))
        · exact .inr (.inr (.inr ⟨_, rfl, .inr (.inl ⟨_, ne _ _ (by simp) (s5 _ _ (s4 _ _ (s3 _ _ (s2 _ _ upd_same))))⟩)⟩))
        · exact .inr (.inr (.inr ⟨_, rfl, .inl ⟨_, ne _ _ (by simp) (s5 _ _ (s4 _ _ (s3 _ _ upd_same)))⟩⟩))
        · exact .inr (.inr (.inr ⟨_, rfl, .inr (.inr (ne _ _ (by simp) (s5 _ _ (s4 _ _ upd_same))))⟩))
        · exact .inr (.inr (.inr ⟨_, rfl, .inl ⟨_, ne _ _ (by simp) (s5 _ _ upd_same)⟩⟩))
      rintro _ H8 ⟨ov, rfl, eL8, od8, tb8⟩
      refine mid_at (fun σ G => ∃ R p1 p2, σ = [some (.ref a), some (.int (i : Nat)), some (.int ci), some (.ref p), v4, v5, v6, some ov, some (.ref R), none, none, none, none] ∧ G L = some (.lst (cs.map V.int)) ∧ OddV G ov ∧ Tabs TS G ∧ G R = some (.lst [.ref p1, .ref p2]) ∧ G p1 = some (.tup [.str "text", .non]) ∧ G p2 = some (.tup [.str "text", .non])) ?_ ?_
      · simp only [tLamG, tRet, tRetN, tSeq, C8.tCut, tNext, tAsg, gName, gNil, gCons, gTup, gFld, tIfS, tIf, tAndV, tOrV, tNotV, tAnd, tOr, tNot, tB, tTest, tOp, tUn, tCB, tCons, tNil, tVar, tC, tChain, tDrop, RS.tCallG, RS.tMethG, tMakeG, RS.tCallK, RS.tMakeK, tEqOwn, rI, rI0, rU, add_ii, add_ss, add_rr, mul_ii, mul_si, mul_ri, RS.eq_ii, RS.eq_ss, eq_bb, eq_nn, eq_sn, eq_ns, eq_in, eq_ni, eq_bn, eq_nb, eq_is, eq_si, eq_rr, ne_ii, ne_ss, ne_bb, ne_nn, ne_sn, ne_ns, ne_in, ne_ni, ne_is, ne_si, ne_rr, in_ss, in_r, nin_ss, nin_r, len_s, len_r, RS.ix_s, RS.ix_r, sl_s, sl_r, is_eq, tyN_n, tyN_b, tyN_i, tyN_s, tru_b, tru_i, tru_n, tSl, tPart, tNoPart, tPar, tPar3, tFmtZ, tFmt, tJs, tDGet, sDPut, sFld, tFld, tTup, tLst, tNever, isB,
  L2.start, List.map_cons, List.map_nil, List.length_cons, List.length_nil, Nat.reduceAdd, Nat.reduceSub, Nat.sub_self, List.replicate_zero, List.replicate_succ, List.append_nil, List.cons_append, List.nil_append, List.getElem?_cons_zero, List.getElem?_cons_succ, List.set_cons_zero, List.set_cons_succ, Option.some.injEq, exists_eq_left, exists_eq_left', exists_and_left, V.bl.injEq, V.int.injEq, V.str.injEq, V.ref.injEq, beq_self_eq_true, Bool.true_or, Bool.or_true, Bool.false_or, Bool.or_false, Bool.and_false, Bool.false_and, Bool.true_and, Bool.and_true, Bool.not_true, Bool.not_false, Bool.false_eq_true, if_true, if_false, ite_true, ite_false, true_and, and_true, and_assoc, String.reduceBEq, String.reduceEq, reduceIte, Bool.and_self, reduceCtorEq, false_and, and_false, exists_false, or_false, false_or, exists_const, iEnumS, iStr, iList, iTup, iRng1, iEnum, tFor_eq, tLc_eq, List.cons.injEq, wipe, not_true_eq_false, not_false_eq_true, upd_same, HO.ins.injEq, HO.tup.injEq, HO.lst.injEq, ofS_eq, lk_nil, lk_cons, pu_nil, pu_cons, sizeLine_eq, Nat.reduceLT, Nat.reduceLeDiff, Nat.reduceEqDiff, Nat.le_refl, decide_true, decide_false, tPr, dget_us, dput_us, vv_nil, vv_cons, RS.pk_nil, pk_one, RS.pk_cons, inr_eq, tDisp, tPairs, tBoolOwn, rBoolOwn, tBM, rAppend, ty_list, ty_str, rEqOwn, iEnumT, RS.tCallS, tM1, tDc_eq, tLock, tLockE, iKeys, tListEnum, rUpdate, tMkX0, tMkX1, tXfv, gSub, rSetL, List.getD_cons_zero, List.getD_cons_succ, tCMethS, ClX.tCVal, tXfa, tIxOwn, tInOwn, tPropG, tMethK, tMethP, tListGen, tDGet2, tDPop2, rNeD0, intA_i, intA_b, tRevL, sFldAug, tPm0, tPm1, tDIn, tDNotIn, tDNewK, RS.tMethS]
        refine ⟨tb8, fun c1 G1 x1 T1 hc1 => ?_⟩
        intro H0 E' K' s0 hE hK
        have f0 : FrT [] H8 H0 := (FrT.ofN x1).trans (FrT.of s0)
        refine .inr ⟨_, rfl, (od8.fr f0).nos, fun dd hd => hE _ _ _ ⟨dd, .non, rfl, rfl, .inl upd_same, fun p1 G2 s2 np1 ep1 => ?_⟩⟩
        have sd := (same_upd (o := HO.xd [("position", V.non)]) hd).trans s2
        have f2 : FrT [] H8 G2 := f0.trans (FrT.of sd)
        have t2 : Tabs TS G2 := (T1.ext s0).ext sd
        refine ⟨t2, fun c2 G3 x3 T3 hc2 => ?_⟩
        intro H3' E2 K2 s3 hE2 hK2
        have f3 : FrT [] G2 H3' := (FrT.ofN x3).trans (FrT.of s3)
        refine .inr ⟨_, rfl, ((od8.fr f2).fr f3).nos, fun dd' hd' => hE2 _ _ _ ⟨dd', .non, rfl, rfl, .inl upd_same, fun p2 G4 s4' np2 ep2 => ?_⟩⟩
        intro R hR
        have sd2 := ((same_upd (o := HO.xd [("position", V.non)]) hd').trans s4').trans (same_upd (o := HO.lst [.ref p1, .ref p2]) hR)
        have f4 := f3.trans (FrT.of sd2)
        exact ⟨(f2.trans f4) _ _ (by simp) (fun ps z => by cases z) eL8, od8.fr (f2.trans f4), (T3.ext s3).ext sd2, p1, rfl, p2, rfl, f4 _ _ (by simp) (fun ps z => by cases z) ep1, (same_upd (o := HO.lst [.ref p1, .ref p2]) hR) _ _ ep2⟩
      rintro _ H9 ⟨R, p1, p2, rfl, eL9, od9, tb9, eR, e1, e2⟩
      walk_at "sx"
      intro t ht l hl'
      have st := same_upd (o := HO.tup [V.str (Str.ofString "text"), V.non]) ht
      have sl := same_upd (o := HO.lst [V.ref t]) hl'
      refine ⟨l, 2, [.ref t], rfl, rfl, upd_same, by decide, by decide, by rw [sizeLine_eq]; simp, fun l3 hl3 => ?_⟩
      have s3 := same_upd (o := HO.lst (List.replicate (Int.toNat 2) [V.ref t]).flatten) hl3
      have sx := (st.trans sl).trans s3
      have ex : (upd (upd (upd H9 t (HO.tup [V.str (Str.ofString "text"), V.non])) l (HO.lst [V.ref t])) l3 (HO.lst (List.replicate (Int.toNat 2) [V.ref t]).flatten)) l3 = some (.lst [.ref t, .ref t]) := by rw [upd_same]; rfl
      have et := s3 _ _ (sl _ _ (upd_same (H := H9) (a := t) (o := HO.tup [V.str (Str.ofString "text"), V.non])))
      generalize (upd (upd (upd H9 t (HO.tup [V.str (Str.ofString "text"), V.non])) l (HO.lst [V.ref t])) l3 (HO.lst (List.replicate (Int.toNat 2) [V.ref t]).flatten)) = G at sx ex et ⊢
      have okt : PyData.strOk (Str.ofString "text") = true := by decide +kernel
      refine ⟨.list [.tuple [.str (Str.ofString "text"), .none], .tuple [.str (Str.ofString "text"), .none]], .list [.tuple [.str (Str.ofString "text"), .none], .tuple [.str (Str.ofString "text"), .none]], .lst (SqL.of (sx _ _ eR)) (.cons (.tup (SqT.of (sx _ _ e1)) (.cons (.str _) (.cons .non .nil))) (.cons (.tup (SqT.of (sx _ _ e2)) (.cons (.str _) (.cons .non .nil))) .nil)), .lst (SqL.of ex) (.cons (.tup (SqT.of et) (.cons (.str _) (.cons .non .nil))) (.cons (.tup (SqT.of et) (.cons (.str _) (.cons .non .nil))) .nil)), ?_, ?_, ?_⟩
      · simp [SeqAt.shaped, PyData.canLay0, PyData.canLayAll0, PyData.depth, PyData.depthAll, okt]
      · simp [SeqAt.shaped, PyData.canLay0, PyData.canLayAll0, PyData.depth, PyData.depthAll, okt]
      have e9 : PyData.eqv (.list [.tuple [.str (Str.ofString "text"), .none], .tuple [.str (Str.ofString "text"), .none]]) (.list [.tuple [.str (Str.ofString "text"), .none], .tuple [.str (Str.ofString "text"), .none]]) = true := by simp [PyData.eqv, PyData.eqvAll]
      rw [e9]
      refine ⟨_, rfl, ?_⟩
      rw [if_neg (by simp)]
      refine .inr ⟨_, rfl, (od9.fr (FrT.of sx)).nos, ?_⟩
      show if (!decide (V.bl false = V.bl false)) = true then _ else _
      rw [if_neg (by simp)]
      exact ⟨⟨_, rfl⟩, RS.Tabs.same tb9 sx, sx _ _ eL9⟩
    · obtain ⟨⟨v1, v2, v3, v4, v5, v6, v7, v8, rfl⟩, tb3, _⟩ := P
      exact ⟨_, _, _, _, _, _, _, _, rfl, tb3⟩
  rintro _ H1 ⟨v1, v2, v3, v4, v5, v6, v7, v8, rfl, tb1⟩
  refine mid_at (fun σ G => ∃ R rows, σ = [some (.ref a), v1, v2, v3, v4, v5, v6, v7, v8, some (.ref R), none, none, none] ∧ Tabs TS G ∧ G R = some (.lst rows) ∧ rows.length = 6 ∧ RowsOk G rows) ?_ ?_
  · walk_at "sx"
    have acc0 : RAcc H1 H1 [] := ⟨Same.refl _, fun _ m => nomatch m⟩
    intro t0 h0
    have acc1 := RAcc.snoc (x := Str.ofString "") (o := (some 0)) (w := (.int 0)) acc0 h0 (by decide +kernel) rfl
    refine ⟨by decide, by decide, by decide +kernel, by decide +kernel, by decide +kernel, ?_⟩
    intro t1 h1
    have acc2 := RAcc.snoc (x := Str.ofString "i" ++ repS (Str.ofString "9") (Int.toNat 100) ++ Str.ofString ";") (o := none) (w := .non) acc1 h1 (by decide +kernel) rfl
    refine ⟨by decide, by decide, by decide +kernel, by decide +kernel, by decide +kernel, ?_⟩
    intro t2 h2
    have acc3 := RAcc.snoc (x := Str.ofString "i-" ++ repS (Str.ofString "9") (Int.toNat 101) ++ Str.ofString ";") (o := (some 102)) (w := (.int 102)) acc2 h2 (by decide +kernel) rfl
    intro t3 h3
    have acc4 := RAcc.snoc (x := Str.ofString "i-0;") (o := (some 2)) (w := (.int 2)) acc3 h3 (by decide +kernel) rfl
    intro t4 h4
    have acc5 := RAcc.snoc (x := Str.ofString "i00;") (o := (some 2)) (w := (.int 2)) acc4 h4 (by decide +kernel) rfl
    intro t5 h5
    have acc6 := RAcc.snoc (x := Str.ofString "i;") (o := (some 1)) (w := (.int 1)) acc5 h5 (by decide +kernel) rfl
    intro p hp
    have sp := same_upd (o := HO.lst [V.ref t0, V.ref t1, V.ref t2, V.ref t3, V.ref t4, V.ref t5]) hp
    exact ⟨RS.Tabs.same tb1 (acc6.1.trans sp), acc6.2.same sp⟩
  rintro _ H2 ⟨R2, rows2, rfl, tb2, eR2, l2, rk2⟩
  refine mid_at (fun σ G => ∃ R rows, σ = [some (.ref a), v1, v2, v3, v4, v5, v6, v7, v8, some (.ref R), none, none, none] ∧ Tabs TS G ∧ G R = some (.lst rows) ∧ rows.length = 12 ∧ RowsOk G rows) ?_ ?_
  · walk_at "sx"
    have acc0 : RAcc H2 H2 [] := ⟨Same.refl _, fun _ m => nomatch m⟩
    intro t0 h0
    have acc1 := RAcc.snoc (x := Str.ofString "i-;") (o := (some 2)) (w := (.int 2)) acc0 h0 (by decide +kernel) rfl
    intro t1 h1
    have acc2 := RAcc.snoc (x := Str.ofString "s01:a") (o := (some 2)) (w := (.int 2)) acc1 h1 (by decide +kernel) rfl
    intro t2 h2
    have acc3 := RAcc.snoc (x := Str.ofString "s3:ab") (o := (some 5)) (w := (.int 5)) acc2 h2 (by decide +kernel) rfl
    intro t3 h3
    have acc4 := RAcc.snoc (x := Str.ofString "l10000:") (o := (some 7)) (w := (.int 7)) acc3 h3 (by decide +kernel) rfl
    intro t4 h4
    have acc5 := RAcc.snoc (x := Str.ofString "l10001:") (o := (some 5)) (w := (.int 5)) acc4 h4 (by decide +kernel) rfl
    intro t5 h5
    have acc6 := RAcc.snoc (x := Str.ofString "s10000:") (o := (some 7)) (w := (.int 7)) acc5 h5 (by decide +kernel) rfl
    intro p hp
    have sp := same_upd (o := HO.lst [V.ref t0, V.ref t1, V.ref t2, V.ref t3, V.ref t4, V.ref t5]) hp
    refine .inl ⟨_, _, _, _, rfl, rfl, sp _ _ (acc6.1 _ _ eR2), upd_same, by rw [sizeLine_eq]; simp [l2], fun p2 hp2 => ?_⟩
    have sp2 := same_upd (o := HO.lst (rows2 ++ [V.ref t0, V.ref t1, V.ref t2, V.ref t3, V.ref t4, V.ref t5])) hp2
    exact ⟨_, rfl, RS.Tabs.same tb2 ((acc6.1.trans sp).trans sp2), _, upd_same, by simp [l2], ((rk2.same acc6.1).app acc6.2).same (sp.trans sp2)⟩
  rintro _ H3 ⟨R3, rows3, rfl, tb3, eR3, l3, rk3⟩
  refine mid_at (fun σ G => ∃ R rows, σ = [some (.ref a), v1, v2, v3, v4, v5, v6, v7, v8, some (.ref R), none, none, none] ∧ Tabs TS G ∧ G R = some (.lst rows) ∧ rows.length = 18 ∧ RowsOk G rows) ?_ ?_
  · walk_at "sx"
    have acc0 : RAcc H3 H3 [] := ⟨Same.refl _, fun _ m => nomatch m⟩
    intro t0 h0
    have acc1 := RAcc.snoc (x := Str.ofString "d2:s0:ns0:n") (o := (some 9)) (w := (.int 9)) acc0 h0 (by decide +kernel) rfl
    intro t1 h1
    have acc2 := RAcc.snoc (x := Str.ofString "d2:s1:ans1:an") (o := (some 11)) (w := (.int 11)) acc1 h1 (by decide +kernel) rfl
    intro t2 h2
    have acc3 := RAcc.snoc (x := Str.ofString "d1:i1;n") (o := (some 3)) (w := (.int 3)) acc2 h2 (by decide +kernel) rfl
    intro t3 h3
    have acc4 := RAcc.snoc (x := Str.ofString "d1:s1:a") (o := (some 7)) (w := (.int 7)) acc3 h3 (by decide +kernel) rfl
    intro t4 h4
    have acc5 := RAcc.snoc (x := Str.ofString "n ") (o := (some 1)) (w := (.int 1)) acc4 h4 (by decide +kernel) rfl
    intro t5 h5
    have acc6 := RAcc.snoc (x := Str.ofString "l2:n") (o := (some 4)) (w := (.int 4)) acc5 h5 (by decide +kernel) rfl
    intro p hp
    have sp := same_upd (o := HO.lst [V.ref t0, V.ref t1, V.ref t2, V.ref t3, V.ref t4, V.ref t5]) hp
    refine .inl ⟨_, _, _, _, rfl, rfl, sp _ _ (acc6.1 _ _ eR3), upd_same, by rw [sizeLine_eq]; simp [l3], fun p2 hp2 => ?_⟩
    have sp2 := same_upd (o := HO.lst (rows3 ++ [V.ref t0, V.ref t1, V.ref t2, V.ref t3, V.ref t4, V.ref t5])) hp2
    exact ⟨_, rfl, RS.Tabs.same tb3 ((acc6.1.trans sp).trans sp2), _, upd_same, by simp [l3], ((rk3.same acc6.1).app acc6.2).same (sp.trans sp2)⟩
  rintro _ H4 ⟨R4, rows4, rfl, tb4, eR4, l4, rk4⟩
  refine mid_at (fun σ G => ∃ R rows, σ = [some (.ref a), v1, v2, v3, v4, v5, v6, v7, v8, some (.ref R), none, none, none] ∧ Tabs TS G ∧ G R = some (.lst rows) ∧ rows.length = 21 ∧ RowsOk G rows) ?_ ?_
  · walk_at "sx"
    have acc0 : RAcc H4 H4 [] := ⟨Same.refl _, fun _ m => nomatch m⟩
    intro t0 h0
    have acc1 := RAcc.snoc (x := Str.ofString "u1:l1:d1:s1:bt") (o := none) (w := .non) acc0 h0 (by decide +kernel) rfl
    intro t1 h1
    have acc2 := RAcc.snoc (x := Str.ofString "d10001:") (o := (some 5)) (w := (.int 5)) acc1 h1 (by decide +kernel) rfl
    intro t2 h2
    have acc3 := RAcc.snoc (x := Str.ofString "u10001:") (o := (some 5)) (w := (.int 5)) acc2 h2 (by decide +kernel) rfl
    intro p hp
    have sp := same_upd (o := HO.lst [V.ref t0, V.ref t1, V.ref t2]) hp
    refine .inl ⟨_, _, _, _, rfl, rfl, sp _ _ (acc3.1 _ _ eR4), upd_same, by rw [sizeLine_eq]; simp [l4], fun p2 hp2 => ?_⟩
    have sp2 := same_upd (o := HO.lst (rows4 ++ [V.ref t0, V.ref t1, V.ref t2])) hp2
    exact ⟨_, rfl, RS.Tabs.same tb4 ((acc3.1.trans sp).trans sp2), _, upd_same, by simp [l4], ((rk4.same acc3.1).app acc3.2).same (sp.trans sp2)⟩
  rintro _ H5 ⟨R5, rows5, rfl, tb5, eR5, l5, rk5⟩
  refine mid_at (fun σ G => ∃ w1 w2, σ = [some (.ref a), v1, v2, v3, v4, v5, v6, v7, v8, some (.ref R5), w1, w2, none] ∧ Tabs TS G ∧ G R5 = some (.lst rows5) ∧ RowsOk G rows5) ?_ ?_
  · walk_at "sx"
    have e9 : repS (Str.ofString "9") (Int.toNat 5000) = S (List.replicate 5000 57) := by rw [show Str.ofString "9" = S [57] from by decide +kernel, rep_one]; rfl
    have e3 : repS (Str.ofString "l1:") (Int.toNat 1200) = S (List.replicate 1200 [108, 49, 58]).flatten := by rw [show Str.ofString "l1:" = S [108, 49, 58] from by decide +kernel, rep_S]; rfl
    have n3 : (List.replicate 1200 ([108, 49, 58] : List Nat)).flatten.length = 3600 := by rw [List.length_flatten, List.map_replicate, List.sum_replicate_nat]; rfl
    have f1 : S [105] ++ S (List.replicate 5000 57) ++ S [59] = S far1 := by rw [S_cat, S_cat]; rfl
    have f2 : S [115] ++ S (List.replicate 5000 57) ++ S [58] = S far2 := by rw [S_cat, S_cat]; rfl
    have f3 : S (List.replicate 1200 [108, 49, 58]).flatten ++ S [108, 48, 58] = S far3 := by rw [S_cat]; rfl
    have g1 : far1.length = 5002 := by unfold far1; rw [List.length_append, List.length_append, List.length_replicate]; rfl
    have g2 : far2.length = 5002 := by unfold far2; rw [List.length_append, List.length_append, List.length_replicate]; rfl
    have g3 : far3.length = 3603 := by unfold far3; rw [List.length_append, n3]; rfl
    rw [e9, e3, show Str.ofString "i" = S [105] from by decide +kernel, show Str.ofString "s" = S [115] from by decide +kernel, show Str.ofString ";" = S [59] from by decide +kernel, show Str.ofString ":" = S [58] from by decide +kernel, show Str.ofString "l0:" = S [108, 48, 58] from by decide +kernel, f1, f2, f3]
    refine ⟨by decide, by decide, by decide +kernel, by rw [S_len, S_len, List.length_replicate]; decide, by rw [S_cat, S_len, S_len, List.length_append, List.length_replicate]; decide, fun t1 h1 => ?_⟩
    refine ⟨by decide, by decide, by decide +kernel, by rw [S_len, S_len, List.length_replicate]; decide, by rw [S_cat, S_len, S_len, List.length_append, List.length_replicate]; decide, fun t2 h2 => ?_⟩
    refine ⟨by decide, by decide, by decide +kernel, by rw [S_len, S_len, n3]; decide, fun t3 h3 => fun Lf hLf => ?_⟩
    have s1 := same_upd (o := HO.tup [V.str (S far1), V.int 101]) h1
    have s2 := same_upd (o := HO.tup [V.str (S far2), V.int 5]) h2
    have s3 := same_upd (o := HO.tup [V.str (S far3), V.int 60]) h3
    have s4 := same_upd (o := HO.lst [V.ref t1, V.ref t2, V.ref t3]) hLf
    have eLf := upd_same (H := upd (upd (upd H5 t1 (HO.tup [V.str (S far1), V.int 101])) t2 (HO.tup [V.str (S far2), V.int 5])) t3 (HO.tup [V.str (S far3), V.int 60])) (a := Lf) (o := HO.lst [V.ref t1, V.ref t2, V.ref t3])
    have k1 : FarOk (upd (upd (upd (upd H5 t1 (HO.tup [V.str (S far1), V.int 101])) t2 (HO.tup [V.str (S far2), V.int 5])) t3 (HO.tup [V.str (S far3), V.int 60])) Lf (HO.lst [V.ref t1, V.ref t2, V.ref t3])) (.ref t1) := ⟨t1, far1, 101, rfl, s4 _ _ (s3 _ _ (s2 _ _ upd_same)), far1_wr, by omega⟩
    have k2 : FarOk (upd (upd (upd (upd H5 t1 (HO.tup [V.str (S far1), V.int 101])) t2 (HO.tup [V.str (S far2), V.int 5])) t3 (HO.tup [V.str (S far3), V.int 60])) Lf (HO.lst [V.ref t1, V.ref t2, V.ref t3])) (.ref t2) := ⟨t2, far2, 5, rfl, s4 _ _ (s3 _ _ upd_same), far2_wr, by omega⟩
    have k3 : FarOk (upd (upd (upd (upd H5 t1 (HO.tup [V.str (S far1), V.int 101])) t2 (HO.tup [V.str (S far2), V.int 5])) t3 (HO.tup [V.str (S far3), V.int 60])) Lf (HO.lst [V.ref t1, V.ref t2, V.ref t3])) (.ref t3) := ⟨t3, far3, 60, rfl, s4 _ _ upd_same, far3_wr, by omega⟩
    have sx := ((s1.trans s2).trans s3).trans s4
    have ka : ∀ x ∈ [V.ref t1, V.ref t2, V.ref t3], FarOk (upd (upd (upd (upd H5 t1 (HO.tup [V.str (S far1), V.int 101])) t2 (HO.tup [V.str (S far2), V.int 5])) t3 (HO.tup [V.str (S far3), V.int 60])) Lf (HO.lst [V.ref t1, V.ref t2, V.ref t3])) x := fun x hx => by
      simp only [List.mem_cons, List.not_mem_nil, or_false] at hx
      rcases hx with rfl | rfl | rfl
      · exact k1
      · exact k2
      · exact k3
    clear k1 k2 k3
    generalize (upd (upd (upd (upd H5 t1 (HO.tup [V.str (S far1), V.int 101])) t2 (HO.tup [V.str (S far2), V.int 5])) t3 (HO.tup [V.str (S far3), V.int 60])) Lf (HO.lst [V.ref t1, V.ref t2, V.ref t3])) = G at sx eLf ka ⊢
    generalize hfs : [V.ref t1, V.ref t2, V.ref t3] = fs at eLf ka
    have lf : fs.length = 3 := by rw [← hfs]; rfl
    clear hfs
    refine ⟨⟨_, SqL.of eLf⟩, ?_⟩
    refine for_by 3 (fun i σ G2 => (∃ w1 w2, σ = [some (.ref a), v1, v2, v3, v4, v5, v6, v7, v8, some (.ref R5), w1, w2, none]) ∧ Tabs TS G2 ∧ FrT [] G G2) ⟨⟨_, _, rfl⟩, RS.Tabs.same tb5 sx, FrT.refl G⟩ (fun i σ G2 lt P => ⟨_, fs[i], SqL.of (P.2.2 _ _ (by simp) (fun ps z => by cases z) eLf), List.getElem?_eq_getElem (by omega)⟩) (fun σ G2 P => ⟨_, SqL.of (P.2.2 _ _ (by simp) (fun ps z => by cases z) eLf), by omega⟩) (fun i σ G2 x G3 lt P yl => ?_) (fun σ G2 P => ?_)
    · obtain ⟨⟨w1, w2, rfl⟩, tbf, ff⟩ := P
      obtain ⟨rfl, hx⟩ := yl
      have hx := hx _ (SqL.of (ff _ _ (by simp) (fun ps z => by cases z) eLf))
      obtain ⟨t, tx, k, rfl, e1, hw, tl⟩ := (ka x (List.mem_of_getElem? hx)).fr ff
      have hv := far_bad hw
      walk_at "sx"
      refine ⟨_, SqT.of e1, rfl, ?_⟩
      walk_at "sx"
      refine .inl ⟨_, rfl, tx, rfl, by omega, ?_⟩
      rw [hv]
      intro G4 s4
      show rNeU g.K (.int _) (.int _) _ _
      rw [ne_ii]
      refine ⟨_, rfl, ?_⟩
      rw [if_neg (by simp)]
      refine ⟨RS.Tabs.same tbf s4, fun c1 G5 x1 T1 hc1 => ?_⟩
      intro H0 E' K' s0 hE hK
      walk_at "sx"
      refine Or.inl ⟨_, rfl, tx, rfl, by omega, ?_⟩
      rw [hv]
      intro dd H' s' ed
      refine hE _ _ _ ⟨dd, .int (k : Nat), rfl, rfl, .inl ed, fun p G6 s6 np ep q' hq' => ?_⟩
      have f6 : FrT [] G4 G6 := ((FrT.ofN x1).trans (FrT.of s0)).trans (FrT.of (s'.trans s6))
      have t6 : Tabs TS G6 := ((T1.ext s0).ext s').ext s6
      have sp := same_upd (o := HO.tup [V.str (Str.ofString "text"), V.int (k : Nat)]) hq'
      have okt : PyData.strOk (Str.ofString "text") = true := by decide +kernel
      refine ⟨.tuple [.str (Str.ofString "text"), .int (k : Nat)], .tuple [.str (Str.ofString "text"), .int (k : Nat)], .tup (SqT.of (sp _ _ ep)) (.cons (.str _) (.cons (.int _) .nil)), .tup (SqT.of upd_same) (.cons (.str _) (.cons (.int _) .nil)), ?_, ?_, ?_⟩
      · simp [SeqAt.shaped, PyData.canLay0, PyData.canLayAll0, PyData.depth, PyData.depthAll, okt]
      · simp [SeqAt.shaped, PyData.canLay0, PyData.canLayAll0, PyData.depth, PyData.depthAll, okt]
      have e9 : PyData.eqv (.tuple [.str (Str.ofString "text"), .int (k : Nat)]) (.tuple [.str (Str.ofString "text"), .int (k : Nat)]) = true := by simp [PyData.eqv, PyData.eqvAll]
      rw [e9]
      refine ⟨_, rfl, ?_⟩
      rw [if_neg (by simp)]
      refine .inl ⟨_, rfl, tx, rfl, by omega, fun G7 s7 => ?_⟩
      show if (!decide (V.bl (isOk (vo tx)) = V.bl false)) = true then _ else _
      rw [hv, if_neg (by simp [isOk])]
      exact ⟨⟨_, rfl⟩, (t6.ext sp).ext s7, ((ff.trans (FrT.of s4)).trans f6).trans (FrT.of (sp.trans s7))⟩
    · obtain ⟨⟨w1, w2, rfl⟩, tbf, ff⟩ := P
      exact ⟨_, _, rfl, tbf, ff _ _ (by simp) (fun ps z => by cases z) (sx _ _ eR5), rk5.fr ((FrT.of sx).trans ff)⟩
  rintro _ H6 ⟨w1, w2, rfl, tb6, eR6, rk6⟩
  walk_at "sx"
  refine ⟨⟨_, SqL.of eR6⟩, ?_⟩
  refine lc_noneT (T := TS) 21 tb6 (fun i G lt sm => ⟨_, rows5[i], SqL.of (sm _ _ (by simp) (fun ps z => by cases z) eR6), List.getElem?_eq_getElem (by omega)⟩) (fun G sm => ⟨_, SqL.of (sm _ _ (by simp) (fun ps z => by cases z) eR6), by omega⟩) (fun i G x G' K K0 lt sm tbG y k0 => ?_) (fun D G hD sm tbG eD => ?_)
  · obtain ⟨rfl, hx⟩ := y
    have hx := hx _ (SqL.of (sm _ _ (by simp) (fun ps z => by cases z) eR6))
    obtain ⟨t, tx, rfl, e1, tl⟩ := (rk6 x (List.mem_of_getElem? hx)).fr sm
    refine ⟨rfl, ?_⟩
    walk_at "sx"
    have wl : ∀ k, wr (vo tx) = some k → k ≤ 10000000 := fun k e => by
      cases hv : vo tx with
      | bad j => rw [hv] at e; cases e; have := (vo_pre hv).1; omega
      | ok d j => rw [hv] at e; cases e
    obtain ⟨a1, a2, a3⟩ := show1 _ wl
    have dx : ∀ {Z : Hp}, DpX g.K Z (vw (wr (vo tx))) (od (wr (vo tx))) := fun {Z} => by cases wr (vo tx) with
      | none => exact .non
      | some k => exact .int _
    refine ⟨_, .inr (SqT.of e1), _, atI_nat (j := 0) rfl, .inl ⟨_, rfl, tx, rfl, by omega, ?_⟩⟩
    have main : ∀ H1, Same G' H1 → rReprV g.K [vw (wr (vo tx))] H1 fun x H1 => ∃ xs, (SqL g.K H1 t xs ∨ SqT g.K H1 t xs) ∧ ∃ v, atI xs 1 = some v ∧ rReprV g.K [v] H1 fun y H2 => rNeU g.K x y H2 fun x H1 => ∃ c, x = V.bl c ∧ if c = true then K (.ref t) H1 else ∃ xs, (SqL g.K H1 t xs ∨ SqT g.K H1 t xs) ∧ ∃ v, atI xs 0 = some v ∧ sp_right TS [v] H1 (fun x H1 => ∃ c, x = V.bl c ∧ if (!c) = true then K (.ref t) H1 else K0 H1) fun c d H' => False := fun H1 s1 => by
      refine ⟨_, _, rfl, dx, a1, a2, a3, ?_⟩
      refine ⟨_, .inr (SqT.of (s1 _ _ e1)), _, atI_nat (j := 1) rfl, ?_⟩
      refine ⟨_, _, rfl, dx, a1, a2, a3, ?_⟩
      show rNeU g.K (.str _) (.str _) _ _
      rw [ne_ss]
      refine ⟨_, rfl, ?_⟩
      rw [if_neg (by simp)]
      refine ⟨_, .inr (SqT.of (s1 _ _ e1)), _, atI_nat (j := 0) rfl, ?_⟩
      refine ⟨_, rfl, tx, rfl, by omega, RS.Tabs.same tbG s1, fun H2 f2 t2 => ⟨_, rfl, ?_⟩⟩
      rw [if_neg (by simp)]
      exact k0 _ ((FrT.of s1).trans f2) t2
    cases hv : vo tx with
    | bad j => rw [hv] at main; exact fun H1 s1 => main H1 s1
    | ok d j => rw [hv] at main; exact fun H1 s1 => main H1 s1
  · intro p hp
    have sp := same_upd (o := HO.lst []) hp
    refine ⟨.list [], .list [], .lst (SqL.of (sp _ _ eD)) .nil, .lst (SqL.of upd_same) .nil, by decide, by decide, ?_⟩
    exact q _
end


open PySem PySem.Spec PyProof.Rows L2 RS LamX
theorem xst_InvalidText : XSt1 "InvalidText.__init__" s_InvalidText__init "position" "position" where
  bd := ⟨_, _, _, _, _, _, _, _, _, _, _, _, rfl, fun L fI cda cc => ⟨rfl, rfl, rfl, ⟨_, rfl⟩, rfl⟩⟩
  ar := ⟨_, rfl, rfl⟩
  ks := rfl
  kc := rfl
  ka := rfl
  kx := rfl
  kd := rfl
  co := rfl
  ge := rfl
  ce := by decide +kernel
  bi := fun oc kV doc pm an cdv ct cc u v => rfl
  ne := by decide
  dbg := by decide
theorem all_mk {l : PySem.W.OpenLaw} {w : World} {K : PySem.W.Frag} {h : Heap} {mg : Str → Option Value} {fa : Addr} {q : Program}
    {C_InvalidText fI_InvalidText cda_InvalidText cc_InvalidText : Addr} {oc_InvalidText kV_InvalidText doc_InvalidText pm_InvalidText ct_InvalidText ccl_InvalidText cl_InvalidText : Value} {od_InvalidText an_InvalidText cdd_InvalidText cld_InvalidText : Option Addr} {osl_InvalidText ccs_InvalidText csl_InvalidText : Array (Option Value)} {vs_InvalidText : Array Value} {file_InvalidText : Str} {tf_InvalidText : Tok}
    {C_ShelfError : Addr}
    {C_ShelfStateError : Addr}
    {C_LimitError : Addr}
    {C_InvalidValue : Addr}
    {C_InvalidPath : Addr}
    {C_TextReader : Addr}
    {f_TextReader__init : Addr} {od_TextReader__init an_TextReader__init : Option Addr} {sl_TextReader__init : Array (Option Value)} {oc_TextReader__init kV_TextReader__init dc_TextReader__init pm_TextReader__init cd_TextReader__init ct_TextReader__init : Value}
    {f_TextReader_sign : Addr} {od_TextReader_sign an_TextReader_sign : Option Addr} {sl_TextReader_sign : Array (Option Value)} {oc_TextReader_sign kV_TextReader_sign dc_TextReader_sign pm_TextReader_sign cd_TextReader_sign ct_TextReader_sign : Value}
    {f_TextReader_refuse : Addr} {od_TextReader_refuse an_TextReader_refuse : Option Addr} {sl_TextReader_refuse : Array (Option Value)} {oc_TextReader_refuse kV_TextReader_refuse dc_TextReader_refuse pm_TextReader_refuse cd_TextReader_refuse ct_TextReader_refuse : Value}
    {f_TextReader_read_digits : Addr} {od_TextReader_read_digits an_TextReader_read_digits : Option Addr} {sl_TextReader_read_digits : Array (Option Value)} {oc_TextReader_read_digits kV_TextReader_read_digits dc_TextReader_read_digits pm_TextReader_read_digits cd_TextReader_read_digits ct_TextReader_read_digits : Value}
    {f_TextReader_read_count : Addr} {od_TextReader_read_count an_TextReader_read_count : Option Addr} {sl_TextReader_read_count : Array (Option Value)} {oc_TextReader_read_count kV_TextReader_read_count dc_TextReader_read_count pm_TextReader_read_count cd_TextReader_read_count ct_TextReader_read_count : Value}
    {f_TextReader_read_integer : Addr} {od_TextReader_read_integer an_TextReader_read_integer : Option Addr} {sl_TextReader_read_integer : Array (Option Value)} {oc_TextReader_read_integer kV_TextReader_read_integer dc_TextReader_read_integer pm_TextReader_read_integer cd_TextReader_read_integer ct_TextReader_read_integer : Value}
    {f_TextReader_read_string : Addr} {od_TextReader_read_string an_TextReader_read_string : Option Addr} {sl_TextReader_read_string : Array (Option Value)} {oc_TextReader_read_string kV_TextReader_read_string dc_TextReader_read_string pm_TextReader_read_string cd_TextReader_read_string ct_TextReader_read_string : Value}
    {f_TextReader_read_pairs : Addr} {od_TextReader_read_pairs an_TextReader_read_pairs : Option Addr} {sl_TextReader_read_pairs : Array (Option Value)} {oc_TextReader_read_pairs kV_TextReader_read_pairs dc_TextReader_read_pairs pm_TextReader_read_pairs cd_TextReader_read_pairs ct_TextReader_read_pairs : Value}
    {f_TextReader_read_items : Addr} {od_TextReader_read_items an_TextReader_read_items : Option Addr} {sl_TextReader_read_items : Array (Option Value)} {oc_TextReader_read_items kV_TextReader_read_items dc_TextReader_read_items pm_TextReader_read_items cd_TextReader_read_items ct_TextReader_read_items : Value}
    {f_TextReader_read_part : Addr} {od_TextReader_read_part an_TextReader_read_part : Option Addr} {sl_TextReader_read_part : Array (Option Value)} {oc_TextReader_read_part kV_TextReader_read_part dc_TextReader_read_part pm_TextReader_read_part cd_TextReader_read_part ct_TextReader_read_part : Value}
    {f_TextReader_is_done : Addr} {od_TextReader_is_done an_TextReader_is_done : Option Addr} {sl_TextReader_is_done : Array (Option Value)} {oc_TextReader_is_done kV_TextReader_is_done dc_TextReader_is_done pm_TextReader_is_done cd_TextReader_is_done ct_TextReader_is_done : Value}
    {f_items_of : Addr} {od_items_of an_items_of : Option Addr} {sl_items_of : Array (Option Value)} {oc_items_of kV_items_of dc_items_of pm_items_of cd_items_of ct_items_of : Value}
    {f_is_wrong_part : Addr} {od_is_wrong_part an_is_wrong_part : Option Addr} {sl_is_wrong_part : Array (Option Value)} {oc_is_wrong_part kV_is_wrong_part dc_is_wrong_part pm_is_wrong_part cd_is_wrong_part ct_is_wrong_part : Value}
    {f_wrong_path : Addr} {od_wrong_path an_wrong_path : Option Addr} {sl_wrong_path : Array (Option Value)} {oc_wrong_path kV_wrong_path dc_wrong_path pm_wrong_path cd_wrong_path ct_wrong_path : Value}
    {f_check_value : Addr} {od_check_value an_check_value : Option Addr} {sl_check_value : Array (Option Value)} {oc_check_value kV_check_value dc_check_value pm_check_value cd_check_value ct_check_value : Value}
    {f_spelled : Addr} {od_spelled an_spelled : Option Addr} {sl_spelled : Array (Option Value)} {oc_spelled kV_spelled dc_spelled pm_spelled cd_spelled ct_spelled : Value}
    {f_text_of : Addr} {od_text_of an_text_of : Option Addr} {sl_text_of : Array (Option Value)} {oc_text_of kV_text_of dc_text_of pm_text_of cd_text_of ct_text_of : Value}
    {f_check_string : Addr} {od_check_string an_check_string : Option Addr} {sl_check_string : Array (Option Value)} {oc_check_string kV_check_string dc_check_string pm_check_string cd_check_string ct_check_string : Value}
    {f_value_of : Addr} {od_value_of an_value_of : Option Addr} {sl_value_of : Array (Option Value)} {oc_value_of kV_value_of dc_value_of pm_value_of cd_value_of ct_value_of : Value}
    {f_first_wrong : Addr} {od_first_wrong an_first_wrong : Option Addr} {sl_first_wrong : Array (Option Value)} {oc_first_wrong kV_first_wrong dc_first_wrong pm_first_wrong cd_first_wrong ct_first_wrong : Value}
    {f_is_text : Addr} {od_is_text an_is_text : Option Addr} {sl_is_text : Array (Option Value)} {oc_is_text kV_is_text dc_is_text pm_is_text cd_is_text ct_is_text : Value}
    {f_l_mixed : Addr} {od_l_mixed an_l_mixed : Option Addr} {sl_l_mixed : Array (Option Value)} {oc_l_mixed kV_l_mixed dc_l_mixed pm_l_mixed cd_l_mixed ct_l_mixed : Value}
    {f_l_stream : Addr} {od_l_stream an_l_stream : Option Addr} {sl_l_stream : Array (Option Value)} {oc_l_stream kV_l_stream dc_l_stream pm_l_stream cd_l_stream ct_l_stream : Value}
    {f_l_draw : Addr} {od_l_draw an_l_draw : Option Addr} {sl_l_draw : Array (Option Value)} {oc_l_draw kV_l_draw dc_l_draw pm_l_draw cd_l_draw ct_l_draw : Value}
    {f_l_pick : Addr} {od_l_pick an_l_pick : Option Addr} {sl_l_pick : Array (Option Value)} {oc_l_pick kV_l_pick dc_l_pick pm_l_pick cd_l_pick ct_l_pick : Value}
    {f_l_word : Addr} {od_l_word an_l_word : Option Addr} {sl_l_word : Array (Option Value)} {oc_l_word kV_l_word dc_l_word pm_l_word cd_l_word ct_l_word : Value}
    {f_l_plain : Addr} {od_l_plain an_l_plain : Option Addr} {sl_l_plain : Array (Option Value)} {oc_l_plain kV_l_plain dc_l_plain pm_l_plain cd_l_plain ct_l_plain : Value}
    {f_l_value : Addr} {od_l_value an_l_value : Option Addr} {sl_l_value : Array (Option Value)} {oc_l_value kV_l_value dc_l_value pm_l_value cd_l_value ct_l_value : Value}
    {f_l_count : Addr} {od_l_count an_l_count : Option Addr} {sl_l_count : Array (Option Value)} {oc_l_count kV_l_count dc_l_count pm_l_count cd_l_count ct_l_count : Value}
    {f_l_number : Addr} {od_l_number an_l_number : Option Addr} {sl_l_number : Array (Option Value)} {oc_l_number kV_l_number dc_l_number pm_l_number cd_l_number ct_l_number : Value}
    {f_l_item : Addr} {od_l_item an_l_item : Option Addr} {sl_l_item : Array (Option Value)} {oc_l_item kV_l_item dc_l_item pm_l_item cd_l_item ct_l_item : Value}
    {f_l_scan : Addr} {od_l_scan an_l_scan : Option Addr} {sl_l_scan : Array (Option Value)} {oc_l_scan kV_l_scan dc_l_scan pm_l_scan cd_l_scan ct_l_scan : Value}
    {f_l_bent : Addr} {od_l_bent an_l_bent : Option Addr} {sl_l_bent : Array (Option Value)} {oc_l_bent kV_l_bent dc_l_bent pm_l_bent cd_l_bent ct_l_bent : Value}
    {f_l_told : Addr} {od_l_told an_l_told : Option Addr} {sl_l_told : Array (Option Value)} {oc_l_told kV_l_told dc_l_told pm_l_told cd_l_told ct_l_told : Value}
    {f_l_right c_o_l_right P_l_right : Addr} {oo_l_right : Value} {ov_l_right : Array Value} {odd_l_right : Option Addr} {oss_l_right : Array (Option Value)} {od_l_right an_l_right : Option Addr} {sl_l_right : Array (Option Value)} {oc_l_right kV_l_right dc_l_right pm_l_right ct_l_right : Value}
    {f_l_tower_right : Addr} {od_l_tower_right an_l_tower_right : Option Addr} {sl_l_tower_right : Array (Option Value)} {oc_l_tower_right kV_l_tower_right dc_l_tower_right pm_l_tower_right cd_l_tower_right ct_l_tower_right : Value}
    {f_law c_o_law P_law : Addr} {oo_law : Value} {ov_law : Array Value} {odd_law : Option Addr} {oss_law : Array (Option Value)} {od_law an_law : Option Addr} {sl_law : Array (Option Value)} {oc_law kV_law dc_law pm_law ct_law : Value}
    {t_MOST_DIGITS : Tok}
    {t_MOST_ITEMS : Tok}
    {t_MOST_LEVELS : Tok}
    {t_DIGITS : Tok} (X : K.In h) (G : h.Ns mainGlobals mg) (hfa : mg "law" = some (.ref fa)) (TF : TabF q K h)
    (b_super : PySem.W.nsIn K mainGlobals "super" = some none)
    (xa : XA l.prog K)
    (aC_InvalidText : PySem.W.nsIn K mainGlobals "InvalidText" = some (some (.ref C_InvalidText)))
    (in_InvalidText : PySem.W.findIn K (.ref C_InvalidText) "__init__" = some (some (.ref fI_InvalidText)))
    (l_InvalidText : K.lookup fI_InvalidText = some ⟨oc_InvalidText, od_InvalidText, .func (PySem.W.ksFn "__init__" "InvalidText.__init__" (defArgs s_InvalidText__init) (defBody s_InvalidText__init) (defScope s_InvalidText__init) .none kV_InvalidText doc_InvalidText pm_InvalidText an_InvalidText (.ref cda_InvalidText) ct_InvalidText cc_InvalidText), osl_InvalidText⟩)
    (co_InvalidText : K.lookup cda_InvalidText = some ⟨ccl_InvalidText, cdd_InvalidText, .fields vs_InvalidText, ccs_InvalidText⟩)
    (fi_InvalidText : vs_InvalidText[2]? = some (.str file_InvalidText tf_InvalidText))
    (fe_InvalidText : ((l.prog.main.file : Str) == file_InvalidText) = true)
    (ce_InvalidText : K.lookup cc_InvalidText = some ⟨cl_InvalidText, cld_InvalidText, .cell (some (.ref C_InvalidText)), csl_InvalidText⟩)
    (xb_InvalidText : XB K C_InvalidText fI_InvalidText cda_InvalidText "InvalidText.__init__" "ValueError" "ValueError.__new__" "ValueError.__init__" [.type "ValueError", .type "Exception", .type "BaseException", .type "object"])
    (nf_InvalidText : PySem.W.findIn K (.ref C_InvalidText) "position" = some none)
    (tyX : PySem.W.typeIn K (.ref C_InvalidText) = some (.type "type"))
    (hex : PySem.W.exmOne K (.ref C_InvalidText) (.ref C_InvalidText) = some true)
    (aC_ShelfError : PySem.W.nsIn K mainGlobals "ShelfError" = some (some (.ref C_ShelfError)))
    (aC_ShelfStateError : PySem.W.nsIn K mainGlobals "ShelfStateError" = some (some (.ref C_ShelfStateError)))
    (aC_LimitError : PySem.W.nsIn K mainGlobals "LimitError" = some (some (.ref C_LimitError)))
    (aC_InvalidValue : PySem.W.nsIn K mainGlobals "InvalidValue" = some (some (.ref C_InvalidValue)))
    (aC_InvalidPath : PySem.W.nsIn K mainGlobals "InvalidPath" = some (some (.ref C_InvalidPath)))
    (kV : PySem.W.kitOne K (.ref C_InvalidText) (.ref C_InvalidValue) = some false)
    (kT : PySem.W.kitOne K (.ref C_InvalidText) (.ref C_InvalidText) = some true)
    (exA : PySem.W.exmAny K (.ref C_InvalidText) [.ref C_ShelfError, .ref C_ShelfStateError, .ref C_LimitError] = some true)
    (aC_TextReader : PySem.W.nsIn K mainGlobals "TextReader" = some (some (.ref C_TextReader)))
    (pg_TextReader : PySem.W.plainGet K C_TextReader Str.empty = true)
    (hd_TextReader : PySem.W.hasDictIn K C_TextReader = true)
    (po_TextReader : PySem.W.plainOver K C_TextReader = true)
    (sa_TextReader : PySem.W.findIn K (.ref C_TextReader) "__setattr__" = some (some (.builtin "object.__setattr__")))
    (kc_TextReader : PySem.W.keepIn K (.ref C_TextReader) = true)
    (mk_TextReader : PySem.W.makesIn K C_TextReader = true)
    (na_TextReader_own_text : PySem.W.findIn K (.ref C_TextReader) "own_text" = some none)
    (na_TextReader_at : PySem.W.findIn K (.ref C_TextReader) "at" = some none)
    (a_TextReader__init : PySem.W.findIn K (.ref C_TextReader) "__init__" = some (some (.ref f_TextReader__init)))
    (i_TextReader__init : PySem.W.isFn K (.ref f_TextReader__init) = true)
    (l_TextReader__init : K.lookup f_TextReader__init = some ⟨oc_TextReader__init, od_TextReader__init, .func (PySem.W.fnOf "__init__" "TextReader.__init__" (defArgs s_TextReader__init) (defBody s_TextReader__init) (defScope s_TextReader__init) .none kV_TextReader__init dc_TextReader__init pm_TextReader__init an_TextReader__init cd_TextReader__init ct_TextReader__init), sl_TextReader__init⟩)
    (c_TextReader__init : PySem.W.codeIn K cd_TextReader__init "TextReader.__init__" = true)
    (k_TextReader__init : PySem.W.keepIn K (.ref f_TextReader__init) = true)
    (a_TextReader_sign : PySem.W.findIn K (.ref C_TextReader) "sign" = some (some (.ref f_TextReader_sign)))
    (i_TextReader_sign : PySem.W.isFn K (.ref f_TextReader_sign) = true)
    (l_TextReader_sign : K.lookup f_TextReader_sign = some ⟨oc_TextReader_sign, od_TextReader_sign, .func (PySem.W.fnOf "sign" "TextReader.sign" (defArgs s_TextReader_sign) (defBody s_TextReader_sign) (defScope s_TextReader_sign) .none kV_TextReader_sign dc_TextReader_sign pm_TextReader_sign an_TextReader_sign cd_TextReader_sign ct_TextReader_sign), sl_TextReader_sign⟩)
    (c_TextReader_sign : PySem.W.codeIn K cd_TextReader_sign "TextReader.sign" = true)
    (k_TextReader_sign : PySem.W.keepIn K (.ref f_TextReader_sign) = true)
    (a_TextReader_refuse : PySem.W.findIn K (.ref C_TextReader) "refuse" = some (some (.ref f_TextReader_refuse)))
    (i_TextReader_refuse : PySem.W.isFn K (.ref f_TextReader_refuse) = true)
    (l_TextReader_refuse : K.lookup f_TextReader_refuse = some ⟨oc_TextReader_refuse, od_TextReader_refuse, .func (PySem.W.fnOf "refuse" "TextReader.refuse" (defArgs s_TextReader_refuse) (defBody s_TextReader_refuse) (defScope s_TextReader_refuse) .none kV_TextReader_refuse dc_TextReader_refuse pm_TextReader_refuse an_TextReader_refuse cd_TextReader_refuse ct_TextReader_refuse), sl_TextReader_refuse⟩)
    (c_TextReader_refuse : PySem.W.codeIn K cd_TextReader_refuse "TextReader.refuse" = true)
    (k_TextReader_refuse : PySem.W.keepIn K (.ref f_TextReader_refuse) = true)
    (a_TextReader_read_digits : PySem.W.findIn K (.ref C_TextReader) "read_digits" = some (some (.ref f_TextReader_read_digits)))
    (i_TextReader_read_digits : PySem.W.isFn K (.ref f_TextReader_read_digits) = true)
    (l_TextReader_read_digits : K.lookup f_TextReader_read_digits = some ⟨oc_TextReader_read_digits, od_TextReader_read_digits, .func (PySem.W.fnOf "read_digits" "TextReader.read_digits" (defArgs s_TextReader_read_digits) (defBody s_TextReader_read_digits) (defScope s_TextReader_read_digits) .none kV_TextReader_read_digits dc_TextReader_read_digits pm_TextReader_read_digits an_TextReader_read_digits cd_TextReader_read_digits ct_TextReader_read_digits), sl_TextReader_read_digits⟩)
    (c_TextReader_read_digits : PySem.W.codeIn K cd_TextReader_read_digits "TextReader.read_digits" = true)
    (k_TextReader_read_digits : PySem.W.keepIn K (.ref f_TextReader_read_digits) = true)
    (a_TextReader_read_count : PySem.W.findIn K (.ref C_TextReader) "read_count" = some (some (.ref f_TextReader_read_count)))
    (i_TextReader_read_count : PySem.W.isFn K (.ref f_TextReader_read_count) = true)
    (l_TextReader_read_count : K.lookup f_TextReader_read_count = some ⟨oc_TextReader_read_count, od_TextReader_read_count, .func (PySem.W.fnOf "read_count" "TextReader.read_count" (defArgs s_TextReader_read_count) (defBody s_TextReader_read_count) (defScope s_TextReader_read_count) .none kV_TextReader_read_count dc_TextReader_read_count pm_TextReader_read_count an_TextReader_read_count cd_TextReader_read_count ct_TextReader_read_count), sl_TextReader_read_count⟩)
    (c_TextReader_read_count : PySem.W.codeIn K cd_TextReader_read_count "TextReader.read_count" = true)
    (k_TextReader_read_count : PySem.W.keepIn K (.ref f_TextReader_read_count) = true)
    (a_TextReader_read_integer : PySem.W.findIn K (.ref C_TextReader) "read_integer" = some (some (.ref f_TextReader_read_integer)))
    (i_TextReader_read_integer : PySem.W.isFn K (.ref f_TextReader_read_integer) = true)
    (l_TextReader_read_integer : K.lookup f_TextReader_read_integer = some ⟨oc_TextReader_read_integer, od_TextReader_read_integer, .func (PySem.W.fnOf "read_integer" "TextReader.read_integer" (defArgs s_TextReader_read_integer) (defBody s_TextReader_read_integer) (defScope s_TextReader_read_integer) .none kV_TextReader_read_integer dc_TextReader_read_integer pm_TextReader_read_integer an_TextReader_read_integer cd_TextReader_read_integer ct_TextReader_read_integer), sl_TextReader_read_integer⟩)
    (c_TextReader_read_integer : PySem.W.codeIn K cd_TextReader_read_integer "TextReader.read_integer" = true)
    (k_TextReader_read_integer : PySem.W.keepIn K (.ref f_TextReader_read_integer) = true)
    (a_TextReader_read_string : PySem.W.findIn K (.ref C_TextReader) "read_string" = some (some (.ref f_TextReader_read_string)))
    (i_TextReader_read_string : PySem.W.isFn K (.ref f_TextReader_read_string) = true)
    (l_TextReader_read_string : K.lookup f_TextReader_read_string = some ⟨oc_TextReader_read_string, od_TextReader_read_string, .func (PySem.W.fnOf "read_string" "TextReader.read_string" (defArgs s_TextReader_read_string) (defBody s_TextReader_read_string) (defScope s_TextReader_read_string) .none kV_TextReader_read_string dc_TextReader_read_string pm_TextReader_read_string an_TextReader_read_string cd_TextReader_read_string ct_TextReader_read_string), sl_TextReader_read_string⟩)
    (c_TextReader_read_string : PySem.W.codeIn K cd_TextReader_read_string "TextReader.read_string" = true)
    (k_TextReader_read_string : PySem.W.keepIn K (.ref f_TextReader_read_string) = true)
    (a_TextReader_read_pairs : PySem.W.findIn K (.ref C_TextReader) "read_pairs" = some (some (.ref f_TextReader_read_pairs)))
    (i_TextReader_read_pairs : PySem.W.isFn K (.ref f_TextReader_read_pairs) = true)
    (l_TextReader_read_pairs : K.lookup f_TextReader_read_pairs = some ⟨oc_TextReader_read_pairs, od_TextReader_read_pairs, .func (PySem.W.fnOf "read_pairs" "TextReader.read_pairs" (defArgs s_TextReader_read_pairs) (defBody s_TextReader_read_pairs) (defScope s_TextReader_read_pairs) .none kV_TextReader_read_pairs dc_TextReader_read_pairs pm_TextReader_read_pairs an_TextReader_read_pairs cd_TextReader_read_pairs ct_TextReader_read_pairs), sl_TextReader_read_pairs⟩)
    (c_TextReader_read_pairs : PySem.W.codeIn K cd_TextReader_read_pairs "TextReader.read_pairs" = true)
    (k_TextReader_read_pairs : PySem.W.keepIn K (.ref f_TextReader_read_pairs) = true)
    (a_TextReader_read_items : PySem.W.findIn K (.ref C_TextReader) "read_items" = some (some (.ref f_TextReader_read_items)))
    (i_TextReader_read_items : PySem.W.isFn K (.ref f_TextReader_read_items) = true)
    (l_TextReader_read_items : K.lookup f_TextReader_read_items = some ⟨oc_TextReader_read_items, od_TextReader_read_items, .func (PySem.W.fnOf "read_items" "TextReader.read_items" (defArgs s_TextReader_read_items) (defBody s_TextReader_read_items) (defScope s_TextReader_read_items) .none kV_TextReader_read_items dc_TextReader_read_items pm_TextReader_read_items an_TextReader_read_items cd_TextReader_read_items ct_TextReader_read_items), sl_TextReader_read_items⟩)
    (c_TextReader_read_items : PySem.W.codeIn K cd_TextReader_read_items "TextReader.read_items" = true)
    (k_TextReader_read_items : PySem.W.keepIn K (.ref f_TextReader_read_items) = true)
    (a_TextReader_read_part : PySem.W.findIn K (.ref C_TextReader) "read_part" = some (some (.ref f_TextReader_read_part)))
    (i_TextReader_read_part : PySem.W.isFn K (.ref f_TextReader_read_part) = true)
    (l_TextReader_read_part : K.lookup f_TextReader_read_part = some ⟨oc_TextReader_read_part, od_TextReader_read_part, .func (PySem.W.fnOf "read_part" "TextReader.read_part" (defArgs s_TextReader_read_part) (defBody s_TextReader_read_part) (defScope s_TextReader_read_part) .none kV_TextReader_read_part dc_TextReader_read_part pm_TextReader_read_part an_TextReader_read_part cd_TextReader_read_part ct_TextReader_read_part), sl_TextReader_read_part⟩)
    (c_TextReader_read_part : PySem.W.codeIn K cd_TextReader_read_part "TextReader.read_part" = true)
    (k_TextReader_read_part : PySem.W.keepIn K (.ref f_TextReader_read_part) = true)
    (a_TextReader_is_done : PySem.W.findIn K (.ref C_TextReader) "is_done" = some (some (.ref f_TextReader_is_done)))
    (i_TextReader_is_done : PySem.W.isFn K (.ref f_TextReader_is_done) = true)
    (l_TextReader_is_done : K.lookup f_TextReader_is_done = some ⟨oc_TextReader_is_done, od_TextReader_is_done, .func (PySem.W.fnOf "is_done" "TextReader.is_done" (defArgs s_TextReader_is_done) (defBody s_TextReader_is_done) (defScope s_TextReader_is_done) .none kV_TextReader_is_done dc_TextReader_is_done pm_TextReader_is_done an_TextReader_is_done cd_TextReader_is_done ct_TextReader_is_done), sl_TextReader_is_done⟩)
    (c_TextReader_is_done : PySem.W.codeIn K cd_TextReader_is_done "TextReader.is_done" = true)
    (k_TextReader_is_done : PySem.W.keepIn K (.ref f_TextReader_is_done) = true)
    (a_items_of : PySem.W.nsIn K mainGlobals "items_of" = some (some (.ref f_items_of)))
    (l_items_of : K.lookup f_items_of = some ⟨oc_items_of, od_items_of, .func (PySem.W.fnOf "items_of" "items_of" (defArgs s_items_of) (defBody s_items_of) (defScope s_items_of) .none kV_items_of dc_items_of pm_items_of an_items_of cd_items_of ct_items_of), sl_items_of⟩)
    (c_items_of : PySem.W.codeIn K cd_items_of "items_of" = true)
    (k_items_of : PySem.W.keepIn K (.ref f_items_of) = true)
    (a_is_wrong_part : PySem.W.nsIn K mainGlobals "is_wrong_part" = some (some (.ref f_is_wrong_part)))
    (l_is_wrong_part : K.lookup f_is_wrong_part = some ⟨oc_is_wrong_part, od_is_wrong_part, .func (PySem.W.fnOf "is_wrong_part" "is_wrong_part" (defArgs s_is_wrong_part) (defBody s_is_wrong_part) (defScope s_is_wrong_part) .none kV_is_wrong_part dc_is_wrong_part pm_is_wrong_part an_is_wrong_part cd_is_wrong_part ct_is_wrong_part), sl_is_wrong_part⟩)
    (c_is_wrong_part : PySem.W.codeIn K cd_is_wrong_part "is_wrong_part" = true)
    (k_is_wrong_part : PySem.W.keepIn K (.ref f_is_wrong_part) = true)
    (a_wrong_path : PySem.W.nsIn K mainGlobals "wrong_path" = some (some (.ref f_wrong_path)))
    (l_wrong_path : K.lookup f_wrong_path = some ⟨oc_wrong_path, od_wrong_path, .func (PySem.W.fnOf "wrong_path" "wrong_path" (defArgs s_wrong_path) (defBody s_wrong_path) (defScope s_wrong_path) .none kV_wrong_path dc_wrong_path pm_wrong_path an_wrong_path cd_wrong_path ct_wrong_path), sl_wrong_path⟩)
    (c_wrong_path : PySem.W.codeIn K cd_wrong_path "wrong_path" = true)
    (k_wrong_path : PySem.W.keepIn K (.ref f_wrong_path) = true)
    (a_check_value : PySem.W.nsIn K mainGlobals "check_value" = some (some (.ref f_check_value)))
    (l_check_value : K.lookup f_check_value = some ⟨oc_check_value, od_check_value, .func (PySem.W.fnOf "check_value" "check_value" (defArgs s_check_value) (defBody s_check_value) (defScope s_check_value) .none kV_check_value dc_check_value pm_check_value an_check_value cd_check_value ct_check_value), sl_check_value⟩)
    (c_check_value : PySem.W.codeIn K cd_check_value "check_value" = true)
    (k_check_value : PySem.W.keepIn K (.ref f_check_value) = true)
    (a_spelled : PySem.W.nsIn K mainGlobals "spelled" = some (some (.ref f_spelled)))
    (l_spelled : K.lookup f_spelled = some ⟨oc_spelled, od_spelled, .func (PySem.W.fnOf "spelled" "spelled" (defArgs s_spelled) (defBody s_spelled) (defScope s_spelled) .none kV_spelled dc_spelled pm_spelled an_spelled cd_spelled ct_spelled), sl_spelled⟩)
    (c_spelled : PySem.W.codeIn K cd_spelled "spelled" = true)
    (k_spelled : PySem.W.keepIn K (.ref f_spelled) = true)
    (a_text_of : PySem.W.nsIn K mainGlobals "text_of" = some (some (.ref f_text_of)))
    (l_text_of : K.lookup f_text_of = some ⟨oc_text_of, od_text_of, .func (PySem.W.fnOf "text_of" "text_of" (defArgs s_text_of) (defBody s_text_of) (defScope s_text_of) .none kV_text_of dc_text_of pm_text_of an_text_of cd_text_of ct_text_of), sl_text_of⟩)
    (c_text_of : PySem.W.codeIn K cd_text_of "text_of" = true)
    (k_text_of : PySem.W.keepIn K (.ref f_text_of) = true)
    (a_check_string : PySem.W.nsIn K mainGlobals "check_string" = some (some (.ref f_check_string)))
    (l_check_string : K.lookup f_check_string = some ⟨oc_check_string, od_check_string, .func (PySem.W.fnOf "check_string" "check_string" (defArgs s_check_string) (defBody s_check_string) (defScope s_check_string) .none kV_check_string dc_check_string pm_check_string an_check_string cd_check_string ct_check_string), sl_check_string⟩)
    (c_check_string : PySem.W.codeIn K cd_check_string "check_string" = true)
    (k_check_string : PySem.W.keepIn K (.ref f_check_string) = true)
    (a_value_of : PySem.W.nsIn K mainGlobals "value_of" = some (some (.ref f_value_of)))
    (l_value_of : K.lookup f_value_of = some ⟨oc_value_of, od_value_of, .func (PySem.W.fnOf "value_of" "value_of" (defArgs s_value_of) (defBody s_value_of) (defScope s_value_of) .none kV_value_of dc_value_of pm_value_of an_value_of cd_value_of ct_value_of), sl_value_of⟩)
    (c_value_of : PySem.W.codeIn K cd_value_of "value_of" = true)
    (k_value_of : PySem.W.keepIn K (.ref f_value_of) = true)
    (a_first_wrong : PySem.W.nsIn K mainGlobals "first_wrong" = some (some (.ref f_first_wrong)))
    (l_first_wrong : K.lookup f_first_wrong = some ⟨oc_first_wrong, od_first_wrong, .func (PySem.W.fnOf "first_wrong" "first_wrong" (defArgs s_first_wrong) (defBody s_first_wrong) (defScope s_first_wrong) .none kV_first_wrong dc_first_wrong pm_first_wrong an_first_wrong cd_first_wrong ct_first_wrong), sl_first_wrong⟩)
    (c_first_wrong : PySem.W.codeIn K cd_first_wrong "first_wrong" = true)
    (k_first_wrong : PySem.W.keepIn K (.ref f_first_wrong) = true)
    (a_is_text : PySem.W.nsIn K mainGlobals "is_text" = some (some (.ref f_is_text)))
    (l_is_text : K.lookup f_is_text = some ⟨oc_is_text, od_is_text, .func (PySem.W.fnOf "is_text" "is_text" (defArgs s_is_text) (defBody s_is_text) (defScope s_is_text) .none kV_is_text dc_is_text pm_is_text an_is_text cd_is_text ct_is_text), sl_is_text⟩)
    (c_is_text : PySem.W.codeIn K cd_is_text "is_text" = true)
    (k_is_text : PySem.W.keepIn K (.ref f_is_text) = true)
    (a_l_mixed : PySem.W.nsIn K mainGlobals "_law_mixed" = some (some (.ref f_l_mixed)))
    (l_l_mixed : K.lookup f_l_mixed = some ⟨oc_l_mixed, od_l_mixed, .func (PySem.W.fnOf "_law_mixed" "_law_mixed" (defArgs s_l_mixed) (defBody s_l_mixed) (defScope s_l_mixed) .none kV_l_mixed dc_l_mixed pm_l_mixed an_l_mixed cd_l_mixed ct_l_mixed), sl_l_mixed⟩)
    (c_l_mixed : PySem.W.codeIn K cd_l_mixed "_law_mixed" = true)
    (k_l_mixed : PySem.W.keepIn K (.ref f_l_mixed) = true)
    (a_l_stream : PySem.W.nsIn K mainGlobals "_law_stream" = some (some (.ref f_l_stream)))
    (l_l_stream : K.lookup f_l_stream = some ⟨oc_l_stream, od_l_stream, .func (PySem.W.fnOf "_law_stream" "_law_stream" (defArgs s_l_stream) (defBody s_l_stream) (defScope s_l_stream) .none kV_l_stream dc_l_stream pm_l_stream an_l_stream cd_l_stream ct_l_stream), sl_l_stream⟩)
    (c_l_stream : PySem.W.codeIn K cd_l_stream "_law_stream" = true)
    (k_l_stream : PySem.W.keepIn K (.ref f_l_stream) = true)
    (a_l_draw : PySem.W.nsIn K mainGlobals "_law_draw" = some (some (.ref f_l_draw)))
    (l_l_draw : K.lookup f_l_draw = some ⟨oc_l_draw, od_l_draw, .func (PySem.W.fnOf "_law_draw" "_law_draw" (defArgs s_l_draw) (defBody s_l_draw) (defScope s_l_draw) .none kV_l_draw dc_l_draw pm_l_draw an_l_draw cd_l_draw ct_l_draw), sl_l_draw⟩)
    (c_l_draw : PySem.W.codeIn K cd_l_draw "_law_draw" = true)
    (k_l_draw : PySem.W.keepIn K (.ref f_l_draw) = true)
    (a_l_pick : PySem.W.nsIn K mainGlobals "_law_pick" = some (some (.ref f_l_pick)))
    (l_l_pick : K.lookup f_l_pick = some ⟨oc_l_pick, od_l_pick, .func (PySem.W.fnOf "_law_pick" "_law_pick" (defArgs s_l_pick) (defBody s_l_pick) (defScope s_l_pick) .none kV_l_pick dc_l_pick pm_l_pick an_l_pick cd_l_pick ct_l_pick), sl_l_pick⟩)
    (c_l_pick : PySem.W.codeIn K cd_l_pick "_law_pick" = true)
    (k_l_pick : PySem.W.keepIn K (.ref f_l_pick) = true)
    (a_l_word : PySem.W.nsIn K mainGlobals "_law_word" = some (some (.ref f_l_word)))
    (l_l_word : K.lookup f_l_word = some ⟨oc_l_word, od_l_word, .func (PySem.W.fnOf "_law_word" "_law_word" (defArgs s_l_word) (defBody s_l_word) (defScope s_l_word) .none kV_l_word dc_l_word pm_l_word an_l_word cd_l_word ct_l_word), sl_l_word⟩)
    (c_l_word : PySem.W.codeIn K cd_l_word "_law_word" = true)
    (k_l_word : PySem.W.keepIn K (.ref f_l_word) = true)
    (a_l_plain : PySem.W.nsIn K mainGlobals "_law_plain" = some (some (.ref f_l_plain)))
    (l_l_plain : K.lookup f_l_plain = some ⟨oc_l_plain, od_l_plain, .func (PySem.W.fnOf "_law_plain" "_law_plain" (defArgs s_l_plain) (defBody s_l_plain) (defScope s_l_plain) .none kV_l_plain dc_l_plain pm_l_plain an_l_plain cd_l_plain ct_l_plain), sl_l_plain⟩)
    (c_l_plain : PySem.W.codeIn K cd_l_plain "_law_plain" = true)
    (k_l_plain : PySem.W.keepIn K (.ref f_l_plain) = true)
    (a_l_value : PySem.W.nsIn K mainGlobals "_law_value" = some (some (.ref f_l_value)))
    (l_l_value : K.lookup f_l_value = some ⟨oc_l_value, od_l_value, .func (PySem.W.fnOf "_law_value" "_law_value" (defArgs s_l_value) (defBody s_l_value) (defScope s_l_value) .none kV_l_value dc_l_value pm_l_value an_l_value cd_l_value ct_l_value), sl_l_value⟩)
    (c_l_value : PySem.W.codeIn K cd_l_value "_law_value" = true)
    (k_l_value : PySem.W.keepIn K (.ref f_l_value) = true)
    (a_l_count : PySem.W.nsIn K mainGlobals "_law_count" = some (some (.ref f_l_count)))
    (l_l_count : K.lookup f_l_count = some ⟨oc_l_count, od_l_count, .func (PySem.W.fnOf "_law_count" "_law_count" (defArgs s_l_count) (defBody s_l_count) (defScope s_l_count) .none kV_l_count dc_l_count pm_l_count an_l_count cd_l_count ct_l_count), sl_l_count⟩)
    (c_l_count : PySem.W.codeIn K cd_l_count "_law_count" = true)
    (k_l_count : PySem.W.keepIn K (.ref f_l_count) = true)
    (a_l_number : PySem.W.nsIn K mainGlobals "_law_number" = some (some (.ref f_l_number)))
    (l_l_number : K.lookup f_l_number = some ⟨oc_l_number, od_l_number, .func (PySem.W.fnOf "_law_number" "_law_number" (defArgs s_l_number) (defBody s_l_number) (defScope s_l_number) .none kV_l_number dc_l_number pm_l_number an_l_number cd_l_number ct_l_number), sl_l_number⟩)
    (c_l_number : PySem.W.codeIn K cd_l_number "_law_number" = true)
    (k_l_number : PySem.W.keepIn K (.ref f_l_number) = true)
    (a_l_item : PySem.W.nsIn K mainGlobals "_law_item" = some (some (.ref f_l_item)))
    (l_l_item : K.lookup f_l_item = some ⟨oc_l_item, od_l_item, .func (PySem.W.fnOf "_law_item" "_law_item" (defArgs s_l_item) (defBody s_l_item) (defScope s_l_item) .none kV_l_item dc_l_item pm_l_item an_l_item cd_l_item ct_l_item), sl_l_item⟩)
    (c_l_item : PySem.W.codeIn K cd_l_item "_law_item" = true)
    (k_l_item : PySem.W.keepIn K (.ref f_l_item) = true)
    (a_l_scan : PySem.W.nsIn K mainGlobals "_law_scan" = some (some (.ref f_l_scan)))
    (l_l_scan : K.lookup f_l_scan = some ⟨oc_l_scan, od_l_scan, .func (PySem.W.fnOf "_law_scan" "_law_scan" (defArgs s_l_scan) (defBody s_l_scan) (defScope s_l_scan) .none kV_l_scan dc_l_scan pm_l_scan an_l_scan cd_l_scan ct_l_scan), sl_l_scan⟩)
    (c_l_scan : PySem.W.codeIn K cd_l_scan "_law_scan" = true)
    (k_l_scan : PySem.W.keepIn K (.ref f_l_scan) = true)
    (a_l_bent : PySem.W.nsIn K mainGlobals "_law_bent" = some (some (.ref f_l_bent)))
    (l_l_bent : K.lookup f_l_bent = some ⟨oc_l_bent, od_l_bent, .func (PySem.W.fnOf "_law_bent" "_law_bent" (defArgs s_l_bent) (defBody s_l_bent) (defScope s_l_bent) .none kV_l_bent dc_l_bent pm_l_bent an_l_bent cd_l_bent ct_l_bent), sl_l_bent⟩)
    (c_l_bent : PySem.W.codeIn K cd_l_bent "_law_bent" = true)
    (k_l_bent : PySem.W.keepIn K (.ref f_l_bent) = true)
    (a_l_told : PySem.W.nsIn K mainGlobals "_law_told" = some (some (.ref f_l_told)))
    (l_l_told : K.lookup f_l_told = some ⟨oc_l_told, od_l_told, .func (PySem.W.fnOf "_law_told" "_law_told" (defArgs s_l_told) (defBody s_l_told) (defScope s_l_told) .none kV_l_told dc_l_told pm_l_told an_l_told cd_l_told ct_l_told), sl_l_told⟩)
    (c_l_told : PySem.W.codeIn K cd_l_told "_law_told" = true)
    (k_l_told : PySem.W.keepIn K (.ref f_l_told) = true)
    (a_l_right : PySem.W.nsIn K mainGlobals "_law_right" = some (some (.ref f_l_right)))
    (l_l_right : K.lookup f_l_right = some ⟨oc_l_right, od_l_right, .func (PySem.W.fnOf "_law_right" "_law_right" (defArgs s_l_right) (defBody s_l_right) (defScope s_l_right) .none kV_l_right dc_l_right pm_l_right an_l_right (.ref c_o_l_right) ct_l_right), sl_l_right⟩)
    (c_l_right : PySem.W.codeIn K (.ref c_o_l_right) "_law_right" = true)
    (k_l_right : PySem.W.keepIn K (.ref f_l_right) = true)
    (co_l_right : K.lookup c_o_l_right = some ⟨oo_l_right, odd_l_right, .fields ov_l_right, oss_l_right⟩)
    (ov_l_right : (ov_l_right[11]? : Option Value) = some (.ref P_l_right))
    (ti_l_right : PySem.W.tabIn K "_law_right" = some (c_o_l_right, P_l_right))
    (tn_l_right : K.lookup P_l_right = none)
    (rs_l_right : ((recsOf q).find? (fun e => e.name == ("_law_right" : Str))).isSome = true)
    (a_l_tower_right : PySem.W.nsIn K mainGlobals "_law_tower_right" = some (some (.ref f_l_tower_right)))
    (l_l_tower_right : K.lookup f_l_tower_right = some ⟨oc_l_tower_right, od_l_tower_right, .func (PySem.W.fnOf "_law_tower_right" "_law_tower_right" (defArgs s_l_tower_right) (defBody s_l_tower_right) (defScope s_l_tower_right) .none kV_l_tower_right dc_l_tower_right pm_l_tower_right an_l_tower_right cd_l_tower_right ct_l_tower_right), sl_l_tower_right⟩)
    (c_l_tower_right : PySem.W.codeIn K cd_l_tower_right "_law_tower_right" = true)
    (k_l_tower_right : PySem.W.keepIn K (.ref f_l_tower_right) = true)
    (a_law : PySem.W.nsIn K mainGlobals "law" = some (some (.ref f_law)))
    (l_law : K.lookup f_law = some ⟨oc_law, od_law, .func (PySem.W.fnOf "law" "law" (defArgs s_law) (defBody s_law) (defScope s_law) .none kV_law dc_law pm_law an_law (.ref c_o_law) ct_law), sl_law⟩)
    (c_law : PySem.W.codeIn K (.ref c_o_law) "law" = true)
    (k_law : PySem.W.keepIn K (.ref f_law) = true)
    (co_law : K.lookup c_o_law = some ⟨oo_law, odd_law, .fields ov_law, oss_law⟩)
    (ov_law : (ov_law[11]? : Option Value) = some (.ref P_law))
    (ti_law : PySem.W.tabIn K "law" = some (c_o_law, P_law))
    (tn_law : K.lookup P_law = none)
    (rs_law : ((recsOf q).find? (fun e => e.name == ("law" : Str))).isSome = true)
    (ne_l_right_law : P_l_right ≠ P_law)
    (b_len : PySem.W.nsIn K mainGlobals "len" = some none)
    (b_isinstance : PySem.W.nsIn K mainGlobals "isinstance" = some none)
    (b_repr : PySem.W.nsIn K mainGlobals "repr" = some none)
    (b_enumerate : PySem.W.nsIn K mainGlobals "enumerate" = some none)
    (b_range : PySem.W.nsIn K mainGlobals "range" = some none)
    (b_list : PySem.W.nsIn K mainGlobals "list" = some none)
    (b_tuple : PySem.W.nsIn K mainGlobals "tuple" = some none)
    (b_dict : PySem.W.nsIn K mainGlobals "dict" = some none)
    (b_bool : PySem.W.nsIn K mainGlobals "bool" = some none)
    (b_int : PySem.W.nsIn K mainGlobals "int" = some none)
    (b_str : PySem.W.nsIn K mainGlobals "str" = some none)
    (b_abs : PySem.W.nsIn K mainGlobals "abs" = some none)
    (b_all : PySem.W.nsIn K mainGlobals "all" = some none)
    (b_max : PySem.W.nsIn K mainGlobals "max" = some none)
    (nd : PySem.W.nsIn K cStatics "sys.int_max_str_digits" = some none)
    (v_MOST_DIGITS : PySem.W.nsIn K mainGlobals "MOST_DIGITS" = some (some (.int 100 t_MOST_DIGITS)))
    (v_MOST_ITEMS : PySem.W.nsIn K mainGlobals "MOST_ITEMS" = some (some (.int 10000 t_MOST_ITEMS)))
    (v_MOST_LEVELS : PySem.W.nsIn K mainGlobals "MOST_LEVELS" = some (some (.int 20 t_MOST_LEVELS)))
    (v_DIGITS : PySem.W.nsIn K mainGlobals "DIGITS" = some (some (.str "0123456789" t_DIGITS))) :
    LawTs l w K 70 63 "_law_script" mg fa h := by
  have e := hfa.symm.trans (PySem.W.mg_of X G a_law)
  cases e
  have D_items_of := df_mk (st := s_items_of) l_items_of c_items_of k_items_of
  have b_items_of : Binds K (PySem.W.fnOf "items_of" "items_of" (defArgs s_items_of) (defBody s_items_of) (defScope s_items_of) .none kV_items_of dc_items_of pm_items_of an_items_of cd_items_of ct_items_of) ["value"] [] := Binds.all fun us hl => match us, hl with | [_], _ => rfl
  have D_is_wrong_part := df_mk (st := s_is_wrong_part) l_is_wrong_part c_is_wrong_part k_is_wrong_part
  have b_is_wrong_part : Binds K (PySem.W.fnOf "is_wrong_part" "is_wrong_part" (defArgs s_is_wrong_part) (defBody s_is_wrong_part) (defScope s_is_wrong_part) .none kV_is_wrong_part dc_is_wrong_part pm_is_wrong_part an_is_wrong_part cd_is_wrong_part ct_is_wrong_part) ["value", "depth"] [] := Binds.all fun us hl => match us, hl with | [_, _], _ => rfl
  have D_wrong_path := df_mk (st := s_wrong_path) l_wrong_path c_wrong_path k_wrong_path
  have b_wrong_path : Binds K (PySem.W.fnOf "wrong_path" "wrong_path" (defArgs s_wrong_path) (defBody s_wrong_path) (defScope s_wrong_path) .none kV_wrong_path dc_wrong_path pm_wrong_path an_wrong_path cd_wrong_path ct_wrong_path) ["value", "path"] [] := Binds.all fun us hl => match us, hl with | [_, _], _ => rfl
  have D_check_value := df_mk (st := s_check_value) l_check_value c_check_value k_check_value
  have b_check_value : Binds K (PySem.W.fnOf "check_value" "check_value" (defArgs s_check_value) (defBody s_check_value) (defScope s_check_value) .none kV_check_value dc_check_value pm_check_value an_check_value cd_check_value ct_check_value) ["value"] [] := Binds.all fun us hl => match us, hl with | [_], _ => rfl
  have D_spelled := df_mk (st := s_spelled) l_spelled c_spelled k_spelled
  have b_spelled : Binds K (PySem.W.fnOf "spelled" "spelled" (defArgs s_spelled) (defBody s_spelled) (defScope s_spelled) .none kV_spelled dc_spelled pm_spelled an_spelled cd_spelled ct_spelled) ["value"] [] := Binds.all fun us hl => match us, hl with | [_], _ => rfl
  have D_text_of := df_mk (st := s_text_of) l_text_of c_text_of k_text_of
  have b_text_of : Binds K (PySem.W.fnOf "text_of" "text_of" (defArgs s_text_of) (defBody s_text_of) (defScope s_text_of) .none kV_text_of dc_text_of pm_text_of an_text_of cd_text_of ct_text_of) ["value"] [] := Binds.all fun us hl => match us, hl with | [_], _ => rfl
  have D_check_string := df_mk (st := s_check_string) l_check_string c_check_string k_check_string
  have b_check_string : Binds K (PySem.W.fnOf "check_string" "check_string" (defArgs s_check_string) (defBody s_check_string) (defScope s_check_string) .none kV_check_string dc_check_string pm_check_string an_check_string cd_check_string ct_check_string) ["text"] [] := Binds.all fun us hl => match us, hl with | [_], _ => rfl
  have D_value_of := df_mk (st := s_value_of) l_value_of c_value_of k_value_of
  have b_value_of : Binds K (PySem.W.fnOf "value_of" "value_of" (defArgs s_value_of) (defBody s_value_of) (defScope s_value_of) .none kV_value_of dc_value_of pm_value_of an_value_of cd_value_of ct_value_of) ["text"] [] := Binds.all fun us hl => match us, hl with | [_], _ => rfl
  have D_first_wrong := df_mk (st := s_first_wrong) l_first_wrong c_first_wrong k_first_wrong
  have b_first_wrong : Binds K (PySem.W.fnOf "first_wrong" "first_wrong" (defArgs s_first_wrong) (defBody s_first_wrong) (defScope s_first_wrong) .none kV_first_wrong dc_first_wrong pm_first_wrong an_first_wrong cd_first_wrong ct_first_wrong) ["text"] [] := Binds.all fun us hl => match us, hl with | [_], _ => rfl
  have D_is_text := df_mk (st := s_is_text) l_is_text c_is_text k_is_text
  have b_is_text : Binds K (PySem.W.fnOf "is_text" "is_text" (defArgs s_is_text) (defBody s_is_text) (defScope s_is_text) .none kV_is_text dc_is_text pm_is_text an_is_text cd_is_text ct_is_text) ["value"] [] := Binds.all fun us hl => match us, hl with | [_], _ => rfl
  have D_l_mixed := df_mk (st := s_l_mixed) l_l_mixed c_l_mixed k_l_mixed
  have b_l_mixed : Binds K (PySem.W.fnOf "_law_mixed" "_law_mixed" (defArgs s_l_mixed) (defBody s_l_mixed) (defScope s_l_mixed) .none kV_l_mixed dc_l_mixed pm_l_mixed an_l_mixed cd_l_mixed ct_l_mixed) ["_law_number_here", "_law_k"] [] := Binds.all fun us hl => match us, hl with | [_, _], _ => rfl
  have D_l_stream := df_mk (st := s_l_stream) l_l_stream c_l_stream k_l_stream
  have b_l_stream : Binds K (PySem.W.fnOf "_law_stream" "_law_stream" (defArgs s_l_stream) (defBody s_l_stream) (defScope s_l_stream) .none kV_l_stream dc_l_stream pm_l_stream an_l_stream cd_l_stream ct_l_stream) ["_law_item_here", "_law_k"] [] := Binds.all fun us hl => match us, hl with | [_, _], _ => rfl
  have D_l_draw := df_mk (st := s_l_draw) l_l_draw c_l_draw k_l_draw
  have b_l_draw : Binds K (PySem.W.fnOf "_law_draw" "_law_draw" (defArgs s_l_draw) (defBody s_l_draw) (defScope s_l_draw) .none kV_l_draw dc_l_draw pm_l_draw an_l_draw cd_l_draw ct_l_draw) ["_law_stream_here", "_law_top"] [] := Binds.all fun us hl => match us, hl with | [_, _], _ => rfl
  have D_l_pick := df_mk (st := s_l_pick) l_l_pick c_l_pick k_l_pick
  have b_l_pick : Binds K (PySem.W.fnOf "_law_pick" "_law_pick" (defArgs s_l_pick) (defBody s_l_pick) (defScope s_l_pick) .none kV_l_pick dc_l_pick pm_l_pick an_l_pick cd_l_pick ct_l_pick) ["_law_stream_here", "_law_some"] [] := Binds.all fun us hl => match us, hl with | [_, _], _ => rfl
  have D_l_word := df_mk (st := s_l_word) l_l_word c_l_word k_l_word
  have b_l_word : Binds K (PySem.W.fnOf "_law_word" "_law_word" (defArgs s_l_word) (defBody s_l_word) (defScope s_l_word) .none kV_l_word dc_l_word pm_l_word an_l_word cd_l_word ct_l_word) ["_law_stream_here"] [] := Binds.all fun us hl => match us, hl with | [_], _ => rfl
  have D_l_plain := df_mk (st := s_l_plain) l_l_plain c_l_plain k_l_plain
  have b_l_plain : Binds K (PySem.W.fnOf "_law_plain" "_law_plain" (defArgs s_l_plain) (defBody s_l_plain) (defScope s_l_plain) .none kV_l_plain dc_l_plain pm_l_plain an_l_plain cd_l_plain ct_l_plain) ["_law_stream_here"] [] := Binds.all fun us hl => match us, hl with | [_], _ => rfl
  have D_l_value := df_mk (st := s_l_value) l_l_value c_l_value k_l_value
  have b_l_value : Binds K (PySem.W.fnOf "_law_value" "_law_value" (defArgs s_l_value) (defBody s_l_value) (defScope s_l_value) .none kV_l_value dc_l_value pm_l_value an_l_value cd_l_value ct_l_value) ["_law_stream_here", "_law_deep"] [] := Binds.all fun us hl => match us, hl with | [_, _], _ => rfl
  have D_l_count := df_mk (st := s_l_count) l_l_count c_l_count k_l_count
  have b_l_count : Binds K (PySem.W.fnOf "_law_count" "_law_count" (defArgs s_l_count) (defBody s_l_count) (defScope s_l_count) .none kV_l_count dc_l_count pm_l_count an_l_count cd_l_count ct_l_count) ["_law_text", "_law_at"] [] := Binds.all fun us hl => match us, hl with | [_, _], _ => rfl
  have D_l_number := df_mk (st := s_l_number) l_l_number c_l_number k_l_number
  have b_l_number : Binds K (PySem.W.fnOf "_law_number" "_law_number" (defArgs s_l_number) (defBody s_l_number) (defScope s_l_number) .none kV_l_number dc_l_number pm_l_number an_l_number cd_l_number ct_l_number) ["_law_text", "_law_at"] [] := Binds.all fun us hl => match us, hl with | [_, _], _ => rfl
  have D_l_item := df_mk (st := s_l_item) l_l_item c_l_item k_l_item
  have b_l_item : Binds K (PySem.W.fnOf "_law_item" "_law_item" (defArgs s_l_item) (defBody s_l_item) (defScope s_l_item) .none kV_l_item dc_l_item pm_l_item an_l_item cd_l_item ct_l_item) ["_law_text", "_law_at", "_law_frames", "_law_wants_key"] [] := Binds.all fun us hl => match us, hl with | [_, _, _, _], _ => rfl
  have D_l_scan := df_mk (st := s_l_scan) l_l_scan c_l_scan k_l_scan
  have b_l_scan : Binds K (PySem.W.fnOf "_law_scan" "_law_scan" (defArgs s_l_scan) (defBody s_l_scan) (defScope s_l_scan) .none kV_l_scan dc_l_scan pm_l_scan an_l_scan cd_l_scan ct_l_scan) ["_law_text", "_law_is_row"] [] := Binds.all fun us hl => match us, hl with | [_, _], _ => rfl
  have D_l_bent := df_mk (st := s_l_bent) l_l_bent c_l_bent k_l_bent
  have b_l_bent : Binds K (PySem.W.fnOf "_law_bent" "_law_bent" (defArgs s_l_bent) (defBody s_l_bent) (defScope s_l_bent) .none kV_l_bent dc_l_bent pm_l_bent an_l_bent cd_l_bent ct_l_bent) ["_law_stream_here", "_law_text"] [] := Binds.all fun us hl => match us, hl with | [_, _], _ => rfl
  have D_l_told := df_mk (st := s_l_told) l_l_told c_l_told k_l_told
  have b_l_told : Binds K (PySem.W.fnOf "_law_told" "_law_told" (defArgs s_l_told) (defBody s_l_told) (defScope s_l_told) .none kV_l_told dc_l_told pm_l_told an_l_told cd_l_told ct_l_told) ["_law_call"] [] := Binds.all fun us hl => match us, hl with | [_], _ => rfl
  have D_l_right := dfc_mk (st := s_l_right) l_l_right c_l_right k_l_right
  obtain ⟨d_l_right, hd_l_right⟩ := Option.isSome_iff_exists.mp rs_l_right
  have tf_l_right := TF _ _ _ _ hd_l_right ti_l_right
  have b_l_right : Binds K (PySem.W.fnOf "_law_right" "_law_right" (defArgs s_l_right) (defBody s_l_right) (defScope s_l_right) .none kV_l_right dc_l_right pm_l_right an_l_right (.ref c_o_l_right) ct_l_right) ["_law_text"] [] := Binds.all fun us hl => match us, hl with | [_], _ => rfl
  have D_l_tower_right := df_mk (st := s_l_tower_right) l_l_tower_right c_l_tower_right k_l_tower_right
  have b_l_tower_right : Binds K (PySem.W.fnOf "_law_tower_right" "_law_tower_right" (defArgs s_l_tower_right) (defBody s_l_tower_right) (defScope s_l_tower_right) .none kV_l_tower_right dc_l_tower_right pm_l_tower_right an_l_tower_right cd_l_tower_right ct_l_tower_right) ["_law_many", "_law_signs"] [] := Binds.all fun us hl => match us, hl with | [_, _], _ => rfl
  have D_law := dfc_mk (st := s_law) l_law c_law k_law
  obtain ⟨d_law, hd_law⟩ := Option.isSome_iff_exists.mp rs_law
  have tf_law := TF _ _ _ _ hd_law ti_law
  have b_law : Binds K (PySem.W.fnOf "law" "law" (defArgs s_law) (defBody s_law) (defScope s_law) .none kV_law dc_law pm_law an_law (.ref c_o_law) ct_law) ["_law_script"] [] := Binds.all fun us hl => match us, hl with | [_], _ => rfl
  have D_TextReader__init := df_mk (st := s_TextReader__init) l_TextReader__init c_TextReader__init k_TextReader__init
  have b_TextReader__init : Binds K (PySem.W.fnOf "__init__" "TextReader.__init__" (defArgs s_TextReader__init) (defBody s_TextReader__init) (defScope s_TextReader__init) .none kV_TextReader__init dc_TextReader__init pm_TextReader__init an_TextReader__init cd_TextReader__init ct_TextReader__init) ["self", "text"] [] := Binds.all fun us hl => match us, hl with | [_, _], _ => rfl
  have D_TextReader_sign := df_mk (st := s_TextReader_sign) l_TextReader_sign c_TextReader_sign k_TextReader_sign
  have b_TextReader_sign : Binds K (PySem.W.fnOf "sign" "TextReader.sign" (defArgs s_TextReader_sign) (defBody s_TextReader_sign) (defScope s_TextReader_sign) .none kV_TextReader_sign dc_TextReader_sign pm_TextReader_sign an_TextReader_sign cd_TextReader_sign ct_TextReader_sign) ["self"] [] := Binds.all fun us hl => match us, hl with | [_], _ => rfl
  have D_TextReader_refuse := df_mk (st := s_TextReader_refuse) l_TextReader_refuse c_TextReader_refuse k_TextReader_refuse
  have b_TextReader_refuse : Binds K (PySem.W.fnOf "refuse" "TextReader.refuse" (defArgs s_TextReader_refuse) (defBody s_TextReader_refuse) (defScope s_TextReader_refuse) .none kV_TextReader_refuse dc_TextReader_refuse pm_TextReader_refuse an_TextReader_refuse cd_TextReader_refuse ct_TextReader_refuse) ["self", "index"] [] := Binds.all fun us hl => match us, hl with | [_, _], _ => rfl
  have D_TextReader_read_digits := df_mk (st := s_TextReader_read_digits) l_TextReader_read_digits c_TextReader_read_digits k_TextReader_read_digits
  have b_TextReader_read_digits : Binds K (PySem.W.fnOf "read_digits" "TextReader.read_digits" (defArgs s_TextReader_read_digits) (defBody s_TextReader_read_digits) (defScope s_TextReader_read_digits) .none kV_TextReader_read_digits dc_TextReader_read_digits pm_TextReader_read_digits an_TextReader_read_digits cd_TextReader_read_digits ct_TextReader_read_digits) ["self", "closing", "most"] [] := Binds.all fun us hl => match us, hl with | [_, _, _], _ => rfl
  have D_TextReader_read_count := df_mk (st := s_TextReader_read_count) l_TextReader_read_count c_TextReader_read_count k_TextReader_read_count
  have b_TextReader_read_count : Binds K (PySem.W.fnOf "read_count" "TextReader.read_count" (defArgs s_TextReader_read_count) (defBody s_TextReader_read_count) (defScope s_TextReader_read_count) .none kV_TextReader_read_count dc_TextReader_read_count pm_TextReader_read_count an_TextReader_read_count cd_TextReader_read_count ct_TextReader_read_count) ["self"] [] := Binds.all fun us hl => match us, hl with | [_], _ => rfl
  have D_TextReader_read_integer := df_mk (st := s_TextReader_read_integer) l_TextReader_read_integer c_TextReader_read_integer k_TextReader_read_integer
  have b_TextReader_read_integer : Binds K (PySem.W.fnOf "read_integer" "TextReader.read_integer" (defArgs s_TextReader_read_integer) (defBody s_TextReader_read_integer) (defScope s_TextReader_read_integer) .none kV_TextReader_read_integer dc_TextReader_read_integer pm_TextReader_read_integer an_TextReader_read_integer cd_TextReader_read_integer ct_TextReader_read_integer) ["self"] [] := Binds.all fun us hl => match us, hl with | [_], _ => rfl
  have D_TextReader_read_string := df_mk (st := s_TextReader_read_string) l_TextReader_read_string c_TextReader_read_string k_TextReader_read_string
  have b_TextReader_read_string : Binds K (PySem.W.fnOf "read_string" "TextReader.read_string" (defArgs s_TextReader_read_string) (defBody s_TextReader_read_string) (defScope s_TextReader_read_string) .none kV_TextReader_read_string dc_TextReader_read_string pm_TextReader_read_string an_TextReader_read_string cd_TextReader_read_string ct_TextReader_read_string) ["self"] [] := Binds.all fun us hl => match us, hl with | [_], _ => rfl
  have D_TextReader_read_pairs := df_mk (st := s_TextReader_read_pairs) l_TextReader_read_pairs c_TextReader_read_pairs k_TextReader_read_pairs
  have b_TextReader_read_pairs : Binds K (PySem.W.fnOf "read_pairs" "TextReader.read_pairs" (defArgs s_TextReader_read_pairs) (defBody s_TextReader_read_pairs) (defScope s_TextReader_read_pairs) .none kV_TextReader_read_pairs dc_TextReader_read_pairs pm_TextReader_read_pairs an_TextReader_read_pairs cd_TextReader_read_pairs ct_TextReader_read_pairs) ["self", "depth"] [] := Binds.all fun us hl => match us, hl with | [_, _], _ => rfl
  have D_TextReader_read_items := df_mk (st := s_TextReader_read_items) l_TextReader_read_items c_TextReader_read_items k_TextReader_read_items
  have b_TextReader_read_items : Binds K (PySem.W.fnOf "read_items" "TextReader.read_items" (defArgs s_TextReader_read_items) (defBody s_TextReader_read_items) (defScope s_TextReader_read_items) .none kV_TextReader_read_items dc_TextReader_read_items pm_TextReader_read_items an_TextReader_read_items cd_TextReader_read_items ct_TextReader_read_items) ["self", "depth"] [] := Binds.all fun us hl => match us, hl with | [_, _], _ => rfl
  have D_TextReader_read_part := df_mk (st := s_TextReader_read_part) l_TextReader_read_part c_TextReader_read_part k_TextReader_read_part
  have b_TextReader_read_part : Binds K (PySem.W.fnOf "read_part" "TextReader.read_part" (defArgs s_TextReader_read_part) (defBody s_TextReader_read_part) (defScope s_TextReader_read_part) .none kV_TextReader_read_part dc_TextReader_read_part pm_TextReader_read_part an_TextReader_read_part cd_TextReader_read_part ct_TextReader_read_part) ["self", "depth"] [] := Binds.all fun us hl => match us, hl with | [_, _], _ => rfl
  have D_TextReader_is_done := df_mk (st := s_TextReader_is_done) l_TextReader_is_done c_TextReader_is_done k_TextReader_is_done
  have b_TextReader_is_done : Binds K (PySem.W.fnOf "is_done" "TextReader.is_done" (defArgs s_TextReader_is_done) (defBody s_TextReader_is_done) (defScope s_TextReader_is_done) .none kV_TextReader_is_done dc_TextReader_is_done pm_TextReader_is_done an_TextReader_is_done cd_TextReader_is_done ct_TextReader_is_done) ["self"] [] := Binds.all fun us hl => match us, hl with | [_], _ => rfl
  refine ⟨PySem.W.fnOf "law" "law" (defArgs s_law) (defBody s_law) (defScope s_law) .none kV_law dc_law pm_law an_law (.ref c_o_law) ct_law, [(c_o_l_right, P_l_right), (c_o_law, P_law)], (sp_law K [(P_l_right, ("_law_right" ++ ".<locals>.") ++ "<lambda>"), (P_law, ("law" ++ ".<locals>.") ++ "<lambda>")]), (List.forall_mem_cons.mpr ⟨tf_l_right.2, (List.forall_mem_cons.mpr ⟨tf_law.2, (fun _ h => nomatch h)⟩)⟩), (List.forall_mem_cons.mpr ⟨tn_l_right, (List.forall_mem_cons.mpr ⟨tn_law, (fun _ h => nomatch h)⟩)⟩), (List.forall_mem_cons.mpr ⟨tf_l_right.1, (List.forall_mem_cons.mpr ⟨tf_law.1, (fun _ h => nomatch h)⟩)⟩), fun s v => .of_eq rfl, fun H a ns hl hc hS => ⟨_, rfl, a, ns, rfl, hS, by omega, (tabs0 (List.forall_mem_cons.mpr ⟨(hc (c_o_l_right, P_l_right) (by simp)), (List.forall_mem_cons.mpr ⟨(hc (c_o_law, P_law) (by simp)), (fun _ h => nomatch h)⟩)⟩)), fun _ => rfl⟩, fun base KB GB SM TBs => ?_⟩
  have TB_l_right : TabB base mg c_o_l_right P_l_right := TBs (c_o_l_right, P_l_right) (by simp)
  have L_l_right : LamT ⟨l.prog, w, K, mg, base⟩ [(P_l_right, ("_law_right" ++ ".<locals>.") ++ "<lambda>"), (P_law, ("law" ++ ".<locals>.") ++ "<lambda>")] c_o_l_right P_l_right "_law_right" := ⟨TB_l_right, by simp, (List.forall_mem_cons.mpr ⟨fun _ => rfl, (List.forall_mem_cons.mpr ⟨fun z => absurd z ne_l_right_law.symm, (fun _ h => nomatch h)⟩)⟩)⟩
  have TB_law : TabB base mg c_o_law P_law := TBs (c_o_law, P_law) (by simp)
  have L_law : LamT ⟨l.prog, w, K, mg, base⟩ [(P_l_right, ("_law_right" ++ ".<locals>.") ++ "<lambda>"), (P_law, ("law" ++ ".<locals>.") ++ "<lambda>")] c_o_law P_law "law" := ⟨TB_law, by simp, (List.forall_mem_cons.mpr ⟨fun z => absurd z ne_l_right_law, (List.forall_mem_cons.mpr ⟨fun _ => rfl, (fun _ h => nomatch h)⟩)⟩)⟩
  have T : Txt ⟨l.prog, w, K, mg, base⟩ := { b_len := PySem.W.mg_none_of X G b_len, b_isinstance := PySem.W.mg_none_of X G b_isinstance, b_repr := PySem.W.mg_none_of X G b_repr, b_enumerate := PySem.W.mg_none_of X G b_enumerate, b_range := PySem.W.mg_none_of X G b_range, b_list := PySem.W.mg_none_of X G b_list, b_tuple := PySem.W.mg_none_of X G b_tuple, b_dict := PySem.W.mg_none_of X G b_dict, b_bool := PySem.W.mg_none_of X G b_bool, b_int := PySem.W.mg_none_of X G b_int, b_str := PySem.W.mg_none_of X G b_str, b_abs := PySem.W.mg_none_of X G b_abs, b_all := PySem.W.mg_none_of X G b_all, nd := nd, c_MOST_DIGITS := ⟨_, PySem.W.mg_of X G v_MOST_DIGITS, _, rfl⟩, c_MOST_ITEMS := ⟨_, PySem.W.mg_of X G v_MOST_ITEMS, _, rfl⟩, c_MOST_LEVELS := ⟨_, PySem.W.mg_of X G v_MOST_LEVELS, _, rfl⟩ }
  have T2 : Txt2 ⟨l.prog, w, K, mg, base⟩ := { toTxt := T, c_DIGITS := ⟨_, PySem.W.mg_of X G v_DIGITS, _, rfl⟩ }
  have T5 : Txt5 ⟨l.prog, w, K, mg, base⟩ := { toTxt2 := T2, b_max := PySem.W.mg_none_of X G b_max }
  have X_InvalidText : XK1 ⟨l.prog, w, K, mg, base⟩ "InvalidText" C_InvalidText "position" := ⟨PySem.W.mg_of X G aC_InvalidText, PySem.W.mg_none_of X G b_super, xb_InvalidText.kp, xb_InvalidText.hd, xb_InvalidText.sa, nf_InvalidText, _, _, _, _, _, _, _, _, _, _, xc_mk PySem.F.excBase_ValueError PySem.W.kxs_ValueError PySem.F.store_ValueError xa xb_InvalidText in_InvalidText l_InvalidText co_InvalidText fi_InvalidText fe_InvalidText ce_InvalidText, xst_InvalidText⟩
  have RI : PySem.W.subIn K (.ref C_InvalidText) (.type "BaseException") = some true ∧ PySem.W.typeIn K (.ref C_InvalidText) = some (.type "type") := ⟨xb_InvalidText.hs, tyX⟩
  have CL : Cls K C_TextReader := ⟨pg_TextReader, hd_TextReader, po_TextReader, sa_TextReader⟩
  have RR : RF ⟨l.prog, w, K, mg, base⟩ C_TextReader := ⟨CL, na_TextReader_own_text, na_TextReader_at⟩
  have V_InvalidText : Gv ⟨l.prog, w, K, mg, base⟩ "InvalidText" (.ref C_InvalidText) := ⟨_, PySem.W.mg_of X G aC_InvalidText, rfl⟩
  have V_InvalidValue : Gv ⟨l.prog, w, K, mg, base⟩ "InvalidValue" (.ref C_InvalidValue) := ⟨_, PySem.W.mg_of X G aC_InvalidValue, rfl⟩
  have V_InvalidPath : Gv ⟨l.prog, w, K, mg, base⟩ "InvalidPath" (.ref C_InvalidPath) := ⟨_, PySem.W.mg_of X G aC_InvalidPath, rfl⟩
  have F_items_of : Kn ⟨l.prog, w, K, mg, base⟩ "items_of" 1 ["value"] [] sp_items := ⟨_, _, [], PySem.W.mg_of X G a_items_of, k_items_of, ok_items D_items_of T, b_items_of, .nil⟩
  have F_is_wrong_part : Kn ⟨l.prog, w, K, mg, base⟩ "is_wrong_part" 1 ["value", "depth"] [] sp_wrong := ⟨_, _, [], PySem.W.mg_of X G a_is_wrong_part, k_is_wrong_part, ok_wrong D_is_wrong_part T, b_is_wrong_part, .nil⟩
  have R_wrong_path : ∀ n, Kn ⟨l.prog, w, K, mg, base⟩ "wrong_path" (n + 1) ["value", "path"] [] (sp_path n) := kn_rec (g := ⟨l.prog, w, K, mg, base⟩) (PySem.W.mg_of X G a_wrong_path) k_wrong_path b_wrong_path (fun vs H Q E z => by obtain ⟨v, u, _, d, fp, a, ps, _, _, _, _, _, h, _⟩ := z; exact absurd h (Nat.not_lt_zero _)) fun n F => ok_path n D_wrong_path T F_is_wrong_part F_items_of F
  have F_wrong_path : Kn ⟨l.prog, w, K, mg, base⟩ "wrong_path" 22 ["value", "path"] [] (sp_path 21) := R_wrong_path 21
  have F_check_value : Kn ⟨l.prog, w, K, mg, base⟩ "check_value" 23 ["value"] [] sp_check := ⟨_, _, [], PySem.W.mg_of X G a_check_value, k_check_value, ok_check D_check_value T F_wrong_path, b_check_value, .nil⟩
  have R_spelled : ∀ n, Kn ⟨l.prog, w, K, mg, base⟩ "spelled" (n + 1) ["value"] [] (sp_spell n) := kn_rec (g := ⟨l.prog, w, K, mg, base⟩) (PySem.W.mg_of X G a_spelled) k_spelled b_spelled (fun vs H Q E z => by obtain ⟨v, _, d, fp, _, _, h, _⟩ := z; exact absurd h (Nat.not_lt_zero _)) fun n F => ok_spell n D_spelled T F
  have F_spelled : Kn ⟨l.prog, w, K, mg, base⟩ "spelled" 22 ["value"] [] (sp_spell 21) := R_spelled 21
  have F_text_of : Kn ⟨l.prog, w, K, mg, base⟩ "text_of" 24 ["value"] [] sp_text := ⟨_, _, [], PySem.W.mg_of X G a_text_of, k_text_of, ok_text D_text_of T F_check_value F_spelled, b_text_of, .nil⟩
  have M_sign : Km ⟨l.prog, w, K, mg, base⟩ C_TextReader "sign" 1 ["self"] [] (sp_sign C_TextReader) := ⟨_, _, [], a_TextReader_sign, i_TextReader_sign, k_TextReader_sign, ok_sign D_TextReader_sign T2 RR, b_TextReader_sign, .nil⟩
  have M_refuse : Km ⟨l.prog, w, K, mg, base⟩ C_TextReader "refuse" 3 ["self", "index"] [] (sp_refuse C_InvalidText) := ⟨_, _, [], a_TextReader_refuse, i_TextReader_refuse, k_TextReader_refuse, ok_refuse D_TextReader_refuse T2 X_InvalidText RI, b_TextReader_refuse, .nil⟩
  have M_read_count : Km ⟨l.prog, w, K, mg, base⟩ C_TextReader "read_count" 4 ["self"] [] (sp_count C_TextReader C_InvalidText) := ⟨_, _, [], a_TextReader_read_count, i_TextReader_read_count, k_TextReader_read_count, ok_count D_TextReader_read_count T2 RR CL M_sign M_refuse, b_TextReader_read_count, .nil⟩
  have M_read_digits : Km ⟨l.prog, w, K, mg, base⟩ C_TextReader "read_digits" 4 ["self", "closing", "most"] [] (sp_digits C_TextReader C_InvalidText) := ⟨_, _, [], a_TextReader_read_digits, i_TextReader_read_digits, k_TextReader_read_digits, ok_digits D_TextReader_read_digits T2 RR CL M_sign M_refuse, b_TextReader_read_digits, .nil⟩
  have M_read_integer : Km ⟨l.prog, w, K, mg, base⟩ C_TextReader "read_integer" 5 ["self"] [] (sp_integer C_TextReader C_InvalidText) := ⟨_, _, [], a_TextReader_read_integer, i_TextReader_read_integer, k_TextReader_read_integer, ok_integer D_TextReader_read_integer T2 RR CL M_sign M_refuse M_read_digits, b_TextReader_read_integer, .nil⟩
  have M_read_string : Km ⟨l.prog, w, K, mg, base⟩ C_TextReader "read_string" 5 ["self"] [] (sp_string C_TextReader C_InvalidText) := ⟨_, _, [], a_TextReader_read_string, i_TextReader_read_string, k_TextReader_read_string, ok_string D_TextReader_read_string T2 RR CL M_refuse M_read_count, b_TextReader_read_string, .nil⟩
  have RP : ∀ n, Km ⟨l.prog, w, K, mg, base⟩ C_TextReader "read_part" (2 * n + 6) ["self", "depth"] [] (sp_part C_TextReader C_InvalidText n) := by
    intro n
    induction n with
    | zero => exact ⟨_, _, [], a_TextReader_read_part, i_TextReader_read_part, k_TextReader_read_part, ok_part 0 D_TextReader_read_part T2 RR CL M_sign M_refuse M_read_integer M_read_string ⟨_, _, [], a_TextReader_read_items, i_TextReader_read_items, k_TextReader_read_items, fnG_void (fun _ _ _ _ z => z), b_TextReader_read_items, .nil⟩ ⟨_, _, [], a_TextReader_read_pairs, i_TextReader_read_pairs, k_TextReader_read_pairs, fnG_void (fun _ _ _ _ z => z), b_TextReader_read_pairs, .nil⟩, b_TextReader_read_part, .nil⟩
    | succ n ih => exact ⟨_, _, [], a_TextReader_read_part, i_TextReader_read_part, k_TextReader_read_part, ok_part (n + 1) D_TextReader_read_part T2 RR CL M_sign M_refuse M_read_integer M_read_string ⟨_, _, [], a_TextReader_read_items, i_TextReader_read_items, k_TextReader_read_items, ok_its n (rp_len n) D_TextReader_read_items T2 RR CL M_read_count ih, b_TextReader_read_items, .nil⟩ ⟨_, _, [], a_TextReader_read_pairs, i_TextReader_read_pairs, k_TextReader_read_pairs, ok_prs n (rp_len n) D_TextReader_read_pairs T2 RR CL M_sign M_refuse M_read_string M_read_count ih, b_TextReader_read_pairs, .nil⟩, b_TextReader_read_part, .nil⟩
  have M_read_part := RP 20
  have M_is_done : Km ⟨l.prog, w, K, mg, base⟩ C_TextReader "is_done" 1 ["self"] [] (sp_done C_TextReader) := ⟨_, _, [], a_TextReader_is_done, i_TextReader_is_done, k_TextReader_is_done, ok_done D_TextReader_is_done T2 RR, b_TextReader_is_done, .nil⟩
  have F_TextReader : Kc ⟨l.prog, w, K, mg, base⟩ "TextReader" C_TextReader 1 ["self", "text"] [] (sp_rinit C_TextReader) := ⟨PySem.W.mg_of X G aC_TextReader, _, _, [], ⟨mk_TextReader, a_TextReader__init, i_TextReader__init, kc_TextReader⟩, ok_rinit D_TextReader__init T2 RR, b_TextReader__init, .nil⟩
  have F_check_string : Kn ⟨l.prog, w, K, mg, base⟩ "check_string" 1 ["text"] [] sp_cstr := ⟨_, _, [], PySem.W.mg_of X G a_check_string, k_check_string, ok_cstr D_check_string T2, b_check_string, .nil⟩
  have F_csO : Kn ⟨l.prog, w, K, mg, base⟩ "check_string" 3 ["text"] [] (sp_cstrO C_InvalidText) := ⟨_, _, [], PySem.W.mg_of X G a_check_string, k_check_string, ok_cstrO D_check_string T2 X_InvalidText RI, b_check_string, .nil⟩
  have OVO := ok_vof (g := ⟨l.prog, w, K, mg, base⟩) D_value_of T2 RR CL F_check_string F_TextReader M_read_part M_is_done M_refuse
  have F_value_of : Kn ⟨l.prog, w, K, mg, base⟩ "value_of" 47 ["text"] [] (sp_vof C_InvalidText) := ⟨_, _, [], PySem.W.mg_of X G a_value_of, k_value_of, OVO, b_value_of, .nil⟩
  have OFW := ok_fw (g := ⟨l.prog, w, K, mg, base⟩) D_first_wrong T2 F_check_string F_value_of (PySem.W.mg_of X G aC_InvalidText) hex xb_InvalidText.xf nf_InvalidText
  have F_first_wrong : Kn ⟨l.prog, w, K, mg, base⟩ "first_wrong" 48 ["text"] [] sp_fw := ⟨_, _, [], PySem.W.mg_of X G a_first_wrong, k_first_wrong, OFW, b_first_wrong, .nil⟩
  have OIT := ok_ist (g := ⟨l.prog, w, K, mg, base⟩) D_is_text T2 F_first_wrong
  have F_is_text : Kn ⟨l.prog, w, K, mg, base⟩ "is_text" 49 ["value"] [] sp_ist := ⟨_, _, [], PySem.W.mg_of X G a_is_text, k_is_text, OIT, b_is_text, .nil⟩
  have OVX := ok_vofO (g := ⟨l.prog, w, K, mg, base⟩) D_value_of T2 RR CL F_csO F_TextReader M_read_part M_is_done M_refuse
  have OFX := ok_fwO (g := ⟨l.prog, w, K, mg, base⟩) D_first_wrong T2 F_csO F_value_of (PySem.W.mg_of X G aC_InvalidText) hex xb_InvalidText.xf nf_InvalidText
  have OIX := ok_istO (g := ⟨l.prog, w, K, mg, base⟩) D_is_text T2 F_first_wrong
  have F_vB : Kn ⟨l.prog, w, K, mg, base⟩ "value_of" 47 ["text"] [] (SpOr (sp_vof C_InvalidText) (sp_vofO C_InvalidText)) := ⟨_, _, [], PySem.W.mg_of X G a_value_of, k_value_of, OVO.or OVX, b_value_of, .nil⟩
  have F_wB : Kn ⟨l.prog, w, K, mg, base⟩ "first_wrong" 48 ["text"] [] (SpOr sp_fw (sp_vofO C_InvalidText)) := ⟨_, _, [], PySem.W.mg_of X G a_first_wrong, k_first_wrong, OFW.or OFX, b_first_wrong, .nil⟩
  have F_iB : Kn ⟨l.prog, w, K, mg, base⟩ "is_text" 49 ["value"] [] (SpOr sp_ist sp_istO) := ⟨_, _, [], PySem.W.mg_of X G a_is_text, k_is_text, OIT.or OIX, b_is_text, .nil⟩
  have F_l_mixed : Kn ⟨l.prog, w, K, mg, base⟩ "_law_mixed" 1 ["_law_number_here", "_law_k"] [] sp_mixed := ⟨_, _, [], PySem.W.mg_of X G a_l_mixed, k_l_mixed, ok_mixed D_l_mixed T, b_l_mixed, .nil⟩
  have F_l_stream : Kn ⟨l.prog, w, K, mg, base⟩ "_law_stream" 2 ["_law_item_here", "_law_k"] [] sp_stream := ⟨_, _, [], PySem.W.mg_of X G a_l_stream, k_l_stream, ok_stream D_l_stream T F_l_mixed, b_l_stream, .nil⟩
  have F_l_draw : Kn ⟨l.prog, w, K, mg, base⟩ "_law_draw" 2 ["_law_stream_here", "_law_top"] [] sp_draw := ⟨_, _, [], PySem.W.mg_of X G a_l_draw, k_l_draw, ok_draw D_l_draw T F_l_mixed, b_l_draw, .nil⟩
  have F_l_pick : Kn ⟨l.prog, w, K, mg, base⟩ "_law_pick" 3 ["_law_stream_here", "_law_some"] [] sp_pick := ⟨_, _, [], PySem.W.mg_of X G a_l_pick, k_l_pick, ok_pick D_l_pick T F_l_draw, b_l_pick, .nil⟩
  have F_l_word : Kn ⟨l.prog, w, K, mg, base⟩ "_law_word" 4 ["_law_stream_here"] [] sp_word := ⟨_, _, [], PySem.W.mg_of X G a_l_word, k_l_word, ok_word D_l_word T F_l_pick, b_l_word, .nil⟩
  have F_l_plain : Kn ⟨l.prog, w, K, mg, base⟩ "_law_plain" 5 ["_law_stream_here"] [] sp_plain := ⟨_, _, [], PySem.W.mg_of X G a_l_plain, k_l_plain, ok_plain D_l_plain T F_l_pick F_l_draw F_l_word, b_l_plain, .nil⟩
  have R_l_value : ∀ n, Kn ⟨l.prog, w, K, mg, base⟩ "_law_value" (n + 5) ["_law_stream_here", "_law_deep"] [] (sp_value n) := kn_rec (g := ⟨l.prog, w, K, mg, base⟩) (PySem.W.mg_of X G a_l_value) k_l_value b_l_value (fun vs H Q E z => by obtain ⟨v, u, _, p, N, k, _, _, h, _⟩ := z; exact absurd h (Nat.not_lt_zero _)) fun n F => ok_value n D_l_value T F_l_draw F_l_plain F
  have F_l_value : Kn ⟨l.prog, w, K, mg, base⟩ "_law_value" 9 ["_law_stream_here", "_law_deep"] [] (sp_value 4) := R_l_value 4
  have F_val : Kn ⟨l.prog, w, K, mg, base⟩ "_law_value" 10 ["_law_stream_here", "_law_deep"] [] (sp_value 4) := ⟨_, _, [], PySem.W.mg_of X G a_l_value, k_l_value, (show FnG _ 10 _ _ _ _ from (ok_value 3 D_l_value T F_l_draw F_l_plain (R_l_value 3)).mono (by decide)), b_l_value, .nil⟩
  have F_l_count : Kn ⟨l.prog, w, K, mg, base⟩ "_law_count" 1 ["_law_text", "_law_at"] [] sp_lcount := ⟨_, _, [], PySem.W.mg_of X G a_l_count, k_l_count, ok_lcount D_l_count T2, b_l_count, .nil⟩
  have F_l_number : Kn ⟨l.prog, w, K, mg, base⟩ "_law_number" 1 ["_law_text", "_law_at"] [] sp_lnum := ⟨_, _, [], PySem.W.mg_of X G a_l_number, k_l_number, ok_lnum D_l_number T2, b_l_number, .nil⟩
  have F_l_item : Kn ⟨l.prog, w, K, mg, base⟩ "_law_item" 2 ["_law_text", "_law_at", "_law_frames", "_law_wants_key"] [] sp_item := ⟨_, _, [], PySem.W.mg_of X G a_l_item, k_l_item, ok_item D_l_item T2 F_l_number F_l_count, b_l_item, .nil⟩
  have F_l_scan : Kn ⟨l.prog, w, K, mg, base⟩ "_law_scan" 3 ["_law_text", "_law_is_row"] [] sp_scan := ⟨_, _, [], PySem.W.mg_of X G a_l_scan, k_l_scan, ok_scan D_l_scan T2 F_l_item, b_l_scan, .nil⟩
  have F_l_bent : Kn ⟨l.prog, w, K, mg, base⟩ "_law_bent" 4 ["_law_stream_here", "_law_text"] [] sp_bent := ⟨_, _, [], PySem.W.mg_of X G a_l_bent, k_l_bent, ok_bent D_l_bent T5 F_l_draw F_l_pick, b_l_bent, .nil⟩
  have TOLD : Told ⟨l.prog, w, K, mg, base⟩ 60 "_law_told" (TT5 C_InvalidText) := ok_told (g := ⟨l.prog, w, K, mg, base⟩) D_l_told T (PySem.W.mg_of X G a_l_told) b_l_told (PySem.W.mg_of X G aC_ShelfError) (PySem.W.mg_of X G aC_ShelfStateError) (PySem.W.mg_of X G aC_LimitError) V_InvalidText V_InvalidValue V_InvalidPath (xb_InvalidText.exc xa) kV kT ⟨xb_InvalidText.xf, nf_InvalidText⟩ exA
  have F_l_right : Kn ⟨l.prog, w, K, mg, base⟩ "_law_right" 64 ["_law_text"] [] (sp_right [(P_l_right, ("_law_right" ++ ".<locals>.") ++ "<lambda>"), (P_law, ("law" ++ ".<locals>.") ++ "<lambda>")]) := ⟨_, _, [], PySem.W.mg_of X G a_l_right, k_l_right, ok_right (TS := [(P_l_right, ("_law_right" ++ ".<locals>.") ++ "<lambda>"), (P_law, ("law" ++ ".<locals>.") ++ "<lambda>")]) D_l_right T5 SM TOLD L_l_right F_l_scan F_first_wrong F_is_text F_value_of F_text_of, b_l_right, .nil⟩
  have F_l_tower_right : Kn ⟨l.prog, w, K, mg, base⟩ "_law_tower_right" 66 ["_law_many", "_law_signs"] [] (sp_tower [(P_l_right, ("_law_right" ++ ".<locals>.") ++ "<lambda>"), (P_law, ("law" ++ ".<locals>.") ++ "<lambda>")]) := ⟨_, _, [], PySem.W.mg_of X G a_l_tower_right, k_l_tower_right, ok_tower (TS := [(P_l_right, ("_law_right" ++ ".<locals>.") ++ "<lambda>"), (P_law, ("law" ++ ".<locals>.") ++ "<lambda>")]) D_l_tower_right T5 SM F_first_wrong F_l_right, b_l_tower_right, .nil⟩
  exact ok_law (TS := [(P_l_right, ("_law_right" ++ ".<locals>.") ++ "<lambda>"), (P_law, ("law" ++ ".<locals>.") ++ "<lambda>")]) D_law T5 SM TOLD L_law F_l_right F_l_tower_right F_l_bent F_l_stream F_l_draw F_l_pick F_val F_text_of F_wB F_iB F_vB


end K05
open PySem PySem.W PyProof.Rows
local macro_rules | `(tactic| o_head ($f:ident $k $a $e $t)) => `(tactic| o_head (RS.smHook ($f $k $a $e $t)))
set_option maxRecDepth 100000 in
set_option maxHeartbeats 0 in
theorem PySem.Challenge.cw_recordshelf_k05_whole_wrong_texts_holds : PySem.Challenge.rw_recordshelf_k05_whole_wrong_texts.Holds := by
  w_on; o_law; k_head; (case hw => w_witness2)
  k_fill
  refine RS.walkT (l := PySem.Challenge.rw_recordshelf_k05_whole_wrong_texts) (n := 63) (k := 70) (x := "_law_script") rfl (by decide) rfl ⟨rfl, by decide, by decide⟩ (fun w h Y => PySem.W.km_in_of Y.1) (fun w h Y => Y.2) ?F
  case F =>
    intro w mg fa h Y KX G hmg TF
    refine' K05.all_mk (l := PySem.Challenge.rw_recordshelf_k05_whole_wrong_texts) KX G hmg TF ?b_super ?xa ?aC_InvalidText ?in_InvalidText ?l_InvalidText ?co_InvalidText ?fi_InvalidText ?fe_InvalidText ?ce_InvalidText ?xb_InvalidText ?nf_InvalidText ?tyX ?hex ?aC_ShelfError ?aC_ShelfStateError ?aC_LimitError ?aC_InvalidValue ?aC_InvalidPath ?kV ?kT ?exA ?aC_TextReader ?pg_TextReader ?hd_TextReader ?po_TextReader ?sa_TextReader ?kc_TextReader ?mk_TextReader ?na_TextReader_own_text ?na_TextReader_at ?a_TextReader__init ?i_TextReader__init ?l_TextReader__init ?c_TextReader__init ?k_TextReader__init ?a_TextReader_sign ?i_TextReader_sign ?l_TextReader_sign ?c_TextReader_sign ?k_TextReader_sign ?a_TextReader_refuse ?i_TextReader_refuse ?l_TextReader_refuse ?c_TextReader_refuse ?k_TextReader_refuse ?a_TextReader_read_digits ?i_TextReader_read_digits ?l_TextReader_read_digits ?c_TextReader_read_digits ?k_TextReader_read_digits ?a_TextReader_read_count ?i_TextReader_read_count ?l_TextReader_read_count ?c_TextReader_read_count ?k_TextReader_read_count ?a_TextReader_read_integer ?i_TextReader_read_integer ?l_TextReader_read_integer ?c_TextReader_read_integer ?k_TextReader_read_integer ?a_TextReader_read_string ?i_TextReader_read_string ?l_TextReader_read_string ?c_TextReader_read_string ?k_TextReader_read_string ?a_TextReader_read_pairs ?i_TextReader_read_pairs ?l_TextReader_read_pairs ?c_TextReader_read_pairs ?k_TextReader_read_pairs ?a_TextReader_read_items ?i_TextReader_read_items ?l_TextReader_read_items ?c_TextReader_read_items ?k_TextReader_read_items ?a_TextReader_read_part ?i_TextReader_read_part ?l_TextReader_read_part ?c_TextReader_read_part ?k_TextReader_read_part ?a_TextReader_is_done ?i_TextReader_is_done ?l_TextReader_is_done ?c_TextReader_is_done ?k_TextReader_is_done ?a_items_of ?l_items_of ?c_items_of ?k_items_of ?a_is_wrong_part ?l_is_wrong_part ?c_is_wrong_part ?k_is_wrong_part ?a_wrong_path ?l_wrong_path ?c_wrong_path ?k_wrong_path ?a_check_value ?l_check_value ?c_check_value ?k_check_value ?a_spelled ?l_spelled ?c_spelled ?k_spelled ?a_text_of ?l_text_of ?c_text_of ?k_text_of ?a_check_string ?l_check_string ?c_check_string ?k_check_string ?a_value_of ?l_value_of ?c_value_of ?k_value_of ?a_first_wrong ?l_first_wrong ?c_first_wrong ?k_first_wrong ?a_is_text ?l_is_text ?c_is_text ?k_is_text ?a_l_mixed ?l_l_mixed ?c_l_mixed ?k_l_mixed ?a_l_stream ?l_l_stream ?c_l_stream ?k_l_stream ?a_l_draw ?l_l_draw ?c_l_draw ?k_l_draw ?a_l_pick ?l_l_pick ?c_l_pick ?k_l_pick ?a_l_word ?l_l_word ?c_l_word ?k_l_word ?a_l_plain ?l_l_plain ?c_l_plain ?k_l_plain ?a_l_value ?l_l_value ?c_l_value ?k_l_value ?a_l_count ?l_l_count ?c_l_count ?k_l_count ?a_l_number ?l_l_number ?c_l_number ?k_l_number ?a_l_item ?l_l_item ?c_l_item ?k_l_item ?a_l_scan ?l_l_scan ?c_l_scan ?k_l_scan ?a_l_bent ?l_l_bent ?c_l_bent ?k_l_bent ?a_l_told ?l_l_told ?c_l_told ?k_l_told ?a_l_right ?l_l_right ?c_l_right ?k_l_right ?co_l_right ?ov_l_right ?ti_l_right ?tn_l_right ?rs_l_right ?a_l_tower_right ?l_l_tower_right ?c_l_tower_right ?k_l_tower_right ?a_law ?l_law ?c_law ?k_law ?co_law ?ov_law ?ti_law ?tn_law ?rs_law ?ne_l_right_law ?b_len ?b_isinstance ?b_repr ?b_enumerate ?b_range ?b_list ?b_tuple ?b_dict ?b_bool ?b_int ?b_str ?b_abs ?b_all ?b_max ?nd ?v_MOST_DIGITS ?v_MOST_ITEMS ?v_MOST_LEVELS ?v_DIGITS
    (case b_super => k_is)
    (case xa => exact ⟨by kernel_rfl, by kernel_rfl, by kernel_rfl, by kernel_rfl⟩)
    (case aC_InvalidText => k_is)
    (case in_InvalidText => k_is)
    (case l_InvalidText => k_is)
    (case co_InvalidText => k_is)
    (case fi_InvalidText => exact rfl)
    (case fe_InvalidText => kernel_rfl)
    (case ce_InvalidText => k_is)
    (case xb_InvalidText => exact ⟨by kernel_rfl, by kernel_rfl, by kernel_rfl, by kernel_rfl, by kernel_rfl, by kernel_rfl, by kernel_rfl, by kernel_rfl, by kernel_rfl, by kernel_rfl, by kernel_rfl, by kernel_rfl, by kernel_rfl, by kernel_rfl, by kernel_rfl⟩)
    (case nf_InvalidText => kernel_rfl)
    (case tyX => kernel_rfl)
    (case hex => kernel_rfl)
    (case aC_ShelfError => k_is)
    (case aC_ShelfStateError => k_is)
    (case aC_LimitError => k_is)
    (case aC_InvalidValue => k_is)
    (case aC_InvalidPath => k_is)
    (case kV => kernel_rfl)
    (case kT => kernel_rfl)
    (case exA => kernel_rfl)
    (case aC_TextReader => k_is)
    (case pg_TextReader => k_is)
    (case hd_TextReader => k_is)
    (case po_TextReader => k_is)
    (case sa_TextReader => k_is)
    (case kc_TextReader => k_is)
    (case mk_TextReader => k_is)
    (case na_TextReader_own_text => k_is)
    (case na_TextReader_at => k_is)
    (case a_TextReader__init => k_is)
    (case i_TextReader__init => k_is)
    (case l_TextReader__init => k_is)
    (case c_TextReader__init => k_is)
    (case k_TextReader__init => k_is)
    (case a_TextReader_sign => k_is)
    (case i_TextReader_sign => k_is)
    (case l_TextReader_sign => k_is)
    (case c_TextReader_sign => k_is)
    (case k_TextReader_sign => k_is)
    (case a_TextReader_refuse => k_is)
    (case i_TextReader_refuse => k_is)
    (case l_TextReader_refuse => k_is)
    (case c_TextReader_refuse => k_is)
    (case k_TextReader_refuse => k_is)
    (case a_TextReader_read_digits => k_is)
    (case i_TextReader_read_digits => k_is)
    (case l_TextReader_read_digits => k_is)
    (case c_TextReader_read_digits => k_is)
    (case k_TextReader_read_digits => k_is)
    (case a_TextReader_read_count => k_is)
    (case i_TextReader_read_count => k_is)
    (case l_TextReader_read_count => k_is)
    (case c_TextReader_read_count => k_is)
    (case k_TextReader_read_count => k_is)
    (case a_TextReader_read_integer => k_is)
    (case i_TextReader_read_integer => k_is)
    (case l_TextReader_read_integer => k_is)
    (case c_TextReader_read_integer => k_is)
    (case k_TextReader_read_integer => k_is)
    (case a_TextReader_read_string => k_is)
    (case i_TextReader_read_string => k_is)
    (case l_TextReader_read_string => k_is)
    (case c_TextReader_read_string => k_is)
    (case k_TextReader_read_string => k_is)
    (case a_TextReader_read_pairs => k_is)
    (case i_TextReader_read_pairs => k_is)
    (case l_TextReader_read_pairs => k_is)
    (case c_TextReader_read_pairs => k_is)
    (case k_TextReader_read_pairs => k_is)
    (case a_TextReader_read_items => k_is)
    (case i_TextReader_read_items => k_is)
    (case l_TextReader_read_items => k_is)
    (case c_TextReader_read_items => k_is)
    (case k_TextReader_read_items => k_is)
    (case a_TextReader_read_part => k_is)
    (case i_TextReader_read_part => k_is)
    (case l_TextReader_read_part => k_is)
    (case c_TextReader_read_part => k_is)
    (case k_TextReader_read_part => k_is)
    (case a_TextReader_is_done => k_is)
    (case i_TextReader_is_done => k_is)
    (case l_TextReader_is_done => k_is)
    (case c_TextReader_is_done => k_is)
    (case k_TextReader_is_done => k_is)
    (case a_items_of => k_is)
    (case l_items_of => k_is)
    (case c_items_of => k_is)
    (case k_items_of => k_is)
    (case a_is_wrong_part => k_is)
    (case l_is_wrong_part => k_is)
    (case c_is_wrong_part => k_is)
    (case k_is_wrong_part => k_is)
    (case a_wrong_path => k_is)
    (case l_wrong_path => k_is)
    (case c_wrong_path => k_is)
    (case k_wrong_path => k_is)
    (case a_check_value => k_is)
    (case l_check_value => k_is)
    (case c_check_value => k_is)
    (case k_check_value => k_is)
    (case a_spelled => k_is)
    (case l_spelled => k_is)
    (case c_spelled => k_is)
    (case k_spelled => k_is)
    (case a_text_of => k_is)
    (case l_text_of => k_is)
    (case c_text_of => k_is)
    (case k_text_of => k_is)
    (case a_check_string => k_is)
    (case l_check_string => k_is)
    (case c_check_string => k_is)
    (case k_check_string => k_is)
    (case a_value_of => k_is)
    (case l_value_of => k_is)
    (case c_value_of => k_is)
    (case k_value_of => k_is)
    (case a_first_wrong => k_is)
    (case l_first_wrong => k_is)
    (case c_first_wrong => k_is)
    (case k_first_wrong => k_is)
    (case a_is_text => k_is)
    (case l_is_text => k_is)
    (case c_is_text => k_is)
    (case k_is_text => k_is)
    (case a_l_mixed => k_is)
    (case l_l_mixed => k_is)
    (case c_l_mixed => k_is)
    (case k_l_mixed => k_is)
    (case a_l_stream => k_is)
    (case l_l_stream => k_is)
    (case c_l_stream => k_is)
    (case k_l_stream => k_is)
    (case a_l_draw => k_is)
    (case l_l_draw => k_is)
    (case c_l_draw => k_is)
    (case k_l_draw => k_is)
    (case a_l_pick => k_is)
    (case l_l_pick => k_is)
    (case c_l_pick => k_is)
    (case k_l_pick => k_is)
    (case a_l_word => k_is)
    (case l_l_word => k_is)
    (case c_l_word => k_is)
    (case k_l_word => k_is)
    (case a_l_plain => k_is)
    (case l_l_plain => k_is)
    (case c_l_plain => k_is)
    (case k_l_plain => k_is)
    (case a_l_value => k_is)
    (case l_l_value => k_is)
    (case c_l_value => k_is)
    (case k_l_value => k_is)
    (case a_l_count => k_is)
    (case l_l_count => k_is)
    (case c_l_count => k_is)
    (case k_l_count => k_is)
    (case a_l_number => k_is)
    (case l_l_number => k_is)
    (case c_l_number => k_is)
    (case k_l_number => k_is)
    (case a_l_item => k_is)
    (case l_l_item => k_is)
    (case c_l_item => k_is)
    (case k_l_item => k_is)
    (case a_l_scan => k_is)
    (case l_l_scan => k_is)
    (case c_l_scan => k_is)
    (case k_l_scan => k_is)
    (case a_l_bent => k_is)
    (case l_l_bent => k_is)
    (case c_l_bent => k_is)
    (case k_l_bent => k_is)
    (case a_l_told => k_is)
    (case l_l_told => k_is)
    (case c_l_told => k_is)
    (case k_l_told => k_is)
    (case a_l_right => k_is)
    (case l_l_right => k_is)
    (case c_l_right => k_is)
    (case k_l_right => k_is)
    (case co_l_right => k_is)
    (case ov_l_right => exact rfl)
    (case ti_l_right => kernel_rfl)
    (case tn_l_right => kernel_rfl)
    (case rs_l_right => kernel_rfl)
    (case a_l_tower_right => k_is)
    (case l_l_tower_right => k_is)
    (case c_l_tower_right => k_is)
    (case k_l_tower_right => k_is)
    (case a_law => k_is)
    (case l_law => k_is)
    (case c_law => k_is)
    (case k_law => k_is)
    (case co_law => k_is)
    (case ov_law => exact rfl)
    (case ti_law => kernel_rfl)
    (case tn_law => kernel_rfl)
    (case rs_law => kernel_rfl)
    (case ne_l_right_law => decide)
    (case b_len => k_is)
    (case b_isinstance => k_is)
    (case b_repr => k_is)
    (case b_enumerate => k_is)
    (case b_range => k_is)
    (case b_list => k_is)
    (case b_tuple => k_is)
    (case b_dict => k_is)
    (case b_bool => k_is)
    (case b_int => k_is)
    (case b_str => k_is)
    (case b_abs => k_is)
    (case b_all => k_is)
    (case b_max => k_is)
    (case nd => k_is)
    (case v_MOST_DIGITS => k_is)
    (case v_MOST_ITEMS => k_is)
    (case v_MOST_LEVELS => k_is)
    (case v_DIGITS => k_is)


