import PyProof.Rows.All
import Wide.All
import OpenK.AllK
import Wide.FinOn
import HandS.ForMost
import HandS.Exc
import HandS.WordsExc
import HandS.Flow
import HandS.IsInst
import HandS.FStr
import HandS.TupAny
import HandS.Style
import PyProof.ReprRoads
import KE.GoesMore
import PyProof.FString3
import PyProof.Rows.StrIntSpec
import KE.KFmtOwn
import PyProof.StrBlock2
import HandS.Property
import HandS.Text
import PyProof.Rows.Range3
import PyProof.Conv_bool
import HandS.Small
import PyProof.InstEq
import HandS.EndBits
import HandS.Codes
import PyProof.ReprLen
import HandS.Dict
import KE.KExcSuper
import HandS.ExcInit
import HandS.ExcField
import HandS.ExcIs
import PyProof.RowDictHeap
import PyProof.Rows.SeqMore
import PyProof.FitsInt
import KE.KExcInit
import HandS.DictComp
import HandS.Wide
import PyProof.NeKinds
import KE.KDictZip
import KE.GoesEnum
import HandS.Star
import HandS.ExcValue
import PyProof.RulesMatch
import KE.KTryMore
import HandS.Lambda
import HandS.EndTab
import HandS.ClsMeth
import HandS.GenList
import HandS.SortInts
import HandS.Defaults
import HandS.DeepEq
import KE.KDflt
import KE.KExcLine
import PySem.Challenge.RW_recordshelf_k09_pages_written
set_option Elab.async false
set_option linter.all false
set_option maxRecDepth 100000
set_option maxHeartbeats 4000000
namespace RS
open PySem PySem.Spec L2

/-- what a law's text is, as it stands behind its top -/
structure Wd where
  P : Program
  w : World
  K : PySem.W.Frag
  mg : Str → Option Value
  base : Heap

/-- a def that keeps its promise wherever no repr is under way -/
structure FnG (g : Wd) (k : Nat) (f : Addr) (fd : FuncData) (ps : List Str) (sp : Sp) : Prop where
  len : ∀ vs H Q E, sp vs H Q E → vs.length = ps.length
  run : ∀ (A : Around) (outer : List Env) (s : Shared) (H : Hp) (args : Args) (us : List Value) (vs : List V) (Q : VK) (E : XK),
    Room k A → A.guards = some [] → Env0 g.P g.w g.K g.mg g.base A outer s H → BindsTo s fd args (ps.zip us) → Vals vs us → sp vs H Q E →
      codeAny (model g.P g.w) A (.call (.ref f) args) (CR (L2.CX g.P g.w) outer g.P g.w H s Q E) s

theorem FnG.mono {g : Wd} {j k : Nat} {f : Addr} {fd : FuncData} {ps : List Str} {sp : Sp} (F : FnG g j f fd ps sp) (h : j ≤ k) : FnG g k f fd ps sp :=
  ⟨F.len, fun A outer s H args us vs Q E hr => F.run A outer s H args us vs Q E (hr.mono h)⟩
theorem FnG.imp {g : Wd} {k : Nat} {f : Addr} {fd : FuncData} {ps : List Str} {sp sp' : Sp} (F : FnG g k f fd ps sp) (h : ∀ vs H Q E, sp' vs H Q E → sp vs H Q E) : FnG g k f fd ps sp' :=
  ⟨fun vs H Q E q => F.len vs H Q E (h _ _ _ _ q), fun A outer s H args us vs Q E hr hg he hb hv hs => F.run A outer s H args us vs Q E hr hg he hb hv (h _ _ _ _ hs)⟩

/-- a def of the text, with the value of its defaults -/
structure Df (K : PySem.W.Frag) (x qual : Str) (st : Stmt) (f : Addr) (fd : FuncData) (dV : Value) : Prop where
  ex : ∃ (oc : Value) (od : Option Addr) (kV doc pm : Value) (an : Option Addr) (cdv ct : Value) (osl : Array (Option Value)),
    fd = PySem.W.fnOf x qual (defArgs st) (defBody st) (defScope st) dV kV doc pm an cdv ct ∧ K.lookup f = some ⟨oc, od, .func fd, osl⟩ ∧ PySem.W.codeIn K cdv qual = true
  kp : PySem.W.keepIn K (.ref f) = true

/-- the context of its body -/
abbrev cx (g : Wd) (N : List Str) (qual : Str) (st : Stmt) (f : Addr) (cdv : Value) (A : Around) (outer : List Env) (s : Shared) (H : Hp) (E : XK) : Cx :=
  cxOf (L2.CX g.P g.w) g.P g.w g.K g.mg g.base N qual (defScope st) f cdv A outer s H E

/-- what a body may lean on: room, and no repr under way -/
structure Rm (k : Nat) (X : Cx) : Prop where
  room : Room k X.A
  gd : X.A.guards = some []
theorem Rm.mono {j k : Nat} {X : Cx} (r : Rm k X) (h : j ≤ k) : Rm j X := ⟨r.room.mono h, r.gd⟩

theorem Df.ok {g : Wd} {x qual : Str} {st : Stmt} {f : Addr} {fd : FuncData} {dV : Value} {N ps : List Str} {k : Nat} {sp : Sp} (F : Df g.K x qual st f fd dV) (S : FnScope N ps (defScope st))
    (len : ∀ vs H Q E, sp vs H Q E → vs.length = ps.length)
    (hbody : ∀ (cdv : Value) (A : Around) (outer : List Env) (s : Shared) (H : Hp) (vs : List V) (Q : VK) (E : XK), Rm k (cx g N qual st f cdv A outer s H E) → sp vs H Q E →
      ∃ t, PSs (cx g N qual st f cdv A outer s H E) (defBody st) t ∧ t { nx := fun _ H' => Q .non H', rt := Q } (start N vs) H) : FnG g (k + 1) f fd ps sp := by
  obtain ⟨oc, od, kV, doc, pm, an, cdv, ct, osl, rfl, lk, hcd⟩ := F.ex
  refine ⟨len, fun A outer s H args us vs Q E hr hg e0 hb rv hsp => ?_⟩
  have kept : ∀ b o, g.base.get? b = some o → s.heap.get? b = some o := fun b o e => (e0.bs b o e).1
  have KX := e0.mod.kin.keeps kept
  have par : ∀ y ∈ ps.zip us, (defScope st).names.lookup y.1 = some .local ∨ ((defScope st).names.lookup y.1 = some .cell ∧ ((cellsFrom (s.heap.objs.size + 1) (defScope st).names []).lookup y.1).isSome = true) := by
    rintro ⟨n, v⟩ hy
    exact (S.par n (List.of_mem_zip hy).1).imp id fun q => ⟨q, PySem.W.cellsFrom_some _ _ _ (.inl q)⟩
  refine codeAny_call_function hr.depth (KX _ _ lk) rfl S.co S.gen rfl (PySem.W.codeRec_of KX hcd) (hb _ _ _ _ (wpAny_newFunctionEnv_cells S.kind par ?_))
  rintro env rfl s1 ic
  refine ⟨(e0.mod.nolimit.keeps kept).keeps ic.toInCall.keep, codeAny_func ?_⟩
  obtain ⟨t, ht, hq⟩ := hbody cdv A outer s H vs Q E ⟨hr.deeper _, hg⟩ hsp
  have J := inv_start (CX := L2.CX g.P g.w) (E := E) (qual := qual) (f := f) (cd := cdv) S hr.hd e0 (len _ _ _ _ hsp) rv ic
  refine wpAny_mono (ht.run [] s1 _ H _ J hq) ?_ fun _ _ z => z
  rintro fl s' hs
  cases fl with
  | ret u => obtain ⟨v, σ', H', I, r, q⟩ := hs; exact ⟨v, H', I.os, I.bare, I.base, I.hok, r, q⟩
  | next => obtain ⟨σ', H', I, q⟩ := hs; exact ⟨.non, H', I.os, I.bare, I.base, I.hok, rfl, q⟩
  | brk => obtain ⟨_, _, _, q⟩ := hs; exact q.elim
  | cont => obtain ⟨_, _, _, q⟩ := hs; exact q.elim

/-! ### calls -/
/-- X stands in the world g -/
structure At (g : Wd) (X : Cx) : Prop where
  P : X.prog = g.P
  w : X.w = g.w
  K : X.K = g.K
  mg : X.mg = g.mg
  base : X.base = g.base

section
variable {g : Wd} {X : Cx} {k : Nat} {f : Addr} {fd : FuncData} {ps : List Str} {sp : Sp} {W : WX}
/-- the callee runs, its arguments bound somehow -/
theorem runG (a : At g X) (F : FnG g k f fd ps sp) (hr : Rm k X) (tk : Takes X W) {pins : List (Addr × Obj)} {σ : St} {H : Hp} {s : Shared} {Q : VK} {args : Args} {us : List Value} {vs : List V}
    (I : Inv X pins σ H s) (hb : BindsTo s fd args (ps.zip us)) (r : Vals vs us) (h : sp vs H Q (fun c d H' => W c d σ H')) :
    codeAny (model X.prog X.w) X.A (.call (.ref f) args) (fun res s' => match res with | .ok fl => (match fl with | .ret u => EP X pins σ Q u s' | _ => False) | .error e => X.xe e s') s := by
  obtain ⟨P, w, K, mg, base⟩ := g
  obtain ⟨rfl, rfl, rfl, rfl, rfl⟩ := a
  refine codeAny_mono (F.run X.A X.stack s H args us vs Q _ hr.room hr.gd I.env0 hb r h) fun res s' hq => ?_
  cases res with
  | error e => exact tk e s' (XE.of_call (E := fun c d H' => W c d σ H') I (fun _ _ _ z => z) hq)
  | ok fl =>
    cases fl with
    | ret u => exact I.after hq
    | _ => exact hq.elim
end
end RS


namespace RS
open PySem PySem.Spec L2

/-! ### promises by the number of arguments -/
def S0 (g : Hp → VK → XK → Prop) : Sp := fun vs H Q E => vs = [] ∧ g H Q E
def S1 (g : V → Hp → VK → XK → Prop) : Sp := fun vs H Q E => ∃ a, vs = [a] ∧ g a H Q E
def S2 (g : V → V → Hp → VK → XK → Prop) : Sp := fun vs H Q E => ∃ a b, vs = [a, b] ∧ g a b H Q E
def S3 (g : V → V → V → Hp → VK → XK → Prop) : Sp := fun vs H Q E => ∃ a b c, vs = [a, b, c] ∧ g a b c H Q E
def S4 (g : V → V → V → V → Hp → VK → XK → Prop) : Sp := fun vs H Q E => ∃ a b c d, vs = [a, b, c, d] ∧ g a b c d H Q E
def S5 (g : V → V → V → V → V → Hp → VK → XK → Prop) : Sp := fun vs H Q E => ∃ a b c d e, vs = [a, b, c, d, e] ∧ g a b c d e H Q E
theorem S0.len {g} {vs : List V} {H Q E} (h : S0 g vs H Q E) : vs.length = 0 := by obtain ⟨rfl, _⟩ := h; rfl
theorem S1.len {g} {vs : List V} {H Q E} (h : S1 g vs H Q E) : vs.length = 1 := by obtain ⟨_, rfl, _⟩ := h; rfl
theorem S2.len {g} {vs : List V} {H Q E} (h : S2 g vs H Q E) : vs.length = 2 := by obtain ⟨_, _, rfl, _⟩ := h; rfl
theorem S3.len {g} {vs : List V} {H Q E} (h : S3 g vs H Q E) : vs.length = 3 := by obtain ⟨_, _, _, rfl, _⟩ := h; rfl
theorem S4.len {g} {vs : List V} {H Q E} (h : S4 g vs H Q E) : vs.length = 4 := by obtain ⟨_, _, _, _, rfl, _⟩ := h; rfl
theorem S5.len {g} {vs : List V} {H Q E} (h : S5 g vs H Q E) : vs.length = 5 := by obtain ⟨_, _, _, _, _, rfl, _⟩ := h; rfl

/-! ### a def by its name -/
/-- what the module's name x holds is worth v -/
def Gv (g : Wd) (x : Str) (v : V) : Prop := ∃ u, g.mg x = some u ∧ RelV v u
/-- the module's name x holds a def that keeps sp; ds: its defaults that fill up -/
def Kn (g : Wd) (x : Str) (k : Nat) (ps : List Str) (ds : List V) (sp : Sp) : Prop :=
  ∃ f fd dsV, g.mg x = some (.ref f) ∧ PySem.W.keepIn g.K (.ref f) = true ∧ FnG g k f fd ps sp ∧ Binds g.K fd ps dsV ∧ Vals ds dsV

section
variable {g : Wd} {X : Cx} {k : Nat} {f : Addr} {fd : FuncData} {ps : List Str} {sp : Sp} {W : WX} {ds : List V} {x : Str} {p pos : Pos} {e : Expr} {es : List Expr} {t : TA}

theorem e_g {v : V} (h : Gv g x v) (hg : Gl X x := by rfl) (hd : (x == ("__debug__" : Str)) = false := by decide) (a : At g X := by exact ⟨rfl, rfl, rfl, rfl, rfl⟩) : PE X (.Name x pos) (tC v) := by
  obtain ⟨u, hm, r⟩ := h
  exact pe_glob hg (by rw [a.mg]; exact hm) r hd

def tCallG (sp : Sp) (ds : List V) (W : WX) (t : TA) : TE := fun σ H Q => t σ H fun vs H1 => sp (vs ++ ds) H1 Q (fun c d H' => W c d σ H')

/-- the call itself, the arguments at hand -/
theorem callG {dsV : List Value} (a : At g X) (F : FnG g k f fd ps sp) (hr : Rm k X) (tk : Takes X W) (hb : Binds g.K fd ps dsV) (rd : Vals ds dsV) {pins : List (Addr × Obj)} {σ : L2.St} {H : Hp} {s : Shared} {Q : VK} {us : List Value} {vs : List V}
    (I : Inv X pins σ H s) (r : Vals vs us) (h : sp (vs ++ ds) H Q (fun c d H' => W c d σ H')) : wpAny (model X.prog X.w) X.A (call (.ref f) us) (EP X pins σ Q) X.xe s := by
  have r2 := Vals.append r rd
  have hl : (us ++ dsV).length = ps.length := by rw [← r2.length]; exact F.len _ _ _ _ h
  have KI : g.K.In s.heap := by rw [← a.K]; exact I.kIn
  refine wpAny_call (codeAny_mono (runG a F hr tk I (hb s us KI hl) r2 h) fun res s' hq => ?_)
  cases res with
  | error e => exact hq
  | ok fl => cases fl with
    | ret u => exact hq
    | _ => exact hq.elim

theorem pe_callG (F : Kn g x k ps ds sp) (hr : Rm k X) (tk : Takes X W) (ha : PA X (e :: es) t) (hg : Gl X x := by rfl) (hdb : (x == ("__debug__" : Str)) = false := by decide)
    (he : starEach (e :: es) X.env = (false, eval e X.env) :: starEach es X.env := by rfl) (hpl : (backTo pos (starEach es X.env)).any (·.1) = false := by rfl) (a : At g X := by exact ⟨rfl, rfl, rfl, rfl, rfl⟩) :
    PE X (.Call (.Name x p) (e :: es) [] pos) (tCallG sp ds W t) := by
  obtain ⟨f, fd, dsV, hm, hk, F, hb, rd⟩ := F
  refine ⟨fun pins s σ H Q I h => wpAny_Call_Name_kw (ld_glob I hg (by rw [a.mg]; exact hm) ?_ hdb)⟩
  refine PySem.W.callWith_K (h₀ := X.base) I.ok.mod.kin (by rw [a.K]; exact hk) (thn (ha.run pos pins s σ H _ I h) ?_) he hpl
  rintro us s1 ⟨vs, H1, I1, r, q⟩
  exact ⟨I1.kIn, callG a F hr tk hb rd I1 r q⟩
theorem pe_callG0 (F : Kn g x k ps ds sp) (hr : Rm k X) (tk : Takes X W) (hg : Gl X x := by rfl) (hdb : (x == ("__debug__" : Str)) = false := by decide) (a : At g X := by exact ⟨rfl, rfl, rfl, rfl, rfl⟩) :
    PE X (.Call (.Name x p) [] [] pos) (tCallG sp ds W tNil) := by
  obtain ⟨f, fd, dsV, hm, hk, F, hb, rd⟩ := F
  refine ⟨fun pins s σ H Q I h => wpAny_Call_Name_kw (ld_glob I hg (by rw [a.mg]; exact hm) ?_ hdb)⟩
  exact PySem.W.callWith_K0 I.kIn (by rw [a.K]; exact hk) (callG a F hr tk hb rd I .nil h)
end

/-! ### repr -/
section
variable {X : Cx} {k : Nat}
mutual
theorem Dp.noDict {K : PySem.W.Frag} {H : Hp} : ∀ {d : PyData} {v : V}, Dp K H v d → d.hasDict = false
  | .none, _, _ => rfl
  | .bool _, _, _ => rfl
  | .int _, _, _ => rfl
  | .str _, _, _ => rfl
  | .list ds, _, h => by cases h with | lst _ ha => simp only [PyData.hasDict]; exact DpAll.noDict ha
  | .tuple ds, _, h => by cases h with | tup _ ha => simp only [PyData.hasDict]; exact DpAll.noDict ha
  | .dict _, _, h => by cases h
theorem DpAll.noDict {K : PySem.W.Frag} {H : Hp} : ∀ {ds : List PyData} {vs : List V}, DpAll K H vs ds → PyData.hasDictAll ds = false
  | [], _, _ => rfl
  | d :: ds, _, h => by cases h with | cons h1 h2 => simp only [PyData.hasDictAll, Dp.noDict h1, DpAll.noDict h2, Bool.or_self]
end
def rRepr (K : PySem.W.Frag) : List V → Hp → VK → Prop := fun xs H Q => ∃ a d, xs = [.ref a] ∧ Dp K H (.ref a) d ∧ d.showable = true ∧ d.depth ≤ 60 ∧ d.shown.length ≤ sizeLine ∧ Q (.str d.shown) H
theorem c_repr {K : PySem.W.Frag} (hr : Rm k X) (hK : X.K = K := by rfl) : CallR X (.builtin "repr") (rRepr K) := by
  subst hK
  intro pins s σ H xs us Q I r h
  obtain ⟨a, d, rfl, hd, hs, hz, hl, q⟩ := h
  obtain ⟨u, rfl, ru⟩ := vals1 r
  cases ru
  obtain ⟨as, rd⟩ := Dp.reads I d (.ref a) (.ref a) hd rfl
  refine repr_of_reads' (h₀ := s.heap) rd hs (PyData.noDict_hsm (Dp.noDict hd)) hr.gd (by have := hr.room.un; omega) (fun _ _ e => e) (fun h' u tk kp => ?_) hl
  exact ⟨.str _, H, I.kept kp, ⟨_, rfl⟩, q⟩
end
end RS


namespace RS
open PySem PySem.Spec L2

/-! ### enumerate(text) -/
/-- the signs of x, each with its index in a new pair -/
def ItEs (x : Str) : It :=
  ⟨fun i _ => i < x.cps.size, fun i H v H' => ∃ T c, v = .ref T ∧ H T = none ∧ H' = upd H T (.tup [.int (i : Nat), .str ⟨#[c]⟩]) ∧ x.cps[i]? = some c, fun i _ => i = x.cps.size⟩
theorem turn_enumS {P : Program} {w : World} {K : PySem.W.Frag} {elts : List Expr} {kk : Nat} {tpos : Pos} (x : Str) (t : Tok) (e it : Addr) :
    Turn P w K (.Tuple elts kk tpos) (ItEs x) [e, it] e (fun i h => (∃ old, IsEnum h e it ((i : Nat) : Int) old) ∧ h.IsStrIter it (strIterType x) x t i ∧ e ≠ it) where
  mem := List.mem_cons_self
  obj := by
    rintro i h ⟨⟨old, he⟩, ⟨o, ho, hc, hd⟩, _⟩ b hb
    rcases List.mem_cons.mp hb with rfl | hb
    · exact ⟨_, he, fun v q => nomatch q⟩
    · obtain rfl := List.mem_singleton.mp hb
      exact ⟨o, ho, fun v q => by rw [hd] at q; cases q⟩
  keep := by
    rintro i h h' ⟨⟨old, he⟩, ⟨o, ho, hr⟩, hne⟩ k
    exact ⟨⟨old, k e (by simp) _ he⟩, ⟨o, k it (by simp) o ho, hr⟩, hne⟩
  item := by
    intro X hP hw hK hc i pins s σ H E I hf st hg
    subst hP hw hK
    obtain ⟨⟨old, he⟩, hit, hne⟩ := st
    have hel : e < s.heap.objs.size := Heap.lt_size he
    have hil : it < s.heap.objs.size := by obtain ⟨_, q, _⟩ := hit; exact Heap.lt_size q
    refine wpAny_pyNext_enum_itemD (Draws.text (A := X.A.in1) (I.ok.hd hc) it x t) he hit hg hne (by simpa using hne) fun u h' tk hp ho hit' hT hsz hk => ?_
    obtain ⟨c, tu, hcx, rfl⟩ := hp
    refine ⟨_, rfl, wpAny_letOwnedTupleGo_enum (s := { s with heap := h', toks := tk + 1 }) ho fun h2 he' sb => ?_⟩
    have hT2 : h2.get? s.heap.objs.size = some { cls := .type "tuple", data := .seq #[.int i tk, .str ⟨#[c]⟩ tu] } := (sb.2 _ (Nat.ne_of_gt hel)).trans hT
    have lay : ObjOk X.prog X.w (upd H s.heap.objs.size (.tup [.int (i : Nat), .str ⟨#[c]⟩])) h2 s.heap.objs.size (.tup [.int (i : Nat), .str ⟨#[c]⟩]) :=
      ⟨by show 2 ≤ sizeLine; decide, _, .cons ⟨_, rfl⟩ (.cons ⟨_, rfl⟩ .nil), _, hT2, rfl, _, rfl⟩
    have keepB : ∀ b o, b ∉ [e, it] → s.heap.get? b = some o → h2.get? b = some o := fun b o hb q => by
      have n1 : b ≠ e := fun z => hb (by simp [z])
      have n2 : b ≠ it := fun z => hb (by simp [z])
      exact (sb.2 b n1).trans (hk b o n1 n2 q)
    have I1 := I.turnedNew (t' := tk + 1) keepB hf (Nat.le_refl _) lay
    refine ⟨.ref s.heap.objs.size, _, I1, rfl, ⟨_, c, rfl, I.hok.fresh (Nat.le_refl _), rfl, hcx⟩, ⟨⟨_, by simpa using he'⟩, ?_, hne⟩, fun b hb => ?_⟩
    · obtain ⟨o, ho2, hr⟩ := hit'
      exact ⟨o, (sb.2 it (Ne.symm hne)).trans ho2, hr⟩
    · have lt : b < s.heap.objs.size := by
        rcases List.mem_cons.mp hb with rfl | hb
        · exact hel
        · rw [List.mem_singleton.mp hb]; exact hil
      rw [upd_ne (Nat.ne_of_lt lt)]
      exact (hf b hb).1
  done := by
    intro X hP hw hK hc i pins s σ H E I hf st hg
    subst hP hw hK
    obtain ⟨⟨old, he⟩, hit, hne⟩ := st
    obtain rfl : i = x.cps.size := hg
    obtain ⟨f0, f1, f2, f3, f4, f5⟩ := hf it (by simp)
    refine wpAny_pyNext_enum_endD (Draws.text (A := X.A.in1) (I.ok.hd hc) it x t) he hit fun h' eb => ⟨rfl, ?_⟩
    exact I.turned (t' := s.toks) (fun b o hb q => eb b o hb q) f0 f1 f3 f4 f5
  self := fun A i s Q E st h => let ⟨⟨_, he⟩, _⟩ := st; wpAny_pyIter_enum he h

def iEnumS (ta : TA) : TI := fun σ H R => ta σ H fun vs H1 => ∃ x, vs = [.str x] ∧ R (ItEs x) H1
theorem pi_enumS {X : Cx} {e : Expr} {ta : TA} {p pos tpos : Pos} {elts : List Expr} {kk : Nat} (hm : X.mg "enumerate" = none) (ha : PA X [e] ta) (hg : Gl X "enumerate" := by rfl) (hs : starEach [e] X.env = [(false, eval e X.env)] := by rfl) :
    PI X (.Tuple elts kk tpos) (.Call (.Name "enumerate" p) [e] [] pos) (iEnumS ta) := by
  refine ⟨fun pins s σ H R I h => ?_⟩
  refine PyProof.Rows.Call_ (ld_blt I hg hm PyProof.Rows.boot_enumerate (PyProof.Rows.callWith_type1 (thn (ha.run pos pins s σ H _ I h) ?_) hs rfl))
  rintro us s1 ⟨vs, H1, I1, r1, x, rfl, q⟩
  obtain ⟨u, rfl, t, rfl⟩ := vals1 r1
  refine call_enumerate_str fun h' he hit hsz hk => wpAny_pyIter_enum he ?_
  refine ⟨s1.heap.objs.size + 1, [s1.heap.objs.size + 1, s1.heap.objs.size], _, _, H1, rfl, I1.kept (t' := s1.toks) hk, turn_enumS x t _ _, ⟨⟨.none, he⟩, hit, Nat.succ_ne_self _⟩, fun b hb => ?_, q⟩
  have le : s1.heap.objs.size ≤ b := by
    rcases List.mem_cons.mp hb with rfl | hb
    · exact Nat.le_succ _
    · rw [List.mem_singleton.mp hb]; exact Nat.le_refl _
  exact I1.fpOk le (I1.hok.fresh le)

/-! ### a number with zeros in front -/
theorem ns_none {K : PySem.W.Frag} {h : Heap} {a : Addr} {m : Str → Option Value} {n : Str} (X : K.In h) (G : h.Ns a m) (e : PySem.W.nsIn K a n = some none) : m n = none := by
  obtain ⟨o, es, ep, ho, hd, _, hf⟩ := G
  unfold PySem.W.nsIn at e
  split at e
  · rename_i q
    have z := X _ _ q
    rw [ho] at z
    cases z
    cases hd
    split at e
    · cases e
    · rename_i he
      rw [← hf]
      unfold nsFind findBy
      rw [← Array.find?_toList, he]
      split at e <;> first | rfl | cases e
  · cases e
/-- i with zeros in front, W signs at least -/
def padZ (W : Nat) (i : Int) : Str := ⟨(List.replicate (W - (Nat.toDigits 10 i.natAbs).length) 48).toArray⟩ ++ Str.ofString (toString i)
section
variable {X : Cx} {e spec : Expr} {te : TE} {pos : Pos} {sp : Str}
def tFmtZ (W : Nat) (te : TE) : TE := fun σ H Q => te σ H fun x H1 => ∃ i : Int, x = .int i ∧ 0 ≤ i ∧ i < 10 ^ 12 ∧ Q (.str (padZ W i)) H1
theorem pe_fmtZ (W : Nat) (he : PE X e te) (hs : PE X spec (tC (.str sp))) (nd : PySem.W.nsIn X.K cStatics "sys.int_max_str_digits" = some none) (hok : PyProof.Rows.intSpecOk sp = true := by decide +kernel) (hz : PyProof.Rows.intSpecZeroOf sp = true := by decide +kernel)
    (hW : PyProof.Rows.intSpecWidthOf sp = W := by decide +kernel) (hl : sp.length ≤ sizeLine := by decide +kernel) : PE X (.FormattedValue e (-1) (some spec) pos) (tFmtZ W te) := by
  refine ⟨fun pins s σ H Q I h => wpAny_FormattedValue_spec (thn (he.run pins s σ H _ I h) ?_)⟩
  rintro v s1 ⟨x, H1, I1, r1, i, rfl, i0, i1, q⟩
  obtain ⟨t, rfl⟩ := r1
  refine thn (hs.run pins s1 σ H1 (fun y H2 => y = .str sp ∧ H2 = H1) I1 ⟨rfl, rfl⟩) ?_
  rintro u s2 ⟨y, H2, I2, r2, rfl, rfl⟩
  obtain ⟨t2, rfl⟩ := r2
  have nd2 : s2.heap.NoDigits := by
    obtain ⟨mc, hn, _⟩ := I2.nolimit
    exact ⟨mc, hn, ns_none I2.kIn hn nd⟩
  have lt : i.natAbs < 10 ^ 4300 := Nat.lt_of_lt_of_le (show i.natAbs < 10 ^ 12 by omega) (Nat.pow_le_pow_right (by decide) (by decide))
  refine ⟨sp, t2, rfl, PyProof.Rows.formatField_int_specOf nd2 lt hok (fun W' hW' f => ?_) hl⟩
  have e2 := f.zeroG hz i0
  rw [hW', hW] at e2
  rw [e2]
  exact ⟨.str (padZ W i), H2, I2.tok _, ⟨_, rfl⟩, q⟩
end
end RS


namespace RS
open PySem PySem.Spec L2
section
variable {X : Cx}

/-! ### + of whatever -/
def rAdd (K : PySem.W.Frag) : R2 := fun x y H Q => match x, y with
  | .int i, .int j => Q (.int (i + j)) H
  | .str a, .str b => a.length + b.length ≤ sizeLine ∧ Q (.str (a ++ b)) H
  | .ref p, .ref q => rCat (.ref p) (.ref q) H Q ∨ rCatA K (.ref p) (.ref q) H Q
  | _, _ => False
theorem o_add {K : PySem.W.Frag} (hK : X.K = K := by rfl) : OpR X (binaryOp .Add) (rAdd K) := by
  subst hK
  intro pins s σ H x y v u Q I rx ry h
  cases x <;> cases y <;> first
    | exact (show False from h).elim
    | exact op_add pins s σ H _ _ v u Q I rx ry ⟨_, _, rfl, rfl, h⟩
    | exact op_add_str pins s σ H _ _ v u Q I rx ry ⟨_, _, rfl, rfl, h.1, h.2⟩
    | exact (show _ ∨ _ from h).elim (op_cat pins s σ H _ _ v u Q I rx ry) (op_catA pins s σ H _ _ v u Q I rx ry)

/-! ### * of whatever -/
/-- a, n times -/
def repS (a : Str) (n : Nat) : Str := ⟨(List.replicate n a.cps.toList).flatten.toArray⟩
theorem foldl_app (a : Array Nat) : ∀ (n : Nat) (acc : Array Nat), (List.replicate n a).foldl (· ++ ·) acc = acc ++ (List.replicate n a.toList).flatten.toArray
  | 0, acc => by simp
  | n + 1, acc => by
    rw [List.replicate_succ, List.foldl_cons, foldl_app a n (acc ++ a), List.replicate_succ, List.flatten_cons]
    apply Array.ext'
    simp [Array.toList_append, List.append_assoc]
theorem txt_mul (a : Str) (n : Int) : Txt.mul a n = repS a n.toNat := by
  unfold Txt.mul repS
  by_cases h1 : n < 1
  · rw [if_pos h1]
    have e : n.toNat = 0 := by omega
    rw [e]
    rfl
  · rw [if_neg h1]
    have e : ({ cps := (List.replicate n.toNat a.cps).foldl (· ++ ·) #[] } : Str) = { cps := (List.replicate n.toNat a.cps.toList).flatten.toArray } := by
      rw [foldl_app]
      congr 1
      apply Array.ext'
      simp
    split
    · rename_i c
      rcases Bool.or_eq_true_iff.mp c with c | c
      · have : n = 1 := by simpa using c
        subst this
        obtain ⟨l⟩ := a
        simp
      · have : a.cps.size = 0 := by simpa [Str.length] using c
        obtain ⟨⟨l⟩⟩ := a
        have : l = [] := by simpa using this
        subst this
        simp
    · exact e
def rMul : R2 := fun x y H Q => match x, y with
  | .int i, .int j => CMul i j ∧ Q (.int (i * j)) H
  | .str a, .int n => n < 2 ^ 31 ∧ -(2 ^ 31) < n ∧ a.length * n.toNat ≤ sizeLine ∧ Q (.str (repS a n.toNat)) H
  | .ref p, .int n => rRep (.ref p) (.int n) H Q
  | _, _ => False
theorem o_mul : OpR X (binaryOp .Mult) rMul := by
  intro pins s σ H x y v u Q I rx ry h
  cases x <;> cases y <;> first
    | exact (show False from h).elim
    | exact op_mul pins s σ H _ _ v u Q I rx ry ⟨_, _, rfl, rfl, h.1, h.2⟩
    | exact op_rep pins s σ H _ _ v u Q I rx ry h
    | skip
  rename_i a n
  obtain ⟨t, rfl⟩ := rx
  obtain ⟨t', rfl⟩ := ry
  obtain ⟨h1, h2, h3, q⟩ := h
  have hs : sizeLine = 16777216 := sizeLine_eq
  refine SB.mul (x := a) (n := n) ⟨?_, fun hn hc => ?_, fun hn hc => ?_⟩ fun t' k => ?_
  · rw [decide_eq_false (by omega), decide_eq_false (by omega)]; rfl
  · have h4 : (a.length : Int) * n ≤ 16777216 := by
      have : ((a.length * n.toNat : Nat) : Int) ≤ 16777216 := by omega
      rw [Int.natCast_mul] at this
      have e : ((n.toNat : Nat) : Int) = n := by omega
      rw [e] at this
      exact this
    have h5 : (a.length : Int) ≤ a.length * n := by
      have e : (a.length : Int) * 1 ≤ a.length * n := Int.mul_le_mul_of_nonneg_left (by omega) (by omega)
      omega
    have h6 : (4294967296 : Int) ≤ (2 ^ 63 - 1) / n := by
      rw [Int.le_ediv_iff_mul_le (by omega)]
      omega
    omega
  · unfold Builtin.Str.tooLong
    simp
    omega
  · rw [txt_mul]
    exact ⟨.str _, H, I.tok k, ⟨t', rfl⟩, q⟩

/-! ### == and != of scalars and of data -/
def rEqU (K : PySem.W.Frag) : R2 := fun x y H Q => match x, y with
  | .ref a, .ref b => rEqD K (.ref a) (.ref b) H Q
  | x, y => rEq x y H Q
theorem o_eq {K : PySem.W.Frag} {k : Nat} (hr : Rm k X) (hK : X.K = K := by rfl) : OpR X (compareOp .Eq) (rEqU K) := by
  subst hK
  intro pins s σ H x y v u Q I rx ry h
  cases x <;> cases y <;> first
    | exact op_eqD hr.room.units pins s σ H _ _ v u Q I rx ry h
    | exact op_eq pins s σ H _ _ v u Q I rx ry h
def rNeU (K : PySem.W.Frag) : R2 := fun x y H Q => match x, y with
  | .ref a, .ref b => rNeD K (.ref a) (.ref b) H Q
  | x, y => rNe x y H Q
theorem o_ne {K : PySem.W.Frag} {k : Nat} (hr : Rm k X) (hK : X.K = K := by rfl) : OpR X (compareOp .NotEq) (rNeU K) := by
  subst hK
  intro pins s σ H x y v u Q I rx ry h
  cases x <;> cases y <;> first
    | exact op_neD hr.room.units pins s σ H _ _ v u Q I rx ry h
    | exact op_ne pins s σ H _ _ v u Q I rx ry h

/-! ### in, not in: a text in a text, a thing in a list or a tuple -/
def hasS (z y : Str) : Bool := !(Builtin.Str.occurrences y z 0 y.length 1).isEmpty
def rInU (K : PySem.W.Frag) : R2 := fun x y H Q => match x, y with
  | .str z, .str y => Q (.bl (hasS z y)) H
  | x, .ref p => rIn K false x (.ref p) H Q
  | _, _ => False
theorem o_in {K : PySem.W.Frag} (hK : X.K = K := by rfl) : OpR X (compareOp .In) (rInU K) := by
  subst hK
  intro pins s σ H x y v u Q I rx ry h
  cases x <;> cases y <;> first
    | exact (show False from h).elim
    | exact op_in_str pins s σ H _ _ v u Q I rx ry ⟨_, _, rfl, rfl, h⟩
    | exact op_in_seq pins s σ H _ _ v u Q I rx ry h
def rNinU (K : PySem.W.Frag) : R2 := fun x y H Q => match x, y with
  | .str z, .str y => Q (.bl (!hasS z y)) H
  | x, .ref p => rIn K true x (.ref p) H Q
  | _, _ => False
theorem o_nin {K : PySem.W.Frag} (hK : X.K = K := by rfl) : OpR X (compareOp .NotIn) (rNinU K) := by
  subst hK
  intro pins s σ H x y v u Q I rx ry h
  cases x <;> cases y <;> first
    | exact (show False from h).elim
    | exact op_notin_str pins s σ H _ _ v u Q I rx ry ⟨_, _, rfl, rfl, h⟩
    | exact op_notIn_seq pins s σ H _ _ v u Q I rx ry h

/-! ### len -/
def rLen (K : PySem.W.Frag) : List V → Hp → VK → Prop := fun xs H Q => match xs with
  | [.str y] => y.length ≤ sizeLine ∧ Q (.int y.length) H
  | [.ref p] => (∃ xs, (SqL K H p xs ∨ SqT K H p xs) ∧ Q (.int xs.length) H) ∨ ∃ kvs, H p = some (.dK kvs) ∧ Q (.int kvs.length) H
  | _ => False
theorem c_len {K : PySem.W.Frag} (hK : X.K = K := by rfl) : CallR X (.builtin "len") (rLen K) := by
  subst hK
  intro pins s σ H xs us Q I r h
  cases xs with
  | nil => exact (show False from h).elim
  | cons x xs =>
    cases xs with
    | cons y ys => cases x <;> exact (show False from h).elim
    | nil =>
      cases x with
      | str y => exact call_len pins s σ H _ us Q I r ⟨_, y.length, rfl, ⟨h.1, rfl⟩, h.2⟩
      | ref p =>
        rcases (show _ ∨ _ from h) with ⟨xs, hx | hx, q⟩ | ⟨kvs, hk, q⟩
        · exact call_len pins s σ H _ us Q I r ⟨_, xs.length, rfl, .inl ⟨xs, hx, rfl⟩, q⟩
        · exact call_len pins s σ H _ us Q I r ⟨_, xs.length, rfl, .inr ⟨xs, hx, rfl⟩, q⟩
        · exact call_lenD pins s σ H _ us Q I r ⟨p, kvs, rfl, hk, q⟩
      | _ => exact (show False from h).elim

/-! ### isinstance of one built-in class -/
/-- the name of a value's built-in type -/
def tyN (x : V) (H : Hp) : Option String := match x with
  | .non => some "NoneType"
  | .bl _ => some "bool"
  | .int _ => some "int"
  | .str _ => some "str"
  | .ref a => match H a with
    | some (.lst _) => some "list"
    | some (.tup _) => some "tuple"
    | some (.dK _) => some "dict"
    | some (.frz _ (.lst _)) => some "list"
    | some (.frz _ (.dK _)) => some "dict"
    | _ => none
  | _ => none
def isB (t T : String) : Bool := t == T || (t == "bool" && T == "int")
theorem kitB_tab : ∀ t ∈ ["NoneType", "bool", "int", "str", "list", "tuple", "dict"], ∀ T ∈ ["bool", "int", "str", "list", "tuple", "dict", "float"], kitB t T = some (isB t T) := by decide +kernel
theorem tyN_tyX {K : PySem.W.Frag} {H : Hp} {x : V} {t : String} (h : tyN x H = some t) : TyX K H x (.type t) ∧ t ∈ ["NoneType", "bool", "int", "str", "list", "tuple", "dict"] := by
  cases x with
  | non => cases h; exact ⟨.base .non, by simp⟩
  | bl b => cases h; exact ⟨.base (.bl b), by simp⟩
  | int i => cases h; exact ⟨.base (.int i), by simp⟩
  | str y => cases h; exact ⟨.base (.str y), by simp⟩
  | ref a =>
    unfold tyN at h
    simp only at h
    split at h <;> first | (cases h; done) | skip
    · rename_i e; cases h; exact ⟨.base (.lst e), by simp⟩
    · rename_i e; cases h; exact ⟨.base (.tup e), by simp⟩
    · rename_i e; cases h; exact ⟨.base (.dK e), by simp⟩
    · rename_i e; cases h; exact ⟨.base (.frz e), by simp⟩
    · rename_i e; cases h; exact ⟨.fDict e, by simp⟩
  | _ => cases h
def rIs (T : String) : List V → Hp → VK → Prop := fun xs H Q => match xs with
  | [x, .ty T'] => T' = T ∧ ∃ t, tyN x H = some t ∧ Q (.bl (isB t T)) H
  | _ => False
theorem c_is (T : String) (hT : T ∈ ["bool", "int", "str", "list", "tuple", "dict", "float"] := by decide) : CallR X (.builtin "isinstance") (rIs T) := by
  intro pins s σ H xs us Q I r h
  unfold rIs at h
  split at h
  · obtain ⟨rfl, t, ht, q⟩ := h
    obtain ⟨ty, m⟩ := tyN_tyX (K := X.K) ht
    exact call_isi pins s σ H _ us Q I r ⟨_, _, _, _, _, rfl, .ty _, ty, kit_ty (kitB_tab _ m _ hT), q⟩
  · exact h.elim
end
end RS


namespace RS
open PySem PySem.Spec L2

/-- another surrounding of the same frames -/
structure Rb (k : Nat) (X : Cx) (B : Around) : Prop where
  room : Room k B
  gd : B.guards = some []
  fr : B.frames = X.A.frames
theorem Rm.here {k : Nat} {X : Cx} (r : Rm k X) : Rb k X X.A := ⟨r.room, r.gd, rfl⟩
theorem Rb.in1 {k : Nat} {X : Cx} {B : Around} (r : Rb (k + 1) X B) : Rb k X B.in1 := ⟨r.room.in1, r.gd, r.fr⟩
theorem Rb.mono {j k : Nat} {X : Cx} {B : Around} (r : Rb k X B) (h : j ≤ k) : Rb j X B := ⟨r.room.mono h, r.gd, r.fr⟩
theorem Rb.make {k : Nat} {X : Cx} {B : Around} (r : Rb (k + 1) X B) (C : Addr) (us : List Value) (kw : List (Str × Value)) : Rb k X (B.under (.builtin "type.__call__" ⟨.ref C :: us, kw⟩)) := by
  refine ⟨r.room.make C us kw, ?_, ?_⟩
  · have g : (Code.builtin "type.__call__" ⟨.ref C :: us, kw⟩).isGuard = false := by show guardIds.contains "type.__call__" = false; decide +kernel
    simp [Around.under, Code.guards, g, pushGuards, r.gd]
  · have e : (B.under (.builtin "type.__call__" ⟨.ref C :: us, kw⟩)).frames = B.frames := by
      first | rfl | simp [Around.under, Code.envs, Code.isFrame, pushEnvs]
    rw [e]; exact r.fr

section
variable {g : Wd} {X : Cx} {k : Nat} {f C : Addr} {fd : FuncData} {ps : List Str} {sp : Sp} {W : WX}
/-- the callee runs in another surrounding of the same frames -/
theorem runB {B : Around} (a : At g X) (F : FnG g k f fd ps sp) (hr : Rb k X B) (tk : Takes X W) {pins : List (Addr × Obj)} {σ : L2.St} {H : Hp} {s : Shared} {Q : VK} {args : Args} {us : List Value} {vs : List V}
    (I : Inv X pins σ H s) (hb : BindsTo s fd args (ps.zip us)) (r : Vals vs us) (h : sp vs H Q (fun c d H' => W c d σ H')) :
    codeAny (model X.prog X.w) B (.call (.ref f) args) (fun res s' => match res with | .ok fl => (match fl with | .ret u => EP X pins σ Q u s' | _ => False) | .error e => X.xe e s') s := by
  obtain ⟨P, w, K, mg, base⟩ := g
  obtain ⟨rfl, rfl, rfl, rfl, rfl⟩ := a
  have e := I.env0
  have e' : Env0 X.prog X.w X.K X.mg X.base B X.stack s H := ⟨hr.fr.trans e.frames, e.mod, e.bs, e.bsz, e.funs, e.frf, e.hok, e.bare⟩
  refine codeAny_mono (F.run B X.stack s H args us vs Q _ hr.room hr.gd e' hb r h) fun res s' hq => ?_
  cases res with
  | error e => exact tk e s' (XE.of_call (E := fun c d H' => W c d σ H') I (fun _ _ _ z => z) hq)
  | ok fl =>
    cases fl with
    | ret u => exact I.after hq
    | _ => exact hq.elim

/-- a method of the class at C -/
def Km (g : Wd) (C : Addr) (m : Str) (k : Nat) (ps : List Str) (ds : List V) (sp : Sp) : Prop :=
  ∃ f fd dsV, PySem.W.findIn g.K (.ref C) m = some (some (.ref f)) ∧ PySem.W.isFn g.K (.ref f) = true ∧ PySem.W.keepIn g.K (.ref f) = true ∧ FnG g k f fd ps sp ∧ Binds g.K fd ps dsV ∧ Vals ds dsV

/-- f(self, ..) by values, in any surrounding -/
theorem callB {B : Around} {ds : List V} {dsV : List Value} (a : At g X) (F : FnG g k f fd ps sp) (hr : Rb k X B) (tk : Takes X W) (hb : Binds g.K fd ps dsV) (rd : Vals ds dsV) {pins : List (Addr × Obj)} {σ : L2.St} {H : Hp} {s : Shared} {Q : VK} {us : List Value} {vs : List V}
    (I : Inv X pins σ H s) (r : Vals vs us) (h : sp (vs ++ ds) H Q (fun c d H' => W c d σ H')) : wpAny (model X.prog X.w) B (call (.ref f) us) (EP X pins σ Q) X.xe s := by
  have r2 := Vals.append r rd
  have hl : (us ++ dsV).length = ps.length := by rw [← r2.length]; exact F.len _ _ _ _ h
  have KI : g.K.In s.heap := by rw [← a.K]; exact I.kIn
  refine wpAny_call (codeAny_mono (runB a F hr tk I (hb s us KI hl) r2 h) fun res s' hq => ?_)
  cases res with
  | error e => exact hq
  | ok fl => cases fl with
    | ret u => exact hq
    | _ => exact hq.elim

/-! ### o.m(..) -/
variable {m : Str} {ds : List V} {o e : Expr} {es : List Expr} {ta : TE} {t : TA} {p pos apos : Pos}
def tMethG (C : Addr) (m : Str) (sp : Sp) (ds : List V) (W : WX) (ta : TE) (t : TA) : TE := fun σ H Q => ta σ H fun x H1 => ∃ a dx fs, x = .ref a ∧ H1 a = some (.ins C dx fs) ∧ fs.lookup m = none ∧
  t σ H1 fun vs H2 => sp (x :: (vs ++ ds)) H2 Q (fun c d H' => W c d σ H')
theorem pe_methG {pl : Sem Bool} (he : PE X o ta) (c : Cls g.K C) (F : Km g C m k ps ds sp) (hr : Rm k X) (tk : Takes X W) (ha : PA X (e :: es) t)
    (hst : starEach (e :: es) X.env = (false, eval e X.env) :: starEach es X.env := by rfl) (hpl : (backTo pos (starEach es X.env)).any (·.1) = false := by rfl)
    (ht : eval (.Call (.Attribute o m apos) (e :: es) [] pos) X.env = (do
      let ov ← eval o X.env
      standAt apos.atName
      let (f, first) ← holding [ov] (getMethod ov m pl)
      callWith pos f first (backTo pos (starEach (e :: es) X.env)) (backToKw pos (keywordEach [] X.env))) := by rfl) (a : At g X := by exact ⟨rfl, rfl, rfl, rfl, rfl⟩) :
    PE X (.Call (.Attribute o m apos) (e :: es) [] pos) (tMethG C m sp ds W ta t) := by
  obtain ⟨f, fd, dsV, hf, hi, hk, F, hb, rd⟩ := F
  refine ⟨fun pins s σ H Q I h => PySem.W.methodCall_KW (pl := pl) (thn (he.run pins s σ H _ I h) ?_) ht⟩
  rintro u s1 ⟨x, H1, I1, rx, q, dx, fs, rfl, ea, l, h1⟩
  obtain rfl : u = Value.ref q := rx
  refine getmeth_ok I1 ea (by rw [a.K]; exact c) (g := f) (by rw [a.K]; exact ⟨hf, hi, hk⟩) l ?_
  refine PySem.W.callWith_K (first := [.ref q]) (h₀ := X.base) I.ok.mod.kin (by rw [a.K]; exact hk) (thn (ha.run pos pins s1 σ H1 _ I1 h1) ?_) hst hpl
  rintro us s2 ⟨vs, H2, I2, r, q2⟩
  exact ⟨I2.kIn, callG (vs := .ref q :: vs) (us := .ref q :: us) a F hr tk hb rd I2 (.cons rfl r) q2⟩
theorem pe_methG0 {pl : Sem Bool} (he : PE X o ta) (c : Cls g.K C) (F : Km g C m k ps ds sp) (hr : Rm k X) (tk : Takes X W)
    (ht : eval (.Call (.Attribute o m apos) [] [] pos) X.env = (do
      let ov ← eval o X.env
      standAt apos.atName
      let (f, first) ← holding [ov] (getMethod ov m pl)
      callWith pos f first (backTo pos (starEach [] X.env)) (backToKw pos (keywordEach [] X.env))) := by rfl) (a : At g X := by exact ⟨rfl, rfl, rfl, rfl, rfl⟩) :
    PE X (.Call (.Attribute o m apos) [] [] pos) (tMethG C m sp ds W ta tNil) := by
  obtain ⟨f, fd, dsV, hf, hi, hk, F, hb, rd⟩ := F
  refine ⟨fun pins s σ H Q I h => PySem.W.methodCall_KW (pl := pl) (thn (he.run pins s σ H _ I h) ?_) ht⟩
  rintro u s1 ⟨x, H1, I1, rx, q, dx, fs, rfl, ea, l, h1⟩
  obtain rfl : u = Value.ref q := rx
  refine getmeth_ok I1 ea (by rw [a.K]; exact c) (g := f) (by rw [a.K]; exact ⟨hf, hi, hk⟩) l ?_
  exact PySem.W.callWith_K0 (first := [.ref q]) I1.kIn (by rw [a.K]; exact hk) (callG (vs := [.ref q]) (us := [.ref q]) a F hr tk hb rd I1 (.cons rfl .nil) h1)

/-! ### C(..) -/
/-- the class at C, made by its own __init__ -/
def Kc (g : Wd) (x : Str) (C : Addr) (k : Nat) (ps : List Str) (ds : List V) (sp : Sp) : Prop :=
  g.mg x = some (.ref C) ∧ ∃ f fd dsV, Mk g.K C f ∧ FnG g k f fd ps sp ∧ Binds g.K fd ps dsV ∧ Vals ds dsV
theorem makeG {dsV : List Value} (a : At g X) (M : Mk g.K C f) (F : FnG g k f fd ps sp) (hr : Rm (k + 1) X) (tk : Takes X W) (rd : Vals ds dsV) {pins : List (Addr × Obj)} {σ : L2.St} {H : Hp} {s : Shared} {Q : VK} {us : List Value} {kw : List (Str × Value)} {all : List Value} {vs : List V}
    (I : Inv X pins σ H s) (r : Vals vs all)
    (hb : ∀ s' : Shared, g.K.In s'.heap → BindsTo s' fd ⟨.ref (s.heap.objs.size + 1) :: us, kw⟩ (ps.zip (.ref (s.heap.objs.size + 1) :: all)))
    (h : ∀ y dy, H y = none → H dy = none → dy ≠ y → sp (.ref y :: vs) (upd (upd H dy (.own y)) y (.ins C dy [])) (fun v H2 => v = .non ∧ Q (.ref y) H2) (fun c d H' => W c d σ H')) :
    wpAny (model X.prog X.w) X.A (call (.ref C) us kw) (EP X pins σ Q) X.xe s := by
  have hq := h (s.heap.objs.size + 1) s.heap.objs.size (I.hok.fresh (Nat.le_succ _)) (I.hok.fresh (Nat.le_refl _)) (Nat.ne_of_lt (Nat.lt_succ_self _))
  have J := Inv.made (C := C) I
  have KI := J.kIn
  rw [a.K] at KI
  have rr : Vals (V.ref (s.heap.objs.size + 1) :: vs) (Value.ref (s.heap.objs.size + 1) :: all) := .cons rfl r
  refine wpAny_call (make_map (K := X.K) (f := f) I.kIn (by rw [a.K]; exact M.makes) (by rw [a.K]; exact M.init) (by rw [a.K]; exact beq_iff_eq.mp M.fn) (codeAny_mono (runB a F (hr.here.make C us kw) tk J (hb _ KI) rr hq) fun res s' hz => ?_))
  cases res with
  | error e => exact hz
  | ok fl => cases fl with
    | ret u =>
      obtain ⟨v, H', I3, rv, rfl, q3⟩ := hz
      exact ⟨rv, ⟨.ref (s.heap.objs.size + 1), H', I3, rfl, q3⟩⟩
    | _ => exact hz.elim
def tMakeG (C : Addr) (sp : Sp) (ds : List V) (W : WX) (t : TA) : TE := fun σ H Q => t σ H fun vs H1 => ∀ y dy, H1 y = none → H1 dy = none → dy ≠ y →
  sp (.ref y :: (vs ++ ds)) (upd (upd H1 dy (.own y)) y (.ins C dy [])) (fun v H2 => v = .non ∧ Q (.ref y) H2) (fun c d H' => W c d σ H')
variable {x : Str}
theorem pe_makeG (F : Kc g x C k ps ds sp) (hr : Rm (k + 1) X) (tk : Takes X W) (ha : PA X (e :: es) t) (hg : Gl X x := by rfl) (hdb : (x == ("__debug__" : Str)) = false := by decide)
    (he : starEach (e :: es) X.env = (false, eval e X.env) :: starEach es X.env := by rfl) (hpl : (backTo pos (starEach es X.env)).any (·.1) = false := by rfl) (a : At g X := by exact ⟨rfl, rfl, rfl, rfl, rfl⟩) :
    PE X (.Call (.Name x p) (e :: es) [] pos) (tMakeG C sp ds W t) := by
  obtain ⟨hm, f, fd, dsV, M, F, hb, rd⟩ := F
  refine ⟨fun pins s σ H Q I h => wpAny_Call_Name_kw (ld_glob I hg (by rw [a.mg]; exact hm) ?_ hdb)⟩
  refine PySem.W.callWith_K (h₀ := X.base) I.ok.mod.kin (by rw [a.K]; exact M.kp) (thn (ha.run pos pins s σ H _ I h) ?_) he hpl
  rintro us s1 ⟨vs, H1, I1, r, q⟩
  have r2 := Vals.append r rd
  refine ⟨I1.kIn, makeG a M F hr tk rd I1 r2 (fun s' KI => ?_) q⟩
  have hl := F.len _ _ _ _ (q (s1.heap.objs.size + 1) s1.heap.objs.size (I1.hok.fresh (Nat.le_succ _)) (I1.hok.fresh (Nat.le_refl _)) (Nat.ne_of_lt (Nat.lt_succ_self _)))
  exact hb s' (.ref (s1.heap.objs.size + 1) :: us) KI (by
    rw [← hl]
    show (us ++ dsV).length + 1 = (vs ++ ds).length + 1
    rw [← r2.length])
theorem pe_makeG0 (F : Kc g x C k ps ds sp) (hr : Rm (k + 1) X) (tk : Takes X W) (hg : Gl X x := by rfl) (hdb : (x == ("__debug__" : Str)) = false := by decide) (a : At g X := by exact ⟨rfl, rfl, rfl, rfl, rfl⟩) :
    PE X (.Call (.Name x p) [] [] pos) (tMakeG C sp ds W tNil) := by
  obtain ⟨hm, f, fd, dsV, M, F, hb, rd⟩ := F
  refine ⟨fun pins s σ H Q I h => wpAny_Call_Name_kw (ld_glob I hg (by rw [a.mg]; exact hm) ?_ hdb)⟩
  refine PySem.W.callWith_K0 I.kIn (by rw [a.K]; exact M.kp) (makeG a M F hr tk rd I (vs := [] ++ ds) rd (fun s' KI => ?_) h)
  have hl := F.len _ _ _ _ (h (s.heap.objs.size + 1) s.heap.objs.size (I.hok.fresh (Nat.le_succ _)) (I.hok.fresh (Nat.le_refl _)) (Nat.ne_of_lt (Nat.lt_succ_self _)))
  exact hb s' [.ref (s.heap.objs.size + 1)] KI (by
    rw [← hl]
    show dsV.length + 1 = ds.length + 1
    rw [← rd.length])
end
end RS


namespace RS
open PySem PySem.Spec L2
section
variable {g : Wd} {X : Cx} {k : Nat} {f C : Addr} {fd : FuncData} {ps ks : List Str} {sp : Sp} {W : WX} {ds : List V} {x : Str} {p pos : Pos} {kws : List Keyword} {tk' : TA} {pm : List Nat}

/-! ### calls by keywords alone: pm tells which keyword's value each parameter gets -/
def Kk (g : Wd) (x : Str) (k : Nat) (ps ks : List Str) (pm : List Nat) (sp : Sp) : Prop :=
  ∃ f fd, g.mg x = some (.ref f) ∧ PySem.W.keepIn g.K (.ref f) = true ∧ FnG g k f fd ps sp ∧
    ∀ (s : Shared) (ws : List Value), ws.length = ks.length → BindsTo s fd ⟨[], ks.zip ws⟩ (ps.zip (pm.map fun i => ws.getD i .none))
theorem vals_getD {zs : List V} {ws : List Value} (r : Vals zs ws) (i : Nat) : RelV (zs.getD i .non) (ws.getD i .none) := by
  cases e : zs[i]? with
  | none =>
    have e2 := Vals.none_of r e
    rw [List.getD_eq_getElem?_getD, List.getD_eq_getElem?_getD, e, e2]
    exact rfl
  | some v =>
    obtain ⟨u, e2, rv⟩ := r.get e
    rw [List.getD_eq_getElem?_getD, List.getD_eq_getElem?_getD, e, e2]
    exact rv
theorem vals_pm {zs : List V} {ws : List Value} (r : Vals zs ws) : ∀ pm : List Nat, Vals (pm.map fun i => zs.getD i .non) (pm.map fun i => ws.getD i .none)
  | [] => .nil
  | i :: pm => .cons (vals_getD r i) (vals_pm r pm)
def tCallK (n : Nat) (sp : Sp) (pm : List Nat) (W : WX) (t : TA) : TE := fun σ H Q => t σ H fun zs H1 => zs.length = n ∧ sp (pm.map fun i => zs.getD i .non) H1 Q (fun c d H' => W c d σ H')
theorem pe_callK (F : Kk g x k ps ks pm sp) (hr : Rm k X) (tk : Takes X W) (hkw : PK X kws tk') (hg : Gl X x := by rfl)
    (hall : (backToKw pos (keywordEach kws X.env)).all (·.1.isSome) = true := by rfl) (hks : (backToKw pos (keywordEach kws X.env)).filterMap (·.1) = ks := by rfl) (hdb : (x == ("__debug__" : Str)) = false := by decide)
    (hpl : ((backTo pos (starEach [] X.env)).any (·.1) || (backToKw pos (keywordEach kws X.env)).any (·.1.isNone)) = false := by rfl) (a : At g X := by exact ⟨rfl, rfl, rfl, rfl, rfl⟩) :
    PE X (.Call (.Name x p) [] kws pos) (tCallK ks.length sp pm W tk') := by
  obtain ⟨f, fd, hm, hk, F, hb⟩ := F
  refine ⟨fun pins s σ H Q I h => wpAny_Call_Name_kw (ld_glob I hg (by rw [a.mg]; exact hm) ?_ hdb)⟩
  refine PySem.W.callWith_KW0 (h₀ := X.base) I.ok.mod.kin (by rw [a.K]; exact hk) hall (thn (hkw.run pos pins s σ H _ I h) ?_) hpl
  rintro ws s2 ⟨zs, H2, I2, rz, lz, q⟩
  refine ⟨I2.kIn, ?_⟩
  rw [hks]
  refine wpAny_call (codeAny_mono (runG a F hr tk I2 (hb s2 ws (by rw [← rz.length]; exact lz)) (vals_pm rz pm) q) fun res s' hq => ?_)
  cases res with
  | error e => exact hq
  | ok fl => cases fl with
    | ret u => exact hq
    | _ => exact hq.elim
/-- C(k = v, ..) -/
def Kck (g : Wd) (x : Str) (C : Addr) (k : Nat) (ps ks : List Str) (pm : List Nat) (sp : Sp) : Prop :=
  g.mg x = some (.ref C) ∧ ∃ f fd, Mk g.K C f ∧ FnG g k f fd ps sp ∧
    ∀ (s : Shared) (y : Value) (ws : List Value), ws.length = ks.length → BindsTo s fd ⟨[y], ks.zip ws⟩ (ps.zip (y :: pm.map fun i => ws.getD i .none))
def tMakeK (n : Nat) (C : Addr) (sp : Sp) (pm : List Nat) (W : WX) (t : TA) : TE := fun σ H Q => t σ H fun zs H1 => zs.length = n ∧ ∀ y dy, H1 y = none → H1 dy = none → dy ≠ y →
  sp (.ref y :: pm.map fun i => zs.getD i .non) (upd (upd H1 dy (.own y)) y (.ins C dy [])) (fun v H2 => v = .non ∧ Q (.ref y) H2) (fun c d H' => W c d σ H')
theorem pe_makeK (F : Kck g x C k ps ks pm sp) (hr : Rm (k + 1) X) (tk : Takes X W) (hkw : PK X kws tk') (hg : Gl X x := by rfl)
    (hall : (backToKw pos (keywordEach kws X.env)).all (·.1.isSome) = true := by rfl) (hks : (backToKw pos (keywordEach kws X.env)).filterMap (·.1) = ks := by rfl) (hdb : (x == ("__debug__" : Str)) = false := by decide)
    (hpl : ((backTo pos (starEach [] X.env)).any (·.1) || (backToKw pos (keywordEach kws X.env)).any (·.1.isNone)) = false := by rfl) (a : At g X := by exact ⟨rfl, rfl, rfl, rfl, rfl⟩) :
    PE X (.Call (.Name x p) [] kws pos) (tMakeK ks.length C sp pm W tk') := by
  obtain ⟨hm, f, fd, M, F, hb⟩ := F
  refine ⟨fun pins s σ H Q I h => wpAny_Call_Name_kw (ld_glob I hg (by rw [a.mg]; exact hm) ?_ hdb)⟩
  refine PySem.W.callWith_KW0 (h₀ := X.base) I.ok.mod.kin (by rw [a.K]; exact M.kp) hall (thn (hkw.run pos pins s σ H _ I h) ?_) hpl
  rintro ws s2 ⟨zs, H2, I2, rz, lz, q⟩
  refine ⟨I2.kIn, ?_⟩
  rw [hks]
  exact makeG a M F hr tk .nil I2 (vals_pm rz pm) (fun s' _ => hb s' _ ws (by rw [← rz.length]; exact lz)) q

/-! ### o.f as a target among others -/
def gFld (K : PySem.W.Frag) (ta : TE) (f : Str) : TG := fun v σ H Q => ta σ H fun x H1 => ∃ a C dx fs, x = .ref a ∧ H1 a = some (.ins C dx fs) ∧ Cls K C ∧ NoAttr K C f ∧ fs.length < 1000 ∧ Q σ (upd H1 a (.ins C dx (putF f v fs)))
theorem pg_fld {o : Expr} {fl : Str} {ta : TE} (ho : PE X o ta) : PG X (.Attribute o fl pos) (gFld X.K ta fl) := by
  refine ⟨fun pins s σ H v u Q I r h => ?_⟩
  rw [assign_Attribute]
  refine wpAny_bind (wpAny_holding (thn (ho.run pins s σ H _ I h) ?_))
  rintro ov s1 ⟨y, H1, I1, ry, a, C, dx, fs, rfl, ea, c, n, l, q⟩
  obtain rfl : ov = Value.ref a := ry
  refine wpAny_bind (wpAny_standAt (wpAny_bind (wpAny_holding ?_)))
  exact setattr_ok I1 ea c n l r fun s2 I2 => wpAny_release ⟨σ, _, I2, q⟩

/-! ### ==, !=, bool of an instance, by its own defs -/
theorem noRef_mro : ∀ T ∈ ["NoneType", "bool", "int", "str", "list", "tuple", "dict"], ((fastBuiltinMro T).any fun l => l.all fun v => match v with | .type _ => true | _ => false) = true := by decide +kernel
theorem notFirst_ty {K : PySem.W.Frag} {C : Addr} {T : String} (h : T ∈ ["NoneType", "bool", "int", "str", "list", "tuple", "dict"]) : PySem.W.notFirst K C (.type T) = true := by
  have e := noRef_mro T h
  unfold PySem.W.notFirst PySem.W.subIn
  cases q : fastBuiltinMro T with
  | none => rw [q] at e; cases e
  | some l =>
    rw [q] at e
    simp only [q]
    have e2 : l.contains (.ref C) = false := by
      rw [List.contains_eq_any_beq, List.any_eq_false]
      intro v hv
      have z := List.all_eq_true.mp (show (l.all fun v => match v with | .type _ => true | _ => false) = true from e) v hv
      cases v <;> first | (intro z2; cases z2; done) | (cases z; done) | skip
      all_goals simp
    show (_ || ((some l).map _ == some false)) = true
    rw [Option.map_some, e2]
    simp
/-- what may stand on the other side: a plain thing, or an instance of the same class -/
def Oth (C : Addr) (H : Hp) (y : V) : Prop := (∃ t, tyN y H = some t) ∨ ∃ b dx fs, y = .ref b ∧ H b = some (.ins C dx fs)
theorem oth_looks {pins : List (Addr × Obj)} {σ : L2.St} {H : Hp} {s : Shared} {y : V} {u : Value} (I : Inv X pins σ H s) (o : Oth C H y) (r : RelV y u) :
    ∃ tb, PySem.W.Looks (model X.prog X.w) s.heap (typeOf u) tb ∧ PySem.W.notFirst X.K C tb = true := by
  rcases o with ⟨t, ht⟩ | ⟨b, dx, fs, rfl, hb⟩
  · obtain ⟨ty, m⟩ := tyN_tyX (K := X.K) ht
    obtain ⟨P, Z, hp, _⟩ := kit_of I r ty
    exact ⟨.type t, Z.ty _ _ I.kIn hp, notFirst_ty m⟩
  · cases r
    obtain ⟨mA, J, _⟩ := ins_get I.hok hb
    obtain ⟨od, J, _⟩ := J.look
    exact ⟨.ref C, J.type, by simp [PySem.W.notFirst]⟩
def rEqOwn (C : Addr) (sp : Sp) (ds : List V) (W : WX) (neg : Bool) : L2.St → R2 := fun σ x y H Q => ∃ a dx fs, x = .ref a ∧ H a = some (.ins C dx fs) ∧ Oth C H y ∧
  sp ([x, y] ++ ds) H (fun v H' => ∃ b, v = .bl b ∧ Q (.bl (if neg then !b else b)) H') (fun c d H' => W c d σ H')
theorem run_eq (F : Km g C "__eq__" k ps ds sp) {B : Around} (hr : Rb k X B) (tk : Takes X W) (a : At g X) {pins : List (Addr × Obj)} {σ : L2.St} {H : Hp} {s : Shared} {y : V} {u : Value} {Q : Bool → Hp → Prop} {q dx : Addr} {fs : List (Str × V)}
    (I : Inv X pins σ H s) (ea : H q = some (.ins C dx fs)) (o : Oth C H y) (r : RelV y u) (h : sp ([.ref q, y] ++ ds) H (fun v H' => ∃ b, v = .bl b ∧ Q b H') (fun c d H' => W c d σ H')) :
    wpAny (model X.prog X.w) B (richCompare .Eq (.ref q) u) (fun v s' => ∃ b H', v = .bool b ∧ Inv X pins σ H' s' ∧ Q b H') X.xe s := by
  obtain ⟨f, fd, dsV, hf, hi, hk, F, hb, rd⟩ := F
  obtain ⟨tb, L, nf⟩ := oth_looks I o r
  obtain ⟨mA, J, _⟩ := ins_get I.hok ea
  obtain ⟨od, J, _⟩ := J.look
  obtain ⟨m, hF⟩ := I.fr
  refine PySem.W.cmp_K (op := .Eq) hr.room.units0 hF I.ok.mod.kin J L nf (by rw [a.K]; exact hf) (by rw [a.K]; exact hi) (wpAny_mono (callB a F hr tk hb rd (vs := [.ref q, y]) (us := [.ref q, u]) I (.cons rfl (.cons r .nil)) h) ?_ fun _ _ z => z)
  rintro v s' ⟨z, H', I', rz, b, rfl, hq⟩
  cases rz
  exact ⟨b, H', rfl, I', hq⟩
end
section
variable {g : Wd} {X : Cx} {k : Nat} {C : Addr} {ps : List Str} {sp : Sp} {W : WX} {ds : List V} {p pos : Pos} {a b : Expr} {ta tb : TE}
def tEqOwn (C : Addr) (sp : Sp) (ds : List V) (W : WX) (neg : Bool) (ta tb : TE) : TE := fun σ H Q => ta σ H fun x H1 => tb σ H1 fun y H2 => rEqOwn C sp ds W neg σ x y H2 Q
theorem c_eqOwn (F : Km g C "__eq__" k ps ds sp) (hr : Rm k X) (tk : Takes X W) (ha : PE X a ta) (hb : PE X b tb) (at_ : At g X := by exact ⟨rfl, rfl, rfl, rfl, rfl⟩) : PC X .Eq a b (tEqOwn C sp ds W false ta tb) := by
    refine ⟨fun pins s σ H Q I h => ?_⟩
    refine bin (R := fun x y H2 => rEqOwn C sp ds W false σ x y H2 Q) ha hb I h fun v u s2 x y H2 I2 rx ry q => ?_
    obtain ⟨q, dx, fs, rfl, ea, o, hs⟩ := q
    cases rx
    refine wpAny_mono (run_eq F hr.here tk at_ (Q := fun b H' => Q (.bl b) H') I2 ea o ry hs) ?_ fun _ _ z => z
    rintro v s' ⟨b, H', rfl, I', hq⟩
    exact ⟨.bl b, H', I', rfl, hq⟩
theorem e_eqOwn (F : Km g C "__eq__" k ps ds sp) (hr : Rm k X) (tk : Takes X W) (ha : PE X a ta) (hb : PE X b tb) (at_ : At g X := by exact ⟨rfl, rfl, rfl, rfl, rfl⟩) : PE X (.Compare a [.Eq] [b] pos) (tEqOwn C sp ds W false ta tb) := pe_cmp (c_eqOwn F hr tk ha hb at_) (nomark b)
theorem t_eqOwn (F : Km g C "__eq__" k ps ds sp) (hr : Rm k X) (tk : Takes X W) (ha : PE X a ta) (hb : PE X b tb) (at_ : At g X := by exact ⟨rfl, rfl, rfl, rfl, rfl⟩) : PT X (.Compare a [.Eq] [b] pos) (tB (tEqOwn C sp ds W false ta tb)) := pt_cmp (c_eqOwn F hr tk ha hb at_) (nomark b)
end
section
variable {g : Wd} {X : Cx} {k : Nat} {C : Addr} {ps : List Str} {sp : Sp} {W : WX} {ds : List V}

/-- what the written part says of != and bool of the class -/
structure Plain (g : Wd) (C : Addr) : Prop where
  ne : PySem.W.findIn g.K (.ref C) "__ne__" = some (some (.builtin "object.__ne__"))
  ob : PySem.W.mroIn g.K C (.type "object") = some true
end
end RS


namespace RS
open PySem PySem.Spec L2
section
variable {M : Model} {A : Around} {E : Value → Shared → Prop} {s : Shared} {K : PySem.W.Frag} {x C : Addr} {ox : Obj} {od : Option Obj} {name : Str} {id : String}
/-- a special method that is a built-in, where it is bound -/
theorem ifBound_B {args : List Value} {Q : Option Value → Shared → Prop} (KI : K.In s.heap) (I : PySem.W.InstAt s.heap x ox C od) (hs : PySem.W.findIn K (.ref C) name = some (some (.builtin id)))
    (hb : ∀ self, bindSpecial (.builtin id) self = pure (.builtin id, [self])) (h : wpAny M A (call (.builtin id) (.ref x :: args)) (fun v => Q (some v)) E s) : wpAny M A (callSpecialIfBound? (.ref x) name args) Q E s := by
  simp only [callSpecialIfBound?, bindSpecialIfBound?]
  refine wpAny_holding (wpAny_bind (wpAny_bind (wpAny_bind (I.type.here ((PySem.W.looks_findIn KI hs).here ?_)))))
  refine wpAny_bind (wpAny_askSetting (wpAny_ite ?_))
  have fin : wpAny M A (call (.builtin id) ([.ref x] ++ args) >>= fun v => pure (some v)) Q E s := wpAny_bind (wpAny_mono h (fun v s' h' => wpAny_pure h') fun _ _ h' => h')
  split
  · exact wpAny_bind ((PySem.W.Looks.of_pure (hb _)).here (wpAny_pure (by exact fin)))
  · exact wpAny_tryCatch (wpAny_bind ((PySem.W.Looks.of_pure (hb _)).here (wpAny_pure (by exact fin))))
end
section
variable {g : Wd} {X : Cx} {k : Nat} {C : Addr} {ps : List Str} {sp : Sp} {W : WX} {ds : List V} {p pos : Pos} {a b : Expr} {ta tb : TE}
theorem bind_ne : ∀ self, bindSpecial (.builtin "object.__ne__") self = pure (.builtin "object.__ne__", [self]) := fun self => (F.cmp_object.ne).bind self
theorem run_ne (F : Km g C "__eq__" k ps ds sp) (Pl : Plain g C) {B : Around} (hr : Rb (k + 1) X B) (tk : Takes X W) (at_ : At g X) {pins : List (Addr × Obj)} {σ : L2.St} {H : Hp} {s : Shared} {y : V} {u : Value} {Q : Bool → Hp → Prop} {q dx : Addr} {fs : List (Str × V)}
    (I : Inv X pins σ H s) (ea : H q = some (.ins C dx fs)) (o : Oth C H y) (r : RelV y u) (h : sp ([.ref q, y] ++ ds) H (fun v H' => ∃ b, v = .bl b ∧ Q (!b) H') (fun c d H' => W c d σ H')) :
    wpAny (model X.prog X.w) B (richCompare .NotEq (.ref q) u) (fun v s' => ∃ b H', v = .bool b ∧ Inv X pins σ H' s' ∧ Q b H') X.xe s := by
  obtain ⟨f, fd, dsV, hf, hi, hk, F, hb, rd⟩ := F
  obtain ⟨tb, L, nf⟩ := oth_looks I o r
  obtain ⟨mA, J, _⟩ := ins_get I.hok ea
  obtain ⟨od, J, _⟩ := J.look
  have KI : X.K.In s.heap := I.kIn
  have inner : wpAny (model X.prog X.w) B (tryCompare (.ref q) (cmpInfo .NotEq).2.1 u) (fun r s' => ∃ b H', r = some (.bool b) ∧ Inv X pins σ H' s' ∧ Q b H') X.xe s := by
    unfold tryCompare
    refine wpAny_bind (ifBound_B (id := "object.__ne__") KI J (by rw [at_.K]; exact Pl.ne) bind_ne ?_)
    refine wpAny_call (codeAny_call_builtin (PySem.F.cmp_object.ne).plain PySem.F.cmpEntry_ne (PySem.W.check_slot (i := "object.__ne__") (owner := "object") (n := "__ne__") PySem.F.cmpKind_ne PySem.F.cmpSplit_ne (J.type.andThen (PySem.W.looks_mroIn KI (by rw [at_.K]; exact Pl.ob))) (PySem.F.cmpArgs_ne _ _) ?_))
    unfold Builtin.«object.__ne__»
    refine wpAny_bind (wpAny_of_eq (a := (.ref q, [u])) (by first | rfl | kernel_rfl) ?_)
    refine wpAny_bind (wpAny_cRoomFor (hr.in1.room.units0) ?_)
    refine wpAny_bind (PySem.W.ifBound_K KI J (by rw [at_.K]; exact hf) (by rw [at_.K]; exact hi) (wpAny_mono (callB at_ F hr.in1 tk hb rd (vs := [.ref q, y]) (us := [.ref q, u]) I (.cons rfl (.cons r .nil)) h) ?_ fun _ _ z => z))
    rintro v s' ⟨z, H', I', rz, b, rfl, hq⟩
    cases rz
    refine wpAny_bind (wpAny_truthy_bool ?_)
    refine wpAny_pure ?_
    refine wpAny_pure ?_
    exact ⟨!b, H', rfl, I', hq⟩
  unfold richCompare
  simp only [oneThing_ref]
  refine wpAny_holding (wpAny_bind (wpAny_cRoomFor hr.room.units0 ?_))
  refine wpAny_bind (J.type.here (wpAny_bind (L.here ?_)))
  have rest : wpAny (model X.prog X.w) B (tryCompare (.ref q) (cmpInfo .NotEq).2.1 u) (fun r s' => ∃ v, r = some v ∧ ∃ b H', v = .bool b ∧ Inv X pins σ H' s' ∧ Q b H') X.xe s :=
    wpAny_mono inner (fun r s' ⟨b, H', e, z⟩ => ⟨_, e, b, H', rfl, z⟩) fun _ _ z => z
  split
  · rename_i ne
    have e : PySem.W.subIn X.K tb (.ref C) = some false := by
      rcases Bool.or_eq_true_iff.mp nf with e | e
      · rw [beq_iff_eq.mp e] at ne; simp at ne
      · exact beq_iff_eq.mp e
    refine wpAny_bind ((PySem.W.looks_subIn KI e).here ?_)
    simp only [Bool.false_eq_true, if_false]
    refine wpAny_bind (wpAny_mono rest ?_ fun _ _ z => z)
    rintro r s' ⟨v, rfl, z⟩
    exact wpAny_pure z
  · refine wpAny_bind (wpAny_pure ?_)
    simp only [Bool.false_eq_true, if_false]
    refine wpAny_bind (wpAny_mono rest ?_ fun _ _ z => z)
    rintro r s' ⟨v, rfl, z⟩
    exact wpAny_pure z
theorem c_neOwn (F : Km g C "__eq__" k ps ds sp) (Pl : Plain g C) (hr : Rm (k + 1) X) (tk : Takes X W) (ha : PE X a ta) (hb : PE X b tb) (at_ : At g X := by exact ⟨rfl, rfl, rfl, rfl, rfl⟩) : PC X .NotEq a b (tEqOwn C sp ds W true ta tb) := by
    refine ⟨fun pins s σ H Q I h => ?_⟩
    refine bin (R := fun x y H2 => rEqOwn C sp ds W true σ x y H2 Q) ha hb I h fun v u s2 x y H2 I2 rx ry q => ?_
    obtain ⟨q, dx, fs, rfl, ea, o, hs⟩ := q
    cases rx
    refine wpAny_mono (run_ne F Pl hr.here tk at_ (Q := fun b H' => Q (.bl b) H') I2 ea o ry hs) ?_ fun _ _ z => z
    rintro v s' ⟨b, H', rfl, I', hq⟩
    exact ⟨.bl b, H', I', rfl, hq⟩

theorem e_neOwn (F : Km g C "__eq__" k ps ds sp) (Pl : Plain g C) (hr : Rm (k + 1) X) (tk : Takes X W) (ha : PE X a ta) (hb : PE X b tb) (at_ : At g X := by exact ⟨rfl, rfl, rfl, rfl, rfl⟩) : PE X (.Compare a [.NotEq] [b] pos) (tEqOwn C sp ds W true ta tb) := pe_cmp (c_neOwn F Pl hr tk ha hb at_) (nomark b)
theorem t_neOwn (F : Km g C "__eq__" k ps ds sp) (Pl : Plain g C) (hr : Rm (k + 1) X) (tk : Takes X W) (ha : PE X a ta) (hb : PE X b tb) (at_ : At g X := by exact ⟨rfl, rfl, rfl, rfl, rfl⟩) : PT X (.Compare a [.NotEq] [b] pos) (tB (tEqOwn C sp ds W true ta tb)) := pt_cmp (c_neOwn F Pl hr tk ha hb at_) (nomark b)

/-! ### bool(o) by the own __bool__ -/
def rBoolOwn (C : Addr) (sp : Sp) (ds : List V) (W : WX) : L2.St → List V → Hp → VK → Prop := fun σ xs H Q => ∃ q dx fs, xs = [.ref q] ∧ H q = some (.ins C dx fs) ∧
  sp ([.ref q] ++ ds) H (fun v H' => ∃ b, v = .bl b ∧ Q (.bl b) H') (fun c d H' => W c d σ H')
def tBoolOwn (C : Addr) (sp : Sp) (ds : List V) (W : WX) (ta : TA) : TE := fun σ H Q => ta σ H fun xs H1 => rBoolOwn C sp ds W σ xs H1 Q
theorem e_boolOwn {e : Expr} {t : TA} (F : Km g C "__bool__" k ps ds sp) (hr : Rm (k + 2) X) (tk : Takes X W) (hm : X.mg "bool" = none) (ha : PA X [e] t) (hg : Gl X "bool" := by rfl)
    (he : starEach (e :: []) X.env = (false, eval e X.env) :: starEach [] X.env := by rfl) (hpl : (backTo pos (starEach [] X.env)).any (·.1) = false := by rfl) (at_ : At g X := by exact ⟨rfl, rfl, rfl, rfl, rfl⟩) :
    PE X (.Call (.Name "bool" p) [e] [] pos) (tBoolOwn C sp ds W t) := by
  obtain ⟨f, fd, dsV, hf, hi, hk, F, hb, rd⟩ := F
  refine ⟨fun pins s σ H Q I h => wpAny_Call_Name_kw (ld_blt (u := .type "bool") I hg hm (by decide +kernel) ?_ (by decide) (by decide))⟩
  refine PyProof.Rows.callWith_type1 (thn (ha.run pos pins s σ H _ I h) ?_) he hpl
  rintro us s1 ⟨vs, H1, I1, r1, q, dx, fs, rfl, ea, hs⟩
  obtain ⟨u, rfl, ru⟩ := vals1 r1
  cases ru
  obtain ⟨mA, J, _⟩ := ins_get I1.hok ea
  obtain ⟨od, J, _⟩ := J.look
  obtain ⟨m, hF⟩ := I1.fr
  have tr : wpAny (model X.prog X.w) X.A.in1.in1 (truthy (.ref q)) (fun b s' => ∃ H', Inv X pins σ H' s' ∧ Q (.bl b) H') X.xe s1 := by
    refine PySem.W.truthy_K hF I1.ok.mod.kin J (by rw [at_.K]; exact hf) (by rw [at_.K]; exact hi) (wpAny_mono (callB at_ F hr.here.in1.in1 tk hb rd (vs := [.ref q]) (us := [.ref q]) I1 (.cons rfl .nil) hs) ?_ fun _ _ z => z)
    rintro v s' ⟨z, H', I', rz, b, rfl, hq⟩
    cases rz
    exact ⟨H', I', hq⟩
  refine callType_newIn PySem.F.called_bool PySem.F.newNe_bool (PySem.F.typeCall_bool_1 _) (PySem.F.newCall_bool_1 _) (fun obj => PySem.F.args_object_init_2 obj _) PySem.F.entry_bool_new
    (S := fun A R s' => wpAny (model X.prog X.w) A.in1 (truthy (.ref q)) (fun b s2 => R (.ok (.ret (.bool b))) s2) (fun e s2 => R (.error e) s2) s') (MeetsIn.of_wp fun A R s' hs' => ?_) ?_
  · obtain ⟨hp, g', d', tk', os'⟩ := s'
    have f1 := PySem.F.conv_sub_bool
    repeat (any_goals (first | (with_reducible refine wpAny_bind (wpAny_mono hs' ?_ fun _ _ z => z)) | wp_step))
    all_goals (intro b s2 h2)
    all_goals exact wpAny_pure ⟨_, rfl, h2⟩
  · refine wpAny_mono tr ?_ fun _ _ z => z
    rintro b s' ⟨H', I', hq⟩
    exact ⟨typeIs_bool _ _, .bl b, H', I', rfl, hq⟩
end
end RS


namespace RS
open PySem PySem.Spec PyProof.Rows L2

/-- the law's call, from its promise, where no repr is under way -/
theorem lawG {P : Program} {w : World} {K : PySem.W.Frag} {mg mb : Str → Option Value} {k : Nat} {fa a : Addr} {fd : FuncData} {x : Str} {sp : Sp} {s₁ : Shared} {vs : List Value} {ns : List Int}
    (KX : K.In s₁.heap) (gl : s₁.heap.Ns mainGlobals mg) (bl : s₁.heap.Ns builtinsNs mb) (bb : ∀ x : Str, x ≠ "__name__" → mb x = bootBuiltins x) (lim : s₁.heap.NoLimit) (ge : s₁.gens = #[])
    (ha : s₁.heap.get? a = some { cls := .type "list", data := .seq vs.toArray }) (hi : IntsAre vs ns) (hl : ns.length ≤ sizeLine) (hr : Room k callerA)
    (F : ∀ base : Heap, K.In base → base.Ns mainGlobals mg → FnG ⟨P, w, K, mg, base⟩ k fa fd [x] sp) (bd : ∀ (s : Shared) (u : Value), BindsTo s fd ⟨[u], []⟩ [(x, u)])
    (hsp : ∀ H : Hp, Only H → SqL K H a (ns.map V.int) → sp [.ref a] H (fun v _ => v = .bl true) fun _ _ _ => False) :
    codeAny (model P w) callerA (.call (.ref fa) ⟨[.ref a], []⟩) (fun r s' => r = .ok (.ret (.bool true)) ∧ OldK s₁.heap s'.heap ∧ s'.os = s₁.os ∧ AllBare s'.gens) s₁ := by
  have rv := vals_ints hi
  -- H tracks the script, or nothing
  have go : ∀ H : Hp, Only H → SqL K H a (ns.map V.int) → HOk P w H s₁.heap → (∀ b o, s₁.heap.get? b = some o → (∃ u, H b = some u) → b = a ∧ K.lookup a = none) →
      codeAny (model P w) callerA (.call (.ref fa) ⟨[.ref a], []⟩) (fun r s' => r = .ok (.ret (.bool true)) ∧ OldK s₁.heap s'.heap ∧ s'.os = s₁.os ∧ AllBare s'.gens) s₁ := by
    intro H hO hS hok hA
    have free : ∀ {b : Addr} {o : Obj}, s₁.heap.get? b = some o → (∀ v n, o.data ≠ .seq v n) → H b = none := by
      intro b o e nd
      cases q : H b with
      | none => rfl
      | some u =>
        obtain ⟨rfl, _⟩ := hA b o e ⟨u, q⟩
        rw [ha] at e
        cases e
        exact absurd rfl (nd _ _)
    have ns1 : ∀ {b : Addr} {m : Str → Option Value}, s₁.heap.Ns b m → (hidT s₁.heap H).Ns b m := by
      rintro b m ⟨o, es, ep, e, d, r⟩
      exact ⟨o, es, ep, hidT_get e (free e fun v n z => by rw [d] at z; cases z), d, r⟩
    have K1 : K.In (hidT s₁.heap H) := by
      intro b o e
      refine hidT_get (KX b o e) ?_
      cases q : H b with
      | none => rfl
      | some u =>
        obtain ⟨rfl, z⟩ := hA b o (KX b o e) ⟨u, q⟩
        rw [z] at e
        cases e
    have md : Mod K mg (hidT s₁.heap H) := by
      obtain ⟨mc, l1, l2⟩ := lim
      exact ⟨K1, ns1 gl, ⟨mb, ns1 bl, bb⟩, mc, ns1 l1, l2⟩
    have e0 : Env0 P w K mg (hidT s₁.heap H) callerA [] s₁ H :=
      { frames := rfl, mod := md, bs := fun b o e => of_hidT e, bsz := Nat.le_of_eq (hidT_size _ _), funs := trivial, frf := fun b hb => (nomatch hb), hok := hok, bare := .of_eq ge }
    refine codeAny_mono ((F _ K1 (ns1 gl)).run callerA [] s₁ H ⟨[.ref a], []⟩ [.ref a] [.ref a] _ _ hr rfl e0 (bd s₁ (.ref a)) (.cons rfl .nil) (hsp H hO hS)) ?_
    rintro r s' h
    cases r with
    | error e =>
      obtain ⟨_, _, _, _, _, _, _, _, _, _, _, _, z⟩ := h
      exact z.elim
    | ok fl => cases fl with
      | ret u =>
        obtain ⟨v, H', os, bare, un, hok', r', q⟩ := h
        obtain rfl : v = .bl true := q
        obtain rfl : u = Value.bool true := r'
        refine ⟨rfl, OldK.of_keep fun b o e => ?_, os, bare⟩
        rcases hO b with z | ⟨ob, xs, z⟩
        · exact un.keep b o e z (fun y => (nomatch y)) (fun y => (nomatch y))
        · have z2 := un.frzs b ob _ z
          have e1 := (hok b _ z).1
          rw [e] at e1
          cases e1
          exact (hok' b _ z2).1
      | _ => exact h.elim
  cases hk : K.lookup a with
  | some o =>
    have e := KX a o hk
    rw [ha] at e
    cases e
    refine go (fun _ => none) (fun _ => .inl rfl) (.inr ⟨_, vs.toArray, _, hk, rfl, rfl, rfl, by rw [List.size_toArray, hi.length]; exact hl, by simpa using rv⟩) (fun b u z => nomatch z) fun b o _ z => ?_
    obtain ⟨u, z⟩ := z
    cases z
  | none =>
    refine go (upd (fun _ => none) a (.frz { cls := .type "list", data := .seq vs.toArray } (.lst (ns.map V.int)))) (fun b => ?_) (.inl (.inr ⟨_, upd_same⟩)) (fun b u z => ?_) fun b o e z => ?_
    · by_cases hb : b = a
      · subst hb; exact .inr ⟨_, _, upd_same⟩
      · exact .inl (upd_ne hb)
    · by_cases hb : b = a
      · subst hb
        rw [upd_same] at z
        cases z
        exact ⟨ha, by rw [List.length_map]; exact hl, vs, _, rv, ha⟩
      · rw [upd_ne hb] at z
        cases z
    · obtain ⟨u, z⟩ := z
      by_cases hb : b = a
      · exact ⟨hb, hk⟩
      · rw [upd_ne hb] at z
        cases z

/-- the goal that k_head leaves, from the law's promise -/
theorem walkG {l : PySem.W.OpenLaw} {n k : Nat} {q : Program} {loose : List Str} {XP : (Str → Option Value) → Heap → Prop} {YP : World → Heap → Prop} {d : DefRec} {K : Params → PySem.W.Frag} {sp : World → Sp} {x : Str}
    (hn : l.most = some n) (hn2 : n ≤ sizeLine) (hdf : d.params.defaults = []) (hr : Room k callerA)
    (hY : ∀ (w : World) (h : Heap), YP w h → (K w.params).In h)
    (F : ∀ (w : World) (mg : Str → Option Value) (fa : Addr) (h : Heap), (K w.params).In h → h.Ns mainGlobals mg → mg d.name = some (.ref fa) →
      ∃ fd : FuncData, (∀ (s : Shared) (u : Value), BindsTo s fd ⟨[u], []⟩ [(x, u)]) ∧
        ∀ base : Heap, (K w.params).In base → base.Ns mainGlobals mg → FnG ⟨l.prog, w, K w.params, mg, base⟩ k fa fd [x] (sp w))
    (hsp : ∀ (w : World) (H : Hp) (a : Addr) (ns : List Int), ns.length ≤ n → (∀ z ∈ ns, Builtin.Int.intBits z ≤ 1048576) → Only H → SqL (K w.params) H a (ns.map V.int) → sp w [.ref a] H (fun v _ => v = .bl true) fun _ _ _ => False) :
    PySem.W.WalkO q loose XP YP l.row.toRowW d [] (fun f vs => PySem.call f vs) := by
  refine Att.attach_callB hn hdf fun w s₀ s₁ mg mb fa o pm cd doc a vs ns G Y ho hd hcd hmg hobj hints hlen hbits hg => ?_
  obtain ⟨fd, hb, hF⟩ := F w mg fa _ (hY w _ Y) G.T.g hmg
  exact lawG (hY w _ Y) G.T.g G.T.b G.T.builtins G.T.nolimit hg hobj hints (Nat.le_trans hlen hn2) hr hF hb fun H hO hS => hsp w H a ns hlen hbits hO hS
end RS


namespace RS
open PySem PySem.Spec L2
/-- in a def's body: what is raised goes on to the caller -/
theorem tkD {g : Wd} {N : List Str} {qual : Str} {st : Stmt} {f : Addr} {cdv : Value} {A : Around} {outer : List Env} {s : Shared} {H : Hp} {E : XK} : Takes (cx g N qual st f cdv A outer s H E) (fun c d _ H' => E c d H') := takes_of rfl rfl rfl rfl
theorem psD {g : Wd} {N : List Str} {qual : Str} {st : Stmt} {f : Addr} {cdv : Value} {A : Around} {outer : List Env} {s : Shared} {H : Hp} {E : XK} :
    PassesOwn (model (cx g N qual st f cdv A outer s H E).prog (cx g N qual st f cdv A outer s H E).w) (cx g N qual st f cdv A outer s H E).A (cx g N qual st f cdv A outer s H E).env (cx g N qual st f cdv A outer s H E).xe := passes_of rfl
theorem bb_len : bootBuiltins "len" = some (.builtin "len") := by decide +kernel
theorem bb_isinstance : bootBuiltins "isinstance" = some (.builtin "isinstance") := by decide +kernel
theorem bb_sum : bootBuiltins "sum" = some (.builtin "sum") := by decide +kernel
theorem bb_ord : bootBuiltins "ord" = some (.builtin "ord") := by decide +kernel
theorem bb_abs : bootBuiltins "abs" = some (.builtin "abs") := by decide +kernel
theorem bb_repr : bootBuiltins "repr" = some (.builtin "repr") := by decide +kernel
theorem bb_all : bootBuiltins "all" = some (.builtin "all") := by decide +kernel
theorem bb_any : bootBuiltins "any" = some (.builtin "any") := by decide +kernel
theorem bb_sorted : bootBuiltins "sorted" = some (.builtin "sorted") := by decide +kernel
theorem bb_str : bootBuiltins "str" = some (.type "str") := by decide +kernel
theorem bb_int : bootBuiltins "int" = some (.type "int") := by decide +kernel
theorem bb_list : bootBuiltins "list" = some (.type "list") := by decide +kernel
theorem bb_tuple : bootBuiltins "tuple" = some (.type "tuple") := by decide +kernel
theorem bb_bool : bootBuiltins "bool" = some (.type "bool") := by decide +kernel
section
variable {X : Cx}
/-! ### an item, a slice of whatever -/
def rIxU (K : PySem.W.Frag) : R2 := fun x y H Q => match x, y with
  | .str z, .int i => z.length ≤ sizeLine ∧ ∃ c, atI z.cps.toList i = some c ∧ Q (.str ⟨#[c]⟩) H
  | .ref p, .int i => ∃ xs, (SqL K H p xs ∨ SqT K H p xs) ∧ ∃ v, atI xs i = some v ∧ Q v H
  | _, _ => False
theorem o_ix {K : PySem.W.Frag} (hK : X.K = K := by rfl) : IxR X (rIxU K) := by
  subst hK
  intro ve se pins s σ H x y v u Q I rx ry h hsub
  cases x <;> cases y <;> first
    | exact (show False from h).elim
    | (obtain ⟨h1, c, h2, q⟩ := h; exact ix_str ve se pins s σ H _ _ v u Q I rx ry ⟨_, _, c, rfl, rfl, h1, h2, q⟩ hsub)
    | skip
  obtain ⟨xs, hx | hx, w, h2, q⟩ := h
  · exact ix_list ve se pins s σ H _ _ v u Q I rx ry ⟨_, xs, _, w, rfl, rfl, hx, h2, q⟩ hsub
  · exact ix_tup ve se pins s σ H _ _ v u Q I rx ry ⟨_, xs, _, w, rfl, rfl, hx, h2, q⟩ hsub
def rSlU (K : PySem.W.Frag) : V → Option Int → Option Int → Hp → VK → Prop := fun x lo hi H Q => match x with
  | .str z => z.length ≤ sizeLine ∧ Q (.str (cutS z lo hi)) H
  | .ref p => rSlL K (.ref p) lo hi H Q ∨ rSlA K (.ref p) lo hi H Q
  | _ => False
theorem o_sl {K : PySem.W.Frag} (hK : X.K = K := by rfl) : SlR X (rSlU K) := by
  subst hK
  intro pins s σ H x v vl vu lo hi sl Q I rx hs pl pu h
  cases x <;> first
    | exact (show False from h).elim
    | exact sl_str pins s σ H _ v vl vu lo hi sl Q I rx hs pl pu ⟨_, rfl, h.1, h.2⟩
    | exact (show _ ∨ _ from h).elim (sl_list pins s σ H _ v vl vu lo hi sl Q I rx hs pl pu) (sl_tupA pins s σ H _ v vl vu lo hi sl Q I rx hs pl pu)

/-! ### rules that name the written part, with that part told -/
variable {K : PySem.W.Frag} {p pos tpos : Pos} {e o : Expr} {es : List Expr} {ta te : TE} {t : TA}
theorem c_sum (hK : X.K = K := by rfl) (hc : X.calm = true := by rfl) : CallR X (.builtin "sum") (rSum K) := by subst hK; exact cr_sum hc
theorem c_all (hK : X.K = K := by rfl) (hc : X.calm = true := by rfl) : CallR X (.builtin "all") (rAll K) := by subst hK; exact cr_all hc
theorem c_any (hK : X.K = K := by rfl) (hc : X.calm = true := by rfl) : CallR X (.builtin "any") (rAny K) := by subst hK; exact cr_any hc
theorem c_list (hK : X.K = K := by rfl) : CallR X (.type "list") (fun xs H Q => ∃ p ys, xs = [.ref p] ∧ (SqL K H p ys ∨ SqT K H p ys) ∧ ∀ l, H l = none → Q (.ref l) (upd H l (.lst ys))) := by subst hK; exact call_list_of
theorem c_isi (hK : X.K = K := by rfl) : CallR X (.builtin "isinstance") (rIsi K) := by subst hK; exact call_isi
theorem e_fld {f : Str} (he : PE X e ta) (hb : attributeBase e f X.env (eval e X.env) = eval e X.env := by rfl) (hK : X.K = K := by rfl) : PE X (.Attribute e f pos) (tFld K ta f) := by subst hK; exact pe_fld he hb
theorem t_truth (ha : PE X e ta) (he : ∀ whole, isTrue e X.env whole = (do let v ← whole; standAt e.pos; holding [v] (truthy v)) := by intro _; rfl) (hK : X.K = K := by rfl) :
    PT X e (fun σ H Q => ta σ H fun x H' => ∃ k, TruV K x H' k ∧ Q k H') := by subst hK; exact pt_truth ha he
theorem g_tup {k : Nat} {t : TGs} {n : Nat} (h : PGs X es t) (hc : X.calm = true := by rfl) (hn : (assignEach es X.env).length = n := by rfl) (hst : (assignEach es X.env).findIdx? (·.1) = none := by rfl) (hK : X.K = K := by rfl) :
    PG X (.Tuple es k pos) (gTup K n t) := by subst hK; exact pg_tup hc h hn hst
theorem g_fld {fl : Str} (ho : PE X o ta) (hK : X.K = K := by rfl) : PG X (.Attribute o fl pos) (gFld K ta fl) := by subst hK; exact pg_fld ho
theorem e_bm {T id : String} {name : Str} {apos cpos : Pos} {to : TE} {r : V → List V → Hp → VK → Prop} (pa : PlainAttrs T) (slot : Slot T name id) (hty : typeOf (.builtin id) = pure (.type "method_descriptor")) (hm : MtR X id r) (ho : PE X o to) (ha : PA X (e :: es) t)
    (hbase : attributeBase o name X.env (eval o X.env) = eval o X.env := by rfl)
    (hfew : ((backTo cpos (starEach (e :: es) X.env)).all (fun x => !x.1) && (backToKw cpos (keywordEach [] X.env)).all (fun x => x.1.isSome)
      && decide ((e :: es).length + ([] : List Keyword).length + (if ([] : List Keyword).isEmpty then 0 else 1) < 30)) = true := by rfl)
    (hline : (apos.endLine == cpos.line) = true := by rfl) (hs : starEach (e :: es) X.env = (false, eval e X.env) :: starEach es X.env := by rfl) (hplain : (backTo cpos (starEach es X.env)).any (·.1) = false := by rfl) (hK : X.K = K := by rfl) :
    PE X (.Call (.Attribute o name apos) (e :: es) [] cpos) (tBM K T r to t) := by subst hK; exact pe_bm pa slot hty hm ho ha hbase hfew hline hs hplain
theorem i_list {tg : Expr} (hl : PE X e te) (hK : X.K = K := by rfl) : PI X tg e (iList K te) := by subst hK; exact pi_list hl
theorem i_tup {tg : Expr} (hl : PE X e te) (hK : X.K = K := by rfl) : PI X tg e (iTup K te) := by subst hK; exact pi_tup hl
theorem i_enum {kk : Nat} (hm : X.mg "enumerate" = none) (ha : PA X [e] t) (hg : Gl X "enumerate" := by rfl) (hs : starEach [e] X.env = [(false, eval e X.env)] := by rfl) (hK : X.K = K := by rfl) :
    PI X (.Tuple es kk tpos) (.Call (.Name "enumerate" p) [e] [] pos) (iEnum K t) := by subst hK; exact pi_enum hg hm ha hs
theorem s_fld {f : Str} {value : Expr} {tv : TE} {pos' : Pos} (ha : PE X o ta) (hv : PE X value tv) (hs : swapsWith value (some (.Attribute o f pos')) pos.line X.env = pure false := by rfl) (hK : X.K = K := by rfl) :
    PS X (.Assign [.Attribute o f pos'] value pos) (sFld K ta tv f) := by subst hK; exact ps_fld ha hv hs
end
end RS


namespace RS
open PySem PySem.Spec L2

theorem same_new {H H1 : Hp} {p : Addr} {o : HO} (h : Same H H1) (n : H1 p = none) : Same H (upd H1 p o) := fun b u e => by
  rw [upd_ne (ne_of_none (h b u e) n)]; exact h b u e
theorem same_upd {H : Hp} {p : Addr} {o : HO} (n : H p = none) : Same H (L2.upd H p o) := same_new (Same.refl H) n

/-! ### the inside of a loop and of a comprehension, behind what is walked -/
def ForB (J : It) (g : TG) (tb : TS) (D : Ends) (σ : L2.St) (H : Hp) : Prop := ∃ W : Nat → Nat → L2.St → Hp → Prop, (∃ m, W 0 m σ H) ∧ ∀ i m σ H, W i m σ H →
  (J.stop i H ∧ D.nx σ H) ∨ (J.go i H ∧ ∃ N : L2.St → Hp → Prop, (∀ σ' H', N σ' H' → ∃ m', m' < m ∧ W (i + 1) m' σ' H') ∧ ∀ x H', J.yld i H x H' → g x σ H' fun σ2 H2 => tb { D with nx := N, ct := N, bk := D.nx } σ2 H2)
theorem tFor_eq (wi : TI) (g : TG) (tb : TS) (D : Ends) (σ : L2.St) (H : Hp) : tFor wi g tb D σ H = wi σ H fun J H1 => ForB J g tb D σ H1 := rfl
def LcB (J : It) (g : TG) (tt : TT) (te : TE) (vs : List Nat) (σ : L2.St) (H1 : Hp) (Q : VK) : Prop := ∀ D, H1 D = none → ∃ W : Nat → Nat → Hp → Prop, (∃ m, W 0 m (upd H1 D (.lst []))) ∧ ∀ i m H, W i m H →
  (J.stop i H ∧ Q (.ref D) H) ∨ (J.go i H ∧ ∃ Nx : Hp → Prop, (∀ H', Nx H' → ∃ m', m' < m ∧ W (i + 1) m' H') ∧ ∀ x H', J.yld i H x H' → g x (wipe σ vs) H' fun σ2 H2 => wipe σ2 vs = wipe σ vs ∧ tt σ2 H2 fun b H3 =>
    if b = true then te σ2 H3 fun y H4 => ∃ acc, H4 D = some (.lst acc) ∧ acc.length < sizeLine ∧ Nx (upd H4 D (.lst (acc ++ [y]))) else Nx H3)
theorem tLc_eq (wi : TI) (g : TG) (tt : TT) (te : TE) (vs : List Nat) (σ : L2.St) (H : Hp) (Q : VK) : tLc wi g tt te vs σ H Q = wi σ H fun J H1 => LcB J g tt te vs σ H1 Q := rfl

/-! ### for over n items that are told by their index -/
theorem for_by {J : It} {g : TG} {tb : TS} {D : Ends} {σ : L2.St} {H : Hp} (n : Nat) (Pv : Nat → L2.St → Hp → Prop) (h0 : Pv 0 σ H) (hgo : ∀ i σ H, i < n → Pv i σ H → J.go i H) (hst : ∀ σ H, Pv n σ H → J.stop n H)
    (hs : ∀ i σ H x H', i < n → Pv i σ H → J.yld i H x H' → g x σ H' fun σ2 H2 => tb { D with nx := Pv (i + 1), ct := Pv (i + 1), bk := D.nx } σ2 H2) (hd : ∀ σ H, Pv n σ H → D.nx σ H) :
    ForB J g tb D σ H := by
  refine ⟨fun i m σ H => m = n - i ∧ i ≤ n ∧ Pv i σ H, ⟨n, by omega, Nat.zero_le _, h0⟩, ?_⟩
  rintro i m σ H ⟨rfl, hi, p⟩
  by_cases lt : i < n
  · exact .inr ⟨hgo i σ H lt p, Pv (i + 1), fun σ' H' p' => ⟨n - (i + 1), by omega, rfl, lt, p'⟩, fun x H' y => hs i σ H x H' lt p y⟩
  · have e : i = n := by omega
    subst e
    exact .inl ⟨hst σ H p, hd σ H p⟩

/-! ### a list comprehension over n items: the list of what is kept -/
theorem lc_kept {J : It} {g : TG} {tt : TT} {te : TE} {vs : List Nat} {σ : L2.St} {H1 : Hp} {Qf : VK} (n : Nat) (kept : Nat → Option V) (hn : n ≤ sizeLine)
    (hgo : ∀ i H, i < n → Same H1 H → J.go i H) (hst : ∀ H, Same H1 H → J.stop n H)
    (hs : ∀ i H x H' (K : VK) (K0 : Hp → Prop), i < n → Same H1 H → J.yld i H x H' → (∀ v H4, kept i = some v → Same H H4 → K v H4) → (kept i = none → ∀ H4, Same H H4 → K0 H4) →
      g x (wipe σ vs) H' fun σ2 H2 => wipe σ2 vs = wipe σ vs ∧ tt σ2 H2 fun b H3 => if b = true then te σ2 H3 K else K0 H3)
    (hd : ∀ D H, H1 D = none → Same H1 H → H D = some (.lst ((List.range n).filterMap kept)) → Qf (.ref D) H) :
    LcB J g tt te vs σ H1 Qf := by
  intro D hD
  have len : ∀ i, ((List.range i).filterMap kept).length ≤ i := fun i => Nat.le_trans (List.length_filterMap_le _ _) (by rw [List.length_range]; exact Nat.le_refl _)
  have succ : ∀ i, (List.range (i + 1)).filterMap kept = (List.range i).filterMap kept ++ (match kept i with | some v => [v] | none => []) := fun i => by
    rw [List.range_succ, List.filterMap_append]
    cases e : kept i <;> simp [List.filterMap_cons, e]
  let Pv : Nat → Hp → Prop := fun i H => Same H1 H ∧ H D = some (.lst ((List.range i).filterMap kept))
  have store : ∀ i H4 v, Same H1 H4 → H4 D = some (.lst ((List.range i).filterMap kept)) → kept i = some v → Pv (i + 1) (upd H4 D (.lst ((List.range i).filterMap kept ++ [v]))) := fun i H4 v s e k =>
    ⟨fun b o q => by rw [upd_ne (ne_of_none q hD)]; exact s b o q, by rw [upd_same, succ, k]⟩
  refine ⟨fun i m H => m = n - i ∧ i ≤ n ∧ Pv i H, ⟨n, by omega, Nat.zero_le _, fun b o q => by rw [upd_ne (ne_of_none q hD)]; exact q, upd_same⟩, ?_⟩
  rintro i m H ⟨rfl, hi, s, eD⟩
  by_cases lt : i < n
  · refine .inr ⟨hgo i H lt s, Pv (i + 1), fun H' p' => ⟨n - (i + 1), by omega, rfl, lt, p'⟩, fun x H' y => ?_⟩
    refine hs i H x H' _ (Pv (i + 1)) lt s y (fun v H4 k s4 => ⟨_, s4 D _ eD, by have := len i; omega, store i H4 v (s.trans s4) (s4 D _ eD) k⟩) fun k H4 s4 => ⟨s.trans s4, ?_⟩
    rw [succ, k, s4 D _ eD, List.append_nil]
  · have e : i = n := by omega
    subst e
    exact .inl ⟨hst H s, hd D H hD s eD⟩
/-- .. where all are kept -/
theorem lc_all {J : It} {g : TG} {te : TE} {vs : List Nat} {σ : L2.St} {H1 : Hp} {Qf : VK} (n : Nat) (val : Nat → V) (hn : n ≤ sizeLine)
    (hgo : ∀ i H, i < n → Same H1 H → J.go i H) (hst : ∀ H, Same H1 H → J.stop n H)
    (hs : ∀ i H x H' (K : VK), i < n → Same H1 H → J.yld i H x H' → (∀ H4, Same H H4 → K (val i) H4) →
      g x (wipe σ vs) H' fun σ2 H2 => wipe σ2 vs = wipe σ vs ∧ te σ2 H2 K)
    (hd : ∀ D H, H1 D = none → Same H1 H → H D = some (.lst ((List.range n).map val)) → Qf (.ref D) H) :
    LcB J g tYes te vs σ H1 Qf := by
  refine lc_kept n (fun i => some (val i)) hn hgo hst (fun i H x H' K K0 lt s y k _ => ?_) (fun D H h1 h2 h3 => hd D H h1 h2 ?_)
  · have e : (fun (σ2 : L2.St) (H2 : Hp) => wipe σ2 vs = wipe σ vs ∧ tYes σ2 H2 fun b H3 => if b = true then te σ2 H3 K else K0 H3) = fun σ2 H2 => wipe σ2 vs = wipe σ vs ∧ te σ2 H2 K := by
      funext σ2 H2
      simp only [tYes, if_true]
    rw [e]
    exact hs i H x H' K lt s y fun H4 s4 => k _ H4 rfl s4
  · rw [h3]
    congr 2
    rw [show (fun i => some (val i)) = some ∘ val from rfl, ← List.filterMap_eq_map]
end RS


namespace RS
open PySem PySem.Spec L2
section
variable {K : PySem.W.Frag} {H : Hp} {Q : VK} {i j : Int} {a b z : Str} {p q : Addr} {c d : Bool} {x : V}
theorem add_ii : rAdd K (.int i) (.int j) H Q = Q (.int (i + j)) H := rfl
theorem add_ss : rAdd K (.str a) (.str b) H Q = (a.length + b.length ≤ sizeLine ∧ Q (.str (a ++ b)) H) := rfl
theorem add_rr : rAdd K (.ref p) (.ref q) H Q = (rCat (.ref p) (.ref q) H Q ∨ rCatA K (.ref p) (.ref q) H Q) := rfl
theorem mul_ii : rMul (.int i) (.int j) H Q = (CMul i j ∧ Q (.int (i * j)) H) := rfl
theorem mul_si : rMul (.str a) (.int i) H Q = (i < 2 ^ 31 ∧ -(2 ^ 31) < i ∧ a.length * i.toNat ≤ sizeLine ∧ Q (.str (repS a i.toNat)) H) := rfl
theorem mul_ri : rMul (.ref p) (.int i) H Q = rRep (.ref p) (.int i) H Q := rfl
theorem eq_of {x y : V} {k : Bool} (h : scal x y = true) (e : decide (x = y) = k) : rEq x y H Q = Q (.bl k) H := by
  unfold rEq; rw [h, e]; simp
theorem ne_of' {x y : V} {k : Bool} (h : scal x y = true) (e : decide (x = y) = k) : rNe x y H Q = Q (.bl (!k)) H := by
  unfold rNe; rw [h, e]; simp
theorem eq_ii : rEqU K (.int i) (.int j) H Q = Q (.bl (decide (i = j))) H := eq_of rfl (by simp)
theorem eq_ss : rEqU K (.str a) (.str b) H Q = Q (.bl (decide (a = b))) H := eq_of rfl (by simp)
theorem eq_bb : rEqU K (.bl c) (.bl d) H Q = Q (.bl (decide (c = d))) H := eq_of rfl (by simp)
theorem eq_nn : rEqU K .non .non H Q = Q (.bl true) H := eq_of rfl (by simp)
theorem eq_sn : rEqU K (.str a) .non H Q = Q (.bl false) H := eq_of rfl (by simp)
theorem eq_ns : rEqU K .non (.str a) H Q = Q (.bl false) H := eq_of rfl (by simp)
theorem eq_in : rEqU K (.int i) .non H Q = Q (.bl false) H := eq_of rfl (by simp)
theorem eq_ni : rEqU K .non (.int i) H Q = Q (.bl false) H := eq_of rfl (by simp)
theorem eq_bn : rEqU K (.bl c) .non H Q = Q (.bl false) H := eq_of rfl (by simp)
theorem eq_nb : rEqU K .non (.bl c) H Q = Q (.bl false) H := eq_of rfl (by simp)
theorem eq_is : rEqU K (.int i) (.str a) H Q = Q (.bl false) H := eq_of rfl (by simp)
theorem eq_si : rEqU K (.str a) (.int i) H Q = Q (.bl false) H := eq_of rfl (by simp)
theorem eq_rr : rEqU K (.ref p) (.ref q) H Q = rEqD K (.ref p) (.ref q) H Q := rfl
theorem ne_ii : rNeU K (.int i) (.int j) H Q = Q (.bl (!decide (i = j))) H := ne_of' rfl (by simp)
theorem ne_ss : rNeU K (.str a) (.str b) H Q = Q (.bl (!decide (a = b))) H := ne_of' rfl (by simp)
theorem ne_bb : rNeU K (.bl c) (.bl d) H Q = Q (.bl (!decide (c = d))) H := ne_of' rfl (by simp)
theorem ne_nn : rNeU K .non .non H Q = Q (.bl false) H := ne_of' (k := true) rfl (by simp)
theorem ne_sn : rNeU K (.str a) .non H Q = Q (.bl true) H := ne_of' (k := false) rfl (by simp)
theorem ne_ns : rNeU K .non (.str a) H Q = Q (.bl true) H := ne_of' (k := false) rfl (by simp)
theorem ne_in : rNeU K (.int i) .non H Q = Q (.bl true) H := ne_of' (k := false) rfl (by simp)
theorem ne_ni : rNeU K .non (.int i) H Q = Q (.bl true) H := ne_of' (k := false) rfl (by simp)
theorem ne_is : rNeU K (.int i) (.str a) H Q = Q (.bl true) H := ne_of' (k := false) rfl (by simp)
theorem ne_si : rNeU K (.str a) (.int i) H Q = Q (.bl true) H := ne_of' (k := false) rfl (by simp)
theorem ne_rr : rNeU K (.ref p) (.ref q) H Q = rNeD K (.ref p) (.ref q) H Q := rfl
theorem in_ss : rInU K (.str a) (.str b) H Q = Q (.bl (hasS a b)) H := rfl
theorem in_r : rInU K x (.ref p) H Q = ∃ xs, (SqL K H p xs ∨ SqT K H p xs) ∧ flatV x = true ∧ xs.all flatV = true ∧ Q (.bl (inV x xs)) H := by
  cases x <;> simp [rInU, rIn]
theorem nin_ss : rNinU K (.str a) (.str b) H Q = Q (.bl (!hasS a b)) H := rfl
theorem nin_r : rNinU K x (.ref p) H Q = ∃ xs, (SqL K H p xs ∨ SqT K H p xs) ∧ flatV x = true ∧ xs.all flatV = true ∧ Q (.bl (!inV x xs)) H := by
  cases x <;> simp [rNinU, rIn]
theorem len_s : rLen K [.str a] H Q = (a.length ≤ sizeLine ∧ Q (.int a.length) H) := rfl
theorem len_r : rLen K [.ref p] H Q = ((∃ xs, (SqL K H p xs ∨ SqT K H p xs) ∧ Q (.int xs.length) H) ∨ ∃ kvs, H p = some (.dK kvs) ∧ Q (.int kvs.length) H) := rfl
theorem ix_s : rIxU K (.str a) (.int i) H Q = (a.length ≤ sizeLine ∧ ∃ c, atI a.cps.toList i = some c ∧ Q (.str ⟨#[c]⟩) H) := rfl
theorem ix_r : rIxU K (.ref p) (.int i) H Q = ∃ xs, (SqL K H p xs ∨ SqT K H p xs) ∧ ∃ v, atI xs i = some v ∧ Q v H := rfl
theorem sl_s {lo hi : Option Int} : rSlU K (.str a) lo hi H Q = (a.length ≤ sizeLine ∧ Q (.str (cutS a lo hi)) H) := rfl
theorem sl_r {lo hi : Option Int} : rSlU K (.ref p) lo hi H Q = (rSlL K (.ref p) lo hi H Q ∨ rSlA K (.ref p) lo hi H Q) := rfl
theorem is_eq {T T' : String} : rIs T [x, .ty T'] H Q = (T' = T ∧ ∃ t, tyN x H = some t ∧ Q (.bl (isB t T)) H) := rfl
theorem tyN_n : tyN .non H = some "NoneType" := rfl
theorem tyN_b : tyN (.bl c) H = some "bool" := rfl
theorem tyN_i : tyN (.int i) H = some "int" := rfl
theorem tyN_s : tyN (.str a) H = some "str" := rfl
theorem tru_b {k : Bool} : TruV K (.bl c) H k = (k = c) := rfl
theorem tru_i {k : Bool} : TruV K (.int i) H k = (k = (i != 0)) := rfl
theorem tru_n {k : Bool} : TruV K .non H k = (k = false) := rfl
end
/-- a tuple or a list that stands in H -/
theorem isL {K : PySem.W.Frag} {H : Hp} {a : Addr} {xs : List V} (h : H a = some (.lst xs)) : SqL K H a xs := SqL.of h
theorem isT {K : PySem.W.Frag} {H : Hp} {a : Addr} {xs : List V} (h : H a = some (.tup xs)) : SqT K H a xs := SqT.of h
end RS


/-! texts as lists of their signs -/
namespace RS
open PySem PySem.Spec L2
open SX (S S_len S_cat S_tl S_inj)
theorem sIx_nat (n d : Nat) {i : Int} (h : 0 ≤ i) : HT.sIx n d (some i) = min i.toNat n := by
  unfold HT.sIx
  simp only
  split <;> omega
theorem cut_to (a : List Nat) {i : Int} (h : 0 ≤ i) : cutS (S a) none (some i) = S (a.take i.toNat) := by
  unfold cutS
  rw [sIx_nat _ _ h, S_len]
  show (⟨_⟩ : Str) = _
  congr 2
  simp [HT.sIx]
theorem cut_from (a : List Nat) {i : Int} (h : 0 ≤ i) : cutS (S a) (some i) none = S (a.drop i.toNat) := by
  unfold cutS
  rw [sIx_nat _ _ h, S_len]
  show (⟨_⟩ : Str) = _
  congr 2
  simp only [HT.sIx]
  by_cases c : i.toNat ≤ a.length
  · rw [Nat.min_eq_left c, List.take_of_length_le (by simp)]
  · rw [Nat.min_eq_right (by omega), List.drop_of_length_le (Nat.le_refl _), List.drop_of_length_le (by omega)]; simp
theorem cut_both (a : List Nat) {i j : Int} (h : 0 ≤ i) (h2 : 0 ≤ j) : cutS (S a) (some i) (some j) = S ((a.drop i.toNat).take (j.toNat - i.toNat)) := by
  unfold cutS
  rw [sIx_nat _ _ h, sIx_nat _ _ h2, S_len]
  show (⟨_⟩ : Str) = _
  congr 2
  by_cases c : i.toNat ≤ a.length
  · rw [Nat.min_eq_left c, List.take_eq_take_iff]; simp; omega
  · rw [show min i.toNat a.length = a.length by omega, List.drop_of_length_le (Nat.le_refl _), List.drop_of_length_le (by omega)]; simp
theorem rep_S (a : List Nat) (n : Nat) : repS (S a) n = S (List.replicate n a).flatten := rfl
theorem rep_one (c n : Nat) : repS (S [c]) n = S (List.replicate n c) := by
  rw [rep_S]
  congr 2
  induction n with
  | zero => rfl
  | succ n ih => rw [List.replicate_succ, List.flatten_cons, ih, List.replicate_succ]; rfl
theorem has_one (c : Nat) (a : List Nat) : hasS (S [c]) (S a) = decide (c ∈ a) := SX.in_one a c
theorem S_eq {a b : List Nat} : (S a = S b) = (a = b) := propext ⟨S_inj, fun h => by rw [h]⟩
theorem at_lt {a : List Nat} {i : Nat} (h : i < a.length) : atI (S a).cps.toList (i : Int) = some (a.getD i 0) := by
  refine atI_nat ?_
  show a.toArray.toList[i]? = _
  rw [List.getD_eq_getElem?_getD, List.getElem?_eq_getElem (by simpa using h)]
  simp
theorem num_int {i : Int} (h : 0 ≤ i) : (Str.ofString (toString i)) = S (TL.numL i.toNat) := by
  obtain ⟨n, rfl⟩ := Int.eq_ofNat_of_zero_le h
  exact SX.num_S n
theorem ofS_tl (a : String) : (Str.ofString a).cps.toList = a.toList.map Char.toNat := PyProof.Rows.signs_ofString a
theorem ofS_eq {a b : String} : (Str.ofString a = Str.ofString b) = (a = b) := by
  refine propext ⟨fun h => ?_, fun h => by rw [h]⟩
  have e : a.toList.map Char.toNat = b.toList.map Char.toNat := by rw [← ofS_tl, ← ofS_tl, h]
  have inj : ∀ l m : List Char, l.map Char.toNat = m.map Char.toNat → l = m := by
    intro l
    induction l with
    | nil => intro m h; cases m with | nil => rfl | cons => simp at h
    | cons c l ih =>
      intro m h
      cases m with
      | nil => simp at h
      | cons d m =>
        simp only [List.map_cons, List.cons.injEq] at h
        rw [ih m h.2, show c = d from Char.toNat_inj.mp h.1]
  exact String.toList_inj.mp (inj _ _ e)
theorem lk_nil {a : Str} : List.lookup a ([] : List (Str × V)) = none := rfl
theorem lk_cons {a k : Str} {v : V} {es : List (Str × V)} : List.lookup a ((k, v) :: es) = if a = k then some v else List.lookup a es := by
  rw [List.lookup_cons]
  by_cases h : a = k
  · subst h; simp
  · rw [if_neg h, beq_eq_false_iff_ne.mpr h]
theorem pu_nil {f : Str} {v : V} : putF f v [] = [(f, v)] := rfl
theorem pu_cons {f k : Str} {v x : V} {r : List (Str × V)} : putF f v ((k, x) :: r) = if k = f then (k, v) :: r else (k, x) :: putF f v r := rfl
theorem sq_new {K : PySem.W.Frag} {H : Hp} {p : Addr} {xs : List V} : SqT K (upd H p (.tup xs)) p xs := SqT.of upd_same
theorem ty_ins {K : PySem.W.Frag} {H : Hp} {a C dx : Addr} {fs : List (Str × V)} (c : C8.InsC K C) (e : H a = some (.ins C dx fs)) : TyX K H (.ref a) (.ref C) := .base (.ins e c.cl c.ha c.hn c.htk c.hm)
theorem isi_ins {K : PySem.W.Frag} {H : Hp} {Q : VK} {a C D dx : Addr} {fs : List (Str × V)} {b : Bool} (c : C8.InsC K C) (e : H a = some (.ins C dx fs)) (k : PySem.W.kitOne K (.ref C) (.ref D) = some b) (q : Q (.bl b) H) : rIsi K [.ref a, .ref D] H Q :=
  ⟨_, _, _, _, _, rfl, .own D, ty_ins c e, k, q⟩
theorem isi_of {K : PySem.W.Frag} {H : Hp} {Q : VK} {x : V} {D : Addr} {t : String} {b : Bool} (e : tyN x H = some t) (k : PySem.W.kitOne K (.type t) (.ref D) = some b) (q : Q (.bl b) H) : rIsi K [x, .ref D] H Q :=
  ⟨_, _, _, _, _, rfl, .own D, (tyN_tyX e).1, k, q⟩
/-- repr of what is small -/
theorem repr_by {K : PySem.W.Frag} {H : Hp} {Q : VK} {a : Addr} (d : PyData) (h : Dp K H (.ref a) d) (h1 : d.showable = true) (h2 : d.depth ≤ 60) (h3 : d.leavesShort 13 = true) (h4 : d.weight ≤ 2 ^ 20) (q : Q (.str d.shown) H) : rRepr K [.ref a] H Q :=
  ⟨a, d, rfl, h, h1, h2, PyData.shown_fits (by decide) (by decide) h3 h4, q⟩
end RS


namespace RS
open PySem PySem.Spec L2
/-- the class at C has the property n, which hands the field f -/
def Pr (g : Wd) (C : Addr) (n f : Str) : Prop := ∃ p gt fd, PropOf g.K C n p gt ∧ FnOk g.P g.w g.K g.mg g.base C8.CX0 1 gt fd ["self"] (getSp C f) ∧ Binds g.K fd ["self"] []
def tPr (C : Addr) (f : Str) (ta : TE) : TE := fun σ H Q => ta σ H fun x H1 => ∃ a dx fs v, x = .ref a ∧ H1 a = some (.ins C dx fs) ∧ fs.lookup f = some v ∧ Q v H1
theorem e_prop {g : Wd} {X : Cx} {C : Addr} {n f : Str} {e : Expr} {ta : TE} {pos : Pos} (P : Pr g C n f) (c : Cls g.K C) (hr : Rm 2 X) (he : PE X e ta) (hab : attributeBase e n X.env (eval e X.env) = eval e X.env := by rfl) (a : At g X := by exact ⟨rfl, rfl, rfl, rfl, rfl⟩) :
    PE X (.Attribute e n pos) (tPr C f ta) := by
  obtain ⟨p, gt, fd, hp, F, hb⟩ := P
  obtain ⟨P, w, K, mg, base⟩ := g
  obtain ⟨rfl, rfl, rfl, rfl, rfl⟩ := a
  have h := pe_prop (pos := pos) (E := fun _ _ _ => False) he c hp F hr.room hb .nil C8.pass0 hab
  refine ⟨fun pins s σ H Q I q => h.run pins s σ H Q I ?_⟩
  have mono := he
  exact (show tProp C (getSp C f) [] (fun _ _ _ => False) ta σ H Q from by
    unfold tProp
    unfold tPr at q
    have e : (fun x H1 => ∃ a dx fs v, x = V.ref a ∧ H1 a = some (.ins C dx fs) ∧ fs.lookup f = some v ∧ Q v H1) = (fun x H1 => ∃ a dx fs, x = V.ref a ∧ H1 a = some (.ins C dx fs) ∧ getSp C f [.ref a] H1 Q fun _ _ _ => False) := by
      funext x H1
      refine propext ⟨?_, ?_⟩
      · rintro ⟨a, dx, fs, v, rfl, h1, h2, q⟩
        exact ⟨a, dx, fs, rfl, h1, a, dx, fs, v, rfl, h1, h2, q⟩
      · rintro ⟨a, dx, fs, rfl, h1, a', dx', fs', v, e, h1', h2, q⟩
        cases e
        exact ⟨a, dx', fs', v, rfl, h1', h2, q⟩
    rw [e] at q
    exact q)
end RS


/-! dicts with texts or numbers as keys, as equations -/
namespace RS
open PySem PySem.Spec L2
theorem dget_of {H : Hp} {a : Addr} {kvs : List (Key × V)} {k : Key} {o : Option V} (e : H a = some (.dK kvs)) : DGet H a (kV k) o = (valV kvs k = o) := by
  refine propext ⟨?_, fun h => .inl ⟨kvs, k, .inl e, rfl, h.symm⟩⟩
  rintro (⟨kvs', k', h, ek, rfl⟩ | ⟨kvs', k', b, h, ek, _⟩)
  · have : k' = k := by cases k <;> cases k' <;> simp_all [kV]
    subst this
    rcases h with h | ⟨o, h⟩
    · rw [e] at h; cases h; rfl
    · rw [e] at h; cases h
  · cases k <;> cases ek
theorem dget_s {H : Hp} {a : Addr} {kvs : List (Key × V)} {k : Str} {o : Option V} (e : H a = some (.dK kvs)) : DGet H a (.str k) o = (valV kvs (.inr k) = o) := dget_of (k := .inr k) e
theorem dget_i {H : Hp} {a : Addr} {kvs : List (Key × V)} {k : Int} {o : Option V} (e : H a = some (.dK kvs)) : DGet H a (.int k) o = (valV kvs (.inl k) = o) := dget_of (k := .inl k) e
theorem dget_us {H : Hp} {a : Addr} {kvs : List (Key × V)} {k : Str} {o : Option V} : DGet (upd H a (.dK kvs)) a (.str k) o = (valV kvs (.inr k) = o) := dget_s upd_same
theorem dput_of {H : Hp} {a : Addr} {kvs : List (Key × V)} {k : Key} {v : V} {P : Hp → Prop} (e : H a = some (.dK kvs)) : (∃ H4, DPut H a (kV k) v H4 ∧ P H4) = (kvs.length < sizeLine ∧ P (upd H a (.dK (putK kvs k v)))) := by
  refine propext ⟨?_, fun h => ⟨_, .k e h.1, h.2⟩⟩
  rintro ⟨H4, (⟨kvs', k', h, ek, hl, rfl⟩ | ⟨kvs', k', b, h, ek, _⟩), q⟩
  · have : k' = k := by cases k <;> cases k' <;> simp_all [kV]
    subst this
    rw [e] at h; cases h
    exact ⟨hl, q⟩
  · cases k <;> cases ek
theorem dput_s {H : Hp} {a : Addr} {kvs : List (Key × V)} {k : Str} {v : V} {P : Hp → Prop} (e : H a = some (.dK kvs)) : (∃ H4, DPut H a (.str k) v H4 ∧ P H4) = (kvs.length < sizeLine ∧ P (upd H a (.dK (putK kvs (.inr k) v)))) := dput_of (k := .inr k) e
theorem dput_us {H : Hp} {a : Addr} {kvs : List (Key × V)} {k : Str} {v : V} {P : Hp → Prop} : (∃ H4, DPut (upd H a (.dK kvs)) a (.str k) v H4 ∧ P H4) = (kvs.length < sizeLine ∧ P (upd (upd H a (.dK kvs)) a (.dK (putK kvs (.inr k) v)))) := dput_s upd_same
theorem vv_nil {k : Key} : valV ([] : List (Key × V)) k = none := rfl
theorem vv_cons {p k : Key} {v : V} {r : List (Key × V)} : valV ((p, v) :: r) k = if p = k then some v else valV r k := by
  by_cases h : p = k
  · rw [valV_pos (p := (p, v)) h, if_pos h]
  · rw [valV_neg (p := (p, v)) h, if_neg h]
theorem pk_nil {k : Key} {v : V} : putK ([] : List (Key × V)) k v = [(k, v)] := rfl
theorem pk_cons {p k : Key} {v x : V} {r : List (Key × V)} (hr : valV r p = none := by first | rfl | decide) : putK ((p, x) :: r) k v = if p = k then (p, v) :: r else (p, x) :: putK r k v := by
  unfold putK
  by_cases h : p = k
  · subst h
    rw [if_pos rfl, if_pos (by simp)]
    simp only [List.map_cons, if_true]
    congr 1
    have : ∀ q ∈ r, q.1 ≠ p := fun q hq e => by
      have := valV_any p r
      rw [hr] at this
      have t : (r.any fun kv => decide (kv.1 = p)) = true := List.any_eq_true.mpr ⟨q, hq, by simp [e]⟩
      rw [this] at t; cases t
    have e : r.map (fun kv => if kv.1 = p then (kv.1, v) else kv) = r.map id := List.map_congr_left fun q hq => by simp [this q hq]
    rw [e, List.map_id]
  · rw [if_neg h]
    by_cases c : (r.any fun kv => decide (kv.1 = k)) = true
    · rw [if_pos (by simp [c]), if_pos c]
      simp [h]
    · rw [if_neg (by simp [c, h]), if_neg c]; rfl
theorem pk_one {p k : Key} {v x : V} : putK [(p, x)] k v = if p = k then [(p, v)] else [(p, x), (k, v)] := pk_cons (hr := rfl)
theorem inr_eq {a b : Str} : ((.inr a : Key) = .inr b) = (a = b) := by simp
end RS
namespace RS
open PySem PySem.Spec L2
/-! ### repr of lists and tuples of small leaves -/
def Leaf (d : PyData) : Prop := match d with
  | .none => True
  | .bool _ => True
  | .int i => i.natAbs < 10 ^ 12
  | .str x => (∀ c ∈ x.cps.toList, c < 16 ^ 8) ∧ x.length ≤ 10000
  | _ => False
theorem log2_small {n : Nat} (h : n < 10 ^ 12) : n.log2 ≤ 40 := by
  rcases Nat.eq_zero_or_pos n with rfl | h0
  · simp
  · have : n.log2 < 41 := (Nat.log2_lt (by omega)).mpr (show n < 2 ^ 41 by omega)
    omega
theorem Leaf.all {d : PyData} (h : Leaf d) : d.showable = true ∧ d.leavesShort 13 = true ∧ d.weight ≤ 10000 ∧ d.depth ≤ 1 := by
  cases d with
  | none => exact ⟨rfl, rfl, by decide, by decide⟩
  | bool b => exact ⟨rfl, rfl, by simp [PyData.weight], by simp [PyData.depth]⟩
  | int i =>
    have h : i.natAbs < 10 ^ 12 := h
    have l := log2_small h
    refine ⟨?_, ?_, ?_, by simp [PyData.depth]⟩
    · simp only [PyData.showable, decide_eq_true_eq]; omega
    · simp only [PyData.leavesShort, decide_eq_true_eq]; exact PyData.shown_int_le h
    · simp only [PyData.weight]; split <;> omega
  | str x =>
    refine ⟨rfl, ?_, ?_, by simp [PyData.depth]⟩
    · simp only [PyData.leavesShort, List.all_eq_true, decide_eq_true_eq]; exact h.1
    · simp only [PyData.weight]; exact h.2
  | list _ => exact h.elim
  | tuple _ => exact h.elim
  | dict _ => exact h.elim
theorem leafs_all : ∀ {ds : List PyData}, (∀ d ∈ ds, Leaf d) → PyData.showableAll ds = true ∧ PyData.leavesShortAll 13 ds = true ∧ PyData.weightAll ds ≤ 10001 * ds.length ∧ PyData.depthAll ds ≤ 1
  | [], _ => ⟨rfl, rfl, by simp [PyData.weightAll], by simp [PyData.depthAll]⟩
  | d :: ds, h => by
    have a := (h d List.mem_cons_self).all
    have b := leafs_all (ds := ds) fun x hx => h x (List.mem_cons_of_mem _ hx)
    refine ⟨?_, ?_, ?_, ?_⟩
    · simp [PyData.showableAll, a.1, b.1]
    · simp [PyData.leavesShortAll, a.2.1, b.2.1]
    · simp only [PyData.weightAll, List.length_cons]; omega
    · simp only [PyData.depthAll]; omega
theorem repr_list {K : PySem.W.Frag} {H : Hp} {Q : VK} {a : Addr} {xs : List V} {ds : List PyData} (h : SqL K H a xs) (hd : DpAll K H xs ds) (hl : ∀ d ∈ ds, Leaf d) (n : ds.length ≤ 100) (q : Q (.str (PyData.list ds).shown) H) : rRepr K [.ref a] H Q := by
  obtain ⟨a1, a2, a3, a4⟩ := leafs_all hl
  refine repr_by (.list ds) (.lst h hd) ?_ ?_ ?_ ?_ q
  · simpa only [PyData.showable] using a1
  · simp only [PyData.depth]; omega
  · simpa only [PyData.leavesShort] using a2
  · simp only [PyData.weight]; omega
end RS


namespace RS
open PySem PySem.Spec L2
theorem sq_same {K : PySem.W.Frag} {H H' : Hp} {a : Addr} {xs : List V} (h : SqL K H a xs) (s : Same H H') : SqL K H' a xs := by
  rcases h with (h | ⟨o, h⟩) | h
  · exact .inl (.inl (s _ _ h))
  · exact .inl (.inr ⟨o, s _ _ h⟩)
  · exact .inr h
theorem dp_ints {K : PySem.W.Frag} {H : Hp} : ∀ ns : List Int, DpAll K H (ns.map V.int) (ns.map PyData.int)
  | [] => .nil
  | n :: ns => .cons (.int n) (dp_ints ns)
theorem lay_ints : ∀ ns : List Int, PyData.canLayAll0 (ns.map PyData.int) = true ∧ PyData.depthAll (ns.map PyData.int) = 0
  | [] => ⟨rfl, rfl⟩
  | n :: ns => by
    have h := lay_ints ns
    simp [PyData.canLayAll0, PyData.canLay0, PyData.depthAll, PyData.depth, h]
theorem shaped_ints (ns : List Int) : SeqAt.shaped (.list (ns.map PyData.int)) = true := by
  have h := lay_ints ns
  simp [SeqAt.shaped, PyData.canLay0, PyData.depth, h]
theorem eqv_nil (ns : List Int) : PyData.eqv (.list (ns.map PyData.int)) (.list []) = ns.isEmpty := by
  cases ns <;> rfl
/-- ns != [] -/
theorem ne_empty {K : PySem.W.Frag} {H : Hp} {Q : VK} {a p : Addr} {ns : List Int} (h : SqL K H a (ns.map V.int)) (hp : H p = some (.lst [])) (q : Q (.bl (!ns.isEmpty)) H) : rNeD K (.ref a) (.ref p) H Q := by
  refine ⟨.list (ns.map PyData.int), .list [], .lst h (dp_ints ns), .lst (SqL.of hp) .nil, shaped_ints ns, rfl, ?_⟩
  rw [eqv_nil]; exact q
theorem ty_list {K : PySem.W.Frag} {p : Addr} {H : Hp} : tyV K "list" (.ref p) H = ∃ xs, SqL K H p xs := by simp [tyV]
theorem ty_str {K : PySem.W.Frag} {x : Str} {H : Hp} : tyV K "str" (.str x) H = True := by simp [tyV]
theorem cutV_to (a : List V) {i : Int} (h : 0 ≤ i) : cutV a none (some i) = a.take i.toNat := by
  unfold cutV
  rw [sIx_nat _ _ h]
  simp [HT.sIx]
theorem cutV_from (a : List V) {i : Int} (h : 0 ≤ i) : cutV a (some i) none = a.drop i.toNat := by
  unfold cutV
  rw [sIx_nat _ _ h]
  simp only [HT.sIx]
  by_cases c : i.toNat ≤ a.length
  · rw [Nat.min_eq_left c, List.take_of_length_le (by simp)]
  · rw [Nat.min_eq_right (by omega), List.drop_of_length_le (Nat.le_refl _), List.drop_of_length_le (by omega)]; simp
/-- a statement, then the rest, with a word between them that the simp set leaves alone -/
def tMid (t u : TS) : TS := fun D σ H => ∃ Mid : L2.St → Hp → Prop, t { D with nx := Mid } σ H ∧ ∀ σ' H', Mid σ' H' → u D σ' H'
theorem pss_mid {X : Cx} {st : Stmt} {rest : List Stmt} {t u : TS} (h1 : PS X st t) (h2 : PSs X rest u) : PSs X (st :: rest) (tMid t u) := C8.pss_cut h1 h2
theorem mid_at {t u : TS} {D : Ends} {σ : L2.St} {H : Hp} (Mid : L2.St → Hp → Prop) (h1 : t { D with nx := Mid } σ H) (h2 : ∀ σ' H', Mid σ' H' → u D σ' H') : tMid t u D σ H := ⟨Mid, h1, h2⟩
/-- .. where one state alone is left -/
theorem mid_one {t u : TS} {D : Ends} {σ : L2.St} {H : Hp} (σ1 : L2.St) (R : Hp → Prop) (h1 : t { D with nx := fun σ' H' => σ' = σ1 ∧ R H' } σ H) (h2 : ∀ H', R H' → u D σ1 H') : tMid t u D σ H :=
  ⟨_, h1, fun _ _ ⟨e, r⟩ => by subst e; exact h2 _ r⟩
end RS


namespace RS
open PySem PySem.Spec PySem.W PySem.Calls PyProof.Rows
/-- what the text says of an own exception class C: its __init__ at fI is one that says super().__init__(..) -/
structure XC (P : Program) (K : Frag) (C fI cda cc : Addr) (qual : Str) (st : Stmt) (B newId initId : String) (bmB : List Value) : Prop where
  FB : ExcBaseFacts B newId initId bmB
  KF : KxsFacts B initId
  SF : StoreFacts B bmB "object.__setattr__" "object"
  q : excInitIn K C bmB newId = true
  ov : excOver K C bmB = true
  sup : ks_superIn K C C "__init__" = some (some (.builtin initId))
  sub : subIn K (.ref C) (.type B) = some true
  ini : findIn K (.ref C) "__init__" = some (some (.ref fI))
  fn : typeIn K (.ref fI) = some (.type "function")
  lk : ∃ oc od kV doc pm an ct osl, K.lookup fI = some ⟨oc, od, .func (ksFn "__init__" qual (L2.defArgs st) (L2.defBody st) (L2.defScope st) .none kV doc pm an (.ref cda) ct cc), osl⟩
  cd : codeIn K (.ref cda) qual = true
  co : ∃ ccl cdd vs ccs file tf, K.lookup cda = some ⟨ccl, cdd, .fields vs, ccs⟩ ∧ vs[2]? = some (.str file tf) ∧ ((P.main.file : Str) == file) = true
  ce : ∃ cl cld csl, K.lookup cc = some ⟨cl, cld, .cell (some (.ref C)), csl⟩
  me : mroIn K C (.ref C) = some true
  op : nsIn K cStatics "thirdparty.any" = some none
  nt : (P.main.scope.names.lookup ("super" : Str)).isSome = false
section
variable {prog : Program} {w : World} {A : Around} {E : Value → Shared → Prop} {h : Heap} {g : Array GenState} {d : Drawn} {t : Nat} {os : OsState} {K : Frag} {C fI cda cc e u t0 : Addr} {B newId initId : String} {bmB : List Value} {qual : Str} {st : Stmt}
/-- the bound __init__, called: the args are laid anew -/
theorem call_mw {rest : List Value} {Q : Value → Shared → Prop} (KX : K.In h) (FB : ExcBaseFacts B newId initId bmB) (q : excInitIn K C bmB newId = true) (hu : h.get? u = some (kxs_mw initId e)) (he : h.get? e = some (HandSPX.excO C t0)) (hz : rest.length ≤ sizeLine)
    (hq : ∀ h' t1, (∀ b o, b ≠ e → h.get? b = some o → h'.get? b = some o) → h'.get? e = some (HandSPX.excO C t1) → Q .none ⟨h', g, d, t, os⟩) :
    wpAny (model prog w) A (call (.ref u) rest) Q E ⟨h, g, d, t, os⟩ := by
  obtain ⟨nm, N', qn, bs, bm, hdct, sn, sub, ab, col, dd, k0, k1, k2, k3, k5, hC, hT⟩ := excInit_of KX q
  refine wpAny_call (codeAny_of_tree ?_)
  show wpAny _ A.in1 (callAny (.ref u) ⟨rest, []⟩) _ _ _
  simp only [callAny]
  refine wpAny_bind (wpAny_load hu ?_)
  have m1 : (Value.type "method-wrapper" == Value.type "method" || Value.type "method-wrapper" == Value.type "builtin_function_or_method" || Value.type "method-wrapper" == Value.type "method-wrapper") = true := by decide
  simp only [kxs_mw, m1, if_true]
  refine KFB.if_so (by decide) ?_
  refine wpAny_bind (check_bound_init FB.toExcCallFacts hC he rfl ?_)
  refine wpAny_bind (wpAny_pure (wpAny_pure ?_))
  refine ⟨plainId_quiet FB.init.plain _, codeAny_builtin FB.initEntry ?_⟩
  exact exc_init_tree (cls := .ref C) (t0 := t0) (dv := none) (c2 := .none) (c3 := .none) (b4 := .bool false) he hz fun h' k e' t' => hq h' _ k e'
end
end RS
namespace RS
open PySem PySem.Spec PySem.W PySem.Calls PyProof.Rows
section
variable {prog : Program} {w : World} {A : Around} {E : Value → Shared → Prop} {h : Heap} {g : Array GenState} {d : Drawn} {t : Nat} {os : OsState} {K : Frag} {C fI cda cc e t0 L : Addr} {B newId initId : String} {bmB : List Value} {qual : Str} {st : Stmt} {mg mb m : Str → Option Value}
/-- super().__init__('..') in the own __init__ -/
theorem sup_init {body : List Stmt} {ar : Arg} {msg : Str} {j : _} {pc p0 p1 p2 p3 p4 : Pos} {Q : Flow → Shared → Prop} (X : XC prog K C fI cda cc qual st B newId initId bmB) (KX : K.In h) (hns : h.Ns L m) (hp : ((L2.defArgs st).posonlyargs ++ (L2.defArgs st).args).head? = some ar) (hv : m ar.arg = some (.ref e))
    (he : h.get? e = some (HandSPX.excO C t0)) (hg : h.Ns mainGlobals mg) (hm : mg "super" = none) (hb : h.Ns builtinsNs mb) (bb : ∀ x : Str, x ≠ "__name__" → mb x = bootBuiltins x)
    (hks : (L2.defScope st).names.lookup ("super" : Str) = some .globalImplicit) (hkc : (L2.defScope st).names.lookup ("__class__" : Str) = some .free) (hka : (L2.defScope st).names.lookup ar.arg = some .local) (hk : (L2.defScope st).kind = .function)
    {pl : Sem Bool} (hi : interactive (ksEnv qual (L2.defScope st) L fI (.ref cda) cc) = false) (hsw : swapsWith (.Call (.Attribute (.Call (.Name "super" p0) [] [] p1) "__init__" p2) [.Constant (.str msg) j pc] [] p3) none p4.line (ksEnv qual (L2.defScope st) L fI (.ref cda) cc) = pure false)
    (hst : starEach [.Constant (.str msg) j pc] (ksEnv qual (L2.defScope st) L fI (.ref cda) cc) = [(false, eval (.Constant (.str msg) j pc) (ksEnv qual (L2.defScope st) L fI (.ref cda) cc))])
    (hev : eval (.Call (.Attribute (.Call (.Name "super" p0) [] [] p1) "__init__" p2) [.Constant (.str msg) j pc] [] p3) (ksEnv qual (L2.defScope st) L fI (.ref cda) cc) = (do
      let ov ← attributeBase (.Call (.Name "super" p0) [] [] p1) "__init__" (ksEnv qual (L2.defScope st) L fI (.ref cda) cc) (eval (.Call (.Name "super" p0) [] [] p1) (ksEnv qual (L2.defScope st) L fI (.ref cda) cc))
      standAt p2.atName
      let (f, first) ← holding [ov] (getMethod ov "__init__" pl)
      callWith p3 f first (backTo p3 (starEach [.Constant (.str msg) j pc] (ksEnv qual (L2.defScope st) L fI (.ref cda) cc))) []))
    (hq : ∀ h' t1 tk, (∀ b o, b ≠ e → h.get? b = some o → h'.get? b = some o) → h'.get? e = some (HandSPX.excO C t1) → Q .next ⟨h', g, d, tk, os⟩) :
    _root_.PySem.wpAt (model prog w) A (.func body (ksEnv qual (L2.defScope st) L fI (.ref cda) cc)) (exec (.Expr (.Call (.Attribute (.Call (.Name "super" p0) [] [] p1) "__init__" p2) [.Constant (.str msg) j pc] [] p3) p4) (ksEnv qual (L2.defScope st) L fI (.ref cda) cc)) Q E ⟨h, g, d, t, os⟩ := by
  obtain ⟨oc, od, kV, doc, pm, an, ct, osl, lk⟩ := X.lk
  obtain ⟨ccl, cdd, vs, ccs, file, tf, lc, hvs, hfile⟩ := X.co
  obtain ⟨cl, cld, csl, lce⟩ := X.ce
  obtain ⟨nm, N', qn, bs, bm, hdct, sn, sub, ab, col, dd, k0, k1, k2, k3, k5, hC, hT⟩ := excInit_of KX X.q
  refine ks_wpAt_Expr_any (ks_wpAt_MethodCall (pl := pl) ?_ hev) hi hsw
  refine ks_wpAt_super_base (env := ksEnv qual (L2.defScope st) L fI (.ref cda) cc) hks hkc (by decide) rfl (KX _ _ lk) rfl hp rfl (KX _ _ lc) rfl hvs hfile X.nt ?_
  refine ks_loadName_global hk hks (loadGlobal_builtin (env := ksEnv qual (L2.defScope st) L fI (.ref cda) cc) hg hm hb ((bb _ (by decide +kernel)).trans (by decide +kernel)) ⟨rfl, ?_⟩)
  refine wpAny_loadName_free hk hkc rfl ⟨_, KX _ _ lce, rfl⟩ ?_
  refine wpAny_loadName_local hk hka hns hv ?_
  refine ks_wpAny_isType_cls hC rfl ⟨rfl, ?_⟩
  refine ks_wpAny_call_super hC rfl he rfl (fun c z => nomatch z) (looks_mroIn KX X.me) (fun h1 hso k1 => ?_)
  have KX1 : K.In h1 := fun b o z => k1 b o (KX b o z)
  have he1 := k1 _ _ he
  have I1 : InstAt h1 e (HandSPX.excO C t0) C none := ⟨he1, rfl, rfl, trivial⟩
  have hI : Looks (model prog w) h1 (isInstance (.ref e) (.type B)) true := I1.type.andThen (looks_subIn KX1 X.sub)
  have sup := X.sup
  cases hc : clsIn K C with
  | none => unfold ks_superIn at sup; rw [hc] at sup; cases sup
  | some cd =>
    unfold ks_superIn at sup
    rw [hc] at sup
    refine kxs_getMethod X.KF hso (looks_opaque KX1 X.op) (l₀ := cd.mro) (fun A Q E s k q => wpAny_bind ((looks_clsIn KX1 hc) A _ E s k (wpAny_pure q))) rfl KX1 sup hI (ks_ne KX1 I1 hc) (by decide) ?_
    have k2 : ∀ b o, h1.get? b = some o → (h1.push (kxs_mw initId e)).get? b = some o := fun b o z => Heap.get?_push_of_some _ z
    have hu : (h1.push (kxs_mw initId e)).get? h1.objs.size = some (kxs_mw initId e) := Heap.get?_push_at rfl rfl
    rw [hst]
    refine kxs_callWith (i := initId) (x := e) rfl ?_
    show wpAny (model prog w) A (evalArgs (.ref h1.objs.size) true ((false, eval (.Constant (.str msg) j pc) _) :: backTo p3 []) []) _ E _
    refine evalArgs_plain (spliced_cons (Calls.Constant_str ?_))
    refine spliced_nil ⟨hu, ?_⟩
    refine call_mw (t0 := t0) (fun b o z => k2 b o (KX1 b o z)) X.FB X.q hu (k2 _ _ he1) (by rw [sizeLine_eq]; simp) fun h' t1 k3 e3 => ?_
    exact hq h' t1 _ (fun b o hb z => k3 b o hb (k2 b o (k1 b o z))) e3
end
end RS
namespace RS
open PySem PySem.Spec PySem.W PySem.Calls PyProof.Rows Builtin Builtin.ObjectAttr
section
variable {prog : Program} {w : World} {A : Around} {E : Value → Shared → Prop} {R : Result → Shared → Prop} {hp : Heap} {g : Array GenState} {d : Drawn} {t : Nat} {os : OsState} {K : Frag} {C x : Addr} {B : String} {bmB : List Value}
/-- self.name = v on an exception that has no dict yet, over any built-in base -/
theorem osa_newX {name : Str} {tk : Tok} {v : Value} {fv : Array Value} {cd : ClassData} (SF : StoreFacts B bmB "object.__setattr__" "object") (KX : K.In hp) (hx : hp.get? x = some { cls := .ref C, data := .fields fv }) (hcd : clsIn K C = some cd) (hh : cd.hasDict = true) (ov : excOver K C bmB = true)
    (ha : findIn K (.ref C) name = some none)
    (hq : ∀ h' tk' dx, (∀ b o, b ≠ x → hp.get? b = some o → h'.get? b = some o) → hp.objs.size ≤ dx → dx ≠ x → h'.get? x = some { cls := .ref C, dict := some dx, data := .fields fv } →
      h'.Ns1 dx (fun y => if y = name then some v else none) → R (.ok (.ret .none)) ⟨h', g, d, tk', os⟩) :
    codeAny (model prog w) A (.call (.builtin "object.__setattr__") ⟨[.ref x, .str name tk, v], []⟩) R ⟨hp, g, d, t, os⟩ := by
  have I : InstAt hp x { cls := .ref C, data := .fields fv } C none := ⟨hx, rfl, rfl, trivial⟩
  have hxs : x ≠ hp.objs.size := Nat.ne_of_lt (Heap.lt_size hx)
  have ht : takerIn K C name = some none := L2.NoAttr.taker ha
  have hcls : Looks (model prog w) hp (classData C) cd := looks_clsIn KX hcd
  refine osa_openX (s := ⟨hp, g, d, t, os⟩) SF KX I ov ht fun b => ?_
  show wpAny _ _ (storeInOwnDict (.ref x) (.ref C) (.str name tk) name v b) _ _ _
  cases cd with | mk nm bs mro ns qn hd sn sb ab col del =>
  simp only at hh
  subst hh
  unfold storeInOwnDict
  unfold ownDictForStores
  repeat (first | with_reducible refine HandSPX.store_in_new ?_ ?_ | with_reducible refine wpAny_loadPart_at hx ?_ | with_reducible refine hcls.at ?_ | wp_step)
  · refine ⟨_, #[], _, (Heap.get?_update_ne _ _ _ _ hxs.symm).trans (Heap.get?_push_at rfl rfl), rfl, ?_, fun _ => rfl⟩
    exact fun z hz => absurd hz (by simp)
  · intro h2 tk2 hn2 same
    have up2 : ∀ b o, hp.get? b = some o → (hp.push { cls := .type "dict", data := .dict #[] }).get? b = some o := fun b o z => Heap.get?_push_of_some _ z
    refine hq h2 tk2 hp.objs.size (fun b o hb z => ?_) (Nat.le_refl _) hxs.symm ((same.2 x hxs).trans (Heap.get?_update_self _ (up2 _ _ hx) rfl)) hn2
    exact (same.2 b (Nat.ne_of_lt (Heap.lt_size z))).trans ((Heap.get?_update_ne _ _ _ _ hb).trans (up2 _ _ z))
end
end RS
namespace RS
open PySem PySem.Spec PySem.W PySem.Calls PyProof.Rows
/-- the form of such an __init__: super().__init__(msg), then self.f = x -/
structure XSt1 (qual : Str) (st : Stmt) (x f : Str) : Prop where
  bd : ∃ p0 p1 p2 p3 p4 p5 p6 p7 p8 pc msg, ∃ j : Nat, L2.defBody st = [.Expr (.Call (.Attribute (.Call (.Name "super" p0) [] [] p1) "__init__" p2) [.Constant (.str msg) j pc] [] p3) p4, .Assign [.Attribute (.Name "self" p5) f p6] (.Name x p7) p8] ∧
    ∀ (L fI cda cc : Addr), interactive (ksEnv qual (L2.defScope st) L fI (.ref cda) cc) = false ∧
      swapsWith (.Call (.Attribute (.Call (.Name "super" p0) [] [] p1) "__init__" p2) [.Constant (.str msg) j pc] [] p3) none p4.line (ksEnv qual (L2.defScope st) L fI (.ref cda) cc) = pure false ∧
      starEach [.Constant (.str msg) j pc] (ksEnv qual (L2.defScope st) L fI (.ref cda) cc) = [(false, eval (.Constant (.str msg) j pc) (ksEnv qual (L2.defScope st) L fI (.ref cda) cc))] ∧
      (∃ pl, eval (.Call (.Attribute (.Call (.Name "super" p0) [] [] p1) "__init__" p2) [.Constant (.str msg) j pc] [] p3) (ksEnv qual (L2.defScope st) L fI (.ref cda) cc) = (do
        let ov ← attributeBase (.Call (.Name "super" p0) [] [] p1) "__init__" (ksEnv qual (L2.defScope st) L fI (.ref cda) cc) (eval (.Call (.Name "super" p0) [] [] p1) (ksEnv qual (L2.defScope st) L fI (.ref cda) cc))
        standAt p2.atName
        let (f, first) ← holding [ov] (getMethod ov "__init__" pl)
        callWith p3 f first (backTo p3 (starEach [.Constant (.str msg) j pc] (ksEnv qual (L2.defScope st) L fI (.ref cda) cc))) [])) ∧
      swapsWith (.Name x p7) (some (.Attribute (.Name "self" p5) f p6)) p8.line (ksEnv qual (L2.defScope st) L fI (.ref cda) cc) = pure false
  ar : ∃ ar, ((L2.defArgs st).posonlyargs ++ (L2.defArgs st).args).head? = some ar ∧ ar.arg = "self"
  ks : (L2.defScope st).names.lookup ("super" : Str) = some .globalImplicit
  kc : (L2.defScope st).names.lookup ("__class__" : Str) = some .free
  ka : (L2.defScope st).names.lookup ("self" : Str) = some .local
  kx : (L2.defScope st).names.lookup x = some .local
  kd : (L2.defScope st).kind = .function
  co : (L2.defScope st).isCoroutine = false
  ge : (L2.defScope st).isGenerator = false
  ce : ∀ y ∈ (L2.defScope st).names, y.2 ≠ .cell
  bi : ∀ (oc : Value) (kV doc pm : Value) (an : Option Addr) (cdv ct : Value) (cc : Addr) (u v : Value), bindArgs (ksFn "__init__" qual (L2.defArgs st) (L2.defBody st) (L2.defScope st) .none kV doc pm an cdv ct cc) ⟨[u, v], []⟩ = pure ([("self", u), (x, v)] : List (Str × Value))
  ne : ¬ ("self" : Str) = x
  dbg : (x == ("__debug__" : Str)) = false
section
variable {prog : Program} {w : World} {A : Around} {R : Result → Shared → Prop} {h : Heap} {g : Array GenState} {d : Drawn} {t : Nat} {os : OsState} {K : Frag} {C fI cda cc e t0 : Addr} {B newId initId : String} {bmB : List Value} {qual x f : Str} {st : Stmt} {mg mb : Str → Option Value}
theorem xinit1 {v : Value} (X : XC prog K C fI cda cc qual st B newId initId bmB) (Y : XSt1 qual st x f) (hd : hasDictIn K C = true) (sa : findIn K (.ref C) "__setattr__" = some (some (.builtin "object.__setattr__"))) (nf : findIn K (.ref C) f = some none)
    (KX : K.In h) (ke : K.lookup e = none) (hroom : A.depth < recursionLimit) (hlim : h.NoLimit) (he : h.get? e = some (HandSPX.excO C t0)) (hg : h.Ns mainGlobals mg) (hm : mg "super" = none) (hb : h.Ns builtinsNs mb) (bb : ∀ x : Str, x ≠ "__name__" → mb x = bootBuiltins x)
    (hq : ∀ h' t1 dx tk, (∀ b o, b ≠ e → h.get? b = some o → h'.get? b = some o) → h.objs.size ≤ dx → dx ≠ e → h'.get? e = some { cls := .ref C, dict := some dx, data := .fields #[.ref t1, .none, .none, .none, .bool false, .none] } →
      h'.Ns1 dx (fun y => if y = f then some v else none) → R (.ok (.ret .none)) ⟨h', g, d, tk, os⟩) :
    codeAny (model prog w) A (.call (.ref fI) ⟨[.ref e, v], []⟩) R ⟨h, g, d, t, os⟩ := by
  obtain ⟨oc, od, kV, doc, pm, an, ct, osl, lk⟩ := X.lk
  obtain ⟨p0, p1, p2, p3, p4, p5, p6, p7, p8, pc, msg, j, hbd, hform⟩ := Y.bd
  obtain ⟨ar, har, harg⟩ := Y.ar
  obtain ⟨cd, hc, hh⟩ := any_some hd
  refine ks_codeAny_call_defAt (s := ⟨h, g, d, t, os⟩) (body := L2.defBody st) (binds := ([("self", .ref e), (x, v)] : List (Str × Value))) hroom (KX _ _ lk) rfl hlim (codeRec_of KX X.cd) rfl (.of_eq (Y.bi oc kV doc pm an _ ct cc _ _)) Y.ce (fun y hy => ?_) (fun h1 hns k1 => ?_) Y.co Y.ge Y.kd
  · simp only [List.mem_cons, List.not_mem_nil, or_false] at hy
    rcases hy with rfl | rfl
    · exact Y.ka
    · exact Y.kx
  obtain ⟨hi, hsw, hst, ⟨pl, hev⟩, hsw2⟩ := hform h.objs.size fI cda cc
  have KX1 : K.In h1 := fun b o z => k1 b o (KX b o z)
  have lt_e : e < h.objs.size := Heap.lt_size he
  rw [hbd]
  refine ks_wpAt_execs_cons ?_
  have hv1 : (fun y => ([("self", Value.ref e), (x, v)] : List (Str × Value)).reverse.lookup y) ar.arg = some (.ref e) := by
    rw [harg]
    show List.lookup ("self" : Str) ([(x, v), ("self", Value.ref e)] : List (Str × Value)) = _
    rw [List.lookup_cons, beq_eq_false_iff_ne.mpr Y.ne]
    rfl
  have hv2 : (fun y => ([("self", Value.ref e), (x, v)] : List (Str × Value)).reverse.lookup y) x = some v := by
    show List.lookup x ([(x, v), ("self", Value.ref e)] : List (Str × Value)) = _
    rw [List.lookup_cons, beq_self_eq_true]
  refine sup_init X KX1 hns har hv1 (k1 _ _ he) (hg.keeps k1) hm (hb.keeps k1) bb Y.ks Y.kc (by rw [harg]; exact Y.ka) Y.kd (pl := pl) hi hsw hst hev fun h2 t1 tk k2 e2 => ?_
  have hns2 : h2.Ns h.objs.size (fun y => ([("self", Value.ref e), (x, v)] : List (Str × Value)).reverse.lookup y) := by
    obtain ⟨oL, es, ep, hL, r⟩ := hns
    exact ⟨oL, es, ep, k2 _ _ (Nat.ne_of_gt lt_e) hL, r⟩
  refine ks_wpAt_execs_cons (ks_wpAt_Assign_Attr ?_ hsw2)
  have KX2 : K.In h2 := fun b o z => k2 b o (fun y => by rw [y, ke] at z; cases z) (KX1 b o z)
  refine wpAt_of_wpAny (wpAny_Name (wpAny_loadName_local Y.kd Y.kx hns2 hv2 ?_) Y.dbg)
  refine wpAny_Name (wpAny_loadName_local Y.kd Y.ka hns2 (by rw [harg] at hv1; exact hv1) ?_)
  refine set_plain (s := ⟨h2, g, d, tk, os⟩) (ox := HandSPX.excO C t1) (od := none) KX2 ⟨e2, rfl, rfl, trivial⟩ sa ?_
  refine osa_newX X.SF KX2 e2 hc hh X.ov nf fun h3 tk3 dx k3 ldx nex e3 n3 => ?_
  have sz : h.objs.size < h2.objs.size := by
    obtain ⟨oL, es, ep, hL, r⟩ := hns2
    exact Heap.lt_size hL
  refine wpAt_of_wpAny (wpAny_execs_nil ?_)
  exact hq h3 t1 dx _ (fun b o hb z => k3 b o hb (k2 b o hb (k1 b o z))) (Nat.le_trans (Nat.le_of_lt sz) ldx) nex e3 n3
end
end RS
namespace RS
open PySem PySem.Spec PySem.W PySem.Calls PyProof.Rows
/-- the form of an __init__ that says super().__init__(msg) alone -/
structure XSt0 (qual : Str) (st : Stmt) : Prop where
  bd : ∃ p0 p1 p2 p3 p4 pc msg, ∃ j : Nat, L2.defBody st = [.Expr (.Call (.Attribute (.Call (.Name "super" p0) [] [] p1) "__init__" p2) [.Constant (.str msg) j pc] [] p3) p4] ∧
    ∀ (L fI cda cc : Addr), interactive (ksEnv qual (L2.defScope st) L fI (.ref cda) cc) = false ∧
      swapsWith (.Call (.Attribute (.Call (.Name "super" p0) [] [] p1) "__init__" p2) [.Constant (.str msg) j pc] [] p3) none p4.line (ksEnv qual (L2.defScope st) L fI (.ref cda) cc) = pure false ∧
      starEach [.Constant (.str msg) j pc] (ksEnv qual (L2.defScope st) L fI (.ref cda) cc) = [(false, eval (.Constant (.str msg) j pc) (ksEnv qual (L2.defScope st) L fI (.ref cda) cc))] ∧
      (∃ pl, eval (.Call (.Attribute (.Call (.Name "super" p0) [] [] p1) "__init__" p2) [.Constant (.str msg) j pc] [] p3) (ksEnv qual (L2.defScope st) L fI (.ref cda) cc) = (do
        let ov ← attributeBase (.Call (.Name "super" p0) [] [] p1) "__init__" (ksEnv qual (L2.defScope st) L fI (.ref cda) cc) (eval (.Call (.Name "super" p0) [] [] p1) (ksEnv qual (L2.defScope st) L fI (.ref cda) cc))
        standAt p2.atName
        let (f, first) ← holding [ov] (getMethod ov "__init__" pl)
        callWith p3 f first (backTo p3 (starEach [.Constant (.str msg) j pc] (ksEnv qual (L2.defScope st) L fI (.ref cda) cc))) []))
  ar : ∃ ar, ((L2.defArgs st).posonlyargs ++ (L2.defArgs st).args).head? = some ar ∧ ar.arg = "self"
  ks : (L2.defScope st).names.lookup ("super" : Str) = some .globalImplicit
  kc : (L2.defScope st).names.lookup ("__class__" : Str) = some .free
  ka : (L2.defScope st).names.lookup ("self" : Str) = some .local
  kd : (L2.defScope st).kind = .function
  co : (L2.defScope st).isCoroutine = false
  ge : (L2.defScope st).isGenerator = false
  ce : ∀ y ∈ (L2.defScope st).names, y.2 ≠ .cell
  bi : ∀ (oc : Value) (kV doc pm : Value) (an : Option Addr) (cdv ct : Value) (cc : Addr) (u : Value), bindArgs (ksFn "__init__" qual (L2.defArgs st) (L2.defBody st) (L2.defScope st) .none kV doc pm an cdv ct cc) ⟨[u], []⟩ = pure ([("self", u)] : List (Str × Value))
section
variable {prog : Program} {w : World} {A : Around} {R : Result → Shared → Prop} {h : Heap} {g : Array GenState} {d : Drawn} {t : Nat} {os : OsState} {K : Frag} {C fI cda cc e t0 : Addr} {B newId initId : String} {bmB : List Value} {qual : Str} {st : Stmt} {mg mb : Str → Option Value}
theorem xinit0 (X : XC prog K C fI cda cc qual st B newId initId bmB) (Y : XSt0 qual st)
    (KX : K.In h) (hroom : A.depth < recursionLimit) (hlim : h.NoLimit) (he : h.get? e = some (HandSPX.excO C t0)) (hg : h.Ns mainGlobals mg) (hm : mg "super" = none) (hb : h.Ns builtinsNs mb) (bb : ∀ x : Str, x ≠ "__name__" → mb x = bootBuiltins x)
    (hq : ∀ h' t1 tk, (∀ b o, b ≠ e → h.get? b = some o → h'.get? b = some o) → h'.get? e = some (HandSPX.excO C t1) → R (.ok (.ret .none)) ⟨h', g, d, tk, os⟩) :
    codeAny (model prog w) A (.call (.ref fI) ⟨[.ref e], []⟩) R ⟨h, g, d, t, os⟩ := by
  obtain ⟨oc, od, kV, doc, pm, an, ct, osl, lk⟩ := X.lk
  obtain ⟨p0, p1, p2, p3, p4, pc, msg, j, hbd, hform⟩ := Y.bd
  obtain ⟨ar, har, harg⟩ := Y.ar
  refine ks_codeAny_call_defAt (s := ⟨h, g, d, t, os⟩) (body := L2.defBody st) (binds := ([("self", .ref e)] : List (Str × Value))) hroom (KX _ _ lk) rfl hlim (codeRec_of KX X.cd) rfl (.of_eq (Y.bi oc kV doc pm an _ ct cc _)) Y.ce (fun y hy => ?_) (fun h1 hns k1 => ?_) Y.co Y.ge Y.kd
  · rw [List.mem_singleton.mp hy]; exact Y.ka
  obtain ⟨hi, hsw, hst, ⟨pl, hev⟩⟩ := hform h.objs.size fI cda cc
  rw [hbd]
  refine ks_wpAt_execs_cons ?_
  have hv1 : (fun y => ([("self", Value.ref e)] : List (Str × Value)).reverse.lookup y) ar.arg = some (.ref e) := by
    rw [harg]
    rfl
  refine sup_init X (fun b o z => k1 b o (KX b o z)) hns har hv1 (k1 _ _ he) (hg.keeps k1) hm (hb.keeps k1) bb Y.ks Y.kc (by rw [harg]; exact Y.ka) Y.kd (pl := pl) hi hsw hst hev fun h2 t1 tk k2 e2 => ?_
  refine wpAt_of_wpAny (wpAny_execs_nil ?_)
  exact hq h2 t1 _ (fun b o hb z => k2 b o hb (k1 b o z)) e2
end
end RS


/-! own exceptions as values of the hand layer -/
namespace RS
open PySem PySem.Spec L2
/-- at e: an exception of the class at C, its dict at d -/
def exv (e C : Addr) (d : Option Addr) : HO := .ext fun h => ∃ oe vs, h.get? e = some oe ∧ oe.cls = .ref C ∧ oe.dict = d ∧ oe.data = .fields vs
theorem exv_ok {P : Program} {w : World} {H : Hp} {h : Heap} {e C : Addr} {d : Option Addr} {oe : Obj} {vs : Array Value} (he : h.get? e = some oe) (h1 : oe.cls = .ref C) (h2 : oe.dict = d) (h3 : oe.data = .fields vs) : ObjOk P w H h e (exv e C d) :=
  ⟨⟨oe, vs, he, h1, h2, h3⟩, ⟨_, he⟩, fun g1 g2 z k => by
    obtain ⟨o2, v2, q, r⟩ := z
    exact ⟨o2, v2, k _ q, r⟩⟩
theorem exv_at {P : Program} {w : World} {H : Hp} {h : Heap} {e C : Addr} {d : Option Addr} (hok : HOk P w H h) (he : H e = some (exv e C d)) : ∃ oe vs, h.get? e = some oe ∧ oe.cls = .ref C ∧ oe.dict = d ∧ oe.data = .fields vs := by
  have x : ObjOk P w H h e (.ext fun h => ∃ oe vs, h.get? e = some oe ∧ oe.cls = .ref C ∧ oe.dict = d ∧ oe.data = .fields vs) := hok e _ he
  exact x.1
/-- two new objects, both tracked from now on -/
theorem inv_two {X : Cx} {pins : List (Addr × Obj)} {σ : L2.St} {H : Hp} {s : Shared} {h' : Heap} {a b : Addr} {o u : HO} {t' : Nat} (I : Inv X pins σ H s) (k : ∀ c z, s.heap.get? c = some z → h'.get? c = some z) (ha : s.heap.get? a = none) (hb : s.heap.get? b = none) (na : H a = none) (nb : H b = none) (ab : a ≠ b)
    (oa : ObjOk X.prog X.w (upd (upd H b u) a o) h' a o) (ob : ObjOk X.prog X.w (upd (upd H b u) a o) h' b u) : Inv X pins σ (upd (upd H b u) a o) { s with heap := h', toks := t' } := by
  have nA : ∀ {c : Addr} {z : Obj}, s.heap.get? c = some z → c ≠ a := fun q y => by rw [y, ha] at q; cases q
  have nB : ∀ {c : Addr} {z : Obj}, s.heap.get? c = some z → c ≠ b := fun q y => by rw [y, hb] at q; cases q
  have sm : ∀ {c : Addr} {z : HO}, H c = some z → upd (upd H b u) a o c = some z := fun q => by rw [upd_ne (ne_of_none q na), upd_ne (ne_of_none q nb)]; exact q
  have U : Un X.fs [] H (upd (upd H b u) a o) s.heap h' := {
    keep := fun c z q _ _ _ => k c z q
    slot := fun c z q _ _ _ => ⟨z.slots, k c z q⟩
    free := fun c z q n _ => by rw [upd_ne (nA q), upd_ne (nB q)]; exact n
    there := fun c z q _ => ⟨z, k c z q⟩
    tups := fun c xs q => sm q
    frzs := fun c z v q => sm q
    tbls := fun c ps q => ⟨#[], by rw [sm q]; simp⟩ }
  refine I.un (t' := t') U fun c z q => ?_
  by_cases hc : c = a
  · subst hc
    rw [upd_same] at q
    cases q
    exact oa
  · rw [upd_ne hc] at q
    by_cases hd : c = b
    · subst hd
      rw [upd_same] at q
      cases q
      exact ob
    · rw [upd_ne hd] at q
      exact (I.hok c z q).stay (fun y v _ w' => k y v w') (fun y hy => sm hy) (fun y xs hy => sm hy)
end RS
namespace RS
open PySem PySem.Spec L2 PySem.W
/-- the class x at C: C(v) is a new exception whose field f is v -/
def XK1 (g : Wd) (x : Str) (C : Addr) (f : Str) : Prop := g.mg x = some (.ref C) ∧ g.mg "super" = none ∧ keepIn g.K (.ref C) = true ∧ hasDictIn g.K C = true ∧ findIn g.K (.ref C) "__setattr__" = some (some (.builtin "object.__setattr__")) ∧ findIn g.K (.ref C) f = some none ∧
  ∃ fI cda cc qual st B newId initId bmB xp, XC g.P g.K C fI cda cc qual st B newId initId bmB ∧ XSt1 qual st xp f
section
variable {g : Wd} {X : Cx} {C : Addr} {x f : Str} {e : Expr} {t : TA} {p pos : Pos}
def tMkX1 (C : Addr) (f : Str) (t : TA) : TE := fun σ H Q => t σ H fun vs H1 => ∃ v, vs = [v] ∧ ∀ y dy, H1 y = none → H1 dy = none → y ≠ dy → Q (.ref y) (upd (upd H1 dy (exd dy [(f, v)])) y (exv y C (some dy)))
theorem pe_mkX1 (F : XK1 g x C f) (hr : Rm 2 X) (ha : PA X [e] t) (hg : Gl X x := by rfl) (hdb : (x == ("__debug__" : Str)) = false := by decide)
    (he : starEach [e] X.env = (false, eval e X.env) :: starEach [] X.env := by rfl) (hpl : (backTo pos (starEach [] X.env)).any (·.1) = false := by rfl) (a : At g X := by exact ⟨rfl, rfl, rfl, rfl, rfl⟩) :
    PE X (.Call (.Name x p) [e] [] pos) (tMkX1 C f t) := by
  obtain ⟨hm, ms, kp, hd, sa, nf, fI, cda, cc, qual, st, B, newId, initId, bmB, xp, XX, Y⟩ := F
  refine ⟨fun pins s σ H Q I h => wpAny_Call_Name_kw (ld_glob I hg (by rw [a.mg]; exact hm) ?_ hdb)⟩
  refine PySem.W.callWith_K (h₀ := X.base) I.ok.mod.kin (by rw [a.K]; exact kp) (thn (ha.run pos pins s σ H _ I h) ?_) he hpl
  rintro us s1 ⟨vs, H1, I1, r, v, rfl, q⟩
  obtain ⟨u, rfl, ru⟩ := vals1 r
  refine ⟨I1.kIn, ?_⟩
  have KI := I1.kIn
  rw [a.K] at KI
  obtain ⟨nm, N', qn, bs, bm, hdct, sn, sub, ab, col, dd, k0, k1, k2, k3, k5, hC, hT⟩ := excInit_of KI XX.q
  obtain ⟨oc, od, kV, doc, pm, an, ct, osl, lk⟩ := XX.lk
  have hfn : oc = .type "function" := by
    have z := XX.fn
    unfold typeIn at z
    simp only [lk] at z
    simpa using z
  have hglob : s1.heap.Ns mainGlobals g.mg := by rw [← a.mg]; exact I1.mod.glob.keeps I1.bk
  obtain ⟨mb, hblt, bb⟩ := I1.mod.blt
  have hblt2 := hblt.keeps I1.bk
  have hlim := I1.nolimit
  obtain ⟨hp, gg, dr, tt, oo⟩ := s1
  have up : ∀ b o, hp.get? b = some o → ((hp.push (kdv_tup [u])).push (HandSPX.excO C hp.objs.size)).get? b = some o := fun b o z => Heap.get?_push_of_some _ (Heap.get?_push_of_some _ z)
  have hget : ((hp.push (kdv_tup [u])).push (HandSPX.excO C hp.objs.size)).get? (hp.objs.size + 1) = some (HandSPX.excO C hp.objs.size) := by heap_get
  refine wpAny_call (HandSPX.call_own XX.FB hT hC (looks_findIn KI XX.ini) (fun self => exc_bind (KI _ _ lk) hfn self) (by rw [sizeLine_eq]; simp) ?_)
  rw [a.P]
  refine xinit1 XX Y hd sa nf (fun b o z => up b o (KI b o z)) ?_ (hr.here.make C [u] []).room.depth (hlim.keeps up) hget (hglob.keeps up) ms (hblt2.keeps up) bb fun h' t1 dx tk k ldx nex e' n' => ⟨rfl, ?_⟩
  · cases z : g.K.lookup (hp.objs.size + 1) with
    | none => rfl
    | some o => exact absurd (Heap.lt_size (KI _ _ z)) (by show ¬ hp.objs.size + 1 < hp.objs.size; omega)
  have k' : ∀ b o, hp.get? b = some o → h'.get? b = some o := fun b o z => k b o (fun y => by
    have := Heap.lt_size z
    rw [y] at this
    exact absurd this (by show ¬ hp.objs.size + 1 < hp.objs.size; omega)) (up b o z)
  have ld2 : hp.objs.size + 2 ≤ dx := by
    have e2 : ((hp.push (kdv_tup ([] ++ [u]))).push (HandSPX.excO C hp.objs.size)).objs.size = hp.objs.size + 2 := by simp [Heap.size_push]
    rw [e2] at ldx
    exact ldx
  have n1 : hp.get? (hp.objs.size + 1) = none := by
    cases z : hp.get? (hp.objs.size + 1) with
    | none => rfl
    | some o => exact absurd (Heap.lt_size z) (by show ¬ hp.objs.size + 1 < hp.objs.size; omega)
  have n2 : hp.get? dx = none := by
    cases z : hp.get? dx with
    | none => rfl
    | some o => exact absurd (Heap.lt_size z) (by show ¬ dx < hp.objs.size; omega)
  have f1 : H1 (hp.objs.size + 1) = none := I1.hok.fresh (Nat.le_succ _)
  have f2 : H1 dx = none := I1.hok.fresh (by show hp.objs.size ≤ dx; omega)
  have J := inv_two (t' := tk) (o := exv (hp.objs.size + 1) C (some dx)) (u := exd dx [(f, v)]) I1 k' n1 n2 f1 f2 (fun z => nex z.symm) (exv_ok e' rfl rfl rfl) (exd_ok n' (relO_put (fs := []) ru fun g => True.intro))
  exact ⟨.ref (hp.objs.size + 1), _, J, rfl, q _ _ f1 f2 fun z => nex z.symm⟩
end
end RS
namespace RS
open PySem PySem.Spec L2 PySem.W
/-- the class x at C: C() is a new exception without a dict -/
def XK0 (g : Wd) (x : Str) (C : Addr) : Prop := g.mg x = some (.ref C) ∧ g.mg "super" = none ∧ keepIn g.K (.ref C) = true ∧
  ∃ fI cda cc qual st B newId initId bmB, XC g.P g.K C fI cda cc qual st B newId initId bmB ∧ XSt0 qual st
section
variable {g : Wd} {X : Cx} {C : Addr} {x f : Str} {e o : Expr} {t : TA} {ta : TE} {p pos : Pos}
def tMkX0 (C : Addr) : TE := fun σ H Q => ∀ y, H y = none → Q (.ref y) (upd H y (exv y C none))
theorem pe_mkX0 (F : XK0 g x C) (hr : Rm 2 X) (hg : Gl X x := by rfl) (hdb : (x == ("__debug__" : Str)) = false := by decide) (a : At g X := by exact ⟨rfl, rfl, rfl, rfl, rfl⟩) :
    PE X (.Call (.Name x p) [] [] pos) (tMkX0 C) := by
  obtain ⟨hm, ms, kp, fI, cda, cc, qual, st, B, newId, initId, bmB, XX, Y⟩ := F
  refine ⟨fun pins s σ H Q I q => wpAny_Call_Name_kw (ld_glob I hg (by rw [a.mg]; exact hm) ?_ hdb)⟩
  refine PySem.W.callWith_K0 I.kIn (by rw [a.K]; exact kp) ?_
  have KI := I.kIn
  rw [a.K] at KI
  obtain ⟨nm, N', qn, bs, bm, hdct, sn, sub, ab, col, dd, k0, k1, k2, k3, k5, hC, hT⟩ := excInit_of KI XX.q
  obtain ⟨oc, od, kV, doc, pm, an, ct, osl, lk⟩ := XX.lk
  have hfn : oc = .type "function" := by
    have z := XX.fn
    unfold typeIn at z
    simp only [lk] at z
    simpa using z
  have hglob : s.heap.Ns mainGlobals g.mg := by rw [← a.mg]; exact I.mod.glob.keeps I.bk
  obtain ⟨mb, hblt, bb⟩ := I.mod.blt
  have hblt2 := hblt.keeps I.bk
  have hlim := I.nolimit
  obtain ⟨hp, gg, dr, tt, oo⟩ := s
  have up : ∀ b o, hp.get? b = some o → ((hp.push (kdv_tup [])).push (HandSPX.excO C hp.objs.size)).get? b = some o := fun b o z => Heap.get?_push_of_some _ (Heap.get?_push_of_some _ z)
  have hget : ((hp.push (kdv_tup [])).push (HandSPX.excO C hp.objs.size)).get? (hp.objs.size + 1) = some (HandSPX.excO C hp.objs.size) := by heap_get
  refine wpAny_call (HandSPX.call_own XX.FB hT hC (looks_findIn KI XX.ini) (fun self => exc_bind (KI _ _ lk) hfn self) (by rw [sizeLine_eq]; simp) ?_)
  rw [a.P]
  refine xinit0 XX Y (fun b o z => up b o (KI b o z)) (hr.here.make C [] []).room.depth (hlim.keeps up) hget (hglob.keeps up) ms (hblt2.keeps up) bb fun h' t1 tk k e' => ⟨rfl, ?_⟩
  have k' : ∀ b o, hp.get? b = some o → h'.get? b = some o := fun b o z => k b o (fun y => by
    have := Heap.lt_size z
    rw [y] at this
    exact absurd this (by show ¬ hp.objs.size + 1 < hp.objs.size; omega)) (up b o z)
  have n1 : hp.get? (hp.objs.size + 1) = none := by
    cases z : hp.get? (hp.objs.size + 1) with
    | none => rfl
    | some o => exact absurd (Heap.lt_size z) (by show ¬ hp.objs.size + 1 < hp.objs.size; omega)
  have f1 : H (hp.objs.size + 1) = none := I.hok.fresh (Nat.le_succ _)
  have J := I.laid (a := hp.objs.size + 1) (o := exv (hp.objs.size + 1) C none) (h' := h') (t' := tk) k' (Nat.le_succ _) (exv_ok e' rfl rfl rfl)
  exact ⟨.ref (hp.objs.size + 1), _, J, rfl, q _ f1⟩

/-! ### a field of such a value -/
def tXfv (K : Frag) (C : Addr) (f : Str) (ta : TE) : TE := fun σ H Q => ta σ H fun x H1 => ∃ a dd fs v, x = .ref a ∧ H1 a = some (exv a C (some dd)) ∧ H1 dd = some (exd dd fs) ∧ fs.lookup f = some v ∧ Q v H1
theorem pe_xfv (T : XfC g.K C) (hno : findIn g.K (.ref C) f = some none) (he : PE X e ta) (hb : attributeBase e f X.env (eval e X.env) = eval e X.env := by rfl) (at_ : At g X := by exact ⟨rfl, rfl, rfl, rfl, rfl⟩) : PE X (.Attribute e f pos) (tXfv g.K C f ta) := by
  refine ⟨fun pins s σ H Q I h => ?_⟩
  refine attr_of hb (thn (he.run pins s σ H _ I h) fun u s1 hh => ?_)
  obtain ⟨x, H1, I1, rx, a, dd, fs, v, rfl, ea, ed, l, q⟩ := hh
  obtain rfl : u = Value.ref a := rx
  obtain ⟨oe, vs, hoe, c1, c2, c3⟩ := exv_at I1.hok ea
  obtain ⟨mA, hns, hr⟩ := exd_at I1.hok ed
  obtain ⟨od, ho, hl⟩ := lookIn_ns hns
  obtain ⟨u, hu, ru⟩ := RelO.some_of (v := v) (o := mA f) (by rw [← l]; exact hr f)
  have J : InstAt s1.heap a oe C (some od) := ⟨hoe, c1, by unfold notCls; rw [c3] <;> rfl, by rw [c2]; exact ho⟩
  have KI := I1.kIn
  rw [at_.K] at KI
  exact HandSPX.exc_get KI J T.ga T.gg T.exC (findObj_own T.hdC hno rfl (by rw [hl, hu])) (handed_of ru) ⟨v, H1, I1.tok _, ru, q⟩
end
end RS


/-! isinstance of own exceptions held as values -/
namespace RS
open PySem PySem.Spec PySem.W PySem.Calls PyProof.Rows
section
variable {prog : Program} {w : World} {A : Around} {E : Value → Shared → Prop} {s : Shared} {K : Frag} {x C : Addr} {ox : Obj} {od : Option Obj}
theorem clsX (T : L2.ExcC K C) {Q : Option Value → Shared → Prop} (KX : K.In s.heap) (I : InstAt s.heap x ox C od) (q : Q (some (.ref C)) { s with toks := s.toks + 1 }) : wpAny (model prog w) A (getAttr? (.ref x) "__class__") Q E s := by
  have some_cls : (clsIn K C).isSome = true := by
    obtain ⟨cd, hc, _⟩ := any_some T.hd
    rw [hc]; rfl
  have found : findObj K C od "__class__" = some (.bind (.builtin "getset_descriptor.__get__") (.builtin "object.__class__")) := by
    cases od with
    | none => exact findObj_dataN some_cls T.ha T.hn T.ht
    | some od => exact findObj_data some_cls T.ha T.hn T.ht
  obtain ⟨hp, gs, dr, tk, os⟩ := s
  have la := I.type (M := model prog w)
  have lb := looks_findIn (M := model prog w) KX T.hg
  have lc := looks_findIn (M := model prog w) KX T.hk
  have ld := looks_find (M := model prog w) KX I found
  have lsub : Looks (model prog w) hp (isInstance (.ref x) (.type "BaseException")) true := la.andThen (looks_subIn KX T.hs)
  have other : (Value.builtin "BaseException.__getattribute__" == Value.builtin "object.__getattribute__") = false := by decide +kernel
  unfold getAttr?
  unfold getAttrBy?
  unfold getAttrBy
  refine wpAny_bind (wpAny_mkText (wpAny_bind (wpAny_attempt ?_)))
  refine wpAny_holding (wpAny_bind (la.at (wpAny_bind (lb.at ?_))))
  dsimp only
  rw [if_neg (by rw [other]; simp)]
  unfold getAttrByItsOwn
  unfold hookBefore
  refine wpAny_bind ?_
  rw [if_pos (by rfl)]
  refine lc.at ?_
  refine wpAny_bind (wpAny_attempt ?_)
  refine wpAny_holding ?_
  unfold callGetattribute
  rw [if_neg (by simp)]
  unfold boundAndCalled
  rw [PySem.F.excAttr_ValueError.ga.bind (.ref x)]
  refine wpAny_bind (wpAny_pure ?_)
  show wpAny _ _ (call (.builtin "BaseException.__getattribute__") [.ref x, .str "__class__" tk]) _ _ _
  refine wpAny_call (codeAny_call_builtin PySem.F.excAttr_ValueError.ga.plain PySem.F.entry_bexc_ga ?_)
  refine @check_slot (model prog w) _ _ ⟨hp, gs, dr, tk + 1, os⟩ "BaseException.__getattribute__" "BaseException" "__getattribute__" (.ref x) [.str "__class__" tk] [] _ (by decide +kernel) (by decide +kernel) lsub (PySem.F.args_bexc_ga _ _) ?_
  unfold Builtin.«object.__getattribute__»
  refine wpAny_bind (wpAny_of_eq (a := ((Value.ref x : Value), [Value.str "__class__" tk])) (by first | rfl | (simp only [slotArgs]; rfl)) ?_)
  refine wpAny_bind (wpAny_pure ?_)
  refine wpAny_bind (la.at (wpAny_bind (ld.at ?_)))
  refine wpAny_bind (wpAny_holding (wpAny_call (class_get (s := ⟨hp, gs, dr, tk + 1, os⟩) (ox := ox) (od := od) KX I T.hm ?_)))
  refine wpAny_pure ?_
  show wpAny _ _ (handedOut (.ref C)) _ _ _
  rw [handedOut_of (v := .ref C) rfl]
  first
    | exact wpAny_pure (wpAny_pure q)
    | exact wpAny_pure q
    | exact wpAny_pure (wpAny_bind (wpAny_pure (wpAny_pure q)))
theorem kitX (T : L2.ExcC K C) : KitX K (.ref x) (.ref C) (fun h => ∃ ox od, InstAt h x ox C od) where
  ty := fun _ _ _ ⟨_, _, I⟩ => I.type
  it := fun M h KX _ => by
    obtain ⟨cd, hc, _⟩ := any_some T.hd
    unfold clsIn at hc
    split at hc
    · rename_i ho
      intro A' Q' E' s' k q
      unfold isType
      unfold loadHead
      exact wpAny_bind (wpAny_loadPart (k _ _ (KX _ _ ho)) (wpAny_pure q))
    · cases hc
  ne := fun h tp dd its n sl KX htp => by
    obtain ⟨cd, hc, _⟩ := any_some T.hd
    refine Bool.eq_false_iff.mpr fun q => ?_
    obtain rfl : C = tp := Value.ref.inj (beq_iff_eq.mp q)
    unfold clsIn at hc
    split at hc
    · rename_i ho
      cases (KX _ _ ho).symm.trans htp
    · cases hc
  ca := fun KX ⟨_, _, I⟩ q => clsX T KX I q
end
end RS
namespace RS
open PySem PySem.Spec L2
section
variable {X : Cx} {g : Wd}
/-- isinstance(x, c), x an exception of the class at C held as a value -/
def rIsX (K : PySem.W.Frag) : List V → Hp → VK → Prop := fun xs H Q => ∃ (a C : Addr) (d : Option Addr) (c : V) (u : Value) (b : Bool), xs = [.ref a, c] ∧ ExcC K C ∧ ClsV c u ∧ H a = some (exv a C d) ∧ (∀ dd, d = some dd → ∃ fs, H dd = some (exd dd fs)) ∧ PySem.W.kitOne K (.ref C) u = some b ∧ Q (.bl b) H
theorem c_isX {K : PySem.W.Frag} (hK : X.K = K := by rfl) : CallR X (.builtin "isinstance") (rIsX K) := by
  subst hK
  intro pins s σ H xs us Q I r h
  obtain ⟨a, C, d, c, u, b, rfl, T, k, ea, ed, e, q⟩ := h
  obtain ⟨u1, u2, rfl, r1, r2⟩ := vals2 r
  have e2 := k.eq r2
  subst e2
  cases r1
  obtain ⟨oe, vs, hoe, c1, c2, c3⟩ := exv_at I.hok ea
  have J : ∃ ox od, PySem.W.InstAt s.heap a ox C od := by
    cases d with
    | none => exact ⟨oe, none, hoe, c1, by unfold PySem.W.notCls; rw [c3] <;> rfl, by rw [c2]; trivial⟩
    | some dd =>
      obtain ⟨fs, ef⟩ := ed dd rfl
      obtain ⟨mA, hns, hr⟩ := exd_at I.hok ef
      obtain ⟨od, ho, hl⟩ := lookIn_ns hns
      exact ⟨oe, some od, hoe, c1, by unfold PySem.W.notCls; rw [c3] <;> rfl, by rw [c2]; exact ho⟩
  exact PySem.W.kia_one (kitX T) I.kIn J e (fun z => nomatch z) fun tk => ⟨.bl b, H, I.tok tk, rfl, q⟩
end
end RS


/-! repr of data with dicts in it -/
namespace RS
open PySem PySem.Spec L2
def keyD : Key → PyData
  | .inl i => .int i
  | .inr x => .str x
mutual
/-- v stands for the data d -/
inductive DpX (K : PySem.W.Frag) (H : Hp) : V → PyData → Prop
  | non : DpX K H .non .none
  | bl (b : Bool) : DpX K H (.bl b) (.bool b)
  | int (i : Int) : DpX K H (.int i) (.int i)
  | str (x : Str) : DpX K H (.str x) (.str x)
  | lst {a : Addr} {xs : List V} {ds : List PyData} (h : SqL K H a xs) (hs : DpXs K H xs ds) : DpX K H (.ref a) (.list ds)
  | tup {a : Addr} {xs : List V} {ds : List PyData} (h : SqT K H a xs) (hs : DpXs K H xs ds) : DpX K H (.ref a) (.tuple ds)
  | dct {a : Addr} {kvs : List (Key × V)} {D : List (PyData × PyData)} (h : H a = some (.dK kvs)) (hs : DpXd K H kvs D) : DpX K H (.ref a) (.dict D)
inductive DpXs (K : PySem.W.Frag) (H : Hp) : List V → List PyData → Prop
  | nil : DpXs K H [] []
  | cons {v : V} {vs : List V} {d : PyData} {ds : List PyData} (h : DpX K H v d) (hs : DpXs K H vs ds) : DpXs K H (v :: vs) (d :: ds)
inductive DpXd (K : PySem.W.Frag) (H : Hp) : List (Key × V) → List (PyData × PyData) → Prop
  | nil : DpXd K H [] []
  | cons {k : Key} {v : V} {kvs : List (Key × V)} {d : PyData} {D : List (PyData × PyData)} (h : DpX K H v d) (hs : DpXd K H kvs D) : DpXd K H ((k, v) :: kvs) ((keyD k, d) :: D)
end
/-- sys.modules stands in the base, a dict -/
def SmB (base : Heap) : Prop := ∃ o es n, base.get? sysModules = some o ∧ o.data = .dict es n
theorem SmB.ne {X : Cx} {pins : List (Addr × Obj)} {σ : L2.St} {H : Hp} {s : Shared} {a : Addr} {its : Array Value} {n : Nat} {o : Obj} (I : Inv X pins σ H s) (sm : SmB X.base) (h : s.heap.get? a = some o) (hd : o.data = .seq its n) : sysModules ≠ a := fun z => by
  obtain ⟨o2, es, k, e, d⟩ := sm
  have e2 := (I.bs _ _ e).1
  rw [z, h] at e2
  cases e2
  rw [hd] at d
  cases d
section
variable {X : Cx} {pins : List (Addr × Obj)} {σ : L2.St} {H : Hp} {s : Shared}
theorem key_reads {h : Heap} (k : Key) (key : Value) (e : (mixKind X.prog X.w).is k key = true) : Reads h key (keyD k) [] := by
  rcases keyIs_shape e with ⟨i, t, rfl, rfl⟩ | ⟨x, t, rfl, rfl⟩
  · exact Reads.int i t
  · exact Reads.str x t
mutual
theorem DpX.reads (I : Inv X pins σ H s) (sm : SmB X.base) : ∀ {d : PyData} {v : V} {u : Value}, DpX X.K H v d → RelV v u → ∃ as, Reads s.heap u d as ∧ sysModules ∉ as
  | _, _, _, .non, r => by cases r; exact ⟨_, Reads.none, by simp⟩
  | _, _, _, .bl b, r => by cases r; exact ⟨_, Reads.bool b, by simp⟩
  | _, _, _, .int i, r => by obtain ⟨t, rfl⟩ := r; exact ⟨_, Reads.int i t, by simp⟩
  | _, _, _, .str x, r => by obtain ⟨t, rfl⟩ := r; exact ⟨_, Reads.str x t, by simp⟩
  | _, _, _, .lst hs ha, r => by
    cases r
    obtain ⟨its, rv, ⟨o, n, ho, hc, _, hd⟩, _⟩ := I.list hs
    obtain ⟨as, hr, na⟩ := DpXs.reads I sm ha rv
    refine ⟨_, Reads.list ho hc hd hr, fun z => ?_⟩
    rcases List.mem_cons.mp z with z | z
    · exact SmB.ne I sm ho hd z
    · exact na z
  | _, _, _, .tup hs ha, r => by
    cases r
    obtain ⟨its, rv, ⟨o, ho, hc, n, hd⟩, _⟩ := I.tuple hs
    obtain ⟨as, hr, na⟩ := DpXs.reads I sm ha rv
    exact ⟨_, Reads.tuple ho hc hd hr, na⟩
  | _, _, _, .dct hs ha, r => by
    cases r
    obtain ⟨_, ns, vs, kv, dd⟩ := dk_of I.hok hs
    obtain ⟨bs, hp, nb⟩ := DpXd.reads I sm ha kv
    refine ⟨_, PyProof.V.reads_dictOf (enc := keyD) (fun k key e => key_reads (X := X) k key e) dd hp, fun z => ?_⟩
    rcases List.mem_cons.mp z with z | z
    · rw [z] at ns; simp at ns
    · exact nb z
theorem DpXs.reads (I : Inv X pins σ H s) (sm : SmB X.base) : ∀ {ds : List PyData} {vs : List V} {us : List Value}, DpXs X.K H vs ds → Vals vs us → ∃ as, ReadsAll s.heap us ds as ∧ sysModules ∉ as
  | _, _, _, .nil, r => by cases r; exact ⟨_, ReadsAll.nil, by simp⟩
  | _, _, _, .cons h1 h2, r => by
    cases r with
    | cons r1 r2 =>
      obtain ⟨as, q1, n1⟩ := DpX.reads I sm h1 r1
      obtain ⟨bs, q2, n2⟩ := DpXs.reads I sm h2 r2
      exact ⟨_, ReadsAll.cons q1 q2, fun z => (List.mem_append.mp z).elim n1 n2⟩
theorem DpXd.reads (I : Inv X pins σ H s) (sm : SmB X.base) : ∀ {D : List (PyData × PyData)} {kvs : List (Key × V)} {vs : List (Key × Value)}, DpXd X.K H kvs D → KV kvs vs → ∃ bs, PyProof.V.PairsRead s.heap keyD vs D bs ∧ sysModules ∉ bs
  | _, _, _, .nil, r => by cases r; exact ⟨_, PyProof.V.PairsRead.nil, by simp⟩
  | _, _, _, .cons h1 h2, r => by
    cases r with
    | @cons _ q _ _ r1 r2 =>
      obtain ⟨k', v'⟩ := q
      obtain ⟨e1, e2⟩ := r1
      simp only at e1 e2
      subst e1
      obtain ⟨as, q1, n1⟩ := DpX.reads I sm h1 e2
      obtain ⟨bs, q2, n2⟩ := DpXd.reads I sm h2 r2
      exact ⟨_, PyProof.V.PairsRead.cons q1 q2, fun z => (List.mem_append.mp z).elim n1 n2⟩
end
end
end RS
namespace RS
open PySem PySem.Spec L2
section
variable {X : Cx} {k : Nat}
def rReprX (K : PySem.W.Frag) : List V → Hp → VK → Prop := fun xs H Q => ∃ a d, xs = [.ref a] ∧ DpX K H (.ref a) d ∧ d.showable = true ∧ d.depth ≤ 60 ∧ d.shown.length ≤ sizeLine ∧ Q (.str d.shown) H
theorem c_reprX {K : PySem.W.Frag} {base : Heap} (sm : SmB base) (hr : Rm k X) (hK : X.K = K := by rfl) (hB : X.base = base := by rfl) : CallR X (.builtin "repr") (rReprX K) := by
  subst hK
  subst hB
  intro pins s σ H xs us Q I r h
  obtain ⟨a, d, rfl, hd, hs, hz, hl, q⟩ := h
  obtain ⟨u, rfl, ru⟩ := vals1 r
  cases ru
  obtain ⟨as, rd, na⟩ := DpX.reads I sm hd rfl
  refine repr_of_reads' (h₀ := s.heap) rd hs (fun _ => na) hr.gd (by have := hr.room.un; omega) (fun _ _ e => e) (fun h' u tk kp => ?_) hl
  exact ⟨.str _, H, I.kept kp, ⟨_, rfl⟩, q⟩
end
end RS
namespace RS
open PySem PySem.Spec L2
theorem sqT_same {K : PySem.W.Frag} {H H' : Hp} {a : Addr} {xs : List V} (h : SqT K H a xs) (s : Same H H') : SqT K H' a xs := by
  rcases h with (h | ⟨o, h⟩) | h
  · exact .inl (.inl (s _ _ h))
  · exact .inl (.inr ⟨o, s _ _ h⟩)
  · exact .inr h
mutual
theorem DpX.same {K : PySem.W.Frag} {H H' : Hp} (s : Same H H') : ∀ {v : V} {d : PyData}, DpX K H v d → DpX K H' v d
  | _, _, .non => .non
  | _, _, .bl b => .bl b
  | _, _, .int i => .int i
  | _, _, .str x => .str x
  | _, _, .lst h hs => .lst (sq_same h s) (hs.same s)
  | _, _, .tup h hs => .tup (sqT_same h s) (hs.same s)
  | _, _, .dct h hs => .dct (s _ _ h) (hs.same s)
theorem DpXs.same {K : PySem.W.Frag} {H H' : Hp} (s : Same H H') : ∀ {vs : List V} {ds : List PyData}, DpXs K H vs ds → DpXs K H' vs ds
  | _, _, .nil => .nil
  | _, _, .cons h hs => .cons (h.same s) (hs.same s)
theorem DpXd.same {K : PySem.W.Frag} {H H' : Hp} (s : Same H H') : ∀ {kvs : List (Key × V)} {D : List (PyData × PyData)}, DpXd K H kvs D → DpXd K H' kvs D
  | _, _, .nil => .nil
  | _, _, .cons h hs => .cons (h.same s) (hs.same s)
end
theorem DpXs.rep {K : PySem.W.Frag} {H : Hp} {v : V} {d : PyData} (h : DpX K H v d) : ∀ n, DpXs K H (List.replicate n v) (List.replicate n d)
  | 0 => .nil
  | n + 1 => .cons h (DpXs.rep h n)
end RS


namespace RS
open PySem PySem.Spec L2
theorem dp_bools {K : PySem.W.Frag} {H : Hp} : ∀ bs : List Bool, DpAll K H (bs.map V.bl) (bs.map PyData.bool)
  | [] => .nil
  | b :: bs => .cons (.bl b) (dp_bools bs)
theorem lay_bools : ∀ bs : List Bool, PyData.canLayAll0 (bs.map PyData.bool) = true ∧ PyData.depthAll (bs.map PyData.bool) = 0
  | [] => ⟨rfl, rfl⟩
  | b :: bs => by
    have h := lay_bools bs
    simp [PyData.canLayAll0, PyData.canLay0, PyData.depthAll, PyData.depth, h]
theorem shaped_bools (bs : List Bool) : SeqAt.shaped (.list (bs.map PyData.bool)) = true := by
  have h := lay_bools bs
  simp [SeqAt.shaped, PyData.canLay0, PyData.depth, h]
theorem eqv_bools : ∀ bs : List Bool, PyData.eqvAll (bs.map PyData.bool) (bs.map PyData.bool) = true
  | [] => rfl
  | b :: bs => by
    have h := eqv_bools bs
    simp [PyData.eqvAll, PyData.eqv, h]
/-- two lists of the same truth values: != says False -/
theorem ne_bools {K : PySem.W.Frag} {H : Hp} {Q : VK} {a p : Addr} (bs : List Bool) (h : SqL K H a (bs.map V.bl)) (hp : SqL K H p (bs.map V.bl)) (q : Q (.bl false) H) : rNeD K (.ref a) (.ref p) H Q := by
  refine ⟨.list (bs.map PyData.bool), .list (bs.map PyData.bool), .lst h (dp_bools bs), .lst hp (dp_bools bs), shaped_bools bs, shaped_bools bs, ?_⟩
  have e : PyData.eqv (.list (bs.map PyData.bool)) (.list (bs.map PyData.bool)) = true := by simp only [PyData.eqv]; exact eqv_bools bs
  rw [e]; exact q
end RS


namespace RS
open PySem PySem.Spec L2 PyProof.Rows
section
variable {X : Cx}
/-- list + list, of whatever standing -/
def rCatW (K : PySem.W.Frag) : R2 := fun x y H Q => ∃ l b xs zs, x = .ref l ∧ y = .ref b ∧ SqL K H l xs ∧ SqL K H b zs ∧ xs.length + zs.length ≤ sizeLine ∧ ∀ p, H p = none → Q (.ref p) (upd H p (.lst (xs ++ zs)))
theorem op_catW {K : PySem.W.Frag} (hK : X.K = K := by rfl) : OpR X (binaryOp .Add) (rCatW K) := by
  subst hK
  intro pins s σ H x y v u Q I rx ry h
  obtain ⟨l, b, xs, zs, rfl, rfl, hH, hB, hz, q⟩ := h
  cases rx
  cases ry
  obtain ⟨its, r, ⟨⟨c1, d1, t1, sl1⟩, n, ho, hc, hdd, hd⟩, _⟩ := I.list hH
  obtain ⟨its2, r2, ⟨⟨c2, d2, t2, sl2⟩, n2, ho2, hc2, hdd2, hd2⟩, _⟩ := I.list hB
  simp only at hc hd hdd hc2 hd2 hdd2
  subst hc hd hdd hc2 hd2 hdd2
  have l1 := r.length
  have l2 := r2.length
  refine concat_meets ⟨_, ho, rfl⟩ ⟨_, ho2, rfl⟩ noFill_list_add seq_list_add PySem.F.slot_list_add PySem.F.entry_list_add (PySem.F.args_list_add_2 _ _) (list_addW l b its.toArray its2.toArray n n2 none none sl1 sl2 (by rw [List.size_toArray, List.size_toArray]; omega)) ⟨ho, ho2, ?_⟩
  have ea : its.toArray ++ its2.toArray = (its ++ its2).toArray := by simp
  rw [ea]
  exact ⟨.ref _, _, I.lnew (t' := s.toks) (r.append r2) (by rw [List.length_append]; omega), rfl, q _ I.fresh⟩
end
end RS
namespace RS
open PySem PySem.Spec L2
theorem join_len_le (n b : Nat) : ∀ ts : List Str, ts.length ≤ n → (∀ t ∈ ts, t.length ≤ b) → (Str.join ", " ts).length ≤ n * (b + 2) := by
  intro ts hn hb
  by_cases e : ts = []
  · subst e; exact Nat.le_trans (by decide) (Nat.zero_le _)
  · have h := join_length_add ts e
    have hp : piled ts ≤ ts.length * (b + 2) := by
      clear h e hn
      induction ts with
      | nil => simp [piled]
      | cons t ts ih =>
        have h1 := hb t (List.mem_cons_self ..)
        have h2 := ih fun x hx => hb x (List.mem_cons_of_mem _ hx)
        simp only [piled, List.map_cons, List.sum_cons, List.length_cons] at h2 ⊢
        rw [Nat.add_mul]
        omega
    have : ts.length * (b + 2) ≤ n * (b + 2) := Nat.mul_le_mul_right _ hn
    omega
theorem shownAll_rep (d : PyData) : ∀ n, PyData.shownAll (List.replicate n d) = List.replicate n d.shown
  | 0 => by simp [PyData.shownAll]
  | n + 1 => by simp [List.replicate_succ, PyData.shownAll, shownAll_rep d n]
theorem showableAll_rep {d : PyData} (h : d.showable = true) : ∀ n, PyData.showableAll (List.replicate n d) = true
  | 0 => by simp [PyData.showableAll]
  | n + 1 => by simp [List.replicate_succ, PyData.showableAll, showableAll_rep h n, h]
theorem depthAll_rep (d : PyData) : ∀ n, PyData.depthAll (List.replicate n d) ≤ d.depth
  | 0 => by simp [PyData.depthAll]
  | n + 1 => by
    have := depthAll_rep d n
    simp only [List.replicate_succ, PyData.depthAll]; omega
theorem show_int {i : Int} (h : i.natAbs < 10 ^ 30) : (PyData.int i).showable = true ∧ (PyData.int i).depth = 0 ∧ (PyData.int i).shown.length ≤ 1000 := by
  refine ⟨?_, by simp [PyData.depth], ?_⟩
  · simp only [PyData.showable, decide_eq_true_eq]
    have h2 : i.natAbs < 2 ^ 1920 := Nat.lt_of_lt_of_le h (by decide +kernel)
    by_cases z : i.natAbs = 0
    · rw [z]; decide
    · exact (Nat.log2_lt z).mpr h2
  · rw [PyData.shown_int]
    have h3 := int_text_length_le10 (a := i) (k := 30) (by decide) h
    rw [ofString_length]
    omega
end RS


/-! own exception classes at the end of a law -/
namespace RS
open PySem PySem.Spec PySem.W L2
/-- what the kernel tells of an own exception class -/
structure XB (K : Frag) (C fI cda : Addr) (qual : Str) (B newId initId : String) (bmB : List Value) : Prop where
  q : excInitIn K C bmB newId = true
  ov : excOver K C bmB = true
  sup : ks_superIn K C C "__init__" = some (some (.builtin initId))
  sub : subIn K (.ref C) (.type B) = some true
  fn : typeIn K (.ref fI) = some (.type "function")
  cd : codeIn K (.ref cda) qual = true
  me : mroIn K C (.ref C) = some true
  kp : keepIn K (.ref C) = true
  hd : hasDictIn K C = true
  sa : findIn K (.ref C) "__setattr__" = some (some (.builtin "object.__setattr__"))
  hg : findIn K (.ref C) "__getattribute__" = some (some (.builtin "BaseException.__getattribute__"))
  hk : findIn K (.ref C) "__getattr__" = some none
  hs : subIn K (.ref C) (.type "BaseException") = some true
  ha : findIn K (.ref C) "__class__" = some (some (.builtin "object.__class__"))
  hm : mroIn K C (.type "object") = some true
/-- what is common -/
structure XA (P : Program) (K : Frag) : Prop where
  op : nsIn K cStatics "thirdparty.any" = some none
  nt : (P.main.scope.names.lookup ("super" : Str)).isSome = false
  hn : specialIn K (.builtin "object.__class__") "__get__" = some (some (.builtin "getset_descriptor.__get__"))
  ht : takesIn K (.builtin "object.__class__") = some true
section
variable {P : Program} {K : Frag} {C fI cda cc : Addr} {qual : Str} {st : Stmt} {B newId initId : String} {bmB : List Value}
  {oc kV doc pm ct ccl cl : Value} {od an cdd cld : Option Addr} {osl ccs csl : Array (Option Value)} {vs : Array Value} {file : Str} {tf : Tok}
theorem xc_mk (FB : ExcBaseFacts B newId initId bmB) (KF : KxsFacts B initId) (SF : StoreFacts B bmB "object.__setattr__" "object") (A : XA P K) (b : XB K C fI cda qual B newId initId bmB) (ini : findIn K (.ref C) "__init__" = some (some (.ref fI)))
    (l : K.lookup fI = some ⟨oc, od, .func (ksFn "__init__" qual (L2.defArgs st) (L2.defBody st) (L2.defScope st) .none kV doc pm an (.ref cda) ct cc), osl⟩)
    (co : K.lookup cda = some ⟨ccl, cdd, .fields vs, ccs⟩) (fi : vs[2]? = some (.str file tf)) (fe : ((P.main.file : Str) == file) = true) (ce : K.lookup cc = some ⟨cl, cld, .cell (some (.ref C)), csl⟩) :
    XC P K C fI cda cc qual st B newId initId bmB :=
  ⟨FB, KF, SF, b.q, b.ov, b.sup, b.sub, ini, b.fn, ⟨_, _, _, _, _, _, _, _, l⟩, b.cd, ⟨_, _, _, _, _, _, co, fi, fe⟩, ⟨_, _, _, ce⟩, b.me, A.op, A.nt⟩
theorem XB.exc (A : XA P K) (b : XB K C fI cda qual B newId initId bmB) : ExcC K C := ⟨b.hg, b.hk, b.hs, b.hd, b.ha, A.hn, A.ht, b.hm⟩
theorem XB.xf (b : XB K C fI cda qual B newId initId bmB) : XfC K C := ⟨b.hg, b.hk, b.hs, b.hd⟩
end
theorem df_mk {K : PySem.W.Frag} {x qual : Str} {st : Stmt} {f : Addr} {oc : Value} {od an : Option Addr} {osl : Array (Option Value)} {dV kV doc pm cdv ct : Value} (l : K.lookup f = some ⟨oc, od, .func (PySem.W.fnOf x qual (defArgs st) (defBody st) (defScope st) dV kV doc pm an cdv ct), osl⟩)
    (c : PySem.W.codeIn K cdv qual = true) (k : PySem.W.keepIn K (.ref f) = true) : Df K x qual st f (PySem.W.fnOf x qual (defArgs st) (defBody st) (defScope st) dV kV doc pm an cdv ct) dV := ⟨⟨oc, od, kV, doc, pm, an, cdv, ct, osl, rfl, l, c⟩, k⟩
end RS


namespace RS
open PySem PySem.Spec PyProof.Rows L2
/-- whether sys.modules is a dict -/
def smOk (h : Heap) : Bool := match h.get? sysModules with
  | some ⟨_, _, .dict _ _, _⟩ => true
  | _ => false
theorem smB_of {h : Heap} (e : smOk h = true) : SmB h := by
  unfold smOk at e
  split at e
  · rename_i c d es n sl q
    exact ⟨_, es, n, q, rfl⟩
  · cases e
/-- a hook that tells of sys.modules too -/
def smHook (k : PySem.W.Hook) : PySem.W.Hook :=
  ⟨k.α × Bool, fun s => (k.obs s, smOk s.heap), fun w => (k.val w, true), fun w h => k.says w h ∧ SmB h, fun w s e => ⟨k.of w s (Prod.mk.inj e).1, smB_of (Prod.mk.inj e).2⟩,
    fun w h h' x kp => ⟨k.keeps w h h' x.1 kp, by obtain ⟨o, es, n, e, d⟩ := x.2; exact ⟨o, es, n, kp _ _ e, d⟩⟩⟩
/-- the law's call, from its promise, where no repr is under way -/
theorem lawS {P : Program} {w : World} {K : PySem.W.Frag} {mg mb : Str → Option Value} {k : Nat} {fa a : Addr} {fd : FuncData} {x : Str} {sp : Sp} {s₁ : Shared} {vs : List Value} {ns : List Int}
    (KX : K.In s₁.heap) (gl : s₁.heap.Ns mainGlobals mg) (bl : s₁.heap.Ns builtinsNs mb) (bb : ∀ x : Str, x ≠ "__name__" → mb x = bootBuiltins x) (lim : s₁.heap.NoLimit) (ge : s₁.gens = #[])
    (ha : s₁.heap.get? a = some { cls := .type "list", data := .seq vs.toArray }) (hi : IntsAre vs ns) (hl : ns.length ≤ sizeLine) (hr : Room k callerA)
    (sm : SmB s₁.heap) (F : ∀ base : Heap, K.In base → base.Ns mainGlobals mg → SmB base → FnG ⟨P, w, K, mg, base⟩ k fa fd [x] sp) (bd : ∀ (s : Shared) (u : Value), BindsTo s fd ⟨[u], []⟩ [(x, u)])
    (hsp : ∀ H : Hp, Only H → SqL K H a (ns.map V.int) → sp [.ref a] H (fun v _ => v = .bl true) fun _ _ _ => False) :
    codeAny (model P w) callerA (.call (.ref fa) ⟨[.ref a], []⟩) (fun r s' => r = .ok (.ret (.bool true)) ∧ OldK s₁.heap s'.heap ∧ s'.os = s₁.os ∧ AllBare s'.gens) s₁ := by
  have rv := vals_ints hi
  -- H tracks the script, or nothing
  have go : ∀ H : Hp, Only H → SqL K H a (ns.map V.int) → HOk P w H s₁.heap → (∀ b o, s₁.heap.get? b = some o → (∃ u, H b = some u) → b = a ∧ K.lookup a = none) →
      codeAny (model P w) callerA (.call (.ref fa) ⟨[.ref a], []⟩) (fun r s' => r = .ok (.ret (.bool true)) ∧ OldK s₁.heap s'.heap ∧ s'.os = s₁.os ∧ AllBare s'.gens) s₁ := by
    intro H hO hS hok hA
    have free : ∀ {b : Addr} {o : Obj}, s₁.heap.get? b = some o → (∀ v n, o.data ≠ .seq v n) → H b = none := by
      intro b o e nd
      cases q : H b with
      | none => rfl
      | some u =>
        obtain ⟨rfl, _⟩ := hA b o e ⟨u, q⟩
        rw [ha] at e
        cases e
        exact absurd rfl (nd _ _)
    have ns1 : ∀ {b : Addr} {m : Str → Option Value}, s₁.heap.Ns b m → (hidT s₁.heap H).Ns b m := by
      rintro b m ⟨o, es, ep, e, d, r⟩
      exact ⟨o, es, ep, hidT_get e (free e fun v n z => by rw [d] at z; cases z), d, r⟩
    have K1 : K.In (hidT s₁.heap H) := by
      intro b o e
      refine hidT_get (KX b o e) ?_
      cases q : H b with
      | none => rfl
      | some u =>
        obtain ⟨rfl, z⟩ := hA b o (KX b o e) ⟨u, q⟩
        rw [z] at e
        cases e
    have md : Mod K mg (hidT s₁.heap H) := by
      obtain ⟨mc, l1, l2⟩ := lim
      exact ⟨K1, ns1 gl, ⟨mb, ns1 bl, bb⟩, mc, ns1 l1, l2⟩
    have e0 : Env0 P w K mg (hidT s₁.heap H) callerA [] s₁ H :=
      { frames := rfl, mod := md, bs := fun b o e => of_hidT e, bsz := Nat.le_of_eq (hidT_size _ _), funs := trivial, frf := fun b hb => (nomatch hb), hok := hok, bare := .of_eq ge }
    have sm1 : SmB (hidT s₁.heap H) := by
      obtain ⟨o, es, n, e, d⟩ := sm
      exact ⟨o, es, n, hidT_get e (free e fun v n z => by rw [d] at z; cases z), d⟩
    refine codeAny_mono ((F _ K1 (ns1 gl) sm1).run callerA [] s₁ H ⟨[.ref a], []⟩ [.ref a] [.ref a] _ _ hr rfl e0 (bd s₁ (.ref a)) (.cons rfl .nil) (hsp H hO hS)) ?_
    rintro r s' h
    cases r with
    | error e =>
      obtain ⟨_, _, _, _, _, _, _, _, _, _, _, _, z⟩ := h
      exact z.elim
    | ok fl => cases fl with
      | ret u =>
        obtain ⟨v, H', os, bare, un, hok', r', q⟩ := h
        obtain rfl : v = .bl true := q
        obtain rfl : u = Value.bool true := r'
        refine ⟨rfl, OldK.of_keep fun b o e => ?_, os, bare⟩
        rcases hO b with z | ⟨ob, xs, z⟩
        · exact un.keep b o e z (fun y => (nomatch y)) (fun y => (nomatch y))
        · have z2 := un.frzs b ob _ z
          have e1 := (hok b _ z).1
          rw [e] at e1
          cases e1
          exact (hok' b _ z2).1
      | _ => exact h.elim
  cases hk : K.lookup a with
  | some o =>
    have e := KX a o hk
    rw [ha] at e
    cases e
    refine go (fun _ => none) (fun _ => .inl rfl) (.inr ⟨_, vs.toArray, _, hk, rfl, rfl, rfl, by rw [List.size_toArray, hi.length]; exact hl, by simpa using rv⟩) (fun b u z => nomatch z) fun b o _ z => ?_
    obtain ⟨u, z⟩ := z
    cases z
  | none =>
    refine go (upd (fun _ => none) a (.frz { cls := .type "list", data := .seq vs.toArray } (.lst (ns.map V.int)))) (fun b => ?_) (.inl (.inr ⟨_, upd_same⟩)) (fun b u z => ?_) fun b o e z => ?_
    · by_cases hb : b = a
      · subst hb; exact .inr ⟨_, _, upd_same⟩
      · exact .inl (upd_ne hb)
    · by_cases hb : b = a
      · subst hb
        rw [upd_same] at z
        cases z
        exact ⟨ha, by rw [List.length_map]; exact hl, vs, _, rv, ha⟩
      · rw [upd_ne hb] at z
        cases z
    · obtain ⟨u, z⟩ := z
      by_cases hb : b = a
      · exact ⟨hb, hk⟩
      · rw [upd_ne hb] at z
        cases z

/-- the goal that k_head leaves, from the law's promise -/
theorem walkS {l : PySem.W.OpenLaw} {n k : Nat} {q : Program} {loose : List Str} {XP : (Str → Option Value) → Heap → Prop} {YP : World → Heap → Prop} {d : DefRec} {K : Params → PySem.W.Frag} {sp : World → Sp} {x : Str}
    (hn : l.most = some n) (hn2 : n ≤ sizeLine) (hdf : d.params.defaults = []) (hr : Room k callerA)
    (hY : ∀ (w : World) (h : Heap), YP w h → (K w.params).In h) (hY2 : ∀ (w : World) (h : Heap), YP w h → SmB h)
    (F : ∀ (w : World) (mg : Str → Option Value) (fa : Addr) (h : Heap), (K w.params).In h → h.Ns mainGlobals mg → mg d.name = some (.ref fa) →
      ∃ fd : FuncData, (∀ (s : Shared) (u : Value), BindsTo s fd ⟨[u], []⟩ [(x, u)]) ∧
        ∀ base : Heap, (K w.params).In base → base.Ns mainGlobals mg → SmB base → FnG ⟨l.prog, w, K w.params, mg, base⟩ k fa fd [x] (sp w))
    (hsp : ∀ (w : World) (H : Hp) (a : Addr) (ns : List Int), ns.length ≤ n → (∀ z ∈ ns, Builtin.Int.intBits z ≤ 1048576) → Only H → SqL (K w.params) H a (ns.map V.int) → sp w [.ref a] H (fun v _ => v = .bl true) fun _ _ _ => False) :
    PySem.W.WalkO q loose XP YP l.row.toRowW d [] (fun f vs => PySem.call f vs) := by
  refine Att.attach_callB hn hdf fun w s₀ s₁ mg mb fa o pm cd doc a vs ns G Y ho hd hcd hmg hobj hints hlen hbits hg => ?_
  obtain ⟨fd, hb, hF⟩ := F w mg fa _ (hY w _ Y) G.T.g hmg
  exact lawS (hY w _ Y) G.T.g G.T.b G.T.builtins G.T.nolimit hg hobj hints (Nat.le_trans hlen hn2) hr (hY2 w _ Y) hF hb fun H hO hS => hsp w H a ns hlen hbits hO hS
end RS


namespace RS
open PySem PySem.Spec L2 PyProof.Rows
section
variable {X : Cx} {k : Nat}
/-! ### repr of whatever is data -/
def rReprV (K : PySem.W.Frag) : List V → Hp → VK → Prop := fun xs H Q => ∃ v d, xs = [v] ∧ DpX K H v d ∧ d.showable = true ∧ d.depth ≤ 60 ∧ d.shown.length ≤ sizeLine ∧ Q (.str d.shown) H
theorem c_reprV {K : PySem.W.Frag} {base : Heap} (sm : SmB base) (hr : Rm k X) (hK : X.K = K := by rfl) (hB : X.base = base := by rfl) : CallR X (.builtin "repr") (rReprV K) := by
  subst hK
  subst hB
  intro pins s σ H xs us Q I r h
  obtain ⟨v, d, rfl, hd, hs, hz, hl, q⟩ := h
  obtain ⟨u, rfl, ru⟩ := vals1 r
  cases hd with
  | non =>
    cases ru
    rw [PyData.shown_none] at q
    exact PySem.P.repr_of_none ⟨.str _, H, I.tok _, ⟨_, rfl⟩, q⟩
  | bl b =>
    cases ru
    rw [PyData.shown_bool] at q
    exact PySem.P.repr_of_bool ⟨.str _, H, I.tok _, ⟨_, rfl⟩, q⟩
  | int i =>
    obtain ⟨t, rfl⟩ := ru
    rw [PyData.shown_int] at q
    have hb : i.natAbs.log2 < 1920 := by simpa [PyData.showable] using hs
    exact PySem.P.repr_of_int hb ⟨.str _, H, I.tok _, ⟨_, rfl⟩, q⟩
  | str x =>
    obtain ⟨t, rfl⟩ := ru
    rw [PyData.shown_str] at q hl
    exact PySem.P.repr_of_str ⟨.str _, H, I.tok _, ⟨_, rfl⟩, q⟩ hl
  | @lst a xs ds h1 h2 => exact c_reprX (base := X.base) sm hr rfl rfl pins s σ H _ _ Q I r ⟨a, _, rfl, .lst h1 h2, hs, hz, hl, q⟩
  | @tup a xs ds h1 h2 => exact c_reprX (base := X.base) sm hr rfl rfl pins s σ H _ _ Q I r ⟨a, _, rfl, .tup h1 h2, hs, hz, hl, q⟩
  | @dct a kvs D h1 h2 => exact c_reprX (base := X.base) sm hr rfl rfl pins s σ H _ _ Q I r ⟨a, _, rfl, .dct h1 h2, hs, hz, hl, q⟩
/-! ### two lists, one of them empty -/
def rNeE (K : PySem.W.Frag) : R2 := fun x y H Q => ∃ a b xs ys, x = .ref a ∧ y = .ref b ∧ SqL K H a xs ∧ SqL K H b ys ∧ (xs = [] ∨ ys = []) ∧ Q (.bl (decide (xs.length ≠ ys.length))) H
theorem op_neE {K : PySem.W.Frag} (hr : Rm k X) (hK : X.K = K := by rfl) : OpR X (compareOp .NotEq) (rNeE K) := by
  subst hK
  intro pins s σ H x y v u Q I rx ry h
  obtain ⟨a, b, xs, ys, rfl, rfl, ha, hb, he, q⟩ := h
  cases rx
  cases ry
  obtain ⟨its, r1, ⟨o1, n1, ho1, hc1, hdd1, hd1⟩, _⟩ := I.list ha
  obtain ⟨its2, r2, ⟨o2, n2, ho2, hc2, hdd2, hd2⟩, _⟩ := I.list hb
  have l1 := r1.length
  have l2 := r2.length
  have hu : X.A.units < cLine := by have := hr.room.un; omega
  by_cases hl : xs.length = ys.length
  · have z : its.toArray.size = its2.toArray.size := by simp; omega
    have zz : its.length = 0 := by
      rcases he with e | e
      · rw [← l1, e]; rfl
      · rw [← l1, hl, e]; rfl
    have := SeqAt.RcNeAt.lists (A := X.A) (s := s) (l := a) (b := b) (e := fun _ => true) ⟨o1, ho1, hc1, n1, hd1⟩ ⟨o2, ho2, hc2, n2, hd2⟩ z hu (fun j h1 _ => by simp [zz] at h1)
    refine this X.prog X.w X.xe _ ⟨.bl (decide (xs.length ≠ ys.length)), H, I, ?_, q⟩
    simp [hl, zz]; exact rfl
  · have z : (its.toArray.size != its2.toArray.size) = true := by simp; omega
    have := SeqAt.RcNeAt.lists_lengths (A := X.A) (s := s) (l := a) (b := b) ⟨o1, ho1, hc1, n1, hd1⟩ ⟨o2, ho2, hc2, n2, hd2⟩ z hu
    refine this X.prog X.w X.xe _ ⟨.bl (decide (xs.length ≠ ys.length)), H, I, ?_, q⟩
    simp [hl]; exact rfl
end
end RS


/-! list(enumerate(x)), x a list or a tuple -/
namespace RS
open PySem PySem.Spec
/-- an iterator whose turns give out no token -/
structure Dr (prog : Program) (w : World) (A : Around) (it : Addr) (fp : List Addr) (n : Nat) (P : Nat → Value → Prop) (St : Nat → Heap → Prop) : Prop where
  fr : ∀ i h h', St i h → (∀ b ∈ fp, ∀ o, h.get? b = some o → h'.get? b = some o) → St i h'
  nx : ∀ i (s : Shared) (Q : Value → Shared → Prop) (E : Value → Shared → Prop), i < n → St i s.heap → (∀ x h', P i x → St (i + 1) h' → Heap.SameBut it s.heap h' → Q x { s with heap := h' }) → wpAny (model prog w) A (Builtin.SmallTypes.nextOf (.ref it)) Q E s
  dn : ∀ (s : Shared) (Q : Value → Shared → Prop) (E : Value → Shared → Prop), St n s.heap → (∀ h' e, Heap.ExtBut it s.heap h' → (∃ o, h'.get? e = some o ∧ o.cls = .type "StopIteration") → E (.ref e) { s with heap := h' }) → wpAny (model prog w) A (Builtin.SmallTypes.nextOf (.ref it)) Q E s
section
variable {prog : Program} {w : World} {A : Around} {E : Value → Shared → Prop} {s : Shared}
theorem dr_list (hh : A.handled = none) (it l : Addr) (ne : l ≠ it) (xs : Array Value) : Dr prog w A it [it, l] xs.size (fun i v => xs[i]? = some v) (fun i h => h.IsListIter it l i ∧ h.IsList l xs) :=
  ⟨fun _ _ _ z k => ⟨z.1.at fun o e => k it (by simp) o e, z.2.at fun o e => k l (by simp) o e⟩,
   fun i s Q E lt z k => wpAny_nextOf_list_item z.1 z.2 (x := xs[i]) (by simp [lt]) fun h' a b => k _ h' (by simp [lt]) ⟨a, z.2.extBut b.extBut ne⟩ b,
   fun s Q E z k => wpAny_nextOf_list_end hh z.1 z.2 (by simp) k⟩
theorem dr_tup (hh : A.handled = none) (it l : Addr) (ne : l ≠ it) (xs : Array Value) : Dr prog w A it [it, l] xs.size (fun i v => xs[i]? = some v) (fun i h => h.IsTupleIter it l i ∧ h.IsTuple l xs) :=
  ⟨fun _ _ _ z k => ⟨z.1.at fun o e => k it (by simp) o e, z.2.at fun o e => k l (by simp) o e⟩,
   fun i s Q E lt z k => wpAny_nextOf_tuple_item z.1 z.2 (x := xs[i]) (by simp [lt]) fun h' a b => k _ h' (by simp [lt]) ⟨a, z.2.extBut b.extBut ne⟩ b,
   fun s Q E z k => wpAny_nextOf_tuple_end hh z.1 z.2 (by simp) k⟩
/-- an enumerate's record -/
abbrev enO (f0 f1 : Value) (it : Addr) (c : Int) (old : Value) : Obj := { cls := .type "enumerate", dict := none, data := .fields #[f0, f1, .ref it, rawInt c, .none, old], slots := #[] }
abbrev tupO (c : Int) (t : Tok) (x : Value) : Obj := { cls := .type "tuple", data := .seq #[.int c t, x] }
/-- its state: no tuple is out, or one is out and held -/
def EnS (h : Heap) (e it : Addr) (c : Int) : Prop := (∃ old, h.get? e = some (enO .none (.bool false) it c old)) ∨ ∃ (old : Value) (T : Addr) (f : Bool) (o : Obj), h.get? e = some (enO (rawInt T) (.bool f) it c old) ∧ h.get? T = some o ∧ T ≠ e ∧ T ≠ it ∧ o.cls = .type "tuple"
theorem en_next {e it : Addr} {fp : List Addr} {n i : Nat} {P : Nat → Value → Prop} {St : Nat → Heap → Prop} {Q : Value → Shared → Prop} (D : Dr prog w A it fp n P St) (he : EnS s.heap e it i) (hst : St i s.heap) (lt : i < n) (ne : e ≠ it) (nf : e ∉ fp) (hi : it < s.heap.objs.size)
    (k : ∀ x h', P i x → EnS h' e it (i + 1 : Nat) → St (i + 1) h' → h'.get? s.heap.objs.size = some (tupO i s.toks x) → h'.objs.size = s.heap.objs.size + 1 → (∀ b o, b ≠ e → b ≠ it → s.heap.get? b = some o → h'.get? b = some o) → Q (.ref s.heap.objs.size) { s with heap := h', toks := s.toks + 1 }) :
    wpAny (model prog w) A (Builtin.«enumerate.__next__» ⟨[.ref e], []⟩) (fun r z => ∃ v, r = .done (.ret v) ∧ Q v z) E s := by
  obtain ⟨H, gs, dr, tk, os⟩ := s
  have ec : ((i + 1 : Nat) : Int) = (i : Int) + 1 := by omega
  obtain ⟨f0, f1, old, hE⟩ : ∃ f0 f1 old, H.get? e = some (enO f0 f1 it i old) := by
    rcases he with ⟨old, z⟩ | ⟨old, T, f, o, z, _⟩
    · exact ⟨_, _, _, z⟩
    · exact ⟨_, _, _, z⟩
  have le : e < H.objs.size := Heap.lt_size hE
  unfold Builtin.«enumerate.__next__»
  refine wpAny_bind (wpAny_of_eq (a := ((Value.ref e : Value), ([] : List Value))) (by rfl) ?_)
  refine wpAny_bind (wpAny_field hE rfl (x := .ref it) rfl ?_)
  refine wpAny_bind (D.nx i ⟨H, gs, dr, tk, os⟩ _ _ lt hst fun x H1 px st1 m1 => ?_)
  have E1 : H1.get? e = some (enO f0 f1 it i old) := (m1.2 e ne).trans hE
  refine wpAny_bind (wpAny_field E1 rfl (x := rawInt i) rfl ?_)
  refine wpAny_bind (wpAny_field E1 rfl (x := .none) rfl ?_)
  show wpAny _ _ ((mkInt (i : Int)) >>= _) _ _ ⟨H1, gs, dr, tk, os⟩
  refine wpAny_bind (wpAny_mkInt ?_)
  refine wpAny_bind (wpAny_setField_rec (s := ⟨H1, gs, dr, tk + 1, os⟩) E1 (by simp) fun H2 E2 m2 => ?_)
  have E2' : H2.get? e = some (enO f0 f1 it ((i : Int) + 1) old) := E2
  refine wpAny_bind (wpAny_setField_rec (s := ⟨H2, gs, dr, tk + 1, os⟩) E2' (by simp) fun H3 E3 m3 => ?_)
  have E3' : H3.get? e = some (enO f0 f1 it ((i : Int) + 1) old) := E3
  have m2' : Heap.SameBut e H1 H2 := m2
  have m3' : Heap.SameBut e H2 H3 := m3
  have m1' : Heap.SameBut it H H1 := m1
  have z3 : H3.objs.size = H.objs.size := by rw [m3'.1, m2'.1, m1'.1]
  refine wpAny_bind (wpAny_newTuple ?_)
  have keep4 : ∀ b o, b ≠ e → b ≠ it → H.get? b = some o → (H3.push (tupO i tk x)).get? b = some o := fun b o x1 x2 z => Heap.get?_push_of_some _ (m3'.extBut b o x1 (m2'.extBut b o x1 (m1'.extBut b o x2 z)))
  have E4 : (H3.push (tupO i tk x)).get? e = some (enO f0 f1 it ((i : Int) + 1) old) := Heap.get?_push_of_some _ E3'
  have T4 : (H3.push (tupO i tk x)).get? H.objs.size = some (tupO i tk x) := by rw [← z3]; exact Heap.get?_push_size _ rfl
  have st4 : St (i + 1) (H3.push (tupO i tk x)) := D.fr _ _ _ st1 fun b hb o z => by
    have x1 : b ≠ e := fun q => nf (q ▸ hb)
    exact Heap.get?_push_of_some _ (m3'.extBut b o x1 (m2'.extBut b o x1 z))
  have z4 : (H3.push (tupO i tk x)).objs.size = H.objs.size + 1 := by rw [Heap.size_push, z3]
  have keepT : ∀ T o, T ≠ e → T ≠ it → H.get? T = some o → (H3.push (tupO i tk x)).get? T = some o := keep4
  show wpAny _ _ (Builtin.SmallTypes.ownedTupleIsFree (.ref e) >>= _) _ _ ⟨H3.push (tupO i tk x), gs, dr, tk + 1, os⟩
  rw [z3]
  generalize H3.push (tupO i tk x) = H4 at keep4 E4 T4 st4 z4 keepT ⊢
  have nT : H.objs.size ≠ e := Nat.ne_of_gt le
  have nI : H.objs.size ≠ it := Nat.ne_of_gt hi
  rcases he with ⟨old', z⟩ | ⟨old', T, f, oT, z, hT, n1, n2, ct⟩
  · have q : enO f0 f1 it i old = enO .none (.bool false) it i old' := Option.some.inj (hE.symm.trans z)
    have qq := congrArg (fun o : Obj => match o.data with | .fields vs => vs.toList | _ => []) q
    simp only [List.cons.injEq] at qq
    have q0 : f0 = .none := qq.1
    have q1 : f1 = .bool false := qq.2.1
    subst q0 q1
    refine wpAny_bind ?_
    unfold Builtin.SmallTypes.ownedTupleIsFree
    refine wpAny_bind (wpAny_field E4 rfl (x := .none) rfl (wpAny_pure ?_))
    simp only [if_true]
    refine wpAny_bind (wpAny_rule ?_)
    refine wpAny_bind (wpAny_field E4 rfl (x := old) rfl ?_)
    refine wpAny_bind (wpAny_setField_rec E4 (by simp) fun H5 E5 m5 => ?_)
    have E5' : H5.get? e = some (enO .none (.bool false) it ((i : Int) + 1) x) := E5
    have m5' : Heap.SameBut e H4 H5 := m5
    refine wpAny_bind ?_
    unfold Builtin.SmallTypes.ownedTupleHandOut
    refine wpAny_bind (wpAny_setField_rec E5' (by simp) fun H6 E6 m6 => ?_)
    have m6' : Heap.SameBut e H5 H6 := m6
    refine wpAny_setField_rec E6 (by simp) fun H7 E7 m7 => ?_
    have m7' : Heap.SameBut e H6 H7 := m7
    have E7' : H7.get? e = some (enO (rawInt H.objs.size) (.bool false) it ((i + 1 : Nat) : Int) x) := by rw [ec]; exact E7
    have kk : ∀ b o, b ≠ e → H4.get? b = some o → H7.get? b = some o := fun b o x1 z => m7'.extBut b o x1 (m6'.extBut b o x1 (m5'.extBut b o x1 z))
    refine wpAny_bind (wpAny_letGo (wpAny_pure ⟨_, rfl, k x H7 px (.inr ⟨x, H.objs.size, false, _, E7', kk _ _ nT T4, nT, nI, rfl⟩) (D.fr _ _ _ st4 fun b hb o z => kk b o (fun q => nf (q ▸ hb)) z) (kk _ _ nT T4) ?_ fun b o x1 x2 z => kk b o x1 (keep4 b o x1 x2 z)⟩))
    show H7.objs.size = H.objs.size + 1
    rw [m7'.1, m6'.1, m5'.1, z4]
  · have q : enO f0 f1 it i old = enO (rawInt T) (.bool f) it i old' := Option.some.inj (hE.symm.trans z)
    have qq := congrArg (fun o : Obj => match o.data with | .fields vs => vs.toList | _ => []) q
    simp only [List.cons.injEq] at qq
    have q0 : f0 = rawInt T := qq.1
    have q1 : f1 = .bool f := qq.2.1
    subst q0 q1
    refine wpAny_bind (wpAny_tupleHeld_enum (s := ⟨H4, gs, dr, tk + 1, os⟩) E4 (keepT T oT n1 n2 hT) fun H5 E5 m5 => ?_)
    have m5' : Heap.SameBut e H4 H5 := m5
    simp only [Bool.false_eq_true, if_false]
    have kk : ∀ b o, b ≠ e → H4.get? b = some o → H5.get? b = some o := fun b o x1 z => m5'.extBut b o x1 z
    refine wpAny_pure ⟨_, rfl, k x H5 px (.inr ⟨old, T, true, oT, by rw [ec]; exact E5, kk _ _ n1 (keepT T oT n1 n2 hT), n1, n2, ct⟩) (D.fr _ _ _ st4 fun b hb o z => kk b o (fun q => nf (q ▸ hb)) z) (kk _ _ nT T4) ?_ fun b o x1 x2 z => kk b o x1 (keep4 b o x1 x2 z)⟩
    show H5.objs.size = H.objs.size + 1
    rw [m5'.1, z4]
end
end RS


namespace RS
open PySem PySem.Spec
section
variable {prog : Program} {w : World} {A : Around} {E : Value → Shared → Prop} {s : Shared} {e it : Addr} {fp : List Addr} {n i : Nat} {P : Nat → Value → Prop} {St : Nat → Heap → Prop}
theorem EnS.ty {h : Heap} {c : Int} (x : EnS h e it c) : ∃ o, h.get? e = some o ∧ o.cls = .type "enumerate" := by
  rcases x with ⟨old, z⟩ | ⟨old, T, f, o, z, _⟩
  · exact ⟨_, z, rfl⟩
  · exact ⟨_, z, rfl⟩
theorem en_item {Q : Option Value → Shared → Prop} (D : Dr prog w A.in1 it fp n P St) (he : EnS s.heap e it i) (hst : St i s.heap) (lt : i < n) (ne : e ≠ it) (nf : e ∉ fp) (hi : it < s.heap.objs.size)
    (k : ∀ x h', P i x → EnS h' e it (i + 1 : Nat) → St (i + 1) h' → h'.get? s.heap.objs.size = some (tupO i s.toks x) → h'.objs.size = s.heap.objs.size + 1 → (∀ b o, b ≠ e → b ≠ it → s.heap.get? b = some o → h'.get? b = some o) → Q (some (.ref s.heap.objs.size)) { s with heap := h', toks := s.toks + 1 }) :
    wpAny (model prog w) A (pyNext (.ref e)) Q E s := by
  have ty : s.TypeIs (.ref e) "enumerate" := he.ty
  unfold pyNext
  refine wpAny_bind (wpAny_attempt (wpAny_callSpecial?_slot (name := ("__next__" : Str)) ty F.slot_enumerate_next (wpAny_call_entry F.slot_enumerate_next ty F.entry_enumerate_next ?_ (F.args_enumerate_next_1 _))))
  exact en_next D he hst lt ne nf hi fun x h' a b c d f g => wpAny_pure (k x h' a b c d f g)
theorem en_end {Q : Option Value → Shared → Prop} {c : Int} (D : Dr prog w A.in1 it fp n P St) (he : EnS s.heap e it c) (hst : St n s.heap) (k : ∀ h', Heap.ExtBut it s.heap h' → Q none { s with heap := h' }) : wpAny (model prog w) A (pyNext (.ref e)) Q E s := by
  have ty : s.TypeIs (.ref e) "enumerate" := he.ty
  obtain ⟨f0, f1, old, hE⟩ : ∃ f0 f1 old, s.heap.get? e = some (enO f0 f1 it c old) := by
    rcases he with ⟨old, z⟩ | ⟨old, T, f, o, z, _⟩
    · exact ⟨_, _, _, z⟩
    · exact ⟨_, _, _, z⟩
  unfold pyNext
  refine wpAny_bind (wpAny_attempt (wpAny_callSpecial?_slot (name := ("__next__" : Str)) ty F.slot_enumerate_next (wpAny_call_entry F.slot_enumerate_next ty F.entry_enumerate_next ?_ (F.args_enumerate_next_1 _))))
  unfold Builtin.«enumerate.__next__»
  refine wpAny_bind (wpAny_of_eq (a := ((Value.ref e : Value), ([] : List Value))) (by rfl) ?_)
  refine wpAny_bind (wpAny_field hE rfl (x := .ref it) rfl ?_)
  refine wpAny_bind (D.dn s _ _ hst fun h' x eb hx => ?_)
  obtain ⟨o, ho, hc⟩ := hx
  exact wpAny_bind (wpAny_isInstance (T := "StopIteration") (b := true) ⟨o, ho, hc⟩ isSubtype_stop (wpAny_pure (k _ eb)))
abbrev lstO (acc : Array Value) (c : Nat) : Obj := { cls := .type "list", dict := none, data := .seq acc c, slots := #[] }
/-- the tuples laid so far -/
def Laid (P : Nat → Value → Prop) (b0 m : Nat) (h : Heap) : Prop := ∀ j, j < m → ∃ t x, h.get? (b0 + j) = some (tupO j t x) ∧ P j x
def refsR (b0 m : Nat) : List Value := (List.range m).map fun j => .ref (b0 + j)
theorem refsR_succ (b0 m : Nat) : refsR b0 (m + 1) = refsR b0 m ++ [.ref (b0 + m)] := by simp [refsR, List.range_succ]
theorem en_loop {R : Result → Shared → Prop} {S : Addr} {b0 : Nat} {h₁ : Heap} {res : Value} (D : Dr prog w A.in1.in1 it fp n P St) (ne : e ≠ it) (nf : e ∉ fp) (Sf : S ∉ fp) (Se : S ≠ e) (Si : S ≠ it) (hn : n ≤ sizeLine) (lS : S < b0) (li : it < b0) (le : e < b0)
    (hR : ∀ h' tk c, (∀ b o, b ≠ S → b ≠ e → b ≠ it → h₁.get? b = some o → h'.get? b = some o) → h'.get? S = some (lstO (refsR b0 n).toArray c) → Laid P b0 n h' → R (.ok (.ret res)) { s with heap := h', toks := tk }) :
    ∀ (k i : Nat) (h : Heap) (tk c : Nat), n - i = k → i ≤ n → EnS h e it i → St i h → h.objs.size = b0 + i → (∀ b o, b ≠ S → b ≠ e → b ≠ it → h₁.get? b = some o → h.get? b = some o) → h.get? S = some (lstO (refsR b0 i).toArray c) → Laid P b0 i h →
      codeAny (model prog w) A (.builtin "list.extend.loop" ⟨[.ref S, .ref e, res], []⟩) R { s with heap := h, toks := tk } := by
  have nS : ∀ j : Nat, (b0 + j : Nat) ≠ S := fun j => Nat.ne_of_gt (Nat.lt_of_lt_of_le lS (Nat.le_add_right _ _))
  have nE : ∀ j : Nat, (b0 + j : Nat) ≠ e := fun j => Nat.ne_of_gt (Nat.lt_of_lt_of_le le (Nat.le_add_right _ _))
  have nI : ∀ j : Nat, (b0 + j : Nat) ≠ it := fun j => Nat.ne_of_gt (Nat.lt_of_lt_of_le li (Nat.le_add_right _ _))
  intro k
  induction k with
  | zero =>
    intro i h tk c hk hi he st sz kp hS la
    have : i = n := by omega
    subst this
    refine codeAny_builtin PySem.F.entry_extend_loop ?_
    rw [Around.under_plainId PySem.F.plain_extend_loop _]
    unfold Builtin.«list.extend.loop»
    refine wpAny_bind (en_end (s := { s with heap := h, toks := tk }) D he st fun h' eb => wpAny_pure (hR h' tk c (fun b o x1 x2 x3 z => eb b o x3 (kp b o x1 x2 x3 z)) (eb S _ Si hS) fun j hj => ?_))
    obtain ⟨t, x, z, p⟩ := la j hj
    exact ⟨t, x, eb _ _ (nI j) z, p⟩
  | succ k ih =>
    intro i h tk c hk hi he st sz kp hS la
    have lt : i < n := by omega
    refine codeAny_builtin PySem.F.entry_extend_loop ?_
    rw [Around.under_plainId PySem.F.plain_extend_loop _]
    unfold Builtin.«list.extend.loop»
    refine wpAny_bind (en_item (s := { s with heap := h, toks := tk }) D he st lt ne nf (by show it < h.objs.size; rw [sz]; exact Nat.lt_of_lt_of_le li (Nat.le_add_right _ _)) fun x h' px he' st' T' z' k' => ?_)
    have T2 : h'.get? (b0 + i) = some (tupO i tk x) := by rw [← sz]; exact T'
    have z2 : h'.objs.size = b0 + i + 1 := by rw [z']; show h.objs.size + 1 = _; rw [sz]
    have S2 := k' S _ Se Si hS
    have up : Heap.SameBut S h' (h'.update S (Obj.mapSeq (·.push (.ref (b0 + i))))) := Heap.SameBut.update ..
    have S3 := Heap.get?_update_self (Obj.mapSeq (·.push (Value.ref (b0 + i)))) S2 rfl
    have szr : (refsR b0 i).toArray.size = i := by simp [refsR]
    show wpAny _ A.in1 (updateSeq S (·.push (.ref h.objs.size)) >>= fun _ => _) _ _ _
    rw [sz]
    refine wpAny_bind (wpAny_updateSeq S2 rfl (wpAny_pure ⟨plainId_quiet PySem.F.plain_extend_loop _, ih (i + 1) _ _ (if ((refsR b0 i).toArray.push (Value.ref (b0 + i))).size == (refsR b0 i).toArray.size then c else c + 1) (by omega) lt ?_ ?_ ?_ ?_ ?_ ?_⟩) (by rw [szr]; omega) (by show ((refsR b0 i).toArray.push _).size ≤ sizeLine + 1; rw [Array.size_push, szr]; omega))
    · rcases he' with ⟨old, z⟩ | ⟨old, T, f, o, z, y1, y2, y3, y4⟩
      · exact .inl ⟨old, up.extBut _ _ (Ne.symm Se) z⟩
      · refine .inr ⟨old, T, f, o, up.extBut _ _ (Ne.symm Se) z, up.extBut _ _ (fun q => ?_) y1, y2, y3, y4⟩
        rw [q, S2] at y1
        cases y1
        exact absurd y4 (by show ¬ Value.type "list" = Value.type "tuple"; decide)
    · exact D.fr _ _ _ st' fun b hb o z => up.extBut _ _ (fun q => Sf (q ▸ hb)) z
    · rw [up.1, z2]; omega
    · exact fun b o x1 x2 x3 z => up.extBut b o x1 (k' b o x2 x3 (kp b o x1 x2 x3 z))
    · have : (refsR b0 (i + 1)).toArray = (refsR b0 i).toArray.push (.ref (b0 + i)) := by rw [refsR_succ]; simp
      rw [this]; exact S3
    · intro j hj
      by_cases q : j = i
      · subst q
        exact ⟨tk, x, up.extBut _ _ (nS _) T2, px⟩
      · obtain ⟨t, y, z, p⟩ := la j (by omega)
        exact ⟨t, y, up.extBut _ _ (nS _) (k' _ _ (nE _) (nI _) z), p⟩
end
end RS


namespace RS
open PySem PySem.Spec
abbrev itO (kind : String) (l : Addr) : Obj := { cls := .type kind, data := .fields #[.ref l, .int 0 0] }
abbrev en0 (it : Addr) : Obj := { cls := .type "enumerate", data := .fields #[.none, .bool false, .ref it, rawInt 0, .none, .none] }
theorem enew_meets {v : Value} {o : Obj} {H : Heap → Prop} (B : Begins v o H) :
    Meets (Builtin.«enumerate.__new__» ⟨[.type "enumerate", v], []⟩) (fun _ R s => H s.heap ∧ R (.ok (.ret (.ref (s.heap.push o).objs.size))) { s with heap := (s.heap.push o).push (en0 s.heap.objs.size) }) :=
  .of_wp fun prog w A R s h => by
    obtain ⟨hp, g, d, tk, os⟩ := s
    obtain ⟨h1, h⟩ := h
    have sub := sub_enumerate
    have go : ∀ {A' : Around} {E : Value → Shared → Prop} {Q : Value → Shared → Prop}, Q (.ref hp.objs.size) ⟨hp.push o, g, d, tk, os⟩ → wpAny (model prog w) A' (pyIter v) Q E ⟨hp, g, d, tk, os⟩ := fun q => B.iter prog w _ _ ⟨hp, g, d, tk, os⟩ _ h1 q
    wp_walk using go
    refine wpAny_stack_any fun st => wpAny_pure ?_
    split
    · rename_i c _ _ _ _ _
      cases (c == Value.type "enumerate")
      · wp_walk using go
        exact ⟨_, rfl, h⟩
      · wp_walk using go
        exact ⟨_, rfl, h⟩
    · wp_walk using go
      exact ⟨_, rfl, h⟩
section
variable {prog : Program} {w : World} {A : Around} {E : Value → Shared → Prop} {s : Shared}
theorem call_enumB {v : Value} {o : Obj} {H : Heap → Prop} {Q : Value → Shared → Prop} (B : Begins v o H) (h1 : H s.heap)
    (k : ∀ h', h'.get? (s.heap.objs.size + 1) = some (enO .none (.bool false) s.heap.objs.size (0 : Nat) .none) → h'.get? s.heap.objs.size = some o → h'.objs.size = s.heap.objs.size + 2 → (∀ b o, s.heap.get? b = some o → h'.get? b = some o) → Q (.ref (s.heap.objs.size + 1)) { s with heap := h' }) :
    wpAny (model prog w) A (call (.type "enumerate") [v]) Q E s := by
  refine callType_new F.called_enumerate (by decide) (F.typeCall_enumerate_1 _) (F.newCall_enumerate_1 _) (fun obj => F.args_object_init_2 obj _) F.entry_enumerate_new (enew_meets B) ⟨h1, ?_⟩
  have z : (s.heap.push o).objs.size = s.heap.objs.size + 1 := Heap.size_push ..
  show _ ∧ _
  rw [z]
  have he : ((s.heap.push o).push (en0 s.heap.objs.size)).get? (s.heap.objs.size + 1) = some (en0 s.heap.objs.size) := by
    have y := Heap.get?_push_size (s.heap.push o) (o := en0 s.heap.objs.size) rfl
    rw [z] at y
    exact y
  exact ⟨⟨_, he, rfl⟩, k _ he (Heap.get?_push_of_some _ (Heap.get?_push_size _ B.free)) (by rw [Heap.size_push, z]) fun b o x => Heap.get?_push_of_some _ (Heap.get?_push_of_some _ x)⟩
theorem en_no_len : typeLookup (.type "enumerate") "__len__" = pure none := am_miss_of_fast (by decide +kernel)
theorem en_no_hint : typeLookup (.type "enumerate") "__length_hint__" = pure none := am_miss_of_fast (by decide +kernel)
variable {e it : Addr} {fp : List Addr} {n : Nat} {P : Nat → Value → Prop} {St : Nat → Heap → Prop}
/-- list(e), e an enumerate that has not begun -/
theorem list_enum {Q : Value → Shared → Prop} (D : Dr prog w A.in1.in1.in1 it fp n P St) {old0 : Value} (he0 : s.heap.get? e = some (enO .none (.bool false) it (0 : Nat) old0)) (st : St 0 s.heap) (ne : e ≠ it) (nf : e ∉ fp) (hn : n ≤ sizeLine) (li : it < s.heap.objs.size) (lf : ∀ b ∈ fp, b < s.heap.objs.size)
    (k : ∀ h' tk c, (∀ b o, b ≠ e → b ≠ it → s.heap.get? b = some o → h'.get? b = some o) → h'.get? s.heap.objs.size = some (lstO (refsR (s.heap.objs.size + 1) n).toArray c) → Laid P (s.heap.objs.size + 1) n h' → Q (.ref s.heap.objs.size) { s with heap := h', toks := tk }) :
    wpAny (model prog w) A (call (.type "list") [.ref e]) Q E s := by
  have he : EnS s.heap e it (0 : Nat) := .inl ⟨_, he0⟩
  have le : e < s.heap.objs.size := Heap.lt_size he0
  refine callType_codes (Q₁ := fun obj z => obj = .ref s.heap.objs.size ∧ z = { s with heap := s.heap.push { cls := .type "list", data := .seq #[] } }) F.called_list (F.typeCall_list_1 _) F.entry_list_init (code_list_new _ ⟨rfl, rfl⟩) fun obj z hz => ?_
  obtain ⟨rfl, rfl⟩ := hz
  have hS : (s.heap.push (lstO #[] 0)).get? s.heap.objs.size = some (lstO #[] 0) := Heap.get?_push_size _ rfl
  have Se : s.heap.objs.size ≠ e := Nat.ne_of_gt le
  have Si : s.heap.objs.size ≠ it := Nat.ne_of_gt li
  have Sf : s.heap.objs.size ∉ fp := fun hm => Nat.lt_irrefl _ (lf _ hm)
  refine ⟨⟨_, hS, rfl⟩, F.args_list_init_2 _ _, ?_⟩
  have kp : ∀ (h : Heap), Heap.SameBut s.heap.objs.size (s.heap.push (lstO #[] 0)) h → EnS h e it (0 : Nat) ∧ St 0 h ∧ h.objs.size = s.heap.objs.size + 1 + 0 ∧ ∀ b o, b ≠ s.heap.objs.size → b ≠ e → b ≠ it → s.heap.get? b = some o → h.get? b = some o := fun h m => by
    have kk : ∀ b o, b ≠ s.heap.objs.size → s.heap.get? b = some o → h.get? b = some o := fun b o x z => m.extBut b o x (Heap.get?_push_of_some _ z)
    refine ⟨?_, D.fr _ _ _ st fun b hb o z => kk b o (fun q => Sf (q ▸ hb)) z, by rw [m.1, Heap.size_push], fun b o x _ _ z => kk b o x z⟩
    rcases he with ⟨old, z⟩ | ⟨old, T, f, o, z, y1, y2, y3, y4⟩
    · exact .inl ⟨old, kk _ _ (Ne.symm Se) z⟩
    · exact .inr ⟨old, T, f, o, kk _ _ (Ne.symm Se) z, kk _ _ (Nat.ne_of_lt (Heap.lt_size y1)) y1, y2, y3, y4⟩
  show wpAny _ A.in1.in1 (do let old ← Builtin.List.listItems (.ref s.heap.objs.size); Builtin.List.listUpdate (.ref s.heap.objs.size) (fun _ => #[]); letGo old.toList.reverse; Builtin.List.listExtendWith (.ref s.heap.objs.size) (.ref e) .none) _ _ _
  refine wpAny_bind ?_
  unfold Builtin.List.listItems
  refine wpAny_bind (wpAny_seqItems hS rfl (wpAny_pure ?_))
  show wpAny _ _ (updateSeq s.heap.objs.size (fun _ => #[]) >>= fun _ => _) _ _ _
  refine wpAny_bind (wpAny_updateSeq hS rfl ?_)
  have hS2 := Heap.get?_update_self (Obj.mapSeq (fun _ => (#[] : Array Value))) hS rfl
  refine wpAny_bind (wpAny_letGo ?_)
  unfold Builtin.List.listExtendWith
  obtain ⟨e2, s2, z2, k2⟩ := kp _ (Heap.SameBut.update ..)
  have ty2 := e2.ty
  refine wpAny_bind (wpAny_typeOf ty2 ?_)
  have h1 : Builtin.List.listSameRef (.ref s.heap.objs.size) (.ref e) = false := by simp [Builtin.List.listSameRef, Se]
  have h2 : (Value.type "enumerate" == Value.type "list") = false := by decide
  have h3 : (Value.type "enumerate" == Value.type "tuple") = false := by decide
  simp only [h1, h2, h3, Bool.or_false, Bool.false_eq_true, if_false]
  have e3 : ((s.heap.push (lstO #[] 0)).update s.heap.objs.size (Obj.mapSeq (fun _ => (#[] : Array Value)))).get? e = some (enO .none (.bool false) it (0 : Nat) old0) := (Heap.get?_update_other _ _ Se).trans (Heap.get?_push_of_some _ he0)
  refine wpAny_bind (wpAny_pyIter_enum e3 ?_)
  refine wpAny_bind (wpAny_holding ?_)
  unfold Builtin.List.listLengthHint
  refine wpAny_bind (wpAny_specialOf ty2 en_no_len ?_)
  show wpAny _ _ (specialOf (Value.ref e) (Str.ofString "__length_hint__") >>= _) _ _ _
  refine wpAny_bind (wpAny_specialOf ty2 en_no_hint ?_)
  refine wpAny_pure ?_
  rw [if_pos (by rfl)]
  refine wpAny_bind (wpAny_rule ?_)
  show wpAny _ _ ((updateSeq s.heap.objs.size (·.push .none) >>= fun _ => updateSeq s.heap.objs.size (·.pop)) >>= fun _ => _) _ _ _
  refine wpAny_bind (wpAny_bind (wpAny_updateSeq hS2 rfl ?_))
  have hS3 := Heap.get?_update_self (Obj.mapSeq (·.push Value.none)) hS2 rfl
  refine wpAny_updateSeq (hz := by seq_fits) hS3 rfl ?_
  have hS4 := Heap.get?_update_self (Obj.mapSeq (·.pop)) hS3 rfl
  refine wpAny_pure ⟨plainId_quiet PySem.F.plain_extend_loop _, ?_⟩
  have m : Heap.SameBut s.heap.objs.size (s.heap.push (lstO #[] 0)) ((((s.heap.push (lstO #[] 0)).update s.heap.objs.size (Obj.mapSeq (fun _ => (#[] : Array Value)))).update s.heap.objs.size (Obj.mapSeq (·.push Value.none))).update s.heap.objs.size (Obj.mapSeq (·.pop))) := by
    have a1 : Heap.SameBut s.heap.objs.size _ _ := Heap.SameBut.update (h := s.heap.push (lstO #[] 0)) (a := s.heap.objs.size) (f := Obj.mapSeq (fun _ => (#[] : Array Value)))
    have a2 : Heap.SameBut s.heap.objs.size _ _ := Heap.SameBut.update (h := (s.heap.push (lstO #[] 0)).update s.heap.objs.size (Obj.mapSeq (fun _ => (#[] : Array Value)))) (a := s.heap.objs.size) (f := Obj.mapSeq (·.push Value.none))
    have a3 : Heap.SameBut s.heap.objs.size _ _ := Heap.SameBut.update (h := ((s.heap.push (lstO #[] 0)).update s.heap.objs.size (Obj.mapSeq (fun _ => (#[] : Array Value)))).update s.heap.objs.size (Obj.mapSeq (·.push Value.none))) (a := s.heap.objs.size) (f := Obj.mapSeq (·.pop))
    exact ⟨a3.1.trans (a2.1.trans a1.1), fun b hb => (a3.2 b hb).trans ((a2.2 b hb).trans (a1.2 b hb))⟩
  obtain ⟨e5, s5, z5, k5⟩ := kp _ m
  exact en_loop (s := s) (h₁ := s.heap) (A := A.in1) D ne nf Sf Se Si hn (Nat.lt_succ_self _) (Nat.lt_succ_of_lt li) (Nat.lt_succ_of_lt le) (fun h' tk c y1 y2 y3 => ⟨rfl, k h' tk c (fun b o x1 x2 z => y1 b o (Nat.ne_of_lt (Heap.lt_size z)) x1 x2 z) y2 y3⟩) n 0 _ s.toks _ (Nat.sub_zero _) (Nat.zero_le _) e5 s5 z5 k5 hS4 fun j hj => absurd hj (Nat.not_lt_zero _)
end
end RS


namespace RS
open PySem PySem.Spec L2 PyProof.Rows
/-- the list at S and the pairs behind it, tracked -/
def enH (H : Hp) (S : Addr) (b0 : Nat) (xs : List V) : Hp := fun b =>
  if b = S then some (.lst ((List.range xs.length).map fun j => V.ref (b0 + j)))
  else if b0 ≤ b then (match xs[b - b0]? with | some x => some (.tup [.int ((b - b0 : Nat) : Int), x]) | none => H b) else H b
theorem enH_S {H : Hp} {S : Addr} {b0 : Nat} {xs : List V} : enH H S b0 xs S = some (.lst ((List.range xs.length).map fun j => V.ref (b0 + j))) := by simp [enH]
theorem enH_at {H : Hp} {S : Addr} {b0 : Nat} {xs : List V} {j : Nat} {x : V} (hS : S < b0) (h : xs[j]? = some x) : enH H S b0 xs (b0 + j) = some (.tup [.int (j : Nat), x]) := by
  unfold enH
  rw [if_neg (Nat.ne_of_gt (Nat.lt_of_lt_of_le hS (Nat.le_add_right _ _))), if_pos (Nat.le_add_right _ _)]
  have e : b0 + j - b0 = j := by omega
  rw [e, h]
theorem enH_lo {H : Hp} {S : Addr} {b0 : Nat} {xs : List V} {b : Addr} (h1 : b ≠ S) (h2 : b < b0) : enH H S b0 xs b = H b := by
  unfold enH
  rw [if_neg h1, if_neg (Nat.not_le.mpr h2)]
/-- list(enumerate(x)) -/
def tListEnum (K : PySem.W.Frag) (ta : TA) : TE := fun σ H Q => ta σ H fun vs H1 => ∃ a xs, vs = [.ref a] ∧ (SqL K H1 a xs ∨ SqT K H1 a xs) ∧
  ∀ (p : Addr) (ts : List Addr) (H' : Hp), Same H1 H' → H1 p = none → H' p = some (.lst (ts.map V.ref)) → ts.length = xs.length → (∀ (j : Nat) (x : V), xs[j]? = some x → ∃ t, ts[j]? = some t ∧ H1 t = none ∧ H' t = some (.tup [.int (j : Nat), x])) → Q (.ref p) H'
section
variable {X : Cx} {K : PySem.W.Frag} {e : Expr} {ta : TA} {p p2 pos pos2 : Pos}
theorem en_laid {pins : List (Addr × Obj)} {σ : L2.St} {H : Hp} {s : Shared} {Q : VK} {h' : Heap} {tk c : Nat} {xs : List V} {its : List Value} {q : Nat} (I : Inv X pins σ H s) (r : Vals xs its) (hz : xs.length ≤ sizeLine) (lo : s.heap.objs.size ≤ q)
    (kp : ∀ b o, s.heap.get? b = some o → h'.get? b = some o) (hS : h'.get? q = some (lstO (refsR (q + 1) its.toArray.size).toArray c)) (la : Laid (fun i v => its.toArray[i]? = some v) (q + 1) its.toArray.size h')
    (k : ∀ (p : Addr) (ts : List Addr) (H' : Hp), Same H H' → H p = none → H' p = some (.lst (ts.map V.ref)) → ts.length = xs.length → (∀ (j : Nat) (x : V), xs[j]? = some x → ∃ t, ts[j]? = some t ∧ H t = none ∧ H' t = some (.tup [.int (j : Nat), x])) → Q (.ref p) H') :
    EP X pins σ Q (.ref q) { s with heap := h', toks := tk } := by
  have ln := r.length
  have fr : ∀ b : Nat, s.heap.objs.size ≤ b → H b = none := fun b hb => I.hok.fresh hb
  have lt : ∀ b o, H b = some o → b < q := fun b o z => by
    rcases Nat.lt_or_ge b s.heap.objs.size with y | y
    · exact Nat.lt_of_lt_of_le y lo
    · rw [fr b y] at z; cases z
  have ltH : ∀ b o, s.heap.get? b = some o → b < q := fun b o z => Nat.lt_of_lt_of_le (Heap.lt_size z) lo
  have sm : Same H (enH H q (q + 1) xs) := fun b o z => by rw [enH_lo (Nat.ne_of_lt (lt b o z)) (Nat.lt_succ_of_lt (lt b o z))]; exact z
  have szits : its.toArray.size = xs.length := by simp; omega
  have J : Inv X pins σ (enH H q (q + 1) xs) { s with heap := h', toks := tk } := by
    have U : Un X.fs [] H (enH H q (q + 1) xs) s.heap h' := {
      keep := fun b o z _ _ _ => kp b o z
      slot := fun b o z _ _ _ => ⟨o.slots, kp b o z⟩
      free := fun b o z n _ => by rw [enH_lo (Nat.ne_of_lt (ltH b o z)) (Nat.lt_succ_of_lt (ltH b o z))]; exact n
      there := fun b o z _ => ⟨o, kp b o z⟩
      tups := fun b ys z => sm _ _ z
      frzs := fun b o v z => sm _ _ z
      tbls := fun b ps z => ⟨#[], by rw [sm _ _ z]; simp⟩ }
    refine I.un (t' := tk) U fun b z hb => ?_
    by_cases h1 : b = q
    · subst h1
      rw [enH_S] at hb
      cases hb
      refine ⟨by rw [List.length_map, List.length_range]; exact hz, refsR (b + 1) its.toArray.size, c, ?_, hS⟩
      rw [szits]
      show Vals _ ((List.range xs.length).map _)
      generalize List.range xs.length = l
      induction l with
      | nil => exact .nil
      | cons a l ih => exact .cons rfl ih
    · by_cases h2 : q + 1 ≤ b
      · obtain ⟨j, rfl⟩ : ∃ j, b = q + 1 + j := ⟨b - (q + 1), (Nat.add_sub_cancel' h2).symm⟩
        cases hx : xs[j]? with
        | none =>
          unfold enH at hb
          rw [if_neg h1, if_pos h2] at hb
          have ej : q + 1 + j - (q + 1) = j := by omega
          rw [ej, hx] at hb
          rw [fr _ (by omega)] at hb
          cases hb
        | some x =>
          rw [enH_at (Nat.lt_succ_self _) hx] at hb
          cases hb
          have jl : j < xs.length := (List.getElem?_eq_some_iff.mp hx).1
          obtain ⟨t, u, hT, pu⟩ := la j (by rw [szits]; exact jl)
          obtain ⟨u', hu', ru⟩ := r.get hx
          have : u = u' := by simp only [List.getElem?_toArray] at pu; rw [hu'] at pu; exact (Option.some.inj pu).symm
          subst this
          exact ⟨by show 2 ≤ sizeLine; decide, [.int (j : Nat) t, u], .cons ⟨_, rfl⟩ (.cons ru .nil), ⟨_, hT, rfl, _, rfl⟩⟩
      · rw [enH_lo h1 (Nat.lt_of_not_le h2)] at hb
        exact (I.hok b z hb).stay (fun y v _ w' => kp y v w') (fun y hy => sm _ _ hy) fun y ys hy => sm _ _ hy
  refine ⟨.ref q, _, J, rfl, k q ((List.range xs.length).map fun j => q + 1 + j) _ sm (fr q lo) ?_ (by simp) fun j x hx => ?_⟩
  · rw [enH_S, List.map_map]; rfl
  · have jl : j < xs.length := (List.getElem?_eq_some_iff.mp hx).1
    exact ⟨q + 1 + j, by simp [jl], fr _ (by omega), enH_at (Nat.lt_succ_self _) hx⟩
theorem pe_listEnum (hm : X.mg "list" = none) (hm2 : X.mg "enumerate" = none) (ha : PA X [e] ta) (hc : X.calm = true := by rfl) (hg : Gl X "list" := by rfl) (hg2 : Gl X "enumerate" := by rfl) (hs2 : starEach [e] X.env = [(false, eval e X.env)] := by rfl)
    (hs : starEach [.Call (.Name "enumerate" p2) [e] [] pos2] X.env = (false, eval (.Call (.Name "enumerate" p2) [e] [] pos2) X.env) :: starEach [] X.env := by rfl) (hK : X.K = K := by rfl) :
    PE X (.Call (.Name "list" p) [.Call (.Name "enumerate" p2) [e] [] pos2] [] pos) (tListEnum K ta) := by
  subst hK
  refine ⟨fun pins s σ H Q I hq => ?_⟩
  refine wpAny_Call_Name_kw (ld_blt I hg hm bb_list ?_)
  refine PyProof.Rows.callWith_type1 ?_ hs rfl
  rw [hs]
  refine Calls.spliced_cons ?_
  refine Call_ (ld_blt I hg2 hm2 boot_enumerate (PyProof.Rows.callWith_type1 (thn (ha.run pos2 pins s σ H _ I hq) fun us s1 ⟨vs, H1, I1, r1, q1⟩ => ?_) hs2 rfl))
  obtain ⟨a, xs, rfl, hx, k⟩ := q1
  obtain ⟨u, rfl, ru⟩ := vals1 r1
  cases ru
  rcases hx with hx | hx
  · obtain ⟨its, rv, pl, hz⟩ := I1.list hx
    have hl := pl.isList
    have la : a < s1.heap.objs.size := by obtain ⟨o, z, _⟩ := hl; exact Heap.lt_size z
    refine call_enumB (begins_list a its.toArray) hl fun h' he hi z kp => Calls.spliced_nil ?_
    have al : a ≠ s1.heap.objs.size := Nat.ne_of_lt la
    refine list_enum (s := { s1 with heap := h' }) (dr_list (A := X.A.in1.in1.in1) (I.ok.hd hc) s1.heap.objs.size a al its.toArray) he ⟨⟨_, hi, rfl, rfl⟩, hl.at fun o x => kp _ _ x⟩ (Nat.succ_ne_self _) ?_ (by simp; have := rv.length; omega) ?_ ?_ fun h'' tk c kp2 hS la2 => ?_
    · simp only [List.mem_cons, List.not_mem_nil, or_false, not_or]
      exact ⟨Nat.succ_ne_self _, Nat.ne_of_gt (Nat.lt_succ_of_lt la)⟩
    · show s1.heap.objs.size < h'.objs.size; rw [z]; omega
    · intro b hb
      simp only [List.mem_cons, List.not_mem_nil, or_false] at hb
      show b < h'.objs.size
      rw [z]
      rcases hb with rfl | rfl
      · exact Nat.lt_succ_of_lt (Nat.lt_succ_self _)
      · exact Nat.lt_succ_of_lt (Nat.lt_succ_of_lt la)
    · have z' : h'.objs.size = s1.heap.objs.size + 2 := z
      exact en_laid (s := s1) (h' := h'') (tk := tk) (c := c) (q := h'.objs.size) I1 rv hz (by rw [z']; omega) (fun b o y => kp2 b o (Nat.ne_of_lt (Nat.lt_succ_of_lt (Heap.lt_size y))) (Nat.ne_of_lt (Heap.lt_size y)) (kp b o y)) hS la2 k
  · obtain ⟨its, rv, pl, hz⟩ := I1.tuple hx
    have hl : s1.heap.IsTuple a its.toArray := pl
    have la : a < s1.heap.objs.size := by obtain ⟨o, z, _⟩ := hl; exact Heap.lt_size z
    refine call_enumB (begins_tuple a its.toArray) hl fun h' he hi z kp => Calls.spliced_nil ?_
    have al : a ≠ s1.heap.objs.size := Nat.ne_of_lt la
    refine list_enum (s := { s1 with heap := h' }) (dr_tup (A := X.A.in1.in1.in1) (I.ok.hd hc) s1.heap.objs.size a al its.toArray) he ⟨⟨_, hi, rfl, rfl⟩, hl.at fun o x => kp _ _ x⟩ (Nat.succ_ne_self _) ?_ (by simp; have := rv.length; omega) ?_ ?_ fun h'' tk c kp2 hS la2 => ?_
    · simp only [List.mem_cons, List.not_mem_nil, or_false, not_or]
      exact ⟨Nat.succ_ne_self _, Nat.ne_of_gt (Nat.lt_succ_of_lt la)⟩
    · show s1.heap.objs.size < h'.objs.size; rw [z]; omega
    · intro b hb
      simp only [List.mem_cons, List.not_mem_nil, or_false] at hb
      show b < h'.objs.size
      rw [z]
      rcases hb with rfl | rfl
      · exact Nat.lt_succ_of_lt (Nat.lt_succ_self _)
      · exact Nat.lt_succ_of_lt (Nat.lt_succ_of_lt la)
    · have z' : h'.objs.size = s1.heap.objs.size + 2 := z
      exact en_laid (s := s1) (h' := h'') (tk := tk) (c := c) (q := h'.objs.size) I1 rv hz (by rw [z']; omega) (fun b o y => kp2 b o (Nat.ne_of_lt (Nat.lt_succ_of_lt (Heap.lt_size y))) (Nat.ne_of_lt (Heap.lt_size y)) (kp b o y)) hS la2 k
end
end RS


/-! values as trees in the heap, with the addresses of their lists and dicts -/
namespace RS
open PySem PySem.Spec L2
mutual
inductive Tr (H : Hp) : V → PyData → List Addr → Prop
  | non : Tr H .non .none []
  | bl (b : Bool) : Tr H (.bl b) (.bool b) []
  | int (i : Int) : Tr H (.int i) (.int i) []
  | str (x : Str) : Tr H (.str x) (.str x) []
  | lst {a : Addr} {xs : List V} {ds : List PyData} {fp : List Addr} (h : H a = some (.lst xs)) (hs : TrL H xs ds fp) (na : a ∉ fp) : Tr H (.ref a) (.list ds) (a :: fp)
  | tup {a : Addr} {xs : List V} {ds : List PyData} {fp : List Addr} (h : H a = some (.tup xs)) (hs : TrL H xs ds fp) : Tr H (.ref a) (.tuple ds) fp
  | dct {a : Addr} {kvs : List (Key × V)} {D : List (PyData × PyData)} {fp : List Addr} (h : H a = some (.dK kvs)) (hs : TrD H kvs D fp) (na : a ∉ fp) (nd : (kvs.map (·.1)).Nodup) : Tr H (.ref a) (.dict D) (a :: fp)
inductive TrL (H : Hp) : List V → List PyData → List Addr → Prop
  | nil : TrL H [] [] []
  | cons {v : V} {vs : List V} {d : PyData} {ds : List PyData} {f1 f2 : List Addr} (h : Tr H v d f1) (hs : TrL H vs ds f2) : TrL H (v :: vs) (d :: ds) (f1 ++ f2)
inductive TrD (H : Hp) : List (Key × V) → List (PyData × PyData) → List Addr → Prop
  | nil : TrD H [] [] []
  | cons {x : Str} {v : V} {kvs : List (Key × V)} {d : PyData} {D : List (PyData × PyData)} {f1 f2 : List Addr} (h : Tr H v d f1) (hs : TrD H kvs D f2) : TrD H ((.inr x, v) :: kvs) ((.str x, d) :: D) (f1 ++ f2)
end
/-! ### kept where other places change -/
mutual
theorem Tr.keep {H H' : Hp} {S : Addr → Prop} (hS : ∀ c, S c → ∀ xs, H c ≠ some (.tup xs)) (hk : ∀ c o, ¬ S c → H c = some o → H' c = some o) : ∀ {v : V} {d : PyData} {fp : List Addr}, Tr H v d fp → (∀ c ∈ fp, ¬ S c) → Tr H' v d fp
  | _, _, _, .non, _ => .non
  | _, _, _, .bl b, _ => .bl b
  | _, _, _, .int i, _ => .int i
  | _, _, _, .str x, _ => .str x
  | _, _, _, .lst h hs na, f => .lst (hk _ _ (f _ (List.mem_cons_self ..)) h) (hs.keep hS hk fun c hc => f c (List.mem_cons_of_mem _ hc)) na
  | _, _, _, .tup h hs, f => .tup (hk _ _ (fun z => hS _ z _ h) h) (hs.keep hS hk f)
  | _, _, _, .dct h hs na nd, f => .dct (hk _ _ (f _ (List.mem_cons_self ..)) h) (hs.keep hS hk fun c hc => f c (List.mem_cons_of_mem _ hc)) na nd
theorem TrL.keep {H H' : Hp} {S : Addr → Prop} (hS : ∀ c, S c → ∀ xs, H c ≠ some (.tup xs)) (hk : ∀ c o, ¬ S c → H c = some o → H' c = some o) : ∀ {vs : List V} {ds : List PyData} {fp : List Addr}, TrL H vs ds fp → (∀ c ∈ fp, ¬ S c) → TrL H' vs ds fp
  | _, _, _, .nil, _ => .nil
  | _, _, _, .cons h hs, f => .cons (h.keep hS hk fun c hc => f c (List.mem_append_left _ hc)) (hs.keep hS hk fun c hc => f c (List.mem_append_right _ hc))
theorem TrD.keep {H H' : Hp} {S : Addr → Prop} (hS : ∀ c, S c → ∀ xs, H c ≠ some (.tup xs)) (hk : ∀ c o, ¬ S c → H c = some o → H' c = some o) : ∀ {kvs : List (Key × V)} {D : List (PyData × PyData)} {fp : List Addr}, TrD H kvs D fp → (∀ c ∈ fp, ¬ S c) → TrD H' kvs D fp
  | _, _, _, .nil, _ => .nil
  | _, _, _, .cons h hs, f => .cons (h.keep hS hk fun c hc => f c (List.mem_append_left _ hc)) (hs.keep hS hk fun c hc => f c (List.mem_append_right _ hc))
end
theorem Tr.same {H H' : Hp} (s : Same H H') {v : V} {d : PyData} {fp : List Addr} (h : Tr H v d fp) : Tr H' v d fp := h.keep (S := fun _ => False) (fun _ z => z.elim) (fun c o _ z => s c o z) fun _ _ z => z
theorem TrL.same {H H' : Hp} (s : Same H H') {v : List V} {d : List PyData} {fp : List Addr} (h : TrL H v d fp) : TrL H' v d fp := h.keep (S := fun _ => False) (fun _ z => z.elim) (fun c o _ z => s c o z) fun _ _ z => z
theorem TrD.same {H H' : Hp} (s : Same H H') {v : List (Key × V)} {d : List (PyData × PyData)} {fp : List Addr} (h : TrD H v d fp) : TrD H' v d fp := h.keep (S := fun _ => False) (fun _ z => z.elim) (fun c o _ z => s c o z) fun _ _ z => z
/-- one place alone changes -/
theorem keep_one {H H' : Hp} {p : Addr} (n : ∀ xs, H p ≠ some (.tup xs)) (k : ∀ c o, c ≠ p → H c = some o → H' c = some o) : (∀ c, c = p → ∀ xs, H c ≠ some (.tup xs)) ∧ ∀ c o, ¬ c = p → H c = some o → H' c = some o := ⟨fun c e => by subst e; exact n, k⟩
theorem Tr.but {H H' : Hp} {p : Addr} {v : V} {d : PyData} {fp : List Addr} (h : Tr H v d fp) (n : ∀ xs, H p ≠ some (.tup xs)) (k : ∀ c o, c ≠ p → H c = some o → H' c = some o) (np : p ∉ fp) : Tr H' v d fp :=
  h.keep (S := fun c => c = p) (keep_one n k).1 k fun c hc e => np (e ▸ hc)
theorem TrL.but {H H' : Hp} {p : Addr} {v : List V} {d : List PyData} {fp : List Addr} (h : TrL H v d fp) (n : ∀ xs, H p ≠ some (.tup xs)) (k : ∀ c o, c ≠ p → H c = some o → H' c = some o) (np : p ∉ fp) : TrL H' v d fp :=
  h.keep (S := fun c => c = p) (keep_one n k).1 k fun c hc e => np (e ▸ hc)
theorem TrD.but {H H' : Hp} {p : Addr} {v : List (Key × V)} {d : List (PyData × PyData)} {fp : List Addr} (h : TrD H v d fp) (n : ∀ xs, H p ≠ some (.tup xs)) (k : ∀ c o, c ≠ p → H c = some o → H' c = some o) (np : p ∉ fp) : TrD H' v d fp :=
  h.keep (S := fun c => c = p) (keep_one n k).1 k fun c hc e => np (e ▸ hc)
/-! ### the addresses are there -/
mutual
theorem Tr.there {H : Hp} : ∀ {v : V} {d : PyData} {fp : List Addr}, Tr H v d fp → ∀ c ∈ fp, (∃ xs, H c = some (.lst xs)) ∨ ∃ kvs, H c = some (.dK kvs)
  | _, _, _, .non, _, h => by cases h
  | _, _, _, .bl _, _, h => by cases h
  | _, _, _, .int _, _, h => by cases h
  | _, _, _, .str _, _, h => by cases h
  | _, _, _, .lst h hs _, c, m => (List.mem_cons.mp m).elim (fun e => .inl ⟨_, e ▸ h⟩) (hs.there c)
  | _, _, _, .tup h hs, c, m => hs.there c m
  | _, _, _, .dct h hs _ _, c, m => (List.mem_cons.mp m).elim (fun e => .inr ⟨_, e ▸ h⟩) (hs.there c)
theorem TrL.there {H : Hp} : ∀ {vs : List V} {ds : List PyData} {fp : List Addr}, TrL H vs ds fp → ∀ c ∈ fp, (∃ xs, H c = some (.lst xs)) ∨ ∃ kvs, H c = some (.dK kvs)
  | _, _, _, .nil, _, h => by cases h
  | _, _, _, .cons h hs, c, m => (List.mem_append.mp m).elim (h.there c) (hs.there c)
theorem TrD.there {H : Hp} : ∀ {kvs : List (Key × V)} {D : List (PyData × PyData)} {fp : List Addr}, TrD H kvs D fp → ∀ c ∈ fp, (∃ xs, H c = some (.lst xs)) ∨ ∃ kvs, H c = some (.dK kvs)
  | _, _, _, .nil, _, h => by cases h
  | _, _, _, .cons h hs, c, m => (List.mem_append.mp m).elim (h.there c) (hs.there c)
end
/-! ### as data -/
mutual
theorem Tr.dp {K : PySem.W.Frag} {H : Hp} : ∀ {v : V} {d : PyData} {fp : List Addr}, Tr H v d fp → DpX K H v d
  | _, _, _, .non => .non
  | _, _, _, .bl b => .bl b
  | _, _, _, .int i => .int i
  | _, _, _, .str x => .str x
  | _, _, _, .lst h hs _ => .lst (SqL.of h) hs.dp
  | _, _, _, .tup h hs => .tup (SqT.of h) hs.dp
  | _, _, _, .dct h hs _ _ => .dct h hs.dp
theorem TrL.dp {K : PySem.W.Frag} {H : Hp} : ∀ {vs : List V} {ds : List PyData} {fp : List Addr}, TrL H vs ds fp → DpXs K H vs ds
  | _, _, _, .nil => .nil
  | _, _, _, .cons h hs => .cons h.dp hs.dp
theorem TrD.dp {K : PySem.W.Frag} {H : Hp} : ∀ {kvs : List (Key × V)} {D : List (PyData × PyData)} {fp : List Addr}, TrD H kvs D fp → DpXd K H kvs D
  | _, _, _, .nil => .nil
  | _, _, _, .cons h hs => .cons (k := .inr _) h.dp hs.dp
end
/-! ### items -/
theorem TrL.len {H : Hp} : ∀ {vs : List V} {ds : List PyData} {fp : List Addr}, TrL H vs ds fp → vs.length = ds.length
  | _, _, _, .nil => rfl
  | _, _, _, .cons _ hs => by simp [hs.len]
theorem TrD.len {H : Hp} : ∀ {vs : List (Key × V)} {ds : List (PyData × PyData)} {fp : List Addr}, TrD H vs ds fp → vs.length = ds.length
  | _, _, _, .nil => rfl
  | _, _, _, .cons _ hs => by simp [hs.len]
theorem TrL.get {H : Hp} : ∀ {vs : List V} {ds : List PyData} {fp : List Addr}, TrL H vs ds fp → ∀ {i : Nat}, i < vs.length → ∃ v d f, vs[i]? = some v ∧ ds[i]? = some d ∧ Tr H v d f ∧ ∀ c ∈ f, c ∈ fp
  | _, _, _, .cons h _, 0, _ => ⟨_, _, _, rfl, rfl, h, fun c hc => List.mem_append_left _ hc⟩
  | _, _, _, .cons _ hs, i + 1, l => by
    obtain ⟨v, d, f, h1, h2, h3, h4⟩ := hs.get (i := i) (by simpa using l)
    exact ⟨v, d, f, by simpa using h1, by simpa using h2, h3, fun c hc => List.mem_append_right _ (h4 c hc)⟩
theorem TrD.get {H : Hp} : ∀ {vs : List (Key × V)} {ds : List (PyData × PyData)} {fp : List Addr}, TrD H vs ds fp → ∀ {i : Nat}, i < vs.length → ∃ x v d f, vs[i]? = some (.inr x, v) ∧ ds[i]? = some (.str x, d) ∧ Tr H v d f ∧ ∀ c ∈ f, c ∈ fp
  | _, _, _, .cons h _, 0, _ => ⟨_, _, _, _, rfl, rfl, h, fun c hc => List.mem_append_left _ hc⟩
  | _, _, _, .cons _ hs, i + 1, l => by
    obtain ⟨x, v, d, f, h1, h2, h3, h4⟩ := hs.get (i := i) (by simpa using l)
    exact ⟨x, v, d, f, by simpa using h1, by simpa using h2, h3, fun c hc => List.mem_append_right _ (h4 c hc)⟩
/-- a key's own value -/
theorem valV_at : ∀ {kvs : List (Key × V)} {i : Nat} {k : Key} {v : V}, (kvs.map (·.1)).Nodup → kvs[i]? = some (k, v) → valV kvs k = some v
  | (k', v') :: r, 0, k, v, nd, h => by
    cases h
    rw [vv_cons, if_pos rfl]
  | (k', v') :: r, i + 1, k, v, nd, h => by
    have h' : r[i]? = some (k, v) := by simpa using h
    have nd' := List.nodup_cons.mp nd
    have ne : k' ≠ k := fun e => nd'.1 (by
      have := List.mem_of_getElem? h'
      rw [e]
      exact List.mem_map.mpr ⟨_, this, rfl⟩)
    rw [vv_cons, if_neg ne]
    exact valV_at nd'.2 h'
  | [], _, _, _, _, h => by simp at h
theorem depth_all {ds : List PyData} : ∀ {d : PyData} {i : Nat}, ds[i]? = some d → d.depth ≤ PyData.depthAll ds := by
  induction ds with
  | nil => intro d i h; simp at h
  | cons x xs ih =>
    intro d i h
    cases i with
    | zero => cases h; simp only [PyData.depthAll]; omega
    | succ i => have := ih (by simpa using h); simp only [PyData.depthAll]; omega
theorem depth_kv {D : List (PyData × PyData)} : ∀ {k d : PyData} {i : Nat}, D[i]? = some (k, d) → d.depth ≤ PyData.depthKv D := by
  induction D with
  | nil => intro k d i h; simp at h
  | cons x xs ih =>
    obtain ⟨x1, x2⟩ := x
    intro k d i h
    cases i with
    | zero => cases h; simp only [PyData.depthKv]; omega
    | succ i => have := ih (by simpa using h); simp only [PyData.depthKv]; omega
end RS


namespace RS
open PySem PySem.Spec L2
/-! ### isinstance of several built-in classes -/
section
variable {X : Cx}
def rIsT (Ts : List String) : List V → Hp → VK → Prop := fun xs H Q => match xs with
  | [x, .ref tp] => H tp = some (.tup (Ts.map V.ty)) ∧ ∃ t, tyN x H = some t ∧ Q (.bl (Ts.any (isB t))) H
  | _ => False
theorem clsV_tys : ∀ Ts : List String, Paired ClsV (Ts.map V.ty) (Ts.map Value.type)
  | [] => .nil
  | T :: Ts => .cons (.ty T) (clsV_tys Ts)
theorem kitAny_tys {K : PySem.W.Frag} {t : String} (m : t ∈ ["NoneType", "bool", "int", "str", "list", "tuple", "dict"]) : ∀ {Ts : List String}, (∀ T ∈ Ts, T ∈ ["bool", "int", "str", "list", "tuple", "dict", "float"]) → PySem.W.kitAny K (.type t) (Ts.map Value.type) = some (Ts.any (isB t))
  | [], _ => rfl
  | T :: Ts, h => by
    have e1 : PySem.W.kitOne K (.type t) (.type T) = some (isB t T) := kit_ty (kitB_tab t m T (h T (List.mem_cons_self ..)))
    have e2 := kitAny_tys (K := K) m fun T' hT => h T' (List.mem_cons_of_mem _ hT)
    show PySem.W.kitAny K (.type t) (.type T :: Ts.map Value.type) = _
    unfold PySem.W.kitAny
    rw [e1]
    cases hb : isB t T with
    | true => simp [hb]
    | false => simp only [List.any_cons, hb, Bool.false_or]; exact e2
theorem c_isT (Ts : List String) (hT : ∀ T ∈ Ts, T ∈ ["bool", "int", "str", "list", "tuple", "dict", "float"] := by decide) : CallR X (.builtin "isinstance") (rIsT Ts) := by
  intro pins s σ H xs us Q I r h
  unfold rIsT at h
  split at h
  · obtain ⟨h1, t, ht, q⟩ := h
    obtain ⟨ty, m⟩ := tyN_tyX (K := X.K) ht
    exact call_isiT pins s σ H _ us Q I r ⟨_, _, _, _, _, _, rfl, h1, clsV_tys Ts, ty, kitAny_tys m hT, q⟩
  · exact h.elim
/-! ### walks of one kind or another -/
theorem pi_or {tg e : Expr} {w1 w2 : TI} (h1 : PI X tg e w1) (h2 : PI X tg e w2) : PI X tg e (fun σ H R => w1 σ H R ∨ w2 σ H R) :=
  ⟨fun pins s σ H R I h => h.elim (h1.run pins s σ H R I) (h2.run pins s σ H R I)⟩
end
/-! ### the kind of a tree -/
def kindN : PyData → String
  | .none => "NoneType"
  | .bool _ => "bool"
  | .int _ => "int"
  | .str _ => "str"
  | .list _ => "list"
  | .tuple _ => "tuple"
  | .dict _ => "dict"
theorem tyN_l {H : Hp} {a : Addr} {xs : List V} (h : H a = some (.lst xs)) : tyN (.ref a) H = some "list" := by simp [tyN, h]
theorem tyN_t {H : Hp} {a : Addr} {xs : List V} (h : H a = some (.tup xs)) : tyN (.ref a) H = some "tuple" := by simp [tyN, h]
theorem tyN_d {H : Hp} {a : Addr} {xs : List (Key × V)} (h : H a = some (.dK xs)) : tyN (.ref a) H = some "dict" := by simp [tyN, h]
theorem Tr.ty {H : Hp} {v : V} {d : PyData} {fp : List Addr} (h : Tr H v d fp) : tyN v H = some (kindN d) := by
  cases h with
  | non => rfl
  | bl b => rfl
  | int i => rfl
  | str x => rfl
  | lst h _ _ => exact tyN_l h
  | tup h _ => exact tyN_t h
  | dct h _ _ _ => exact tyN_d h
/-- a tree's value is no new place -/
theorem Tr.ne {H : Hp} {a p : Addr} {d : PyData} {fp : List Addr} (h : Tr H (.ref a) d fp) (n : H p = none) : a ≠ p := fun e => by
  cases h with
  | lst h _ _ => rw [e, n] at h; cases h
  | tup h _ => rw [e, n] at h; cases h
  | dct h _ _ _ => rw [e, n] at h; cases h
theorem tyN_same {H H' : Hp} {v : V} {t : String} (s : Same H H') (h : tyN v H = some t) : tyN v H' = some t := by
  cases v with
  | ref a =>
    unfold tyN at h ⊢
    simp only at h ⊢
    split at h <;> first | (cases h; done) | skip
    all_goals (rename_i e; rw [s _ _ e]; exact h)
  | _ => exact h
/-- isinstance(v, (..)): the tuple is laid -/
theorem isT_new {Ts : List String} {H : Hp} {v : V} {t : String} {p : Addr} {Q : VK} (ht : tyN v H = some t) (n : H p = none) (q : Q (.bl (Ts.any (isB t))) (upd H p (.tup (Ts.map V.ty)))) : rIsT Ts [v, .ref p] (upd H p (.tup (Ts.map V.ty))) Q :=
  ⟨upd_same, t, tyN_same (same_upd n) ht, q⟩
/-! ### comprehensions by an invariant -/
theorem lc_inv {J : It} {g : TG} {tt : TT} {te : TE} {vs : List Nat} {σ : L2.St} {H1 : Hp} {Qf : VK} (n : Nat) (Pv : Addr → Nat → List V → Hp → Prop) (hn : n ≤ sizeLine)
    (h0 : ∀ D, H1 D = none → Pv D 0 [] (upd H1 D (.lst []))) (hgo : ∀ D i acc H, H1 D = none → i < n → Pv D i acc H → J.go i H) (hst : ∀ D acc H, H1 D = none → Pv D n acc H → J.stop n H)
    (hs : ∀ D i acc H x H' (K : VK) (K0 : Hp → Prop), H1 D = none → i < n → acc.length ≤ i → Pv D i acc H → H D = some (.lst acc) → J.yld i H x H' → (∀ y H4, H4 D = some (.lst acc) → Pv D (i + 1) (acc ++ [y]) (upd H4 D (.lst (acc ++ [y]))) → K y H4) → (∀ H4, H4 D = some (.lst acc) → Pv D (i + 1) acc H4 → K0 H4) →
      g x (wipe σ vs) H' fun σ2 H2 => wipe σ2 vs = wipe σ vs ∧ tt σ2 H2 fun b H3 => if b = true then te σ2 H3 K else K0 H3)
    (hd : ∀ D acc H, H1 D = none → Pv D n acc H → H D = some (.lst acc) → Qf (.ref D) H) : LcB J g tt te vs σ H1 Qf := by
  intro D hD
  let W : Nat → Hp → Prop := fun i H => ∃ acc, acc.length ≤ i ∧ Pv D i acc H ∧ H D = some (.lst acc)
  refine ⟨fun i m H => m = n - i ∧ i ≤ n ∧ W i H, ⟨n, by omega, Nat.zero_le _, [], Nat.le_refl _, h0 D hD, upd_same⟩, ?_⟩
  rintro i m H ⟨rfl, hi, acc, la, pv, eD⟩
  by_cases lt : i < n
  · refine .inr ⟨hgo D i acc H hD lt pv, W (i + 1), fun H' w => ⟨n - (i + 1), by omega, rfl, lt, w⟩, fun x H' y => ?_⟩
    refine hs D i acc H x H' _ (W (i + 1)) hD lt la pv eD y (fun v H4 e4 p4 => ⟨acc, e4, by omega, acc ++ [v], by simp; omega, p4, upd_same⟩) fun H4 e4 p4 => ⟨acc, by omega, p4, e4⟩
  · have e : i = n := by omega
    subst e
    exact .inl ⟨hst D acc H hD pv, hd D acc H hD pv eD⟩
/-- .. where all are kept -/
theorem lc_invA {J : It} {g : TG} {te : TE} {vs : List Nat} {σ : L2.St} {H1 : Hp} {Qf : VK} (n : Nat) (Pv : Addr → Nat → List V → Hp → Prop) (hn : n ≤ sizeLine)
    (h0 : ∀ D, H1 D = none → Pv D 0 [] (upd H1 D (.lst []))) (hgo : ∀ D i acc H, H1 D = none → i < n → Pv D i acc H → J.go i H) (hst : ∀ D acc H, H1 D = none → Pv D n acc H → J.stop n H)
    (hs : ∀ D i acc H x H' (K : VK), H1 D = none → i < n → acc.length ≤ i → Pv D i acc H → H D = some (.lst acc) → J.yld i H x H' → (∀ y H4, H4 D = some (.lst acc) → Pv D (i + 1) (acc ++ [y]) (upd H4 D (.lst (acc ++ [y]))) → K y H4) →
      g x (wipe σ vs) H' fun σ2 H2 => wipe σ2 vs = wipe σ vs ∧ te σ2 H2 K)
    (hd : ∀ D acc H, H1 D = none → Pv D n acc H → H D = some (.lst acc) → Qf (.ref D) H) : LcB J g tYes te vs σ H1 Qf := by
  refine lc_inv n Pv hn h0 hgo hst (fun D i acc H x H' K K0 hD lt la pv eD y k _ => ?_) hd
  have e : (fun (σ2 : L2.St) (H2 : Hp) => wipe σ2 vs = wipe σ vs ∧ tYes σ2 H2 fun b H3 => if b = true then te σ2 H3 K else K0 H3) = fun σ2 H2 => wipe σ2 vs = wipe σ vs ∧ te σ2 H2 K := by
    funext σ2 H2
    simp only [tYes, if_true]
  rw [e]
  exact hs D i acc H x H' K hD lt la pv eD y k
def DcB (J : It) (g : TG) (tt : TT) (tk tv : TE) (vs : List Nat) (σ : L2.St) (H1 : Hp) (Q : VK) : Prop := ∀ D, H1 D = none → ∃ W : Nat → Nat → Hp → Prop, (∃ m, W 0 m (upd H1 D (.dK []))) ∧ ∀ i m H, W i m H →
  (J.stop i H ∧ Q (.ref D) H) ∨ (J.go i H ∧ ∃ Nx : Hp → Prop, (∀ H', Nx H' → ∃ m', m' < m ∧ W (i + 1) m' H') ∧ ∀ x H', J.yld i H x H' → g x (wipe σ vs) H' fun σ2 H2 => wipe σ2 vs = wipe σ vs ∧ tt σ2 H2 fun b H3 =>
    if b = true then tk σ2 H3 fun y H4 => tv σ2 H4 fun z H5 => ∃ kvs k, y = kV k ∧ H5 D = some (.dK kvs) ∧ kvs.length < sizeLine ∧ Nx (upd H5 D (.dK (putK kvs k z))) else Nx H3)
theorem tDc_eq (wi : TI) (g : TG) (tt : TT) (tk tv : TE) (vs : List Nat) (σ : L2.St) (H : Hp) (Q : VK) : tDc wi g tt tk tv vs σ H Q = wi σ H fun J H1 => DcB J g tt tk tv vs σ H1 Q := rfl
theorem dc_invA {J : It} {g : TG} {tk tv : TE} {vs : List Nat} {σ : L2.St} {H1 : Hp} {Qf : VK} (n : Nat) (Pv : Addr → Nat → List (Key × V) → Hp → Prop)
    (h0 : ∀ D, H1 D = none → Pv D 0 [] (upd H1 D (.dK []))) (hgo : ∀ D i acc H, H1 D = none → i < n → Pv D i acc H → J.go i H) (hst : ∀ D acc H, H1 D = none → Pv D n acc H → J.stop n H)
    (hs : ∀ D i acc H x H' (K : V → V → Hp → Prop), H1 D = none → i < n → Pv D i acc H → H D = some (.dK acc) → J.yld i H x H' → (∀ k z H5, H5 D = some (.dK acc) → acc.length < sizeLine → Pv D (i + 1) (putK acc k z) (upd H5 D (.dK (putK acc k z))) → K (kV k) z H5) →
      g x (wipe σ vs) H' fun σ2 H2 => wipe σ2 vs = wipe σ vs ∧ tk σ2 H2 fun y H4 => tv σ2 H4 fun z H5 => K y z H5)
    (hd : ∀ D acc H, H1 D = none → Pv D n acc H → H D = some (.dK acc) → Qf (.ref D) H) : DcB J g tYes tk tv vs σ H1 Qf := by
  intro D hD
  let W : Nat → Hp → Prop := fun i H => ∃ acc, Pv D i acc H ∧ H D = some (.dK acc)
  refine ⟨fun i m H => m = n - i ∧ i ≤ n ∧ W i H, ⟨n, by omega, Nat.zero_le _, [], h0 D hD, upd_same⟩, ?_⟩
  rintro i m H ⟨rfl, hi, acc, pv, eD⟩
  by_cases lt : i < n
  · refine .inr ⟨hgo D i acc H hD lt pv, W (i + 1), fun H' w => ⟨n - (i + 1), by omega, rfl, lt, w⟩, fun x H' y => ?_⟩
    have e : (fun (σ2 : L2.St) (H2 : Hp) => wipe σ2 vs = wipe σ vs ∧ tYes σ2 H2 fun b H3 => if b = true then tk σ2 H3 (fun y H4 => tv σ2 H4 fun z H5 => ∃ kvs k, y = kV k ∧ H5 D = some (.dK kvs) ∧ kvs.length < sizeLine ∧ W (i + 1) (upd H5 D (.dK (putK kvs k z)))) else W (i + 1) H3) =
        fun σ2 H2 => wipe σ2 vs = wipe σ vs ∧ tk σ2 H2 (fun y H4 => tv σ2 H4 fun z H5 => ∃ kvs k, y = kV k ∧ H5 D = some (.dK kvs) ∧ kvs.length < sizeLine ∧ W (i + 1) (upd H5 D (.dK (putK kvs k z)))) := by
      funext σ2 H2
      simp only [tYes, if_true]
    rw [e]
    exact hs D i acc H x H' _ hD lt pv eD y fun k z H5 e5 l5 p5 => ⟨acc, k, rfl, e5, l5, _, p5, upd_same⟩
  · have e : i = n := by omega
    subst e
    exact .inl ⟨hst D acc H hD pv, hd D acc H hD pv eD⟩
end RS
namespace RS
open PySem PySem.Spec L2
section
variable {X : Cx}
/-- d.update(another dict) -/
def rUpdate : V → List V → Hp → VK → Prop := fun x xs H Q => ∃ d o kvs more, x = .ref d ∧ xs = [.ref o] ∧ d ≠ o ∧ H d = some (.dK kvs) ∧ H o = some (.dK more) ∧ kvs.length + more.length ≤ sizeLine ∧ Q .non (upd H d (.dK (mergeK kvs more)))
theorem mt_update : MtR X "dict.update" rUpdate := by
  intro pins s σ H x xs v us Q I rx rv h
  obtain ⟨d, o, kvs, more, rfl, rfl, ne, hd, ho, hz, q⟩ := h
  cases rx
  obtain ⟨u, rfl, ru⟩ := vals1 rv
  cases ru
  obtain ⟨z1, n1, vs, rel, dd⟩ := dk_of I.hok hd
  obtain ⟨z2, n2, ws, rel2, dd2⟩ := dk_of I.hok ho
  refine call_meetsIn PySem.F.slot_dict_update dd.typeIs PySem.F.entry_dict_update (PySem.F.args_dict_update_2 _ _) (meets_dict_update (mixKind X.prog X.w) d o ne n2) ⟨vs, ws, dd, dd2, by rw [← rel.length, ← rel2.length]; exact hz, fun h' dd' _ hs => ?_⟩
  have he : ∃ q, h'.get? d = some q := let ⟨q, _, _, hq, _⟩ := dd'; ⟨q, hq⟩
  exact ⟨.non, _, d_write (t' := s.toks) I (by rw [hd]; exact True.intro) hs he (dk_new (Nat.le_trans (length_mergeK more kvs) hz) n1 (rel2.merge rel) dd'), rfl, q⟩
end
end RS


/-! defs with a star parameter, under the promise without a repr under way -/
namespace RS
open PySem PySem.Spec L2
/-- a def that takes any number of arguments -/
def FnS (g : Wd) (k : Nat) (f : Addr) (sp : Sp) : Prop :=
  ∀ (A : Around) (outer : List Env) (s : Shared) (H : Hp) (us : List Value) (vs : List V) (Q : VK) (E : XK), Room k A → A.guards = some [] → Env0 g.P g.w g.K g.mg g.base A outer s H → Vals vs us → sp vs H Q E → codeAny (model g.P g.w) A (.call (.ref f) ⟨us, []⟩) (CR (L2.CX g.P g.w) outer g.P g.w H s Q E) s
theorem FnS.mono {g : Wd} {j k : Nat} {f : Addr} {sp : Sp} (F : FnS g j f sp) (h : j ≤ k) : FnS g k f sp := fun A outer s H us vs Q E hr => F A outer s H us vs Q E (hr.mono h)
/-- the module's name x holds such a def -/
def KnS (g : Wd) (x : Str) (k : Nat) (sp : Sp) : Prop := ∃ f, g.mg x = some (.ref f) ∧ PySem.W.keepIn g.K (.ref f) = true ∧ FnS g k f sp
def spS (n : Nat) (sp : Sp) : Sp := fun vs H Q E => ∃ ws rest, vs = ws ++ rest ∧ ws.length = n ∧ rest.length ≤ sizeLine ∧ ∀ p, H p = none → sp (ws ++ [V.ref p]) (upd H p (.tup rest)) Q E
theorem Df.okS {g : Wd} {x qual pv : Str} {st : Stmt} {f : Addr} {fd : FuncData} {dV : Value} {N ps : List Str} {k : Nat} {sp : Sp} (F : Df g.K x qual st f fd dV) (S : FnScope N (ps ++ [pv]) (defScope st))
    (hb : ∀ us rest : List Value, us.length = ps.length → bindArgs fd ⟨us ++ rest, []⟩ = (newTuple rest >>= fun t => pure (ps.zip us ++ [(pv, t)])))
    (hbody : ∀ (cdv : Value) (A : Around) (outer : List Env) (s : Shared) (H : Hp) (vs : List V) (Q : VK) (E : XK), Rm k (cx g N qual st f cdv A outer s H E) → sp vs H Q E →
      ∃ t, PSs (cx g N qual st f cdv A outer s H E) (defBody st) t ∧ t { nx := fun _ H' => Q .non H', rt := Q } (start N vs) H) : FnS g (k + 1) f (spS ps.length sp) := by
  obtain ⟨oc, od, kV, doc, pm, an, cdv, ct, osl, rfl, lk, hcd⟩ := F.ex
  intro A outer s H us vs Q E hr hg e0 r hsp
  obtain ⟨ws, rest, rfl, hl, hz, hq⟩ := hsp
  obtain ⟨u1, u2, rfl, r1, r2⟩ := StX.vals_split r
  have nH : H s.heap.objs.size = none := e0.hok.fresh (Nat.le_refl _)
  have l1 : u1.length = ps.length := by rw [← r1.length]; exact hl
  have l2 : u2.length ≤ sizeLine := by rw [← r2.length]; exact hz
  refine StX.run_bnd lk hcd S hr e0 (G := fun ys G => ∃ p, H p = none ∧ ys = ws ++ [V.ref p] ∧ G = upd H p (.tup rest)) (fun A' Ex Q' k => ?_) fun s2 G ys z hr2 => ?_
  · rw [hb u1 u2 l1]
    refine wpAny_bind (wpAny_newTuple (wpAny_pure ?_) l2)
    have new : ObjOk g.P g.w (upd H s.heap.objs.size (.tup rest)) (s.heap.push { cls := .type "tuple", data := .seq u2.toArray }) s.heap.objs.size (.tup rest) := ⟨hz, u2, r2, ⟨_, Heap.get?_push_size _ rfl, rfl, _, rfl⟩⟩
    have U := StX.un_laid (fs := frs outer) (s := s) (o := { cls := .type "tuple", data := .seq u2.toArray }) (u := .tup rest) nH
    have y := k _ _ (ws ++ [V.ref s.heap.objs.size]) (u1 ++ [Value.ref s.heap.objs.size]) (StX.env0_laid e0 new) U rfl (fun e s' => StX.cxUp outer s H _ _ E e s' U (fun b o q => Heap.get?_push_of_some _ q) rfl) (r1.append (.cons rfl .nil)) (by simp [hl]) ⟨_, nH, rfl, rfl⟩
    rw [List.zip_append l1.symm] at y
    exact y
  · obtain ⟨p, hp, rfl, rfl⟩ := z
    exact hbody cdv A outer s2 _ _ Q E ⟨hr2, hg⟩ (hq p hp)
section
variable {g : Wd} {X : Cx} {k : Nat} {f : Addr} {sp : Sp} {W : WX} {x : Str} {p pos : Pos} {e : Expr} {es : List Expr} {t : TA}
theorem callS (a : At g X) (F : FnS g k f sp) (hr : Rm k X) (tk : Takes X W) {pins : List (Addr × Obj)} {σ : L2.St} {H : Hp} {s : Shared} {Q : VK} {us : List Value} {vs : List V} (I : Inv X pins σ H s) (r : Vals vs us) (h : sp vs H Q (fun c d H' => W c d σ H')) :
    wpAny (model X.prog X.w) X.A (call (.ref f) us) (EP X pins σ Q) X.xe s := by
  obtain ⟨P, w, K, mg, base⟩ := g
  obtain ⟨rfl, rfl, rfl, rfl, rfl⟩ := a
  refine wpAny_call (codeAny_mono (F X.A X.stack s H us vs Q _ hr.room hr.gd I.env0 r h) fun res s' hq => ?_)
  cases res with
  | error e => exact tk e s' (XE.of_call (E := fun c d H' => W c d σ H') I (fun _ _ _ z => z) hq)
  | ok fl => cases fl with
    | ret u => exact I.after hq
    | _ => exact hq.elim
def tCallS (sp : Sp) (W : WX) (t : TA) : TE := fun σ H Q => t σ H fun vs H1 => sp vs H1 Q (fun c d H' => W c d σ H')
theorem pe_callS (F : KnS g x k sp) (hr : Rm k X) (tk : Takes X W) (ha : PA X (e :: es) t) (hg : Gl X x := by rfl) (hdb : (x == ("__debug__" : Str)) = false := by decide)
    (he : starEach (e :: es) X.env = (false, eval e X.env) :: starEach es X.env := by rfl) (hpl : (backTo pos (starEach es X.env)).any (·.1) = false := by rfl) (a : At g X := by exact ⟨rfl, rfl, rfl, rfl, rfl⟩) :
    PE X (.Call (.Name x p) (e :: es) [] pos) (tCallS sp W t) := by
  obtain ⟨f, hm, hk, F⟩ := F
  refine ⟨fun pins s σ H Q I h => wpAny_Call_Name_kw (ld_glob I hg (by rw [a.mg]; exact hm) ?_ hdb)⟩
  refine PySem.W.callWith_K (h₀ := X.base) I.ok.mod.kin (by rw [a.K]; exact hk) (thn (ha.run pos pins s σ H _ I h) ?_) he hpl
  rintro us s1 ⟨vs, H1, I1, r, q⟩
  exact ⟨I1.kIn, callS a F hr tk I1 r q⟩
theorem pe_callS0 (F : KnS g x k sp) (hr : Rm k X) (tk : Takes X W) (hg : Gl X x := by rfl) (hdb : (x == ("__debug__" : Str)) = false := by decide) (a : At g X := by exact ⟨rfl, rfl, rfl, rfl, rfl⟩) :
    PE X (.Call (.Name x p) [] [] pos) (tCallS sp W tNil) := by
  obtain ⟨f, hm, hk, F⟩ := F
  refine ⟨fun pins s σ H Q I h => wpAny_Call_Name_kw (ld_glob I hg (by rw [a.mg]; exact hm) ?_ hdb)⟩
  exact PySem.W.callWith_K0 I.kIn (by rw [a.K]; exact hk) (callS a F hr tk I .nil h)
end
end RS


/-! for i, x in enumerate(a tuple) -/
namespace RS
open PySem PySem.Spec L2
/-- the items of the tuple at a, each with its index in a new pair -/
def ItEt (K : PySem.W.Frag) (a : Addr) : It :=
  ⟨fun i H => ∃ (xs : List V) (x : V), SqT K H a xs ∧ xs[i]? = some x, fun i H v H' => ∃ T x, v = .ref T ∧ H T = none ∧ H' = upd H T (.tup [.int (i : Nat), x]) ∧ ∀ xs, SqT K H a xs → xs[i]? = some x, fun i H => ∃ xs : List V, SqT K H a xs ∧ xs.length = i⟩
theorem turn_enumT {P : Program} {w : World} {K : PySem.W.Frag} {elts : List Expr} {kk : Nat} {tpos : Pos} (a e it : Addr) :
    Turn P w K (.Tuple elts kk tpos) (ItEt K a) [e, it] e (fun i h => (∃ old, IsEnum h e it ((i : Nat) : Int) old) ∧ h.IsTupleIter it a i ∧ e ≠ it ∧ a ≠ it ∧ a ≠ e) where
  mem := List.mem_cons_self
  obj := by
    rintro i h ⟨⟨old, he⟩, ⟨o, ho, hc, hd⟩, _⟩ b hb
    rcases List.mem_cons.mp hb with rfl | hb
    · exact ⟨_, he, fun v q => nomatch q⟩
    · obtain rfl := List.mem_singleton.mp hb
      exact ⟨o, ho, fun v q => by rw [hd] at q; cases q⟩
  keep := by
    rintro i h h' ⟨⟨old, he⟩, ⟨o, ho, hr⟩, hne⟩ k
    exact ⟨⟨old, k e (by simp) _ he⟩, ⟨o, k it (by simp) o ho, hr⟩, hne⟩
  item := by
    intro X hP hw hK hc i pins s σ H E I hf st hg
    subst hP hw hK
    obtain ⟨⟨old, he⟩, hit, hne, nai, nae⟩ := st
    obtain ⟨xs, x, hq, hx⟩ := hg
    obtain ⟨its, rv, pl, hz⟩ := I.tuple hq
    obtain ⟨u0, hu0, ru0⟩ := rv.get hx
    have ln := rv.length
    have li : i < its.toArray.size := by have := (List.getElem?_eq_some_iff.mp hx).1; simp; omega
    have hel : e < s.heap.objs.size := Heap.lt_size he
    have hil : it < s.heap.objs.size := by obtain ⟨_, q, _⟩ := hit; exact Heap.lt_size q
    refine wpAny_pyNext_enum_itemD (Draws.tuple (A := X.A.in1) (I.ok.hd hc) it a nai its.toArray) he ⟨hit, pl⟩ li hne (by simp only [List.mem_cons, List.not_mem_nil, or_false, not_or]; exact ⟨hne, Ne.symm nae⟩) fun u h' tk hp ho hit' hT hsz hk => ?_
    have eu : u = u0 := by simp only [List.getElem?_toArray] at hp; rw [hu0] at hp; exact (Option.some.inj hp).symm
    subst eu
    refine ⟨_, rfl, wpAny_letOwnedTupleGo_enum (s := { s with heap := h', toks := tk + 1 }) ho fun h2 he' sb => ?_⟩
    have hT2 : h2.get? s.heap.objs.size = some { cls := .type "tuple", data := .seq #[.int i tk, u] } := (sb.2 _ (Nat.ne_of_gt hel)).trans hT
    have lay : ObjOk X.prog X.w (upd H s.heap.objs.size (.tup [.int (i : Nat), x])) h2 s.heap.objs.size (.tup [.int (i : Nat), x]) :=
      ⟨by show 2 ≤ sizeLine; decide, _, .cons ⟨_, rfl⟩ (.cons ru0 .nil), _, hT2, rfl, _, rfl⟩
    have keepB : ∀ b o, b ∉ [e, it] → s.heap.get? b = some o → h2.get? b = some o := fun b o hb q => by
      have n1 : b ≠ e := fun z => hb (by simp [z])
      have n2 : b ≠ it := fun z => hb (by simp [z])
      exact (sb.2 b n1).trans (hk b o n1 n2 q)
    have I1 := I.turnedNew (t' := tk + 1) keepB hf (Nat.le_refl _) lay
    refine ⟨.ref s.heap.objs.size, _, I1, rfl, ⟨_, x, rfl, I.hok.fresh (Nat.le_refl _), rfl, fun ys hy => by rw [I.tuple_inj hy hq]; exact hx⟩, ⟨⟨_, by simpa using he'⟩, ?_, hne, nai, nae⟩, fun b hb => ?_⟩
    · obtain ⟨o, ho2, hr⟩ := hit'.1
      exact ⟨o, (sb.2 it (Ne.symm hne)).trans ho2, hr⟩
    · have lt : b < s.heap.objs.size := by
        rcases List.mem_cons.mp hb with rfl | hb
        · exact hel
        · rw [List.mem_singleton.mp hb]; exact hil
      rw [upd_ne (Nat.ne_of_lt lt)]
      exact (hf b hb).1
  done := by
    intro X hP hw hK hc i pins s σ H E I hf st hg
    subst hP hw hK
    obtain ⟨⟨old, he⟩, hit, hne, nai, nae⟩ := st
    obtain ⟨xs, hq, rfl⟩ := hg
    obtain ⟨its, rv, pl, hz⟩ := I.tuple hq
    have ln := rv.length
    obtain ⟨f0, f1, f2, f3, f4, f5⟩ := hf it (by simp)
    refine wpAny_pyNext_enum_endD (Draws.tuple (A := X.A.in1) (I.ok.hd hc) it a nai its.toArray) he (by rw [show its.toArray.size = xs.length by simp; omega]; exact ⟨hit, pl⟩) fun h' eb => ⟨rfl, ?_⟩
    exact I.turned (t' := s.toks) (fun b o hb q => eb b o hb q) f0 f1 f3 f4 f5
  self := fun A i s Q E st h => let ⟨⟨_, he⟩, _⟩ := st; wpAny_pyIter_enum he h
def iEnumT (K : PySem.W.Frag) (ta : TA) : TI := fun σ H R => ta σ H fun vs H1 => ∃ a xs, vs = [.ref a] ∧ SqT K H1 a xs ∧ R (ItEt K a) H1
theorem pi_enumT {X : Cx} {K : PySem.W.Frag} {e : Expr} {ta : TA} {p pos tpos : Pos} {elts : List Expr} {kk : Nat} (hm : X.mg "enumerate" = none) (ha : PA X [e] ta) (hg : Gl X "enumerate" := by rfl) (hs : starEach [e] X.env = [(false, eval e X.env)] := by rfl) (hK : X.K = K := by rfl) :
    PI X (.Tuple elts kk tpos) (.Call (.Name "enumerate" p) [e] [] pos) (iEnumT K ta) := by
  subst hK
  refine ⟨fun pins s σ H R I h => ?_⟩
  refine PyProof.Rows.Call_ (ld_blt I hg hm PyProof.Rows.boot_enumerate (PyProof.Rows.callWith_type1 (thn (ha.run pos pins s σ H _ I h) ?_) hs rfl))
  rintro us s1 ⟨vs, H1, I1, r1, a, xs, rfl, hx, q⟩
  obtain ⟨u, rfl, ru⟩ := vals1 r1
  cases ru
  obtain ⟨its, rv, pl, hz⟩ := I1.tuple hx
  have la : a < s1.heap.objs.size := by obtain ⟨o, z, _⟩ := pl; exact Heap.lt_size z
  refine call_enumB (begins_tuple a its.toArray) pl fun h' he hi z hk => wpAny_pyIter_enum he ?_
  refine ⟨s1.heap.objs.size + 1, [s1.heap.objs.size + 1, s1.heap.objs.size], _, _, H1, rfl, I1.kept (t' := s1.toks) hk, turn_enumT a _ _, ⟨⟨.none, he⟩, ⟨_, hi, rfl, rfl⟩, Nat.succ_ne_self _, Nat.ne_of_lt la, Nat.ne_of_lt (Nat.lt_succ_of_lt la)⟩, fun b hb => ?_, q⟩
  have le : s1.heap.objs.size ≤ b := by
    rcases List.mem_cons.mp hb with rfl | hb
    · exact Nat.le_succ _
    · rw [List.mem_singleton.mp hb]; exact Nat.le_refl _
  exact I1.fpOk le (I1.hok.fresh le)
end RS


/-! raising exceptions of own classes -/
namespace RS
open PySem PySem.Spec L2 PySem.W
section
variable {g : Wd} {X : Cx} {C : Addr} {x f : Str} {e : Expr} {t : TA} {p pos : Pos}
def tPm1 (C : Addr) (f : Str) (t : TA) : L2.St → Hp → XK → Prop := fun σ H Q => t σ H fun vs H1 => ∃ v, vs = [v] ∧ ∀ dy, H1 dy = none → Q (.ref C) (some dy) (upd H1 dy (.xd [(f, v)]))
theorem pmk_x1 (F : XK1 g x C f) (R : Raises X (.ref C)) (hr : Rm 2 X) (ha : PA X [e] t) (hg : Gl X x := by rfl) (hdb : (x == ("__debug__" : Str)) = false := by decide)
    (he : starEach [e] X.env = (false, eval e X.env) :: starEach [] X.env := by rfl) (hpl : (backTo pos (starEach [] X.env)).any (·.1) = false := by rfl) (a : At g X := by exact ⟨rfl, rfl, rfl, rfl, rfl⟩) :
    PMk X (.Call (.Name x p) [e] [] pos) (tPm1 C f t) := by
  obtain ⟨hm, ms, kp, hd, sa, nf, fI, cda, cc, qual, st, B, newId, initId, bmB, xp, XX, Y⟩ := F
  intro pins s σ H Q I h
  refine wpAny_Call_Name_kw (ld_glob I hg (by rw [a.mg]; exact hm) ?_ hdb)
  refine PySem.W.callWith_K (h₀ := X.base) I.ok.mod.kin (by rw [a.K]; exact kp) (thn (ha.run pos pins s σ H _ I h) ?_) he hpl
  rintro us s1 ⟨vs, H1, I1, r, v, rfl, q⟩
  obtain ⟨u, rfl, ru⟩ := vals1 r
  refine ⟨I1.kIn, ?_⟩
  have KI := I1.kIn
  rw [a.K] at KI
  obtain ⟨nm, N', qn, bs, bm, hdct, sn, sub, ab, col, dd, k0, k1, k2, k3, k5, hC, hT⟩ := excInit_of KI XX.q
  obtain ⟨oc, od, kV, doc, pm, an, ct, osl, lk⟩ := XX.lk
  have hfn : oc = .type "function" := by
    have z := XX.fn
    unfold typeIn at z
    simp only [lk] at z
    simpa using z
  have hglob : s1.heap.Ns mainGlobals g.mg := by rw [← a.mg]; exact I1.mod.glob.keeps I1.bk
  obtain ⟨mb, hblt, bb⟩ := I1.mod.blt
  have hblt2 := hblt.keeps I1.bk
  have hlim := I1.nolimit
  have bare := I1.bare
  obtain ⟨hp, gg, dr, tt, oo⟩ := s1
  have up : ∀ b o, hp.get? b = some o → ((hp.push (kdv_tup [u])).push (HandSPX.excO C hp.objs.size)).get? b = some o := fun b o z => Heap.get?_push_of_some _ (Heap.get?_push_of_some _ z)
  have hget : ((hp.push (kdv_tup [u])).push (HandSPX.excO C hp.objs.size)).get? (hp.objs.size + 1) = some (HandSPX.excO C hp.objs.size) := by heap_get
  refine wpAny_call (HandSPX.call_own XX.FB hT hC (looks_findIn KI XX.ini) (fun self => exc_bind (KI _ _ lk) hfn self) (by rw [sizeLine_eq]; simp) ?_)
  rw [a.P]
  refine xinit1 XX Y hd sa nf (fun b o z => up b o (KI b o z)) ?_ (hr.here.make C [u] []).room.depth (hlim.keeps up) hget (hglob.keeps up) ms (hblt2.keeps up) bb fun h' t1 dx tk k ldx nex e' n' => ⟨rfl, ?_⟩
  · cases z : g.K.lookup (hp.objs.size + 1) with
    | none => rfl
    | some o => exact absurd (Heap.lt_size (KI _ _ z)) (by show ¬ hp.objs.size + 1 < hp.objs.size; omega)
  have old : ∀ {b : Addr} {o : Obj}, hp.get? b = some o → b ≠ hp.objs.size + 1 := fun {b o} z y => by
    have := Heap.lt_size z
    rw [y] at this
    exact absurd this (by show ¬ hp.objs.size + 1 < hp.objs.size; omega)
  have k' : ∀ b o, hp.get? b = some o → h'.get? b = some o := fun b o z => k b o (old z) (up b o z)
  have ld2 : hp.objs.size + 2 ≤ dx := by
    have e2 : ((hp.push (kdv_tup ([] ++ [u]))).push (HandSPX.excO C hp.objs.size)).objs.size = hp.objs.size + 2 := by simp [Heap.size_push]
    rw [e2] at ldx
    exact ldx
  have n2 : hp.get? dx = none := by
    cases z : hp.get? dx with
    | none => rfl
    | some o => exact absurd (Heap.lt_size z) (by show ¬ dx < hp.objs.size; omega)
  have f1 : H1 (hp.objs.size + 1) = none := I1.hok.fresh (Nat.le_succ _)
  have f2 : H1 dx = none := I1.hok.fresh (by show hp.objs.size ≤ dx; omega)
  obtain ⟨G, g1, g2⟩ := restrict h' fun b => decide (b ≠ hp.objs.size + 1)
  have gk : ∀ b, b ≠ hp.objs.size + 1 → G.get? b = h'.get? b := fun b hb => g1 b (decide_eq_true hb)
  have ge : G.get? (hp.objs.size + 1) = none := g2 _ (by simp)
  have J := Inv.laidN (t' := tk) (a := dx) (o := HO.xd [(f, v)]) (h' := G) I1 (fun b o z => by rw [gk b (old z)]; exact k' b o z) n2 f2 ⟨_, n'.at fun o y => (gk dx nex).trans y, relO_put (fs := []) ru fun _ => True.intro⟩
  refine ⟨hp.objs.size + 1, _, _, _, _, .ref C, some dx, rfl, J, fun b o z => ?_, ge, e', ⟨rfl, rfl⟩, rfl, rfl, ?_, rfl, bare, R, q dx f2⟩
  · by_cases hb : b = hp.objs.size + 1
    · rw [hb] at z
      have z' : G.get? (hp.objs.size + 1) = some o := z
      rw [ge] at z'; cases z'
    · exact (gk b hb).symm.trans z
  · rw [upd_ne (Ne.symm nex)]; exact f1
end
end RS


/-! the walrus in a test with or; match over texts -/
namespace RS
open PySem PySem.Spec L2 PyProof.Rows
section
variable {X : Cx} {a b : Expr} {rest : List Expr} {pos : Pos}
def wOr (t u : TTw) : TTw := fun σ H Q => t σ H fun c σ1 H1 => if c = true then Q true σ1 H1 else u σ1 H1 Q
/-- (x := e) op f or .. -/
theorem ptw_or {t : TTw} {u : TT} (ha : PTw X a t) (hb : PW X (.BoolOp .Or (b :: rest) pos) u) : PTw X (.BoolOp .Or (a :: b :: rest) pos) (wOr t (wT u)) := by
  refine ⟨fun pins s σ H Q I h => ?_⟩
  refine isTrue_or (thn (ha.run pins s σ H _ I h) fun c s1 ⟨σ1, H1, I1, q1⟩ => ?_)
  cases c with
  | true => exact ⟨σ1, H1, I1, q1⟩
  | false => exact thn (hb.run _ pins s1 σ1 H1 (fun b H2 => Q b σ1 H2) I1 q1) fun b s2 ⟨H2, I2, q2⟩ => ⟨σ1, H2, I2, q2⟩
end
/-! ### match -/
/-- the cases of a match over a value -/
structure PMc (X : Cx) (cs : List MatchCase) (t : V → TS) : Prop where
  run : ∀ (first : Bool) (pins : List (Addr × Obj)) (s : Shared) (σ : L2.St) (H : Hp) (x : V) (v : Value) (D : Ends), Inv X pins σ H s → RelV x v → t x D σ H → wpAny (model X.prog X.w) X.A (matchCases cs X.env v first) (SP X pins D) X.xe s
/-- a pattern that binds nothing, over a text -/
structure PPt (X : Cx) (p : Pattern) (m : Str → Bool) : Prop where
  run : ∀ (pins : List (Addr × Obj)) (s : Shared) (σ : L2.St) (H : Hp) (x : Str) (tk : Tok) (Q : Option (List (Str × Value)) → Shared → Prop), Inv X pins σ H s → (∀ s', Inv X pins σ H s' → Q (if m x = true then some [] else none) s') → wpAny (model X.prog X.w) X.A (matchPattern p X.env (.str x tk)) Q X.xe s
section
variable {X : Cx} {e : Expr} {te : TE} {pos : Pos} {p : Pattern} {ps : List Pattern} {m : Str → Bool} {body : List Stmt} {cs : List MatchCase} {tb : TS} {t : V → TS}
def tMatch (te : TE) (t : V → TS) : TS := fun D σ H => te σ H fun x H1 => t x D σ H1
theorem ps_match (he : PE X e te) (hc : PMc X cs t) : PS X (.Match e cs pos) (tMatch te t) :=
  ⟨fun pins s σ H D I h => wpAny_Match (thn (he.run pins s σ H _ I h) fun v s1 ⟨x, H1, I1, r1, q1⟩ => hc.run true pins s1 σ H1 x v D I1 r1 q1)⟩
theorem pmc_nil : PMc X [] (fun _ D σ H => D.nx σ H) := ⟨fun first pins s σ H x v D I r h => wpAny_matchCases_nil ⟨σ, H, I, h⟩⟩
def tCase (m : Str → Bool) (tb : TS) (t : V → TS) : V → TS := fun x D σ H => ∃ y, x = .str y ∧ if m y = true then tb D σ H else t x D σ H
theorem pmc_case (hp : PPt X p m) (hb : PSs X body tb) (hc : PMc X cs t) : PMc X (⟨p, none, body⟩ :: cs) (tCase m tb t) := by
  refine ⟨fun first pins s σ H x v D I r h => ?_⟩
  obtain ⟨y, rfl, h⟩ := h
  obtain ⟨tk, rfl⟩ := r
  refine wpAny_matchCases_cons (hp.run pins s σ H y tk _ I fun s1 I1 => ?_)
  cases hm : m y with
  | true =>
    rw [hm, if_pos rfl] at h
    rw [if_pos rfl]
    exact wpAny_assignInOrder_none (hb.run pins s1 σ H D I1 h)
  | false =>
    rw [hm, if_neg Bool.false_ne_true] at h
    rw [if_neg Bool.false_ne_true]
    exact hc.run false pins s1 σ H (.str y) _ D I1 ⟨tk, rfl⟩ h
/-- case _ -/
theorem pmc_rest (hb : PSs X body tb) {q : Pos} : PMc X [⟨.MatchAs none none q, none, body⟩] (fun _ => tb) :=
  ⟨fun first pins s σ H x v D I r h => wpAny_matchCases_cons (wpAny_matchPattern_Capture (wpAny_assignInOrder_none (hb.run pins s σ H D I h)))⟩
theorem ppt_str {z : Str} {j : Nat} {q q' : Pos} : PPt X (.MatchValue (.Constant (.str z) j q) q') (fun x => decide (x = z)) := by
  refine ⟨fun pins s σ H x tk Q I h => ?_⟩
  refine wpAny_matchPattern_Value (thn ((pe_str (X := X) (x := z) (j := j) (pos := q)).run pins s σ H (fun y H1 => y = .str z ∧ H1 = H) I ⟨rfl, rfl⟩) fun u s1 ⟨y, H1, I1, r1, e1, e2⟩ => ?_)
  subst e1
  subst e2
  refine thn (op_eq pins s1 σ H1 (.str x) (.str z) _ u (fun w H2 => w = .bl (decide (x = z)) ∧ H2 = H1) I1 ⟨tk, rfl⟩ r1 ?_) fun c s2 ⟨w, H2, I2, r2, e3, e4⟩ => ?_
  · exact ⟨rfl, by simp, rfl⟩
  · subst e3
    subst e4
    cases r2
    refine wpAny_truthy_bool ?_
    have := h s2 I2
    cases hm : decide (x = z) with
    | true => rw [hm] at this; exact this
    | false => rw [hm] at this; exact this
/-- some patterns that bind nothing -/
structure PPs (X : Cx) (ps : List Pattern) (m : Str → Bool) : Prop where
  run : ∀ (pins : List (Addr × Obj)) (s : Shared) (σ : L2.St) (H : Hp) (x : Str) (tk : Tok) (Q : Option (List (Str × Value)) → Shared → Prop), Inv X pins σ H s → (∀ s', Inv X pins σ H s' → Q (if m x = true then some [] else none) s') → wpAny (model X.prog X.w) X.A (matchFirst ps X.env (.str x tk)) Q X.xe s
theorem pps_nil : PPs X [] (fun _ => false) := ⟨fun pins s σ H x tk Q I h => wpAny_matchFirst_nil (h s I)⟩
theorem pps_cons {m' : Str → Bool} (hp : PPt X p m) (hs : PPs X ps m') : PPs X (p :: ps) (fun x => m x || m' x) := by
  refine ⟨fun pins s σ H x tk Q I h => ?_⟩
  refine wpAny_matchFirst_cons (hp.run pins s σ H x tk _ I fun s1 I1 => ?_)
  cases hm : m x with
  | true =>
    have := h s1 I1
    simp only [hm, Bool.true_or, if_true] at this
    exact this
  | false =>
    refine hs.run pins s1 σ H x tk Q I1 fun s2 I2 => ?_
    have := h s2 I2
    simpa only [hm, Bool.false_or] using this
theorem ppt_or (hs : PPs X ps m) {q : Pos} (hn : namesOfAll (ps.take 1) = [] := by rfl) : PPt X (.MatchOr ps q) m := by
  refine ⟨fun pins s σ H x tk Q I k => ?_⟩
  refine wpAny_matchPattern_Or (hs.run pins s σ H x tk _ I fun s1 I1 => ?_)
  have := k s1 I1
  cases hm : m x with
  | true =>
    rw [hm, if_pos rfl] at this
    rw [if_pos rfl]
    simpa [hn] using this
  | false =>
    rw [hm, if_neg Bool.false_ne_true] at this
    rw [if_neg Bool.false_ne_true]
    exact this
end
end RS


/-! is True, is False; two promises of one def -/
namespace RS
open PySem PySem.Spec L2 PyProof.Rows
section
variable {X : Cx}
theorem is_bool {M : Model} {A : Around} {E : Value → Shared → Prop} {s : Shared} {x : V} {u : Value} {b : Bool} {R : Bool → Shared → Prop} (r : RelV x u) (q : R (decide (x = .bl b)) s) : wpAny M A (isSame u (.bool b)) R E s := by
  have eq_ : ∀ {u : Value} {z : Bool}, plainIs u (.bool b) = true → (u == Value.bool b) = z → R z s → wpAny M A (isSame u (.bool b)) R E s := fun h1 h2 q => wpAny_isSame_plain h1 (by rw [h2]; exact q)
  have no : ∀ {u : Value}, plainIs u (.bool b) = true → (u == Value.bool b) = false → decide (x = .bl b) = false → wpAny M A (isSame u (.bool b)) R E s := fun h1 h2 h3 => eq_ h1 h2 (by rw [← h3]; exact q)
  cases x with
  | ref a => cases r; exact no rfl rfl (by simp)
  | non => cases r; exact no rfl rfl (by simp)
  | bl c =>
    cases r
    refine eq_ rfl rfl ?_
    have e : (Value.bool c == Value.bool b) = decide (V.bl c = V.bl b) := by cases c <;> cases b <;> rfl
    rw [e]; exact q
  | int i => obtain ⟨t, rfl⟩ := r; exact no rfl rfl (by simp)
  | str x => obtain ⟨t, rfl⟩ := r; exact no rfl rfl (by simp)
  | byt x => obtain ⟨t, rfl⟩ := r; exact no rfl rfl (by simp)
  | flt x => obtain ⟨t, rfl⟩ := r; exact no rfl rfl (by simp)
  | ty n => cases r; exact no rfl rfl (by simp)
/-- x is True, x is False -/
theorem op_isB : OpR X (compareOp .Is) (fun x y H Q => ∃ b, y = .bl b ∧ Q (.bl (decide (x = .bl b))) H) := by
  intro pins s σ H x y v u Q I rx ry h
  obtain ⟨b, rfl, q⟩ := h
  cases ry
  show wpAny _ _ ((isSame v (Value.bool b)) >>= fun z => pure (Value.bool z)) _ _ s
  exact wpAny_bind (is_bool rx (wpAny_pure (fin_bl I q rfl)))
theorem op_notB : OpR X (compareOp .IsNot) (fun x y H Q => ∃ b, y = .bl b ∧ Q (.bl (!decide (x = .bl b))) H) := by
  intro pins s σ H x y v u Q I rx ry h
  obtain ⟨b, rfl, q⟩ := h
  cases ry
  show wpAny _ _ ((isSame v (Value.bool b)) >>= fun z => pure (Value.bool (!z))) _ _ s
  exact wpAny_bind (is_bool rx (wpAny_pure (fin_bl I q rfl)))
end
/-- either promise -/
def SpOr (sp sp' : Sp) : Sp := fun vs H Q E => sp vs H Q E ∨ sp' vs H Q E
theorem FnG.or {g : Wd} {k : Nat} {f : Addr} {fd : FuncData} {ps : List Str} {sp sp' : Sp} (F : FnG g k f fd ps sp) (F' : FnG g k f fd ps sp') : FnG g k f fd ps (SpOr sp sp') :=
  ⟨fun vs H Q E h => h.elim (F.len vs H Q E) (F'.len vs H Q E), fun A outer s H args us vs Q E hr hg he hb hv h => h.elim (F.run A outer s H args us vs Q E hr hg he hb hv) (F'.run A outer s H args us vs Q E hr hg he hb hv)⟩
end RS


/-! try .. except (A, B, C) as e: what is caught may be kept -/
namespace RS
open PySem PySem.Spec L2 PyProof.Rows
/-- an object that came to be behind the entry is known from now on -/
theorem track {X : Cx} {pins : List (Addr × Obj)} {σ : L2.St} {H : Hp} {s : Shared} {a : Addr} {u : HO} (I : Inv X pins σ H s) (na : H a = none) (n0 : X.s_0.heap.get? a = none) (nL : a ≠ X.env.locals)
    (nc : ∀ x c, X.env.cells.lookup x = some c → c ≠ a) (np : ∀ p ∈ X.pn ++ pins, p.1 ≠ a) (ok : ObjOk X.prog X.w (upd H a u) s.heap a u) : Inv X pins σ (upd H a u) s where
  ok := I.ok
  os := I.os
  bare := I.bare
  base := {
    keep := I.base.keep
    slot := I.base.slot
    free := fun b o q n hx => by rw [upd_ne (fun z => by rw [z, n0] at q; cases q)]; exact I.base.free b o q n hx
    there := I.base.there
    tups := fun b xs q => by
      have z := I.base.tups b xs q
      rw [upd_ne (ne_of_none z na)]; exact z
    frzs := fun b o v q => by
      have z := I.base.frzs b o v q
      rw [upd_ne (ne_of_none z na)]; exact z
    tbls := fun b ps q => by
      obtain ⟨m, z⟩ := I.base.tbls b ps q
      exact ⟨m, by rw [upd_ne (ne_of_none z na)]; exact z⟩ }
  loc := I.loc
  cell := I.cell
  free := by rw [upd_ne (Ne.symm nL)]; exact I.free
  freeC := fun x c q => by rw [upd_ne (nc x c q)]; exact I.freeC x c q
  pin := fun p hp => by
    obtain ⟨e1, e2, e3⟩ := I.pin p hp
    exact ⟨e1, by rw [upd_ne (np p hp)]; exact e2, e3⟩
  hok := fun b o q => by
    by_cases hb : b = a
    · subst hb
      rw [upd_same] at q
      cases q
      exact ok
    · rw [upd_ne hb] at q
      exact (I.hok b o q).stay (fun _ _ _ z => z) (fun y hy => by rw [upd_ne (ne_of_none hy na)]; exact hy) (fun y xs hy => by rw [upd_ne (ne_of_none hy na)]; exact hy)
  len := I.len
theorem fly_kept {B : Heap} {l : List Env} {a : Addr} {Z : Obj → Prop} {h h' : Heap} (k : ∀ b o, h.get? b = some o → h'.get? b = some o) (f : HandSPX.FlyingZ B l a Z h) : HandSPX.FlyingZ B l a Z h' := by
  obtain ⟨st, n, ff, oe, vs, T, oT, ts, h1, h2, h3, h4, h5, h6, h7, h8, h9⟩ := f
  exact ⟨fun b o q => k b o (st b o q), n, Heap.FunFrames.of_keeps (fun b o q _ => ⟨o, k b o q, rfl⟩) ff, oe, vs, T, oT, ts, k _ _ h1, h2, h3, h4, h5, h6, k _ _ h7, h8, h9⟩
theorem sky_none {B : Heap} {l : List Env} {a L : Addr} {Z : Obj → Prop} {h : Heap} (x : Sky B l a Z L h) : B.get? a = none := by
  rcases x with x | x | x
  · exact x.2.1
  · exact x.2.1
  · exact x.2.1
/-- what the clause wishes of an exception: it is kept, as a value -/
def wKeep (K : PySem.W.Frag) (cs : List Value) (i : Nat) (ts : Addr → Value → Option Addr → TS) (Wout : WX) (D : Ends) : WX := fun cls d σ H =>
  ∃ b, PySem.W.exmAny K cls cs = some b ∧ (b = true → ∃ C, cls = .ref C ∧ ∀ a, H a = none → ts a cls d { nx := fun σ' H' => H' a = none → D.nx (σ'.set i none) (upd H' a (exv a C d)), rt := fun _ _ => False, bk := fun _ _ => False, ct := fun _ _ => False } (σ.set i (some (.ref a))) H) ∧
    (b = false → Wout cls d σ H)
section
variable {X : Cx} {x1 x2 x3 n : Str} {C1 C2 C3 : Addr} {i kk : Nat} {body suite : List Stmt} {b₀ : Stmt} {q1 q2 q3 tp pos pos' : Pos} {tb : WX → TS} {ts : Addr → Value → Option Addr → TS} {Wout : WX}
theorem ps_try_keep (hs : X.stack = X.env :: X.outer) (hf : X.env.frame = some X.env.locals) (hex : X.ex = []) (hN : X.N.Nodup) (hi : X.N[i]? = some n) (hln : X.env.kindOf n = some .local) (g1 : Names X x1 (.ref C1)) (g2 : Names X x2 (.ref C2)) (g3 : Names X x3 (.ref C3)) (tk : Takes X Wout)
    (hb : ∀ (W : WX) (pn : List (Addr × Obj)) (xe : Value → Shared → Prop), Takes (X.tr pn xe) W → PassesOwn (model X.prog X.w) X.A X.env xe → PSs (X.tr pn xe) body (tb W))
    (hsu : ∀ (a : Addr) (oe : Obj) (cls : Value) (d : Option Addr) (pn : List (Addr × Obj)), Zc cls d oe → (∃ vs, oe.data = .fields vs) → PSs (X.suite a ((a, oe) :: pn)) (b₀ :: suite) (ts a cls d)) :
    PS X (.Try body [.ExceptHandler (some (.Tuple [.Name x1 q1, .Name x2 q2, .Name x3 q3] kk tp)) (some n) (b₀ :: suite) pos'] [] [] pos) (fun D σ H => tb (wKeep X.K [.ref C1, .ref C2, .ref C3] i ts Wout D) D σ H) := by
  refine ⟨fun pins s σ H D I h => ?_⟩
  have ok := I.ok
  have hfr : X.A.frames = some (X.env :: X.outer) := by rw [ok.frames, hs]
  refine wpAny_Try_except ?_
  let clause : ExceptHandler := .ExceptHandler (some (.Tuple [.Name x1 q1, .Name x2 q2, .Name x3 q3] kk tp)) (some n) (b₀ :: suite) pos'
  let M := model X.prog X.w
  let xe' : Value → Shared → Prop := fun e s₁ => wpAny M X.A (noteFrame e X.env) (fun _ s₂ => wpAny M X.A (setFlight e none) (fun _ s₃ => wpAny M X.A (handleBy e X.env [clause]) (SP X pins D) X.xe s₃) X.xe s₂) X.xe s₁
  have run := (hb (wKeep X.K [.ref C1, .ref C2, .ref C3] i ts Wout D) (X.pn ++ pins) xe' (fun u s' xx => ?caught) PassesOwn.looking).run [] s σ H D (I.toTry _) h
  · refine wpAny_mono run (fun f s1 hsp => ?_) (fun e s1 he => he)
    cases f with
    | next =>
      obtain ⟨σ', H', J', q⟩ := hsp
      exact wpAny_execs_nil ⟨σ', H', J'.ofTry ok, q⟩
    | brk =>
      obtain ⟨σ', H', J', q⟩ := hsp
      exact ⟨σ', H', J'.ofTry ok, q⟩
    | cont =>
      obtain ⟨σ', H', J', q⟩ := hsp
      exact ⟨σ', H', J'.ofTry ok, q⟩
    | ret u =>
      obtain ⟨v, σ', H', J', r, q⟩ := hsp
      exact ⟨v, σ', H', J'.ofTry ok, r, q⟩
  case caught =>
    obtain ⟨a, B, sI, pins', σ', H', cls, d, rfl, J', nb, up, sky, na, os, ag, b, hb1, hyes, hno⟩ := xx
    have J : Inv X pins σ' H' sI := J'.ofTry ok
    have sky' : Sky B (X.env :: X.outer) a (Zc cls d) X.env.locals s'.heap := by rw [← hs]; exact sky
    have nB := sky_none sky'
    show wpAny M X.A (noteFrame (.ref a) X.env) _ _ _
    refine Sky.land Zc.steady hfr hf sky' fun h3 fl3 up3 => ?_
    have land : ∀ h, HandSPX.FlyingZ B (X.env :: X.outer) a (Zc cls d) h → s'.heap.UpToSlots h → Inv X pins σ' H' { s' with heap := h } := fun h fl u => J.landed nb fl.1 (up.trans u) os ag
    have J3 := land h3 fl3 up3
    obtain ⟨oe3, vs3, he3, hz3, hd3⟩ := fl3.there
    have nfr : a ∉ frs (X.env :: X.outer) := fun hm => by
      obtain ⟨_, o', e', hnf⟩ := fl3.2.2.1.mem hm
      rw [he3] at e'
      cases e'
      exact hnf _ hd3
    have nL : a ≠ X.env.locals := fun z => nfr (List.mem_filterMap.mpr ⟨X.env, List.mem_cons_self, by rw [hf, z]⟩)
    have nF : a ∉ X.fs := fun hm => by
      obtain ⟨e, he, q⟩ := List.mem_filterMap.mp hm
      exact nfr (List.mem_filterMap.mpr ⟨e, List.mem_cons_of_mem _ he, q⟩)
    have nI : sI.heap.get? a = none := by
      cases z : sI.heap.get? a with
      | none => rfl
      | some o =>
        have := nb a o z (by rw [hs]; exact nfr)
        rw [nB] at this; cases this
    have n0 : X.s_0.heap.get? a = none := by
      cases z : X.s_0.heap.get? a with
      | none => rfl
      | some o =>
        obtain ⟨o', z'⟩ := J.base.there a o z (by rw [hex]; simp)
        rw [nI] at z'; cases z'
    have npin : ∀ p ∈ X.pn ++ pins, p.1 ≠ a := fun p hp z => by
      have := (J.pin p hp).1
      rw [z, nI] at this; cases this
    have S3 := J3.suite he3 hd3 na nL nF
    refine wpAny_handleBy_cons (codeAny_handlers_test ?_) (by intro q; cases q)
    have LT : PySem.W.Looks M h3 (typeOf (.ref a)) cls := fun A Q E s k q => wpAny_typeOf_ref (k _ _ he3) (by rw [hz3.1]; exact q)
    have ld : ∀ {x : Str} {C : Addr} {np : Pos} {Q : Value → Shared → Prop} {E : Value → Shared → Prop}, Names X x (.ref C) → Q (.ref C) { s' with heap := h3 } → wpAny M (X.A.mark (some (.ref a))) (eval (.Name x np) X.env) Q E { s' with heap := h3 } := fun {x C np Q E} hc q => by
      obtain ⟨hg, hdbg, hm | ⟨hm, hv, hnn⟩⟩ := hc
      · exact ld_glob (X := X.suite a ((a, oe3) :: (X.pn ++ pins))) S3 hg hm q hdbg
      · exact ld_blt (X := X.suite a ((a, oe3) :: (X.pn ++ pins))) S3 hg hm hv q hnn hdbg
    refine wpAny_Tuple (wpAny_items_cons (ld g1 (wpAny_items_cons (ld g2 (wpAny_items_cons (ld g3 (wpAny_items_nil ⟨by size_fits, ?_⟩)))))))
    have kp : ∀ b o, h3.get? b = some o → (h3.push { cls := .type "tuple", data := .seq [Value.ref C1, .ref C2, .ref C3].toArray }).get? b = some o := fun _ _ z => Heap.get?_push_of_some _ z
    refine (PySem.W.exm_tup3 (M := M) (J3.kIn.keeps kp) (LT.keeps kp) (Heap.get?_push_size h3 rfl) hb1).here ?_
    have fl := fly_kept kp fl3
    have upk : s'.heap.UpToSlots (h3.push { cls := .type "tuple", data := .seq [Value.ref C1, .ref C2, .ref C3].toArray }) := up3.trans (Heap.UpToSlots.of_keeps kp)
    cases b with
    | true =>
      obtain ⟨C, rfl, hyes⟩ := hyes rfl
      refine codeAny_handlers_suite_as ?_
      refine HandSPX.lands_againZ fl fun h4 fl4 up4 => ?_
      have J4 := land h4 fl4 (upk.trans up4)
      obtain ⟨oe4, vs4, he4, hz4, hd4⟩ := fl4.there
      have S4 := J4.suite he4 hd4 na nL nF
      refine store_ok (X := X.suite a ((a, oe4) :: (X.pn ++ pins))) (v := .ref a) S4 hN hi (.inl hln) rfl (fun s5 S5 => ?_) (.inr hln)
      refine wpAny_mono ((hsu a oe4 (.ref C) d (X.pn ++ pins) hz4 ⟨_, hd4⟩).run [] s5 _ H' _ S5 (hyes a na)) (fun f s6 hsp => ?_) (fun _ _ z => False.elim z)
      cases f with
      | next =>
        obtain ⟨σ6, H6, S6, q6⟩ := hsp
        have p6 := S6.pin (a, oe4) (List.mem_append_left _ (List.mem_cons_self ..))
        have Jp : Inv X ((a, oe4) :: pins) σ6 H6 s6 := ⟨ok, S6.os, S6.bare, S6.base, S6.loc, S6.cell, S6.free, S6.freeC, fun p hp => by
          rcases List.mem_append.mp hp with z | z
          · exact S6.pin p (List.mem_append_left _ (List.mem_cons_of_mem _ (List.mem_append_left _ z)))
          · rcases List.mem_cons.mp z with z | z
            · rw [z]; exact p6
            · exact S6.pin p (List.mem_append_left _ (List.mem_cons_of_mem _ (List.mem_append_right _ z))), S6.hok, S6.len⟩
        refine gone_ok Jp hN hi hln fun s7 J7 => ?_
        obtain ⟨e7, n7, l7, f7, c7⟩ := J7.pin (a, oe4) (List.mem_append_right _ (List.mem_cons_self ..))
        have J8 : Inv X pins (σ6.set i none) H6 s7 := ⟨ok, J7.os, J7.bare, J7.base, J7.loc, J7.cell, J7.free, J7.freeC, fun p hp => J7.pin p ((List.mem_append.mp hp).elim (List.mem_append_left _) fun z => List.mem_append_right _ (List.mem_cons_of_mem _ z)), J7.hok, J7.len⟩
        refine ⟨_, _, track (u := exv a C d) J8 n7 n0 l7 (fun x c hc z => ?_) npin (exv_ok e7 hz4.1 hz4.2 hd4), q6 n7⟩
        obtain ⟨v, o, ho, hd⟩ := J7.cell x c hc
        rw [z, e7] at ho
        cases ho
        exact c7 v hd
      | brk =>
        obtain ⟨σ6, H6, S6, q6⟩ := hsp
        exact q6.elim
      | cont =>
        obtain ⟨σ6, H6, S6, q6⟩ := hsp
        exact q6.elim
      | ret u =>
        obtain ⟨v6, σ6, H6, S6, r6, q6⟩ := hsp
        exact q6.elim
    | false =>
      show wpAny _ X.A (handleBy (.ref a) X.env []) _ _ _
      refine wpAny_handleBy_nil ?_
      have fl' := fl
      obtain ⟨k1, k2, k3, oe, vs, T, oT, ts', he, hz, hd, h1, hr⟩ := fl'
      unfold PySem.passOn
      refine wpAny_bind (wpAny_field he hd h1 ?_)
      rw [if_neg (show ¬ ((Value.ref T == Value.none) = true) from by simp)]
      have fin : wpAny M X.A (setFlight (.ref a) X.env.frame) (fun _ s4 => wpAny M X.A (throw (.ref a) : Sem Flow) (SP X pins D) X.xe s4) X.xe { s' with heap := h3.push { cls := .type "tuple", data := .seq [Value.ref C1, .ref C2, .ref C3].toArray } } := by
        rw [hf]
        refine HandSPX.setFlight_upZ fl fun h4 hh4 up4 => wpAny_throw (tk _ _ ?_)
        exact ⟨a, B, sI, pins, σ', H', cls, d, rfl, J, nb, up.trans (upk.trans up4), .inr (.inr (by rw [hs]; exact hh4)), na, os, ag, hno rfl⟩
      first
        | exact wpAny_bind (wpAny_pure (wpAny_bind fin))
        | exact wpAny_bind fin
end
end RS


/-! f(lambda: e), f a def of the text that calls what it is given -/
namespace RS
open PySem PySem.Spec L2 PyProof.Rows LamX
/-- within the context Z, entered with the lambda at f in the slot 0: a() does what tl says -/
def Acts (Z : Cx) (a : Str) (f c' : Addr) (q : Str) (tl : XK → Hp → VK → Prop) : Prop :=
  ∀ (W : WX) (pn : List (Addr × Obj)) (xe : Value → Shared → Prop) (p1 p2 : Pos), Takes (Z.tr pn xe) W →
    PE (Z.tr pn xe) (.Call (.Name a p1) [] [] p2) (fun σZ HZ Q => σZ[0]? = some (some (.ref f)) ∧ HZ c' = some (CodeO c' q) ∧ tl (fun cls d H' => W cls d σZ H') HZ Q)
/-- the module's name x holds a def with one parameter a, which it calls; TT: what it makes of the lambda's reading -/
structure Told (g : Wd) (k : Nat) (x : Str) (TT : Addr → Str → (XK → Hp → VK → Prop) → Hp → VK → Prop) : Prop where
  ex : ∃ (st : Stmt) (gf : Addr) (fd : FuncData) (a : Str) (N : List Str), g.mg x = some (.ref gf) ∧ Df g.K x x st gf fd .none ∧ Binds g.K fd [a] [] ∧ FnScope N [a] (defScope st) ∧ N[0]? = some a ∧ Vis (defScope st) a ∧ (a == ("__debug__" : Str)) = false ∧ (a == ("__classdict__" : Str)) = false ∧
    ∀ (cdv : Value) (A : Around) (outer : List Env) (s : Shared) (H : Hp) (Q : VK) (f c' : Addr) (q : Str) (tl : XK → Hp → VK → Prop), Rm k (cx g N x st gf cdv A outer s H fun _ _ _ => False) →
      Acts (cx g N x st gf cdv A outer s H fun _ _ _ => False) a f c' q tl → H c' = some (CodeO c' q) → TT c' q tl H Q →
      ∃ t, PSs (cx g N x st gf cdv A outer s H fun _ _ _ => False) (defBody st) t ∧ t { nx := fun _ H' => Q .non H', rt := Q } (start N [.ref f]) H
section
variable {X : Cx} {pins : List (Addr × Obj)} {σ : L2.St} {H : Hp} {s : Shared}
/-- the lambda at f, run from the frames of Z -/
theorem lam_run {f c' : Addr} {pm ctv : Value} {params : Arguments} {body : Expr} {scope : Scope} {k : Nat} {E : XK} {tb : TE} {A : Around} {outer : List Env} {s1 : Shared} {HZ : Hp} {Q : VK}
    (I : Inv X pins σ H s) (L : LamS X.env.scope scope) (hc : HZ c' = some (CodeO c' (X.env.qual ++ "<lambda>"))) (e0 : Env0 X.prog X.w X.K X.mg X.base A outer s1 HZ) (lim : s1.heap.NoLimit)
    (of1 : s1.heap.get? f = some (PySem.W.kla_obj "<lambda>" (X.env.qual ++ "<lambda>") params body scope (cloFrom X.env.cells scope.names []) pm c' ctv)) (un : Un (frs X.stack) [] H HZ s.heap s1.heap)
    (hbind : bindArgs (PySem.W.kla_fn "<lambda>" (X.env.qual ++ "<lambda>") params body scope (cloFrom X.env.cells scope.names []) pm (.ref c') ctv) ⟨[], []⟩ = pure []) (hr : Room (k + 1) A) (gd : A.guards = some [])
    (hbody : Rm k (lamCx X A outer s1 HZ E scope f c') → PE (lamCx X A outer s1 HZ E scope f c') body tb) (ht : tb σ HZ Q) :
    codeAny (model X.prog X.w) A (.call (.ref f) ⟨[], []⟩) (CR (L2.CX X.prog X.w) outer X.prog X.w HZ s1 Q E) s1 := by
  obtain ⟨⟨oc, vs, t, hoc, hdc, hvc⟩, _, _⟩ := e0.hok c' _ hc
  refine PySem.W.kla_callFunE hr.depth of1 rfl L.co L.gen rfl ⟨c', oc, vs, t, rfl, hoc, hdc, hvc⟩ ?_
  rw [hbind]
  refine wpAny_pure (wpAny_newFunctionEnv (fun y hy => (L.own y hy).2) (fun y hy => absurd hy (by simp)) (fun h₁ hns hsb => ⟨lim.fresh _ hsb, ?_⟩) L.kind)
  show codeAny _ _ (.expr body (lamEnv X scope s1.heap.objs.size f c')) _ _
  have kp : ∀ b o, s1.heap.get? b = some o → h₁.get? b = some o := fun b o q => hsb.extBut b o (Nat.ne_of_lt (Heap.lt_size q)) (Heap.get?_push_of_some _ q)
  have J := lam_start2 (E := E) (f := f) (c' := c') (tk := s1.toks + ([] : List (Str × Value)).length) I L e0 hr.hd un hns kp
  have P := hbody ⟨hr.deeper _, gd⟩
  refine PySem.W.kla_codeExpr (wpAny_mono (P.run [] _ _ HZ Q J ht) (fun v s' hq => ?_) fun e s' hq => hq)
  obtain ⟨w', H', J', rv, q⟩ := hq
  exact ⟨w', H', J'.os, J'.bare, J'.base, J'.hok, rv, q⟩
def tLamG (T : List (Addr × Str)) (TT : Addr → Str → (XK → Hp → VK → Prop) → Hp → VK → Prop) (q : Str) (t : XK → TE) : TE := fun σ H Q => Tabs T H ∧ ∀ c' H1, ExtN H H1 → Tabs T H1 → H1 c' = some (CodeO c' q) → TT c' q (fun E H' Q' => t E σ H' Q') H1 Q
/-- x(lambda: body) -/
theorem pe_lamG {g : Wd} {T : List (Addr × Str)} {TT : Addr → Str → (XK → Hp → VK → Prop) → Hp → VK → Prop} {x : Str} {c P : Addr} {k : Nat} {params : Arguments} {body : Expr} {scope : Scope} {t : XK → TE} {p lpos pos : Pos}
    (F : Told g (k + 1) x TT) (hr : Rm (k + 2) X) (TB : TabB X.base X.mg c P) (hcode : X.env.code = .ref c) (hmT : (P, X.env.qual ++ "<lambda>") ∈ T) (hu : ∀ p ∈ T, p.1 = P → p.2 = X.env.qual ++ "<lambda>")
    (L : LamS X.env.scope scope) (hdef : defaultsOf params X.env = ([], []))
    (hbind : ∀ (q : Str) (cl : List (Str × Addr)) (pm cv ctv : Value), bindArgs (PySem.W.kla_fn "<lambda>" q params body scope cl pm cv ctv) ⟨[], []⟩ = pure [])
    (hbody : ∀ (A : Around) (outer : List Env) (s : Shared) (H : Hp) (E : XK) (f c' : Addr), Rm k (lamCx X A outer s H E scope f c') → PE (lamCx X A outer s H E scope f c') body (t E))
    (hg : Gl X x := by rfl) (hdb : (x == ("__debug__" : Str)) = false := by decide) (at_ : At g X := by exact ⟨rfl, rfl, rfl, rfl, rfl⟩) :
    PE X (.Call (.Name x p) [.Lambda params body scope lpos] [] pos) (tLamG T TT (X.env.qual ++ "<lambda>") t) := by
  refine ⟨fun pins s σ H Q I h => ?_⟩
  obtain ⟨hT, h⟩ := h
  obtain ⟨st, gf, fd, a, N, hm, DF, hb, Sg, hN0, hva, hd1, hd2, body_⟩ := F.ex
  obtain ⟨oc, od, kV, doc, pm0, an, cdv, ct, osl, rfl, lk, hcd⟩ := DF.ex
  have hm' : X.mg x = some (.ref gf) := by rw [at_.mg]; exact hm
  refine wpAny_Call_Name_kw (ld_glob I hg hm' ?_ hdb)
  refine PySem.W.callWith_K (h₀ := X.base) I.ok.mod.kin (by rw [at_.K]; exact DF.kp) ?_ (by rfl) (by rfl)
  show wpAny _ _ (spliced ((false, eval (.Lambda params body scope lpos) X.env) :: backTo pos (starEach [] X.env))) _ _ s
  refine Calls.spliced_cons (lam_make2 I TB hcode hmT hu hT hdef (L.has I.ok) fun f c' pm' ctv H1 s' I1 eN T1 hf hfn hfr hco => ?_)
  refine Calls.spliced_nil ⟨I1.kIn, ?_⟩
  have KX := I1.kIn
  rw [at_.K] at KX
  have rc : codeAny (model X.prog X.w) X.A (.call (.ref gf) ⟨[.ref f], []⟩) (CR (L2.CX X.prog X.w) X.stack X.prog X.w H1 s' Q fun _ _ _ => False) s' := by
    obtain ⟨P0, w0, K0, mg0, base0⟩ := g
    obtain ⟨rfl, rfl, rfl, rfl, rfl⟩ := at_
    refine run_ofS (N := N) (ps := [a]) (us := [.ref f]) (vs := [.ref f]) lk hcd Sg hr.room I1.env0 (hb s' [.ref f] I1.kIn rfl) (.cons rfl .nil) rfl fun hr' => ?_
    refine body_ cdv X.A X.stack s' H1 Q f c' (X.env.qual ++ "<lambda>") (fun E H' Q' => t E σ H' Q') ⟨hr', hr.gd⟩ (fun W pn xe p1 p2 tk => ⟨fun pinsZ sZ σZ HZ Q IZ hz => ?_⟩) hco (h c' H1 eN T1 hco)
    obtain ⟨hs, hc, ht⟩ := hz
    refine wpAny_Call_Name_kw (thn ((pe_var (pos := p1) (i := 0) hN0 hva hd1 hd2).run pinsZ sZ σZ HZ (fun v H1 => v = .ref f ∧ H1 = HZ) IZ ⟨.ref f, hs, rfl, rfl⟩) fun u s1 ⟨v, H2, I2, r2, q2⟩ => ?_)
    obtain ⟨ev, eH⟩ := q2
    subst ev
    rw [eH] at I2
    obtain rfl : u = Value.ref f := r2
    have of1 := I2.base.keep f _ hf hfn hfr (fun z => nomatch (show f ∈ ([] : List Addr) from z))
    refine PySem.W.callWith_F0 ⟨_, _, _, _, of1⟩ ?_
    have un : Un (frs X.stack) [] H1 HZ s'.heap s1.heap := I2.base
    have rl := lam_run (X := X) (k := k) (E := fun cls d H' => W cls d σZ H') (A := X.A.deeper (envOfC x (defScope st) s'.heap.objs.size gf cdv)) (outer := envOfC x (defScope st) s'.heap.objs.size gf cdv :: X.stack) (s1 := s1) (Q := Q) I1 L hc I2.env0 I2.nolimit of1 un (hbind _ _ _ _ _) hr' hr.gd (hbody _ _ _ _ _ _ _) ht
    refine wpAny_call (codeAny_mono rl fun r s2 hq => ?_)
    cases r with
    | error e => exact tk e s2 (XE.of_call (E := fun cls d H' => W cls d σZ H') I2 (fun _ _ _ z => z) hq)
    | ok fl =>
      cases fl with
      | ret u => exact I2.after hq
      | next => exact False.elim hq
      | brk => exact False.elim hq
      | cont => exact False.elim hq
  refine wpAny_call (codeAny_mono rc fun r s2 hq => ?_)
  cases r with
  | error e =>
    obtain ⟨_, _, _, _, _, _, _, _, _, _, _, _, z⟩ := hq
    exact z.elim
  | ok fl =>
    cases fl with
    | ret u => exact I1.after hq
    | next => exact False.elim hq
    | brk => exact False.elim hq
    | cont => exact False.elim hq
end
end RS


/-! what was caught, as a value: its field, its class; raise C() -/
namespace RS
open PySem PySem.Spec L2 PySem.W
/-- the fields of an exception, however they are known -/
def XdAt (H : Hp) (dd : Addr) (fs : List (Str × V)) : Prop := H dd = some (.xd fs) ∨ H dd = some (exd dd fs)
theorem XdAt.same {H H' : Hp} {dd : Addr} {fs : List (Str × V)} (h : XdAt H dd fs) (s : Same H H') : XdAt H' dd fs := h.imp (s _ _) (s _ _)
theorem XdAt.at {P : Program} {w : World} {H : Hp} {h : Heap} {dd : Addr} {fs : List (Str × V)} (hok : HOk P w H h) (e : XdAt H dd fs) : ∃ mA, h.Ns1 dd mA ∧ ∀ f, RelO (fs.lookup f) (mA f) := by
  rcases e with e | e
  · have x : ObjOk P w H h dd (.xd fs) := hok dd _ e
    exact x
  · exact exd_at hok e
section
variable {g : Wd} {X : Cx} {C : Addr} {x f : Str} {e o : Expr} {t : TA} {ta : TE} {p pos : Pos}
def tXfa (K : Frag) (f : Str) (ta : TE) : TE := fun σ H Q => ta σ H fun x H1 => ∃ a C dd fs v, x = .ref a ∧ H1 a = some (exv a C (some dd)) ∧ XdAt H1 dd fs ∧ fs.lookup f = some v ∧ XfC K C ∧ findIn K (.ref C) f = some none ∧ Q v H1
theorem pe_xfa (he : PE X e ta) (hb : attributeBase e f X.env (eval e X.env) = eval e X.env := by rfl) (at_ : At g X := by exact ⟨rfl, rfl, rfl, rfl, rfl⟩) : PE X (.Attribute e f pos) (tXfa g.K f ta) := by
  refine ⟨fun pins s σ H Q I h => ?_⟩
  refine attr_of hb (thn (he.run pins s σ H _ I h) fun u s1 hh => ?_)
  obtain ⟨x, H1, I1, rx, a, C, dd, fs, v, rfl, ea, ed, l, T, hno, q⟩ := hh
  obtain rfl : u = Value.ref a := rx
  obtain ⟨oe, vs, hoe, c1, c2, c3⟩ := exv_at I1.hok ea
  obtain ⟨mA, hns, hr⟩ := ed.at I1.hok
  obtain ⟨od, ho, hl⟩ := lookIn_ns hns
  obtain ⟨u, hu, ru⟩ := RelO.some_of (v := v) (o := mA f) (by rw [← l]; exact hr f)
  have J : InstAt s1.heap a oe C (some od) := ⟨hoe, c1, by unfold notCls; rw [c3] <;> rfl, by rw [c2]; exact ho⟩
  have KI := I1.kIn
  rw [at_.K] at KI
  exact HandSPX.exc_get KI J T.ga T.gg T.exC (findObj_own T.hdC hno rfl (by rw [hl, hu])) (handed_of ru) ⟨v, H1, I1.tok _, ru, q⟩
/-- isinstance(x, c), x what was caught -/
def rIsW (K : Frag) : List V → Hp → VK → Prop := fun xs H Q => ∃ (a C : Addr) (d : Option Addr) (c : V) (u : Value) (b : Bool), xs = [.ref a, c] ∧ ExcC K C ∧ ClsV c u ∧ H a = some (exv a C d) ∧ (∀ dd, d = some dd → ∃ fs, XdAt H dd fs) ∧ kitOne K (.ref C) u = some b ∧ Q (.bl b) H
theorem c_isW {K : Frag} (hK : X.K = K := by rfl) : CallR X (.builtin "isinstance") (rIsW K) := by
  subst hK
  intro pins s σ H xs us Q I r h
  obtain ⟨a, C, d, c, u, b, rfl, T, k, ea, ed, e, q⟩ := h
  obtain ⟨u1, u2, rfl, r1, r2⟩ := vals2 r
  have e2 := k.eq r2
  subst e2
  cases r1
  obtain ⟨oe, vs, hoe, c1, c2, c3⟩ := exv_at I.hok ea
  have J : ∃ ox od, InstAt s.heap a ox C od := by
    cases d with
    | none => exact ⟨oe, none, hoe, c1, by unfold notCls; rw [c3] <;> rfl, by rw [c2]; trivial⟩
    | some dd =>
      obtain ⟨fs, ef⟩ := ed dd rfl
      obtain ⟨mA, hns, hr⟩ := ef.at I.hok
      obtain ⟨od, ho, hl⟩ := lookIn_ns hns
      exact ⟨oe, some od, hoe, c1, by unfold notCls; rw [c3] <;> rfl, by rw [c2]; exact ho⟩
  exact kia_one (kitX T) I.kIn J e (fun z => nomatch z) fun tk => ⟨.bl b, H, I.tok tk, rfl, q⟩
/-- raise C() -/
def tPm0 (C : Addr) : L2.St → Hp → XK → Prop := fun σ H Q => Q (.ref C) none H
theorem pmk_x0 (F : XK0 g x C) (R : Raises X (.ref C)) (hr : Rm 2 X) (hg : Gl X x := by rfl) (hdb : (x == ("__debug__" : Str)) = false := by decide) (a : At g X := by exact ⟨rfl, rfl, rfl, rfl, rfl⟩) : PMk X (.Call (.Name x p) [] [] pos) (tPm0 C) := by
  obtain ⟨hm, ms, kp, fI, cda, cc, qual, st, B, newId, initId, bmB, XX, Y⟩ := F
  intro pins s σ H Q I q
  refine wpAny_Call_Name_kw (ld_glob I hg (by rw [a.mg]; exact hm) ?_ hdb)
  refine PySem.W.callWith_K0 I.kIn (by rw [a.K]; exact kp) ?_
  have KI := I.kIn
  rw [a.K] at KI
  obtain ⟨nm, N', qn, bs, bm, hdct, sn, sub, ab, col, dd, k0, k1, k2, k3, k5, hC, hT⟩ := excInit_of KI XX.q
  obtain ⟨oc, od, kV, doc, pm, an, ct, osl, lk⟩ := XX.lk
  have hfn : oc = .type "function" := by
    have z := XX.fn
    unfold typeIn at z
    simp only [lk] at z
    simpa using z
  have hglob : s.heap.Ns mainGlobals g.mg := by rw [← a.mg]; exact I.mod.glob.keeps I.bk
  obtain ⟨mb, hblt, bb⟩ := I.mod.blt
  have hblt2 := hblt.keeps I.bk
  have hlim := I.nolimit
  have bare := I.bare
  obtain ⟨hp, gg, dr, tt, oo⟩ := s
  have up : ∀ b o, hp.get? b = some o → ((hp.push (kdv_tup [])).push (HandSPX.excO C hp.objs.size)).get? b = some o := fun b o z => Heap.get?_push_of_some _ (Heap.get?_push_of_some _ z)
  have hget : ((hp.push (kdv_tup [])).push (HandSPX.excO C hp.objs.size)).get? (hp.objs.size + 1) = some (HandSPX.excO C hp.objs.size) := by heap_get
  refine wpAny_call (HandSPX.call_own XX.FB hT hC (looks_findIn KI XX.ini) (fun self => exc_bind (KI _ _ lk) hfn self) (by rw [sizeLine_eq]; simp) ?_)
  rw [a.P]
  refine xinit0 XX Y (fun b o z => up b o (KI b o z)) (hr.here.make C [] []).room.depth (hlim.keeps up) hget (hglob.keeps up) ms (hblt2.keeps up) bb fun h' t1 tk k e' => ⟨rfl, ?_⟩
  have k' : ∀ b o, hp.get? b = some o → h'.get? b = some o := fun b o z => k b o (fun y => by
    have := Heap.lt_size z
    rw [y] at this
    exact absurd this (by show ¬ hp.objs.size + 1 < hp.objs.size; omega)) (up b o z)
  have n1 : hp.get? (hp.objs.size + 1) = none := by
    cases z : hp.get? (hp.objs.size + 1) with
    | none => rfl
    | some o => exact absurd (Heap.lt_size z) (by show ¬ hp.objs.size + 1 < hp.objs.size; omega)
  have f1 : H (hp.objs.size + 1) = none := I.hok.fresh (Nat.le_succ _)
  have J : Inv X pins σ H { heap := hp, gens := gg, drawn := dr, toks := tt, os := oo } := I
  obtain ⟨G, g1, g2⟩ := restrict h' fun b => decide (b ≠ hp.objs.size + 1)
  have gk : ∀ b, b ≠ hp.objs.size + 1 → G.get? b = h'.get? b := fun b hb => g1 b (decide_eq_true hb)
  have ge : G.get? (hp.objs.size + 1) = none := g2 _ (by simp)
  have J2 := J.kept (h' := G) (t' := tk) fun b o z => by
    rw [gk b (fun y => by rw [y] at z; rw [n1] at z; cases z)]
    exact k' b o z
  refine ⟨hp.objs.size + 1, _, _, _, _, .ref C, none, rfl, J2, fun b o z => ?_, ge, e', ⟨rfl, rfl⟩, rfl, rfl, f1, rfl, bare, R, q⟩
  by_cases hb : b = hp.objs.size + 1
  · rw [hb] at z
    have z' : G.get? (hp.objs.size + 1) = some o := z
    rw [ge] at z'; cases z'
  · exact (gk b hb).symm.trans z
end
end RS


/-! the end of a law that makes lambdas: tables of code objects -/
namespace RS
open PySem PySem.Spec PyProof.Rows L2 LamX
/-- nothing but the script and the tables is tracked -/
def OnlyT (cs : List (Addr × Addr)) (H : Hp) : Prop := ∀ b, H b = none ∨ b ∈ cs.map (·.2) ∨ ∃ o xs, H b = some (.frz o (.lst xs))
theorem lawT {P : Program} {w : World} {K : PySem.W.Frag} {mg mb : Str → Option Value} {k : Nat} {fa a : Addr} {cs : List (Addr × Addr)} {fd : FuncData} {x : Str} {sp : Sp} {s₁ : Shared} {vs : List Value} {ns : List Int}
    (KX : K.In s₁.heap) (gl : s₁.heap.Ns mainGlobals mg) (bl : s₁.heap.Ns builtinsNs mb) (bb : ∀ x : Str, x ≠ "__name__" → mb x = bootBuiltins x) (lim : s₁.heap.NoLimit) (ge : s₁.gens = #[])
    (tab : ∀ p ∈ cs, s₁.heap.get? p.2 = some { cls := .none, data := .fields #[] }) (tabN : ∀ p ∈ cs, K.lookup p.2 = none) (cod : ∀ p ∈ cs, PySem.W.CodeHd s₁.heap p.1 p.2)
    (bmd : ∃ (bm : Addr) (ob : Obj), mg "__builtins__" = some (.ref bm) ∧ bm ≠ builtinsNs ∧ s₁.heap.get? bm = some ob ∧ ob.cls = .type "module" ∧ ob.dict = some builtinsNs ∧ ob.data = .plain)
    (ha : s₁.heap.get? a = some { cls := .type "list", data := .seq vs.toArray }) (hi : IntsAre vs ns) (hl : ns.length ≤ sizeLine) (hr : Room k callerA) (sm : SmB s₁.heap)
    (F : ∀ base : Heap, K.In base → base.Ns mainGlobals mg → SmB base → (∀ p ∈ cs, TabB base mg p.1 p.2) → FnG ⟨P, w, K, mg, base⟩ k fa fd [x] sp) (bd : ∀ (s : Shared) (u : Value), BindsTo s fd ⟨[u], []⟩ [(x, u)])
    (hsp : ∀ H : Hp, (∀ p ∈ cs, H p.2 = some (.tbl #[])) → SqL K H a (ns.map V.int) → sp [.ref a] H (fun v _ => v = .bl true) fun _ _ _ => False) :
    codeAny (model P w) callerA (.call (.ref fa) ⟨[.ref a], []⟩) (fun r s' => r = .ok (.ret (.bool true)) ∧ OldK s₁.heap s'.heap ∧ s'.os = s₁.os ∧ AllBare s'.gens) s₁ := by
  have rv := vals_ints hi
  have tabM : ∀ b, b ∈ cs.map (·.2) → s₁.heap.get? b = some { cls := .none, data := .fields #[] } := fun b hb => by
    obtain ⟨p, hp, rfl⟩ := List.mem_map.mp hb
    exact tab p hp
  have mem : ∀ p ∈ cs, p.2 ∈ cs.map (·.2) := fun p hp => List.mem_map.mpr ⟨p, hp, rfl⟩
  have ncs : a ∉ cs.map (·.2) := fun z => by
    have q := tabM a z
    rw [ha] at q
    have z' : Data.seq vs.toArray _ = Data.fields #[] := congrArg Obj.data (Option.some.inj q)
    cases z'
  have go : ∀ H : Hp, (∀ p ∈ cs, H p.2 = some (.tbl #[])) → OnlyT cs H → SqL K H a (ns.map V.int) → HOk P w H s₁.heap → (∀ b, H b ≠ none → b = a ∨ b ∈ cs.map (·.2)) → (H a ≠ none → K.lookup a = none) →
      codeAny (model P w) callerA (.call (.ref fa) ⟨[.ref a], []⟩) (fun r s' => r = .ok (.ret (.bool true)) ∧ OldK s₁.heap s'.heap ∧ s'.os = s₁.os ∧ AllBare s'.gens) s₁ := by
    intro H hH hO hS hok hA hK
    have free : ∀ {b : Addr} {o : Obj}, s₁.heap.get? b = some o → (∀ v n, o.data ≠ .seq v n) → o.data ≠ .fields #[] → H b = none := by
      intro b o e n1 n2
      cases q : H b with
      | none => rfl
      | some u =>
        rcases hA b (by rw [q]; simp) with rfl | z
        · rw [ha] at e
          cases e
          exact absurd rfl (n1 _ _)
        · rw [tabM b z] at e
          cases e
          exact absurd rfl n2
    have freeD : ∀ {b : Addr} {o : Obj} {es : Array DictEntry} {n : Nat}, s₁.heap.get? b = some o → o.data = .dict es n → H b = none := fun e d =>
      free e (fun v m z => by rw [d] at z; cases z) (fun z => by rw [d] at z; cases z)
    have ns1 : ∀ {b : Addr} {m : Str → Option Value}, s₁.heap.Ns b m → (hidT s₁.heap H).Ns b m := by
      rintro b m ⟨o, es, ep, e, d, r⟩
      exact ⟨o, es, ep, hidT_get e (freeD e d), d, r⟩
    have K1 : K.In (hidT s₁.heap H) := by
      intro b o e
      refine hidT_get (KX b o e) ?_
      cases q : H b with
      | none => rfl
      | some u =>
        rcases hA b (by rw [q]; simp) with rfl | z
        · rw [hK (by rw [q]; simp)] at e
          cases e
        · obtain ⟨p, hp, rfl⟩ := List.mem_map.mp z
          rw [tabN p hp] at e
          cases e
    have md : Mod K mg (hidT s₁.heap H) := by
      obtain ⟨mc, l1, l2⟩ := lim
      exact ⟨K1, ns1 gl, ⟨mb, ns1 bl, bb⟩, mc, ns1 l1, l2⟩
    have TB : ∀ p ∈ cs, TabB (hidT s₁.heap H) mg p.1 p.2 := by
      intro p hp
      refine ⟨?_, ?_, fun z => ?_⟩
      · obtain ⟨o, us, file, tf, flags, tg, inF, text, tt, e1, r1, r2, r3, rest⟩ := cod p hp
        refine ⟨o, us, file, tf, flags, tg, inF, text, tt, hidT_get e1 (free e1 (fun v n z => by rw [r2] at z; cases z) fun z => ?_), r1, r2, r3, rest⟩
        rw [r2] at z
        cases z
        simp at r3
      · obtain ⟨bm, ob, b1, b2, b3, b4, b5, b6⟩ := bmd
        refine ⟨bm, ob, b1, b2, fun z => ?_, fun z => ?_, hidT_get b3 (free b3 (fun v n y => by rw [b6] at y; cases y) fun y => by rw [b6] at y; cases y), b4, b5, b6⟩
        · obtain ⟨o, es, ep, e, d, _⟩ := gl
          rw [z, e] at b3
          cases b3
          rw [d] at b6; cases b6
        · rw [z, tab p hp] at b3
          cases b3
          cases b6
      · obtain ⟨o, es, ep, e, d, _⟩ := gl
        rw [z, tab p hp] at e
        cases e
        cases d
    have e0 : Env0 P w K mg (hidT s₁.heap H) callerA [] s₁ H :=
      { frames := rfl, mod := md, bs := fun b o e => of_hidT e, bsz := Nat.le_of_eq (hidT_size _ _), funs := trivial, frf := fun b hb => (nomatch hb), hok := hok, bare := .of_eq ge }
    have sm1 : SmB (hidT s₁.heap H) := by
      obtain ⟨o, es, n, e, d⟩ := sm
      exact ⟨o, es, n, hidT_get e (freeD e d), d⟩
    refine codeAny_mono ((F _ K1 (ns1 gl) sm1 TB).run callerA [] s₁ H ⟨[.ref a], []⟩ [.ref a] [.ref a] _ _ hr rfl e0 (bd s₁ (.ref a)) (.cons rfl .nil) (hsp H hH hS)) ?_
    rintro r s' h
    cases r with
    | error e =>
      obtain ⟨_, _, _, _, _, _, _, _, _, _, _, _, z⟩ := h
      exact z.elim
    | ok fl => cases fl with
      | ret u =>
        obtain ⟨v, H', os, bare, un, hok', r', q⟩ := h
        obtain rfl : v = .bl true := q
        obtain rfl : u = Value.bool true := r'
        have kept : ∀ b o, b ∉ cs.map (·.2) → s₁.heap.get? b = some o → s'.heap.get? b = some o := fun b o nb e => by
          rcases hO b with z | z | ⟨ob, xs, z⟩
          · exact un.keep b o e z (fun y => (nomatch y)) (fun y => (nomatch y))
          · exact absurd z nb
          · have z2 := un.frzs b ob _ z
            have e1 := (hok b _ z).1
            rw [e] at e1
            cases e1
            exact (hok' b _ z2).1
        have grown : ∀ p ∈ cs, ∃ more : Array Value, s'.heap.get? p.2 = some { cls := .none, data := .fields more } := fun p hp => by
          obtain ⟨more, z⟩ := un.tbls p.2 #[] (hH p hp)
          exact ⟨_, hok' p.2 _ z⟩
        refine ⟨rfl, ⟨fun b o e => ?_, fun b o e => ?_⟩, os, bare⟩
        · by_cases hb : b ∈ cs.map (·.2)
          · obtain ⟨p, hp, rfl⟩ := List.mem_map.mp hb
            obtain ⟨more, hm⟩ := grown p hp
            rw [tab p hp] at e
            cases e
            refine .inr (.inl ⟨((cod p hp).tab (tab p hp)).isCodeTable, rfl, #[], more, rfl, ?_⟩)
            rw [Array.empty_append]; exact hm
          · exact .inl (kept b o hb e)
        · by_cases hb : b ∈ cs.map (·.2)
          · obtain ⟨p, hp, rfl⟩ := List.mem_map.mp hb
            obtain ⟨more, hm⟩ := grown p hp
            exact ⟨_, hm⟩
          · exact ⟨o, kept b o hb e⟩
      | _ => exact h.elim
  let Ht : Hp := fun b => if b ∈ cs.map (·.2) then some (.tbl #[]) else none
  have ht1 : ∀ b, b ∈ cs.map (·.2) → Ht b = some (.tbl #[]) := fun b hb => if_pos hb
  have ht0 : ∀ b, b ∉ cs.map (·.2) → Ht b = none := fun b hb => if_neg hb
  have htok : HOk P w Ht s₁.heap := fun b u z => by
    by_cases hb : b ∈ cs.map (·.2)
    · rw [ht1 b hb] at z
      cases z
      exact tabM b hb
    · rw [ht0 b hb] at z; cases z
  cases hk : K.lookup a with
  | some o =>
    have e := KX a o hk
    rw [ha] at e
    cases e
    refine go Ht (fun p hp => ht1 _ (mem p hp)) (fun b => ?_) (.inr ⟨_, vs.toArray, _, hk, rfl, rfl, rfl, by rw [List.size_toArray, hi.length]; exact hl, by simpa using rv⟩) htok (fun b z => ?_) fun z => absurd (ht0 a ncs) z
    · by_cases hb : b ∈ cs.map (·.2)
      · exact .inr (.inl hb)
      · exact .inl (ht0 b hb)
    · by_cases hb : b ∈ cs.map (·.2)
      · exact .inr hb
      · exact absurd (ht0 b hb) z
  | none =>
    have hta := ht0 a ncs
    refine go (upd Ht a (.frz { cls := .type "list", data := .seq vs.toArray } (.lst (ns.map V.int)))) (fun p hp => ?_) (fun b => ?_) (.inl (.inr ⟨_, upd_same⟩)) (fun b u z => ?_) (fun b z => ?_) fun _ => hk
    · rw [upd_ne (fun y : p.2 = a => ncs (by rw [← y]; exact mem p hp))]; exact ht1 _ (mem p hp)
    · by_cases hb : b = a
      · subst hb; exact .inr (.inr ⟨_, _, upd_same⟩)
      · rw [upd_ne hb]
        by_cases hc : b ∈ cs.map (·.2)
        · exact .inr (.inl hc)
        · exact .inl (ht0 b hc)
    · by_cases hb : b = a
      · subst hb
        rw [upd_same] at z
        cases z
        exact ⟨ha, by rw [List.length_map]; exact hl, vs, _, rv, ha⟩
      · rw [upd_ne hb] at z
        exact (htok b u z).stay (fun _ _ _ q => q) (fun y hy => by rw [upd_ne (ne_of_none hy hta)]; exact hy) (fun y xs hy => by rw [upd_ne (ne_of_none hy hta)]; exact hy)
    · by_cases hb : b = a
      · exact .inl hb
      · rw [upd_ne hb] at z
        by_cases hc : b ∈ cs.map (·.2)
        · exact .inr hc
        · exact absurd (ht0 b hc) z
/-- what the facts of the top give: the law's def with the tables of its makers of lambdas -/
def LawTs (l : PySem.W.OpenLaw) (w : World) (K : PySem.W.Frag) (k n : Nat) (x : Str) (mg : Str → Option Value) (fa : Addr) (h : Heap) : Prop :=
  ∃ (fd : FuncData) (cs : List (Addr × Addr)) (sp : Sp), (∀ p ∈ cs, h.get? p.2 = some { cls := .none, data := .fields #[] }) ∧ (∀ p ∈ cs, K.lookup p.2 = none) ∧ (∀ p ∈ cs, PySem.W.CodeHd h p.1 p.2) ∧ (∀ (s : Shared) (u : Value), BindsTo s fd ⟨[u], []⟩ [(x, u)]) ∧
    (∀ (H : Hp) (a : Addr) (ns : List Int), ns.length ≤ n → (∀ p ∈ cs, H p.2 = some (.tbl #[])) → SqL K H a (ns.map V.int) → sp [.ref a] H (fun v _ => v = .bl true) fun _ _ _ => False) ∧
    ∀ base : Heap, K.In base → base.Ns mainGlobals mg → SmB base → (∀ p ∈ cs, TabB base mg p.1 p.2) → FnG ⟨l.prog, w, K, mg, base⟩ k fa fd [x] sp
/-- the tables of the defs, by their names -/
def TabF (q : Program) (K : PySem.W.Frag) (h : Heap) : Prop := ∀ (x : Str) (d : DefRec) (c P : Addr), (recsOf q).find? (fun e => e.name == x) = some d → PySem.W.tabIn K x = some (c, P) → PySem.W.CodeHd h c P ∧ h.get? P = some { cls := .none, data := .fields #[] }
theorem walkT {l : PySem.W.OpenLaw} {n k : Nat} {q : Program} {loose : List Str} {XP : (Str → Option Value) → Heap → Prop} {YP : World → Heap → Prop} {d : DefRec} {K : Params → PySem.W.Frag} {x : Str}
    (hn : l.most = some n) (hn2 : n ≤ sizeLine) (hdf : d.params.defaults = []) (hr : Room k callerA)
    (hY : ∀ (w : World) (h : Heap), YP w h → (K w.params).In h) (hY2 : ∀ (w : World) (h : Heap), YP w h → SmB h)
    (F : ∀ (w : World) (mg : Str → Option Value) (fa : Addr) (h : Heap), YP w h → (K w.params).In h → h.Ns mainGlobals mg → mg d.name = some (.ref fa) → TabF q (K w.params) h → LawTs l w (K w.params) k n x mg fa h) :
    PySem.W.WalkO q loose XP YP l.row.toRowW d [] (fun f vs => PySem.call f vs) := by
  refine Att.attach_callB hn hdf fun w s₀ s₁ mg mb fa o pm cd doc a vs ns G Y ho hd hcd hmg hobj hints hlen hbits hg => ?_
  obtain ⟨fd, cs, sp, t1, t2, t3, hb, hsp, hF⟩ := F w mg fa _ Y (hY w _ Y) G.T.g hmg fun x d c P h1 h2 => PySem.W.tab_of G.T (hY w _ Y) h1 h2
  exact lawT (hY w _ Y) G.T.g G.T.b G.T.builtins G.T.nolimit hg t1 t2 t3 G.T.bmain hobj hints (Nat.le_trans hlen hn2) hr (hY2 w _ Y) hF hb fun H hH hS => hsp H a ns hlen hH hS
end RS


/-! instances of own classes: o[i], x in o, properties, constants of a class, methods by keywords -/
namespace RS
open PySem PySem.Spec L2 PyProof.Rows ClX
section
variable {g : Wd} {X : Cx} {k : Nat} {C : Addr} {ps : List Str} {sp : Sp} {W : WX} {ds : List V} {p pos apos : Pos} {a b o i : Expr} {ta tb to ti : TE}
/-! ### o[i] -/
def tIxOwn (C : Addr) (sp : Sp) (ds : List V) (W : WX) (to ti : TE) : TE := fun σ H Q => to σ H fun x H1 => ti σ H1 fun y H2 => ∃ q dx fs, x = .ref q ∧ H2 q = some (.ins C dx fs) ∧ sp ([.ref q, y] ++ ds) H2 Q (fun c d H' => W c d σ H')
/-- the method that the class at C has under the name m is a def -/
def FnAtC (K : PySem.W.Frag) (C : Addr) (m : Str) : Prop := ∀ f, PySem.W.findIn K (.ref C) m = some (some (.ref f)) → PySem.W.fnIn K f = true
theorem e_ixOwn (F : Km g C "__getitem__" k ps ds sp) (fi : FnAtC g.K C "__getitem__") (hr : Rm (k + 1) X) (tk : Takes X W) (ho : PE X o to) (hi : PE X i ti)
    (hsl : ∀ x iv, subscripted i true (.ref x) iv = runValue (.builtin "lifetime.subscript" ⟨[.ref x, iv], []⟩) := by intro _ _; with_unfolding_all rfl) (at_ : At g X := by exact ⟨rfl, rfl, rfl, rfl, rfl⟩) : PE X (.Subscript o i pos) (tIxOwn C sp ds W to ti) := by
  obtain ⟨f, fd, dsV, hf, hi', hk, F, hb, rd⟩ := F
  refine ⟨fun pins s σ H Q I h => ?_⟩
  refine Subscript_ (thn (ho.run pins s σ H _ I h) fun u s1 ⟨x, H1, I1, rx, q1⟩ => thn (hi.run pins s1 σ H1 _ I1 q1) fun iv s2 ⟨y, H2, I2, ry, q, dx, fs, ex, ea, hs⟩ => ?_)
  subst ex
  cases rx
  obtain ⟨mA, J, _⟩ := ins_get I2.hok ea
  obtain ⟨od, J, _⟩ := J.look
  obtain ⟨m, hF⟩ := I2.fr
  refine PySem.W.sub_K hF I2.ok.mod.kin J (by rw [at_.K]; exact hf) (by rw [at_.K]; exact fi f hf) (by rw [at_.K]; exact hi') ?_ (hsl _ _)
  exact callB at_ F hr.here.in1 tk hb rd (vs := [.ref q, y]) (us := [.ref q, iv]) I2 (.cons rfl (.cons ry .nil)) hs
/-! ### x in o -/
def tInOwn (C : Addr) (sp : Sp) (ds : List V) (W : WX) (n : Bool) (ta tb : TE) : TE := fun σ H Q => ta σ H fun y H1 => tb σ H1 fun x H2 => ∃ q dx fs, x = .ref q ∧ H2 q = some (.ins C dx fs) ∧
  sp ([.ref q, y] ++ ds) H2 (fun v H' => ∃ c, v = .bl c ∧ Q (.bl (n != c)) H') (fun c d H' => W c d σ H')
theorem c_inOwn (F : Km g C "__contains__" k ps ds sp) (hr : Rm k X) (tk : Takes X W) (ha : PE X a ta) (hb : PE X b tb) (at_ : At g X := by exact ⟨rfl, rfl, rfl, rfl, rfl⟩) : PC X .In a b (tInOwn C sp ds W false ta tb) := by
  obtain ⟨f, fd, dsV, hf, hi, hk, F, hbd, rd⟩ := F
  refine ⟨fun pins s σ H Q I h => ?_⟩
  refine thn (ha.run pins s σ H _ I h) fun iv s1 ⟨y, H1, I1, ry, q1⟩ => thn (hb.run pins s1 σ H1 _ I1 q1) fun u s2 ⟨x, H2, I2, rx, q, dx, fs, ex, ea, hs⟩ => ?_
  subst ex
  cases rx
  obtain ⟨mA, J, _⟩ := ins_get I2.hok ea
  obtain ⟨od, J, _⟩ := J.look
  obtain ⟨m, hF⟩ := I2.fr
  refine PySem.W.in_K hF I2.ok.mod.kin J (by rw [at_.K]; exact hf) (by rw [at_.K]; exact hi) ?_
  refine wpAny_mono (callB at_ F hr.here tk hbd rd (vs := [.ref q, y]) (us := [.ref q, iv]) I2 (.cons rfl (.cons ry .nil)) hs) ?_ fun _ _ z => z
  rintro v s' ⟨z, H', I', rz, c, rfl, hq⟩
  cases rz
  refine wpAny_truthy_bool ?_
  refine ⟨.bl c, H', I', rfl, ?_⟩
  cases c <;> exact hq
/-! ### a constant of a class -/
theorem e_cval {f : Str} {e : Expr} (he : PE X e ta) (hb : attributeBase e f X.env (eval e X.env) = eval e X.env := by rfl) (at_ : At g X := by exact ⟨rfl, rfl, rfl, rfl, rfl⟩) : PE X (.Attribute e f pos) (tCVal g.K ta f) := by
  rw [← at_.K]
  exact pe_cval he hb
/-! ### a property, by its def's promise -/
def Kp (g : Wd) (C : Addr) (n : Str) (k : Nat) (sp : Sp) : Prop := ∃ p gt fd, PropOf g.K C n p gt ∧ FnG g k gt fd ["self"] sp ∧ Binds g.K fd ["self"] []
def tPropG (C : Addr) (sp : Sp) (W : WX) (ta : TE) : TE := fun σ H Q => ta σ H fun x H1 => ∃ q dx fs, x = .ref q ∧ H1 q = some (.ins C dx fs) ∧ sp [.ref q] H1 Q (fun c d H' => W c d σ H')
theorem e_propG {n : Str} {e : Expr} (F : Kp g C n k sp) (c : Cls g.K C) (hr : Rm (k + 1) X) (he : PE X e ta) (hab : attributeBase e n X.env (eval e X.env) = eval e X.env := by rfl) (at_ : At g X := by exact ⟨rfl, rfl, rfl, rfl, rfl⟩) :
    PE X (.Attribute e n pos) (tPropG C sp (fun _ _ _ _ => False) ta) := by
  obtain ⟨p, gt, fd, hp, F, hb⟩ := F
  refine ⟨fun pins s σ H Q I h => attr_of hab (thn (he.run pins s σ H _ I h) fun u s1 ⟨x, H1, I1, rx, q, dx, fs, ex, ea, hs⟩ => ?_)⟩
  subst ex
  obtain rfl : u = Value.ref q := rx
  obtain ⟨P, w, K, mg, base⟩ := g
  obtain ⟨rfl, rfl, rfl, rfl, rfl⟩ := at_
  obtain ⟨mA, O, _, _, _, _⟩ := ins_get I1.hok ea
  obtain ⟨od, J, _⟩ := O.look
  obtain ⟨rest, hrec⟩ := hp.rec_
  have I2 := I1.tok (s1.toks + 1)
  have hc : (PySem.W.clsIn X.K C).isSome = true := by
    obtain ⟨cd, hc, _⟩ := PySem.W.any_some c.hd
    rw [hc]; rfl
  refine PySem.W.get_bind I1.kIn J (PySem.W.plainGet_of (c.get n)).1 (PySem.W.findObj_data hc hp.at_ hp.get hp.tak) (PySem.W.plainGet_of (c.get n)).2 (wpAny_call (PySem.W.prop_get (s := { s1 with toks := s1.toks + 1 }) I1.kIn hrec ?_))
  refine codeAny_mono (F.run X.A.in1 X.stack { s1 with toks := s1.toks + 1 } H1 ⟨[.ref q], []⟩ [.ref q] [.ref q] Q _ hr.room.in1 hr.gd I2.env0.in1 (hb _ [.ref q] I2.kIn rfl) (.cons rfl .nil) hs) fun r s' hq => ?_
  cases r with
  | error er =>
    obtain ⟨_, _, _, _, _, _, _, _, _, _, _, _, z⟩ := hq
    exact z.elim
  | ok fl =>
    cases fl with
    | ret u =>
      obtain ⟨v, H', I3, rv, q3⟩ := I2.after hq
      show wpAny _ _ (handedOut u) _ _ _
      rw [PySem.W.handedOut_of (handed_of rv)]
      exact wpAny_pure ⟨v, H', I3, rv, q3⟩
    | next => exact False.elim hq
    | brk => exact False.elim hq
    | cont => exact False.elim hq
/-! ### o.m(k = v, ..) -/
def Kmk (g : Wd) (C : Addr) (m : Str) (k : Nat) (ps ks : List Str) (pm : List Nat) (dvs : List V) (sp : Sp) : Prop :=
  ∃ f fd dsV, PySem.W.findIn g.K (.ref C) m = some (some (.ref f)) ∧ PySem.W.isFn g.K (.ref f) = true ∧ PySem.W.keepIn g.K (.ref f) = true ∧ FnG g k f fd ps sp ∧ Vals dvs dsV ∧
    ∀ (s : Shared) (y : Value) (ws : List Value), g.K.In s.heap → ws.length = ks.length → BindsTo s fd ⟨[y], ks.zip ws⟩ (ps.zip (y :: (pm.map fun i => ws.getD i .none) ++ dsV))
def tMethK (C : Addr) (m : Str) (n : Nat) (sp : Sp) (pm : List Nat) (dvs : List V) (W : WX) (ta : TE) (t : TA) : TE := fun σ H Q => ta σ H fun x H1 => ∃ q dx fs, x = .ref q ∧ H1 q = some (.ins C dx fs) ∧ fs.lookup m = none ∧
  t σ H1 fun zs H2 => zs.length = n ∧ sp (.ref q :: (pm.map fun i => zs.getD i .non) ++ dvs) H2 Q (fun c d H' => W c d σ H')
theorem pe_methK {m : Str} {ks : List Str} {pm : List Nat} {dvs : List V} {kws : List Keyword} {t : TA} {pl : Sem Bool} (he : PE X o ta) (c : Cls g.K C) (F : Kmk g C m k ps ks pm dvs sp) (hr : Rm k X) (tk : Takes X W) (hkw : PK X kws t)
    (hall : (backToKw pos (keywordEach kws X.env)).all (·.1.isSome) = true := by rfl) (hks : (backToKw pos (keywordEach kws X.env)).filterMap (·.1) = ks := by rfl)
    (hpl : ((backTo pos (starEach [] X.env)).any (·.1) || (backToKw pos (keywordEach kws X.env)).any (·.1.isNone)) = false := by rfl)
    (ht : eval (.Call (.Attribute o m apos) [] kws pos) X.env = (do
      let ov ← eval o X.env
      standAt apos.atName
      let (f, first) ← holding [ov] (getMethod ov m pl)
      callWith pos f first (backTo pos (starEach [] X.env)) (backToKw pos (keywordEach kws X.env))) := by rfl) (at_ : At g X := by exact ⟨rfl, rfl, rfl, rfl, rfl⟩) :
    PE X (.Call (.Attribute o m apos) [] kws pos) (tMethK C m ks.length sp pm dvs W ta t) := by
  obtain ⟨f, fd, dsV, hf, hi, hk, F, rd, hb⟩ := F
  refine ⟨fun pins s σ H Q I h => PySem.W.methodCall_KW (pl := pl) (thn (he.run pins s σ H _ I h) ?_) ht⟩
  rintro u s1 ⟨x, H1, I1, rx, q, dx, fs, rfl, ea, l, h1⟩
  obtain rfl : u = Value.ref q := rx
  refine getmeth_ok I1 ea (by rw [at_.K]; exact c) (g := f) (by rw [at_.K]; exact ⟨hf, hi, hk⟩) l ?_
  refine PySem.W.callWith_KW0 (first := [.ref q]) (h₀ := X.base) I.ok.mod.kin (by rw [at_.K]; exact hk) hall (thn (hkw.run pos pins s1 σ H1 _ I1 h1) ?_) hpl
  rintro ws s2 ⟨zs, H2, I2, rz, lz, q2⟩
  refine ⟨I2.kIn, ?_⟩
  rw [hks]
  have rr : Vals (.ref q :: (pm.map fun i => zs.getD i .non) ++ dvs) (.ref q :: (pm.map fun i => ws.getD i .none) ++ dsV) := Vals.append (.cons rfl (vals_pm rz pm)) rd
  refine wpAny_call (codeAny_mono (runG at_ F hr tk I2 (hb s2 (.ref q) ws (at_.K ▸ I2.kIn) (by rw [← rz.length]; exact lz)) rr q2) fun res s' hq => ?_)
  cases res with
  | error e => exact hq
  | ok fl => cases fl with
    | ret u => exact hq
    | _ => exact hq.elim
end
end RS


/-! for .. in ..: within a generator def -/
namespace RS
open PySem PySem.Spec L2 PyProof.Rows GenW
/-- for x in e: .., in a generator: W by the turn, a measure, what is out, the slots and the heap -/
def tGFor (wi : TI) (gt : TG) (tb : TGn) : TGn := fun D ys σ H => wi σ H fun J H1 => ∃ W : Nat → Nat → List V → L2.St → Hp → Prop, (∃ m, W 0 m ys σ H1) ∧ ∀ i m ys σ H, W i m ys σ H →
  (J.stop i H ∧ D.nx ys σ H) ∨ (J.go i H ∧ ∃ N : List V → L2.St → Hp → Prop, (∀ ys' σ' H', N ys' σ' H' → ∃ m', m' < m ∧ W (i + 1) m' ys' σ' H') ∧ ∀ x H', J.yld i H x H' → gt x σ H' fun σ2 H2 => tb { D with nx := N, ct := N, bk := D.nx } ys σ2 H2)
section
variable {X : Cx} {tg iter : Expr} {body : List Stmt} {pos : Pos} {wi : TI} {gt : TG} {tb : TGn}
abbrev segE (env : Env) (x : Value) : Sem PySem.Fin := (do noteFrame x env; theTreesLotGoes x : Sem Unit).wrap (fun _ => .raise x) .raise id id
/-- one turn of a for loop within a generator -/
theorem seg_forLoop {prog : Program} {w : World} {A : Around} {R : GenEnd} {Y : Protocol} {n : Nat} {s₀ s : Shared} {fs : List Frame} {env : Env} {it : Value}
    (h : wpAny (model prog w) (A.over (.forLoop tg it body [] env) fs) (pyNext it) (fun r s1 => match r with
      | none => Seg (model prog w) A R Y n s₀ (.forLoop tg it body [] env) (.pure (.again (.block [] env))) fs s1
      | some v => wpAny (model prog w) (A.over (.forLoop tg it body [] env) fs) (letOwnedTupleGo tg it v) (fun _ s2 => wpAny (model prog w) (A.over (.forLoop tg it body [] env) fs) (assign tg env v) (fun _ s3 =>
          ∀ (K : Flow → Sem PySem.Fin) (J : Value → Sem PySem.Fin) (gd : Bool → Bool) (lv : List Value → List Value), gd false = false → K .next = .pure (.again (.forLoop tg it body [] env)) → K .cont = .pure (.again (.forLoop tg it body [] env)) → K .brk = .pure (.done .next) → (∀ u, K (.ret u) = .pure (.done (.ret u))) → (∀ x, J x = segE env x) →
            Seg (model prog w) A R Y n s₀ (.forLoop tg it body [] env) ((execs body env).wrap K J gd lv) fs s3)
          (fun x s' => Seg (model prog w) A R Y n s₀ (.forLoop tg it body [] env) (segE env x) fs s') s2) (fun x s' => Seg (model prog w) A R Y n s₀ (.forLoop tg it body [] env) (segE env x) fs s') s1)
      (fun x s' => Seg (model prog w) A R Y n s₀ (.forLoop tg it body [] env) (segE env x) fs s') s) :
    Seg (model prog w) A R Y n s₀ (.forLoop tg it body [] env) ((model prog w).den (.forLoop tg it body [] env)) fs s := by
  have ex : ∀ x : Value, ((do noteFrame x env; theTreesLotGoes x : Sem Unit).bind fun _ => (.raise x : Sem PySem.Fin)) = segE env x := fun x => Sem.bind_eq_wrap _ _
  show Seg _ A R Y n s₀ _ ((forTurn tg it body [] env).onRaise (fun x => do noteFrame x env; theTreesLotGoes x)) fs s
  rw [Sem.onRaise_eq_wrap]
  unfold forTurn
  rw [Sem.bind_eq_wrap', Sem.wrap_wrap]
  refine seg_wrap (wpAny_standAt ?_)
  rw [Sem.bind_eq_wrap', Sem.wrap_wrap]
  refine seg_wrap (wpAny_onRaise (wpAny_mono h (fun r s1 h1 => ?_) fun x s1 hx => wpAny_standAt ?_))
  · cases r with
    | none => exact h1
    | some v =>
      show Seg _ A R Y n s₀ _ (Sem.wrap _ _ _ _ (letOwnedTupleGo tg it v >>= _)) fs s1
      rw [Sem.bind_eq_wrap', Sem.wrap_wrap]
      refine seg_wrap (wpAny_mono h1 (fun _ s2 h2 => ?_) fun x s2 hx => ?_)
      · show Seg _ A R Y n s₀ _ (Sem.wrap _ _ _ _ (assign tg env v >>= _)) fs s2
        rw [Sem.bind_eq_wrap', Sem.wrap_wrap]
        refine seg_wrap (wpAny_mono h2 (fun _ s3 h3 => ?_) fun x s3 hx => ?_)
        · show Seg _ A R Y n s₀ _ (Sem.wrap _ _ _ _ (execs body env >>= _)) fs s3
          rw [Sem.bind_eq_wrap', Sem.wrap_wrap]
          exact h3 _ _ _ _ rfl rfl rfl rfl (fun _ => rfl) (fun x => ex x)
        · show Seg _ A R Y n s₀ _ ((do noteFrame x env; theTreesLotGoes x : Sem Unit).bind fun _ => .raise x) fs s3
          rw [ex]; exact hx
      · show Seg _ A R Y n s₀ _ ((do noteFrame x env; theTreesLotGoes x : Sem Unit).bind fun _ => .raise x) fs s2
        rw [ex]; exact hx
  · show Seg _ A R Y n s₀ _ ((do noteFrame x env; theTreesLotGoes x : Sem Unit).bind fun _ => .raise x) fs s1
    rw [ex]; exact hx
theorem gs_for (hp : PassesOwn (model X.prog X.w) X.A X.env X.xe) (hc : X.calm = true) (hi : PI X tg iter wi) (hg : PG X tg gt) (hb : GSs X body tb) (hs : ∀ x, foldedSetIterable iter X.env x = pure x := by intro _; rfl) : GS X (.For tg iter body [] pos) (tGFor wi gt tb) := by
  refine ⟨fun A S ip R n ys s₀ c fs K J gd lv s σ H D g hn k hI ht => ?_⟩
  obtain ⟨acc, cc, r, I⟩ := hI
  rw [exec_For]
  rw [Sem.bind_eq_wrap', Sem.wrap_wrap]
  refine seg_wrap (wpAny_standAt ?_)
  show Seg _ A R _ n s₀ c (Sem.wrap K J gd lv (eval iter X.env >>= _)) fs s
  rw [Sem.bind_eq_wrap', Sem.wrap_wrap]
  refine seg_wrap ?_
  rw [g.over]
  refine wpAny_mono (hi.run _ s σ H _ I ht) (fun v s1 h1 => ?_) fun x s1 hx => k.exc n s₀ x s1 hx
  show Seg _ A R _ n s₀ c (Sem.wrap K J gd lv (foldedSetIterable iter X.env v >>= _)) fs s1
  rw [hs v]
  show Seg _ A R _ n s₀ c (Sem.wrap K J gd lv (standAt iter.pos >>= _)) fs s1
  rw [Sem.bind_eq_wrap', Sem.wrap_wrap]
  refine seg_wrap (wpAny_standAt ?_)
  show Seg _ A R _ n s₀ c (Sem.wrap K J gd lv (holding [v] (pyIter v) >>= _)) fs s1
  rw [Sem.bind_eq_wrap', Sem.wrap_wrap]
  refine seg_wrap ?_
  rw [g.over]
  refine wpAny_holding (wpAny_mono h1 (fun itv s2 h2 => ?_) fun x s2 hx => k.exc n s₀ x s2 hx)
  obtain ⟨it, fp, tn, It0, H2, e, I2, T, st2, f2, W, ⟨m0, w0⟩, turn⟩ := h2
  subst e
  show Seg _ A R _ n s₀ c (Sem.wrap K J gd lv (runOwn (.forLoop tg (.ref it) body [] X.env) X.env)) fs s2
  refine seg_call fun p => ?_
  have gl := fun (kk : Result → Sem PySem.Fin) => gc_loop (k := kk) (c' := .forLoop tg (.ref it) body [] X.env) (l := lv []) (kp := []) (p := p) g rfl rfl
  have stat : ∀ {H' : Hp} {o : Obj}, (∀ b ∈ fp, H' b = none) → ∀ b ∈ fp, FpOk X ((S, o) :: ip) H' b := fun {H' o} hn b hb => by
    obtain ⟨_, a1, a2, a3, a4, a5⟩ := f2 b hb
    refine ⟨hn b hb, a1, a2, a3, a4, fun q hq => ?_⟩
    rcases List.mem_append.mp hq with z | z
    · exact a5 q (List.mem_append_left _ z)
    · rcases List.mem_cons.mp z with z | z
      · rw [z]; exact a5 (S, lstObj acc cc) (List.mem_append_right _ (List.mem_cons_self ..))
      · exact a5 q (List.mem_append_right _ (List.mem_cons_of_mem _ z))
  have loop : ∀ (m i n : Nat) (ys : List V) (s₀ s : Shared) (σ : L2.St) (H : Hp), n + ys.length = sizeLine → W i m ys σ H → GI X S ip ys σ H s → tn i s.heap → (∀ b ∈ fp, H b = none) →
      Seg (model X.prog X.w) A R (GY X S) n s₀ (.forLoop tg (.ref it) body [] X.env) ((model X.prog X.w).den (.forLoop tg (.ref it) body [] X.env))
        (.ret (fun r => ((match r with | .ok f => (.pure f : Sem Flow) | .error e => .raise e).onRaise (cameBack X.env)).wrap K J gd lv) none (gd false) (lv []) c p [] :: fs) s := by
    intro m
    induction m using Nat.strongRecOn with
    | ind m ih =>
      intro i n ys s₀ s σ H hn w hI st fr
      have ee : ∀ (n : Nat) (s₀ : Shared) (x : Value) (s' : Shared), X.xe x s' → Seg (model X.prog X.w) A R (GY X S) n s₀ (.forLoop tg (.ref it) body [] X.env) (segE X.env x)
          (.ret (fun r => ((match r with | .ok f => (.pure f : Sem Flow) | .error e => .raise e).onRaise (cameBack X.env)).wrap K J gd lv) none (gd false) (lv []) c p [] :: fs) s' := fun n s₀ x s' hx => by
        refine seg_wrap ?_
        rw [(gl _).over]
        refine wpAny_bind (wpAny_mono (hp x s' hx) (fun _ s'' hcb => wpAny_theTreesLotGoes ?_) fun y s'' hcb => ?_)
        · exact seg_leaf (.error x) (seg_cameBack g k hcb)
        · exact seg_leaf (.error y) (seg_cameBack g k hcb)
      refine seg_forLoop ?_
      rw [(gl _).over]
      obtain ⟨acc, cc, r, I⟩ := hI
      rcases turn i m ys σ H w with ⟨stop, qn⟩ | ⟨go, N, hN, step⟩
      · refine wpAny_mono (T.done X rfl rfl rfl hc i _ s σ H _ I (stat fr) st stop) (fun rr s4 ⟨hr, I4⟩ => ?_) fun _ _ z => z
        subst hr
        refine seg_again rfl ?_
        refine seg_leaf (.ok .next) ?_
        exact k.ok n ys s₀ s4 .next hn ⟨σ, H, ⟨acc, cc, r, I4⟩, qn⟩
      · refine wpAny_mono (T.item X rfl rfl rfl hc i _ s σ H _ I (stat fr) st go) (fun rr s4 ⟨u, hr, h4⟩ => ?_) fun _ _ z => z
        subst hr
        refine wpAny_mono h4 (fun _ s5 ⟨x, H5, I5, r5, y5, st5, fr5⟩ => ?_) fun _ _ z => z
        have I5' := I5.pinned (stat fr5) (T.obj _ _ st5)
        refine wpAny_mono (hg.run _ s5 σ H5 x u _ I5' r5 (step x H5 y5)) (fun _ s6 ⟨σ6, H6, I6, q6⟩ => ?_) fun x s6 hx => ee n s₀ x s6 hx
        intro K1 J1 gd1 lv1 e1 e2 e3 e4 e5 e6
        have G1 : GC X S (ip ++ pinsAt fp s5.heap) A (.forLoop tg (.ref it) body [] X.env) (.ret (fun r => ((match r with | .ok f => (.pure f : Sem Flow) | .error e => .raise e).onRaise (cameBack X.env)).wrap K J gd lv) none (gd false) (lv []) c p [] :: fs) gd1 :=
          { pn := g.pn
            ip := fun q hq => by
              rcases List.mem_append.mp hq with z | z
              · exact g.ip q z
              · obtain ⟨hb', _⟩ := of_pinsAt z
                exact Ne.symm ((stat (o := lstObj acc cc) fr5 q.1 hb').2.2.2.2.2 (S, lstObj acc cc) (List.mem_append_right _ (List.mem_cons_self ..)))
            apart := g.apart
            over := (gl _).over
            split := (gl _).split
            guard := (gl _).guard
            gd := e1 }
        refine hb.run A S (ip ++ pinsAt fp s5.heap) R n ys s₀ _ _ K1 J1 gd1 lv1 s6 σ6 H6 { D with nx := N, ct := N, bk := D.nx } G1 hn ⟨fun n' ys' s₀' s7 f hn' hs' => ?_, fun n' s₀' x s7 hx => by rw [e6]; exact ee n' s₀' x s7 hx⟩ ⟨acc, cc, r, I6⟩ q6
        have back : ∀ {σ7 : L2.St} {H7 : Hp}, GI X S (ip ++ pinsAt fp s5.heap) ys' σ7 H7 s7 → GI X S ip ys' σ7 H7 s7 := fun {σ7 H7} ⟨a7, c7, r7, I7⟩ => ⟨a7, c7, r7, I7.pins_of fun q hq => I7.pin q (List.mem_append_right _ (by
          rcases List.mem_cons.mp hq with z | z
          · rw [z]; exact List.mem_cons_self ..
          · exact List.mem_cons_of_mem _ (List.mem_append_left _ z)))⟩
        have again_ : ∀ {σ7 : L2.St} {H7 : Hp}, GI X S (ip ++ pinsAt fp s5.heap) ys' σ7 H7 s7 → N ys' σ7 H7 → Seg (model X.prog X.w) A R (GY X S) n' s₀' (.forLoop tg (.ref it) body [] X.env) (.pure (.again (.forLoop tg (.ref it) body [] X.env))) (.ret (fun r => ((match r with | .ok f => (.pure f : Sem Flow) | .error e => .raise e).onRaise (cameBack X.env)).wrap K J gd lv) none (gd false) (lv []) c p [] :: fs) s7 := fun {σ7 H7} I7 n7 => by
          obtain ⟨m', hm, w7⟩ := hN ys' σ7 H7 n7
          have pin : ∀ b ∈ fp, ∀ o, s5.heap.get? b = some o → s7.heap.get? b = some o ∧ H7 b = none := fun b hb' o e => by
            obtain ⟨a7, c7, r7, J7⟩ := I7
            obtain ⟨z1, z2, _⟩ := J7.pin (b, o) (List.mem_append_right _ (List.mem_cons_of_mem _ (List.mem_append_right _ (mem_pinsAt hb' e))))
            exact ⟨z1, z2⟩
          refine seg_again rfl (ih m' hm (i + 1) n' ys' s₀' s7 σ7 H7 hn' w7 (back I7) (T.keep _ _ _ st5 fun b hb' o e => (pin b hb' o e).1) fun b hb' => ?_)
          obtain ⟨o, e, d⟩ := T.obj _ _ st5 b hb'
          exact (pin b hb' o e).2
        cases f with
        | next =>
          obtain ⟨σ7, H7, I7, n7⟩ := hs'
          rw [e2]
          exact again_ I7 n7
        | cont =>
          obtain ⟨σ7, H7, I7, n7⟩ := hs'
          rw [e3]
          exact again_ I7 n7
        | brk =>
          obtain ⟨σ7, H7, I7, n7⟩ := hs'
          rw [e4]
          exact seg_leaf (.ok .next) (k.ok n' ys' s₀' s7 .next hn' ⟨σ7, H7, back I7, n7⟩)
        | ret v =>
          obtain ⟨x7, σ7, H7, I7, r7, n7⟩ := hs'
          rw [e5]
          exact seg_leaf (.ok (.ret v)) (k.ok n' ys' s₀' s7 (.ret v) hn' ⟨x7, σ7, H7, back I7, r7, n7⟩)
  exact loop m0 0 n ys s₀ s2 σ H2 hn w0 ⟨acc, cc, r, I2⟩ st2 fun b hb' => (f2 b hb').1
end
end RS


/-! defs that make lambdas; frames of what stays -/
namespace RS
open PySem PySem.Spec L2 PyProof.Rows LamX
/-- a def of the text whose code object stands at c -/
structure DfC (K : PySem.W.Frag) (x qual : Str) (st : Stmt) (f : Addr) (fd : FuncData) (c : Addr) : Prop where
  ex : ∃ (oc : Value) (od : Option Addr) (kV doc pm : Value) (an : Option Addr) (ct : Value) (osl : Array (Option Value)),
    fd = PySem.W.fnOf x qual (defArgs st) (defBody st) (defScope st) .none kV doc pm an (.ref c) ct ∧ K.lookup f = some ⟨oc, od, .func fd, osl⟩ ∧ PySem.W.codeIn K (.ref c) qual = true
  kp : PySem.W.keepIn K (.ref f) = true
theorem DfC.df {K : PySem.W.Frag} {x qual : Str} {st : Stmt} {f : Addr} {fd : FuncData} {c : Addr} (F : DfC K x qual st f fd c) : Df K x qual st f fd .none := by
  obtain ⟨oc, od, kV, doc, pm, an, ct, osl, e, l, h⟩ := F.ex
  exact ⟨⟨oc, od, kV, doc, pm, an, .ref c, ct, osl, e, l, h⟩, F.kp⟩
theorem DfC.ok {g : Wd} {x qual : Str} {st : Stmt} {f : Addr} {fd : FuncData} {c : Addr} {N ps : List Str} {k : Nat} {sp : Sp} (F : DfC g.K x qual st f fd c) (S : FnScope N ps (defScope st))
    (len : ∀ vs H Q E, sp vs H Q E → vs.length = ps.length)
    (hbody : ∀ (A : Around) (outer : List Env) (s : Shared) (H : Hp) (vs : List V) (Q : VK) (E : XK), Rm k (cx g N qual st f (.ref c) A outer s H E) → sp vs H Q E →
      ∃ t, PSs (cx g N qual st f (.ref c) A outer s H E) (defBody st) t ∧ t { nx := fun _ H' => Q .non H', rt := Q } (start N vs) H) : FnG g (k + 1) f fd ps sp := by
  obtain ⟨oc, od, kV, doc, pm, an, ct, osl, rfl, lk, hcd⟩ := F.ex
  refine ⟨len, fun A outer s H args us vs Q E hr hg e0 hb rv hsp => ?_⟩
  exact run_ofS (CX := L2.CX g.P g.w) lk hcd S hr e0 hb rv (len _ _ _ _ hsp) fun hr' => hbody A outer s H vs Q E ⟨hr', hg⟩ hsp
/-- what is known of the tables: T tells them all; c: the code object of the def qual, P its table -/
structure LamT (g : Wd) (T : List (Addr × Str)) (c P : Addr) (qual : Str) : Prop where
  tb : TabB g.base g.mg c P
  mem : (P, (qual ++ ".<locals>.") ++ "<lambda>") ∈ T
  uni : ∀ p ∈ T, p.1 = P → p.2 = (qual ++ ".<locals>.") ++ "<lambda>"
/-- but for the places fp and the tables all stays -/
def FrT (fp : List Addr) (H H' : Hp) : Prop := ∀ b o, b ∉ fp → (∀ ps, o ≠ .tbl ps) → H b = some o → H' b = some o
theorem FrT.refl {fp : List Addr} (H : Hp) : FrT fp H H := fun _ _ _ _ h => h
theorem FrT.trans {fp : List Addr} {H H1 H2 : Hp} (a : FrT fp H H1) (b : FrT fp H1 H2) : FrT fp H H2 := fun c o n t h => b c o n t (a c o n t h)
theorem FrT.of {fp : List Addr} {H H' : Hp} (s : Same H H') : FrT fp H H' := fun c o _ _ h => s c o h
theorem FrT.ofN {fp : List Addr} {H H' : Hp} (s : ExtN H H') : FrT fp H H' := fun c o _ t h => s c o h t
theorem FrT.sub {fp fq : List Addr} {H H' : Hp} (a : FrT fp H H') (h : ∀ c ∈ fp, c ∈ fq ∨ H c = none) : FrT fq H H' := fun c o n t e => a c o (fun z => (h c z).elim n (fun y => by rw [y] at e; cases e)) t e
/-- but for the places fp all stays -/
def Fr1 (fp : List Addr) (H H' : Hp) : Prop := ∀ b o, b ∉ fp → H b = some o → H' b = some o
theorem Fr1.refl {fp : List Addr} (H : Hp) : Fr1 fp H H := fun _ _ _ h => h
theorem Fr1.trans {fp : List Addr} {H H1 H2 : Hp} (a : Fr1 fp H H1) (b : Fr1 fp H1 H2) : Fr1 fp H H2 := fun c o n h => b c o n (a c o n h)
theorem Fr1.of {fp : List Addr} {H H' : Hp} (s : Same H H') : Fr1 fp H H' := fun c o _ h => s c o h
theorem Fr1.sub {fp fq : List Addr} {H H' : Hp} (a : Fr1 fp H H') (h : ∀ c ∈ fp, c ∈ fq ∨ H c = none) : Fr1 fq H H' := fun c o n e => a c o (fun z => (h c z).elim n (fun y => by rw [y] at e; cases e)) e
theorem Fr1.t {fp : List Addr} {H H' : Hp} (a : Fr1 fp H H') : FrT fp H H' := fun c o n _ h => a c o n h
theorem Fr1.upd {fp : List Addr} {H : Hp} {a : Addr} {o : HO} (h : a ∈ fp) : Fr1 fp H (L2.upd H a o) := fun c u n e => by rw [upd_ne (fun z : c = a => n (by rw [z]; exact h))]; exact e
/-- the tables stand where only other things change -/
theorem Tabs.fr {T : List (Addr × Str)} {fp : List Addr} {H H' : Hp} (t : Tabs T H) (n : ∀ c ∈ fp, ∀ o, H c = some o → (∀ ps, o ≠ .tbl ps) ∧ ∀ φ, o ≠ .ext φ) (f : Fr1 fp H H') : Tabs T H' := fun p hp => by
  obtain ⟨ps, h1, h2, h3⟩ := t p hp
  have k : ∀ c o, H c = some o → ((∃ ps, o = .tbl ps) ∨ ∃ φ, o = .ext φ) → H' c = some o := fun c o e z => f c o (fun m => by
    have := n c m o e
    rcases z with ⟨ps, z⟩ | ⟨φ, z⟩
    · exact this.1 ps z
    · exact this.2 φ z) e
  refine ⟨ps, k _ _ h1 (.inl ⟨_, rfl⟩), h2, fun pos cv hc => ?_⟩
  obtain ⟨c, e1, e2⟩ := h3 pos cv hc
  exact ⟨c, e1, k _ _ e2 (.inr ⟨_, rfl⟩)⟩
theorem Tabs.same {T : List (Addr × Str)} {H H' : Hp} (t : Tabs T H) (s : Same H H') : Tabs T H' := t.ext s
section
variable {g : Wd} {k : Nat} {N ps : List Str} {x qual : Str} {st : Stmt} {f c P : Addr} {A : Around} {outer : List Env} {s : Shared} {H : Hp} {E : XK} {T : List (Addr × Str)} {TT : Addr → Str → (XK → Hp → VK → Prop) → Hp → VK → Prop}
  {params : Arguments} {body : Expr} {scope : Scope} {t : XK → TE} {p lpos pos : Pos}
/-- x(lambda: body), in a def that is walked -/
theorem pe_lam (F : Told g (k + 1) x TT) (L : LamT g T c P qual) (hr : Rm (k + 2) (cx g N qual st f (.ref c) A outer s H E)) (LS : lamSB (defScope st) scope = true)
    (hbody : ∀ (A' : Around) (outer' : List Env) (s' : Shared) (H' : Hp) (E' : XK) (f' c' : Addr), Rm k (lamCx (cx g N qual st f (.ref c) A outer s H E) A' outer' s' H' E' scope f' c') → PE (lamCx (cx g N qual st f (.ref c) A outer s H E) A' outer' s' H' E' scope f' c') body (t E'))
    (hdef : defaultsOf params (cx g N qual st f (.ref c) A outer s H E).env = ([], []) := by rfl)
    (hbind : ∀ (q : Str) (cl : List (Str × Addr)) (pm cv ctv : Value), bindArgs (PySem.W.kla_fn "<lambda>" q params body scope cl pm cv ctv) ⟨[], []⟩ = pure [] := by intro _ _ _ _ _; rfl)
    (hg : Gl (cx g N qual st f (.ref c) A outer s H E) x := by rfl) (hdb : (x == ("__debug__" : Str)) = false := by decide) :
    PE (cx g N qual st f (.ref c) A outer s H E) (.Call (.Name x p) [.Lambda params body scope lpos] [] pos) (tLamG T TT ((qual ++ ".<locals>.") ++ "<lambda>") t) :=
  pe_lamG F hr L.tb rfl L.mem L.uni (lamS_by LS) hdef hbind hbody hg hdb
end
/-- what a lambda's body may raise into -/
theorem takesL {X : Cx} {A : Around} {outer : List Env} {s : Shared} {H : Hp} {E : XK} {scope : Scope} {f c' : Addr} : Takes (lamCx X A outer s H E scope f c') (fun cls d _ H' => E cls d H') := by
  intro u s' x
  exact XE.leave (X := lamCx X A outer s H E scope f c') (E := E) rfl rfl rfl (fun _ _ _ _ h => h) x
end RS


/-! rules with K told; list(o.m()) of a generator method -/
namespace RS
open PySem PySem.Spec L2 PyProof.Rows
section
variable {g : Wd} {X : Cx} {K : PySem.W.Frag} {C : Addr} {e o i f value : Expr} {ta te tv td ty tx : TE} {p pos apos cpos tpos : Pos} {k : Nat}
theorem e_revL {j : Nat} {p1 p2 p3 : Pos} (he : PE X e te) (hK : X.K = K := by rfl) : PE X (.Subscript e (.Slice none none (some (.UnaryOp .USub (.Constant (.int 1) j p1) p2)) p3) pos) (tRevL K te) := by subst hK; exact pe_revL he
theorem s_fldaug {op : Operator} {rd : V → V → Hp → VK → Prop} {fl : Str} (ha : PE X o ta) (hv : PE X value tv) (hop : InOp X op rd) (hK : X.K = K := by rfl) : PS X (.AugAssign (.Attribute o fl tpos) op value pos) (sFldAug K ta tv rd fl) := by subst hK; exact ps_fldaug ha hv hop
theorem c_sortedI (hK : X.K = K := by rfl) : CallR X (.builtin "sorted") (rSortedI K) := by subst hK; exact cr_sortedI
theorem c_max (hK : X.K = K := by rfl) (hc : X.calm = true := by rfl) : CallR X (.builtin "max") (rMax K) := by subst hK; exact cr_max hc
theorem e_get2 (hu : X.A.units + 1 < cLine) (ho : PE X o td) (he : PE X e ty) (hf : PE X f tx) (m : M2 X o "get" apos e f cpos := by exact ⟨rfl, rfl, rfl, rfl⟩) : PE X (.Call (.Attribute o "get" apos) [e, f] [] cpos) (tDGet2 td ty tx) := pe_dget2 hu ho he hf m
theorem e_pop2 (ho : PE X o td) (he : PE X e ty) (hf : PE X f tx) (m : M2 X o "pop" apos e f cpos := by exact ⟨rfl, rfl, rfl, rfl⟩) : PE X (.Call (.Attribute o "pop" apos) [e, f] [] cpos) (tDPop2 td ty tx) := pe_dpop2 ho he hf m
/-- the class at C has a generator method m without further parameters -/
def Kg (g : Wd) (C : Addr) (m : Str) (k : Nat) (sp : SpG) : Prop := ∃ f fd, PySem.W.findIn g.K (.ref C) m = some (some (.ref f)) ∧ PySem.W.isFn g.K (.ref f) = true ∧ PySem.W.keepIn g.K (.ref f) = true ∧ GFn g.P g.w g.K g.mg g.base k f fd ["self"] sp ∧ Binds g.K fd ["self"] []
def tListGen (C : Addr) (m : Str) (sp : SpG) (ta : TE) : TE := fun σ H Q => ta σ H fun x H1 => ∃ a dx fs, x = .ref a ∧ H1 a = some (.ins C dx fs) ∧ fs.lookup m = none ∧ sp [.ref a] H1 (fun out H2 => ∀ p, H2 p = none → Q (.ref p) (upd H2 p (.lst out))) (fun _ _ _ => False)
theorem e_listGen {m : Str} {sp : SpG} {pl : Sem Bool} (F : Kg g C m k sp) (c : Cls g.K C) (hr : Rm (k + 3) X) (hmg : X.mg "list" = none) (he : PE X o ta) (hg : Gl X "list" := by rfl)
    (hst : starEach [Expr.Call (.Attribute o m apos) [] [] cpos] X.env = (false, eval (.Call (.Attribute o m apos) [] [] cpos) X.env) :: starEach [] X.env := by rfl)
    (ht : eval (.Call (.Attribute o m apos) [] [] cpos) X.env = (do
      let ov ← eval o X.env
      standAt apos.atName
      let (f, first) ← holding [ov] (getMethod ov m pl)
      callWith cpos f first (backTo cpos (starEach [] X.env)) (backToKw cpos (keywordEach [] X.env))) := by rfl) (at_ : At g X := by exact ⟨rfl, rfl, rfl, rfl, rfl⟩) :
    PE X (.Call (.Name "list" p) [.Call (.Attribute o m apos) [] [] cpos] [] pos) (tListGen C m sp ta) := by
  obtain ⟨fa, fd, h1, h2, h3, F, hb⟩ := F
  obtain ⟨P, w, K, mg, base⟩ := g
  obtain ⟨rfl, rfl, rfl, rfl, rfl⟩ := at_
  have G := pgen_meth0 (pl := pl) (E := fun _ _ _ => False) (dvs := []) he c ⟨h1, h2, h3⟩ F (hr.room.mono (by omega)) hb .nil ht
  have R := pe_listG (p := p) (pos := pos) (nm := "list") G (fun _ _ _ _ _ _ _ z => by obtain ⟨_, _, _, _, _, _, _, _, _, _, _, _, z⟩ := z; exact z.elim) (fun _ _ _ z => z.elim) hr.room hg hmg (by decide +kernel) (by decide) (by decide) hst
  refine ⟨fun pins s σ H Q I h => R.run pins s σ H Q I ?_⟩
  unfold tListGen at h
  unfold tListG L2.tMethG
  refine cast (congrArg (ta σ H) ?_) h
  funext x H1
  refine propext ⟨?_, ?_⟩
  · rintro ⟨a, dx, fs, rfl, z⟩
    exact ⟨a, dx, fs, rfl, z⟩
  · rintro ⟨a, dx, fs, rfl, z⟩
    exact ⟨a, dx, fs, rfl, z⟩
end
end RS
namespace RS
open PySem PySem.Spec L2 PyProof.Rows
section
variable {X : Cx} {k : Nat}
/-- d != {} -/
def rNeD0 : R2 := fun x y H Q => ∃ a b ks, x = .ref a ∧ y = .ref b ∧ H a = some (.dK ks) ∧ H b = some (.dK []) ∧ Q (.bl (!ks.isEmpty)) H
theorem op_neD0 (hr : Rm k X) : OpR X (compareOp .NotEq) rNeD0 := by
  intro pins s σ H x y v u Q I rx ry h
  obtain ⟨a, b, ks, rfl, rfl, ea, eb, q⟩ := h
  obtain rfl : v = Value.ref a := rx
  obtain rfl : u = Value.ref b := ry
  obtain ⟨_, ya, va, ra, da⟩ := (show ObjOk X.prog X.w H s.heap a (.dK ks) from I.hok a _ ea)
  obtain ⟨_, yb, vb, rb, db⟩ := (show ObjOk X.prog X.w H s.heap b (.dK []) from I.hok b _ eb)
  have l1 := ra.length
  have l2 := rb.length
  have hu : X.A.units < cLine := by have := hr.room.un; omega
  have vb0 : vb = [] := List.eq_nil_of_length_eq_zero (by simpa using l2.symm)
  subst vb0
  refine PySem.W.keq_ne (knd := mixKind X.prog X.w) (r := true) ya yb da db hu (fun e => ?_) (fin_bl I q ?_)
  · have va0 : va = [] := List.eq_nil_of_length_eq_zero (by simpa using e)
    subst va0
    exact PySem.W.KeqHits.nil
  · have e : (va.length == ([] : List (Key × Value)).length) = ks.isEmpty := by
      rw [← l1]; cases ks <;> simp
    rw [e, Bool.and_true]
/-- int(x): of an int, of a truth value, of a text -/
def rIntA : List V → Hp → VK → Prop := fun xs H Q => ((∃ i, xs = [.int i] ∧ Q (.int i) H) ∨ ∃ k, xs = [.bl k] ∧ Q (.int (if k then 1 else 0)) H) ∨ ∃ a n, xs = [.str a] ∧ PySem.intText? a = some n ∧ a.length ≤ 640 ∧ Q (.int n) H
theorem c_intA : CallR X (.type "int") rIntA := fun pins s σ H xs us Q I r h => h.elim (call_int1 pins s σ H xs us Q I r) (call_int_str pins s σ H xs us Q I r)
theorem intA_i {i : Int} {H : Hp} {Q : VK} : rIntA [.int i] H Q = Q (.int i) H := by
  refine propext ⟨fun h => ?_, fun q => .inl (.inl ⟨i, rfl, q⟩)⟩
  rcases h with (⟨j, e, q⟩ | ⟨k, e, q⟩) | ⟨a, n, e, _⟩
  · cases e; exact q
  · cases e
  · cases e
theorem intA_b {b : Bool} {H : Hp} {Q : VK} : rIntA [.bl b] H Q = Q (.int (if b then 1 else 0)) H := by
  refine propext ⟨fun h => ?_, fun q => .inl (.inr ⟨b, rfl, q⟩)⟩
  rcases h with (⟨j, e, q⟩ | ⟨k, e, q⟩) | ⟨a, n, e, _⟩
  · cases e
  · cases e; exact q
  · cases e
end
end RS


/-! methods by positions and keywords -/
namespace RS
open PySem PySem.Spec L2 PyProof.Rows
section
variable {g : Wd} {X : Cx} {k : Nat} {C : Addr} {ps : List Str} {sp : Sp} {W : WX} {p pos apos : Pos} {o e : Expr} {es : List Expr} {ta : TE} {tp : TA}
/-- the method m by np positions and the keywords ks; pm: the places of the keywords in the parameters behind -/
def Kmp (g : Wd) (C : Addr) (m : Str) (k : Nat) (ps : List Str) (np : Nat) (ks : List Str) (pm : List Nat) (dvs : List V) (sp : Sp) : Prop :=
  ∃ f fd dsV, PySem.W.findIn g.K (.ref C) m = some (some (.ref f)) ∧ PySem.W.isFn g.K (.ref f) = true ∧ PySem.W.keepIn g.K (.ref f) = true ∧ FnG g k f fd ps sp ∧ Vals dvs dsV ∧
    ∀ (s : Shared) (y : Value) (us ws : List Value), g.K.In s.heap → us.length = np → ws.length = ks.length → BindsTo s fd ⟨y :: us, ks.zip ws⟩ (ps.zip (y :: us ++ (pm.map fun i => ws.getD i .none) ++ dsV))
def tMethP (C : Addr) (m : Str) (np n : Nat) (sp : Sp) (pm : List Nat) (dvs : List V) (W : WX) (ta : TE) (tp t : TA) : TE := fun σ H Q => ta σ H fun x H1 => ∃ q dx fs, x = .ref q ∧ H1 q = some (.ins C dx fs) ∧ fs.lookup m = none ∧
  tp σ H1 fun us H2 => t σ H2 fun zs H3 => us.length = np ∧ zs.length = n ∧ sp (.ref q :: us ++ (pm.map fun i => zs.getD i .non) ++ dvs) H3 Q (fun c d H' => W c d σ H')
theorem pe_methP {m : Str} {np : Nat} {ks : List Str} {pm : List Nat} {dvs : List V} {kws : List Keyword} {t : TA} {pl : Sem Bool} (he : PE X o ta) (c : Cls g.K C) (F : Kmp g C m k ps np ks pm dvs sp) (hr : Rm k X) (tk : Takes X W) (hp : PA X (e :: es) tp) (hkw : PK X kws t)
    (hall : (backToKw pos (keywordEach kws X.env)).all (·.1.isSome) = true := by rfl) (hks : (backToKw pos (keywordEach kws X.env)).filterMap (·.1) = ks := by rfl)
    (hpl : ((backTo pos (starEach (e :: es) X.env)).any (·.1) || (backToKw pos (keywordEach kws X.env)).any (·.1.isNone)) = false := by rfl) (hst : starEach (e :: es) X.env = (false, eval e X.env) :: starEach es X.env := by rfl)
    (ht : eval (.Call (.Attribute o m apos) (e :: es) kws pos) X.env = (do
      let ov ← eval o X.env
      standAt apos.atName
      let (f, first) ← holding [ov] (getMethod ov m pl)
      callWith pos f first (backTo pos (starEach (e :: es) X.env)) (backToKw pos (keywordEach kws X.env))) := by rfl) (at_ : At g X := by exact ⟨rfl, rfl, rfl, rfl, rfl⟩) :
    PE X (.Call (.Attribute o m apos) (e :: es) kws pos) (tMethP C m np ks.length sp pm dvs W ta tp t) := by
  obtain ⟨f, fd, dsV, hf, hi, hk, F, rd, hb⟩ := F
  refine ⟨fun pins s σ H Q I h => PySem.W.methodCall_KW (pl := pl) (thn (he.run pins s σ H _ I h) ?_) ht⟩
  rintro u s1 ⟨x, H1, I1, rx, q, dx, fs, rfl, ea, l, h1⟩
  obtain rfl : u = Value.ref q := rx
  refine getmeth_ok I1 ea (by rw [at_.K]; exact c) (g := f) (by rw [at_.K]; exact ⟨hf, hi, hk⟩) l ?_
  refine PySem.W.callWith_KW (first := [.ref q]) (h₀ := X.base) I.ok.mod.kin (by rw [at_.K]; exact hk) hall (thn (hp.run pos pins s1 σ H1 _ I1 h1) ?_) hpl hst
  rintro us s2 ⟨vs, H2, I2, rv, h2⟩
  refine thn (hkw.run pos pins s2 σ H2 _ I2 h2) ?_
  rintro ws s3 ⟨zs, H3, I3, rz, lv, lz, q3⟩
  refine ⟨I3.kIn, ?_⟩
  rw [hks]
  have rr : Vals (.ref q :: vs ++ (pm.map fun i => zs.getD i .non) ++ dvs) (.ref q :: us ++ (pm.map fun i => ws.getD i .none) ++ dsV) := Vals.append (Vals.append (.cons rfl rv) (vals_pm rz pm)) rd
  refine wpAny_call (codeAny_mono (runG at_ F hr tk I3 (hb s3 (.ref q) us ws (at_.K ▸ I3.kIn) (by rw [← rv.length]; exact lv) (by rw [← rz.length]; exact lz)) rr q3) fun res s' hq => ?_)
  cases res with
  | error e => exact hq
  | ok fl => cases fl with
    | ret u => exact hq
    | _ => exact hq.elim
end
end RS


/-! the end of a law: defs with defaults, defs that make lambdas, tables -/
namespace RS
open PySem PySem.Spec L2 LamX
theorem bindsD {K : PySem.W.Frag} {s : Shared} {fd : FuncData} {args : Args} {binds : List (Str × Value)} {T : Addr} {oc : Value} {od : Option Addr} {its : Array Value} {n : Nat} {sl : Array (Option Value)} (X : K.In s.heap) (lT : K.lookup T = some ⟨oc, od, .seq its n, sl⟩)
    (h : ∃ k, bindArgs fd args = seqItems? (.ref T) >>= k ∧ k (some its) = pure binds) : BindsTo s fd args binds := by
  obtain ⟨k, e1, e2⟩ := h
  refine BindsTo.of_looks fun M => ?_
  rw [e1]
  exact looks_items X lT rfl (.of_pure e2)
theorem dfc_mk {K : PySem.W.Frag} {x qual : Str} {st : Stmt} {f c : Addr} {oc : Value} {od an : Option Addr} {osl : Array (Option Value)} {kV doc pm ct : Value} (l : K.lookup f = some ⟨oc, od, .func (PySem.W.fnOf x qual (defArgs st) (defBody st) (defScope st) .none kV doc pm an (.ref c) ct), osl⟩)
    (h : PySem.W.codeIn K (.ref c) qual = true) (k : PySem.W.keepIn K (.ref f) = true) : DfC K x qual st f (PySem.W.fnOf x qual (defArgs st) (defBody st) (defScope st) .none kV doc pm an (.ref c) ct) c := ⟨⟨oc, od, kV, doc, pm, an, ct, osl, rfl, l, h⟩, k⟩
theorem FnAtC.of {K : PySem.W.Frag} {C f : Addr} {m : Str} (h : PySem.W.findIn K (.ref C) m = some (some (.ref f))) (h2 : PySem.W.fnIn K f = true) : FnAtC K C m := fun f' e => by
  rw [h] at e
  cases e
  exact h2
/-- empty tables -/
theorem tabs0 {T : List (Addr × Str)} {H : Hp} (h : ∀ p ∈ T, H p.1 = some (.tbl #[])) : Tabs T H := fun p hp =>
  ⟨#[], h p hp, by simp [TriplesOk], fun pos cv e => by simp [codeAmong] at e⟩
end RS


/-! methods with a star parameter -/
namespace RS
open PySem PySem.Spec L2
section
variable {g : Wd} {X : Cx} {k : Nat} {C : Addr} {sp : Sp} {W : WX} {m : Str} {p pos apos : Pos} {o e : Expr} {es : List Expr} {ta : TE} {t : TA}
def KmS (g : Wd) (C : Addr) (m : Str) (k : Nat) (sp : Sp) : Prop := ∃ f, PySem.W.findIn g.K (.ref C) m = some (some (.ref f)) ∧ PySem.W.isFn g.K (.ref f) = true ∧ PySem.W.keepIn g.K (.ref f) = true ∧ FnS g k f sp
def tMethS (C : Addr) (m : Str) (sp : Sp) (W : WX) (ta : TE) (t : TA) : TE := fun σ H Q => ta σ H fun x H1 => ∃ a dx fs, x = .ref a ∧ H1 a = some (.ins C dx fs) ∧ fs.lookup m = none ∧
  t σ H1 fun vs H2 => sp (x :: vs) H2 Q (fun c d H' => W c d σ H')
theorem pe_methS {pl : Sem Bool} (he : PE X o ta) (c : Cls g.K C) (F : KmS g C m k sp) (hr : Rm k X) (tk : Takes X W) (ha : PA X (e :: es) t)
    (hst : starEach (e :: es) X.env = (false, eval e X.env) :: starEach es X.env := by rfl) (hpl : (backTo pos (starEach es X.env)).any (·.1) = false := by rfl)
    (ht : eval (.Call (.Attribute o m apos) (e :: es) [] pos) X.env = (do
      let ov ← eval o X.env
      standAt apos.atName
      let (f, first) ← holding [ov] (getMethod ov m pl)
      callWith pos f first (backTo pos (starEach (e :: es) X.env)) (backToKw pos (keywordEach [] X.env))) := by rfl) (a : At g X := by exact ⟨rfl, rfl, rfl, rfl, rfl⟩) :
    PE X (.Call (.Attribute o m apos) (e :: es) [] pos) (tMethS C m sp W ta t) := by
  obtain ⟨f, hf, hi, hk, F⟩ := F
  refine ⟨fun pins s σ H Q I h => PySem.W.methodCall_KW (pl := pl) (thn (he.run pins s σ H _ I h) ?_) ht⟩
  rintro u s1 ⟨x, H1, I1, rx, q, dx, fs, rfl, ea, l, h1⟩
  obtain rfl : u = Value.ref q := rx
  refine getmeth_ok I1 ea (by rw [a.K]; exact c) (g := f) (by rw [a.K]; exact ⟨hf, hi, hk⟩) l ?_
  refine PySem.W.callWith_K (first := [.ref q]) (h₀ := X.base) I.ok.mod.kin (by rw [a.K]; exact hk) (thn (ha.run pos pins s1 σ H1 _ I1 h1) ?_) hst hpl
  rintro us s2 ⟨vs, H2, I2, r, q2⟩
  exact ⟨I2.kIn, callS (vs := .ref q :: vs) (us := .ref q :: us) a F hr tk I2 (.cons rfl r) q2⟩
theorem pe_methS0 {pl : Sem Bool} (he : PE X o ta) (c : Cls g.K C) (F : KmS g C m k sp) (hr : Rm k X) (tk : Takes X W)
    (ht : eval (.Call (.Attribute o m apos) [] [] pos) X.env = (do
      let ov ← eval o X.env
      standAt apos.atName
      let (f, first) ← holding [ov] (getMethod ov m pl)
      callWith pos f first (backTo pos (starEach [] X.env)) (backToKw pos (keywordEach [] X.env))) := by rfl) (a : At g X := by exact ⟨rfl, rfl, rfl, rfl, rfl⟩) :
    PE X (.Call (.Attribute o m apos) [] [] pos) (tMethS C m sp W ta tNil) := by
  obtain ⟨f, hf, hi, hk, F⟩ := F
  refine ⟨fun pins s σ H Q I h => PySem.W.methodCall_KW (pl := pl) (thn (he.run pins s σ H _ I h) ?_) ht⟩
  rintro u s1 ⟨x, H1, I1, rx, q, dx, fs, rfl, ea, l, h1⟩
  obtain rfl : u = Value.ref q := rx
  refine getmeth_ok I1 ea (by rw [a.K]; exact c) (g := f) (by rw [a.K]; exact ⟨hf, hi, hk⟩) l ?_
  exact PySem.W.callWith_K0 (first := [.ref q]) I1.kIn (by rw [a.K]; exact hk) (callS (vs := [.ref q]) (us := [.ref q]) a F hr tk I1 (.cons rfl .nil) h1)
/-- == of two dicts or two lists that are equal -/
theorem o_eqV {j : Nat} {K : PySem.W.Frag} (hr : Rm j X) (hK : X.K = K := by rfl) : OpR X (compareOp .Eq) (rEqV K) := by subst hK; exact op_eqV (by have := hr.room.un; omega)
end
end RS


/-! f(lambda p=0: e): the lambda bears one parameter of its own, told by its default -/
namespace RS
open PySem PySem.Spec L2 PyProof.Rows LamX
section
variable {X : Cx} {pins : List (Addr × Obj)} {σ : L2.St} {H : Hp} {s : Shared}
/-- the tail of a making: the defaults' tuple stands at T0 -/
theorem lam_tailD {T : List (Addr × Str)} {c P T0 : Addr} {v0 : Value} {params : Arguments} {body : Expr} {scope : Scope} {pos : Pos} {E : Value → Shared → Prop} {Q : Value → Shared → Prop} (I : Inv X pins σ H s) (TB : TabB X.base X.mg c P) (hcode : X.env.code = .ref c)
    (hm : (P, X.env.qual ++ "<lambda>") ∈ T) (hu : ∀ p ∈ T, p.1 = P → p.2 = X.env.qual ++ "<lambda>") (hT : Tabs T H) (hfree : ∀ y ∈ scope.names, y.2 = .free → ∃ c, X.env.cells.lookup y.1 = some c)
    (h0 : s.heap.get? T0 = some (PySem.W.kdv_tup [v0])) (n0 : H T0 = none) (r0 : T0 ∉ frs X.stack)
    (h : ∀ (f c' : Addr) (pm ctv doc : Value) (H1 : Hp) (s' : Shared), Inv X pins σ H1 s' → ExtN H H1 → Tabs T H1 →
      s'.heap.get? f = some (PySem.W.kdv_obj "<lambda>" (X.env.qual ++ "<lambda>") params (.expr body) scope (cloFrom X.env.cells scope.names []) (.ref T0) doc pm c' ctv) → H1 f = none → f ∉ frs X.stack →
      s'.heap.get? T0 = some (PySem.W.kdv_tup [v0]) → H1 T0 = none → H1 c' = some (CodeO c' (X.env.qual ++ "<lambda>")) → Q (.ref f) s') :
    wpAny (model X.prog X.w) X.A (makeTail "<lambda>" (X.env.qual ++ "<lambda>") params (.expr body) scope X.env (.ref T0) .none none pos pos.line) Q E s := by
  obtain ⟨ps, hP, ht, ha⟩ := hT _ hm
  have bP : s.heap.BuiltinsAt X.mg P := TB.bm.keeps I.bk
  have hP' : s.heap.get? P = some { cls := .none, data := .fields ps } := I.hok P _ hP
  have nofr : ∀ f, s.heap.objs.size ≤ f → f ∉ frs X.stack := fun f hf z => by
    rcases List.mem_cons.mp (I.stkSub _ z) with e | e
    · have h1 := I.lt
      rw [← e] at h1
      exact Nat.lt_irrefl _ (Nat.lt_of_lt_of_le h1 hf)
    · exact I.nofs hf e
  have n0P : T0 ≠ P := fun z => by rw [z, hP] at n0; cases n0
  cases hc : codeAmong pos ps.toList with
  | none =>
    refine PySem.W.kdv_makeTail (mg := X.mg) (c := c) (P := P) (ps := ps) (closure_ok hfree) I.ok.glob (I.mod.glob.keeps I.bk) hcode (TB.code.keeps I.bk) hP' ht hc TB.gP bP fun c' ctv doc h' tk hx hge hlt hrec htb => ?_
    obtain ⟨c2, oc, vs, t, e2, hoc, hd, hv⟩ := hrec
    cases e2
    have hsz : s.heap.objs.size ≤ h'.objs.size := Nat.le_trans hge (Nat.le_of_lt hlt)
    have nC : H c' = none := I.hok.fresh hge
    have I1 := inv_table (t' := tk) (more := #[rawInt pos.line, rawInt pos.col, .ref c']) (h' := h'.push (PySem.W.kdv_obj "<lambda>" (X.env.qual ++ "<lambda>") params (.expr body) scope (cloFrom X.env.cells scope.names []) (.ref T0) doc ((X.mg "__name__").getD .none) c' ctv)) I hP
      (fun b o hb e => Heap.get?_push_of_some _ (hx b o hb e)) (Heap.get?_push_of_some _ htb) hge ⟨oc, vs, t, Heap.get?_push_of_some _ hoc, hd, hv⟩
    have hE : ExtN H (upd (upd H P (.tbl (ps ++ #[rawInt pos.line, rawInt pos.col, .ref c']))) c' (CodeO c' (X.env.qual ++ "<lambda>"))) := fun b o e n => by
      rw [upd_ne (ne_of_none e nC), upd_ne (fun z => n ps (Option.some.inj (e.symm.trans (by rw [z]; exact hP))))]
      exact e
    have eL : (ps ++ #[rawInt pos.line, rawInt pos.col, .ref c']).toList = ps.toList ++ [rawInt pos.line, rawInt pos.col, .ref c'] := by simp
    refine h h'.objs.size c' ((X.mg "__name__").getD .none) ctv doc _ _ I1 hE (fun p hp => ?_) (Heap.get?_push_size _ rfl) ?_ (nofr _ hsz) (Heap.get?_push_of_some _ (hx _ _ n0P h0)) ?_ upd_same
    · by_cases hb : p.1 = P
      · rw [hu p hp hb, hb]
        refine ⟨_, by rw [upd_ne (ne_of_none hP nC), upd_same], by rw [eL]; exact PySem.TriplesOk_snoc _ _ _ _ ht, fun p' cv hcv => ?_⟩
        rw [eL] at hcv
        rcases among_app _ ht hcv with z | z
        · obtain ⟨c0, e1, e2⟩ := ha p' cv z
          exact ⟨c0, e1, hE _ _ e2 codeO_ne⟩
        · exact ⟨c', z, upd_same⟩
      · obtain ⟨ps', a1, a2, a3⟩ := hT p hp
        refine ⟨ps', by rw [upd_ne (ne_of_none a1 nC), upd_ne hb]; exact a1, a2, fun p' cv hcv => ?_⟩
        obtain ⟨c0, e1, e2⟩ := a3 p' cv hcv
        exact ⟨c0, e1, hE _ _ e2 codeO_ne⟩
    · have n1 : h'.objs.size ≠ c' := Nat.ne_of_gt hlt
      have n2 : h'.objs.size ≠ P := Nat.ne_of_gt (Nat.lt_of_lt_of_le (Heap.lt_size hP') hsz)
      rw [upd_ne n1, upd_ne n2]
      exact I.hok.fresh hsz
    · have n1 : T0 ≠ c' := Nat.ne_of_lt (Nat.lt_of_lt_of_le (Heap.lt_size h0) hge)
      rw [upd_ne n1, upd_ne n0P]
      exact n0
  | some cv =>
    obtain ⟨c', e, hco⟩ := ha pos cv hc
    subst e
    refine PySem.W.kdv_makeTailHit (mg := X.mg) (c := c) (P := P) (ps := ps) (closure_ok hfree) I.ok.glob (I.mod.glob.keeps I.bk) hcode (TB.code.keeps I.bk) hP' ht hc bP fun ctv doc h' tk hx hsz => ?_
    have I1 : Inv X pins σ H { s with heap := h'.push (PySem.W.kdv_obj "<lambda>" (X.env.qual ++ "<lambda>") params (.expr body) scope (cloFrom X.env.cells scope.names []) (.ref T0) doc ((X.mg "__name__").getD .none) c' ctv), toks := tk } := I.kept fun b o e => Heap.get?_push_of_some _ (hx b o e)
    exact h h'.objs.size c' ((X.mg "__name__").getD .none) ctv doc H _ I1 (ExtN.refl H) hT (Heap.get?_push_size _ rfl) (I.hok.fresh hsz) (nofr _ hsz) (Heap.get?_push_of_some _ (hx _ _ h0)) n0 hco
/-- the lambda is made -/
theorem lam_makeD {T : List (Addr × Str)} {c P : Addr} {params : Arguments} {body : Expr} {scope : Scope} {pos : Pos} {z : Int} {kk : Nat} {pp : Pos} {E : Value → Shared → Prop} {Q : Value → Shared → Prop} (I : Inv X pins σ H s) (TB : TabB X.base X.mg c P) (hcode : X.env.code = .ref c)
    (hm : (P, X.env.qual ++ "<lambda>") ∈ T) (hu : ∀ p ∈ T, p.1 = P → p.2 = X.env.qual ++ "<lambda>") (hT : Tabs T H) (hdf : params.defaults = [.Constant (.int z) kk pp]) (hk0 : params.kw_defaults = []) (hfree : ∀ y ∈ scope.names, y.2 = .free → ∃ c, X.env.cells.lookup y.1 = some c)
    (h : ∀ (f c' T0 : Addr) (v0 pm ctv doc : Value) (H1 : Hp) (s' : Shared), Inv X pins σ H1 s' → ExtN H H1 → Tabs T H1 →
      s'.heap.get? f = some (PySem.W.kdv_obj "<lambda>" (X.env.qual ++ "<lambda>") params (.expr body) scope (cloFrom X.env.cells scope.names []) (.ref T0) doc pm c' ctv) → H1 f = none → f ∉ frs X.stack →
      s'.heap.get? T0 = some (PySem.W.kdv_tup [v0]) → H1 T0 = none → T0 ∉ frs X.stack → H1 c' = some (CodeO c' (X.env.qual ++ "<lambda>")) → Q (.ref f) s') :
    wpAny (model X.prog X.w) X.A (eval (.Lambda params body scope pos) X.env) Q E s := by
  refine PySem.W.kdv_lam (by rw [hdf]; rfl) hk0 ?_
  rw [hdf]
  refine PySem.W.kdv_all1 (wpAny_Constant_int (PySem.W.kdv_all0 ?_))
  rw [makeFunction_eq]
  simp only [List.zip_nil_right, List.filterMap_nil, List.isEmpty_nil, List.isEmpty_cons, if_true, pure_bind, Bool.false_eq_true, if_false]
  have nofr : s.heap.objs.size ∉ frs X.stack := fun z => by
    rcases List.mem_cons.mp (I.stkSub _ z) with e | e
    · have h1 := I.lt
      rw [← e] at h1
      exact Nat.lt_irrefl _ h1
    · exact I.nofs (Nat.le_refl _) e
  have I1 : Inv X pins σ H { s with heap := s.heap.push (PySem.W.kdv_tup [.int z s.toks]), toks := s.toks + 1 } := I.kept fun b o e => Heap.get?_push_of_some _ e
  refine wpAny_bind (wpAny_newTextTuple ?_)
  exact lam_tailD (s := { s with heap := s.heap.push (PySem.W.kdv_tup [.int z s.toks]), toks := s.toks + 1 }) I1 TB hcode hm hu hT hfree (Heap.get?_push_size _ rfl) (I.hok.fresh (Nat.le_refl _)) nofr fun f c' pm ctv doc H1 s' I' e T' hf hfn hfr ht0 hn0 hco => h f c' s.heap.objs.size (.int z s.toks) pm ctv doc H1 s' I' e T' hf hfn hfr ht0 hn0 nofr hco
end
/-- one parameter p of its own, else captured names and globals -/
structure LamD (p : Str) (sc scope : Scope) : Prop where
  kind : scope.kind = .function
  co : scope.isCoroutine = false
  gen : scope.isGenerator = false
  par : scope.names.lookup p = some .local
  own : ∀ y ∈ scope.names, (y.2 = .local → y.1 = p) ∧ y.2 ≠ .cell
  free : ∀ y ∈ scope.names, y.2 = .free → sc.names.lookup y.1 = some .cell ∨ sc.names.lookup y.1 = some .free
def lamDB (p : Str) (sc scope : Scope) : Bool :=
  decide (scope.kind = .function) && !scope.isCoroutine && !scope.isGenerator && decide (scope.names.lookup p = some .local) && scope.names.all fun y => (!decide (y.2 = .local) || decide (y.1 = p)) && !decide (y.2 = .cell) && (!decide (y.2 = .free) || decide (sc.names.lookup y.1 = some .cell) || decide (sc.names.lookup y.1 = some .free))
theorem lamD_by {p : Str} {sc scope : Scope} (h : lamDB p sc scope = true) : LamD p sc scope := by
  unfold lamDB at h
  simp only [Bool.and_eq_true, Bool.or_eq_true, Bool.not_eq_true', decide_eq_true_eq, decide_eq_false_iff_not, List.all_eq_true] at h
  obtain ⟨⟨⟨⟨h1, h2⟩, h3⟩, h5⟩, h4⟩ := h
  refine ⟨h1, h2, h3, h5, fun y hy => ⟨fun e => ?_, (h4 y hy).1.2⟩, fun y hy e => ?_⟩
  · rcases (h4 y hy).1.1 with z | z
    · exact absurd e z
    · exact z
  · rcases (h4 y hy).2 with (z | z) | z
    · exact absurd e z
    · exact .inl z
    · exact .inr z
theorem LamD.has {p : Str} {X : Cx} {scope : Scope} (L : LamD p X.env.scope scope) (ok : X.Ok) : ∀ y ∈ scope.names, y.2 = .free → ∃ c, X.env.cells.lookup y.1 = some c := fun y hy e => by
  rcases L.free y hy e with k | k
  · exact ok.has _ (.inl k)
  · exact ok.has _ (.inr k)
section
variable {X : Cx} {pins : List (Addr × Obj)} {σ : L2.St} {H HZ : Hp} {s s1 : Shared}
theorem lam_startD {p : Str} {A : Around} {outer : List Env} {E : XK} {scope : Scope} {f c' : Addr} {h₁ : Heap} {tk : Nat} {m1 : Str → Option Value} (I : Inv X pins σ H s) (L : LamD p X.env.scope scope) (np : p ∉ X.N) (e0 : Env0 X.prog X.w X.K X.mg X.base A outer s1 HZ) (hd : A.handled = none)
    (un : Un (frs X.stack) [] H HZ s.heap s1.heap) (hns : h₁.Ns s1.heap.objs.size m1) (kp : ∀ b o, s1.heap.get? b = some o → h₁.get? b = some o) :
    Inv (lamCx X A outer s1 HZ E scope f c') [] σ HZ { s1 with heap := h₁, toks := tk } := by
  have hfree := L.has I.ok
  have cm : ∀ {y c}, (cloFrom X.env.cells scope.names []).lookup y = some c → X.env.cells.lookup y = some c := fun {y c} e => by
    rcases cloFrom_mem (PySem.mem_of_lookup e) with hm | ⟨h1, h2⟩
    · cases hm
    · obtain ⟨c1, hc⟩ := hfree _ h1 rfl
      have hc : X.env.cells.lookup y = some c1 := hc
      have e2 : c = c1 := by
        rw [h2, hc] <;> rfl
      rw [e2]
      exact hc
  have look : ∀ {y}, scope.names.lookup y = some .free → ∃ c, (cloFrom X.env.cells scope.names []).lookup y = some c := fun {y} hl => by
    have hy : (y, NameKind.free) ∈ scope.names := PySem.mem_of_lookup hl
    exact mem_lookup (cloFrom_has (cells := X.env.cells) (acc := []) hy)
  have cellK : ∀ {c : Addr} {v : Option Value}, H c = none → s.heap.IsCell c v → h₁.IsCell c v := fun {c v} n ⟨o, ho, hd⟩ => by
    obtain ⟨sl, q⟩ := un.any ho n (by simp)
    exact ⟨_, kp _ _ q, hd⟩
  have noA : ∀ b : Addr, b ∉ (lamCx X A outer s1 HZ E scope f c').ex := fun b z => absurd (show b ∈ ([] : List Addr) from z) (by simp)
  refine ⟨⟨e0.mod, L.kind, rfl, rfl, Nat.le_refl _, fun y z c e1 e2 => I.ok.inj y z c (cm e1) (cm e2), fun y hy => ?_, fun y c z _ => ?_, fun _ => hd, Around.frames_deeper e0.frames, .inr ⟨rfl, rfl⟩, fun b z => absurd z (noA b), e0.bs, e0.bsz, fun b _ _ => noA b,
      fun b z => absurd z (noA b), e0.funs, e0.frf⟩,
    rfl, e0.bare, Un.kept kp, ⟨_, hns, fun i y v e1 e2 e3 => ?_⟩, fun y c e => ?_, e0.hok.fresh (Nat.le_refl _), fun y c e => ?_, fun q hq => absurd (show q ∈ ([] : List (Addr × Obj)) ++ [] from hq) (by simp), e0.hok.kept kp, I.len⟩
  · have hy : scope.names.lookup y = some .cell ∨ scope.names.lookup y = some .free := hy
    rcases hy with hy | hy
    · exact absurd rfl (L.own _ (PySem.mem_of_lookup hy)).2
    · exact look hy
  · have z : false = true := z
    cases z
  · have e3 : Vis scope y := e3
    rcases e3 with k | k | k
    · have z : y = p := (L.own _ (PySem.mem_of_lookup k)).1 rfl
      have e1 : X.N[i]? = some y := e1
      rw [z] at e1
      exact absurd (List.mem_of_getElem? e1) np
    · exact absurd rfl (L.own _ (PySem.mem_of_lookup k)).2
    · obtain ⟨m, hn, hl⟩ := I.loc
      have hvis : Vis X.env.scope y := (L.free _ (PySem.mem_of_lookup k) rfl).elim (fun k => .inr (.inl k)) (fun k => .inr (.inr k))
      obtain ⟨w', r, q⟩ := hl i y v e1 e2 hvis
      obtain ⟨c2, h2⟩ := look k
      refine ⟨w', r, .inr ⟨.inr k, c2, h2, ?_⟩⟩
      have c1 := cm h2
      rcases q with ⟨k', _⟩ | ⟨_, c3, e', z⟩
      · have k' : X.env.scope.names.lookup y = some .local := k'
        rcases L.free _ (PySem.mem_of_lookup k) rfl with k2 | k2 <;> rw [show X.env.scope.names.lookup y = _ from k2] at k' <;> cases k'
      · rw [c1] at e'
        cases e'
        exact cellK (I.freeC y _ c1) z
  · obtain ⟨w', z⟩ := I.cell y c (cm e)
    exact ⟨w', cellK (I.freeC y c (cm e)) z⟩
  · obtain ⟨v, o, ho, hd⟩ := I.cell y c (cm e)
    exact un.free c o ho (I.freeC y c (cm e)) (by simp)
/-- the lambda at f, run from the frames of Z -/
theorem lam_runD {p : Str} {f c' T0 : Addr} {v0 pm ctv doc : Value} {params : Arguments} {body : Expr} {scope : Scope} {k : Nat} {E : XK} {tb : TE} {A : Around} {outer : List Env} {s1 : Shared} {HZ : Hp} {Q : VK}
    (I : Inv X pins σ H s) (L : LamD p X.env.scope scope) (np : p ∉ X.N) (hc : HZ c' = some (CodeO c' (X.env.qual ++ "<lambda>"))) (e0 : Env0 X.prog X.w X.K X.mg X.base A outer s1 HZ) (lim : s1.heap.NoLimit)
    (of1 : s1.heap.get? f = some (PySem.W.kdv_obj "<lambda>" (X.env.qual ++ "<lambda>") params (.expr body) scope (cloFrom X.env.cells scope.names []) (.ref T0) doc pm c' ctv)) (ot : s1.heap.get? T0 = some (PySem.W.kdv_tup [v0])) (un : Un (frs X.stack) [] H HZ s.heap s1.heap)
    (hbind : ∃ kk, bindArgs (PySem.W.kdv_fn "<lambda>" (X.env.qual ++ "<lambda>") params (.expr body) scope (cloFrom X.env.cells scope.names []) (.ref T0) doc pm (.ref c') ctv) ⟨[], []⟩ = seqItems? (.ref T0) >>= kk ∧ kk (some #[v0]) = pure [(p, v0)]) (hr : Room (k + 1) A) (gd : A.guards = some [])
    (hbody : Rm k (lamCx X A outer s1 HZ E scope f c') → PE (lamCx X A outer s1 HZ E scope f c') body tb) (ht : tb σ HZ Q) :
    codeAny (model X.prog X.w) A (.call (.ref f) ⟨[], []⟩) (CR (L2.CX X.prog X.w) outer X.prog X.w HZ s1 Q E) s1 := by
  obtain ⟨⟨oc, vs, t, hoc, hdc, hvc⟩, _, _⟩ := e0.hok c' _ hc
  obtain ⟨kk, b1, b2⟩ := hbind
  refine PySem.W.kla_callFunE hr.depth of1 rfl L.co L.gen rfl ⟨c', oc, vs, t, rfl, hoc, hdc, hvc⟩ ?_
  refine BindsTo.of_defaults (T := T0) rfl ot rfl b1 b2 _ _ _ _ ?_
  refine (wpAny_newFunctionEnv (fun y hy => (L.own y hy).2) (fun y hy => ?_) (fun h₁ hns hsb => ⟨lim.fresh _ hsb, ?_⟩) L.kind)
  · rw [List.mem_singleton.mp hy]
    exact L.par
  show codeAny _ _ (.expr body (lamEnv X scope s1.heap.objs.size f c')) _ _
  have kp : ∀ b o, s1.heap.get? b = some o → h₁.get? b = some o := fun b o q => hsb.extBut b o (Nat.ne_of_lt (Heap.lt_size q)) (Heap.get?_push_of_some _ q)
  have J := lam_startD (E := E) (f := f) (c' := c') (tk := s1.toks + ([(p, v0)] : List (Str × Value)).length) I L np e0 hr.hd un hns kp
  have P := hbody ⟨hr.deeper _, gd⟩
  refine PySem.W.kla_codeExpr (wpAny_mono (P.run [] _ _ HZ Q J ht) (fun v s' hq => ?_) fun e s' hq => hq)
  obtain ⟨w', H', J', rv, q⟩ := hq
  exact ⟨w', H', J'.os, J'.bare, J'.base, J'.hok, rv, q⟩
/-- x(lambda p=0: body) -/
theorem pe_lamGD {g : Wd} {T : List (Addr × Str)} {TT : Addr → Str → (XK → Hp → VK → Prop) → Hp → VK → Prop} {x ap : Str} {c P : Addr} {k : Nat} {params : Arguments} {body : Expr} {scope : Scope} {t : XK → TE} {p lpos pos : Pos} {z : Int} {kk : Nat} {pp : Pos}
    (F : Told g (k + 1) x TT) (hr : Rm (k + 2) X) (TB : TabB X.base X.mg c P) (hcode : X.env.code = .ref c) (hmT : (P, X.env.qual ++ "<lambda>") ∈ T) (hu : ∀ p ∈ T, p.1 = P → p.2 = X.env.qual ++ "<lambda>")
    (L : LamD ap X.env.scope scope) (np : ap ∉ X.N) (hdf : params.defaults = [.Constant (.int z) kk pp]) (hk0 : params.kw_defaults = [])
    (hbind : ∀ (q : Str) (cl : List (Str × Addr)) (T0 : Addr) (v0 doc pm cv ctv : Value), ∃ kk, bindArgs (PySem.W.kdv_fn "<lambda>" q params (.expr body) scope cl (.ref T0) doc pm cv ctv) ⟨[], []⟩ = seqItems? (.ref T0) >>= kk ∧ kk (some #[v0]) = pure [(ap, v0)])
    (hbody : ∀ (A : Around) (outer : List Env) (s : Shared) (H : Hp) (E : XK) (f c' : Addr), Rm k (lamCx X A outer s H E scope f c') → PE (lamCx X A outer s H E scope f c') body (t E))
    (hg : Gl X x := by rfl) (hdb : (x == ("__debug__" : Str)) = false := by decide) (at_ : At g X := by exact ⟨rfl, rfl, rfl, rfl, rfl⟩) :
    PE X (.Call (.Name x p) [.Lambda params body scope lpos] [] pos) (tLamG T TT (X.env.qual ++ "<lambda>") t) := by
  refine ⟨fun pins s σ H Q I h => ?_⟩
  obtain ⟨hT, h⟩ := h
  obtain ⟨st, gf, fd, a, N, hm, DF, hb, Sg, hN0, hva, hd1, hd2, body_⟩ := F.ex
  obtain ⟨oc, od, kV, doc, pm0, an, cdv, ct, osl, rfl, lk, hcd⟩ := DF.ex
  have hm' : X.mg x = some (.ref gf) := by rw [at_.mg]; exact hm
  refine wpAny_Call_Name_kw (ld_glob I hg hm' ?_ hdb)
  refine PySem.W.callWith_K (h₀ := X.base) I.ok.mod.kin (by rw [at_.K]; exact DF.kp) ?_ (by rfl) (by rfl)
  show wpAny _ _ (spliced ((false, eval (.Lambda params body scope lpos) X.env) :: backTo pos (starEach [] X.env))) _ _ s
  refine Calls.spliced_cons (lam_makeD I TB hcode hmT hu hT hdf hk0 (L.has I.ok) fun f c' T0 v0 pm' ctv doc' H1 s' I1 eN T1 hf hfn hfr ht0 hn0 hr0 hco => ?_)
  refine Calls.spliced_nil ⟨I1.kIn, ?_⟩
  have KX := I1.kIn
  rw [at_.K] at KX
  have rc : codeAny (model X.prog X.w) X.A (.call (.ref gf) ⟨[.ref f], []⟩) (CR (L2.CX X.prog X.w) X.stack X.prog X.w H1 s' Q fun _ _ _ => False) s' := by
    obtain ⟨P0, w0, K0, mg0, base0⟩ := g
    obtain ⟨rfl, rfl, rfl, rfl, rfl⟩ := at_
    refine run_ofS (N := N) (ps := [a]) (us := [.ref f]) (vs := [.ref f]) lk hcd Sg hr.room I1.env0 (hb s' [.ref f] I1.kIn rfl) (.cons rfl .nil) rfl fun hr' => ?_
    refine body_ cdv X.A X.stack s' H1 Q f c' (X.env.qual ++ "<lambda>") (fun E H' Q' => t E σ H' Q') ⟨hr', hr.gd⟩ (fun W pn xe p1 p2 tk => ⟨fun pinsZ sZ σZ HZ Q IZ hz => ?_⟩) hco (h c' H1 eN T1 hco)
    obtain ⟨hs, hc, ht⟩ := hz
    refine wpAny_Call_Name_kw (thn ((pe_var (pos := p1) (i := 0) hN0 hva hd1 hd2).run pinsZ sZ σZ HZ (fun v H1 => v = .ref f ∧ H1 = HZ) IZ ⟨.ref f, hs, rfl, rfl⟩) fun u s1 ⟨v, H2, I2, r2, q2⟩ => ?_)
    obtain ⟨ev, eH⟩ := q2
    subst ev
    rw [eH] at I2
    obtain rfl : u = Value.ref f := r2
    have of1 := I2.base.keep f _ hf hfn hfr (fun z => nomatch (show f ∈ ([] : List Addr) from z))
    have ot1 := I2.base.keep T0 _ ht0 hn0 hr0 (fun z => nomatch (show T0 ∈ ([] : List Addr) from z))
    refine PySem.W.callWith_F0 ⟨_, _, _, _, of1⟩ ?_
    have un : Un (frs X.stack) [] H1 HZ s'.heap s1.heap := I2.base
    have rl := lam_runD (X := X) (k := k) (E := fun cls d H' => W cls d σZ H') (A := X.A.deeper (envOfC x (defScope st) s'.heap.objs.size gf cdv)) (outer := envOfC x (defScope st) s'.heap.objs.size gf cdv :: X.stack) (s1 := s1) (Q := Q) I1 L np hc I2.env0 I2.nolimit of1 ot1 un (hbind _ _ _ _ _ _ _ _) hr' hr.gd (hbody _ _ _ _ _ _ _) ht
    refine wpAny_call (codeAny_mono rl fun r s2 hq => ?_)
    cases r with
    | error e => exact tk e s2 (XE.of_call (E := fun cls d H' => W cls d σZ H') I2 (fun _ _ _ z => z) hq)
    | ok fl =>
      cases fl with
      | ret u => exact I2.after hq
      | next => exact False.elim hq
      | brk => exact False.elim hq
      | cont => exact False.elim hq
  refine wpAny_call (codeAny_mono rc fun r s2 hq => ?_)
  cases r with
  | error e =>
    obtain ⟨_, _, _, _, _, _, _, _, _, _, _, _, z⟩ := hq
    exact z.elim
  | ok fl =>
    cases fl with
    | ret u => exact I1.after hq
    | next => exact False.elim hq
    | brk => exact False.elim hq
    | cont => exact False.elim hq
end
section
variable {g : Wd} {k : Nat} {N ps : List Str} {x ap qual : Str} {st : Stmt} {f c P : Addr} {A : Around} {outer : List Env} {s : Shared} {H : Hp} {E : XK} {T : List (Addr × Str)} {TT : Addr → Str → (XK → Hp → VK → Prop) → Hp → VK → Prop}
  {params : Arguments} {body : Expr} {scope : Scope} {t : XK → TE} {p lpos pos : Pos} {z : Int} {kk : Nat} {pp : Pos}
/-- x(lambda ap=0: body), in a def that is walked -/
theorem pe_lamD (ap : Str) (F : Told g (k + 1) x TT) (L : LamT g T c P qual) (hr : Rm (k + 2) (cx g N qual st f (.ref c) A outer s H E)) (LS : lamDB ap (defScope st) scope = true)
    (hbody : ∀ (A' : Around) (outer' : List Env) (s' : Shared) (H' : Hp) (E' : XK) (f' c' : Addr), Rm k (lamCx (cx g N qual st f (.ref c) A outer s H E) A' outer' s' H' E' scope f' c') → PE (lamCx (cx g N qual st f (.ref c) A outer s H E) A' outer' s' H' E' scope f' c') body (t E'))
    (np : ap ∉ N := by decide +kernel) (hdf : params.defaults = [.Constant (.int z) kk pp] := by rfl) (hk0 : params.kw_defaults = [] := by rfl)
    (hbind : ∀ (q : Str) (cl : List (Str × Addr)) (T0 : Addr) (v0 doc pm cv ctv : Value), ∃ kk, bindArgs (PySem.W.kdv_fn "<lambda>" q params (.expr body) scope cl (.ref T0) doc pm cv ctv) ⟨[], []⟩ = seqItems? (.ref T0) >>= kk ∧ kk (some #[v0]) = pure [(ap, v0)] := by intro _ _ _ _ _ _ _ _; exact ⟨_, rfl, rfl⟩)
    (hg : Gl (cx g N qual st f (.ref c) A outer s H E) x := by rfl) (hdb : (x == ("__debug__" : Str)) = false := by decide) :
    PE (cx g N qual st f (.ref c) A outer s H E) (.Call (.Name x p) [.Lambda params body scope lpos] [] pos) (tLamG T TT ((qual ++ ".<locals>.") ++ "<lambda>") t) :=
  pe_lamGD F hr L.tb rfl L.mem L.uni (lamD_by LS) np hdf hk0 hbind hbody hg hdb
end
end RS


/-! C.m(x, ..), C a class of the text, m a classmethod def m(cls, *xs) -/
namespace RS
open PySem PySem.Spec L2 PyProof.Rows ClX
/-- the module's name c holds the class at C, whose classmethod m does what sp says -/
def KcmS (g : Wd) (C : Addr) (m : Str) (k : Nat) (sp : Sp) : Prop := ∃ p f mc, CRead g.K C mc ∧ CMet g.K C mc m p f ∧ FnS g k f sp
section
variable {g : Wd} {X : Cx} {k : Nat} {f C q : Addr} {sp : Sp} {W : WX} {m : Str} {o e : Expr} {es : List Expr} {pos apos : Pos} {ta : TE} {t : TA} {pl : Sem Bool}
theorem call_cmS (a : At g X) (F : FnS g k f sp) (hr : Rm k X) (tk : Takes X W) {pins : List (Addr × Obj)} {σ : L2.St} {H : Hp} {s : Shared} {Q : VK} {us : List Value} {vs : List V} (I : Inv X ((q, PySem.W.methodObj (.ref f) (.ref C)) :: pins) σ H s) (r : Vals vs us)
    (h : sp (.ref C :: vs) H Q (fun c d H' => W c d σ H')) : wpAny (model X.prog X.w) X.A (call (.ref q) us) (EP X pins σ Q) X.xe s := by
  obtain ⟨P, w, K, mg, base⟩ := g
  obtain ⟨rfl, rfl, rfl, rfl, rfl⟩ := a
  refine wpAny_call (PySem.W.method_call (pin_at I) (codeAny_mono (F X.A X.stack s H (.ref C :: us) (.ref C :: vs) Q _ hr.room hr.gd I.env0 (.cons rfl r) h) fun res s' hq => ?_))
  cases res with
  | error e => exact tk e s' (XE.of_call (E := fun c d H' => W c d σ H') I (fun _ _ _ z => z) hq)
  | ok fl => cases fl with
    | ret u => exact unpinE (I.after hq)
    | _ => exact hq.elim
/-- e.m(..), e the class at C -/
def tCMethS (C : Addr) (sp : Sp) (W : WX) (ta : TE) (t : TA) : TE := fun σ H Q => ta σ H fun x H1 => x = .ref C ∧ t σ H1 fun vs H2 => sp (.ref C :: vs) H2 Q (fun c d H' => W c d σ H')
theorem pe_cmS (he : PE X o ta) (F : KcmS g C m k sp) (hr : Rm k X) (tk : Takes X W) (ha : PA X (e :: es) t)
    (hst : starEach (e :: es) X.env = (false, eval e X.env) :: starEach es X.env := by rfl) (hpl : (backTo pos (starEach es X.env)).any (·.1) = false := by rfl)
    (ht : eval (.Call (.Attribute o m apos) (e :: es) [] pos) X.env = (do
      let ov ← eval o X.env
      standAt apos.atName
      let (f, first) ← holding [ov] (getMethod ov m pl)
      callWith pos f first (backTo pos (starEach (e :: es) X.env)) (backToKw pos (keywordEach [] X.env))) := by rfl) (a : At g X := by exact ⟨rfl, rfl, rfl, rfl, rfl⟩) :
    PE X (.Call (.Attribute o m apos) (e :: es) [] pos) (tCMethS C sp W ta t) := by
  obtain ⟨p, f, mc, r, c, F⟩ := F
  rw [← a.K] at r c
  refine ⟨fun pins s σ H Q I h => ?_⟩
  refine PySem.W.methodCall_KW (pl := pl) (thn (he.run pins s σ H _ I h) fun u s1 ⟨x, H1, I1, rx, ex, q⟩ => ?_) ht
  subst ex
  obtain rfl : u = Value.ref C := rx
  refine getmethcm_ok I1 r c fun s2 I2 => ?_
  refine callwith_cm I2 (base_none I1 (Nat.le_refl _)) c.fi (thn (ha.run pos _ s2 σ H1 _ I2 q) fun us s3 ⟨vs, H2, I3, rv, q2⟩ => ⟨⟨pin_at I3, I3.kIn⟩, ?_⟩) hst hpl
  exact call_cmS a F hr tk I3 rv q2
end
end RS
namespace RS
open PySem PySem.Spec L2 PyProof.Rows ClX
/-- z(), z a local name that holds the class at C -/
def tMakeL (C : Addr) (sp : Sp) (ds : List V) (W : WX) (ta : TE) : TE := fun σ H Q => ta σ H fun v H1 => v = .ref C ∧ tMakeG C sp ds W tNil σ H1 Q
theorem pe_makeL0 {g : Wd} {X : Cx} {k : Nat} {C : Addr} {sp : Sp} {ps : List Str} {ds : List V} {W : WX} {x z : Str} {p pos : Pos} {ta : TE} (he : PE X (.Name z p) ta) (F : Kc g x C k ps ds sp) (hr : Rm (k + 1) X) (tk : Takes X W) (a : At g X := by exact ⟨rfl, rfl, rfl, rfl, rfl⟩) :
    PE X (.Call (.Name z p) [] [] pos) (tMakeL C sp ds W ta) := by
  obtain ⟨hm, f, fd, dsV, M, F, hb, rd⟩ := F
  refine ⟨fun pins s σ H Q I h => wpAny_Call_Name_kw (thn (he.run pins s σ H _ I h) fun u s1 ⟨v, H1, I1, rv, ev, q⟩ => ?_)⟩
  subst ev
  obtain rfl : u = Value.ref C := rv
  refine PySem.W.callWith_K0 I1.kIn (by rw [a.K]; exact M.kp) (makeG a M F hr tk rd I1 (vs := [] ++ ds) rd (fun s' KI => ?_) q)
  have hl := F.len _ _ _ _ (q (s1.heap.objs.size + 1) s1.heap.objs.size (I1.hok.fresh (Nat.le_succ _)) (I1.hok.fresh (Nat.le_refl _)) (Nat.ne_of_lt (Nat.lt_succ_self _)))
  exact hb s' [.ref (s1.heap.objs.size + 1)] KI (by
    rw [← hl]
    show dsV.length + 1 = ds.length + 1
    rw [← rd.length])
end RS
namespace RS
open PySem PySem.Spec L2 PyProof.Rows ClX
/-! x not in o -/
section
variable {g : Wd} {X : Cx} {k : Nat} {C : Addr} {ps : List Str} {sp : Sp} {W : WX} {ds : List V} {a b : Expr} {ta tb : TE}
theorem c_ninOwn (F : Km g C "__contains__" k ps ds sp) (hr : Rm k X) (tk : Takes X W) (ha : PE X a ta) (hb : PE X b tb) (at_ : At g X := by exact ⟨rfl, rfl, rfl, rfl, rfl⟩) : PC X .NotIn a b (tInOwn C sp ds W true ta tb) := by
  obtain ⟨f, fd, dsV, hf, hi, hk, F, hbd, rd⟩ := F
  refine ⟨fun pins s σ H Q I h => ?_⟩
  refine thn (ha.run pins s σ H _ I h) fun iv s1 ⟨y, H1, I1, ry, q1⟩ => thn (hb.run pins s1 σ H1 _ I1 q1) fun u s2 ⟨x, H2, I2, rx, q, dx, fs, ex, ea, hs⟩ => ?_
  subst ex
  cases rx
  obtain ⟨mA, J, _⟩ := ins_get I2.hok ea
  obtain ⟨od, J, _⟩ := J.look
  obtain ⟨m, hF⟩ := I2.fr
  refine PySem.W.notIn_K hF I2.ok.mod.kin J (by rw [at_.K]; exact hf) (by rw [at_.K]; exact hi) ?_
  refine wpAny_mono (callB at_ F hr.here tk hbd rd (vs := [.ref q, y]) (us := [.ref q, iv]) I2 (.cons rfl (.cons ry .nil)) hs) ?_ fun _ _ z => z
  rintro v s' ⟨z, H', I', rz, c, rfl, hq⟩
  cases rz
  refine wpAny_truthy_bool ?_
  refine ⟨.bl (!c), H', I', rfl, ?_⟩
  cases c <;> exact hq
end
end RS


/-! a generator that sleeps stays as it is while other code runs: what is proved wherever its place in the table is dull (it cannot be woken, but looks the same) holds where it is not, and its place is kept -/
namespace RS
open PySem PySem.Spec L2 PyProof.Rows GenW
open Sem (wp)
/-- it looks the same, but cannot be woken -/
def dullOf : GenState → GenState
  | .suspended _ l c p fs cl => .suspended (fun _ => .unsupported "") l c p fs cl
  | x => x
def isSusp : GenState → Bool
  | .suspended .. => true
  | _ => false
/-- no generator's frame among its frames -/
def ngf : GenState → Prop
  | .suspended _ _ _ _ fs _ => splitAtGen fs = none
  | _ => True
def ngfE : End → Prop
  | .susp _ _ _ _ _ _ fs => splitAtGen fs = none
  | .ret _ => True
theorem ngf_state {e : End} (h : ngfE e) : ngf e.genState := by
  cases e with
  | ret r => trivial
  | susp v g l k c p fs => exact h
theorem dull_seen (x : GenState) : (dullOf x).seen = x.seen := by cases x <;> rfl
theorem dull_bare (x : GenState) : (dullOf x).bare = x.bare := by cases x <;> rfl
theorem split_cons {F : Frame} {fs : List Frame} (h : splitAtGen (F :: fs) = none) : splitAtGen fs = none ∧ ∀ g k l c p, F ≠ .gen g k l c p := by
  cases F with
  | gen g k l c p => cases h
  | ret k h' g l c p kp =>
    refine ⟨?_, fun _ _ _ _ _ z => by cases z⟩
    have h : (splitAtGen fs).map (fun (fs', b, r) => (Frame.ret k h' g l c p kp :: fs', b, r)) = none := h
    cases e : splitAtGen fs with
    | none => rfl
    | some x => rw [e] at h; cases h
theorem split_ret {fs : List Frame} {k h g l c p kp} (e : splitAtGen fs = none) : splitAtGen (.ret k h g l c p kp :: fs) = none := by
  show (splitAtGen fs).map _ = none
  rw [e]; rfl
theorem split_app : ∀ {fs gs : List Frame}, splitAtGen fs = none → splitAtGen gs = none → splitAtGen (fs ++ gs) = none
  | [], _, _, h => h
  | .gen .. :: _, _, h, _ => by cases h
  | .ret .. :: fs, gs, h, h2 => split_ret (split_app (split_cons h).1 h2)
/-- what is stuck ends nowhere -/
theorem no_unsup {M : Model} {wh : String} {Γ : PySem.Ctx} {p : Pos} {t : Sem PySem.Fin} {fs : List Frame} {s s' : Shared} {e : End} (r : Runs M Γ p t fs s e s') : t ≠ .unsupported wh := by
  induction r <;> first | (intro z; cases z; done) | assumption
/-! ### tables in which some places are held -/
def mend (Z : Nat → Option GenState) (G : Array GenState) : Array GenState := G.mapIdx fun i x => (Z i).getD x
theorem mend_size (Z : Nat → Option GenState) (G : Array GenState) : (mend Z G).size = G.size := by simp [mend]
theorem mend_get (Z : Nat → Option GenState) (G : Array GenState) (i : Nat) : (mend Z G)[i]? = G[i]?.map fun x => (Z i).getD x := by
  simp [mend, Array.getElem?_mapIdx]
theorem arr_ext {G G' : Array GenState} (h : ∀ i : Nat, G[i]? = G'[i]?) : G = G' := Array.ext_getElem? h
theorem mend_push {Z : Nat → Option GenState} {G : Array GenState} {x : GenState} (h : Z G.size = none) : mend Z (G.push x) = (mend Z G).push x := by
  refine arr_ext fun i => ?_
  rw [mend_get, Array.getElem?_push, Array.getElem?_push, mend_size, mend_get]
  by_cases e : i = G.size
  · rw [if_pos e, if_pos e, e, Option.map_some, h]; rfl
  · rw [if_neg e, if_neg e]
theorem mend_set {Z : Nat → Option GenState} {G : Array GenState} {i : Nat} {x : GenState} (h : Z i = none) : mend Z (G.setIfInBounds i x) = (mend Z G).setIfInBounds i x := by
  refine arr_ext fun j => ?_
  rw [mend_get, Array.getElem?_setIfInBounds, Array.getElem?_setIfInBounds, mend_size, mend_get]
  by_cases e : i = j
  · rw [if_pos e, if_pos e]
    subst e
    by_cases l : i < G.size
    · simp [l, h]
    · simp [l]
  · rw [if_neg e, if_neg e]
/-- the held places are dull, the others hold no generator's frame -/
structure Held (Z : Nat → Option GenState) (G : Array GenState) : Prop where
  at_ : ∀ i z, Z i = some z → isSusp z = true ∧ G[i]? = some (dullOf z)
  free : ∀ (i : Nat) (x : GenState), Z i = none → G[i]? = some x → ngf x
theorem Held.out {Z : Nat → Option GenState} {G : Array GenState} (h : Held Z G) : Z G.size = none := by
  cases e : Z G.size with
  | none => rfl
  | some z => have := (h.at_ _ z e).2; simp at this
theorem Held.push {Z : Nat → Option GenState} {G : Array GenState} (h : Held Z G) {x : GenState} (hx : ngf x) : Held Z (G.push x) := by
  refine ⟨fun i z e => ⟨(h.at_ i z e).1, ?_⟩, fun i y e q => ?_⟩
  · rw [Array.getElem?_push, if_neg (fun w => by rw [w, h.out] at e; cases e)]
    exact (h.at_ i z e).2
  · rw [Array.getElem?_push] at q
    split at q
    · cases q; exact hx
    · exact h.free i y e q
theorem Held.set {Z : Nat → Option GenState} {G : Array GenState} (h : Held Z G) {j : Nat} {x : GenState} (hj : Z j = none) (hx : ngf x) : Held Z (G.setIfInBounds j x) := by
  refine ⟨fun i z e => ⟨(h.at_ i z e).1, ?_⟩, fun i y e q => ?_⟩
  · rw [Array.getElem?_setIfInBounds, if_neg (fun w => by rw [w, e] at hj; cases hj)]
    exact (h.at_ i z e).2
  · rw [Array.getElem?_setIfInBounds] at q
    split at q
    · split at q
      · cases q; exact hx
      · cases q
    · exact h.free i y e q
def mendS (Z : Nat → Option GenState) (s : Shared) : Shared := { s with gens := mend Z s.gens }
theorem mendS_set {Z : Nat → Option GenState} {s : Shared} {i : Nat} {x : GenState} (h : Z i = none) : mendS Z (s.setGen i x) = (mendS Z s).setGen i x := by
  show ({ s with gens := _ } : Shared) = { s with gens := _ }
  congr 1
  exact mend_set h
/-- the place of what is no dull one is free -/
theorem Held.no {Z : Nat → Option GenState} {G : Array GenState} (h : Held Z G) {i : Nat} {x : GenState} (e : G[i]? = some x) (n : isSusp x = false) : Z i = none ∧ (mend Z G)[i]? = some x := by
  have hz : Z i = none := by
    cases q : Z i with
    | none => rfl
    | some z =>
      obtain ⟨h1, h2⟩ := h.at_ i z q
      rw [e] at h2
      cases h2
      cases z <;> simp [isSusp, dullOf] at h1 n
  exact ⟨hz, by rw [mend_get, e, Option.map_some, hz]; rfl⟩
theorem Held.seen {Z : Nat → Option GenState} {G : Array GenState} (h : Held Z G) {i : Nat} {x : GenState} (e : G[i]? = some x) : ∃ x', (mend Z G)[i]? = some x' ∧ x'.seen = x.seen := by
  refine ⟨(Z i).getD x, by rw [mend_get, e]; rfl, ?_⟩
  cases q : Z i with
  | none => rfl
  | some z =>
    have := (h.at_ i z q).2
    rw [e] at this
    cases this
    exact (dull_seen z).symm
theorem mendS_push {Z : Nat → Option GenState} {s : Shared} {x : GenState} (h : Z s.gens.size = none) : mendS Z { s with gens := s.gens.push x } = { mendS Z s with gens := (mendS Z s).gens.push x } := by
  show ({ s with gens := _ } : Shared) = { s with gens := _ }
  congr 1
  exact mend_push h
/-- THE REPLAY -/
theorem replay {M : Model} {Z : Nat → Option GenState} {Γ : PySem.Ctx} {p : Pos} {t : Sem PySem.Fin} {fs : List Frame} {s s' : Shared} {e : End} (r : Runs M Γ p t fs s e s') :
    splitAtGen fs = none → Held Z s.gens → Held Z s'.gens ∧ ngfE e ∧ Runs M Γ p t fs (mendS Z s) e (mendS Z s') := by
  induction r with
  | done => exact fun _ h => ⟨h, trivial, .done⟩
  | raise => exact fun _ h => ⟨h, trivial, .raise⟩
  | again q _ ih => exact fun f h => ⟨(ih f h).1, (ih f h).2.1, .again q (ih f h).2.2⟩
  | rule _ ih => exact fun f h => ⟨(ih f h).1, (ih f h).2.1, .rule (ih f h).2.2⟩
  | «at» _ ih => exact fun f h => ⟨(ih f h).1, (ih f h).2.1, .at (ih f h).2.2⟩
  | load e _ ih => exact fun f h => ⟨(ih f h).1, (ih f h).2.1, .load e (ih f h).2.2⟩
  | update e _ ih => exact fun f h => ⟨(ih f h).1, (ih f h).2.1, .update e (ih f h).2.2⟩
  | loadIfAlive _ ih => exact fun f h => ⟨(ih f h).1, (ih f h).2.1, .loadIfAlive (ih f h).2.2⟩
  | point _ ih => exact fun f h => ⟨(ih f h).1, (ih f h).2.1, .point (ih f h).2.2⟩
  | alloc _ ih => exact fun f h => ⟨(ih f h).1, (ih f h).2.1, .alloc (ih f h).2.2⟩
  | fresh _ ih => exact fun f h => ⟨(ih f h).1, (ih f h).2.1, .fresh (ih f h).2.2⟩
  | ask _ ih => exact fun f h => ⟨(ih f h).1, (ih f h).2.1, .ask (ih f h).2.2⟩
  | choose q _ ih => exact fun f h => ⟨(ih f h).1, (ih f h).2.1, .choose q (ih f h).2.2⟩
  | os _ ih => exact fun f h => ⟨(ih f h).1, (ih f h).2.1, .os (ih f h).2.2⟩
  | handled _ ih => exact fun f h => ⟨(ih f h).1, (ih f h).2.1, .handled (ih f h).2.2⟩
  | stack _ ih => exact fun f h => ⟨(ih f h).1, (ih f h).2.1, .stack (ih f h).2.2⟩
  | thread _ ih => exact fun f h => ⟨(ih f h).1, (ih f h).2.1, .thread (ih f h).2.2⟩
  | genState e1 _ ih =>
    intro f h
    obtain ⟨st', hm, es⟩ := h.seen e1
    refine ⟨(ih f h).1, (ih f h).2.1, .genState hm ?_⟩
    rw [es]
    exact (ih f h).2.2
  | newGen _ ih =>
    intro f h
    obtain ⟨a, b, q⟩ := ih f (h.push trivial)
    refine ⟨a, b, .newGen ?_⟩
    rw [mendS_push h.out] at q
    rw [show (mendS Z _).gens.size = _ from mend_size _ _]
    exact q
  | call _ _ ih1 ih2 =>
    intro f h
    obtain ⟨a1, _, q1⟩ := ih1 rfl h
    obtain ⟨a2, b2, q2⟩ := ih2 f a1
    exact ⟨a2, b2, .call q1 q2⟩
  | callSusp _ ih =>
    intro f h
    obtain ⟨a, b, q⟩ := ih rfl h
    exact ⟨a, split_app b (split_ret rfl), .callSusp q⟩
  | yield => exact fun _ h => ⟨h, rfl, .yield⟩
  | @resumeFresh Γ p g l k s c e₁ s₁ e s' e1 _ hq _ ih1 ih2 =>
    intro f h
    obtain ⟨hz, hm⟩ := h.no e1 rfl
    obtain ⟨a1, b1, q1⟩ := ih1 rfl (h.set hz trivial)
    obtain ⟨a2, b2, q2⟩ := ih2 f (a1.set hz (ngf_state b1))
    rw [mendS_set hz] at q1 q2
    exact ⟨a2, b2, .resumeFresh hm q1 hq q2⟩
  | @resumeSuspended Γ p g rr l k s k₀ l₀ c₀ p₀ fs cl e₁ s₁ e s' e1 r1 hq _ ih1 ih2 =>
    intro f h
    cases hz : Z g with
    | some z =>
      obtain ⟨h1, h2⟩ := h.at_ g z hz
      rw [e1] at h2
      cases z with
      | suspended k' l' c' p' fs' cl' =>
        have h3 := Option.some.inj h2
        injection h3 with h4
        rw [h4] at r1
        exact absurd rfl (no_unsup (wh := "") r1)
      | _ => simp [isSusp] at h1
    | none =>
      have hm : (mend Z s.gens)[g]? = some (.suspended k₀ l₀ c₀ p₀ fs cl) := by rw [mend_get, e1, Option.map_some, hz]; rfl
      obtain ⟨a1, b1, q1⟩ := ih1 (h.free g _ hz e1) (h.set hz trivial)
      obtain ⟨a2, b2, q2⟩ := ih2 f (a1.set hz (ngf_state b1))
      rw [mendS_set hz] at q1 q2
      exact ⟨a2, b2, .resumeSuspended hm q1 hq q2⟩
  | resumeJustStarted e1 hv _ ih =>
    intro f h
    obtain ⟨hz, hm⟩ := h.no e1 rfl
    exact ⟨(ih f h).1, (ih f h).2.1, .resumeJustStarted hm hv (ih f h).2.2⟩
  | resumeThrowFresh e1 _ ih =>
    intro f h
    obtain ⟨hz, hm⟩ := h.no e1 rfl
    obtain ⟨a, b, q⟩ := ih f (h.set hz trivial)
    rw [mendS_set hz] at q
    exact ⟨a, b, .resumeThrowFresh hm q⟩
  | resumeRunning e1 _ ih =>
    intro f h
    obtain ⟨hz, hm⟩ := h.no e1 rfl
    exact ⟨(ih f h).1, (ih f h).2.1, .resumeRunning hm (ih f h).2.2⟩
  | resumeFinished e1 _ ih =>
    intro f h
    obtain ⟨hz, hm⟩ := h.no e1 rfl
    exact ⟨(ih f h).1, (ih f h).2.1, .resumeFinished hm (ih f h).2.2⟩
  | segRet _ _ ih1 ih2 =>
    intro f h
    obtain ⟨a1, _, q1⟩ := ih1 rfl h
    obtain ⟨a2, b2, q2⟩ := ih2 (split_cons f).1 a1
    exact ⟨a2, b2, .segRet q1 q2⟩
  | segGen _ _ _ _ => intro f; cases f
  | segSuspOut f1 _ ih =>
    intro f h
    obtain ⟨a, b, q⟩ := ih rfl h
    exact ⟨a, split_app b f, .segSuspOut f1 q⟩
  | segSuspGen f1 _ _ _ _ _ => intro f; rw [f] at f1; cases f1
theorem wakes_mend {M : Model} {Z : Nat → Option GenState} {Γ : PySem.Ctx} {p : Pos} {g : Nat} {r : Resume} {s s' : Shared} {res : GenResult} (h : Held Z s.gens) (w : Wakes M Γ p g r s res s') :
    Held Z s'.gens ∧ Wakes M Γ p g r (mendS Z s) res (mendS Z s') := by
  cases e : s.gens[g]? with
  | none => unfold Wakes at w; rw [e] at w; exact w.elim
  | some x =>
    unfold Wakes at w ⊢
    rw [e] at w
    cases x with
    | fresh c =>
      obtain ⟨hz, hm⟩ := h.no e rfl
      rw [show (mendS Z s).gens[g]? = _ from hm]
      cases r with
      | throw x =>
        obtain ⟨w1, w2⟩ := w
        subst w2
        exact ⟨h.set hz trivial, w1, mendS_set hz⟩
      | send v =>
        cases v with
        | none =>
          obtain ⟨e1, s1, r1, q1, w1, w2⟩ := w
          subst w2
          obtain ⟨a, b, c1⟩ := replay r1 rfl (h.set hz trivial)
          rw [mendS_set hz] at c1
          exact ⟨a.set hz (ngf_state b), e1, _, c1, q1, w1, mendS_set hz⟩
        | _ => obtain ⟨w1, w2⟩ := w; subst w2; exact ⟨h, w1, rfl⟩
    | suspended k₀ l₀ c₀ p₀ fs cl =>
      obtain ⟨e1, s1, r1, q1, w1, w2⟩ := w
      cases hz : Z g with
      | some z =>
        obtain ⟨h1, h2⟩ := h.at_ g z hz
        rw [e] at h2
        cases z with
        | suspended k' l' c' p' fs' cl' =>
          have h3 := Option.some.inj h2
          injection h3 with h4
          rw [h4] at r1
          exact absurd rfl (no_unsup (wh := "") r1)
        | _ => simp [isSusp] at h1
      | none =>
        have hm : (mend Z s.gens)[g]? = some (.suspended k₀ l₀ c₀ p₀ fs cl) := by rw [mend_get, e, Option.map_some, hz]; rfl
        rw [show (mendS Z s).gens[g]? = _ from hm]
        obtain ⟨a, b, c1⟩ := replay r1 (h.free g _ hz e) (h.set hz trivial)
        rw [mendS_set hz] at c1
        subst w2
        exact ⟨a.set hz (ngf_state b), e1, _, c1, q1, w1, mendS_set hz⟩
    | running =>
      obtain ⟨hz, hm⟩ := h.no e rfl
      rw [show (mendS Z s).gens[g]? = _ from hm]
      obtain ⟨w1, w2⟩ := w
      subst w2
      exact ⟨h, w1, rfl⟩
    | finished =>
      obtain ⟨hz, hm⟩ := h.no e rfl
      rw [show (mendS Z s).gens[g]? = _ from hm]
      obtain ⟨w1, w2⟩ := w
      subst w2
      exact ⟨h, w1, rfl⟩
/-- what holds behind the dull run holds, mended -/
def Mended {α : Type} (Z : Nat → Option GenState) (Q : α → Pos → Shared → Prop) : α → Pos → Shared → Prop := fun a p s' => ∃ s1, Held Z s1.gens ∧ s' = mendS Z s1 ∧ Q a p s1
theorem wp_mend {α : Type} (M : Model) (Γ : PySem.Ctx) (Z : Nat → Option GenState) (t : Sem α) : ∀ (Q : α → Pos → Shared → Prop) (E : Value → Pos → Shared → Prop) (p : Pos) (s : Shared), Held Z s.gens → wp M Γ t Q E p s → wp M Γ t (Mended Z Q) (Mended Z E) p (mendS Z s) := by
  induction t with
  | pure a => intro Q E p s hn h; exact ⟨s, hn, rfl, h⟩
  | raise e => intro Q E p s hn h; exact ⟨s, hn, rfl, h⟩
  | unsupported _ => intro Q E p s _ h; exact h
  | finish _ => intro Q E p s _ h; exact h
  | rule _ k ih => intro Q E p s hn h; exact ih () Q E p s hn h
  | «at» p' k ih => intro Q E p s hn h; exact ih () Q E p' s hn h
  | load a _ k ih => intro Q E p s hn h; obtain ⟨o, ho, h⟩ := h; exact ⟨o, ho, ih o Q E p s hn h⟩
  | update a _ f k ih => intro Q E p s hn h; exact ⟨h.1, ih () Q E p { s with heap := s.heap.update a f } hn h.2⟩
  | loadIfAlive a k ih => intro Q E p s hn h; exact ih _ Q E p s hn h
  | point _ k ih => intro Q E p s hn h; exact ih () Q E p s hn h
  | register _ _ => intro Q E p s _ h; exact h
  | alloc o k ih => intro Q E p s hn h; exact ih _ Q E p { s with heap := s.heap.push o } hn h
  | fresh k ih => intro Q E p s hn h; exact ih _ Q E p { s with toks := s.toks + 1 } hn h
  | ask k ih => intro Q E p s hn h; exact ih _ Q E p s hn h
  | choose src m k ih => intro Q E p s hn h; exact ⟨h.1, ih _ Q E p { s with drawn := s.drawn.bump src } hn h.2⟩
  | os q _ k ih => intro Q E p s hn h; exact ih _ Q E p { s with os := (Os.step s.os q).1 } hn h
  | call c hd _ _ k ih =>
    intro Q E p s hn h
    obtain ⟨r, s', hr, h⟩ := h
    obtain ⟨a, _, q⟩ := replay hr rfl hn
    exact ⟨r, mendS Z s', q, ih r Q E p s' a h⟩
  | handled own k ih => intro Q E p s hn h; exact ih _ Q E p s hn h
  | genState g k ih =>
    intro Q E p s hn h
    obtain ⟨st, hs, h⟩ := h
    obtain ⟨st', hm, es⟩ := hn.seen hs
    exact ⟨st', hm, by rw [es]; exact ih _ Q E p s hn h⟩
  | newGen c k ih =>
    intro Q E p s hn h
    have q := ih _ Q E p _ (hn.push (x := .fresh c) trivial) h
    rw [mendS_push hn.out] at q
    show wp M Γ (k (mendS Z s).gens.size) _ _ p _
    rw [show (mendS Z s).gens.size = s.gens.size from mend_size _ _]
    exact q
  | resume g r _ k ih =>
    intro Q E p s hn h
    obtain ⟨res, s', hw, h⟩ := h
    obtain ⟨a, q⟩ := wakes_mend hn hw
    exact ⟨res, mendS Z s', q, ih res Q E p s' a h⟩
  | yield _ _ _ _ => intro Q E p s _ h; exact h
  | stack k ih => intro Q E p s hn h; exact ih _ Q E p s hn h
  | fork _ _ => intro Q E p s _ h; exact h
  | thread k ih => intro Q E p s hn h; exact ih _ Q E p s hn h
  | await _ _ _ _ _ => intro Q E p s _ h; exact h
/-- the places to be held: g's, and those that hold a generator's frame -/
def Zof (G : Array GenState) (g : Nat) : Nat → Option GenState := fun i => match G[i]? with
  | some (.suspended k l c p fs cl) => if i = g ∨ (splitAtGen fs).isSome then some (.suspended k l c p fs cl) else none
  | _ => none
def dullG (G : Array GenState) (g : Nat) : Array GenState := G.mapIdx fun i x => if (Zof G g i).isSome then dullOf x else x
theorem dullG_get (G : Array GenState) (g i : Nat) : (dullG G g)[i]? = G[i]?.map fun x => if (Zof G g i).isSome then dullOf x else x := by
  simp [dullG, Array.getElem?_mapIdx]
theorem zof_some {G : Array GenState} {g i : Nat} {z : GenState} (h : Zof G g i = some z) : isSusp z = true ∧ G[i]? = some z := by
  unfold Zof at h
  split at h
  · rename_i e
    split at h
    · cases h; exact ⟨rfl, e⟩
    · cases h
  · cases h
theorem zof_none {G : Array GenState} {g i : Nat} {x : GenState} (h : Zof G g i = none) (e : G[i]? = some x) : ngf x := by
  unfold Zof at h
  rw [e] at h
  cases x with
  | suspended k l c p fs cl =>
    simp only at h
    split at h
    · cases h
    · rename_i n
      show splitAtGen fs = none
      cases q : splitAtGen fs with
      | none => rfl
      | some y => exact absurd (.inr (by rw [q]; rfl)) n
  | _ => trivial
theorem held_dull (G : Array GenState) (g : Nat) : Held (Zof G g) (dullG G g) := by
  refine ⟨fun i z h => ?_, fun i x h e => ?_⟩
  · obtain ⟨h1, h2⟩ := zof_some h
    exact ⟨h1, by rw [dullG_get, h2, Option.map_some, h]; rfl⟩
  · rw [dullG_get] at e
    cases q : G[i]? with
    | none => rw [q] at e; cases e
    | some y =>
      rw [q, Option.map_some, h] at e
      cases e
      exact zof_none h q
theorem mend_dull (G : Array GenState) (g : Nat) : mend (Zof G g) (dullG G g) = G := by
  refine arr_ext fun i => ?_
  rw [mend_get, dullG_get]
  cases q : G[i]? with
  | none => rfl
  | some y =>
    rw [Option.map_some, Option.map_some]
    cases z : Zof G g i with
    | none => rfl
    | some w =>
      have := (zof_some z).2
      rw [q] at this
      cases this
      rfl
theorem bare_iff {G : Array GenState} : AllBare G ↔ ∀ (i : Nat) (x : GenState), G[i]? = some x → x.bare = true := by
  refine ⟨fun h i x e => h x (Array.mem_of_getElem? e), fun h x m => ?_⟩
  obtain ⟨i, hi, e⟩ := Array.mem_iff_getElem.mp m
  exact h i x (by rw [Array.getElem?_eq_getElem hi, e])
theorem bare_dull {G : Array GenState} {g : Nat} (h : AllBare G) : AllBare (dullG G g) := bare_iff.mpr fun i x e => by
  rw [dullG_get] at e
  cases q : G[i]? with
  | none => rw [q] at e; cases e
  | some y =>
    rw [q, Option.map_some] at e
    have hy := bare_iff.mp h i y q
    cases e
    split
    · rw [dull_bare]; exact hy
    · exact hy
theorem bare_mend {G G1 : Array GenState} {g : Nat} (h : AllBare G) (h1 : AllBare G1) : AllBare (mend (Zof G g) G1) := bare_iff.mpr fun i x e => by
  rw [mend_get] at e
  cases q : G1[i]? with
  | none => rw [q] at e; cases e
  | some y =>
    rw [q, Option.map_some] at e
    cases e
    cases z : Zof G g i with
    | none => exact bare_iff.mp h1 i y q
    | some w => exact bare_iff.mp h i w (zof_some z).2
/-- A SLEEPER IS KEPT: what is proved wherever the table is bare leaves g's place as it is -/
theorem asleep {α : Type} {M : Model} {A : Around} {t : Sem α} {Q : α → Shared → Prop} {E : Value → Shared → Prop} {s : Shared} {g : Nat} {gs : GenState} (hg : s.gens[g]? = some gs) (hs : isSusp gs = true) (hb : AllBare s.gens)
    (h : ∀ G, AllBare G → wpAny M A t Q E { s with gens := G }) :
    wpAny M A t (fun a s' => s'.gens[g]? = some gs ∧ ∃ G, Q a { s' with gens := G } ∧ (AllBare G → AllBare s'.gens)) (fun e s' => s'.gens[g]? = some gs ∧ ∃ G, E e { s' with gens := G } ∧ (AllBare G → AllBare s'.gens)) s := by
  intro Γ p hΓ
  have hz : Zof s.gens g g = some gs := by
    unfold Zof
    rw [hg]
    cases gs with
    | suspended k l c p fs cl => exact if_pos (.inl rfl)
    | _ => simp [isSusp] at hs
  have w := wp_mend M Γ (Zof s.gens g) t _ _ p { s with gens := dullG s.gens g } (held_dull s.gens g) (h _ (bare_dull hb) Γ p hΓ)
  have es : mendS (Zof s.gens g) { s with gens := dullG s.gens g } = s := by
    show ({ s with gens := mend (Zof s.gens g) (dullG s.gens g) } : Shared) = s
    rw [mend_dull]
  rw [es] at w
  have fin : ∀ {β : Type} {R : β → Shared → Prop} {b : β} {p' : Pos} {s' : Shared}, Mended (Zof s.gens g) (fun a _ s' => R a s') b p' s' → s'.gens[g]? = some gs ∧ ∃ G, R b { s' with gens := G } ∧ (AllBare G → AllBare s'.gens) := by
    rintro β R b p' s' ⟨s1, h1, rfl, q⟩
    refine ⟨?_, s1.gens, q, fun hb1 => bare_mend hb hb1⟩
    show (mend _ s1.gens)[g]? = _
    rw [mend_get, (h1.at_ g gs hz).2, Option.map_some, hz]
    rfl
  exact Sem.wp_mono M Γ t (fun a p' s' q => fin q) (fun e p' s' q => fin q) p s w
end RS


/-! a run has one end: two things that are proved of a run hold together -/
namespace RS
open PySem PySem.Spec L2 PyProof.Rows GenW
open Sem (wp)
theorem runs_one {M : Model} {Γ : PySem.Ctx} {p : Pos} {t : Sem PySem.Fin} {fs : List Frame} {s s' : Shared} {e : End} (r : Runs M Γ p t fs s e s') :
    ∀ {e2 : End} {s2 : Shared}, Runs M Γ p t fs s e2 s2 → e2 = e ∧ s2 = s' := by
  induction r with
  | done => intro e2 s2 q; cases q; exact ⟨rfl, rfl⟩
  | raise => intro e2 s2 q; cases q; exact ⟨rfl, rfl⟩
  | again _ _ ih => intro e2 s2 q; cases q with | again _ q => exact ih q
  | rule _ ih => intro e2 s2 q; cases q with | rule q => exact ih q
  | «at» _ ih => intro e2 s2 q; cases q with | «at» q => exact ih q
  | load e _ ih => intro e2 s2 q; cases q with | load e' q => rw [e] at e'; cases e'; exact ih q
  | update _ _ ih => intro e2 s2 q; cases q with | update _ q => exact ih q
  | loadIfAlive _ ih => intro e2 s2 q; cases q with | loadIfAlive q => exact ih q
  | point _ ih => intro e2 s2 q; cases q with | point q => exact ih q
  | alloc _ ih => intro e2 s2 q; cases q with | alloc q => exact ih q
  | fresh _ ih => intro e2 s2 q; cases q with | fresh q => exact ih q
  | ask _ ih => intro e2 s2 q; cases q with | ask q => exact ih q
  | choose _ _ ih => intro e2 s2 q; cases q with | choose _ q => exact ih q
  | os _ ih => intro e2 s2 q; cases q with | os q => exact ih q
  | handled _ ih => intro e2 s2 q; cases q with | handled q => exact ih q
  | genState e _ ih => intro e2 s2 q; cases q with | genState e' q => rw [e] at e'; cases e'; exact ih q
  | stack _ ih => intro e2 s2 q; cases q with | stack q => exact ih q
  | thread _ ih => intro e2 s2 q; cases q with | thread q => exact ih q
  | newGen _ ih => intro e2 s2 q; cases q with | newGen q => exact ih q
  | call _ _ ih1 ih2 =>
    intro e2 s2 q
    cases q with
    | call q1 q2 => obtain ⟨a, b⟩ := ih1 q1; cases a; subst b; exact ih2 q2
    | callSusp q1 => cases (ih1 q1).1
  | callSusp _ ih =>
    intro e2 s2 q
    cases q with
    | call q1 q2 => cases (ih q1).1
    | callSusp q1 => obtain ⟨a, b⟩ := ih q1; cases a; exact ⟨rfl, b⟩
  | yield => intro e2 s2 q; cases q; exact ⟨rfl, rfl⟩
  | resumeFresh e1 _ _ _ ih1 ih2 =>
    intro e2 s2 q
    cases q with
    | resumeFresh e1' q1 _ q2 => rw [e1] at e1'; cases e1'; obtain ⟨a, b⟩ := ih1 q1; cases a; subst b; exact ih2 q2
    | resumeSuspended e1' => rw [e1] at e1'; cases e1'
    | resumeJustStarted e1' hv => exact absurd rfl hv
    | resumeRunning e1' => rw [e1] at e1'; cases e1'
    | resumeFinished e1' => rw [e1] at e1'; cases e1'
  | resumeSuspended e1 _ _ _ ih1 ih2 =>
    intro e2 s2 q
    cases q with
    | resumeFresh e1' => rw [e1] at e1'; cases e1'
    | resumeSuspended e1' q1 _ q2 => rw [e1] at e1'; cases e1'; obtain ⟨a, b⟩ := ih1 q1; cases a; subst b; exact ih2 q2
    | resumeJustStarted e1' => rw [e1] at e1'; cases e1'
    | resumeThrowFresh e1' => rw [e1] at e1'; cases e1'
    | resumeRunning e1' => rw [e1] at e1'; cases e1'
    | resumeFinished e1' => rw [e1] at e1'; cases e1'
  | resumeJustStarted e1 hv _ ih =>
    intro e2 s2 q
    cases q with
    | resumeFresh e1' => exact absurd rfl hv
    | resumeSuspended e1' => rw [e1] at e1'; cases e1'
    | resumeJustStarted _ _ q => exact ih q
    | resumeRunning e1' => rw [e1] at e1'; cases e1'
    | resumeFinished e1' => rw [e1] at e1'; cases e1'
  | resumeThrowFresh e1 _ ih =>
    intro e2 s2 q
    cases q with
    | resumeSuspended e1' => rw [e1] at e1'; cases e1'
    | resumeThrowFresh _ q => exact ih q
    | resumeRunning e1' => rw [e1] at e1'; cases e1'
    | resumeFinished e1' => rw [e1] at e1'; cases e1'
  | resumeRunning e1 _ ih =>
    intro e2 s2 q
    cases q with
    | resumeFresh e1' => rw [e1] at e1'; cases e1'
    | resumeSuspended e1' => rw [e1] at e1'; cases e1'
    | resumeJustStarted e1' => rw [e1] at e1'; cases e1'
    | resumeThrowFresh e1' => rw [e1] at e1'; cases e1'
    | resumeRunning _ q => exact ih q
    | resumeFinished e1' => rw [e1] at e1'; cases e1'
  | resumeFinished e1 _ ih =>
    intro e2 s2 q
    cases q with
    | resumeFresh e1' => rw [e1] at e1'; cases e1'
    | resumeSuspended e1' => rw [e1] at e1'; cases e1'
    | resumeJustStarted e1' => rw [e1] at e1'; cases e1'
    | resumeThrowFresh e1' => rw [e1] at e1'; cases e1'
    | resumeRunning e1' => rw [e1] at e1'; cases e1'
    | resumeFinished _ q => exact ih q
  | segRet _ _ ih1 ih2 =>
    intro e2 s2 q
    cases q with
    | segRet q1 q2 => obtain ⟨a, b⟩ := ih1 q1; cases a; subst b; exact ih2 q2
    | segSuspOut _ q1 => cases (ih1 q1).1
    | segSuspGen _ q1 => cases (ih1 q1).1
  | segGen _ _ ih1 ih2 =>
    intro e2 s2 q
    cases q with
    | segGen q1 q2 => obtain ⟨a, b⟩ := ih1 q1; cases a; subst b; exact ih2 q2
    | segSuspOut _ q1 => cases (ih1 q1).1
    | segSuspGen _ q1 => cases (ih1 q1).1
  | segSuspOut f1 _ ih =>
    intro e2 s2 q
    cases q with
    | segRet q1 _ => cases (ih q1).1
    | segGen q1 _ => cases (ih q1).1
    | segSuspOut _ q1 => obtain ⟨a, b⟩ := ih q1; cases a; exact ⟨rfl, b⟩
    | segSuspGen f2 _ _ _ => rw [f1] at f2; cases f2
  | segSuspGen f1 _ _ _ ih1 ih2 =>
    intro e2 s2 q
    cases q with
    | segRet q1 _ => cases (ih1 q1).1
    | segGen q1 _ => cases (ih1 q1).1
    | segSuspOut f2 _ => rw [f1] at f2; cases f2
    | segSuspGen f2 q1 _ q2 => rw [f1] at f2; cases f2; obtain ⟨a, b⟩ := ih1 q1; cases a; subst b; exact ih2 q2
theorem wakes_one {M : Model} {Γ : PySem.Ctx} {p : Pos} {g : Nat} {r : Resume} {s s1 s2 : Shared} {a b : GenResult} (w : Wakes M Γ p g r s a s1) (w2 : Wakes M Γ p g r s b s2) : b = a ∧ s2 = s1 := by
  unfold Wakes at w w2
  cases e : s.gens[g]? with
  | none => rw [e] at w; exact w.elim
  | some x =>
    rw [e] at w w2
    cases x with
    | fresh c =>
      cases r with
      | throw y => exact ⟨w2.1.trans w.1.symm, w2.2.trans w.2.symm⟩
      | send v =>
        cases v with
        | none =>
          obtain ⟨e1, t1, r1, _, x1, y1⟩ := w
          obtain ⟨e2, t2, r2, _, x2, y2⟩ := w2
          obtain ⟨z1, z2⟩ := runs_one r1 r2
          subst z1 z2
          exact ⟨x2.trans x1.symm, y2.trans y1.symm⟩
        | _ => exact ⟨w2.1.trans w.1.symm, w2.2.trans w.2.symm⟩
    | suspended k l c p fs cl =>
      obtain ⟨e1, t1, r1, _, x1, y1⟩ := w
      obtain ⟨e2, t2, r2, _, x2, y2⟩ := w2
      obtain ⟨z1, z2⟩ := runs_one r1 r2
      subst z1 z2
      exact ⟨x2.trans x1.symm, y2.trans y1.symm⟩
    | running => exact ⟨w2.1.trans w.1.symm, w2.2.trans w.2.symm⟩
    | finished => exact ⟨w2.1.trans w.1.symm, w2.2.trans w.2.symm⟩
theorem wp_both {α : Type} (M : Model) (Γ : PySem.Ctx) (t : Sem α) : ∀ (Q Q' : α → Pos → Shared → Prop) (E E' : Value → Pos → Shared → Prop) (p : Pos) (s : Shared), wp M Γ t Q E p s → wp M Γ t Q' E' p s →
    wp M Γ t (fun a p s => Q a p s ∧ Q' a p s) (fun e p s => E e p s ∧ E' e p s) p s := by
  induction t with
  | pure a => exact fun _ _ _ _ _ _ h h' => ⟨h, h'⟩
  | raise e => exact fun _ _ _ _ _ _ h h' => ⟨h, h'⟩
  | unsupported _ => exact fun _ _ _ _ _ _ h _ => h
  | finish _ => exact fun _ _ _ _ _ _ h _ => h
  | rule _ k ih => exact fun _ _ _ _ _ _ h h' => ih () _ _ _ _ _ _ h h'
  | «at» p' k ih => exact fun _ _ _ _ _ _ h h' => ih () _ _ _ _ p' _ h h'
  | load a _ k ih =>
    rintro _ _ _ _ _ _ ⟨o, ho, h⟩ ⟨o', ho', h'⟩
    rw [ho] at ho'
    cases ho'
    exact ⟨o, ho, ih o _ _ _ _ _ _ h h'⟩
  | update a _ f k ih => exact fun _ _ _ _ _ _ h h' => ⟨h.1, ih () _ _ _ _ _ _ h.2 h'.2⟩
  | loadIfAlive a k ih => exact fun _ _ _ _ _ _ h h' => ih _ _ _ _ _ _ _ h h'
  | point _ k ih => exact fun _ _ _ _ _ _ h h' => ih () _ _ _ _ _ _ h h'
  | register _ _ => exact fun _ _ _ _ _ _ h _ => h
  | alloc o k ih => exact fun _ _ _ _ _ _ h h' => ih _ _ _ _ _ _ _ h h'
  | fresh k ih => exact fun _ _ _ _ _ _ h h' => ih _ _ _ _ _ _ _ h h'
  | ask k ih => exact fun _ _ _ _ _ _ h h' => ih _ _ _ _ _ _ _ h h'
  | choose src m k ih => exact fun _ _ _ _ _ _ h h' => ⟨h.1, ih _ _ _ _ _ _ _ h.2 h'.2⟩
  | os q _ k ih => exact fun _ _ _ _ _ _ h h' => ih _ _ _ _ _ _ _ h h'
  | call c hd _ _ k ih =>
    rintro _ _ _ _ _ _ ⟨r, s', hr, h⟩ ⟨r2, s2, hr2, h'⟩
    obtain ⟨a, b⟩ := runs_one hr hr2
    cases a
    subst b
    exact ⟨r, _, hr, ih r _ _ _ _ _ _ h h'⟩
  | handled own k ih => exact fun _ _ _ _ _ _ h h' => ih _ _ _ _ _ _ _ h h'
  | genState g k ih =>
    rintro _ _ _ _ _ _ ⟨st, hs, h⟩ ⟨st', hs', h'⟩
    rw [hs] at hs'
    cases hs'
    exact ⟨st, hs, ih _ _ _ _ _ _ _ h h'⟩
  | newGen c k ih => exact fun _ _ _ _ _ _ h h' => ih _ _ _ _ _ _ _ h h'
  | resume g r _ k ih =>
    rintro _ _ _ _ _ _ ⟨res, s', hw, h⟩ ⟨res', s2, hw', h'⟩
    obtain ⟨a, b⟩ := wakes_one hw hw'
    subst a b
    exact ⟨_, _, hw, ih _ _ _ _ _ _ _ h h'⟩
  | yield _ _ _ _ => exact fun _ _ _ _ _ _ h _ => h
  | stack k ih => exact fun _ _ _ _ _ _ h h' => ih _ _ _ _ _ _ _ h h'
  | fork _ _ => exact fun _ _ _ _ _ _ h _ => h
  | thread k ih => exact fun _ _ _ _ _ _ h h' => ih _ _ _ _ _ _ _ h h'
  | await _ _ _ _ _ => exact fun _ _ _ _ _ _ h _ => h
theorem wpAny_both {α : Type} {M : Model} {A : Around} {t : Sem α} {Q Q' : α → Shared → Prop} {E E' : Value → Shared → Prop} {s : Shared} (h : wpAny M A t Q E s) (h' : wpAny M A t Q' E' s) :
    wpAny M A t (fun a s => Q a s ∧ Q' a s) (fun e s => E e s ∧ E' e s) s := fun Γ p hΓ => wp_both M Γ t _ _ _ _ p s (h Γ p hΓ) (h' Γ p hΓ)
/-- what is proved wherever the table is bare holds here, and the sleeper is kept -/
theorem kept_asleep {α : Type} {M : Model} {A : Around} {t : Sem α} {Q Q' : α → Shared → Prop} {E E' : Value → Shared → Prop} {s : Shared} {g : Nat} {gs : GenState} (hg : s.gens[g]? = some gs) (hs : isSusp gs = true) (hb : AllBare s.gens)
    (h : wpAny M A t Q E s) (h' : ∀ G, AllBare G → wpAny M A t Q' E' { s with gens := G }) : wpAny M A t (fun a s' => Q a s' ∧ s'.gens[g]? = some gs) E s :=
  wpAny_mono (wpAny_both h (asleep hg hs hb h')) (fun _ _ q => ⟨q.1, q.2.1⟩) fun _ _ q => q.1
end RS


/-! next(g): what comes back is asleep -/
namespace RS
open PySem PySem.Spec L2 PyProof.Rows GenW
open Sem (wp)
section
variable {M : Model} {A : Around} {R : GenEnd} {Y : Protocol} {n g : Nat} {E : Value → Shared → Prop} {s : Shared} {gs : GenState} {r : Resume}
/-- what is asleep goes on by its protocol -/
abbrev Kap (M : Model) (A : Around) (R : GenEnd) (Y : Protocol) (n : Nat) (gs : GenState) : Resume → Shared → Prop := fun r' s'' => match n with
  | 0 => False
  | m + 1 => gs.Goes M A R Y m r' s''
theorem wpAny_wakeS {l : List Value} {α : Type} {k : GenResult → Sem α} {Q : α → Shared → Prop} (hg : s.gens[g]? = some gs) (hgo : gs.Goes M A R Y n r (s.setGen g .running))
    (hR : ∀ x s₁, R n (s.setGen g .running) x s₁ → wpAny M A (k (End.ret x).result) Q E (s₁.setGen g .finished))
    (hY : ∀ v s₁ gs', gs'.bare = true → isSusp gs' = true → Y (n - 1) (s.setGen g .running) v s₁ (Kap M A R Y n gs') → wpAny M A (k (.yielded v)) Q E (s₁.setGen g gs')) :
    wpAny M A (.resume g r l k) Q E s := by
  intro Γ p hΓ
  rw [Sem.wp_resume]
  have go : ∀ e s1, SegEnd R Y n (Seg.next M A R Y n) (s.setGen g .running) e s1 → e.quiet = true ∧ wp M Γ (k e.result) (fun a _ s' => Q a s') (fun e _ s' => E e s') p (s1.setGen g e.genState) := by
    intro e s1 he
    cases e with
    | ret x => exact ⟨rfl, hR x s1 he Γ p hΓ⟩
    | susp v b l0 k0 c0 p0 fs0 =>
      refine ⟨he.1, hY v s1 _ (End.bare_of_quiet he.1) rfl ?_ Γ p hΓ⟩
      cases n with
      | zero => exact he.2
      | succ m => exact he.2
  have fin : ∀ c p1 t fs e s1, Runs M (Γ.wake c p) p1 t fs (s.setGen g .running) e s1 → SegEnd R Y n (Seg.next M A R Y n) (s.setGen g .running) e s1 →
      (Runs M (Γ.wake c p) p1 t fs (s.setGen g .running) e s1 → Wakes M Γ p g r s e.result (s1.setGen g e.genState)) → ∃ res s', Wakes M Γ p g r s res s' ∧ wp M Γ (k res) (fun a _ s' => Q a s') (fun e _ s' => E e s') p s' :=
    fun c p1 t fs e s1 hr he hw => ⟨_, _, hw hr, (go e s1 he).2⟩
  cases gs with
  | running => exact hgo.elim
  | finished => exact hgo.elim
  | fresh c =>
    obtain ⟨er, hs⟩ := hgo
    subst er
    obtain ⟨e, s1, hr, he⟩ := seg_iff.mp hs (Γ.wake c p) p rfl (hΓ.wake c p)
    refine fin c _ _ _ e s1 hr he fun hr => ?_
    unfold Wakes
    rw [hg]
    exact ⟨e, s1, hr, (go e s1 he).1, rfl, rfl⟩
  | suspended k0 l0 c0 p0 fs0 cl =>
    obtain ⟨e, s1, hr, he⟩ := seg_iff.mp hgo (Γ.wake c0 p) p0 rfl (hΓ.wake c0 p)
    refine fin c0 _ _ _ e s1 hr he fun hr => ?_
    unfold Wakes
    rw [hg]
    exact ⟨e, s1, hr, (go e s1 he).1, rfl, rfl⟩
end
section
variable {P : Program} {w : World} {A : Around} {E : Value → Shared → Prop} {s : Shared}
/-- next(g), of a generator that raises nothing -/
theorem nextS {a : Addr} {g n : Nat} {gs : GenState} {F : Nat → Shared → Shared → Prop} {Y : Protocol} {Q : Option Value → Shared → Prop} (hh : A.handled = none) (hl : s.heap.NoLimit) (hroom : A.depth < recursionLimit)
    (hg : s.heap.IsGen a g) (hgs : s.gens[g]? = some gs) (hgo : gs.Goes (model P w) A.in1 (fun n s₀ r s₁ => r = .ok (.ret .none) ∧ F n s₀ s₁) Y n (.send .none) (s.setGen g .running))
    (hY : ∀ v s₁ gs', gs'.bare = true → isSusp gs' = true → Y (n - 1) (s.setGen g .running) v s₁ (Kap (model P w) A.in1 (fun n s₀ r s₁ => r = .ok (.ret .none) ∧ F n s₀ s₁) Y n gs') → Q (some v) (s₁.setGen g gs'))
    (hP : ∀ s₁, F n (s.setGen g .running) s₁ → ∀ h', (∀ b o, s₁.heap.get? b = some o → h'.get? b = some o) → Q none { s₁.setGen g .finished with heap := h' }) :
    wpAny (model P w) A (pyNext (.ref a)) Q E s := by
  unfold pyNext
  refine wpAny_bind (wpAny_attempt ?_)
  refine wpAny_callSpecial?_slot (name := Str.ofString "__next__") hg.typeIs slot_gen_next ?_
  refine wpAny_call_entry slot_gen_next hg.typeIs entry_gen_next ?_ (args_gen_next _)
  show wpAny _ A.in1 (Builtin.Generator.genWake (.ref a) (.send .none)) _ _ s
  unfold Builtin.Generator.genWake
  refine wpAny_bind (wpAny_holding ?_)
  refine wpAny_genNumber hg (wpAny_bind ?_)
  refine wpAny_genState hgs ?_
  cases gs with
  | running => exact hgo.elim
  | finished => exact hgo.elim
  | _ =>
    refine wpAny_bind (wpAny_roomToWake hl hroom ?_)
    show wpAny _ A.in1 (Sem.resume g (.send .none) [] _) _ _ s
    refine wpAny_wakeS hgs hgo (fun x s1 hx => ?_) fun v s1 gs' hb hsu hv => wpAny_pure ⟨v, rfl, wpAny_pure (hY v s1 gs' hb hsu hv)⟩
    obtain ⟨hr, hp⟩ := hx
    subst hr
    show wpAny _ A.in1 (newExc (.type "StopIteration") [] >>= _) _ _ _
    refine wpAny_bind ?_
    simp only [newExc, newTuple]
    refine wpAny_bind (wpAny_newObj_type ?_ (by size_fits))
    refine wpAny_bind (m := firstArgMember _ _) (wpAny_of_eq (a := Value.none) (by first | rfl | (simp only [firstArgMember]; rfl)) (wpAny_newObj_type ?_ (by size_fits)))
    simp only [raiseNew]
    refine wpAny_bind (wpAny_bind (wpAny_handled ?_))
    rw [show A.in1.handled = none from hh]
    refine wpAny_throw (wpAny_bind ?_)
    refine wpAny_isInstance (T := "StopIteration") (b := true) ⟨_, Heap.get?_push_size _ rfl, rfl⟩ isSubtype_stop ?_
    exact wpAny_pure (hP s1 hp _ fun b o hb => Heap.get?_push_of_some _ (Heap.get?_push_of_some _ hb))
end
end RS


/-! generator defs whose consumer does whatever it wants between two items: the body, told with what a yield wants -/
namespace RS
open PySem PySem.Spec L2 PyProof.Rows GenW
/-! ### the front of a heap -/
def frontH (L : Nat) (h : Heap) : Heap := { h with objs := h.objs.extract 0 L }
theorem ext_get {α : Type} (xs : Array α) {L b : Nat} (lt : b < L) : (xs.extract 0 L)[b]? = xs[b]? := by
  rw [Array.getElem?_extract]
  by_cases z : b < xs.size
  · rw [if_pos (by omega), Nat.zero_add]
  · rw [if_neg (by omega), Array.getElem?_eq_none (by omega)]
theorem front_get {L : Nat} {h : Heap} {b : Addr} (lt : b < L) : (frontH L h).get? b = h.get? b := by
  unfold frontH Heap.get?
  simp only [ext_get h.objs (show (b : Nat) < L from lt)]
theorem ext_size {α : Type} (xs : Array α) (L : Nat) : (xs.extract 0 L).size = min L xs.size := by simp
theorem front_some {L : Nat} {h : Heap} {b : Addr} {o : Obj} (e : (frontH L h).get? b = some o) : b < L ∧ h.get? b = some o := by
  have lt : (b : Nat) < (h.objs.extract 0 L).size := Heap.lt_size e
  rw [ext_size] at lt
  have l3 : b < L := Nat.lt_of_lt_of_le lt (Nat.min_le_left _ _)
  exact ⟨l3, by rw [← front_get l3]; exact e⟩
theorem front_size {L : Nat} {h : Heap} (l : L ≤ h.objs.size) : (frontH L h).objs.size = L := (ext_size _ _).trans (Nat.min_eq_left l)
theorem front_le {L : Nat} {h : Heap} : (frontH L h).objs.size ≤ L := Nat.le_trans (Nat.le_of_eq (ext_size _ _)) (Nat.min_le_left _ _)
def tr (L : Nat) (s : Shared) : Shared := { s with heap := frontH L s.heap }
/-- the context of a generator's body, woken at s0 with the heap H0; nothing is raised out of it -/
@[reducible] def reX (X : Cx) (s0 : Shared) (H0 : Hp) : Cx := { X with s_0 := tr X.env.locals s0, H_0 := H0, xe := fun _ _ => False }
/-! ### what is wanted -/
structure GKE where
  nx : Nat → L2.St → L2.St → Hp → Prop
  rt : Nat → L2.St → VK
  yl : Nat → L2.St → V → Hp → (L2.St → Hp → Prop) → Prop
  bk : Nat → L2.St → L2.St → Hp → Prop := fun _ _ _ _ => False
  ct : Nat → L2.St → L2.St → Hp → Prop := fun _ _ _ _ => False
/-- how many are out, the consumer's slots, its own slots, the heap -/
abbrev TK := GKE → Nat → L2.St → L2.St → Hp → Prop
def GKE.at (D : GKE) (i : Nat) (k : L2.St) : Ends := { nx := D.nx i k, rt := D.rt i k, bk := D.bk i k, ct := D.ct i k }
/-- what holds of the consumer where the generator is woken -/
abbrev LkR := Shared → L2.St → Hp → Prop
def LkL (X : Cx) (Lk : LkR) : LkR := fun s k H => X.env.locals ≤ s.heap.objs.size ∧ Lk s k H
def KSP (X : Cx) (ip : List (Addr × Obj)) (D : GKE) (i : Nat) (k : L2.St) (H0 : Hp) (s₀ : Shared) (f : Flow) (s : Shared) : Prop := match f with
  | .next => ∃ σ H, Inv (reX X s₀ H0) ip σ H s ∧ D.nx i k σ H
  | .brk => ∃ σ H, Inv (reX X s₀ H0) ip σ H s ∧ D.bk i k σ H
  | .cont => ∃ σ H, Inv (reX X s₀ H0) ip σ H s ∧ D.ct i k σ H
  | .ret u => ∃ v σ H, Inv (reX X s₀ H0) ip σ H s ∧ RelV v u ∧ D.rt i k v H
theorem ksp_of {X : Cx} {ip : List (Addr × Obj)} {D : GKE} {i : Nat} {k : L2.St} {H0 : Hp} {s₀ s : Shared} {f : Flow} (h : SP (reX X s₀ H0) ip (D.at i k) f s) : KSP X ip D i k H0 s₀ f s := by
  cases f <;> exact h
def KYp (X : Cx) (Lk : LkR) (yl : Nat → L2.St → V → Hp → (L2.St → Hp → Prop) → Prop) : Protocol := fun n s₀ v s kap =>
  ∃ i k H0 x ip σ H res, n + 1 + i = sizeLine ∧ RelV x v ∧ LkL X Lk s₀ k H0 ∧ Inv (reX X s₀ H0) ip σ H s ∧ yl i k x H res ∧
    ∀ k' H' s', LkL X Lk s' k' H' → Inv (reX X s' H') ip σ H' s' → res k' H' → kap (.send .none) s'
/-- where the generator's code stands -/
structure GKc (X : Cx) (A : Around) (c : Code) (fs : List Frame) (gd : Bool → Bool) : Prop where
  over : A.over c fs = X.A
  split : splitAtGen fs = none
  guard : fs.any Frame.guarded = false
  gd : gd false = false
theorem gkc_loop {X : Cx} {A : Around} {c c' : Code} {fs : List Frame} {gd : Bool → Bool} {k : Result → Sem PySem.Fin} {l kp : List Value} {p : Pos} (g : GKc X A c fs gd) (hw : c'.weight = 0) (hu : c'.cUnits = 0) :
    GKc X A c' (.ret k none (gd false) l c p kp :: fs) id :=
  ⟨(over_loop hw hu).trans g.over, split_ret g.split, by show (gd false || fs.any Frame.guarded) = false; rw [g.gd, g.guard]; rfl, rfl⟩
/-- what follows -/
def GKk (X : Cx) (Lk : LkR) (ip : List (Addr × Obj)) (A : Around) (R : GenEnd) (c : Code) (fs : List Frame) (K : Flow → Sem PySem.Fin) (D : GKE) : Prop :=
  ∀ (n i : Nat) (k : L2.St) (H0 : Hp) (s₀ s : Shared) (f : Flow), n + i = sizeLine → LkL X Lk s₀ k H0 → KSP X ip D i k H0 s₀ f s → Seg (model X.prog X.w) A R (KYp X Lk D.yl) n s₀ c (K f) fs s
structure GK (X : Cx) (st : Stmt) (t : TK) : Prop where
  run : ∀ (Lk : LkR) (A : Around) (ip : List (Addr × Obj)) (R : GenEnd) (n i : Nat) (k : L2.St) (H0 : Hp) (s₀ : Shared) (c : Code) (fs : List Frame) (K : Flow → Sem PySem.Fin) (J : Value → Sem PySem.Fin) (gd : Bool → Bool) (lv : List Value → List Value) (s : Shared) (σ : L2.St) (H : Hp) (D : GKE),
    GKc X A c fs gd → n + i = sizeLine → LkL X Lk s₀ k H0 → GKk X Lk ip A R c fs K D → Inv (reX X s₀ H0) ip σ H s → t D i k σ H → Seg (model X.prog X.w) A R (KYp X Lk D.yl) n s₀ c ((exec st X.env).wrap K J gd lv) fs s
structure GKs (X : Cx) (st : List Stmt) (t : TK) : Prop where
  run : ∀ (Lk : LkR) (A : Around) (ip : List (Addr × Obj)) (R : GenEnd) (n i : Nat) (k : L2.St) (H0 : Hp) (s₀ : Shared) (c : Code) (fs : List Frame) (K : Flow → Sem PySem.Fin) (J : Value → Sem PySem.Fin) (gd : Bool → Bool) (lv : List Value → List Value) (s : Shared) (σ : L2.St) (H : Hp) (D : GKE),
    GKc X A c fs gd → n + i = sizeLine → LkL X Lk s₀ k H0 → GKk X Lk ip A R c fs K D → Inv (reX X s₀ H0) ip σ H s → t D i k σ H → Seg (model X.prog X.w) A R (KYp X Lk D.yl) n s₀ c ((execs st X.env).wrap K J gd lv) fs s
section
variable {X : Cx} {st : Stmt} {rest : List Stmt}
def tKPlain (t : TS) : TK := fun D i k σ H => t (D.at i k) σ H
theorem gk_ps {t : TS} (h : ∀ s0 H0, PS (reX X s0 H0) st t) : GK X st (tKPlain t) := by
  refine ⟨fun Lk A ip R n i k H0 s₀ c fs K J gd lv s σ H D g hn lk kk I ht => seg_wrap ?_⟩
  rw [g.over]
  exact wpAny_mono ((h s₀ H0).run ip s σ H (D.at i k) I ht) (fun f s' hs => kk n i k H0 s₀ s' f hn lk (ksp_of hs)) fun _ _ z => z.elim
def tK0 : TK := fun D i k σ H => D.nx i k σ H
theorem gks_nil : GKs X [] tK0 := ⟨fun Lk A ip R n i k H0 s₀ c fs K J gd lv s σ H D g hn lk kk I ht => seg_execs_nil (kk n i k H0 s₀ s .next hn lk ⟨σ, H, I, ht⟩)⟩
def tKThen (t u : TK) : TK := fun D i k σ H => t { D with nx := fun i' k' σ' H' => u D i' k' σ' H' } i k σ H
theorem gks_cons {t u : TK} (a : GK X st t) (b : GKs X rest u) : GKs X (st :: rest) (tKThen t u) := by
  refine ⟨fun Lk A ip R n i k H0 s₀ c fs K J gd lv s σ H D g hn lk kk I ht => seg_execs_cons ?_⟩
  refine a.run Lk A ip R n i k H0 s₀ c fs _ J gd lv s σ H { D with nx := fun i' k' σ' H' => u D i' k' σ' H' } g hn lk (fun n' i' k' H0' s₀' s' f hn' lk' hs => ?_) I ht
  cases f with
  | next =>
    obtain ⟨σ', H', I', q⟩ := hs
    exact b.run Lk A ip R n' i' k' H0' s₀' c fs K J gd lv s' σ' H' D g hn' lk' kk I' q
  | brk => exact kk n' i' k' H0' s₀' s' .brk hn' lk' hs
  | cont => exact kk n' i' k' H0' s₀' s' .cont hn' lk' hs
  | ret u => exact kk n' i' k' H0' s₀' s' (.ret u) hn' lk' hs
def tKIf (c : TT) (t u : TK) : TK := fun D i k σ H => c σ H fun b H1 => if b = true then t D i k σ H1 else u D i k σ H1
theorem gk_if {test : Expr} {a b : List Stmt} {pos : Pos} {c : TT} {t u : TK} (hc : ∀ s0 H0, PT (reX X s0 H0) test c) (ha : GKs X a t) (hb : GKs X b u) : GK X (.If test a b pos) (tKIf c t u) := by
  refine ⟨fun Lk A ip R n i k H0 s₀ c' fs K J gd lv s σ H D g hn lk kk I ht => ?_⟩
  rw [exec_If, Sem.bind_eq_wrap', Sem.wrap_wrap]
  refine seg_wrap (wpAny_standAt ?_)
  show Seg _ A R _ n s₀ c' (Sem.wrap K J gd lv (isTrue test X.env (eval test X.env) >>= _)) fs s
  rw [Sem.bind_eq_wrap', Sem.wrap_wrap]
  refine seg_wrap ?_
  rw [g.over]
  refine wpAny_mono ((hc s₀ H0).run ip s σ H _ I ht) (fun d s1 ⟨H1, I1, q1⟩ => ?_) fun _ _ z => z.elim
  cases d with
  | true => exact ha.run Lk A ip R n i k H0 s₀ c' fs K J gd lv s1 σ H1 D g hn lk kk I1 (by simpa using q1)
  | false => exact hb.run Lk A ip R n i k H0 s₀ c' fs K J gd lv s1 σ H1 D g hn lk kk I1 (by simpa using q1)
/-! ### yield -/
def tKYield (te : TE) : TK := fun D i k σ H => i < sizeLine ∧ te σ H fun x H1 => D.yl i k x H1 fun k' H2 => D.nx (i + 1) k' σ H2
theorem gk_yield {e : Expr} {yp pos : Pos} {te : TE} (he : ∀ s0 H0, PE (reX X s0 H0) e te) (hco : X.env.scope.isCoroutine = false := by rfl) (hi : interactive X.env = false := by rfl) : GK X (.Expr (.Yield (some e) yp) pos) (tKYield te) := by
  refine ⟨fun Lk A ip R n i k H0 s₀ c fs K J gd lv s σ H D g hn lk kk I ht => ?_⟩
  obtain ⟨hlt, ht⟩ := ht
  obtain ⟨m, rfl⟩ : ∃ m, n = m + 1 := ⟨n - 1, by omega⟩
  refine seg_Expr_Yield g.split g.gd g.guard ?_ hco hi
  rw [g.over]
  refine wpAny_mono ((he s₀ H0).run ip s σ H _ I ht) (fun v s' hv => ?_) fun _ _ z => z.elim
  obtain ⟨x, H1, I1, rv, q⟩ := hv
  intro kap hk
  refine ⟨i, k, H0, x, ip, σ, H1, _, by omega, rv, lk, I1, q, fun k' H' s'' lk' I' hres => hk .none s'' ?_⟩
  exact kk m (i + 1) k' H' s'' s'' .next (by omega) lk' ⟨σ, H', I', hres⟩
/-! ### for -/
def tKFor (wi : TI) (gt : TG) (tb : TK) : TK := fun D i k σ H => wi σ H fun J H1 => ∃ W : Nat → Nat → Nat → L2.St → L2.St → Hp → Prop, (∃ m, W 0 m i k σ H1) ∧ ∀ j m i k σ H, W j m i k σ H →
  (J.stop j H ∧ D.nx i k σ H) ∨ (J.go j H ∧ ∃ N : Nat → L2.St → L2.St → Hp → Prop, (∀ i' k' σ' H', N i' k' σ' H' → ∃ m', m' < m ∧ W (j + 1) m' i' k' σ' H') ∧ ∀ x H', J.yld j H x H' → gt x σ H' fun σ2 H2 => tb { D with nx := N, ct := N, bk := D.nx } i k σ2 H2)
theorem fpOk_re {X : Cx} {ip : List (Addr × Obj)} {s0 s1 : Shared} {H0 H1 H : Hp} {b : Addr} (l0 : X.env.locals ≤ s0.heap.objs.size) (h : FpOk (reX X s0 H0) ip H b) : FpOk (reX X s1 H1) ip H b := by
  obtain ⟨a0, a1, a2, a3, a4, a5⟩ := h
  refine ⟨a0, a1, a2, a3.imp id fun z => ?_, a4, a5⟩
  have z1 : (frontH X.env.locals s0.heap).objs.size ≤ b := z
  rw [front_size l0] at z1
  have z2 : (frontH X.env.locals s1.heap).objs.size ≤ X.env.locals := front_le
  exact Nat.le_trans z2 z1
theorem gk_for {tg iter : Expr} {body : List Stmt} {pos : Pos} {wi : TI} {gt : TG} {tb : TK} (hc : X.calm = true) (hi : ∀ s0 H0, PI (reX X s0 H0) tg iter wi) (hg : ∀ s0 H0, PG (reX X s0 H0) tg gt) (hb : GKs X body tb) (hs : ∀ x, foldedSetIterable iter X.env x = pure x := by intro _; rfl) :
    GK X (.For tg iter body [] pos) (tKFor wi gt tb) := by
  refine ⟨fun Lk A ip R n i k H0 s₀ c fs K J gd lv s σ H D g hn lk kk I ht => ?_⟩
  rw [exec_For, Sem.bind_eq_wrap', Sem.wrap_wrap]
  refine seg_wrap (wpAny_standAt ?_)
  show Seg _ A R _ n s₀ c (Sem.wrap K J gd lv (eval iter X.env >>= _)) fs s
  rw [Sem.bind_eq_wrap', Sem.wrap_wrap]
  refine seg_wrap ?_
  rw [g.over]
  refine wpAny_mono ((hi s₀ H0).run ip s σ H _ I ht) (fun v s1 h1 => ?_) fun _ _ z => z.elim
  show Seg _ A R _ n s₀ c (Sem.wrap K J gd lv (foldedSetIterable iter X.env v >>= _)) fs s1
  rw [hs v]
  show Seg _ A R _ n s₀ c (Sem.wrap K J gd lv (standAt iter.pos >>= _)) fs s1
  rw [Sem.bind_eq_wrap', Sem.wrap_wrap]
  refine seg_wrap (wpAny_standAt ?_)
  show Seg _ A R _ n s₀ c (Sem.wrap K J gd lv (holding [v] (pyIter v) >>= _)) fs s1
  rw [Sem.bind_eq_wrap', Sem.wrap_wrap]
  refine seg_wrap ?_
  rw [g.over]
  refine wpAny_holding (wpAny_mono h1 (fun itv s2 h2 => ?_) fun _ _ z => z.elim)
  obtain ⟨it, fp, tn, It0, H2, e, I2, T, st2, f2, W, ⟨m0, w0⟩, turn⟩ := h2
  subst e
  show Seg _ A R _ n s₀ c (Sem.wrap K J gd lv (runOwn (.forLoop tg (.ref it) body [] X.env) X.env)) fs s2
  refine seg_call fun p => ?_
  have gl := fun (kk : Result → Sem PySem.Fin) => gkc_loop (k := kk) (c' := .forLoop tg (.ref it) body [] X.env) (l := lv []) (kp := []) (p := p) g rfl rfl
  have stat : ∀ {H' : Hp} {s0 : Shared} {H0' : Hp}, (∀ b ∈ fp, H' b = none) → ∀ b ∈ fp, FpOk (reX X s0 H0') ip H' b := fun {H' s0 H0'} hn b hb => by
    have q := fpOk_re (s1 := s0) (H1 := H0') lk.1 (f2 b hb)
    exact ⟨hn b hb, q.2⟩
  have loop : ∀ (m j n i : Nat) (k : L2.St) (H0 : Hp) (s₀ s : Shared) (σ : L2.St) (H : Hp), n + i = sizeLine → LkL X Lk s₀ k H0 → W j m i k σ H → Inv (reX X s₀ H0) ip σ H s → tn j s.heap → (∀ b ∈ fp, H b = none) →
      Seg (model X.prog X.w) A R (KYp X Lk D.yl) n s₀ (.forLoop tg (.ref it) body [] X.env) ((model X.prog X.w).den (.forLoop tg (.ref it) body [] X.env))
        (.ret (fun r => ((match r with | .ok f => (.pure f : Sem Flow) | .error e => .raise e).onRaise (cameBack X.env)).wrap K J gd lv) none (gd false) (lv []) c p [] :: fs) s := by
    intro m
    induction m using Nat.strongRecOn with
    | ind m ih =>
      intro j n i k H0 s₀ s σ H hn lk w I st fr
      refine seg_forLoop ?_
      rw [(gl _).over]
      rcases turn j m i k σ H w with ⟨stop, qn⟩ | ⟨go, N, hN, step⟩
      · refine wpAny_mono (T.done (reX X s₀ H0) rfl rfl rfl hc j _ s σ H _ I (stat fr) st stop) (fun rr s4 ⟨hr, I4⟩ => ?_) fun _ _ z => z
        subst hr
        refine seg_again rfl (seg_leaf (.ok .next) ?_)
        exact kk n i k H0 s₀ s4 .next hn lk ⟨σ, H, I4, qn⟩
      · refine wpAny_mono (T.item (reX X s₀ H0) rfl rfl rfl hc j _ s σ H _ I (stat fr) st go) (fun rr s4 ⟨u, hr, h4⟩ => ?_) fun _ _ z => z
        subst hr
        refine wpAny_mono h4 (fun _ s5 ⟨x, H5, I5, r5, y5, st5, fr5⟩ => ?_) fun _ _ z => z
        have I5' := I5.pinned (stat fr5) (T.obj _ _ st5)
        refine wpAny_mono ((hg s₀ H0).run _ s5 σ H5 x u _ I5' r5 (step x H5 y5)) (fun _ s6 ⟨σ6, H6, I6, q6⟩ => ?_) fun _ _ z => z.elim
        intro K1 J1 gd1 lv1 e1 e2 e3 e4 e5 e6
        have G1 : GKc X A (.forLoop tg (.ref it) body [] X.env) (.ret (fun r => ((match r with | .ok f => (.pure f : Sem Flow) | .error e => .raise e).onRaise (cameBack X.env)).wrap K J gd lv) none (gd false) (lv []) c p [] :: fs) gd1 :=
          ⟨(gl _).over, (gl _).split, (gl _).guard, e1⟩
        refine hb.run Lk A (ip ++ pinsAt fp s5.heap) R n i k H0 s₀ _ _ K1 J1 gd1 lv1 s6 σ6 H6 { D with nx := N, ct := N, bk := D.nx } G1 hn lk (fun n' i' k' H0' s₀' s7 f hn' lk' hs' => ?_) I6 q6
        have again_ : ∀ {σ7 : L2.St} {H7 : Hp}, Inv (reX X s₀' H0') (ip ++ pinsAt fp s5.heap) σ7 H7 s7 → N i' k' σ7 H7 → Seg (model X.prog X.w) A R (KYp X Lk D.yl) n' s₀' (.forLoop tg (.ref it) body [] X.env) (.pure (.again (.forLoop tg (.ref it) body [] X.env))) (.ret (fun r => ((match r with | .ok f => (.pure f : Sem Flow) | .error e => .raise e).onRaise (cameBack X.env)).wrap K J gd lv) none (gd false) (lv []) c p [] :: fs) s7 := fun {σ7 H7} I7 n7 => by
          obtain ⟨m', hm, w7⟩ := hN i' k' σ7 H7 n7
          have pin : ∀ b ∈ fp, ∀ o, s5.heap.get? b = some o → s7.heap.get? b = some o ∧ H7 b = none := fun b hb' o e => by
            obtain ⟨z1, z2, _⟩ := I7.pin (b, o) (List.mem_append_right _ (List.mem_append_right _ (mem_pinsAt hb' e)))
            exact ⟨z1, z2⟩
          refine seg_again rfl (ih m' hm (j + 1) n' i' k' H0' s₀' s7 σ7 H7 hn' lk' w7 I7.unpinned (T.keep _ _ _ st5 fun b hb' o e => (pin b hb' o e).1) fun b hb' => ?_)
          obtain ⟨o, e, d⟩ := T.obj _ _ st5 b hb'
          exact (pin b hb' o e).2
        cases f with
        | next => obtain ⟨σ7, H7, I7, n7⟩ := hs'; rw [e2]; exact again_ I7 n7
        | cont => obtain ⟨σ7, H7, I7, n7⟩ := hs'; rw [e3]; exact again_ I7 n7
        | brk => obtain ⟨σ7, H7, I7, n7⟩ := hs'; rw [e4]; exact seg_leaf (.ok .next) (kk n' i' k' H0' s₀' s7 .next hn' lk' ⟨σ7, H7, I7.unpinned, n7⟩)
        | ret v => obtain ⟨x7, σ7, H7, I7, r7, n7⟩ := hs'; rw [e5]; exact seg_leaf (.ok (.ret v)) (kk n' i' k' H0' s₀' s7 (.ret v) hn' lk' ⟨x7, σ7, H7, I7.unpinned, r7, n7⟩)
  exact loop m0 0 n i k H0 s₀ s2 σ H2 hn lk w0 I2 st2 fun b hb' => (f2 b hb').1
end
end RS


/-! for x in g(..): whatever the body does; generator defs by their bodies -/
namespace RS
open PySem PySem.Spec L2 PyProof.Rows GenW
/-- the generator's own things stand as they did, all else is as its consumer knows it: its context, begun anew -/
theorem rebase {X : Cx} {a : Shared} {b : Hp} {xe : Value → Shared → Prop} {ip : List (Addr × Obj)} {σ : L2.St} {H1 H4 : Hp} {s1 s4 : Shared} {A : Around} {oL : Obj} (I : Inv { X with s_0 := a, H_0 := b, xe := xe } ip σ H1 s1) (hc : X.env.cells = []) (hx : X.ex = [])
    (e0 : Env0 X.prog X.w X.K X.mg X.base A X.outer s4 H4) (hb : X.base.objs.size ≤ X.env.locals) (hL : s1.heap.get? X.env.locals = some oL) (hL4 : s4.heap.get? X.env.locals = some oL) (nL : H4 X.env.locals = none) (fr : ∀ c ∈ frs X.outer, c < X.env.locals)
    (hp : ∀ p ∈ X.pn ++ ip, s4.heap.get? p.1 = some p.2 ∧ H4 p.1 = none) : Inv (reX X s4 H4) ip σ H4 s4 := by
  have le : X.env.locals ≤ s4.heap.objs.size := Nat.le_of_lt (Heap.lt_size hL4)
  have noc : ∀ {x : Str} {c : Addr}, X.env.cells.lookup x = some c → False := fun {x c} e => by rw [hc] at e; cases e
  have exm : ∀ {c : Addr}, c ∈ X.ex → False := fun {c} m => by rw [hx] at m; cases m
  refine ⟨⟨e0.mod, I.ok.kind, I.ok.glob, I.ok.blt, front_le, I.ok.inj, I.ok.has, fun x c _ e => (noc e).elim, I.ok.hd, I.ok.frames, I.ok.stk, fun c m => (exm m).elim, fun c o e => ?_, ?_, fun c o e m => exm m, fun c m => (exm m).elim, ?_, e0.frf⟩,
    rfl, e0.bare, Un.kept fun c o e => (front_some e).2, ?_, fun x c e => (noc e).elim, nL, fun x c e => (noc e).elim, fun p hm => ?_, e0.hok, I.len⟩
  · have lt : c < X.env.locals := Nat.lt_of_lt_of_le (Heap.lt_size e) hb
    exact ⟨(front_get lt).trans (e0.bs c o e).1, (e0.bs c o e).2⟩
  · show X.base.objs.size ≤ (frontH X.env.locals s4.heap).objs.size
    rw [front_size le]; exact hb
  · have go : ∀ l : List Env, (∀ c ∈ frs l, c < X.env.locals) → s4.heap.FunFrames X.base l → (frontH X.env.locals s4.heap).FunFrames X.base l := by
      intro l
      induction l with
      | nil => exact fun _ _ => trivial
      | cons env rest ih =>
        intro hf h
        obtain ⟨hk, ⟨L, o, ef, hn, ho, hd⟩, hr⟩ := h
        have mem : ∀ c ∈ frs rest, c ∈ frs (env :: rest) := fun c m => by
          show c ∈ List.filterMap _ (env :: rest)
          rw [List.filterMap_cons, ef]
          exact List.mem_cons_of_mem _ m
        have mL : L ∈ frs (env :: rest) := by
          show L ∈ List.filterMap _ (env :: rest)
          rw [List.filterMap_cons, ef]
          exact List.mem_cons_self ..
        exact ⟨hk, ⟨L, o, ef, hn, (front_get (hf L mL)).trans ho, hd⟩, ih (fun c m => hf c (mem c m)) hr⟩
    exact go _ fr e0.funs
  · obtain ⟨m, hn, hl⟩ := I.loc
    refine ⟨m, hn.at' fun o e => ?_, fun j x v h1 h2 h3 => ?_⟩
    · have e : s1.heap.get? X.env.locals = some o := e
      rw [hL] at e
      cases e
      exact hL4
    · obtain ⟨u, r, q⟩ := hl j x v h1 h2 h3
      refine ⟨u, r, q.imp id fun ⟨k, c, e, z⟩ => (noc e).elim⟩
  · obtain ⟨h1, h2⟩ := hp p hm
    obtain ⟨_, _, h3, h4, h5⟩ := I.pin p hm
    exact ⟨h1, h2, h3, h4, h5⟩
/-- the consumer, behind a stretch of the generator -/
theorem backY {Y X : Cx} {pins ip : List (Addr × Obj)} {k σ : L2.St} {H0 H : Hp} {s0 s : Shared} (IY : Inv Y pins k H0 s0) (IX : Inv (reX X s0 H0) ip σ H s) (ho : X.outer = Y.stack) (eP : X.prog = Y.prog) (ew : X.w = Y.w) (hx : X.ex = [])
    (l0 : Y.s_0.heap.objs.size ≤ X.env.locals) (l1 : Y.env.locals < X.env.locals) (l2 : ∀ x c, Y.env.cells.lookup x = some c → c < X.env.locals) (l3 : ∀ p ∈ Y.pn ++ pins, p.1 < X.env.locals) : Inv Y pins k H s := by
  have fsE : (reX X s0 H0).fs = frs Y.stack := by show frs X.outer = _; rw [ho]
  have U := IX.base
  have mem : ∀ {b : Addr} {o : Obj}, s0.heap.get? b = some o → b ∉ (List.range (s0.heap.objs.size - X.env.locals)).map (· + X.env.locals) → (frontH X.env.locals s0.heap).get? b = some o := fun {b o} e n => by
    by_cases lt : b < X.env.locals
    · rw [front_get lt]; exact e
    · refine absurd (List.mem_map.mpr ⟨b - X.env.locals, List.mem_range.mpr ?_, ?_⟩) n
      · have := Heap.lt_size e
        exact Nat.sub_lt_sub_right (Nat.le_of_not_lt lt) this
      · exact Nat.sub_add_cancel (Nat.le_of_not_lt lt)
  have nx : ∀ {b : Addr}, b ∉ (reX X s0 H0).ex := fun {b} m => by
    have m : b ∈ X.ex := m
    rw [hx] at m; cases m
  refine IY.call' (ch := (List.range (s0.heap.objs.size - X.env.locals)).map (· + X.env.locals)) IX.os ⟨fun b o e n hf hm => ?_, fun b o e n hf hm => ?_, fun b o e n hm => ?_, fun b o e hm => ?_, U.tups, U.frzs, U.tbls⟩ ?_ IX.bare fun b hm => ?_
  · exact U.keep b o (mem e hm) n (by rw [fsE]; exact hf) nx
  · exact U.slot b o (mem e hm) n (by rw [fsE]; exact hf) nx
  · exact U.free b o (mem e hm) n nx
  · exact U.there b o (mem e hm) nx
  · have := IX.hok
    have : HOk X.prog X.w H s.heap := this
    rw [eP, ew] at this; exact this
  · obtain ⟨j, _, rfl⟩ := List.mem_map.mp hm
    have ge : X.env.locals ≤ j + X.env.locals := Nat.le_add_left _ _
    exact ⟨.inr (Nat.le_trans l0 ge), fun z => absurd (Nat.lt_of_lt_of_le l1 ge) (by rw [z]; exact Nat.lt_irrefl _), fun x c e z => absurd (Nat.lt_of_lt_of_le (l2 x c e) ge) (by rw [z]; exact Nat.lt_irrefl _),
      fun p hp z => absurd (Nat.lt_of_lt_of_le (l3 p hp) ge) (by rw [z]; exact Nat.lt_irrefl _)⟩
/-- another table of generators -/
theorem inv_gens {X : Cx} {pins : List (Addr × Obj)} {σ : L2.St} {H : Hp} {s : Shared} (I : Inv X pins σ H s) {G : Array GenState} (h : AllBare G) : Inv X pins σ H { s with gens := G } :=
  ⟨I.ok, I.os, h, I.base, I.loc, I.cell, I.free, I.freeC, I.pin, I.hok, I.len⟩
/-! ### a generator that has not begun -/
abbrev YLk := Nat → L2.St → V → Hp → (L2.St → Hp → Prop) → Prop
abbrev SpV := L2.St → YLk → (L2.St → Hp → Prop) → Prop
def KFin (X : Cx) (Lk : LkR) (fin : L2.St → Hp → Prop) (s₀ s1 : Shared) : Prop := ∃ k H0 ip σ H', LkL X Lk s₀ k H0 ∧ Inv (reX X s₀ H0) ip σ H' s1 ∧ fin k H'
abbrev KEnd (X : Cx) (Lk : LkR) (fin : L2.St → Hp → Prop) : GenEnd := fun n s₀ r s1 => r = .ok (.ret .none) ∧ KFin X Lk fin s₀ s1
structure GCtx (P : Program) (w : World) (K : PySem.W.Frag) (mg : Str → Option Value) (base : Heap) (outer : List Env) (L a : Addr) (gn : Nat) (X : Cx) : Prop where
  P : X.prog = P
  w : X.w = w
  K : X.K = K
  mg : X.mg = mg
  base : X.base = base
  loc : X.env.locals = L
  cells : X.env.cells = []
  ex : X.ex = []
  outer : X.outer = outer
  pn : ∃ go, X.pn = [(a, go)] ∧ ∀ h : Heap, h.get? a = some go → h.IsGen a gn
def GMk (P : Program) (w : World) (K : PySem.W.Frag) (mg : Str → Option Value) (base : Heap) (k : Nat) (outer : List Env) (s : Shared) (H : Hp) (spv : SpV) (u : Value) (s' : Shared) : Prop :=
  ∃ (a L : Addr) (gn : Nat) (c : Code), u = .ref a ∧ s.heap.objs.size ≤ L ∧ s'.heap.IsGen a gn ∧ s'.gens[gn]? = some (.fresh c) ∧ s'.os = s.os ∧ AllBare s'.gens ∧ (∀ b o, s.heap.get? b = some o → s'.heap.get? b = some o) ∧
    ∀ (A : Around) (s2 : Shared), Room k A → A.guards = some [] → A.frames = some outer → (∀ b o, s'.heap.get? b = some o → s2.heap.get? b = some o) → s2.os = s.os → AllBare s2.gens →
      ∃ X, GCtx P w K mg base outer L a gn X ∧ ∀ (Lk : LkR) (k0 : L2.St) (yl : YLk) (fin : L2.St → Hp → Prop), Lk s2 k0 H → spv k0 yl fin → Seg (model P w) A (KEnd X Lk fin) (KYp X Lk yl) sizeLine s2 c ((model P w).den c) [] s2
abbrev SpK := List V → Hp → SpV
structure GKn (P : Program) (w : World) (K : PySem.W.Frag) (mg : Str → Option Value) (base : Heap) (k : Nat) (f : Addr) (fd : FuncData) (ps : List Str) (sp : SpK) : Prop where
  run : ∀ (A : Around) (outer : List Env) (s : Shared) (H : Hp) (args : Args) (us : List Value) (vs : List V), Room k A → A.guards = some [] → Env0 P w K mg base A outer s H → BindsTo s fd args (ps.zip us) → Vals vs us → vs.length = ps.length →
    codeAny (model P w) A (.call (.ref f) args) (fun r s' => match r with | .ok (.ret u) => GMk P w K mg base k outer s H (sp vs H) u s' | _ => False) s
theorem cells_none : ∀ {names : List (Str × NameKind)} {n : Nat} {acc : List (Str × Addr)}, (∀ y ∈ names, y.2 ≠ .cell) → cellsFrom n names acc = acc
  | [], _, _, _ => rfl
  | (x, kd) :: r, n, acc, h => by
    have h1 := h (x, kd) (List.mem_cons_self ..)
    unfold cellsFrom
    rw [if_neg (by simpa using h1)]
    exact cells_none fun y m => h y (List.mem_cons_of_mem _ m)
/-- a generator def, by its body -/
theorem gkn_of {g : Wd} {k : Nat} {f : Addr} {name qual : Str} {st : Stmt} {fd : FuncData} {dV : Value} {N ps : List Str} {sp : SpK} (F : Df g.K name qual st f fd dV) (S : GScope N ps (defScope st)) (nc : ∀ y ∈ (defScope st).names, y.2 ≠ .cell)
    (hbody : ∀ (cdv : Value) (A : Around) (outer : List Env) (s : Shared) (H : Hp) (vs : List V) (pn : List (Addr × Obj)), Rm k (gcxOf g.P g.w g.K g.mg g.base N qual (defScope st) f cdv A outer s H (fun _ _ _ => False) pn) →
      ∃ t, GKs (gcxOf g.P g.w g.K g.mg g.base N qual (defScope st) f cdv A outer s H (fun _ _ _ => False) pn) (defBody st) t ∧ ∀ k0 yl fin, sp vs H k0 yl fin → t { nx := fun _ k' _ H' => fin k' H', rt := fun _ k' v H' => v = .non ∧ fin k' H', yl := yl } 0 k0 (start N vs) H) :
    GKn g.P g.w g.K g.mg g.base (k + 1) f fd ps sp := by
  obtain ⟨oc, od, kV, doc, pm, an, cdv, ct, osl, rfl, lk, hcd⟩ := F.ex
  refine ⟨fun A outer s H args us vs hr hg e0 hb r hl => ?_⟩
  have kept : ∀ b o, g.base.get? b = some o → s.heap.get? b = some o := fun b o e => (e0.bs b o e).1
  have KX : g.K.In s.heap := e0.mod.kin.keeps kept
  have lim : s.heap.NoLimit := e0.mod.nolimit.keeps kept
  have hkind : ∀ y ∈ ps.zip us, (defScope st).names.lookup y.1 = some .local ∨ ((defScope st).names.lookup y.1 = some .cell ∧ ((cellsFrom (s.heap.objs.size + 1) (defScope st).names []).lookup y.1).isSome = true) := fun ⟨n, v⟩ hy =>
    (S.par n (List.of_mem_zip hy).1).imp id fun q => ⟨q, PySem.W.cellsFrom_some _ _ _ (.inl q)⟩
  refine codeAny_call_generator hr.depth (KX _ _ lk) rfl S.co S.gen rfl (PySem.W.codeRec_of KX hcd) (hb _ _ _ _ ?_)
  refine wpAny_newFunctionEnv_cells S.kind hkind ?_
  rintro env rfl s1 x
  refine ⟨lim.keeps x.toInCall.keep, ?_⟩
  obtain ⟨h1, tk, es1, hk1⟩ := x.done
  have kp1 : ∀ b o, s.heap.get? b = some o → s1.heap.get? b = some o := x.toInCall.keep
  have lt1 : s.heap.objs.size < s1.heap.objs.size := x.toInCall.ns.lt
  have main : ∀ (go : Obj) (nm qn : Value) (tk2 : Nat), go.cls = .type "generator" → go.data = .fields #[.int s1.gens.size 0, nm, qn] → go.slots = #[] → (∀ h : Heap, (h.push go).get? h.objs.size = some go) →
      GMk g.P g.w g.K g.mg g.base (k + 1) outer s H (sp vs H) (.ref s1.heap.objs.size) { s1 with gens := s1.gens.push (.fresh (.func (defBody st) (envOfC qual (defScope st) s.heap.objs.size f cdv))), toks := tk2, heap := s1.heap.push go } := by
    intro go nm qn tk2 hgc hgd hgs hgp
    have hgen : ∀ h : Heap, h.get? s1.heap.objs.size = some go → h.IsGen s1.heap.objs.size s1.gens.size := fun h e => ⟨go, nm, qn, e, hgc, hgd, hgs⟩
    refine ⟨s1.heap.objs.size, s.heap.objs.size, s1.gens.size, _, rfl, Nat.le_refl _, hgen _ (hgp _), Array.getElem?_push_size .., by rw [es1], AllBare.push (by rw [es1]; exact e0.bare) rfl, fun b o e => Heap.get?_push_of_some _ (kp1 b o e), ?_⟩
    intro Aw s2 hrw hgw hfr hk2 hos hba
    have e0w : Env0 g.P g.w g.K g.mg g.base Aw outer s H := ⟨hfr, e0.mod, e0.bs, e0.bsz, e0.funs, e0.frf, e0.hok, e0.bare⟩
    have kp2 : ∀ b o, s1.heap.get? b = some o → s2.heap.get? b = some o := fun b o e => hk2 b o (Heap.get?_push_of_some _ e)
    have kp : ∀ b o, s.heap.get? b = some o → s2.heap.get? b = some o := fun b o e => kp2 b o (kp1 b o e)
    have e2 : Env0 g.P g.w g.K g.mg g.base Aw outer s2 H := by
      refine ⟨hfr, e0.mod, fun b o e => ⟨kp b o (e0.bs b o e).1, (e0.bs b o e).2⟩, Nat.le_trans e0.bsz ?_, e0.funs.of_keeps fun b o e _ => ⟨o, kp b o e, rfl⟩, e0.frf, e0.hok.kept kp, hba⟩
      have z : s1.heap.objs.size < s2.heap.objs.size := Heap.lt_size (hk2 _ _ (hgp s1.heap))
      exact Nat.le_of_lt (Nat.lt_trans lt1 z)
    obtain ⟨t, ht, hq⟩ := hbody cdv Aw outer s H vs [(s1.heap.objs.size, go)] ⟨hrw.deeper _, hgw⟩
    have I1 : Inv (gcxOf g.P g.w g.K g.mg g.base N qual (defScope st) f cdv Aw outer s H (fun _ _ _ => False) []) [] (start N vs) H s1 := inv_startG S hrw.hd e0w hl r x
    have hcl : (gcxOf g.P g.w g.K g.mg g.base N qual (defScope st) f cdv Aw outer s H (fun _ _ _ => False) [(s1.heap.objs.size, go)]).env.cells = [] := cells_none nc
    have frl : ∀ c ∈ frs outer, c < s.heap.objs.size := fun c m => by
      obtain ⟨_, o, ho, _⟩ := e0.funs.mem m
      exact Heap.lt_size ho
    have hgs2 : s2.heap.get? s1.heap.objs.size = some go := hk2 _ _ (hgp s1.heap)
    have Hgo : H s1.heap.objs.size = none := I1.hok.fresh (Nat.le_refl _)
    have I1' : Inv (gcxOf g.P g.w g.K g.mg g.base N qual (defScope st) f cdv Aw outer s H (fun _ _ _ => False) [(s1.heap.objs.size, go)]) [] (start N vs) H { s1 with heap := s1.heap.push go } := by
      have I2 := I1.kept (t' := s1.toks) (h' := s1.heap.push go) fun b o e => Heap.get?_push_of_some _ e
      refine Inv.pinnedG I2 fun p hp => ?_
      rw [List.mem_singleton.mp (show p ∈ [(s1.heap.objs.size, go)] from by simpa using hp)]
      exact ⟨hgp _, Hgo, Nat.ne_of_gt lt1, I1.nofs (Nat.le_refl _), fun v q => by rw [hgd] at q; cases q⟩
    obtain ⟨m1, hns, _⟩ := I1.loc
    obtain ⟨oL, es, ep, hoL, hdL, _⟩ := hns
    have I3 := rebase (X := gcxOf g.P g.w g.K g.mg g.base N qual (defScope st) f cdv Aw outer s H (fun _ _ _ => False) [(s1.heap.objs.size, go)]) (A := Aw) (oL := oL) (s4 := s2) (H4 := H) I1' hcl rfl e2 e0.bsz (Heap.get?_push_of_some _ hoL) (kp2 _ _ hoL) I1.free frl
      fun p hp => by
        have z : p ∈ [(s1.heap.objs.size, go)] ++ ([] : List (Addr × Obj)) := hp
        rw [List.append_nil] at z
        rw [List.mem_singleton.mp z]
        exact ⟨hgs2, Hgo⟩
    refine ⟨_, ⟨rfl, rfl, rfl, rfl, rfl, rfl, hcl, rfl, rfl, go, rfl, hgen⟩, fun Lk k0 yl fin hlk hsp => seg_func ?_⟩
    have lkl : LkL (gcxOf g.P g.w g.K g.mg g.base N qual (defScope st) f cdv Aw outer s H (fun _ _ _ => False) [(s1.heap.objs.size, go)]) Lk s2 k0 H := ⟨Nat.le_of_lt (Heap.lt_size (kp2 _ _ hoL)), hlk⟩
    refine ht.run Lk Aw [] _ sizeLine 0 k0 H s2 _ [] _ _ id id s2 (start N vs) H _ ⟨over_func, rfl, rfl, rfl⟩ rfl lkl (fun n i k' H0 s₀ s' fl hn lk' hs => ?_) I3 (hq k0 yl fin hsp)
    cases fl with
    | next =>
      obtain ⟨σ', H', hI, hQ⟩ := hs
      exact seg_end (.ok (.ret .none)) ⟨rfl, k', H0, [], σ', H', lk', hI, hQ⟩
    | brk => obtain ⟨_, _, _, q⟩ := hs; exact q.elim
    | cont => obtain ⟨_, _, _, q⟩ := hs; exact q.elim
    | ret u =>
      obtain ⟨v, σ', H', hI, rv, ev, hQ⟩ := hs
      subst ev
      have eu : u = Value.none := rv
      subst eu
      exact seg_end (.ok (.ret .none)) ⟨rfl, k', H0, [], σ', H', lk', hI, hQ⟩
  exact main _ _ _ _ rfl rfl rfl fun h => Heap.get?_push_size _ rfl
/-! ### the loop -/
/-- an expression whose value is a generator that has not begun -/
abbrev TGk := L2.St → Hp → (SpV → Hp → Prop) → Prop
structure PK (X : Cx) (k : Nat) (e : Expr) (tg : TGk) : Prop where
  run : ∀ (pins : List (Addr × Obj)) (s : Shared) (σ : L2.St) (H : Hp) (Q : SpV → Hp → Prop), Inv X pins σ H s → tg σ H Q → wpAny (model X.prog X.w) X.A (eval e X.env)
    (fun u s' => ∃ H1 sc spv, Inv X pins σ H1 sc ∧ GMk X.prog X.w X.K X.mg X.base k X.stack sc H1 spv u s' ∧ Q spv H1) X.xe s
def tForK (tg : TGk) (gt : TG) (tb : TS) : TS := fun D σ H => tg σ H fun spv H1 => spv σ (fun _ k x H2 res => gt x k H2 fun σ2 H3 => tb { D with nx := res, ct := res, bk := D.nx } σ2 H3) D.nx
/-- for x in g: body -/
theorem ps_forK {Y : Cx} {k : Nat} {tg iter : Expr} {body : List Stmt} {pos : Pos} {tk : TGk} {gt : TG} {tb : TS} (hp : PassesOwn (model Y.prog Y.w) Y.A Y.env Y.xe) (hr : Rm (k + 1) Y) (he : PK Y k iter tk) (hg : PG Y tg gt) (hb : PSs Y body tb)
    (hs : ∀ x, foldedSetIterable iter Y.env x = pure x := by intro _; rfl) (hst : Y.stack = Y.env :: Y.outer := by rfl) (hfr : Y.env.frame = some Y.env.locals := by rfl) : PS Y (.For tg iter body [] pos) (tForK tk gt tb) := by
  refine ⟨fun pins s σ H D I h => ?_⟩
  refine wpAny_For (thn (he.run pins s σ H _ I h) fun u s' hu => ?_) hs
  obtain ⟨H1, sc, spv, Isc, ⟨a, L, gn, c, rfl, hL, hig, hgs, hos, hba, hkp, wake⟩, hq⟩ := hu
  refine wpAny_pyIter_gen hig ?_
  have szg : ∀ {s : Shared} {x : GenState} {y : GenState}, s.gens[gn]? = some x → gn < s.gens.size := fun {s x y} e => (Array.getElem?_eq_some_iff.mp e).1
  have gsz : gn < s'.gens.size := (Array.getElem?_eq_some_iff.mp hgs).1
  have Is' : Inv Y pins σ H1 s' := Isc.call' (ch := []) hos (Un.kept hkp) (Isc.hok.kept hkp) hba fun b z => by simp at z
  have bareR : ∀ {s : Shared} {x : GenState}, AllBare s.gens → x.bare = true → AllBare (s.setGen gn x).gens := fun h hx => allBare_setGen h hx
  have r1 : Room k Y.A.in1 := ⟨hr.room.hd, by have := hr.room.dp; show Y.A.depth + 3 * k + 5 < _; omega, by have := hr.room.un; show Y.A.units + 1 + 16 * k + 200 < _; omega⟩
  obtain ⟨X, GX, seg⟩ := wake Y.A.in1 (s'.setGen gn .running) r1 hr.gd Isc.ok.frames (fun b o e => e) hos (bareR hba rfl)
  have eL : X.env.locals = L := GX.loc
  let YL : YLk := fun _ k x H2 res => gt x k H2 fun σ2 H3 => tb { D with nx := res, ct := res, bk := D.nx } σ2 H3
  let Lk : LkR := fun s k H => Inv Y pins k H s
  have S0 := seg Lk σ YL D.nx (inv_gens Is' (bareR hba rfl)) hq
  -- what is older than the generator
  have l0 : Y.s_0.heap.objs.size ≤ X.env.locals := by rw [eL]; exact Nat.le_trans Isc.sz hL
  have l1 : Y.env.locals < X.env.locals := by rw [eL]; exact Nat.lt_of_lt_of_le Isc.lt hL
  have l2 : ∀ x c, Y.env.cells.lookup x = some c → c < X.env.locals := fun x c e => by
    obtain ⟨v, o, ho, _⟩ := Isc.cell x c e
    rw [eL]; exact Nat.lt_of_lt_of_le (Heap.lt_size ho) hL
  have l3 : ∀ p ∈ Y.pn ++ pins, p.1 < X.env.locals := fun p m => by
    rw [eL]; exact Nat.lt_of_lt_of_le (Heap.lt_size (Isc.pin p m).1) hL
  have lb : X.base.objs.size ≤ X.env.locals := by rw [GX.base]; exact Nat.le_trans Isc.ok.bsz l0
  have frl : ∀ c ∈ frs X.outer, c < X.env.locals := fun c m => by
    rw [GX.outer] at m
    obtain ⟨_, o, ho, _⟩ := Isc.stack.mem m
    rw [eL]; exact Nat.lt_of_lt_of_le (Heap.lt_size ho) hL
  have mF : Y.env.locals ∈ frs X.outer ∧ ∀ b, b ∈ Y.fs → b ∈ frs X.outer := by
    rw [GX.outer, hst]
    have e : frs (Y.env :: Y.outer) = Y.env.locals :: frs Y.outer := by
      show List.filterMap _ (Y.env :: Y.outer) = _
      rw [List.filterMap_cons, hfr]
      rfl
    rw [e]
    exact ⟨List.mem_cons_self .., fun b m => List.mem_cons_of_mem _ m⟩
  refine codeAny_forLoop_any (fun m s1 => ∃ gs, s1.gens[gn]? = some gs ∧ gs.Goes (model Y.prog Y.w) Y.A.in1 (KEnd X Lk D.nx) (KYp X (Lk) YL) m (.send .none) (s1.setGen gn .running) ∧ s1.heap.IsGen a gn ∧ s1.heap.NoLimit) ?_ sizeLine
    ⟨.fresh c, hgs, ⟨rfl, S0⟩, hig, Is'.nolimit⟩
  rintro m s1 ⟨gs, hg1, hgo, hig1, hl1⟩
  have sz1 : gn < s1.gens.size := (Array.getElem?_eq_some_iff.mp hg1).1
  refine wpAny_passesOwn hp (wpAny_gsz (n := gn + 1) sz1 ?_)
  refine nextS (F := fun _ s₀ s1 => KFin X Lk D.nx s₀ s1) hr.room.hd hl1 (by have := hr.room.dp; omega) hig1 hg1 hgo (fun v s2 gs' hbg hsu hv => ?_) fun s2 hf h' hk => ?_
  · intro hsz
    obtain ⟨i, k', H0, x, ip, σg, Hx, res, hn, rv, ⟨lL, Ik⟩, Ig, hy, hkap⟩ := hv
    have Ik : Inv Y pins k' H0 (s1.setGen gn .running) := Ik
    have Iy : Inv Y pins k' Hx s2 := backY Ik Ig GX.outer GX.P GX.w GX.ex l0 l1 l2 l3
    have sz2 : gn < s2.gens.size := by
      have : (s2.setGen gn gs').gens.size = s2.gens.size := setGen_size _ _ _
      have z : gn + 1 ≤ (s2.setGen gn gs').gens.size := hsz
      omega
    have b5 : AllBare (s2.setGen gn gs').gens := bareR Iy.bare hbg
    have g5 : (s2.setGen gn gs').gens[gn]? = some gs' := setGen_at sz2
    obtain ⟨go, epn, hgen⟩ := GX.pn
    obtain ⟨mg, hns, _⟩ := Ig.loc
    obtain ⟨oL, es, ep, hoL, hdL, _⟩ := hns
    have hoL : s2.heap.get? X.env.locals = some oL := hoL
    have gpin : ∀ p ∈ X.pn ++ ip, s2.heap.get? p.1 = some p.2 ∧ Hx p.1 = none ∧ p.1 ≠ X.env.locals ∧ p.1 ∉ frs X.outer ∧ ∀ v, p.2.data ≠ .cell v := fun p hm => Ig.pin p hm
    have pge : ∀ {b : Addr}, b ∉ frs X.outer → b ≠ Y.env.locals ∧ b ∉ Y.fs := fun n => ⟨fun z => n (by rw [z]; exact mF.1), fun z => n (mF.2 _ z)⟩
    have nL : X.env.locals ∉ frs X.outer := fun z => absurd (frl _ z) (Nat.lt_irrefl _)
    have HL : Hx X.env.locals = none := Ig.free
    have Ip : Inv Y (pins ++ ((X.env.locals, oL) :: (X.pn ++ ip))) k' Hx (s2.setGen gn gs') := (inv_gens Iy b5).pins_of fun p hp => by
      rcases List.mem_append.mp hp with z | z
      · exact Iy.pin p (List.mem_append_right _ z)
      · rcases List.mem_cons.mp z with z | z
        · rw [z]
          exact ⟨hoL, HL, (pge nL).1, (pge nL).2, fun v q => by rw [hdL] at q; cases q⟩
        · obtain ⟨h1, h2, h3, h4, h5⟩ := gpin p z
          exact ⟨h1, h2, (pge h4).1, (pge h4).2, h5⟩
    have pinned : ∀ {σ7 : L2.St} {H7 : Hp} {s7 : Shared}, Inv Y (pins ++ ((X.env.locals, oL) :: (X.pn ++ ip))) σ7 H7 s7 → (s7.heap.get? X.env.locals = some oL ∧ H7 X.env.locals = none) ∧ ∀ p ∈ X.pn ++ ip, s7.heap.get? p.1 = some p.2 ∧ H7 p.1 = none := fun {σ7 H7 s7} I7 =>
      ⟨⟨(I7.pin (X.env.locals, oL) (List.mem_append_right _ (List.mem_append_right _ (List.mem_cons_self ..)))).1, (I7.pin (X.env.locals, oL) (List.mem_append_right _ (List.mem_append_right _ (List.mem_cons_self ..)))).2.1⟩,
        fun p hp => ⟨(I7.pin p (List.mem_append_right _ (List.mem_append_right _ (List.mem_cons_of_mem _ hp)))).1, (I7.pin p (List.mem_append_right _ (List.mem_append_right _ (List.mem_cons_of_mem _ hp)))).2.1⟩⟩
    have mgo : (a, go) ∈ X.pn ++ ip := by rw [epn]; exact List.mem_append_left _ (List.mem_singleton.mpr rfl)
    obtain ⟨og, nm, qn, hog, hcg, hdg, hsg⟩ := hgen (s2.setGen gn gs').heap (gpin _ mgo).1
    refine go_of hog hcg hdg (by decide) ?_
    refine wpAny_passesOwn hp (thn (kept_asleep g5 hsu b5 (hg.run _ (s2.setGen gn gs') k' Hx x v _ Ip rv hy) fun G hG => hg.run _ { s2.setGen gn gs' with gens := G } k' Hx x v _ (inv_gens Ip hG) rv hy) fun _ s6 q => ?_)
    obtain ⟨⟨σ6, H6, I6, q6⟩, g6⟩ := q
    refine wpAny_passesOwn hp (thn (kept_asleep g6 hsu I6.bare (hb.run _ s6 σ6 H6 _ I6 q6) fun G hG => hb.run _ { s6 with gens := G } σ6 H6 _ (inv_gens I6 hG) q6) fun f s7 q => ?_)
    obtain ⟨q7, g7⟩ := q
    have less : ∀ {σ7 : L2.St} {H7 : Hp}, Inv Y (pins ++ ((X.env.locals, oL) :: (X.pn ++ ip))) σ7 H7 s7 → Inv Y pins σ7 H7 s7 := fun I7 => I7.pins_of fun p hp => I7.pin p (List.mem_append_right _ (List.mem_append_left _ hp))
    have again : ∀ {σ7 : L2.St} {H7 : Hp}, Inv Y (pins ++ ((X.env.locals, oL) :: (X.pn ++ ip))) σ7 H7 s7 → res σ7 H7 → ∃ m', m' < m ∧ ∃ gs, s7.gens[gn]? = some gs ∧ gs.Goes (model Y.prog Y.w) Y.A.in1 (KEnd X Lk D.nx) (KYp X Lk YL) m' (.send .none) (s7.setGen gn .running) ∧ s7.heap.IsGen a gn ∧ s7.heap.NoLimit := fun {σ7 H7} I7 r7 => by
      have b7 : AllBare (s7.setGen gn .running).gens := bareR I7.bare rfl
      obtain ⟨⟨p1, p2⟩, p3⟩ := pinned I7
      have J7 : Inv Y pins σ7 H7 (s7.setGen gn .running) := inv_gens (less I7) b7
      have e7 : Env0 X.prog X.w X.K X.mg X.base Y.A X.outer (s7.setGen gn .running) H7 := by
        rw [GX.P, GX.w, GX.K, GX.mg, GX.base, GX.outer]
        exact J7.env0
      have B7 : Inv (reX X (s7.setGen gn .running) H7) ip σg H7 (s7.setGen gn .running) := rebase Ig GX.cells GX.ex e7 lb hoL p1 p2 frl p3
      have z := hkap σ7 H7 (s7.setGen gn .running) ⟨Nat.le_of_lt (Heap.lt_size p1), J7⟩ B7 r7
      cases m with
      | zero => exact z.elim
      | succ m' => exact ⟨m', Nat.lt_succ_self _, gs', g7, z, hgen _ (p3 _ mgo).1, I7.nolimit⟩
    cases f with
    | next => obtain ⟨σ7, H7, I7, n7⟩ := q7; exact again I7 n7
    | cont => obtain ⟨σ7, H7, I7, n7⟩ := q7; exact again I7 n7
    | brk => obtain ⟨σ7, H7, I7, n7⟩ := q7; exact ⟨σ7, H7, less I7, n7⟩
    | ret w => obtain ⟨x7, σ7, H7, I7, r7, n7⟩ := q7; exact ⟨x7, σ7, H7, less I7, r7, n7⟩
  · intro _
    obtain ⟨k', H0, ip, σg, H', ⟨lL, Ik⟩, Ig, hfin⟩ := hf
    have Ik : Inv Y pins k' H0 (s1.setGen gn .running) := Ik
    have Iy : Inv Y pins k' H' s2 := backY Ik Ig GX.outer GX.P GX.w GX.ex l0 l1 l2 l3
    have I2 := (inv_gens Iy (G := (s2.setGen gn .finished).gens) (bareR Iy.bare rfl)).kept (t' := s2.toks) (h' := h') hk
    exact wpAny_execs_nil ⟨k', H', I2, hfin⟩
end RS


/-! the calls that make a generator, for RSGenC's loop; loops within a generator told by an index -/
namespace RS
open PySem PySem.Spec L2 PyProof.Rows GenW
/-- the class at C has a generator method m -/
def Kgm (g : Wd) (C : Addr) (m : Str) (k : Nat) (ps : List Str) (ds : List V) (sp : SpK) : Prop :=
  ∃ f fd dsV, PySem.W.findIn g.K (.ref C) m = some (some (.ref f)) ∧ PySem.W.isFn g.K (.ref f) = true ∧ PySem.W.keepIn g.K (.ref f) = true ∧ GKn g.P g.w g.K g.mg g.base k f fd ps sp ∧ Binds g.K fd ps dsV ∧ Vals ds dsV
/-- the module holds a generator def x -/
def Kgf (g : Wd) (x : Str) (k : Nat) (ps : List Str) (ds : List V) (sp : SpK) : Prop :=
  ∃ f fd dsV, g.mg x = some (.ref f) ∧ PySem.W.keepIn g.K (.ref f) = true ∧ GKn g.P g.w g.K g.mg g.base k f fd ps sp ∧ Binds g.K fd ps dsV ∧ Vals ds dsV
def tKM (C : Addr) (m : Str) (n : Nat) (sp : SpK) (ds : List V) (ta : TE) (t : TA) : TGk := fun σ H Q => ta σ H fun x H1 => ∃ a dx fs, x = .ref a ∧ H1 a = some (.ins C dx fs) ∧ fs.lookup m = none ∧ t σ H1 fun vs H2 => (x :: (vs ++ ds)).length = n ∧ Q (sp (x :: (vs ++ ds)) H2) H2
def tKC (n : Nat) (sp : SpK) (ds : List V) (t : TA) : TGk := fun σ H Q => t σ H fun vs H1 => (vs ++ ds).length = n ∧ Q (sp (vs ++ ds) H1) H1
section
variable {g : Wd} {X : Cx} {C : Addr} {m x : Str} {k : Nat} {ps : List Str} {ds : List V} {sp : SpK} {o e : Expr} {es : List Expr} {ta : TE} {t : TA} {p apos pos : Pos}
theorem run_gkn {f : Addr} {fd : FuncData} {dsV : List Value} (F : GKn X.prog X.w X.K X.mg X.base k f fd ps sp) (hr : Rm k X) (hb : Binds X.K fd ps dsV) (hd : Vals ds dsV) {pins : List (Addr × Obj)} {σ : L2.St} {H : Hp} {s : Shared} {Q : SpV → Hp → Prop} {us : List Value} {vs : List V} {E1 : Value → Shared → Prop}
    (I : Inv X pins σ H s) (r : Vals vs us) (hl : (vs ++ ds).length = ps.length) (h : Q (sp (vs ++ ds) H) H) :
    wpAny (model X.prog X.w) X.A (call (.ref f) us) (fun u s' => ∃ H1 sc spv, Inv X pins σ H1 sc ∧ GMk X.prog X.w X.K X.mg X.base k X.stack sc H1 spv u s' ∧ Q spv H1) E1 s := by
  have r2 : Vals (vs ++ ds) (us ++ dsV) := r.append hd
  have hl2 : (us ++ dsV).length = ps.length := by rw [← r2.length]; exact hl
  refine wpAny_call (codeAny_mono (F.run X.A X.stack s H ⟨us, []⟩ (us ++ dsV) (vs ++ ds) hr.room hr.gd I.env0 (hb s us I.kIn hl2) r2 hl) fun r s' hq => ?_)
  cases r with
  | error e => exact False.elim hq
  | ok fl =>
    cases fl with
    | ret u => exact ⟨H, s, _, I, hq, h⟩
    | next => exact False.elim hq
    | brk => exact False.elim hq
    | cont => exact False.elim hq
theorem pk_meth0 {pl : Sem Bool} (he : PE X o ta) (c : Cls g.K C) (F : Kgm g C m k ps ds sp) (hr : Rm k X)
    (ht : eval (.Call (.Attribute o m apos) [] [] pos) X.env = (do
      let ov ← eval o X.env
      standAt apos.atName
      let (f, first) ← holding [ov] (getMethod ov m pl)
      callWith pos f first (backTo pos (starEach [] X.env)) (backToKw pos (keywordEach [] X.env))) := by rfl) (at_ : At g X := by exact ⟨rfl, rfl, rfl, rfl, rfl⟩) :
    PK X k (.Call (.Attribute o m apos) [] [] pos) (tKM C m ps.length sp ds ta tNil) := by
  obtain ⟨f, fd, dsV, hf, hi, hk, F, hb, rd⟩ := F
  obtain ⟨P, w, K, mg, base⟩ := g
  obtain ⟨rfl, rfl, rfl, rfl, rfl⟩ := at_
  refine ⟨fun pins s σ H Q I h => PySem.W.methodCall_KW (pl := pl) (thn (he.run pins s σ H _ I h) ?_) ht⟩
  rintro u s1 ⟨x, H1, I1, rx, q, dx, fs, rfl, ea, l, hl, h1⟩
  obtain rfl : u = Value.ref q := rx
  refine getmeth_ok I1 ea c (g := f) ⟨hf, hi, hk⟩ l ?_
  exact PySem.W.callWith_K0 (first := [.ref q]) I1.kIn hk (run_gkn (vs := [.ref q]) (us := [.ref q]) F hr hb rd I1 (.cons rfl .nil) hl h1)
theorem pk_meth {pl : Sem Bool} (he : PE X o ta) (c : Cls g.K C) (F : Kgm g C m k ps ds sp) (hr : Rm k X) (ha : PA X (e :: es) t)
    (hst : starEach (e :: es) X.env = (false, eval e X.env) :: starEach es X.env := by rfl) (hpl : (backTo pos (starEach es X.env)).any (·.1) = false := by rfl)
    (ht : eval (.Call (.Attribute o m apos) (e :: es) [] pos) X.env = (do
      let ov ← eval o X.env
      standAt apos.atName
      let (f, first) ← holding [ov] (getMethod ov m pl)
      callWith pos f first (backTo pos (starEach (e :: es) X.env)) (backToKw pos (keywordEach [] X.env))) := by rfl) (at_ : At g X := by exact ⟨rfl, rfl, rfl, rfl, rfl⟩) :
    PK X k (.Call (.Attribute o m apos) (e :: es) [] pos) (tKM C m ps.length sp ds ta t) := by
  obtain ⟨f, fd, dsV, hf, hi, hk, F, hb, rd⟩ := F
  obtain ⟨P, w, K, mg, base⟩ := g
  obtain ⟨rfl, rfl, rfl, rfl, rfl⟩ := at_
  refine ⟨fun pins s σ H Q I h => PySem.W.methodCall_KW (pl := pl) (thn (he.run pins s σ H _ I h) ?_) ht⟩
  rintro u s1 ⟨x, H1, I1, rx, q, dx, fs, rfl, ea, l, h1⟩
  obtain rfl : u = Value.ref q := rx
  refine getmeth_ok I1 ea c (g := f) ⟨hf, hi, hk⟩ l ?_
  refine PySem.W.callWith_K (first := [.ref q]) (h₀ := X.base) I.ok.mod.kin hk (thn (ha.run pos pins s1 σ H1 _ I1 h1) ?_) hst hpl
  rintro us s2 ⟨vs, H2, I2, r, hl, q2⟩
  exact ⟨I2.kIn, run_gkn (vs := .ref q :: vs) (us := .ref q :: us) F hr hb rd I2 (.cons rfl r) hl q2⟩
theorem pk_call (F : Kgf g x k ps ds sp) (hr : Rm k X) (ha : PA X (e :: es) t) (hg : Gl X x := by rfl) (hdb : (x == ("__debug__" : Str)) = false := by decide)
    (he : starEach (e :: es) X.env = (false, eval e X.env) :: starEach es X.env := by rfl) (hpl : (backTo pos (starEach es X.env)).any (·.1) = false := by rfl) (at_ : At g X := by exact ⟨rfl, rfl, rfl, rfl, rfl⟩) :
    PK X k (.Call (.Name x p) (e :: es) [] pos) (tKC ps.length sp ds t) := by
  obtain ⟨f, fd, dsV, hm, hk, F, hb, rd⟩ := F
  obtain ⟨P, w, K, mg, base⟩ := g
  obtain ⟨rfl, rfl, rfl, rfl, rfl⟩ := at_
  refine ⟨fun pins s σ H Q I h => wpAny_Call_Name_kw (ld_glob I hg hm ?_ hdb)⟩
  refine PySem.W.callWith_K (h₀ := X.base) I.ok.mod.kin hk (thn (ha.run pos pins s σ H _ I h) ?_) he hpl
  rintro us s1 ⟨vs, H1, I1, r, hl, q⟩
  exact ⟨I1.kIn, run_gkn F hr hb rd I1 r hl q⟩
end
/-- the inside of a loop within a generator -/
def KForB (J : It) (gt : TG) (tb : TK) (D : GKE) (i : Nat) (k σ : L2.St) (H : Hp) : Prop := ∃ W : Nat → Nat → Nat → L2.St → L2.St → Hp → Prop, (∃ m, W 0 m i k σ H) ∧ ∀ j m i k σ H, W j m i k σ H →
  (J.stop j H ∧ D.nx i k σ H) ∨ (J.go j H ∧ ∃ N : Nat → L2.St → L2.St → Hp → Prop, (∀ i' k' σ' H', N i' k' σ' H' → ∃ m', m' < m ∧ W (j + 1) m' i' k' σ' H') ∧ ∀ x H', J.yld j H x H' → gt x σ H' fun σ2 H2 => tb { D with nx := N, ct := N, bk := D.nx } i k σ2 H2)
theorem tKFor_eq (wi : TI) (gt : TG) (tb : TK) (D : GKE) (i : Nat) (k σ : L2.St) (H : Hp) : tKFor wi gt tb D i k σ H = wi σ H fun J H1 => KForB J gt tb D i k σ H1 := rfl
/-- for within a generator, by an index -/
theorem kfor_by {J : It} {gt : TG} {tb : TK} {D : GKE} {i : Nat} {k σ : L2.St} {H : Hp} (n : Nat) (Pv : Nat → Nat → L2.St → L2.St → Hp → Prop) (h0 : Pv 0 i k σ H) (hgo : ∀ j i k σ H, j < n → Pv j i k σ H → J.go j H) (hst : ∀ i k σ H, Pv n i k σ H → J.stop n H)
    (hs : ∀ j i k σ H x H', j < n → Pv j i k σ H → J.yld j H x H' → gt x σ H' fun σ2 H2 => tb { D with nx := Pv (j + 1), ct := Pv (j + 1), bk := D.nx } i k σ2 H2) (hd : ∀ i k σ H, Pv n i k σ H → D.nx i k σ H) :
    KForB J gt tb D i k σ H := by
  refine ⟨fun j m i k σ H => m = n - j ∧ j ≤ n ∧ Pv j i k σ H, ⟨n, by omega, Nat.zero_le _, h0⟩, ?_⟩
  rintro j m i k σ H ⟨rfl, hj, p⟩
  by_cases lt : j < n
  · exact .inr ⟨hgo j i k σ H lt p, Pv (j + 1), fun i' k' σ' H' p' => ⟨n - (j + 1), by omega, rfl, lt, p'⟩, fun x H' y => hs j i k σ H x H' lt p y⟩
  · have e : j = n := by omega
    subst e
    exact .inl ⟨hst i k σ H p, hd i k σ H p⟩
end RS


/-! pages, pending writes: in plain words -/
namespace K09
open PySem PySem.Spec L2 RS
/-- the text of each page, empty where it is blank -/
abbrev Pg := Int → Str
abbrev nil_ : Str := Str.ofString ""
def setP (f : Pg) (n : Int) (t : Str) : Pg := fun m => if m = n then t else f m
theorem setP_at (f : Pg) (n : Int) (t : Str) : setP f n t n = t := if_pos rfl
theorem setP_ne {f : Pg} {n m : Int} {t : Str} (h : m ≠ n) : setP f n t m = f m := if_neg h
theorem setP_id (f : Pg) (n : Int) : setP f n (f n) = f := by
  funext m
  by_cases h : m = n
  · rw [h, setP_at]
  · rw [setP_ne h]
theorem setP_twice (f : Pg) (n : Int) (a b : Str) : setP (setP f n a) n b = setP f n b := by
  funext m
  by_cases h : m = n
  · rw [h, setP_at, setP_at]
  · rw [setP_ne h, setP_ne h, setP_ne h]
theorem setP_comm (f : Pg) {n m : Int} (a b : Str) (h : n ≠ m) : setP (setP f n a) m b = setP (setP f m b) n a := by
  funext k
  by_cases h1 : k = m
  · subst h1; rw [setP_at, setP_ne (Ne.symm h), setP_at]
  · rw [setP_ne h1]
    by_cases h2 : k = n
    · subst h2; rw [setP_at, setP_at]
    · rw [setP_ne h2, setP_ne h2, setP_ne h1]
/-- a text that a page may have -/
def TOk (t : Str) : Prop := t.length ≤ 64 ∧ PyData.strOk t = true
theorem tok0 : TOk nil_ := ⟨by decide +kernel, by decide +kernel⟩
/-- what a page may have -/
structure Fine (f : Pg) : Prop where
  rng : ∀ n, f n ≠ nil_ → 0 ≤ n ∧ n < 10000000
  len : ∀ n, TOk (f n)
theorem Fine.set {f : Pg} {n : Int} {t : Str} (h : Fine f) (r : t ≠ nil_ → 0 ≤ n ∧ n < 10000000) (l : TOk t) : Fine (setP f n t) := by
  refine ⟨fun m hm => ?_, fun m => ?_⟩
  · by_cases e : m = n
    · subst e; rw [setP_at] at hm; exact r hm
    · rw [setP_ne e] at hm; exact h.rng m hm
  · by_cases e : m = n
    · subst e; rw [setP_at]; exact l
    · rw [setP_ne e]; exact h.len m
theorem fine0 : Fine (fun _ => nil_) := ⟨fun n h => absurd rfl h, fun _ => tok0⟩
/-- kvs tells the pages of f that are not blank, in some order -/
structure PR (kvs : List (Key × V)) (f : Pg) : Prop where
  nd : (kvs.map (·.1)).Nodup
  to : ∀ k v, (k, v) ∈ kvs → ∃ n, k = .inl n ∧ v = .str (f n) ∧ f n ≠ nil_
  of : ∀ n, f n ≠ nil_ → (.inl n, .str (f n)) ∈ kvs
theorem PR.nil : PR [] (fun _ => nil_) := ⟨List.nodup_nil, by simp, fun n h => absurd rfl h⟩
theorem valV_mem : ∀ {kvs : List (Key × V)} {k : Key} {v : V}, (kvs.map (·.1)).Nodup → (k, v) ∈ kvs → valV kvs k = some v := fun {kvs k v} nd h => by
  obtain ⟨i, hi⟩ := List.getElem?_of_mem h
  exact valV_at nd hi
theorem valV_not : ∀ {kvs : List (Key × V)} {k : Key}, (∀ v, (k, v) ∉ kvs) → valV kvs k = none
  | [], k, _ => rfl
  | (k', v') :: r, k, h => by
    have ne : k' ≠ k := fun e => h v' (by rw [e]; exact List.mem_cons_self ..)
    rw [vv_cons, if_neg ne]
    exact valV_not fun v hv => h v (List.mem_cons_of_mem _ hv)
theorem PR.no {kvs : List (Key × V)} {f : Pg} (h : PR kvs f) {n : Int} (e : f n = nil_) (v : V) : ((.inl n : Key), v) ∉ kvs := fun m => by
  obtain ⟨n', e1, _, e3⟩ := h.to _ _ m
  cases e1
  exact e3 e
theorem PR.val {kvs : List (Key × V)} {f : Pg} (h : PR kvs f) (n : Int) : valV kvs (.inl n) = if f n = nil_ then none else some (.str (f n)) := by
  by_cases e : f n = nil_
  · rw [if_pos e]; exact valV_not (h.no e)
  · rw [if_neg e]; exact valV_mem h.nd (h.of n e)
theorem PR.getD {kvs : List (Key × V)} {f : Pg} (h : PR kvs f) (n : Int) : (valV kvs (.inl n)).getD (.str nil_) = .str (f n) := by
  rw [h.val]
  by_cases e : f n = nil_
  · rw [if_pos e, e]; rfl
  · rw [if_neg e]; rfl
theorem PR.isSome {kvs : List (Key × V)} {f : Pg} (h : PR kvs f) (n : Int) : (valV kvs (.inl n)).isSome = decide (f n ≠ nil_) := by
  rw [h.val]
  by_cases e : f n = nil_
  · rw [if_pos e]; simp [e]
  · rw [if_neg e]; simp [e]
theorem mem_drop {kvs : List (Key × V)} {k : Key} {p : Key × V} : p ∈ dropK kvs k ↔ p ∈ kvs ∧ p.1 ≠ k := by
  unfold dropK
  rw [List.mem_filter]
  simp
theorem nodup_drop {kvs : List (Key × V)} {k : Key} (h : (kvs.map (·.1)).Nodup) : ((dropK kvs k).map (·.1)).Nodup := by
  unfold dropK
  exact List.Nodup.sublist ((List.filter_sublist).map _) h
theorem drop_len (kvs : List (Key × V)) (k : Key) : (dropK kvs k).length ≤ kvs.length := by unfold dropK; exact List.length_filter_le _ _
theorem PR.drop {kvs : List (Key × V)} {f : Pg} (h : PR kvs f) (n : Int) : PR (dropK kvs (.inl n)) (setP f n nil_) := by
  refine ⟨nodup_drop h.nd, fun k v hm => ?_, fun m hm => ?_⟩
  · obtain ⟨h1, h2⟩ := mem_drop.mp hm
    obtain ⟨m, e1, e2, e3⟩ := h.to _ _ h1
    have ne : m ≠ n := fun z => h2 (by rw [e1, z])
    exact ⟨m, e1, by rw [setP_ne ne]; exact e2, by rw [setP_ne ne]; exact e3⟩
  · by_cases e : m = n
    · subst e; rw [setP_at] at hm; exact absurd rfl hm
    · rw [setP_ne e] at hm ⊢
      exact mem_drop.mpr ⟨h.of m hm, fun z => e (Sum.inl.inj z)⟩
/-- a page gets a text; a blank one comes last -/
theorem PR.put {kvs : List (Key × V)} {f : Pg} (h : PR kvs f) (n : Int) {t : Str} (ht : t ≠ nil_) : PR (putK kvs (.inl n) (.str t)) (setP f n t) ∧ (putK kvs (.inl n) (.str t)).length ≤ kvs.length + 1 := by
  unfold putK
  split
  · rename_i ex
    obtain ⟨kv0, hm0, e0⟩ := List.any_eq_true.mp ex
    have e0 : kv0.1 = .inl n := by simpa using e0
    have keys : (kvs.map (fun kv => if kv.1 = .inl n then (kv.1, V.str t) else kv)).map (·.1) = kvs.map (·.1) := by
      rw [List.map_map]
      refine List.map_congr_left fun kv _ => ?_
      simp only [Function.comp]
      split <;> rfl
    refine ⟨⟨by rw [keys]; exact h.nd, fun k v hm => ?_, fun m hm => ?_⟩, by simp⟩
    · obtain ⟨kv, h1, h2⟩ := List.mem_map.mp hm
      split at h2
      · rename_i e
        cases h2
        exact ⟨n, e, by rw [setP_at], by rw [setP_at]; exact ht⟩
      · rename_i e
        obtain ⟨k1, v1⟩ := kv
        cases h2
        obtain ⟨m, e1, e2, e3⟩ := h.to _ _ h1
        have ne : m ≠ n := fun z => e (by rw [e1, z])
        exact ⟨m, e1, by rw [setP_ne ne]; exact e2, by rw [setP_ne ne]; exact e3⟩
    · refine List.mem_map.mpr ?_
      by_cases e : m = n
      · subst e
        rw [setP_at]
        exact ⟨kv0, hm0, by rw [if_pos e0, e0]⟩
      · rw [setP_ne e] at hm ⊢
        exact ⟨_, h.of m hm, by rw [if_neg (fun z => e (Sum.inl.inj z))]⟩
  · rename_i ex
    have no : ∀ v, ((.inl n : Key), v) ∉ kvs := fun v hv => ex (List.any_eq_true.mpr ⟨_, hv, by simp⟩)
    have fn : f n = nil_ := Classical.byContradiction fun z => no _ (h.of n z)
    refine ⟨⟨?_, fun k v hm => ?_, fun m hm => ?_⟩, by simp⟩
    · rw [List.map_append]
      refine List.nodup_append.mpr ⟨h.nd, by simp, fun a ha b hb e => ?_⟩
      obtain ⟨⟨k1, v1⟩, h1, h2⟩ := List.mem_map.mp ha
      have eb : b = .inl n := by simpa using hb
      simp only at h2
      exact no v1 (by rw [← eb, ← e, ← h2]; exact h1)
    · rcases List.mem_append.mp hm with z | z
      · obtain ⟨m, e1, e2, e3⟩ := h.to _ _ z
        have ne : m ≠ n := fun y => e3 (by rw [y]; exact fn)
        exact ⟨m, e1, by rw [setP_ne ne]; exact e2, by rw [setP_ne ne]; exact e3⟩
      · cases List.mem_singleton.mp z
        exact ⟨n, rfl, by rw [setP_at], by rw [setP_at]; exact ht⟩
    · by_cases e : m = n
      · subst e
        rw [setP_at]
        exact List.mem_append_right _ (List.mem_singleton.mpr rfl)
      · rw [setP_ne e] at hm ⊢
        exact List.mem_append_left _ (h.of m hm)
/-- the numbers of the pages, as they stand -/
def numsOf (kvs : List (Key × V)) : List Int := kvs.map fun kv => match kv.1 with
  | .inl n => n
  | .inr _ => 0
theorem PR.key {kvs : List (Key × V)} {f : Pg} (h : PR kvs f) {i : Nat} {kv : Key × V} (e : kvs[i]? = some kv) : ∃ n, kv = (.inl n, .str (f n)) ∧ f n ≠ nil_ := by
  obtain ⟨k, v⟩ := kv
  obtain ⟨n, e1, e2, e3⟩ := h.to k v (List.mem_of_getElem? e)
  exact ⟨n, by rw [e1, e2], e3⟩
theorem PR.mem_nums {kvs : List (Key × V)} {f : Pg} (h : PR kvs f) {n : Int} : n ∈ numsOf kvs ↔ f n ≠ nil_ := by
  unfold numsOf
  rw [List.mem_map]
  constructor
  · rintro ⟨⟨k, v⟩, h1, h2⟩
    obtain ⟨m, e1, e2, e3⟩ := h.to _ _ h1
    subst e1
    simp only at h2
    rw [← h2]; exact e3
  · intro e
    exact ⟨_, h.of n e, rfl⟩
theorem PR.nodup_nums {kvs : List (Key × V)} {f : Pg} (h : PR kvs f) : (numsOf kvs).Nodup := by
  have e : kvs.map (·.1) = (numsOf kvs).map (Sum.inl : Int → Key) := by
    unfold numsOf
    rw [List.map_map]
    refine List.map_congr_left fun kv hm => ?_
    obtain ⟨k, v⟩ := kv
    obtain ⟨m, e1, _⟩ := h.to _ _ hm
    subst e1
    rfl
  have nd := h.nd
  rw [e] at nd
  exact List.Pairwise.of_map (f := (Sum.inl : Int → Key)) (S := (· ≠ ·)) (fun a b hab z => hab (by rw [z])) nd
/-- the ascending list of the numbers is told by f -/
theorem sorted_unique : ∀ {a b : List Int}, a.Pairwise (· ≤ ·) → b.Pairwise (· ≤ ·) → a.Nodup → b.Nodup → (∀ n, n ∈ a ↔ n ∈ b) → a = b
  | [], [], _, _, _, _, _ => rfl
  | [], y :: b, _, _, _, _, h => by have := (h y).mpr (List.mem_cons_self ..); cases this
  | x :: a, [], _, _, _, _, h => by have := (h x).mp (List.mem_cons_self ..); cases this
  | x :: a, y :: b, ha, hb, na, nb, h => by
    have ha' := List.pairwise_cons.mp ha
    have hb' := List.pairwise_cons.mp hb
    have na' := List.nodup_cons.mp na
    have nb' := List.nodup_cons.mp nb
    have xy : x = y := by
      rcases List.mem_cons.mp ((h x).mp (List.mem_cons_self ..)) with e | e
      · exact e
      · rcases List.mem_cons.mp ((h y).mpr (List.mem_cons_self ..)) with e' | e'
        · exact e'.symm
        · have := ha'.1 y e'
          have := hb'.1 x e
          omega
    subst xy
    have : a = b := sorted_unique ha'.2 hb'.2 na'.2 nb'.2 fun n => by
      constructor
      · intro hn
        rcases List.mem_cons.mp ((h n).mp (List.mem_cons_of_mem _ hn)) with e | e
        · subst e; exact absurd hn na'.1
        · exact e
      · intro hn
        rcases List.mem_cons.mp ((h n).mpr (List.mem_cons_of_mem _ hn)) with e | e
        · subst e; exact absurd hn nb'.1
        · exact e
    rw [this]
/-- the ascending numbers of the pages that are not blank -/
structure Asc (f : Pg) (ns : List Int) : Prop where
  pw : ns.Pairwise (· ≤ ·)
  nd : ns.Nodup
  mem : ∀ n, n ∈ ns ↔ f n ≠ nil_
theorem Asc.uni {f : Pg} {a b : List Int} (h : Asc f a) (h' : Asc f b) : a = b := sorted_unique h.pw h'.pw h.nd h'.nd fun n => (h.mem n).trans (h'.mem n).symm
theorem PR.asc {kvs : List (Key × V)} {f : Pg} {ns : List Int} (h : PR kvs f) (p : ns.Perm (numsOf kvs)) (s : ns.Pairwise (· ≤ ·)) : Asc f ns :=
  ⟨s, p.nodup_iff.mpr h.nodup_nums, fun n => p.mem_iff.trans h.mem_nums⟩
theorem nodup_len : ∀ (n : Nat) (l : List Nat), l.Nodup → (∀ x ∈ l, x < n) → l.length ≤ n
  | 0, [], _, _ => Nat.le_refl _
  | 0, x :: l, _, h => absurd (h x (List.mem_cons_self ..)) (Nat.not_lt_zero _)
  | n + 1, l, nd, h => by
    by_cases m : n ∈ l
    · have e := List.length_erase_of_mem m
      have ih := nodup_len n (l.erase n) (nd.erase n) fun x hx => by
        have h1 := h x (List.mem_of_mem_erase hx)
        have h2 : x ≠ n := (nd.mem_erase_iff.mp hx).1
        omega
      have : 0 < l.length := List.length_pos_of_mem m
      omega
    · have := nodup_len n l nd fun x hx => by
        have h1 := h x hx
        have : x ≠ n := fun z => m (by rw [← z]; exact hx)
        omega
      omega
theorem PR.len {kvs : List (Key × V)} {f : Pg} (h : PR kvs f) (ff : Fine f) : kvs.length ≤ 10000000 := by
  have e : kvs.length = ((numsOf kvs).map Int.toNat).length := by simp [numsOf]
  rw [e]
  have rg : ∀ n ∈ numsOf kvs, 0 ≤ n ∧ n < 10000000 := fun n hn => ff.rng n (h.mem_nums.mp hn)
  refine nodup_len _ _ ?_ fun x hx => ?_
  · refine List.pairwise_map.mpr (List.Pairwise.imp_of_mem (fun {a b} ha hb hab z => hab ?_) h.nodup_nums)
    have := rg a ha; have := rg b hb
    omega
  · obtain ⟨n, hn, rfl⟩ := List.mem_map.mp hx
    have := rg n hn
    omega
/-! ### pending writes -/
abbrev Row := Int × Str × Str
structure RFine (r : Row) : Prop where
  lo : 0 ≤ r.1
  hi : r.1 < 10000000
  l1 : TOk r.2.1
  l2 : TOk r.2.2
def RowsF (rows : List Row) : Prop := ∀ r ∈ rows, RFine r
theorem RowsF.snoc {rows : List Row} {r : Row} (h : RowsF rows) (hr : RFine r) : RowsF (rows ++ [r]) := fun x hx => by
  rcases List.mem_append.mp hx with z | z
  · exact h x z
  · rw [List.mem_singleton.mp z]; exact hr
theorem rowsF0 : RowsF [] := fun _ h => (nomatch h)
/-- writes one behind the other, each with the text before -/
inductive Chain : Pg → List Row → Pg → Prop
  | nil (f : Pg) : Chain f [] f
  | cons {f g : Pg} {n : Int} {t : Str} {rs : List Row} (h : Chain (setP f n t) rs g) : Chain f ((n, f n, t) :: rs) g
theorem Chain.snoc {f g : Pg} {rs : List Row} (h : Chain f rs g) (n : Int) (t : Str) : Chain f (rs ++ [(n, g n, t)]) (setP g n t) := by
  induction h with
  | nil f => exact .cons (.nil _)
  | cons _ ih => exact .cons ih
theorem Chain.app {f g h : Pg} {a b : List Row} (x : Chain f a g) (y : Chain g b h) : Chain f (a ++ b) h := by
  induction x with
  | nil f => exact y
  | cons _ ih => exact .cons (ih y)
theorem Chain.split {f h : Pg} : ∀ {a b : List Row}, Chain f (a ++ b) h → ∃ g, Chain f a g ∧ Chain g b h
  | [], b, x => ⟨f, .nil f, x⟩
  | r :: a, b, x => by
    cases x with
    | cons x =>
      obtain ⟨g, h1, h2⟩ := Chain.split (a := a) x
      exact ⟨g, .cons h1, h2⟩
/-- the writes made -/
def fwd (f : Pg) : List Row → Pg
  | [] => f
  | (n, _, t) :: rs => fwd (setP f n t) rs
theorem Chain.fwd {f g : Pg} {rs : List Row} (h : Chain f rs g) : K09.fwd f rs = g := by
  induction h with
  | nil f => rfl
  | cons _ ih => exact ih
theorem fwd_app (f : Pg) : ∀ a b : List Row, fwd f (a ++ b) = fwd (fwd f a) b
  | [], b => rfl
  | (n, o, t) :: a, b => by
    show fwd (setP f n t) (a ++ b) = _
    rw [fwd_app (setP f n t) a b]
    rfl
theorem fwd_take {g : Pg} {rs : List Row} {i : Nat} {r : Row} (e : rs[i]? = some r) : fwd g (rs.take (i + 1)) = setP (fwd g (rs.take i)) r.1 r.2.2 := by
  rw [List.take_add_one, e, Option.toList_some, fwd_app]
  rfl
/-- the writes undone, the last one first -/
def undo (g : Pg) : List Row → Pg
  | [] => g
  | (n, o, _) :: rs => undo (setP g n o) rs
theorem undo_app (g : Pg) : ∀ a b : List Row, undo g (a ++ b) = undo (undo g a) b
  | [], b => rfl
  | (n, o, t) :: a, b => undo_app (setP g n o) a b
theorem Chain.undo {f g : Pg} {rs : List Row} (h : Chain f rs g) : K09.undo g rs.reverse = f := by
  induction h with
  | nil f => rfl
  | @cons f g n t rs _ ih =>
    rw [List.reverse_cons, undo_app, ih]
    show setP (setP f n t) n (f n) = f
    rw [setP_twice, setP_id]
theorem undo_fine : ∀ {rs : List Row} {g : Pg}, Fine g → RowsF rs → Fine (undo g rs)
  | [], g, h, _ => h
  | (n, o, t) :: rs, g, h, hr => by
    have h0 := hr _ (List.mem_cons_self ..)
    show Fine (undo (setP g n o) rs)
    exact undo_fine (h.set (fun _ => ⟨h0.lo, h0.hi⟩) h0.l1) fun r hm => hr r (List.mem_cons_of_mem _ hm)
theorem undo_take {g : Pg} {rs : List Row} {i : Nat} {r : Row} (e : rs[i]? = some r) : undo g (rs.take (i + 1)) = setP (undo g (rs.take i)) r.1 r.2.1 := by
  rw [List.take_add_one, e, Option.toList_some, undo_app]
  rfl
/-- behind a crash that keeps k writes -/
theorem Chain.kept {f g : Pg} {rs : List Row} (h : Chain f rs g) (k : Nat) : K09.undo g (rs.drop k).reverse = K09.fwd f (rs.take k) := by
  have e : rs.take k ++ rs.drop k = rs := List.take_append_drop k rs
  rw [← e] at h
  obtain ⟨m, h1, h2⟩ := h.split
  rw [h2.undo, h1.fwd]
theorem Chain.fine {f g : Pg} {rs : List Row} (h : Chain f rs g) (ff : Fine f) (hr : ∀ r ∈ rs, (r.2.2 ≠ nil_ → 0 ≤ r.1 ∧ r.1 < 10000000) ∧ TOk r.2.2) : Fine g := by
  induction h with
  | nil f => exact ff
  | @cons f g n t rs _ ih =>
    have h0 := hr _ (List.mem_cons_self ..)
    exact ih (ff.set h0.1 h0.2) fun r hm => hr r (List.mem_cons_of_mem _ hm)
theorem fwd_fine : ∀ {rs : List Row} {f : Pg}, Fine f → (∀ r ∈ rs, (r.2.2 ≠ nil_ → 0 ≤ r.1 ∧ r.1 < 10000000) ∧ TOk r.2.2) → Fine (fwd f rs)
  | [], f, ff, _ => ff
  | (n, o, t) :: rs, f, ff, hr => by
    have h0 := hr _ (List.mem_cons_self ..)
    show Fine (fwd (setP f n t) rs)
    exact fwd_fine (ff.set h0.1 h0.2) fun r hm => hr r (List.mem_cons_of_mem _ hm)
/-! ### damage -/
/-- the places of the writes of the page m -/
def places (rows : List Row) (m : Int) : List Nat := (List.range rows.length).filter fun i => decide (rows[i]?.map (·.1) = some m)
theorem mem_places {rows : List Row} {m : Int} {i : Nat} : i ∈ places rows m ↔ ∃ r, rows[i]? = some r ∧ r.1 = m := by
  unfold places
  rw [List.mem_filter, List.mem_range]
  constructor
  · rintro ⟨lt, h⟩
    refine ⟨_, List.getElem?_eq_getElem lt, ?_⟩
    rw [List.getElem?_eq_getElem lt] at h
    simpa using h
  · rintro ⟨r, e, h⟩
    refine ⟨(List.getElem?_eq_some_iff.mp e).1, ?_⟩
    rw [e]
    simpa using h
theorem last_max : ∀ {l : List Nat} {k : Nat}, l.Pairwise (· < ·) → l.getLast? = some k → ∀ x ∈ l, x ≤ k
  | [], k, _, h, _, m => by cases m
  | [a], k, _, h, x, m => by
    cases List.mem_singleton.mp m
    simp at h
    omega
  | a :: b :: l, k, pw, h, x, m => by
    have p := List.pairwise_cons.mp pw
    have h' : (b :: l).getLast? = some k := by simpa using h
    rcases List.mem_cons.mp m with e | e
    · subst e
      have := p.1 b (List.mem_cons_self ..)
      have := last_max p.2 h' b (List.mem_cons_self ..)
      omega
    · exact last_max p.2 h' x e
theorem places_last {rows : List Row} {m : Int} {k : Nat} (h : (places rows m).getLast? = some k) : (∃ r, rows[k]? = some r ∧ r.1 = m) ∧ ∀ r ∈ rows.drop (k + 1), r.1 ≠ m := by
  have hk : k ∈ places rows m := List.mem_of_getLast? h
  refine ⟨mem_places.mp hk, fun r hr z => ?_⟩
  obtain ⟨i, hi⟩ := List.getElem?_of_mem hr
  rw [List.getElem?_drop] at hi
  have := last_max (List.pairwise_lt_range.filter _) h _ (mem_places.mpr ⟨r, hi, z⟩)
  omega
theorem places_nil {rows : List Row} {m : Int} (h : places rows m = []) : ∀ r ∈ rows, r.1 ≠ m := fun r hr z => by
  obtain ⟨i, hi⟩ := List.getElem?_of_mem hr
  have := mem_places.mpr ⟨r, hi, z⟩
  rw [h] at this; cases this
def hurtR (rows : List Row) (m : Int) (c : Str) : List Row :=
  match (places rows m).getLast? with
  | some k => rows.set k (m, (rows[k]?.map (·.2.1)).getD nil_, c)
  | none => rows
def hurtS (f : Pg) (rows : List Row) (m : Int) (c : Str) : Pg := if places rows m = [] then setP f m c else f
theorem hurtR_some {rows : List Row} {m : Int} {c : Str} {k : Nat} {r : Row} (h : (places rows m).getLast? = some k) (e : rows[k]? = some r) : hurtR rows m c = rows.set k (m, r.2.1, c) := by
  unfold hurtR
  rw [h]
  simp [e]
theorem hurtR_none {rows : List Row} {m : Int} {c : Str} (h : places rows m = []) : hurtR rows m c = rows := by
  unfold hurtR
  rw [h]
  rfl
theorem hurtR_len (rows : List Row) (m : Int) (c : Str) : (hurtR rows m c).length = rows.length := by
  unfold hurtR
  split <;> simp
theorem Chain.other {f g : Pg} {rs : List Row} {m : Int} {c : Str} (h : Chain f rs g) (n : ∀ r ∈ rs, r.1 ≠ m) : Chain (setP f m c) rs (setP g m c) := by
  induction h with
  | nil f => exact .nil _
  | @cons f g n' t rs _ ih =>
    have ne : n' ≠ m := n _ (List.mem_cons_self ..)
    have ih := ih fun r hr => n r (List.mem_cons_of_mem _ hr)
    rw [setP_comm _ _ _ ne] at ih
    have := Chain.cons ih
    rw [setP_ne ne] at this
    exact this
theorem Chain.hurt {f g : Pg} {rs : List Row} (h : Chain f rs g) (m : Int) (c : Str) : Chain (hurtS f rs m c) (hurtR rs m c) (setP g m c) := by
  unfold hurtS
  cases hl : (places rs m).getLast? with
  | none =>
    have e : places rs m = [] := List.getLast?_eq_none_iff.mp hl
    rw [if_pos e, hurtR_none e]
    exact h.other (places_nil e)
  | some k =>
    obtain ⟨⟨r, er, rm⟩, hn⟩ := places_last hl
    rw [if_neg (fun z => by rw [z] at hl; cases hl), hurtR_some hl er]
    have lt : k < rs.length := (List.getElem?_eq_some_iff.mp er).1
    have e1 : rs = rs.take k ++ (r :: rs.drop (k + 1)) := by
      have : rs.drop k = r :: rs.drop (k + 1) := by
        rw [List.drop_eq_getElem_cons lt]
        congr 1
        exact (List.getElem?_eq_some_iff.mp er).2
      rw [← this, List.take_append_drop]
    have e2 : rs.set k (m, r.2.1, c) = rs.take k ++ ((m, r.2.1, c) :: rs.drop (k + 1)) := by
      rw [List.set_eq_take_append_cons_drop, if_pos lt]
    rw [e2]
    rw [e1] at h
    obtain ⟨g1, h1, h2⟩ := h.split
    refine h1.app ?_
    obtain ⟨n, o, t⟩ := r
    simp only at rm
    subst rm
    cases h2 with
    | cons h2 =>
      refine .cons ?_
      have := h2.other (c := c) hn
      rw [setP_twice] at this
      exact this
theorem RowsF.hurt {rows : List Row} {m : Int} {c : Str} (h : RowsF rows) (m0 : 0 ≤ m) (m1 : m < 10000000) (lc : TOk c) : RowsF (hurtR rows m c) := by
  cases hl : (places rows m).getLast? with
  | none => rw [hurtR_none (List.getLast?_eq_none_iff.mp hl)]; exact h
  | some k =>
    obtain ⟨⟨r, er, rm⟩, hn⟩ := places_last hl
    rw [hurtR_some hl er]
    intro x hx
    rcases List.mem_or_eq_of_mem_set hx with z | z
    · exact h x z
    · subst z
      exact ⟨m0, m1, (h r (List.mem_of_getElem? er)).l1, lc⟩


open SX (S S_len S_cat S_tl S_inj)
local macro_rules | `(tactic| walk_at "sx") => `(tactic| simp only [tRet, tRetN, tSeq, C8.tCut, tNext, tAsg, gName, gNil, gCons, gTup, gFld, tIfS, tIf, tAndV, tOrV, tNotV, tAnd, tOr, tNot, tB, tTest, tOp, tUn, tCB, tCons, tNil, tVar, tC, tChain, tDrop, RS.tCallG, RS.tMethG, tMakeG, RS.tCallK, RS.tMakeK, tEqOwn, rI, rI0, rU, add_ii, add_ss, add_rr, mul_ii, mul_si, mul_ri, RS.eq_ii, RS.eq_ss, eq_bb, eq_nn, eq_sn, eq_ns, eq_in, eq_ni, eq_bn, eq_nb, eq_is, eq_si, eq_rr, ne_ii, ne_ss, ne_bb, ne_nn, ne_sn, ne_ns, ne_in, ne_ni, ne_is, ne_si, ne_rr, in_ss, in_r, nin_ss, nin_r, len_s, len_r, RS.ix_s, RS.ix_r, sl_s, sl_r, is_eq, tyN_n, tyN_b, tyN_i, tyN_s, tru_b, tru_i, tru_n, tSl, tPart, tNoPart, tPar, tPar3, tFmtZ, tFmt, tJs, tDGet, sDPut, sFld, tFld, tTup, tLst, tNever, isB,
  L2.start, List.map_cons, List.map_nil, List.length_cons, List.length_nil, Nat.reduceAdd, Nat.reduceSub, Nat.sub_self, List.replicate_zero, List.replicate_succ, List.append_nil, List.cons_append, List.nil_append, List.getElem?_cons_zero, List.getElem?_cons_succ, List.set_cons_zero, List.set_cons_succ, Option.some.injEq, exists_eq_left, exists_eq_left', exists_and_left, V.bl.injEq, V.int.injEq, V.str.injEq, V.ref.injEq, beq_self_eq_true, Bool.true_or, Bool.or_true, Bool.false_or, Bool.or_false, Bool.and_false, Bool.false_and, Bool.true_and, Bool.and_true, Bool.not_true, Bool.not_false, Bool.false_eq_true, if_true, if_false, ite_true, ite_false, true_and, and_true, and_assoc, String.reduceBEq, String.reduceEq, reduceIte, Bool.and_self, reduceCtorEq, false_and, and_false, exists_false, or_false, false_or, exists_const, iEnumS, iStr, iList, iTup, iRng1, iEnum, tFor_eq, tLc_eq, List.cons.injEq, wipe, not_true_eq_false, not_false_eq_true, upd_same, HO.ins.injEq, HO.tup.injEq, HO.lst.injEq, ofS_eq, lk_nil, lk_cons, pu_nil, pu_cons, sizeLine_eq, Nat.reduceLT, Nat.reduceLeDiff, Nat.reduceEqDiff, Nat.le_refl, decide_true, decide_false, tPr, dget_us, dput_us, vv_nil, vv_cons, RS.pk_nil, pk_one, RS.pk_cons, inr_eq, tDisp, tPairs, tBoolOwn, rBoolOwn, tBM, rAppend, ty_list, ty_str, rEqOwn, iEnumT, RS.tCallS, tM1, tDc_eq, tLock, tLockE, iKeys, tListEnum, rUpdate, tMkX0, tMkX1, tXfv, gSub, rSetL, List.getD_cons_zero, List.getD_cons_succ, tCMethS, ClX.tCVal, tXfa, tIxOwn, tInOwn, tPropG, tMethK, tMethP, tListGen, tDGet2, tDPop2, rNeD0, intA_i, intA_b, tRevL, sFldAug, tPm0, tPm1, tDIn, tDNotIn, tDNewK, RS.tMethS, tForK, tKM, tKC])
theorem lit_0 : (Str.ofString "recordshelf.errors") = SX.S [114, 101, 99, 111, 114, 100, 115, 104, 101, 108, 102, 46, 101, 114, 114, 111, 114, 115] := by decide +kernel
theorem lit_1 : (Str.ofString "recordshelf.volume") = SX.S [114, 101, 99, 111, 114, 100, 115, 104, 101, 108, 102, 46, 118, 111, 108, 117, 109, 101] := by decide +kernel
theorem lit_2 : (Str.ofString "law_recordshelf_k09_pages_written") = SX.S [108, 97, 119, 95, 114, 101, 99, 111, 114, 100, 115, 104, 101, 108, 102, 95, 107, 48, 57, 95, 112, 97, 103, 101, 115, 95, 119, 114, 105, 116, 116, 101, 110] := by decide +kernel
theorem lit_turn : (Str.ofString "turn") = SX.S [116, 117, 114, 110] := by decide +kernel
theorem lit_4 : (Str.ofString "") = SX.S [] := by decide +kernel
theorem lit_sure : (Str.ofString "sure") = SX.S [115, 117, 114, 101] := by decide +kernel
theorem lit_rows : (Str.ofString "rows") = SX.S [114, 111, 119, 115] := by decide +kernel
theorem lit_pages : (Str.ofString "pages") = SX.S [112, 97, 103, 101, 115] := by decide +kernel
theorem lit_8 : (Str.ofString "not a text of the expected form") = SX.S [110, 111, 116, 32, 97, 32, 116, 101, 120, 116, 32, 111, 102, 32, 116, 104, 101, 32, 101, 120, 112, 101, 99, 116, 101, 100, 32, 102, 111, 114, 109] := by decide +kernel
theorem lit_9 : (Str.ofString "not one of the expected words") = SX.S [110, 111, 116, 32, 111, 110, 101, 32, 111, 102, 32, 116, 104, 101, 32, 101, 120, 112, 101, 99, 116, 101, 100, 32, 119, 111, 114, 100, 115] := by decide +kernel
theorem lit_10 : (Str.ofString "not a number of the expected size") = SX.S [110, 111, 116, 32, 97, 32, 110, 117, 109, 98, 101, 114, 32, 111, 102, 32, 116, 104, 101, 32, 101, 120, 112, 101, 99, 116, 101, 100, 32, 115, 105, 122, 101] := by decide +kernel
theorem lit_11 : (Str.ofString "not a volume") = SX.S [110, 111, 116, 32, 97, 32, 118, 111, 108, 117, 109, 101] := by decide +kernel
theorem lit_12 : (Str.ofString "the page is not blank") = SX.S [116, 104, 101, 32, 112, 97, 103, 101, 32, 105, 115, 32, 110, 111, 116, 32, 98, 108, 97, 110, 107] := by decide +kernel
theorem lit_13 : (Str.ofString "the volume has crashed") = SX.S [116, 104, 101, 32, 118, 111, 108, 117, 109, 101, 32, 104, 97, 115, 32, 99, 114, 97, 115, 104, 101, 100] := by decide +kernel
theorem lit_14 : (Str.ofString "another writer is open") = SX.S [97, 110, 111, 116, 104, 101, 114, 32, 119, 114, 105, 116, 101, 114, 32, 105, 115, 32, 111, 112, 101, 110] := by decide +kernel
theorem lit_15 : (Str.ofString "a volume is not iterated over; its pages are used()") = SX.S [97, 32, 118, 111, 108, 117, 109, 101, 32, 105, 115, 32, 110, 111, 116, 32, 105, 116, 101, 114, 97, 116, 101, 100, 32, 111, 118, 101, 114, 59, 32, 105, 116, 115, 32, 112, 97, 103, 101, 115, 32, 97, 114, 101, 32, 117, 115, 101, 100, 40, 41] := by decide +kernel
theorem lit_rest : (Str.ofString "rest") = SX.S [114, 101, 115, 116] := by decide +kernel
theorem lit_cells : (Str.ofString "cells") = SX.S [99, 101, 108, 108, 115] := by decide +kernel
theorem lit_number : (Str.ofString "number") = SX.S [110, 117, 109, 98, 101, 114] := by decide +kernel
theorem lit_other : (Str.ofString "other") = SX.S [111, 116, 104, 101, 114] := by decide +kernel
theorem lit_a : (Str.ofString "a") = SX.S [97] := by decide +kernel
theorem lit_W : (Str.ofString "W") = SX.S [87] := by decide +kernel
theorem lit_22 : (Str.ofString "0") = SX.S [48] := by decide +kernel
theorem lit_23 : (Str.ofString " ") = SX.S [32] := by decide +kernel
theorem lit_24 : (Str.ofString "\n") = SX.S [10] := by decide +kernel
theorem lit_25 : (Str.ofString "~") = SX.S [126] := by decide +kernel
theorem lit_ab : (Str.ofString "ab") = SX.S [97, 98] := by decide +kernel
theorem lit_27 : (Str.ofString ".!") = SX.S [46, 33] := by decide +kernel
theorem lit_text : (Str.ofString "text") = SX.S [116, 101, 120, 116] := by decide +kernel
theorem lit_kind : (Str.ofString "kind") = SX.S [107, 105, 110, 100] := by decide +kernel
theorem lit_volume : (Str.ofString "volume") = SX.S [118, 111, 108, 117, 109, 101] := by decide +kernel
theorem lit_blank : (Str.ofString "blank") = SX.S [98, 108, 97, 110, 107] := by decide +kernel
theorem lit_locked : (Str.ofString "locked") = SX.S [108, 111, 99, 107, 101, 100] := by decide +kernel
theorem lit_dead : (Str.ofString "dead") = SX.S [100, 101, 97, 100] := by decide +kernel
theorem lit_x : (Str.ofString "x") = SX.S [120] := by decide +kernel
theorem lit_35 : (Str.ofString "1") = SX.S [49] := by decide +kernel
theorem lit_36 : (Str.ofString ".") = SX.S [46] := by decide +kernel
local macro_rules | `(tactic| walk_at "lt") => `(tactic| simp only [lit_0, lit_1, lit_2, lit_turn, lit_4, lit_sure, lit_rows, lit_pages, lit_8, lit_9, lit_10, lit_11, lit_12, lit_13, lit_14, lit_15, lit_rest, lit_cells, lit_number, lit_other, lit_a, lit_W, lit_22, lit_23, lit_24, lit_25, lit_ab, lit_27, lit_text, lit_kind, lit_volume, lit_blank, lit_locked, lit_dead, lit_x, lit_35, lit_36])
def top (i : Nat) : Stmt := PySem.Challenge.pw_recordshelf_k09_pages_written.main.body.getD i (.Pass ⟨0, 0, 0, 0⟩)
abbrev s_wall : Stmt := top 0
abbrev s_InvalidText__init : Stmt := inClass (top 5) 0
abbrev s_InvalidKind__init : Stmt := inClass (top 6) 0
abbrev s_InvalidNumber__init : Stmt := inClass (top 7) 0
abbrev s_InvalidVolume__init : Stmt := inClass (top 8) 0
abbrev s_NotBlank__init : Stmt := inClass (top 9) 0
abbrev s_Dead__init : Stmt := inClass (top 10) 0
abbrev s_Locked__init : Stmt := inClass (top 11) 0
abbrev s_is_whole : Stmt := top 13
abbrev s_Volume__init : Stmt := inClass (top 14) 2
abbrev s_Volume_of : Stmt := inClass (top 14) 3
abbrev s_Volume_pending : Stmt := inClass (top 14) 4
abbrev s_Volume_epoch : Stmt := inClass (top 14) 5
abbrev s_Volume_is_claimed : Stmt := inClass (top 14) 6
abbrev s_Volume__getitem : Stmt := inClass (top 14) 7
abbrev s_Volume__contains : Stmt := inClass (top 14) 8
abbrev s_Volume__iter : Stmt := inClass (top 14) 9
abbrev s_Volume_length : Stmt := inClass (top 14) 10
abbrev s_Volume__bool : Stmt := inClass (top 14) 11
abbrev s_Volume__eq : Stmt := inClass (top 14) 12
abbrev s_Volume_set_text : Stmt := inClass (top 14) 13
abbrev s_Volume_make_write : Stmt := inClass (top 14) 14
abbrev s_Volume_need_writable : Stmt := inClass (top 14) 15
abbrev s_Volume_write : Stmt := inClass (top 14) 16
abbrev s_Volume_write_all : Stmt := inClass (top 14) 17
abbrev s_Volume_erase : Stmt := inClass (top 14) 18
abbrev s_Volume_sync : Stmt := inClass (top 14) 19
abbrev s_Volume_need_outcome : Stmt := inClass (top 14) 20
abbrev s_Volume_crash : Stmt := inClass (top 14) 21
abbrev s_Volume_crashed : Stmt := inClass (top 14) 22
abbrev s_Volume_outcomes : Stmt := inClass (top 14) 23
abbrev s_Volume_damage : Stmt := inClass (top 14) 24
abbrev s_Volume_is_alive : Stmt := inClass (top 14) 25
abbrev s_Volume_claim : Stmt := inClass (top 14) 26
abbrev s_Volume_release : Stmt := inClass (top 14) 27
abbrev s_Volume_used : Stmt := inClass (top 14) 28
abbrev s_Volume_texts : Stmt := inClass (top 14) 29
abbrev s_Volume_new_one : Stmt := inClass (top 14) 30
abbrev s_Volume_snapshot : Stmt := inClass (top 14) 31
abbrev s_Volume_unlike : Stmt := inClass (top 14) 32
abbrev s_is_page : Stmt := top 15
abbrev s_need_page : Stmt := top 16
abbrev s_is_page_text : Stmt := top 17
abbrev s_l_sources : Stmt := top 19
abbrev s_l_pick : Stmt := top 20
abbrev s_l_told : Stmt := top 21
abbrev s_l_what : Stmt := top 22
abbrev s_l_spot : Stmt := top 23
abbrev s_l_with : Stmt := top 24
abbrev s_l_begun : Stmt := top 25
abbrev s_l_noted : Stmt := top 26
abbrev s_l_sure : Stmt := top 27
abbrev s_l_is_at : Stmt := top 28
abbrev s_l_written : Stmt := top 29
abbrev s_l_step_right : Stmt := top 30
abbrev s_l_texts_right : Stmt := top 31
abbrev s_l_emptied : Stmt := top 32
abbrev s_law : Stmt := top 33
theorem bb_dict : bootBuiltins "dict" = some (.type "dict") := by decide +kernel
theorem bb_max : bootBuiltins "max" = some (.builtin "max") := by decide +kernel
theorem bb_sorted : bootBuiltins "sorted" = some (.builtin "sorted") := by decide +kernel
structure Txt (g : Wd) : Prop where
  b_len : g.mg "len" = none
  b_isinstance : g.mg "isinstance" = none
  b_repr : g.mg "repr" = none
  b_enumerate : g.mg "enumerate" = none
  b_range : g.mg "range" = none
  b_list : g.mg "list" = none
  b_tuple : g.mg "tuple" = none
  b_dict : g.mg "dict" = none
  b_bool : g.mg "bool" = none
  b_int : g.mg "int" = none
  b_str : g.mg "str" = none
  b_min : g.mg "min" = none
  b_max : g.mg "max" = none
  b_sorted : g.mg "sorted" = none
  nd : PySem.W.nsIn g.K cStatics "sys.int_max_str_digits" = some none
/-- what is known of the class Volume -/
structure VF (g : Wd) (C : Addr) : Prop where
  cls : Cls g.K C
  n1 : NoAttr g.K C "page_texts"
  n2 : NoAttr g.K C "waiting"
  n3 : NoAttr g.K C "crash_count"
  n4 : NoAttr g.K C "is_taken"
  rd : ∃ mc, ClX.CRead g.K C mc ∧ (∃ u, ClX.CVal g.K C mc "PAGE" (.int 64) u) ∧ ∃ u, ClX.CVal g.K C mc "PAGES" (.int 10000000) u
section
variable {g : Wd} {f : Addr} {fd : FuncData} {C CN : Addr}
theorem sc_is_whole : FnScope ["value", "least", "most"] ["value", "least", "most"] (defScope s_is_whole) := ⟨rfl, rfl, rfl, by decide +kernel, rfl, by decide +kernel, by decide +kernel⟩
def sp_whole : Sp := S3 fun v a b H Q _ => ∃ n lo hi, v = .int n ∧ a = .int lo ∧ b = .int hi ∧ Q (.bl (decide (lo ≤ n ∧ n ≤ hi))) H
theorem ok_whole (F : Df g.K "is_whole" "is_whole" s_is_whole f fd .none) (T : Txt g) : FnG g 1 f fd ["value", "least", "most"] sp_whole := by
  refine F.ok sc_is_whole (fun vs H Q E h => S3.len h) (fun cdv A outer s H vs Q E hr h => ?_)
  obtain ⟨_, _, _, rfl, n, lo, hi, rfl, rfl, rfl, q⟩ := h
  refine ⟨_, (pss_one (ps_ret (pe_and (pe_callB (c_is "int") (by rfl) T.b_isinstance bb_isinstance (pa_cons (pv 0) (pa_cons (pe_bltn (v := .ty "int") rfl T.b_int bb_int rfl) pa_nil))) (pe_and (pe_not (pe_callB (c_is "bool") (by rfl) T.b_isinstance bb_isinstance (pa_cons (pv 0) (pa_cons (pe_bltn (v := .ty "bool") rfl T.b_bool bb_bool rfl) pa_nil)))) (pe_one (pe_chain op_le op_le (pv 1) (pv 0) (pv 2))))))), ?_⟩
  walk_at "sx"
  by_cases h1 : lo ≤ n
  · simpa [h1] using q
  · simpa [h1] using q
theorem sc_is_page : FnScope ["value"] ["value"] (defScope s_is_page) := ⟨rfl, rfl, rfl, by decide +kernel, rfl, by decide +kernel, by decide +kernel⟩
def sp_isp : Sp := S1 fun v H Q _ => ∃ n, v = .int n ∧ Q (.bl (decide (0 ≤ n ∧ n ≤ 9999999))) H
theorem ok_isp (F : Df g.K "is_page" "is_page" s_is_page f fd .none) (T : Txt g) (V_Volume : Gv g "Volume" (.ref C)) (R : VF g C) (F_is_whole : Kn g "is_whole" 1 ["value", "least", "most"] [] sp_whole) : FnG g 2 f fd ["value"] sp_isp := by
  refine F.ok sc_is_page (fun vs H Q E h => S1.len h) (fun cdv A outer s H vs Q E hr h => ?_)
  obtain ⟨_, rfl, n, rfl, q⟩ := h
  refine ⟨_, (pss_one (ps_ret (pe_callG F_is_whole (hr.mono (by first | decide | omega)) tkD (pa_cons (pv 0) (pa_cons pe_int (pa_cons (pe_op op_sub (e_cval (g := g) (e_g V_Volume)) pe_int) pa_nil)))))), ?_⟩
  walk_at "sx"
  obtain ⟨mc, h1, _, u, h2⟩ := R.rd
  exact ⟨mc, h1, _, u, h2, _, rfl, _, _, _, rfl, n, 0, 9999999, rfl, rfl, rfl, q⟩
theorem sc_need_page : FnScope ["value"] ["value"] (defScope s_need_page) := ⟨rfl, rfl, rfl, by decide +kernel, rfl, by decide +kernel, by decide +kernel⟩
def sp_needp (CN : Addr) : Sp := S1 fun v H Q E => ∃ n, v = .int n ∧ ((0 ≤ n ∧ n < 10000000) → Q .non H) ∧ (¬ (0 ≤ n ∧ n < 10000000) → ∀ dd, H dd = none → E (.ref CN) (some dd) (upd H dd (.xd [("given", v)])))
theorem ok_needp (F : Df g.K "need_page" "need_page" s_need_page f fd .none) (T : Txt g) (F_is_page : Kn g "is_page" 2 ["value"] [] sp_isp) (X_InvalidNumber : XK1 g "InvalidNumber" CN "given") (RI : PySem.W.subIn g.K (.ref CN) (.type "BaseException") = some true ∧ PySem.W.typeIn g.K (.ref CN) = some (.type "type")) : FnG g 3 f fd ["value"] (sp_needp CN) := by
  refine F.ok sc_need_page (fun vs H Q E h => S1.len h) (fun cdv A outer s H vs Q E hr h => ?_)
  obtain ⟨_, rfl, n, rfl, q1, q2⟩ := h
  have R_InvalidNumber := raises_own (X := cx g ["value"] "need_page" s_need_page f cdv A outer s H E) RI.1 RI.2
  refine ⟨_, (pss_one (ps_if (pt_not (pt_val (pe_callG F_is_page (hr.mono (by first | decide | omega)) tkD (pa_cons (pv 0) pa_nil)))) (pss_one (ps_raise rfl tkD (pmk_x1 X_InvalidNumber R_InvalidNumber (hr.mono (by first | decide | omega)) (pa_cons (pv 0) pa_nil)))) pss_nil)), ?_⟩
  walk_at "sx"
  refine ⟨_, rfl, n, rfl, _, rfl, ?_⟩
  by_cases h : 0 ≤ n ∧ n < 10000000
  · rw [if_neg (by simp; omega)]
    exact q1 h
  · rw [if_pos (by simp; omega)]
    exact q2 h
theorem sc_is_page_text : FnScope ["value"] ["value"] (defScope s_is_page_text) := ⟨rfl, rfl, rfl, by decide +kernel, rfl, by decide +kernel, by decide +kernel⟩
def sp_ispt : Sp := S1 fun v H Q _ => (∃ t, v = .str t ∧ t.length ≤ 16777216 ∧ Q (.bl (decide (t.length ≤ 64))) H)
theorem ok_ispt (F : Df g.K "is_page_text" "is_page_text" s_is_page_text f fd .none) (T : Txt g) (V_Volume : Gv g "Volume" (.ref C)) (R : VF g C) : FnG g 1 f fd ["value"] sp_ispt := by
  refine F.ok sc_is_page_text (fun vs H Q E h => S1.len h) (fun cdv A outer s H vs Q E hr h => ?_)
  obtain ⟨_, rfl, t, rfl, ht, q⟩ := h
  refine ⟨_, (pss_one (ps_ret (pe_and (pe_callB (c_is "str") (by rfl) T.b_isinstance bb_isinstance (pa_cons (pv 0) (pa_cons (pe_bltn (v := .ty "str") rfl T.b_str bb_str rfl) pa_nil))) (pe_one (pe_cmpR op_le (pe_callB (c_len (K := g.K)) (by rfl) T.b_len bb_len (pa_cons (pv 0) pa_nil)) (e_cval (g := g) (e_g V_Volume)) (nomark _)))))), ?_⟩
  walk_at "sx"
  obtain ⟨mc, h1, ⟨u, h2⟩, _⟩ := R.rd
  refine ⟨ht, mc, h1, _, u, h2, _, rfl, ?_⟩
  rw [show decide (((t.length : Nat) : Int) ≤ 64) = decide (t.length ≤ 64) from decide_eq_decide.mpr (by omega)]
  exact q
end


/-! volumes in the heap; their methods -/
/-- the rows of pending writes -/
def RowsAt (H : Hp) (ws : List V) (rows : List Row) : Prop := ws.length = rows.length ∧ ∀ (i : Nat) (r : Row), rows[i]? = some r → ∃ t, ws[i]? = some (V.ref t) ∧ H t = some (.tup [.int r.1, .str r.2.1, .str r.2.2])
abbrev vfs (d w : Addr) (ep : Int) (tk : Bool) : List (Str × V) := [("page_texts", .ref d), ("waiting", .ref w), ("crash_count", .int ep), ("is_taken", .bl tk)]
/-- a volume with the pages f and the pending writes rows -/
structure VolX (C : Addr) (H : Hp) (y dy d w : Addr) (ep : Int) (tk : Bool) (kvs : List (Key × V)) (ws : List V) (f : Pg) (rows : List Row) : Prop where
  hy : H y = some (.ins C dy (vfs d w ep tk))
  hd : H d = some (.dK kvs)
  hw : H w = some (.lst ws)
  pr : PR kvs f
  ra : RowsAt H ws rows
  fin : Fine f
  rf : RowsF rows
def Vol (C : Addr) (H : Hp) (y d w : Addr) (f : Pg) (rows : List Row) : Prop := ∃ dy ep tk kvs ws, VolX C H y dy d w ep tk kvs ws f rows
theorem RowsAt.fr {H H' : Hp} {ws : List V} {rows : List Row} {fp : List Addr} (h : RowsAt H ws rows) (s : Fr1 fp H H') (n : ∀ c ∈ fp, ∀ xs, H c ≠ some (.tup xs)) : RowsAt H' ws rows := ⟨h.1, fun i r e => by
  obtain ⟨t, e1, e2⟩ := h.2 i r e
  exact ⟨t, e1, s t _ (fun m => n t m _ e2) e2⟩⟩
theorem RowsAt.frT {H H' : Hp} {ws : List V} {rows : List Row} {fp : List Addr} (h : RowsAt H ws rows) (s : FrT fp H H') (n : ∀ c ∈ fp, ∀ xs, H c ≠ some (.tup xs)) : RowsAt H' ws rows := ⟨h.1, fun i r e => by
  obtain ⟨t, e1, e2⟩ := h.2 i r e
  exact ⟨t, e1, s t _ (fun m => n t m _ e2) (fun _ z => by cases z) e2⟩⟩
theorem RowsAt.snoc {H' : Hp} {ws : List V} {rows : List Row} {r : Row} {t : Addr} (h : RowsAt H' ws rows) (e : H' t = some (.tup [.int r.1, .str r.2.1, .str r.2.2])) : RowsAt H' (ws ++ [.ref t]) (rows ++ [r]) := by
  refine ⟨by simp [h.1], fun i r' hi => ?_⟩
  by_cases lt : i < rows.length
  · rw [List.getElem?_append_left lt] at hi
    obtain ⟨t', e1, e2⟩ := h.2 i r' hi
    exact ⟨t', by rw [List.getElem?_append_left (by rw [h.1]; exact lt)]; exact e1, e2⟩
  · rw [List.getElem?_append_right (by omega)] at hi
    obtain ⟨hz, e0⟩ : i - rows.length = 0 ∧ r = r' := by
      cases hk : i - rows.length with
      | zero => rw [hk] at hi; exact ⟨rfl, by simpa using hi⟩
      | succ n => rw [hk] at hi; simp at hi
    subst e0
    exact ⟨t, by rw [List.getElem?_append_right (by rw [h.1]; omega), h.1, hz]; rfl, e⟩
theorem RowsAt.drop {H : Hp} {ws : List V} {rows : List Row} (h : RowsAt H ws rows) (k : Nat) : RowsAt H (ws.drop k) (rows.drop k) := ⟨by simp [h.1], fun i r e => by
  rw [List.getElem?_drop] at e ⊢
  exact h.2 _ r e⟩
theorem RowsAt.take {H : Hp} {ws : List V} {rows : List Row} (h : RowsAt H ws rows) (k : Nat) : RowsAt H (ws.take k) (rows.take k) := ⟨by simp [h.1], fun i r e => by
  by_cases lt : i < k
  · rw [List.getElem?_take_of_lt lt] at e ⊢
    exact h.2 _ r e
  · rw [List.getElem?_take_eq_none (by omega)] at e; cases e⟩
theorem RowsAt.rev {H : Hp} {ws : List V} {rows : List Row} (h : RowsAt H ws rows) : RowsAt H ws.reverse rows.reverse := ⟨by simp [h.1], fun i r e => by
  have lt : i < rows.length := by
    have := List.getElem?_eq_some_iff.mp e
    obtain ⟨z, _⟩ := this
    simpa using z
  rw [List.getElem?_reverse lt] at e
  rw [List.getElem?_reverse (by rw [h.1]; exact lt), h.1]
  exact h.2 _ r e⟩
theorem RowsAt.set {H : Hp} {ws : List V} {rows : List Row} {i : Nat} {r : Row} {c : Addr} (h : RowsAt H ws rows) (e : H c = some (.tup [.int r.1, .str r.2.1, .str r.2.2])) : RowsAt H (ws.set i (.ref c)) (rows.set i r) := by
  refine ⟨by simp [h.1], fun j r' hj => ?_⟩
  rw [List.getElem?_set] at hj ⊢
  by_cases z : i = j
  · subst z
    rw [if_pos rfl] at hj ⊢
    split at hj
    · cases hj
      rename_i lt
      exact ⟨c, by rw [if_pos (by rw [h.1]; exact lt)], e⟩
    · cases hj
  · rw [if_neg z] at hj ⊢
    exact h.2 j r' hj
theorem RowsAt.nil {H : Hp} : RowsAt H [] [] := ⟨rfl, by simp⟩
theorem VolX.ne1 {C : Addr} {H : Hp} {y dy d w : Addr} {ep : Int} {tk : Bool} {kvs : List (Key × V)} {ws : List V} {f : Pg} {rows : List Row} (h : VolX C H y dy d w ep tk kvs ws f rows) : y ≠ d ∧ y ≠ w ∧ d ≠ w := by
  have h1 := h.hy; have h2 := h.hd; have h3 := h.hw
  refine ⟨fun z => ?_, fun z => ?_, fun z => ?_⟩
  · rw [z, h2] at h1; cases h1
  · rw [z, h3] at h1; cases h1
  · rw [z, h3] at h2; cases h2
theorem VolX.nt {C : Addr} {H : Hp} {y dy d w : Addr} {ep : Int} {tk : Bool} {kvs : List (Key × V)} {ws : List V} {f : Pg} {rows : List Row} (h : VolX C H y dy d w ep tk kvs ws f rows) : ∀ c ∈ [y, d, w], ∀ xs, H c ≠ some (.tup xs) := by
  intro c hc xs z
  simp only [List.mem_cons, List.not_mem_nil, or_false] at hc
  rcases hc with rfl | rfl | rfl
  · rw [h.hy] at z; cases z
  · rw [h.hd] at z; cases z
  · rw [h.hw] at z; cases z
theorem VolX.live {C : Addr} {H : Hp} {y dy d w : Addr} {ep : Int} {tk : Bool} {kvs : List (Key × V)} {ws : List V} {f : Pg} {rows : List Row} (h : VolX C H y dy d w ep tk kvs ws f rows) : ∀ c ∈ [y, d, w], H c ≠ none := by
  intro c hc z
  simp only [List.mem_cons, List.not_mem_nil, or_false] at hc
  rcases hc with rfl | rfl | rfl
  · rw [h.hy] at z; cases z
  · rw [h.hd] at z; cases z
  · rw [h.hw] at z; cases z
theorem _root_.RS.Fr1.none {fp : List Addr} {H H' : Hp} {p : Addr} (f : Fr1 fp H H') (l : ∀ c ∈ fp, H' c ≠ none) (h : H' p = none) : H p = none := by
  cases e : H p with
  | none => rfl
  | some o =>
    by_cases m : p ∈ fp
    · exact absurd h (l p m)
    · rw [f p o m e] at h; cases h
theorem _root_.RS.FrT.none {fp : List Addr} {H H' : Hp} {p : Addr} (f : FrT fp H H') (l : ∀ c ∈ fp, H' c ≠ none) (t : ∀ ps, H p = some (.tbl ps) → H' p ≠ none) (h : H' p = none) : H p = none := by
  cases e : H p with
  | none => rfl
  | some o =>
    by_cases m : p ∈ fp
    · exact absurd h (l p m)
    · by_cases z : ∃ ps, o = .tbl ps
      · obtain ⟨ps, rfl⟩ := z
        exact absurd h (t ps e)
      · rw [f p o m (fun ps y => z ⟨ps, y⟩) e] at h; cases h
/-- the dict of the pages has changed -/
theorem VolX.setD {C : Addr} {H : Hp} {y dy d w : Addr} {ep : Int} {tk : Bool} {kvs kvs' : List (Key × V)} {ws : List V} {f f' : Pg} {rows : List Row} (h : VolX C H y dy d w ep tk kvs ws f rows) (p : PR kvs' f') (ff : Fine f') : VolX C (upd H d (.dK kvs')) y dy d w ep tk kvs' ws f' rows := by
  obtain ⟨n1, n2, n3⟩ := h.ne1
  exact ⟨by rw [upd_ne n1]; exact h.hy, upd_same, by rw [upd_ne (Ne.symm n3)]; exact h.hw, p, h.ra.fr (Fr1.upd (by simp)) h.nt, ff, h.rf⟩
theorem VolX.fr {C : Addr} {H H' : Hp} {y dy d w : Addr} {ep : Int} {tk : Bool} {kvs : List (Key × V)} {ws : List V} {f : Pg} {rows : List Row} {fp : List Addr} (h : VolX C H y dy d w ep tk kvs ws f rows) (s : FrT fp H H') (n : ∀ c ∈ fp, ∀ xs, H c ≠ some (.tup xs)) (a : ∀ c ∈ [y, d, w], c ∉ fp) : VolX C H' y dy d w ep tk kvs ws f rows :=
  ⟨s _ _ (a _ (by simp)) (fun _ z => by cases z) h.hy, s _ _ (a _ (by simp)) (fun _ z => by cases z) h.hd, s _ _ (a _ (by simp)) (fun _ z => by cases z) h.hw, h.pr, h.ra.frT s n, h.fin, h.rf⟩
theorem Vol.fr {C : Addr} {H H' : Hp} {y d w : Addr} {f : Pg} {rows : List Row} {fp : List Addr} (h : Vol C H y d w f rows) (s : FrT fp H H') (n : ∀ c ∈ fp, ∀ xs, H c ≠ some (.tup xs)) (a : ∀ c ∈ [y, d, w], c ∉ fp) : Vol C H' y d w f rows := by
  obtain ⟨dy, ep, tk, kvs, ws, h⟩ := h
  exact ⟨dy, ep, tk, kvs, ws, h.fr s n a⟩
theorem Vol.same {C : Addr} {H H' : Hp} {y d w : Addr} {f : Pg} {rows : List Row} (h : Vol C H y d w f rows) (s : Same H H') : Vol C H' y d w f rows := h.fr (fp := []) (FrT.of s) (by simp) (by simp)
theorem lk_pt {d w : Addr} {ep : Int} {tk : Bool} : List.lookup (Str.ofString "page_texts") (vfs d w ep tk) = some (.ref d) := by
  rw [lk_cons, if_pos rfl]
theorem lk_wt {d w : Addr} {ep : Int} {tk : Bool} : List.lookup (Str.ofString "waiting") (vfs d w ep tk) = some (.ref w) := by
  rw [lk_cons, if_neg (by decide +kernel), lk_cons, if_pos rfl]
theorem lk_cc {d w : Addr} {ep : Int} {tk : Bool} : List.lookup (Str.ofString "crash_count") (vfs d w ep tk) = some (.int ep) := by
  rw [lk_cons, if_neg (by decide +kernel), lk_cons, if_neg (by decide +kernel), lk_cons, if_pos rfl]
theorem lk_no {x : Str} {d w : Addr} {ep : Int} {tk : Bool} (h : [("page_texts" : Str), "waiting", "crash_count", "is_taken"].contains x = false := by decide +kernel) : List.lookup x (vfs d w ep tk) = none := by
  have h' : ∀ k, k ∈ [("page_texts" : Str), "waiting", "crash_count", "is_taken"] → ¬ x = k := fun k hk z => by
    rw [z, List.contains_iff_mem.mpr hk] at h; cases h
  rw [lk_cons, if_neg (h' _ (by simp)), lk_cons, if_neg (h' _ (by simp)), lk_cons, if_neg (h' _ (by simp)), lk_cons, if_neg (h' _ (by simp))]; rfl
theorem pu_wt {d w w' : Addr} {ep : Int} {tk : Bool} : putF (Str.ofString "waiting") (.ref w') (vfs d w ep tk) = vfs d w' ep tk := by
  rw [pu_cons, if_neg (by decide +kernel), pu_cons, if_pos rfl]
theorem pu_pt {d d' w : Addr} {ep : Int} {tk : Bool} : putF (Str.ofString "page_texts") (.ref d') (vfs d w ep tk) = vfs d' w ep tk := by
  rw [pu_cons, if_pos rfl]
theorem pu_cc {d w : Addr} {ep ep' : Int} {tk : Bool} : putF (Str.ofString "crash_count") (.int ep') (vfs d w ep tk) = vfs d w ep' tk := by
  rw [pu_cons, if_neg (by decide +kernel), pu_cons, if_neg (by decide +kernel), pu_cons, if_pos rfl]
theorem pu_tk {d w : Addr} {ep : Int} {tk tk' : Bool} : putF (Str.ofString "is_taken") (.bl tk') (vfs d w ep tk) = vfs d w ep tk' := by
  rw [pu_cons, if_neg (by decide +kernel), pu_cons, if_neg (by decide +kernel), pu_cons, if_neg (by decide +kernel), pu_cons, if_pos rfl]
/-- the epoch of a volume, and whether it is claimed -/
def EtIs (H : Hp) (y : Addr) (e : Int) (k : Bool) : Prop := ∃ C dy d w, H y = some (.ins C dy (vfs d w e k))
def EK (H H' : Hp) (y : Addr) : Prop := ∀ e k, EtIs H y e k → EtIs H' y e k
theorem EtIs.uni {H : Hp} {y C dy d w : Addr} {e ep : Int} {k tk : Bool} (h : EtIs H y e k) (hy : H y = some (.ins C dy (vfs d w ep tk))) : e = ep ∧ k = tk := by
  obtain ⟨C', dy', d', w', h⟩ := h
  rw [hy] at h
  simp only [vfs, Option.some.injEq, HO.ins.injEq, List.cons.injEq, Prod.mk.injEq, V.int.injEq, V.bl.injEq, true_and, and_true] at h
  exact ⟨h.2.2.2.2.1.symm, h.2.2.2.2.2.symm⟩
theorem ek_of {H H' : Hp} {y C dy d w C' dy' d' w' : Addr} {ep : Int} {tk : Bool} (hy : H y = some (.ins C dy (vfs d w ep tk))) (hy' : H' y = some (.ins C' dy' (vfs d' w' ep tk))) : EK H H' y := fun e k h => by
  obtain ⟨rfl, rfl⟩ := h.uni hy
  exact ⟨_, _, _, _, hy'⟩
theorem EK.trans {H H1 H2 : Hp} {y : Addr} (a : EK H H1 y) (b : EK H1 H2 y) : EK H H2 y := fun e k h => b e k (a e k h)
theorem EK.refl (H : Hp) (y : Addr) : EK H H y := fun _ _ h => h
theorem EtIs.fr {H H' : Hp} {y : Addr} {e : Int} {k : Bool} {fp : List Addr} (h : EtIs H y e k) (s : FrT fp H H') (n : y ∉ fp) : EtIs H' y e k := by
  obtain ⟨C, dy, d, w, h⟩ := h
  exact ⟨C, dy, d, w, s _ _ n (fun _ z => by cases z) h⟩
theorem EtIs.same {H H' : Hp} {y : Addr} {e : Int} {k : Bool} (h : EtIs H y e k) (s : Same H H') : EtIs H' y e k := h.fr (fp := []) (FrT.of s) (by simp)
theorem ek_fr {H H' : Hp} {y : Addr} {fp : List Addr} (s : FrT fp H H') (n : y ∉ fp) : EK H H' y := fun _ _ h => h.fr s n
theorem VolX.et {C : Addr} {H : Hp} {y dy d w : Addr} {ep : Int} {tk : Bool} {kvs : List (Key × V)} {ws : List V} {f : Pg} {rows : List Row} (h : VolX C H y dy d w ep tk kvs ws f rows) : EtIs H y ep tk := ⟨_, _, _, _, h.hy⟩
section
variable {g : Wd} {fa : Addr} {fd : FuncData} {C_Volume CN CT CB : Addr}
/-- a volume's method has left: what stands where -/
def To (C : Addr) (H : Hp) (y d w : Addr) (f' : Pg) (rows' : List Row) (q : Hp → Prop) : Prop := ∀ w' H', Vol C H' y d w' f' rows' → (w' = w ∨ H w' = none) → Fr1 [y, d, w] H H' → EK H H' y → q H'
theorem sc_Volume_set_text : FnScope ["self", "number", "text"] ["self", "number", "text"] (defScope s_Volume_set_text) := ⟨rfl, rfl, rfl, by decide +kernel, rfl, by decide +kernel, by decide +kernel⟩
def sp_set (C : Addr) : Sp := S3 fun z n t H Q _ => ∃ y dy d w ep tk kvs ws f rows m s, z = .ref y ∧ n = .int m ∧ t = .str s ∧ VolX C H y dy d w ep tk kvs ws f rows ∧ ∀ kvs', PR kvs' (setP f m s) → Q .non (upd H d (.dK kvs'))
theorem isd {H : Hp} {a : Addr} {kvs : List (Key × V)} (h : H a = some (.dK kvs)) : IsD H a := .inl ⟨kvs, .inl h⟩
theorem dput_i {H : Hp} {a : Addr} {kvs : List (Key × V)} {k : Int} {v : V} {P : Hp → Prop} (e : H a = some (.dK kvs)) : (∃ H4, DPut H a (.int k) v H4 ∧ P H4) = (kvs.length < sizeLine ∧ P (upd H a (.dK (putK kvs (.inl k) v)))) := dput_of (k := .inl k) e
theorem upd_eq {H : Hp} {a : Addr} {o : HO} (h : H a = some o) : upd H a o = H := by
  funext b
  by_cases e : b = a
  · subst e; rw [upd_same, h]
  · rw [upd_ne e]
theorem ok_set (F : Df g.K "set_text" "Volume.set_text" s_Volume_set_text fa fd .none) (T : Txt g) (R : VF g C_Volume) : FnG g 1 fa fd ["self", "number", "text"] (sp_set C_Volume) := by
  refine F.ok sc_Volume_set_text (fun vs H Q E h => S3.len h) (fun cdv A outer s H vs Q E hr h => ?_)
  obtain ⟨_, _, _, rfl, y, dy, d, w, ep, tk, kvs, ws, f, rows, m, t, rfl, rfl, rfl, hv, q⟩ := h
  refine ⟨_, (pss_one (ps_if (pt_cmpR (o_eq (K := g.K) hr) (pv 2) pe_str (nomark _)) (pss_one (ps_expr (e_pop2 (e_fld (K := g.K) (pv 0)) (pv 1) pe_str))) (pss_one (ps_dput (hu_of hr.room) (e_fld (K := g.K) (pv 0)) (pv 1) (pv 2) rfl)))), ?_⟩
  have hy := hv.hy
  walk_at "sx"
  by_cases e : t = nil_
  · subst e
    rw [if_pos (decide_eq_true rfl)]
    refine ⟨_, _, _, hy, R.cls, R.n1, _, lk_pt, d, rfl, isd hv.hd, kvs, hv.hd, .inl m, rfl, fun v _ => q _ (hv.pr.drop m), fun hn => ?_⟩
    have fm : f m = nil_ := Classical.byContradiction fun z => by
      have := hv.pr.isSome m
      rw [hn] at this
      simp [z] at this
    have := q kvs (by rw [← fm, setP_id]; exact hv.pr)
    rw [upd_eq hv.hd] at this
    exact this
  · rw [if_neg (fun z => e (of_decide_eq_true z))]
    refine ⟨_, _, _, hy, R.cls, R.n1, _, lk_pt, d, rfl, ?_⟩
    rw [dput_i hv.hd]
    have hl := hv.pr.len hv.fin
    exact ⟨by rw [sizeLine_eq]; omega, q _ (hv.pr.put m e).1⟩
theorem sc_Volume_make_write : FnScope ["self", "number", "text"] ["self", "number", "text"] (defScope s_Volume_make_write) := ⟨rfl, rfl, rfl, by decide +kernel, rfl, by decide +kernel, by decide +kernel⟩
def sp_mkw (C : Addr) : Sp := S3 fun z n t H Q _ => ∃ y d w f rows m s, z = .ref y ∧ n = .int m ∧ t = .str s ∧ Vol C H y d w f rows ∧ rows.length ≤ 999 ∧ 0 ≤ m ∧ m < 10000000 ∧ TOk s ∧ To C H y d w (setP f m s) (rows ++ [(m, f m, s)]) fun H' => Q .non H'
theorem ok_mkw (F : Df g.K "make_write" "Volume.make_write" s_Volume_make_write fa fd .none) (T : Txt g) (R : VF g C_Volume) (CL_Volume : Cls g.K C_Volume) (M_Volume_set_text : Km g C_Volume "set_text" 1 ["self", "number", "text"] [] (sp_set C_Volume)) : FnG g 2 fa fd ["self", "number", "text"] (sp_mkw C_Volume) := by
  refine F.ok sc_Volume_make_write (fun vs H Q E h => S3.len h) (fun cdv A outer s H vs Q E hr h => ?_)
  obtain ⟨_, _, _, rfl, y, d, w, f, rows, m, t, rfl, rfl, rfl, ⟨dy, ep, tk, kvs, ws, hv⟩, hN, m0, m1, tl, q⟩ := h
  refine ⟨_, (pss_cons (ps_expr (e_bm (K := g.K) PySem.F.plainAttrs_list PySem.F.slot_list_append PySem.F.type_list_append mt_append (e_fld (K := g.K) (pv 0)) (pa_cons (pe_tup (pa_cons (pv 1) (pa_cons (e_get2 (hu_of hr.room) (e_fld (K := g.K) (pv 0)) (pv 1) pe_str) (pa_cons (pv 2) pa_nil)))) pa_nil)))
      (pss_one (ps_expr (pe_methG (pv 0) CL_Volume M_Volume_set_text (hr.mono (by first | decide | omega)) tkD (pa_cons (pv 1) (pa_cons (pv 2) pa_nil)))))), ?_⟩
  have hy := hv.hy
  walk_at "sx"
  refine ⟨_, _, _, hy, R.cls, R.n2, _, lk_wt, ?_, _, _, _, hy, R.cls, R.n1, _, lk_pt, d, rfl, isd hv.hd, _, (by rw [dget_i hv.hd]), fun p hp => ⟨w, rfl, ws, ?_, ?_, ?_⟩⟩
  · rw [ty_list]; exact ⟨_, SqL.of hv.hw⟩
  · rw [upd_ne (ne_of_none hv.hw hp)]; exact hv.hw
  · rw [hv.ra.1]; omega
  rw [show Str.ofString "" = nil_ from rfl, hv.pr.getD]
  obtain ⟨n1, n2, n3⟩ := hv.ne1
  have hv2 : VolX C_Volume (upd (upd H p (.tup [.int m, .str (f m), .str t])) w (.lst (ws ++ [.ref p]))) y dy d w ep tk kvs (ws ++ [.ref p]) f (rows ++ [(m, f m, t)]) := by
    refine ⟨?_, ?_, upd_same, hv.pr, ?_, hv.fin, hv.rf.snoc ⟨m0, m1, hv.fin.len m, tl⟩⟩
    · rw [upd_ne n2, upd_ne (ne_of_none hv.hy hp)]; exact hv.hy
    · rw [upd_ne n3, upd_ne (ne_of_none hv.hd hp)]; exact hv.hd
    · have fr : Fr1 [y, d, w] H (upd (upd H p (.tup [.int m, .str (f m), .str t])) w (.lst (ws ++ [.ref p]))) := (Fr1.of (same_upd hp)).trans (Fr1.upd (by simp))
      refine (hv.ra.fr fr hv.nt).snoc ?_
      rw [upd_ne (fun z => by rw [z, hv.hw] at hp; cases hp), upd_same]
  refine ⟨_, _, hv2.hy, lk_no, _, _, _, rfl, y, dy, d, w, ep, tk, kvs, _, f, _, m, t, rfl, rfl, rfl, hv2, fun kvs' p1 => ?_⟩
  have hv3 := hv2.setD p1 (hv.fin.set (fun _ => ⟨m0, m1⟩) tl)
  refine q w _ ⟨dy, ep, tk, kvs', _, hv3⟩ (.inl rfl) ?_ (ek_of hy hv3.hy)
  exact ((Fr1.of (same_upd hp)).trans (Fr1.upd (by simp))).trans (Fr1.upd (by simp))
theorem sc_Volume_need_writable : FnScope ["self", "number", "text"] ["self", "number", "text"] (defScope s_Volume_need_writable) := ⟨rfl, rfl, rfl, by decide +kernel, rfl, by decide +kernel, by decide +kernel⟩
def sp_nwr (C CN CT CB : Addr) : Sp := S3 fun z n t H Q E => ∃ y d w f rows m s, z = .ref y ∧ n = .int m ∧ t = .str s ∧ Vol C H y d w f rows ∧ 0 ≤ m ∧ m < 10000000 ∧ TOk s ∧ s ≠ nil_ ∧ (f m = nil_ → Q .non H) ∧ (f m ≠ nil_ → ∀ dd, H dd = none → E (.ref CB) (some dd) (upd H dd (.xd [("page", n)])))
theorem ok_nwr (F : Df g.K "need_writable" "Volume.need_writable" s_Volume_need_writable fa fd .none) (T : Txt g) (R : VF g C_Volume) (F_need_page : Kn g "need_page" 3 ["value"] [] (sp_needp CN)) (F_is_page_text : Kn g "is_page_text" 1 ["value"] [] sp_ispt)
    (X_InvalidText : XK1 g "InvalidText" CT "position") (X_NotBlank : XK1 g "NotBlank" CB "page") (RT : PySem.W.subIn g.K (.ref CT) (.type "BaseException") = some true ∧ PySem.W.typeIn g.K (.ref CT) = some (.type "type")) (RB : PySem.W.subIn g.K (.ref CB) (.type "BaseException") = some true ∧ PySem.W.typeIn g.K (.ref CB) = some (.type "type")) : FnG g 4 fa fd ["self", "number", "text"] (sp_nwr C_Volume CN CT CB) := by
  refine F.ok sc_Volume_need_writable (fun vs H Q E h => S3.len h) (fun cdv A outer s H vs Q E hr h => ?_)
  obtain ⟨_, _, _, rfl, y, d, w, f, rows, m, t, rfl, rfl, rfl, ⟨dy, ep, tk, kvs, ws, hv⟩, m0, m1, tl, tn, q1, q2⟩ := h
  have R_InvalidText := raises_own (X := cx g ["self", "number", "text"] "Volume.need_writable" s_Volume_need_writable fa cdv A outer s H E) RT.1 RT.2
  have R_NotBlank := raises_own (X := cx g ["self", "number", "text"] "Volume.need_writable" s_Volume_need_writable fa cdv A outer s H E) RB.1 RB.2
  refine ⟨_, (pss_cons (ps_expr (pe_callG F_need_page (hr.mono (by first | decide | omega)) tkD (pa_cons (pv 1) pa_nil)))
      (pss_cons (ps_if (PW.pt (pw_or (pt_not (pt_val (pe_callG F_is_page_text (hr.mono (by first | decide | omega)) tkD (pa_cons (pv 2) pa_nil)))) (pw_or1 (pt_cmpR (o_eq (K := g.K) hr) (pv 2) pe_str (nomark _))))) (pss_one (ps_raise rfl tkD (pmk_x1 X_InvalidText R_InvalidText (hr.mono (by first | decide | omega)) (pa_cons pe_non pa_nil)))) pss_nil)
      (pss_one (ps_if (pt_cmp (pc_din (hu_of hr.room) (pv 1) (e_fld (K := g.K) (pv 0))) (by rfl)) (pss_one (ps_raise rfl tkD (pmk_x1 X_NotBlank R_NotBlank (hr.mono (by first | decide | omega)) (pa_cons (pv 1) pa_nil)))) pss_nil)))), ?_⟩
  have hy := hv.hy
  walk_at "sx"
  refine ⟨_, rfl, m, rfl, fun _ => ?_, fun z => absurd ⟨m0, m1⟩ z⟩
  have tl1 := tl.1
  refine ⟨_, rfl, t, rfl, by omega, _, rfl, ?_⟩
  rw [if_neg (by simp; omega), if_neg (fun z => tn (of_decide_eq_true z))]
  refine ⟨_, _, _, hy, R.cls, R.n1, _, lk_pt, d, rfl, _, (by rw [dget_i hv.hd]), ?_⟩
  rw [hv.pr.isSome]
  by_cases e : f m = nil_
  · rw [if_neg (by simp [e])]; exact q1 e
  · rw [if_pos (by simp [e])]; exact q2 e
theorem sc_Volume_write : FnScope ["self", "number", "text"] ["self", "number", "text"] (defScope s_Volume_write) := ⟨rfl, rfl, rfl, by decide +kernel, rfl, by decide +kernel, by decide +kernel⟩
def sp_write (C CB : Addr) : Sp := S3 fun z n t H Q E => ∃ y d w f rows m s, z = .ref y ∧ n = .int m ∧ t = .str s ∧ Vol C H y d w f rows ∧ rows.length ≤ 999 ∧ 0 ≤ m ∧ m < 10000000 ∧ TOk s ∧ s ≠ nil_ ∧ (f m = nil_ → To C H y d w (setP f m s) (rows ++ [(m, f m, s)]) fun H' => Q .non H') ∧ (f m ≠ nil_ → ∀ dd, H dd = none → E (.ref CB) (some dd) (upd H dd (.xd [("page", n)])))
theorem ok_write (F : Df g.K "write" "Volume.write" s_Volume_write fa fd .none) (T : Txt g) (R : VF g C_Volume) (CL_Volume : Cls g.K C_Volume) (M_Volume_need_writable : Km g C_Volume "need_writable" 4 ["self", "number", "text"] [] (sp_nwr C_Volume CN CT CB)) (M_Volume_make_write : Km g C_Volume "make_write" 2 ["self", "number", "text"] [] (sp_mkw C_Volume)) : FnG g 5 fa fd ["self", "number", "text"] (sp_write C_Volume CB) := by
  refine F.ok sc_Volume_write (fun vs H Q E h => S3.len h) (fun cdv A outer s H vs Q E hr h => ?_)
  obtain ⟨_, _, _, rfl, y, d, w, f, rows, m, t, rfl, rfl, rfl, hV, hN, m0, m1, tl, tn, q1, q2⟩ := h
  refine ⟨_, (pss_cons (ps_expr (pe_methG (pv 0) CL_Volume M_Volume_need_writable (hr.mono (by first | decide | omega)) tkD (pa_cons (pv 1) (pa_cons (pv 2) pa_nil))))
      (pss_one (ps_expr (pe_methG (pv 0) CL_Volume M_Volume_make_write (hr.mono (by first | decide | omega)) tkD (pa_cons (pv 1) (pa_cons (pv 2) pa_nil)))))), ?_⟩
  have ⟨dy, ep, tk, kvs, ws, hv⟩ := hV
  have hy := hv.hy
  walk_at "sx"
  refine ⟨_, _, hy, lk_no, _, _, _, rfl, y, d, w, f, rows, m, t, rfl, rfl, rfl, hV, m0, m1, tl, tn, fun e => ?_, q2⟩
  exact ⟨_, _, hy, lk_no, _, _, _, rfl, y, d, w, f, rows, m, t, rfl, rfl, rfl, hV, hN, m0, m1, tl, q1 e⟩
theorem sc_Volume_erase : FnScope ["self", "number"] ["self", "number"] (defScope s_Volume_erase) := ⟨rfl, rfl, rfl, by decide +kernel, rfl, by decide +kernel, by decide +kernel⟩
def sp_erase (C : Addr) : Sp := S2 fun z n H Q E => ∃ y d w f rows m, z = .ref y ∧ n = .int m ∧ Vol C H y d w f rows ∧ rows.length ≤ 999 ∧ 0 ≤ m ∧ m < 10000000 ∧ (f m = nil_ → Q (.bl false) H) ∧ (f m ≠ nil_ → To C H y d w (setP f m nil_) (rows ++ [(m, f m, nil_)]) fun H' => Q (.bl true) H')
theorem ok_erase (F : Df g.K "erase" "Volume.erase" s_Volume_erase fa fd .none) (T : Txt g) (R : VF g C_Volume) (CL_Volume : Cls g.K C_Volume) (F_need_page : Kn g "need_page" 3 ["value"] [] (sp_needp CN)) (M_Volume_make_write : Km g C_Volume "make_write" 2 ["self", "number", "text"] [] (sp_mkw C_Volume)) : FnG g 5 fa fd ["self", "number"] (sp_erase C_Volume) := by
  refine F.ok sc_Volume_erase (fun vs H Q E h => S2.len h) (fun cdv A outer s H vs Q E hr h => ?_)
  obtain ⟨_, _, rfl, y, d, w, f, rows, m, rfl, rfl, hV, hN, m0, m1, q1, q2⟩ := h
  refine ⟨_, (pss_cons (ps_expr (pe_callG F_need_page (hr.mono (by first | decide | omega)) tkD (pa_cons (pv 1) pa_nil)))
      (pss_cons (ps_if (pt_cmp (pc_dnotin (hu_of hr.room) (pv 1) (e_fld (K := g.K) (pv 0))) (by rfl)) (pss_one (ps_ret pe_bl)) pss_nil)
      (pss_cons (ps_expr (pe_methG (pv 0) CL_Volume M_Volume_make_write (hr.mono (by first | decide | omega)) tkD (pa_cons (pv 1) (pa_cons pe_str pa_nil))))
      (pss_one (ps_ret pe_bl))))), ?_⟩
  have ⟨dy, ep, tk, kvs, ws, hv⟩ := hV
  have hy := hv.hy
  walk_at "sx"
  refine ⟨_, rfl, m, rfl, fun _ => ?_, fun z => absurd ⟨m0, m1⟩ z⟩
  refine ⟨_, _, _, hy, R.cls, R.n1, _, lk_pt, d, rfl, _, (by rw [dget_i hv.hd]), ?_⟩
  rw [hv.pr.isSome]
  by_cases e : f m = nil_
  · rw [if_pos (by simp [e])]; exact q1 e
  · rw [if_neg (by simp [e])]
    exact ⟨_, _, hy, lk_no, _, _, _, rfl, y, d, w, f, rows, m, nil_, rfl, rfl, rfl, hV, hN, m0, m1, tok0, q2 e⟩
theorem sc_Volume_sync : FnScope ["self", "count"] ["self"] (defScope s_Volume_sync) := ⟨rfl, rfl, rfl, by decide +kernel, rfl, by decide +kernel, by decide +kernel⟩
def sp_sync (C : Addr) : Sp := S1 fun z H Q E => ∃ y d w f rows, z = .ref y ∧ Vol C H y d w f rows ∧ To C H y d w f [] fun H' => Q (.int (rows.length : Nat)) H'
theorem ok_sync (F : Df g.K "sync" "Volume.sync" s_Volume_sync fa fd .none) (T : Txt g) (R : VF g C_Volume) : FnG g 1 fa fd ["self"] (sp_sync C_Volume) := by
  refine F.ok sc_Volume_sync (fun vs H Q E h => S1.len h) (fun cdv A outer s H vs Q E hr h => ?_)
  obtain ⟨_, rfl, y, d, w, f, rows, rfl, ⟨dy, ep, tk, kvs, ws, hv⟩, q⟩ := h
  refine ⟨_, (pss_cons (ps_set (i := 1) sc_Volume_sync.nd rfl (Or.inl rfl) (pe_callB (c_len (K := g.K)) (by rfl) T.b_len bb_len (pa_cons (e_fld (K := g.K) (pv 0)) pa_nil)))
      (pss_cons (s_fld (K := g.K) (pv 0) (pe_lst pa_nil))
      (pss_one (ps_ret (pv 1))))), ?_⟩
  have hy := hv.hy
  walk_at "sx"
  refine ⟨_, _, _, hy, R.cls, R.n2, _, lk_wt, ?_⟩
  rw [len_r]
  refine .inl ⟨ws, .inl (SqL.of hv.hw), fun p hp => ⟨_, _, _, by rw [upd_ne (ne_of_none hy hp)]; exact hy, R.cls, R.n2, (by simp), ?_⟩⟩
  rw [pu_wt, hv.ra.1]
  have fr : Fr1 [y, d, w] H (upd (upd H p (.lst [])) y (.ins C_Volume dy (vfs d p ep tk))) := (Fr1.of (same_upd hp)).trans (Fr1.upd (by simp))
  obtain ⟨n1, n2, n3⟩ := hv.ne1
  refine q p _ ⟨dy, ep, tk, kvs, [], upd_same, ?_, ?_, hv.pr, RowsAt.nil, hv.fin, rowsF0⟩ (.inr hp) fr (ek_of hy upd_same)
  · rw [upd_ne (Ne.symm n1), upd_ne (ne_of_none hv.hd hp)]; exact hv.hd
  · rw [upd_ne (fun z => by rw [z, hy] at hp; cases hp), upd_same]
end


/-! volumes: what is read of them; new ones -/
theorem none_of_same {H H' : Hp} {a : Addr} (s : Same H H') (h : H' a = none) : H a = none := by
  cases e : H a with
  | none => rfl
  | some o => rw [s _ _ e] at h; cases h
theorem unlock {H G : Hp} {a : Addr} {od : Obj} {u : HO} (h : H a = some u) (s : Same (upd H a (.frz od u)) G) : Same H (upd G a u) := fun b o e => by
  by_cases z : b = a
  · subst z; rw [upd_same, ← e]; exact h.symm
  · rw [upd_ne z]; exact s b o (by rw [upd_ne z]; exact e)
theorem fresh_lock {H : Hp} {a b : Addr} {o : HO} (h : upd H a o b = none) : b ≠ a ∧ H b = none := by
  by_cases z : b = a
  · subst z; rw [upd_same] at h; cases h
  · rw [upd_ne z] at h; exact ⟨z, h⟩
theorem PR.any_iff {kvs : List (Key × V)} {f : Pg} (h : PR kvs f) : (!kvs.isEmpty) = true ↔ ∃ m, f m ≠ nil_ := by
  cases kvs with
  | nil =>
    refine ⟨fun z => by simp at z, fun ⟨m, z⟩ => ?_⟩
    have := h.of m z
    cases this
  | cons x r =>
    refine ⟨fun _ => ?_, fun _ => by simp⟩
    obtain ⟨n, _, e⟩ := h.key (i := 0) (kv := x) rfl
    exact ⟨n, e⟩
/-- [int(x) for x in d] -/
theorem nums_lc {H : Hp} {Q : VK} {d : Addr} {kvs : List (Key × V)} {f : Pg} {i : Nat} {σ : L2.St} (hd : H d = some (.dK kvs)) (pr : PR kvs f) (hz : kvs.length ≤ 10000000) (od : Obj)
    (hs : ∀ (n : Int) (G : Hp) (K : VK), K (.int n) G → gName i (.int n) (wipe σ [i]) G fun σ2 H2 => wipe σ2 [i] = wipe σ [i] ∧ tCB rIntA (tCons (tVar i) tNil) σ2 H2 K)
    (q : ∀ p G, G d = some (.frz od (.dK kvs)) → Same H (upd G d (.dK kvs)) → H p = none → upd G d (.dK kvs) p = some (.lst ((numsOf kvs).map V.int)) → Q (.ref p) G) :
    LcB (Itk d od kvs) (gName i) tYes (tCB rIntA (tCons (tVar i) tNil)) [i] σ (upd H d (.frz od (.dK kvs))) Q := by
  refine lc_all kvs.length (fun i => ((numsOf kvs).map V.int).getD i .non) (by rw [sizeLine_eq]; omega) (fun i G' lt s => ⟨s _ _ upd_same, lt⟩) (fun G' s => ⟨s _ _ upd_same, Nat.le_refl _⟩) (fun i G' x G'' K lt s yl k => ?_) (fun L G' hL s eL => ?_)
  · obtain ⟨rfl, k0, v0, hk, rfl⟩ := yl
    obtain ⟨n, e1, _⟩ := pr.key hk
    cases e1
    have k := k _ (Same.refl _)
    have e2 : ((numsOf kvs).map V.int).getD i .non = .int n := by simp [numsOf, List.getD, hk]
    rw [e2] at k
    exact hs n _ _ k
  · have fl := fresh_lock hL
    refine q L _ (s _ _ upd_same) (unlock hd s) fl.2 ?_
    rw [upd_ne fl.1, eL]
    congr 2
    refine List.ext_getElem (by simp [numsOf]) fun j h1 h2 => ?_
    have h2' : j < kvs.length := by simpa [numsOf] using h2
    simp [List.getD, h2', numsOf]
section
variable {g : Wd} {fa : Addr} {fd : FuncData} {C_Volume CN CT CB : Addr}
theorem sc_Volume__getitem : FnScope ["self", "at"] ["self", "at"] (defScope s_Volume__getitem) := ⟨rfl, rfl, rfl, by decide +kernel, rfl, by decide +kernel, by decide +kernel⟩
def sp_get (C : Addr) : Sp := S2 fun z n H Q E => ∃ y d w f rows m, z = .ref y ∧ n = .int m ∧ Vol C H y d w f rows ∧ 0 ≤ m ∧ m < 10000000 ∧ Q (.str (f m)) H
theorem ok_get (F : Df g.K "__getitem__" "Volume.__getitem__" s_Volume__getitem fa fd .none) (T : Txt g) (R : VF g C_Volume) (F_need_page : Kn g "need_page" 3 ["value"] [] (sp_needp CN)) : FnG g 4 fa fd ["self", "at"] (sp_get C_Volume) := by
  refine F.ok sc_Volume__getitem (fun vs H Q E h => S2.len h) (fun cdv A outer s H vs Q E hr h => ?_)
  obtain ⟨_, _, rfl, y, d, w, f, rows, m, rfl, rfl, hV, m0, m1, q⟩ := h
  refine ⟨_, (pss_cons (ps_expr (pe_callG F_need_page (hr.mono (by first | decide | omega)) tkD (pa_cons (pv 1) pa_nil)))
      (pss_one (ps_ret (pe_ifExp (pt_cmp (pc_din (hu_of hr.room) (pv 1) (e_fld (K := g.K) (pv 0))) (by rfl)) (pe_dget (hu_of hr.room) (e_fld (K := g.K) (pv 0)) (pv 1) (fun _ _ => rfl)) pe_str)))), ?_⟩
  have ⟨dy, ep, tk, kvs, ws, hv⟩ := hV
  have hy := hv.hy
  walk_at "sx"
  refine ⟨_, rfl, m, rfl, fun _ => ?_, fun z => absurd ⟨m0, m1⟩ z⟩
  refine ⟨_, _, _, hy, R.cls, R.n1, _, lk_pt, d, rfl, _, (by rw [dget_i hv.hd]), ?_⟩
  rw [hv.pr.isSome]
  by_cases e : f m = nil_
  · rw [if_neg (by simp [e])]; rw [e] at q; exact q
  · rw [if_pos (by simp [e])]
    refine ⟨_, _, _, hy, R.cls, R.n1, _, lk_pt, d, rfl, .str (f m), ?_, q⟩
    rw [dget_i hv.hd, hv.pr.val, if_neg e]
theorem sc_Volume__contains : FnScope ["self", "x"] ["self", "x"] (defScope s_Volume__contains) := ⟨rfl, rfl, rfl, by decide +kernel, rfl, by decide +kernel, by decide +kernel⟩
def sp_has (C : Addr) : Sp := S2 fun z n H Q E => ∃ y d w f rows m, z = .ref y ∧ n = .int m ∧ Vol C H y d w f rows ∧ 0 ≤ m ∧ m < 10000000 ∧ Q (.bl (decide (f m ≠ nil_))) H
theorem ok_has (F : Df g.K "__contains__" "Volume.__contains__" s_Volume__contains fa fd .none) (T : Txt g) (R : VF g C_Volume) (F_is_page : Kn g "is_page" 2 ["value"] [] sp_isp) : FnG g 3 fa fd ["self", "x"] (sp_has C_Volume) := by
  refine F.ok sc_Volume__contains (fun vs H Q E h => S2.len h) (fun cdv A outer s H vs Q E hr h => ?_)
  obtain ⟨_, _, rfl, y, d, w, f, rows, m, rfl, rfl, hV, m0, m1, q⟩ := h
  refine ⟨_, (pss_one (ps_ret (pe_and (pe_callG F_is_page (hr.mono (by first | decide | omega)) tkD (pa_cons (pv 1) pa_nil)) (pe_one (pe_cmp (pc_din (hu_of hr.room) (pv 1) (e_fld (K := g.K) (pv 0))) (by rfl)))))), ?_⟩
  have ⟨dy, ep, tk, kvs, ws, hv⟩ := hV
  have hy := hv.hy
  walk_at "sx"
  refine ⟨_, rfl, m, rfl, _, rfl, ?_⟩
  rw [if_pos (by simp; omega)]
  refine ⟨_, _, _, hy, R.cls, R.n1, _, lk_pt, d, rfl, _, (by rw [dget_i hv.hd]), ?_⟩
  rw [hv.pr.isSome]
  exact q
theorem sc_Volume_length : FnScope ["self", "number"] ["self"] (defScope s_Volume_length) := ⟨rfl, rfl, rfl, by decide +kernel, rfl, by decide +kernel, by decide +kernel⟩
/-- the highest page that is not blank, and one -/
def LenIs (f : Pg) (n : Int) : Prop := ((∀ m, f m = nil_) ∧ n = 0) ∨ ∃ m, f m ≠ nil_ ∧ (∀ k, f k ≠ nil_ → k ≤ m) ∧ n = m + 1
def sp_len (C : Addr) : Sp := S1 fun z H Q E => ∃ y d w f rows, z = .ref y ∧ Vol C H y d w f rows ∧ ∀ n H', LenIs f n → Same H H' → Q (.int n) H'
theorem ok_len (F : Df g.K "length" "Volume.length" s_Volume_length fa fd .none) (T : Txt g) (R : VF g C_Volume) : FnG g 1 fa fd ["self"] (sp_len C_Volume) := by
  refine F.ok sc_Volume_length (fun vs H Q E h => S1.len h) (fun cdv A outer s H vs Q E hr h => ?_)
  obtain ⟨_, rfl, y, d, w, f, rows, rfl, hV, q⟩ := h
  refine ⟨_, (pss_one (ps_ret (pe_ifExp (pt_cmpR (op_neD0 hr) (e_fld (K := g.K) (pv 0)) pe_dnewK (nomark _)) (pe_op (o_add (K := g.K)) (pe_callB (c_max (K := g.K)) (by rfl) T.b_max bb_max (pa_cons (pe_lock (pe_lc (own := [("number", 1)]) (tt := tYes) rfl sc_Volume_length.nd (pi_keys (e_fld (K := g.K) (pv 0))) (blkOk_by (own := [("number", 1)]) (N := ["self", "number"]) (sc := defScope s_Volume_length) (by decide +kernel)) (fun _ _ _ _ _ => (pg_name (i := 1) sc_Volume_length.nd rfl (.inl rfl))) (fun _ _ _ _ _ => pts_nil) (fun _ _ _ _ _ => (pe_callTy c_intA (by rfl) T.b_int bb_int (pa_cons (pv 1) pa_nil))))) pa_nil)) pe_int) pe_int))), ?_⟩
  have ⟨dy, ep, tk, kvs, ws, hv⟩ := hV
  have hy := hv.hy
  walk_at "sx"
  refine ⟨_, _, _, hy, R.cls, R.n1, _, lk_pt, fun p hp => ?_⟩
  have sp : Same H (upd H p (.dK [])) := same_upd hp
  refine ⟨d, rfl, kvs, sp _ _ hv.hd, ?_⟩
  by_cases e : kvs = []
  · rw [if_neg (by simp [e])]
    refine q 0 _ (.inl ⟨fun m => Classical.byContradiction fun z => ?_, rfl⟩) sp
    have := hv.pr.of m z
    rw [e] at this; cases this
  · rw [if_pos (by simpa using e)]
    have hd2 := sp _ _ hv.hd
    have hy2 := sp _ _ hv.hy
    generalize upd H p (.dK []) = G at sp hd2 hy2 ⊢
    have yd : y ≠ d := hv.ne1.1
    have lk := hv.pr.len hv.fin
    refine ⟨d, _, hd2, True.intro, fun od => ⟨_, _, _, by rw [upd_ne yd]; exact hy2, R.cls, R.n1, _, lk_pt, d, rfl, od, .inl ⟨kvs, upd_same, ?_⟩⟩⟩
    refine nums_lc (i := 1) (σ := [some (.ref y), none]) hd2 hv.pr (by omega) od (fun n G K k => ⟨rfl, by walk_at "sx"; exact k⟩) fun l G2 gl s' hl el => ⟨gl, ?_⟩
    refine ⟨l, numsOf kvs, rfl, SqL.of el, ?_, fun m hm hmax => ?_⟩
    · cases hk : kvs with
      | nil => exact absurd hk e
      | cons x r => simp [numsOf]
    · walk_at "sx"
      exact q _ _ (.inr ⟨m, hv.pr.mem_nums.mp hm, fun k hk => hmax k (hv.pr.mem_nums.mpr hk), rfl⟩) (sp.trans s')
theorem sc_Volume__bool : FnScope ["self"] ["self"] (defScope s_Volume__bool) := ⟨rfl, rfl, rfl, by decide +kernel, rfl, by decide +kernel, by decide +kernel⟩
def sp_bool (C : Addr) : Sp := S1 fun z H Q E => ∃ y d w f rows, z = .ref y ∧ Vol C H y d w f rows ∧ ∀ b H', (b = true ↔ ∃ m, f m ≠ nil_) → Same H H' → Q (.bl b) H'
theorem ok_bool (F : Df g.K "__bool__" "Volume.__bool__" s_Volume__bool fa fd .none) (T : Txt g) (R : VF g C_Volume) : FnG g 1 fa fd ["self"] (sp_bool C_Volume) := by
  refine F.ok sc_Volume__bool (fun vs H Q E h => S1.len h) (fun cdv A outer s H vs Q E hr h => ?_)
  obtain ⟨_, rfl, y, d, w, f, rows, rfl, hV, q⟩ := h
  refine ⟨_, (pss_one (ps_ret (pe_callTy call_bool1 (by rfl) T.b_bool bb_bool (pa_cons (pe_cmpR (op_neD0 hr) (e_fld (K := g.K) (pv 0)) pe_dnewK (nomark _)) pa_nil)))), ?_⟩
  have ⟨dy, ep, tk, kvs, ws, hv⟩ := hV
  have hy := hv.hy
  walk_at "sx"
  refine ⟨_, _, _, hy, R.cls, R.n1, _, lk_pt, fun p hp => ⟨d, rfl, kvs, by rw [upd_ne (ne_of_none hv.hd hp)]; exact hv.hd, ?_⟩⟩
  exact q _ _ (hv.pr.any_iff) (same_upd hp)
theorem sc_Volume_pending : FnScope ["self"] ["self"] (defScope s_Volume_pending) := ⟨rfl, rfl, rfl, by decide +kernel, rfl, by decide +kernel, by decide +kernel⟩
def sp_pend (C : Addr) : Sp := S1 fun z H Q E => ∃ y d w f rows, z = .ref y ∧ Vol C H y d w f rows ∧ ∀ p ws, RowsAt H ws rows → H p = none → Q (.ref p) (upd H p (.tup ws))
theorem ok_pend (F : Df g.K "pending" "Volume.pending" s_Volume_pending fa fd .none) (T : Txt g) (R : VF g C_Volume) : FnG g 1 fa fd ["self"] (sp_pend C_Volume) := by
  refine F.ok sc_Volume_pending (fun vs H Q E h => S1.len h) (fun cdv A outer s H vs Q E hr h => ?_)
  obtain ⟨_, rfl, y, d, w, f, rows, rfl, hV, q⟩ := h
  refine ⟨_, (pss_one (ps_ret (pe_callTy call_tuple_of (by rfl) T.b_tuple bb_tuple (pa_cons (e_fld (K := g.K) (pv 0)) pa_nil)))), ?_⟩
  have ⟨dy, ep, tk, kvs, ws, hv⟩ := hV
  have hy := hv.hy
  walk_at "sx"
  exact ⟨_, _, _, hy, R.cls, R.n2, _, lk_wt, w, rfl, ws, .inl ⟨SqL.of hv.hw, fun l hl => q l ws hv.ra hl⟩⟩
theorem sc_Volume__init : FnScope ["self"] ["self"] (defScope s_Volume__init) := ⟨rfl, rfl, rfl, by decide +kernel, rfl, by decide +kernel, by decide +kernel⟩
def sp_init (C : Addr) : Sp := S1 fun z H Q _ => ∃ y dy, z = .ref y ∧ H y = some (.ins C dy []) ∧ ∀ d w H', Vol C H' y d w (fun _ => nil_) [] → H d = none → H w = none → Fr1 [y] H H' → EtIs H' y 0 false → Q .non H'
theorem ok_init (F : Df g.K "__init__" "Volume.__init__" s_Volume__init fa fd .none) (T : Txt g) (R : VF g C_Volume) : FnG g 1 fa fd ["self"] (sp_init C_Volume) := by
  refine F.ok sc_Volume__init (fun vs H Q E h => S1.len h) (fun cdv A outer s H vs Q E hr h => ?_)
  obtain ⟨_, rfl, y, dy, rfl, hy, q⟩ := h
  refine ⟨_, (pss_cons (s_fld (K := g.K) (pv 0) pe_dnewK)
      (pss_cons (s_fld (K := g.K) (pv 0) (pe_lst pa_nil))
      (pss_cons (s_fld (K := g.K) (pv 0) pe_int)
      (pss_one (s_fld (K := g.K) (pv 0) pe_bl))))), ?_⟩
  walk_at "sx"
  have P1 : ¬ (Str.ofString "page_texts" = Str.ofString "waiting") := by decide +kernel
  have P2 : ¬ (Str.ofString "page_texts" = Str.ofString "crash_count") := by decide +kernel
  have P3 : ¬ (Str.ofString "waiting" = Str.ofString "crash_count") := by decide +kernel
  have P4 : ¬ (Str.ofString "page_texts" = Str.ofString "is_taken") := by decide +kernel
  have P5 : ¬ (Str.ofString "waiting" = Str.ofString "is_taken") := by decide +kernel
  have P6 : ¬ (Str.ofString "crash_count" = Str.ofString "is_taken") := by decide +kernel
  intro d hd
  refine ⟨_, _, _, by rw [upd_ne (ne_of_none hy hd)]; exact hy, R.cls, R.n1, by simp, fun w hw => ?_⟩
  have yd : y ≠ d := ne_of_none hy hd
  have wy : w ≠ y := fun z => by rw [z, upd_same] at hw; cases hw
  have hw2 : upd H d (.dK []) w = none := by rw [upd_ne wy] at hw; exact hw
  have wd : w ≠ d := fun z => by rw [z, upd_same] at hw2; cases hw2
  have hw3 : H w = none := by rw [upd_ne wd] at hw2; exact hw2
  refine ⟨_, _, _, by rw [upd_ne (Ne.symm wy), upd_same], R.cls, R.n2, by simp [pu_nil], R.cls, R.n3, by simp [pu_nil, pu_cons, P1], R.cls, R.n4, by simp [pu_nil, pu_cons, P1, P2, P3], ?_⟩
  refine q d w _ ⟨dy, 0, false, [], [], ?_, ?_, ?_, PR.nil, RowsAt.nil, fine0, rowsF0⟩ hd hw3 ?_ ⟨C_Volume, dy, d, w, ?_⟩
  · rw [upd_same]
    simp only [pu_nil, pu_cons, P1, P2, P3, P4, P5, P6, if_false]
  · rw [upd_ne (Ne.symm yd), upd_ne (Ne.symm yd), upd_ne (Ne.symm yd), upd_ne (Ne.symm wd), upd_ne (Ne.symm yd), upd_same]
  · rw [upd_ne wy, upd_ne wy, upd_ne wy, upd_same]
  · intro c o hc e
    have cy : c ≠ y := by simpa using hc
    rw [upd_ne cy, upd_ne cy, upd_ne cy, upd_ne (ne_of_none e hw3), upd_ne cy, upd_ne (ne_of_none e hd)]
    exact e
  · rw [upd_same]
    simp only [pu_nil, pu_cons, P1, P2, P3, P4, P5, P6, if_false]
theorem sc_Volume_new_one : FnScope ["self"] ["self"] (defScope s_Volume_new_one) := ⟨rfl, rfl, rfl, by decide +kernel, rfl, by decide +kernel, by decide +kernel⟩
def sp_new (C : Addr) : Sp := S1 fun z H Q _ => ∀ y d w H', Vol C H' y d w (fun _ => nil_) [] → H y = none → H d = none → H w = none → Same H H' → EtIs H' y 0 false → Q (.ref y) H'
theorem ok_new (F : Df g.K "new_one" "Volume.new_one" s_Volume_new_one fa fd .none) (T : Txt g) (F_Volume : Kc g "Volume" C_Volume 1 ["self"] [] (sp_init C_Volume)) : FnG g 3 fa fd ["self"] (sp_new C_Volume) := by
  refine F.ok sc_Volume_new_one (fun vs H Q E h => S1.len h) (fun cdv A outer s H vs Q E hr h => ?_)
  obtain ⟨v, rfl, q⟩ := h
  refine ⟨_, (pss_one (ps_ret (pe_makeG0 F_Volume (hr.mono (by first | decide | omega)) tkD))), ?_⟩
  walk_at "sx"
  intro y dy hy hdy ne
  have sm : Same H (upd (upd H dy (.own y)) y (.ins C_Volume dy [])) := fun c o e => by rw [upd_ne (ne_of_none e hy), upd_ne (ne_of_none e hdy)]; exact e
  refine ⟨_, rfl, y, dy, rfl, upd_same, fun d w H' hV hd hw fr et => ⟨rfl, q y d w H' hV hy ?_ ?_ ?_ et⟩⟩
  · exact none_of_same sm hd
  · exact none_of_same sm hw
  · intro c o e
    exact fr c o (by simpa using ne_of_none e hy) (sm _ _ e)
theorem sc_Volume_snapshot : FnScope ["self", "found"] ["self"] (defScope s_Volume_snapshot) := ⟨rfl, rfl, rfl, by decide +kernel, rfl, by decide +kernel, by decide +kernel⟩
def sp_snap (C : Addr) : Sp := S1 fun z H Q _ => ∃ y d w f rows, z = .ref y ∧ Vol C H y d w f rows ∧ ∀ y' d' w' H', Vol C H' y' d' w' f rows → H y' = none → H d' = none → H w' = none → Same H H' → EtIs H' y' 0 false → Q (.ref y') H'
theorem ok_snap (F : Df g.K "snapshot" "Volume.snapshot" s_Volume_snapshot fa fd .none) (T : Txt g) (R : VF g C_Volume) (CL_Volume : Cls g.K C_Volume) (M_Volume_new_one : Km g C_Volume "new_one" 3 ["self"] [] (sp_new C_Volume)) : FnG g 4 fa fd ["self"] (sp_snap C_Volume) := by
  refine F.ok sc_Volume_snapshot (fun vs H Q E h => S1.len h) (fun cdv A outer s H vs Q E hr h => ?_)
  obtain ⟨_, rfl, y, d, w, f, rows, rfl, hV, q⟩ := h
  refine ⟨_, (pss_cons (ps_set (i := 1) sc_Volume_snapshot.nd rfl (Or.inl rfl) (pe_methG0 (pv 0) CL_Volume M_Volume_new_one (hr.mono (by first | decide | omega)) tkD))
      (pss_cons (s_fld (K := g.K) (pv 1) (pe_callTy call_dictD (by rfl) T.b_dict bb_dict (pa_cons (e_fld (K := g.K) (pv 0)) pa_nil)))
      (pss_cons (s_fld (K := g.K) (pv 1) (pe_callTy call_list_of (by rfl) T.b_list bb_list (pa_cons (e_fld (K := g.K) (pv 0)) pa_nil)))
      (pss_one (ps_ret (pv 1)))))), ?_⟩
  have ⟨dy, ep, tk, kvs, ws, hv⟩ := hV
  have hy := hv.hy
  walk_at "sx"
  refine ⟨_, _, hy, lk_no, _, rfl, fun y2 d2 w2 H2 hV2 ny nd nw s2 et2 => ?_⟩
  obtain ⟨dy2, ep2, tk2, kvs2, ws2, hv2⟩ := hV2
  obtain ⟨rfl, rfl⟩ := et2.uni hv2.hy
  have hz := hv.fr (fp := []) (FrT.of s2) (by simp) (by simp)
  refine ⟨_, _, _, hz.hy, R.cls, R.n1, _, lk_pt, d, rfl, kvs, .inl hz.hd, fun p hp => ⟨y2, rfl, _, _, _, by rw [upd_ne (ne_of_none hv2.hy hp)]; exact hv2.hy, R.cls, R.n1, by simp, ?_⟩⟩
  rw [pu_pt]
  have yy : y ≠ y2 := fun z => by rw [z, ny] at hy; cases hy
  refine ⟨_, _, _, by rw [upd_ne yy, upd_ne (ne_of_none hz.hy hp)]; exact hz.hy, R.cls, R.n2, _, lk_wt, ?_⟩
  have hw0 := hv.hw
  have gw : upd (upd H2 p (.dK kvs)) y2 (.ins C_Volume dy2 (vfs p w2 0 false)) w = some (.lst ws) := by
    rw [upd_ne (fun z => by rw [z, ny] at hw0; cases hw0), upd_ne (ne_of_none hz.hw hp)]; exact hz.hw
  refine ⟨w, rfl, ws, .inl (SqL.of gw), fun l hl => ⟨y2, rfl, _, _, _, by rw [upd_ne (fun z => by rw [← z, upd_same] at hl; cases hl), upd_same], R.cls, R.n2, by simp, ?_⟩⟩
  rw [pu_wt]
  obtain ⟨ly, hl2⟩ := fresh_lock hl
  obtain ⟨lp, hl3⟩ := fresh_lock hl2
  have py : p ≠ y2 := fun z => by rw [z, hv2.hy] at hp; cases hp
  have sm : Same H (upd (upd (upd (upd H2 p (.dK kvs)) y2 (.ins C_Volume dy2 (vfs p w2 0 false))) l (.lst ws)) y2 (.ins C_Volume dy2 (vfs p l 0 false))) := fun c o e => by
    have cy : c ≠ y2 := ne_of_none e ny
    have e2 := s2 _ _ e
    rw [upd_ne cy, upd_ne (ne_of_none e2 hl3), upd_ne cy, upd_ne (ne_of_none e2 hp)]
    exact e2
  refine q y2 p l _ ⟨dy2, 0, false, kvs, ws, upd_same, ?_, ?_, hv.pr, hv.ra.fr (fp := []) (Fr1.of sm) (by simp), hv.fin, hv.rf⟩ ny (none_of_same s2 hp) (none_of_same s2 hl3) sm ⟨_, _, _, _, upd_same⟩
  · rw [upd_ne py, upd_ne (Ne.symm lp), upd_ne py, upd_same]
  · rw [upd_ne ly, upd_same]
theorem sc_Volume_used : GScope ["self", "numbers", "number"] ["self"] (defScope s_Volume_used) := ⟨rfl, rfl, rfl, by decide +kernel, rfl, by decide +kernel, by decide +kernel⟩
def sp_used (C : Addr) : SpG := fun vs H Q _ => ∃ y d w f rows, vs = [.ref y] ∧ Vol C H y d w f rows ∧ ∀ ns H', Asc f ns → Same H H' → Q (ns.map V.int) H'
theorem ok_used (F : Df g.K "used" "Volume.used" s_Volume_used fa fd .none) (T : Txt g) (R : VF g C_Volume) : GFn g.P g.w g.K g.mg g.base 1 fa fd ["self"] (sp_used C_Volume) := by
  obtain ⟨oc, od, kV, doc, pm, an, cdv, ct, osl, rfl, lk, hcd⟩ := F.ex
  refine gfn_of lk hcd sc_Volume_used (fun vs H Q E h => by obtain ⟨y, d, w, f, rows, rfl, _⟩ := h; rfl) fun A outer s H vs Q E pn hr h => ?_
  obtain ⟨y, d, w, f, rows, rfl, hV, q⟩ := h
  refine ⟨_, (gss_cons (gs_ps (ps_set (i := 1) sc_Volume_used.nd rfl (Or.inl rfl) (pe_callB (c_sortedI (K := g.K)) (by rfl) T.b_sorted bb_sorted (pa_cons (pe_lock (pe_lc (own := [("number", 2)]) (tt := tYes) rfl sc_Volume_used.nd (pi_keys (e_fld (K := g.K) (pv 0))) (blkOk_by (own := [("number", 2)]) (N := ["self", "numbers", "number"]) (sc := defScope s_Volume_used) (by decide +kernel)) (fun _ _ _ _ _ => (pg_name (i := 2) sc_Volume_used.nd rfl (.inl rfl))) (fun _ _ _ _ _ => pts_nil) (fun _ _ _ _ _ => (pe_callTy c_intA (by rfl) T.b_int bb_int (pa_cons (pv 2) pa_nil))))) pa_nil)))) (gss_cons (gs_for owns_gcx rfl (i_list (K := g.K) (pv 1)) (pg_name (i := 2) sc_Volume_used.nd rfl (.inl rfl)) (gss_cons (gs_yield (pv 2)) gss_nil)) gss_nil)), ?_⟩
  have ⟨dy, ep, tk, kvs, ws, hv⟩ := hV
  have hy := hv.hy
  simp only [tGThen, tPlain, tGFor, tGYield, tG0, rSortedI, GEnds.at, tRet, tRetN, tSeq, C8.tCut, tNext, tAsg, gName, gNil, gCons, gTup, gFld, tIfS, tIf, tAndV, tOrV, tNotV, tAnd, tOr, tNot, tB, tTest, tOp, tUn, tCB, tCons, tNil, tVar, tC, tChain, tDrop, RS.tCallG, RS.tMethG, tMakeG, RS.tCallK, RS.tMakeK, tEqOwn, rI, rI0, rU, add_ii, add_ss, add_rr, mul_ii, mul_si, mul_ri, RS.eq_ii, RS.eq_ss, eq_bb, eq_nn, eq_sn, eq_ns, eq_in, eq_ni, eq_bn, eq_nb, eq_is, eq_si, eq_rr, ne_ii, ne_ss, ne_bb, ne_nn, ne_sn, ne_ns, ne_in, ne_ni, ne_is, ne_si, ne_rr, in_ss, in_r, nin_ss, nin_r, len_s, len_r, RS.ix_s, RS.ix_r, sl_s, sl_r, is_eq, tyN_n, tyN_b, tyN_i, tyN_s, tru_b, tru_i, tru_n, tSl, tPart, tNoPart, tPar, tPar3, tFmtZ, tFmt, tJs, tDGet, sDPut, sFld, tFld, tTup, tLst, tNever, isB,
  L2.start, List.map_cons, List.map_nil, List.length_cons, List.length_nil, Nat.reduceAdd, Nat.reduceSub, Nat.sub_self, List.replicate_zero, List.replicate_succ, List.append_nil, List.cons_append, List.nil_append, List.getElem?_cons_zero, List.getElem?_cons_succ, List.set_cons_zero, List.set_cons_succ, Option.some.injEq, exists_eq_left, exists_eq_left', exists_and_left, V.bl.injEq, V.int.injEq, V.str.injEq, V.ref.injEq, beq_self_eq_true, Bool.true_or, Bool.or_true, Bool.false_or, Bool.or_false, Bool.and_false, Bool.false_and, Bool.true_and, Bool.and_true, Bool.not_true, Bool.not_false, Bool.false_eq_true, if_true, if_false, ite_true, ite_false, true_and, and_true, and_assoc, String.reduceBEq, String.reduceEq, reduceIte, Bool.and_self, reduceCtorEq, false_and, and_false, exists_false, or_false, false_or, exists_const, iEnumS, iStr, iList, iTup, iRng1, iEnum, tFor_eq, tLc_eq, List.cons.injEq, wipe, not_true_eq_false, not_false_eq_true, upd_same, HO.ins.injEq, HO.tup.injEq, HO.lst.injEq, ofS_eq, lk_nil, lk_cons, pu_nil, pu_cons, sizeLine_eq, Nat.reduceLT, Nat.reduceLeDiff, Nat.reduceEqDiff, Nat.le_refl, decide_true, decide_false, tPr, dget_us, dput_us, vv_nil, vv_cons, RS.pk_nil, pk_one, RS.pk_cons, inr_eq, tDisp, tPairs, tBoolOwn, rBoolOwn, tBM, rAppend, ty_list, ty_str, rEqOwn, iEnumT, RS.tCallS, tM1, tDc_eq, tLock, tLockE, iKeys, tListEnum, rUpdate, tMkX0, tMkX1, tXfv, gSub, rSetL, List.getD_cons_zero, List.getD_cons_succ, tCMethS, ClX.tCVal, tXfa, tIxOwn, tInOwn, tPropG, tMethK, tMethP, tListGen, tDGet2, tDPop2, rNeD0, intA_i, intA_b, tRevL, sFldAug, tPm0, tPm1, tDIn, tDNotIn, tDNewK, RS.tMethS]
  have yd : y ≠ d := hv.ne1.1
  have lk := hv.pr.len hv.fin
  refine ⟨d, _, hv.hd, True.intro, fun od => ⟨_, _, _, by rw [upd_ne yd]; exact hy, R.cls, R.n1, _, lk_pt, d, rfl, od, .inl ⟨kvs, upd_same, ?_⟩⟩⟩
  refine nums_lc (i := 2) (σ := [some (.ref y), none, none]) hv.hd hv.pr (by omega) od (fun n G K k => ⟨rfl, by walk_at "sx"; exact k⟩) fun l G2 gl s' hl el => ⟨gl, l, rfl, numsOf kvs, SqL.of el, fun ns p pe pw hp => ?_⟩
  have asc := hv.pr.asc pe pw
  have sm : Same H (upd (upd G2 d (.dK kvs)) p (.lst (ns.map V.int))) := s'.trans (same_upd hp)
  have ep : upd (upd G2 d (.dK kvs)) p (.lst (ns.map V.int)) p = some (.lst (ns.map V.int)) := upd_same
  generalize upd (upd G2 d (.dK kvs)) p (.lst (ns.map V.int)) = G at sm ep ⊢
  refine ⟨⟨_, SqL.of ep⟩, fun i m ys σ G' => G' = G ∧ m = ns.length - i ∧ i ≤ ns.length ∧ ys = (ns.take i).map V.int ∧ ∃ z, σ = [some (.ref y), some (.ref p), z], ⟨_, rfl, rfl, Nat.zero_le _, by simp, _, rfl⟩, ?_⟩
  rintro i m ys σ G' ⟨rfl, rfl, hi, rfl, z, rfl⟩
  by_cases e : i = ns.length
  · subst e
    refine .inl ⟨⟨_, SqL.of ep, by simp⟩, ?_⟩
    rw [List.take_length]
    exact q ns _ asc sm
  · have lt : i < ns.length := by omega
    have nl : ns.length ≤ 10000000 := by
      have := pe.length_eq
      rw [this]; simp [numsOf]; omega
    refine .inr ⟨⟨_, .int ns[i], SqL.of ep, by simp [lt]⟩, fun ys' σ' G2 => G2 = G' ∧ ys' = (ns.take (i + 1)).map V.int ∧ ∃ z, σ' = [some (.ref y), some (.ref p), z], fun ys' σ' G2 h => ⟨ns.length - (i + 1), by omega, h.1, rfl, lt, h.2⟩, fun x G2 yl => ?_⟩
    obtain ⟨rfl, hx⟩ := yl
    have hx := hx _ (SqL.of ep)
    have ex : x = .int ns[i] := by simpa [lt] using hx.symm
    subst ex
    refine ⟨by simp; omega, _, rfl, rfl, ?_, _, rfl⟩
    have e2 : ns.take (i + 1) = ns.take i ++ [ns[i]] := by rw [List.take_add_one, List.getElem?_eq_getElem lt]; rfl
    rw [e2, List.map_append]
    rfl
end


/-! volumes: crashes and damage -/
/-- torn may be t where k writes are kept -/
def TornOk (rows : List Row) (k t : Nat) : Prop := t = 0 ∨ ∃ r, rows[k]? = some r ∧ t < r.2.2.length
/-- the text up to t -/
abbrev cutT (x : Str) (t : Nat) : Str := cutS x none (some (t : Nat))
/-- behind a crash -/
def left (f : Pg) (rows : List Row) (k t : Nat) : Pg :=
  match rows[k]? with
  | some r => if t = 0 then undo f (rows.drop k).reverse else setP (undo f (rows.drop k).reverse) r.1 (cutT r.2.2 t)
  | none => undo f (rows.drop k).reverse
theorem left0 {f : Pg} {rows : List Row} {k : Nat} : left f rows k 0 = undo f (rows.drop k).reverse := by
  unfold left
  split <;> simp
theorem left1 {f : Pg} {rows : List Row} {k t : Nat} {r : Row} (e : rows[k]? = some r) (h : t ≠ 0) : left f rows k t = setP (undo f (rows.drop k).reverse) r.1 (cutT r.2.2 t) := by
  unfold left
  rw [e]
  simp [h]
theorem str_S (x : Str) : x = S x.cps.toList := by cases x; simp [S]
theorem cutT_len (x : Str) (t : Nat) : (cutT x t).length = min t x.length := by
  unfold cutT
  rw [str_S x, cut_to _ (by omega), S_len, S_len]
  simp
theorem ok_S {l : List Nat} : PyData.strOk (S l) = true ↔ ∀ c ∈ l, c < 0x110000 := by
  unfold PyData.strOk
  rw [← Array.all_toList]
  simp [S, List.all_eq_true]
theorem ok_cutT {x : Str} (h : PyData.strOk x = true) (t : Nat) : PyData.strOk (cutT x t) = true := by
  unfold cutT
  rw [str_S x] at h ⊢
  rw [cut_to _ (by omega)]
  exact ok_S.mpr fun c hc => ok_S.mp h c (List.mem_of_mem_take hc)
theorem ok_cutF {x : Str} (h : PyData.strOk x = true) (t : Nat) : PyData.strOk (cutS x (some (t : Nat)) none) = true := by
  rw [str_S x] at h ⊢
  rw [cut_from _ (by omega)]
  exact ok_S.mpr fun c hc => ok_S.mp h c (List.mem_of_mem_drop hc)
theorem ok_app {x y : Str} (h1 : PyData.strOk x = true) (h2 : PyData.strOk y = true) : PyData.strOk (x ++ y) = true := by
  unfold PyData.strOk at *
  rw [Str.cps_append, Array.all_append, h1, h2]; rfl
theorem TOk.cut {x : Str} (h : TOk x) (t : Nat) : TOk (cutT x t) := ⟨by rw [cutT_len]; have := h.1; omega, ok_cutT h.2 t⟩
section
variable {g : Wd} {fa : Addr} {fd : FuncData} {C_Volume CN CT CB : Addr} {dV : Value}
theorem sc_Volume_need_outcome : FnScope ["self", "keep", "torn", "most"] ["self", "keep", "torn"] (defScope s_Volume_need_outcome) := ⟨rfl, rfl, rfl, by decide +kernel, rfl, by decide +kernel, by decide +kernel⟩
def sp_nout (C : Addr) : Sp := S3 fun z n t H Q _ => ∃ y d w f rows k j, z = .ref y ∧ n = .int (k : Nat) ∧ t = .int (j : Nat) ∧ Vol C H y d w f rows ∧ rows.length ≤ 1000 ∧ k ≤ rows.length ∧ TornOk rows k j ∧ Q .non H
theorem ok_nout (F : Df g.K "need_outcome" "Volume.need_outcome" s_Volume_need_outcome fa fd .none) (T : Txt g) (R : VF g C_Volume) (F_is_whole : Kn g "is_whole" 1 ["value", "least", "most"] [] sp_whole) : FnG g 2 fa fd ["self", "keep", "torn"] (sp_nout C_Volume) := by
  refine F.ok sc_Volume_need_outcome (fun vs H Q E h => S3.len h) (fun cdv A outer s H vs Q E hr h => ?_)
  obtain ⟨_, _, _, rfl, y, d, w, f, rows, k, j, rfl, rfl, rfl, hV, hN, hk, hj, q⟩ := h
  refine ⟨_, (pss_cons (ps_if (pt_not (pt_val (pe_callG F_is_whole (hr.mono (by first | decide | omega)) tkD (pa_cons (pv 1) (pa_cons pe_int (pa_cons (pe_callB (c_len (K := g.K)) (by rfl) T.b_len bb_len (pa_cons (e_fld (K := g.K) (pv 0)) pa_nil)) pa_nil)))))) (pss_one ps_never) pss_nil)
      (pss_cons (ps_set (i := 3) sc_Volume_need_outcome.nd rfl (Or.inl rfl) (pe_ifExp (pt_cmpR op_lt (pv 1) (pe_callB (c_len (K := g.K)) (by rfl) T.b_len bb_len (pa_cons (e_fld (K := g.K) (pv 0)) pa_nil)) (nomark _)) (pe_op op_sub (pe_callB (c_len (K := g.K)) (by rfl) T.b_len bb_len (pa_cons (pe_ix (o_ix (K := g.K)) (pe_ix (o_ix (K := g.K)) (e_fld (K := g.K) (pv 0)) (pv 1) (fun _ _ => rfl)) pe_int (fun _ _ => rfl)) pa_nil)) pe_int) pe_int))
      (pss_one (ps_if (pt_not (pt_val (pe_callG F_is_whole (hr.mono (by first | decide | omega)) tkD (pa_cons (pv 2) (pa_cons pe_int (pa_cons (pe_callB (call_max2 rfl) (by rfl) T.b_max (by decide +kernel) (pa_cons pe_int (pa_cons (pv 3) pa_nil))) pa_nil)))))) (pss_one ps_never) pss_nil)))), ?_⟩
  have ⟨dy, ep, tk, kvs, ws, hv⟩ := hV
  have hy := hv.hy
  have lw := hv.ra.1
  walk_at "sx"
  refine ⟨_, _, _, hy, R.cls, R.n2, _, lk_wt, ?_⟩
  rw [len_r]
  refine .inl ⟨ws, .inl (SqL.of hv.hw), _, _, _, rfl, _, _, _, rfl, rfl, rfl, _, rfl, ?_⟩
  rw [if_neg (by simp; omega)]
  refine ⟨_, _, _, hy, R.cls, R.n2, _, lk_wt, ?_⟩
  rw [len_r]
  refine .inl ⟨ws, .inl (SqL.of hv.hw), _, rfl, ?_⟩
  by_cases lt : k < rows.length
  · rw [if_pos (by simp; omega)]
    obtain ⟨t, e1, e2⟩ := hv.ra.2 k rows[k] (List.getElem?_eq_getElem lt)
    have rf := hv.rf _ (List.getElem_mem lt)
    refine ⟨_, _, _, hy, R.cls, R.n2, _, lk_wt, ?_⟩
    rw [ix_r]
    refine ⟨ws, .inl (SqL.of hv.hw), _, atI_nat e1, ?_⟩
    rw [ix_r]
    refine ⟨_, .inr (SqT.of e2), _, rfl, ?_⟩
    rw [len_s]
    refine ⟨by rw [sizeLine_eq]; have := rf.l2.1; omega, _, rfl, _, _, _, rfl, _, _, _, rfl, rfl, rfl, _, rfl, ?_⟩
    have jj : j = 0 ∨ j < rows[k].2.2.length := by
      rcases hj with z | ⟨r, z, z2⟩
      · exact .inl z
      · rw [List.getElem?_eq_getElem lt] at z
        cases z
        exact .inr z2
    rw [if_neg]
    · exact q
    · simp only [Bool.not_eq_true', decide_eq_false_iff_not, Classical.not_not]
      split <;> omega
  · rw [if_neg (by simp; omega)]
    refine ⟨_, _, _, rfl, _, _, _, rfl, rfl, rfl, _, rfl, ?_⟩
    have j0 : j = 0 := by
      rcases hj with z | ⟨r, z, _⟩
      · exact z
      · rw [List.getElem?_eq_none (by omega)] at z; cases z
    rw [if_neg (by simp [j0])]
    exact q
theorem sc_Volume_crash : FnScope ["self", "keep", "torn", "lost", "number", "old", "new"] ["self", "keep", "torn"] (defScope s_Volume_crash) := ⟨rfl, rfl, rfl, by decide +kernel, rfl, by decide +kernel, by decide +kernel⟩
/-- a crash has been made -/
def ToC (C : Addr) (H : Hp) (y d w : Addr) (f' : Pg) (q : Hp → Prop) : Prop := ∀ w' H', Vol C H' y d w' f' [] → (w' = w ∨ H w' = none) → Fr1 [y, d, w] H H' → (∀ e k, EtIs H y e k → EtIs H' y (e + 1) false) → q H'
def sp_crash (C : Addr) : Sp := S3 fun z n t H Q _ => ∃ y d w f rows k j, z = .ref y ∧ n = .int (k : Nat) ∧ t = .int (j : Nat) ∧ Vol C H y d w f rows ∧ rows.length ≤ 1000 ∧ k ≤ rows.length ∧ TornOk rows k j ∧ ToC C H y d w (left f rows k j) fun H' => Q .non H'
theorem ok_crash (F : Df g.K "crash" "Volume.crash" s_Volume_crash fa fd dV) (T : Txt g) (R : VF g C_Volume) (CL_Volume : Cls g.K C_Volume) (M_Volume_need_outcome : Km g C_Volume "need_outcome" 2 ["self", "keep", "torn"] [] (sp_nout C_Volume)) (M_Volume_set_text : Km g C_Volume "set_text" 1 ["self", "number", "text"] [] (sp_set C_Volume)) : FnG g 3 fa fd ["self", "keep", "torn"] (sp_crash C_Volume) := by
  refine F.ok sc_Volume_crash (fun vs H Q E h => S3.len h) (fun cdv A outer s H vs Q E hr h => ?_)
  obtain ⟨_, _, _, rfl, y, d, w, f, rows, k, j, rfl, rfl, rfl, hV, hN, hk, hj, q⟩ := h
  refine ⟨_, (pss_mid (ps_expr (pe_methG (pv 0) CL_Volume M_Volume_need_outcome (hr.mono (by first | decide | omega)) tkD (pa_cons (pv 1) (pa_cons (pv 2) pa_nil))))
      (pss_mid (ps_set (i := 3) sc_Volume_crash.nd rfl (Or.inl rfl) (pe_slice (o_sl (K := g.K)) (e_fld (K := g.K) (pv 0)) (po_some (pv 1)) po_none))
      (pss_mid (ps_for psD rfl (i_list (K := g.K) (e_revL (K := g.K) (pv 3))) (g_tup (K := g.K) (n := 3) (pgs_cons (pg_name (i := 4) sc_Volume_crash.nd rfl (.inl rfl)) (pgs_cons (pg_name (i := 5) sc_Volume_crash.nd rfl (.inl rfl)) (pgs_cons (pg_name (i := 6) sc_Volume_crash.nd rfl (.inl rfl)) pgs_nil)))) (pss_one (ps_expr (pe_methG (pv 0) CL_Volume M_Volume_set_text (hr.mono (by first | decide | omega)) tkD (pa_cons (pv 4) (pa_cons (pv 5) pa_nil))))))
      (pss_mid (ps_if (pt_cmpR op_gt (pv 2) pe_int (nomark _)) (pss_one (ps_expr (pe_methG (pv 0) CL_Volume M_Volume_set_text (hr.mono (by first | decide | omega)) tkD (pa_cons (pe_ix (o_ix (K := g.K)) (pe_ix (o_ix (K := g.K)) (pv 3) pe_int (fun _ _ => rfl)) pe_int (fun _ _ => rfl)) (pa_cons (pe_slice (o_sl (K := g.K)) (pe_ix (o_ix (K := g.K)) (pe_ix (o_ix (K := g.K)) (pv 3) pe_int (fun _ _ => rfl)) pe_int (fun _ _ => rfl)) po_none (po_some (pv 2))) pa_nil))))) pss_nil)
      (pss_cons (s_fld (K := g.K) (pv 0) (pe_lst pa_nil))
      (pss_cons (s_fldaug (K := g.K) (pv 0) pe_int in_add)
      (pss_one (s_fld (K := g.K) (pv 0) pe_bl)))))))), ?_⟩
  have ⟨dy, ep, tk, kvs, ws, hv⟩ := hV
  have hy := hv.hy
  refine mid_one [some (.ref y), some (.int (k : Nat)), some (.int (j : Nat)), none, none, none, none] (fun G => G = H) ?_ ?_
  · walk_at "sx"
    exact ⟨_, _, hy, lk_no, _, _, _, rfl, y, d, w, f, rows, k, j, rfl, rfl, rfl, hV, hN, hk, hj, rfl⟩
  intro G e0
  rw [e0]; clear e0 G
  refine mid_at (fun σ G => ∃ l, σ = [some (.ref y), some (.int (k : Nat)), some (.int (j : Nat)), some (.ref l), none, none, none] ∧ Same H G ∧ G l = some (.lst (ws.drop k)) ∧ H l = none) ?_ ?_
  · walk_at "sx"
    refine ⟨_, _, _, hy, R.cls, R.n2, _, lk_wt, ?_⟩
    rw [sl_r]
    refine .inl ⟨w, ws, rfl, SqL.of hv.hw, fun p hp => ?_⟩
    rw [cutV_from _ (by omega)]
    exact ⟨p, rfl, same_upd hp, upd_same, hp⟩
  rintro _ G ⟨l, rfl, sG, el, nl⟩
  have hvG := hv.fr (fp := []) (FrT.of sG) (by simp) (by simp)
  refine mid_at (fun σ G2 => ∃ a b c kvs', σ = [some (.ref y), some (.int (k : Nat)), some (.int (j : Nat)), some (.ref l), a, b, c] ∧ Fr1 [y, d, w] H G2 ∧ G2 l = some (.lst (ws.drop k)) ∧ VolX C_Volume G2 y dy d w ep tk kvs' ws (undo f (rows.drop k).reverse) rows) ?_ ?_
  · walk_at "sx"
    refine ⟨_, SqL.of el, fun p hp => ⟨⟨_, SqL.of upd_same⟩, ?_⟩⟩
    have nw : p ≠ w := fun z => by rw [z, hvG.hw] at hp; cases hp
    have nd : p ≠ d := fun z => by rw [z, hvG.hd] at hp; cases hp
    have lw : l ≠ w := fun z => by rw [z, hv.hw] at nl; cases nl
    have ld : l ≠ d := fun z => by rw [z, hv.hd] at nl; cases nl
    have sp := same_upd (o := HO.lst (ws.drop k).reverse) hp
    have hvP := hvG.fr (fp := []) (FrT.of sp) (by simp) (by simp)
    have ep0 : upd G p (.lst (ws.drop k).reverse) p = some (.lst (ws.drop k).reverse) := upd_same
    have el0 := sp _ _ el
    generalize upd G p (.lst (ws.drop k).reverse) = GP at sp hvP ep0 el0 ⊢
    have sHP := sG.trans sp
    refine for_by (rows.drop k).reverse.length (fun i σ X => ∃ a b c kvs', σ = [some (.ref y), some (.int (k : Nat)), some (.int (j : Nat)), some (.ref l), a, b, c] ∧ Fr1 [y, d, w] GP X ∧ X l = some (.lst (ws.drop k)) ∧ X p = some (.lst (ws.drop k).reverse) ∧ VolX C_Volume X y dy d w ep tk kvs' ws (undo f ((rows.drop k).reverse.take i)) rows)
      ⟨_, _, _, _, rfl, Fr1.refl _, el0, ep0, hvP⟩ ?_ ?_ ?_ ?_
    · rintro i _ X lt ⟨a, b, c, kvs', rfl, fr, xl, xp, hx⟩
      obtain ⟨t, e1, _⟩ := (hx.ra.drop k).rev.2 i _ (List.getElem?_eq_getElem lt)
      exact ⟨_, _, SqL.of xp, e1⟩
    · rintro _ X ⟨a, b, c, kvs', rfl, fr, xl, xp, hx⟩
      exact ⟨_, SqL.of xp, by rw [(hx.ra.drop k).rev.1]; exact Nat.le_refl _⟩
    · rintro i _ X x X' lt ⟨a, b, c, kvs', rfl, fr, xl, xp, hx⟩ yl
      obtain ⟨rfl, yl⟩ := yl
      have yl := yl _ (SqL.of xp)
      have er := List.getElem?_eq_getElem lt
      obtain ⟨t, e1, e2⟩ := (hx.ra.drop k).rev.2 i _ er
      rw [e1] at yl
      cases yl
      generalize (rows.drop k).reverse[i] = r at er e2
      have rf := hv.rf r (List.mem_of_mem_drop (List.mem_reverse.mp (List.mem_of_getElem? er)))
      walk_at "sx"
      refine ⟨_, SqT.of e2, rfl, _, _, rfl, _, _, rfl, _, _, rfl, rfl, _, _, hx.hy, lk_no, _, _, _, rfl, y, dy, d, w, ep, tk, kvs', ws, _, rows, r.1, r.2.1, rfl, rfl, rfl, hx, fun kvs2 p1 => ⟨fr.trans (Fr1.upd (by simp)), ?_, ?_, kvs2, ?_⟩⟩
      · rw [upd_ne ld]; exact xl
      · rw [upd_ne nd]; exact xp
      · rw [undo_take er]
        exact hx.setD p1 (hx.fin.set (fun _ => ⟨rf.lo, rf.hi⟩) rf.l1)
    · rintro _ X ⟨a, b, c, kvs', rfl, fr, xl, xp, hx⟩
      rw [List.take_length] at hx
      exact ⟨a, b, c, rfl, (Fr1.of sHP).trans fr, xl, kvs', hx⟩
  rintro _ G2 ⟨a, b, c, kvs2, rfl, fr2, el2, hv2⟩
  refine mid_at (fun σ G3 => ∃ kvs', σ = [some (.ref y), some (.int (k : Nat)), some (.int (j : Nat)), some (.ref l), a, b, c] ∧ Fr1 [y, d, w] H G3 ∧ VolX C_Volume G3 y dy d w ep tk kvs' ws (left f rows k j) rows) ?_ ?_
  · walk_at "sx"
    by_cases j0 : j = 0
    · rw [if_neg (by simp [j0])]
      subst j0
      rw [left0]
      exact ⟨fr2, kvs2, hv2⟩
    · rw [if_pos (by simp; omega)]
      obtain ⟨r, er, lt⟩ : ∃ r, rows[k]? = some r ∧ j < r.2.2.length := hj.resolve_left j0
      obtain ⟨t, e1, e2⟩ := hv2.ra.2 k r er
      have e0 : atI (ws.drop k) 0 = some (.ref t) := atI_nat (j := 0) (by rw [List.getElem?_drop]; exact e1)
      have rf := hv.rf r (List.mem_of_getElem? er)
      refine ⟨_, _, hv2.hy, lk_no, _, .inl (SqL.of el2), _, e0, ?_⟩
      rw [ix_r]
      refine ⟨_, .inr (SqT.of e2), _, rfl, _, .inl (SqL.of el2), _, e0, ?_⟩
      rw [ix_r]
      refine ⟨_, .inr (SqT.of e2), _, rfl, ?_⟩
      rw [sl_s]
      refine ⟨by rw [sizeLine_eq]; have := rf.l2.1; omega, _, _, _, rfl, y, dy, d, w, ep, tk, kvs2, ws, _, rows, r.1, cutT r.2.2 j, rfl, rfl, rfl, hv2, fun kvs' p1 => ⟨fr2.trans (Fr1.upd (by simp)), kvs', ?_⟩⟩
      rw [left1 er j0]
      exact hv2.setD p1 (hv2.fin.set (fun _ => ⟨rf.lo, rf.hi⟩) (rf.l2.cut j))
  rintro _ G3 ⟨kvs3, rfl, fr3, hv3⟩
  walk_at "sx"
  intro p hp
  refine ⟨_, _, _, by rw [upd_ne (ne_of_none hv3.hy hp)]; exact hv3.hy, R.cls, R.n2, by simp, R.cls, R.n3, _, by rw [pu_wt]; exact lk_cc, _, _, rfl, rfl, _, _, upd_same, by rw [pu_wt]; simp, R.cls, R.n4, by rw [pu_wt, pu_cc]; simp, ?_⟩
  rw [pu_wt, pu_cc, pu_tk]
  obtain ⟨n1, n2, n3⟩ := hv3.ne1
  have py : p ≠ y := fun z => by rw [z, hv3.hy] at hp; cases hp
  refine q p _ ⟨dy, ep + 1, false, kvs3, [], upd_same, ?_, ?_, hv3.pr, RowsAt.nil, hv3.fin, rowsF0⟩ (.inr (fr3.none hv3.live hp)) ?_ fun e k h => ?_
  · rw [upd_ne (Ne.symm n1), upd_ne (Ne.symm n1), upd_ne (Ne.symm n1), upd_ne (ne_of_none hv3.hd hp)]; exact hv3.hd
  · rw [upd_ne py, upd_ne py, upd_ne py, upd_same]
  · exact (((fr3.trans (Fr1.of (same_upd hp))).trans (Fr1.upd (by simp))).trans (Fr1.upd (by simp))).trans (Fr1.upd (by simp))
  · obtain ⟨rfl, rfl⟩ := h.uni hy
    exact ⟨_, _, _, _, upd_same⟩
theorem sc_Volume_crashed : FnScope ["self", "keep", "torn", "found"] ["self", "keep", "torn"] (defScope s_Volume_crashed) := ⟨rfl, rfl, rfl, by decide +kernel, rfl, by decide +kernel, by decide +kernel⟩
def sp_crashed (C : Addr) : Sp := S3 fun z n t H Q _ => ∃ y d w f rows k j, z = .ref y ∧ n = .int (k : Nat) ∧ t = .int (j : Nat) ∧ Vol C H y d w f rows ∧ rows.length ≤ 1000 ∧ k ≤ rows.length ∧ TornOk rows k j ∧ ∀ y' d' w' H', Vol C H' y' d' w' (left f rows k j) [] → H y' = none → H d' = none → H w' = none → Same H H' → EtIs H' y' 1 false → Q (.ref y') H'
theorem ok_crashed (F : Df g.K "crashed" "Volume.crashed" s_Volume_crashed fa fd dV) (T : Txt g) (R : VF g C_Volume) (CL_Volume : Cls g.K C_Volume) (M_Volume_need_outcome : Km g C_Volume "need_outcome" 2 ["self", "keep", "torn"] [] (sp_nout C_Volume)) (M_Volume_snapshot : Km g C_Volume "snapshot" 4 ["self"] [] (sp_snap C_Volume)) (M_Volume_crash : Km g C_Volume "crash" 3 ["self", "keep", "torn"] [] (sp_crash C_Volume)) : FnG g 5 fa fd ["self", "keep", "torn"] (sp_crashed C_Volume) := by
  refine F.ok sc_Volume_crashed (fun vs H Q E h => S3.len h) (fun cdv A outer s H vs Q E hr h => ?_)
  obtain ⟨_, _, _, rfl, y, d, w, f, rows, k, j, rfl, rfl, rfl, hV, hN, hk, hj, q⟩ := h
  refine ⟨_, (pss_cons (ps_expr (pe_methG (pv 0) CL_Volume M_Volume_need_outcome (hr.mono (by first | decide | omega)) tkD (pa_cons (pv 1) (pa_cons (pv 2) pa_nil))))
      (pss_cons (ps_set (i := 3) sc_Volume_crashed.nd rfl (Or.inl rfl) (pe_methG0 (pv 0) CL_Volume M_Volume_snapshot (hr.mono (by first | decide | omega)) tkD))
      (pss_cons (ps_expr (pe_methG (pv 3) CL_Volume M_Volume_crash (hr.mono (by first | decide | omega)) tkD (pa_cons (pv 1) (pa_cons (pv 2) pa_nil))))
      (pss_one (ps_ret (pv 3)))))), ?_⟩
  have ⟨dy, ep, tk, kvs, ws, hv⟩ := hV
  have hy := hv.hy
  walk_at "sx"
  refine ⟨_, _, hy, lk_no, _, _, _, rfl, y, d, w, f, rows, k, j, rfl, rfl, rfl, hV, hN, hk, hj, ?_⟩
  refine ⟨_, _, hy, lk_no, _, rfl, y, d, w, f, rows, rfl, hV, fun y2 d2 w2 H2 hV2 ny nd nw sm et2 => ?_⟩
  have ⟨dy2, ep2, tk2, kvs2, ws2, hv2⟩ := hV2
  refine ⟨y2, rfl, _, _, hv2.hy, lk_no, _, _, _, rfl, y2, d2, w2, f, rows, k, j, rfl, rfl, rfl, hV2, hN, hk, hj, fun w3 H3 hV3 n3 fr et3 => ?_⟩
  refine q y2 d2 w3 H3 hV3 ny nd ?_ (fun c o e => ?_) (et3 0 false et2)
  · rcases n3 with rfl | z
    · exact nw
    · exact none_of_same sm z
  · refine fr c o ?_ (sm _ _ e)
    simp only [List.mem_cons, List.not_mem_nil, or_false, not_or]
    exact ⟨ne_of_none e ny, ne_of_none e nd, ne_of_none e nw⟩
end


/-! volumes: damage -/
/-- a text with another sign at i -/
def hurtT (x : Str) (i : Nat) (s : Str) : Str := cutS x none (some (i : Nat)) ++ s ++ cutS x (some ((i : Nat) + 1)) none
theorem len_app (a b : Str) : (a ++ b).length = a.length + b.length := by
  rw [str_S a, str_S b, S_cat, S_len, S_len, S_len]
  simp
theorem cutF_len (x : Str) (t : Nat) : (cutS x (some (t : Nat)) none).length = x.length - t := by
  rw [str_S x, cut_from _ (by omega), S_len, S_len]
  simp
theorem hurtT_len (x : Str) (i : Nat) (s : Str) (h : i < x.length) (h1 : s.length = 1) : (hurtT x i s).length = x.length := by
  unfold hurtT
  have c1 := cutT_len x i
  have c2 : (cutS x (some ((i : Int) + 1)) none).length = x.length - (i + 1) := cutF_len x (i + 1)
  unfold cutT at c1
  rw [len_app, len_app]
  omega
theorem hurtT_ok {x : Str} {i : Nat} {s : Str} (h : TOk x) (hi : i < x.length) (h1 : s.length = 1) (h2 : PyData.strOk s = true) : TOk (hurtT x i s) := by
  refine ⟨by rw [hurtT_len x i s hi h1]; exact h.1, ?_⟩
  unfold hurtT
  exact ok_app (ok_app (ok_cutT h.2 i) h2) (ok_cutF h.2 (i + 1))
theorem cutV_last (xs : List V) : cutV xs (some (-1)) none = xs.drop (xs.length - 1) := by
  unfold cutV
  have e : HT.sIx xs.length 0 (some (-1)) = xs.length - 1 := by
    simp only [HT.sIx]
    rw [if_pos (by omega)]
    omega
  rw [e]
  simp only [HT.sIx]
  exact List.take_of_length_le (by simp)
theorem fm_filter {α β : Type} (l : List α) (p : α → Bool) (f : α → β) : l.filterMap (fun i => if p i = true then some (f i) else none) = (l.filter p).map f := by
  induction l with
  | nil => rfl
  | cons a l ih =>
    rw [List.filterMap_cons, List.filter_cons]
    by_cases h : p a = true
    · simp [h, ih]
    · simp [h, ih]
/-- [i for i, row in enumerate(rows) if row[0] == m] -/
theorem places_lc {K : PySem.W.Frag} {H : Hp} {Q : VK} {a : Addr} {ws : List V} {rows : List Row} {m : Int} {g' : TG} {tt : TT} {te : TE} {vs : List Nat} {σ : L2.St} (ha : H a = some (.lst ws)) (ra : RowsAt H ws rows) (hl : rows.length ≤ 1000)
    (hs : ∀ (T t : Addr) (n : Nat) (r : Row) (G' : Hp) (K : VK) (K0 : Hp → Prop), G' T = some (.tup [.int (n : Nat), .ref t]) → G' t = some (.tup [.int r.1, .str r.2.1, .str r.2.2]) → (r.1 = m → K (.int (n : Nat)) G') → (r.1 ≠ m → K0 G') →
      g' (.ref T) (wipe σ vs) G' fun σ2 H2 => wipe σ2 vs = wipe σ vs ∧ tt σ2 H2 fun b H3 => if b = true then te σ2 H3 K else K0 H3)
    (q : ∀ p H', Same H H' → H p = none → H' p = some (.lst ((places rows m).map fun i => V.int (i : Nat))) → Q (.ref p) H') : LcB (Ite K a) g' tt te vs σ H Q := by
  have lw := ra.1
  refine lc_kept rows.length (fun i => if decide (rows[i]?.map (·.1) = some m) = true then some (.int (i : Nat)) else none) (by rw [sizeLine_eq]; omega) (fun i G lt s => ?_) (fun G s => ⟨_, SqL.of (s _ _ ha), by omega⟩) (fun i G x G' K K0 lt s yl k1 k2 => ?_) (fun L G hL s eL => q L G s hL ?_)
  · obtain ⟨t, e1, _⟩ := ra.2 i _ (List.getElem?_eq_getElem lt)
    exact ⟨_, _, SqL.of (s _ _ ha), e1⟩
  · obtain ⟨T, x, rfl, hT, rfl, hx⟩ := yl
    have hx := hx _ (SqL.of (s _ _ ha))
    have er := List.getElem?_eq_getElem lt
    obtain ⟨t, e1, e2⟩ := ra.2 i _ er
    rw [e1] at hx
    cases hx
    have sT := same_upd (o := HO.tup [V.int (i : Nat), .ref t]) hT
    refine hs T t i rows[i] _ K K0 upd_same (sT _ _ (s _ _ e2)) (fun z => k1 _ _ ?_ sT) (fun z => k2 ?_ _ sT)
    · rw [er]; simp [z]
    · rw [er]; simp [z]
  · rw [eL]
    congr 2
    exact fm_filter _ _ _
section
variable {g : Wd} {fa : Addr} {fd : FuncData} {C_Volume CN CT CB : Addr} {dV : Value}
end


/-! the law's helpers -/
/-- a source of numbers -/
def Src (H : Hp) (a cl : Addr) (N : Nat) : Prop := ∃ (t r : Int) (ns : List Int), H a = some (.dK [(.inr "cells", .ref cl), (.inr "turn", .int t), (.inr "rest", .int r)]) ∧ H cl = some (.lst (ns.map V.int)) ∧ 0 < ns.length ∧ ns.length ≤ 1000 ∧ 0 ≤ t ∧ t ≤ N
theorem n_tc : ¬ ((Str.ofString "cells") = (Str.ofString "turn")) := by decide +kernel
theorem n_tr : ¬ ((Str.ofString "rest") = (Str.ofString "turn")) := by decide +kernel
theorem n_rc : ¬ ((Str.ofString "cells") = (Str.ofString "rest")) := by decide +kernel
theorem n_rt : ¬ ((Str.ofString "turn") = (Str.ofString "rest")) := by decide +kernel
theorem put_turn {x y z v : V} : putK [((.inr (Str.ofString "cells") : Key), x), (.inr (Str.ofString "turn"), y), (.inr (Str.ofString "rest"), z)] (.inr (Str.ofString "turn")) v = [(.inr (Str.ofString "cells"), x), (.inr (Str.ofString "turn"), v), (.inr (Str.ofString "rest"), z)] := by
  simp [putK, n_tc, n_tr]
theorem put_rest {x y z v : V} : putK [((.inr (Str.ofString "cells") : Key), x), (.inr (Str.ofString "turn"), y), (.inr (Str.ofString "rest"), z)] (.inr (Str.ofString "rest")) v = [(.inr (Str.ofString "cells"), x), (.inr (Str.ofString "turn"), y), (.inr (Str.ofString "rest"), v)] := by
  simp [putK, n_rc, n_rt]
theorem Src.fr {H H' : Hp} {a cl : Addr} {N : Nat} {fp : List Addr} (h : Src H a cl N) (s : FrT fp H H') (n1 : a ∉ fp) (n2 : cl ∉ fp) : Src H' a cl N := by
  obtain ⟨t, r, ns, h1, h2, h3⟩ := h
  exact ⟨t, r, ns, s _ _ n1 (fun _ z => by cases z) h1, s _ _ n2 (fun _ z => by cases z) h2, h3⟩
theorem Src.ne {H : Hp} {a cl : Addr} {N : Nat} (h : Src H a cl N) : cl ≠ a := fun z => by
  obtain ⟨t, r, ns, h1, h2, h3⟩ := h
  rw [z, h1] at h2; cases h2
theorem Src.mono {H : Hp} {a cl : Addr} {N M : Nat} (h : Src H a cl N) (l : N ≤ M) : Src H a cl M := by
  obtain ⟨t, r, ns, h1, h2, h3, h4, h5, h6⟩ := h
  exact ⟨t, r, ns, h1, h2, h3, h4, h5, by omega⟩
theorem put_new {acc : List (Key × V)} {k : Key} {v : V} (h : k ∉ acc.map (·.1)) : putK acc k v = acc ++ [(k, v)] := by
  unfold putK
  rw [if_neg]
  intro z
  obtain ⟨p, hp, e⟩ := List.any_eq_true.mp z
  exact h (List.mem_map.mpr ⟨p, hp, by simpa using e⟩)
theorem merge_new : ∀ (kvs acc : List (Key × V)), ((acc ++ kvs).map (·.1)).Nodup → mergeK acc kvs = acc ++ kvs
  | [], acc, _ => by simp [mergeK]
  | (k, v) :: r, acc, nd => by
    have e : acc ++ (k, v) :: r = (acc ++ [(k, v)]) ++ r := by simp
    rw [e] at nd ⊢
    rw [← merge_new r (acc ++ [(k, v)]) nd]
    show mergeK (putK acc k v) r = _
    rw [put_new]
    intro z
    rw [List.map_append, List.map_append] at nd
    have := (List.nodup_append.mp (List.nodup_append.mp nd).1).2.2 k z k (by simp)
    exact this rfl
theorem rep_len (x : Str) (n : Nat) : (repS x n).length = n * x.length := by
  rw [str_S x, rep_S, S_len, S_len]
  simp [List.length_flatten]
theorem cutV_one (xs : List V) (k : Nat) : cutV xs (some (k : Nat)) (some ((k : Nat) + 1)) = (xs.drop k).take 1 := by
  unfold cutV
  have e1 : HT.sIx xs.length 0 (some (k : Nat)) = min k xs.length := by
    simp only [HT.sIx]
    rw [if_neg (by omega)]
    simp
  have e2 : HT.sIx xs.length xs.length (some ((k : Nat) + 1)) = min (k + 1) xs.length := by
    simp only [HT.sIx]
    rw [if_neg (by omega)]
    congr 1
  rw [e1, e2]
  by_cases c : k < xs.length
  · rw [Nat.min_eq_left (by omega), Nat.min_eq_left (by omega)]
    congr 1
    omega
  · rw [Nat.min_eq_right (by omega), Nat.min_eq_right (by omega), List.drop_of_length_le (Nat.le_refl _), List.drop_of_length_le (by omega)]
    simp
theorem pair_app {α β : Type} {F : α → β → Prop} : ∀ {a : List α} {b : List β} {c : List α} {d : List β}, Paired F a b → Paired F c d → Paired F (a ++ c) (b ++ d)
  | [], [], _, _, .nil, h => h
  | _ :: _, _ :: _, _, _, .cons h t, h2 => .cons h (pair_app t h2)
section
variable {g : Wd} {fa : Addr} {fd : FuncData} {C_Volume CN CT CB : Addr} {dV : Value}
theorem sc_l_pick : FnScope ["_law_source", "_law_many", "_law_found", "_law_k", "_law_cells", "_law_mixed"] ["_law_source", "_law_many"] (defScope s_l_pick) := ⟨rfl, rfl, rfl, by decide +kernel, rfl, by decide +kernel, by decide +kernel⟩
def sp_pick : Sp := S2 fun z b H Q _ => ∃ (a cl : Addr) (N : Nat) (m : Int), z = .ref a ∧ b = .int m ∧ 0 < m ∧ m < 100000000 ∧ Src H a cl N ∧ N < 1000000 ∧ ∀ (r : Int) H', 0 ≤ r → r < m → Src H' a cl (N + 1) → Fr1 [a] H H' → Q (.int r) H'
theorem ok_pick (F : Df g.K "_law_pick" "_law_pick" s_l_pick fa fd .none) (T : Txt g) : FnG g 1 fa fd ["_law_source", "_law_many"] sp_pick := by
  refine F.ok sc_l_pick (fun vs H Q E h => S2.len h) (fun cdv A outer s H vs Q E hr h => ?_)
  obtain ⟨_, _, rfl, a, cl, N, m, rfl, rfl, m0, m1, ⟨t, r, ns, ha, hc, n0, n1, t0, t1⟩, hN, q⟩ := h
  refine ⟨_, (pss_mid (ps_dput (hu_of hr.room) (pv 0) pe_str (pe_op (o_add (K := g.K)) (pe_dget (hu_of hr.room) (pv 0) pe_str (fun _ _ => rfl)) pe_int) rfl)
      (pss_mid (ps_if (pt_cmpR op_gt (pe_dget (hu_of hr.room) (pv 0) pe_str (fun _ _ => rfl)) pe_int (nomark _)) (pss_cons (ps_set (i := 2) sc_l_pick.nd rfl (Or.inl rfl) (pe_op op_mod (pe_dget (hu_of hr.room) (pv 0) pe_str (fun _ _ => rfl)) (pv 1)))
      (pss_mid (ps_dput (hu_of hr.room) (pv 0) pe_str (pe_op op_fdiv (pe_dget (hu_of hr.room) (pv 0) pe_str (fun _ _ => rfl)) (pv 1)) rfl)
      (pss_one (ps_ret (pv 2))))) pss_nil)
      (pss_mid (ps_par (i := 3) (j := 4) (by rfl) sc_l_pick.nd rfl rfl (by decide) rfl rfl (pa_cons (pe_dget (hu_of hr.room) (pv 0) pe_str (fun _ _ => rfl)) (pa_cons (pe_dget (hu_of hr.room) (pv 0) pe_str (fun _ _ => rfl)) pa_nil)) (by rfl))
      (pss_mid (ps_set (i := 5) sc_l_pick.nd rfl (Or.inl rfl) (pe_op (o_add (K := g.K)) (pe_op op_mod (pe_op (o_add (K := g.K)) (pe_ix (o_ix (K := g.K)) (pv 4) (pe_op op_mod (pv 3) (pe_callB (c_len (K := g.K)) (by rfl) T.b_len bb_len (pa_cons (pv 4) pa_nil))) (fun _ _ => rfl)) (pe_op o_mul pe_int (pv 3))) pe_int) (pe_op o_mul (pe_op o_mul pe_int (pv 3)) (pv 3))))
      (pss_mid (ps_set (i := 5) sc_l_pick.nd rfl (Or.inl rfl) (pe_op op_mod (pe_op o_mul (pe_op op_mod (pv 5) pe_int) (pe_op (o_add (K := g.K)) (pv 3) pe_int)) pe_int))
      (pss_one (ps_ret (pe_op op_mod (pe_op op_fdiv (pe_op op_mod (pe_op o_mul (pv 5) (pv 5)) pe_int) pe_int) (pv 1))))))))), ?_⟩
  have cla : cl ≠ a := fun z => by rw [z, ha] at hc; cases hc
  refine mid_one [some (.ref a), some (.int m), none, none, none, none] (fun G => G = upd H a (.dK [(.inr (Str.ofString "cells"), .ref cl), (.inr (Str.ofString "turn"), .int (t + 1)), (.inr (Str.ofString "rest"), .int r)])) ?_ ?_
  · simp only [dget_s ha, dput_s ha, n_tc, n_tr, put_turn, tRet, tRetN, tSeq, C8.tCut, tNext, tAsg, gName, gNil, gCons, gTup, gFld, tIfS, tIf, tAndV, tOrV, tNotV, tAnd, tOr, tNot, tB, tTest, tOp, tUn, tCB, tCons, tNil, tVar, tC, tChain, tDrop, RS.tCallG, RS.tMethG, tMakeG, RS.tCallK, RS.tMakeK, tEqOwn, rI, rI0, rU, add_ii, add_ss, add_rr, mul_ii, mul_si, mul_ri, RS.eq_ii, RS.eq_ss, eq_bb, eq_nn, eq_sn, eq_ns, eq_in, eq_ni, eq_bn, eq_nb, eq_is, eq_si, eq_rr, ne_ii, ne_ss, ne_bb, ne_nn, ne_sn, ne_ns, ne_in, ne_ni, ne_is, ne_si, ne_rr, in_ss, in_r, nin_ss, nin_r, len_s, len_r, RS.ix_s, RS.ix_r, sl_s, sl_r, is_eq, tyN_n, tyN_b, tyN_i, tyN_s, tru_b, tru_i, tru_n, tSl, tPart, tNoPart, tPar, tPar3, tFmtZ, tFmt, tJs, tDGet, sDPut, sFld, tFld, tTup, tLst, tNever, isB,
  L2.start, List.map_cons, List.map_nil, List.length_cons, List.length_nil, Nat.reduceAdd, Nat.reduceSub, Nat.sub_self, List.replicate_zero, List.replicate_succ, List.append_nil, List.cons_append, List.nil_append, List.getElem?_cons_zero, List.getElem?_cons_succ, List.set_cons_zero, List.set_cons_succ, Option.some.injEq, exists_eq_left, exists_eq_left', exists_and_left, V.bl.injEq, V.int.injEq, V.str.injEq, V.ref.injEq, beq_self_eq_true, Bool.true_or, Bool.or_true, Bool.false_or, Bool.or_false, Bool.and_false, Bool.false_and, Bool.true_and, Bool.and_true, Bool.not_true, Bool.not_false, Bool.false_eq_true, if_true, if_false, ite_true, ite_false, true_and, and_true, and_assoc, String.reduceBEq, String.reduceEq, reduceIte, Bool.and_self, reduceCtorEq, false_and, and_false, exists_false, or_false, false_or, exists_const, iEnumS, iStr, iList, iTup, iRng1, iEnum, tFor_eq, tLc_eq, List.cons.injEq, wipe, not_true_eq_false, not_false_eq_true, upd_same, HO.ins.injEq, HO.tup.injEq, HO.lst.injEq, ofS_eq, lk_nil, lk_cons, pu_nil, pu_cons, sizeLine_eq, Nat.reduceLT, Nat.reduceLeDiff, Nat.reduceEqDiff, Nat.le_refl, decide_true, decide_false, tPr, dget_us, dput_us, vv_nil, vv_cons, RS.pk_nil, pk_one, RS.pk_cons, inr_eq, tDisp, tPairs, tBoolOwn, rBoolOwn, tBM, rAppend, ty_list, ty_str, rEqOwn, iEnumT, RS.tCallS, tM1, tDc_eq, tLock, tLockE, iKeys, tListEnum, rUpdate, tMkX0, tMkX1, tXfv, gSub, rSetL, List.getD_cons_zero, List.getD_cons_succ, tCMethS, ClX.tCVal, tXfa, tIxOwn, tInOwn, tPropG, tMethK, tMethP, tListGen, tDGet2, tDPop2, rNeD0, intA_i, intA_b, tRevL, sFldAug, tPm0, tPm1, tDIn, tDNotIn, tDNewK, RS.tMethS]
  intro G eG
  have ha1 : G a = some (.dK [(.inr (Str.ofString "cells"), .ref cl), (.inr (Str.ofString "turn"), .int (t + 1)), (.inr (Str.ofString "rest"), .int r)]) := by rw [eG]; exact upd_same
  have hc1 : G cl = some (.lst (ns.map V.int)) := by rw [eG, upd_ne cla]; exact hc
  have fr1 : Fr1 [a] H G := by rw [eG]; exact Fr1.upd (by simp)
  clear eG
  refine mid_one [some (.ref a), some (.int m), none, none, none, none] (fun G' => G' = G) ?_ ?_
  · simp only [dget_s ha1, n_rc, n_rt, tRet, tRetN, tSeq, C8.tCut, tNext, tAsg, gName, gNil, gCons, gTup, gFld, tIfS, tIf, tAndV, tOrV, tNotV, tAnd, tOr, tNot, tB, tTest, tOp, tUn, tCB, tCons, tNil, tVar, tC, tChain, tDrop, RS.tCallG, RS.tMethG, tMakeG, RS.tCallK, RS.tMakeK, tEqOwn, rI, rI0, rU, add_ii, add_ss, add_rr, mul_ii, mul_si, mul_ri, RS.eq_ii, RS.eq_ss, eq_bb, eq_nn, eq_sn, eq_ns, eq_in, eq_ni, eq_bn, eq_nb, eq_is, eq_si, eq_rr, ne_ii, ne_ss, ne_bb, ne_nn, ne_sn, ne_ns, ne_in, ne_ni, ne_is, ne_si, ne_rr, in_ss, in_r, nin_ss, nin_r, len_s, len_r, RS.ix_s, RS.ix_r, sl_s, sl_r, is_eq, tyN_n, tyN_b, tyN_i, tyN_s, tru_b, tru_i, tru_n, tSl, tPart, tNoPart, tPar, tPar3, tFmtZ, tFmt, tJs, tDGet, sDPut, sFld, tFld, tTup, tLst, tNever, isB,
  L2.start, List.map_cons, List.map_nil, List.length_cons, List.length_nil, Nat.reduceAdd, Nat.reduceSub, Nat.sub_self, List.replicate_zero, List.replicate_succ, List.append_nil, List.cons_append, List.nil_append, List.getElem?_cons_zero, List.getElem?_cons_succ, List.set_cons_zero, List.set_cons_succ, Option.some.injEq, exists_eq_left, exists_eq_left', exists_and_left, V.bl.injEq, V.int.injEq, V.str.injEq, V.ref.injEq, beq_self_eq_true, Bool.true_or, Bool.or_true, Bool.false_or, Bool.or_false, Bool.and_false, Bool.false_and, Bool.true_and, Bool.and_true, Bool.not_true, Bool.not_false, Bool.false_eq_true, if_true, if_false, ite_true, ite_false, true_and, and_true, and_assoc, String.reduceBEq, String.reduceEq, reduceIte, Bool.and_self, reduceCtorEq, false_and, and_false, exists_false, or_false, false_or, exists_const, iEnumS, iStr, iList, iTup, iRng1, iEnum, tFor_eq, tLc_eq, List.cons.injEq, wipe, not_true_eq_false, not_false_eq_true, upd_same, HO.ins.injEq, HO.tup.injEq, HO.lst.injEq, ofS_eq, lk_nil, lk_cons, pu_nil, pu_cons, sizeLine_eq, Nat.reduceLT, Nat.reduceLeDiff, Nat.reduceEqDiff, Nat.le_refl, decide_true, decide_false, tPr, dget_us, dput_us, vv_nil, vv_cons, RS.pk_nil, pk_one, RS.pk_cons, inr_eq, tDisp, tPairs, tBoolOwn, rBoolOwn, tBM, rAppend, ty_list, ty_str, rEqOwn, iEnumT, RS.tCallS, tM1, tDc_eq, tLock, tLockE, iKeys, tListEnum, rUpdate, tMkX0, tMkX1, tXfv, gSub, rSetL, List.getD_cons_zero, List.getD_cons_succ, tCMethS, ClX.tCVal, tXfa, tIxOwn, tInOwn, tPropG, tMethK, tMethP, tListGen, tDGet2, tDPop2, rNeD0, intA_i, intA_b, tRevL, sFldAug, tPm0, tPm1, tDIn, tDNotIn, tDNewK, RS.tMethS]
    by_cases r0 : 0 < r
    · rw [if_pos (by simpa using r0)]
      refine ⟨m0, ?_⟩
      refine mid_one [some (.ref a), some (.int m), some (.int (r % m)), none, none, none] (fun G' => G' = upd G a (.dK [(.inr (Str.ofString "cells"), .ref cl), (.inr (Str.ofString "turn"), .int (t + 1)), (.inr (Str.ofString "rest"), .int (r / m))])) ?_ ?_
      · simp only [dget_s ha1, dput_s ha1, n_rc, n_rt, put_rest, tRet, tRetN, tSeq, C8.tCut, tNext, tAsg, gName, gNil, gCons, gTup, gFld, tIfS, tIf, tAndV, tOrV, tNotV, tAnd, tOr, tNot, tB, tTest, tOp, tUn, tCB, tCons, tNil, tVar, tC, tChain, tDrop, RS.tCallG, RS.tMethG, tMakeG, RS.tCallK, RS.tMakeK, tEqOwn, rI, rI0, rU, add_ii, add_ss, add_rr, mul_ii, mul_si, mul_ri, RS.eq_ii, RS.eq_ss, eq_bb, eq_nn, eq_sn, eq_ns, eq_in, eq_ni, eq_bn, eq_nb, eq_is, eq_si, eq_rr, ne_ii, ne_ss, ne_bb, ne_nn, ne_sn, ne_ns, ne_in, ne_ni, ne_is, ne_si, ne_rr, in_ss, in_r, nin_ss, nin_r, len_s, len_r, RS.ix_s, RS.ix_r, sl_s, sl_r, is_eq, tyN_n, tyN_b, tyN_i, tyN_s, tru_b, tru_i, tru_n, tSl, tPart, tNoPart, tPar, tPar3, tFmtZ, tFmt, tJs, tDGet, sDPut, sFld, tFld, tTup, tLst, tNever, isB,
  L2.start, List.map_cons, List.map_nil, List.length_cons, List.length_nil, Nat.reduceAdd, Nat.reduceSub, Nat.sub_self, List.replicate_zero, List.replicate_succ, List.append_nil, List.cons_append, List.nil_append, List.getElem?_cons_zero, List.getElem?_cons_succ, List.set_cons_zero, List.set_cons_succ, Option.some.injEq, exists_eq_left, exists_eq_left', exists_and_left, V.bl.injEq, V.int.injEq, V.str.injEq, V.ref.injEq, beq_self_eq_true, Bool.true_or, Bool.or_true, Bool.false_or, Bool.or_false, Bool.and_false, Bool.false_and, Bool.true_and, Bool.and_true, Bool.not_true, Bool.not_false, Bool.false_eq_true, if_true, if_false, ite_true, ite_false, true_and, and_true, and_assoc, String.reduceBEq, String.reduceEq, reduceIte, Bool.and_self, reduceCtorEq, false_and, and_false, exists_false, or_false, false_or, exists_const, iEnumS, iStr, iList, iTup, iRng1, iEnum, tFor_eq, tLc_eq, List.cons.injEq, wipe, not_true_eq_false, not_false_eq_true, upd_same, HO.ins.injEq, HO.tup.injEq, HO.lst.injEq, ofS_eq, lk_nil, lk_cons, pu_nil, pu_cons, sizeLine_eq, Nat.reduceLT, Nat.reduceLeDiff, Nat.reduceEqDiff, Nat.le_refl, decide_true, decide_false, tPr, dget_us, dput_us, vv_nil, vv_cons, RS.pk_nil, pk_one, RS.pk_cons, inr_eq, tDisp, tPairs, tBoolOwn, rBoolOwn, tBM, rAppend, ty_list, ty_str, rEqOwn, iEnumT, RS.tCallS, tM1, tDc_eq, tLock, tLockE, iKeys, tListEnum, rUpdate, tMkX0, tMkX1, tXfv, gSub, rSetL, List.getD_cons_zero, List.getD_cons_succ, tCMethS, ClX.tCVal, tXfa, tIxOwn, tInOwn, tPropG, tMethK, tMethP, tListGen, tDGet2, tDPop2, rNeD0, intA_i, intA_b, tRevL, sFldAug, tPm0, tPm1, tDIn, tDNotIn, tDNewK, RS.tMethS]
        exact ⟨m0, by omega⟩
      intro G2 e2
      subst e2
      walk_at "sx"
      exact q _ _ (Int.emod_nonneg _ (by omega)) (Int.emod_lt_of_pos _ m0) ⟨t + 1, r / m, ns, upd_same, by rw [upd_ne cla]; exact hc1, n0, n1, by omega, by omega⟩ (fr1.trans (Fr1.upd (by simp)))
    · rw [if_neg (by simpa using r0)]
      trivial
  intro G' e
  rw [e]; clear e G'
  refine mid_one [some (.ref a), some (.int m), none, some (.int (t + 1)), some (.ref cl), none] (fun G' => G' = G) ?_ ?_
  · simp only [dget_s ha1, n_tc, n_tr, tRet, tRetN, tSeq, C8.tCut, tNext, tAsg, gName, gNil, gCons, gTup, gFld, tIfS, tIf, tAndV, tOrV, tNotV, tAnd, tOr, tNot, tB, tTest, tOp, tUn, tCB, tCons, tNil, tVar, tC, tChain, tDrop, RS.tCallG, RS.tMethG, tMakeG, RS.tCallK, RS.tMakeK, tEqOwn, rI, rI0, rU, add_ii, add_ss, add_rr, mul_ii, mul_si, mul_ri, RS.eq_ii, RS.eq_ss, eq_bb, eq_nn, eq_sn, eq_ns, eq_in, eq_ni, eq_bn, eq_nb, eq_is, eq_si, eq_rr, ne_ii, ne_ss, ne_bb, ne_nn, ne_sn, ne_ns, ne_in, ne_ni, ne_is, ne_si, ne_rr, in_ss, in_r, nin_ss, nin_r, len_s, len_r, RS.ix_s, RS.ix_r, sl_s, sl_r, is_eq, tyN_n, tyN_b, tyN_i, tyN_s, tru_b, tru_i, tru_n, tSl, tPart, tNoPart, tPar, tPar3, tFmtZ, tFmt, tJs, tDGet, sDPut, sFld, tFld, tTup, tLst, tNever, isB,
  L2.start, List.map_cons, List.map_nil, List.length_cons, List.length_nil, Nat.reduceAdd, Nat.reduceSub, Nat.sub_self, List.replicate_zero, List.replicate_succ, List.append_nil, List.cons_append, List.nil_append, List.getElem?_cons_zero, List.getElem?_cons_succ, List.set_cons_zero, List.set_cons_succ, Option.some.injEq, exists_eq_left, exists_eq_left', exists_and_left, V.bl.injEq, V.int.injEq, V.str.injEq, V.ref.injEq, beq_self_eq_true, Bool.true_or, Bool.or_true, Bool.false_or, Bool.or_false, Bool.and_false, Bool.false_and, Bool.true_and, Bool.and_true, Bool.not_true, Bool.not_false, Bool.false_eq_true, if_true, if_false, ite_true, ite_false, true_and, and_true, and_assoc, String.reduceBEq, String.reduceEq, reduceIte, Bool.and_self, reduceCtorEq, false_and, and_false, exists_false, or_false, false_or, exists_const, iEnumS, iStr, iList, iTup, iRng1, iEnum, tFor_eq, tLc_eq, List.cons.injEq, wipe, not_true_eq_false, not_false_eq_true, upd_same, HO.ins.injEq, HO.tup.injEq, HO.lst.injEq, ofS_eq, lk_nil, lk_cons, pu_nil, pu_cons, sizeLine_eq, Nat.reduceLT, Nat.reduceLeDiff, Nat.reduceEqDiff, Nat.le_refl, decide_true, decide_false, tPr, dget_us, dput_us, vv_nil, vv_cons, RS.pk_nil, pk_one, RS.pk_cons, inr_eq, tDisp, tPairs, tBoolOwn, rBoolOwn, tBM, rAppend, ty_list, ty_str, rEqOwn, iEnumT, RS.tCallS, tM1, tDc_eq, tLock, tLockE, iKeys, tListEnum, rUpdate, tMkX0, tMkX1, tXfv, gSub, rSetL, List.getD_cons_zero, List.getD_cons_succ, tCMethS, ClX.tCVal, tXfa, tIxOwn, tInOwn, tPropG, tMethK, tMethP, tListGen, tDGet2, tDPop2, rNeD0, intA_i, intA_b, tRevL, sFldAug, tPm0, tPm1, tDIn, tDNotIn, tDNewK, RS.tMethS]
  intro G' e
  rw [e]; clear e G'
  refine mid_at (fun σ G' => ∃ x : Int, σ = [some (.ref a), some (.int m), none, some (.int (t + 1)), some (.ref cl), some (.int x)] ∧ G' = G) ?_ ?_
  · walk_at "sx"
    refine .inl ⟨ns.map V.int, .inl (SqL.of hc1), ?_⟩
    rw [List.length_map]
    refine ⟨by omega, _, .inl (SqL.of hc1), ?_⟩
    have h1 := Int.emod_lt_of_pos (t + 1) (b := (ns.length : Nat)) (by omega)
    have h2 := Int.emod_nonneg (t + 1) (b := (ns.length : Nat)) (by omega)
    have je : (t + 1) % (ns.length : Nat) = ((((t + 1) % (ns.length : Nat)).toNat : Nat) : Int) := (Int.toNat_of_nonneg h2).symm
    have jl : ((t + 1) % (ns.length : Nat)).toNat < ns.length := by omega
    rw [je]
    generalize ((t + 1) % (ns.length : Nat)).toNat = j at jl
    refine ⟨.int ns[j], atI_nat (by simp [jl]), .inl ⟨by decide, by decide⟩, ?_⟩
    rw [add_ii]
    exact ⟨_, rfl, by decide, .inl ⟨by decide, by decide⟩, .inr ⟨by omega, by omega⟩, rfl⟩
  rintro _ G' ⟨x, rfl, e⟩
  rw [e]; clear e G'
  refine mid_at (fun σ G' => ∃ x : Int, σ = [some (.ref a), some (.int m), none, some (.int (t + 1)), some (.ref cl), some (.int x)] ∧ G' = G ∧ 0 ≤ x ∧ x < 2147483629) ?_ ?_
  · walk_at "sx"
    exact ⟨by decide, .inr ⟨by omega, by omega⟩, by decide, Int.emod_nonneg _ (by decide), Int.emod_lt_of_pos _ (by decide)⟩
  rintro _ G' ⟨x, rfl, e, x0, x1⟩
  rw [e]; clear e G'
  walk_at "sx"
  exact ⟨.inl ⟨by omega, by omega⟩, by decide, ⟨by decide, by decide⟩, m0, q _ _ (Int.emod_nonneg _ (by omega)) (Int.emod_lt_of_pos _ m0) ⟨t + 1, r, ns, ha1, hc1, n0, n1, by omega, by omega⟩ fr1⟩
theorem sc_l_with : FnScope ["_law_pages", "_law_spot_here", "_law_what_here", "_law_found", "_law_one"] ["_law_pages", "_law_spot_here", "_law_what_here"] (defScope s_l_with) := ⟨rfl, rfl, rfl, by decide +kernel, rfl, by decide +kernel, by decide +kernel⟩
def sp_with : Sp := S3 fun z n t H Q _ => ∃ a kvs f m s, z = .ref a ∧ n = .int m ∧ t = .str s ∧ H a = some (.dK kvs) ∧ PR kvs f ∧ Fine f ∧ ∀ p H' kvs', Same H H' → H p = none → H' p = some (.dK kvs') → PR kvs' (setP f m s) → Q (.ref p) H'
theorem ok_with (F : Df g.K "_law_with" "_law_with" s_l_with fa fd .none) (T : Txt g) : FnG g 1 fa fd ["_law_pages", "_law_spot_here", "_law_what_here"] sp_with := by
  refine F.ok sc_l_with (fun vs H Q E h => S3.len h) (fun cdv A outer s H vs Q E hr h => ?_)
  obtain ⟨_, _, _, rfl, a, kvs, f, m, t, rfl, rfl, rfl, ha, pr, ff, q⟩ := h
  refine ⟨_, (pss_mid (ps_set (i := 3) sc_l_with.nd rfl (Or.inl rfl) (pe_callTy (call_dictP rfl) (by rfl) T.b_dict bb_dict (pa_cons (pe_lock (pe_lc (own := [("_law_one", 4)]) rfl sc_l_with.nd (pi_keys (pv 0)) (blkOk_by (own := [("_law_one", 4)]) (N := ["_law_pages", "_law_spot_here", "_law_what_here", "_law_found", "_law_one"]) (sc := defScope s_l_with) (by decide +kernel)) (fun _ _ _ _ _ => (pg_name (i := 4) sc_l_with.nd rfl (.inl rfl))) (fun _ _ _ _ _ => (pts_one (pt_cmpR (o_ne (K := g.K) (Rm.mk hr.room hr.gd)) (pv 4) (pv 1) (nomark _)))) (fun _ _ _ _ _ => (pe_tup (pa_cons (pv 4) (pa_cons (pe_dget (hu_of (Rm.mk hr.room hr.gd).room) (pv 0) (pv 4) (fun _ _ => rfl)) pa_nil)))))) pa_nil)))
      (pss_cons (ps_if (pt_cmpR (o_ne (K := g.K) hr) (pv 2) pe_str (nomark _)) (pss_one (ps_dput (hu_of hr.room) (pv 3) (pv 1) (pv 2) rfl)) pss_nil)
      (pss_one (ps_ret (pv 3))))), ?_⟩
  have lk := pr.len ff
  refine mid_at (fun σ G => ∃ p b, σ = [some (.ref a), some (.int m), some (.str t), some (.ref p), b] ∧ Same H G ∧ H p = none ∧ G p = some (.dK (dropK kvs (.inl m)))) ?_ ?_
  · walk_at "sx"
    refine ⟨a, _, ha, True.intro, fun od => ⟨od, .inl ⟨kvs, upd_same, ?_⟩⟩⟩
    refine lc_inv kvs.length (fun D i acc G => Same (upd H a (.frz od (.dK kvs))) G ∧ ∃ ps, acc = ps.map V.ref ∧ Paired (fun p kv => G p = some (.tup [kV kv.1, kv.2])) ps (dropK (kvs.take i) (.inl m))) (by rw [sizeLine_eq]; omega) (fun D hD => ⟨same_upd hD, [], rfl, .nil⟩) (fun D i acc G hD lt ⟨s, _⟩ => ⟨s _ _ upd_same, lt⟩) (fun D acc G hD ⟨s, _⟩ => ⟨s _ _ upd_same, Nat.le_refl _⟩) (fun D i acc G x G' K K0 hD lt la ⟨s, ps, ea, pp⟩ eD yl k1 k2 => ?_) (fun D acc G hD ⟨s, ps, ea, pp⟩ eD => ?_)
    · obtain ⟨rfl, k0, v0, hk, rfl⟩ := yl
      obtain ⟨n, e1, en⟩ := pr.key hk
      cases e1
      have eg : G' a = some (.frz od (.dK kvs)) := s _ _ upd_same
      have et : dropK (kvs.take (i + 1)) (.inl m) = dropK (kvs.take i) (.inl m) ++ (if n = m then [] else [(.inl n, .str (f n))]) := by
        unfold dropK
        rw [List.take_add_one, hk, Option.toList_some, List.filter_append]
        congr 1
        by_cases z : n = m <;> simp [z]
      refine ⟨rfl, ?_⟩
      simp only [kV, tRet, tRetN, tSeq, C8.tCut, tNext, tAsg, gName, gNil, gCons, gTup, gFld, tIfS, tIf, tAndV, tOrV, tNotV, tAnd, tOr, tNot, tB, tTest, tOp, tUn, tCB, tCons, tNil, tVar, tC, tChain, tDrop, RS.tCallG, RS.tMethG, tMakeG, RS.tCallK, RS.tMakeK, tEqOwn, rI, rI0, rU, add_ii, add_ss, add_rr, mul_ii, mul_si, mul_ri, RS.eq_ii, RS.eq_ss, eq_bb, eq_nn, eq_sn, eq_ns, eq_in, eq_ni, eq_bn, eq_nb, eq_is, eq_si, eq_rr, ne_ii, ne_ss, ne_bb, ne_nn, ne_sn, ne_ns, ne_in, ne_ni, ne_is, ne_si, ne_rr, in_ss, in_r, nin_ss, nin_r, len_s, len_r, RS.ix_s, RS.ix_r, sl_s, sl_r, is_eq, tyN_n, tyN_b, tyN_i, tyN_s, tru_b, tru_i, tru_n, tSl, tPart, tNoPart, tPar, tPar3, tFmtZ, tFmt, tJs, tDGet, sDPut, sFld, tFld, tTup, tLst, tNever, isB,
  L2.start, List.map_cons, List.map_nil, List.length_cons, List.length_nil, Nat.reduceAdd, Nat.reduceSub, Nat.sub_self, List.replicate_zero, List.replicate_succ, List.append_nil, List.cons_append, List.nil_append, List.getElem?_cons_zero, List.getElem?_cons_succ, List.set_cons_zero, List.set_cons_succ, Option.some.injEq, exists_eq_left, exists_eq_left', exists_and_left, V.bl.injEq, V.int.injEq, V.str.injEq, V.ref.injEq, beq_self_eq_true, Bool.true_or, Bool.or_true, Bool.false_or, Bool.or_false, Bool.and_false, Bool.false_and, Bool.true_and, Bool.and_true, Bool.not_true, Bool.not_false, Bool.false_eq_true, if_true, if_false, ite_true, ite_false, true_and, and_true, and_assoc, String.reduceBEq, String.reduceEq, reduceIte, Bool.and_self, reduceCtorEq, false_and, and_false, exists_false, or_false, false_or, exists_const, iEnumS, iStr, iList, iTup, iRng1, iEnum, tFor_eq, tLc_eq, List.cons.injEq, wipe, not_true_eq_false, not_false_eq_true, upd_same, HO.ins.injEq, HO.tup.injEq, HO.lst.injEq, ofS_eq, lk_nil, lk_cons, pu_nil, pu_cons, sizeLine_eq, Nat.reduceLT, Nat.reduceLeDiff, Nat.reduceEqDiff, Nat.le_refl, decide_true, decide_false, tPr, dget_us, dput_us, vv_nil, vv_cons, RS.pk_nil, pk_one, RS.pk_cons, inr_eq, tDisp, tPairs, tBoolOwn, rBoolOwn, tBM, rAppend, ty_list, ty_str, rEqOwn, iEnumT, RS.tCallS, tM1, tDc_eq, tLock, tLockE, iKeys, tListEnum, rUpdate, tMkX0, tMkX1, tXfv, gSub, rSetL, List.getD_cons_zero, List.getD_cons_succ, tCMethS, ClX.tCVal, tXfa, tIxOwn, tInOwn, tPropG, tMethK, tMethP, tListGen, tDGet2, tDPop2, rNeD0, intA_i, intA_b, tRevL, sFldAug, tPm0, tPm1, tDIn, tDNotIn, tDNewK, RS.tMethS]
      by_cases z : n = m
      · rw [if_neg (by simp [z])]
        refine k2 _ eD ⟨s, ps, ea, ?_⟩
        rw [et, if_pos z, List.append_nil]
        exact pp
      · rw [if_pos (by simpa using z)]
        refine ⟨.str (f n), .inl ⟨kvs, .inl n, .inr ⟨od, eg⟩, rfl, (valV_at pr.nd hk).symm⟩, fun T hT => ?_⟩
        have sT := same_upd (o := HO.tup [V.int n, .str (f n)]) hT
        have DT : T ≠ D := fun e => by rw [e, eD] at hT; cases hT
        refine k1 _ _ (sT _ _ eD) ⟨fun b o e => ?_, ps ++ [T], by simp [ea], ?_⟩
        · have bD : b ≠ D := fun z => by rw [z, hD] at e; cases e
          rw [upd_ne bD]
          exact sT _ _ (s _ _ e)
        · rw [et, if_neg z]
          refine pair_app (L2.Paired.mapP pp fun p kv h => ?_) (.cons ?_ .nil)
          · have pD : p ≠ D := fun z => by rw [z, eD] at h; cases h
            rw [upd_ne pD]
            exact sT _ _ h
          · rw [upd_ne DT]
            exact upd_same
    · have fl := fresh_lock hD
      have u1 := unlock ha s
      refine ⟨s _ _ upd_same, D, rfl, ps, SqL.of (by rw [upd_ne fl.1, eD, ea]), dropK kvs (.inl m), ?_, fun p hp => ⟨u1.trans (same_upd hp), none_of_same u1 hp, ?_⟩⟩
      · rw [List.take_length] at pp
        refine L2.Paired.mapP pp fun p kv h => SqT.of ?_
        have pa : p ≠ a := fun z => by rw [z, s _ _ upd_same] at h; cases h
        rw [upd_ne pa]
        exact h
      · rw [merge_new _ [] (by simpa using nodup_drop pr.nd), List.nil_append]
  rintro _ G ⟨p, b, rfl, sG, np, ep⟩
  walk_at "sx"
  by_cases e : t = nil_
  · rw [if_neg (by simp [e])]
    exact q p G _ sG np ep (by rw [e]; exact pr.drop m)
  · rw [if_pos (by simpa using e)]
    rw [dput_i ep]
    have := drop_len kvs (.inl m)
    refine ⟨by rw [sizeLine_eq]; omega, q p _ _ (fun c o z => by rw [upd_ne (ne_of_none z np)]; exact sG _ _ z) np upd_same ?_⟩
    have := ((pr.drop m).put m e).1
    rw [setP_twice] at this
    exact this
end


/-! the law's own pages and rows -/
/-- further keys of the law's dict -/
def ExN (ex : List (Key × V)) : Prop := ex.length ≤ 10 ∧ ∀ p ∈ ex, p.1 ≠ .inr (Str.ofString "sure") ∧ p.1 ≠ .inr (Str.ofString "rows") ∧ p.1 ≠ .inr (Str.ofString "pages")
theorem exN0 : ExN [] := ⟨by decide, by simp⟩
/-- what the law knows of a volume -/
structure MX (H : Hp) (μ a b c : Addr) (ka kc : List (Key × V)) (ws : List V) (sure : Pg) (rows : List Row) (pages : Pg) (ex : List (Key × V)) : Prop where
  hm : H μ = some (.dK ((.inr (Str.ofString "sure"), .ref a) :: (.inr (Str.ofString "rows"), .ref b) :: (.inr (Str.ofString "pages"), .ref c) :: ex))
  ha : H a = some (.dK ka)
  hb : H b = some (.lst ws)
  hc : H c = some (.dK kc)
  pa : PR ka sure
  pc : PR kc pages
  ra : RowsAt H ws rows
  fa : Fine sure
  fc : Fine pages
  rf : RowsF rows
  na : a ≠ μ
  nc : c ≠ μ
  hx : ExN ex
def M (H : Hp) (μ a b c : Addr) (sure : Pg) (rows : List Row) (pages : Pg) (ex : List (Key × V)) : Prop := ∃ ka kc ws, MX H μ a b c ka kc ws sure rows pages ex
def Nw (H : Hp) (xs ys : List Addr) : Prop := ∀ y ∈ ys, y ∈ xs ∨ H y = none
/-- m has changed -/
def ToM (H : Hp) (μ a b c : Addr) (sure' : Pg) (rows' : List Row) (pages' : Pg) (ex : List (Key × V)) (q : Hp → Prop) : Prop := ∀ a' b' c' H', M H' μ a' b' c' sure' rows' pages' ex → Nw H [a, b, c] [a', b', c'] → Fr1 [μ] H H' → q H'
theorem n_rs : ¬ ((Str.ofString "sure") = (Str.ofString "rows")) := by decide +kernel
theorem n_ps : ¬ ((Str.ofString "sure") = (Str.ofString "pages")) := by decide +kernel
theorem n_pr : ¬ ((Str.ofString "rows") = (Str.ofString "pages")) := by decide +kernel
theorem n_sr : ¬ ((Str.ofString "rows") = (Str.ofString "sure")) := by decide +kernel
theorem n_sp : ¬ ((Str.ofString "pages") = (Str.ofString "sure")) := by decide +kernel
theorem n_rp : ¬ ((Str.ofString "pages") = (Str.ofString "rows")) := by decide +kernel
theorem ex_id {ex : List (Key × V)} {k : Key} {v : V} (h : ∀ p ∈ ex, p.1 ≠ k) : ex.map (fun p => if p.1 = k then (p.1, v) else p) = ex := by
  refine (List.map_congr_left fun p hp => ?_).trans (List.map_id ex)
  rw [if_neg (h p hp)]; rfl
theorem put_sure {x y z v : V} {ex : List (Key × V)} (h : ExN ex) : putK ((.inr (Str.ofString "sure"), x) :: (.inr (Str.ofString "rows"), y) :: (.inr (Str.ofString "pages"), z) :: ex) (.inr (Str.ofString "sure")) v = ((.inr (Str.ofString "sure"), v) :: (.inr (Str.ofString "rows"), y) :: (.inr (Str.ofString "pages"), z) :: ex) := by
  have e := ex_id (v := v) fun p hp => (h.2 p hp).1
  simp [putK, n_sr, n_sp]
  simpa using e
theorem put_rows {x y z v : V} {ex : List (Key × V)} (h : ExN ex) : putK ((.inr (Str.ofString "sure"), x) :: (.inr (Str.ofString "rows"), y) :: (.inr (Str.ofString "pages"), z) :: ex) (.inr (Str.ofString "rows")) v = ((.inr (Str.ofString "sure"), x) :: (.inr (Str.ofString "rows"), v) :: (.inr (Str.ofString "pages"), z) :: ex) := by
  have e := ex_id (v := v) fun p hp => (h.2 p hp).2.1
  simp [putK, n_rs, n_rp]
  simpa using e
theorem put_pages {x y z v : V} {ex : List (Key × V)} (h : ExN ex) : putK ((.inr (Str.ofString "sure"), x) :: (.inr (Str.ofString "rows"), y) :: (.inr (Str.ofString "pages"), z) :: ex) (.inr (Str.ofString "pages")) v = ((.inr (Str.ofString "sure"), x) :: (.inr (Str.ofString "rows"), y) :: (.inr (Str.ofString "pages"), v) :: ex) := by
  have e := ex_id (v := v) fun p hp => (h.2 p hp).2.2
  simp [putK, n_ps, n_pr]
  simpa using e
theorem ex_sz {x y z : Key × V} {ex : List (Key × V)} (h : ExN ex) : (x :: y :: z :: ex).length < sizeLine := by
  have := h.1
  rw [sizeLine_eq]; simp; omega
theorem MX.nb {H : Hp} {μ a b c : Addr} {ka kc : List (Key × V)} {ws : List V} {sure : Pg} {rows : List Row} {pages : Pg} (h : MX H μ a b c ka kc ws sure rows pages ex) : b ≠ μ := fun z => by
  have h1 := h.hm; rw [← z, h.hb] at h1; cases h1
theorem MX.fr {H H' : Hp} {μ a b c : Addr} {ka kc : List (Key × V)} {ws : List V} {sure : Pg} {rows : List Row} {pages : Pg} {fp : List Addr} (h : MX H μ a b c ka kc ws sure rows pages ex) (s : FrT fp H H') (n : ∀ c ∈ fp, ∀ xs, H c ≠ some (.tup xs)) (d : ∀ x ∈ [μ, a, b, c], x ∉ fp) : MX H' μ a b c ka kc ws sure rows pages ex :=
  ⟨s _ _ (d _ (by simp)) (fun _ z => by cases z) h.hm, s _ _ (d _ (by simp)) (fun _ z => by cases z) h.ha, s _ _ (d _ (by simp)) (fun _ z => by cases z) h.hb, s _ _ (d _ (by simp)) (fun _ z => by cases z) h.hc, h.pa, h.pc, h.ra.frT s n, h.fa, h.fc, h.rf, h.na, h.nc, h.hx⟩
theorem M.fr {H H' : Hp} {μ a b c : Addr} {sure : Pg} {rows : List Row} {pages : Pg} {fp : List Addr} (h : M H μ a b c sure rows pages ex) (s : FrT fp H H') (n : ∀ c ∈ fp, ∀ xs, H c ≠ some (.tup xs)) (d : ∀ x ∈ [μ, a, b, c], x ∉ fp) : M H' μ a b c sure rows pages ex := by
  obtain ⟨ka, kc, ws, h⟩ := h
  exact ⟨ka, kc, ws, h.fr s n d⟩
theorem MX.same {H H' : Hp} {μ a b c : Addr} {ka kc : List (Key × V)} {ws : List V} {sure : Pg} {rows : List Row} {pages : Pg} (h : MX H μ a b c ka kc ws sure rows pages ex) (s : Same H H') : MX H' μ a b c ka kc ws sure rows pages ex := h.fr (fp := []) (FrT.of s) (by simp) (by simp)
theorem ok_rep {x : Str} (h : PyData.strOk x = true) (n : Nat) : PyData.strOk (repS x n) = true := by
  rw [str_S x] at h ⊢
  rw [rep_S]
  refine ok_S.mpr fun c hc => ?_
  obtain ⟨l, hl, hcl⟩ := List.mem_flatten.mp hc
  rw [(List.mem_replicate.mp hl).2] at hcl
  exact ok_S.mp h c hcl
theorem ix_mem {K : PySem.W.Frag} {H : Hp} {p : Addr} {xs : List V} {r : Int} {Q : VK} (h : H p = some (.lst xs)) (r0 : 0 ≤ r) (r1 : r < xs.length) (q : ∀ v ∈ xs, Q v H) : rIxU K (.ref p) (.int r) H Q := by
  obtain ⟨j, rfl⟩ := Int.eq_ofNat_of_zero_le r0
  have lt : j < xs.length := by omega
  rw [ix_r]
  exact ⟨xs, .inl (SqL.of h), xs[j], atI_nat (List.getElem?_eq_getElem lt), q _ (List.getElem_mem lt)⟩
theorem Src.same {H H' : Hp} {a cl : Addr} {N : Nat} (h : Src H a cl N) (s : Same H H') : Src H' a cl N := h.fr (fp := []) (FrT.of s) (by simp) (by simp)
theorem Src.at_ {H : Hp} {a cl : Addr} {N : Nat} (h : Src H a cl N) : ∃ o, H a = some o := by
  obtain ⟨t, r, ns, h1, _⟩ := h
  exact ⟨_, h1⟩
theorem Src.nw {H : Hp} {a cl p : Addr} {N : Nat} (h : Src H a cl N) (n : H p = none) : p ∉ [a] := fun z => by
  obtain ⟨o, e⟩ := h.at_
  rw [List.mem_singleton.mp z, e] at n; cases n
section
variable {g : Wd} {fa : Addr} {fd : FuncData} {C_Volume CN CT CB : Addr} {dV : Value}
theorem sc_l_spot : FnScope ["_law_source"] ["_law_source"] (defScope s_l_spot) := ⟨rfl, rfl, rfl, by decide +kernel, rfl, by decide +kernel, by decide +kernel⟩
def sp_spot : Sp := S1 fun z H Q _ => ∃ (a cl : Addr) (N : Nat), z = .ref a ∧ Src H a cl N ∧ N < 1000000 ∧ ∀ (r : Int) H', 0 ≤ r → r ≤ 9999999 → r ≠ 5 → Src H' a cl (N + 1) → Fr1 [a] H H' → Q (.int r) H'
theorem ok_spot (F : Df g.K "_law_spot" "_law_spot" s_l_spot fa fd .none) (T : Txt g) (F_l_pick : Kn g "_law_pick" 1 ["_law_source", "_law_many"] [] sp_pick) : FnG g 2 fa fd ["_law_source"] sp_spot := by
  refine F.ok sc_l_spot (fun vs H Q E h => S1.len h) (fun cdv A outer s H vs Q E hr h => ?_)
  obtain ⟨_, rfl, a, cl, N, rfl, hS, hN, q⟩ := h
  refine ⟨_, (pss_one (ps_ret (pe_ix (o_ix (K := g.K)) (pe_lst (pa_cons pe_int (pa_cons pe_int (pa_cons pe_int (pa_cons pe_int (pa_cons pe_int (pa_cons pe_int (pa_cons pe_int (pa_cons pe_int pa_nil))))))))) (pe_callG F_l_pick (hr.mono (by first | decide | omega)) tkD (pa_cons (pv 0) (pa_cons pe_int pa_nil))) (fun _ _ => rfl)))), ?_⟩
  walk_at "sx"
  intro p hp
  have sp := same_upd (o := HO.lst [V.int 0, V.int 1, V.int 2, V.int 3, V.int 4, V.int 6, V.int 9999999, V.int 2]) hp
  refine ⟨_, _, rfl, a, cl, N, 8, rfl, rfl, by decide, by decide, hS.same sp, hN, fun r H' r0 r1 S' fr => ix_mem (fr p _ (hS.nw hp) upd_same) r0 (by simpa using r1) fun v hv => ?_⟩
  have fr2 : Fr1 [a] H H' := (Fr1.of sp).trans fr
  simp only [List.mem_cons, List.not_mem_nil, or_false] at hv
  rcases hv with rfl | rfl | rfl | rfl | rfl | rfl | rfl | rfl <;> exact q _ H' (by decide) (by decide) (by decide) S' fr2
theorem sc_l_what : FnScope ["_law_source", "_law_size", "_law_pair"] ["_law_source"] (defScope s_l_what) := ⟨rfl, rfl, rfl, by decide +kernel, rfl, by decide +kernel, by decide +kernel⟩
def sp_what : Sp := S1 fun z H Q _ => ∃ (a cl : Addr) (N : Nat), z = .ref a ∧ Src H a cl N ∧ N < 999990 ∧ ∀ (t : Str) H', TOk t → t ≠ nil_ → Src H' a cl (N + 3) → Fr1 [a] H H' → Q (.str t) H'
theorem ok_what (F : Df g.K "_law_what" "_law_what" s_l_what fa fd .none) (T : Txt g) (F_l_pick : Kn g "_law_pick" 1 ["_law_source", "_law_many"] [] sp_pick) : FnG g 2 fa fd ["_law_source"] sp_what := by
  refine F.ok sc_l_what (fun vs H Q E h => S1.len h) (fun cdv A outer s H vs Q E hr h => ?_)
  obtain ⟨_, rfl, a, cl, N, rfl, hS, hN, q⟩ := h
  refine ⟨_, (pss_mid (ps_set (i := 1) sc_l_what.nd rfl (Or.inl rfl) (pe_ix (o_ix (K := g.K)) (pe_lst (pa_cons pe_int (pa_cons pe_int (pa_cons pe_int (pa_cons pe_int (pa_cons pe_int (pa_cons pe_int pa_nil))))))) (pe_callG F_l_pick (hr.mono (by first | decide | omega)) tkD (pa_cons (pv 0) (pa_cons pe_int pa_nil))) (fun _ _ => rfl)))
      (pss_mid (ps_set (i := 2) sc_l_what.nd rfl (Or.inl rfl) (pe_ix (o_ix (K := g.K)) (pe_lst (pa_cons pe_str (pa_cons pe_str (pa_cons pe_str (pa_cons pe_str (pa_cons pe_str (pa_cons pe_str (pa_cons pe_str (pa_cons pe_str pa_nil))))))))) (pe_callG F_l_pick (hr.mono (by first | decide | omega)) tkD (pa_cons (pv 0) (pa_cons pe_int pa_nil))) (fun _ _ => rfl)))
      (pss_mid (ps_set (i := 2) sc_l_what.nd rfl (Or.inl rfl) (pe_op (o_add (K := g.K)) (pv 2) (pe_ix (o_ix (K := g.K)) (pe_lst (pa_cons pe_str (pa_cons pe_str (pa_cons pe_str pa_nil)))) (pe_callG F_l_pick (hr.mono (by first | decide | omega)) tkD (pa_cons (pv 0) (pa_cons pe_int pa_nil))) (fun _ _ => rfl))))
      (pss_one (ps_ret (pe_slice (o_sl (K := g.K)) (pe_op o_mul (pv 2) pe_int) po_none (po_some (pv 1)))))))), ?_⟩
  refine mid_at (fun σ G => ∃ n : Nat, σ = [some (.ref a), some (.int (n : Nat)), none] ∧ 1 ≤ n ∧ n ≤ 64 ∧ Src G a cl (N + 1) ∧ Fr1 [a] H G) ?_ ?_
  · walk_at "sx"
    intro p hp
    have sp := same_upd (o := HO.lst [V.int 1, V.int 2, V.int 3, V.int 7, V.int 63, V.int 64]) hp
    refine ⟨_, _, rfl, a, cl, N, 6, rfl, rfl, by decide, by decide, hS.same sp, by omega, fun r H' r0 r1 S' fr => ix_mem (fr p _ (hS.nw hp) upd_same) r0 (by simpa using r1) fun v hv => ?_⟩
    have fr2 : Fr1 [a] H H' := (Fr1.of sp).trans fr
    simp only [List.mem_cons, List.not_mem_nil, or_false] at hv
    rcases hv with rfl | rfl | rfl | rfl | rfl | rfl
    · exact ⟨1, rfl, by decide, by decide, S', fr2⟩
    · exact ⟨2, rfl, by decide, by decide, S', fr2⟩
    · exact ⟨3, rfl, by decide, by decide, S', fr2⟩
    · exact ⟨7, rfl, by decide, by decide, S', fr2⟩
    · exact ⟨63, rfl, by decide, by decide, S', fr2⟩
    · exact ⟨64, rfl, by decide, by decide, S', fr2⟩
  rintro _ G ⟨n, rfl, n1, n2, S1, fr1⟩
  refine mid_at (fun σ G2 => ∃ x : Str, σ = [some (.ref a), some (.int (n : Nat)), some (.str x)] ∧ 1 ≤ x.length ∧ x.length ≤ 2 ∧ PyData.strOk x = true ∧ Src G2 a cl (N + 2) ∧ Fr1 [a] H G2) ?_ ?_
  · walk_at "sx"
    intro p hp
    have sp := same_upd (o := HO.lst [V.str (Str.ofString "a"), V.str (Str.ofString "W"), V.str (Str.ofString "0"), V.str (Str.ofString " "), V.str (Str.ofString "\n"), V.str (Str.ofString "~"), V.str (Str.ofString "ab"), V.str (Str.ofString ".!")]) hp
    refine ⟨_, _, rfl, a, cl, N + 1, 8, rfl, rfl, by decide, by decide, S1.same sp, by omega, fun r H' r0 r1 S' fr => ix_mem (fr p _ (S1.nw hp) upd_same) r0 (by simpa using r1) fun v hv => ?_⟩
    have fr2 : Fr1 [a] H H' := fr1.trans ((Fr1.of sp).trans fr)
    simp only [List.mem_cons, List.not_mem_nil, or_false] at hv
    rcases hv with rfl | rfl | rfl | rfl | rfl | rfl | rfl | rfl <;> exact ⟨_, rfl, by decide +kernel, by decide +kernel, by decide +kernel, S', fr2⟩
  rintro _ G2 ⟨x, rfl, x1, x2, xo, S2, fr2⟩
  refine mid_at (fun σ G3 => ∃ x : Str, σ = [some (.ref a), some (.int (n : Nat)), some (.str x)] ∧ 1 ≤ x.length ∧ x.length ≤ 3 ∧ PyData.strOk x = true ∧ Src G3 a cl (N + 3) ∧ Fr1 [a] H G3) ?_ ?_
  · walk_at "sx"
    intro p hp
    have sp := same_upd (o := HO.lst [V.str (Str.ofString "x"), V.str (Str.ofString "1"), V.str (Str.ofString ".")]) hp
    refine ⟨_, _, rfl, a, cl, N + 2, 3, rfl, rfl, by decide, by decide, S2.same sp, by omega, fun r H' r0 r1 S' fr => ix_mem (fr p _ (S2.nw hp) upd_same) r0 (by simpa using r1) fun v hv => ?_⟩
    have fr3 : Fr1 [a] H H' := fr2.trans ((Fr1.of sp).trans fr)
    have fin : ∀ y : Str, y.length = 1 → PyData.strOk y = true → RS.rAdd g.K (.str x) (.str y) H' fun v H'' => ∃ z : Str, v = .str z ∧ 1 ≤ z.length ∧ z.length ≤ 3 ∧ PyData.strOk z = true ∧ Src H'' a cl (N + 3) ∧ Fr1 [a] H H'' := fun y hy yo => by
      rw [add_ss]
      have := len_app x y
      exact ⟨by rw [sizeLine_eq]; omega, _, rfl, by omega, by omega, ok_app xo yo, S', fr3⟩
    simp only [List.mem_cons, List.not_mem_nil, or_false] at hv
    rcases hv with rfl | rfl | rfl
    · exact fin _ (by decide +kernel) (by decide +kernel)
    · exact fin _ (by decide +kernel) (by decide +kernel)
    · exact fin _ (by decide +kernel) (by decide +kernel)
  rintro _ G3 ⟨x, rfl, x1, x2, xo, S3, fr3⟩
  walk_at "sx"
  have l64 : (repS x 64).length = x.length * 64 := by rw [rep_len]; omega
  have cl := cutT_len (repS x 64) n
  unfold cutT at cl
  refine ⟨by decide, by decide, by simp; omega, ?_⟩
  show _ ∧ _
  refine ⟨by rw [show ((64 : Int).toNat) = 64 from rfl, l64]; omega, q _ _ ⟨by rw [show ((64 : Int).toNat) = 64 from rfl]; omega, ok_cutT (ok_rep xo _) n⟩ (fun z => ?_) S3 fr3⟩
  rw [show ((64 : Int).toNat) = 64 from rfl] at z
  rw [z] at cl
  have : nil_.length = 0 := by decide +kernel
  omega
theorem sc_l_begun : FnScope [] [] (defScope s_l_begun) := ⟨rfl, rfl, rfl, by decide +kernel, rfl, by decide +kernel, by decide +kernel⟩
def sp_begun : Sp := S0 fun H Q _ => ∀ μ a b c H', M H' μ a b c (fun _ => nil_) [] (fun _ => nil_) [] → (∀ x ∈ [μ, a, b, c], H x = none) → Same H H' → Q (.ref μ) H'
theorem ok_begun (F : Df g.K "_law_begun" "_law_begun" s_l_begun fa fd .none) (T : Txt g) : FnG g 1 fa fd [] sp_begun := by
  refine F.ok sc_l_begun (fun vs H Q E h => S0.len h) (fun cdv A outer s H vs Q E hr h => ?_)
  obtain ⟨rfl, q⟩ := h
  refine ⟨_, (pss_one (ps_ret (pe_disp (pps_cons pe_str pe_dnewK (pps_cons pe_str (pe_lst pa_nil) (pps_cons pe_str pe_dnewK pps_nil))) (by rfl) (by rfl) (fun z => by cases z) (by decide)))), ?_⟩
  walk_at "sx"
  intro μ hμ a ha b hb c hc
  obtain ⟨aμ, ha⟩ := fresh_lock ha
  obtain ⟨ba, hb⟩ := fresh_lock hb
  obtain ⟨bμ, hb⟩ := fresh_lock hb
  obtain ⟨cb, hc⟩ := fresh_lock hc
  obtain ⟨ca, hc⟩ := fresh_lock hc
  obtain ⟨cμ, hc⟩ := fresh_lock hc
  refine ⟨by rw [upd_ne (Ne.symm cμ), upd_ne (Ne.symm bμ), upd_ne (Ne.symm aμ), upd_same], [(.inr (Str.ofString "sure"), .ref a), (.inr (Str.ofString "rows"), .ref b), (.inr (Str.ofString "pages"), .ref c)], rfl, by simp, ?_⟩
  rw [merge_new _ [] (by simp [n_rs, n_ps, n_pr]), List.nil_append]
  refine q μ a b c _ ⟨[], [], [], upd_same, ?_, ?_, ?_, PR.nil, PR.nil, RowsAt.nil, fine0, fine0, rowsF0, aμ, cμ, exN0⟩ ?_ ?_
  · rw [upd_ne aμ, upd_ne (Ne.symm ca), upd_ne (Ne.symm ba), upd_same]
  · rw [upd_ne bμ, upd_ne (Ne.symm cb), upd_same]
  · rw [upd_ne cμ, upd_same]
  · simp only [List.mem_cons, List.not_mem_nil, or_false]
    rintro x (rfl | rfl | rfl | rfl)
    · exact hμ
    · exact ha
    · exact hb
    · exact hc
  · intro x o e
    rw [upd_ne (ne_of_none e hμ), upd_ne (ne_of_none e hc), upd_ne (ne_of_none e hb), upd_ne (ne_of_none e ha), upd_ne (ne_of_none e hμ)]
    exact e
theorem sc_l_sure : FnScope ["_law_m", "_law_pages"] ["_law_m", "_law_pages"] (defScope s_l_sure) := ⟨rfl, rfl, rfl, by decide +kernel, rfl, by decide +kernel, by decide +kernel⟩
def sp_sure : Sp := S2 fun z x H Q _ => ∃ μ a b c s rs ps ex p kp f, z = .ref μ ∧ x = .ref p ∧ M H μ a b c s rs ps ex ∧ H p = some (.dK kp) ∧ p ≠ μ ∧ PR kp f ∧ Fine f ∧ ∀ b' H', M H' μ p b' p f [] f ex → H b' = none → Fr1 [μ] H H' → Q .non H'
theorem ok_sure (F : Df g.K "_law_sure" "_law_sure" s_l_sure fa fd .none) (T : Txt g) : FnG g 1 fa fd ["_law_m", "_law_pages"] sp_sure := by
  refine F.ok sc_l_sure (fun vs H Q E h => S2.len h) (fun cdv A outer s H vs Q E hr h => ?_)
  obtain ⟨_, _, rfl, μ, a, b, c, su, rs, ps, ex, p, kp, f, rfl, rfl, ⟨ka, kc, ws, hm⟩, hp, pm, pr, ff, q⟩ := h
  refine ⟨_, (pss_cons (ps_dput (hu_of hr.room) (pv 0) pe_str (pv 1) rfl)
      (pss_cons (ps_dput (hu_of hr.room) (pv 0) pe_str (pe_lst pa_nil) rfl)
      (pss_one (ps_dput (hu_of hr.room) (pv 0) pe_str (pv 1) rfl)))), ?_⟩
  have h1 := hm.hm
  simp only [dput_s h1, put_sure hm.hx, tRet, tRetN, tSeq, C8.tCut, tNext, tAsg, gName, gNil, gCons, gTup, gFld, tIfS, tIf, tAndV, tOrV, tNotV, tAnd, tOr, tNot, tB, tTest, tOp, tUn, tCB, tCons, tNil, tVar, tC, tChain, tDrop, RS.tCallG, RS.tMethG, tMakeG, RS.tCallK, RS.tMakeK, tEqOwn, rI, rI0, rU, add_ii, add_ss, add_rr, mul_ii, mul_si, mul_ri, RS.eq_ii, RS.eq_ss, eq_bb, eq_nn, eq_sn, eq_ns, eq_in, eq_ni, eq_bn, eq_nb, eq_is, eq_si, eq_rr, ne_ii, ne_ss, ne_bb, ne_nn, ne_sn, ne_ns, ne_in, ne_ni, ne_is, ne_si, ne_rr, in_ss, in_r, nin_ss, nin_r, len_s, len_r, RS.ix_s, RS.ix_r, sl_s, sl_r, is_eq, tyN_n, tyN_b, tyN_i, tyN_s, tru_b, tru_i, tru_n, tSl, tPart, tNoPart, tPar, tPar3, tFmtZ, tFmt, tJs, tDGet, sDPut, sFld, tFld, tTup, tLst, tNever, isB,
  L2.start, List.map_cons, List.map_nil, List.length_cons, List.length_nil, Nat.reduceAdd, Nat.reduceSub, Nat.sub_self, List.replicate_zero, List.replicate_succ, List.append_nil, List.cons_append, List.nil_append, List.getElem?_cons_zero, List.getElem?_cons_succ, List.set_cons_zero, List.set_cons_succ, Option.some.injEq, exists_eq_left, exists_eq_left', exists_and_left, V.bl.injEq, V.int.injEq, V.str.injEq, V.ref.injEq, beq_self_eq_true, Bool.true_or, Bool.or_true, Bool.false_or, Bool.or_false, Bool.and_false, Bool.false_and, Bool.true_and, Bool.and_true, Bool.not_true, Bool.not_false, Bool.false_eq_true, if_true, if_false, ite_true, ite_false, true_and, and_true, and_assoc, String.reduceBEq, String.reduceEq, reduceIte, Bool.and_self, reduceCtorEq, false_and, and_false, exists_false, or_false, false_or, exists_const, iEnumS, iStr, iList, iTup, iRng1, iEnum, tFor_eq, tLc_eq, List.cons.injEq, wipe, not_true_eq_false, not_false_eq_true, upd_same, HO.ins.injEq, HO.tup.injEq, HO.lst.injEq, ofS_eq, lk_nil, lk_cons, pu_nil, pu_cons, sizeLine_eq, Nat.reduceLT, Nat.reduceLeDiff, Nat.reduceEqDiff, Nat.le_refl, decide_true, decide_false, tPr, dget_us, dput_us, vv_nil, vv_cons, RS.pk_nil, pk_one, RS.pk_cons, inr_eq, tDisp, tPairs, tBoolOwn, rBoolOwn, tBM, rAppend, ty_list, ty_str, rEqOwn, iEnumT, RS.tCallS, tM1, tDc_eq, tLock, tLockE, iKeys, tListEnum, rUpdate, tMkX0, tMkX1, tXfv, gSub, rSetL, List.getD_cons_zero, List.getD_cons_succ, tCMethS, ClX.tCVal, tXfa, tIxOwn, tInOwn, tPropG, tMethK, tMethP, tListGen, tDGet2, tDPop2, rNeD0, intA_i, intA_b, tRevL, sFldAug, tPm0, tPm1, tDIn, tDNotIn, tDNewK, RS.tMethS]
  refine ⟨by have := hm.hx.1; omega, fun b' hb => ?_⟩
  obtain ⟨bμ, hb⟩ := fresh_lock hb
  have e1 : upd (upd H μ (.dK ((.inr (Str.ofString "sure"), .ref p) :: (.inr (Str.ofString "rows"), .ref b) :: (.inr (Str.ofString "pages"), .ref c) :: ex))) b' (.lst []) μ = some (.dK ((.inr (Str.ofString "sure"), .ref p) :: (.inr (Str.ofString "rows"), .ref b) :: (.inr (Str.ofString "pages"), .ref c) :: ex)) := by
    rw [upd_ne (Ne.symm bμ), upd_same]
  rw [dput_s e1, put_rows hm.hx, dput_us, put_pages hm.hx]
  refine ⟨ex_sz hm.hx, ex_sz hm.hx, ?_⟩
  refine q b' _ ⟨kp, kp, [], upd_same, ?_, ?_, ?_, pr, pr, RowsAt.nil, ff, ff, rowsF0, pm, pm, hm.hx⟩ hb ?_
  · rw [upd_ne pm, upd_ne pm, upd_ne (ne_of_none hp hb), upd_ne pm]; exact hp
  · rw [upd_ne bμ, upd_ne bμ, upd_same]
  · rw [upd_ne pm, upd_ne pm, upd_ne (ne_of_none hp hb), upd_ne pm]; exact hp
  · intro x o hx e
    have xm : x ≠ μ := by simpa using hx
    rw [upd_ne xm, upd_ne xm, upd_ne (ne_of_none e hb), upd_ne xm]; exact e
theorem sc_l_noted : FnScope ["_law_m", "_law_spot_here", "_law_what_here"] ["_law_m", "_law_spot_here", "_law_what_here"] (defScope s_l_noted) := ⟨rfl, rfl, rfl, by decide +kernel, rfl, by decide +kernel, by decide +kernel⟩
def sp_noted : Sp := S3 fun z x y H Q _ => ∃ μ a b c s rs ps ex m t, z = .ref μ ∧ x = .int m ∧ y = .str t ∧ M H μ a b c s rs ps ex ∧ 0 ≤ m ∧ m < 10000000 ∧ TOk t ∧ rs.length ≤ 999 ∧ ToM H μ a b c s (rs ++ [(m, ps m, t)]) (setP ps m t) ex fun H' => Q .non H'
theorem ok_noted (F : Df g.K "_law_noted" "_law_noted" s_l_noted fa fd .none) (T : Txt g) (F_l_with : Kn g "_law_with" 1 ["_law_pages", "_law_spot_here", "_law_what_here"] [] sp_with) : FnG g 2 fa fd ["_law_m", "_law_spot_here", "_law_what_here"] sp_noted := by
  refine F.ok sc_l_noted (fun vs H Q E h => S3.len h) (fun cdv A outer s H vs Q E hr h => ?_)
  obtain ⟨_, _, _, rfl, μ, a, b, c, su, rs, ps, ex, m, t, rfl, rfl, rfl, ⟨ka, kc, ws, hm⟩, m0, m1, tl, rl, q⟩ := h
  refine ⟨_, (pss_mid (ps_dput (hu_of hr.room) (pv 0) pe_str (pe_op (o_add (K := g.K)) (pe_dget (hu_of hr.room) (pv 0) pe_str (fun _ _ => rfl)) (pe_lst (pa_cons (pe_tup (pa_cons (pv 1) (pa_cons (e_get2 (hu_of hr.room) (pe_dget (hu_of hr.room) (pv 0) pe_str (fun _ _ => rfl)) (pv 1) pe_str) (pa_cons (pv 2) pa_nil)))) pa_nil))) rfl)
      (pss_one (ps_dput (hu_of hr.room) (pv 0) pe_str (pe_callG F_l_with (hr.mono (by first | decide | omega)) tkD (pa_cons (pe_dget (hu_of hr.room) (pv 0) pe_str (fun _ _ => rfl)) (pa_cons (pv 1) (pa_cons (pv 2) pa_nil)))) rfl))), ?_⟩
  have h1 := hm.hm
  refine mid_at (fun σ G => ∃ b' ws', σ = [some (.ref μ), some (.int m), some (.str t)] ∧ MX G μ a b' c ka kc ws' su (rs ++ [(m, ps m, t)]) ps ex ∧ H b' = none ∧ Fr1 [μ] H G) ?_ ?_
  · simp only [dget_s h1, n_rs, n_ps, n_pr, n_sr, n_sp, n_rp, tRet, tRetN, tSeq, C8.tCut, tNext, tAsg, gName, gNil, gCons, gTup, gFld, tIfS, tIf, tAndV, tOrV, tNotV, tAnd, tOr, tNot, tB, tTest, tOp, tUn, tCB, tCons, tNil, tVar, tC, tChain, tDrop, RS.tCallG, RS.tMethG, tMakeG, RS.tCallK, RS.tMakeK, tEqOwn, rI, rI0, rU, add_ii, add_ss, add_rr, mul_ii, mul_si, mul_ri, RS.eq_ii, RS.eq_ss, eq_bb, eq_nn, eq_sn, eq_ns, eq_in, eq_ni, eq_bn, eq_nb, eq_is, eq_si, eq_rr, ne_ii, ne_ss, ne_bb, ne_nn, ne_sn, ne_ns, ne_in, ne_ni, ne_is, ne_si, ne_rr, in_ss, in_r, nin_ss, nin_r, len_s, len_r, RS.ix_s, RS.ix_r, sl_s, sl_r, is_eq, tyN_n, tyN_b, tyN_i, tyN_s, tru_b, tru_i, tru_n, tSl, tPart, tNoPart, tPar, tPar3, tFmtZ, tFmt, tJs, tDGet, sDPut, sFld, tFld, tTup, tLst, tNever, isB,
  L2.start, List.map_cons, List.map_nil, List.length_cons, List.length_nil, Nat.reduceAdd, Nat.reduceSub, Nat.sub_self, List.replicate_zero, List.replicate_succ, List.append_nil, List.cons_append, List.nil_append, List.getElem?_cons_zero, List.getElem?_cons_succ, List.set_cons_zero, List.set_cons_succ, Option.some.injEq, exists_eq_left, exists_eq_left', exists_and_left, V.bl.injEq, V.int.injEq, V.str.injEq, V.ref.injEq, beq_self_eq_true, Bool.true_or, Bool.or_true, Bool.false_or, Bool.or_false, Bool.and_false, Bool.false_and, Bool.true_and, Bool.and_true, Bool.not_true, Bool.not_false, Bool.false_eq_true, if_true, if_false, ite_true, ite_false, true_and, and_true, and_assoc, String.reduceBEq, String.reduceEq, reduceIte, Bool.and_self, reduceCtorEq, false_and, and_false, exists_false, or_false, false_or, exists_const, iEnumS, iStr, iList, iTup, iRng1, iEnum, tFor_eq, tLc_eq, List.cons.injEq, wipe, not_true_eq_false, not_false_eq_true, upd_same, HO.ins.injEq, HO.tup.injEq, HO.lst.injEq, ofS_eq, lk_nil, lk_cons, pu_nil, pu_cons, sizeLine_eq, Nat.reduceLT, Nat.reduceLeDiff, Nat.reduceEqDiff, Nat.le_refl, decide_true, decide_false, tPr, dget_us, dput_us, vv_nil, vv_cons, RS.pk_nil, pk_one, RS.pk_cons, inr_eq, tDisp, tPairs, tBoolOwn, rBoolOwn, tBM, rAppend, ty_list, ty_str, rEqOwn, iEnumT, RS.tCallS, tM1, tDc_eq, tLock, tLockE, iKeys, tListEnum, rUpdate, tMkX0, tMkX1, tXfv, gSub, rSetL, List.getD_cons_zero, List.getD_cons_succ, tCMethS, ClX.tCVal, tXfa, tIxOwn, tInOwn, tPropG, tMethK, tMethP, tListGen, tDGet2, tDPop2, rNeD0, intA_i, intA_b, tRevL, sFldAug, tPm0, tPm1, tDIn, tDNotIn, tDNewK, RS.tMethS]
    refine ⟨isd hm.hc, _, (by rw [dget_i hm.hc]), fun T hT L hL => ?_⟩
    rw [show Str.ofString "" = nil_ from rfl, hm.pc.getD] at *
    have sT := same_upd (o := HO.tup [V.int m, .str (ps m), .str t]) hT
    have eT : upd H T (.tup [V.int m, .str (ps m), .str t]) T = some (.tup [V.int m, .str (ps m), .str t]) := upd_same
    generalize upd H T (.tup [V.int m, .str (ps m), .str t]) = G at sT eT hL ⊢
    have sL := same_upd (o := HO.lst [V.ref T]) hL
    have eL : upd G L (.lst [V.ref T]) L = some (.lst [V.ref T]) := upd_same
    generalize upd G L (.lst [V.ref T]) = G1 at sL eL ⊢
    have s1 := sT.trans sL
    have lw := hm.ra.1
    refine .inl ⟨b, L, ws, [.ref T], rfl, rfl, s1 _ _ hm.hb, eL, by rw [sizeLine_eq]; simp; omega, fun p hp => ?_⟩
    have sp := same_upd (o := HO.lst (ws ++ [.ref T])) hp
    have ep : upd G1 p (.lst (ws ++ [.ref T])) p = some (.lst (ws ++ [.ref T])) := upd_same
    generalize upd G1 p (.lst (ws ++ [.ref T])) = G2 at sp ep ⊢
    have s2 := s1.trans sp
    have hm2 := hm.same s2
    simp only [dput_s hm2.hm, put_rows hm.hx]
    have pμ : p ≠ μ := fun z => by rw [z, s1 _ _ h1] at hp; cases hp
    refine ⟨ex_sz hm.hx, p, ws ++ [.ref T], ⟨upd_same, ?_, ?_, ?_, hm.pa, hm.pc, ?_, hm.fa, hm.fc, hm.rf.snoc ⟨m0, m1, hm.fc.len m, tl⟩, hm.na, hm.nc, hm.hx⟩, none_of_same s1 hp, (Fr1.of s2).trans (Fr1.upd (by simp))⟩
    · rw [upd_ne hm.na]; exact hm2.ha
    · rw [upd_ne pμ]; exact ep
    · rw [upd_ne hm.nc]; exact hm2.hc
    · refine (hm2.ra.fr (fp := [μ]) (Fr1.upd (by simp)) ?_).snoc ?_
      · intro x hx xs z
        rw [List.mem_singleton.mp hx, hm2.hm] at z; cases z
      · rw [upd_ne (fun z => by rw [z, h1] at hT; cases hT)]
        exact sp _ _ (sL _ _ eT)
  rintro _ G ⟨b', ws', rfl, hg, nb, fr⟩
  simp only [dget_s hg.hm, n_rs, n_ps, n_pr, n_sr, n_sp, n_rp, tRet, tRetN, tSeq, C8.tCut, tNext, tAsg, gName, gNil, gCons, gTup, gFld, tIfS, tIf, tAndV, tOrV, tNotV, tAnd, tOr, tNot, tB, tTest, tOp, tUn, tCB, tCons, tNil, tVar, tC, tChain, tDrop, RS.tCallG, RS.tMethG, tMakeG, RS.tCallK, RS.tMakeK, tEqOwn, rI, rI0, rU, add_ii, add_ss, add_rr, mul_ii, mul_si, mul_ri, RS.eq_ii, RS.eq_ss, eq_bb, eq_nn, eq_sn, eq_ns, eq_in, eq_ni, eq_bn, eq_nb, eq_is, eq_si, eq_rr, ne_ii, ne_ss, ne_bb, ne_nn, ne_sn, ne_ns, ne_in, ne_ni, ne_is, ne_si, ne_rr, in_ss, in_r, nin_ss, nin_r, len_s, len_r, RS.ix_s, RS.ix_r, sl_s, sl_r, is_eq, tyN_n, tyN_b, tyN_i, tyN_s, tru_b, tru_i, tru_n, tSl, tPart, tNoPart, tPar, tPar3, tFmtZ, tFmt, tJs, tDGet, sDPut, sFld, tFld, tTup, tLst, tNever, isB,
  L2.start, List.map_cons, List.map_nil, List.length_cons, List.length_nil, Nat.reduceAdd, Nat.reduceSub, Nat.sub_self, List.replicate_zero, List.replicate_succ, List.append_nil, List.cons_append, List.nil_append, List.getElem?_cons_zero, List.getElem?_cons_succ, List.set_cons_zero, List.set_cons_succ, Option.some.injEq, exists_eq_left, exists_eq_left', exists_and_left, V.bl.injEq, V.int.injEq, V.str.injEq, V.ref.injEq, beq_self_eq_true, Bool.true_or, Bool.or_true, Bool.false_or, Bool.or_false, Bool.and_false, Bool.false_and, Bool.true_and, Bool.and_true, Bool.not_true, Bool.not_false, Bool.false_eq_true, if_true, if_false, ite_true, ite_false, true_and, and_true, and_assoc, String.reduceBEq, String.reduceEq, reduceIte, Bool.and_self, reduceCtorEq, false_and, and_false, exists_false, or_false, false_or, exists_const, iEnumS, iStr, iList, iTup, iRng1, iEnum, tFor_eq, tLc_eq, List.cons.injEq, wipe, not_true_eq_false, not_false_eq_true, upd_same, HO.ins.injEq, HO.tup.injEq, HO.lst.injEq, ofS_eq, lk_nil, lk_cons, pu_nil, pu_cons, sizeLine_eq, Nat.reduceLT, Nat.reduceLeDiff, Nat.reduceEqDiff, Nat.le_refl, decide_true, decide_false, tPr, dget_us, dput_us, vv_nil, vv_cons, RS.pk_nil, pk_one, RS.pk_cons, inr_eq, tDisp, tPairs, tBoolOwn, rBoolOwn, tBM, rAppend, ty_list, ty_str, rEqOwn, iEnumT, RS.tCallS, tM1, tDc_eq, tLock, tLockE, iKeys, tListEnum, rUpdate, tMkX0, tMkX1, tXfv, gSub, rSetL, List.getD_cons_zero, List.getD_cons_succ, tCMethS, ClX.tCVal, tXfa, tIxOwn, tInOwn, tPropG, tMethK, tMethP, tListGen, tDGet2, tDPop2, rNeD0, intA_i, intA_b, tRevL, sFldAug, tPm0, tPm1, tDIn, tDNotIn, tDNewK, RS.tMethS]
  refine ⟨_, _, _, rfl, c, kc, ps, m, t, rfl, rfl, rfl, hg.hc, hg.pc, hg.fc, fun p G2 k2 s2 np ep p2 => ?_⟩
  have hg2 := hg.same s2
  simp only [dput_s hg2.hm, put_pages hg.hx]
  have pμ : p ≠ μ := fun z => by rw [z, hg.hm] at np; cases np
  have fr2 : Fr1 [μ] H (upd G2 μ (.dK ((.inr (Str.ofString "sure"), .ref a) :: (.inr (Str.ofString "rows"), .ref b') :: (.inr (Str.ofString "pages"), .ref p) :: ex))) := (fr.trans (Fr1.of s2)).trans (Fr1.upd (by simp))
  refine ⟨ex_sz hg.hx, q a b' p _ ⟨ka, k2, ws', upd_same, ?_, ?_, ?_, hg.pa, p2, ?_, hg.fa, hg.fc.set (fun _ => ⟨m0, m1⟩) tl, hg.rf, hg.na, pμ, hg.hx⟩ ?_ fr2⟩
  · rw [upd_ne hg.na]; exact hg2.ha
  · rw [upd_ne hg.nb]; exact hg2.hb
  · rw [upd_ne pμ]; exact ep
  · refine hg2.ra.fr (fp := [μ]) (Fr1.upd (by simp)) ?_
    intro x hx xs z
    rw [List.mem_singleton.mp hx, hg2.hm] at z; cases z
  · intro x hx
    simp only [List.mem_cons, List.not_mem_nil, or_false] at hx
    rcases hx with rfl | rfl | rfl
    · exact .inl (by simp)
    · exact .inr nb
    · refine .inr (fr.none (fun c hc z => ?_) np)
      rw [List.mem_singleton.mp hc, hg.hm] at z; cases z
/-- what a crash leaves, the law's way -/
def lleft (f : Pg) (rows : List Row) (k t : Nat) : Pg :=
  match rows[k]? with
  | some r => if t = 0 then fwd f (rows.take k) else setP (fwd f (rows.take k)) r.1 (cutT r.2.2 t)
  | none => fwd f (rows.take k)
def sp_left : Sp := S3 fun z x y H Q _ => ∃ μ a b c s rs ps ex k t, z = .ref μ ∧ x = .int (k : Nat) ∧ y = .int (t : Nat) ∧ M H μ a b c s rs ps ex ∧ k ≤ rs.length ∧ rs.length ≤ 1000 ∧ ∀ p kp H', H' p = some (.dK kp) → PR kp (lleft s rs k t) → (p = a ∨ H p = none) → Same H H' → Q (.ref p) H'
end


/-! the law looks at a volume -/
theorem eqv_ints : ∀ ns : List Int, PyData.eqvAll (ns.map PyData.int) (ns.map PyData.int) = true
  | [] => rfl
  | b :: bs => by
    have h := eqv_ints bs
    simp [PyData.eqvAll, PyData.eqv, h]
theorem ne_ints {K : PySem.W.Frag} {H : Hp} {Q : VK} {a p : Addr} (ns : List Int) (h : SqL K H a (ns.map V.int)) (hp : SqL K H p (ns.map V.int)) (q : Q (.bl false) H) : rNeD K (.ref a) (.ref p) H Q := by
  refine ⟨.list (ns.map PyData.int), .list (ns.map PyData.int), .lst h (dp_ints ns), .lst hp (dp_ints ns), shaped_ints ns, shaped_ints ns, ?_⟩
  have e : PyData.eqv (.list (ns.map PyData.int)) (.list (ns.map PyData.int)) = true := by simp only [PyData.eqv]; exact eqv_ints ns
  rw [e]; exact q
theorem dp_strs {K : PySem.W.Frag} {H : Hp} : ∀ bs : List Str, DpAll K H (bs.map V.str) (bs.map PyData.str)
  | [] => .nil
  | b :: bs => .cons (.str b) (dp_strs bs)
theorem lay_strs : ∀ bs : List Str, (∀ b ∈ bs, PyData.strOk b = true) → PyData.canLayAll0 (bs.map PyData.str) = true ∧ PyData.depthAll (bs.map PyData.str) = 0
  | [], _ => ⟨rfl, rfl⟩
  | b :: bs, hb => by
    have h := lay_strs bs fun x hx => hb x (List.mem_cons_of_mem _ hx)
    simp [PyData.canLayAll0, PyData.canLay0, PyData.depthAll, PyData.depth, h, hb b (List.mem_cons_self ..)]
theorem eqv_strs : ∀ bs : List Str, PyData.eqvAll (bs.map PyData.str) (bs.map PyData.str) = true
  | [] => rfl
  | b :: bs => by
    have h := eqv_strs bs
    simp [PyData.eqvAll, PyData.eqv, h]
theorem ne_strs {K : PySem.W.Frag} {H : Hp} {Q : VK} {a p : Addr} (bs : List Str) (ok : ∀ b ∈ bs, PyData.strOk b = true) (h : SqL K H a (bs.map V.str)) (hp : SqL K H p (bs.map V.str)) (q : Q (.bl false) H) : rNeD K (.ref a) (.ref p) H Q := by
  have sh : SeqAt.shaped (.list (bs.map PyData.str)) = true := by
    have h := lay_strs bs ok
    simp [SeqAt.shaped, PyData.canLay0, PyData.depth, h]
  refine ⟨.list (bs.map PyData.str), .list (bs.map PyData.str), .lst h (dp_strs bs), .lst hp (dp_strs bs), sh, sh, ?_⟩
  have e : PyData.eqv (.list (bs.map PyData.str)) (.list (bs.map PyData.str)) = true := by simp only [PyData.eqv]; exact eqv_strs bs
  rw [e]; exact q
/-- a row as data -/
def rowD (r : Row) : PyData := .tuple [.int r.1, .str r.2.1, .str r.2.2]
theorem dp_rows {K : PySem.W.Frag} {H : Hp} : ∀ {rows : List Row} {ws : List V}, RowsAt H ws rows → DpAll K H ws (rows.map rowD)
  | [], ws, h => by
    have : ws = [] := List.eq_nil_of_length_eq_zero h.1
    subst this
    exact .nil
  | r :: rows, [], h => by have := h.1; simp at this
  | r :: rows, w :: ws, h => by
    obtain ⟨t, e1, e2⟩ := h.2 0 r rfl
    cases e1
    exact .cons (.tup (SqT.of e2) (.cons (.int _) (.cons (.str _) (.cons (.str _) .nil)))) (dp_rows ⟨by simpa using h.1, fun i r' e => h.2 (i + 1) r' e⟩)
theorem lay_rows : ∀ rows : List Row, RowsF rows → PyData.canLayAll0 (rows.map rowD) = true ∧ PyData.depthAll (rows.map rowD) ≤ 1
  | [], _ => ⟨rfl, by decide⟩
  | r :: rows, hb => by
    have h := lay_rows rows fun x hx => hb x (List.mem_cons_of_mem _ hx)
    have h0 := hb r (List.mem_cons_self ..)
    simp only [List.map_cons, PyData.canLayAll0, PyData.canLay0, PyData.depthAll, PyData.depth, rowD, h.1, h0.l1.2, h0.l2.2, Bool.and_true, Bool.true_and, true_and]
    have h2 := h.2
    refine Nat.max_le.mpr ⟨?_, h2⟩
    decide
theorem eqv_rows : ∀ rows : List Row, PyData.eqvAll (rows.map rowD) (rows.map rowD) = true
  | [] => rfl
  | b :: bs => by
    have h := eqv_rows bs
    simp [PyData.eqvAll, PyData.eqv, h, rowD]
theorem eq_rows {K : PySem.W.Frag} {H : Hp} {Q : VK} {a p : Addr} {rows : List Row} {ws ws' : List V} (rf : RowsF rows) (r1 : RowsAt H ws rows) (r2 : RowsAt H ws' rows) (h : H a = some (.tup ws)) (hp : H p = some (.tup ws')) (q : Q (.bl true) H) : rEqD K (.ref a) (.ref p) H Q := by
  have sh : SeqAt.shaped (.tuple (rows.map rowD)) = true := by
    have h := lay_rows rows rf
    have h2 := h.2
    refine Bool.and_eq_true_iff.mpr ⟨by simp only [PyData.canLay0]; exact h.1, decide_eq_true ?_⟩
    have e : PyData.depth (.tuple (rows.map rowD)) = PyData.depthAll (rows.map rowD) + 1 := by simp only [PyData.depth]; try omega
    rw [e]
    omega
  refine ⟨_, _, .tup (SqT.of h) (dp_rows r1), .tup (SqT.of hp) (dp_rows r2), sh, sh, ?_⟩
  have e : PyData.eqv (.tuple (rows.map rowD)) (.tuple (rows.map rowD)) = true := by simp only [PyData.eqv]; exact eqv_rows rows
  rw [e]; exact q
section
variable {g : Wd} {fa : Addr} {fd : FuncData} {C_Volume CN CT CB : Addr} {dV : Value}
theorem sc_l_is_at : FnScope ["_law_volume", "_law_m", "_law_pages", "_law_spots", "_law_one"] ["_law_volume", "_law_m"] (defScope s_l_is_at) := ⟨rfl, rfl, rfl, by decide +kernel, rfl, by decide +kernel, by decide +kernel⟩
def sp_isat (C : Addr) : Sp := S2 fun z x H Q _ => ∃ y d w f rows μ a b c su ex, z = .ref y ∧ x = .ref μ ∧ Vol C H y d w f rows ∧ M H μ a b c su rows f ex ∧ rows.length ≤ 1000 ∧ ∀ H', Same H H' → Q (.bl true) H'
theorem ok_isat (F : Df g.K "_law_is_at" "_law_is_at" s_l_is_at fa fd .none) (T : Txt g) (CL_Volume : Cls g.K C_Volume) (M_Volume__getitem : Km g C_Volume "__getitem__" 4 ["self", "at"] [] (sp_get C_Volume)) (FI_Volume__getitem : FnAtC g.K C_Volume "__getitem__") (M_Volume__contains : Km g C_Volume "__contains__" 3 ["self", "x"] [] (sp_has C_Volume))
    (M_Volume__bool : Km g C_Volume "__bool__" 1 ["self"] [] (sp_bool C_Volume)) (M_Volume_length : Km g C_Volume "length" 1 ["self"] [] (sp_len C_Volume)) (P_Volume_pending : Kp g C_Volume "pending" 1 (sp_pend C_Volume)) (KG_Volume_used : Kg g C_Volume "used" 1 (sp_used C_Volume)) : FnG g 6 fa fd ["_law_volume", "_law_m"] (sp_isat C_Volume) := by
  refine F.ok sc_l_is_at (fun vs H Q E h => S2.len h) (fun cdv A outer s H vs Q E hr h => ?_)
  obtain ⟨_, _, rfl, y, d, w, f, rows, μ, a, b, c, su, ex, rfl, rfl, hV, ⟨ka, kc, ws, hm⟩, rl, q⟩ := h
  refine ⟨_, (pss_mid (ps_set (i := 2) sc_l_is_at.nd rfl (Or.inr rfl) (pe_dget (hu_of hr.room) (pv 1) pe_str (fun _ _ => rfl)))
      (pss_mid (ps_set (i := 3) sc_l_is_at.nd rfl (Or.inl rfl) (pe_callB (c_sortedI (K := g.K)) (by rfl) T.b_sorted bb_sorted (pa_cons (pe_lock (pe_lc (own := [("_law_one", 4)]) (tt := tYes) rfl sc_l_is_at.nd (pi_keys (pv 2)) (blkOk_by (own := [("_law_one", 4)]) (N := ["_law_volume", "_law_m", "_law_pages", "_law_spots", "_law_one"]) (sc := defScope s_l_is_at) (by decide +kernel)) (fun _ _ _ _ _ => (pg_name (i := 4) sc_l_is_at.nd rfl (.inl rfl))) (fun _ _ _ _ _ => pts_nil) (fun _ _ _ _ _ => (pe_callTy c_intA (by rfl) T.b_int bb_int (pa_cons (pv 4) pa_nil))))) pa_nil)))
      (pss_mid (ps_if (pt_cmpR (o_ne (K := g.K) hr) (e_listGen KG_Volume_used CL_Volume (hr.mono (by first | decide | omega)) T.b_list (pv 0)) (pv 3) (nomark _)) (pss_one (ps_ret pe_bl)) pss_nil)
      (pss_mid (ps_if (pt_cmpR (o_ne (K := g.K) hr) (pe_lc (own := [("_law_one", 4)]) (tt := tYes) rfl sc_l_is_at.nd (i_list (K := g.K) (pv 3)) (blkOk_by (own := [("_law_one", 4)]) (N := ["_law_volume", "_law_m", "_law_pages", "_law_spots", "_law_one"]) (sc := defScope s_l_is_at) (by decide +kernel)) (fun _ _ _ _ _ => (pg_name (i := 4) sc_l_is_at.nd rfl (.inl rfl))) (fun _ _ _ _ _ => pts_nil) (fun _ _ _ _ _ => (e_ixOwn M_Volume__getitem FI_Volume__getitem (Rm.mono (Rm.mk hr.room hr.gd) (by first | decide | omega)) L2.takes0 (pv 0) (pv 4)))) (pe_lc (own := [("_law_one", 4)]) (tt := tYes) rfl sc_l_is_at.nd (i_list (K := g.K) (pv 3)) (blkOk_by (own := [("_law_one", 4)]) (N := ["_law_volume", "_law_m", "_law_pages", "_law_spots", "_law_one"]) (sc := defScope s_l_is_at) (by decide +kernel)) (fun _ _ _ _ _ => (pg_name (i := 4) sc_l_is_at.nd rfl (.inl rfl))) (fun _ _ _ _ _ => pts_nil) (fun _ _ _ _ _ => (pe_dget (hu_of (Rm.mk hr.room hr.gd).room) (pv 2) (pv 4) (fun _ _ => rfl)))) (nomark _)) (pss_one (ps_ret pe_bl)) pss_nil)
      (pss_mid (ps_if (PW.pt (pw_or (pt_cmpR (o_ne (K := g.K) hr) (pe_methG0 (pv 0) CL_Volume M_Volume_length (hr.mono (by first | decide | omega)) tkD) (pe_ifExp (pt_cmpR (o_ne (K := g.K) hr) (pv 3) (pe_lst pa_nil) (nomark _)) (pe_op (o_add (K := g.K)) (pe_ix (o_ix (K := g.K)) (pv 3) (pe_un un_neg pe_int) (fun _ _ => rfl)) pe_int) pe_int) (nomark _)) (pw_or1 (pt_cmpR (o_ne (K := g.K) hr) (e_boolOwn M_Volume__bool (hr.mono (by first | decide | omega)) tkD T.b_bool (pa_cons (pv 0) pa_nil)) (pe_cmpR (o_ne (K := g.K) hr) (pv 3) (pe_lst pa_nil) (nomark _)) (nomark _))))) (pss_one (ps_ret pe_bl)) pss_nil)
      (pss_mid (ps_if (pt_cmpR (o_ne (K := g.K) hr) (pe_lc (own := [("_law_one", 4)]) (tt := tYes) rfl sc_l_is_at.nd (pi_range1 rfl T.b_range (pa_cons pe_int pa_nil)) (blkOk_by (own := [("_law_one", 4)]) (N := ["_law_volume", "_law_m", "_law_pages", "_law_spots", "_law_one"]) (sc := defScope s_l_is_at) (by decide +kernel)) (fun _ _ _ _ _ => (pg_name (i := 4) sc_l_is_at.nd rfl (.inl rfl))) (fun _ _ _ _ _ => pts_nil) (fun _ _ _ _ _ => (pe_cmp (c_inOwn M_Volume__contains (Rm.mono (Rm.mk hr.room hr.gd) (by first | decide | omega)) L2.takes0 (pv 4) (pv 0)) (by rfl)))) (pe_lc (own := [("_law_one", 4)]) (tt := tYes) rfl sc_l_is_at.nd (pi_range1 rfl T.b_range (pa_cons pe_int pa_nil)) (blkOk_by (own := [("_law_one", 4)]) (N := ["_law_volume", "_law_m", "_law_pages", "_law_spots", "_law_one"]) (sc := defScope s_l_is_at) (by decide +kernel)) (fun _ _ _ _ _ => (pg_name (i := 4) sc_l_is_at.nd rfl (.inl rfl))) (fun _ _ _ _ _ => pts_nil) (fun _ _ _ _ _ => (pe_cmp (pc_din (hu_of (Rm.mk hr.room hr.gd).room) (pv 4) (pv 2)) (by rfl)))) (nomark _)) (pss_one (ps_ret pe_bl)) pss_nil)
      (pss_mid (ps_if (pt_cmpR (o_ne (K := g.K) hr) (pe_lc (own := [("_law_one", 4)]) (tt := tYes) rfl sc_l_is_at.nd (pi_range1 rfl T.b_range (pa_cons pe_int pa_nil)) (blkOk_by (own := [("_law_one", 4)]) (N := ["_law_volume", "_law_m", "_law_pages", "_law_spots", "_law_one"]) (sc := defScope s_l_is_at) (by decide +kernel)) (fun _ _ _ _ _ => (pg_name (i := 4) sc_l_is_at.nd rfl (.inl rfl))) (fun _ _ _ _ _ => pts_nil) (fun _ _ _ _ _ => (e_ixOwn M_Volume__getitem FI_Volume__getitem (Rm.mono (Rm.mk hr.room hr.gd) (by first | decide | omega)) L2.takes0 (pv 0) (pv 4)))) (pe_lc (own := [("_law_one", 4)]) (tt := tYes) rfl sc_l_is_at.nd (pi_range1 rfl T.b_range (pa_cons pe_int pa_nil)) (blkOk_by (own := [("_law_one", 4)]) (N := ["_law_volume", "_law_m", "_law_pages", "_law_spots", "_law_one"]) (sc := defScope s_l_is_at) (by decide +kernel)) (fun _ _ _ _ _ => (pg_name (i := 4) sc_l_is_at.nd rfl (.inl rfl))) (fun _ _ _ _ _ => pts_nil) (fun _ _ _ _ _ => (e_get2 (hu_of (Rm.mk hr.room hr.gd).room) (pv 2) (pv 4) pe_str))) (nomark _)) (pss_one (ps_ret pe_bl)) pss_nil)
      (pss_one (ps_ret (pe_cmpR (o_eq (K := g.K) hr) (e_propG P_Volume_pending CL_Volume (hr.mono (by first | decide | omega)) (pv 0)) (pe_callTy call_tuple_of (by rfl) T.b_tuple bb_tuple (pa_cons (pe_dget (hu_of hr.room) (pv 1) pe_str (fun _ _ => rfl)) pa_nil)) (nomark _))))))))))), ?_⟩
  have h1 := hm.hm
  have lw := hm.ra.1
  have lk := hm.pc.len hm.fc
  refine mid_one [some (.ref y), some (.ref μ), some (.ref c), none, none] (fun G => G = H) ?_ ?_
  · simp only [dget_s h1, n_rs, n_ps, n_pr, n_sr, n_sp, n_rp, tRet, tRetN, tSeq, C8.tCut, tNext, tAsg, gName, gNil, gCons, gTup, gFld, tIfS, tIf, tAndV, tOrV, tNotV, tAnd, tOr, tNot, tB, tTest, tOp, tUn, tCB, tCons, tNil, tVar, tC, tChain, tDrop, RS.tCallG, RS.tMethG, tMakeG, RS.tCallK, RS.tMakeK, tEqOwn, rI, rI0, rU, add_ii, add_ss, add_rr, mul_ii, mul_si, mul_ri, RS.eq_ii, RS.eq_ss, eq_bb, eq_nn, eq_sn, eq_ns, eq_in, eq_ni, eq_bn, eq_nb, eq_is, eq_si, eq_rr, ne_ii, ne_ss, ne_bb, ne_nn, ne_sn, ne_ns, ne_in, ne_ni, ne_is, ne_si, ne_rr, in_ss, in_r, nin_ss, nin_r, len_s, len_r, RS.ix_s, RS.ix_r, sl_s, sl_r, is_eq, tyN_n, tyN_b, tyN_i, tyN_s, tru_b, tru_i, tru_n, tSl, tPart, tNoPart, tPar, tPar3, tFmtZ, tFmt, tJs, tDGet, sDPut, sFld, tFld, tTup, tLst, tNever, isB,
  L2.start, List.map_cons, List.map_nil, List.length_cons, List.length_nil, Nat.reduceAdd, Nat.reduceSub, Nat.sub_self, List.replicate_zero, List.replicate_succ, List.append_nil, List.cons_append, List.nil_append, List.getElem?_cons_zero, List.getElem?_cons_succ, List.set_cons_zero, List.set_cons_succ, Option.some.injEq, exists_eq_left, exists_eq_left', exists_and_left, V.bl.injEq, V.int.injEq, V.str.injEq, V.ref.injEq, beq_self_eq_true, Bool.true_or, Bool.or_true, Bool.false_or, Bool.or_false, Bool.and_false, Bool.false_and, Bool.true_and, Bool.and_true, Bool.not_true, Bool.not_false, Bool.false_eq_true, if_true, if_false, ite_true, ite_false, true_and, and_true, and_assoc, String.reduceBEq, String.reduceEq, reduceIte, Bool.and_self, reduceCtorEq, false_and, and_false, exists_false, or_false, false_or, exists_const, iEnumS, iStr, iList, iTup, iRng1, iEnum, tFor_eq, tLc_eq, List.cons.injEq, wipe, not_true_eq_false, not_false_eq_true, upd_same, HO.ins.injEq, HO.tup.injEq, HO.lst.injEq, ofS_eq, lk_nil, lk_cons, pu_nil, pu_cons, sizeLine_eq, Nat.reduceLT, Nat.reduceLeDiff, Nat.reduceEqDiff, Nat.le_refl, decide_true, decide_false, tPr, dget_us, dput_us, vv_nil, vv_cons, RS.pk_nil, pk_one, RS.pk_cons, inr_eq, tDisp, tPairs, tBoolOwn, rBoolOwn, tBM, rAppend, ty_list, ty_str, rEqOwn, iEnumT, RS.tCallS, tM1, tDc_eq, tLock, tLockE, iKeys, tListEnum, rUpdate, tMkX0, tMkX1, tXfv, gSub, rSetL, List.getD_cons_zero, List.getD_cons_succ, tCMethS, ClX.tCVal, tXfa, tIxOwn, tInOwn, tPropG, tMethK, tMethP, tListGen, tDGet2, tDPop2, rNeD0, intA_i, intA_b, tRevL, sFldAug, tPm0, tPm1, tDIn, tDNotIn, tDNewK, RS.tMethS]
  intro G e0
  rw [e0]; clear e0 G
  refine mid_at (fun σ G => ∃ p ns z, σ = [some (.ref y), some (.ref μ), some (.ref c), some (.ref p), z] ∧ Same H G ∧ G p = some (.lst (ns.map V.int)) ∧ Asc f ns) ?_ ?_
  · walk_at "sx"
    refine ⟨c, _, hm.hc, True.intro, fun od => ⟨od, .inl ⟨kc, upd_same, ?_⟩⟩⟩
    refine nums_lc (i := 4) (σ := [some (.ref y), some (.ref μ), some (.ref c), none, none]) hm.hc hm.pc lk od (fun n G K k => ⟨rfl, by walk_at "sx"; exact k⟩) fun l G2 gl s' hl el => ⟨gl, l, numsOf kc, rfl, SqL.of el, fun ns p pe pw hp => ?_⟩
    walk_at "sx"
    exact ⟨s'.trans (same_upd hp), ns, rfl, hm.pc.asc pe pw⟩
  rintro _ G ⟨p, ns, z, rfl, sG, ep, asc⟩
  have nl : ns.length ≤ 10000000 := by
    have rg : ∀ n ∈ ns, 0 ≤ n ∧ n < 10000000 := fun n hn => hm.fc.rng n ((asc.mem n).mp hn)
    have := nodup_len 10000000 (ns.map Int.toNat) (List.pairwise_map.mpr (List.Pairwise.imp_of_mem (fun {a b} ha hb hab z => hab (by have := rg a ha; have := rg b hb; omega)) asc.nd)) (fun x hx => by
      obtain ⟨n, hn, rfl⟩ := List.mem_map.mp hx
      have := rg n hn
      omega)
    simpa using this
  have hvG := hV.same sG
  have hmG := hm.same sG
  refine mid_one [some (.ref y), some (.ref μ), some (.ref c), some (.ref p), z] (fun G2 => Same H G2 ∧ G2 p = some (.lst (ns.map V.int))) ?_ ?_
  · walk_at "sx"
    have ⟨dy, ep', tk, kvs, ws2, hv⟩ := hvG
    refine ⟨_, _, hv.hy, lk_no, y, d, w, f, rows, rfl, hvG, fun ns2 H2 asc2 s2 p1 hp1 => ?_⟩
    cases asc2.uni asc
    have s3 := same_upd (o := HO.lst (ns.map V.int)) hp1
    refine ne_ints ns (SqL.of upd_same) (SqL.of (s3 _ _ (s2 _ _ ep))) ⟨_, rfl, ?_⟩
    exact ⟨(sG.trans s2).trans s3, s3 _ _ (s2 _ _ ep)⟩
  rintro G2 ⟨s2, ep2⟩
  refine mid_one [some (.ref y), some (.ref μ), some (.ref c), some (.ref p), z] (fun G2 => Same H G2 ∧ G2 p = some (.lst (ns.map V.int))) ?_ ?_
  · walk_at "sx"
    have hm2 := hm.same s2
    have hv2 := hV.same s2
    have ⟨dy, ep', tk, kvs, ws2, hv⟩ := hv2
    refine ⟨⟨_, SqL.of ep2⟩, ?_⟩
    refine lc_all ns.length (fun i => (ns.map fun n => V.str (f n)).getD i .non) (by rw [sizeLine_eq]; omega) (fun i X lt s => ⟨_, .int ns[i], SqL.of (s _ _ ep2), by simp [lt]⟩) (fun X s => ⟨_, SqL.of (s _ _ ep2), by simp⟩) (fun i X x X' K lt s yl k => ?_) (fun L X hL s eL => ?_)
    · obtain ⟨rfl, hx⟩ := yl
      have hx := hx _ (SqL.of (s _ _ ep2))
      have ex : x = .int ns[i] := by simpa [lt] using hx.symm
      subst ex
      have rg := hm.fc.rng _ ((asc.mem ns[i]).mp (List.getElem_mem lt))
      have k := k _ (Same.refl _)
      have e2 : (ns.map fun n => V.str (f n)).getD i .non = .str (f ns[i]) := by simp [List.getD, lt]
      rw [e2] at k
      refine ⟨rfl, ?_⟩
      walk_at "sx"
      exact ⟨_, _, s _ _ hv.hy, _, _, rfl, y, d, w, f, rows, ns[i], rfl, rfl, hv2.same s, rg.1, rg.2, k⟩
    refine ⟨⟨_, SqL.of (s _ _ ep2)⟩, ?_⟩
    have eL2 : X L = some (.lst ((ns.map f).map V.str)) := by
      rw [eL]
      congr 2
      refine List.ext_getElem (by simp) fun j h1 h2 => ?_
      have h2' : j < ns.length := by simpa using h2
      simp [List.getD, h2']
    refine lc_all ns.length (fun i => (ns.map fun n => V.str (f n)).getD i .non) (by rw [sizeLine_eq]; omega) (fun i Y lt s' => ⟨_, .int ns[i], SqL.of (s' _ _ (s _ _ ep2)), by simp [lt]⟩) (fun Y s' => ⟨_, SqL.of (s' _ _ (s _ _ ep2)), by simp⟩) (fun i Y x Y' K lt s' yl k => ?_) (fun L2 Y hL2 s' eL3 => ?_)
    · obtain ⟨rfl, hx⟩ := yl
      have hx := hx _ (SqL.of (s' _ _ (s _ _ ep2)))
      have ex : x = .int ns[i] := by simpa [lt] using hx.symm
      subst ex
      have nz := (asc.mem ns[i]).mp (List.getElem_mem lt)
      have k := k _ (Same.refl _)
      have e2 : (ns.map fun n => V.str (f n)).getD i .non = .str (f ns[i]) := by simp [List.getD, lt]
      rw [e2] at k
      refine ⟨rfl, ?_⟩
      walk_at "sx"
      refine ⟨.str (f ns[i]), ?_, k⟩
      rw [dget_i (s' _ _ (s _ _ hm2.hc)), hm.pc.val, if_neg nz]
    · have eL4 : Y L2 = some (.lst ((ns.map f).map V.str)) := by
        rw [eL3]
        congr 2
        refine List.ext_getElem (by simp) fun j h1 h2 => ?_
        have h2' : j < ns.length := by simpa using h2
        simp [List.getD, h2']
      rw [ne_rr]
      refine ne_strs (ns.map f) (fun b hb => ?_) (SqL.of (s' _ _ eL2)) (SqL.of eL4) ⟨_, rfl, ?_⟩
      · obtain ⟨n, _, rfl⟩ := List.mem_map.mp hb
        exact (hm.fc.len n).2
      · exact ⟨(s2.trans s).trans s', s' _ _ (s _ _ ep2)⟩
  clear s2 ep2 G2
  rintro G2 ⟨s2, ep2⟩
  refine mid_one [some (.ref y), some (.ref μ), some (.ref c), some (.ref p), z] (fun G2 => Same H G2) ?_ ?_
  · walk_at "sx"
    have hv2 := hV.same s2
    have ⟨dy, ep', tk, kvs, ws2, hv⟩ := hv2
    refine ⟨_, _, hv.hy, lk_no, _, rfl, y, d, w, f, rows, rfl, hv2, fun n H2 hn s3 p1 hp1 => ?_⟩
    have s4 := same_upd (o := HO.lst []) hp1
    have e4 : upd H2 p1 (.lst []) p1 = some (.lst []) := upd_same
    generalize upd H2 p1 (.lst []) = X at s4 e4 ⊢
    have s5 := s3.trans s4
    -- the second half: bool(volume) != (spots != [])
    have half : ∀ X, Same G2 X → ∃ x x_3, X y = some (HO.ins C_Volume x x_3) ∧ sp_bool C_Volume [V.ref y] X (fun v H' => ∃ b, v = V.bl b ∧ ∀ (p_2 : Addr), H' p_2 = none → rNeD g.K (V.ref p) (V.ref p_2) (upd H' p_2 (HO.lst [])) fun y H2 => rNeU g.K (V.bl b) y H2 fun x H' => ∃ k, x = V.bl k ∧ if k = true then Q (V.bl false) H' else Same H H') fun c d H' => E c d H' := fun X sX => by
      refine ⟨_, _, sX _ _ hv.hy, _, rfl, y, d, w, f, rows, rfl, hv2.same sX, fun b X2 hb sX2 => ⟨b, rfl, fun p2 hp2 => ?_⟩⟩
      have s6 := same_upd (o := HO.lst []) hp2
      refine ne_empty (SqL.of (s6 _ _ (sX2 _ _ (sX _ _ ep2)))) upd_same ?_
      have eb : b = !ns.isEmpty := by
        rw [Bool.eq_iff_iff, hb]
        cases ns with
        | nil =>
          refine ⟨fun ⟨m, hm⟩ => ?_, fun z => by simp at z⟩
          have := (asc.mem m).mpr hm
          cases this
        | cons n0 r => exact ⟨fun _ => by simp, fun _ => ⟨n0, (asc.mem n0).mp (List.mem_cons_self ..)⟩⟩
      rw [eb, ne_bb]
      refine ⟨_, rfl, ?_⟩
      rw [if_neg (by simp)]
      exact ((s2.trans sX).trans sX2).trans s6
    refine ne_empty (SqL.of (s5 _ _ ep2)) e4 ⟨_, rfl, ?_⟩
    cases hns : ns with
    | nil =>
      rw [if_neg (by simp)]
      have n0 : n = 0 := by
        rcases hn with ⟨_, z⟩ | ⟨m, z, _⟩
        · exact z
        · have := (asc.mem m).mpr z
          rw [hns] at this; cases this
      subst n0
      rw [ne_ii]
      refine ⟨_, rfl, ?_⟩
      rw [if_neg (by simp)]
      exact half X s5
    | cons n0 r =>
      rw [if_pos (by simp)]
      have ln : ∃ k : List Int × Int, ns = k.1 ++ [k.2] := by
        rw [hns]
        exact ⟨((n0 :: r).dropLast, (n0 :: r).getLast (by simp)), (List.dropLast_concat_getLast (by simp)).symm⟩
      obtain ⟨⟨k1, k2⟩, ek⟩ := ln
      simp only at ek
      have nk : n = k2 + 1 := by
        rcases hn with ⟨z, _⟩ | ⟨m, z1, z2, z3⟩
        · exact absurd (z n0) ((asc.mem n0).mp (by rw [hns]; exact List.mem_cons_self ..))
        · have m1 : k2 ≤ m := z2 k2 ((asc.mem k2).mp (by rw [ek]; simp))
          have m2 : m ∈ k1 ++ [k2] := by rw [← ek]; exact (asc.mem m).mpr z1
          have pw := asc.pw
          rw [ek] at pw
          have m3 : m ≤ k2 := by
            rcases List.mem_append.mp m2 with y | y
            · exact (List.pairwise_append.mp pw).2.2 m y k2 (by simp)
            · rw [List.mem_singleton.mp y]; exact Int.le_refl _
          omega
      refine ⟨ns.map V.int, .inl (SqL.of (s5 _ _ ep2)), .int k2, ?_, ?_⟩
      · rw [ek, List.map_append]
        exact atI_last _ _
      rw [add_ii, nk, ne_ii]
      refine ⟨_, rfl, ?_⟩
      rw [if_neg (by simp)]
      exact half X s5
  clear s2 ep2 G2
  rintro G2 s2
  refine mid_one [some (.ref y), some (.ref μ), some (.ref c), some (.ref p), z] (fun G2 => Same H G2) ?_ ?_
  · walk_at "sx"
    have hm2 := hm.same s2
    have hv2 := hV.same s2
    have ⟨dy, ep', tk, kvs, ws2, hv⟩ := hv2
    refine ⟨by decide, by decide, ?_⟩
    refine lc_all 9 (fun i => ((List.range 9).map fun n => V.bl (decide (f (n : Nat) ≠ nil_))).getD i .non) (by rw [sizeLine_eq]; omega) (fun i X lt s => lt) (fun X s => Nat.le_refl _) (fun i X x X' K lt s yl k => ?_) (fun L X hL s eL => ?_)
    · obtain ⟨rfl, rfl⟩ := yl
      have k := k _ (Same.refl _)
      have e2 : ((List.range 9).map fun n => V.bl (decide (f (n : Nat) ≠ nil_))).getD i .non = .bl (decide (f (i : Nat) ≠ nil_)) := by simp [List.getD, lt]
      rw [e2] at k
      refine ⟨rfl, ?_⟩
      rw [show (0 : Int) + (i : Nat) = (i : Nat) from by omega]
      walk_at "sx"
      refine ⟨_, _, s _ _ hv.hy, _, _, rfl, y, d, w, f, rows, (i : Nat), rfl, rfl, hv2.same s, by omega, by omega, _, rfl, ?_⟩
      simpa using k
    have eL2 : X L = some (.lst (((List.range 9).map fun n => decide (f (n : Nat) ≠ nil_)).map V.bl)) := eL
    refine ⟨by decide, by decide, ?_⟩
    refine lc_all 9 (fun i => ((List.range 9).map fun n => V.bl (decide (f (n : Nat) ≠ nil_))).getD i .non) (by rw [sizeLine_eq]; omega) (fun i X lt s => lt) (fun X s => Nat.le_refl _) (fun i Y x Y' K lt s' yl k => ?_) (fun L2 Y hL2 s' eL3 => ?_)
    · obtain ⟨rfl, rfl⟩ := yl
      have k := k _ (Same.refl _)
      have e2 : ((List.range 9).map fun n => V.bl (decide (f (n : Nat) ≠ nil_))).getD i .non = .bl (decide (f (i : Nat) ≠ nil_)) := by simp [List.getD, lt]
      rw [e2] at k
      refine ⟨rfl, ?_⟩
      rw [show (0 : Int) + (i : Nat) = (i : Nat) from by omega]
      walk_at "sx"
      refine ⟨_, (by rw [dget_i (s' _ _ (s _ _ hm2.hc))]), ?_⟩
      rw [hm.pc.isSome]
      exact k
    · rw [ne_rr]
      exact ne_bools _ (SqL.of (s' _ _ eL2)) (SqL.of eL3) ⟨_, rfl, (s2.trans s).trans s'⟩
  clear s2 G2
  rintro G2 s2
  refine mid_one [some (.ref y), some (.ref μ), some (.ref c), some (.ref p), z] (fun G2 => Same H G2) ?_ ?_
  · walk_at "sx"
    have hm2 := hm.same s2
    have hv2 := hV.same s2
    have ⟨dy, ep', tk, kvs, ws2, hv⟩ := hv2
    refine ⟨by decide, by decide, ?_⟩
    refine lc_all 9 (fun i => ((List.range 9).map fun n => V.str (f (n : Nat))).getD i .non) (by rw [sizeLine_eq]; omega) (fun i X lt s => lt) (fun X s => Nat.le_refl _) (fun i X x X' K lt s yl k => ?_) (fun L X hL s eL => ?_)
    · obtain ⟨rfl, rfl⟩ := yl
      have k := k _ (Same.refl _)
      have e2 : ((List.range 9).map fun n => V.str (f (n : Nat))).getD i .non = .str (f (i : Nat)) := by simp [List.getD, lt]
      rw [e2] at k
      refine ⟨rfl, ?_⟩
      rw [show (0 : Int) + (i : Nat) = (i : Nat) from by omega]
      walk_at "sx"
      exact ⟨_, _, s _ _ hv.hy, _, _, rfl, y, d, w, f, rows, (i : Nat), rfl, rfl, hv2.same s, by omega, by omega, k⟩
    have eL2 : X L = some (.lst (((List.range 9).map fun n => f (n : Nat)).map V.str)) := eL
    refine ⟨by decide, by decide, ?_⟩
    refine lc_all 9 (fun i => ((List.range 9).map fun n => V.str (f (n : Nat))).getD i .non) (by rw [sizeLine_eq]; omega) (fun i X lt s => lt) (fun X s => Nat.le_refl _) (fun i Y x Y' K lt s' yl k => ?_) (fun L2 Y hL2 s' eL3 => ?_)
    · obtain ⟨rfl, rfl⟩ := yl
      have k := k _ (Same.refl _)
      have e2 : ((List.range 9).map fun n => V.str (f (n : Nat))).getD i .non = .str (f (i : Nat)) := by simp [List.getD, lt]
      rw [e2] at k
      refine ⟨rfl, ?_⟩
      rw [show (0 : Int) + (i : Nat) = (i : Nat) from by omega]
      walk_at "sx"
      refine ⟨isd (s' _ _ (s _ _ hm2.hc)), _, (by rw [dget_i (s' _ _ (s _ _ hm2.hc))]), ?_⟩
      rw [show Str.ofString "" = nil_ from rfl, hm.pc.getD]
      exact k
    · rw [ne_rr]
      refine ne_strs ((List.range 9).map fun n => f (n : Nat)) (fun b hb => ?_) (SqL.of (s' _ _ eL2)) (SqL.of eL3) ⟨_, rfl, (s2.trans s).trans s'⟩
      obtain ⟨n, _, rfl⟩ := List.mem_map.mp hb
      exact (hm.fc.len _).2
  clear s2 G2
  rintro G2 s2
  have hm2 := hm.same s2
  simp only [dget_s hm2.hm, n_rs, n_ps, n_pr, n_sr, n_sp, n_rp, tRet, tRetN, tSeq, C8.tCut, tNext, tAsg, gName, gNil, gCons, gTup, gFld, tIfS, tIf, tAndV, tOrV, tNotV, tAnd, tOr, tNot, tB, tTest, tOp, tUn, tCB, tCons, tNil, tVar, tC, tChain, tDrop, RS.tCallG, RS.tMethG, tMakeG, RS.tCallK, RS.tMakeK, tEqOwn, rI, rI0, rU, add_ii, add_ss, add_rr, mul_ii, mul_si, mul_ri, RS.eq_ii, RS.eq_ss, eq_bb, eq_nn, eq_sn, eq_ns, eq_in, eq_ni, eq_bn, eq_nb, eq_is, eq_si, eq_rr, ne_ii, ne_ss, ne_bb, ne_nn, ne_sn, ne_ns, ne_in, ne_ni, ne_is, ne_si, ne_rr, in_ss, in_r, nin_ss, nin_r, len_s, len_r, RS.ix_s, RS.ix_r, sl_s, sl_r, is_eq, tyN_n, tyN_b, tyN_i, tyN_s, tru_b, tru_i, tru_n, tSl, tPart, tNoPart, tPar, tPar3, tFmtZ, tFmt, tJs, tDGet, sDPut, sFld, tFld, tTup, tLst, tNever, isB,
  L2.start, List.map_cons, List.map_nil, List.length_cons, List.length_nil, Nat.reduceAdd, Nat.reduceSub, Nat.sub_self, List.replicate_zero, List.replicate_succ, List.append_nil, List.cons_append, List.nil_append, List.getElem?_cons_zero, List.getElem?_cons_succ, List.set_cons_zero, List.set_cons_succ, Option.some.injEq, exists_eq_left, exists_eq_left', exists_and_left, V.bl.injEq, V.int.injEq, V.str.injEq, V.ref.injEq, beq_self_eq_true, Bool.true_or, Bool.or_true, Bool.false_or, Bool.or_false, Bool.and_false, Bool.false_and, Bool.true_and, Bool.and_true, Bool.not_true, Bool.not_false, Bool.false_eq_true, if_true, if_false, ite_true, ite_false, true_and, and_true, and_assoc, String.reduceBEq, String.reduceEq, reduceIte, Bool.and_self, reduceCtorEq, false_and, and_false, exists_false, or_false, false_or, exists_const, iEnumS, iStr, iList, iTup, iRng1, iEnum, tFor_eq, tLc_eq, List.cons.injEq, wipe, not_true_eq_false, not_false_eq_true, upd_same, HO.ins.injEq, HO.tup.injEq, HO.lst.injEq, ofS_eq, lk_nil, lk_cons, pu_nil, pu_cons, sizeLine_eq, Nat.reduceLT, Nat.reduceLeDiff, Nat.reduceEqDiff, Nat.le_refl, decide_true, decide_false, tPr, dget_us, dput_us, vv_nil, vv_cons, RS.pk_nil, pk_one, RS.pk_cons, inr_eq, tDisp, tPairs, tBoolOwn, rBoolOwn, tBM, rAppend, ty_list, ty_str, rEqOwn, iEnumT, RS.tCallS, tM1, tDc_eq, tLock, tLockE, iKeys, tListEnum, rUpdate, tMkX0, tMkX1, tXfv, gSub, rSetL, List.getD_cons_zero, List.getD_cons_succ, tCMethS, ClX.tCVal, tXfa, tIxOwn, tInOwn, tPropG, tMethK, tMethP, tListGen, tDGet2, tDPop2, rNeD0, intA_i, intA_b, tRevL, sFldAug, tPm0, tPm1, tDIn, tDNotIn, tDNewK, RS.tMethS]
  have hv2 := hV.same s2
  have ⟨dy, ep', tk, kvs, ws2, hv⟩ := hv2
  refine ⟨_, _, hv.hy, _, rfl, y, d, w, f, rows, rfl, hv2, fun p1 wv ra hp1 => ?_⟩
  have s3 := same_upd (o := HO.tup wv) hp1
  have e3 : upd G2 p1 (.tup wv) p1 = some (.tup wv) := upd_same
  generalize upd G2 p1 (.tup wv) = G3 at s3 e3 ⊢
  have hm3 := hm2.same s3
  refine ⟨.ref b, (by rw [dget_s hm3.hm]; simp only [vv_cons, inr_eq, if_true, n_rs, if_false]), b, rfl, ws, .inl ⟨SqL.of hm3.hb, fun l hl => ?_⟩⟩
  have s4 := same_upd (o := HO.tup ws) hl
  rw [eq_rr]
  have ra2 := (ra.fr (fp := []) (Fr1.of (s3.trans s4)) (by simp))
  exact eq_rows hm.rf ra2 (hm3.same s4).ra (s4 _ _ e3) upd_same (q _ ((s2.trans s3).trans s4))
end


/-! the law's sources -/
/-- what a crash leaves, told the two ways -/
theorem lleft_eq {su ps : Pg} {rows : List Row} (h : Chain su rows ps) (k t : Nat) : lleft su rows k t = left ps rows k t := by
  unfold lleft left
  rw [h.kept k]
  all_goals (cases rows[k]? <;> rfl)
section
variable {g : Wd} {fa : Addr} {fd : FuncData} {C_Volume CN CT CB : Addr} {dV : Value}
theorem sc_l_sources : FnScope ["_law_script", "_law_cells", "_law_found", "_law_k", "_law_rest"] ["_law_script"] (defScope s_l_sources) := ⟨rfl, rfl, rfl, by decide +kernel, rfl, by decide +kernel, by decide +kernel⟩
def sp_srcs (K : PySem.W.Frag) : Sp := S1 fun v H Q _ => ∃ (a : Addr) (ns : List Int), v = .ref a ∧ SqL K H a (ns.map V.int) ∧ ns.length ≤ 63 ∧ ∀ p (l : List Addr) H', Same H H' → H p = none → H' p = some (.lst (l.map V.ref)) → l.Nodup → l.length ≤ 3 → (∀ x ∈ l, H x = none ∧ ∃ cl, H cl = none ∧ cl ≠ p ∧ Src H' x cl 300) → Q (.ref p) H'
theorem ok_srcs (F : Df g.K "_law_sources" "_law_sources" s_l_sources fa fd .none) (T : Txt g) : FnG g 1 fa fd ["_law_script"] (sp_srcs g.K) := by
  refine F.ok sc_l_sources (fun vs H Q E h => S1.len h) (fun cdv A outer s H vs Q E hr h => ?_)
  obtain ⟨_, rfl, a, ns, rfl, hS, nl, q⟩ := h
  refine ⟨_, (pss_mid (ps_par (i := 1) (j := 2) (by rfl) sc_l_sources.nd rfl rfl (by decide) rfl rfl (pa_cons (pe_ifExp (pt_cmpR op_gt (pe_callB (c_len (K := g.K)) (by rfl) T.b_len bb_len (pa_cons (pv 0) pa_nil)) pe_int (nomark _)) (pe_callTy call_list_of (by rfl) T.b_list bb_list (pa_cons (pv 0) pa_nil)) (pe_lst (pa_cons pe_int pa_nil))) (pa_cons (pe_lst pa_nil) pa_nil)) (by rfl))
      (pss_mid (ps_for psD rfl (pi_range1 rfl T.b_range (pa_cons (pe_callB (call_min2 rfl) (by rfl) T.b_min (by decide +kernel) (pa_cons pe_int (pa_cons (pe_callB (c_len (K := g.K)) (by rfl) T.b_len bb_len (pa_cons (pv 1) pa_nil)) pa_nil))) pa_nil)) (pg_name (i := 3) sc_l_sources.nd rfl (.inl rfl)) (pss_mid (ps_set (i := 4) sc_l_sources.nd rfl (Or.inl rfl) (pe_ifExp (pt_cmpR op_ge (pe_ix (o_ix (K := g.K)) (pv 1) (pv 3) (fun _ _ => rfl)) (pe_op op_pow pe_int pe_int) (nomark _)) (pe_ix (o_ix (K := g.K)) (pv 1) (pv 3) (fun _ _ => rfl)) pe_int))
      (pss_one (ps_expr (e_bm (K := g.K) PySem.F.plainAttrs_list PySem.F.slot_list_append PySem.F.type_list_append mt_append (pv 2) (pa_cons (pe_disp (pps_cons pe_str (pe_op (o_add (K := g.K)) (pe_slice (o_sl (K := g.K)) (pv 1) (po_some (pv 3)) po_none) (pe_slice (o_sl (K := g.K)) (pv 1) po_none (po_some (pv 3)))) (pps_cons pe_str (pe_op o_mul pe_int (pv 3)) (pps_cons pe_str (pv 4) pps_nil))) (by rfl) (by rfl) (fun z => by cases z) (by decide)) pa_nil))))))
      (pss_one (ps_ret (pv 2))))), ?_⟩
  refine mid_at (fun σ G => ∃ (c f : Addr) (ms : List Int), σ = [some (.ref a), some (.ref c), some (.ref f), none, none] ∧ Same H G ∧ H f = none ∧ H c = none ∧ f ≠ c ∧ G f = some (.lst []) ∧ G c = some (.lst (ms.map V.int)) ∧ 0 < ms.length ∧ ms.length ≤ 63) ?_ ?_
  · walk_at "sx"
    refine .inl ⟨ns.map V.int, .inl hS, ?_⟩
    have fin : ∀ (ms : List Int), 0 < ms.length → ms.length ≤ 63 → ∀ (l : Addr), H l = none → ∀ (p : Addr), upd H l (.lst (ms.map V.int)) p = none → Same H (upd (upd H l (.lst (ms.map V.int))) p (.lst [])) ∧ H p = none ∧ H l = none ∧ p ≠ l ∧ ∃ x : List Int, upd (upd H l (.lst (ms.map V.int))) p (.lst []) l = some (.lst (x.map V.int)) ∧ 0 < x.length ∧ x.length ≤ 63 := by
      intro ms m0 m1 l hl p hp
      obtain ⟨pl, hp2⟩ := fresh_lock hp
      exact ⟨(same_upd hl).trans (same_upd hp), hp2, hl, pl, ms, by rw [upd_ne (Ne.symm pl), upd_same], m0, m1⟩
    by_cases z : 0 < ns.length
    · rw [if_pos (by simpa using z)]
      exact ⟨ns.map V.int, .inl hS, fin ns z nl⟩
    · rw [if_neg (by simpa using z)]
      exact fin [0] (by decide) (by decide)
  rintro _ G ⟨c, f, ms, rfl, sG, nf, nc, fc, ef, ec, m0, m1⟩
  refine mid_at (fun σ G2 => ∃ l : List Addr, (∃ x y, σ = [some (.ref a), some (.ref c), some (.ref f), x, y]) ∧ Same H G2 ∧ G2 f = some (.lst (l.map V.ref)) ∧ l.Nodup ∧ l.length ≤ 3 ∧ ∀ x ∈ l, H x = none ∧ ∃ cl, H cl = none ∧ cl ≠ f ∧ Src G2 x cl 300) ?_ ?_
  · walk_at "sx"
    refine .inl ⟨ms.map V.int, .inl (SqL.of ec), ?_⟩
    rw [List.length_map]
    have k3 : ∃ n : Nat, (if (ms.length : Int) < 3 then (ms.length : Int) else 3) = (n : Nat) ∧ n ≤ 3 ∧ n ≤ ms.length := by
      split
      · exact ⟨ms.length, rfl, by omega, Nat.le_refl _⟩
      · exact ⟨3, rfl, by omega, by omega⟩
    obtain ⟨n, en, n3, nm⟩ := k3
    rw [en, Int.toNat_natCast]
    refine ⟨by omega, by omega, ?_⟩
    refine for_by n (fun i σ X => ∃ l : List Addr, (∃ x y, σ = [some (.ref a), some (.ref c), some (.ref f), x, y]) ∧ Same H X ∧ X f = some (.lst (l.map V.ref)) ∧ X c = some (.lst (ms.map V.int)) ∧ l.Nodup ∧ l.length = i ∧ ∀ x ∈ l, H x = none ∧ ∃ cl, H cl = none ∧ cl ≠ f ∧ Src X x cl 300) ⟨[], ⟨_, _, rfl⟩, sG, ef, ec, List.nodup_nil, rfl, by simp⟩ (fun i _ _ lt _ => lt) (fun _ _ _ => Nat.le_refl _) ?_ ?_
    · rintro i _ X x X' lt ⟨l, ⟨u1, u2, rfl⟩, sX, xf, xc, nd, ll, hl⟩ ⟨rfl, rfl⟩
      rw [show (0 : Int) + (i : Nat) = (i : Nat) from by omega]
      walk_at "sx"
      have ilt : i < ms.length := by omega
      have ei : (ms.map V.int)[i]? = some (.int ms[i]) := by simp [ilt]
      refine mid_at (fun σ Y => ∃ r : Int, σ = [some (.ref a), some (.ref c), some (.ref f), some (.int (i : Nat)), some (.int r)] ∧ Y = X') ?_ ?_
      · walk_at "sx"
        refine ⟨_, .inl (SqL.of xc), _, atI_nat ei, ⟨by decide, by decide, by decide⟩, _, rfl, ?_⟩
        split
        · exact ⟨_, .inl (SqL.of xc), _, atI_nat ei, _, rfl⟩
        · trivial
      rintro _ Y ⟨r, rfl, e⟩
      rw [e]; clear e Y
      walk_at "sx"
      refine ⟨⟨_, SqL.of xf⟩, fun p hp => ?_⟩
      have s1 := same_upd (o := HO.dK []) hp
      have e1 : upd X' p (.dK []) p = some (.dK []) := upd_same
      generalize upd X' p (.dK []) = X1 at s1 e1 ⊢
      refine .inl ⟨c, _, rfl, SqL.of (s1 _ _ xc), fun p2 hp2 => ?_⟩
      rw [cutV_from _ (by omega), Int.toNat_natCast]
      have s2 := same_upd (o := HO.lst ((ms.map V.int).drop i)) hp2
      have e2 : upd X1 p2 (.lst ((ms.map V.int).drop i)) p2 = some (.lst ((ms.map V.int).drop i)) := upd_same
      generalize upd X1 p2 (.lst ((ms.map V.int).drop i)) = X2 at s2 e2 ⊢
      refine .inl ⟨c, _, rfl, SqL.of (s2 _ _ (s1 _ _ xc)), fun p3 hp3 => ?_⟩
      rw [cutV_to _ (by omega), Int.toNat_natCast]
      have s3 := same_upd (o := HO.lst ((ms.map V.int).take i)) hp3
      have e3 : upd X2 p3 (.lst ((ms.map V.int).take i)) p3 = some (.lst ((ms.map V.int).take i)) := upd_same
      generalize upd X2 p3 (.lst ((ms.map V.int).take i)) = X3 at s3 e3 ⊢
      simp only [add_rr]
      refine .inl ⟨p2, p3, _, _, rfl, rfl, s3 _ _ e2, e3, by rw [sizeLine_eq]; simp; omega, fun cl hcl => ?_⟩
      have ems : (ms.map V.int).drop i ++ (ms.map V.int).take i = (ms.drop i ++ ms.take i).map V.int := by simp
      rw [ems]
      have s4 := same_upd (o := HO.lst ((ms.drop i ++ ms.take i).map V.int)) hcl
      have e4 : upd X3 cl (.lst ((ms.drop i ++ ms.take i).map V.int)) cl = some (.lst ((ms.drop i ++ ms.take i).map V.int)) := upd_same
      generalize upd X3 cl (.lst ((ms.drop i ++ ms.take i).map V.int)) = X4 at s4 e4 ⊢
      have s13 := (s1.trans s2).trans s3
      have s14 := s13.trans s4
      have pf : p ≠ f := fun z => by rw [z, xf] at hp; cases hp
      have pc : p ≠ c := fun z => by rw [z, xc] at hp; cases hp
      have clf : cl ≠ f := fun z => by rw [z, s13 _ _ xf] at hcl; cases hcl
      have clp : cl ≠ p := fun z => by rw [z, s3 _ _ (s2 _ _ e1)] at hcl; cases hcl
      have pX : H p = none := none_of_same sX hp
      have clX : H cl = none := none_of_same (sX.trans s13) hcl
      refine ⟨.inl ⟨by decide, by decide⟩, s4 _ _ (s3 _ _ (s2 _ _ e1)), [(.inr (Str.ofString "cells"), .ref cl), (.inr (Str.ofString "turn"), .int (97 * (i : Nat))), (.inr (Str.ofString "rest"), .int r)], rfl, by simp, l.map V.ref, ?_, by simp; omega, ⟨_, rfl⟩, ?_, l ++ [p], by simp, ?_, ?_, by simp; omega, ?_⟩
      · rw [upd_ne (Ne.symm pf)]; exact s14 _ _ xf
      · intro b o e
        rw [upd_ne (ne_of_none e nf), upd_ne (ne_of_none e pX)]
        exact s14 _ _ (sX _ _ e)
      · rw [upd_ne (Ne.symm fc), upd_ne (Ne.symm pc)]; exact s14 _ _ xc
      · refine List.nodup_append.mpr ⟨nd, by simp, fun x hx y hy z => ?_⟩
        rw [List.mem_singleton.mp hy] at z
        obtain ⟨_, cl', _, _, hs⟩ := hl x hx
        obtain ⟨o, ho⟩ := hs.at_
        rw [z, hp] at ho; cases ho
      · intro x hx
        rcases List.mem_append.mp hx with z | z
        · obtain ⟨h1, cl', h2, h3, hs⟩ := hl x z
          obtain ⟨o, ho⟩ := hs.at_
          have xp : x ≠ p := fun z => by rw [z, hp] at ho; cases ho
          have xf' : x ≠ f := fun z => by
            obtain ⟨_, _, _, hz, _⟩ := hs
            rw [z, xf] at hz; cases hz
          have clp' : cl' ≠ p := fun z => by
            obtain ⟨_, _, _, _, hz, _⟩ := hs
            rw [z, hp] at hz; cases hz
          refine ⟨h1, cl', h2, h3, (hs.same s14).fr (fp := [p, f]) (Fr1.t ((Fr1.upd (by simp)).trans (Fr1.upd (by simp)))) (by simp [xp, xf']) (by simp [clp', h3])⟩
        · rw [List.mem_singleton.mp z]
          refine ⟨pX, cl, clX, clf, 97 * (i : Nat), r, ms.drop i ++ ms.take i, ?_, ?_, by simp; omega, by simp; omega, by omega, by omega⟩
          · rw [upd_ne pf, upd_same, merge_new _ [] (by simp [n_tc, n_rc, n_rt]), List.nil_append]
          · rw [upd_ne clf, upd_ne clp]; exact e4
    · rintro _ X ⟨l, hσ, sX, xf, xc, nd, ll, hl⟩
      exact ⟨hσ, sX, l, xf, nd, by omega, hl⟩
  rintro _ G2 ⟨l, ⟨x, y, rfl⟩, s2, ef2, nd, ll, hl⟩
  walk_at "sx"
  exact q f l G2 s2 nf ef2 nd ll hl
end


/-! what is told of a call -/
/-- the seven classes of the volumes' exceptions -/
structure Xcs where
  CN : Addr
  CT : Addr
  CK : Addr
  CV : Addr
  CB : Addr
  CL : Addr
  CD : Addr
def Xcs.all (x : Xcs) : List Addr := [x.CN, x.CT, x.CK, x.CV, x.CB, x.CL, x.CD]
/-- what an exception of the class C, with its fields at d, is told as -/
def Inf (x : Xcs) (H : Hp) (d : Option Addr) (C : Addr) (cs : List V) : Prop :=
  (∃ dd v, d = some dd ∧ ((C = x.CN ∧ XdAt H dd [("given", v)] ∧ cs = [.str "number", v]) ∨ (C = x.CT ∧ XdAt H dd [("position", v)] ∧ cs = [.str "text", v]) ∨ (C = x.CK ∧ XdAt H dd [("given", v)] ∧ cs = [.str "kind", v]) ∨
    (C = x.CV ∧ XdAt H dd [("part", v)] ∧ cs = [.str "volume", v]) ∨ (C = x.CB ∧ XdAt H dd [("page", v)] ∧ cs = [.str "blank", v]))) ∨
  (d = none ∧ ((C = x.CL ∧ cs = [.str "locked"]) ∨ (C = x.CD ∧ cs = [.str "dead"])))
theorem Inf.same {x : Xcs} {H H' : Hp} {d : Option Addr} {C : Addr} {cs : List V} (h : Inf x H d C cs) (s : Same H H') : Inf x H' d C cs := by
  rcases h with ⟨dd, v, hd, h⟩ | h
  · refine .inl ⟨dd, v, hd, ?_⟩
    rcases h with ⟨a, b, c⟩ | ⟨a, b, c⟩ | ⟨a, b, c⟩ | ⟨a, b, c⟩ | ⟨a, b, c⟩
    · exact .inl ⟨a, b.same s, c⟩
    · exact .inr (.inl ⟨a, b.same s, c⟩)
    · exact .inr (.inr (.inl ⟨a, b.same s, c⟩))
    · exact .inr (.inr (.inr (.inl ⟨a, b.same s, c⟩)))
    · exact .inr (.inr (.inr (.inr ⟨a, b.same s, c⟩)))
  · exact .inr h
theorem Inf.mem {x : Xcs} {H : Hp} {d : Option Addr} {C : Addr} {cs : List V} (h : Inf x H d C cs) : C ∈ x.all := by
  unfold Xcs.all
  rcases h with ⟨dd, v, hd, (⟨a, _⟩ | ⟨a, _⟩ | ⟨a, _⟩ | ⟨a, _⟩ | ⟨a, _⟩)⟩ | ⟨_, (⟨a, _⟩ | ⟨a, _⟩)⟩ <;> simp [a]
theorem Inf.xd {x : Xcs} {H : Hp} {d : Option Addr} {C : Addr} {cs : List V} (h : Inf x H d C cs) : ∀ dd, d = some dd → ∃ fs, XdAt H dd fs := by
  intro dd e
  rcases h with ⟨d', v, hd, h⟩ | ⟨z, _⟩
  · rw [e] at hd
    cases hd
    rcases h with ⟨_, b, _⟩ | ⟨_, b, _⟩ | ⟨_, b, _⟩ | ⟨_, b, _⟩ | ⟨_, b, _⟩ <;> exact ⟨_, b⟩
  · rw [z] at e; cases e
section
variable {x : Xcs} {H : Hp} {d : Option Addr} {C : Addr} {cs : List V} (nd : x.all.Nodup)
include nd
theorem Inf.n (h : Inf x H d C cs) (e : C = x.CN) : ∃ dd v, d = some dd ∧ XdAt H dd [("given", v)] ∧ cs = [.str "number", v] := by
  subst e
  rcases h with ⟨dd, v, hd, (⟨a, b, c⟩ | ⟨a, b, c⟩ | ⟨a, b, c⟩ | ⟨a, b, c⟩ | ⟨a, b, c⟩)⟩ | ⟨_, (⟨a, _⟩ | ⟨a, _⟩)⟩
  · exact ⟨dd, v, hd, b, c⟩
  all_goals (simp [Xcs.all, a] at nd)
theorem Inf.t (h : Inf x H d C cs) (e : C = x.CT) : ∃ dd v, d = some dd ∧ XdAt H dd [("position", v)] ∧ cs = [.str "text", v] := by
  subst e
  rcases h with ⟨dd, v, hd, (⟨a, b, c⟩ | ⟨a, b, c⟩ | ⟨a, b, c⟩ | ⟨a, b, c⟩ | ⟨a, b, c⟩)⟩ | ⟨_, (⟨a, _⟩ | ⟨a, _⟩)⟩
  · simp [Xcs.all, ← a] at nd
  · exact ⟨dd, v, hd, b, c⟩
  all_goals (simp [Xcs.all, a] at nd)
theorem Inf.k (h : Inf x H d C cs) (e : C = x.CK) : ∃ dd v, d = some dd ∧ XdAt H dd [("given", v)] ∧ cs = [.str "kind", v] := by
  subst e
  rcases h with ⟨dd, v, hd, (⟨a, b, c⟩ | ⟨a, b, c⟩ | ⟨a, b, c⟩ | ⟨a, b, c⟩ | ⟨a, b, c⟩)⟩ | ⟨_, (⟨a, _⟩ | ⟨a, _⟩)⟩
  · simp [Xcs.all, ← a] at nd
  · simp [Xcs.all, ← a] at nd
  · exact ⟨dd, v, hd, b, c⟩
  all_goals (simp [Xcs.all, a] at nd)
theorem Inf.v (h : Inf x H d C cs) (e : C = x.CV) : ∃ dd v, d = some dd ∧ XdAt H dd [("part", v)] ∧ cs = [.str "volume", v] := by
  subst e
  rcases h with ⟨dd, v, hd, (⟨a, b, c⟩ | ⟨a, b, c⟩ | ⟨a, b, c⟩ | ⟨a, b, c⟩ | ⟨a, b, c⟩)⟩ | ⟨_, (⟨a, _⟩ | ⟨a, _⟩)⟩
  · simp [Xcs.all, ← a] at nd
  · simp [Xcs.all, ← a] at nd
  · simp [Xcs.all, ← a] at nd
  · exact ⟨dd, v, hd, b, c⟩
  all_goals (simp [Xcs.all, a] at nd)
theorem Inf.b (h : Inf x H d C cs) (e : C = x.CB) : ∃ dd v, d = some dd ∧ XdAt H dd [("page", v)] ∧ cs = [.str "blank", v] := by
  subst e
  rcases h with ⟨dd, v, hd, (⟨a, b, c⟩ | ⟨a, b, c⟩ | ⟨a, b, c⟩ | ⟨a, b, c⟩ | ⟨a, b, c⟩)⟩ | ⟨_, (⟨a, _⟩ | ⟨a, _⟩)⟩
  · simp [Xcs.all, ← a] at nd
  · simp [Xcs.all, ← a] at nd
  · simp [Xcs.all, ← a] at nd
  · simp [Xcs.all, ← a] at nd
  · exact ⟨dd, v, hd, b, c⟩
  all_goals (simp [Xcs.all, a] at nd)
theorem Inf.l (h : Inf x H d C cs) (e : C = x.CL) : cs = [.str "locked"] := by
  subst e
  rcases h with ⟨dd, v, hd, (⟨a, b, c⟩ | ⟨a, b, c⟩ | ⟨a, b, c⟩ | ⟨a, b, c⟩ | ⟨a, b, c⟩)⟩ | ⟨_, (⟨a, c⟩ | ⟨a, c⟩)⟩
  · simp [Xcs.all, ← a] at nd
  · simp [Xcs.all, ← a] at nd
  · simp [Xcs.all, ← a] at nd
  · simp [Xcs.all, ← a] at nd
  · simp [Xcs.all, ← a] at nd
  · exact c
  · simp [Xcs.all, a] at nd
theorem Inf.de (h : Inf x H d C cs) (e : C = x.CD) : cs = [.str "dead"] := by
  subst e
  rcases h with ⟨dd, v, hd, (⟨a, b, c⟩ | ⟨a, b, c⟩ | ⟨a, b, c⟩ | ⟨a, b, c⟩ | ⟨a, b, c⟩)⟩ | ⟨_, (⟨a, c⟩ | ⟨a, c⟩)⟩
  · simp [Xcs.all, ← a] at nd
  · simp [Xcs.all, ← a] at nd
  · simp [Xcs.all, ← a] at nd
  · simp [Xcs.all, ← a] at nd
  · simp [Xcs.all, ← a] at nd
  · simp [Xcs.all, ← a] at nd
  · exact c
end
/-- what _law_told makes of an exception -/
def XT (x : Xcs) (Q : VK) : XK := fun cls d H' => ∃ C cs, cls = .ref C ∧ Inf x H' d C cs ∧ ∀ p H'', Same H' H'' → H' p = none → H'' p = some (.tup cs) → Q (.ref p) H''
def TTk (x : Xcs) : Addr → Str → (XK → Hp → VK → Prop) → Hp → VK → Prop := fun c' q tl H Q =>
  ∀ (H0 : Hp) (E : XK) (K : VK), Same H H0 → (∀ cls d H', XT x Q cls d H' → E cls d H') → (∀ v H2, (∀ p, H2 p = none → Q (.ref p) (upd H2 p (.lst [v]))) → K v H2) → tl E H0 K
section
variable {K : PySem.W.Frag} {G : Hp} {Qf : VK} {te : TE} {a C Cx : Addr} {d : Option Addr} {u : Value} {x0 x2 x3 x4 x5 : Option V} {cs : List V}
theorem lc_no (ha : G a = some (exv a C d)) (hdd : ∀ dd, d = some dd → ∃ fs, XdAt G dd fs) (T : ExcC K C) (kc : ClsV (.ref Cx) u) (e : PySem.W.kitOne K (.ref C) u = some false) (q : ∀ L G', Same G G' → G L = none → G' L = some (.lst []) → Qf (.ref L) G') :
    tLc (iRng1 (tCons (tCB rIntA (tCons (tCB (rIsW K) (tCons (tVar 1) (tCons (tC (.ref Cx)) tNil))) tNil)) tNil)) (gName 5) tYes te [5] [x0, some (.ref a), x2, x3, x4, x5] G Qf := by
  walk_at "sx"
  refine ⟨a, C, d, .ref Cx, u, false, rfl, T, kc, ha, hdd, e, ?_⟩
  walk_at "sx"
  refine ⟨by decide, by decide, ?_⟩
  exact lc_all 0 (fun _ => .non) (by rw [sizeLine_eq]; omega) (fun i _ lt _ => absurd lt (Nat.not_lt_zero _)) (fun _ _ => Nat.le_refl _) (fun i _ _ _ _ lt => absurd lt (Nat.not_lt_zero _)) (fun L X hL s eL => q L X s hL eL)
theorem lc_yes (ha : G a = some (exv a C d)) (hdd : ∀ dd, d = some dd → ∃ fs, XdAt G dd fs) (T : ExcC K C) (kc : ClsV (.ref Cx) u) (e : PySem.W.kitOne K (.ref C) u = some true)
    (hte : ∀ (x : V) (G' : Hp) (K : VK), Same G G' → (∀ T, G' T = none → K (.ref T) (upd G' T (.tup cs))) → te [x0, some (.ref a), x2, x3, x4, some x] G' K)
    (q : ∀ L T G', Same G G' → G L = none → G' L = some (.lst [.ref T]) → G' T = some (.tup cs) → G T = none → Qf (.ref L) G') :
    tLc (iRng1 (tCons (tCB rIntA (tCons (tCB (rIsW K) (tCons (tVar 1) (tCons (tC (.ref Cx)) tNil))) tNil)) tNil)) (gName 5) tYes te [5] [x0, some (.ref a), x2, x3, x4, x5] G Qf := by
  walk_at "sx"
  refine ⟨a, C, d, .ref Cx, u, true, rfl, T, kc, ha, hdd, e, ?_⟩
  walk_at "sx"
  refine ⟨by decide, by decide, ?_⟩
  refine lc_invA 1 (fun D i acc X => Same G X ∧ ((i = 0 ∧ acc = []) ∨ (i = 1 ∧ ∃ T, acc = [.ref T] ∧ X T = some (.tup cs) ∧ G T = none))) (by rw [sizeLine_eq]; omega) (fun D hD => ⟨same_upd hD, .inl ⟨rfl, rfl⟩⟩) (fun D i acc X hD lt _ => lt) (fun D acc X hD _ => Nat.le_refl _) (fun D i acc X x X' K hD lt la pv eD yl k => ?_) (fun D acc X hD pv eD => ?_)
  · obtain ⟨sX, hp⟩ := pv
    obtain ⟨rfl, rfl⟩ := yl
    obtain rfl : i = 0 := by omega
    obtain ⟨_, rfl⟩ := hp.resolve_right (fun z => absurd z.1 (by decide))
    refine ⟨rfl, ?_⟩
    refine hte _ _ _ sX fun T hT => ?_
    have TD : T ≠ D := fun z => by rw [z, eD] at hT; cases hT
    have sT := same_upd (o := HO.tup cs) hT
    refine k _ _ (sT _ _ eD) ⟨fun b o e => ?_, .inr ⟨rfl, T, rfl, ?_, none_of_same sX hT⟩⟩
    · rw [upd_ne (ne_of_none e hD)]
      exact sT _ _ (sX _ _ e)
    · rw [upd_ne TD, upd_same]
  · obtain ⟨sX, hp⟩ := pv
    obtain ⟨_, T, rfl, hT, nT⟩ := hp.resolve_left (fun z => absurd z.1 (by decide))
    exact q D T X sX hD eD hT nT
/-- what has been told so far -/
def AccS (G2 : Hp) (cs : List V) (G : Hp) (L : Addr) : Bool → Prop
  | true => ∃ T, G L = some (.lst [.ref T]) ∧ G T = some (.tup cs) ∧ G2 T = none
  | false => G L = some (.lst [])
/-- the next class is asked -/
theorem st_any {G2 : Hp} {L : Addr} {b bb : Bool} {D : Ends} (s2 : Same G2 G) (ha : G2 a = some (exv a C d)) (hdd : ∀ dd, d = some dd → ∃ fs, XdAt G2 dd fs) (T : ExcC K C) (kc : ClsV (.ref Cx) u) (e : PySem.W.kitOne K (.ref C) u = some bb) (hL : AccS G2 cs G L b) (ex : bb = true → b = false)
    (hte : bb = true → ∀ (x : V) (G' : Hp) (K : VK), Same G2 G' → (∀ T, G' T = none → K (.ref T) (upd G' T (.tup cs))) → te [x0, some (.ref a), x2, x3, some (.ref L), some x] G' K)
    (q : ∀ L' G', Same G2 G' → AccS G2 cs G' L' (b || bb) → D.nx [x0, some (.ref a), x2, x3, some (.ref L'), x5] G') :
    tAsg (tOp (RS.rAdd K) (tVar 4) (tLc (iRng1 (tCons (tCB rIntA (tCons (tCB (rIsW K) (tCons (tVar 1) (tCons (tC (.ref Cx)) tNil))) tNil)) tNil)) (gName 5) tYes te [5])) (gName 4) D [x0, some (.ref a), x2, x3, some (.ref L), x5] G := by
  unfold tAsg tOp
  refine ⟨.ref L, rfl, ?_⟩
  have hddG : ∀ dd, d = some dd → ∃ fs, XdAt G dd fs := fun dd e => (hdd dd e).imp fun fs h => h.same s2
  cases bb with
  | false =>
    rw [Bool.or_false] at q
    refine lc_no (s2 _ _ ha) hddG T kc e fun L2 G' s nl el => ?_
    have hL0 := hL
    obtain ⟨xs, exs, hx⟩ : ∃ xs, G L = some (.lst xs) ∧ ∀ L' G', Same G G' → G' L' = some (.lst xs) → AccS G2 cs G' L' b := by
      cases b with
      | true =>
        obtain ⟨T, h1, h2, h3⟩ := hL
        exact ⟨_, h1, fun L' G' s h => ⟨T, h, s _ _ h2, h3⟩⟩
      | false => exact ⟨_, hL, fun L' G' s h => h⟩
    have lx : xs.length ≤ 1 := by
      cases b with
      | true =>
        obtain ⟨T, h1, _⟩ := hL0
        rw [h1] at exs; cases exs; simp
      | false =>
        have h1 : G L = some (.lst []) := hL0
        rw [h1] at exs; cases exs; simp
    rw [add_rr]
    refine .inl ⟨L, L2, xs, [], rfl, rfl, s _ _ exs, el, by rw [sizeLine_eq]; simp; omega, fun p hp => ?_⟩
    rw [List.append_nil]
    exact q p _ (s2.trans (s.trans (same_upd hp))) (hx p _ (s.trans (same_upd hp)) upd_same)
  | true =>
    have b0 := ex rfl
    subst b0
    refine lc_yes (s2 _ _ ha) hddG T kc e (fun x Z KK sz hz => hte rfl x Z KK (s2.trans sz) hz) fun L2 T' G' s nl el eT nT => ?_
    have hL0 : G L = some (.lst []) := hL
    rw [add_rr]
    refine .inl ⟨L, L2, [], [.ref T'], rfl, rfl, s _ _ hL0, el, by rw [sizeLine_eq]; simp, fun p hp => ?_⟩
    exact q p _ (s2.trans (s.trans (same_upd hp))) ⟨T', upd_same, (same_upd hp) _ _ eT, none_of_same s2 nT⟩
theorem st0_any {bb : Bool} {D : Ends} (ha : G a = some (exv a C d)) (hdd : ∀ dd, d = some dd → ∃ fs, XdAt G dd fs) (T : ExcC K C) (kc : ClsV (.ref Cx) u) (e : PySem.W.kitOne K (.ref C) u = some bb)
    (hte : bb = true → ∀ (x : V) (G' : Hp) (K : VK), Same G G' → (∀ T, G' T = none → K (.ref T) (upd G' T (.tup cs))) → te [x0, some (.ref a), x2, x3, x4, some x] G' K)
    (q : ∀ L' G', Same G G' → AccS G cs G' L' bb → D.nx [x0, some (.ref a), x2, x3, some (.ref L'), x5] G') :
    tAsg (tLc (iRng1 (tCons (tCB rIntA (tCons (tCB (rIsW K) (tCons (tVar 1) (tCons (tC (.ref Cx)) tNil))) tNil)) tNil)) (gName 5) tYes te [5]) (gName 4) D [x0, some (.ref a), x2, x3, x4, x5] G := by
  unfold tAsg
  cases bb with
  | false => exact lc_no ha hdd T kc e fun L2 G' s nl el => q L2 G' s el
  | true => exact lc_yes ha hdd T kc e (hte rfl) fun L2 T' G' s nl el eT nT => q L2 G' s ⟨T', el, eT, nT⟩
end
/-- what the text tells of the classes -/
structure XFs (g : Wd) (x : Xcs) : Prop where
  nd : x.all.Nodup
  ec : ∀ C ∈ x.all, ExcC g.K C
  kit : ∀ C ∈ x.all, ∀ D ∈ x.all, PySem.W.kitOne g.K (.ref C) (.ref D) = some (D == C)
  fn : XfC g.K x.CN ∧ PySem.W.findIn g.K (.ref x.CN) "given" = some none
  ft : XfC g.K x.CT ∧ PySem.W.findIn g.K (.ref x.CT) "position" = some none
  fk : XfC g.K x.CK ∧ PySem.W.findIn g.K (.ref x.CK) "given" = some none
  fv : XfC g.K x.CV ∧ PySem.W.findIn g.K (.ref x.CV) "part" = some none
  fb : XfC g.K x.CB ∧ PySem.W.findIn g.K (.ref x.CB) "page" = some none
section
variable {g : Wd} {fa : Addr} {fd : FuncData} {x : Xcs} {C1 C2 C3 : Addr} {dV : Value}
theorem sc_l_told : FnScope ["_law_call", "_law_caught", "_law_found", "error", "_law_told_here", "_law_turn"] ["_law_call"] (defScope s_l_told) := ⟨rfl, rfl, rfl, by decide +kernel, rfl, by decide +kernel, by decide +kernel⟩
theorem ok_told (F : Df g.K "_law_told" "_law_told" s_l_told fa fd .none) (T : Txt g) (hmg : g.mg "_law_told" = some (.ref fa)) (hb : Binds g.K fd ["_law_call"] [])
    (V_ShelfError : g.mg "ShelfError" = some (.ref C1)) (V_ShelfStateError : g.mg "ShelfStateError" = some (.ref C2)) (V_LimitError : g.mg "LimitError" = some (.ref C3))
    (V_InvalidNumber : Gv g "InvalidNumber" (.ref x.CN)) (V_InvalidText : Gv g "InvalidText" (.ref x.CT)) (V_InvalidKind : Gv g "InvalidKind" (.ref x.CK)) (V_InvalidVolume : Gv g "InvalidVolume" (.ref x.CV)) (V_NotBlank : Gv g "NotBlank" (.ref x.CB)) (V_Locked : Gv g "Locked" (.ref x.CL)) (V_Dead : Gv g "Dead" (.ref x.CD))
    (XF : XFs g x) (EX : ∀ C ∈ x.all, PySem.W.exmAny g.K (.ref C) [.ref C1, .ref C2, .ref C3] = some true) : Told g 10 "_law_told" (TTk x) := by
  refine ⟨s_l_told, fa, fd, "_law_call", ["_law_call", "_law_caught", "_law_found", "error", "_law_told_here", "_law_turn"], hmg, F, hb, sc_l_told, rfl, .inl rfl, by decide, by decide, fun cdv A outer s H Q f c' q tl hr act hc h => ?_⟩
  have N_ShelfError : Names (cx g ["_law_call", "_law_caught", "_law_found", "error", "_law_told_here", "_law_turn"] "_law_told" s_l_told fa cdv A outer s H fun _ _ _ => False) "ShelfError" (.ref C1) := ⟨rfl, by decide, .inl V_ShelfError⟩
  have N_ShelfStateError : Names (cx g ["_law_call", "_law_caught", "_law_found", "error", "_law_told_here", "_law_turn"] "_law_told" s_l_told fa cdv A outer s H fun _ _ _ => False) "ShelfStateError" (.ref C2) := ⟨rfl, by decide, .inl V_ShelfStateError⟩
  have N_LimitError : Names (cx g ["_law_call", "_law_caught", "_law_found", "error", "_law_told_here", "_law_turn"] "_law_told" s_l_told fa cdv A outer s H fun _ _ _ => False) "LimitError" (.ref C3) := ⟨rfl, by decide, .inl V_LimitError⟩
  refine ⟨_, (pss_mid (ps_asg (pe_tup (pa_cons pe_non (pa_cons (pe_lst pa_nil) pa_nil))) (g_tup (K := g.K) (n := 2) (pgs_cons (pg_name (i := 1) sc_l_told.nd rfl (.inr rfl)) (pgs_cons (pg_name (i := 2) sc_l_told.nd rfl (.inl rfl)) pgs_nil))))
      (pss_mid (ps_try_keep (i := 3) rfl rfl rfl sc_l_told.nd rfl rfl N_ShelfError N_ShelfStateError N_LimitError tkD (fun W pn xe tk1 po1 => (pss_one (ps_set (i := 2) sc_l_told.nd rfl (Or.inl rfl) (pe_lst (pa_cons (act _ _ _ _ _ tk1) pa_nil))))) (fun a oe cls d pn hz hf => (pss_one (ps_set (i := 1) sc_l_told.nd rfl (Or.inr rfl) (pv 3)))))
      (pss_mid (ps_if (pt_cmpR op_isN (pv 1) pe_non (nomark _)) (pss_one (ps_ret (pv 2))) pss_nil)
      (pss_mid (ps_setLc (i := 4) (own := [("_law_turn", 5)]) (tt := tYes) rfl sc_l_told.nd rfl rfl (sw_true rfl rfl rfl (by decide +kernel)) (pi_range1 rfl T.b_range (pa_cons (pe_callTy c_intA (by rfl) T.b_int bb_int (pa_cons (pe_callB (c_isW (K := g.K)) (by rfl) T.b_isinstance bb_isinstance (pa_cons (pv 1) (pa_cons (e_g V_InvalidNumber) pa_nil))) pa_nil)) pa_nil)) (blkOk_by (own := [("_law_turn", 5)]) (N := ["_law_call", "_law_caught", "_law_found", "error", "_law_told_here", "_law_turn"]) (sc := defScope s_l_told) (by decide +kernel)) (fun _ _ _ _ _ => (pg_name (i := 5) sc_l_told.nd rfl (.inl rfl))) (fun _ _ _ _ _ => pts_nil) (fun _ _ _ _ _ => (pe_tup (pa_cons pe_str (pa_cons (pe_xfa (g := g) (pv 1)) pa_nil)))))
      (pss_mid (ps_set (i := 4) sc_l_told.nd rfl (Or.inl rfl) (pe_op (o_add (K := g.K)) (pv 4) (pe_lc (own := [("_law_turn", 5)]) (tt := tYes) rfl sc_l_told.nd (pi_range1 rfl T.b_range (pa_cons (pe_callTy c_intA (by rfl) T.b_int bb_int (pa_cons (pe_callB (c_isW (K := g.K)) (by rfl) T.b_isinstance bb_isinstance (pa_cons (pv 1) (pa_cons (e_g V_InvalidText) pa_nil))) pa_nil)) pa_nil)) (blkOk_by (own := [("_law_turn", 5)]) (N := ["_law_call", "_law_caught", "_law_found", "error", "_law_told_here", "_law_turn"]) (sc := defScope s_l_told) (by decide +kernel)) (fun _ _ _ _ _ => (pg_name (i := 5) sc_l_told.nd rfl (.inl rfl))) (fun _ _ _ _ _ => pts_nil) (fun _ _ _ _ _ => (pe_tup (pa_cons pe_str (pa_cons (pe_xfa (g := g) (pv 1)) pa_nil)))))))
      (pss_mid (ps_set (i := 4) sc_l_told.nd rfl (Or.inl rfl) (pe_op (o_add (K := g.K)) (pv 4) (pe_lc (own := [("_law_turn", 5)]) (tt := tYes) rfl sc_l_told.nd (pi_range1 rfl T.b_range (pa_cons (pe_callTy c_intA (by rfl) T.b_int bb_int (pa_cons (pe_callB (c_isW (K := g.K)) (by rfl) T.b_isinstance bb_isinstance (pa_cons (pv 1) (pa_cons (e_g V_InvalidKind) pa_nil))) pa_nil)) pa_nil)) (blkOk_by (own := [("_law_turn", 5)]) (N := ["_law_call", "_law_caught", "_law_found", "error", "_law_told_here", "_law_turn"]) (sc := defScope s_l_told) (by decide +kernel)) (fun _ _ _ _ _ => (pg_name (i := 5) sc_l_told.nd rfl (.inl rfl))) (fun _ _ _ _ _ => pts_nil) (fun _ _ _ _ _ => (pe_tup (pa_cons pe_str (pa_cons (pe_xfa (g := g) (pv 1)) pa_nil)))))))
      (pss_mid (ps_set (i := 4) sc_l_told.nd rfl (Or.inl rfl) (pe_op (o_add (K := g.K)) (pv 4) (pe_lc (own := [("_law_turn", 5)]) (tt := tYes) rfl sc_l_told.nd (pi_range1 rfl T.b_range (pa_cons (pe_callTy c_intA (by rfl) T.b_int bb_int (pa_cons (pe_callB (c_isW (K := g.K)) (by rfl) T.b_isinstance bb_isinstance (pa_cons (pv 1) (pa_cons (e_g V_InvalidVolume) pa_nil))) pa_nil)) pa_nil)) (blkOk_by (own := [("_law_turn", 5)]) (N := ["_law_call", "_law_caught", "_law_found", "error", "_law_told_here", "_law_turn"]) (sc := defScope s_l_told) (by decide +kernel)) (fun _ _ _ _ _ => (pg_name (i := 5) sc_l_told.nd rfl (.inl rfl))) (fun _ _ _ _ _ => pts_nil) (fun _ _ _ _ _ => (pe_tup (pa_cons pe_str (pa_cons (pe_xfa (g := g) (pv 1)) pa_nil)))))))
      (pss_mid (ps_set (i := 4) sc_l_told.nd rfl (Or.inl rfl) (pe_op (o_add (K := g.K)) (pv 4) (pe_lc (own := [("_law_turn", 5)]) (tt := tYes) rfl sc_l_told.nd (pi_range1 rfl T.b_range (pa_cons (pe_callTy c_intA (by rfl) T.b_int bb_int (pa_cons (pe_callB (c_isW (K := g.K)) (by rfl) T.b_isinstance bb_isinstance (pa_cons (pv 1) (pa_cons (e_g V_NotBlank) pa_nil))) pa_nil)) pa_nil)) (blkOk_by (own := [("_law_turn", 5)]) (N := ["_law_call", "_law_caught", "_law_found", "error", "_law_told_here", "_law_turn"]) (sc := defScope s_l_told) (by decide +kernel)) (fun _ _ _ _ _ => (pg_name (i := 5) sc_l_told.nd rfl (.inl rfl))) (fun _ _ _ _ _ => pts_nil) (fun _ _ _ _ _ => (pe_tup (pa_cons pe_str (pa_cons (pe_xfa (g := g) (pv 1)) pa_nil)))))))
      (pss_mid (ps_set (i := 4) sc_l_told.nd rfl (Or.inl rfl) (pe_op (o_add (K := g.K)) (pv 4) (pe_lc (own := [("_law_turn", 5)]) (tt := tYes) rfl sc_l_told.nd (pi_range1 rfl T.b_range (pa_cons (pe_callTy c_intA (by rfl) T.b_int bb_int (pa_cons (pe_callB (c_isW (K := g.K)) (by rfl) T.b_isinstance bb_isinstance (pa_cons (pv 1) (pa_cons (e_g V_Locked) pa_nil))) pa_nil)) pa_nil)) (blkOk_by (own := [("_law_turn", 5)]) (N := ["_law_call", "_law_caught", "_law_found", "error", "_law_told_here", "_law_turn"]) (sc := defScope s_l_told) (by decide +kernel)) (fun _ _ _ _ _ => (pg_name (i := 5) sc_l_told.nd rfl (.inl rfl))) (fun _ _ _ _ _ => pts_nil) (fun _ _ _ _ _ => (pe_tup (pa_cons pe_str pa_nil))))))
      (pss_mid (ps_set (i := 4) sc_l_told.nd rfl (Or.inl rfl) (pe_op (o_add (K := g.K)) (pv 4) (pe_lc (own := [("_law_turn", 5)]) (tt := tYes) rfl sc_l_told.nd (pi_range1 rfl T.b_range (pa_cons (pe_callTy c_intA (by rfl) T.b_int bb_int (pa_cons (pe_callB (c_isW (K := g.K)) (by rfl) T.b_isinstance bb_isinstance (pa_cons (pv 1) (pa_cons (e_g V_Dead) pa_nil))) pa_nil)) pa_nil)) (blkOk_by (own := [("_law_turn", 5)]) (N := ["_law_call", "_law_caught", "_law_found", "error", "_law_told_here", "_law_turn"]) (sc := defScope s_l_told) (by decide +kernel)) (fun _ _ _ _ _ => (pg_name (i := 5) sc_l_told.nd rfl (.inl rfl))) (fun _ _ _ _ _ => pts_nil) (fun _ _ _ _ _ => (pe_tup (pa_cons pe_str pa_nil))))))
      (pss_one (ps_ret (pe_ifExp (pt_cmpR (o_eq (K := g.K) hr) (pe_callB (c_len (K := g.K)) (by rfl) T.b_len bb_len (pa_cons (pv 4) pa_nil)) pe_int (nomark _)) (pe_ix (o_ix (K := g.K)) (pv 4) pe_int (fun _ _ => rfl)) (pe_tup (pa_cons pe_str (pa_cons (pe_callB (c_len (K := g.K)) (by rfl) T.b_len bb_len (pa_cons (pv 4) pa_nil)) pa_nil)))))))))))))))), ?_⟩
  refine mid_at (fun σ G => ∃ p0, σ = [some (.ref f), some .non, some (.ref p0), none, none, none] ∧ Same H G) ?_ ?_
  · walk_at "sx"
    intro p hp T hT
    refine ⟨_, SqT.of upd_same, rfl, _, _, rfl, _, _, rfl, rfl, rfl, p, rfl, (same_upd hp).trans (same_upd hT)⟩
  rintro _ G ⟨p0, rfl, sG⟩
  refine mid_at (fun σ G2 => (∃ p, σ = [some (.ref f), some .non, some (.ref p), none, none, none] ∧ Q (.ref p) G2) ∨ ∃ a C d cs H', σ = [some (.ref f), some (.ref a), some (.ref p0), none, none, none] ∧ G2 a = some (exv a C d) ∧ Same H' G2 ∧ H' a = none ∧ Inf x G2 d C cs ∧ ∀ p H'', Same H' H'' → H' p = none → H'' p = some (.tup cs) → Q (.ref p) H'') ?_ ?_
  · walk_at "sx"
    refine ⟨sG _ _ hc, h G _ _ sG (fun cls d H' hx => ?_) (fun v H2 hq p hp => hq p hp)⟩
    obtain ⟨C, cs, rfl, inf, k⟩ := hx
    unfold wKeep
    refine ⟨true, EX C inf.mem, fun _ => ⟨C, rfl, fun a ha => ?_⟩, fun z => by cases z⟩
    walk_at "sx"
    intro ha2
    exact ⟨C, d, rfl, cs, H', same_upd ha, ha, inf.same (same_upd ha), k⟩
  rintro _ G2 (⟨p, rfl, hq⟩ | ⟨a, C, d, cs, H', rfl, ha, sH, nH, inf, k⟩)
  · refine mid_at (fun _ _ => False) ?_ (fun _ _ z => z.elim)
    walk_at "sx"
    exact hq
  refine mid_one [some (.ref f), some (.ref a), some (.ref p0), none, none, none] (fun G3 => G3 = G2) ?_ ?_
  · walk_at "sx"
  intro G3 e0
  rw [e0]; clear e0 G3
  have XC := XF.ec C inf.mem
  have nd := XF.nd
  have kit : ∀ D ∈ x.all, PySem.W.kitOne g.K (.ref C) (.ref D) = some (D == C) := XF.kit C inf.mem
  have xd := inf.xd
  refine mid_at (fun σ Y => ∃ L, σ = [some (.ref f), some (.ref a), some (.ref p0), none, some (.ref L), none] ∧ Same G2 Y ∧ AccS G2 cs Y L (x.CN == C)) ?_ ?_
  · refine st0_any ha xd XC (.own _) (kit x.CN (by simp [Xcs.all])) (fun eb v Z KK sz hz => ?_) fun L' Y s' h' => ⟨L', rfl, s', h'⟩
    have ec := (beq_iff_eq.mp eb).symm
    obtain ⟨dd, w, rfl, hx, rfl⟩ := inf.n nd ec
    subst ec
    walk_at "sx"
    exact ⟨_, _, sz _ _ ha, _, hx.same sz, _, by rw [lk_cons, if_pos rfl], XF.fn.1, XF.fn.2, hz⟩
  rintro _ R0 ⟨L0, rfl, s0, a0⟩
  refine mid_at (fun σ Y => ∃ L, σ = [some (.ref f), some (.ref a), some (.ref p0), none, some (.ref L), none] ∧ Same G2 Y ∧ AccS G2 cs Y L ((x.CN == C) || (x.CT == C))) ?_ ?_
  · refine st_any s0 ha xd XC (.own _) (kit x.CT (by simp [Xcs.all])) a0 (fun eb => ?_) (fun eb v Z KK sz hz => ?_) fun L' Y s' h' => ⟨L', rfl, s', h'⟩
    · have ec := (beq_iff_eq.mp eb).symm
      subst ec
      unfold Xcs.all at nd
      simp at nd ⊢
      simp [nd]
    have ec := (beq_iff_eq.mp eb).symm
    obtain ⟨dd, w, rfl, hx, rfl⟩ := inf.t nd ec
    subst ec
    walk_at "sx"
    exact ⟨_, _, sz _ _ ha, _, hx.same sz, _, by rw [lk_cons, if_pos rfl], XF.ft.1, XF.ft.2, hz⟩
  rintro _ R1 ⟨L1, rfl, s1, a1⟩
  refine mid_at (fun σ Y => ∃ L, σ = [some (.ref f), some (.ref a), some (.ref p0), none, some (.ref L), none] ∧ Same G2 Y ∧ AccS G2 cs Y L (((x.CN == C) || (x.CT == C)) || (x.CK == C))) ?_ ?_
  · refine st_any s1 ha xd XC (.own _) (kit x.CK (by simp [Xcs.all])) a1 (fun eb => ?_) (fun eb v Z KK sz hz => ?_) fun L' Y s' h' => ⟨L', rfl, s', h'⟩
    · have ec := (beq_iff_eq.mp eb).symm
      subst ec
      unfold Xcs.all at nd
      simp at nd ⊢
      simp [nd]
    have ec := (beq_iff_eq.mp eb).symm
    obtain ⟨dd, w, rfl, hx, rfl⟩ := inf.k nd ec
    subst ec
    walk_at "sx"
    exact ⟨_, _, sz _ _ ha, _, hx.same sz, _, by rw [lk_cons, if_pos rfl], XF.fk.1, XF.fk.2, hz⟩
  rintro _ R2 ⟨L2, rfl, s2, a2⟩
  refine mid_at (fun σ Y => ∃ L, σ = [some (.ref f), some (.ref a), some (.ref p0), none, some (.ref L), none] ∧ Same G2 Y ∧ AccS G2 cs Y L ((((x.CN == C) || (x.CT == C)) || (x.CK == C)) || (x.CV == C))) ?_ ?_
  · refine st_any s2 ha xd XC (.own _) (kit x.CV (by simp [Xcs.all])) a2 (fun eb => ?_) (fun eb v Z KK sz hz => ?_) fun L' Y s' h' => ⟨L', rfl, s', h'⟩
    · have ec := (beq_iff_eq.mp eb).symm
      subst ec
      unfold Xcs.all at nd
      simp at nd ⊢
      simp [nd]
    have ec := (beq_iff_eq.mp eb).symm
    obtain ⟨dd, w, rfl, hx, rfl⟩ := inf.v nd ec
    subst ec
    walk_at "sx"
    exact ⟨_, _, sz _ _ ha, _, hx.same sz, _, by rw [lk_cons, if_pos rfl], XF.fv.1, XF.fv.2, hz⟩
  rintro _ R3 ⟨L3, rfl, s3, a3⟩
  refine mid_at (fun σ Y => ∃ L, σ = [some (.ref f), some (.ref a), some (.ref p0), none, some (.ref L), none] ∧ Same G2 Y ∧ AccS G2 cs Y L (((((x.CN == C) || (x.CT == C)) || (x.CK == C)) || (x.CV == C)) || (x.CB == C))) ?_ ?_
  · refine st_any s3 ha xd XC (.own _) (kit x.CB (by simp [Xcs.all])) a3 (fun eb => ?_) (fun eb v Z KK sz hz => ?_) fun L' Y s' h' => ⟨L', rfl, s', h'⟩
    · have ec := (beq_iff_eq.mp eb).symm
      subst ec
      unfold Xcs.all at nd
      simp at nd ⊢
      simp [nd]
    have ec := (beq_iff_eq.mp eb).symm
    obtain ⟨dd, w, rfl, hx, rfl⟩ := inf.b nd ec
    subst ec
    walk_at "sx"
    exact ⟨_, _, sz _ _ ha, _, hx.same sz, _, by rw [lk_cons, if_pos rfl], XF.fb.1, XF.fb.2, hz⟩
  rintro _ R4 ⟨L4, rfl, s4, a4⟩
  refine mid_at (fun σ Y => ∃ L, σ = [some (.ref f), some (.ref a), some (.ref p0), none, some (.ref L), none] ∧ Same G2 Y ∧ AccS G2 cs Y L ((((((x.CN == C) || (x.CT == C)) || (x.CK == C)) || (x.CV == C)) || (x.CB == C)) || (x.CL == C))) ?_ ?_
  · refine st_any s4 ha xd XC (.own _) (kit x.CL (by simp [Xcs.all])) a4 (fun eb => ?_) (fun eb v Z KK sz hz => ?_) fun L' Y s' h' => ⟨L', rfl, s', h'⟩
    · have ec := (beq_iff_eq.mp eb).symm
      subst ec
      unfold Xcs.all at nd
      simp at nd ⊢
      simp [nd]
    have ec := (beq_iff_eq.mp eb).symm
    have ee := inf.l nd ec
    subst ee
    walk_at "sx"
    exact hz
  rintro _ R5 ⟨L5, rfl, s5, a5⟩
  refine mid_at (fun σ Y => ∃ L, σ = [some (.ref f), some (.ref a), some (.ref p0), none, some (.ref L), none] ∧ Same G2 Y ∧ AccS G2 cs Y L (((((((x.CN == C) || (x.CT == C)) || (x.CK == C)) || (x.CV == C)) || (x.CB == C)) || (x.CL == C)) || (x.CD == C))) ?_ ?_
  · refine st_any s5 ha xd XC (.own _) (kit x.CD (by simp [Xcs.all])) a5 (fun eb => ?_) (fun eb v Z KK sz hz => ?_) fun L' Y s' h' => ⟨L', rfl, s', h'⟩
    · have ec := (beq_iff_eq.mp eb).symm
      subst ec
      unfold Xcs.all at nd
      simp at nd ⊢
      simp [nd]
    have ec := (beq_iff_eq.mp eb).symm
    have ee := inf.de nd ec
    subst ee
    walk_at "sx"
    exact hz
  rintro _ R6 ⟨L6, rfl, s6, a6⟩
  have tt : (((((((x.CN == C) || (x.CT == C)) || (x.CK == C)) || (x.CV == C)) || (x.CB == C)) || (x.CL == C)) || (x.CD == C)) = true := by
    have := inf.mem
    unfold Xcs.all at this
    simp only [List.mem_cons, List.not_mem_nil, or_false] at this
    rcases this with e | e | e | e | e | e | e <;> simp [e]
  rw [tt] at a6
  obtain ⟨TT, t1, t2, t3⟩ := a6
  walk_at "sx"
  refine .inl ⟨_, .inl (SqL.of t1), ?_⟩
  rw [if_pos (by simp)]
  exact ⟨_, .inl (SqL.of t1), .ref TT, rfl, k TT R6 (sH.trans s6) (none_of_same sH t3) t2⟩
end


/-! claims; what is refused; several writes; == -/
theorem lk_tk {d w : Addr} {ep : Int} {tk : Bool} : List.lookup (Str.ofString "is_taken") (vfs d w ep tk) = some (.bl tk) := by
  rw [lk_cons, if_neg (by decide +kernel), lk_cons, if_neg (by decide +kernel), lk_cons, if_neg (by decide +kernel), lk_cons, if_pos rfl]
/-- a volume with its epoch and its claim -/
theorem Vol.at {C : Addr} {H : Hp} {y d w : Addr} {f : Pg} {rows : List Row} {e : Int} {k : Bool} (h : Vol C H y d w f rows) (t : EtIs H y e k) : ∃ dy kvs ws, VolX C H y dy d w e k kvs ws f rows := by
  obtain ⟨dy, ep, tk, kvs, ws, hv⟩ := h
  obtain ⟨rfl, rfl⟩ := t.uni hv.hy
  exact ⟨dy, kvs, ws, hv⟩
theorem VolX.setT {C : Addr} {H : Hp} {y dy d w : Addr} {ep : Int} {tk tk' : Bool} {kvs : List (Key × V)} {ws : List V} {f : Pg} {rows : List Row} (h : VolX C H y dy d w ep tk kvs ws f rows) : VolX C (upd H y (.ins C dy (vfs d w ep tk'))) y dy d w ep tk' kvs ws f rows := by
  obtain ⟨n1, n2, n3⟩ := h.ne1
  exact ⟨upd_same, by rw [upd_ne (Ne.symm n1)]; exact h.hd, by rw [upd_ne (Ne.symm n2)]; exact h.hw, h.pr, h.ra.fr (Fr1.upd (fp := [y, d, w]) (by simp)) h.nt, h.fin, h.rf⟩
theorem eq_rowsL {K : PySem.W.Frag} {H : Hp} {Q : VK} {a p : Addr} {rows : List Row} {ws ws' : List V} (rf : RowsF rows) (r1 : RowsAt H ws rows) (r2 : RowsAt H ws' rows) (h : H a = some (.lst ws)) (hp : H p = some (.lst ws')) (q : Q (.bl true) H) : rEqD K (.ref a) (.ref p) H Q := by
  have sh : SeqAt.shaped (.list (rows.map rowD)) = true := by
    have h := lay_rows rows rf
    have h2 := h.2
    refine Bool.and_eq_true_iff.mpr ⟨by simp only [PyData.canLay0]; exact h.1, decide_eq_true ?_⟩
    have e : PyData.depth (.list (rows.map rowD)) = PyData.depthAll (rows.map rowD) + 1 := by simp only [PyData.depth]; try omega
    rw [e]
    omega
  refine ⟨_, _, .lst (SqL.of h) (dp_rows r1), .lst (SqL.of hp) (dp_rows r2), sh, sh, ?_⟩
  have e : PyData.eqv (.list (rows.map rowD)) (.list (rows.map rowD)) = true := by simp only [PyData.eqv]; exact eqv_rows rows
  rw [e]; exact q
section
variable {g : Wd} {fa : Addr} {fd : FuncData} {C_Volume CN CT CK CB CL : Addr} {dV : Value}
/-- the first number with which a volume cannot crash -/
def noutW (rows : List Row) (k j : Nat) : Option Nat := if rows.length < k then some k else
  if j = 0 then none else match rows[k]? with
    | some r => if j < r.2.2.length then none else some j
    | none => some j
theorem noutW_none {rows : List Row} {k j : Nat} (h : noutW rows k j = none) : k ≤ rows.length ∧ TornOk rows k j := by
  unfold noutW at h
  split at h
  · cases h
  rename_i h1
  refine ⟨by omega, ?_⟩
  split at h
  · rename_i z; exact .inl z
  · split at h
    · rename_i r e
      split at h
      · rename_i lt; exact .inr ⟨r, e, lt⟩
      · cases h
    · cases h
def sp_noutX (C CN : Addr) : Sp := S3 fun z n t H Q E => ∃ y d w f rows k j v, z = .ref y ∧ n = .int (k : Nat) ∧ t = .int (j : Nat) ∧ Vol C H y d w f rows ∧ rows.length ≤ 1000 ∧ noutW rows k j = some v ∧ ∀ dd, H dd = none → E (.ref CN) (some dd) (upd H dd (.xd [("given", .int (v : Nat))]))
theorem ok_noutX (F : Df g.K "need_outcome" "Volume.need_outcome" s_Volume_need_outcome fa fd .none) (T : Txt g) (R : VF g C_Volume) (F_is_whole : Kn g "is_whole" 1 ["value", "least", "most"] [] sp_whole) (X_InvalidNumber : XK1 g "InvalidNumber" CN "given") (RI : PySem.W.subIn g.K (.ref CN) (.type "BaseException") = some true ∧ PySem.W.typeIn g.K (.ref CN) = some (.type "type")) : FnG g 3 fa fd ["self", "keep", "torn"] (sp_noutX C_Volume CN) := by
  refine F.ok sc_Volume_need_outcome (fun vs H Q E h => S3.len h) (fun cdv A outer s H vs Q E hr h => ?_)
  obtain ⟨_, _, _, rfl, y, d, w, f, rows, k, j, v, rfl, rfl, rfl, hV, hN, hv0, q⟩ := h
  have R_InvalidNumber := raises_own (X := cx g ["self", "keep", "torn", "most"] "Volume.need_outcome" s_Volume_need_outcome fa cdv A outer s H E) RI.1 RI.2
  refine ⟨_, (pss_cons (ps_if (pt_not (pt_val (pe_callG F_is_whole (hr.mono (by first | decide | omega)) tkD (pa_cons (pv 1) (pa_cons pe_int (pa_cons (pe_callB (c_len (K := g.K)) (by rfl) T.b_len bb_len (pa_cons (e_fld (K := g.K) (pv 0)) pa_nil)) pa_nil)))))) (pss_one (ps_raise rfl tkD (pmk_x1 X_InvalidNumber R_InvalidNumber (hr.mono (by first | decide | omega)) (pa_cons (pv 1) pa_nil)))) pss_nil)
      (pss_cons (ps_set (i := 3) sc_Volume_need_outcome.nd rfl (Or.inl rfl) (pe_ifExp (pt_cmpR op_lt (pv 1) (pe_callB (c_len (K := g.K)) (by rfl) T.b_len bb_len (pa_cons (e_fld (K := g.K) (pv 0)) pa_nil)) (nomark _)) (pe_op op_sub (pe_callB (c_len (K := g.K)) (by rfl) T.b_len bb_len (pa_cons (pe_ix (o_ix (K := g.K)) (pe_ix (o_ix (K := g.K)) (e_fld (K := g.K) (pv 0)) (pv 1) (fun _ _ => rfl)) pe_int (fun _ _ => rfl)) pa_nil)) pe_int) pe_int))
      (pss_one (ps_if (pt_not (pt_val (pe_callG F_is_whole (hr.mono (by first | decide | omega)) tkD (pa_cons (pv 2) (pa_cons pe_int (pa_cons (pe_callB (call_max2 rfl) (by rfl) T.b_max (by decide +kernel) (pa_cons pe_int (pa_cons (pv 3) pa_nil))) pa_nil)))))) (pss_one (ps_raise rfl tkD (pmk_x1 X_InvalidNumber R_InvalidNumber (hr.mono (by first | decide | omega)) (pa_cons (pv 2) pa_nil)))) pss_nil)))), ?_⟩
  have ⟨dy, ep, tk, kvs, ws, hv⟩ := hV
  have hy := hv.hy
  have lw := hv.ra.1
  walk_at "sx"
  refine ⟨_, _, _, hy, R.cls, R.n2, _, lk_wt, ?_⟩
  rw [len_r]
  refine .inl ⟨ws, .inl (SqL.of hv.hw), _, _, _, rfl, _, _, _, rfl, rfl, rfl, _, rfl, ?_⟩
  unfold noutW at hv0
  by_cases c1 : rows.length < k
  · rw [if_pos c1] at hv0
    cases hv0
    rw [if_pos (by simp; omega)]
    exact q
  rw [if_neg c1] at hv0
  rw [if_neg (by simp; omega)]
  by_cases j0 : j = 0
  · rw [if_pos j0] at hv0; cases hv0
  rw [if_neg j0] at hv0
  refine ⟨_, _, _, hy, R.cls, R.n2, _, lk_wt, ?_⟩
  rw [len_r]
  refine .inl ⟨ws, .inl (SqL.of hv.hw), _, rfl, ?_⟩
  by_cases lt : k < rows.length
  · rw [if_pos (by simp; omega)]
    obtain ⟨t, e1, e2⟩ := hv.ra.2 k rows[k] (List.getElem?_eq_getElem lt)
    have rf := hv.rf _ (List.getElem_mem lt)
    rw [List.getElem?_eq_getElem lt] at hv0
    simp only at hv0
    split at hv0
    · cases hv0
    rename_i nlt
    cases hv0
    refine ⟨_, _, _, hy, R.cls, R.n2, _, lk_wt, ?_⟩
    rw [ix_r]
    refine ⟨ws, .inl (SqL.of hv.hw), _, atI_nat e1, ?_⟩
    rw [ix_r]
    refine ⟨_, .inr (SqT.of e2), _, rfl, ?_⟩
    rw [len_s]
    refine ⟨by rw [sizeLine_eq]; have := rf.l2.1; omega, _, rfl, _, _, _, rfl, _, _, _, rfl, rfl, rfl, _, rfl, ?_⟩
    rw [if_pos]
    · exact q
    · simp only [Bool.not_eq_true', decide_eq_false_iff_not]
      split <;> omega
  · rw [if_neg (by simp; omega)]
    rw [List.getElem?_eq_none (by omega)] at hv0
    cases hv0
    refine ⟨_, _, _, rfl, _, _, _, rfl, rfl, rfl, _, rfl, ?_⟩
    rw [if_pos (by simp; omega)]
    exact q
def sp_crashX (C CN : Addr) : Sp := S3 fun z n t H Q E => ∃ y d w f rows k j v, z = .ref y ∧ n = .int (k : Nat) ∧ t = .int (j : Nat) ∧ Vol C H y d w f rows ∧ rows.length ≤ 1000 ∧ noutW rows k j = some v ∧ ∀ dd, H dd = none → E (.ref CN) (some dd) (upd H dd (.xd [("given", .int (v : Nat))]))
theorem ok_crashX (F : Df g.K "crash" "Volume.crash" s_Volume_crash fa fd dV) (T : Txt g) (R : VF g C_Volume) (CL_Volume : Cls g.K C_Volume) (M_Volume_need_outcome : Km g C_Volume "need_outcome" 3 ["self", "keep", "torn"] [] (sp_noutX C_Volume CN)) (M_Volume_set_text : Km g C_Volume "set_text" 1 ["self", "number", "text"] [] (sp_set C_Volume)) : FnG g 4 fa fd ["self", "keep", "torn"] (sp_crashX C_Volume CN) := by
  refine F.ok sc_Volume_crash (fun vs H Q E h => S3.len h) (fun cdv A outer s H vs Q E hr h => ?_)
  obtain ⟨_, _, _, rfl, y, d, w, f, rows, k, j, v, rfl, rfl, rfl, hV, hN, hv0, q⟩ := h
  refine ⟨_, (pss_mid (ps_expr (pe_methG (pv 0) CL_Volume M_Volume_need_outcome (hr.mono (by first | decide | omega)) tkD (pa_cons (pv 1) (pa_cons (pv 2) pa_nil))))
      (pss_cons (ps_set (i := 3) sc_Volume_crash.nd rfl (Or.inl rfl) (pe_slice (o_sl (K := g.K)) (e_fld (K := g.K) (pv 0)) (po_some (pv 1)) po_none))
      (pss_cons (ps_for psD rfl (i_list (K := g.K) (e_revL (K := g.K) (pv 3))) (g_tup (K := g.K) (n := 3) (pgs_cons (pg_name (i := 4) sc_Volume_crash.nd rfl (.inl rfl)) (pgs_cons (pg_name (i := 5) sc_Volume_crash.nd rfl (.inl rfl)) (pgs_cons (pg_name (i := 6) sc_Volume_crash.nd rfl (.inl rfl)) pgs_nil)))) (pss_one (ps_expr (pe_methG (pv 0) CL_Volume M_Volume_set_text (hr.mono (by first | decide | omega)) tkD (pa_cons (pv 4) (pa_cons (pv 5) pa_nil))))))
      (pss_cons (ps_if (pt_cmpR op_gt (pv 2) pe_int (nomark _)) (pss_one (ps_expr (pe_methG (pv 0) CL_Volume M_Volume_set_text (hr.mono (by first | decide | omega)) tkD (pa_cons (pe_ix (o_ix (K := g.K)) (pe_ix (o_ix (K := g.K)) (pv 3) pe_int (fun _ _ => rfl)) pe_int (fun _ _ => rfl)) (pa_cons (pe_slice (o_sl (K := g.K)) (pe_ix (o_ix (K := g.K)) (pe_ix (o_ix (K := g.K)) (pv 3) pe_int (fun _ _ => rfl)) pe_int (fun _ _ => rfl)) po_none (po_some (pv 2))) pa_nil))))) pss_nil)
      (pss_cons (s_fld (K := g.K) (pv 0) (pe_lst pa_nil))
      (pss_cons (s_fldaug (K := g.K) (pv 0) pe_int in_add)
      (pss_one (s_fld (K := g.K) (pv 0) pe_bl)))))))), ?_⟩
  have ⟨dy, ep, tk, kvs, ws, hv⟩ := hV
  refine mid_at (fun _ _ => False) ?_ (fun _ _ z => z.elim)
  walk_at "sx"
  exact ⟨_, _, hv.hy, lk_no, _, _, _, rfl, y, d, w, f, rows, k, j, v, rfl, rfl, rfl, hV, hN, hv0, q⟩
theorem sc_Volume__eq : FnScope ["self", "other"] ["self", "other"] (defScope s_Volume__eq) := ⟨rfl, rfl, rfl, by decide +kernel, rfl, by decide +kernel, by decide +kernel⟩
/-- == of volumes with the same pages and rows -/
def sp_eqT (C : Addr) : Sp := S2 fun z o H Q E => ∃ y d w y2 d2 w2 f rows, z = .ref y ∧ o = .ref y2 ∧ Vol C H y d w f rows ∧ Vol C H y2 d2 w2 f rows ∧ rows.length ≤ 1000 ∧ Q (.bl true) H
theorem ok_eqT (F : Df g.K "__eq__" "Volume.__eq__" s_Volume__eq fa fd .none) (T : Txt g) (R : VF g C_Volume) (V_Volume : Gv g "Volume" (.ref C_Volume)) (IV : C8.InsC g.K C_Volume) (KV : PySem.W.kitOne g.K (.ref C_Volume) (.ref C_Volume) = some true) : FnG g 2 fa fd ["self", "other"] (sp_eqT C_Volume) := by
  refine F.ok sc_Volume__eq (fun vs H Q E h => S2.len h) (fun cdv A outer s H vs Q E hr h => ?_)
  obtain ⟨_, _, rfl, y, d, w, y2, d2, w2, f, rows, rfl, rfl, hV, hV2, rl, q⟩ := h
  refine ⟨_, (pss_mid (ps_if (pt_not (pt_val (pe_callB (c_isi (K := g.K)) (by rfl) T.b_isinstance bb_isinstance (pa_cons (pv 1) (pa_cons (e_g V_Volume) pa_nil))))) (pss_one (ps_ret pe_bl)) pss_nil)
      (pss_one (ps_ret (pe_and (pe_cmpR (o_eqV (K := g.K) hr) (e_fld (K := g.K) (pv 0)) (e_fld (K := g.K) (pv 1)) (nomark _)) (pe_one (pe_cmpR (o_eq (K := g.K) hr) (e_fld (K := g.K) (pv 0)) (e_fld (K := g.K) (pv 1)) (nomark _))))))), ?_⟩
  have ⟨dy, ep, tk, kvs, ws, hv⟩ := hV
  have ⟨dy2, ep2, tk2, kvs2, ws2, hv2⟩ := hV2
  refine mid_one [some (.ref y), some (.ref y2)] (fun G => G = H) ?_ ?_
  · walk_at "sx"
    refine isi_ins IV hv2.hy KV ?_
    simp
  intro G e0
  rw [e0]; clear e0 G
  walk_at "sx"
  refine ⟨_, _, _, hv.hy, R.cls, R.n1, _, lk_pt, _, _, _, hv2.hy, R.cls, R.n1, _, lk_pt, 1, by decide, .inr ⟨d, d2, kvs, kvs2, rfl, rfl, hv.hd, hv2.hd, ?_, ?_⟩, _, rfl, ?_⟩
  · have e1 : (numsOf kvs).length = (numsOf kvs2).length := ((List.perm_ext_iff_of_nodup hv.pr.nodup_nums hv2.pr.nodup_nums).mpr fun n => hv.pr.mem_nums.trans hv2.pr.mem_nums.symm).length_eq
    simpa [numsOf] using e1
  · rintro ⟨k, v⟩ hp
    obtain ⟨i, hi⟩ := List.getElem?_of_mem hp
    obtain ⟨n, e, nf⟩ := hv.pr.key hi
    cases e
    exact ⟨.str (f n), by rw [hv2.pr.val, if_neg nf], .inl ⟨rfl, rfl⟩⟩
  rw [if_pos rfl]
  refine ⟨_, _, _, hv.hy, R.cls, R.n2, _, lk_wt, _, _, _, hv2.hy, R.cls, R.n2, _, lk_wt, ?_⟩
  rw [eq_rr]
  exact eq_rowsL hv.rf hv.ra hv2.ra hv.hw hv2.hw q
/-! several writes -/
/-- the page that is not blank -/
def wscan (f : Pg) : Pg → List (Int × Str) → Option Int
  | _, [] => none
  | sg, (n, t) :: r => if f n ≠ nil_ ∨ sg n ≠ nil_ then some n else wscan f (setP sg n t) r
def wpg (f : Pg) : List (Int × Str) → Pg
  | [] => f
  | (n, t) :: r => wpg (setP f n t) r
def wrows (f : Pg) : List (Int × Str) → List Row
  | [] => []
  | (n, t) :: r => (n, f n, t) :: wrows (setP f n t) r
theorem wrows_len : ∀ (f : Pg) (ps : List (Int × Str)), (wrows f ps).length = ps.length
  | _, [] => rfl
  | f, (n, t) :: r => by simp [wrows, wrows_len]
theorem wpg_app (f : Pg) : ∀ a b : List (Int × Str), wpg f (a ++ b) = wpg (wpg f a) b
  | [], _ => rfl
  | (n, t) :: a, b => wpg_app (setP f n t) a b
theorem wrows_app (f : Pg) : ∀ a b : List (Int × Str), wrows f (a ++ b) = wrows f a ++ wrows (wpg f a) b
  | [], _ => rfl
  | (n, t) :: a, b => by simp [wrows, wpg, wrows_app (setP f n t) a b]
theorem paired_at {α β : Type} {F : α → β → Prop} : ∀ {a : List α} {b : List β}, Paired F a b → ∀ (i : Nat) (x : α), a[i]? = some x → ∃ y, b[i]? = some y ∧ F x y
  | _, _, .nil, _, _, h => by simp at h
  | _, _, .cons h t, 0, _, e => by simp at e; subst e; exact ⟨_, rfl, h⟩
  | _, _, .cons h t, i + 1, x, e => by simpa using paired_at t i x (by simpa using e)
theorem drop_at {α : Type} {l : List α} {i : Nat} {x : α} (h : l[i]? = some x) : l.drop i = x :: l.drop (i + 1) := by
  obtain ⟨lt, e⟩ := List.getElem?_eq_some_iff.mp h
  rw [List.drop_eq_getElem_cons lt, e]
theorem take_at {α : Type} {l : List α} {i : Nat} {x : α} (h : l[i]? = some x) : l.take (i + 1) = l.take i ++ [x] := by
  rw [List.take_add_one, h]; rfl
theorem wpg_take {f : Pg} {ps : List (Int × Str)} {i : Nat} {p : Int × Str} (h : ps[i]? = some p) : wpg f (ps.take (i + 1)) = setP (wpg f (ps.take i)) p.1 p.2 := by
  rw [take_at h, wpg_app]; rfl
theorem wrows_take {f : Pg} {ps : List (Int × Str)} {i : Nat} {p : Int × Str} (h : ps[i]? = some p) : wrows f (ps.take (i + 1)) = wrows f (ps.take i) ++ [(p.1, wpg f (ps.take i) p.1, p.2)] := by
  rw [take_at h, wrows_app]; rfl
/-- a pair that may be written -/
def POk (p : Int × Str) : Prop := 0 ≤ p.1 ∧ p.1 < 10000000 ∧ TOk p.2 ∧ p.2 ≠ nil_
def PairAt (H : Hp) (v : V) (p : Int × Str) : Prop := ∃ a, v = .ref a ∧ H a = some (.tup [.int p.1, .str p.2])
end


/-! numbers that are none; epochs -/
/-- no whole number from lo to hi -/
def NotW (H : Hp) (v : V) (lo hi : Int) : Prop := (∃ t, tyN v H = some t ∧ t ≠ "int") ∨ ∃ n, v = .int n ∧ ¬ (lo ≤ n ∧ n ≤ hi)
theorem NotW.same {H H' : Hp} {v : V} {lo hi : Int} (h : NotW H v lo hi) (s : Same H H') : NotW H' v lo hi := by
  rcases h with ⟨t, h, n⟩ | h
  · exact .inl ⟨t, tyN_same s h, n⟩
  · exact .inr h
section
variable {g : Wd} {fa : Addr} {fd : FuncData} {C_Volume CN : Addr} {dV : Value}
def sp_wholeO : Sp := S3 fun v a b H Q _ => ∃ lo hi, a = .int lo ∧ b = .int hi ∧ NotW H v lo hi ∧ Q (.bl false) H
theorem ok_wholeO (F : Df g.K "is_whole" "is_whole" s_is_whole fa fd .none) (T : Txt g) : FnG g 1 fa fd ["value", "least", "most"] sp_wholeO := by
  refine F.ok sc_is_whole (fun vs H Q E h => S3.len h) (fun cdv A outer s H vs Q E hr h => ?_)
  obtain ⟨v, _, _, rfl, lo, hi, rfl, rfl, nw, q⟩ := h
  refine ⟨_, (pss_one (ps_ret (pe_and (pe_callB (c_is "int") (by rfl) T.b_isinstance bb_isinstance (pa_cons (pv 0) (pa_cons (pe_bltn (v := .ty "int") rfl T.b_int bb_int rfl) pa_nil))) (pe_and (pe_not (pe_callB (c_is "bool") (by rfl) T.b_isinstance bb_isinstance (pa_cons (pv 0) (pa_cons (pe_bltn (v := .ty "bool") rfl T.b_bool bb_bool rfl) pa_nil)))) (pe_one (pe_chain op_le op_le (pv 1) (pv 0) (pv 2))))))), ?_⟩
  walk_at "sx"
  rcases nw with ⟨t, ht, nt⟩ | ⟨n, rfl, nn⟩
  · refine ⟨t, ht, ?_⟩
    by_cases tb : t = "bool"
    · subst tb
      rw [if_pos (by decide)]
      refine ⟨_, ht, ?_⟩
      rw [if_neg (by decide)]
      exact q
    · rw [if_neg (by simp [nt, tb])]
      exact q
  · refine ⟨_, rfl, ?_⟩
    rw [if_pos (by decide)]
    refine ⟨_, rfl, ?_⟩
    rw [if_pos (by decide)]
    refine ⟨_, rfl, ?_⟩
    split
    · rename_i h1
      refine ⟨_, rfl, ?_⟩
      rw [decide_eq_false (fun z => nn ⟨of_decide_eq_true h1, z⟩)]
      exact q
    · exact q
/-- how far a page may be torn -/
def mostT (rows : List Row) (k : Nat) : Nat := match rows[k]? with
  | some r => r.2.2.length - 1
  | none => 0
/-- v is the first wrong number -/
def BadAt (H : Hp) (rows : List Row) (n t v : V) : Prop := (v = n ∧ NotW H n 0 (rows.length : Nat)) ∨ ∃ k : Nat, n = .int (k : Nat) ∧ k ≤ rows.length ∧ v = t ∧ NotW H t 0 (mostT rows k : Nat)
def sp_noutO (C CN : Addr) : Sp := S3 fun z n t H Q E => ∃ y d w f rows v, z = .ref y ∧ Vol C H y d w f rows ∧ rows.length ≤ 1000 ∧ BadAt H rows n t v ∧ ∀ dd, H dd = none → E (.ref CN) (some dd) (upd H dd (.xd [("given", v)]))
theorem ok_noutO (F : Df g.K "need_outcome" "Volume.need_outcome" s_Volume_need_outcome fa fd .none) (T : Txt g) (R : VF g C_Volume) (F_is_whole : Kn g "is_whole" 1 ["value", "least", "most"] [] (SpOr sp_whole sp_wholeO)) (X_InvalidNumber : XK1 g "InvalidNumber" CN "given") (RI : PySem.W.subIn g.K (.ref CN) (.type "BaseException") = some true ∧ PySem.W.typeIn g.K (.ref CN) = some (.type "type")) : FnG g 3 fa fd ["self", "keep", "torn"] (sp_noutO C_Volume CN) := by
  refine F.ok sc_Volume_need_outcome (fun vs H Q E h => S3.len h) (fun cdv A outer s H vs Q E hr h => ?_)
  obtain ⟨_, n, t, rfl, y, d, w, f, rows, v, rfl, hV, hN, bad, q⟩ := h
  have R_InvalidNumber := raises_own (X := cx g ["self", "keep", "torn", "most"] "Volume.need_outcome" s_Volume_need_outcome fa cdv A outer s H E) RI.1 RI.2
  refine ⟨_, (pss_cons (ps_if (pt_not (pt_val (pe_callG F_is_whole (hr.mono (by first | decide | omega)) tkD (pa_cons (pv 1) (pa_cons pe_int (pa_cons (pe_callB (c_len (K := g.K)) (by rfl) T.b_len bb_len (pa_cons (e_fld (K := g.K) (pv 0)) pa_nil)) pa_nil)))))) (pss_one (ps_raise rfl tkD (pmk_x1 X_InvalidNumber R_InvalidNumber (hr.mono (by first | decide | omega)) (pa_cons (pv 1) pa_nil)))) pss_nil)
      (pss_cons (ps_set (i := 3) sc_Volume_need_outcome.nd rfl (Or.inl rfl) (pe_ifExp (pt_cmpR op_lt (pv 1) (pe_callB (c_len (K := g.K)) (by rfl) T.b_len bb_len (pa_cons (e_fld (K := g.K) (pv 0)) pa_nil)) (nomark _)) (pe_op op_sub (pe_callB (c_len (K := g.K)) (by rfl) T.b_len bb_len (pa_cons (pe_ix (o_ix (K := g.K)) (pe_ix (o_ix (K := g.K)) (e_fld (K := g.K) (pv 0)) (pv 1) (fun _ _ => rfl)) pe_int (fun _ _ => rfl)) pa_nil)) pe_int) pe_int))
      (pss_one (ps_if (pt_not (pt_val (pe_callG F_is_whole (hr.mono (by first | decide | omega)) tkD (pa_cons (pv 2) (pa_cons pe_int (pa_cons (pe_callB (call_max2 rfl) (by rfl) T.b_max (by decide +kernel) (pa_cons pe_int (pa_cons (pv 3) pa_nil))) pa_nil)))))) (pss_one (ps_raise rfl tkD (pmk_x1 X_InvalidNumber R_InvalidNumber (hr.mono (by first | decide | omega)) (pa_cons (pv 2) pa_nil)))) pss_nil)))), ?_⟩
  have ⟨dy, ep, tk, kvs, ws, hv⟩ := hV
  have hy := hv.hy
  have lw := hv.ra.1
  walk_at "sx"
  refine ⟨_, _, _, hy, R.cls, R.n2, _, lk_wt, ?_⟩
  rw [len_r]
  refine .inl ⟨ws, .inl (SqL.of hv.hw), ?_⟩
  rcases bad with ⟨rfl, nw⟩ | ⟨k, rfl, kl, rfl, nw⟩
  · refine .inr ⟨_, _, _, rfl, 0, _, rfl, rfl, by rw [lw]; exact nw, _, rfl, ?_⟩
    rw [if_pos (by simp)]
    exact q
  refine .inl ⟨_, _, _, rfl, _, _, _, rfl, rfl, rfl, _, rfl, ?_⟩
  rw [if_neg (by simp; omega)]
  refine ⟨_, _, _, hy, R.cls, R.n2, _, lk_wt, ?_⟩
  rw [len_r]
  refine .inl ⟨ws, .inl (SqL.of hv.hw), _, rfl, _, rfl, ?_⟩
  unfold mostT at nw
  by_cases lt : k < rows.length
  · rw [if_pos (by simp; omega)]
    obtain ⟨t, e1, e2⟩ := hv.ra.2 k rows[k] (List.getElem?_eq_getElem lt)
    have rf := hv.rf _ (List.getElem_mem lt)
    rw [List.getElem?_eq_getElem lt] at nw
    simp only at nw
    refine ⟨_, _, _, hy, R.cls, R.n2, _, lk_wt, ?_⟩
    rw [ix_r]
    refine ⟨ws, .inl (SqL.of hv.hw), _, atI_nat e1, ?_⟩
    rw [ix_r]
    refine ⟨_, .inr (SqT.of e2), _, rfl, ?_⟩
    rw [len_s]
    refine ⟨by rw [sizeLine_eq]; have := rf.l2.1; omega, _, rfl, .inr ⟨_, _, _, rfl, 0, _, rfl, rfl, ?_, _, rfl, ?_⟩⟩
    · have e : (if ((rows[k].2.2.length : Nat) : Int) - 1 > 0 then ((rows[k].2.2.length : Nat) : Int) - 1 else 0) = ((rows[k].2.2.length - 1 : Nat) : Int) := by split <;> omega
      rw [e]
      exact nw
    rw [if_pos (by simp)]
    exact q
  · rw [if_neg (by simp; omega)]
    rw [List.getElem?_eq_none (by omega)] at nw
    refine .inr ⟨_, _, _, rfl, 0, _, rfl, rfl, nw, _, rfl, ?_⟩
    rw [if_pos (by simp)]
    exact q
theorem ok_crashO (F : Df g.K "crash" "Volume.crash" s_Volume_crash fa fd dV) (T : Txt g) (R : VF g C_Volume) (CL_Volume : Cls g.K C_Volume) (M_Volume_need_outcome : Km g C_Volume "need_outcome" 3 ["self", "keep", "torn"] [] (sp_noutO C_Volume CN)) (M_Volume_set_text : Km g C_Volume "set_text" 1 ["self", "number", "text"] [] (sp_set C_Volume)) : FnG g 4 fa fd ["self", "keep", "torn"] (sp_noutO C_Volume CN) := by
  refine F.ok sc_Volume_crash (fun vs H Q E h => S3.len h) (fun cdv A outer s H vs Q E hr h => ?_)
  obtain ⟨_, n, t, rfl, y, d, w, f, rows, v, rfl, hV, hN, bad, q⟩ := h
  refine ⟨_, (pss_mid (ps_expr (pe_methG (pv 0) CL_Volume M_Volume_need_outcome (hr.mono (by first | decide | omega)) tkD (pa_cons (pv 1) (pa_cons (pv 2) pa_nil))))
      (pss_cons (ps_set (i := 3) sc_Volume_crash.nd rfl (Or.inl rfl) (pe_slice (o_sl (K := g.K)) (e_fld (K := g.K) (pv 0)) (po_some (pv 1)) po_none))
      (pss_cons (ps_for psD rfl (i_list (K := g.K) (e_revL (K := g.K) (pv 3))) (g_tup (K := g.K) (n := 3) (pgs_cons (pg_name (i := 4) sc_Volume_crash.nd rfl (.inl rfl)) (pgs_cons (pg_name (i := 5) sc_Volume_crash.nd rfl (.inl rfl)) (pgs_cons (pg_name (i := 6) sc_Volume_crash.nd rfl (.inl rfl)) pgs_nil)))) (pss_one (ps_expr (pe_methG (pv 0) CL_Volume M_Volume_set_text (hr.mono (by first | decide | omega)) tkD (pa_cons (pv 4) (pa_cons (pv 5) pa_nil))))))
      (pss_cons (ps_if (pt_cmpR op_gt (pv 2) pe_int (nomark _)) (pss_one (ps_expr (pe_methG (pv 0) CL_Volume M_Volume_set_text (hr.mono (by first | decide | omega)) tkD (pa_cons (pe_ix (o_ix (K := g.K)) (pe_ix (o_ix (K := g.K)) (pv 3) pe_int (fun _ _ => rfl)) pe_int (fun _ _ => rfl)) (pa_cons (pe_slice (o_sl (K := g.K)) (pe_ix (o_ix (K := g.K)) (pe_ix (o_ix (K := g.K)) (pv 3) pe_int (fun _ _ => rfl)) pe_int (fun _ _ => rfl)) po_none (po_some (pv 2))) pa_nil))))) pss_nil)
      (pss_cons (s_fld (K := g.K) (pv 0) (pe_lst pa_nil))
      (pss_cons (s_fldaug (K := g.K) (pv 0) pe_int in_add)
      (pss_one (s_fld (K := g.K) (pv 0) pe_bl)))))))), ?_⟩
  have ⟨dy, ep, tk, kvs, ws, hv⟩ := hV
  refine mid_at (fun _ _ => False) ?_ (fun _ _ z => z.elim)
  walk_at "sx"
  exact ⟨_, _, hv.hy, lk_no, _, _, _, rfl, y, d, w, f, rows, v, rfl, hV, hN, bad, q⟩
theorem ok_crashedO (F : Df g.K "crashed" "Volume.crashed" s_Volume_crashed fa fd dV) (T : Txt g) (R : VF g C_Volume) (CL_Volume : Cls g.K C_Volume) (M_Volume_need_outcome : Km g C_Volume "need_outcome" 3 ["self", "keep", "torn"] [] (sp_noutO C_Volume CN)) (M_Volume_snapshot : Km g C_Volume "snapshot" 4 ["self"] [] (sp_snap C_Volume)) (M_Volume_crash : Km g C_Volume "crash" 4 ["self", "keep", "torn"] [] (sp_noutO C_Volume CN)) : FnG g 6 fa fd ["self", "keep", "torn"] (sp_noutO C_Volume CN) := by
  refine F.ok sc_Volume_crashed (fun vs H Q E h => S3.len h) (fun cdv A outer s H vs Q E hr h => ?_)
  obtain ⟨_, n, t, rfl, y, d, w, f, rows, v, rfl, hV, hN, bad, q⟩ := h
  refine ⟨_, (pss_mid (ps_expr (pe_methG (pv 0) CL_Volume M_Volume_need_outcome (hr.mono (by first | decide | omega)) tkD (pa_cons (pv 1) (pa_cons (pv 2) pa_nil))))
      (pss_cons (ps_set (i := 3) sc_Volume_crashed.nd rfl (Or.inl rfl) (pe_methG0 (pv 0) CL_Volume M_Volume_snapshot (hr.mono (by first | decide | omega)) tkD))
      (pss_cons (ps_expr (pe_methG (pv 3) CL_Volume M_Volume_crash (hr.mono (by first | decide | omega)) tkD (pa_cons (pv 1) (pa_cons (pv 2) pa_nil))))
      (pss_one (ps_ret (pv 3)))))), ?_⟩
  have ⟨dy, ep, tk, kvs, ws, hv⟩ := hV
  refine mid_at (fun _ _ => False) ?_ (fun _ _ z => z.elim)
  walk_at "sx"
  exact ⟨_, _, hv.hy, lk_no, _, _, _, rfl, y, d, w, f, rows, v, rfl, hV, hN, bad, q⟩
end


/-! the state of a turn: a source, a volume, what the law knows -/
open PySem PySem.Spec L2 RS LamX
structure VW where
  su : Pg
  rows : List Row
  f : Pg
  e : Int
  k : Bool
def VW.note (s : VW) (m : Int) (t : Str) : VW := { s with rows := s.rows ++ [(m, s.f m, t)], f := setP s.f m t }
def VW.syn (s : VW) : VW := { s with su := s.f, rows := [] }
def VW.Ch (s : VW) : Prop := Chain s.su s.rows s.f
theorem VW.Ch.note {s : VW} (h : s.Ch) (m : Int) (t : Str) : (s.note m t).Ch := Chain.snoc h m t
theorem VW.Ch.syn (s : VW) : s.syn.Ch := .nil _
/-! places apart -/
def Ap (X Y : List Addr) : Prop := ∀ x ∈ X, x ∉ Y
theorem Ap.symm {X Y : List Addr} (h : Ap X Y) : Ap Y X := fun y hy hx => h y hx hy
theorem Ap.new {X X' Y : List Addr} {H : Hp} (h : Ap X Y) (n : ∀ x ∈ X', x ∈ X ∨ H x = none) (l : ∀ y ∈ Y, H y ≠ none) : Ap X' Y := fun x hx hy => by
  rcases n x hx with k | k
  · exact h x k hy
  · exact l x hy k
/-- the volume is at s, the law's dict at q -/
structure St (T : List (Addr × Str)) (C : Addr) (H : Hp) (a cl : Addr) (N : Nat) (y d w μ a1 b1 c1 : Addr) (s q : VW) : Prop where
  src : Src H a cl N
  vol : Vol C H y d w s.f s.rows
  et : EtIs H y s.e s.k
  m : M H μ a1 b1 c1 q.su q.rows q.f []
  tab : Tabs T H
  p1 : Ap [a, cl] [y, d, w]
  p2 : Ap [a, cl] [μ, a1, b1, c1]
  p3 : Ap [y, d, w] [μ, a1, b1, c1]
section
variable {T : List (Addr × Str)} {C : Addr} {H H' : Hp} {a cl : Addr} {N N' : Nat} {y d w μ a1 b1 c1 : Addr} {s q : VW}
theorem Vol.lv {f : Pg} {rows : List Row} (h : Vol C H y d w f rows) : ∀ x ∈ [y, d, w], H x ≠ none := by
  obtain ⟨_, _, _, _, _, hv⟩ := h
  exact hv.live
theorem Vol.nt {f : Pg} {rows : List Row} (h : Vol C H y d w f rows) : ∀ x ∈ [y, d, w], ∀ xs, H x ≠ some (.tup xs) := by
  obtain ⟨_, _, _, _, _, hv⟩ := h
  exact hv.nt
theorem Src.all (h : Src H a cl N) : ∀ x ∈ [a, cl], H x ≠ none := by
  obtain ⟨t, r, ns, h1, h2, _⟩ := h
  intro x hx z
  simp only [List.mem_cons, List.not_mem_nil, or_false] at hx
  rcases hx with rfl | rfl
  · rw [h1] at z; cases z
  · rw [h2] at z; cases z
theorem Src.dk (h : Src H a cl N) : ∃ ks, H a = some (.dK ks) := by
  obtain ⟨t, r, ns, h1, _⟩ := h
  exact ⟨_, h1⟩
theorem M.all {su f : Pg} {rows : List Row} {ex : List (Key × V)} (h : M H μ a1 b1 c1 su rows f ex) : ∀ x ∈ [μ, a1, b1, c1], H x ≠ none := by
  obtain ⟨ka, kc, ws, h⟩ := h
  intro x hx z
  simp only [List.mem_cons, List.not_mem_nil, or_false] at hx
  rcases hx with rfl | rfl | rfl | rfl
  · rw [h.hm] at z; cases z
  · rw [h.ha] at z; cases z
  · rw [h.hb] at z; cases z
  · rw [h.hc] at z; cases z
/-- what is neither a table nor a code object there -/
def Plain (H : Hp) (fp : List Addr) : Prop := ∀ c ∈ fp, ∀ o, H c = some o → (∀ ps, o ≠ .tbl ps) ∧ (∀ φ, o ≠ .ext φ) ∧ ∀ xs, o ≠ .tup xs
theorem Src.plain (h : Src H a cl N) : K09.Plain H [a] := fun c hc o e => by
  obtain ⟨ks, hk⟩ := h.dk
  rw [List.mem_singleton.mp hc, hk] at e
  cases e
  exact ⟨(fun _ z => by cases z), (fun _ z => by cases z), fun _ z => by cases z⟩
theorem M.plain {su f : Pg} {rows : List Row} {ex : List (Key × V)} (h : M H μ a1 b1 c1 su rows f ex) : K09.Plain H [μ] := fun c hc o e => by
  obtain ⟨ka, kc, ws, hm⟩ := h
  rw [List.mem_singleton.mp hc, hm.hm] at e
  cases e
  exact ⟨(fun _ z => by cases z), (fun _ z => by cases z), fun _ z => by cases z⟩
theorem Vol.plain {f : Pg} {rows : List Row} (h : Vol C H y d w f rows) : K09.Plain H [y, d, w] := fun c hc o e => by
  obtain ⟨dy, ep, tk, kvs, ws, hv⟩ := h
  simp only [List.mem_cons, List.not_mem_nil, or_false] at hc
  rcases hc with rfl | rfl | rfl
  · rw [hv.hy] at e; cases e
    exact ⟨(fun _ z => by cases z), (fun _ z => by cases z), fun _ z => by cases z⟩
  · rw [hv.hd] at e; cases e
    exact ⟨(fun _ z => by cases z), (fun _ z => by cases z), fun _ z => by cases z⟩
  · rw [hv.hw] at e; cases e
    exact ⟨(fun _ z => by cases z), (fun _ z => by cases z), fun _ z => by cases z⟩
theorem Nw.refl (H : Hp) (xs : List Addr) : Nw H xs xs := fun _ h => .inl h
theorem St.same (h : St T C H a cl N y d w μ a1 b1 c1 s q) (e : Same H H') : St T C H' a cl N y d w μ a1 b1 c1 s q :=
  ⟨h.src.same e, h.vol.same e, h.et.same e, h.m.fr (fp := []) (FrT.of e) (by simp) (by simp), RS.Tabs.same h.tab e, h.p1, h.p2, h.p3⟩
/-- but for the tables nothing has changed -/
theorem St.frT (h : St T C H a cl N y d w μ a1 b1 c1 s q) (e : FrT [] H H') (tb : Tabs T H') : St T C H' a cl N y d w μ a1 b1 c1 s q :=
  ⟨h.src.fr e (by simp) (by simp), h.vol.fr e (by simp) (by simp), h.et.fr e (by simp), h.m.fr e (by simp) (by simp), tb, h.p1, h.p2, h.p3⟩
/-- numbers have been drawn -/
theorem St.drawn (h : St T C H a cl N y d w μ a1 b1 c1 s q) (S : Src H' a cl N') (fr : Fr1 [a] H H') : St T C H' a cl N' y d w μ a1 b1 c1 s q := by
  have pl := h.src.plain
  have nt : ∀ c ∈ [a], ∀ xs, H c ≠ some (.tup xs) := fun c hc xs z => (pl c hc _ z).2.2 xs rfl
  have off : ∀ {Y : List Addr}, Ap [a, cl] Y → ∀ x ∈ Y, x ∉ [a] := fun p x hx z => p a (by simp) (by rw [← List.mem_singleton.mp z]; exact hx)
  exact ⟨S, h.vol.fr fr.t nt (off h.p1), h.et.fr fr.t (off h.p1 y (by simp)), h.m.fr fr.t nt (off h.p2), RS.Tabs.fr h.tab (fun c hc o e => ⟨(pl c hc o e).1, (pl c hc o e).2.1⟩) fr, h.p1, h.p2, h.p3⟩
/-- the law has noted a deed -/
theorem St.noted {q' : VW} {a' b' c' : Addr} (h : St T C H a cl N y d w μ a1 b1 c1 s q) (m : M H' μ a' b' c' q'.su q'.rows q'.f []) (nn : ∀ x ∈ [μ, a', b', c'], x ∈ [μ, a1, b1, c1] ∨ H x = none) (fr : Fr1 [μ] H H') : St T C H' a cl N y d w μ a' b' c' s q' := by
  have pl := h.m.plain
  have nt : ∀ c ∈ [μ], ∀ xs, H c ≠ some (.tup xs) := fun c hc xs z => (pl c hc _ z).2.2 xs rfl
  have off : ∀ {Y : List Addr}, Ap Y [μ, a1, b1, c1] → ∀ x ∈ Y, x ∉ [μ] := fun p x hx z => p x hx (by simp [List.mem_singleton.mp z])
  exact ⟨h.src.fr fr.t (off h.p2 a (by simp)) (off h.p2 cl (by simp)), h.vol.fr fr.t nt (off h.p3), h.et.fr fr.t (off h.p3 y (by simp)), m, RS.Tabs.fr h.tab (fun c hc o e => ⟨(pl c hc o e).1, (pl c hc o e).2.1⟩) fr,
    h.p1, (h.p2.symm.new nn h.src.all).symm, (h.p3.symm.new nn h.vol.lv).symm⟩
theorem St.noted2 {q' : VW} {a' b' c' : Addr} (h : St T C H a cl N y d w μ a1 b1 c1 s q) (m : M H' μ a' b' c' q'.su q'.rows q'.f []) (n2 : Ap [a, cl] [a', b', c']) (n3 : Ap [y, d, w] [a', b', c']) (fr : Fr1 [μ] H H') : St T C H' a cl N y d w μ a' b' c' s q' := by
  have pl := h.m.plain
  have nt : ∀ c ∈ [μ], ∀ xs, H c ≠ some (.tup xs) := fun c hc xs z => (pl c hc _ z).2.2 xs rfl
  have off : ∀ {Y : List Addr}, Ap Y [μ, a1, b1, c1] → ∀ x ∈ Y, x ∉ [μ] := fun p x hx z => p x hx (by simp [List.mem_singleton.mp z])
  have cons : ∀ {Y : List Addr}, Ap Y [μ, a1, b1, c1] → Ap Y [a', b', c'] → Ap Y [μ, a', b', c'] := fun p n x hx z => by
    rcases List.mem_cons.mp z with z | z
    · exact p x hx (by simp [z])
    · exact n x hx z
  exact ⟨h.src.fr fr.t (off h.p2 a (by simp)) (off h.p2 cl (by simp)), h.vol.fr fr.t nt (off h.p3), h.et.fr fr.t (off h.p3 y (by simp)), m, RS.Tabs.fr h.tab (fun c hc o e => ⟨(pl c hc o e).1, (pl c hc o e).2.1⟩) fr,
    h.p1, cons h.p2 n2, cons h.p3 n3⟩
theorem nn_of {a' b' c' : Addr} (nw : Nw H [a1, b1, c1] [a', b', c']) : ∀ x ∈ [μ, a', b', c'], x ∈ [μ, a1, b1, c1] ∨ H x = none := fun x hx => by
  rcases List.mem_cons.mp hx with z | z
  · exact .inl (by simp [z])
  · exact (nw x z).imp (fun k => List.mem_cons_of_mem _ k) id
theorem new_w {w' : Addr} (nw : w' = w ∨ H w' = none) : ∀ x ∈ [y, d, w'], x ∈ [y, d, w] ∨ H x = none := fun x hx => by
  simp only [List.mem_cons, List.not_mem_nil, or_false] at hx
  rcases hx with rfl | rfl | rfl
  · exact .inl (by simp)
  · exact .inl (by simp)
  · exact nw.imp (fun z => by simp [z]) id
/-- the volume has run -/
theorem St.ran {s' : VW} {w' : Addr} (h : St T C H a cl N y d w μ a1 b1 c1 s q) (v : Vol C H' y d w' s'.f s'.rows) (e : EtIs H' y s'.e s'.k) (nw : w' = w ∨ H w' = none) (fr : Fr1 [y, d, w] H H') : St T C H' a cl N y d w' μ a1 b1 c1 s' q := by
  have pl := h.vol.plain
  have nt := h.vol.nt
  have nn := new_w (y := y) (d := d) nw
  exact ⟨h.src.fr fr.t (h.p1 a (by simp)) (h.p1 cl (by simp)), v, e, h.m.fr fr.t nt h.p3.symm, RS.Tabs.fr h.tab (fun c hc o e => ⟨(pl c hc o e).1, (pl c hc o e).2.1⟩) fr,
    (h.p1.symm.new nn h.src.all).symm, h.p2, h.p3.new nn h.m.all⟩
end
/-- nothing stands there, or a table -/
def NtT (H : Hp) (x : Addr) : Prop := ∀ o, H x = some o → ∃ ps, o = HO.tbl ps
theorem FrT.subT {fp fq : List Addr} {H H' : Hp} (a : FrT fp H H') (h : ∀ c ∈ fp, c ∈ fq ∨ NtT H c) : FrT fq H H' := fun c o n t e => a c o (fun z => (h c z).elim n fun y => by
  obtain ⟨ps, rfl⟩ := y o e
  exact t ps rfl) t e
theorem NtT.of {H H' : Hp} {fp : List Addr} {x : Addr} (f : FrT fp H H') (l : ∀ c ∈ fp, H' c ≠ none) (n : H' x = none) : NtT H x := fun o e => Classical.byContradiction fun z => by
  by_cases m : x ∈ fp
  · exact l x m n
  · rw [f x o m (fun ps y => z ⟨ps, y⟩) e] at n; cases n
/-- what has been made since X -/
structure Out (X H : Hp) (a : Addr) (ps : List Addr) : Prop where
  fr : FrT [a] X H
  nt : ∀ x ∈ ps, NtT X x
theorem Out.step {X H H' : Hp} {a : Addr} {ps ps' fp : List Addr} (h : Out X H a ps) (f : FrT fp H H') (sub : ∀ c ∈ fp, c = a ∨ c ∈ ps) (nw : ∀ c ∈ ps', c ∈ ps ∨ H c = none) (la : H a ≠ none) : Out X H' a ps' := by
  refine ⟨fun b o n t e => f b o (fun hb => ?_) t (h.fr b o n t e), fun c hc => ?_⟩
  · rcases sub b hb with z | z
    · exact n (by simp [z])
    · obtain ⟨ps, rfl⟩ := h.nt b z o e
      exact t ps rfl
  · rcases nw c hc with z | z
    · exact h.nt c z
    · exact NtT.of h.fr (fun c hc => by rw [List.mem_singleton.mp hc]; exact la) z
/-- from H to H' the law has gone on -/
def Got (H H' : Hp) (a y d w w' μ : Addr) : Prop := ∀ X, Out X H a [y, d, w, μ] → Out X H' a [y, d, w', μ]
section
variable {T : List (Addr × Str)} {C : Addr} {H H' H2 : Hp} {a cl : Addr} {N N' : Nat} {y d w w' w2 μ a1 b1 c1 : Addr} {s q : VW}
theorem Got.trans (h : Got H H' a y d w w' μ) (h2 : Got H' H2 a y d w' w2 μ) : Got H H2 a y d w w2 μ := fun X o => h2 X (h X o)
theorem Got.of {fp : List Addr} (f : FrT fp H H') (sub : ∀ c ∈ fp, c = a ∨ c ∈ [y, d, w, μ]) (la : H a ≠ none) : Got H H' a y d w w μ := fun X o => o.step f sub (fun c hc => .inl hc) la
theorem Got.same (f : Same H H') (la : H a ≠ none) : Got H H' a y d w w μ := Got.of (fp := []) (FrT.of f) (by simp) la
theorem Got.ran (f : Fr1 [y, d, w] H H') (nw : w' = w ∨ H w' = none) (la : H a ≠ none) : Got H H' a y d w w' μ := fun X o => o.step f.t (fun c hc => .inr (by
  simp only [List.mem_cons, List.not_mem_nil, or_false] at hc ⊢
  rcases hc with h | h | h <;> simp [h])) (fun c hc => by
  simp only [List.mem_cons, List.not_mem_nil, or_false] at hc
  rcases hc with h | h | h | h
  · exact .inl (by simp [h])
  · exact .inl (by simp [h])
  · exact nw.imp (fun z => by simp [h, z]) (fun z => by rw [h]; exact z)
  · exact .inl (by simp [h])) la
end


/-! the numbers of the pages, asked while the volume changes; texts from a page on -/
section
variable {g : Wd} {fa : Addr} {fd : FuncData} {C_Volume CN : Addr} {dV : Value}
def sp_usedK (C : Addr) : SpK := fun vs H k0 yl fin => ∃ y d w f rows, vs = [.ref y] ∧ Vol C H y d w f rows ∧ ∀ ns, Asc f ns → ∃ Pv : Addr → Nat → L2.St → Hp → Prop, (∀ L H1, H L = none → Same H H1 → H1 L = some (.lst (ns.map V.int)) → Pv L 0 k0 H1) ∧
  (∀ L j k H1, Pv L j k H1 → H1 L = some (.lst (ns.map V.int))) ∧ (∀ L j k H1, j < ns.length → Pv L j k H1 → yl j k (.int (ns.getD j 0)) H1 (Pv L (j + 1))) ∧ ∀ L k H1, Pv L ns.length k H1 → fin k H1
theorem ok_usedK (F : Df g.K "used" "Volume.used" s_Volume_used fa fd .none) (T : Txt g) (R : VF g C_Volume) : GKn g.P g.w g.K g.mg g.base 2 fa fd ["self"] (sp_usedK C_Volume) := by
  refine gkn_of F sc_Volume_used (by decide +kernel) fun cdv A outer s H vs pn hr => ⟨_, (gks_cons (gk_ps (fun _ _ => (ps_set (i := 1) sc_Volume_used.nd rfl (Or.inl rfl) (pe_callB (c_sortedI (K := g.K)) (by rfl) T.b_sorted bb_sorted (pa_cons (pe_lock (pe_lc (own := [("number", 2)]) (tt := tYes) rfl sc_Volume_used.nd (pi_keys (e_fld (K := g.K) (pv 0))) (blkOk_by (own := [("number", 2)]) (N := ["self", "numbers", "number"]) (sc := defScope s_Volume_used) (by decide +kernel)) (fun _ _ _ _ _ => (pg_name (i := 2) sc_Volume_used.nd rfl (.inl rfl))) (fun _ _ _ _ _ => pts_nil) (fun _ _ _ _ _ => (pe_callTy c_intA (by rfl) T.b_int bb_int (pa_cons (pv 2) pa_nil))))) pa_nil))))) (gks_cons (gk_for rfl (fun _ _ => (i_list (K := g.K) (pv 1))) (fun _ _ => (pg_name (i := 2) sc_Volume_used.nd rfl (.inl rfl))) (gks_cons (gk_yield (fun _ _ => (pv 2))) gks_nil)) gks_nil)), fun k0 yl fin h => ?_⟩
  obtain ⟨y, d, w, f, rows, rfl, hV, q⟩ := h
  have ⟨dy, ep, tk, kvs, ws, hv⟩ := hV
  have hy := hv.hy
  simp only [tKThen, tKPlain, tKFor_eq, tKYield, tK0, rSortedI, GKE.at, tRet, tRetN, tSeq, C8.tCut, tNext, tAsg, gName, gNil, gCons, gTup, gFld, tIfS, tIf, tAndV, tOrV, tNotV, tAnd, tOr, tNot, tB, tTest, tOp, tUn, tCB, tCons, tNil, tVar, tC, tChain, tDrop, RS.tCallG, RS.tMethG, tMakeG, RS.tCallK, RS.tMakeK, tEqOwn, rI, rI0, rU, add_ii, add_ss, add_rr, mul_ii, mul_si, mul_ri, RS.eq_ii, RS.eq_ss, eq_bb, eq_nn, eq_sn, eq_ns, eq_in, eq_ni, eq_bn, eq_nb, eq_is, eq_si, eq_rr, ne_ii, ne_ss, ne_bb, ne_nn, ne_sn, ne_ns, ne_in, ne_ni, ne_is, ne_si, ne_rr, in_ss, in_r, nin_ss, nin_r, len_s, len_r, RS.ix_s, RS.ix_r, sl_s, sl_r, is_eq, tyN_n, tyN_b, tyN_i, tyN_s, tru_b, tru_i, tru_n, tSl, tPart, tNoPart, tPar, tPar3, tFmtZ, tFmt, tJs, tDGet, sDPut, sFld, tFld, tTup, tLst, tNever, isB,
  L2.start, List.map_cons, List.map_nil, List.length_cons, List.length_nil, Nat.reduceAdd, Nat.reduceSub, Nat.sub_self, List.replicate_zero, List.replicate_succ, List.append_nil, List.cons_append, List.nil_append, List.getElem?_cons_zero, List.getElem?_cons_succ, List.set_cons_zero, List.set_cons_succ, Option.some.injEq, exists_eq_left, exists_eq_left', exists_and_left, V.bl.injEq, V.int.injEq, V.str.injEq, V.ref.injEq, beq_self_eq_true, Bool.true_or, Bool.or_true, Bool.false_or, Bool.or_false, Bool.and_false, Bool.false_and, Bool.true_and, Bool.and_true, Bool.not_true, Bool.not_false, Bool.false_eq_true, if_true, if_false, ite_true, ite_false, true_and, and_true, and_assoc, String.reduceBEq, String.reduceEq, reduceIte, Bool.and_self, reduceCtorEq, false_and, and_false, exists_false, or_false, false_or, exists_const, iEnumS, iStr, iList, iTup, iRng1, iEnum, tFor_eq, tLc_eq, List.cons.injEq, wipe, not_true_eq_false, not_false_eq_true, upd_same, HO.ins.injEq, HO.tup.injEq, HO.lst.injEq, ofS_eq, lk_nil, lk_cons, pu_nil, pu_cons, sizeLine_eq, Nat.reduceLT, Nat.reduceLeDiff, Nat.reduceEqDiff, Nat.le_refl, decide_true, decide_false, tPr, dget_us, dput_us, vv_nil, vv_cons, RS.pk_nil, pk_one, RS.pk_cons, inr_eq, tDisp, tPairs, tBoolOwn, rBoolOwn, tBM, rAppend, ty_list, ty_str, rEqOwn, iEnumT, RS.tCallS, tM1, tDc_eq, tLock, tLockE, iKeys, tListEnum, rUpdate, tMkX0, tMkX1, tXfv, gSub, rSetL, List.getD_cons_zero, List.getD_cons_succ, tCMethS, ClX.tCVal, tXfa, tIxOwn, tInOwn, tPropG, tMethK, tMethP, tListGen, tDGet2, tDPop2, rNeD0, intA_i, intA_b, tRevL, sFldAug, tPm0, tPm1, tDIn, tDNotIn, tDNewK, RS.tMethS]
  have yd : y ≠ d := hv.ne1.1
  have lk := hv.pr.len hv.fin
  refine ⟨d, _, hv.hd, True.intro, fun od => ⟨_, _, _, by rw [upd_ne yd]; exact hy, R.cls, R.n1, _, lk_pt, d, rfl, od, .inl ⟨kvs, upd_same, ?_⟩⟩⟩
  refine nums_lc (i := 2) (σ := [some (.ref y), none, none]) hv.hd hv.pr (by omega) od (fun n G K k => ⟨rfl, by walk_at "sx"; exact k⟩) fun l G2 gl s' hl el => ⟨gl, l, rfl, numsOf kvs, SqL.of el, fun ns p pe pw hp => ?_⟩
  have asc := hv.pr.asc pe pw
  have sm : Same H (upd (upd G2 d (.dK kvs)) p (.lst (ns.map V.int))) := s'.trans (same_upd hp)
  have ep : upd (upd G2 d (.dK kvs)) p (.lst (ns.map V.int)) p = some (.lst (ns.map V.int)) := upd_same
  have np : H p = none := none_of_same s' hp
  generalize upd (upd G2 d (.dK kvs)) p (.lst (ns.map V.int)) = G at sm ep ⊢
  obtain ⟨Pv, p0, p1, p2, p3⟩ := q ns asc
  have nl : ns.length ≤ 10000000 := by
    have := pe.length_eq
    rw [this]; simp [numsOf]; omega
  refine ⟨⟨_, SqL.of ep⟩, ?_⟩
  refine kfor_by ns.length (fun j i k σ G' => i = j ∧ (∃ z, σ = [some (.ref y), some (.ref p), z]) ∧ Pv p j k G') ⟨rfl, ⟨_, rfl⟩, p0 p G np sm ep⟩ (fun j i k σ G' lt P => ⟨_, .int ns[j], SqL.of (p1 _ _ _ _ P.2.2), by simp [lt]⟩) (fun i k σ G' P => ⟨_, SqL.of (p1 _ _ _ _ P.2.2), by simp⟩) (fun j i k σ G1 x G' lt P yl' => ?_) (fun i k σ G' P => p3 _ _ _ P.2.2)
  obtain ⟨rfl, ⟨z, rfl⟩, hP⟩ := P
  obtain ⟨rfl, hx⟩ := yl'
  have hx := hx _ (SqL.of (p1 _ _ _ _ hP))
  have ex : x = .int (ns.getD i 0) := by
    rw [List.getD_eq_getElem?_getD]
    simpa [lt] using hx.symm
  subst ex
  simp only [tKThen, tKYield, tK0, tRet, tRetN, tSeq, C8.tCut, tNext, tAsg, gName, gNil, gCons, gTup, gFld, tIfS, tIf, tAndV, tOrV, tNotV, tAnd, tOr, tNot, tB, tTest, tOp, tUn, tCB, tCons, tNil, tVar, tC, tChain, tDrop, RS.tCallG, RS.tMethG, tMakeG, RS.tCallK, RS.tMakeK, tEqOwn, rI, rI0, rU, add_ii, add_ss, add_rr, mul_ii, mul_si, mul_ri, RS.eq_ii, RS.eq_ss, eq_bb, eq_nn, eq_sn, eq_ns, eq_in, eq_ni, eq_bn, eq_nb, eq_is, eq_si, eq_rr, ne_ii, ne_ss, ne_bb, ne_nn, ne_sn, ne_ns, ne_in, ne_ni, ne_is, ne_si, ne_rr, in_ss, in_r, nin_ss, nin_r, len_s, len_r, RS.ix_s, RS.ix_r, sl_s, sl_r, is_eq, tyN_n, tyN_b, tyN_i, tyN_s, tru_b, tru_i, tru_n, tSl, tPart, tNoPart, tPar, tPar3, tFmtZ, tFmt, tJs, tDGet, sDPut, sFld, tFld, tTup, tLst, tNever, isB,
  L2.start, List.map_cons, List.map_nil, List.length_cons, List.length_nil, Nat.reduceAdd, Nat.reduceSub, Nat.sub_self, List.replicate_zero, List.replicate_succ, List.append_nil, List.cons_append, List.nil_append, List.getElem?_cons_zero, List.getElem?_cons_succ, List.set_cons_zero, List.set_cons_succ, Option.some.injEq, exists_eq_left, exists_eq_left', exists_and_left, V.bl.injEq, V.int.injEq, V.str.injEq, V.ref.injEq, beq_self_eq_true, Bool.true_or, Bool.or_true, Bool.false_or, Bool.or_false, Bool.and_false, Bool.false_and, Bool.true_and, Bool.and_true, Bool.not_true, Bool.not_false, Bool.false_eq_true, if_true, if_false, ite_true, ite_false, true_and, and_true, and_assoc, String.reduceBEq, String.reduceEq, reduceIte, Bool.and_self, reduceCtorEq, false_and, and_false, exists_false, or_false, false_or, exists_const, iEnumS, iStr, iList, iTup, iRng1, iEnum, tFor_eq, tLc_eq, List.cons.injEq, wipe, not_true_eq_false, not_false_eq_true, upd_same, HO.ins.injEq, HO.tup.injEq, HO.lst.injEq, ofS_eq, lk_nil, lk_cons, pu_nil, pu_cons, sizeLine_eq, Nat.reduceLT, Nat.reduceLeDiff, Nat.reduceEqDiff, Nat.le_refl, decide_true, decide_false, tPr, dget_us, dput_us, vv_nil, vv_cons, RS.pk_nil, pk_one, RS.pk_cons, inr_eq, tDisp, tPairs, tBoolOwn, rBoolOwn, tBM, rAppend, ty_list, ty_str, rEqOwn, iEnumT, RS.tCallS, tM1, tDc_eq, tLock, tLockE, iKeys, tListEnum, rUpdate, tMkX0, tMkX1, tXfv, gSub, rSetL, List.getD_cons_zero, List.getD_cons_succ, tCMethS, ClX.tCVal, tXfa, tIxOwn, tInOwn, tPropG, tMethK, tMethP, tListGen, tDGet2, tDPop2, rNeD0, intA_i, intA_b, tRevL, sFldAug, tPm0, tPm1, tDIn, tDNotIn, tDNewK, RS.tMethS]
  simp only [exists_eq', true_and]
  exact ⟨by omega, p2 _ _ _ _ lt hP⟩
/-- the texts of the pages from m on -/
def txt (f : Pg) (m n : Int) : List V := (List.range (n - m).toNat).map fun j : Nat => V.str (f (m + (j : Int)))
theorem sc_Volume_texts : FnScope ["self", "start", "number"] ["self", "start"] (defScope s_Volume_texts) := ⟨rfl, rfl, rfl, by decide +kernel, rfl, by decide +kernel, by decide +kernel⟩
def sp_texts (C : Addr) : Sp := S2 fun z s H Q E => ∃ y d w f rows m, z = .ref y ∧ s = .int m ∧ Vol C H y d w f rows ∧ 0 ≤ m ∧ m < 10000000 ∧ ∀ n, LenIs f n → ∀ p H', H p = none → Same H H' → H' p = some (.tup (txt f m n)) → Q (.ref p) H'
theorem ok_texts (F : Df g.K "texts" "Volume.texts" s_Volume_texts fa fd dV) (T : Txt g) (R : VF g C_Volume) (CL_Volume : Cls g.K C_Volume) (F_need_page : Kn g "need_page" 3 ["value"] [] (sp_needp CN)) (M_Volume_length : Km g C_Volume "length" 1 ["self"] [] (sp_len C_Volume)) : FnG g 5 fa fd ["self", "start"] (sp_texts C_Volume) := by
  refine F.ok sc_Volume_texts (fun vs H Q E h => S2.len h) (fun cdv A outer s H vs Q E hr h => ?_)
  obtain ⟨_, _, rfl, y, d, w, f, rows, m, rfl, rfl, hV, m0, m1, q⟩ := h
  refine ⟨_, (pss_cons (ps_expr (pe_callG F_need_page (hr.mono (by first | decide | omega)) tkD (pa_cons (pv 1) pa_nil)))
      (pss_one (ps_ret (pe_callTy call_tuple_of (by rfl) T.b_tuple bb_tuple (pa_cons (pe_lc (own := [("number", 2)]) (tt := tYes) rfl sc_Volume_texts.nd (pi_range2 rfl T.b_range (pa_cons (pv 1) (pa_cons (pe_methG0 (pv 0) CL_Volume M_Volume_length (hr.mono (by first | decide | omega)) tkD) pa_nil))) (blkOk_by (own := [("number", 2)]) (N := ["self", "start", "number"]) (sc := defScope s_Volume_texts) (by decide +kernel)) (fun _ _ _ _ _ => (pg_name (i := 2) sc_Volume_texts.nd rfl (.inl rfl))) (fun _ _ _ _ _ => pts_nil) (fun _ _ _ _ _ => (e_get2 (hu_of (Rm.mk hr.room hr.gd).room) (e_fld (K := g.K) (pv 0)) (pv 2) pe_str))) pa_nil))))), ?_⟩
  walk_at "sx"
  refine ⟨_, rfl, m, rfl, fun _ => ?_, fun z => absurd ⟨m0, m1⟩ z⟩
  have ⟨dy, ep, tk, kvs, ws, hv⟩ := hV
  have hy := hv.hy
  simp only [iRng2, tRet, tRetN, tSeq, C8.tCut, tNext, tAsg, gName, gNil, gCons, gTup, gFld, tIfS, tIf, tAndV, tOrV, tNotV, tAnd, tOr, tNot, tB, tTest, tOp, tUn, tCB, tCons, tNil, tVar, tC, tChain, tDrop, RS.tCallG, RS.tMethG, tMakeG, RS.tCallK, RS.tMakeK, tEqOwn, rI, rI0, rU, add_ii, add_ss, add_rr, mul_ii, mul_si, mul_ri, RS.eq_ii, RS.eq_ss, eq_bb, eq_nn, eq_sn, eq_ns, eq_in, eq_ni, eq_bn, eq_nb, eq_is, eq_si, eq_rr, ne_ii, ne_ss, ne_bb, ne_nn, ne_sn, ne_ns, ne_in, ne_ni, ne_is, ne_si, ne_rr, in_ss, in_r, nin_ss, nin_r, len_s, len_r, RS.ix_s, RS.ix_r, sl_s, sl_r, is_eq, tyN_n, tyN_b, tyN_i, tyN_s, tru_b, tru_i, tru_n, tSl, tPart, tNoPart, tPar, tPar3, tFmtZ, tFmt, tJs, tDGet, sDPut, sFld, tFld, tTup, tLst, tNever, isB,
  L2.start, List.map_cons, List.map_nil, List.length_cons, List.length_nil, Nat.reduceAdd, Nat.reduceSub, Nat.sub_self, List.replicate_zero, List.replicate_succ, List.append_nil, List.cons_append, List.nil_append, List.getElem?_cons_zero, List.getElem?_cons_succ, List.set_cons_zero, List.set_cons_succ, Option.some.injEq, exists_eq_left, exists_eq_left', exists_and_left, V.bl.injEq, V.int.injEq, V.str.injEq, V.ref.injEq, beq_self_eq_true, Bool.true_or, Bool.or_true, Bool.false_or, Bool.or_false, Bool.and_false, Bool.false_and, Bool.true_and, Bool.and_true, Bool.not_true, Bool.not_false, Bool.false_eq_true, if_true, if_false, ite_true, ite_false, true_and, and_true, and_assoc, String.reduceBEq, String.reduceEq, reduceIte, Bool.and_self, reduceCtorEq, false_and, and_false, exists_false, or_false, false_or, exists_const, iEnumS, iStr, iList, iTup, iRng1, iEnum, tFor_eq, tLc_eq, List.cons.injEq, wipe, not_true_eq_false, not_false_eq_true, upd_same, HO.ins.injEq, HO.tup.injEq, HO.lst.injEq, ofS_eq, lk_nil, lk_cons, pu_nil, pu_cons, sizeLine_eq, Nat.reduceLT, Nat.reduceLeDiff, Nat.reduceEqDiff, Nat.le_refl, decide_true, decide_false, tPr, dget_us, dput_us, vv_nil, vv_cons, RS.pk_nil, pk_one, RS.pk_cons, inr_eq, tDisp, tPairs, tBoolOwn, rBoolOwn, tBM, rAppend, ty_list, ty_str, rEqOwn, iEnumT, RS.tCallS, tM1, tDc_eq, tLock, tLockE, iKeys, tListEnum, rUpdate, tMkX0, tMkX1, tXfv, gSub, rSetL, List.getD_cons_zero, List.getD_cons_succ, tCMethS, ClX.tCVal, tXfa, tIxOwn, tInOwn, tPropG, tMethK, tMethP, tListGen, tDGet2, tDPop2, rNeD0, intA_i, intA_b, tRevL, sFldAug, tPm0, tPm1, tDIn, tDNotIn, tDNewK, RS.tMethS]
  refine ⟨_, _, hy, lk_no, _, rfl, y, d, w, f, rows, rfl, hV, fun n H1 hn s1 => ?_⟩
  have n1 : 0 ≤ n ∧ n ≤ 10000000 := by
    rcases hn with ⟨_, rfl⟩ | ⟨j, h1, _, rfl⟩
    · exact ⟨by decide, by decide⟩
    · have := hv.fin.rng j h1
      omega
  have hd1 := s1 _ _ hv.hd
  have hy1 := s1 _ _ hy
  refine ⟨n, rfl, by omega, by omega, by omega, by omega, ?_⟩
  refine lc_all (n - m).toNat (fun j => V.str (f (m + (j : Int)))) (by rw [sizeLine_eq]; omega) (fun i H' lt s => lt) (fun H' s => Nat.le_refl _) (fun i H2 x H3 K lt s2 yl k => ?_) (fun D G hD s2 eD => ?_)
  · obtain ⟨rfl, rfl⟩ := yl
    refine ⟨rfl, ?_⟩
    walk_at "sx"
    have e3 := s2 _ _ hd1
    refine ⟨_, _, _, s2 _ _ hy1, R.cls, R.n1, _, lk_pt, d, rfl, isd e3, _, (by rw [dget_i e3]), ?_⟩
    rw [show Str.ofString "" = nil_ from rfl, hv.pr.getD]
    exact k _ (Same.refl _)
  · refine ⟨D, rfl, _, .inl ⟨SqL.of eD, fun l hl => ?_⟩⟩
    exact q n hn l _ (none_of_same (s1.trans s2) hl) ((s1.trans s2).trans (same_upd hl)) upd_same
end


/-! a write by position or by name -/
section
variable {g : Wd} {fa : Addr} {fd : FuncData} {C_Volume : Addr} {x : Xcs}
theorem sc_l_written : FnScope ["_law_volume", "_law_spot_here", "_law_what_here", "_law_is_plain"] ["_law_volume", "_law_spot_here", "_law_what_here", "_law_is_plain"] (defScope s_l_written) := ⟨rfl, rfl, rfl, by decide +kernel, rfl, by decide +kernel, by decide +kernel⟩
def sp_wrt (C CB : Addr) : Sp := S4 fun z n t b H Q E => (∃ k, b = .bl k) ∧ sp_write C CB [z, n, t] H Q E
theorem ok_wrt (F : Df g.K "_law_written" "_law_written" s_l_written fa fd .none) (T : Txt g) (CL_Volume : Cls g.K C_Volume) (M_Volume_write : Km g C_Volume "write" 5 ["self", "number", "text"] [] (sp_write C_Volume x.CB)) (MK_Volume_write_text_number : Kmk g C_Volume "write" 5 ["self", "number", "text"] ["text", "number"] [1, 0] [] (sp_write C_Volume x.CB)) : FnG g 7 fa fd ["_law_volume", "_law_spot_here", "_law_what_here", "_law_is_plain"] (sp_wrt C_Volume x.CB) := by
  refine F.ok sc_l_written (fun vs H Q E h => S4.len h) (fun cdv A outer s H vs Q E hr h => ?_)
  obtain ⟨_, _, _, _, rfl, ⟨k, rfl⟩, h⟩ := h
  have ⟨_, _, _, h1, y, d, w, f, rows, m, s', h2, h3, h4, hV, _⟩ := h
  cases h1
  cases h2
  have ⟨dy, ep, tk, kvs, ws, hv⟩ := hV
  refine ⟨_, (pss_one (ps_ret (pe_ifExp (t_truth (K := g.K) (pv 3)) (pe_methG (pv 0) CL_Volume M_Volume_write (hr.mono (by first | decide | omega)) tkD (pa_cons (pv 1) (pa_cons (pv 2) pa_nil))) (RS.pe_methK (pv 0) CL_Volume MK_Volume_write_text_number (hr.mono (by first | decide | omega)) tkD (L2.pk_cons (pv 2) (L2.pk_cons (pv 1) L2.pk_nil)))))), ?_⟩
  walk_at "sx"
  cases k with
  | true => exact ⟨_, _, hv.hy, lk_no, h⟩
  | false => exact ⟨_, _, hv.hy, lk_no, h⟩
end


/-! a turn of the law -/
theorem ok_blank : PyData.strOk (Str.ofString "blank") = true := by decide +kernel
theorem inf_b {x : Xcs} {G : Hp} {dd : Addr} {v : V} : Inf x (upd G dd (.xd [("page", v)])) (some dd) x.CB [.str "blank", v] := .inl ⟨dd, _, rfl, .inr (.inr (.inr (.inr ⟨rfl, .inl upd_same, rfl⟩)))⟩
theorem inf_n {x : Xcs} {G : Hp} {dd : Addr} {v : V} : Inf x (upd G dd (.xd [("given", v)])) (some dd) x.CN [.str "number", v] := .inl ⟨dd, _, rfl, .inl ⟨rfl, .inl upd_same, rfl⟩⟩
theorem inf_l {x : Xcs} {G : Hp} : Inf x G none x.CL [.str "locked"] := .inr ⟨rfl, .inl ⟨rfl, rfl⟩⟩
theorem eq_lstN {K : PySem.W.Frag} {H : Hp} {p q : Addr} {Q : VK} (hp : H p = some (.lst [.non])) (hq : H q = some (.lst [.non])) (k : Q (.bl true) H) : rEqD K (.ref p) (.ref q) H Q := by
  refine ⟨.list [.none], .list [.none], .lst (SqL.of hp) (.cons .non .nil), .lst (SqL.of hq) (.cons .non .nil), ?_, ?_, ?_⟩
  · simp [SeqAt.shaped, PyData.canLay0, PyData.canLayAll0, PyData.depth, PyData.depthAll]
  · simp [SeqAt.shaped, PyData.canLay0, PyData.canLayAll0, PyData.depth, PyData.depthAll]
  · have e1 : PyData.eqv (.list [.none]) (.list [.none]) = true := by simp [PyData.eqv, PyData.eqvAll]
    rw [e1]
    exact k
theorem eq_lstI {K : PySem.W.Frag} {H : Hp} {p q : Addr} {n : Int} {Q : VK} (hp : H p = some (.lst [.int n])) (hq : H q = some (.lst [.int n])) (k : Q (.bl true) H) : rEqD K (.ref p) (.ref q) H Q := by
  refine ⟨.list [.int n], .list [.int n], .lst (SqL.of hp) (.cons (.int n) .nil), .lst (SqL.of hq) (.cons (.int n) .nil), ?_, ?_, ?_⟩
  · simp [SeqAt.shaped, PyData.canLay0, PyData.canLayAll0, PyData.depth, PyData.depthAll]
  · simp [SeqAt.shaped, PyData.canLay0, PyData.canLayAll0, PyData.depth, PyData.depthAll]
  · have e1 : PyData.eqv (.list [.int n]) (.list [.int n]) = true := by simp [PyData.eqv, PyData.eqvAll]
    rw [e1]
    exact k
/-- but for one page they are alike -/
def Near (f f' : Pg) : Prop := ∃ n, ∀ k, k ≠ n → f' k = f k
theorem near0 (f : Pg) : Near f f := ⟨0, fun _ _ => rfl⟩
section
variable {g : Wd} {fa : Addr} {fd : FuncData} {C_Volume c P : Addr} {x : Xcs} {TS : List (Addr × Str)}
theorem sc_l_step_right : FnScope ["_law_source", "_law_volume", "_law_m", "_law_way", "_law_spot_here", "_law_what_here", "_law_told_here", "_law_is_there", "_law_many"] ["_law_source", "_law_volume", "_law_m"] (defScope s_l_step_right) := ⟨rfl, rfl, rfl, by decide +kernel, rfl, by decide +kernel, by decide +kernel⟩
def sp_step (T : List (Addr × Str)) (C : Addr) : Sp := S3 fun x z u H Q _ => ∃ a cl N y d w μ a1 b1 c1 s, x = .ref a ∧ z = .ref y ∧ u = .ref μ ∧ St T C H a cl N y d w μ a1 b1 c1 s s ∧ s.Ch ∧ N < 900000 ∧ s.rows.length ≤ 900 ∧
  ∀ w' a1' b1' c1' s' H', St T C H' a cl (N + 5) y d w' μ a1' b1' c1' s' s' → s'.Ch → s'.rows.length ≤ s.rows.length + 1 → s'.e = s.e → s'.k = s.k → Near s.f s'.f → Got H H' a y d w w' μ → Q (.bl true) H'
theorem ok_step (F : DfC g.K "_law_step_right" "_law_step_right" s_l_step_right fa fd c) (T : Txt g) (SM : SmB g.base) (CL_Volume : Cls g.K C_Volume) (TOLD : Told g 10 "_law_told" (TTk x)) (L_l_step_right : LamT g TS c P "_law_step_right") (F_l_pick : Kn g "_law_pick" 1 ["_law_source", "_law_many"] [] sp_pick) (F_l_spot : Kn g "_law_spot" 2 ["_law_source"] [] sp_spot) (F_l_what : Kn g "_law_what" 2 ["_law_source"] [] sp_what)
    (F_l_noted : Kn g "_law_noted" 2 ["_law_m", "_law_spot_here", "_law_what_here"] [] sp_noted) (F_l_sure : Kn g "_law_sure" 1 ["_law_m", "_law_pages"] [] sp_sure)
    (F_l_written : Kn g "_law_written" 7 ["_law_volume", "_law_spot_here", "_law_what_here", "_law_is_plain"] [] (sp_wrt C_Volume x.CB)) (MK_Volume_erase_number : Kmk g C_Volume "erase" 5 ["self", "number"] ["number"] [0] [] (sp_erase C_Volume)) (M_Volume_erase : Km g C_Volume "erase" 5 ["self", "number"] [] (sp_erase C_Volume)) (M_Volume_sync : Km g C_Volume "sync" 1 ["self"] [] (sp_sync C_Volume)) : FnG g 12 fa fd ["_law_source", "_law_volume", "_law_m"] (sp_step TS C_Volume) := by
  refine F.ok sc_l_step_right (fun vs H Q E h => S3.len h) (fun A outer s H vs Q E hr h => ?_)
  obtain ⟨_, _, _, rfl, a, cl, N, y, d, w, μ, a1, b1, c1, s, rfl, rfl, rfl, st, ch, hN, rl, q⟩ := h
  refine ⟨_, (pss_mid (ps_asg (pe_tup (pa_cons (pe_callG F_l_pick (hr.mono (by first | decide | omega)) tkD (pa_cons (pv 0) (pa_cons pe_int pa_nil))) (pa_cons (pe_callG F_l_spot (hr.mono (by first | decide | omega)) tkD (pa_cons (pv 0) pa_nil)) (pa_cons (pe_callG F_l_what (hr.mono (by first | decide | omega)) tkD (pa_cons (pv 0) pa_nil)) pa_nil)))) (g_tup (K := g.K) (n := 3) (pgs_cons (pg_name (i := 3) sc_l_step_right.nd rfl (.inr rfl)) (pgs_cons (pg_name (i := 4) sc_l_step_right.nd rfl (.inr rfl)) (pgs_cons (pg_name (i := 5) sc_l_step_right.nd rfl (.inr rfl)) pgs_nil)))))
      (pss_mid (ps_if (pt_cmpR op_lt (pv 3) pe_int (nomark _)) (pss_mid (ps_set (i := 6) sc_l_step_right.nd rfl (Or.inl rfl) (pe_lam TOLD L_l_step_right (hr.mono (by first | decide | omega)) (by decide +kernel) (fun _ _ _ _ _ _ _ hr => (pe_callG F_l_written (Rm.mono (Rm.mk hr.room hr.gd) (by first | decide | omega)) takesL (pa_cons (pv 1) (pa_cons (pv 4) (pa_cons (pv 5) (pa_cons (pe_cmpR op_lt (pv 3) pe_int (nomark _)) pa_nil))))))))
      (pss_mid (ps_if (pt_cmp (pc_din (hu_of hr.room) (pv 4) (pe_dget (hu_of hr.room) (pv 2) pe_str (fun _ _ => rfl))) (by rfl)) (pss_one (ps_ret (pe_cmpR (o_eq (K := g.K) hr) (pv 6) (pe_tup (pa_cons pe_str (pa_cons (pv 4) pa_nil))) (nomark _)))) pss_nil)
      (pss_mid (ps_expr (pe_callG F_l_noted (hr.mono (by first | decide | omega)) tkD (pa_cons (pv 2) (pa_cons (pv 4) (pa_cons (pv 5) pa_nil)))))
      (pss_one (ps_ret (pe_cmpR (o_eq (K := g.K) hr) (pv 6) (pe_lst (pa_cons pe_non pa_nil)) (nomark _))))))) pss_nil)
      (pss_mid (ps_if (pt_cmpR op_lt (pv 3) pe_int (nomark _)) (pss_mid (ps_set (i := 6) sc_l_step_right.nd rfl (Or.inl rfl) (pe_lam TOLD L_l_step_right (hr.mono (by first | decide | omega)) (by decide +kernel) (fun _ _ _ _ _ _ _ hr => (pe_ifExp (pt_cmpR op_lt (pv 3) pe_int (nomark _)) (pe_methG (pv 1) CL_Volume M_Volume_erase (Rm.mono (Rm.mk hr.room hr.gd) (by first | decide | omega)) takesL (pa_cons (pv 4) pa_nil)) (RS.pe_methK (pv 1) CL_Volume MK_Volume_erase_number (Rm.mono (Rm.mk hr.room hr.gd) (by first | decide | omega)) takesL (L2.pk_cons (pv 4) L2.pk_nil))))))
      (pss_mid (ps_set (i := 7) sc_l_step_right.nd rfl (Or.inl rfl) (pe_cmp (pc_din (hu_of hr.room) (pv 4) (pe_dget (hu_of hr.room) (pv 2) pe_str (fun _ _ => rfl))) (by rfl)))
      (pss_mid (ps_if (t_truth (K := g.K) (pv 7)) (pss_one (ps_expr (pe_callG F_l_noted (hr.mono (by first | decide | omega)) tkD (pa_cons (pv 2) (pa_cons (pv 4) (pa_cons pe_str pa_nil)))))) pss_nil)
      (pss_one (ps_ret (pe_cmpR (o_eq (K := g.K) hr) (pe_callB (c_reprV (K := g.K) (base := g.base) SM hr) (by rfl) T.b_repr bb_repr (pa_cons (pv 6) pa_nil)) (pe_callB (c_reprV (K := g.K) (base := g.base) SM hr) (by rfl) T.b_repr bb_repr (pa_cons (pe_lst (pa_cons (pv 7) pa_nil)) pa_nil)) (nomark _))))))) pss_nil)
      (pss_mid (ps_par (i := 6) (j := 8) (by rfl) sc_l_step_right.nd rfl rfl (by decide) rfl rfl (pa_cons (pe_lam TOLD L_l_step_right (hr.mono (by first | decide | omega)) (by decide +kernel) (fun _ _ _ _ _ _ _ hr => (pe_methG0 (pv 1) CL_Volume M_Volume_sync (Rm.mono (Rm.mk hr.room hr.gd) (by first | decide | omega)) takesL))) (pa_cons (pe_callB (c_len (K := g.K)) (by rfl) T.b_len bb_len (pa_cons (pe_dget (hu_of hr.room) (pv 2) pe_str (fun _ _ => rfl)) pa_nil)) pa_nil)) (by rfl))
      (pss_mid (ps_expr (pe_callG F_l_sure (hr.mono (by first | decide | omega)) tkD (pa_cons (pv 2) (pa_cons (pe_dget (hu_of hr.room) (pv 2) pe_str (fun _ _ => rfl)) pa_nil))))
      (pss_one (ps_ret (pe_cmpR (o_eq (K := g.K) hr) (pv 6) (pe_lst (pa_cons (pv 8) pa_nil)) (nomark _))))))))), ?_⟩
  have laH := st.src.all a (by simp)
  refine mid_at (fun σ G => ∃ (k m : Int) (t : Str), σ = [some (.ref a), some (.ref y), some (.ref μ), some (.int k), some (.int m), some (.str t), none, none, none] ∧ 0 ≤ k ∧ k < 9 ∧ 0 ≤ m ∧ m ≤ 9999999 ∧ m ≠ 5 ∧ TOk t ∧ t ≠ nil_ ∧ St TS C_Volume G a cl (N + 5) y d w μ a1 b1 c1 s s ∧ Got H G a y d w w μ) ?_ ?_
  · walk_at "sx"
    refine ⟨_, _, rfl, a, cl, N, 9, rfl, rfl, by decide, by decide, st.src, by omega, fun k G1 k0 k1 S1 fr1 => ?_⟩
    refine ⟨_, rfl, a, cl, N + 1, rfl, S1, by omega, fun m G2 m0 m1 m5 S2 fr2 => ?_⟩
    refine ⟨_, rfl, a, cl, N + 2, rfl, S2, by omega, fun t G3 t0 t1 S3 fr3 => fun p hp => ?_⟩
    have sp := same_upd (o := HO.tup [V.int k, .int m, .str t]) hp
    have fr := ((fr1.trans fr2).trans fr3).trans (Fr1.of sp)
    refine ⟨_, SqT.of upd_same, rfl, _, _, rfl, _, _, rfl, _, _, rfl, rfl, ?_⟩
    exact ⟨k, rfl, m, rfl, t, rfl, k0, k1, m0, m1, m5, t0, t1, st.drawn (S3.same sp) fr, Got.of fr.t (by simp) laH⟩
  rintro _ G ⟨k, m, t, rfl, k0, k1, m0, m1, m5, t0, t1, sg, go⟩
  have f5 : ∀ z, Near s.f (s.note m z).f := fun z => ⟨m, fun k hk => setP_ne hk⟩
  have laG := sg.src.all a (by simp)
  by_cases w5 : k < 5
  · refine mid_at (fun _ _ => False) ?_ (fun _ _ z => z.elim)
    walk_at "sx"
    rw [if_pos (by simpa using w5)]
    refine mid_at (fun σ G2 => ∃ r, σ = [some (.ref a), some (.ref y), some (.ref μ), some (.int k), some (.int m), some (.str t), some (.ref r), none, none] ∧
      ((s.f m = nil_ ∧ G2 r = some (.lst [.non]) ∧ ∃ w', St TS C_Volume G2 a cl (N + 5) y d w' μ a1 b1 c1 (s.note m t) s ∧ Got H G2 a y d w w' μ) ∨
       (s.f m ≠ nil_ ∧ G2 r = some (.tup [.str (Str.ofString "blank"), .int m]) ∧ St TS C_Volume G2 a cl (N + 5) y d w μ a1 b1 c1 s s ∧ Got H G2 a y d w w μ))) ?_ ?_
    · simp only [tLamG, tRet, tRetN, tSeq, C8.tCut, tNext, tAsg, gName, gNil, gCons, gTup, gFld, tIfS, tIf, tAndV, tOrV, tNotV, tAnd, tOr, tNot, tB, tTest, tOp, tUn, tCB, tCons, tNil, tVar, tC, tChain, tDrop, RS.tCallG, RS.tMethG, tMakeG, RS.tCallK, RS.tMakeK, tEqOwn, rI, rI0, rU, add_ii, add_ss, add_rr, mul_ii, mul_si, mul_ri, RS.eq_ii, RS.eq_ss, eq_bb, eq_nn, eq_sn, eq_ns, eq_in, eq_ni, eq_bn, eq_nb, eq_is, eq_si, eq_rr, ne_ii, ne_ss, ne_bb, ne_nn, ne_sn, ne_ns, ne_in, ne_ni, ne_is, ne_si, ne_rr, in_ss, in_r, nin_ss, nin_r, len_s, len_r, RS.ix_s, RS.ix_r, sl_s, sl_r, is_eq, tyN_n, tyN_b, tyN_i, tyN_s, tru_b, tru_i, tru_n, tSl, tPart, tNoPart, tPar, tPar3, tFmtZ, tFmt, tJs, tDGet, sDPut, sFld, tFld, tTup, tLst, tNever, isB,
  L2.start, List.map_cons, List.map_nil, List.length_cons, List.length_nil, Nat.reduceAdd, Nat.reduceSub, Nat.sub_self, List.replicate_zero, List.replicate_succ, List.append_nil, List.cons_append, List.nil_append, List.getElem?_cons_zero, List.getElem?_cons_succ, List.set_cons_zero, List.set_cons_succ, Option.some.injEq, exists_eq_left, exists_eq_left', exists_and_left, V.bl.injEq, V.int.injEq, V.str.injEq, V.ref.injEq, beq_self_eq_true, Bool.true_or, Bool.or_true, Bool.false_or, Bool.or_false, Bool.and_false, Bool.false_and, Bool.true_and, Bool.and_true, Bool.not_true, Bool.not_false, Bool.false_eq_true, if_true, if_false, ite_true, ite_false, true_and, and_true, and_assoc, String.reduceBEq, String.reduceEq, reduceIte, Bool.and_self, reduceCtorEq, false_and, and_false, exists_false, or_false, false_or, exists_const, iEnumS, iStr, iList, iTup, iRng1, iEnum, tFor_eq, tLc_eq, List.cons.injEq, wipe, not_true_eq_false, not_false_eq_true, upd_same, HO.ins.injEq, HO.tup.injEq, HO.lst.injEq, ofS_eq, lk_nil, lk_cons, pu_nil, pu_cons, sizeLine_eq, Nat.reduceLT, Nat.reduceLeDiff, Nat.reduceEqDiff, Nat.le_refl, decide_true, decide_false, tPr, dget_us, dput_us, vv_nil, vv_cons, RS.pk_nil, pk_one, RS.pk_cons, inr_eq, tDisp, tPairs, tBoolOwn, rBoolOwn, tBM, rAppend, ty_list, ty_str, rEqOwn, iEnumT, RS.tCallS, tM1, tDc_eq, tLock, tLockE, iKeys, tListEnum, rUpdate, tMkX0, tMkX1, tXfv, gSub, rSetL, List.getD_cons_zero, List.getD_cons_succ, tCMethS, ClX.tCVal, tXfa, tIxOwn, tInOwn, tPropG, tMethK, tMethP, tListGen, tDGet2, tDPop2, rNeD0, intA_i, intA_b, tRevL, sFldAug, tPm0, tPm1, tDIn, tDNotIn, tDNewK, RS.tMethS]
      refine ⟨sg.tab, fun c' H1 eN T1 hc => ?_⟩
      intro H0 E' K' s0 hE hK
      have frn : FrT [] G H0 := (FrT.ofN eN).trans (FrT.of s0)
      have sg0 := sg.frT frn (T1.ext s0)
      have go0 := go.trans (Got.of frn (by simp) laG)
      have la0 := sg0.src.all a (by simp)
      have ⟨dy, ep, tk, kvs, ws, hv0⟩ := sg0.vol
      refine ⟨_, _, _, _, rfl, ⟨_, rfl⟩, _, _, _, rfl, y, d, w, s.f, s.rows, m, t, rfl, rfl, rfl, sg0.vol, by omega, m0, by omega, t0, t1, fun e w' H2 hV2 nw fr2 ek => hK _ _ fun p hp => ?_, fun ne dd hdd => hE _ _ _ ⟨x.CB, _, rfl, inf_b, fun p H'' s' hp' ep' => ?_⟩⟩
      · have sp := same_upd (o := HO.lst [V.non]) hp
        have s2 := sg0.ran (s' := s.note m t) hV2 (ek _ _ sg0.et) nw fr2
        exact ⟨p, rfl, .inl ⟨e, upd_same, w', s2.same sp, go0.trans ((Got.ran fr2 nw la0).trans (Got.same sp (s2.src.all a (by simp))))⟩⟩
      · have sd := (same_upd (o := HO.xd [(Str.ofString "page", V.int m)]) hdd).trans s'
        exact ⟨p, rfl, .inr ⟨ne, ep', sg0.same sd, go0.trans (Got.same sd la0)⟩⟩
    rintro _ G2 ⟨r, rfl, (⟨e, er, w', s2, go2⟩ | ⟨ne, er, s2, go2⟩)⟩
    · have ⟨ka, kc, ws2, hm⟩ := s2.m
      have la2 := s2.src.all a (by simp)
      refine mid_one [some (.ref a), some (.ref y), some (.ref μ), some (.int k), some (.int m), some (.str t), some (.ref r), none, none] (fun G3 => G3 = G2) ?_ ?_
      · simp only [dget_s hm.hm, n_rs, n_ps, n_pr, n_sr, n_sp, n_rp, tB, tRet, tRetN, tSeq, C8.tCut, tNext, tAsg, gName, gNil, gCons, gTup, gFld, tIfS, tIf, tAndV, tOrV, tNotV, tAnd, tOr, tNot, tB, tTest, tOp, tUn, tCB, tCons, tNil, tVar, tC, tChain, tDrop, RS.tCallG, RS.tMethG, tMakeG, RS.tCallK, RS.tMakeK, tEqOwn, rI, rI0, rU, add_ii, add_ss, add_rr, mul_ii, mul_si, mul_ri, RS.eq_ii, RS.eq_ss, eq_bb, eq_nn, eq_sn, eq_ns, eq_in, eq_ni, eq_bn, eq_nb, eq_is, eq_si, eq_rr, ne_ii, ne_ss, ne_bb, ne_nn, ne_sn, ne_ns, ne_in, ne_ni, ne_is, ne_si, ne_rr, in_ss, in_r, nin_ss, nin_r, len_s, len_r, RS.ix_s, RS.ix_r, sl_s, sl_r, is_eq, tyN_n, tyN_b, tyN_i, tyN_s, tru_b, tru_i, tru_n, tSl, tPart, tNoPart, tPar, tPar3, tFmtZ, tFmt, tJs, tDGet, sDPut, sFld, tFld, tTup, tLst, tNever, isB,
  L2.start, List.map_cons, List.map_nil, List.length_cons, List.length_nil, Nat.reduceAdd, Nat.reduceSub, Nat.sub_self, List.replicate_zero, List.replicate_succ, List.append_nil, List.cons_append, List.nil_append, List.getElem?_cons_zero, List.getElem?_cons_succ, List.set_cons_zero, List.set_cons_succ, Option.some.injEq, exists_eq_left, exists_eq_left', exists_and_left, V.bl.injEq, V.int.injEq, V.str.injEq, V.ref.injEq, beq_self_eq_true, Bool.true_or, Bool.or_true, Bool.false_or, Bool.or_false, Bool.and_false, Bool.false_and, Bool.true_and, Bool.and_true, Bool.not_true, Bool.not_false, Bool.false_eq_true, if_true, if_false, ite_true, ite_false, true_and, and_true, and_assoc, String.reduceBEq, String.reduceEq, reduceIte, Bool.and_self, reduceCtorEq, false_and, and_false, exists_false, or_false, false_or, exists_const, iEnumS, iStr, iList, iTup, iRng1, iEnum, tFor_eq, tLc_eq, List.cons.injEq, wipe, not_true_eq_false, not_false_eq_true, upd_same, HO.ins.injEq, HO.tup.injEq, HO.lst.injEq, ofS_eq, lk_nil, lk_cons, pu_nil, pu_cons, sizeLine_eq, Nat.reduceLT, Nat.reduceLeDiff, Nat.reduceEqDiff, Nat.le_refl, decide_true, decide_false, tPr, dget_us, dput_us, vv_nil, vv_cons, RS.pk_nil, pk_one, RS.pk_cons, inr_eq, tDisp, tPairs, tBoolOwn, rBoolOwn, tBM, rAppend, ty_list, ty_str, rEqOwn, iEnumT, RS.tCallS, tM1, tDc_eq, tLock, tLockE, iKeys, tListEnum, rUpdate, tMkX0, tMkX1, tXfv, gSub, rSetL, List.getD_cons_zero, List.getD_cons_succ, tCMethS, ClX.tCVal, tXfa, tIxOwn, tInOwn, tPropG, tMethK, tMethP, tListGen, tDGet2, tDPop2, rNeD0, intA_i, intA_b, tRevL, sFldAug, tPm0, tPm1, tDIn, tDNotIn, tDNewK, RS.tMethS]
        refine ⟨_, (by rw [dget_i hm.hc]), ?_⟩
        rw [hm.pc.isSome, if_neg (by simp [e])]
        trivial
      intro G3 e0
      rw [e0]; clear e0 G3
      refine mid_at (fun σ G3 => σ = [some (.ref a), some (.ref y), some (.ref μ), some (.int k), some (.int m), some (.str t), some (.ref r), none, none] ∧ ∃ a' b' c', St TS C_Volume G3 a cl (N + 5) y d w' μ a' b' c' (s.note m t) (s.note m t) ∧ Fr1 [μ] G2 G3) ?_ ?_
      · walk_at "sx"
        exact ⟨_, _, _, rfl, μ, a1, b1, c1, s.su, s.rows, s.f, [], m, t, rfl, rfl, rfl, s2.m, m0, by omega, t0, by omega, fun a' b' c' G3 m3 nw3 fr3 => ⟨a', b', c', s2.noted (q' := s.note m t) m3 (nn_of nw3) fr3, fr3⟩⟩
      rintro _ G3 ⟨rfl, a', b', c', s3, fr3⟩
      walk_at "sx"
      intro p hp
      have sp := same_upd (o := HO.lst [V.non]) hp
      have rμ : r ∉ [μ] := fun z => by rw [List.mem_singleton.mp z, hm.hm] at er; cases er
      exact eq_lstN (sp _ _ (fr3 _ _ rμ er)) upd_same (q w' a' b' c' _ _ (s3.same sp) (ch.note m t) (by simp [VW.note]) rfl rfl (f5 t) (go2.trans ((Got.of fr3.t (by simp) la2).trans (Got.same sp (s3.src.all a (by simp))))))
    · obtain ⟨ka, kc, ws2, hm⟩ := s2.m
      refine mid_at (fun _ _ => False) ?_ (fun _ _ z => z.elim)
      simp only [dget_s hm.hm, n_rs, n_ps, n_pr, n_sr, n_sp, n_rp, tB, tRet, tRetN, tSeq, C8.tCut, tNext, tAsg, gName, gNil, gCons, gTup, gFld, tIfS, tIf, tAndV, tOrV, tNotV, tAnd, tOr, tNot, tB, tTest, tOp, tUn, tCB, tCons, tNil, tVar, tC, tChain, tDrop, RS.tCallG, RS.tMethG, tMakeG, RS.tCallK, RS.tMakeK, tEqOwn, rI, rI0, rU, add_ii, add_ss, add_rr, mul_ii, mul_si, mul_ri, RS.eq_ii, RS.eq_ss, eq_bb, eq_nn, eq_sn, eq_ns, eq_in, eq_ni, eq_bn, eq_nb, eq_is, eq_si, eq_rr, ne_ii, ne_ss, ne_bb, ne_nn, ne_sn, ne_ns, ne_in, ne_ni, ne_is, ne_si, ne_rr, in_ss, in_r, nin_ss, nin_r, len_s, len_r, RS.ix_s, RS.ix_r, sl_s, sl_r, is_eq, tyN_n, tyN_b, tyN_i, tyN_s, tru_b, tru_i, tru_n, tSl, tPart, tNoPart, tPar, tPar3, tFmtZ, tFmt, tJs, tDGet, sDPut, sFld, tFld, tTup, tLst, tNever, isB,
  L2.start, List.map_cons, List.map_nil, List.length_cons, List.length_nil, Nat.reduceAdd, Nat.reduceSub, Nat.sub_self, List.replicate_zero, List.replicate_succ, List.append_nil, List.cons_append, List.nil_append, List.getElem?_cons_zero, List.getElem?_cons_succ, List.set_cons_zero, List.set_cons_succ, Option.some.injEq, exists_eq_left, exists_eq_left', exists_and_left, V.bl.injEq, V.int.injEq, V.str.injEq, V.ref.injEq, beq_self_eq_true, Bool.true_or, Bool.or_true, Bool.false_or, Bool.or_false, Bool.and_false, Bool.false_and, Bool.true_and, Bool.and_true, Bool.not_true, Bool.not_false, Bool.false_eq_true, if_true, if_false, ite_true, ite_false, true_and, and_true, and_assoc, String.reduceBEq, String.reduceEq, reduceIte, Bool.and_self, reduceCtorEq, false_and, and_false, exists_false, or_false, false_or, exists_const, iEnumS, iStr, iList, iTup, iRng1, iEnum, tFor_eq, tLc_eq, List.cons.injEq, wipe, not_true_eq_false, not_false_eq_true, upd_same, HO.ins.injEq, HO.tup.injEq, HO.lst.injEq, ofS_eq, lk_nil, lk_cons, pu_nil, pu_cons, sizeLine_eq, Nat.reduceLT, Nat.reduceLeDiff, Nat.reduceEqDiff, Nat.le_refl, decide_true, decide_false, tPr, dget_us, dput_us, vv_nil, vv_cons, RS.pk_nil, pk_one, RS.pk_cons, inr_eq, tDisp, tPairs, tBoolOwn, rBoolOwn, tBM, rAppend, ty_list, ty_str, rEqOwn, iEnumT, RS.tCallS, tM1, tDc_eq, tLock, tLockE, iKeys, tListEnum, rUpdate, tMkX0, tMkX1, tXfv, gSub, rSetL, List.getD_cons_zero, List.getD_cons_succ, tCMethS, ClX.tCVal, tXfa, tIxOwn, tInOwn, tPropG, tMethK, tMethP, tListGen, tDGet2, tDPop2, rNeD0, intA_i, intA_b, tRevL, sFldAug, tPm0, tPm1, tDIn, tDNotIn, tDNewK, RS.tMethS]
      refine ⟨_, (by rw [dget_i hm.hc]), ?_⟩
      rw [hm.pc.isSome, if_pos (by simp [ne])]
      intro p hp
      have sp := same_upd (o := HO.tup [V.str (Str.ofString "blank"), V.int m]) hp
      refine ⟨.tuple [.str (Str.ofString "blank"), .int m], .tuple [.str (Str.ofString "blank"), .int m], .tup (SqT.of (sp _ _ er)) (.cons (.str _) (.cons (.int _) .nil)), .tup (SqT.of upd_same) (.cons (.str _) (.cons (.int _) .nil)), ?_, ?_, ?_⟩
      · simp [SeqAt.shaped, PyData.canLay0, PyData.canLayAll0, PyData.depth, PyData.depthAll, ok_blank]
      · simp [SeqAt.shaped, PyData.canLay0, PyData.canLayAll0, PyData.depth, PyData.depthAll, ok_blank]
      · have e1 : PyData.eqv (.tuple [.str (Str.ofString "blank"), .int m]) (.tuple [.str (Str.ofString "blank"), .int m]) = true := by simp [PyData.eqv, PyData.eqvAll]
        rw [e1]
        exact q w a1 b1 c1 s _ (s2.same sp) ch (by omega) rfl rfl (near0 _) (go2.trans (Got.same sp (s2.src.all a (by simp))))
  refine mid_one [some (.ref a), some (.ref y), some (.ref μ), some (.int k), some (.int m), some (.str t), none, none, none] (fun G3 => G3 = G) ?_ ?_
  · walk_at "sx"
    rw [if_neg (by simpa using w5)]
    trivial
  intro G3 e0
  rw [e0]; clear e0 G3
  by_cases w8 : k < 8
  · refine mid_at (fun _ _ => False) ?_ (fun _ _ z => z.elim)
    walk_at "sx"
    rw [if_pos (by simpa using w8)]
    refine mid_at (fun σ G2 => ∃ r, σ = [some (.ref a), some (.ref y), some (.ref μ), some (.int k), some (.int m), some (.str t), some (.ref r), none, none] ∧ G2 r = some (.lst [.bl (decide (s.f m ≠ nil_))]) ∧
      ((s.f m ≠ nil_ ∧ ∃ w', St TS C_Volume G2 a cl (N + 5) y d w' μ a1 b1 c1 (s.note m nil_) s ∧ Got H G2 a y d w w' μ) ∨
       (s.f m = nil_ ∧ St TS C_Volume G2 a cl (N + 5) y d w μ a1 b1 c1 s s ∧ Got H G2 a y d w w μ))) ?_ ?_
    · simp only [tLamG, tRet, tRetN, tSeq, C8.tCut, tNext, tAsg, gName, gNil, gCons, gTup, gFld, tIfS, tIf, tAndV, tOrV, tNotV, tAnd, tOr, tNot, tB, tTest, tOp, tUn, tCB, tCons, tNil, tVar, tC, tChain, tDrop, RS.tCallG, RS.tMethG, tMakeG, RS.tCallK, RS.tMakeK, tEqOwn, rI, rI0, rU, add_ii, add_ss, add_rr, mul_ii, mul_si, mul_ri, RS.eq_ii, RS.eq_ss, eq_bb, eq_nn, eq_sn, eq_ns, eq_in, eq_ni, eq_bn, eq_nb, eq_is, eq_si, eq_rr, ne_ii, ne_ss, ne_bb, ne_nn, ne_sn, ne_ns, ne_in, ne_ni, ne_is, ne_si, ne_rr, in_ss, in_r, nin_ss, nin_r, len_s, len_r, RS.ix_s, RS.ix_r, sl_s, sl_r, is_eq, tyN_n, tyN_b, tyN_i, tyN_s, tru_b, tru_i, tru_n, tSl, tPart, tNoPart, tPar, tPar3, tFmtZ, tFmt, tJs, tDGet, sDPut, sFld, tFld, tTup, tLst, tNever, isB,
  L2.start, List.map_cons, List.map_nil, List.length_cons, List.length_nil, Nat.reduceAdd, Nat.reduceSub, Nat.sub_self, List.replicate_zero, List.replicate_succ, List.append_nil, List.cons_append, List.nil_append, List.getElem?_cons_zero, List.getElem?_cons_succ, List.set_cons_zero, List.set_cons_succ, Option.some.injEq, exists_eq_left, exists_eq_left', exists_and_left, V.bl.injEq, V.int.injEq, V.str.injEq, V.ref.injEq, beq_self_eq_true, Bool.true_or, Bool.or_true, Bool.false_or, Bool.or_false, Bool.and_false, Bool.false_and, Bool.true_and, Bool.and_true, Bool.not_true, Bool.not_false, Bool.false_eq_true, if_true, if_false, ite_true, ite_false, true_and, and_true, and_assoc, String.reduceBEq, String.reduceEq, reduceIte, Bool.and_self, reduceCtorEq, false_and, and_false, exists_false, or_false, false_or, exists_const, iEnumS, iStr, iList, iTup, iRng1, iEnum, tFor_eq, tLc_eq, List.cons.injEq, wipe, not_true_eq_false, not_false_eq_true, upd_same, HO.ins.injEq, HO.tup.injEq, HO.lst.injEq, ofS_eq, lk_nil, lk_cons, pu_nil, pu_cons, sizeLine_eq, Nat.reduceLT, Nat.reduceLeDiff, Nat.reduceEqDiff, Nat.le_refl, decide_true, decide_false, tPr, dget_us, dput_us, vv_nil, vv_cons, RS.pk_nil, pk_one, RS.pk_cons, inr_eq, tDisp, tPairs, tBoolOwn, rBoolOwn, tBM, rAppend, ty_list, ty_str, rEqOwn, iEnumT, RS.tCallS, tM1, tDc_eq, tLock, tLockE, iKeys, tListEnum, rUpdate, tMkX0, tMkX1, tXfv, gSub, rSetL, List.getD_cons_zero, List.getD_cons_succ, tCMethS, ClX.tCVal, tXfa, tIxOwn, tInOwn, tPropG, tMethK, tMethP, tListGen, tDGet2, tDPop2, rNeD0, intA_i, intA_b, tRevL, sFldAug, tPm0, tPm1, tDIn, tDNotIn, tDNewK, RS.tMethS]
      refine ⟨sg.tab, fun c' H1 eN T1 hc => ?_⟩
      intro H0 E' K' s0 hE hK
      have frn : FrT [] G H0 := (FrT.ofN eN).trans (FrT.of s0)
      have sg0 := sg.frT frn (T1.ext s0)
      have go0 := go.trans (Got.of frn (by simp) laG)
      have la0 := sg0.src.all a (by simp)
      have ⟨dy, ep, tk, kvs, ws, hv0⟩ := sg0.vol
      have mainE : sp_erase C_Volume [V.ref y, V.int m] H0 K' fun c d H' => E' c d H' := by
        refine ⟨_, _, rfl, y, d, w, s.f, s.rows, m, rfl, rfl, sg0.vol, by omega, m0, by omega, fun e => hK _ _ fun p hp => ?_, fun e w' H2 hV2 nw fr2 ek => hK _ _ fun p hp => ?_⟩
        · have sp := same_upd (o := HO.lst [V.bl false]) hp
          exact ⟨p, rfl, by rw [upd_same]; simp [e], .inr ⟨e, sg0.same sp, go0.trans (Got.same sp la0)⟩⟩
        · have sp := same_upd (o := HO.lst [V.bl true]) hp
          have s2 := sg0.ran (s' := s.note m nil_) hV2 (ek _ _ sg0.et) nw fr2
          exact ⟨p, rfl, by rw [upd_same]; simp [e], .inl ⟨e, w', s2.same sp, go0.trans ((Got.ran fr2 nw la0).trans (Got.same sp (s2.src.all a (by simp))))⟩⟩
      split <;> exact ⟨_, _, hv0.hy, lk_no, mainE⟩
    rintro _ G2 ⟨r, rfl, er, hcase⟩
    have ⟨ka, kc, ws2, hm⟩ : M G2 μ a1 b1 c1 s.su s.rows s.f [] := by
      rcases hcase with ⟨_, w', s2, _⟩ | ⟨_, s2, _⟩
      · exact s2.m
      · exact s2.m
    refine mid_one [some (.ref a), some (.ref y), some (.ref μ), some (.int k), some (.int m), some (.str t), some (.ref r), some (.bl (decide (s.f m ≠ nil_))), none] (fun G3 => G3 = G2) ?_ ?_
    · simp only [dget_s hm.hm, n_rs, n_ps, n_pr, n_sr, n_sp, n_rp, tB, tRet, tRetN, tSeq, C8.tCut, tNext, tAsg, gName, gNil, gCons, gTup, gFld, tIfS, tIf, tAndV, tOrV, tNotV, tAnd, tOr, tNot, tB, tTest, tOp, tUn, tCB, tCons, tNil, tVar, tC, tChain, tDrop, RS.tCallG, RS.tMethG, tMakeG, RS.tCallK, RS.tMakeK, tEqOwn, rI, rI0, rU, add_ii, add_ss, add_rr, mul_ii, mul_si, mul_ri, RS.eq_ii, RS.eq_ss, eq_bb, eq_nn, eq_sn, eq_ns, eq_in, eq_ni, eq_bn, eq_nb, eq_is, eq_si, eq_rr, ne_ii, ne_ss, ne_bb, ne_nn, ne_sn, ne_ns, ne_in, ne_ni, ne_is, ne_si, ne_rr, in_ss, in_r, nin_ss, nin_r, len_s, len_r, RS.ix_s, RS.ix_r, sl_s, sl_r, is_eq, tyN_n, tyN_b, tyN_i, tyN_s, tru_b, tru_i, tru_n, tSl, tPart, tNoPart, tPar, tPar3, tFmtZ, tFmt, tJs, tDGet, sDPut, sFld, tFld, tTup, tLst, tNever, isB,
  L2.start, List.map_cons, List.map_nil, List.length_cons, List.length_nil, Nat.reduceAdd, Nat.reduceSub, Nat.sub_self, List.replicate_zero, List.replicate_succ, List.append_nil, List.cons_append, List.nil_append, List.getElem?_cons_zero, List.getElem?_cons_succ, List.set_cons_zero, List.set_cons_succ, Option.some.injEq, exists_eq_left, exists_eq_left', exists_and_left, V.bl.injEq, V.int.injEq, V.str.injEq, V.ref.injEq, beq_self_eq_true, Bool.true_or, Bool.or_true, Bool.false_or, Bool.or_false, Bool.and_false, Bool.false_and, Bool.true_and, Bool.and_true, Bool.not_true, Bool.not_false, Bool.false_eq_true, if_true, if_false, ite_true, ite_false, true_and, and_true, and_assoc, String.reduceBEq, String.reduceEq, reduceIte, Bool.and_self, reduceCtorEq, false_and, and_false, exists_false, or_false, false_or, exists_const, iEnumS, iStr, iList, iTup, iRng1, iEnum, tFor_eq, tLc_eq, List.cons.injEq, wipe, not_true_eq_false, not_false_eq_true, upd_same, HO.ins.injEq, HO.tup.injEq, HO.lst.injEq, ofS_eq, lk_nil, lk_cons, pu_nil, pu_cons, sizeLine_eq, Nat.reduceLT, Nat.reduceLeDiff, Nat.reduceEqDiff, Nat.le_refl, decide_true, decide_false, tPr, dget_us, dput_us, vv_nil, vv_cons, RS.pk_nil, pk_one, RS.pk_cons, inr_eq, tDisp, tPairs, tBoolOwn, rBoolOwn, tBM, rAppend, ty_list, ty_str, rEqOwn, iEnumT, RS.tCallS, tM1, tDc_eq, tLock, tLockE, iKeys, tListEnum, rUpdate, tMkX0, tMkX1, tXfv, gSub, rSetL, List.getD_cons_zero, List.getD_cons_succ, tCMethS, ClX.tCVal, tXfa, tIxOwn, tInOwn, tPropG, tMethK, tMethP, tListGen, tDGet2, tDPop2, rNeD0, intA_i, intA_b, tRevL, sFldAug, tPm0, tPm1, tDIn, tDNotIn, tDNewK, RS.tMethS]
      refine ⟨_, (by rw [dget_i hm.hc]), ?_⟩
      rw [hm.pc.isSome]
    intro G3 e0
    rw [e0]; clear e0 G3
    refine mid_at (fun σ G3 => σ = [some (.ref a), some (.ref y), some (.ref μ), some (.int k), some (.int m), some (.str t), some (.ref r), some (.bl (decide (s.f m ≠ nil_))), none] ∧ G3 r = some (.lst [.bl (decide (s.f m ≠ nil_))]) ∧ ∃ w' a' b' c' s', St TS C_Volume G3 a cl (N + 5) y d w' μ a' b' c' s' s' ∧ s'.Ch ∧ s'.rows.length ≤ s.rows.length + 1 ∧ s'.e = s.e ∧ s'.k = s.k ∧ Near s.f s'.f ∧ Got H G3 a y d w w' μ) ?_ ?_
    · rcases hcase with ⟨e, w', s2, go2⟩ | ⟨e, s2, go2⟩
      · walk_at "sx"
        rw [if_pos (by simp [e])]
        have rμ : r ∉ [μ] := fun z => by rw [List.mem_singleton.mp z, hm.hm] at er; cases er
        exact ⟨_, _, _, rfl, μ, a1, b1, c1, s.su, s.rows, s.f, [], m, nil_, rfl, rfl, rfl, s2.m, m0, by omega, tok0, by omega, fun a' b' c' G3 m3 nw3 fr3 => ⟨fr3 _ _ rμ er, w', a', b', c', s.note m nil_, s2.noted (q' := s.note m nil_) m3 (nn_of nw3) fr3, ch.note m nil_, by simp [VW.note], rfl, rfl, f5 nil_, go2.trans (Got.of fr3.t (by simp) (s2.src.all a (by simp)))⟩⟩
      · walk_at "sx"
        rw [if_neg (by simp [e])]
        exact ⟨er, w, a1, b1, c1, s, s2, ch, by omega, rfl, rfl, near0 _, go2⟩
    rintro _ G3 ⟨rfl, er3, w', a', b', c', s', s3, ch3, rl3, e3, k3, h53, go3⟩
    have dsh : ∀ b : Bool, (PyData.list [.bool b]).showable = true ∧ (PyData.list [.bool b]).depth ≤ 60 ∧ (PyData.list [.bool b]).shown.length ≤ sizeLine := by
      rw [sizeLine_eq]
      decide +kernel
    obtain ⟨d1, d2, d3⟩ := dsh (decide (s.f m ≠ nil_))
    walk_at "sx"
    refine ⟨_, .list [.bool (decide (s.f m ≠ nil_))], rfl, .lst (SqL.of er3) (.cons (.bl _) .nil), d1, d2, d3, fun p hp => ?_⟩
    have sp := same_upd (o := HO.lst [V.bl (decide (s.f m ≠ nil_))]) hp
    refine ⟨_, .list [.bool (decide (s.f m ≠ nil_))], rfl, .lst (SqL.of upd_same) (.cons (.bl _) .nil), d1, d2, d3, ?_⟩
    walk_at "sx"
    exact q w' a' b' c' s' _ (s3.same sp) ch3 rl3 e3 k3 h53 (go3.trans (Got.same sp (s3.src.all a (by simp))))
  refine mid_one [some (.ref a), some (.ref y), some (.ref μ), some (.int k), some (.int m), some (.str t), none, none, none] (fun G3 => G3 = G) ?_ ?_
  · walk_at "sx"
    rw [if_neg (by simpa using w8)]
    trivial
  intro G3 e0
  rw [e0]; clear e0 G3
  refine mid_at (fun σ G2 => ∃ r w', σ = [some (.ref a), some (.ref y), some (.ref μ), some (.int k), some (.int m), some (.str t), some (.ref r), none, some (.int (s.rows.length : Nat))] ∧ G2 r = some (.lst [.int (s.rows.length : Nat)]) ∧ St TS C_Volume G2 a cl (N + 5) y d w' μ a1 b1 c1 s.syn s ∧ Got H G2 a y d w w' μ) ?_ ?_
  · simp only [tLamG, tRet, tRetN, tSeq, C8.tCut, tNext, tAsg, gName, gNil, gCons, gTup, gFld, tIfS, tIf, tAndV, tOrV, tNotV, tAnd, tOr, tNot, tB, tTest, tOp, tUn, tCB, tCons, tNil, tVar, tC, tChain, tDrop, RS.tCallG, RS.tMethG, tMakeG, RS.tCallK, RS.tMakeK, tEqOwn, rI, rI0, rU, add_ii, add_ss, add_rr, mul_ii, mul_si, mul_ri, RS.eq_ii, RS.eq_ss, eq_bb, eq_nn, eq_sn, eq_ns, eq_in, eq_ni, eq_bn, eq_nb, eq_is, eq_si, eq_rr, ne_ii, ne_ss, ne_bb, ne_nn, ne_sn, ne_ns, ne_in, ne_ni, ne_is, ne_si, ne_rr, in_ss, in_r, nin_ss, nin_r, len_s, len_r, RS.ix_s, RS.ix_r, sl_s, sl_r, is_eq, tyN_n, tyN_b, tyN_i, tyN_s, tru_b, tru_i, tru_n, tSl, tPart, tNoPart, tPar, tPar3, tFmtZ, tFmt, tJs, tDGet, sDPut, sFld, tFld, tTup, tLst, tNever, isB,
  L2.start, List.map_cons, List.map_nil, List.length_cons, List.length_nil, Nat.reduceAdd, Nat.reduceSub, Nat.sub_self, List.replicate_zero, List.replicate_succ, List.append_nil, List.cons_append, List.nil_append, List.getElem?_cons_zero, List.getElem?_cons_succ, List.set_cons_zero, List.set_cons_succ, Option.some.injEq, exists_eq_left, exists_eq_left', exists_and_left, V.bl.injEq, V.int.injEq, V.str.injEq, V.ref.injEq, beq_self_eq_true, Bool.true_or, Bool.or_true, Bool.false_or, Bool.or_false, Bool.and_false, Bool.false_and, Bool.true_and, Bool.and_true, Bool.not_true, Bool.not_false, Bool.false_eq_true, if_true, if_false, ite_true, ite_false, true_and, and_true, and_assoc, String.reduceBEq, String.reduceEq, reduceIte, Bool.and_self, reduceCtorEq, false_and, and_false, exists_false, or_false, false_or, exists_const, iEnumS, iStr, iList, iTup, iRng1, iEnum, tFor_eq, tLc_eq, List.cons.injEq, wipe, not_true_eq_false, not_false_eq_true, upd_same, HO.ins.injEq, HO.tup.injEq, HO.lst.injEq, ofS_eq, lk_nil, lk_cons, pu_nil, pu_cons, sizeLine_eq, Nat.reduceLT, Nat.reduceLeDiff, Nat.reduceEqDiff, Nat.le_refl, decide_true, decide_false, tPr, dget_us, dput_us, vv_nil, vv_cons, RS.pk_nil, pk_one, RS.pk_cons, inr_eq, tDisp, tPairs, tBoolOwn, rBoolOwn, tBM, rAppend, ty_list, ty_str, rEqOwn, iEnumT, RS.tCallS, tM1, tDc_eq, tLock, tLockE, iKeys, tListEnum, rUpdate, tMkX0, tMkX1, tXfv, gSub, rSetL, List.getD_cons_zero, List.getD_cons_succ, tCMethS, ClX.tCVal, tXfa, tIxOwn, tInOwn, tPropG, tMethK, tMethP, tListGen, tDGet2, tDPop2, rNeD0, intA_i, intA_b, tRevL, sFldAug, tPm0, tPm1, tDIn, tDNotIn, tDNewK, RS.tMethS]
    refine ⟨sg.tab, fun c' H1 eN T1 hc => ?_⟩
    intro H0 E' K' s0 hE hK
    have frn : FrT [] G H0 := (FrT.ofN eN).trans (FrT.of s0)
    have sg0 := sg.frT frn (T1.ext s0)
    have go0 := go.trans (Got.of frn (by simp) laG)
    have la0 := sg0.src.all a (by simp)
    have ⟨dy, ep, tk, kvs, ws, hv0⟩ := sg0.vol
    refine ⟨_, _, hv0.hy, lk_no, _, rfl, y, d, w, s.f, s.rows, rfl, sg0.vol, fun w' H2 hV2 nw fr2 ek => hK _ _ fun p hp => ?_⟩
    have sp := same_upd (o := HO.lst [V.int (s.rows.length : Nat)]) hp
    have s2 := (sg0.ran (s' := s.syn) hV2 (ek _ _ sg0.et) nw fr2)
    have s2p := s2.same sp
    have ⟨ka, kc, ws2, hm⟩ := s2p.m
    simp only [dget_s hm.hm, n_rs, n_ps, n_pr, n_sr, n_sp, n_rp, tRet, tRetN, tSeq, C8.tCut, tNext, tAsg, gName, gNil, gCons, gTup, gFld, tIfS, tIf, tAndV, tOrV, tNotV, tAnd, tOr, tNot, tB, tTest, tOp, tUn, tCB, tCons, tNil, tVar, tC, tChain, tDrop, RS.tCallG, RS.tMethG, tMakeG, RS.tCallK, RS.tMakeK, tEqOwn, rI, rI0, rU, add_ii, add_ss, add_rr, mul_ii, mul_si, mul_ri, RS.eq_ii, RS.eq_ss, eq_bb, eq_nn, eq_sn, eq_ns, eq_in, eq_ni, eq_bn, eq_nb, eq_is, eq_si, eq_rr, ne_ii, ne_ss, ne_bb, ne_nn, ne_sn, ne_ns, ne_in, ne_ni, ne_is, ne_si, ne_rr, in_ss, in_r, nin_ss, nin_r, len_s, len_r, RS.ix_s, RS.ix_r, sl_s, sl_r, is_eq, tyN_n, tyN_b, tyN_i, tyN_s, tru_b, tru_i, tru_n, tSl, tPart, tNoPart, tPar, tPar3, tFmtZ, tFmt, tJs, tDGet, sDPut, sFld, tFld, tTup, tLst, tNever, isB,
  L2.start, List.map_cons, List.map_nil, List.length_cons, List.length_nil, Nat.reduceAdd, Nat.reduceSub, Nat.sub_self, List.replicate_zero, List.replicate_succ, List.append_nil, List.cons_append, List.nil_append, List.getElem?_cons_zero, List.getElem?_cons_succ, List.set_cons_zero, List.set_cons_succ, Option.some.injEq, exists_eq_left, exists_eq_left', exists_and_left, V.bl.injEq, V.int.injEq, V.str.injEq, V.ref.injEq, beq_self_eq_true, Bool.true_or, Bool.or_true, Bool.false_or, Bool.or_false, Bool.and_false, Bool.false_and, Bool.true_and, Bool.and_true, Bool.not_true, Bool.not_false, Bool.false_eq_true, if_true, if_false, ite_true, ite_false, true_and, and_true, and_assoc, String.reduceBEq, String.reduceEq, reduceIte, Bool.and_self, reduceCtorEq, false_and, and_false, exists_false, or_false, false_or, exists_const, iEnumS, iStr, iList, iTup, iRng1, iEnum, tFor_eq, tLc_eq, List.cons.injEq, wipe, not_true_eq_false, not_false_eq_true, upd_same, HO.ins.injEq, HO.tup.injEq, HO.lst.injEq, ofS_eq, lk_nil, lk_cons, pu_nil, pu_cons, sizeLine_eq, Nat.reduceLT, Nat.reduceLeDiff, Nat.reduceEqDiff, Nat.le_refl, decide_true, decide_false, tPr, dget_us, dput_us, vv_nil, vv_cons, RS.pk_nil, pk_one, RS.pk_cons, inr_eq, tDisp, tPairs, tBoolOwn, rBoolOwn, tBM, rAppend, ty_list, ty_str, rEqOwn, iEnumT, RS.tCallS, tM1, tDc_eq, tLock, tLockE, iKeys, tListEnum, rUpdate, tMkX0, tMkX1, tXfv, gSub, rSetL, List.getD_cons_zero, List.getD_cons_succ, tCMethS, ClX.tCVal, tXfa, tIxOwn, tInOwn, tPropG, tMethK, tMethP, tListGen, tDGet2, tDPop2, rNeD0, intA_i, intA_b, tRevL, sFldAug, tPm0, tPm1, tDIn, tDNotIn, tDNewK, RS.tMethS]
    refine .inl ⟨_, .inl (SqL.of hm.hb), by rw [hm.ra.1], w', s2p, go0.trans ((Got.ran fr2 nw la0).trans (Got.same sp (s2.src.all a (by simp))))⟩
  rintro _ G2 ⟨r, w', rfl, er, s2, go2⟩
  have ⟨ka, kc, ws2, hm⟩ := s2.m
  refine mid_at (fun σ G3 => σ = [some (.ref a), some (.ref y), some (.ref μ), some (.int k), some (.int m), some (.str t), some (.ref r), none, some (.int (s.rows.length : Nat))] ∧ G3 r = some (.lst [.int (s.rows.length : Nat)]) ∧ ∃ b', St TS C_Volume G3 a cl (N + 5) y d w' μ c1 b' c1 s.syn s.syn ∧ Got H G3 a y d w w' μ) ?_ ?_
  · simp only [dget_s hm.hm, n_rs, n_ps, n_pr, n_sr, n_sp, n_rp, tRet, tRetN, tSeq, C8.tCut, tNext, tAsg, gName, gNil, gCons, gTup, gFld, tIfS, tIf, tAndV, tOrV, tNotV, tAnd, tOr, tNot, tB, tTest, tOp, tUn, tCB, tCons, tNil, tVar, tC, tChain, tDrop, RS.tCallG, RS.tMethG, tMakeG, RS.tCallK, RS.tMakeK, tEqOwn, rI, rI0, rU, add_ii, add_ss, add_rr, mul_ii, mul_si, mul_ri, RS.eq_ii, RS.eq_ss, eq_bb, eq_nn, eq_sn, eq_ns, eq_in, eq_ni, eq_bn, eq_nb, eq_is, eq_si, eq_rr, ne_ii, ne_ss, ne_bb, ne_nn, ne_sn, ne_ns, ne_in, ne_ni, ne_is, ne_si, ne_rr, in_ss, in_r, nin_ss, nin_r, len_s, len_r, RS.ix_s, RS.ix_r, sl_s, sl_r, is_eq, tyN_n, tyN_b, tyN_i, tyN_s, tru_b, tru_i, tru_n, tSl, tPart, tNoPart, tPar, tPar3, tFmtZ, tFmt, tJs, tDGet, sDPut, sFld, tFld, tTup, tLst, tNever, isB,
  L2.start, List.map_cons, List.map_nil, List.length_cons, List.length_nil, Nat.reduceAdd, Nat.reduceSub, Nat.sub_self, List.replicate_zero, List.replicate_succ, List.append_nil, List.cons_append, List.nil_append, List.getElem?_cons_zero, List.getElem?_cons_succ, List.set_cons_zero, List.set_cons_succ, Option.some.injEq, exists_eq_left, exists_eq_left', exists_and_left, V.bl.injEq, V.int.injEq, V.str.injEq, V.ref.injEq, beq_self_eq_true, Bool.true_or, Bool.or_true, Bool.false_or, Bool.or_false, Bool.and_false, Bool.false_and, Bool.true_and, Bool.and_true, Bool.not_true, Bool.not_false, Bool.false_eq_true, if_true, if_false, ite_true, ite_false, true_and, and_true, and_assoc, String.reduceBEq, String.reduceEq, reduceIte, Bool.and_self, reduceCtorEq, false_and, and_false, exists_false, or_false, false_or, exists_const, iEnumS, iStr, iList, iTup, iRng1, iEnum, tFor_eq, tLc_eq, List.cons.injEq, wipe, not_true_eq_false, not_false_eq_true, upd_same, HO.ins.injEq, HO.tup.injEq, HO.lst.injEq, ofS_eq, lk_nil, lk_cons, pu_nil, pu_cons, sizeLine_eq, Nat.reduceLT, Nat.reduceLeDiff, Nat.reduceEqDiff, Nat.le_refl, decide_true, decide_false, tPr, dget_us, dput_us, vv_nil, vv_cons, RS.pk_nil, pk_one, RS.pk_cons, inr_eq, tDisp, tPairs, tBoolOwn, rBoolOwn, tBM, rAppend, ty_list, ty_str, rEqOwn, iEnumT, RS.tCallS, tM1, tDc_eq, tLock, tLockE, iKeys, tListEnum, rUpdate, tMkX0, tMkX1, tXfv, gSub, rSetL, List.getD_cons_zero, List.getD_cons_succ, tCMethS, ClX.tCVal, tXfa, tIxOwn, tInOwn, tPropG, tMethK, tMethP, tListGen, tDGet2, tDPop2, rNeD0, intA_i, intA_b, tRevL, sFldAug, tPm0, tPm1, tDIn, tDNotIn, tDNewK, RS.tMethS]
    have rμ : r ∉ [μ] := fun z => by rw [List.mem_singleton.mp z, hm.hm] at er; cases er
    refine ⟨_, _, rfl, μ, a1, b1, c1, s.su, s.rows, s.f, [], c1, kc, s.f, rfl, rfl, s2.m, hm.hc, hm.nc, hm.pc, hm.fc, fun b' G3 m3 nb fr3 => ⟨fr3 _ _ rμ er, b', s2.noted (q' := s.syn) m3 (fun x hx => ?_) fr3, go2.trans (Got.of fr3.t (by simp) (s2.src.all a (by simp)))⟩⟩
    simp only [List.mem_cons, List.not_mem_nil, or_false] at hx
    rcases hx with rfl | rfl | rfl | rfl
    · exact .inl (by simp)
    · exact .inl (by simp)
    · exact .inr nb
    · exact .inl (by simp)
  rintro _ G3 ⟨rfl, er3, b', s3, go3⟩
  walk_at "sx"
  intro p hp
  have sp := same_upd (o := HO.lst [V.int (s.rows.length : Nat)]) hp
  exact eq_lstI (sp _ _ er3) upd_same (q w' c1 b' c1 s.syn _ (s3.same sp) (VW.Ch.syn s) (by simp [VW.syn]) rfl rfl (near0 _) (go3.trans (Got.same sp (s3.src.all a (by simp)))))
end


/-! the texts from a page on are right -/
theorem txt_strs (f : Pg) (m n : Int) : txt f m n = ((List.range (n - m).toNat).map fun j : Nat => f (m + (j : Int))).map V.str := by
  unfold txt
  rw [List.map_map]
  rfl
theorem lay_txt (bs : List Str) (ok : ∀ b ∈ bs, PyData.strOk b = true) : SeqAt.shaped (.tuple (bs.map PyData.str)) = true := by
  obtain ⟨h1, h2⟩ := lay_strs bs ok
  simp [SeqAt.shaped, PyData.canLay0, PyData.depth, h1, h2]
theorem dp_txt {K : PySem.W.Frag} {H : Hp} {a : Addr} {bs : List Str} (h : H a = some (.tup (bs.map V.str))) : Dp K H (.ref a) (.tuple (bs.map PyData.str)) := .tup (SqT.of h) (dp_strs bs)
theorem eqv_txt (bs : List Str) : PyData.eqv (.tuple (bs.map PyData.str)) (.tuple (bs.map PyData.str)) = true := by
  simp only [PyData.eqv]
  exact eqv_strs bs
theorem ne_txt {K : PySem.W.Frag} {H : Hp} {Q : VK} {a p : Addr} {f : Pg} (hf : Fine f) {m n : Int} (ha : H a = some (.tup (txt f m n))) (hp : H p = some (.tup (txt f m n))) (q : Q (.bl false) H) : rNeD K (.ref a) (.ref p) H Q := by
  rw [txt_strs] at ha hp
  have ok : ∀ b ∈ (List.range (n - m).toNat).map fun j : Nat => f (m + (j : Int)), PyData.strOk b = true := fun b hb => by
    obtain ⟨j, _, rfl⟩ := List.mem_map.mp hb
    exact (hf.len _).2
  refine ⟨_, _, dp_txt ha, dp_txt hp, lay_txt _ ok, lay_txt _ ok, ?_⟩
  rw [eqv_txt]
  exact q
theorem eq_txt {K : PySem.W.Frag} {H : Hp} {Q : VK} {a p : Addr} {f : Pg} (hf : Fine f) {m n : Int} (ha : H a = some (.tup (txt f m n))) (hp : H p = some (.tup (txt f m n))) (q : Q (.bl true) H) : rEqD K (.ref a) (.ref p) H Q := by
  rw [txt_strs] at ha hp
  have ok : ∀ b ∈ (List.range (n - m).toNat).map fun j : Nat => f (m + (j : Int)), PyData.strOk b = true := fun b hb => by
    obtain ⟨j, _, rfl⟩ := List.mem_map.mp hb
    exact (hf.len _).2
  refine ⟨_, _, dp_txt ha, dp_txt hp, lay_txt _ ok, lay_txt _ ok, ?_⟩
  rw [eqv_txt]
  exact q
theorem LenIs.uni {f : Pg} {n n' : Int} (h : LenIs f n) (h' : LenIs f n') : n' = n := by
  rcases h with ⟨h1, rfl⟩ | ⟨j, h1, h2, rfl⟩
  · rcases h' with ⟨_, rfl⟩ | ⟨i, k1, _, _⟩
    · rfl
    · exact absurd (h1 i) k1
  · rcases h' with ⟨k1, _⟩ | ⟨i, k1, k2, rfl⟩
    · exact absurd (k1 j) h1
    · have := h2 i k1
      have := k2 j h1
      omega
section
variable {g : Wd} {fa : Addr} {fd : FuncData} {C_Volume : Addr} {x : Xcs} {TS : List (Addr × Str)}
theorem sc_l_texts_right : FnScope ["_law_source", "_law_volume", "_law_m", "_law_pages", "_law_size", "_law_some", "_law_first", "_law_due", "_law_one"] ["_law_source", "_law_volume", "_law_m"] (defScope s_l_texts_right) := ⟨rfl, rfl, rfl, by decide +kernel, rfl, by decide +kernel, by decide +kernel⟩
def sp_tright (T : List (Addr × Str)) (C : Addr) : Sp := S3 fun x z u H Q _ => ∃ a cl N y d w μ a1 b1 c1 s, x = .ref a ∧ z = .ref y ∧ u = .ref μ ∧ St T C H a cl N y d w μ a1 b1 c1 s s ∧ N < 900000 ∧
  ∀ H', St T C H' a cl (N + 1) y d w μ a1 b1 c1 s s → Got H H' a y d w w μ → Q (.bl true) H'
theorem ok_tright (F : Df g.K "_law_texts_right" "_law_texts_right" s_l_texts_right fa fd .none) (T : Txt g) (CL_Volume : Cls g.K C_Volume) (F_l_pick : Kn g "_law_pick" 1 ["_law_source", "_law_many"] [] sp_pick) (M_Volume_length : Km g C_Volume "length" 1 ["self"] [] (sp_len C_Volume))
    (M_Volume_texts : Km g C_Volume "texts" 5 ["self", "start"] [] (sp_texts C_Volume)) (M_Volume_texts_0 : Km g C_Volume "texts" 5 ["self", "start"] [.int 0] (sp_texts C_Volume)) (MK_Volume_texts_start : Kmk g C_Volume "texts" 5 ["self", "start"] ["start"] [0] [] (sp_texts C_Volume)) : FnG g 8 fa fd ["_law_source", "_law_volume", "_law_m"] (sp_tright TS C_Volume) := by
  refine F.ok sc_l_texts_right (fun vs H Q E h => S3.len h) (fun cdv A outer s H vs Q E hr h => ?_)
  obtain ⟨_, _, _, rfl, a, cl, N, y, d, w, μ, a1, b1, c1, s, rfl, rfl, rfl, st, hN, q⟩ := h
  have laH := st.src.all a (by simp)
  have ⟨ka, kc, ws2, hm⟩ := st.m
  have ⟨dy, ep, tk, kvs, ws, hv⟩ := st.vol
  refine ⟨_, (pss_mid (ps_asg (pe_tup (pa_cons (pe_dget (hu_of hr.room) (pv 2) pe_str (fun _ _ => rfl)) (pa_cons (pe_methG0 (pv 1) CL_Volume M_Volume_length (hr.mono (by first | decide | omega)) tkD) pa_nil))) (g_tup (K := g.K) (n := 2) (pgs_cons (pg_name (i := 3) sc_l_texts_right.nd rfl (.inr rfl)) (pgs_cons (pg_name (i := 4) sc_l_texts_right.nd rfl (.inl rfl)) pgs_nil))))
      (pss_mid (ps_set (i := 5) sc_l_texts_right.nd rfl (Or.inl rfl) (pe_ifExp (pt_cmpR op_lt (pv 4) pe_int (nomark _)) (pe_lst (pa_cons pe_int (pa_cons pe_int (pa_cons pe_int (pa_cons (pv 4) pa_nil))))) (pe_lst (pa_cons (pe_op op_sub (pv 4) pe_int) (pa_cons (pe_op op_sub (pv 4) pe_int) (pa_cons (pe_op op_sub (pv 4) pe_int) (pa_cons (pv 4) pa_nil)))))))
      (pss_mid (ps_set (i := 6) sc_l_texts_right.nd rfl (Or.inl rfl) (pe_ix (o_ix (K := g.K)) (pv 5) (pe_callG F_l_pick (hr.mono (by first | decide | omega)) tkD (pa_cons (pv 0) (pa_cons pe_int pa_nil))) (fun _ _ => rfl)))
      (pss_mid (ps_set (i := 7) sc_l_texts_right.nd rfl (Or.inl rfl) (pe_callTy call_tuple_of (by rfl) T.b_tuple bb_tuple (pa_cons (pe_lc (own := [("_law_one", 8)]) (tt := tYes) rfl sc_l_texts_right.nd (pi_range2 rfl T.b_range (pa_cons (pv 6) (pa_cons (pv 4) pa_nil))) (blkOk_by (own := [("_law_one", 8)]) (N := ["_law_source", "_law_volume", "_law_m", "_law_pages", "_law_size", "_law_some", "_law_first", "_law_due", "_law_one"]) (sc := defScope s_l_texts_right) (by decide +kernel)) (fun _ _ _ _ _ => (pg_name (i := 8) sc_l_texts_right.nd rfl (.inl rfl))) (fun _ _ _ _ _ => pts_nil) (fun _ _ _ _ _ => (e_get2 (hu_of (Rm.mk hr.room hr.gd).room) (pv 3) (pv 8) pe_str))) pa_nil)))
      (pss_mid (ps_if (pt_cmpR (o_eq (K := g.K) hr) (pv 6) pe_int (nomark _)) (pss_one (ps_ret pe_bl)) pss_nil)
      (pss_mid (ps_if (PW.pt (pw_or (pt_cmpR (o_ne (K := g.K) hr) (pe_methG (pv 1) CL_Volume M_Volume_texts (hr.mono (by first | decide | omega)) tkD (pa_cons (pv 6) pa_nil)) (pv 7) (nomark _)) (pw_or1 (pt_cmpR (o_ne (K := g.K) hr) (RS.pe_methK (pv 1) CL_Volume MK_Volume_texts_start (hr.mono (by first | decide | omega)) tkD (L2.pk_cons (pv 6) L2.pk_nil)) (pv 7) (nomark _))))) (pss_one (ps_ret pe_bl)) pss_nil)
      (pss_one (ps_ret (pe_or (pe_cmpR op_gt (pv 4) pe_int (nomark _)) (pe_one (pe_cmpR (o_eq (K := g.K) hr) (pe_methG0 (pv 1) CL_Volume M_Volume_texts_0 (hr.mono (by first | decide | omega)) tkD) (pe_callTy call_tuple_of (by rfl) T.b_tuple bb_tuple (pa_cons (pe_lc (own := [("_law_one", 8)]) (tt := tYes) rfl sc_l_texts_right.nd (pi_range1 rfl T.b_range (pa_cons (pv 4) pa_nil)) (blkOk_by (own := [("_law_one", 8)]) (N := ["_law_source", "_law_volume", "_law_m", "_law_pages", "_law_size", "_law_some", "_law_first", "_law_due", "_law_one"]) (sc := defScope s_l_texts_right) (by decide +kernel)) (fun _ _ _ _ _ => (pg_name (i := 8) sc_l_texts_right.nd rfl (.inl rfl))) (fun _ _ _ _ _ => pts_nil) (fun _ _ _ _ _ => (e_get2 (hu_of (Rm.mk hr.room hr.gd).room) (pv 3) (pv 8) pe_str))) pa_nil)) (nomark _)))))))))))), ?_⟩
  refine mid_at (fun σ G => ∃ n : Int, σ = [some (.ref a), some (.ref y), some (.ref μ), some (.ref c1), some (.int n), none, none, none, none] ∧ LenIs s.f n ∧ Same H G) ?_ ?_
  · simp only [dget_s hm.hm, n_rs, n_ps, n_pr, n_sr, n_sp, n_rp, tRet, tRetN, tSeq, C8.tCut, tNext, tAsg, gName, gNil, gCons, gTup, gFld, tIfS, tIf, tAndV, tOrV, tNotV, tAnd, tOr, tNot, tB, tTest, tOp, tUn, tCB, tCons, tNil, tVar, tC, tChain, tDrop, RS.tCallG, RS.tMethG, tMakeG, RS.tCallK, RS.tMakeK, tEqOwn, rI, rI0, rU, add_ii, add_ss, add_rr, mul_ii, mul_si, mul_ri, RS.eq_ii, RS.eq_ss, eq_bb, eq_nn, eq_sn, eq_ns, eq_in, eq_ni, eq_bn, eq_nb, eq_is, eq_si, eq_rr, ne_ii, ne_ss, ne_bb, ne_nn, ne_sn, ne_ns, ne_in, ne_ni, ne_is, ne_si, ne_rr, in_ss, in_r, nin_ss, nin_r, len_s, len_r, RS.ix_s, RS.ix_r, sl_s, sl_r, is_eq, tyN_n, tyN_b, tyN_i, tyN_s, tru_b, tru_i, tru_n, tSl, tPart, tNoPart, tPar, tPar3, tFmtZ, tFmt, tJs, tDGet, sDPut, sFld, tFld, tTup, tLst, tNever, isB,
  L2.start, List.map_cons, List.map_nil, List.length_cons, List.length_nil, Nat.reduceAdd, Nat.reduceSub, Nat.sub_self, List.replicate_zero, List.replicate_succ, List.append_nil, List.cons_append, List.nil_append, List.getElem?_cons_zero, List.getElem?_cons_succ, List.set_cons_zero, List.set_cons_succ, Option.some.injEq, exists_eq_left, exists_eq_left', exists_and_left, V.bl.injEq, V.int.injEq, V.str.injEq, V.ref.injEq, beq_self_eq_true, Bool.true_or, Bool.or_true, Bool.false_or, Bool.or_false, Bool.and_false, Bool.false_and, Bool.true_and, Bool.and_true, Bool.not_true, Bool.not_false, Bool.false_eq_true, if_true, if_false, ite_true, ite_false, true_and, and_true, and_assoc, String.reduceBEq, String.reduceEq, reduceIte, Bool.and_self, reduceCtorEq, false_and, and_false, exists_false, or_false, false_or, exists_const, iEnumS, iStr, iList, iTup, iRng1, iEnum, tFor_eq, tLc_eq, List.cons.injEq, wipe, not_true_eq_false, not_false_eq_true, upd_same, HO.ins.injEq, HO.tup.injEq, HO.lst.injEq, ofS_eq, lk_nil, lk_cons, pu_nil, pu_cons, sizeLine_eq, Nat.reduceLT, Nat.reduceLeDiff, Nat.reduceEqDiff, Nat.le_refl, decide_true, decide_false, tPr, dget_us, dput_us, vv_nil, vv_cons, RS.pk_nil, pk_one, RS.pk_cons, inr_eq, tDisp, tPairs, tBoolOwn, rBoolOwn, tBM, rAppend, ty_list, ty_str, rEqOwn, iEnumT, RS.tCallS, tM1, tDc_eq, tLock, tLockE, iKeys, tListEnum, rUpdate, tMkX0, tMkX1, tXfv, gSub, rSetL, List.getD_cons_zero, List.getD_cons_succ, tCMethS, ClX.tCVal, tXfa, tIxOwn, tInOwn, tPropG, tMethK, tMethP, tListGen, tDGet2, tDPop2, rNeD0, intA_i, intA_b, tRevL, sFldAug, tPm0, tPm1, tDIn, tDNotIn, tDNewK, RS.tMethS]
    refine ⟨_, _, hv.hy, lk_no, _, rfl, y, d, w, s.f, s.rows, rfl, st.vol, fun n G hn sG p hp => ?_⟩
    exact ⟨_, SqT.of upd_same, rfl, _, _, rfl, _, _, rfl, rfl, rfl, n, rfl, hn, sG.trans (same_upd hp)⟩
  rintro _ G ⟨n, rfl, hn, sG⟩
  have n1 : 0 ≤ n ∧ n ≤ 10000000 := by
    rcases hn with ⟨_, rfl⟩ | ⟨j, h1, _, rfl⟩
    · exact ⟨by decide, by decide⟩
    · have := hv.fin.rng j h1
      omega
  refine mid_at (fun σ G2 => ∃ L m0 m1 m2 m3, σ = [some (.ref a), some (.ref y), some (.ref μ), some (.ref c1), some (.int n), some (.ref L), none, none, none] ∧ G2 L = some (.lst [.int m0, .int m1, .int m2, .int m3]) ∧ H L = none ∧ Same H G2 ∧ ∀ m ∈ [m0, m1, m2, m3], 0 ≤ m ∧ m ≤ 10000000 ∧ n - m ≤ 64) ?_ ?_
  · walk_at "sx"
    split
    · rename_i h64
      have h64 : n < 64 := by simpa using h64
      intro p hp
      refine ⟨none_of_same sG hp, sG.trans (same_upd hp), fun m hm => ?_⟩
      simp only [List.mem_cons, List.not_mem_nil, or_false] at hm
      rcases hm with rfl | rfl | rfl | rfl <;> omega
    · rename_i h64
      have h64 : ¬ n < 64 := by simpa using h64
      intro p hp
      refine ⟨none_of_same sG hp, sG.trans (same_upd hp), fun m hm => ?_⟩
      simp only [List.mem_cons, List.not_mem_nil, or_false] at hm
      rcases hm with rfl | rfl | rfl | rfl <;> omega
  rintro _ G2 ⟨L, m0, m1, m2, m3, rfl, eL, nL, sG2, hms⟩
  refine mid_at (fun σ G3 => ∃ m : Int, σ = [some (.ref a), some (.ref y), some (.ref μ), some (.ref c1), some (.int n), some (.ref L), some (.int m), none, none] ∧ 0 ≤ m ∧ m ≤ 10000000 ∧ n - m ≤ 64 ∧ St TS C_Volume G3 a cl (N + 1) y d w μ a1 b1 c1 s s ∧ Got H G3 a y d w w μ) ?_ ?_
  · walk_at "sx"
    have st2 := st.same sG2
    refine ⟨_, _, rfl, a, cl, N, 4, rfl, rfl, by decide, by decide, st2.src, by omega, fun r G3 r0 r1 S3 fr3 => ?_⟩
    have La : L ∉ [a] := fun z => by
      rw [List.mem_singleton.mp z] at nL
      exact laH nL
    refine ix_mem (fr3 _ _ La eL) r0 (by simpa using r1) fun v hv' => ?_
    have hv2 : ∃ m ∈ [m0, m1, m2, m3], v = .int m := by
      simp only [List.mem_cons, List.not_mem_nil, or_false] at hv'
      rcases hv' with rfl | rfl | rfl | rfl
      · exact ⟨_, by simp, rfl⟩
      · exact ⟨_, by simp, rfl⟩
      · exact ⟨_, by simp, rfl⟩
      · exact ⟨_, by simp, rfl⟩
    obtain ⟨m, hm', rfl⟩ := hv2
    obtain ⟨x1, x2, x3⟩ := hms m hm'
    exact ⟨m, rfl, x1, x2, x3, st2.drawn S3 fr3, (Got.same sG2 laH).trans (Got.of fr3.t (by simp) (st2.src.all a (by simp)))⟩
  rintro _ G3 ⟨m, rfl, m0', m1', m2', s3, go3⟩
  have ⟨ka3, kc3, ws3, hm3⟩ := s3.m
  have lcT : ∀ {lo : Int} {cnt : Nat} {Gx : Hp} {o7 : Option V} {Qf : VK}, Same G3 Gx → 0 ≤ lo → cnt = (n - lo).toNat → (∀ D G', Gx D = none → Same Gx G' → G' D = some (.lst (txt s.f lo n)) → Qf (.ref D) G') →
      LcB (Itr lo cnt) (gName 8) tYes (tDGet2 (tVar 3) (tVar 8) (tC (V.str (Str.ofString "")))) [8] [some (.ref a), some (.ref y), some (.ref μ), some (.ref c1), some (.int n), some (.ref L), some (.int m), o7, none] Gx Qf := fun {lo cnt Gx o7 Qf} sx lo0 ec qf => by
    subst ec
    refine lc_all (n - lo).toNat (fun j => V.str (s.f (lo + (j : Int)))) (by rw [sizeLine_eq]; omega) (fun i H' lt s => lt) (fun H' s => Nat.le_refl _) (fun i H2 x H3 K lt s2 yl k => ?_) (fun D G hD s2 eD => qf D G hD s2 eD)
    obtain ⟨rfl, rfl⟩ := yl
    refine ⟨rfl, ?_⟩
    walk_at "sx"
    have e3 := s2 _ _ (sx _ _ hm3.hc)
    refine ⟨isd e3, _, (by rw [dget_i e3]), ?_⟩
    rw [show Str.ofString "" = nil_ from rfl, hm3.pc.getD]
    exact k _ (Same.refl _)
  refine mid_at (fun σ G4 => ∃ p, σ = [some (.ref a), some (.ref y), some (.ref μ), some (.ref c1), some (.int n), some (.ref L), some (.int m), some (.ref p), none] ∧ Same G3 G4 ∧ G4 p = some (.tup (txt s.f m n))) ?_ ?_
  · walk_at "sx"
    simp only [iRng2, tRet, tRetN, tSeq, C8.tCut, tNext, tAsg, gName, gNil, gCons, gTup, gFld, tIfS, tIf, tAndV, tOrV, tNotV, tAnd, tOr, tNot, tB, tTest, tOp, tUn, tCB, tCons, tNil, tVar, tC, tChain, tDrop, RS.tCallG, RS.tMethG, tMakeG, RS.tCallK, RS.tMakeK, tEqOwn, rI, rI0, rU, add_ii, add_ss, add_rr, mul_ii, mul_si, mul_ri, RS.eq_ii, RS.eq_ss, eq_bb, eq_nn, eq_sn, eq_ns, eq_in, eq_ni, eq_bn, eq_nb, eq_is, eq_si, eq_rr, ne_ii, ne_ss, ne_bb, ne_nn, ne_sn, ne_ns, ne_in, ne_ni, ne_is, ne_si, ne_rr, in_ss, in_r, nin_ss, nin_r, len_s, len_r, RS.ix_s, RS.ix_r, sl_s, sl_r, is_eq, tyN_n, tyN_b, tyN_i, tyN_s, tru_b, tru_i, tru_n, tSl, tPart, tNoPart, tPar, tPar3, tFmtZ, tFmt, tJs, tDGet, sDPut, sFld, tFld, tTup, tLst, tNever, isB,
  L2.start, List.map_cons, List.map_nil, List.length_cons, List.length_nil, Nat.reduceAdd, Nat.reduceSub, Nat.sub_self, List.replicate_zero, List.replicate_succ, List.append_nil, List.cons_append, List.nil_append, List.getElem?_cons_zero, List.getElem?_cons_succ, List.set_cons_zero, List.set_cons_succ, Option.some.injEq, exists_eq_left, exists_eq_left', exists_and_left, V.bl.injEq, V.int.injEq, V.str.injEq, V.ref.injEq, beq_self_eq_true, Bool.true_or, Bool.or_true, Bool.false_or, Bool.or_false, Bool.and_false, Bool.false_and, Bool.true_and, Bool.and_true, Bool.not_true, Bool.not_false, Bool.false_eq_true, if_true, if_false, ite_true, ite_false, true_and, and_true, and_assoc, String.reduceBEq, String.reduceEq, reduceIte, Bool.and_self, reduceCtorEq, false_and, and_false, exists_false, or_false, false_or, exists_const, iEnumS, iStr, iList, iTup, iRng1, iEnum, tFor_eq, tLc_eq, List.cons.injEq, wipe, not_true_eq_false, not_false_eq_true, upd_same, HO.ins.injEq, HO.tup.injEq, HO.lst.injEq, ofS_eq, lk_nil, lk_cons, pu_nil, pu_cons, sizeLine_eq, Nat.reduceLT, Nat.reduceLeDiff, Nat.reduceEqDiff, Nat.le_refl, decide_true, decide_false, tPr, dget_us, dput_us, vv_nil, vv_cons, RS.pk_nil, pk_one, RS.pk_cons, inr_eq, tDisp, tPairs, tBoolOwn, rBoolOwn, tBM, rAppend, ty_list, ty_str, rEqOwn, iEnumT, RS.tCallS, tM1, tDc_eq, tLock, tLockE, iKeys, tListEnum, rUpdate, tMkX0, tMkX1, tXfv, gSub, rSetL, List.getD_cons_zero, List.getD_cons_succ, tCMethS, ClX.tCVal, tXfa, tIxOwn, tInOwn, tPropG, tMethK, tMethP, tListGen, tDGet2, tDPop2, rNeD0, intA_i, intA_b, tRevL, sFldAug, tPm0, tPm1, tDIn, tDNotIn, tDNewK, RS.tMethS]
    refine ⟨by omega, by omega, by omega, by omega, lcT (Same.refl _) m0' rfl fun D G' hD s' eD => ?_⟩
    exact ⟨D, rfl, _, .inl ⟨SqL.of eD, fun l hl => ⟨s'.trans (same_upd hl), rfl⟩⟩⟩
  rintro _ G4 ⟨p, rfl, s4, ep4⟩
  have s4t := s3.same s4
  have go4 := go3.trans (Got.same s4 (s3.src.all a (by simp)))
  refine mid_one [some (.ref a), some (.ref y), some (.ref μ), some (.ref c1), some (.int n), some (.ref L), some (.int m), some (.ref p), none] (fun G => G = G4 ∧ m < 10000000) ?_ ?_
  · walk_at "sx"
    by_cases e : m = 10000000
    · rw [if_pos (by simpa using e)]
      exact q _ s4t go4
    · rw [if_neg (by simpa using e)]
      omega
  rintro G5 ⟨e5, m3'⟩
  rw [e5]; clear e5 G5
  have ⟨dy4, ep4', tk4, kvs4, ws4, hv4⟩ := s4t.vol
  refine mid_one [some (.ref a), some (.ref y), some (.ref μ), some (.ref c1), some (.int n), some (.ref L), some (.int m), some (.ref p), none] (fun G => Same G4 G) ?_ ?_
  · walk_at "sx"
    refine ⟨_, _, hv4.hy, lk_no, _, _, rfl, y, d, w, s.f, s.rows, m, rfl, rfl, s4t.vol, m0', m3', fun n' hn' p1 H1 np1 s1 e1 => ?_⟩
    obtain ⟨rfl⟩ : n = n' := (hn.uni hn').symm
    show rNeU g.K (.ref p1) (.ref p) H1 _
    rw [ne_rr]
    refine ne_txt hv.fin e1 (s1 _ _ ep4) ?_
    refine ⟨_, rfl, ?_⟩
    rw [if_neg (by simp)]
    refine ⟨_, _, s1 _ _ hv4.hy, lk_no, _, _, rfl, y, d, w, s.f, s.rows, m, rfl, rfl, s4t.vol.same s1, m0', m3', fun n' hn' p2 H2 np2 s2 e2 => ?_⟩
    obtain ⟨rfl⟩ : n = n' := (hn.uni hn').symm
    show rNeU g.K (.ref p2) (.ref p) H2 _
    rw [ne_rr]
    refine ne_txt hv.fin e2 (s2 _ _ (s1 _ _ ep4)) ?_
    refine ⟨_, rfl, ?_⟩
    rw [if_neg (by simp)]
    exact s1.trans s2
  intro G5 s5
  have ⟨dy5, ep5', tk5, kvs5, ws5, hv5⟩ := (s4t.same s5).vol
  walk_at "sx"
  have s5t := s4t.same s5
  have go5 := go4.trans (Got.same s5 (s4t.src.all a (by simp)))
  split
  · exact q _ s5t go5
  · refine ⟨_, _, hv5.hy, lk_no, _, _, rfl, y, d, w, s.f, s.rows, 0, rfl, rfl, s5t.vol, by decide, by decide, fun n' hn' p1 H1 np1 s1 e1 => ?_⟩
    obtain ⟨rfl⟩ : n = n' := (hn.uni hn').symm
    refine ⟨by omega, by omega, lcT ((s4.trans s5).trans s1) (by decide) (by omega) fun D G' hD s' eD => ?_⟩
    refine ⟨D, rfl, _, .inl ⟨SqL.of eD, fun l hl => ?_⟩⟩
    have sl := s'.trans (same_upd (o := HO.tup (txt s.f 0 n)) hl)
    exact eq_txt hv.fin (sl _ _ e1) upd_same (q _ (s5t.same (s1.trans sl)) (go5.trans (Got.same (s1.trans sl) (s5t.src.all a (by simp)))))
end


/-! all pages are erased while their numbers are asked -/
/-- the first pages of a list are blank -/
def offP (f : Pg) (ns : List Int) : Pg := fun m => if m ∈ ns then nil_ else f m
theorem off_nil (f : Pg) : offP f [] = f := rfl
theorem off_snoc (f : Pg) (ns : List Int) (n : Int) : setP (offP f ns) n nil_ = offP f (ns ++ [n]) := by
  funext m
  by_cases e : m = n
  · subst e; rw [setP_at]; simp [offP]
  · rw [setP_ne e]; simp [offP, e]
def offR (f : Pg) (ns : List Int) : List Row := ns.map fun n => (n, f n, nil_)
theorem nodup_sub : ∀ {ns l : List Int}, ns.Nodup → (∀ n ∈ ns, n ∈ l) → ns.length ≤ l.length
  | [], l, _, _ => Nat.zero_le _
  | n :: r, l, nd, h => by
    have h1 := h n (List.mem_cons_self ..)
    obtain ⟨n1, n2⟩ := List.nodup_cons.mp nd
    have := nodup_sub (l := l.erase n) n2 fun m hm => (List.mem_erase_of_ne (fun e => n1 (by rw [← e]; exact hm))).mpr (h m (List.mem_cons_of_mem _ hm))
    rw [List.length_erase_of_mem h1] at this
    have := List.length_pos_of_mem h1
    simp; omega
theorem off_all {f : Pg} {ns : List Int} (asc : Asc f ns) (m : Int) : offP f ns m = nil_ := by
  unfold offP
  split
  · rfl
  · rename_i h
    exact Classical.byContradiction fun z => h ((asc.mem m).mpr z)
theorem off0 (s : VW) (ns : List Int) : (⟨s.f, offR s.f (ns.take 0), offP s.f (ns.take 0), s.e, s.k⟩ : VW) = s.syn := by
  rw [List.take_zero]
  rfl
section
variable {g : Wd} {fa : Addr} {fd : FuncData} {C_Volume : Addr} {x : Xcs} {TS : List (Addr × Str)}
theorem sc_l_emptied : FnScope ["_law_volume", "_law_m", "_law_spot_here", "_law_rows", "_law_one"] ["_law_volume", "_law_m"] (defScope s_l_emptied) := ⟨rfl, rfl, rfl, by decide +kernel, rfl, by decide +kernel, by decide +kernel⟩
def sp_empt (T : List (Addr × Str)) (C : Addr) : Sp := S2 fun z u H Q _ => ∃ a cl N y d w μ a1 b1 c1 s, ∃ l : List Int, z = .ref y ∧ u = .ref μ ∧ St T C H a cl N y d w μ a1 b1 c1 s s ∧ (∀ m, s.f m ≠ nil_ → m ∈ l) ∧ l.length ≤ 900 ∧
  ∀ w' H', Tabs T H' → Got H H' a y d w w' μ → Q (.bl true) H'
theorem ok_empt (F : Df g.K "_law_emptied" "_law_emptied" s_l_emptied fa fd .none) (T : Txt g) (CL_Volume : Cls g.K C_Volume) (M_Volume_sync : Km g C_Volume "sync" 1 ["self"] [] (sp_sync C_Volume)) (M_Volume_erase : Km g C_Volume "erase" 5 ["self", "number"] [] (sp_erase C_Volume)) (GM_Volume_used : Kgm g C_Volume "used" 2 ["self"] [] (sp_usedK C_Volume))
    (M_Volume_length : Km g C_Volume "length" 1 ["self"] [] (sp_len C_Volume)) (KG_Volume_used : Kg g C_Volume "used" 1 (sp_used C_Volume)) (P_Volume_pending : Kp g C_Volume "pending" 1 (sp_pend C_Volume)) : FnG g 8 fa fd ["_law_volume", "_law_m"] (sp_empt TS C_Volume) := by
  refine F.ok sc_l_emptied (fun vs H Q E h => S2.len h) (fun cdv A outer s H vs Q E hr h => ?_)
  obtain ⟨_, _, rfl, a, cl, N, y, d, w, μ, a1, b1, c1, s, l, rfl, rfl, st, hl, ll, q⟩ := h
  have laH := st.src.all a (by simp)
  refine ⟨_, (pss_mid (ps_expr (pe_methG0 (pv 0) CL_Volume M_Volume_sync (hr.mono (by first | decide | omega)) tkD))
      (pss_mid (ps_forK psD (hr.mono (by first | decide | omega)) (pk_meth0 (pv 0) CL_Volume GM_Volume_used (hr.mono (by first | decide | omega))) (pg_name (i := 2) sc_l_emptied.nd rfl (.inl rfl)) (pss_one (ps_if (pt_not (pt_val (pe_methG (pv 0) CL_Volume M_Volume_erase (hr.mono (by first | decide | omega)) tkD (pa_cons (pv 2) pa_nil)))) (pss_one (ps_ret pe_bl)) pss_nil)))
      (pss_mid (ps_setLc (i := 3) (own := [("_law_spot_here", 2)]) (tt := tYes) rfl sc_l_emptied.nd rfl rfl (sw_true rfl rfl rfl (by decide +kernel)) (i_list (K := g.K) (pe_callB (c_sortedI (K := g.K)) (by rfl) T.b_sorted bb_sorted (pa_cons (pe_lock (pe_lc (own := [("_law_one", 4)]) (tt := tYes) rfl sc_l_emptied.nd (pi_keys (pe_dget (hu_of hr.room) (pv 1) pe_str (fun _ _ => rfl))) (blkOk_by (own := [("_law_one", 4)]) (N := ["_law_volume", "_law_m", "_law_spot_here", "_law_rows", "_law_one"]) (sc := defScope s_l_emptied) (by decide +kernel)) (fun _ _ _ _ _ => (pg_name (i := 4) sc_l_emptied.nd rfl (.inl rfl))) (fun _ _ _ _ _ => pts_nil) (fun _ _ _ _ _ => (pe_callTy c_intA (by rfl) T.b_int bb_int (pa_cons (pv 4) pa_nil))))) pa_nil))) (blkOk_by (own := [("_law_spot_here", 2)]) (N := ["_law_volume", "_law_m", "_law_spot_here", "_law_rows", "_law_one"]) (sc := defScope s_l_emptied) (by decide +kernel)) (fun _ _ _ _ _ => (pg_name (i := 2) sc_l_emptied.nd rfl (.inl rfl))) (fun _ _ _ _ _ => pts_nil) (fun _ _ _ _ _ => (pe_tup (pa_cons (pv 2) (pa_cons (pe_dget (hu_of (Rm.mk hr.room hr.gd).room) (pe_dget (hu_of (Rm.mk hr.room hr.gd).room) (pv 1) pe_str (fun _ _ => rfl)) (pv 2) (fun _ _ => rfl)) (pa_cons pe_str pa_nil))))))
      (pss_one (ps_ret (pe_and (pe_cmpR (o_eq (K := g.K) hr) (pe_methG0 (pv 0) CL_Volume M_Volume_length (hr.mono (by first | decide | omega)) tkD) pe_int (nomark _)) (pe_and (pe_cmpR (o_eq (K := g.K) hr) ((e_listGen KG_Volume_used CL_Volume (hr.mono (by first | decide | omega)) T.b_list (pv 0))) (pe_lst pa_nil) (nomark _)) (pe_one (pe_cmpR (o_eq (K := g.K) hr) (e_propG P_Volume_pending CL_Volume (hr.mono (by first | decide | omega)) (pv 0)) (pe_callTy call_tuple_of (by rfl) T.b_tuple bb_tuple (pa_cons (pv 3) pa_nil)) (nomark _)))))))))), ?_⟩
  have ⟨dy, ep, tk, kvs, ws, hv⟩ := st.vol
  refine mid_at (fun σ G => ∃ w1, σ = [some (.ref y), some (.ref μ), none, none, none] ∧ St TS C_Volume G a cl N y d w1 μ a1 b1 c1 s.syn s ∧ Got H G a y d w w1 μ) ?_ ?_
  · walk_at "sx"
    refine ⟨_, _, hv.hy, lk_no, _, rfl, y, d, w, s.f, s.rows, rfl, st.vol, fun w' H2 hV2 nw fr2 ek => ?_⟩
    exact ⟨w', st.ran (s' := s.syn) hV2 (ek _ _ st.et) nw fr2, Got.ran fr2 nw laH⟩
  rintro _ G ⟨w1, rfl, s1, go1⟩
  refine mid_at (fun σ G2 => ∃ w2 ns z1, σ = [some (.ref y), some (.ref μ), z1, none, none] ∧ Asc s.f ns ∧ St TS C_Volume G2 a cl N y d w2 μ a1 b1 c1 ⟨s.f, offR s.f ns, offP s.f ns, s.e, s.k⟩ s ∧ Got H G2 a y d w w2 μ) ?_ ?_
  · walk_at "sx"
    have ⟨dy1, ep1, tk1, kvs1, ws1, hv1⟩ := s1.vol
    refine ⟨_, _, hv1.hy, lk_no, y, d, w1, s.f, [], rfl, s1.vol, fun ns asc => ?_⟩
    have lns : ns.length ≤ 900 := Nat.le_trans (nodup_sub asc.nd fun n hn => hl n ((asc.mem n).mp hn)) ll
    refine ⟨fun L j k G' => ∃ z wj, k = [some (.ref y), some (.ref μ), z, none, none] ∧ G' L = some (.lst (ns.map V.int)) ∧ L ∉ [y, d, wj] ∧ St TS C_Volume G' a cl N y d wj μ a1 b1 c1 ⟨s.f, offR s.f (ns.take j), offP s.f (ns.take j), s.e, s.k⟩ s ∧ Got H G' a y d w wj μ, fun L H1 hL sm eL => ?_, fun L j k H1 P => ?_, fun L j k H1 lt P => ?_, fun L k H1 P => ?_⟩
    · exact ⟨none, w1, rfl, eL, fun z => s1.vol.lv L z hL, by rw [off0]; exact s1.same sm, go1.trans (Got.same sm (s1.src.all a (by simp)))⟩
    · obtain ⟨_, _, _, e, _⟩ := P
      exact e
    · obtain ⟨z, wj, rfl, eL, nL, sj, goj⟩ := P
      have ⟨dyj, epj, tkj, kvsj, wsj, hvj⟩ := sj.vol
      have em : ns.getD j 0 = ns[j] := by simp [List.getD, lt]
      rw [em]
      have nz := (asc.mem ns[j]).mp (List.getElem_mem lt)
      have rg := hv.fin.rng _ nz
      have tk1 : ns.take (j + 1) = ns.take j ++ [ns[j]] := by rw [List.take_add_one, List.getElem?_eq_getElem lt]; rfl
      have nt : ns[j] ∉ ns.take j := fun z => by
        have nd2 := asc.nd
        rw [← List.take_append_drop (j + 1) ns, tk1] at nd2
        exact (List.nodup_append.mp (List.nodup_append.mp nd2).1).2.2 _ z _ (List.mem_singleton.mpr rfl) rfl
      have fo : offP s.f (ns.take j) ns[j] = s.f ns[j] := if_neg nt
      refine ⟨_, rfl, y, rfl, _, _, hvj.hy, lk_no, _, rfl, _, _, rfl, y, d, wj, offP s.f (ns.take j), offR s.f (ns.take j), ns[j], rfl, rfl, sj.vol, by simp [offR]; omega, rg.1, rg.2, fun z => absurd (fo ▸ z) nz, fun _ w' H' hV' nw fr ek => ⟨_, rfl, ?_⟩⟩
      rw [if_neg (by simp)]
      rw [off_snoc, ← tk1, fo] at hV'
      have er : offR s.f (ns.take j) ++ [(ns[j], s.f ns[j], nil_)] = offR s.f (ns.take (j + 1)) := by rw [tk1]; unfold offR; rw [List.map_append]; rfl
      rw [er] at hV'
      refine ⟨_, w', rfl, fr _ _ nL eL, fun z => ?_, sj.ran (s' := ⟨s.f, offR s.f (ns.take (j + 1)), offP s.f (ns.take (j + 1)), s.e, s.k⟩) hV' (ek _ _ sj.et) nw fr, goj.trans (Got.ran fr nw (sj.src.all a (by simp)))⟩
      simp only [List.mem_cons, List.not_mem_nil, or_false] at z nL
      rcases z with z | z | z
      · exact nL (.inl z)
      · exact nL (.inr (.inl z))
      · rcases nw with e | e
        · exact nL (.inr (.inr (z.trans e)))
        · rw [← z, eL] at e; cases e
    · obtain ⟨z, wj, rfl, eL, nL, sj, goj⟩ := P
      rw [List.take_length] at sj
      exact ⟨wj, ns, z, rfl, asc, sj, goj⟩
  rintro _ G2 ⟨w2, ns, z1, rfl, asc, s2, go2⟩
  have ⟨dy2, ep2, tk2, kvs2, ws2, hv2⟩ := s2.vol
  have ⟨ka2, kc2, wm2, hm2⟩ := s2.m
  refine mid_at (fun σ G3 => ∃ R ws z4, σ = [some (.ref y), some (.ref μ), z1, some (.ref R), z4] ∧ Same G2 G3 ∧ G3 R = some (.lst ws) ∧ RowsAt G3 ws (offR s.f ns)) ?_ ?_
  · simp only [dget_s hm2.hm, n_rs, n_ps, n_pr, n_sr, n_sp, n_rp, tRet, tRetN, tSeq, C8.tCut, tNext, tAsg, gName, gNil, gCons, gTup, gFld, tIfS, tIf, tAndV, tOrV, tNotV, tAnd, tOr, tNot, tB, tTest, tOp, tUn, tCB, tCons, tNil, tVar, tC, tChain, tDrop, RS.tCallG, RS.tMethG, tMakeG, RS.tCallK, RS.tMakeK, tEqOwn, rI, rI0, rU, add_ii, add_ss, add_rr, mul_ii, mul_si, mul_ri, RS.eq_ii, RS.eq_ss, eq_bb, eq_nn, eq_sn, eq_ns, eq_in, eq_ni, eq_bn, eq_nb, eq_is, eq_si, eq_rr, ne_ii, ne_ss, ne_bb, ne_nn, ne_sn, ne_ns, ne_in, ne_ni, ne_is, ne_si, ne_rr, in_ss, in_r, nin_ss, nin_r, len_s, len_r, RS.ix_s, RS.ix_r, sl_s, sl_r, is_eq, tyN_n, tyN_b, tyN_i, tyN_s, tru_b, tru_i, tru_n, tSl, tPart, tNoPart, tPar, tPar3, tFmtZ, tFmt, tJs, tDGet, sDPut, sFld, tFld, tTup, tLst, tNever, isB,
  L2.start, List.map_cons, List.map_nil, List.length_cons, List.length_nil, Nat.reduceAdd, Nat.reduceSub, Nat.sub_self, List.replicate_zero, List.replicate_succ, List.append_nil, List.cons_append, List.nil_append, List.getElem?_cons_zero, List.getElem?_cons_succ, List.set_cons_zero, List.set_cons_succ, Option.some.injEq, exists_eq_left, exists_eq_left', exists_and_left, V.bl.injEq, V.int.injEq, V.str.injEq, V.ref.injEq, beq_self_eq_true, Bool.true_or, Bool.or_true, Bool.false_or, Bool.or_false, Bool.and_false, Bool.false_and, Bool.true_and, Bool.and_true, Bool.not_true, Bool.not_false, Bool.false_eq_true, if_true, if_false, ite_true, ite_false, true_and, and_true, and_assoc, String.reduceBEq, String.reduceEq, reduceIte, Bool.and_self, reduceCtorEq, false_and, and_false, exists_false, or_false, false_or, exists_const, iEnumS, iStr, iList, iTup, iRng1, iEnum, tFor_eq, tLc_eq, List.cons.injEq, wipe, not_true_eq_false, not_false_eq_true, upd_same, HO.ins.injEq, HO.tup.injEq, HO.lst.injEq, ofS_eq, lk_nil, lk_cons, pu_nil, pu_cons, sizeLine_eq, Nat.reduceLT, Nat.reduceLeDiff, Nat.reduceEqDiff, Nat.le_refl, decide_true, decide_false, tPr, dget_us, dput_us, vv_nil, vv_cons, RS.pk_nil, pk_one, RS.pk_cons, inr_eq, tDisp, tPairs, tBoolOwn, rBoolOwn, tBM, rAppend, ty_list, ty_str, rEqOwn, iEnumT, RS.tCallS, tM1, tDc_eq, tLock, tLockE, iKeys, tListEnum, rUpdate, tMkX0, tMkX1, tXfv, gSub, rSetL, List.getD_cons_zero, List.getD_cons_succ, tCMethS, ClX.tCVal, tXfa, tIxOwn, tInOwn, tPropG, tMethK, tMethP, tListGen, tDGet2, tDPop2, rNeD0, intA_i, intA_b, tRevL, sFldAug, tPm0, tPm1, tDIn, tDNotIn, tDNewK, RS.tMethS]
    refine ⟨c1, _, hm2.hc, True.intro, fun od => ?_⟩
    have nμ : μ ≠ c1 := fun z => hm2.nc (by simp [z])
    have eμ : upd G2 c1 (.frz od (.dK kc2)) μ = some _ := (upd_ne nμ).trans hm2.hm
    refine ⟨.ref c1, (by simp only [dget_s eμ, n_rs, n_ps, n_pr, n_sr, n_sp, n_rp, tRet, tRetN, tSeq, C8.tCut, tNext, tAsg, gName, gNil, gCons, gTup, gFld, tIfS, tIf, tAndV, tOrV, tNotV, tAnd, tOr, tNot, tB, tTest, tOp, tUn, tCB, tCons, tNil, tVar, tC, tChain, tDrop, RS.tCallG, RS.tMethG, tMakeG, RS.tCallK, RS.tMakeK, tEqOwn, rI, rI0, rU, add_ii, add_ss, add_rr, mul_ii, mul_si, mul_ri, RS.eq_ii, RS.eq_ss, eq_bb, eq_nn, eq_sn, eq_ns, eq_in, eq_ni, eq_bn, eq_nb, eq_is, eq_si, eq_rr, ne_ii, ne_ss, ne_bb, ne_nn, ne_sn, ne_ns, ne_in, ne_ni, ne_is, ne_si, ne_rr, in_ss, in_r, nin_ss, nin_r, len_s, len_r, RS.ix_s, RS.ix_r, sl_s, sl_r, is_eq, tyN_n, tyN_b, tyN_i, tyN_s, tru_b, tru_i, tru_n, tSl, tPart, tNoPart, tPar, tPar3, tFmtZ, tFmt, tJs, tDGet, sDPut, sFld, tFld, tTup, tLst, tNever, isB,
  L2.start, List.map_cons, List.map_nil, List.length_cons, List.length_nil, Nat.reduceAdd, Nat.reduceSub, Nat.sub_self, List.replicate_zero, List.replicate_succ, List.append_nil, List.cons_append, List.nil_append, List.getElem?_cons_zero, List.getElem?_cons_succ, List.set_cons_zero, List.set_cons_succ, Option.some.injEq, exists_eq_left, exists_eq_left', exists_and_left, V.bl.injEq, V.int.injEq, V.str.injEq, V.ref.injEq, beq_self_eq_true, Bool.true_or, Bool.or_true, Bool.false_or, Bool.or_false, Bool.and_false, Bool.false_and, Bool.true_and, Bool.and_true, Bool.not_true, Bool.not_false, Bool.false_eq_true, if_true, if_false, ite_true, ite_false, true_and, and_true, and_assoc, String.reduceBEq, String.reduceEq, reduceIte, Bool.and_self, reduceCtorEq, false_and, and_false, exists_false, or_false, false_or, exists_const, iEnumS, iStr, iList, iTup, iRng1, iEnum, tFor_eq, tLc_eq, List.cons.injEq, wipe, not_true_eq_false, not_false_eq_true, upd_same, HO.ins.injEq, HO.tup.injEq, HO.lst.injEq, ofS_eq, lk_nil, lk_cons, pu_nil, pu_cons, sizeLine_eq, Nat.reduceLT, Nat.reduceLeDiff, Nat.reduceEqDiff, Nat.le_refl, decide_true, decide_false, tPr, dget_us, dput_us, vv_nil, vv_cons, RS.pk_nil, pk_one, RS.pk_cons, inr_eq, tDisp, tPairs, tBoolOwn, rBoolOwn, tBM, rAppend, ty_list, ty_str, rEqOwn, iEnumT, RS.tCallS, tM1, tDc_eq, tLock, tLockE, iKeys, tListEnum, rUpdate, tMkX0, tMkX1, tXfv, gSub, rSetL, List.getD_cons_zero, List.getD_cons_succ, tCMethS, ClX.tCVal, tXfa, tIxOwn, tInOwn, tPropG, tMethK, tMethP, tListGen, tDGet2, tDPop2, rNeD0, intA_i, intA_b, tRevL, sFldAug, tPm0, tPm1, tDIn, tDNotIn, tDNewK, RS.tMethS]), c1, rfl, od, .inl ⟨kc2, upd_same, ?_⟩⟩
    have lk := hm2.pc.len hm2.fc
    refine nums_lc (i := 4) (σ := [some (.ref y), some (.ref μ), z1, none, none]) hm2.hc hm2.pc (by omega) od (fun n G K k => ⟨rfl, by walk_at "sx"; exact k⟩) fun L5 G4 gl s' hL el => ⟨gl, L5, numsOf kc2, rfl, SqL.of el, fun ns2 p pe pw hp => ?_⟩
    have e2 := (hm2.pc.asc pe pw).uni asc
    subst e2
    have sm : Same G2 (upd (upd G4 c1 (.dK kc2)) p (.lst (ns2.map V.int))) := s'.trans (same_upd hp)
    have ep : upd (upd G4 c1 (.dK kc2)) p (.lst (ns2.map V.int)) p = some (.lst (ns2.map V.int)) := upd_same
    generalize upd (upd G4 c1 (.dK kc2)) p (.lst (ns2.map V.int)) = G at sm ep ⊢
    refine ⟨p, rfl, ⟨_, SqL.of ep⟩, ?_⟩
    have hmG := hm2.same sm
    have nl : ns2.length ≤ 10000000 := by
      have := nodup_sub asc.nd fun n hn => hl n ((asc.mem n).mp hn)
      omega
    refine lc_invA ns2.length (fun D i acc X => Same G X ∧ RowsAt X acc (offR s.f (ns2.take i))) (by rw [sizeLine_eq]; omega) (fun D hD => ⟨same_upd hD, RowsAt.nil⟩) (fun D i acc X hD lt P => ⟨_, .int ns2[i], SqL.of (P.1 _ _ ep), by simp [lt]⟩) (fun D acc X hD P => ⟨_, SqL.of (P.1 _ _ ep), by simp⟩) (fun D i acc X x X' K hD lt la P eD yl k => ?_) (fun D acc X hD P eD => ?_)
    · obtain ⟨sX, ra⟩ := P
      obtain ⟨rfl, hx⟩ := yl
      have hx := hx _ (SqL.of (sX _ _ ep))
      have ex : x = .int ns2[i] := by simpa [lt] using hx.symm
      subst ex
      refine ⟨rfl, ?_⟩
      have hmX := hmG.same sX
      walk_at "sx"
      have nz := (asc.mem ns2[i]).mp (List.getElem_mem lt)
      refine ⟨.ref c1, (by simp only [dget_s hmX.hm, n_rs, n_ps, n_pr, n_sr, n_sp, n_rp, tRet, tRetN, tSeq, C8.tCut, tNext, tAsg, gName, gNil, gCons, gTup, gFld, tIfS, tIf, tAndV, tOrV, tNotV, tAnd, tOr, tNot, tB, tTest, tOp, tUn, tCB, tCons, tNil, tVar, tC, tChain, tDrop, RS.tCallG, RS.tMethG, tMakeG, RS.tCallK, RS.tMakeK, tEqOwn, rI, rI0, rU, add_ii, add_ss, add_rr, mul_ii, mul_si, mul_ri, RS.eq_ii, RS.eq_ss, eq_bb, eq_nn, eq_sn, eq_ns, eq_in, eq_ni, eq_bn, eq_nb, eq_is, eq_si, eq_rr, ne_ii, ne_ss, ne_bb, ne_nn, ne_sn, ne_ns, ne_in, ne_ni, ne_is, ne_si, ne_rr, in_ss, in_r, nin_ss, nin_r, len_s, len_r, RS.ix_s, RS.ix_r, sl_s, sl_r, is_eq, tyN_n, tyN_b, tyN_i, tyN_s, tru_b, tru_i, tru_n, tSl, tPart, tNoPart, tPar, tPar3, tFmtZ, tFmt, tJs, tDGet, sDPut, sFld, tFld, tTup, tLst, tNever, isB,
  L2.start, List.map_cons, List.map_nil, List.length_cons, List.length_nil, Nat.reduceAdd, Nat.reduceSub, Nat.sub_self, List.replicate_zero, List.replicate_succ, List.append_nil, List.cons_append, List.nil_append, List.getElem?_cons_zero, List.getElem?_cons_succ, List.set_cons_zero, List.set_cons_succ, Option.some.injEq, exists_eq_left, exists_eq_left', exists_and_left, V.bl.injEq, V.int.injEq, V.str.injEq, V.ref.injEq, beq_self_eq_true, Bool.true_or, Bool.or_true, Bool.false_or, Bool.or_false, Bool.and_false, Bool.false_and, Bool.true_and, Bool.and_true, Bool.not_true, Bool.not_false, Bool.false_eq_true, if_true, if_false, ite_true, ite_false, true_and, and_true, and_assoc, String.reduceBEq, String.reduceEq, reduceIte, Bool.and_self, reduceCtorEq, false_and, and_false, exists_false, or_false, false_or, exists_const, iEnumS, iStr, iList, iTup, iRng1, iEnum, tFor_eq, tLc_eq, List.cons.injEq, wipe, not_true_eq_false, not_false_eq_true, upd_same, HO.ins.injEq, HO.tup.injEq, HO.lst.injEq, ofS_eq, lk_nil, lk_cons, pu_nil, pu_cons, sizeLine_eq, Nat.reduceLT, Nat.reduceLeDiff, Nat.reduceEqDiff, Nat.le_refl, decide_true, decide_false, tPr, dget_us, dput_us, vv_nil, vv_cons, RS.pk_nil, pk_one, RS.pk_cons, inr_eq, tDisp, tPairs, tBoolOwn, rBoolOwn, tBM, rAppend, ty_list, ty_str, rEqOwn, iEnumT, RS.tCallS, tM1, tDc_eq, tLock, tLockE, iKeys, tListEnum, rUpdate, tMkX0, tMkX1, tXfv, gSub, rSetL, List.getD_cons_zero, List.getD_cons_succ, tCMethS, ClX.tCVal, tXfa, tIxOwn, tInOwn, tPropG, tMethK, tMethP, tListGen, tDGet2, tDPop2, rNeD0, intA_i, intA_b, tRevL, sFldAug, tPm0, tPm1, tDIn, tDNotIn, tDNewK, RS.tMethS]), c1, rfl, .str (s.f ns2[i]), (by rw [dget_i hmX.hc, hm2.pc.val, if_neg nz]), fun l hl => ?_⟩
      have tk1 : ns2.take (i + 1) = ns2.take i ++ [ns2[i]] := by rw [List.take_add_one, List.getElem?_eq_getElem lt]; rfl
      have er : offR s.f (ns2.take (i + 1)) = offR s.f (ns2.take i) ++ [(ns2[i], s.f ns2[i], nil_)] := by rw [tk1]; unfold offR; rw [List.map_append]; rfl
      have lD : l ≠ D := fun z => by rw [z, eD] at hl; cases hl
      refine k _ _ ((upd_ne lD.symm).trans eD) ⟨fun b o e => ?_, ?_⟩
      · rw [upd_ne (ne_of_none e hD)]
        exact same_upd hl _ _ (sX _ _ e)
      · rw [er]
        refine RowsAt.snoc (RowsAt.fr ra (fp := [D]) (fun b o nb e => ?_) (fun c hc xs => by rw [List.mem_singleton.mp hc, eD]; intro z; cases z)) ?_
        · have nb : b ≠ D := fun z => nb (by simp [z])
          rw [upd_ne nb]
          exact same_upd hl _ _ e
        · rw [upd_ne lD, upd_same]
    · rw [List.take_length] at P
      exact ⟨D, rfl, sm.trans P.1, acc, eD, P.2⟩
  rintro _ G3 ⟨R, ws, z4, rfl, s3, eR, ra⟩
  walk_at "sx"
  have st3 := s2.same s3
  have ⟨dy3, ep3, tk3, kvs3, ws3, hv3⟩ := st3.vol
  refine ⟨_, _, hv3.hy, lk_no, _, rfl, y, d, w2, _, _, rfl, st3.vol, fun n G4 hn s4 => ?_⟩
  have n0 : n = 0 := by
    rcases hn with ⟨_, rfl⟩ | ⟨j, h1, _, _⟩
    · rfl
    · exact absurd (off_all asc j) h1
  subst n0
  show rEqU g.K (.int 0) (.int 0) G4 _
  rw [RS.eq_ii]
  refine ⟨_, rfl, ?_⟩
  rw [if_pos (by simp)]
  have st4 := st3.same s4
  refine ⟨_, _, s4 _ _ hv3.hy, lk_no, y, d, w2, _, _, rfl, st4.vol, fun ns4 G5 asc4 s5 p hp q' hq => ?_⟩
  have e4 : ns4 = [] := List.eq_nil_iff_forall_not_mem.mpr fun m hm => (asc4.mem m).mp hm (off_all asc m)
  subst e4
  have s6 := (s5.trans (same_upd (o := HO.lst []) hp)).trans (same_upd (o := HO.lst []) hq)
  have pq : p ≠ q' := fun z => by rw [← z, upd_same] at hq; cases hq
  refine eq_rowsL rowsF0 RowsAt.nil RowsAt.nil ((upd_ne pq).trans upd_same) upd_same ?_
  have st6 := st4.same s6
  have go6 := (go2.trans (Got.same (s3.trans s4) (s2.src.all a (by simp)))).trans (Got.same s6 (st4.src.all a (by simp)))
  have s36 := s4.trans s6
  refine ⟨_, rfl, ?_⟩
  rw [if_pos rfl]
  refine ⟨_, _, s36 _ _ hv3.hy, _, rfl, y, d, w2, _, _, rfl, st6.vol, fun p2 ws2 ra2 hp2 => ⟨_, .inl ⟨SqL.of (same_upd hp2 _ _ (s36 _ _ eR)), fun l hl => ?_⟩⟩⟩
  show rEqU g.K (.ref p2) (.ref l) _ _
  rw [RS.eq_rr]
  have s7 := (same_upd (H := _) (o := HO.tup ws2) hp2).trans (same_upd (o := HO.tup ws) hl)
  have rf : RowsF (offR s.f ns) := (s2.vol.choose_spec).choose_spec.choose_spec.choose_spec.choose_spec.rf
  refine eq_rows rf (RowsAt.fr ra2 (fp := []) (Fr1.of s7) (by simp)) (RowsAt.fr ra (fp := []) (Fr1.of (s36.trans s7)) (by simp)) (same_upd hl _ _ upd_same) upd_same ?_
  exact q w2 _ (st6.same s7).tab (go6.trans (Got.same s7 (st6.src.all a (by simp))))
end


/-! the law -/
/-- a list holds the numbers of all pages in use -/
def Few (f : Pg) (n : Nat) : Prop := ∃ l : List Int, (∀ m, f m ≠ nil_ → m ∈ l) ∧ l.length ≤ n
theorem Few.near {f f' : Pg} {n : Nat} (h : Few f n) (h' : Near f f') : Few f' (n + 1) := by
  obtain ⟨l, h1, h2⟩ := h
  obtain ⟨k, h3⟩ := h'
  refine ⟨k :: l, fun m hm => ?_, by simp; omega⟩
  by_cases e : m = k
  · simp [e]
  · exact List.mem_cons_of_mem _ (h1 m (by rw [← h3 m e]; exact hm))
section
variable {g : Wd} {fa : Addr} {fd : FuncData} {C_Volume : Addr} {x : Xcs} {TS : List (Addr × Str)}
theorem sc_law : FnScope ["_law_script", "_law_source", "_law_volume", "_law_m", "_law_turn"] ["_law_script"] (defScope s_law) := ⟨rfl, rfl, rfl, by decide +kernel, rfl, by decide +kernel, by decide +kernel⟩
def sp_law (K : PySem.W.Frag) (TS : List (Addr × Str)) : Sp := S1 fun v H Q _ => ∃ (a : Addr) (ns : List Int), v = .ref a ∧ SqL K H a (ns.map V.int) ∧ ns.length ≤ 63 ∧ Tabs TS H ∧ ∀ H', Q (.bl true) H'
theorem ok_law (F : Df g.K "law" "law" s_law fa fd .none) (T : Txt g) (R : VF g C_Volume) (V_Volume : Gv g "Volume" (.ref C_Volume)) (F_l_sources : Kn g "_law_sources" 1 ["_law_script"] [] (sp_srcs g.K)) (F_Volume : Kc g "Volume" C_Volume 1 ["self"] [] (sp_init C_Volume)) (F_l_begun : Kn g "_law_begun" 1 [] [] sp_begun)
    (F_l_pick : Kn g "_law_pick" 1 ["_law_source", "_law_many"] [] sp_pick) (F_l_step_right : Kn g "_law_step_right" 12 ["_law_source", "_law_volume", "_law_m"] [] (sp_step TS C_Volume)) (F_l_texts_right : Kn g "_law_texts_right" 8 ["_law_source", "_law_volume", "_law_m"] [] (sp_tright TS C_Volume)) (F_l_emptied : Kn g "_law_emptied" 8 ["_law_volume", "_law_m"] [] (sp_empt TS C_Volume))
    (F_l_is_at : Kn g "_law_is_at" 6 ["_law_volume", "_law_m"] [] (sp_isat C_Volume)) : FnG g 14 fa fd ["_law_script"] (sp_law g.K TS) := by
  refine F.ok sc_law (fun vs H Q E h => S1.len h) (fun cdv A outer s H vs Q E hr h => ?_)
  obtain ⟨_, rfl, a, ns, rfl, hA, hl, tab, q⟩ := h
  refine ⟨_, (pss_mid (ps_for psD rfl (i_list (K := g.K) (pe_callG F_l_sources (hr.mono (by first | decide | omega)) tkD (pa_cons (pv 0) pa_nil))) (pg_name (i := 1) sc_law.nd rfl (.inl rfl)) (pss_mid (ps_par (i := 2) (j := 3) (by rfl) sc_law.nd rfl rfl (by decide) rfl rfl (pa_cons (pe_makeG0 F_Volume (hr.mono (by first | decide | omega)) tkD) (pa_cons (pe_callG0 F_l_begun (hr.mono (by first | decide | omega)) tkD) pa_nil)) (by rfl))
      (pss_mid (ps_if (PW.pt (pw_or (pt_not (pt_val (pe_callG F_l_is_at (hr.mono (by first | decide | omega)) tkD (pa_cons (pv 2) (pa_cons (pv 3) pa_nil))))) (pw_or (pt_cmpR (o_ne (K := g.K) hr) (e_cval (g := g) (e_g V_Volume)) pe_int (nomark _)) (pw_or1 (pt_cmpR (o_ne (K := g.K) hr) (e_cval (g := g) (e_g V_Volume)) pe_int (nomark _)))))) (pss_one (ps_ret pe_bl)) pss_nil)
      (pss_mid (ps_for psD rfl (pi_range1 rfl T.b_range (pa_cons (pe_op (o_add (K := g.K)) pe_int (pe_callG F_l_pick (hr.mono (by first | decide | omega)) tkD (pa_cons (pv 1) (pa_cons pe_int pa_nil)))) pa_nil)) (pg_name (i := 4) sc_law.nd rfl (.inl rfl)) (pss_mid (ps_if (PW.pt (pw_or (pt_not (pt_val (pe_callG F_l_step_right (hr.mono (by first | decide | omega)) tkD (pa_cons (pv 1) (pa_cons (pv 2) (pa_cons (pv 3) pa_nil)))))) (pw_or1 (pt_not (pt_val (pe_callG F_l_is_at (hr.mono (by first | decide | omega)) tkD (pa_cons (pv 2) (pa_cons (pv 3) pa_nil)))))))) (pss_one (ps_ret pe_bl)) pss_nil)
      (pss_one (ps_if (pt_not (pt_val (pe_callG F_l_texts_right (hr.mono (by first | decide | omega)) tkD (pa_cons (pv 1) (pa_cons (pv 2) (pa_cons (pv 3) pa_nil)))))) (pss_one (ps_ret pe_bl)) pss_nil))))
      (pss_one (ps_if (pt_not (pt_val (pe_callG F_l_emptied (hr.mono (by first | decide | omega)) tkD (pa_cons (pv 2) (pa_cons (pv 3) pa_nil))))) (pss_one (ps_ret pe_bl)) pss_nil))))))
      (pss_one (ps_ret pe_bl))), ?_⟩
  refine mid_at (fun σ G => ∃ v1 v2 v3 v4, σ = [some (.ref a), v1, v2, v3, v4]) ?_ ?_
  rotate_left
  · rintro _ G ⟨v1, v2, v3, v4, rfl⟩
    walk_at "sx"
    exact q _
  walk_at "sx"
  refine ⟨_, rfl, a, ns, rfl, hA, hl, fun p l G sG np ep nd l3 hsrc => ?_⟩
  walk_at "sx"
  refine ⟨⟨_, SqL.of ep⟩, ?_⟩
  refine for_by l.length (fun i σ X => (∃ v1 v2 v3 v4, σ = [some (.ref a), v1, v2, v3, v4]) ∧ X p = some (.lst (l.map V.ref)) ∧ Tabs TS X ∧ ∀ (j : Nat) x, i ≤ j → l[j]? = some x → ∃ cl, cl ≠ p ∧ Src X x cl 300) ⟨⟨_, _, _, _, rfl⟩, ep, RS.Tabs.same tab sG, fun j x _ hj => by obtain ⟨_, cl, _, h2, h3⟩ := hsrc x (List.mem_of_getElem? hj); exact ⟨cl, h2, h3⟩⟩ (fun i σ X lt P => ⟨_, .ref l[i], SqL.of P.2.1, by simp [lt]⟩) (fun σ X P => ⟨_, SqL.of P.2.1, by simp⟩) (fun i σ X x X' lt P yl => ?_) (fun σ X P => by
    obtain ⟨⟨v1, v2, v3, v4, rfl⟩, _, tb, _⟩ := P
    exact ⟨_, _, _, _, rfl⟩)
  obtain ⟨⟨v1, v2, v3, v4, rfl⟩, ep', tabX, hs⟩ := P
  obtain ⟨rfl, hx⟩ := yl
  have hx := hx _ (SqL.of ep')
  have ex : x = .ref l[i] := by simpa [lt] using hx.symm
  subst ex
  have li : l[i]? = some l[i] := List.getElem?_eq_getElem lt
  generalize ea : l[i] = s at li
  obtain ⟨cl, clp, src⟩ := hs i s (Nat.le_refl _) li
  walk_at "sx"
  refine mid_at (fun σ G1 => ∃ y d w μ a1 b1 c1, σ = [some (.ref a), some (.ref s), some (.ref y), some (.ref μ), v4] ∧ Same X' G1 ∧ (∀ c ∈ [y, d, w, μ, a1, b1, c1], X' c = none) ∧ Vol C_Volume G1 y d w (fun _ => nil_) [] ∧ EtIs G1 y 0 false ∧ M G1 μ a1 b1 c1 (fun _ => nil_) [] (fun _ => nil_) [] ∧ Ap [y, d, w] [μ, a1, b1, c1]) ?_ ?_
  · walk_at "sx"
    intro y dy hy hdy ne
    have s0 : Same X' (upd (upd X' dy (.own y)) y (.ins C_Volume dy [])) := fun c o e => by rw [upd_ne (ne_of_none e hy), upd_ne (ne_of_none e hdy)]; exact e
    refine ⟨_, rfl, y, dy, rfl, upd_same, fun d w X1 hV hd hw fr1 et => ⟨rfl, ?_⟩⟩
    have s1 : Same X' X1 := fun c o e => fr1 c o (by simpa using ne_of_none e hy) (s0 _ _ e)
    refine ⟨rfl, fun μ a1 b1 c1 X3 m3 n3 s3 => ?_⟩
    have n1 : ∀ c ∈ [y, d, w], X' c = none := fun c hc => by
      simp only [List.mem_cons, List.not_mem_nil, or_false] at hc
      rcases hc with rfl | rfl | rfl
      · exact hy
      · exact none_of_same s0 hd
      · exact none_of_same s0 hw
    refine ⟨d, w, μ, rfl, s1.trans s3, a1, b1, c1, fun c hc => ?_, hV.same s3, et.same s3, m3, fun x hx z => hV.lv x hx (n3 x z)⟩
    have hc' : c ∈ [y, d, w] ∨ c ∈ [μ, a1, b1, c1] := by
      simp only [List.mem_cons, List.not_mem_nil, or_false] at hc ⊢
      rcases hc with h | h | h | h | h | h | h <;> simp [h]
    rcases hc' with h | h
    · exact n1 c h
    · exact none_of_same s1 (n3 c h)
  rintro _ G1 ⟨y, d, w, μ, a1, b1, c1, rfl, s1, nw, hV, et, hM, p13⟩
  have src1 := src.same s1
  have lvS : ∀ x ∈ [s, cl], X' x ≠ none := src.all
  have st : St TS C_Volume G1 s cl 300 y d w μ a1 b1 c1 ⟨fun _ => nil_, [], fun _ => nil_, 0, false⟩ ⟨fun _ => nil_, [], fun _ => nil_, 0, false⟩ :=
    ⟨src1, hV, et, hM, RS.Tabs.same tabX s1, fun x hx z => lvS x hx (nw x (by simp at z ⊢; rcases z with z | z | z <;> simp [z])), fun x hx z => lvS x hx (nw x (by simp at z ⊢; rcases z with z | z | z | z <;> simp [z])), p13⟩
  have out0 : Out X' G1 s [y, d, w, μ] :=
    ⟨FrT.of s1, fun c hc o e => by
      rw [nw c (by
        simp only [List.mem_cons, List.not_mem_nil, or_false] at hc ⊢
        rcases hc with h | h | h | h <;> simp [h])] at e
      cases e⟩
  refine mid_at (fun σ Z => σ = [some (.ref a), some (.ref s), some (.ref y), some (.ref μ), v4] ∧ Same G1 Z) ?_ ?_
  · walk_at "sx"
    obtain ⟨mc, h1, ⟨u1, h2⟩, u2, h3⟩ := R.rd
    refine ⟨_, _, rfl, y, d, w, _, _, μ, a1, b1, c1, _, _, rfl, rfl, hV, hM, by simp, fun H2 sH => ⟨_, rfl, ?_⟩⟩
    rw [if_neg (by simp)]
    refine ⟨mc, h1, _, u1, h2, ?_⟩
    show rNeU g.K (.int _) (.int _) _ _
    rw [RS.ne_ii]
    refine ⟨_, rfl, ?_⟩
    rw [if_neg (by simp)]
    refine ⟨mc, h1, _, u2, h3, ?_⟩
    show rNeU g.K (.int _) (.int _) _ _
    rw [RS.ne_ii]
    refine ⟨_, rfl, ?_⟩
    rw [if_neg (by simp)]
    exact sH
  rintro _ G2 ⟨rfl, s2⟩
  have st2 := st.same s2
  have out2 : Out X' G2 s [y, d, w, μ] := Got.same (d := d) (w := w) s2 (st.src.all s (by simp)) X' out0
  refine mid_at (fun σ Y => ∃ N v4 w a1 b1 c1 u, σ = [some (.ref a), some (.ref s), some (.ref y), some (.ref μ), v4] ∧ St TS C_Volume Y s cl N y d w μ a1 b1 c1 u u ∧ u.rows.length ≤ 30 ∧ Few u.f 30 ∧ Out X' Y s [y, d, w, μ]) ?_ ?_
  · walk_at "sx"
    refine ⟨_, _, rfl, s, cl, 300, 21, rfl, rfl, by decide, by decide, st2.src, by decide, fun r G4 r0 r1 S4 fr4 => ?_⟩
    obtain ⟨r, rfl⟩ := Int.eq_ofNat_of_zero_le r0
    have st4 := st2.drawn S4 fr4
    have out4 : Out X' G4 s [y, d, w, μ] := Got.of (d := d) (w := w) fr4.t (by simp) (st2.src.all s (by simp)) X' out2
    walk_at "sx"
    rw [show (10 : Int) + (r : Nat) = ((10 + r : Nat) : Int) from by omega, Int.toNat_natCast]
    refine ⟨by omega, by omega, ?_⟩
    refine for_by (10 + r) (fun t σ Y => ∃ v4 w a1 b1 c1 u, σ = [some (.ref a), some (.ref s), some (.ref y), some (.ref μ), v4] ∧ St TS C_Volume Y s cl (301 + 6 * t) y d w μ a1 b1 c1 u u ∧ u.Ch ∧ u.rows.length ≤ t ∧ Few u.f t ∧ Out X' Y s [y, d, w, μ]) ⟨_, w, a1, b1, c1, _, rfl, st4, .nil _, Nat.le_refl _, ⟨[], fun m hm => absurd rfl hm, Nat.le_refl _⟩, out4⟩ (fun _ _ _ lt _ => lt) (fun _ _ _ => Nat.le_refl _) ?_ ?_
    · rintro t _ Y x' Y' lt2 ⟨v4, w, a1, b1, c1, u, rfl, st, ch, ur, few, out⟩ ⟨rfl, rfl⟩
      refine mid_at (fun σ Z => ∃ v4 w a1 b1 c1 u, σ = [some (.ref a), some (.ref s), some (.ref y), some (.ref μ), v4] ∧ St TS C_Volume Z s cl (306 + 6 * t) y d w μ a1 b1 c1 u u ∧ u.Ch ∧ u.rows.length ≤ t + 1 ∧ Few u.f (t + 1) ∧ Out X' Z s [y, d, w, μ]) ?_ ?_
      · walk_at "sx"
        refine ⟨_, _, _, rfl, s, cl, _, y, d, w, μ, a1, b1, c1, u, rfl, rfl, rfl, st, ch, by omega, by omega, fun w' a1' b1' c1' u' H' st' ch' rl' e' k' nr go => ⟨_, rfl, ?_⟩⟩
        rw [if_neg (by simp)]
        refine ⟨_, _, rfl, y, d, w', _, _, μ, a1', b1', c1', _, _, rfl, rfl, st'.vol, st'.m, by omega, fun H2 sH => ⟨_, rfl, ?_⟩⟩
        rw [if_neg (by simp)]
        exact ⟨w', a1', b1', c1', u', ((st'.same sH).drawn ((st'.same sH).src.mono (by omega)) (Fr1.refl _)), ch', by omega, few.near nr, Got.same (d := d) (w := w') sH (st'.src.all s (by simp)) X' (go X' out)⟩
      rintro _ Z ⟨v4, w, a1, b1, c1, u, rfl, st, ch, ur, few, out⟩
      walk_at "sx"
      refine ⟨_, _, _, rfl, s, cl, _, y, d, w, μ, a1, b1, c1, u, rfl, rfl, rfl, st, by omega, fun H' st' go => ⟨_, rfl, ?_⟩⟩
      rw [if_neg (by simp)]
      exact ⟨w, a1, b1, c1, u, st'.drawn (st'.src.mono (by omega)) (Fr1.refl _), ch, ur, few, go X' out⟩
    · rintro _ Y ⟨v4, w, a1, b1, c1, u, rfl, st, ch, ur, ⟨fl, f1, f2⟩, out⟩
      exact ⟨_, _, rfl, _, _, _, _, _, st, by omega, ⟨fl, f1, by omega⟩, out⟩
  rintro _ Y ⟨N, v4, w, a1, b1, c1, u, rfl, st, ur, ⟨fl, few1, few2⟩, out⟩
  walk_at "sx"
  refine ⟨_, _, rfl, s, cl, _, y, d, w, μ, a1, b1, c1, u, fl, rfl, rfl, st, few1, by omega, fun w2 H' tb2 go => ⟨_, rfl, ?_⟩⟩
  rw [if_neg (by simp)]
  have out := go X' out
  have far : ∀ x, X' x ≠ none → x ≠ s → x ∉ [s] := fun x _ hs z => hs (List.mem_singleton.mp z)
  obtain ⟨ks, hk⟩ := src.dk
  refine ⟨⟨_, rfl⟩, out.fr _ _ (far p (by rw [ep']; simp) (fun z => by rw [z, hk] at ep'; cases ep')) (fun _ z => by cases z) ep', tb2, fun j x hj hx => ?_⟩
  obtain ⟨cl', clp', src'⟩ := hs j x (by omega) hx
  refine ⟨cl', clp', src'.fr out.fr (far x (src'.all x (by simp)) fun z => ?_) (far cl' (src'.all cl' (by simp)) fun z => ?_)⟩
  · have := (List.getElem?_inj lt nd).mp (li.trans (by rw [hx, z]))
    omega
  · obtain ⟨_, _, _, _, hz, _⟩ := src'
    rw [z, hk] at hz; cases hz
end


open PySem PySem.Spec PyProof.Rows L2 RS LamX
theorem xst_Dead : XSt0 "Dead.__init__" s_Dead__init where
  bd := ⟨_, _, _, _, _, _, _, _, rfl, fun L fI cda cc => ⟨rfl, rfl, rfl, ⟨_, rfl⟩⟩⟩
  ar := ⟨_, rfl, rfl⟩
  ks := rfl
  kc := rfl
  ka := rfl
  kd := rfl
  co := rfl
  ge := rfl
  ce := by decide +kernel
  bi := fun oc kV doc pm an cdv ct cc u => rfl
theorem xst_InvalidKind : XSt1 "InvalidKind.__init__" s_InvalidKind__init "given" "given" where
  bd := ⟨_, _, _, _, _, _, _, _, _, _, _, _, rfl, fun L fI cda cc => ⟨rfl, rfl, rfl, ⟨_, rfl⟩, rfl⟩⟩
  ar := ⟨_, rfl, rfl⟩
  ks := rfl
  kc := rfl
  ka := rfl
  kx := rfl
  kd := rfl
  co := rfl
  ge := rfl
  ce := by decide +kernel
  bi := fun oc kV doc pm an cdv ct cc u v => rfl
  ne := by decide
  dbg := by decide
theorem xst_InvalidNumber : XSt1 "InvalidNumber.__init__" s_InvalidNumber__init "given" "given" where
  bd := ⟨_, _, _, _, _, _, _, _, _, _, _, _, rfl, fun L fI cda cc => ⟨rfl, rfl, rfl, ⟨_, rfl⟩, rfl⟩⟩
  ar := ⟨_, rfl, rfl⟩
  ks := rfl
  kc := rfl
  ka := rfl
  kx := rfl
  kd := rfl
  co := rfl
  ge := rfl
  ce := by decide +kernel
  bi := fun oc kV doc pm an cdv ct cc u v => rfl
  ne := by decide
  dbg := by decide
theorem xst_InvalidText : XSt1 "InvalidText.__init__" s_InvalidText__init "position" "position" where
  bd := ⟨_, _, _, _, _, _, _, _, _, _, _, _, rfl, fun L fI cda cc => ⟨rfl, rfl, rfl, ⟨_, rfl⟩, rfl⟩⟩
  ar := ⟨_, rfl, rfl⟩
  ks := rfl
  kc := rfl
  ka := rfl
  kx := rfl
  kd := rfl
  co := rfl
  ge := rfl
  ce := by decide +kernel
  bi := fun oc kV doc pm an cdv ct cc u v => rfl
  ne := by decide
  dbg := by decide
theorem xst_InvalidVolume : XSt1 "InvalidVolume.__init__" s_InvalidVolume__init "part" "part" where
  bd := ⟨_, _, _, _, _, _, _, _, _, _, _, _, rfl, fun L fI cda cc => ⟨rfl, rfl, rfl, ⟨_, rfl⟩, rfl⟩⟩
  ar := ⟨_, rfl, rfl⟩
  ks := rfl
  kc := rfl
  ka := rfl
  kx := rfl
  kd := rfl
  co := rfl
  ge := rfl
  ce := by decide +kernel
  bi := fun oc kV doc pm an cdv ct cc u v => rfl
  ne := by decide
  dbg := by decide
theorem xst_Locked : XSt0 "Locked.__init__" s_Locked__init where
  bd := ⟨_, _, _, _, _, _, _, _, rfl, fun L fI cda cc => ⟨rfl, rfl, rfl, ⟨_, rfl⟩⟩⟩
  ar := ⟨_, rfl, rfl⟩
  ks := rfl
  kc := rfl
  ka := rfl
  kd := rfl
  co := rfl
  ge := rfl
  ce := by decide +kernel
  bi := fun oc kV doc pm an cdv ct cc u => rfl
theorem xst_NotBlank : XSt1 "NotBlank.__init__" s_NotBlank__init "page" "page" where
  bd := ⟨_, _, _, _, _, _, _, _, _, _, _, _, rfl, fun L fI cda cc => ⟨rfl, rfl, rfl, ⟨_, rfl⟩, rfl⟩⟩
  ar := ⟨_, rfl, rfl⟩
  ks := rfl
  kc := rfl
  ka := rfl
  kx := rfl
  kd := rfl
  co := rfl
  ge := rfl
  ce := by decide +kernel
  bi := fun oc kV doc pm an cdv ct cc u v => rfl
  ne := by decide
  dbg := by decide
theorem all_mk {l : PySem.W.OpenLaw} {w : World} {K : PySem.W.Frag} {h : Heap} {mg : Str → Option Value} {fa : Addr} {q : Program}
    {C_Dead fI_Dead cda_Dead cc_Dead : Addr} {oc_Dead kV_Dead doc_Dead pm_Dead ct_Dead ccl_Dead cl_Dead : Value} {od_Dead an_Dead cdd_Dead cld_Dead : Option Addr} {osl_Dead ccs_Dead csl_Dead : Array (Option Value)} {vs_Dead : Array Value} {file_Dead : Str} {tf_Dead : Tok}
    {C_InvalidKind fI_InvalidKind cda_InvalidKind cc_InvalidKind : Addr} {oc_InvalidKind kV_InvalidKind doc_InvalidKind pm_InvalidKind ct_InvalidKind ccl_InvalidKind cl_InvalidKind : Value} {od_InvalidKind an_InvalidKind cdd_InvalidKind cld_InvalidKind : Option Addr} {osl_InvalidKind ccs_InvalidKind csl_InvalidKind : Array (Option Value)} {vs_InvalidKind : Array Value} {file_InvalidKind : Str} {tf_InvalidKind : Tok}
    {C_InvalidNumber fI_InvalidNumber cda_InvalidNumber cc_InvalidNumber : Addr} {oc_InvalidNumber kV_InvalidNumber doc_InvalidNumber pm_InvalidNumber ct_InvalidNumber ccl_InvalidNumber cl_InvalidNumber : Value} {od_InvalidNumber an_InvalidNumber cdd_InvalidNumber cld_InvalidNumber : Option Addr} {osl_InvalidNumber ccs_InvalidNumber csl_InvalidNumber : Array (Option Value)} {vs_InvalidNumber : Array Value} {file_InvalidNumber : Str} {tf_InvalidNumber : Tok}
    {C_InvalidText fI_InvalidText cda_InvalidText cc_InvalidText : Addr} {oc_InvalidText kV_InvalidText doc_InvalidText pm_InvalidText ct_InvalidText ccl_InvalidText cl_InvalidText : Value} {od_InvalidText an_InvalidText cdd_InvalidText cld_InvalidText : Option Addr} {osl_InvalidText ccs_InvalidText csl_InvalidText : Array (Option Value)} {vs_InvalidText : Array Value} {file_InvalidText : Str} {tf_InvalidText : Tok}
    {C_InvalidVolume fI_InvalidVolume cda_InvalidVolume cc_InvalidVolume : Addr} {oc_InvalidVolume kV_InvalidVolume doc_InvalidVolume pm_InvalidVolume ct_InvalidVolume ccl_InvalidVolume cl_InvalidVolume : Value} {od_InvalidVolume an_InvalidVolume cdd_InvalidVolume cld_InvalidVolume : Option Addr} {osl_InvalidVolume ccs_InvalidVolume csl_InvalidVolume : Array (Option Value)} {vs_InvalidVolume : Array Value} {file_InvalidVolume : Str} {tf_InvalidVolume : Tok}
    {C_Locked fI_Locked cda_Locked cc_Locked : Addr} {oc_Locked kV_Locked doc_Locked pm_Locked ct_Locked ccl_Locked cl_Locked : Value} {od_Locked an_Locked cdd_Locked cld_Locked : Option Addr} {osl_Locked ccs_Locked csl_Locked : Array (Option Value)} {vs_Locked : Array Value} {file_Locked : Str} {tf_Locked : Tok}
    {C_NotBlank fI_NotBlank cda_NotBlank cc_NotBlank : Addr} {oc_NotBlank kV_NotBlank doc_NotBlank pm_NotBlank ct_NotBlank ccl_NotBlank cl_NotBlank : Value} {od_NotBlank an_NotBlank cdd_NotBlank cld_NotBlank : Option Addr} {osl_NotBlank ccs_NotBlank csl_NotBlank : Array (Option Value)} {vs_NotBlank : Array Value} {file_NotBlank : Str} {tf_NotBlank : Tok}
    {C_ShelfError : Addr}
    {C_ShelfStateError : Addr}
    {C_LimitError : Addr}
    {C_Volume : Addr}
    {f_is_whole : Addr} {od_is_whole an_is_whole : Option Addr} {sl_is_whole : Array (Option Value)} {oc_is_whole kV_is_whole dc_is_whole pm_is_whole cd_is_whole ct_is_whole : Value}
    {f_is_page : Addr} {od_is_page an_is_page : Option Addr} {sl_is_page : Array (Option Value)} {oc_is_page kV_is_page dc_is_page pm_is_page cd_is_page ct_is_page : Value}
    {f_need_page : Addr} {od_need_page an_need_page : Option Addr} {sl_need_page : Array (Option Value)} {oc_need_page kV_need_page dc_need_page pm_need_page cd_need_page ct_need_page : Value}
    {f_is_page_text : Addr} {od_is_page_text an_is_page_text : Option Addr} {sl_is_page_text : Array (Option Value)} {oc_is_page_text kV_is_page_text dc_is_page_text pm_is_page_text cd_is_page_text ct_is_page_text : Value}
    {f_Volume_set_text : Addr} {od_Volume_set_text an_Volume_set_text : Option Addr} {sl_Volume_set_text : Array (Option Value)} {oc_Volume_set_text kV_Volume_set_text dc_Volume_set_text pm_Volume_set_text cd_Volume_set_text ct_Volume_set_text : Value}
    {f_Volume_make_write : Addr} {od_Volume_make_write an_Volume_make_write : Option Addr} {sl_Volume_make_write : Array (Option Value)} {oc_Volume_make_write kV_Volume_make_write dc_Volume_make_write pm_Volume_make_write cd_Volume_make_write ct_Volume_make_write : Value}
    {f_Volume_need_writable : Addr} {od_Volume_need_writable an_Volume_need_writable : Option Addr} {sl_Volume_need_writable : Array (Option Value)} {oc_Volume_need_writable kV_Volume_need_writable dc_Volume_need_writable pm_Volume_need_writable cd_Volume_need_writable ct_Volume_need_writable : Value}
    {f_Volume_write : Addr} {od_Volume_write an_Volume_write : Option Addr} {sl_Volume_write : Array (Option Value)} {oc_Volume_write kV_Volume_write dc_Volume_write pm_Volume_write cd_Volume_write ct_Volume_write : Value}
    {f_Volume_erase : Addr} {od_Volume_erase an_Volume_erase : Option Addr} {sl_Volume_erase : Array (Option Value)} {oc_Volume_erase kV_Volume_erase dc_Volume_erase pm_Volume_erase cd_Volume_erase ct_Volume_erase : Value}
    {f_Volume_sync : Addr} {od_Volume_sync an_Volume_sync : Option Addr} {sl_Volume_sync : Array (Option Value)} {oc_Volume_sync kV_Volume_sync dc_Volume_sync pm_Volume_sync cd_Volume_sync ct_Volume_sync : Value}
    {f_Volume__getitem : Addr} {od_Volume__getitem an_Volume__getitem : Option Addr} {sl_Volume__getitem : Array (Option Value)} {oc_Volume__getitem kV_Volume__getitem dc_Volume__getitem pm_Volume__getitem cd_Volume__getitem ct_Volume__getitem : Value}
    {f_Volume__contains : Addr} {od_Volume__contains an_Volume__contains : Option Addr} {sl_Volume__contains : Array (Option Value)} {oc_Volume__contains kV_Volume__contains dc_Volume__contains pm_Volume__contains cd_Volume__contains ct_Volume__contains : Value}
    {f_Volume_length : Addr} {od_Volume_length an_Volume_length : Option Addr} {sl_Volume_length : Array (Option Value)} {oc_Volume_length kV_Volume_length dc_Volume_length pm_Volume_length cd_Volume_length ct_Volume_length : Value}
    {f_Volume__bool : Addr} {od_Volume__bool an_Volume__bool : Option Addr} {sl_Volume__bool : Array (Option Value)} {oc_Volume__bool kV_Volume__bool dc_Volume__bool pm_Volume__bool cd_Volume__bool ct_Volume__bool : Value}
    {p_Volume_pending f_Volume_pending : Addr} {re_Volume_pending : List Value} {od_Volume_pending an_Volume_pending : Option Addr} {sl_Volume_pending : Array (Option Value)} {oc_Volume_pending kV_Volume_pending dc_Volume_pending pm_Volume_pending cd_Volume_pending ct_Volume_pending : Value}
    {f_Volume__init : Addr} {od_Volume__init an_Volume__init : Option Addr} {sl_Volume__init : Array (Option Value)} {oc_Volume__init kV_Volume__init dc_Volume__init pm_Volume__init cd_Volume__init ct_Volume__init : Value}
    {f_Volume_new_one : Addr} {od_Volume_new_one an_Volume_new_one : Option Addr} {sl_Volume_new_one : Array (Option Value)} {oc_Volume_new_one kV_Volume_new_one dc_Volume_new_one pm_Volume_new_one cd_Volume_new_one ct_Volume_new_one : Value}
    {f_Volume_snapshot : Addr} {od_Volume_snapshot an_Volume_snapshot : Option Addr} {sl_Volume_snapshot : Array (Option Value)} {oc_Volume_snapshot kV_Volume_snapshot dc_Volume_snapshot pm_Volume_snapshot cd_Volume_snapshot ct_Volume_snapshot : Value}
    {f_Volume_used : Addr} {od_Volume_used an_Volume_used : Option Addr} {sl_Volume_used : Array (Option Value)} {oc_Volume_used kV_Volume_used dc_Volume_used pm_Volume_used cd_Volume_used ct_Volume_used : Value}
    {f_Volume_need_outcome : Addr} {od_Volume_need_outcome an_Volume_need_outcome : Option Addr} {sl_Volume_need_outcome : Array (Option Value)} {oc_Volume_need_outcome kV_Volume_need_outcome dc_Volume_need_outcome pm_Volume_need_outcome cd_Volume_need_outcome ct_Volume_need_outcome : Value}
    {T_Volume_crash : Addr} {To_Volume_crash : Value} {Td_Volume_crash : Option Addr} {Tn_Volume_crash : Nat} {Ts_Volume_crash : Array (Option Value)}
    {Tt_Volume_crash_0 : Tok}
    {f_Volume_crash : Addr} {od_Volume_crash an_Volume_crash : Option Addr} {sl_Volume_crash : Array (Option Value)} {oc_Volume_crash kV_Volume_crash dc_Volume_crash pm_Volume_crash cd_Volume_crash ct_Volume_crash : Value}
    {T_Volume_crashed : Addr} {To_Volume_crashed : Value} {Td_Volume_crashed : Option Addr} {Tn_Volume_crashed : Nat} {Ts_Volume_crashed : Array (Option Value)}
    {Tt_Volume_crashed_0 : Tok}
    {f_Volume_crashed : Addr} {od_Volume_crashed an_Volume_crashed : Option Addr} {sl_Volume_crashed : Array (Option Value)} {oc_Volume_crashed kV_Volume_crashed dc_Volume_crashed pm_Volume_crashed cd_Volume_crashed ct_Volume_crashed : Value}
    {f_l_pick : Addr} {od_l_pick an_l_pick : Option Addr} {sl_l_pick : Array (Option Value)} {oc_l_pick kV_l_pick dc_l_pick pm_l_pick cd_l_pick ct_l_pick : Value}
    {f_l_with : Addr} {od_l_with an_l_with : Option Addr} {sl_l_with : Array (Option Value)} {oc_l_with kV_l_with dc_l_with pm_l_with cd_l_with ct_l_with : Value}
    {f_l_spot : Addr} {od_l_spot an_l_spot : Option Addr} {sl_l_spot : Array (Option Value)} {oc_l_spot kV_l_spot dc_l_spot pm_l_spot cd_l_spot ct_l_spot : Value}
    {f_l_what : Addr} {od_l_what an_l_what : Option Addr} {sl_l_what : Array (Option Value)} {oc_l_what kV_l_what dc_l_what pm_l_what cd_l_what ct_l_what : Value}
    {f_l_begun : Addr} {od_l_begun an_l_begun : Option Addr} {sl_l_begun : Array (Option Value)} {oc_l_begun kV_l_begun dc_l_begun pm_l_begun cd_l_begun ct_l_begun : Value}
    {f_l_sure : Addr} {od_l_sure an_l_sure : Option Addr} {sl_l_sure : Array (Option Value)} {oc_l_sure kV_l_sure dc_l_sure pm_l_sure cd_l_sure ct_l_sure : Value}
    {f_l_noted : Addr} {od_l_noted an_l_noted : Option Addr} {sl_l_noted : Array (Option Value)} {oc_l_noted kV_l_noted dc_l_noted pm_l_noted cd_l_noted ct_l_noted : Value}
    {f_l_is_at : Addr} {od_l_is_at an_l_is_at : Option Addr} {sl_l_is_at : Array (Option Value)} {oc_l_is_at kV_l_is_at dc_l_is_at pm_l_is_at cd_l_is_at ct_l_is_at : Value}
    {f_l_sources : Addr} {od_l_sources an_l_sources : Option Addr} {sl_l_sources : Array (Option Value)} {oc_l_sources kV_l_sources dc_l_sources pm_l_sources cd_l_sources ct_l_sources : Value}
    {f_l_told : Addr} {od_l_told an_l_told : Option Addr} {sl_l_told : Array (Option Value)} {oc_l_told kV_l_told dc_l_told pm_l_told cd_l_told ct_l_told : Value}
    {f_Volume__eq : Addr} {od_Volume__eq an_Volume__eq : Option Addr} {sl_Volume__eq : Array (Option Value)} {oc_Volume__eq kV_Volume__eq dc_Volume__eq pm_Volume__eq cd_Volume__eq ct_Volume__eq : Value}
    {T_Volume_texts : Addr} {To_Volume_texts : Value} {Td_Volume_texts : Option Addr} {Tn_Volume_texts : Nat} {Ts_Volume_texts : Array (Option Value)}
    {Tt_Volume_texts_0 : Tok}
    {f_Volume_texts : Addr} {od_Volume_texts an_Volume_texts : Option Addr} {sl_Volume_texts : Array (Option Value)} {oc_Volume_texts kV_Volume_texts dc_Volume_texts pm_Volume_texts cd_Volume_texts ct_Volume_texts : Value}
    {f_l_written : Addr} {od_l_written an_l_written : Option Addr} {sl_l_written : Array (Option Value)} {oc_l_written kV_l_written dc_l_written pm_l_written cd_l_written ct_l_written : Value}
    {f_l_step_right c_o_l_step_right P_l_step_right : Addr} {oo_l_step_right : Value} {ov_l_step_right : Array Value} {odd_l_step_right : Option Addr} {oss_l_step_right : Array (Option Value)} {od_l_step_right an_l_step_right : Option Addr} {sl_l_step_right : Array (Option Value)} {oc_l_step_right kV_l_step_right dc_l_step_right pm_l_step_right ct_l_step_right : Value}
    {f_l_texts_right : Addr} {od_l_texts_right an_l_texts_right : Option Addr} {sl_l_texts_right : Array (Option Value)} {oc_l_texts_right kV_l_texts_right dc_l_texts_right pm_l_texts_right cd_l_texts_right ct_l_texts_right : Value}
    {f_l_emptied : Addr} {od_l_emptied an_l_emptied : Option Addr} {sl_l_emptied : Array (Option Value)} {oc_l_emptied kV_l_emptied dc_l_emptied pm_l_emptied cd_l_emptied ct_l_emptied : Value}
    {f_law : Addr} {od_law an_law : Option Addr} {sl_law : Array (Option Value)} {oc_law kV_law dc_law pm_law cd_law ct_law : Value}
    {t_PAGE t_PAGES : Tok} (X : K.In h) (G : h.Ns mainGlobals mg) (hfa : mg "law" = some (.ref fa)) (TF : TabF q K h)
    (b_super : PySem.W.nsIn K mainGlobals "super" = some none)
    (xa : XA l.prog K)
    (aC_Dead : PySem.W.nsIn K mainGlobals "Dead" = some (some (.ref C_Dead)))
    (in_Dead : PySem.W.findIn K (.ref C_Dead) "__init__" = some (some (.ref fI_Dead)))
    (l_Dead : K.lookup fI_Dead = some ⟨oc_Dead, od_Dead, .func (PySem.W.ksFn "__init__" "Dead.__init__" (defArgs s_Dead__init) (defBody s_Dead__init) (defScope s_Dead__init) .none kV_Dead doc_Dead pm_Dead an_Dead (.ref cda_Dead) ct_Dead cc_Dead), osl_Dead⟩)
    (co_Dead : K.lookup cda_Dead = some ⟨ccl_Dead, cdd_Dead, .fields vs_Dead, ccs_Dead⟩)
    (fi_Dead : vs_Dead[2]? = some (.str file_Dead tf_Dead))
    (fe_Dead : ((l.prog.main.file : Str) == file_Dead) = true)
    (ce_Dead : K.lookup cc_Dead = some ⟨cl_Dead, cld_Dead, .cell (some (.ref C_Dead)), csl_Dead⟩)
    (xb_Dead : XB K C_Dead fI_Dead cda_Dead "Dead.__init__" "RuntimeError" "RuntimeError.__new__" "RuntimeError.__init__" [.type "RuntimeError", .type "Exception", .type "BaseException", .type "object"])
    (aC_InvalidKind : PySem.W.nsIn K mainGlobals "InvalidKind" = some (some (.ref C_InvalidKind)))
    (in_InvalidKind : PySem.W.findIn K (.ref C_InvalidKind) "__init__" = some (some (.ref fI_InvalidKind)))
    (l_InvalidKind : K.lookup fI_InvalidKind = some ⟨oc_InvalidKind, od_InvalidKind, .func (PySem.W.ksFn "__init__" "InvalidKind.__init__" (defArgs s_InvalidKind__init) (defBody s_InvalidKind__init) (defScope s_InvalidKind__init) .none kV_InvalidKind doc_InvalidKind pm_InvalidKind an_InvalidKind (.ref cda_InvalidKind) ct_InvalidKind cc_InvalidKind), osl_InvalidKind⟩)
    (co_InvalidKind : K.lookup cda_InvalidKind = some ⟨ccl_InvalidKind, cdd_InvalidKind, .fields vs_InvalidKind, ccs_InvalidKind⟩)
    (fi_InvalidKind : vs_InvalidKind[2]? = some (.str file_InvalidKind tf_InvalidKind))
    (fe_InvalidKind : ((l.prog.main.file : Str) == file_InvalidKind) = true)
    (ce_InvalidKind : K.lookup cc_InvalidKind = some ⟨cl_InvalidKind, cld_InvalidKind, .cell (some (.ref C_InvalidKind)), csl_InvalidKind⟩)
    (xb_InvalidKind : XB K C_InvalidKind fI_InvalidKind cda_InvalidKind "InvalidKind.__init__" "ValueError" "ValueError.__new__" "ValueError.__init__" [.type "ValueError", .type "Exception", .type "BaseException", .type "object"])
    (nf_InvalidKind : PySem.W.findIn K (.ref C_InvalidKind) "given" = some none)
    (aC_InvalidNumber : PySem.W.nsIn K mainGlobals "InvalidNumber" = some (some (.ref C_InvalidNumber)))
    (in_InvalidNumber : PySem.W.findIn K (.ref C_InvalidNumber) "__init__" = some (some (.ref fI_InvalidNumber)))
    (l_InvalidNumber : K.lookup fI_InvalidNumber = some ⟨oc_InvalidNumber, od_InvalidNumber, .func (PySem.W.ksFn "__init__" "InvalidNumber.__init__" (defArgs s_InvalidNumber__init) (defBody s_InvalidNumber__init) (defScope s_InvalidNumber__init) .none kV_InvalidNumber doc_InvalidNumber pm_InvalidNumber an_InvalidNumber (.ref cda_InvalidNumber) ct_InvalidNumber cc_InvalidNumber), osl_InvalidNumber⟩)
    (co_InvalidNumber : K.lookup cda_InvalidNumber = some ⟨ccl_InvalidNumber, cdd_InvalidNumber, .fields vs_InvalidNumber, ccs_InvalidNumber⟩)
    (fi_InvalidNumber : vs_InvalidNumber[2]? = some (.str file_InvalidNumber tf_InvalidNumber))
    (fe_InvalidNumber : ((l.prog.main.file : Str) == file_InvalidNumber) = true)
    (ce_InvalidNumber : K.lookup cc_InvalidNumber = some ⟨cl_InvalidNumber, cld_InvalidNumber, .cell (some (.ref C_InvalidNumber)), csl_InvalidNumber⟩)
    (xb_InvalidNumber : XB K C_InvalidNumber fI_InvalidNumber cda_InvalidNumber "InvalidNumber.__init__" "ValueError" "ValueError.__new__" "ValueError.__init__" [.type "ValueError", .type "Exception", .type "BaseException", .type "object"])
    (nf_InvalidNumber : PySem.W.findIn K (.ref C_InvalidNumber) "given" = some none)
    (aC_InvalidText : PySem.W.nsIn K mainGlobals "InvalidText" = some (some (.ref C_InvalidText)))
    (in_InvalidText : PySem.W.findIn K (.ref C_InvalidText) "__init__" = some (some (.ref fI_InvalidText)))
    (l_InvalidText : K.lookup fI_InvalidText = some ⟨oc_InvalidText, od_InvalidText, .func (PySem.W.ksFn "__init__" "InvalidText.__init__" (defArgs s_InvalidText__init) (defBody s_InvalidText__init) (defScope s_InvalidText__init) .none kV_InvalidText doc_InvalidText pm_InvalidText an_InvalidText (.ref cda_InvalidText) ct_InvalidText cc_InvalidText), osl_InvalidText⟩)
    (co_InvalidText : K.lookup cda_InvalidText = some ⟨ccl_InvalidText, cdd_InvalidText, .fields vs_InvalidText, ccs_InvalidText⟩)
    (fi_InvalidText : vs_InvalidText[2]? = some (.str file_InvalidText tf_InvalidText))
    (fe_InvalidText : ((l.prog.main.file : Str) == file_InvalidText) = true)
    (ce_InvalidText : K.lookup cc_InvalidText = some ⟨cl_InvalidText, cld_InvalidText, .cell (some (.ref C_InvalidText)), csl_InvalidText⟩)
    (xb_InvalidText : XB K C_InvalidText fI_InvalidText cda_InvalidText "InvalidText.__init__" "ValueError" "ValueError.__new__" "ValueError.__init__" [.type "ValueError", .type "Exception", .type "BaseException", .type "object"])
    (nf_InvalidText : PySem.W.findIn K (.ref C_InvalidText) "position" = some none)
    (aC_InvalidVolume : PySem.W.nsIn K mainGlobals "InvalidVolume" = some (some (.ref C_InvalidVolume)))
    (in_InvalidVolume : PySem.W.findIn K (.ref C_InvalidVolume) "__init__" = some (some (.ref fI_InvalidVolume)))
    (l_InvalidVolume : K.lookup fI_InvalidVolume = some ⟨oc_InvalidVolume, od_InvalidVolume, .func (PySem.W.ksFn "__init__" "InvalidVolume.__init__" (defArgs s_InvalidVolume__init) (defBody s_InvalidVolume__init) (defScope s_InvalidVolume__init) .none kV_InvalidVolume doc_InvalidVolume pm_InvalidVolume an_InvalidVolume (.ref cda_InvalidVolume) ct_InvalidVolume cc_InvalidVolume), osl_InvalidVolume⟩)
    (co_InvalidVolume : K.lookup cda_InvalidVolume = some ⟨ccl_InvalidVolume, cdd_InvalidVolume, .fields vs_InvalidVolume, ccs_InvalidVolume⟩)
    (fi_InvalidVolume : vs_InvalidVolume[2]? = some (.str file_InvalidVolume tf_InvalidVolume))
    (fe_InvalidVolume : ((l.prog.main.file : Str) == file_InvalidVolume) = true)
    (ce_InvalidVolume : K.lookup cc_InvalidVolume = some ⟨cl_InvalidVolume, cld_InvalidVolume, .cell (some (.ref C_InvalidVolume)), csl_InvalidVolume⟩)
    (xb_InvalidVolume : XB K C_InvalidVolume fI_InvalidVolume cda_InvalidVolume "InvalidVolume.__init__" "ValueError" "ValueError.__new__" "ValueError.__init__" [.type "ValueError", .type "Exception", .type "BaseException", .type "object"])
    (nf_InvalidVolume : PySem.W.findIn K (.ref C_InvalidVolume) "part" = some none)
    (aC_Locked : PySem.W.nsIn K mainGlobals "Locked" = some (some (.ref C_Locked)))
    (in_Locked : PySem.W.findIn K (.ref C_Locked) "__init__" = some (some (.ref fI_Locked)))
    (l_Locked : K.lookup fI_Locked = some ⟨oc_Locked, od_Locked, .func (PySem.W.ksFn "__init__" "Locked.__init__" (defArgs s_Locked__init) (defBody s_Locked__init) (defScope s_Locked__init) .none kV_Locked doc_Locked pm_Locked an_Locked (.ref cda_Locked) ct_Locked cc_Locked), osl_Locked⟩)
    (co_Locked : K.lookup cda_Locked = some ⟨ccl_Locked, cdd_Locked, .fields vs_Locked, ccs_Locked⟩)
    (fi_Locked : vs_Locked[2]? = some (.str file_Locked tf_Locked))
    (fe_Locked : ((l.prog.main.file : Str) == file_Locked) = true)
    (ce_Locked : K.lookup cc_Locked = some ⟨cl_Locked, cld_Locked, .cell (some (.ref C_Locked)), csl_Locked⟩)
    (xb_Locked : XB K C_Locked fI_Locked cda_Locked "Locked.__init__" "RuntimeError" "RuntimeError.__new__" "RuntimeError.__init__" [.type "RuntimeError", .type "Exception", .type "BaseException", .type "object"])
    (aC_NotBlank : PySem.W.nsIn K mainGlobals "NotBlank" = some (some (.ref C_NotBlank)))
    (in_NotBlank : PySem.W.findIn K (.ref C_NotBlank) "__init__" = some (some (.ref fI_NotBlank)))
    (l_NotBlank : K.lookup fI_NotBlank = some ⟨oc_NotBlank, od_NotBlank, .func (PySem.W.ksFn "__init__" "NotBlank.__init__" (defArgs s_NotBlank__init) (defBody s_NotBlank__init) (defScope s_NotBlank__init) .none kV_NotBlank doc_NotBlank pm_NotBlank an_NotBlank (.ref cda_NotBlank) ct_NotBlank cc_NotBlank), osl_NotBlank⟩)
    (co_NotBlank : K.lookup cda_NotBlank = some ⟨ccl_NotBlank, cdd_NotBlank, .fields vs_NotBlank, ccs_NotBlank⟩)
    (fi_NotBlank : vs_NotBlank[2]? = some (.str file_NotBlank tf_NotBlank))
    (fe_NotBlank : ((l.prog.main.file : Str) == file_NotBlank) = true)
    (ce_NotBlank : K.lookup cc_NotBlank = some ⟨cl_NotBlank, cld_NotBlank, .cell (some (.ref C_NotBlank)), csl_NotBlank⟩)
    (xb_NotBlank : XB K C_NotBlank fI_NotBlank cda_NotBlank "NotBlank.__init__" "RuntimeError" "RuntimeError.__new__" "RuntimeError.__init__" [.type "RuntimeError", .type "Exception", .type "BaseException", .type "object"])
    (nf_NotBlank : PySem.W.findIn K (.ref C_NotBlank) "page" = some none)
    (tyX_Dead : PySem.W.typeIn K (.ref C_Dead) = some (.type "type"))
    (tyX_InvalidKind : PySem.W.typeIn K (.ref C_InvalidKind) = some (.type "type"))
    (tyX_InvalidNumber : PySem.W.typeIn K (.ref C_InvalidNumber) = some (.type "type"))
    (tyX_InvalidText : PySem.W.typeIn K (.ref C_InvalidText) = some (.type "type"))
    (tyX_InvalidVolume : PySem.W.typeIn K (.ref C_InvalidVolume) = some (.type "type"))
    (tyX_Locked : PySem.W.typeIn K (.ref C_Locked) = some (.type "type"))
    (tyX_NotBlank : PySem.W.typeIn K (.ref C_NotBlank) = some (.type "type"))
    (aC_ShelfError : PySem.W.nsIn K mainGlobals "ShelfError" = some (some (.ref C_ShelfError)))
    (aC_ShelfStateError : PySem.W.nsIn K mainGlobals "ShelfStateError" = some (some (.ref C_ShelfStateError)))
    (aC_LimitError : PySem.W.nsIn K mainGlobals "LimitError" = some (some (.ref C_LimitError)))
    (aC_Volume : PySem.W.nsIn K mainGlobals "Volume" = some (some (.ref C_Volume)))
    (pg_Volume : PySem.W.plainGet K C_Volume Str.empty = true)
    (hd_Volume : PySem.W.hasDictIn K C_Volume = true)
    (po_Volume : PySem.W.plainOver K C_Volume = true)
    (sa_Volume : PySem.W.findIn K (.ref C_Volume) "__setattr__" = some (some (.builtin "object.__setattr__")))
    (kc_Volume : PySem.W.keepIn K (.ref C_Volume) = true)
    (mk_Volume : PySem.W.makesIn K C_Volume = true)
    (ha_Volume : PySem.W.findIn K (.ref C_Volume) "__class__" = some (some (.builtin "object.__class__")))
    (hn_Volume : PySem.W.specialIn K (.builtin "object.__class__") "__get__" = some (some (.builtin "getset_descriptor.__get__")))
    (ht_Volume : PySem.W.takesIn K (.builtin "object.__class__") = some true)
    (hm_Volume : PySem.W.mroIn K C_Volume (.type "object") = some true)
    (ty_Volume : PySem.W.typeIn K (.ref C_Volume) = some (.type "type"))
    (na_Volume_page_texts : PySem.W.findIn K (.ref C_Volume) "page_texts" = some none)
    (na_Volume_waiting : PySem.W.findIn K (.ref C_Volume) "waiting" = some none)
    (na_Volume_crash_count : PySem.W.findIn K (.ref C_Volume) "crash_count" = some none)
    (na_Volume_is_taken : PySem.W.findIn K (.ref C_Volume) "is_taken" = some none)
    (a_is_whole : PySem.W.nsIn K mainGlobals "is_whole" = some (some (.ref f_is_whole)))
    (l_is_whole : K.lookup f_is_whole = some ⟨oc_is_whole, od_is_whole, .func (PySem.W.fnOf "is_whole" "is_whole" (defArgs s_is_whole) (defBody s_is_whole) (defScope s_is_whole) .none kV_is_whole dc_is_whole pm_is_whole an_is_whole cd_is_whole ct_is_whole), sl_is_whole⟩)
    (c_is_whole : PySem.W.codeIn K cd_is_whole "is_whole" = true)
    (k_is_whole : PySem.W.keepIn K (.ref f_is_whole) = true)
    (a_is_page : PySem.W.nsIn K mainGlobals "is_page" = some (some (.ref f_is_page)))
    (l_is_page : K.lookup f_is_page = some ⟨oc_is_page, od_is_page, .func (PySem.W.fnOf "is_page" "is_page" (defArgs s_is_page) (defBody s_is_page) (defScope s_is_page) .none kV_is_page dc_is_page pm_is_page an_is_page cd_is_page ct_is_page), sl_is_page⟩)
    (c_is_page : PySem.W.codeIn K cd_is_page "is_page" = true)
    (k_is_page : PySem.W.keepIn K (.ref f_is_page) = true)
    (a_need_page : PySem.W.nsIn K mainGlobals "need_page" = some (some (.ref f_need_page)))
    (l_need_page : K.lookup f_need_page = some ⟨oc_need_page, od_need_page, .func (PySem.W.fnOf "need_page" "need_page" (defArgs s_need_page) (defBody s_need_page) (defScope s_need_page) .none kV_need_page dc_need_page pm_need_page an_need_page cd_need_page ct_need_page), sl_need_page⟩)
    (c_need_page : PySem.W.codeIn K cd_need_page "need_page" = true)
    (k_need_page : PySem.W.keepIn K (.ref f_need_page) = true)
    (a_is_page_text : PySem.W.nsIn K mainGlobals "is_page_text" = some (some (.ref f_is_page_text)))
    (l_is_page_text : K.lookup f_is_page_text = some ⟨oc_is_page_text, od_is_page_text, .func (PySem.W.fnOf "is_page_text" "is_page_text" (defArgs s_is_page_text) (defBody s_is_page_text) (defScope s_is_page_text) .none kV_is_page_text dc_is_page_text pm_is_page_text an_is_page_text cd_is_page_text ct_is_page_text), sl_is_page_text⟩)
    (c_is_page_text : PySem.W.codeIn K cd_is_page_text "is_page_text" = true)
    (k_is_page_text : PySem.W.keepIn K (.ref f_is_page_text) = true)
    (a_Volume_set_text : PySem.W.findIn K (.ref C_Volume) "set_text" = some (some (.ref f_Volume_set_text)))
    (i_Volume_set_text : PySem.W.isFn K (.ref f_Volume_set_text) = true)
    (l_Volume_set_text : K.lookup f_Volume_set_text = some ⟨oc_Volume_set_text, od_Volume_set_text, .func (PySem.W.fnOf "set_text" "Volume.set_text" (defArgs s_Volume_set_text) (defBody s_Volume_set_text) (defScope s_Volume_set_text) .none kV_Volume_set_text dc_Volume_set_text pm_Volume_set_text an_Volume_set_text cd_Volume_set_text ct_Volume_set_text), sl_Volume_set_text⟩)
    (c_Volume_set_text : PySem.W.codeIn K cd_Volume_set_text "Volume.set_text" = true)
    (k_Volume_set_text : PySem.W.keepIn K (.ref f_Volume_set_text) = true)
    (a_Volume_make_write : PySem.W.findIn K (.ref C_Volume) "make_write" = some (some (.ref f_Volume_make_write)))
    (i_Volume_make_write : PySem.W.isFn K (.ref f_Volume_make_write) = true)
    (l_Volume_make_write : K.lookup f_Volume_make_write = some ⟨oc_Volume_make_write, od_Volume_make_write, .func (PySem.W.fnOf "make_write" "Volume.make_write" (defArgs s_Volume_make_write) (defBody s_Volume_make_write) (defScope s_Volume_make_write) .none kV_Volume_make_write dc_Volume_make_write pm_Volume_make_write an_Volume_make_write cd_Volume_make_write ct_Volume_make_write), sl_Volume_make_write⟩)
    (c_Volume_make_write : PySem.W.codeIn K cd_Volume_make_write "Volume.make_write" = true)
    (k_Volume_make_write : PySem.W.keepIn K (.ref f_Volume_make_write) = true)
    (a_Volume_need_writable : PySem.W.findIn K (.ref C_Volume) "need_writable" = some (some (.ref f_Volume_need_writable)))
    (i_Volume_need_writable : PySem.W.isFn K (.ref f_Volume_need_writable) = true)
    (l_Volume_need_writable : K.lookup f_Volume_need_writable = some ⟨oc_Volume_need_writable, od_Volume_need_writable, .func (PySem.W.fnOf "need_writable" "Volume.need_writable" (defArgs s_Volume_need_writable) (defBody s_Volume_need_writable) (defScope s_Volume_need_writable) .none kV_Volume_need_writable dc_Volume_need_writable pm_Volume_need_writable an_Volume_need_writable cd_Volume_need_writable ct_Volume_need_writable), sl_Volume_need_writable⟩)
    (c_Volume_need_writable : PySem.W.codeIn K cd_Volume_need_writable "Volume.need_writable" = true)
    (k_Volume_need_writable : PySem.W.keepIn K (.ref f_Volume_need_writable) = true)
    (a_Volume_write : PySem.W.findIn K (.ref C_Volume) "write" = some (some (.ref f_Volume_write)))
    (i_Volume_write : PySem.W.isFn K (.ref f_Volume_write) = true)
    (l_Volume_write : K.lookup f_Volume_write = some ⟨oc_Volume_write, od_Volume_write, .func (PySem.W.fnOf "write" "Volume.write" (defArgs s_Volume_write) (defBody s_Volume_write) (defScope s_Volume_write) .none kV_Volume_write dc_Volume_write pm_Volume_write an_Volume_write cd_Volume_write ct_Volume_write), sl_Volume_write⟩)
    (c_Volume_write : PySem.W.codeIn K cd_Volume_write "Volume.write" = true)
    (k_Volume_write : PySem.W.keepIn K (.ref f_Volume_write) = true)
    (a_Volume_erase : PySem.W.findIn K (.ref C_Volume) "erase" = some (some (.ref f_Volume_erase)))
    (i_Volume_erase : PySem.W.isFn K (.ref f_Volume_erase) = true)
    (l_Volume_erase : K.lookup f_Volume_erase = some ⟨oc_Volume_erase, od_Volume_erase, .func (PySem.W.fnOf "erase" "Volume.erase" (defArgs s_Volume_erase) (defBody s_Volume_erase) (defScope s_Volume_erase) .none kV_Volume_erase dc_Volume_erase pm_Volume_erase an_Volume_erase cd_Volume_erase ct_Volume_erase), sl_Volume_erase⟩)
    (c_Volume_erase : PySem.W.codeIn K cd_Volume_erase "Volume.erase" = true)
    (k_Volume_erase : PySem.W.keepIn K (.ref f_Volume_erase) = true)
    (a_Volume_sync : PySem.W.findIn K (.ref C_Volume) "sync" = some (some (.ref f_Volume_sync)))
    (i_Volume_sync : PySem.W.isFn K (.ref f_Volume_sync) = true)
    (l_Volume_sync : K.lookup f_Volume_sync = some ⟨oc_Volume_sync, od_Volume_sync, .func (PySem.W.fnOf "sync" "Volume.sync" (defArgs s_Volume_sync) (defBody s_Volume_sync) (defScope s_Volume_sync) .none kV_Volume_sync dc_Volume_sync pm_Volume_sync an_Volume_sync cd_Volume_sync ct_Volume_sync), sl_Volume_sync⟩)
    (c_Volume_sync : PySem.W.codeIn K cd_Volume_sync "Volume.sync" = true)
    (k_Volume_sync : PySem.W.keepIn K (.ref f_Volume_sync) = true)
    (a_Volume__getitem : PySem.W.findIn K (.ref C_Volume) "__getitem__" = some (some (.ref f_Volume__getitem)))
    (i_Volume__getitem : PySem.W.isFn K (.ref f_Volume__getitem) = true)
    (l_Volume__getitem : K.lookup f_Volume__getitem = some ⟨oc_Volume__getitem, od_Volume__getitem, .func (PySem.W.fnOf "__getitem__" "Volume.__getitem__" (defArgs s_Volume__getitem) (defBody s_Volume__getitem) (defScope s_Volume__getitem) .none kV_Volume__getitem dc_Volume__getitem pm_Volume__getitem an_Volume__getitem cd_Volume__getitem ct_Volume__getitem), sl_Volume__getitem⟩)
    (c_Volume__getitem : PySem.W.codeIn K cd_Volume__getitem "Volume.__getitem__" = true)
    (k_Volume__getitem : PySem.W.keepIn K (.ref f_Volume__getitem) = true)
    (a_Volume__contains : PySem.W.findIn K (.ref C_Volume) "__contains__" = some (some (.ref f_Volume__contains)))
    (i_Volume__contains : PySem.W.isFn K (.ref f_Volume__contains) = true)
    (l_Volume__contains : K.lookup f_Volume__contains = some ⟨oc_Volume__contains, od_Volume__contains, .func (PySem.W.fnOf "__contains__" "Volume.__contains__" (defArgs s_Volume__contains) (defBody s_Volume__contains) (defScope s_Volume__contains) .none kV_Volume__contains dc_Volume__contains pm_Volume__contains an_Volume__contains cd_Volume__contains ct_Volume__contains), sl_Volume__contains⟩)
    (c_Volume__contains : PySem.W.codeIn K cd_Volume__contains "Volume.__contains__" = true)
    (k_Volume__contains : PySem.W.keepIn K (.ref f_Volume__contains) = true)
    (a_Volume_length : PySem.W.findIn K (.ref C_Volume) "length" = some (some (.ref f_Volume_length)))
    (i_Volume_length : PySem.W.isFn K (.ref f_Volume_length) = true)
    (l_Volume_length : K.lookup f_Volume_length = some ⟨oc_Volume_length, od_Volume_length, .func (PySem.W.fnOf "length" "Volume.length" (defArgs s_Volume_length) (defBody s_Volume_length) (defScope s_Volume_length) .none kV_Volume_length dc_Volume_length pm_Volume_length an_Volume_length cd_Volume_length ct_Volume_length), sl_Volume_length⟩)
    (c_Volume_length : PySem.W.codeIn K cd_Volume_length "Volume.length" = true)
    (k_Volume_length : PySem.W.keepIn K (.ref f_Volume_length) = true)
    (a_Volume__bool : PySem.W.findIn K (.ref C_Volume) "__bool__" = some (some (.ref f_Volume__bool)))
    (i_Volume__bool : PySem.W.isFn K (.ref f_Volume__bool) = true)
    (l_Volume__bool : K.lookup f_Volume__bool = some ⟨oc_Volume__bool, od_Volume__bool, .func (PySem.W.fnOf "__bool__" "Volume.__bool__" (defArgs s_Volume__bool) (defBody s_Volume__bool) (defScope s_Volume__bool) .none kV_Volume__bool dc_Volume__bool pm_Volume__bool an_Volume__bool cd_Volume__bool ct_Volume__bool), sl_Volume__bool⟩)
    (c_Volume__bool : PySem.W.codeIn K cd_Volume__bool "Volume.__bool__" = true)
    (k_Volume__bool : PySem.W.keepIn K (.ref f_Volume__bool) = true)
    (at_Volume_pending : PySem.W.findIn K (.ref C_Volume) "pending" = some (some (.ref p_Volume_pending)))
    (ge_Volume_pending : PySem.W.specialIn K (.ref p_Volume_pending) "__get__" = some (some (.builtin "property.__get__")))
    (ta_Volume_pending : PySem.W.takesIn K (.ref p_Volume_pending) = some true)
    (rc_Volume_pending : PySem.W.recIn K p_Volume_pending "property" = some (.ref f_Volume_pending :: re_Volume_pending))
    (l_Volume_pending : K.lookup f_Volume_pending = some ⟨oc_Volume_pending, od_Volume_pending, .func (PySem.W.fnOf "pending" "Volume.pending" (defArgs s_Volume_pending) (defBody s_Volume_pending) (defScope s_Volume_pending) .none kV_Volume_pending dc_Volume_pending pm_Volume_pending an_Volume_pending cd_Volume_pending ct_Volume_pending), sl_Volume_pending⟩)
    (c_Volume_pending : PySem.W.codeIn K cd_Volume_pending "Volume.pending" = true)
    (k_Volume_pending : PySem.W.keepIn K (.ref f_Volume_pending) = true)
    (a_Volume__init : PySem.W.findIn K (.ref C_Volume) "__init__" = some (some (.ref f_Volume__init)))
    (i_Volume__init : PySem.W.isFn K (.ref f_Volume__init) = true)
    (l_Volume__init : K.lookup f_Volume__init = some ⟨oc_Volume__init, od_Volume__init, .func (PySem.W.fnOf "__init__" "Volume.__init__" (defArgs s_Volume__init) (defBody s_Volume__init) (defScope s_Volume__init) .none kV_Volume__init dc_Volume__init pm_Volume__init an_Volume__init cd_Volume__init ct_Volume__init), sl_Volume__init⟩)
    (c_Volume__init : PySem.W.codeIn K cd_Volume__init "Volume.__init__" = true)
    (k_Volume__init : PySem.W.keepIn K (.ref f_Volume__init) = true)
    (a_Volume_new_one : PySem.W.findIn K (.ref C_Volume) "new_one" = some (some (.ref f_Volume_new_one)))
    (i_Volume_new_one : PySem.W.isFn K (.ref f_Volume_new_one) = true)
    (l_Volume_new_one : K.lookup f_Volume_new_one = some ⟨oc_Volume_new_one, od_Volume_new_one, .func (PySem.W.fnOf "new_one" "Volume.new_one" (defArgs s_Volume_new_one) (defBody s_Volume_new_one) (defScope s_Volume_new_one) .none kV_Volume_new_one dc_Volume_new_one pm_Volume_new_one an_Volume_new_one cd_Volume_new_one ct_Volume_new_one), sl_Volume_new_one⟩)
    (c_Volume_new_one : PySem.W.codeIn K cd_Volume_new_one "Volume.new_one" = true)
    (k_Volume_new_one : PySem.W.keepIn K (.ref f_Volume_new_one) = true)
    (a_Volume_snapshot : PySem.W.findIn K (.ref C_Volume) "snapshot" = some (some (.ref f_Volume_snapshot)))
    (i_Volume_snapshot : PySem.W.isFn K (.ref f_Volume_snapshot) = true)
    (l_Volume_snapshot : K.lookup f_Volume_snapshot = some ⟨oc_Volume_snapshot, od_Volume_snapshot, .func (PySem.W.fnOf "snapshot" "Volume.snapshot" (defArgs s_Volume_snapshot) (defBody s_Volume_snapshot) (defScope s_Volume_snapshot) .none kV_Volume_snapshot dc_Volume_snapshot pm_Volume_snapshot an_Volume_snapshot cd_Volume_snapshot ct_Volume_snapshot), sl_Volume_snapshot⟩)
    (c_Volume_snapshot : PySem.W.codeIn K cd_Volume_snapshot "Volume.snapshot" = true)
    (k_Volume_snapshot : PySem.W.keepIn K (.ref f_Volume_snapshot) = true)
    (a_Volume_used : PySem.W.findIn K (.ref C_Volume) "used" = some (some (.ref f_Volume_used)))
    (i_Volume_used : PySem.W.isFn K (.ref f_Volume_used) = true)
    (l_Volume_used : K.lookup f_Volume_used = some ⟨oc_Volume_used, od_Volume_used, .func (PySem.W.fnOf "used" "Volume.used" (defArgs s_Volume_used) (defBody s_Volume_used) (defScope s_Volume_used) .none kV_Volume_used dc_Volume_used pm_Volume_used an_Volume_used cd_Volume_used ct_Volume_used), sl_Volume_used⟩)
    (c_Volume_used : PySem.W.codeIn K cd_Volume_used "Volume.used" = true)
    (k_Volume_used : PySem.W.keepIn K (.ref f_Volume_used) = true)
    (a_Volume_need_outcome : PySem.W.findIn K (.ref C_Volume) "need_outcome" = some (some (.ref f_Volume_need_outcome)))
    (i_Volume_need_outcome : PySem.W.isFn K (.ref f_Volume_need_outcome) = true)
    (l_Volume_need_outcome : K.lookup f_Volume_need_outcome = some ⟨oc_Volume_need_outcome, od_Volume_need_outcome, .func (PySem.W.fnOf "need_outcome" "Volume.need_outcome" (defArgs s_Volume_need_outcome) (defBody s_Volume_need_outcome) (defScope s_Volume_need_outcome) .none kV_Volume_need_outcome dc_Volume_need_outcome pm_Volume_need_outcome an_Volume_need_outcome cd_Volume_need_outcome ct_Volume_need_outcome), sl_Volume_need_outcome⟩)
    (c_Volume_need_outcome : PySem.W.codeIn K cd_Volume_need_outcome "Volume.need_outcome" = true)
    (k_Volume_need_outcome : PySem.W.keepIn K (.ref f_Volume_need_outcome) = true)
    (a_Volume_crash : PySem.W.findIn K (.ref C_Volume) "crash" = some (some (.ref f_Volume_crash)))
    (i_Volume_crash : PySem.W.isFn K (.ref f_Volume_crash) = true)
    (l_Volume_crash : K.lookup f_Volume_crash = some ⟨oc_Volume_crash, od_Volume_crash, .func (PySem.W.fnOf "crash" "Volume.crash" (defArgs s_Volume_crash) (defBody s_Volume_crash) (defScope s_Volume_crash) (.ref T_Volume_crash) kV_Volume_crash dc_Volume_crash pm_Volume_crash an_Volume_crash cd_Volume_crash ct_Volume_crash), sl_Volume_crash⟩)
    (c_Volume_crash : PySem.W.codeIn K cd_Volume_crash "Volume.crash" = true)
    (k_Volume_crash : PySem.W.keepIn K (.ref f_Volume_crash) = true)
    (lT_Volume_crash : K.lookup T_Volume_crash = some ⟨To_Volume_crash, Td_Volume_crash, .seq #[.int 0 Tt_Volume_crash_0] Tn_Volume_crash, Ts_Volume_crash⟩)
    (a_Volume_crashed : PySem.W.findIn K (.ref C_Volume) "crashed" = some (some (.ref f_Volume_crashed)))
    (i_Volume_crashed : PySem.W.isFn K (.ref f_Volume_crashed) = true)
    (l_Volume_crashed : K.lookup f_Volume_crashed = some ⟨oc_Volume_crashed, od_Volume_crashed, .func (PySem.W.fnOf "crashed" "Volume.crashed" (defArgs s_Volume_crashed) (defBody s_Volume_crashed) (defScope s_Volume_crashed) (.ref T_Volume_crashed) kV_Volume_crashed dc_Volume_crashed pm_Volume_crashed an_Volume_crashed cd_Volume_crashed ct_Volume_crashed), sl_Volume_crashed⟩)
    (c_Volume_crashed : PySem.W.codeIn K cd_Volume_crashed "Volume.crashed" = true)
    (k_Volume_crashed : PySem.W.keepIn K (.ref f_Volume_crashed) = true)
    (lT_Volume_crashed : K.lookup T_Volume_crashed = some ⟨To_Volume_crashed, Td_Volume_crashed, .seq #[.int 0 Tt_Volume_crashed_0] Tn_Volume_crashed, Ts_Volume_crashed⟩)
    (a_l_pick : PySem.W.nsIn K mainGlobals "_law_pick" = some (some (.ref f_l_pick)))
    (l_l_pick : K.lookup f_l_pick = some ⟨oc_l_pick, od_l_pick, .func (PySem.W.fnOf "_law_pick" "_law_pick" (defArgs s_l_pick) (defBody s_l_pick) (defScope s_l_pick) .none kV_l_pick dc_l_pick pm_l_pick an_l_pick cd_l_pick ct_l_pick), sl_l_pick⟩)
    (c_l_pick : PySem.W.codeIn K cd_l_pick "_law_pick" = true)
    (k_l_pick : PySem.W.keepIn K (.ref f_l_pick) = true)
    (a_l_with : PySem.W.nsIn K mainGlobals "_law_with" = some (some (.ref f_l_with)))
    (l_l_with : K.lookup f_l_with = some ⟨oc_l_with, od_l_with, .func (PySem.W.fnOf "_law_with" "_law_with" (defArgs s_l_with) (defBody s_l_with) (defScope s_l_with) .none kV_l_with dc_l_with pm_l_with an_l_with cd_l_with ct_l_with), sl_l_with⟩)
    (c_l_with : PySem.W.codeIn K cd_l_with "_law_with" = true)
    (k_l_with : PySem.W.keepIn K (.ref f_l_with) = true)
    (a_l_spot : PySem.W.nsIn K mainGlobals "_law_spot" = some (some (.ref f_l_spot)))
    (l_l_spot : K.lookup f_l_spot = some ⟨oc_l_spot, od_l_spot, .func (PySem.W.fnOf "_law_spot" "_law_spot" (defArgs s_l_spot) (defBody s_l_spot) (defScope s_l_spot) .none kV_l_spot dc_l_spot pm_l_spot an_l_spot cd_l_spot ct_l_spot), sl_l_spot⟩)
    (c_l_spot : PySem.W.codeIn K cd_l_spot "_law_spot" = true)
    (k_l_spot : PySem.W.keepIn K (.ref f_l_spot) = true)
    (a_l_what : PySem.W.nsIn K mainGlobals "_law_what" = some (some (.ref f_l_what)))
    (l_l_what : K.lookup f_l_what = some ⟨oc_l_what, od_l_what, .func (PySem.W.fnOf "_law_what" "_law_what" (defArgs s_l_what) (defBody s_l_what) (defScope s_l_what) .none kV_l_what dc_l_what pm_l_what an_l_what cd_l_what ct_l_what), sl_l_what⟩)
    (c_l_what : PySem.W.codeIn K cd_l_what "_law_what" = true)
    (k_l_what : PySem.W.keepIn K (.ref f_l_what) = true)
    (a_l_begun : PySem.W.nsIn K mainGlobals "_law_begun" = some (some (.ref f_l_begun)))
    (l_l_begun : K.lookup f_l_begun = some ⟨oc_l_begun, od_l_begun, .func (PySem.W.fnOf "_law_begun" "_law_begun" (defArgs s_l_begun) (defBody s_l_begun) (defScope s_l_begun) .none kV_l_begun dc_l_begun pm_l_begun an_l_begun cd_l_begun ct_l_begun), sl_l_begun⟩)
    (c_l_begun : PySem.W.codeIn K cd_l_begun "_law_begun" = true)
    (k_l_begun : PySem.W.keepIn K (.ref f_l_begun) = true)
    (a_l_sure : PySem.W.nsIn K mainGlobals "_law_sure" = some (some (.ref f_l_sure)))
    (l_l_sure : K.lookup f_l_sure = some ⟨oc_l_sure, od_l_sure, .func (PySem.W.fnOf "_law_sure" "_law_sure" (defArgs s_l_sure) (defBody s_l_sure) (defScope s_l_sure) .none kV_l_sure dc_l_sure pm_l_sure an_l_sure cd_l_sure ct_l_sure), sl_l_sure⟩)
    (c_l_sure : PySem.W.codeIn K cd_l_sure "_law_sure" = true)
    (k_l_sure : PySem.W.keepIn K (.ref f_l_sure) = true)
    (a_l_noted : PySem.W.nsIn K mainGlobals "_law_noted" = some (some (.ref f_l_noted)))
    (l_l_noted : K.lookup f_l_noted = some ⟨oc_l_noted, od_l_noted, .func (PySem.W.fnOf "_law_noted" "_law_noted" (defArgs s_l_noted) (defBody s_l_noted) (defScope s_l_noted) .none kV_l_noted dc_l_noted pm_l_noted an_l_noted cd_l_noted ct_l_noted), sl_l_noted⟩)
    (c_l_noted : PySem.W.codeIn K cd_l_noted "_law_noted" = true)
    (k_l_noted : PySem.W.keepIn K (.ref f_l_noted) = true)
    (a_l_is_at : PySem.W.nsIn K mainGlobals "_law_is_at" = some (some (.ref f_l_is_at)))
    (l_l_is_at : K.lookup f_l_is_at = some ⟨oc_l_is_at, od_l_is_at, .func (PySem.W.fnOf "_law_is_at" "_law_is_at" (defArgs s_l_is_at) (defBody s_l_is_at) (defScope s_l_is_at) .none kV_l_is_at dc_l_is_at pm_l_is_at an_l_is_at cd_l_is_at ct_l_is_at), sl_l_is_at⟩)
    (c_l_is_at : PySem.W.codeIn K cd_l_is_at "_law_is_at" = true)
    (k_l_is_at : PySem.W.keepIn K (.ref f_l_is_at) = true)
    (a_l_sources : PySem.W.nsIn K mainGlobals "_law_sources" = some (some (.ref f_l_sources)))
    (l_l_sources : K.lookup f_l_sources = some ⟨oc_l_sources, od_l_sources, .func (PySem.W.fnOf "_law_sources" "_law_sources" (defArgs s_l_sources) (defBody s_l_sources) (defScope s_l_sources) .none kV_l_sources dc_l_sources pm_l_sources an_l_sources cd_l_sources ct_l_sources), sl_l_sources⟩)
    (c_l_sources : PySem.W.codeIn K cd_l_sources "_law_sources" = true)
    (k_l_sources : PySem.W.keepIn K (.ref f_l_sources) = true)
    (a_l_told : PySem.W.nsIn K mainGlobals "_law_told" = some (some (.ref f_l_told)))
    (l_l_told : K.lookup f_l_told = some ⟨oc_l_told, od_l_told, .func (PySem.W.fnOf "_law_told" "_law_told" (defArgs s_l_told) (defBody s_l_told) (defScope s_l_told) .none kV_l_told dc_l_told pm_l_told an_l_told cd_l_told ct_l_told), sl_l_told⟩)
    (c_l_told : PySem.W.codeIn K cd_l_told "_law_told" = true)
    (k_l_told : PySem.W.keepIn K (.ref f_l_told) = true)
    (a_Volume__eq : PySem.W.findIn K (.ref C_Volume) "__eq__" = some (some (.ref f_Volume__eq)))
    (i_Volume__eq : PySem.W.isFn K (.ref f_Volume__eq) = true)
    (l_Volume__eq : K.lookup f_Volume__eq = some ⟨oc_Volume__eq, od_Volume__eq, .func (PySem.W.fnOf "__eq__" "Volume.__eq__" (defArgs s_Volume__eq) (defBody s_Volume__eq) (defScope s_Volume__eq) .none kV_Volume__eq dc_Volume__eq pm_Volume__eq an_Volume__eq cd_Volume__eq ct_Volume__eq), sl_Volume__eq⟩)
    (c_Volume__eq : PySem.W.codeIn K cd_Volume__eq "Volume.__eq__" = true)
    (k_Volume__eq : PySem.W.keepIn K (.ref f_Volume__eq) = true)
    (a_Volume_texts : PySem.W.findIn K (.ref C_Volume) "texts" = some (some (.ref f_Volume_texts)))
    (i_Volume_texts : PySem.W.isFn K (.ref f_Volume_texts) = true)
    (l_Volume_texts : K.lookup f_Volume_texts = some ⟨oc_Volume_texts, od_Volume_texts, .func (PySem.W.fnOf "texts" "Volume.texts" (defArgs s_Volume_texts) (defBody s_Volume_texts) (defScope s_Volume_texts) (.ref T_Volume_texts) kV_Volume_texts dc_Volume_texts pm_Volume_texts an_Volume_texts cd_Volume_texts ct_Volume_texts), sl_Volume_texts⟩)
    (c_Volume_texts : PySem.W.codeIn K cd_Volume_texts "Volume.texts" = true)
    (k_Volume_texts : PySem.W.keepIn K (.ref f_Volume_texts) = true)
    (lT_Volume_texts : K.lookup T_Volume_texts = some ⟨To_Volume_texts, Td_Volume_texts, .seq #[.int 0 Tt_Volume_texts_0] Tn_Volume_texts, Ts_Volume_texts⟩)
    (a_l_written : PySem.W.nsIn K mainGlobals "_law_written" = some (some (.ref f_l_written)))
    (l_l_written : K.lookup f_l_written = some ⟨oc_l_written, od_l_written, .func (PySem.W.fnOf "_law_written" "_law_written" (defArgs s_l_written) (defBody s_l_written) (defScope s_l_written) .none kV_l_written dc_l_written pm_l_written an_l_written cd_l_written ct_l_written), sl_l_written⟩)
    (c_l_written : PySem.W.codeIn K cd_l_written "_law_written" = true)
    (k_l_written : PySem.W.keepIn K (.ref f_l_written) = true)
    (a_l_step_right : PySem.W.nsIn K mainGlobals "_law_step_right" = some (some (.ref f_l_step_right)))
    (l_l_step_right : K.lookup f_l_step_right = some ⟨oc_l_step_right, od_l_step_right, .func (PySem.W.fnOf "_law_step_right" "_law_step_right" (defArgs s_l_step_right) (defBody s_l_step_right) (defScope s_l_step_right) .none kV_l_step_right dc_l_step_right pm_l_step_right an_l_step_right (.ref c_o_l_step_right) ct_l_step_right), sl_l_step_right⟩)
    (c_l_step_right : PySem.W.codeIn K (.ref c_o_l_step_right) "_law_step_right" = true)
    (k_l_step_right : PySem.W.keepIn K (.ref f_l_step_right) = true)
    (co_l_step_right : K.lookup c_o_l_step_right = some ⟨oo_l_step_right, odd_l_step_right, .fields ov_l_step_right, oss_l_step_right⟩)
    (ov_l_step_right : (ov_l_step_right[11]? : Option Value) = some (.ref P_l_step_right))
    (ti_l_step_right : PySem.W.tabIn K "_law_step_right" = some (c_o_l_step_right, P_l_step_right))
    (tn_l_step_right : K.lookup P_l_step_right = none)
    (rs_l_step_right : ((recsOf q).find? (fun e => e.name == ("_law_step_right" : Str))).isSome = true)
    (a_l_texts_right : PySem.W.nsIn K mainGlobals "_law_texts_right" = some (some (.ref f_l_texts_right)))
    (l_l_texts_right : K.lookup f_l_texts_right = some ⟨oc_l_texts_right, od_l_texts_right, .func (PySem.W.fnOf "_law_texts_right" "_law_texts_right" (defArgs s_l_texts_right) (defBody s_l_texts_right) (defScope s_l_texts_right) .none kV_l_texts_right dc_l_texts_right pm_l_texts_right an_l_texts_right cd_l_texts_right ct_l_texts_right), sl_l_texts_right⟩)
    (c_l_texts_right : PySem.W.codeIn K cd_l_texts_right "_law_texts_right" = true)
    (k_l_texts_right : PySem.W.keepIn K (.ref f_l_texts_right) = true)
    (a_l_emptied : PySem.W.nsIn K mainGlobals "_law_emptied" = some (some (.ref f_l_emptied)))
    (l_l_emptied : K.lookup f_l_emptied = some ⟨oc_l_emptied, od_l_emptied, .func (PySem.W.fnOf "_law_emptied" "_law_emptied" (defArgs s_l_emptied) (defBody s_l_emptied) (defScope s_l_emptied) .none kV_l_emptied dc_l_emptied pm_l_emptied an_l_emptied cd_l_emptied ct_l_emptied), sl_l_emptied⟩)
    (c_l_emptied : PySem.W.codeIn K cd_l_emptied "_law_emptied" = true)
    (k_l_emptied : PySem.W.keepIn K (.ref f_l_emptied) = true)
    (a_law : PySem.W.nsIn K mainGlobals "law" = some (some (.ref f_law)))
    (l_law : K.lookup f_law = some ⟨oc_law, od_law, .func (PySem.W.fnOf "law" "law" (defArgs s_law) (defBody s_law) (defScope s_law) .none kV_law dc_law pm_law an_law cd_law ct_law), sl_law⟩)
    (c_law : PySem.W.codeIn K cd_law "law" = true)
    (k_law : PySem.W.keepIn K (.ref f_law) = true)
    (b_len : PySem.W.nsIn K mainGlobals "len" = some none)
    (b_isinstance : PySem.W.nsIn K mainGlobals "isinstance" = some none)
    (b_repr : PySem.W.nsIn K mainGlobals "repr" = some none)
    (b_enumerate : PySem.W.nsIn K mainGlobals "enumerate" = some none)
    (b_range : PySem.W.nsIn K mainGlobals "range" = some none)
    (b_list : PySem.W.nsIn K mainGlobals "list" = some none)
    (b_tuple : PySem.W.nsIn K mainGlobals "tuple" = some none)
    (b_dict : PySem.W.nsIn K mainGlobals "dict" = some none)
    (b_bool : PySem.W.nsIn K mainGlobals "bool" = some none)
    (b_int : PySem.W.nsIn K mainGlobals "int" = some none)
    (b_str : PySem.W.nsIn K mainGlobals "str" = some none)
    (b_min : PySem.W.nsIn K mainGlobals "min" = some none)
    (b_max : PySem.W.nsIn K mainGlobals "max" = some none)
    (b_sorted : PySem.W.nsIn K mainGlobals "sorted" = some none)
    (nd : PySem.W.nsIn K cStatics "sys.int_max_str_digits" = some none)
    (rdV : PySem.W.readsIn K C_Volume (.type "type") = true)
    (gaV : PySem.W.specialIn K (.ref C_Volume) "__getattribute__" = some (some (.builtin "type.__getattribute__")))
    (cvP : PySem.W.findCls K (.ref C_Volume) (.type "type") "PAGE" = some (.val (.int 64 t_PAGE)))
    (cvS : PySem.W.findCls K (.ref C_Volume) (.type "type") "PAGES" = some (.val (.int 10000000 t_PAGES)))
    (nd7 : [C_InvalidNumber, C_InvalidText, C_InvalidKind, C_InvalidVolume, C_NotBlank, C_Locked, C_Dead].Nodup)
    (kitV : PySem.W.kitOne K (.ref C_Volume) (.ref C_Volume) = some true)
    (ex_InvalidNumber : PySem.W.exmAny K (.ref C_InvalidNumber) [.ref C_ShelfError, .ref C_ShelfStateError, .ref C_LimitError] = some true)
    (ex_InvalidText : PySem.W.exmAny K (.ref C_InvalidText) [.ref C_ShelfError, .ref C_ShelfStateError, .ref C_LimitError] = some true)
    (ex_InvalidKind : PySem.W.exmAny K (.ref C_InvalidKind) [.ref C_ShelfError, .ref C_ShelfStateError, .ref C_LimitError] = some true)
    (ex_InvalidVolume : PySem.W.exmAny K (.ref C_InvalidVolume) [.ref C_ShelfError, .ref C_ShelfStateError, .ref C_LimitError] = some true)
    (ex_NotBlank : PySem.W.exmAny K (.ref C_NotBlank) [.ref C_ShelfError, .ref C_ShelfStateError, .ref C_LimitError] = some true)
    (ex_Locked : PySem.W.exmAny K (.ref C_Locked) [.ref C_ShelfError, .ref C_ShelfStateError, .ref C_LimitError] = some true)
    (ex_Dead : PySem.W.exmAny K (.ref C_Dead) [.ref C_ShelfError, .ref C_ShelfStateError, .ref C_LimitError] = some true)
    (kit_InvalidNumber_InvalidNumber : PySem.W.kitOne K (.ref C_InvalidNumber) (.ref C_InvalidNumber) = some (C_InvalidNumber == C_InvalidNumber))
    (kit_InvalidNumber_InvalidText : PySem.W.kitOne K (.ref C_InvalidNumber) (.ref C_InvalidText) = some (C_InvalidText == C_InvalidNumber))
    (kit_InvalidNumber_InvalidKind : PySem.W.kitOne K (.ref C_InvalidNumber) (.ref C_InvalidKind) = some (C_InvalidKind == C_InvalidNumber))
    (kit_InvalidNumber_InvalidVolume : PySem.W.kitOne K (.ref C_InvalidNumber) (.ref C_InvalidVolume) = some (C_InvalidVolume == C_InvalidNumber))
    (kit_InvalidNumber_NotBlank : PySem.W.kitOne K (.ref C_InvalidNumber) (.ref C_NotBlank) = some (C_NotBlank == C_InvalidNumber))
    (kit_InvalidNumber_Locked : PySem.W.kitOne K (.ref C_InvalidNumber) (.ref C_Locked) = some (C_Locked == C_InvalidNumber))
    (kit_InvalidNumber_Dead : PySem.W.kitOne K (.ref C_InvalidNumber) (.ref C_Dead) = some (C_Dead == C_InvalidNumber))
    (kit_InvalidText_InvalidNumber : PySem.W.kitOne K (.ref C_InvalidText) (.ref C_InvalidNumber) = some (C_InvalidNumber == C_InvalidText))
    (kit_InvalidText_InvalidText : PySem.W.kitOne K (.ref C_InvalidText) (.ref C_InvalidText) = some (C_InvalidText == C_InvalidText))
    (kit_InvalidText_InvalidKind : PySem.W.kitOne K (.ref C_InvalidText) (.ref C_InvalidKind) = some (C_InvalidKind == C_InvalidText))
    (kit_InvalidText_InvalidVolume : PySem.W.kitOne K (.ref C_InvalidText) (.ref C_InvalidVolume) = some (C_InvalidVolume == C_InvalidText))
    (kit_InvalidText_NotBlank : PySem.W.kitOne K (.ref C_InvalidText) (.ref C_NotBlank) = some (C_NotBlank == C_InvalidText))
    (kit_InvalidText_Locked : PySem.W.kitOne K (.ref C_InvalidText) (.ref C_Locked) = some (C_Locked == C_InvalidText))
    (kit_InvalidText_Dead : PySem.W.kitOne K (.ref C_InvalidText) (.ref C_Dead) = some (C_Dead == C_InvalidText))
    (kit_InvalidKind_InvalidNumber : PySem.W.kitOne K (.ref C_InvalidKind) (.ref C_InvalidNumber) = some (C_InvalidNumber == C_InvalidKind))
    (kit_InvalidKind_InvalidText : PySem.W.kitOne K (.ref C_InvalidKind) (.ref C_InvalidText) = some (C_InvalidText == C_InvalidKind))
    (kit_InvalidKind_InvalidKind : PySem.W.kitOne K (.ref C_InvalidKind) (.ref C_InvalidKind) = some (C_InvalidKind == C_InvalidKind))
    (kit_InvalidKind_InvalidVolume : PySem.W.kitOne K (.ref C_InvalidKind) (.ref C_InvalidVolume) = some (C_InvalidVolume == C_InvalidKind))
    (kit_InvalidKind_NotBlank : PySem.W.kitOne K (.ref C_InvalidKind) (.ref C_NotBlank) = some (C_NotBlank == C_InvalidKind))
    (kit_InvalidKind_Locked : PySem.W.kitOne K (.ref C_InvalidKind) (.ref C_Locked) = some (C_Locked == C_InvalidKind))
    (kit_InvalidKind_Dead : PySem.W.kitOne K (.ref C_InvalidKind) (.ref C_Dead) = some (C_Dead == C_InvalidKind))
    (kit_InvalidVolume_InvalidNumber : PySem.W.kitOne K (.ref C_InvalidVolume) (.ref C_InvalidNumber) = some (C_InvalidNumber == C_InvalidVolume))
    (kit_InvalidVolume_InvalidText : PySem.W.kitOne K (.ref C_InvalidVolume) (.ref C_InvalidText) = some (C_InvalidText == C_InvalidVolume))
    (kit_InvalidVolume_InvalidKind : PySem.W.kitOne K (.ref C_InvalidVolume) (.ref C_InvalidKind) = some (C_InvalidKind == C_InvalidVolume))
    (kit_InvalidVolume_InvalidVolume : PySem.W.kitOne K (.ref C_InvalidVolume) (.ref C_InvalidVolume) = some (C_InvalidVolume == C_InvalidVolume))
    (kit_InvalidVolume_NotBlank : PySem.W.kitOne K (.ref C_InvalidVolume) (.ref C_NotBlank) = some (C_NotBlank == C_InvalidVolume))
    (kit_InvalidVolume_Locked : PySem.W.kitOne K (.ref C_InvalidVolume) (.ref C_Locked) = some (C_Locked == C_InvalidVolume))
    (kit_InvalidVolume_Dead : PySem.W.kitOne K (.ref C_InvalidVolume) (.ref C_Dead) = some (C_Dead == C_InvalidVolume))
    (kit_NotBlank_InvalidNumber : PySem.W.kitOne K (.ref C_NotBlank) (.ref C_InvalidNumber) = some (C_InvalidNumber == C_NotBlank))
    (kit_NotBlank_InvalidText : PySem.W.kitOne K (.ref C_NotBlank) (.ref C_InvalidText) = some (C_InvalidText == C_NotBlank))
    (kit_NotBlank_InvalidKind : PySem.W.kitOne K (.ref C_NotBlank) (.ref C_InvalidKind) = some (C_InvalidKind == C_NotBlank))
    (kit_NotBlank_InvalidVolume : PySem.W.kitOne K (.ref C_NotBlank) (.ref C_InvalidVolume) = some (C_InvalidVolume == C_NotBlank))
    (kit_NotBlank_NotBlank : PySem.W.kitOne K (.ref C_NotBlank) (.ref C_NotBlank) = some (C_NotBlank == C_NotBlank))
    (kit_NotBlank_Locked : PySem.W.kitOne K (.ref C_NotBlank) (.ref C_Locked) = some (C_Locked == C_NotBlank))
    (kit_NotBlank_Dead : PySem.W.kitOne K (.ref C_NotBlank) (.ref C_Dead) = some (C_Dead == C_NotBlank))
    (kit_Locked_InvalidNumber : PySem.W.kitOne K (.ref C_Locked) (.ref C_InvalidNumber) = some (C_InvalidNumber == C_Locked))
    (kit_Locked_InvalidText : PySem.W.kitOne K (.ref C_Locked) (.ref C_InvalidText) = some (C_InvalidText == C_Locked))
    (kit_Locked_InvalidKind : PySem.W.kitOne K (.ref C_Locked) (.ref C_InvalidKind) = some (C_InvalidKind == C_Locked))
    (kit_Locked_InvalidVolume : PySem.W.kitOne K (.ref C_Locked) (.ref C_InvalidVolume) = some (C_InvalidVolume == C_Locked))
    (kit_Locked_NotBlank : PySem.W.kitOne K (.ref C_Locked) (.ref C_NotBlank) = some (C_NotBlank == C_Locked))
    (kit_Locked_Locked : PySem.W.kitOne K (.ref C_Locked) (.ref C_Locked) = some (C_Locked == C_Locked))
    (kit_Locked_Dead : PySem.W.kitOne K (.ref C_Locked) (.ref C_Dead) = some (C_Dead == C_Locked))
    (kit_Dead_InvalidNumber : PySem.W.kitOne K (.ref C_Dead) (.ref C_InvalidNumber) = some (C_InvalidNumber == C_Dead))
    (kit_Dead_InvalidText : PySem.W.kitOne K (.ref C_Dead) (.ref C_InvalidText) = some (C_InvalidText == C_Dead))
    (kit_Dead_InvalidKind : PySem.W.kitOne K (.ref C_Dead) (.ref C_InvalidKind) = some (C_InvalidKind == C_Dead))
    (kit_Dead_InvalidVolume : PySem.W.kitOne K (.ref C_Dead) (.ref C_InvalidVolume) = some (C_InvalidVolume == C_Dead))
    (kit_Dead_NotBlank : PySem.W.kitOne K (.ref C_Dead) (.ref C_NotBlank) = some (C_NotBlank == C_Dead))
    (kit_Dead_Locked : PySem.W.kitOne K (.ref C_Dead) (.ref C_Locked) = some (C_Locked == C_Dead))
    (kit_Dead_Dead : PySem.W.kitOne K (.ref C_Dead) (.ref C_Dead) = some (C_Dead == C_Dead)) :
    LawTs l w K 14 63 "_law_script" mg fa h := by
  have e := hfa.symm.trans (PySem.W.mg_of X G a_law)
  cases e
  have D_is_whole := df_mk (st := s_is_whole) l_is_whole c_is_whole k_is_whole
  have b_is_whole : Binds K (PySem.W.fnOf "is_whole" "is_whole" (defArgs s_is_whole) (defBody s_is_whole) (defScope s_is_whole) .none kV_is_whole dc_is_whole pm_is_whole an_is_whole cd_is_whole ct_is_whole) ["value", "least", "most"] [] := Binds.all fun us hl => match us, hl with | [_, _, _], _ => rfl
  have D_is_page := df_mk (st := s_is_page) l_is_page c_is_page k_is_page
  have b_is_page : Binds K (PySem.W.fnOf "is_page" "is_page" (defArgs s_is_page) (defBody s_is_page) (defScope s_is_page) .none kV_is_page dc_is_page pm_is_page an_is_page cd_is_page ct_is_page) ["value"] [] := Binds.all fun us hl => match us, hl with | [_], _ => rfl
  have D_need_page := df_mk (st := s_need_page) l_need_page c_need_page k_need_page
  have b_need_page : Binds K (PySem.W.fnOf "need_page" "need_page" (defArgs s_need_page) (defBody s_need_page) (defScope s_need_page) .none kV_need_page dc_need_page pm_need_page an_need_page cd_need_page ct_need_page) ["value"] [] := Binds.all fun us hl => match us, hl with | [_], _ => rfl
  have D_is_page_text := df_mk (st := s_is_page_text) l_is_page_text c_is_page_text k_is_page_text
  have b_is_page_text : Binds K (PySem.W.fnOf "is_page_text" "is_page_text" (defArgs s_is_page_text) (defBody s_is_page_text) (defScope s_is_page_text) .none kV_is_page_text dc_is_page_text pm_is_page_text an_is_page_text cd_is_page_text ct_is_page_text) ["value"] [] := Binds.all fun us hl => match us, hl with | [_], _ => rfl
  have D_Volume_set_text := df_mk (st := s_Volume_set_text) l_Volume_set_text c_Volume_set_text k_Volume_set_text
  have b_Volume_set_text : Binds K (PySem.W.fnOf "set_text" "Volume.set_text" (defArgs s_Volume_set_text) (defBody s_Volume_set_text) (defScope s_Volume_set_text) .none kV_Volume_set_text dc_Volume_set_text pm_Volume_set_text an_Volume_set_text cd_Volume_set_text ct_Volume_set_text) ["self", "number", "text"] [] := Binds.all fun us hl => match us, hl with | [_, _, _], _ => rfl
  have D_Volume_make_write := df_mk (st := s_Volume_make_write) l_Volume_make_write c_Volume_make_write k_Volume_make_write
  have b_Volume_make_write : Binds K (PySem.W.fnOf "make_write" "Volume.make_write" (defArgs s_Volume_make_write) (defBody s_Volume_make_write) (defScope s_Volume_make_write) .none kV_Volume_make_write dc_Volume_make_write pm_Volume_make_write an_Volume_make_write cd_Volume_make_write ct_Volume_make_write) ["self", "number", "text"] [] := Binds.all fun us hl => match us, hl with | [_, _, _], _ => rfl
  have D_Volume_need_writable := df_mk (st := s_Volume_need_writable) l_Volume_need_writable c_Volume_need_writable k_Volume_need_writable
  have b_Volume_need_writable : Binds K (PySem.W.fnOf "need_writable" "Volume.need_writable" (defArgs s_Volume_need_writable) (defBody s_Volume_need_writable) (defScope s_Volume_need_writable) .none kV_Volume_need_writable dc_Volume_need_writable pm_Volume_need_writable an_Volume_need_writable cd_Volume_need_writable ct_Volume_need_writable) ["self", "number", "text"] [] := Binds.all fun us hl => match us, hl with | [_, _, _], _ => rfl
  have D_Volume_write := df_mk (st := s_Volume_write) l_Volume_write c_Volume_write k_Volume_write
  have b_Volume_write : Binds K (PySem.W.fnOf "write" "Volume.write" (defArgs s_Volume_write) (defBody s_Volume_write) (defScope s_Volume_write) .none kV_Volume_write dc_Volume_write pm_Volume_write an_Volume_write cd_Volume_write ct_Volume_write) ["self", "number", "text"] [] := Binds.all fun us hl => match us, hl with | [_, _, _], _ => rfl
  have D_Volume_erase := df_mk (st := s_Volume_erase) l_Volume_erase c_Volume_erase k_Volume_erase
  have b_Volume_erase : Binds K (PySem.W.fnOf "erase" "Volume.erase" (defArgs s_Volume_erase) (defBody s_Volume_erase) (defScope s_Volume_erase) .none kV_Volume_erase dc_Volume_erase pm_Volume_erase an_Volume_erase cd_Volume_erase ct_Volume_erase) ["self", "number"] [] := Binds.all fun us hl => match us, hl with | [_, _], _ => rfl
  have D_Volume_sync := df_mk (st := s_Volume_sync) l_Volume_sync c_Volume_sync k_Volume_sync
  have b_Volume_sync : Binds K (PySem.W.fnOf "sync" "Volume.sync" (defArgs s_Volume_sync) (defBody s_Volume_sync) (defScope s_Volume_sync) .none kV_Volume_sync dc_Volume_sync pm_Volume_sync an_Volume_sync cd_Volume_sync ct_Volume_sync) ["self"] [] := Binds.all fun us hl => match us, hl with | [_], _ => rfl
  have D_Volume__getitem := df_mk (st := s_Volume__getitem) l_Volume__getitem c_Volume__getitem k_Volume__getitem
  have b_Volume__getitem : Binds K (PySem.W.fnOf "__getitem__" "Volume.__getitem__" (defArgs s_Volume__getitem) (defBody s_Volume__getitem) (defScope s_Volume__getitem) .none kV_Volume__getitem dc_Volume__getitem pm_Volume__getitem an_Volume__getitem cd_Volume__getitem ct_Volume__getitem) ["self", "at"] [] := Binds.all fun us hl => match us, hl with | [_, _], _ => rfl
  have D_Volume__contains := df_mk (st := s_Volume__contains) l_Volume__contains c_Volume__contains k_Volume__contains
  have b_Volume__contains : Binds K (PySem.W.fnOf "__contains__" "Volume.__contains__" (defArgs s_Volume__contains) (defBody s_Volume__contains) (defScope s_Volume__contains) .none kV_Volume__contains dc_Volume__contains pm_Volume__contains an_Volume__contains cd_Volume__contains ct_Volume__contains) ["self", "x"] [] := Binds.all fun us hl => match us, hl with | [_, _], _ => rfl
  have D_Volume_length := df_mk (st := s_Volume_length) l_Volume_length c_Volume_length k_Volume_length
  have b_Volume_length : Binds K (PySem.W.fnOf "length" "Volume.length" (defArgs s_Volume_length) (defBody s_Volume_length) (defScope s_Volume_length) .none kV_Volume_length dc_Volume_length pm_Volume_length an_Volume_length cd_Volume_length ct_Volume_length) ["self"] [] := Binds.all fun us hl => match us, hl with | [_], _ => rfl
  have D_Volume__bool := df_mk (st := s_Volume__bool) l_Volume__bool c_Volume__bool k_Volume__bool
  have b_Volume__bool : Binds K (PySem.W.fnOf "__bool__" "Volume.__bool__" (defArgs s_Volume__bool) (defBody s_Volume__bool) (defScope s_Volume__bool) .none kV_Volume__bool dc_Volume__bool pm_Volume__bool an_Volume__bool cd_Volume__bool ct_Volume__bool) ["self"] [] := Binds.all fun us hl => match us, hl with | [_], _ => rfl
  have D_Volume_pending := df_mk (st := s_Volume_pending) l_Volume_pending c_Volume_pending k_Volume_pending
  have b_Volume_pending : Binds K (PySem.W.fnOf "pending" "Volume.pending" (defArgs s_Volume_pending) (defBody s_Volume_pending) (defScope s_Volume_pending) .none kV_Volume_pending dc_Volume_pending pm_Volume_pending an_Volume_pending cd_Volume_pending ct_Volume_pending) ["self"] [] := Binds.all fun us hl => match us, hl with | [_], _ => rfl
  have D_Volume__init := df_mk (st := s_Volume__init) l_Volume__init c_Volume__init k_Volume__init
  have b_Volume__init : Binds K (PySem.W.fnOf "__init__" "Volume.__init__" (defArgs s_Volume__init) (defBody s_Volume__init) (defScope s_Volume__init) .none kV_Volume__init dc_Volume__init pm_Volume__init an_Volume__init cd_Volume__init ct_Volume__init) ["self"] [] := Binds.all fun us hl => match us, hl with | [_], _ => rfl
  have D_Volume_new_one := df_mk (st := s_Volume_new_one) l_Volume_new_one c_Volume_new_one k_Volume_new_one
  have b_Volume_new_one : Binds K (PySem.W.fnOf "new_one" "Volume.new_one" (defArgs s_Volume_new_one) (defBody s_Volume_new_one) (defScope s_Volume_new_one) .none kV_Volume_new_one dc_Volume_new_one pm_Volume_new_one an_Volume_new_one cd_Volume_new_one ct_Volume_new_one) ["self"] [] := Binds.all fun us hl => match us, hl with | [_], _ => rfl
  have D_Volume_snapshot := df_mk (st := s_Volume_snapshot) l_Volume_snapshot c_Volume_snapshot k_Volume_snapshot
  have b_Volume_snapshot : Binds K (PySem.W.fnOf "snapshot" "Volume.snapshot" (defArgs s_Volume_snapshot) (defBody s_Volume_snapshot) (defScope s_Volume_snapshot) .none kV_Volume_snapshot dc_Volume_snapshot pm_Volume_snapshot an_Volume_snapshot cd_Volume_snapshot ct_Volume_snapshot) ["self"] [] := Binds.all fun us hl => match us, hl with | [_], _ => rfl
  have D_Volume_used := df_mk (st := s_Volume_used) l_Volume_used c_Volume_used k_Volume_used
  have b_Volume_used : Binds K (PySem.W.fnOf "used" "Volume.used" (defArgs s_Volume_used) (defBody s_Volume_used) (defScope s_Volume_used) .none kV_Volume_used dc_Volume_used pm_Volume_used an_Volume_used cd_Volume_used ct_Volume_used) ["self"] [] := Binds.all fun us hl => match us, hl with | [_], _ => rfl
  have D_Volume_need_outcome := df_mk (st := s_Volume_need_outcome) l_Volume_need_outcome c_Volume_need_outcome k_Volume_need_outcome
  have b_Volume_need_outcome : Binds K (PySem.W.fnOf "need_outcome" "Volume.need_outcome" (defArgs s_Volume_need_outcome) (defBody s_Volume_need_outcome) (defScope s_Volume_need_outcome) .none kV_Volume_need_outcome dc_Volume_need_outcome pm_Volume_need_outcome an_Volume_need_outcome cd_Volume_need_outcome ct_Volume_need_outcome) ["self", "keep", "torn"] [] := Binds.all fun us hl => match us, hl with | [_, _, _], _ => rfl
  have D_Volume_crash := df_mk (st := s_Volume_crash) l_Volume_crash c_Volume_crash k_Volume_crash
  have D_Volume_crashed := df_mk (st := s_Volume_crashed) l_Volume_crashed c_Volume_crashed k_Volume_crashed
  have D_l_pick := df_mk (st := s_l_pick) l_l_pick c_l_pick k_l_pick
  have b_l_pick : Binds K (PySem.W.fnOf "_law_pick" "_law_pick" (defArgs s_l_pick) (defBody s_l_pick) (defScope s_l_pick) .none kV_l_pick dc_l_pick pm_l_pick an_l_pick cd_l_pick ct_l_pick) ["_law_source", "_law_many"] [] := Binds.all fun us hl => match us, hl with | [_, _], _ => rfl
  have D_l_with := df_mk (st := s_l_with) l_l_with c_l_with k_l_with
  have b_l_with : Binds K (PySem.W.fnOf "_law_with" "_law_with" (defArgs s_l_with) (defBody s_l_with) (defScope s_l_with) .none kV_l_with dc_l_with pm_l_with an_l_with cd_l_with ct_l_with) ["_law_pages", "_law_spot_here", "_law_what_here"] [] := Binds.all fun us hl => match us, hl with | [_, _, _], _ => rfl
  have D_l_spot := df_mk (st := s_l_spot) l_l_spot c_l_spot k_l_spot
  have b_l_spot : Binds K (PySem.W.fnOf "_law_spot" "_law_spot" (defArgs s_l_spot) (defBody s_l_spot) (defScope s_l_spot) .none kV_l_spot dc_l_spot pm_l_spot an_l_spot cd_l_spot ct_l_spot) ["_law_source"] [] := Binds.all fun us hl => match us, hl with | [_], _ => rfl
  have D_l_what := df_mk (st := s_l_what) l_l_what c_l_what k_l_what
  have b_l_what : Binds K (PySem.W.fnOf "_law_what" "_law_what" (defArgs s_l_what) (defBody s_l_what) (defScope s_l_what) .none kV_l_what dc_l_what pm_l_what an_l_what cd_l_what ct_l_what) ["_law_source"] [] := Binds.all fun us hl => match us, hl with | [_], _ => rfl
  have D_l_begun := df_mk (st := s_l_begun) l_l_begun c_l_begun k_l_begun
  have b_l_begun : Binds K (PySem.W.fnOf "_law_begun" "_law_begun" (defArgs s_l_begun) (defBody s_l_begun) (defScope s_l_begun) .none kV_l_begun dc_l_begun pm_l_begun an_l_begun cd_l_begun ct_l_begun) [] [] := Binds.all fun us hl => match us, hl with | [], _ => rfl
  have D_l_sure := df_mk (st := s_l_sure) l_l_sure c_l_sure k_l_sure
  have b_l_sure : Binds K (PySem.W.fnOf "_law_sure" "_law_sure" (defArgs s_l_sure) (defBody s_l_sure) (defScope s_l_sure) .none kV_l_sure dc_l_sure pm_l_sure an_l_sure cd_l_sure ct_l_sure) ["_law_m", "_law_pages"] [] := Binds.all fun us hl => match us, hl with | [_, _], _ => rfl
  have D_l_noted := df_mk (st := s_l_noted) l_l_noted c_l_noted k_l_noted
  have b_l_noted : Binds K (PySem.W.fnOf "_law_noted" "_law_noted" (defArgs s_l_noted) (defBody s_l_noted) (defScope s_l_noted) .none kV_l_noted dc_l_noted pm_l_noted an_l_noted cd_l_noted ct_l_noted) ["_law_m", "_law_spot_here", "_law_what_here"] [] := Binds.all fun us hl => match us, hl with | [_, _, _], _ => rfl
  have D_l_is_at := df_mk (st := s_l_is_at) l_l_is_at c_l_is_at k_l_is_at
  have b_l_is_at : Binds K (PySem.W.fnOf "_law_is_at" "_law_is_at" (defArgs s_l_is_at) (defBody s_l_is_at) (defScope s_l_is_at) .none kV_l_is_at dc_l_is_at pm_l_is_at an_l_is_at cd_l_is_at ct_l_is_at) ["_law_volume", "_law_m"] [] := Binds.all fun us hl => match us, hl with | [_, _], _ => rfl
  have D_l_sources := df_mk (st := s_l_sources) l_l_sources c_l_sources k_l_sources
  have b_l_sources : Binds K (PySem.W.fnOf "_law_sources" "_law_sources" (defArgs s_l_sources) (defBody s_l_sources) (defScope s_l_sources) .none kV_l_sources dc_l_sources pm_l_sources an_l_sources cd_l_sources ct_l_sources) ["_law_script"] [] := Binds.all fun us hl => match us, hl with | [_], _ => rfl
  have D_l_told := df_mk (st := s_l_told) l_l_told c_l_told k_l_told
  have b_l_told : Binds K (PySem.W.fnOf "_law_told" "_law_told" (defArgs s_l_told) (defBody s_l_told) (defScope s_l_told) .none kV_l_told dc_l_told pm_l_told an_l_told cd_l_told ct_l_told) ["_law_call"] [] := Binds.all fun us hl => match us, hl with | [_], _ => rfl
  have D_Volume__eq := df_mk (st := s_Volume__eq) l_Volume__eq c_Volume__eq k_Volume__eq
  have b_Volume__eq : Binds K (PySem.W.fnOf "__eq__" "Volume.__eq__" (defArgs s_Volume__eq) (defBody s_Volume__eq) (defScope s_Volume__eq) .none kV_Volume__eq dc_Volume__eq pm_Volume__eq an_Volume__eq cd_Volume__eq ct_Volume__eq) ["self", "other"] [] := Binds.all fun us hl => match us, hl with | [_, _], _ => rfl
  have D_Volume_texts := df_mk (st := s_Volume_texts) l_Volume_texts c_Volume_texts k_Volume_texts
  have D_l_written := df_mk (st := s_l_written) l_l_written c_l_written k_l_written
  have b_l_written : Binds K (PySem.W.fnOf "_law_written" "_law_written" (defArgs s_l_written) (defBody s_l_written) (defScope s_l_written) .none kV_l_written dc_l_written pm_l_written an_l_written cd_l_written ct_l_written) ["_law_volume", "_law_spot_here", "_law_what_here", "_law_is_plain"] [] := Binds.all fun us hl => match us, hl with | [_, _, _, _], _ => rfl
  have D_l_step_right := dfc_mk (st := s_l_step_right) l_l_step_right c_l_step_right k_l_step_right
  obtain ⟨d_l_step_right, hd_l_step_right⟩ := Option.isSome_iff_exists.mp rs_l_step_right
  have tf_l_step_right := TF _ _ _ _ hd_l_step_right ti_l_step_right
  have b_l_step_right : Binds K (PySem.W.fnOf "_law_step_right" "_law_step_right" (defArgs s_l_step_right) (defBody s_l_step_right) (defScope s_l_step_right) .none kV_l_step_right dc_l_step_right pm_l_step_right an_l_step_right (.ref c_o_l_step_right) ct_l_step_right) ["_law_source", "_law_volume", "_law_m"] [] := Binds.all fun us hl => match us, hl with | [_, _, _], _ => rfl
  have D_l_texts_right := df_mk (st := s_l_texts_right) l_l_texts_right c_l_texts_right k_l_texts_right
  have b_l_texts_right : Binds K (PySem.W.fnOf "_law_texts_right" "_law_texts_right" (defArgs s_l_texts_right) (defBody s_l_texts_right) (defScope s_l_texts_right) .none kV_l_texts_right dc_l_texts_right pm_l_texts_right an_l_texts_right cd_l_texts_right ct_l_texts_right) ["_law_source", "_law_volume", "_law_m"] [] := Binds.all fun us hl => match us, hl with | [_, _, _], _ => rfl
  have D_l_emptied := df_mk (st := s_l_emptied) l_l_emptied c_l_emptied k_l_emptied
  have b_l_emptied : Binds K (PySem.W.fnOf "_law_emptied" "_law_emptied" (defArgs s_l_emptied) (defBody s_l_emptied) (defScope s_l_emptied) .none kV_l_emptied dc_l_emptied pm_l_emptied an_l_emptied cd_l_emptied ct_l_emptied) ["_law_volume", "_law_m"] [] := Binds.all fun us hl => match us, hl with | [_, _], _ => rfl
  have D_law := df_mk (st := s_law) l_law c_law k_law
  have b_law : Binds K (PySem.W.fnOf "law" "law" (defArgs s_law) (defBody s_law) (defScope s_law) .none kV_law dc_law pm_law an_law cd_law ct_law) ["_law_script"] [] := Binds.all fun us hl => match us, hl with | [_], _ => rfl
  refine ⟨PySem.W.fnOf "law" "law" (defArgs s_law) (defBody s_law) (defScope s_law) .none kV_law dc_law pm_law an_law cd_law ct_law, [(c_o_l_step_right, P_l_step_right)], (sp_law K [(P_l_step_right, ("_law_step_right" ++ ".<locals>.") ++ "<lambda>")]), (List.forall_mem_cons.mpr ⟨tf_l_step_right.2, (fun _ h => nomatch h)⟩), (List.forall_mem_cons.mpr ⟨tn_l_step_right, (fun _ h => nomatch h)⟩), (List.forall_mem_cons.mpr ⟨tf_l_step_right.1, (fun _ h => nomatch h)⟩), fun s v => .of_eq rfl, fun H a ns hl hc hS => ⟨_, rfl, a, ns, rfl, hS, by omega, (tabs0 (List.forall_mem_cons.mpr ⟨(hc (c_o_l_step_right, P_l_step_right) (by simp)), (fun _ h => nomatch h)⟩)), fun _ => rfl⟩, fun base KB GB SM TBs => ?_⟩
  have TB_l_step_right : TabB base mg c_o_l_step_right P_l_step_right := TBs (c_o_l_step_right, P_l_step_right) (by simp)
  have L_l_step_right : LamT ⟨l.prog, w, K, mg, base⟩ [(P_l_step_right, ("_law_step_right" ++ ".<locals>.") ++ "<lambda>")] c_o_l_step_right P_l_step_right "_law_step_right" := ⟨TB_l_step_right, by simp, (List.forall_mem_cons.mpr ⟨fun _ => rfl, (fun _ h => nomatch h)⟩)⟩
  have T : Txt ⟨l.prog, w, K, mg, base⟩ := { b_len := PySem.W.mg_none_of X G b_len, b_isinstance := PySem.W.mg_none_of X G b_isinstance, b_repr := PySem.W.mg_none_of X G b_repr, b_enumerate := PySem.W.mg_none_of X G b_enumerate, b_range := PySem.W.mg_none_of X G b_range, b_list := PySem.W.mg_none_of X G b_list, b_tuple := PySem.W.mg_none_of X G b_tuple, b_dict := PySem.W.mg_none_of X G b_dict, b_bool := PySem.W.mg_none_of X G b_bool, b_int := PySem.W.mg_none_of X G b_int, b_str := PySem.W.mg_none_of X G b_str, b_min := PySem.W.mg_none_of X G b_min, b_max := PySem.W.mg_none_of X G b_max, b_sorted := PySem.W.mg_none_of X G b_sorted, nd := nd }
  have X_Dead : XK0 ⟨l.prog, w, K, mg, base⟩ "Dead" C_Dead := ⟨PySem.W.mg_of X G aC_Dead, PySem.W.mg_none_of X G b_super, xb_Dead.kp, _, _, _, _, _, _, _, _, _, xc_mk PySem.F.excBase_RuntimeError PySem.W.kxs_RuntimeError PySem.F.store_RuntimeError xa xb_Dead in_Dead l_Dead co_Dead fi_Dead fe_Dead ce_Dead, xst_Dead⟩
  have RE_Dead : PySem.W.subIn K (.ref C_Dead) (.type "BaseException") = some true ∧ PySem.W.typeIn K (.ref C_Dead) = some (.type "type") := ⟨xb_Dead.hs, tyX_Dead⟩
  have X_InvalidKind : XK1 ⟨l.prog, w, K, mg, base⟩ "InvalidKind" C_InvalidKind "given" := ⟨PySem.W.mg_of X G aC_InvalidKind, PySem.W.mg_none_of X G b_super, xb_InvalidKind.kp, xb_InvalidKind.hd, xb_InvalidKind.sa, nf_InvalidKind, _, _, _, _, _, _, _, _, _, _, xc_mk PySem.F.excBase_ValueError PySem.W.kxs_ValueError PySem.F.store_ValueError xa xb_InvalidKind in_InvalidKind l_InvalidKind co_InvalidKind fi_InvalidKind fe_InvalidKind ce_InvalidKind, xst_InvalidKind⟩
  have RE_InvalidKind : PySem.W.subIn K (.ref C_InvalidKind) (.type "BaseException") = some true ∧ PySem.W.typeIn K (.ref C_InvalidKind) = some (.type "type") := ⟨xb_InvalidKind.hs, tyX_InvalidKind⟩
  have X_InvalidNumber : XK1 ⟨l.prog, w, K, mg, base⟩ "InvalidNumber" C_InvalidNumber "given" := ⟨PySem.W.mg_of X G aC_InvalidNumber, PySem.W.mg_none_of X G b_super, xb_InvalidNumber.kp, xb_InvalidNumber.hd, xb_InvalidNumber.sa, nf_InvalidNumber, _, _, _, _, _, _, _, _, _, _, xc_mk PySem.F.excBase_ValueError PySem.W.kxs_ValueError PySem.F.store_ValueError xa xb_InvalidNumber in_InvalidNumber l_InvalidNumber co_InvalidNumber fi_InvalidNumber fe_InvalidNumber ce_InvalidNumber, xst_InvalidNumber⟩
  have RE_InvalidNumber : PySem.W.subIn K (.ref C_InvalidNumber) (.type "BaseException") = some true ∧ PySem.W.typeIn K (.ref C_InvalidNumber) = some (.type "type") := ⟨xb_InvalidNumber.hs, tyX_InvalidNumber⟩
  have X_InvalidText : XK1 ⟨l.prog, w, K, mg, base⟩ "InvalidText" C_InvalidText "position" := ⟨PySem.W.mg_of X G aC_InvalidText, PySem.W.mg_none_of X G b_super, xb_InvalidText.kp, xb_InvalidText.hd, xb_InvalidText.sa, nf_InvalidText, _, _, _, _, _, _, _, _, _, _, xc_mk PySem.F.excBase_ValueError PySem.W.kxs_ValueError PySem.F.store_ValueError xa xb_InvalidText in_InvalidText l_InvalidText co_InvalidText fi_InvalidText fe_InvalidText ce_InvalidText, xst_InvalidText⟩
  have RE_InvalidText : PySem.W.subIn K (.ref C_InvalidText) (.type "BaseException") = some true ∧ PySem.W.typeIn K (.ref C_InvalidText) = some (.type "type") := ⟨xb_InvalidText.hs, tyX_InvalidText⟩
  have X_InvalidVolume : XK1 ⟨l.prog, w, K, mg, base⟩ "InvalidVolume" C_InvalidVolume "part" := ⟨PySem.W.mg_of X G aC_InvalidVolume, PySem.W.mg_none_of X G b_super, xb_InvalidVolume.kp, xb_InvalidVolume.hd, xb_InvalidVolume.sa, nf_InvalidVolume, _, _, _, _, _, _, _, _, _, _, xc_mk PySem.F.excBase_ValueError PySem.W.kxs_ValueError PySem.F.store_ValueError xa xb_InvalidVolume in_InvalidVolume l_InvalidVolume co_InvalidVolume fi_InvalidVolume fe_InvalidVolume ce_InvalidVolume, xst_InvalidVolume⟩
  have RE_InvalidVolume : PySem.W.subIn K (.ref C_InvalidVolume) (.type "BaseException") = some true ∧ PySem.W.typeIn K (.ref C_InvalidVolume) = some (.type "type") := ⟨xb_InvalidVolume.hs, tyX_InvalidVolume⟩
  have X_Locked : XK0 ⟨l.prog, w, K, mg, base⟩ "Locked" C_Locked := ⟨PySem.W.mg_of X G aC_Locked, PySem.W.mg_none_of X G b_super, xb_Locked.kp, _, _, _, _, _, _, _, _, _, xc_mk PySem.F.excBase_RuntimeError PySem.W.kxs_RuntimeError PySem.F.store_RuntimeError xa xb_Locked in_Locked l_Locked co_Locked fi_Locked fe_Locked ce_Locked, xst_Locked⟩
  have RE_Locked : PySem.W.subIn K (.ref C_Locked) (.type "BaseException") = some true ∧ PySem.W.typeIn K (.ref C_Locked) = some (.type "type") := ⟨xb_Locked.hs, tyX_Locked⟩
  have X_NotBlank : XK1 ⟨l.prog, w, K, mg, base⟩ "NotBlank" C_NotBlank "page" := ⟨PySem.W.mg_of X G aC_NotBlank, PySem.W.mg_none_of X G b_super, xb_NotBlank.kp, xb_NotBlank.hd, xb_NotBlank.sa, nf_NotBlank, _, _, _, _, _, _, _, _, _, _, xc_mk PySem.F.excBase_RuntimeError PySem.W.kxs_RuntimeError PySem.F.store_RuntimeError xa xb_NotBlank in_NotBlank l_NotBlank co_NotBlank fi_NotBlank fe_NotBlank ce_NotBlank, xst_NotBlank⟩
  have RE_NotBlank : PySem.W.subIn K (.ref C_NotBlank) (.type "BaseException") = some true ∧ PySem.W.typeIn K (.ref C_NotBlank) = some (.type "type") := ⟨xb_NotBlank.hs, tyX_NotBlank⟩
  have CL_Volume : Cls K C_Volume := ⟨pg_Volume, hd_Volume, po_Volume, sa_Volume⟩
  have V_ShelfError : Gv ⟨l.prog, w, K, mg, base⟩ "ShelfError" (.ref C_ShelfError) := ⟨_, PySem.W.mg_of X G aC_ShelfError, rfl⟩
  have V_ShelfStateError : Gv ⟨l.prog, w, K, mg, base⟩ "ShelfStateError" (.ref C_ShelfStateError) := ⟨_, PySem.W.mg_of X G aC_ShelfStateError, rfl⟩
  have V_LimitError : Gv ⟨l.prog, w, K, mg, base⟩ "LimitError" (.ref C_LimitError) := ⟨_, PySem.W.mg_of X G aC_LimitError, rfl⟩
  have V_Dead : Gv ⟨l.prog, w, K, mg, base⟩ "Dead" (.ref C_Dead) := ⟨_, PySem.W.mg_of X G aC_Dead, rfl⟩
  have V_InvalidKind : Gv ⟨l.prog, w, K, mg, base⟩ "InvalidKind" (.ref C_InvalidKind) := ⟨_, PySem.W.mg_of X G aC_InvalidKind, rfl⟩
  have V_InvalidNumber : Gv ⟨l.prog, w, K, mg, base⟩ "InvalidNumber" (.ref C_InvalidNumber) := ⟨_, PySem.W.mg_of X G aC_InvalidNumber, rfl⟩
  have V_InvalidText : Gv ⟨l.prog, w, K, mg, base⟩ "InvalidText" (.ref C_InvalidText) := ⟨_, PySem.W.mg_of X G aC_InvalidText, rfl⟩
  have V_InvalidVolume : Gv ⟨l.prog, w, K, mg, base⟩ "InvalidVolume" (.ref C_InvalidVolume) := ⟨_, PySem.W.mg_of X G aC_InvalidVolume, rfl⟩
  have V_Locked : Gv ⟨l.prog, w, K, mg, base⟩ "Locked" (.ref C_Locked) := ⟨_, PySem.W.mg_of X G aC_Locked, rfl⟩
  have V_NotBlank : Gv ⟨l.prog, w, K, mg, base⟩ "NotBlank" (.ref C_NotBlank) := ⟨_, PySem.W.mg_of X G aC_NotBlank, rfl⟩
  have V_Volume : Gv ⟨l.prog, w, K, mg, base⟩ "Volume" (.ref C_Volume) := ⟨_, PySem.W.mg_of X G aC_Volume, rfl⟩
  have RR : VF ⟨l.prog, w, K, mg, base⟩ C_Volume := ⟨CL_Volume, na_Volume_page_texts, na_Volume_waiting, na_Volume_crash_count, na_Volume_is_taken, _, ⟨rdV, gaV⟩, ⟨_, cvP, ⟨_, rfl⟩⟩, _, cvS, ⟨_, rfl⟩⟩
  have XF : XFs ⟨l.prog, w, K, mg, base⟩ ⟨C_InvalidNumber, C_InvalidText, C_InvalidKind, C_InvalidVolume, C_NotBlank, C_Locked, C_Dead⟩ := ⟨nd7, (List.forall_mem_cons.mpr ⟨(xb_InvalidNumber.exc xa), (List.forall_mem_cons.mpr ⟨(xb_InvalidText.exc xa), (List.forall_mem_cons.mpr ⟨(xb_InvalidKind.exc xa), (List.forall_mem_cons.mpr ⟨(xb_InvalidVolume.exc xa), (List.forall_mem_cons.mpr ⟨(xb_NotBlank.exc xa), (List.forall_mem_cons.mpr ⟨(xb_Locked.exc xa), (List.forall_mem_cons.mpr ⟨(xb_Dead.exc xa), (fun _ h => nomatch h)⟩)⟩)⟩)⟩)⟩)⟩)⟩), (List.forall_mem_cons.mpr ⟨(List.forall_mem_cons.mpr ⟨kit_InvalidNumber_InvalidNumber, (List.forall_mem_cons.mpr ⟨kit_InvalidNumber_InvalidText, (List.forall_mem_cons.mpr ⟨kit_InvalidNumber_InvalidKind, (List.forall_mem_cons.mpr ⟨kit_InvalidNumber_InvalidVolume, (List.forall_mem_cons.mpr ⟨kit_InvalidNumber_NotBlank, (List.forall_mem_cons.mpr ⟨kit_InvalidNumber_Locked, (List.forall_mem_cons.mpr ⟨kit_InvalidNumber_Dead, (fun _ h => nomatch h)⟩)⟩)⟩)⟩)⟩)⟩)⟩), (List.forall_mem_cons.mpr ⟨(List.forall_mem_cons.mpr ⟨kit_InvalidText_InvalidNumber, (List.forall_mem_cons.mpr ⟨kit_InvalidText_InvalidText, (List.forall_mem_cons.mpr ⟨kit_InvalidText_InvalidKind, (List.forall_mem_cons.mpr ⟨kit_InvalidText_InvalidVolume, (List.forall_mem_cons.mpr ⟨kit_InvalidText_NotBlank, (List.forall_mem_cons.mpr ⟨kit_InvalidText_Locked, (List.forall_mem_cons.mpr ⟨kit_InvalidText_Dead, (fun _ h => nomatch h)⟩)⟩)⟩)⟩)⟩)⟩)⟩), (List.forall_mem_cons.mpr ⟨(List.forall_mem_cons.mpr ⟨kit_InvalidKind_InvalidNumber, (List.forall_mem_cons.mpr ⟨kit_InvalidKind_InvalidText, (List.forall_mem_cons.mpr ⟨kit_InvalidKind_InvalidKind, (List.forall_mem_cons.mpr ⟨kit_InvalidKind_InvalidVolume, (List.forall_mem_cons.mpr ⟨kit_InvalidKind_NotBlank, (List.forall_mem_cons.mpr ⟨kit_InvalidKind_Locked, (List.forall_mem_cons.mpr ⟨kit_InvalidKind_Dead, (fun _ h => nomatch h)⟩)⟩)⟩)⟩)⟩)⟩)⟩), (List.forall_mem_cons.mpr ⟨(List.forall_mem_cons.mpr ⟨kit_InvalidVolume_InvalidNumber, (List.forall_mem_cons.mpr ⟨kit_InvalidVolume_InvalidText, (List.forall_mem_cons.mpr ⟨kit_InvalidVolume_InvalidKind, (List.forall_mem_cons.mpr ⟨kit_InvalidVolume_InvalidVolume, (List.forall_mem_cons.mpr ⟨kit_InvalidVolume_NotBlank, (List.forall_mem_cons.mpr ⟨kit_InvalidVolume_Locked, (List.forall_mem_cons.mpr ⟨kit_InvalidVolume_Dead, (fun _ h => nomatch h)⟩)⟩)⟩)⟩)⟩)⟩)⟩), (List.forall_mem_cons.mpr ⟨(List.forall_mem_cons.mpr ⟨kit_NotBlank_InvalidNumber, (List.forall_mem_cons.mpr ⟨kit_NotBlank_InvalidText, (List.forall_mem_cons.mpr ⟨kit_NotBlank_InvalidKind, (List.forall_mem_cons.mpr ⟨kit_NotBlank_InvalidVolume, (List.forall_mem_cons.mpr ⟨kit_NotBlank_NotBlank, (List.forall_mem_cons.mpr ⟨kit_NotBlank_Locked, (List.forall_mem_cons.mpr ⟨kit_NotBlank_Dead, (fun _ h => nomatch h)⟩)⟩)⟩)⟩)⟩)⟩)⟩), (List.forall_mem_cons.mpr ⟨(List.forall_mem_cons.mpr ⟨kit_Locked_InvalidNumber, (List.forall_mem_cons.mpr ⟨kit_Locked_InvalidText, (List.forall_mem_cons.mpr ⟨kit_Locked_InvalidKind, (List.forall_mem_cons.mpr ⟨kit_Locked_InvalidVolume, (List.forall_mem_cons.mpr ⟨kit_Locked_NotBlank, (List.forall_mem_cons.mpr ⟨kit_Locked_Locked, (List.forall_mem_cons.mpr ⟨kit_Locked_Dead, (fun _ h => nomatch h)⟩)⟩)⟩)⟩)⟩)⟩)⟩), (List.forall_mem_cons.mpr ⟨(List.forall_mem_cons.mpr ⟨kit_Dead_InvalidNumber, (List.forall_mem_cons.mpr ⟨kit_Dead_InvalidText, (List.forall_mem_cons.mpr ⟨kit_Dead_InvalidKind, (List.forall_mem_cons.mpr ⟨kit_Dead_InvalidVolume, (List.forall_mem_cons.mpr ⟨kit_Dead_NotBlank, (List.forall_mem_cons.mpr ⟨kit_Dead_Locked, (List.forall_mem_cons.mpr ⟨kit_Dead_Dead, (fun _ h => nomatch h)⟩)⟩)⟩)⟩)⟩)⟩)⟩), (fun _ h => nomatch h)⟩)⟩)⟩)⟩)⟩)⟩)⟩), ⟨xb_InvalidNumber.xf, nf_InvalidNumber⟩, ⟨xb_InvalidText.xf, nf_InvalidText⟩, ⟨xb_InvalidKind.xf, nf_InvalidKind⟩, ⟨xb_InvalidVolume.xf, nf_InvalidVolume⟩, ⟨xb_NotBlank.xf, nf_NotBlank⟩⟩
  have IV : C8.InsC K C_Volume := ⟨CL_Volume, ha_Volume, hn_Volume, ht_Volume, hm_Volume, kitV⟩
  have O_whole := ok_whole (g := ⟨l.prog, w, K, mg, base⟩)  D_is_whole T
  have F_is_whole : Kn ⟨l.prog, w, K, mg, base⟩ "is_whole" 1 ["value", "least", "most"] [] sp_whole := ⟨_, _, [], PySem.W.mg_of X G a_is_whole, k_is_whole, (O_whole.mono (by decide)), b_is_whole, .nil⟩
  have O_isp := ok_isp (g := ⟨l.prog, w, K, mg, base⟩)  D_is_page T V_Volume RR F_is_whole
  have F_is_page : Kn ⟨l.prog, w, K, mg, base⟩ "is_page" 2 ["value"] [] sp_isp := ⟨_, _, [], PySem.W.mg_of X G a_is_page, k_is_page, (O_isp.mono (by decide)), b_is_page, .nil⟩
  have O_needp := ok_needp (g := ⟨l.prog, w, K, mg, base⟩)  D_need_page T F_is_page X_InvalidNumber RE_InvalidNumber
  have O_ispt := ok_ispt (g := ⟨l.prog, w, K, mg, base⟩)  D_is_page_text T V_Volume RR
  have O_set := ok_set (g := ⟨l.prog, w, K, mg, base⟩)  D_Volume_set_text T RR
  have M_Volume_set_text : Km ⟨l.prog, w, K, mg, base⟩ C_Volume "set_text" 1 ["self", "number", "text"] [] (sp_set C_Volume) := ⟨_, _, [], a_Volume_set_text, i_Volume_set_text, k_Volume_set_text, (O_set.mono (by decide)), b_Volume_set_text, .nil⟩
  have O_mkw := ok_mkw (g := ⟨l.prog, w, K, mg, base⟩)  D_Volume_make_write T RR CL_Volume M_Volume_set_text
  have F_need_page : Kn ⟨l.prog, w, K, mg, base⟩ "need_page" 3 ["value"] [] (sp_needp C_InvalidNumber) := ⟨_, _, [], PySem.W.mg_of X G a_need_page, k_need_page, (O_needp.mono (by decide)), b_need_page, .nil⟩
  have F_is_page_text : Kn ⟨l.prog, w, K, mg, base⟩ "is_page_text" 1 ["value"] [] sp_ispt := ⟨_, _, [], PySem.W.mg_of X G a_is_page_text, k_is_page_text, (O_ispt.mono (by decide)), b_is_page_text, .nil⟩
  have O_nwr := ok_nwr (g := ⟨l.prog, w, K, mg, base⟩)  D_Volume_need_writable T RR F_need_page F_is_page_text X_InvalidText X_NotBlank RE_InvalidText RE_NotBlank
  have M_Volume_need_writable : Km ⟨l.prog, w, K, mg, base⟩ C_Volume "need_writable" 4 ["self", "number", "text"] [] (sp_nwr C_Volume C_InvalidNumber C_InvalidText C_NotBlank) := ⟨_, _, [], a_Volume_need_writable, i_Volume_need_writable, k_Volume_need_writable, (O_nwr.mono (by decide)), b_Volume_need_writable, .nil⟩
  have M_Volume_make_write : Km ⟨l.prog, w, K, mg, base⟩ C_Volume "make_write" 2 ["self", "number", "text"] [] (sp_mkw C_Volume) := ⟨_, _, [], a_Volume_make_write, i_Volume_make_write, k_Volume_make_write, (O_mkw.mono (by decide)), b_Volume_make_write, .nil⟩
  have O_write := ok_write (g := ⟨l.prog, w, K, mg, base⟩)  D_Volume_write T RR CL_Volume M_Volume_need_writable M_Volume_make_write
  have O_erase := ok_erase (g := ⟨l.prog, w, K, mg, base⟩)  D_Volume_erase T RR CL_Volume F_need_page M_Volume_make_write
  have O_sync := ok_sync (g := ⟨l.prog, w, K, mg, base⟩)  D_Volume_sync T RR
  have O_get := ok_get (g := ⟨l.prog, w, K, mg, base⟩)  D_Volume__getitem T RR F_need_page
  have O_has := ok_has (g := ⟨l.prog, w, K, mg, base⟩)  D_Volume__contains T RR F_is_page
  have O_len := ok_len (g := ⟨l.prog, w, K, mg, base⟩)  D_Volume_length T RR
  have O_bool := ok_bool (g := ⟨l.prog, w, K, mg, base⟩)  D_Volume__bool T RR
  have O_pend := ok_pend (g := ⟨l.prog, w, K, mg, base⟩)  D_Volume_pending T RR
  have O_init := ok_init (g := ⟨l.prog, w, K, mg, base⟩)  D_Volume__init T RR
  have F_Volume : Kc ⟨l.prog, w, K, mg, base⟩ "Volume" C_Volume 1 ["self"] [] (sp_init C_Volume) := ⟨PySem.W.mg_of X G aC_Volume, _, _, [], ⟨mk_Volume, a_Volume__init, i_Volume__init, kc_Volume⟩, O_init.mono (by decide), b_Volume__init, .nil⟩
  have O_new := ok_new (g := ⟨l.prog, w, K, mg, base⟩)  D_Volume_new_one T F_Volume
  have M_Volume_new_one : Km ⟨l.prog, w, K, mg, base⟩ C_Volume "new_one" 3 ["self"] [] (sp_new C_Volume) := ⟨_, _, [], a_Volume_new_one, i_Volume_new_one, k_Volume_new_one, (O_new.mono (by decide)), b_Volume_new_one, .nil⟩
  have O_snap := ok_snap (g := ⟨l.prog, w, K, mg, base⟩)  D_Volume_snapshot T RR CL_Volume M_Volume_new_one
  have O_used := ok_used (g := ⟨l.prog, w, K, mg, base⟩)  D_Volume_used T RR
  have O_nout := ok_nout (g := ⟨l.prog, w, K, mg, base⟩)  D_Volume_need_outcome T RR F_is_whole
  have M_Volume_need_outcome : Km ⟨l.prog, w, K, mg, base⟩ C_Volume "need_outcome" 2 ["self", "keep", "torn"] [] (sp_nout C_Volume) := ⟨_, _, [], a_Volume_need_outcome, i_Volume_need_outcome, k_Volume_need_outcome, (O_nout.mono (by decide)), b_Volume_need_outcome, .nil⟩
  have O_crash := ok_crash (g := ⟨l.prog, w, K, mg, base⟩)  D_Volume_crash T RR CL_Volume M_Volume_need_outcome M_Volume_set_text
  have M_Volume_snapshot : Km ⟨l.prog, w, K, mg, base⟩ C_Volume "snapshot" 4 ["self"] [] (sp_snap C_Volume) := ⟨_, _, [], a_Volume_snapshot, i_Volume_snapshot, k_Volume_snapshot, (O_snap.mono (by decide)), b_Volume_snapshot, .nil⟩
  have M_Volume_crash : Km ⟨l.prog, w, K, mg, base⟩ C_Volume "crash" 3 ["self", "keep", "torn"] [] (sp_crash C_Volume) := ⟨_, _, [], a_Volume_crash, i_Volume_crash, k_Volume_crash, (O_crash.mono (by decide)), (fun s us hK hl => match us, (show us.length = 3 by simpa using hl) with | [_, _, _], _ => bindsD hK lT_Volume_crash ⟨_, rfl, rfl⟩), .nil⟩
  have O_crashed := ok_crashed (g := ⟨l.prog, w, K, mg, base⟩)  D_Volume_crashed T RR CL_Volume M_Volume_need_outcome M_Volume_snapshot M_Volume_crash
  have O_pick := ok_pick (g := ⟨l.prog, w, K, mg, base⟩)  D_l_pick T
  have O_with := ok_with (g := ⟨l.prog, w, K, mg, base⟩)  D_l_with T
  have F_l_pick : Kn ⟨l.prog, w, K, mg, base⟩ "_law_pick" 1 ["_law_source", "_law_many"] [] sp_pick := ⟨_, _, [], PySem.W.mg_of X G a_l_pick, k_l_pick, (O_pick.mono (by decide)), b_l_pick, .nil⟩
  have O_spot := ok_spot (g := ⟨l.prog, w, K, mg, base⟩)  D_l_spot T F_l_pick
  have O_what := ok_what (g := ⟨l.prog, w, K, mg, base⟩)  D_l_what T F_l_pick
  have O_begun := ok_begun (g := ⟨l.prog, w, K, mg, base⟩)  D_l_begun T
  have O_sure := ok_sure (g := ⟨l.prog, w, K, mg, base⟩)  D_l_sure T
  have F_l_with : Kn ⟨l.prog, w, K, mg, base⟩ "_law_with" 1 ["_law_pages", "_law_spot_here", "_law_what_here"] [] sp_with := ⟨_, _, [], PySem.W.mg_of X G a_l_with, k_l_with, (O_with.mono (by decide)), b_l_with, .nil⟩
  have O_noted := ok_noted (g := ⟨l.prog, w, K, mg, base⟩)  D_l_noted T F_l_with
  have M_Volume__getitem : Km ⟨l.prog, w, K, mg, base⟩ C_Volume "__getitem__" 4 ["self", "at"] [] (sp_get C_Volume) := ⟨_, _, [], a_Volume__getitem, i_Volume__getitem, k_Volume__getitem, (O_get.mono (by decide)), b_Volume__getitem, .nil⟩
  have FI_Volume__getitem : FnAtC K C_Volume "__getitem__" := FnAtC.of a_Volume__getitem (by unfold PySem.W.fnIn; rw [l_Volume__getitem])
  have M_Volume__contains : Km ⟨l.prog, w, K, mg, base⟩ C_Volume "__contains__" 3 ["self", "x"] [] (sp_has C_Volume) := ⟨_, _, [], a_Volume__contains, i_Volume__contains, k_Volume__contains, (O_has.mono (by decide)), b_Volume__contains, .nil⟩
  have M_Volume__bool : Km ⟨l.prog, w, K, mg, base⟩ C_Volume "__bool__" 1 ["self"] [] (sp_bool C_Volume) := ⟨_, _, [], a_Volume__bool, i_Volume__bool, k_Volume__bool, (O_bool.mono (by decide)), b_Volume__bool, .nil⟩
  have M_Volume_length : Km ⟨l.prog, w, K, mg, base⟩ C_Volume "length" 1 ["self"] [] (sp_len C_Volume) := ⟨_, _, [], a_Volume_length, i_Volume_length, k_Volume_length, (O_len.mono (by decide)), b_Volume_length, .nil⟩
  have P_Volume_pending : Kp ⟨l.prog, w, K, mg, base⟩ C_Volume "pending" 1 (sp_pend C_Volume) := ⟨_, _, _, ⟨at_Volume_pending, ge_Volume_pending, ta_Volume_pending, ⟨_, rc_Volume_pending⟩⟩, O_pend.mono (by decide), b_Volume_pending⟩
  have KG_Volume_used : Kg ⟨l.prog, w, K, mg, base⟩ C_Volume "used" 1 (sp_used C_Volume) := ⟨_, _, a_Volume_used, i_Volume_used, k_Volume_used, O_used, b_Volume_used⟩
  have O_isat := ok_isat (g := ⟨l.prog, w, K, mg, base⟩)  D_l_is_at T CL_Volume M_Volume__getitem FI_Volume__getitem M_Volume__contains M_Volume__bool M_Volume_length P_Volume_pending KG_Volume_used
  have O_srcs := ok_srcs (g := ⟨l.prog, w, K, mg, base⟩)  D_l_sources T
  have TOLD : Told ⟨l.prog, w, K, mg, base⟩ 10 "_law_told" (TTk (⟨C_InvalidNumber, C_InvalidText, C_InvalidKind, C_InvalidVolume, C_NotBlank, C_Locked, C_Dead⟩ : Xcs)) := ok_told (g := ⟨l.prog, w, K, mg, base⟩) (x := ⟨C_InvalidNumber, C_InvalidText, C_InvalidKind, C_InvalidVolume, C_NotBlank, C_Locked, C_Dead⟩) D_l_told T (PySem.W.mg_of X G a_l_told) b_l_told (PySem.W.mg_of X G aC_ShelfError) (PySem.W.mg_of X G aC_ShelfStateError) (PySem.W.mg_of X G aC_LimitError) V_InvalidNumber V_InvalidText V_InvalidKind V_InvalidVolume V_NotBlank V_Locked V_Dead XF (List.forall_mem_cons.mpr ⟨ex_InvalidNumber, (List.forall_mem_cons.mpr ⟨ex_InvalidText, (List.forall_mem_cons.mpr ⟨ex_InvalidKind, (List.forall_mem_cons.mpr ⟨ex_InvalidVolume, (List.forall_mem_cons.mpr ⟨ex_NotBlank, (List.forall_mem_cons.mpr ⟨ex_Locked, (List.forall_mem_cons.mpr ⟨ex_Dead, (fun _ h => nomatch h)⟩)⟩)⟩)⟩)⟩)⟩)⟩)
  have O_noutX := ok_noutX (g := ⟨l.prog, w, K, mg, base⟩)  D_Volume_need_outcome T RR F_is_whole X_InvalidNumber RE_InvalidNumber
  have M_Volume_need_outcome : Km ⟨l.prog, w, K, mg, base⟩ C_Volume "need_outcome" 3 ["self", "keep", "torn"] [] (sp_noutX C_Volume C_InvalidNumber) := ⟨_, _, [], a_Volume_need_outcome, i_Volume_need_outcome, k_Volume_need_outcome, (O_noutX.mono (by decide)), b_Volume_need_outcome, .nil⟩
  have O_crashX := ok_crashX (g := ⟨l.prog, w, K, mg, base⟩)  D_Volume_crash T RR CL_Volume M_Volume_need_outcome M_Volume_set_text
  have O_eqT := ok_eqT (g := ⟨l.prog, w, K, mg, base⟩)  D_Volume__eq T RR V_Volume IV kitV
  have O_wholeO := ok_wholeO (g := ⟨l.prog, w, K, mg, base⟩)  D_is_whole T
  have F_is_whole : Kn ⟨l.prog, w, K, mg, base⟩ "is_whole" 1 ["value", "least", "most"] [] (SpOr sp_whole sp_wholeO) := ⟨_, _, [], PySem.W.mg_of X G a_is_whole, k_is_whole, (FnG.or (O_whole.mono (by decide)) (O_wholeO.mono (by decide))), b_is_whole, .nil⟩
  have O_noutO := ok_noutO (g := ⟨l.prog, w, K, mg, base⟩)  D_Volume_need_outcome T RR F_is_whole X_InvalidNumber RE_InvalidNumber
  have M_Volume_need_outcome : Km ⟨l.prog, w, K, mg, base⟩ C_Volume "need_outcome" 3 ["self", "keep", "torn"] [] (sp_noutO C_Volume C_InvalidNumber) := ⟨_, _, [], a_Volume_need_outcome, i_Volume_need_outcome, k_Volume_need_outcome, (O_noutO.mono (by decide)), b_Volume_need_outcome, .nil⟩
  have O_crashO := ok_crashO (g := ⟨l.prog, w, K, mg, base⟩)  D_Volume_crash T RR CL_Volume M_Volume_need_outcome M_Volume_set_text
  have M_Volume_crash : Km ⟨l.prog, w, K, mg, base⟩ C_Volume "crash" 4 ["self", "keep", "torn"] [] (sp_noutO C_Volume C_InvalidNumber) := ⟨_, _, [], a_Volume_crash, i_Volume_crash, k_Volume_crash, (O_crashO.mono (by decide)), (fun s us hK hl => match us, (show us.length = 3 by simpa using hl) with | [_, _, _], _ => bindsD hK lT_Volume_crash ⟨_, rfl, rfl⟩), .nil⟩
  have O_crashedO := ok_crashedO (g := ⟨l.prog, w, K, mg, base⟩)  D_Volume_crashed T RR CL_Volume M_Volume_need_outcome M_Volume_snapshot M_Volume_crash
  have O_usedK := ok_usedK (g := ⟨l.prog, w, K, mg, base⟩)  D_Volume_used T RR
  have O_texts := ok_texts (g := ⟨l.prog, w, K, mg, base⟩)  D_Volume_texts T RR CL_Volume F_need_page M_Volume_length
  have M_Volume_write : Km ⟨l.prog, w, K, mg, base⟩ C_Volume "write" 5 ["self", "number", "text"] [] (sp_write C_Volume C_NotBlank) := ⟨_, _, [], a_Volume_write, i_Volume_write, k_Volume_write, (O_write.mono (by decide)), b_Volume_write, .nil⟩
  have MK_Volume_write_text_number : Kmk ⟨l.prog, w, K, mg, base⟩ C_Volume "write" 5 ["self", "number", "text"] ["text", "number"] [1, 0] [] (sp_write C_Volume C_NotBlank) := ⟨_, _, [], a_Volume_write, i_Volume_write, k_Volume_write, O_write.mono (by decide), .nil, fun s y ws hK hw => match ws, hw with | [_, _], _ => .of_eq rfl⟩
  have O_wrt := ok_wrt (g := ⟨l.prog, w, K, mg, base⟩) (x := ⟨C_InvalidNumber, C_InvalidText, C_InvalidKind, C_InvalidVolume, C_NotBlank, C_Locked, C_Dead⟩)  D_l_written T CL_Volume M_Volume_write MK_Volume_write_text_number
  have F_l_spot : Kn ⟨l.prog, w, K, mg, base⟩ "_law_spot" 2 ["_law_source"] [] sp_spot := ⟨_, _, [], PySem.W.mg_of X G a_l_spot, k_l_spot, (O_spot.mono (by decide)), b_l_spot, .nil⟩
  have F_l_what : Kn ⟨l.prog, w, K, mg, base⟩ "_law_what" 2 ["_law_source"] [] sp_what := ⟨_, _, [], PySem.W.mg_of X G a_l_what, k_l_what, (O_what.mono (by decide)), b_l_what, .nil⟩
  have F_l_noted : Kn ⟨l.prog, w, K, mg, base⟩ "_law_noted" 2 ["_law_m", "_law_spot_here", "_law_what_here"] [] sp_noted := ⟨_, _, [], PySem.W.mg_of X G a_l_noted, k_l_noted, (O_noted.mono (by decide)), b_l_noted, .nil⟩
  have F_l_sure : Kn ⟨l.prog, w, K, mg, base⟩ "_law_sure" 1 ["_law_m", "_law_pages"] [] sp_sure := ⟨_, _, [], PySem.W.mg_of X G a_l_sure, k_l_sure, (O_sure.mono (by decide)), b_l_sure, .nil⟩
  have F_l_written : Kn ⟨l.prog, w, K, mg, base⟩ "_law_written" 7 ["_law_volume", "_law_spot_here", "_law_what_here", "_law_is_plain"] [] (sp_wrt C_Volume C_NotBlank) := ⟨_, _, [], PySem.W.mg_of X G a_l_written, k_l_written, (O_wrt.mono (by decide)), b_l_written, .nil⟩
  have MK_Volume_erase_number : Kmk ⟨l.prog, w, K, mg, base⟩ C_Volume "erase" 5 ["self", "number"] ["number"] [0] [] (sp_erase C_Volume) := ⟨_, _, [], a_Volume_erase, i_Volume_erase, k_Volume_erase, O_erase.mono (by decide), .nil, fun s y ws hK hw => match ws, hw with | [_], _ => .of_eq rfl⟩
  have M_Volume_erase : Km ⟨l.prog, w, K, mg, base⟩ C_Volume "erase" 5 ["self", "number"] [] (sp_erase C_Volume) := ⟨_, _, [], a_Volume_erase, i_Volume_erase, k_Volume_erase, (O_erase.mono (by decide)), b_Volume_erase, .nil⟩
  have M_Volume_sync : Km ⟨l.prog, w, K, mg, base⟩ C_Volume "sync" 1 ["self"] [] (sp_sync C_Volume) := ⟨_, _, [], a_Volume_sync, i_Volume_sync, k_Volume_sync, (O_sync.mono (by decide)), b_Volume_sync, .nil⟩
  have O_step := ok_step (g := ⟨l.prog, w, K, mg, base⟩) (x := ⟨C_InvalidNumber, C_InvalidText, C_InvalidKind, C_InvalidVolume, C_NotBlank, C_Locked, C_Dead⟩) (TS := [(P_l_step_right, ("_law_step_right" ++ ".<locals>.") ++ "<lambda>")])  D_l_step_right T SM CL_Volume TOLD L_l_step_right F_l_pick F_l_spot F_l_what F_l_noted F_l_sure F_l_written MK_Volume_erase_number M_Volume_erase M_Volume_sync
  have M_Volume_texts : Km ⟨l.prog, w, K, mg, base⟩ C_Volume "texts" 5 ["self", "start"] [] (sp_texts C_Volume) := ⟨_, _, [], a_Volume_texts, i_Volume_texts, k_Volume_texts, (O_texts.mono (by decide)), (fun s us hK hl => match us, (show us.length = 2 by simpa using hl) with | [_, _], _ => bindsD hK lT_Volume_texts ⟨_, rfl, rfl⟩), .nil⟩
  have M_Volume_texts_0 : Km ⟨l.prog, w, K, mg, base⟩ C_Volume "texts" 5 ["self", "start"] [.int 0] (sp_texts C_Volume) := ⟨_, _, [.int 0 Tt_Volume_texts_0], a_Volume_texts, i_Volume_texts, k_Volume_texts, (O_texts.mono (by decide)), (fun s us hK hl => match us, (show us.length = 1 by simpa using hl) with | [_], _ => bindsD hK lT_Volume_texts ⟨_, rfl, rfl⟩), (.cons (by first | rfl | exact ⟨_, rfl⟩) .nil)⟩
  have MK_Volume_texts_start : Kmk ⟨l.prog, w, K, mg, base⟩ C_Volume "texts" 5 ["self", "start"] ["start"] [0] [] (sp_texts C_Volume) := ⟨_, _, [], a_Volume_texts, i_Volume_texts, k_Volume_texts, O_texts.mono (by decide), .nil, fun s y ws hK hw => match ws, hw with | [_], _ => bindsD hK lT_Volume_texts ⟨_, rfl, rfl⟩⟩
  have O_tright := ok_tright (g := ⟨l.prog, w, K, mg, base⟩) (TS := [(P_l_step_right, ("_law_step_right" ++ ".<locals>.") ++ "<lambda>")])  D_l_texts_right T CL_Volume F_l_pick M_Volume_length M_Volume_texts M_Volume_texts_0 MK_Volume_texts_start
  have GM_Volume_used : Kgm ⟨l.prog, w, K, mg, base⟩ C_Volume "used" 2 ["self"] [] (sp_usedK C_Volume) := ⟨_, _, [], a_Volume_used, i_Volume_used, k_Volume_used, O_usedK, b_Volume_used, .nil⟩
  have O_empt := ok_empt (g := ⟨l.prog, w, K, mg, base⟩) (TS := [(P_l_step_right, ("_law_step_right" ++ ".<locals>.") ++ "<lambda>")])  D_l_emptied T CL_Volume M_Volume_sync M_Volume_erase GM_Volume_used M_Volume_length KG_Volume_used P_Volume_pending
  have F_l_sources : Kn ⟨l.prog, w, K, mg, base⟩ "_law_sources" 1 ["_law_script"] [] (sp_srcs K) := ⟨_, _, [], PySem.W.mg_of X G a_l_sources, k_l_sources, (O_srcs.mono (by decide)), b_l_sources, .nil⟩
  have F_l_begun : Kn ⟨l.prog, w, K, mg, base⟩ "_law_begun" 1 [] [] sp_begun := ⟨_, _, [], PySem.W.mg_of X G a_l_begun, k_l_begun, (O_begun.mono (by decide)), b_l_begun, .nil⟩
  have F_l_step_right : Kn ⟨l.prog, w, K, mg, base⟩ "_law_step_right" 12 ["_law_source", "_law_volume", "_law_m"] [] (sp_step [(P_l_step_right, ("_law_step_right" ++ ".<locals>.") ++ "<lambda>")] C_Volume) := ⟨_, _, [], PySem.W.mg_of X G a_l_step_right, k_l_step_right, (O_step.mono (by decide)), b_l_step_right, .nil⟩
  have F_l_texts_right : Kn ⟨l.prog, w, K, mg, base⟩ "_law_texts_right" 8 ["_law_source", "_law_volume", "_law_m"] [] (sp_tright [(P_l_step_right, ("_law_step_right" ++ ".<locals>.") ++ "<lambda>")] C_Volume) := ⟨_, _, [], PySem.W.mg_of X G a_l_texts_right, k_l_texts_right, (O_tright.mono (by decide)), b_l_texts_right, .nil⟩
  have F_l_emptied : Kn ⟨l.prog, w, K, mg, base⟩ "_law_emptied" 8 ["_law_volume", "_law_m"] [] (sp_empt [(P_l_step_right, ("_law_step_right" ++ ".<locals>.") ++ "<lambda>")] C_Volume) := ⟨_, _, [], PySem.W.mg_of X G a_l_emptied, k_l_emptied, (O_empt.mono (by decide)), b_l_emptied, .nil⟩
  have F_l_is_at : Kn ⟨l.prog, w, K, mg, base⟩ "_law_is_at" 6 ["_law_volume", "_law_m"] [] (sp_isat C_Volume) := ⟨_, _, [], PySem.W.mg_of X G a_l_is_at, k_l_is_at, (O_isat.mono (by decide)), b_l_is_at, .nil⟩
  exact ok_law (g := ⟨l.prog, w, K, mg, base⟩) (TS := [(P_l_step_right, ("_law_step_right" ++ ".<locals>.") ++ "<lambda>")]) D_law T RR V_Volume F_l_sources F_Volume F_l_begun F_l_pick F_l_step_right F_l_texts_right F_l_emptied F_l_is_at


end K09
open PySem PySem.W PyProof.Rows
local macro_rules | `(tactic| o_head ($f:ident $k $a $e $t)) => `(tactic| o_head (RS.smHook ($f $k $a $e $t)))
set_option maxRecDepth 100000 in
set_option maxHeartbeats 0 in
theorem PySem.Challenge.cw_recordshelf_k09_pages_written_holds : PySem.Challenge.rw_recordshelf_k09_pages_written.Holds := by
  w_on; o_law; k_head; (case hw => w_witness2)
  k_fill
  refine RS.walkT (l := PySem.Challenge.rw_recordshelf_k09_pages_written) (n := 63) (k := 14) (x := "_law_script") rfl (by decide) rfl ⟨rfl, by decide, by decide⟩ (fun w h Y => PySem.W.km_in_of Y.1) (fun w h Y => Y.2) ?F
  case F =>
    intro w mg fa h Y KX G hmg TF
    refine' K09.all_mk (l := PySem.Challenge.rw_recordshelf_k09_pages_written) KX G hmg TF ?b_super ?xa ?aC_Dead ?in_Dead ?l_Dead ?co_Dead ?fi_Dead ?fe_Dead ?ce_Dead ?xb_Dead ?aC_InvalidKind ?in_InvalidKind ?l_InvalidKind ?co_InvalidKind ?fi_InvalidKind ?fe_InvalidKind ?ce_InvalidKind ?xb_InvalidKind ?nf_InvalidKind ?aC_InvalidNumber ?in_InvalidNumber ?l_InvalidNumber ?co_InvalidNumber ?fi_InvalidNumber ?fe_InvalidNumber ?ce_InvalidNumber ?xb_InvalidNumber ?nf_InvalidNumber ?aC_InvalidText ?in_InvalidText ?l_InvalidText ?co_InvalidText ?fi_InvalidText ?fe_InvalidText ?ce_InvalidText ?xb_InvalidText ?nf_InvalidText ?aC_InvalidVolume ?in_InvalidVolume ?l_InvalidVolume ?co_InvalidVolume ?fi_InvalidVolume ?fe_InvalidVolume ?ce_InvalidVolume ?xb_InvalidVolume ?nf_InvalidVolume ?aC_Locked ?in_Locked ?l_Locked ?co_Locked ?fi_Locked ?fe_Locked ?ce_Locked ?xb_Locked ?aC_NotBlank ?in_NotBlank ?l_NotBlank ?co_NotBlank ?fi_NotBlank ?fe_NotBlank ?ce_NotBlank ?xb_NotBlank ?nf_NotBlank ?tyX_Dead ?tyX_InvalidKind ?tyX_InvalidNumber ?tyX_InvalidText ?tyX_InvalidVolume ?tyX_Locked ?tyX_NotBlank ?aC_ShelfError ?aC_ShelfStateError ?aC_LimitError ?aC_Volume ?pg_Volume ?hd_Volume ?po_Volume ?sa_Volume ?kc_Volume ?mk_Volume ?ha_Volume ?hn_Volume ?ht_Volume ?hm_Volume ?ty_Volume ?na_Volume_page_texts ?na_Volume_waiting ?na_Volume_crash_count ?na_Volume_is_taken ?a_is_whole ?l_is_whole ?c_is_whole ?k_is_whole ?a_is_page ?l_is_page ?c_is_page ?k_is_page ?a_need_page ?l_need_page ?c_need_page ?k_need_page ?a_is_page_text ?l_is_page_text ?c_is_page_text ?k_is_page_text ?a_Volume_set_text ?i_Volume_set_text ?l_Volume_set_text ?c_Volume_set_text ?k_Volume_set_text ?a_Volume_make_write ?i_Volume_make_write ?l_Volume_make_write ?c_Volume_make_write ?k_Volume_make_write ?a_Volume_need_writable ?i_Volume_need_writable ?l_Volume_need_writable ?c_Volume_need_writable ?k_Volume_need_writable ?a_Volume_write ?i_Volume_write ?l_Volume_write ?c_Volume_write ?k_Volume_write ?a_Volume_erase ?i_Volume_erase ?l_Volume_erase ?c_Volume_erase ?k_Volume_erase ?a_Volume_sync ?i_Volume_sync ?l_Volume_sync ?c_Volume_sync ?k_Volume_sync ?a_Volume__getitem ?i_Volume__getitem ?l_Volume__getitem ?c_Volume__getitem ?k_Volume__getitem ?a_Volume__contains ?i_Volume__contains ?l_Volume__contains ?c_Volume__contains ?k_Volume__contains ?a_Volume_length ?i_Volume_length ?l_Volume_length ?c_Volume_length ?k_Volume_length ?a_Volume__bool ?i_Volume__bool ?l_Volume__bool ?c_Volume__bool ?k_Volume__bool ?at_Volume_pending ?ge_Volume_pending ?ta_Volume_pending ?rc_Volume_pending ?l_Volume_pending ?c_Volume_pending ?k_Volume_pending ?a_Volume__init ?i_Volume__init ?l_Volume__init ?c_Volume__init ?k_Volume__init ?a_Volume_new_one ?i_Volume_new_one ?l_Volume_new_one ?c_Volume_new_one ?k_Volume_new_one ?a_Volume_snapshot ?i_Volume_snapshot ?l_Volume_snapshot ?c_Volume_snapshot ?k_Volume_snapshot ?a_Volume_used ?i_Volume_used ?l_Volume_used ?c_Volume_used ?k_Volume_used ?a_Volume_need_outcome ?i_Volume_need_outcome ?l_Volume_need_outcome ?c_Volume_need_outcome ?k_Volume_need_outcome ?a_Volume_crash ?i_Volume_crash ?l_Volume_crash ?c_Volume_crash ?k_Volume_crash ?lT_Volume_crash ?a_Volume_crashed ?i_Volume_crashed ?l_Volume_crashed ?c_Volume_crashed ?k_Volume_crashed ?lT_Volume_crashed ?a_l_pick ?l_l_pick ?c_l_pick ?k_l_pick ?a_l_with ?l_l_with ?c_l_with ?k_l_with ?a_l_spot ?l_l_spot ?c_l_spot ?k_l_spot ?a_l_what ?l_l_what ?c_l_what ?k_l_what ?a_l_begun ?l_l_begun ?c_l_begun ?k_l_begun ?a_l_sure ?l_l_sure ?c_l_sure ?k_l_sure ?a_l_noted ?l_l_noted ?c_l_noted ?k_l_noted ?a_l_is_at ?l_l_is_at ?c_l_is_at ?k_l_is_at ?a_l_sources ?l_l_sources ?c_l_sources ?k_l_sources ?a_l_told ?l_l_told ?c_l_told ?k_l_told ?a_Volume__eq ?i_Volume__eq ?l_Volume__eq ?c_Volume__eq ?k_Volume__eq ?a_Volume_texts ?i_Volume_texts ?l_Volume_texts ?c_Volume_texts ?k_Volume_texts ?lT_Volume_texts ?a_l_written ?l_l_written ?c_l_written ?k_l_written ?a_l_step_right ?l_l_step_right ?c_l_step_right ?k_l_step_right ?co_l_step_right ?ov_l_step_right ?ti_l_step_right ?tn_l_step_right ?rs_l_step_right ?a_l_texts_right ?l_l_texts_right ?c_l_texts_right ?k_l_texts_right ?a_l_emptied ?l_l_emptied ?c_l_emptied ?k_l_emptied ?a_law ?l_law ?c_law ?k_law ?b_len ?b_isinstance ?b_repr ?b_enumerate ?b_range ?b_list ?b_tuple ?b_dict ?b_bool ?b_int ?b_str ?b_min ?b_max ?b_sorted ?nd ?rdV ?gaV ?cvP ?cvS ?nd7 ?kitV ?ex_InvalidNumber ?ex_InvalidText ?ex_InvalidKind ?ex_InvalidVolume ?ex_NotBlank ?ex_Locked ?ex_Dead ?kit_InvalidNumber_InvalidNumber ?kit_InvalidNumber_InvalidText ?kit_InvalidNumber_InvalidKind ?kit_InvalidNumber_InvalidVolume ?kit_InvalidNumber_NotBlank ?kit_InvalidNumber_Locked ?kit_InvalidNumber_Dead ?kit_InvalidText_InvalidNumber ?kit_InvalidText_InvalidText ?kit_InvalidText_InvalidKind ?kit_InvalidText_InvalidVolume ?kit_InvalidText_NotBlank ?kit_InvalidText_Locked ?kit_InvalidText_Dead ?kit_InvalidKind_InvalidNumber ?kit_InvalidKind_InvalidText ?kit_InvalidKind_InvalidKind ?kit_InvalidKind_InvalidVolume ?kit_InvalidKind_NotBlank ?kit_InvalidKind_Locked ?kit_InvalidKind_Dead ?kit_InvalidVolume_InvalidNumber ?kit_InvalidVolume_InvalidText ?kit_InvalidVolume_InvalidKind ?kit_InvalidVolume_InvalidVolume ?kit_InvalidVolume_NotBlank ?kit_InvalidVolume_Locked ?kit_InvalidVolume_Dead ?kit_NotBlank_InvalidNumber ?kit_NotBlank_InvalidText ?kit_NotBlank_InvalidKind ?kit_NotBlank_InvalidVolume ?kit_NotBlank_NotBlank ?kit_NotBlank_Locked ?kit_NotBlank_Dead ?kit_Locked_InvalidNumber ?kit_Locked_InvalidText ?kit_Locked_InvalidKind ?kit_Locked_InvalidVolume ?kit_Locked_NotBlank ?kit_Locked_Locked ?kit_Locked_Dead ?kit_Dead_InvalidNumber ?kit_Dead_InvalidText ?kit_Dead_InvalidKind ?kit_Dead_InvalidVolume ?kit_Dead_NotBlank ?kit_Dead_Locked ?kit_Dead_Dead
    (case b_super => k_is)
    (case xa => exact ⟨by kernel_rfl, by kernel_rfl, by kernel_rfl, by kernel_rfl⟩)
    (case aC_Dead => k_is)
    (case in_Dead => k_is)
    (case l_Dead => k_is)
    (case co_Dead => k_is)
    (case fi_Dead => exact rfl)
    (case fe_Dead => kernel_rfl)
    (case ce_Dead => k_is)
    (case xb_Dead => exact ⟨by kernel_rfl, by kernel_rfl, by kernel_rfl, by kernel_rfl, by kernel_rfl, by kernel_rfl, by kernel_rfl, by kernel_rfl, by kernel_rfl, by kernel_rfl, by kernel_rfl, by kernel_rfl, by kernel_rfl, by kernel_rfl, by kernel_rfl⟩)
    (case aC_InvalidKind => k_is)
    (case in_InvalidKind => k_is)
    (case l_InvalidKind => k_is)
    (case co_InvalidKind => k_is)
    (case fi_InvalidKind => exact rfl)
    (case fe_InvalidKind => kernel_rfl)
    (case ce_InvalidKind => k_is)
    (case xb_InvalidKind => exact ⟨by kernel_rfl, by kernel_rfl, by kernel_rfl, by kernel_rfl, by kernel_rfl, by kernel_rfl, by kernel_rfl, by kernel_rfl, by kernel_rfl, by kernel_rfl, by kernel_rfl, by kernel_rfl, by kernel_rfl, by kernel_rfl, by kernel_rfl⟩)
    (case nf_InvalidKind => kernel_rfl)
    (case aC_InvalidNumber => k_is)
    (case in_InvalidNumber => k_is)
    (case l_InvalidNumber => k_is)
    (case co_InvalidNumber => k_is)
    (case fi_InvalidNumber => exact rfl)
    (case fe_InvalidNumber => kernel_rfl)
    (case ce_InvalidNumber => k_is)
    (case xb_InvalidNumber => exact ⟨by kernel_rfl, by kernel_rfl, by kernel_rfl, by kernel_rfl, by kernel_rfl, by kernel_rfl, by kernel_rfl, by kernel_rfl, by kernel_rfl, by kernel_rfl, by kernel_rfl, by kernel_rfl, by kernel_rfl, by kernel_rfl, by kernel_rfl⟩)
    (case nf_InvalidNumber => kernel_rfl)
    (case aC_InvalidText => k_is)
    (case in_InvalidText => k_is)
    (case l_InvalidText => k_is)
    (case co_InvalidText => k_is)
    (case fi_InvalidText => exact rfl)
    (case fe_InvalidText => kernel_rfl)
    (case ce_InvalidText => k_is)
    (case xb_InvalidText => exact ⟨by kernel_rfl, by kernel_rfl, by kernel_rfl, by kernel_rfl, by kernel_rfl, by kernel_rfl, by kernel_rfl, by kernel_rfl, by kernel_rfl, by kernel_rfl, by kernel_rfl, by kernel_rfl, by kernel_rfl, by kernel_rfl, by kernel_rfl⟩)
    (case nf_InvalidText => kernel_rfl)
    (case aC_InvalidVolume => k_is)
    (case in_InvalidVolume => k_is)
    (case l_InvalidVolume => k_is)
    (case co_InvalidVolume => k_is)
    (case fi_InvalidVolume => exact rfl)
    (case fe_InvalidVolume => kernel_rfl)
    (case ce_InvalidVolume => k_is)
    (case xb_InvalidVolume => exact ⟨by kernel_rfl, by kernel_rfl, by kernel_rfl, by kernel_rfl, by kernel_rfl, by kernel_rfl, by kernel_rfl, by kernel_rfl, by kernel_rfl, by kernel_rfl, by kernel_rfl, by kernel_rfl, by kernel_rfl, by kernel_rfl, by kernel_rfl⟩)
    (case nf_InvalidVolume => kernel_rfl)
    (case aC_Locked => k_is)
    (case in_Locked => k_is)
    (case l_Locked => k_is)
    (case co_Locked => k_is)
    (case fi_Locked => exact rfl)
    (case fe_Locked => kernel_rfl)
    (case ce_Locked => k_is)
    (case xb_Locked => exact ⟨by kernel_rfl, by kernel_rfl, by kernel_rfl, by kernel_rfl, by kernel_rfl, by kernel_rfl, by kernel_rfl, by kernel_rfl, by kernel_rfl, by kernel_rfl, by kernel_rfl, by kernel_rfl, by kernel_rfl, by kernel_rfl, by kernel_rfl⟩)
    (case aC_NotBlank => k_is)
    (case in_NotBlank => k_is)
    (case l_NotBlank => k_is)
    (case co_NotBlank => k_is)
    (case fi_NotBlank => exact rfl)
    (case fe_NotBlank => kernel_rfl)
    (case ce_NotBlank => k_is)
    (case xb_NotBlank => exact ⟨by kernel_rfl, by kernel_rfl, by kernel_rfl, by kernel_rfl, by kernel_rfl, by kernel_rfl, by kernel_rfl, by kernel_rfl, by kernel_rfl, by kernel_rfl, by kernel_rfl, by kernel_rfl, by kernel_rfl, by kernel_rfl, by kernel_rfl⟩)
    (case nf_NotBlank => kernel_rfl)
    (case tyX_Dead => kernel_rfl)
    (case tyX_InvalidKind => kernel_rfl)
    (case tyX_InvalidNumber => kernel_rfl)
    (case tyX_InvalidText => kernel_rfl)
    (case tyX_InvalidVolume => kernel_rfl)
    (case tyX_Locked => kernel_rfl)
    (case tyX_NotBlank => kernel_rfl)
    (case aC_ShelfError => k_is)
    (case aC_ShelfStateError => k_is)
    (case aC_LimitError => k_is)
    (case aC_Volume => k_is)
    (case pg_Volume => k_is)
    (case hd_Volume => k_is)
    (case po_Volume => k_is)
    (case sa_Volume => k_is)
    (case kc_Volume => k_is)
    (case mk_Volume => k_is)
    (case ha_Volume => k_is)
    (case hn_Volume => k_is)
    (case ht_Volume => k_is)
    (case hm_Volume => k_is)
    (case ty_Volume => k_is)
    (case na_Volume_page_texts => k_is)
    (case na_Volume_waiting => k_is)
    (case na_Volume_crash_count => k_is)
    (case na_Volume_is_taken => k_is)
    (case a_is_whole => k_is)
    (case l_is_whole => k_is)
    (case c_is_whole => k_is)
    (case k_is_whole => k_is)
    (case a_is_page => k_is)
    (case l_is_page => k_is)
    (case c_is_page => k_is)
    (case k_is_page => k_is)
    (case a_need_page => k_is)
    (case l_need_page => k_is)
    (case c_need_page => k_is)
    (case k_need_page => k_is)
    (case a_is_page_text => k_is)
    (case l_is_page_text => k_is)
    (case c_is_page_text => k_is)
    (case k_is_page_text => k_is)
    (case a_Volume_set_text => k_is)
    (case i_Volume_set_text => k_is)
    (case l_Volume_set_text => k_is)
    (case c_Volume_set_text => k_is)
    (case k_Volume_set_text => k_is)
    (case a_Volume_make_write => k_is)
    (case i_Volume_make_write => k_is)
    (case l_Volume_make_write => k_is)
    (case c_Volume_make_write => k_is)
    (case k_Volume_make_write => k_is)
    (case a_Volume_need_writable => k_is)
    (case i_Volume_need_writable => k_is)
    (case l_Volume_need_writable => k_is)
    (case c_Volume_need_writable => k_is)
    (case k_Volume_need_writable => k_is)
    (case a_Volume_write => k_is)
    (case i_Volume_write => k_is)
    (case l_Volume_write => k_is)
    (case c_Volume_write => k_is)
    (case k_Volume_write => k_is)
    (case a_Volume_erase => k_is)
    (case i_Volume_erase => k_is)
    (case l_Volume_erase => k_is)
    (case c_Volume_erase => k_is)
    (case k_Volume_erase => k_is)
    (case a_Volume_sync => k_is)
    (case i_Volume_sync => k_is)
    (case l_Volume_sync => k_is)
    (case c_Volume_sync => k_is)
    (case k_Volume_sync => k_is)
    (case a_Volume__getitem => k_is)
    (case i_Volume__getitem => k_is)
    (case l_Volume__getitem => k_is)
    (case c_Volume__getitem => k_is)
    (case k_Volume__getitem => k_is)
    (case a_Volume__contains => k_is)
    (case i_Volume__contains => k_is)
    (case l_Volume__contains => k_is)
    (case c_Volume__contains => k_is)
    (case k_Volume__contains => k_is)
    (case a_Volume_length => k_is)
    (case i_Volume_length => k_is)
    (case l_Volume_length => k_is)
    (case c_Volume_length => k_is)
    (case k_Volume_length => k_is)
    (case a_Volume__bool => k_is)
    (case i_Volume__bool => k_is)
    (case l_Volume__bool => k_is)
    (case c_Volume__bool => k_is)
    (case k_Volume__bool => k_is)
    (case at_Volume_pending => k_is)
    (case ge_Volume_pending => k_is)
    (case ta_Volume_pending => k_is)
    (case rc_Volume_pending => k_is)
    (case l_Volume_pending => k_is)
    (case c_Volume_pending => k_is)
    (case k_Volume_pending => k_is)
    (case a_Volume__init => k_is)
    (case i_Volume__init => k_is)
    (case l_Volume__init => k_is)
    (case c_Volume__init => k_is)
    (case k_Volume__init => k_is)
    (case a_Volume_new_one => k_is)
    (case i_Volume_new_one => k_is)
    (case l_Volume_new_one => k_is)
    (case c_Volume_new_one => k_is)
    (case k_Volume_new_one => k_is)
    (case a_Volume_snapshot => k_is)
    (case i_Volume_snapshot => k_is)
    (case l_Volume_snapshot => k_is)
    (case c_Volume_snapshot => k_is)
    (case k_Volume_snapshot => k_is)
    (case a_Volume_used => k_is)
    (case i_Volume_used => k_is)
    (case l_Volume_used => k_is)
    (case c_Volume_used => k_is)
    (case k_Volume_used => k_is)
    (case a_Volume_need_outcome => k_is)
    (case i_Volume_need_outcome => k_is)
    (case l_Volume_need_outcome => k_is)
    (case c_Volume_need_outcome => k_is)
    (case k_Volume_need_outcome => k_is)
    (case a_Volume_crash => k_is)
    (case i_Volume_crash => k_is)
    (case l_Volume_crash => k_is)
    (case c_Volume_crash => k_is)
    (case k_Volume_crash => k_is)
    (case lT_Volume_crash => k_is)
    (case a_Volume_crashed => k_is)
    (case i_Volume_crashed => k_is)
    (case l_Volume_crashed => k_is)
    (case c_Volume_crashed => k_is)
    (case k_Volume_crashed => k_is)
    (case lT_Volume_crashed => k_is)
    (case a_l_pick => k_is)
    (case l_l_pick => k_is)
    (case c_l_pick => k_is)
    (case k_l_pick => k_is)
    (case a_l_with => k_is)
    (case l_l_with => k_is)
    (case c_l_with => k_is)
    (case k_l_with => k_is)
    (case a_l_spot => k_is)
    (case l_l_spot => k_is)
    (case c_l_spot => k_is)
    (case k_l_spot => k_is)
    (case a_l_what => k_is)
    (case l_l_what => k_is)
    (case c_l_what => k_is)
    (case k_l_what => k_is)
    (case a_l_begun => k_is)
    (case l_l_begun => k_is)
    (case c_l_begun => k_is)
    (case k_l_begun => k_is)
    (case a_l_sure => k_is)
    (case l_l_sure => k_is)
    (case c_l_sure => k_is)
    (case k_l_sure => k_is)
    (case a_l_noted => k_is)
    (case l_l_noted => k_is)
    (case c_l_noted => k_is)
    (case k_l_noted => k_is)
    (case a_l_is_at => k_is)
    (case l_l_is_at => k_is)
    (case c_l_is_at => k_is)
    (case k_l_is_at => k_is)
    (case a_l_sources => k_is)
    (case l_l_sources => k_is)
    (case c_l_sources => k_is)
    (case k_l_sources => k_is)
    (case a_l_told => k_is)
    (case l_l_told => k_is)
    (case c_l_told => k_is)
    (case k_l_told => k_is)
    (case a_Volume__eq => k_is)
    (case i_Volume__eq => k_is)
    (case l_Volume__eq => k_is)
    (case c_Volume__eq => k_is)
    (case k_Volume__eq => k_is)
    (case a_Volume_texts => k_is)
    (case i_Volume_texts => k_is)
    (case l_Volume_texts => k_is)
    (case c_Volume_texts => k_is)
    (case k_Volume_texts => k_is)
    (case lT_Volume_texts => k_is)
    (case a_l_written => k_is)
    (case l_l_written => k_is)
    (case c_l_written => k_is)
    (case k_l_written => k_is)
    (case a_l_step_right => k_is)
    (case l_l_step_right => k_is)
    (case c_l_step_right => k_is)
    (case k_l_step_right => k_is)
    (case co_l_step_right => k_is)
    (case ov_l_step_right => exact rfl)
    (case ti_l_step_right => kernel_rfl)
    (case tn_l_step_right => kernel_rfl)
    (case rs_l_step_right => kernel_rfl)
    (case a_l_texts_right => k_is)
    (case l_l_texts_right => k_is)
    (case c_l_texts_right => k_is)
    (case k_l_texts_right => k_is)
    (case a_l_emptied => k_is)
    (case l_l_emptied => k_is)
    (case c_l_emptied => k_is)
    (case k_l_emptied => k_is)
    (case a_law => k_is)
    (case l_law => k_is)
    (case c_law => k_is)
    (case k_law => k_is)
    (case b_len => k_is)
    (case b_isinstance => k_is)
    (case b_repr => k_is)
    (case b_enumerate => k_is)
    (case b_range => k_is)
    (case b_list => k_is)
    (case b_tuple => k_is)
    (case b_dict => k_is)
    (case b_bool => k_is)
    (case b_int => k_is)
    (case b_str => k_is)
    (case b_min => k_is)
    (case b_max => k_is)
    (case b_sorted => k_is)
    (case nd => k_is)
    (case rdV => kernel_rfl)
    (case gaV => kernel_rfl)
    (case cvP => exact rfl)
    (case cvS => exact rfl)
    (case nd7 => decide)
    (case kitV => kernel_rfl)
    (case ex_InvalidNumber => kernel_rfl)
    (case ex_InvalidText => kernel_rfl)
    (case ex_InvalidKind => kernel_rfl)
    (case ex_InvalidVolume => kernel_rfl)
    (case ex_NotBlank => kernel_rfl)
    (case ex_Locked => kernel_rfl)
    (case ex_Dead => kernel_rfl)
    (case kit_InvalidNumber_InvalidNumber => kernel_rfl)
    (case kit_InvalidNumber_InvalidText => kernel_rfl)
    (case kit_InvalidNumber_InvalidKind => kernel_rfl)
    (case kit_InvalidNumber_InvalidVolume => kernel_rfl)
    (case kit_InvalidNumber_NotBlank => kernel_rfl)
    (case kit_InvalidNumber_Locked => kernel_rfl)
    (case kit_InvalidNumber_Dead => kernel_rfl)
    (case kit_InvalidText_InvalidNumber => kernel_rfl)
    (case kit_InvalidText_InvalidText => kernel_rfl)
    (case kit_InvalidText_InvalidKind => kernel_rfl)
    (case kit_InvalidText_InvalidVolume => kernel_rfl)
    (case kit_InvalidText_NotBlank => kernel_rfl)
    (case kit_InvalidText_Locked => kernel_rfl)
    (case kit_InvalidText_Dead => kernel_rfl)
    (case kit_InvalidKind_InvalidNumber => kernel_rfl)
    (case kit_InvalidKind_InvalidText => kernel_rfl)
    (case kit_InvalidKind_InvalidKind => kernel_rfl)
    (case kit_InvalidKind_InvalidVolume => kernel_rfl)
    (case kit_InvalidKind_NotBlank => kernel_rfl)
    (case kit_InvalidKind_Locked => kernel_rfl)
    (case kit_InvalidKind_Dead => kernel_rfl)
    (case kit_InvalidVolume_InvalidNumber => kernel_rfl)
    (case kit_InvalidVolume_InvalidText => kernel_rfl)
    (case kit_InvalidVolume_InvalidKind => kernel_rfl)
    (case kit_InvalidVolume_InvalidVolume => kernel_rfl)
    (case kit_InvalidVolume_NotBlank => kernel_rfl)
    (case kit_InvalidVolume_Locked => kernel_rfl)
    (case kit_InvalidVolume_Dead => kernel_rfl)
    (case kit_NotBlank_InvalidNumber => kernel_rfl)
    (case kit_NotBlank_InvalidText => kernel_rfl)
    (case kit_NotBlank_InvalidKind => kernel_rfl)
    (case kit_NotBlank_InvalidVolume => kernel_rfl)
    (case kit_NotBlank_NotBlank => kernel_rfl)
    (case kit_NotBlank_Locked => kernel_rfl)
    (case kit_NotBlank_Dead => kernel_rfl)
    (case kit_Locked_InvalidNumber => kernel_rfl)
    (case kit_Locked_InvalidText => kernel_rfl)
    (case kit_Locked_InvalidKind => kernel_rfl)
    (case kit_Locked_InvalidVolume => kernel_rfl)
    (case kit_Locked_NotBlank => kernel_rfl)
    (case kit_Locked_Locked => kernel_rfl)
    (case kit_Locked_Dead => kernel_rfl)
    (case kit_Dead_InvalidNumber => kernel_rfl)
    (case kit_Dead_InvalidText => kernel_rfl)
    (case kit_Dead_InvalidKind => kernel_rfl)
    (case kit_Dead_InvalidVolume => kernel_rfl)
    (case kit_Dead_NotBlank => kernel_rfl)
    (case kit_Dead_Locked => kernel_rfl)
    (case kit_Dead_Dead => kernel_rfl)


