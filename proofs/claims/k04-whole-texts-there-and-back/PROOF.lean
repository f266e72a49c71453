import PyProof.Rows.All
import Wide.All
import OpenK.AllK
import Wide.FinOn
import HandS.ForMost
import HandS.Exc
import HandS.WordsExc
import HandS.Flow
import HandS.IsInst
import HandS.FStr
import HandS.TupAny
import HandS.Style
import PyProof.ReprRoads
import KE.GoesMore
import PyProof.FString3
import PyProof.Rows.StrIntSpec
import KE.KFmtOwn
import PyProof.StrBlock2
import HandS.Property
import HandS.Text
import PyProof.Rows.Range3
import PyProof.Conv_bool
import HandS.Small
import PyProof.InstEq
import HandS.EndBits
import HandS.Codes
import PyProof.ReprLen
import HandS.Dict
import KE.KExcSuper
import HandS.ExcInit
import HandS.ExcField
import HandS.ExcIs
import PyProof.RowDictHeap
import PyProof.Rows.SeqMore
import PyProof.FitsInt
import KE.KExcInit
import HandS.DictComp
import HandS.Wide
import PyProof.NeKinds
import KE.KDictZip
import KE.GoesEnum
import HandS.Star
import HandS.ExcValue
import PyProof.RulesMatch
import PyProof.StrLawsRepr
import KE.IntTextLaws
import PyProof.PureStr
import HandS.More
import KE.KExcLine
import PySem.Challenge.RW_recordshelf_k04_whole_texts_there_and_ba
set_option Elab.async false
set_option linter.all false
set_option maxRecDepth 100000
set_option maxHeartbeats 4000000
namespace RS
open PySem PySem.Spec L2

/-- what a law's text is, as it stands behind its top -/
structure Wd where
  P : Program
  w : World
  K : PySem.W.Frag
  mg : Str → Option Value
  base : Heap

/-- a def that keeps its promise wherever no repr is under way -/
structure FnG (g : Wd) (k : Nat) (f : Addr) (fd : FuncData) (ps : List Str) (sp : Sp) : Prop where
  len : ∀ vs H Q E, sp vs H Q E → vs.length = ps.length
  run : ∀ (A : Around) (outer : List Env) (s : Shared) (H : Hp) (args : Args) (us : List Value) (vs : List V) (Q : VK) (E : XK),
    Room k A → A.guards = some [] → Env0 g.P g.w g.K g.mg g.base A outer s H → BindsTo s fd args (ps.zip us) → Vals vs us → sp vs H Q E →
      codeAny (model g.P g.w) A (.call (.ref f) args) (CR (L2.CX g.P g.w) outer g.P g.w H s Q E) s

theorem FnG.mono {g : Wd} {j k : Nat} {f : Addr} {fd : FuncData} {ps : List Str} {sp : Sp} (F : FnG g j f fd ps sp) (h : j ≤ k) : FnG g k f fd ps sp :=
  ⟨F.len, fun A outer s H args us vs Q E hr => F.run A outer s H args us vs Q E (hr.mono h)⟩
theorem FnG.imp {g : Wd} {k : Nat} {f : Addr} {fd : FuncData} {ps : List Str} {sp sp' : Sp} (F : FnG g k f fd ps sp) (h : ∀ vs H Q E, sp' vs H Q E → sp vs H Q E) : FnG g k f fd ps sp' :=
  ⟨fun vs H Q E q => F.len vs H Q E (h _ _ _ _ q), fun A outer s H args us vs Q E hr hg he hb hv hs => F.run A outer s H args us vs Q E hr hg he hb hv (h _ _ _ _ hs)⟩

/-- a def of the text, with the value of its defaults -/
structure Df (K : PySem.W.Frag) (x qual : Str) (st : Stmt) (f : Addr) (fd : FuncData) (dV : Value) : Prop where
  ex : ∃ (oc : Value) (od : Option Addr) (kV doc pm : Value) (an : Option Addr) (cdv ct : Value) (osl : Array (Option Value)),
    fd = PySem.W.fnOf x qual (defArgs st) (defBody st) (defScope st) dV kV doc pm an cdv ct ∧ K.lookup f = some ⟨oc, od, .func fd, osl⟩ ∧ PySem.W.codeIn K cdv qual = true
  kp : PySem.W.keepIn K (.ref f) = true

/-- the context of its body -/
abbrev cx (g : Wd) (N : List Str) (qual : Str) (st : Stmt) (f : Addr) (cdv : Value) (A : Around) (outer : List Env) (s : Shared) (H : Hp) (E : XK) : Cx :=
  cxOf (L2.CX g.P g.w) g.P g.w g.K g.mg g.base N qual (defScope st) f cdv A outer s H E

/-- what a body may lean on: room, and no repr under way -/
structure Rm (k : Nat) (X : Cx) : Prop where
  room : Room k X.A
  gd : X.A.guards = some []
theorem Rm.mono {j k : Nat} {X : Cx} (r : Rm k X) (h : j ≤ k) : Rm j X := ⟨r.room.mono h, r.gd⟩

theorem Df.ok {g : Wd} {x qual : Str} {st : Stmt} {f : Addr} {fd : FuncData} {dV : Value} {N ps : List Str} {k : Nat} {sp : Sp} (F : Df g.K x qual st f fd dV) (S : FnScope N ps (defScope st))
    (len : ∀ vs H Q E, sp vs H Q E → vs.length = ps.length)
    (hbody : ∀ (cdv : Value) (A : Around) (outer : List Env) (s : Shared) (H : Hp) (vs : List V) (Q : VK) (E : XK), Rm k (cx g N qual st f cdv A outer s H E) → sp vs H Q E →
      ∃ t, PSs (cx g N qual st f cdv A outer s H E) (defBody st) t ∧ t { nx := fun _ H' => Q .non H', rt := Q } (start N vs) H) : FnG g (k + 1) f fd ps sp := by
  obtain ⟨oc, od, kV, doc, pm, an, cdv, ct, osl, rfl, lk, hcd⟩ := F.ex
  refine ⟨len, fun A outer s H args us vs Q E hr hg e0 hb rv hsp => ?_⟩
  have kept : ∀ b o, g.base.get? b = some o → s.heap.get? b = some o := fun b o e => (e0.bs b o e).1
  have KX := e0.mod.kin.keeps kept
  have par : ∀ y ∈ ps.zip us, (defScope st).names.lookup y.1 = some .local ∨ ((defScope st).names.lookup y.1 = some .cell ∧ ((cellsFrom (s.heap.objs.size + 1) (defScope st).names []).lookup y.1).isSome = true) := by
    rintro ⟨n, v⟩ hy
    exact (S.par n (List.of_mem_zip hy).1).imp id fun q => ⟨q, PySem.W.cellsFrom_some _ _ _ (.inl q)⟩
  refine codeAny_call_function hr.depth (KX _ _ lk) rfl S.co S.gen rfl (PySem.W.codeRec_of KX hcd) (hb _ _ _ _ (wpAny_newFunctionEnv_cells S.kind par ?_))
  rintro env rfl s1 ic
  refine ⟨(e0.mod.nolimit.keeps kept).keeps ic.toInCall.keep, codeAny_func ?_⟩
  obtain ⟨t, ht, hq⟩ := hbody cdv A outer s H vs Q E ⟨hr.deeper _, hg⟩ hsp
  have J := inv_start (CX := L2.CX g.P g.w) (E := E) (qual := qual) (f := f) (cd := cdv) S hr.hd e0 (len _ _ _ _ hsp) rv ic
  refine wpAny_mono (ht.run [] s1 _ H _ J hq) ?_ fun _ _ z => z
  rintro fl s' hs
  cases fl with
  | ret u => obtain ⟨v, σ', H', I, r, q⟩ := hs; exact ⟨v, H', I.os, I.bare, I.base, I.hok, r, q⟩
  | next => obtain ⟨σ', H', I, q⟩ := hs; exact ⟨.non, H', I.os, I.bare, I.base, I.hok, rfl, q⟩
  | brk => obtain ⟨_, _, _, q⟩ := hs; exact q.elim
  | cont => obtain ⟨_, _, _, q⟩ := hs; exact q.elim

/-! ### calls -/
/-- X stands in the world g -/
structure At (g : Wd) (X : Cx) : Prop where
  P : X.prog = g.P
  w : X.w = g.w
  K : X.K = g.K
  mg : X.mg = g.mg
  base : X.base = g.base

section
variable {g : Wd} {X : Cx} {k : Nat} {f : Addr} {fd : FuncData} {ps : List Str} {sp : Sp} {W : WX}
/-- the callee runs, its arguments bound somehow -/
theorem runG (a : At g X) (F : FnG g k f fd ps sp) (hr : Rm k X) (tk : Takes X W) {pins : List (Addr × Obj)} {σ : St} {H : Hp} {s : Shared} {Q : VK} {args : Args} {us : List Value} {vs : List V}
    (I : Inv X pins σ H s) (hb : BindsTo s fd args (ps.zip us)) (r : Vals vs us) (h : sp vs H Q (fun c d H' => W c d σ H')) :
    codeAny (model X.prog X.w) X.A (.call (.ref f) args) (fun res s' => match res with | .ok fl => (match fl with | .ret u => EP X pins σ Q u s' | _ => False) | .error e => X.xe e s') s := by
  obtain ⟨P, w, K, mg, base⟩ := g
  obtain ⟨rfl, rfl, rfl, rfl, rfl⟩ := a
  refine codeAny_mono (F.run X.A X.stack s H args us vs Q _ hr.room hr.gd I.env0 hb r h) fun res s' hq => ?_
  cases res with
  | error e => exact tk e s' (XE.of_call (E := fun c d H' => W c d σ H') I (fun _ _ _ z => z) hq)
  | ok fl =>
    cases fl with
    | ret u => exact I.after hq
    | _ => exact hq.elim
end
end RS


namespace RS
open PySem PySem.Spec L2

/-! ### promises by the number of arguments -/
def S0 (g : Hp → VK → XK → Prop) : Sp := fun vs H Q E => vs = [] ∧ g H Q E
def S1 (g : V → Hp → VK → XK → Prop) : Sp := fun vs H Q E => ∃ a, vs = [a] ∧ g a H Q E
def S2 (g : V → V → Hp → VK → XK → Prop) : Sp := fun vs H Q E => ∃ a b, vs = [a, b] ∧ g a b H Q E
def S3 (g : V → V → V → Hp → VK → XK → Prop) : Sp := fun vs H Q E => ∃ a b c, vs = [a, b, c] ∧ g a b c H Q E
def S4 (g : V → V → V → V → Hp → VK → XK → Prop) : Sp := fun vs H Q E => ∃ a b c d, vs = [a, b, c, d] ∧ g a b c d H Q E
def S5 (g : V → V → V → V → V → Hp → VK → XK → Prop) : Sp := fun vs H Q E => ∃ a b c d e, vs = [a, b, c, d, e] ∧ g a b c d e H Q E
theorem S0.len {g} {vs : List V} {H Q E} (h : S0 g vs H Q E) : vs.length = 0 := by obtain ⟨rfl, _⟩ := h; rfl
theorem S1.len {g} {vs : List V} {H Q E} (h : S1 g vs H Q E) : vs.length = 1 := by obtain ⟨_, rfl, _⟩ := h; rfl
theorem S2.len {g} {vs : List V} {H Q E} (h : S2 g vs H Q E) : vs.length = 2 := by obtain ⟨_, _, rfl, _⟩ := h; rfl
theorem S3.len {g} {vs : List V} {H Q E} (h : S3 g vs H Q E) : vs.length = 3 := by obtain ⟨_, _, _, rfl, _⟩ := h; rfl
theorem S4.len {g} {vs : List V} {H Q E} (h : S4 g vs H Q E) : vs.length = 4 := by obtain ⟨_, _, _, _, rfl, _⟩ := h; rfl
theorem S5.len {g} {vs : List V} {H Q E} (h : S5 g vs H Q E) : vs.length = 5 := by obtain ⟨_, _, _, _, _, rfl, _⟩ := h; rfl

/-! ### a def by its name -/
/-- what the module's name x holds is worth v -/
def Gv (g : Wd) (x : Str) (v : V) : Prop := ∃ u, g.mg x = some u ∧ RelV v u
/-- the module's name x holds a def that keeps sp; ds: its defaults that fill up -/
def Kn (g : Wd) (x : Str) (k : Nat) (ps : List Str) (ds : List V) (sp : Sp) : Prop :=
  ∃ f fd dsV, g.mg x = some (.ref f) ∧ PySem.W.keepIn g.K (.ref f) = true ∧ FnG g k f fd ps sp ∧ Binds g.K fd ps dsV ∧ Vals ds dsV

section
variable {g : Wd} {X : Cx} {k : Nat} {f : Addr} {fd : FuncData} {ps : List Str} {sp : Sp} {W : WX} {ds : List V} {x : Str} {p pos : Pos} {e : Expr} {es : List Expr} {t : TA}

theorem e_g {v : V} (h : Gv g x v) (hg : Gl X x := by rfl) (hd : (x == ("__debug__" : Str)) = false := by decide) (a : At g X := by exact ⟨rfl, rfl, rfl, rfl, rfl⟩) : PE X (.Name x pos) (tC v) := by
  obtain ⟨u, hm, r⟩ := h
  exact pe_glob hg (by rw [a.mg]; exact hm) r hd

def tCallG (sp : Sp) (ds : List V) (W : WX) (t : TA) : TE := fun σ H Q => t σ H fun vs H1 => sp (vs ++ ds) H1 Q (fun c d H' => W c d σ H')

/-- the call itself, the arguments at hand -/
theorem callG {dsV : List Value} (a : At g X) (F : FnG g k f fd ps sp) (hr : Rm k X) (tk : Takes X W) (hb : Binds g.K fd ps dsV) (rd : Vals ds dsV) {pins : List (Addr × Obj)} {σ : L2.St} {H : Hp} {s : Shared} {Q : VK} {us : List Value} {vs : List V}
    (I : Inv X pins σ H s) (r : Vals vs us) (h : sp (vs ++ ds) H Q (fun c d H' => W c d σ H')) : wpAny (model X.prog X.w) X.A (call (.ref f) us) (EP X pins σ Q) X.xe s := by
  have r2 := Vals.append r rd
  have hl : (us ++ dsV).length = ps.length := by rw [← r2.length]; exact F.len _ _ _ _ h
  have KI : g.K.In s.heap := by rw [← a.K]; exact I.kIn
  refine wpAny_call (codeAny_mono (runG a F hr tk I (hb s us KI hl) r2 h) fun res s' hq => ?_)
  cases res with
  | error e => exact hq
  | ok fl => cases fl with
    | ret u => exact hq
    | _ => exact hq.elim

theorem pe_callG (F : Kn g x k ps ds sp) (hr : Rm k X) (tk : Takes X W) (ha : PA X (e :: es) t) (hg : Gl X x := by rfl) (hdb : (x == ("__debug__" : Str)) = false := by decide)
    (he : starEach (e :: es) X.env = (false, eval e X.env) :: starEach es X.env := by rfl) (hpl : (backTo pos (starEach es X.env)).any (·.1) = false := by rfl) (a : At g X := by exact ⟨rfl, rfl, rfl, rfl, rfl⟩) :
    PE X (.Call (.Name x p) (e :: es) [] pos) (tCallG sp ds W t) := by
  obtain ⟨f, fd, dsV, hm, hk, F, hb, rd⟩ := F
  refine ⟨fun pins s σ H Q I h => wpAny_Call_Name_kw (ld_glob I hg (by rw [a.mg]; exact hm) ?_ hdb)⟩
  refine PySem.W.callWith_K (h₀ := X.base) I.ok.mod.kin (by rw [a.K]; exact hk) (thn (ha.run pos pins s σ H _ I h) ?_) he hpl
  rintro us s1 ⟨vs, H1, I1, r, q⟩
  exact ⟨I1.kIn, callG a F hr tk hb rd I1 r q⟩
theorem pe_callG0 (F : Kn g x k ps ds sp) (hr : Rm k X) (tk : Takes X W) (hg : Gl X x := by rfl) (hdb : (x == ("__debug__" : Str)) = false := by decide) (a : At g X := by exact ⟨rfl, rfl, rfl, rfl, rfl⟩) :
    PE X (.Call (.Name x p) [] [] pos) (tCallG sp ds W tNil) := by
  obtain ⟨f, fd, dsV, hm, hk, F, hb, rd⟩ := F
  refine ⟨fun pins s σ H Q I h => wpAny_Call_Name_kw (ld_glob I hg (by rw [a.mg]; exact hm) ?_ hdb)⟩
  exact PySem.W.callWith_K0 I.kIn (by rw [a.K]; exact hk) (callG a F hr tk hb rd I .nil h)
end

/-! ### repr -/
section
variable {X : Cx} {k : Nat}
mutual
theorem Dp.noDict {K : PySem.W.Frag} {H : Hp} : ∀ {d : PyData} {v : V}, Dp K H v d → d.hasDict = false
  | .none, _, _ => rfl
  | .bool _, _, _ => rfl
  | .int _, _, _ => rfl
  | .str _, _, _ => rfl
  | .list ds, _, h => by cases h with | lst _ ha => simp only [PyData.hasDict]; exact DpAll.noDict ha
  | .tuple ds, _, h => by cases h with | tup _ ha => simp only [PyData.hasDict]; exact DpAll.noDict ha
  | .dict _, _, h => by cases h
theorem DpAll.noDict {K : PySem.W.Frag} {H : Hp} : ∀ {ds : List PyData} {vs : List V}, DpAll K H vs ds → PyData.hasDictAll ds = false
  | [], _, _ => rfl
  | d :: ds, _, h => by cases h with | cons h1 h2 => simp only [PyData.hasDictAll, Dp.noDict h1, DpAll.noDict h2, Bool.or_self]
end
def rRepr (K : PySem.W.Frag) : List V → Hp → VK → Prop := fun xs H Q => ∃ a d, xs = [.ref a] ∧ Dp K H (.ref a) d ∧ d.showable = true ∧ d.depth ≤ 60 ∧ d.shown.length ≤ sizeLine ∧ Q (.str d.shown) H
theorem c_repr {K : PySem.W.Frag} (hr : Rm k X) (hK : X.K = K := by rfl) : CallR X (.builtin "repr") (rRepr K) := by
  subst hK
  intro pins s σ H xs us Q I r h
  obtain ⟨a, d, rfl, hd, hs, hz, hl, q⟩ := h
  obtain ⟨u, rfl, ru⟩ := vals1 r
  cases ru
  obtain ⟨as, rd⟩ := Dp.reads I d (.ref a) (.ref a) hd rfl
  refine repr_of_reads' (h₀ := s.heap) rd hs (PyData.noDict_hsm (Dp.noDict hd)) hr.gd (by have := hr.room.un; omega) (fun _ _ e => e) (fun h' u tk kp => ?_) hl
  exact ⟨.str _, H, I.kept kp, ⟨_, rfl⟩, q⟩
end
end RS


namespace RS
open PySem PySem.Spec L2

/-! ### enumerate(text) -/
/-- the signs of x, each with its index in a new pair -/
def ItEs (x : Str) : It :=
  ⟨fun i _ => i < x.cps.size, fun i H v H' => ∃ T c, v = .ref T ∧ H T = none ∧ H' = upd H T (.tup [.int (i : Nat), .str ⟨#[c]⟩]) ∧ x.cps[i]? = some c, fun i _ => i = x.cps.size⟩
theorem turn_enumS {P : Program} {w : World} {K : PySem.W.Frag} {elts : List Expr} {kk : Nat} {tpos : Pos} (x : Str) (t : Tok) (e it : Addr) :
    Turn P w K (.Tuple elts kk tpos) (ItEs x) [e, it] e (fun i h => (∃ old, IsEnum h e it ((i : Nat) : Int) old) ∧ h.IsStrIter it (strIterType x) x t i ∧ e ≠ it) where
  mem := List.mem_cons_self
  obj := by
    rintro i h ⟨⟨old, he⟩, ⟨o, ho, hc, hd⟩, _⟩ b hb
    rcases List.mem_cons.mp hb with rfl | hb
    · exact ⟨_, he, fun v q => nomatch q⟩
    · obtain rfl := List.mem_singleton.mp hb
      exact ⟨o, ho, fun v q => by rw [hd] at q; cases q⟩
  keep := by
    rintro i h h' ⟨⟨old, he⟩, ⟨o, ho, hr⟩, hne⟩ k
    exact ⟨⟨old, k e (by simp) _ he⟩, ⟨o, k it (by simp) o ho, hr⟩, hne⟩
  item := by
    intro X hP hw hK hc i pins s σ H E I hf st hg
    subst hP hw hK
    obtain ⟨⟨old, he⟩, hit, hne⟩ := st
    have hel : e < s.heap.objs.size := Heap.lt_size he
    have hil : it < s.heap.objs.size := by obtain ⟨_, q, _⟩ := hit; exact Heap.lt_size q
    refine wpAny_pyNext_enum_itemD (Draws.text (A := X.A.in1) (I.ok.hd hc) it x t) he hit hg hne (by simpa using hne) fun u h' tk hp ho hit' hT hsz hk => ?_
    obtain ⟨c, tu, hcx, rfl⟩ := hp
    refine ⟨_, rfl, wpAny_letOwnedTupleGo_enum (s := { s with heap := h', toks := tk + 1 }) ho fun h2 he' sb => ?_⟩
    have hT2 : h2.get? s.heap.objs.size = some { cls := .type "tuple", data := .seq #[.int i tk, .str ⟨#[c]⟩ tu] } := (sb.2 _ (Nat.ne_of_gt hel)).trans hT
    have lay : ObjOk X.prog X.w (upd H s.heap.objs.size (.tup [.int (i : Nat), .str ⟨#[c]⟩])) h2 s.heap.objs.size (.tup [.int (i : Nat), .str ⟨#[c]⟩]) :=
      ⟨by show 2 ≤ sizeLine; decide, _, .cons ⟨_, rfl⟩ (.cons ⟨_, rfl⟩ .nil), _, hT2, rfl, _, rfl⟩
    have keepB : ∀ b o, b ∉ [e, it] → s.heap.get? b = some o → h2.get? b = some o := fun b o hb q => by
      have n1 : b ≠ e := fun z => hb (by simp [z])
      have n2 : b ≠ it := fun z => hb (by simp [z])
      exact (sb.2 b n1).trans (hk b o n1 n2 q)
    have I1 := I.turnedNew (t' := tk + 1) keepB hf (Nat.le_refl _) lay
    refine ⟨.ref s.heap.objs.size, _, I1, rfl, ⟨_, c, rfl, I.hok.fresh (Nat.le_refl _), rfl, hcx⟩, ⟨⟨_, by simpa using he'⟩, ?_, hne⟩, fun b hb => ?_⟩
    · obtain ⟨o, ho2, hr⟩ := hit'
      exact ⟨o, (sb.2 it (Ne.symm hne)).trans ho2, hr⟩
    · have lt : b < s.heap.objs.size := by
        rcases List.mem_cons.mp hb with rfl | hb
        · exact hel
        · rw [List.mem_singleton.mp hb]; exact hil
      rw [upd_ne (Nat.ne_of_lt lt)]
      exact (hf b hb).1
  done := by
    intro X hP hw hK hc i pins s σ H E I hf st hg
    subst hP hw hK
    obtain ⟨⟨old, he⟩, hit, hne⟩ := st
    obtain rfl : i = x.cps.size := hg
    obtain ⟨f0, f1, f2, f3, f4, f5⟩ := hf it (by simp)
    refine wpAny_pyNext_enum_endD (Draws.text (A := X.A.in1) (I.ok.hd hc) it x t) he hit fun h' eb => ⟨rfl, ?_⟩
    exact I.turned (t' := s.toks) (fun b o hb q => eb b o hb q) f0 f1 f3 f4 f5
  self := fun A i s Q E st h => let ⟨⟨_, he⟩, _⟩ := st; wpAny_pyIter_enum he h

def iEnumS (ta : TA) : TI := fun σ H R => ta σ H fun vs H1 => ∃ x, vs = [.str x] ∧ R (ItEs x) H1
theorem pi_enumS {X : Cx} {e : Expr} {ta : TA} {p pos tpos : Pos} {elts : List Expr} {kk : Nat} (hm : X.mg "enumerate" = none) (ha : PA X [e] ta) (hg : Gl X "enumerate" := by rfl) (hs : starEach [e] X.env = [(false, eval e X.env)] := by rfl) :
    PI X (.Tuple elts kk tpos) (.Call (.Name "enumerate" p) [e] [] pos) (iEnumS ta) := by
  refine ⟨fun pins s σ H R I h => ?_⟩
  refine PyProof.Rows.Call_ (ld_blt I hg hm PyProof.Rows.boot_enumerate (PyProof.Rows.callWith_type1 (thn (ha.run pos pins s σ H _ I h) ?_) hs rfl))
  rintro us s1 ⟨vs, H1, I1, r1, x, rfl, q⟩
  obtain ⟨u, rfl, t, rfl⟩ := vals1 r1
  refine call_enumerate_str fun h' he hit hsz hk => wpAny_pyIter_enum he ?_
  refine ⟨s1.heap.objs.size + 1, [s1.heap.objs.size + 1, s1.heap.objs.size], _, _, H1, rfl, I1.kept (t' := s1.toks) hk, turn_enumS x t _ _, ⟨⟨.none, he⟩, hit, Nat.succ_ne_self _⟩, fun b hb => ?_, q⟩
  have le : s1.heap.objs.size ≤ b := by
    rcases List.mem_cons.mp hb with rfl | hb
    · exact Nat.le_succ _
    · rw [List.mem_singleton.mp hb]; exact Nat.le_refl _
  exact I1.fpOk le (I1.hok.fresh le)

/-! ### a number with zeros in front -/
theorem ns_none {K : PySem.W.Frag} {h : Heap} {a : Addr} {m : Str → Option Value} {n : Str} (X : K.In h) (G : h.Ns a m) (e : PySem.W.nsIn K a n = some none) : m n = none := by
  obtain ⟨o, es, ep, ho, hd, _, hf⟩ := G
  unfold PySem.W.nsIn at e
  split at e
  · rename_i q
    have z := X _ _ q
    rw [ho] at z
    cases z
    cases hd
    split at e
    · cases e
    · rename_i he
      rw [← hf]
      unfold nsFind findBy
      rw [← Array.find?_toList, he]
      split at e <;> first | rfl | cases e
  · cases e
/-- i with zeros in front, W signs at least -/
def padZ (W : Nat) (i : Int) : Str := ⟨(List.replicate (W - (Nat.toDigits 10 i.natAbs).length) 48).toArray⟩ ++ Str.ofString (toString i)
section
variable {X : Cx} {e spec : Expr} {te : TE} {pos : Pos} {sp : Str}
def tFmtZ (W : Nat) (te : TE) : TE := fun σ H Q => te σ H fun x H1 => ∃ i : Int, x = .int i ∧ 0 ≤ i ∧ i < 10 ^ 12 ∧ Q (.str (padZ W i)) H1
theorem pe_fmtZ (W : Nat) (he : PE X e te) (hs : PE X spec (tC (.str sp))) (nd : PySem.W.nsIn X.K cStatics "sys.int_max_str_digits" = some none) (hok : PyProof.Rows.intSpecOk sp = true := by decide +kernel) (hz : PyProof.Rows.intSpecZeroOf sp = true := by decide +kernel)
    (hW : PyProof.Rows.intSpecWidthOf sp = W := by decide +kernel) (hl : sp.length ≤ sizeLine := by decide +kernel) : PE X (.FormattedValue e (-1) (some spec) pos) (tFmtZ W te) := by
  refine ⟨fun pins s σ H Q I h => wpAny_FormattedValue_spec (thn (he.run pins s σ H _ I h) ?_)⟩
  rintro v s1 ⟨x, H1, I1, r1, i, rfl, i0, i1, q⟩
  obtain ⟨t, rfl⟩ := r1
  refine thn (hs.run pins s1 σ H1 (fun y H2 => y = .str sp ∧ H2 = H1) I1 ⟨rfl, rfl⟩) ?_
  rintro u s2 ⟨y, H2, I2, r2, rfl, rfl⟩
  obtain ⟨t2, rfl⟩ := r2
  have nd2 : s2.heap.NoDigits := by
    obtain ⟨mc, hn, _⟩ := I2.nolimit
    exact ⟨mc, hn, ns_none I2.kIn hn nd⟩
  have lt : i.natAbs < 10 ^ 4300 := Nat.lt_of_lt_of_le (show i.natAbs < 10 ^ 12 by omega) (Nat.pow_le_pow_right (by decide) (by decide))
  refine ⟨sp, t2, rfl, PyProof.Rows.formatField_int_specOf nd2 lt hok (fun W' hW' f => ?_) hl⟩
  have e2 := f.zeroG hz i0
  rw [hW', hW] at e2
  rw [e2]
  exact ⟨.str (padZ W i), H2, I2.tok _, ⟨_, rfl⟩, q⟩
end
end RS


namespace RS
open PySem PySem.Spec L2
section
variable {X : Cx}

/-! ### + of whatever -/
def rAdd (K : PySem.W.Frag) : R2 := fun x y H Q => match x, y with
  | .int i, .int j => Q (.int (i + j)) H
  | .str a, .str b => a.length + b.length ≤ sizeLine ∧ Q (.str (a ++ b)) H
  | .ref p, .ref q => rCat (.ref p) (.ref q) H Q ∨ rCatA K (.ref p) (.ref q) H Q
  | _, _ => False
theorem o_add {K : PySem.W.Frag} (hK : X.K = K := by rfl) : OpR X (binaryOp .Add) (rAdd K) := by
  subst hK
  intro pins s σ H x y v u Q I rx ry h
  cases x <;> cases y <;> first
    | exact (show False from h).elim
    | exact op_add pins s σ H _ _ v u Q I rx ry ⟨_, _, rfl, rfl, h⟩
    | exact op_add_str pins s σ H _ _ v u Q I rx ry ⟨_, _, rfl, rfl, h.1, h.2⟩
    | exact (show _ ∨ _ from h).elim (op_cat pins s σ H _ _ v u Q I rx ry) (op_catA pins s σ H _ _ v u Q I rx ry)

/-! ### * of whatever -/
/-- a, n times -/
def repS (a : Str) (n : Nat) : Str := ⟨(List.replicate n a.cps.toList).flatten.toArray⟩
theorem foldl_app (a : Array Nat) : ∀ (n : Nat) (acc : Array Nat), (List.replicate n a).foldl (· ++ ·) acc = acc ++ (List.replicate n a.toList).flatten.toArray
  | 0, acc => by simp
  | n + 1, acc => by
    rw [List.replicate_succ, List.foldl_cons, foldl_app a n (acc ++ a), List.replicate_succ, List.flatten_cons]
    apply Array.ext'
    simp [Array.toList_append, List.append_assoc]
theorem txt_mul (a : Str) (n : Int) : Txt.mul a n = repS a n.toNat := by
  unfold Txt.mul repS
  by_cases h1 : n < 1
  · rw [if_pos h1]
    have e : n.toNat = 0 := by omega
    rw [e]
    rfl
  · rw [if_neg h1]
    have e : ({ cps := (List.replicate n.toNat a.cps).foldl (· ++ ·) #[] } : Str) = { cps := (List.replicate n.toNat a.cps.toList).flatten.toArray } := by
      rw [foldl_app]
      congr 1
      apply Array.ext'
      simp
    split
    · rename_i c
      rcases Bool.or_eq_true_iff.mp c with c | c
      · have : n = 1 := by simpa using c
        subst this
        obtain ⟨l⟩ := a
        simp
      · have : a.cps.size = 0 := by simpa [Str.length] using c
        obtain ⟨⟨l⟩⟩ := a
        have : l = [] := by simpa using this
        subst this
        simp
    · exact e
def rMul : R2 := fun x y H Q => match x, y with
  | .int i, .int j => CMul i j ∧ Q (.int (i * j)) H
  | .str a, .int n => n < 2 ^ 31 ∧ -(2 ^ 31) < n ∧ a.length * n.toNat ≤ sizeLine ∧ Q (.str (repS a n.toNat)) H
  | .ref p, .int n => rRep (.ref p) (.int n) H Q
  | _, _ => False
theorem o_mul : OpR X (binaryOp .Mult) rMul := by
  intro pins s σ H x y v u Q I rx ry h
  cases x <;> cases y <;> first
    | exact (show False from h).elim
    | exact op_mul pins s σ H _ _ v u Q I rx ry ⟨_, _, rfl, rfl, h.1, h.2⟩
    | exact op_rep pins s σ H _ _ v u Q I rx ry h
    | skip
  rename_i a n
  obtain ⟨t, rfl⟩ := rx
  obtain ⟨t', rfl⟩ := ry
  obtain ⟨h1, h2, h3, q⟩ := h
  have hs : sizeLine = 16777216 := sizeLine_eq
  refine SB.mul (x := a) (n := n) ⟨?_, fun hn hc => ?_, fun hn hc => ?_⟩ fun t' k => ?_
  · rw [decide_eq_false (by omega), decide_eq_false (by omega)]; rfl
  · have h4 : (a.length : Int) * n ≤ 16777216 := by
      have : ((a.length * n.toNat : Nat) : Int) ≤ 16777216 := by omega
      rw [Int.natCast_mul] at this
      have e : ((n.toNat : Nat) : Int) = n := by omega
      rw [e] at this
      exact this
    have h5 : (a.length : Int) ≤ a.length * n := by
      have e : (a.length : Int) * 1 ≤ a.length * n := Int.mul_le_mul_of_nonneg_left (by omega) (by omega)
      omega
    have h6 : (4294967296 : Int) ≤ (2 ^ 63 - 1) / n := by
      rw [Int.le_ediv_iff_mul_le (by omega)]
      omega
    omega
  · unfold Builtin.Str.tooLong
    simp
    omega
  · rw [txt_mul]
    exact ⟨.str _, H, I.tok k, ⟨t', rfl⟩, q⟩

/-! ### == and != of scalars and of data -/
def rEqU (K : PySem.W.Frag) : R2 := fun x y H Q => match x, y with
  | .ref a, .ref b => rEqD K (.ref a) (.ref b) H Q
  | x, y => rEq x y H Q
theorem o_eq {K : PySem.W.Frag} {k : Nat} (hr : Rm k X) (hK : X.K = K := by rfl) : OpR X (compareOp .Eq) (rEqU K) := by
  subst hK
  intro pins s σ H x y v u Q I rx ry h
  cases x <;> cases y <;> first
    | exact op_eqD hr.room.units pins s σ H _ _ v u Q I rx ry h
    | exact op_eq pins s σ H _ _ v u Q I rx ry h
def rNeU (K : PySem.W.Frag) : R2 := fun x y H Q => match x, y with
  | .ref a, .ref b => rNeD K (.ref a) (.ref b) H Q
  | x, y => rNe x y H Q
theorem o_ne {K : PySem.W.Frag} {k : Nat} (hr : Rm k X) (hK : X.K = K := by rfl) : OpR X (compareOp .NotEq) (rNeU K) := by
  subst hK
  intro pins s σ H x y v u Q I rx ry h
  cases x <;> cases y <;> first
    | exact op_neD hr.room.units pins s σ H _ _ v u Q I rx ry h
    | exact op_ne pins s σ H _ _ v u Q I rx ry h

/-! ### in, not in: a text in a text, a thing in a list or a tuple -/
def hasS (z y : Str) : Bool := !(Builtin.Str.occurrences y z 0 y.length 1).isEmpty
def rInU (K : PySem.W.Frag) : R2 := fun x y H Q => match x, y with
  | .str z, .str y => Q (.bl (hasS z y)) H
  | x, .ref p => rIn K false x (.ref p) H Q
  | _, _ => False
theorem o_in {K : PySem.W.Frag} (hK : X.K = K := by rfl) : OpR X (compareOp .In) (rInU K) := by
  subst hK
  intro pins s σ H x y v u Q I rx ry h
  cases x <;> cases y <;> first
    | exact (show False from h).elim
    | exact op_in_str pins s σ H _ _ v u Q I rx ry ⟨_, _, rfl, rfl, h⟩
    | exact op_in_seq pins s σ H _ _ v u Q I rx ry h
def rNinU (K : PySem.W.Frag) : R2 := fun x y H Q => match x, y with
  | .str z, .str y => Q (.bl (!hasS z y)) H
  | x, .ref p => rIn K true x (.ref p) H Q
  | _, _ => False
theorem o_nin {K : PySem.W.Frag} (hK : X.K = K := by rfl) : OpR X (compareOp .NotIn) (rNinU K) := by
  subst hK
  intro pins s σ H x y v u Q I rx ry h
  cases x <;> cases y <;> first
    | exact (show False from h).elim
    | exact op_notin_str pins s σ H _ _ v u Q I rx ry ⟨_, _, rfl, rfl, h⟩
    | exact op_notIn_seq pins s σ H _ _ v u Q I rx ry h

/-! ### len -/
def rLen (K : PySem.W.Frag) : List V → Hp → VK → Prop := fun xs H Q => match xs with
  | [.str y] => y.length ≤ sizeLine ∧ Q (.int y.length) H
  | [.ref p] => (∃ xs, (SqL K H p xs ∨ SqT K H p xs) ∧ Q (.int xs.length) H) ∨ ∃ kvs, H p = some (.dK kvs) ∧ Q (.int kvs.length) H
  | _ => False
theorem c_len {K : PySem.W.Frag} (hK : X.K = K := by rfl) : CallR X (.builtin "len") (rLen K) := by
  subst hK
  intro pins s σ H xs us Q I r h
  cases xs with
  | nil => exact (show False from h).elim
  | cons x xs =>
    cases xs with
    | cons y ys => cases x <;> exact (show False from h).elim
    | nil =>
      cases x with
      | str y => exact call_len pins s σ H _ us Q I r ⟨_, y.length, rfl, ⟨h.1, rfl⟩, h.2⟩
      | ref p =>
        rcases (show _ ∨ _ from h) with ⟨xs, hx | hx, q⟩ | ⟨kvs, hk, q⟩
        · exact call_len pins s σ H _ us Q I r ⟨_, xs.length, rfl, .inl ⟨xs, hx, rfl⟩, q⟩
        · exact call_len pins s σ H _ us Q I r ⟨_, xs.length, rfl, .inr ⟨xs, hx, rfl⟩, q⟩
        · exact call_lenD pins s σ H _ us Q I r ⟨p, kvs, rfl, hk, q⟩
      | _ => exact (show False from h).elim

/-! ### isinstance of one built-in class -/
/-- the name of a value's built-in type -/
def tyN (x : V) (H : Hp) : Option String := match x with
  | .non => some "NoneType"
  | .bl _ => some "bool"
  | .int _ => some "int"
  | .str _ => some "str"
  | .ref a => match H a with
    | some (.lst _) => some "list"
    | some (.tup _) => some "tuple"
    | some (.dK _) => some "dict"
    | some (.frz _ (.lst _)) => some "list"
    | some (.frz _ (.dK _)) => some "dict"
    | _ => none
  | _ => none
def isB (t T : String) : Bool := t == T || (t == "bool" && T == "int")
theorem kitB_tab : ∀ t ∈ ["NoneType", "bool", "int", "str", "list", "tuple", "dict"], ∀ T ∈ ["bool", "int", "str", "list", "tuple", "dict", "float"], kitB t T = some (isB t T) := by decide +kernel
theorem tyN_tyX {K : PySem.W.Frag} {H : Hp} {x : V} {t : String} (h : tyN x H = some t) : TyX K H x (.type t) ∧ t ∈ ["NoneType", "bool", "int", "str", "list", "tuple", "dict"] := by
  cases x with
  | non => cases h; exact ⟨.base .non, by simp⟩
  | bl b => cases h; exact ⟨.base (.bl b), by simp⟩
  | int i => cases h; exact ⟨.base (.int i), by simp⟩
  | str y => cases h; exact ⟨.base (.str y), by simp⟩
  | ref a =>
    unfold tyN at h
    simp only at h
    split at h <;> first | (cases h; done) | skip
    · rename_i e; cases h; exact ⟨.base (.lst e), by simp⟩
    · rename_i e; cases h; exact ⟨.base (.tup e), by simp⟩
    · rename_i e; cases h; exact ⟨.base (.dK e), by simp⟩
    · rename_i e; cases h; exact ⟨.base (.frz e), by simp⟩
    · rename_i e; cases h; exact ⟨.fDict e, by simp⟩
  | _ => cases h
def rIs (T : String) : List V → Hp → VK → Prop := fun xs H Q => match xs with
  | [x, .ty T'] => T' = T ∧ ∃ t, tyN x H = some t ∧ Q (.bl (isB t T)) H
  | _ => False
theorem c_is (T : String) (hT : T ∈ ["bool", "int", "str", "list", "tuple", "dict", "float"] := by decide) : CallR X (.builtin "isinstance") (rIs T) := by
  intro pins s σ H xs us Q I r h
  unfold rIs at h
  split at h
  · obtain ⟨rfl, t, ht, q⟩ := h
    obtain ⟨ty, m⟩ := tyN_tyX (K := X.K) ht
    exact call_isi pins s σ H _ us Q I r ⟨_, _, _, _, _, rfl, .ty _, ty, kit_ty (kitB_tab _ m _ hT), q⟩
  · exact h.elim
end
end RS


namespace RS
open PySem PySem.Spec L2

/-- another surrounding of the same frames -/
structure Rb (k : Nat) (X : Cx) (B : Around) : Prop where
  room : Room k B
  gd : B.guards = some []
  fr : B.frames = X.A.frames
theorem Rm.here {k : Nat} {X : Cx} (r : Rm k X) : Rb k X X.A := ⟨r.room, r.gd, rfl⟩
theorem Rb.in1 {k : Nat} {X : Cx} {B : Around} (r : Rb (k + 1) X B) : Rb k X B.in1 := ⟨r.room.in1, r.gd, r.fr⟩
theorem Rb.mono {j k : Nat} {X : Cx} {B : Around} (r : Rb k X B) (h : j ≤ k) : Rb j X B := ⟨r.room.mono h, r.gd, r.fr⟩
theorem Rb.make {k : Nat} {X : Cx} {B : Around} (r : Rb (k + 1) X B) (C : Addr) (us : List Value) (kw : List (Str × Value)) : Rb k X (B.under (.builtin "type.__call__" ⟨.ref C :: us, kw⟩)) := by
  refine ⟨r.room.make C us kw, ?_, ?_⟩
  · have g : (Code.builtin "type.__call__" ⟨.ref C :: us, kw⟩).isGuard = false := by show guardIds.contains "type.__call__" = false; decide +kernel
    simp [Around.under, Code.guards, g, pushGuards, r.gd]
  · have e : (B.under (.builtin "type.__call__" ⟨.ref C :: us, kw⟩)).frames = B.frames := by
      first | rfl | simp [Around.under, Code.envs, Code.isFrame, pushEnvs]
    rw [e]; exact r.fr

section
variable {g : Wd} {X : Cx} {k : Nat} {f C : Addr} {fd : FuncData} {ps : List Str} {sp : Sp} {W : WX}
/-- the callee runs in another surrounding of the same frames -/
theorem runB {B : Around} (a : At g X) (F : FnG g k f fd ps sp) (hr : Rb k X B) (tk : Takes X W) {pins : List (Addr × Obj)} {σ : L2.St} {H : Hp} {s : Shared} {Q : VK} {args : Args} {us : List Value} {vs : List V}
    (I : Inv X pins σ H s) (hb : BindsTo s fd args (ps.zip us)) (r : Vals vs us) (h : sp vs H Q (fun c d H' => W c d σ H')) :
    codeAny (model X.prog X.w) B (.call (.ref f) args) (fun res s' => match res with | .ok fl => (match fl with | .ret u => EP X pins σ Q u s' | _ => False) | .error e => X.xe e s') s := by
  obtain ⟨P, w, K, mg, base⟩ := g
  obtain ⟨rfl, rfl, rfl, rfl, rfl⟩ := a
  have e := I.env0
  have e' : Env0 X.prog X.w X.K X.mg X.base B X.stack s H := ⟨hr.fr.trans e.frames, e.mod, e.bs, e.bsz, e.funs, e.frf, e.hok, e.bare⟩
  refine codeAny_mono (F.run B X.stack s H args us vs Q _ hr.room hr.gd e' hb r h) fun res s' hq => ?_
  cases res with
  | error e => exact tk e s' (XE.of_call (E := fun c d H' => W c d σ H') I (fun _ _ _ z => z) hq)
  | ok fl =>
    cases fl with
    | ret u => exact I.after hq
    | _ => exact hq.elim

/-- a method of the class at C -/
def Km (g : Wd) (C : Addr) (m : Str) (k : Nat) (ps : List Str) (ds : List V) (sp : Sp) : Prop :=
  ∃ f fd dsV, PySem.W.findIn g.K (.ref C) m = some (some (.ref f)) ∧ PySem.W.isFn g.K (.ref f) = true ∧ PySem.W.keepIn g.K (.ref f) = true ∧ FnG g k f fd ps sp ∧ Binds g.K fd ps dsV ∧ Vals ds dsV

/-- f(self, ..) by values, in any surrounding -/
theorem callB {B : Around} {ds : List V} {dsV : List Value} (a : At g X) (F : FnG g k f fd ps sp) (hr : Rb k X B) (tk : Takes X W) (hb : Binds g.K fd ps dsV) (rd : Vals ds dsV) {pins : List (Addr × Obj)} {σ : L2.St} {H : Hp} {s : Shared} {Q : VK} {us : List Value} {vs : List V}
    (I : Inv X pins σ H s) (r : Vals vs us) (h : sp (vs ++ ds) H Q (fun c d H' => W c d σ H')) : wpAny (model X.prog X.w) B (call (.ref f) us) (EP X pins σ Q) X.xe s := by
  have r2 := Vals.append r rd
  have hl : (us ++ dsV).length = ps.length := by rw [← r2.length]; exact F.len _ _ _ _ h
  have KI : g.K.In s.heap := by rw [← a.K]; exact I.kIn
  refine wpAny_call (codeAny_mono (runB a F hr tk I (hb s us KI hl) r2 h) fun res s' hq => ?_)
  cases res with
  | error e => exact hq
  | ok fl => cases fl with
    | ret u => exact hq
    | _ => exact hq.elim

/-! ### o.m(..) -/
variable {m : Str} {ds : List V} {o e : Expr} {es : List Expr} {ta : TE} {t : TA} {p pos apos : Pos}
def tMethG (C : Addr) (m : Str) (sp : Sp) (ds : List V) (W : WX) (ta : TE) (t : TA) : TE := fun σ H Q => ta σ H fun x H1 => ∃ a dx fs, x = .ref a ∧ H1 a = some (.ins C dx fs) ∧ fs.lookup m = none ∧
  t σ H1 fun vs H2 => sp (x :: (vs ++ ds)) H2 Q (fun c d H' => W c d σ H')
theorem pe_methG {pl : Sem Bool} (he : PE X o ta) (c : Cls g.K C) (F : Km g C m k ps ds sp) (hr : Rm k X) (tk : Takes X W) (ha : PA X (e :: es) t)
    (hst : starEach (e :: es) X.env = (false, eval e X.env) :: starEach es X.env := by rfl) (hpl : (backTo pos (starEach es X.env)).any (·.1) = false := by rfl)
    (ht : eval (.Call (.Attribute o m apos) (e :: es) [] pos) X.env = (do
      let ov ← eval o X.env
      standAt apos.atName
      let (f, first) ← holding [ov] (getMethod ov m pl)
      callWith pos f first (backTo pos (starEach (e :: es) X.env)) (backToKw pos (keywordEach [] X.env))) := by rfl) (a : At g X := by exact ⟨rfl, rfl, rfl, rfl, rfl⟩) :
    PE X (.Call (.Attribute o m apos) (e :: es) [] pos) (tMethG C m sp ds W ta t) := by
  obtain ⟨f, fd, dsV, hf, hi, hk, F, hb, rd⟩ := F
  refine ⟨fun pins s σ H Q I h => PySem.W.methodCall_KW (pl := pl) (thn (he.run pins s σ H _ I h) ?_) ht⟩
  rintro u s1 ⟨x, H1, I1, rx, q, dx, fs, rfl, ea, l, h1⟩
  obtain rfl : u = Value.ref q := rx
  refine getmeth_ok I1 ea (by rw [a.K]; exact c) (g := f) (by rw [a.K]; exact ⟨hf, hi, hk⟩) l ?_
  refine PySem.W.callWith_K (first := [.ref q]) (h₀ := X.base) I.ok.mod.kin (by rw [a.K]; exact hk) (thn (ha.run pos pins s1 σ H1 _ I1 h1) ?_) hst hpl
  rintro us s2 ⟨vs, H2, I2, r, q2⟩
  exact ⟨I2.kIn, callG (vs := .ref q :: vs) (us := .ref q :: us) a F hr tk hb rd I2 (.cons rfl r) q2⟩
theorem pe_methG0 {pl : Sem Bool} (he : PE X o ta) (c : Cls g.K C) (F : Km g C m k ps ds sp) (hr : Rm k X) (tk : Takes X W)
    (ht : eval (.Call (.Attribute o m apos) [] [] pos) X.env = (do
      let ov ← eval o X.env
      standAt apos.atName
      let (f, first) ← holding [ov] (getMethod ov m pl)
      callWith pos f first (backTo pos (starEach [] X.env)) (backToKw pos (keywordEach [] X.env))) := by rfl) (a : At g X := by exact ⟨rfl, rfl, rfl, rfl, rfl⟩) :
    PE X (.Call (.Attribute o m apos) [] [] pos) (tMethG C m sp ds W ta tNil) := by
  obtain ⟨f, fd, dsV, hf, hi, hk, F, hb, rd⟩ := F
  refine ⟨fun pins s σ H Q I h => PySem.W.methodCall_KW (pl := pl) (thn (he.run pins s σ H _ I h) ?_) ht⟩
  rintro u s1 ⟨x, H1, I1, rx, q, dx, fs, rfl, ea, l, h1⟩
  obtain rfl : u = Value.ref q := rx
  refine getmeth_ok I1 ea (by rw [a.K]; exact c) (g := f) (by rw [a.K]; exact ⟨hf, hi, hk⟩) l ?_
  exact PySem.W.callWith_K0 (first := [.ref q]) I1.kIn (by rw [a.K]; exact hk) (callG (vs := [.ref q]) (us := [.ref q]) a F hr tk hb rd I1 (.cons rfl .nil) h1)

/-! ### C(..) -/
/-- the class at C, made by its own __init__ -/
def Kc (g : Wd) (x : Str) (C : Addr) (k : Nat) (ps : List Str) (ds : List V) (sp : Sp) : Prop :=
  g.mg x = some (.ref C) ∧ ∃ f fd dsV, Mk g.K C f ∧ FnG g k f fd ps sp ∧ Binds g.K fd ps dsV ∧ Vals ds dsV
theorem makeG {dsV : List Value} (a : At g X) (M : Mk g.K C f) (F : FnG g k f fd ps sp) (hr : Rm (k + 1) X) (tk : Takes X W) (rd : Vals ds dsV) {pins : List (Addr × Obj)} {σ : L2.St} {H : Hp} {s : Shared} {Q : VK} {us : List Value} {kw : List (Str × Value)} {all : List Value} {vs : List V}
    (I : Inv X pins σ H s) (r : Vals vs all)
    (hb : ∀ s' : Shared, g.K.In s'.heap → BindsTo s' fd ⟨.ref (s.heap.objs.size + 1) :: us, kw⟩ (ps.zip (.ref (s.heap.objs.size + 1) :: all)))
    (h : ∀ y dy, H y = none → H dy = none → dy ≠ y → sp (.ref y :: vs) (upd (upd H dy (.own y)) y (.ins C dy [])) (fun v H2 => v = .non ∧ Q (.ref y) H2) (fun c d H' => W c d σ H')) :
    wpAny (model X.prog X.w) X.A (call (.ref C) us kw) (EP X pins σ Q) X.xe s := by
  have hq := h (s.heap.objs.size + 1) s.heap.objs.size (I.hok.fresh (Nat.le_succ _)) (I.hok.fresh (Nat.le_refl _)) (Nat.ne_of_lt (Nat.lt_succ_self _))
  have J := Inv.made (C := C) I
  have KI := J.kIn
  rw [a.K] at KI
  have rr : Vals (V.ref (s.heap.objs.size + 1) :: vs) (Value.ref (s.heap.objs.size + 1) :: all) := .cons rfl r
  refine wpAny_call (make_map (K := X.K) (f := f) I.kIn (by rw [a.K]; exact M.makes) (by rw [a.K]; exact M.init) (by rw [a.K]; exact beq_iff_eq.mp M.fn) (codeAny_mono (runB a F (hr.here.make C us kw) tk J (hb _ KI) rr hq) fun res s' hz => ?_))
  cases res with
  | error e => exact hz
  | ok fl => cases fl with
    | ret u =>
      obtain ⟨v, H', I3, rv, rfl, q3⟩ := hz
      exact ⟨rv, ⟨.ref (s.heap.objs.size + 1), H', I3, rfl, q3⟩⟩
    | _ => exact hz.elim
def tMakeG (C : Addr) (sp : Sp) (ds : List V) (W : WX) (t : TA) : TE := fun σ H Q => t σ H fun vs H1 => ∀ y dy, H1 y = none → H1 dy = none → dy ≠ y →
  sp (.ref y :: (vs ++ ds)) (upd (upd H1 dy (.own y)) y (.ins C dy [])) (fun v H2 => v = .non ∧ Q (.ref y) H2) (fun c d H' => W c d σ H')
variable {x : Str}
theorem pe_makeG (F : Kc g x C k ps ds sp) (hr : Rm (k + 1) X) (tk : Takes X W) (ha : PA X (e :: es) t) (hg : Gl X x := by rfl) (hdb : (x == ("__debug__" : Str)) = false := by decide)
    (he : starEach (e :: es) X.env = (false, eval e X.env) :: starEach es X.env := by rfl) (hpl : (backTo pos (starEach es X.env)).any (·.1) = false := by rfl) (a : At g X := by exact ⟨rfl, rfl, rfl, rfl, rfl⟩) :
    PE X (.Call (.Name x p) (e :: es) [] pos) (tMakeG C sp ds W t) := by
  obtain ⟨hm, f, fd, dsV, M, F, hb, rd⟩ := F
  refine ⟨fun pins s σ H Q I h => wpAny_Call_Name_kw (ld_glob I hg (by rw [a.mg]; exact hm) ?_ hdb)⟩
  refine PySem.W.callWith_K (h₀ := X.base) I.ok.mod.kin (by rw [a.K]; exact M.kp) (thn (ha.run pos pins s σ H _ I h) ?_) he hpl
  rintro us s1 ⟨vs, H1, I1, r, q⟩
  have r2 := Vals.append r rd
  refine ⟨I1.kIn, makeG a M F hr tk rd I1 r2 (fun s' KI => ?_) q⟩
  have hl := F.len _ _ _ _ (q (s1.heap.objs.size + 1) s1.heap.objs.size (I1.hok.fresh (Nat.le_succ _)) (I1.hok.fresh (Nat.le_refl _)) (Nat.ne_of_lt (Nat.lt_succ_self _)))
  exact hb s' (.ref (s1.heap.objs.size + 1) :: us) KI (by
    rw [← hl]
    show (us ++ dsV).length + 1 = (vs ++ ds).length + 1
    rw [← r2.length])
theorem pe_makeG0 (F : Kc g x C k ps ds sp) (hr : Rm (k + 1) X) (tk : Takes X W) (hg : Gl X x := by rfl) (hdb : (x == ("__debug__" : Str)) = false := by decide) (a : At g X := by exact ⟨rfl, rfl, rfl, rfl, rfl⟩) :
    PE X (.Call (.Name x p) [] [] pos) (tMakeG C sp ds W tNil) := by
  obtain ⟨hm, f, fd, dsV, M, F, hb, rd⟩ := F
  refine ⟨fun pins s σ H Q I h => wpAny_Call_Name_kw (ld_glob I hg (by rw [a.mg]; exact hm) ?_ hdb)⟩
  refine PySem.W.callWith_K0 I.kIn (by rw [a.K]; exact M.kp) (makeG a M F hr tk rd I (vs := [] ++ ds) rd (fun s' KI => ?_) h)
  have hl := F.len _ _ _ _ (h (s.heap.objs.size + 1) s.heap.objs.size (I.hok.fresh (Nat.le_succ _)) (I.hok.fresh (Nat.le_refl _)) (Nat.ne_of_lt (Nat.lt_succ_self _)))
  exact hb s' [.ref (s.heap.objs.size + 1)] KI (by
    rw [← hl]
    show dsV.length + 1 = ds.length + 1
    rw [← rd.length])
end
end RS


namespace RS
open PySem PySem.Spec L2
section
variable {g : Wd} {X : Cx} {k : Nat} {f C : Addr} {fd : FuncData} {ps ks : List Str} {sp : Sp} {W : WX} {ds : List V} {x : Str} {p pos : Pos} {kws : List Keyword} {tk' : TA} {pm : List Nat}

/-! ### calls by keywords alone: pm tells which keyword's value each parameter gets -/
def Kk (g : Wd) (x : Str) (k : Nat) (ps ks : List Str) (pm : List Nat) (sp : Sp) : Prop :=
  ∃ f fd, g.mg x = some (.ref f) ∧ PySem.W.keepIn g.K (.ref f) = true ∧ FnG g k f fd ps sp ∧
    ∀ (s : Shared) (ws : List Value), ws.length = ks.length → BindsTo s fd ⟨[], ks.zip ws⟩ (ps.zip (pm.map fun i => ws.getD i .none))
theorem vals_getD {zs : List V} {ws : List Value} (r : Vals zs ws) (i : Nat) : RelV (zs.getD i .non) (ws.getD i .none) := by
  cases e : zs[i]? with
  | none =>
    have e2 := Vals.none_of r e
    rw [List.getD_eq_getElem?_getD, List.getD_eq_getElem?_getD, e, e2]
    exact rfl
  | some v =>
    obtain ⟨u, e2, rv⟩ := r.get e
    rw [List.getD_eq_getElem?_getD, List.getD_eq_getElem?_getD, e, e2]
    exact rv
theorem vals_pm {zs : List V} {ws : List Value} (r : Vals zs ws) : ∀ pm : List Nat, Vals (pm.map fun i => zs.getD i .non) (pm.map fun i => ws.getD i .none)
  | [] => .nil
  | i :: pm => .cons (vals_getD r i) (vals_pm r pm)
def tCallK (n : Nat) (sp : Sp) (pm : List Nat) (W : WX) (t : TA) : TE := fun σ H Q => t σ H fun zs H1 => zs.length = n ∧ sp (pm.map fun i => zs.getD i .non) H1 Q (fun c d H' => W c d σ H')
theorem pe_callK (F : Kk g x k ps ks pm sp) (hr : Rm k X) (tk : Takes X W) (hkw : PK X kws tk') (hg : Gl X x := by rfl)
    (hall : (backToKw pos (keywordEach kws X.env)).all (·.1.isSome) = true := by rfl) (hks : (backToKw pos (keywordEach kws X.env)).filterMap (·.1) = ks := by rfl) (hdb : (x == ("__debug__" : Str)) = false := by decide)
    (hpl : ((backTo pos (starEach [] X.env)).any (·.1) || (backToKw pos (keywordEach kws X.env)).any (·.1.isNone)) = false := by rfl) (a : At g X := by exact ⟨rfl, rfl, rfl, rfl, rfl⟩) :
    PE X (.Call (.Name x p) [] kws pos) (tCallK ks.length sp pm W tk') := by
  obtain ⟨f, fd, hm, hk, F, hb⟩ := F
  refine ⟨fun pins s σ H Q I h => wpAny_Call_Name_kw (ld_glob I hg (by rw [a.mg]; exact hm) ?_ hdb)⟩
  refine PySem.W.callWith_KW0 (h₀ := X.base) I.ok.mod.kin (by rw [a.K]; exact hk) hall (thn (hkw.run pos pins s σ H _ I h) ?_) hpl
  rintro ws s2 ⟨zs, H2, I2, rz, lz, q⟩
  refine ⟨I2.kIn, ?_⟩
  rw [hks]
  refine wpAny_call (codeAny_mono (runG a F hr tk I2 (hb s2 ws (by rw [← rz.length]; exact lz)) (vals_pm rz pm) q) fun res s' hq => ?_)
  cases res with
  | error e => exact hq
  | ok fl => cases fl with
    | ret u => exact hq
    | _ => exact hq.elim
/-- C(k = v, ..) -/
def Kck (g : Wd) (x : Str) (C : Addr) (k : Nat) (ps ks : List Str) (pm : List Nat) (sp : Sp) : Prop :=
  g.mg x = some (.ref C) ∧ ∃ f fd, Mk g.K C f ∧ FnG g k f fd ps sp ∧
    ∀ (s : Shared) (y : Value) (ws : List Value), ws.length = ks.length → BindsTo s fd ⟨[y], ks.zip ws⟩ (ps.zip (y :: pm.map fun i => ws.getD i .none))
def tMakeK (n : Nat) (C : Addr) (sp : Sp) (pm : List Nat) (W : WX) (t : TA) : TE := fun σ H Q => t σ H fun zs H1 => zs.length = n ∧ ∀ y dy, H1 y = none → H1 dy = none → dy ≠ y →
  sp (.ref y :: pm.map fun i => zs.getD i .non) (upd (upd H1 dy (.own y)) y (.ins C dy [])) (fun v H2 => v = .non ∧ Q (.ref y) H2) (fun c d H' => W c d σ H')
theorem pe_makeK (F : Kck g x C k ps ks pm sp) (hr : Rm (k + 1) X) (tk : Takes X W) (hkw : PK X kws tk') (hg : Gl X x := by rfl)
    (hall : (backToKw pos (keywordEach kws X.env)).all (·.1.isSome) = true := by rfl) (hks : (backToKw pos (keywordEach kws X.env)).filterMap (·.1) = ks := by rfl) (hdb : (x == ("__debug__" : Str)) = false := by decide)
    (hpl : ((backTo pos (starEach [] X.env)).any (·.1) || (backToKw pos (keywordEach kws X.env)).any (·.1.isNone)) = false := by rfl) (a : At g X := by exact ⟨rfl, rfl, rfl, rfl, rfl⟩) :
    PE X (.Call (.Name x p) [] kws pos) (tMakeK ks.length C sp pm W tk') := by
  obtain ⟨hm, f, fd, M, F, hb⟩ := F
  refine ⟨fun pins s σ H Q I h => wpAny_Call_Name_kw (ld_glob I hg (by rw [a.mg]; exact hm) ?_ hdb)⟩
  refine PySem.W.callWith_KW0 (h₀ := X.base) I.ok.mod.kin (by rw [a.K]; exact M.kp) hall (thn (hkw.run pos pins s σ H _ I h) ?_) hpl
  rintro ws s2 ⟨zs, H2, I2, rz, lz, q⟩
  refine ⟨I2.kIn, ?_⟩
  rw [hks]
  exact makeG a M F hr tk .nil I2 (vals_pm rz pm) (fun s' _ => hb s' _ ws (by rw [← rz.length]; exact lz)) q

/-! ### o.f as a target among others -/
def gFld (K : PySem.W.Frag) (ta : TE) (f : Str) : TG := fun v σ H Q => ta σ H fun x H1 => ∃ a C dx fs, x = .ref a ∧ H1 a = some (.ins C dx fs) ∧ Cls K C ∧ NoAttr K C f ∧ fs.length < 1000 ∧ Q σ (upd H1 a (.ins C dx (putF f v fs)))
theorem pg_fld {o : Expr} {fl : Str} {ta : TE} (ho : PE X o ta) : PG X (.Attribute o fl pos) (gFld X.K ta fl) := by
  refine ⟨fun pins s σ H v u Q I r h => ?_⟩
  rw [assign_Attribute]
  refine wpAny_bind (wpAny_holding (thn (ho.run pins s σ H _ I h) ?_))
  rintro ov s1 ⟨y, H1, I1, ry, a, C, dx, fs, rfl, ea, c, n, l, q⟩
  obtain rfl : ov = Value.ref a := ry
  refine wpAny_bind (wpAny_standAt (wpAny_bind (wpAny_holding ?_)))
  exact setattr_ok I1 ea c n l r fun s2 I2 => wpAny_release ⟨σ, _, I2, q⟩

/-! ### ==, !=, bool of an instance, by its own defs -/
theorem noRef_mro : ∀ T ∈ ["NoneType", "bool", "int", "str", "list", "tuple", "dict"], ((fastBuiltinMro T).any fun l => l.all fun v => match v with | .type _ => true | _ => false) = true := by decide +kernel
theorem notFirst_ty {K : PySem.W.Frag} {C : Addr} {T : String} (h : T ∈ ["NoneType", "bool", "int", "str", "list", "tuple", "dict"]) : PySem.W.notFirst K C (.type T) = true := by
  have e := noRef_mro T h
  unfold PySem.W.notFirst PySem.W.subIn
  cases q : fastBuiltinMro T with
  | none => rw [q] at e; cases e
  | some l =>
    rw [q] at e
    simp only [q]
    have e2 : l.contains (.ref C) = false := by
      rw [List.contains_eq_any_beq, List.any_eq_false]
      intro v hv
      have z := List.all_eq_true.mp (show (l.all fun v => match v with | .type _ => true | _ => false) = true from e) v hv
      cases v <;> first | (intro z2; cases z2; done) | (cases z; done) | skip
      all_goals simp
    show (_ || ((some l).map _ == some false)) = true
    rw [Option.map_some, e2]
    simp
/-- what may stand on the other side: a plain thing, or an instance of the same class -/
def Oth (C : Addr) (H : Hp) (y : V) : Prop := (∃ t, tyN y H = some t) ∨ ∃ b dx fs, y = .ref b ∧ H b = some (.ins C dx fs)
theorem oth_looks {pins : List (Addr × Obj)} {σ : L2.St} {H : Hp} {s : Shared} {y : V} {u : Value} (I : Inv X pins σ H s) (o : Oth C H y) (r : RelV y u) :
    ∃ tb, PySem.W.Looks (model X.prog X.w) s.heap (typeOf u) tb ∧ PySem.W.notFirst X.K C tb = true := by
  rcases o with ⟨t, ht⟩ | ⟨b, dx, fs, rfl, hb⟩
  · obtain ⟨ty, m⟩ := tyN_tyX (K := X.K) ht
    obtain ⟨P, Z, hp, _⟩ := kit_of I r ty
    exact ⟨.type t, Z.ty _ _ I.kIn hp, notFirst_ty m⟩
  · cases r
    obtain ⟨mA, J, _⟩ := ins_get I.hok hb
    obtain ⟨od, J, _⟩ := J.look
    exact ⟨.ref C, J.type, by simp [PySem.W.notFirst]⟩
def rEqOwn (C : Addr) (sp : Sp) (ds : List V) (W : WX) (neg : Bool) : L2.St → R2 := fun σ x y H Q => ∃ a dx fs, x = .ref a ∧ H a = some (.ins C dx fs) ∧ Oth C H y ∧
  sp ([x, y] ++ ds) H (fun v H' => ∃ b, v = .bl b ∧ Q (.bl (if neg then !b else b)) H') (fun c d H' => W c d σ H')
theorem run_eq (F : Km g C "__eq__" k ps ds sp) {B : Around} (hr : Rb k X B) (tk : Takes X W) (a : At g X) {pins : List (Addr × Obj)} {σ : L2.St} {H : Hp} {s : Shared} {y : V} {u : Value} {Q : Bool → Hp → Prop} {q dx : Addr} {fs : List (Str × V)}
    (I : Inv X pins σ H s) (ea : H q = some (.ins C dx fs)) (o : Oth C H y) (r : RelV y u) (h : sp ([.ref q, y] ++ ds) H (fun v H' => ∃ b, v = .bl b ∧ Q b H') (fun c d H' => W c d σ H')) :
    wpAny (model X.prog X.w) B (richCompare .Eq (.ref q) u) (fun v s' => ∃ b H', v = .bool b ∧ Inv X pins σ H' s' ∧ Q b H') X.xe s := by
  obtain ⟨f, fd, dsV, hf, hi, hk, F, hb, rd⟩ := F
  obtain ⟨tb, L, nf⟩ := oth_looks I o r
  obtain ⟨mA, J, _⟩ := ins_get I.hok ea
  obtain ⟨od, J, _⟩ := J.look
  obtain ⟨m, hF⟩ := I.fr
  refine PySem.W.cmp_K (op := .Eq) hr.room.units0 hF I.ok.mod.kin J L nf (by rw [a.K]; exact hf) (by rw [a.K]; exact hi) (wpAny_mono (callB a F hr tk hb rd (vs := [.ref q, y]) (us := [.ref q, u]) I (.cons rfl (.cons r .nil)) h) ?_ fun _ _ z => z)
  rintro v s' ⟨z, H', I', rz, b, rfl, hq⟩
  cases rz
  exact ⟨b, H', rfl, I', hq⟩
end
section
variable {g : Wd} {X : Cx} {k : Nat} {C : Addr} {ps : List Str} {sp : Sp} {W : WX} {ds : List V} {p pos : Pos} {a b : Expr} {ta tb : TE}
def tEqOwn (C : Addr) (sp : Sp) (ds : List V) (W : WX) (neg : Bool) (ta tb : TE) : TE := fun σ H Q => ta σ H fun x H1 => tb σ H1 fun y H2 => rEqOwn C sp ds W neg σ x y H2 Q
theorem c_eqOwn (F : Km g C "__eq__" k ps ds sp) (hr : Rm k X) (tk : Takes X W) (ha : PE X a ta) (hb : PE X b tb) (at_ : At g X := by exact ⟨rfl, rfl, rfl, rfl, rfl⟩) : PC X .Eq a b (tEqOwn C sp ds W false ta tb) := by
    refine ⟨fun pins s σ H Q I h => ?_⟩
    refine bin (R := fun x y H2 => rEqOwn C sp ds W false σ x y H2 Q) ha hb I h fun v u s2 x y H2 I2 rx ry q => ?_
    obtain ⟨q, dx, fs, rfl, ea, o, hs⟩ := q
    cases rx
    refine wpAny_mono (run_eq F hr.here tk at_ (Q := fun b H' => Q (.bl b) H') I2 ea o ry hs) ?_ fun _ _ z => z
    rintro v s' ⟨b, H', rfl, I', hq⟩
    exact ⟨.bl b, H', I', rfl, hq⟩
theorem e_eqOwn (F : Km g C "__eq__" k ps ds sp) (hr : Rm k X) (tk : Takes X W) (ha : PE X a ta) (hb : PE X b tb) (at_ : At g X := by exact ⟨rfl, rfl, rfl, rfl, rfl⟩) : PE X (.Compare a [.Eq] [b] pos) (tEqOwn C sp ds W false ta tb) := pe_cmp (c_eqOwn F hr tk ha hb at_) (nomark b)
theorem t_eqOwn (F : Km g C "__eq__" k ps ds sp) (hr : Rm k X) (tk : Takes X W) (ha : PE X a ta) (hb : PE X b tb) (at_ : At g X := by exact ⟨rfl, rfl, rfl, rfl, rfl⟩) : PT X (.Compare a [.Eq] [b] pos) (tB (tEqOwn C sp ds W false ta tb)) := pt_cmp (c_eqOwn F hr tk ha hb at_) (nomark b)
end
section
variable {g : Wd} {X : Cx} {k : Nat} {C : Addr} {ps : List Str} {sp : Sp} {W : WX} {ds : List V}

/-- what the written part says of != and bool of the class -/
structure Plain (g : Wd) (C : Addr) : Prop where
  ne : PySem.W.findIn g.K (.ref C) "__ne__" = some (some (.builtin "object.__ne__"))
  ob : PySem.W.mroIn g.K C (.type "object") = some true
end
end RS


namespace RS
open PySem PySem.Spec L2
section
variable {M : Model} {A : Around} {E : Value → Shared → Prop} {s : Shared} {K : PySem.W.Frag} {x C : Addr} {ox : Obj} {od : Option Obj} {name : Str} {id : String}
/-- a special method that is a built-in, where it is bound -/
theorem ifBound_B {args : List Value} {Q : Option Value → Shared → Prop} (KI : K.In s.heap) (I : PySem.W.InstAt s.heap x ox C od) (hs : PySem.W.findIn K (.ref C) name = some (some (.builtin id)))
    (hb : ∀ self, bindSpecial (.builtin id) self = pure (.builtin id, [self])) (h : wpAny M A (call (.builtin id) (.ref x :: args)) (fun v => Q (some v)) E s) : wpAny M A (callSpecialIfBound? (.ref x) name args) Q E s := by
  simp only [callSpecialIfBound?, bindSpecialIfBound?]
  refine wpAny_holding (wpAny_bind (wpAny_bind (wpAny_bind (I.type.here ((PySem.W.looks_findIn KI hs).here ?_)))))
  refine wpAny_bind (wpAny_askSetting (wpAny_ite ?_))
  have fin : wpAny M A (call (.builtin id) ([.ref x] ++ args) >>= fun v => pure (some v)) Q E s := wpAny_bind (wpAny_mono h (fun v s' h' => wpAny_pure h') fun _ _ h' => h')
  split
  · exact wpAny_bind ((PySem.W.Looks.of_pure (hb _)).here (wpAny_pure (by exact fin)))
  · exact wpAny_tryCatch (wpAny_bind ((PySem.W.Looks.of_pure (hb _)).here (wpAny_pure (by exact fin))))
end
section
variable {g : Wd} {X : Cx} {k : Nat} {C : Addr} {ps : List Str} {sp : Sp} {W : WX} {ds : List V} {p pos : Pos} {a b : Expr} {ta tb : TE}
theorem bind_ne : ∀ self, bindSpecial (.builtin "object.__ne__") self = pure (.builtin "object.__ne__", [self]) := fun self => (F.cmp_object.ne).bind self
theorem run_ne (F : Km g C "__eq__" k ps ds sp) (Pl : Plain g C) {B : Around} (hr : Rb (k + 1) X B) (tk : Takes X W) (at_ : At g X) {pins : List (Addr × Obj)} {σ : L2.St} {H : Hp} {s : Shared} {y : V} {u : Value} {Q : Bool → Hp → Prop} {q dx : Addr} {fs : List (Str × V)}
    (I : Inv X pins σ H s) (ea : H q = some (.ins C dx fs)) (o : Oth C H y) (r : RelV y u) (h : sp ([.ref q, y] ++ ds) H (fun v H' => ∃ b, v = .bl b ∧ Q (!b) H') (fun c d H' => W c d σ H')) :
    wpAny (model X.prog X.w) B (richCompare .NotEq (.ref q) u) (fun v s' => ∃ b H', v = .bool b ∧ Inv X pins σ H' s' ∧ Q b H') X.xe s := by
  obtain ⟨f, fd, dsV, hf, hi, hk, F, hb, rd⟩ := F
  obtain ⟨tb, L, nf⟩ := oth_looks I o r
  obtain ⟨mA, J, _⟩ := ins_get I.hok ea
  obtain ⟨od, J, _⟩ := J.look
  have KI : X.K.In s.heap := I.kIn
  have inner : wpAny (model X.prog X.w) B (tryCompare (.ref q) (cmpInfo .NotEq).2.1 u) (fun r s' => ∃ b H', r = some (.bool b) ∧ Inv X pins σ H' s' ∧ Q b H') X.xe s := by
    unfold tryCompare
    refine wpAny_bind (ifBound_B (id := "object.__ne__") KI J (by rw [at_.K]; exact Pl.ne) bind_ne ?_)
    refine wpAny_call (codeAny_call_builtin (PySem.F.cmp_object.ne).plain PySem.F.cmpEntry_ne (PySem.W.check_slot (i := "object.__ne__") (owner := "object") (n := "__ne__") PySem.F.cmpKind_ne PySem.F.cmpSplit_ne (J.type.andThen (PySem.W.looks_mroIn KI (by rw [at_.K]; exact Pl.ob))) (PySem.F.cmpArgs_ne _ _) ?_))
    unfold Builtin.«object.__ne__»
    refine wpAny_bind (wpAny_of_eq (a := (.ref q, [u])) (by first | rfl | kernel_rfl) ?_)
    refine wpAny_bind (wpAny_cRoomFor (hr.in1.room.units0) ?_)
    refine wpAny_bind (PySem.W.ifBound_K KI J (by rw [at_.K]; exact hf) (by rw [at_.K]; exact hi) (wpAny_mono (callB at_ F hr.in1 tk hb rd (vs := [.ref q, y]) (us := [.ref q, u]) I (.cons rfl (.cons r .nil)) h) ?_ fun _ _ z => z))
    rintro v s' ⟨z, H', I', rz, b, rfl, hq⟩
    cases rz
    refine wpAny_bind (wpAny_truthy_bool ?_)
    refine wpAny_pure ?_
    refine wpAny_pure ?_
    exact ⟨!b, H', rfl, I', hq⟩
  unfold richCompare
  simp only [oneThing_ref]
  refine wpAny_holding (wpAny_bind (wpAny_cRoomFor hr.room.units0 ?_))
  refine wpAny_bind (J.type.here (wpAny_bind (L.here ?_)))
  have rest : wpAny (model X.prog X.w) B (tryCompare (.ref q) (cmpInfo .NotEq).2.1 u) (fun r s' => ∃ v, r = some v ∧ ∃ b H', v = .bool b ∧ Inv X pins σ H' s' ∧ Q b H') X.xe s :=
    wpAny_mono inner (fun r s' ⟨b, H', e, z⟩ => ⟨_, e, b, H', rfl, z⟩) fun _ _ z => z
  split
  · rename_i ne
    have e : PySem.W.subIn X.K tb (.ref C) = some false := by
      rcases Bool.or_eq_true_iff.mp nf with e | e
      · rw [beq_iff_eq.mp e] at ne; simp at ne
      · exact beq_iff_eq.mp e
    refine wpAny_bind ((PySem.W.looks_subIn KI e).here ?_)
    simp only [Bool.false_eq_true, if_false]
    refine wpAny_bind (wpAny_mono rest ?_ fun _ _ z => z)
    rintro r s' ⟨v, rfl, z⟩
    exact wpAny_pure z
  · refine wpAny_bind (wpAny_pure ?_)
    simp only [Bool.false_eq_true, if_false]
    refine wpAny_bind (wpAny_mono rest ?_ fun _ _ z => z)
    rintro r s' ⟨v, rfl, z⟩
    exact wpAny_pure z
theorem c_neOwn (F : Km g C "__eq__" k ps ds sp) (Pl : Plain g C) (hr : Rm (k + 1) X) (tk : Takes X W) (ha : PE X a ta) (hb : PE X b tb) (at_ : At g X := by exact ⟨rfl, rfl, rfl, rfl, rfl⟩) : PC X .NotEq a b (tEqOwn C sp ds W true ta tb) := by
    refine ⟨fun pins s σ H Q I h => ?_⟩
    refine bin (R := fun x y H2 => rEqOwn C sp ds W true σ x y H2 Q) ha hb I h fun v u s2 x y H2 I2 rx ry q => ?_
    obtain ⟨q, dx, fs, rfl, ea, o, hs⟩ := q
    cases rx
    refine wpAny_mono (run_ne F Pl hr.here tk at_ (Q := fun b H' => Q (.bl b) H') I2 ea o ry hs) ?_ fun _ _ z => z
    rintro v s' ⟨b, H', rfl, I', hq⟩
    exact ⟨.bl b, H', I', rfl, hq⟩

theorem e_neOwn (F : Km g C "__eq__" k ps ds sp) (Pl : Plain g C) (hr : Rm (k + 1) X) (tk : Takes X W) (ha : PE X a ta) (hb : PE X b tb) (at_ : At g X := by exact ⟨rfl, rfl, rfl, rfl, rfl⟩) : PE X (.Compare a [.NotEq] [b] pos) (tEqOwn C sp ds W true ta tb) := pe_cmp (c_neOwn F Pl hr tk ha hb at_) (nomark b)
theorem t_neOwn (F : Km g C "__eq__" k ps ds sp) (Pl : Plain g C) (hr : Rm (k + 1) X) (tk : Takes X W) (ha : PE X a ta) (hb : PE X b tb) (at_ : At g X := by exact ⟨rfl, rfl, rfl, rfl, rfl⟩) : PT X (.Compare a [.NotEq] [b] pos) (tB (tEqOwn C sp ds W true ta tb)) := pt_cmp (c_neOwn F Pl hr tk ha hb at_) (nomark b)

/-! ### bool(o) by the own __bool__ -/
def rBoolOwn (C : Addr) (sp : Sp) (ds : List V) (W : WX) : L2.St → List V → Hp → VK → Prop := fun σ xs H Q => ∃ q dx fs, xs = [.ref q] ∧ H q = some (.ins C dx fs) ∧
  sp ([.ref q] ++ ds) H (fun v H' => ∃ b, v = .bl b ∧ Q (.bl b) H') (fun c d H' => W c d σ H')
def tBoolOwn (C : Addr) (sp : Sp) (ds : List V) (W : WX) (ta : TA) : TE := fun σ H Q => ta σ H fun xs H1 => rBoolOwn C sp ds W σ xs H1 Q
theorem e_boolOwn {e : Expr} {t : TA} (F : Km g C "__bool__" k ps ds sp) (hr : Rm (k + 2) X) (tk : Takes X W) (hm : X.mg "bool" = none) (ha : PA X [e] t) (hg : Gl X "bool" := by rfl)
    (he : starEach (e :: []) X.env = (false, eval e X.env) :: starEach [] X.env := by rfl) (hpl : (backTo pos (starEach [] X.env)).any (·.1) = false := by rfl) (at_ : At g X := by exact ⟨rfl, rfl, rfl, rfl, rfl⟩) :
    PE X (.Call (.Name "bool" p) [e] [] pos) (tBoolOwn C sp ds W t) := by
  obtain ⟨f, fd, dsV, hf, hi, hk, F, hb, rd⟩ := F
  refine ⟨fun pins s σ H Q I h => wpAny_Call_Name_kw (ld_blt (u := .type "bool") I hg hm (by decide +kernel) ?_ (by decide) (by decide))⟩
  refine PyProof.Rows.callWith_type1 (thn (ha.run pos pins s σ H _ I h) ?_) he hpl
  rintro us s1 ⟨vs, H1, I1, r1, q, dx, fs, rfl, ea, hs⟩
  obtain ⟨u, rfl, ru⟩ := vals1 r1
  cases ru
  obtain ⟨mA, J, _⟩ := ins_get I1.hok ea
  obtain ⟨od, J, _⟩ := J.look
  obtain ⟨m, hF⟩ := I1.fr
  have tr : wpAny (model X.prog X.w) X.A.in1.in1 (truthy (.ref q)) (fun b s' => ∃ H', Inv X pins σ H' s' ∧ Q (.bl b) H') X.xe s1 := by
    refine PySem.W.truthy_K hF I1.ok.mod.kin J (by rw [at_.K]; exact hf) (by rw [at_.K]; exact hi) (wpAny_mono (callB at_ F hr.here.in1.in1 tk hb rd (vs := [.ref q]) (us := [.ref q]) I1 (.cons rfl .nil) hs) ?_ fun _ _ z => z)
    rintro v s' ⟨z, H', I', rz, b, rfl, hq⟩
    cases rz
    exact ⟨H', I', hq⟩
  refine callType_newIn PySem.F.called_bool PySem.F.newNe_bool (PySem.F.typeCall_bool_1 _) (PySem.F.newCall_bool_1 _) (fun obj => PySem.F.args_object_init_2 obj _) PySem.F.entry_bool_new
    (S := fun A R s' => wpAny (model X.prog X.w) A.in1 (truthy (.ref q)) (fun b s2 => R (.ok (.ret (.bool b))) s2) (fun e s2 => R (.error e) s2) s') (MeetsIn.of_wp fun A R s' hs' => ?_) ?_
  · obtain ⟨hp, g', d', tk', os'⟩ := s'
    have f1 := PySem.F.conv_sub_bool
    repeat (any_goals (first | (with_reducible refine wpAny_bind (wpAny_mono hs' ?_ fun _ _ z => z)) | wp_step))
    all_goals (intro b s2 h2)
    all_goals exact wpAny_pure ⟨_, rfl, h2⟩
  · refine wpAny_mono tr ?_ fun _ _ z => z
    rintro b s' ⟨H', I', hq⟩
    exact ⟨typeIs_bool _ _, .bl b, H', I', rfl, hq⟩
end
end RS


namespace RS
open PySem PySem.Spec PyProof.Rows L2

/-- the law's call, from its promise, where no repr is under way -/
theorem lawG {P : Program} {w : World} {K : PySem.W.Frag} {mg mb : Str → Option Value} {k : Nat} {fa a : Addr} {fd : FuncData} {x : Str} {sp : Sp} {s₁ : Shared} {vs : List Value} {ns : List Int}
    (KX : K.In s₁.heap) (gl : s₁.heap.Ns mainGlobals mg) (bl : s₁.heap.Ns builtinsNs mb) (bb : ∀ x : Str, x ≠ "__name__" → mb x = bootBuiltins x) (lim : s₁.heap.NoLimit) (ge : s₁.gens = #[])
    (ha : s₁.heap.get? a = some { cls := .type "list", data := .seq vs.toArray }) (hi : IntsAre vs ns) (hl : ns.length ≤ sizeLine) (hr : Room k callerA)
    (F : ∀ base : Heap, K.In base → base.Ns mainGlobals mg → FnG ⟨P, w, K, mg, base⟩ k fa fd [x] sp) (bd : ∀ (s : Shared) (u : Value), BindsTo s fd ⟨[u], []⟩ [(x, u)])
    (hsp : ∀ H : Hp, Only H → SqL K H a (ns.map V.int) → sp [.ref a] H (fun v _ => v = .bl true) fun _ _ _ => False) :
    codeAny (model P w) callerA (.call (.ref fa) ⟨[.ref a], []⟩) (fun r s' => r = .ok (.ret (.bool true)) ∧ OldK s₁.heap s'.heap ∧ s'.os = s₁.os ∧ AllBare s'.gens) s₁ := by
  have rv := vals_ints hi
  -- H tracks the script, or nothing
  have go : ∀ H : Hp, Only H → SqL K H a (ns.map V.int) → HOk P w H s₁.heap → (∀ b o, s₁.heap.get? b = some o → (∃ u, H b = some u) → b = a ∧ K.lookup a = none) →
      codeAny (model P w) callerA (.call (.ref fa) ⟨[.ref a], []⟩) (fun r s' => r = .ok (.ret (.bool true)) ∧ OldK s₁.heap s'.heap ∧ s'.os = s₁.os ∧ AllBare s'.gens) s₁ := by
    intro H hO hS hok hA
    have free : ∀ {b : Addr} {o : Obj}, s₁.heap.get? b = some o → (∀ v n, o.data ≠ .seq v n) → H b = none := by
      intro b o e nd
      cases q : H b with
      | none => rfl
      | some u =>
        obtain ⟨rfl, _⟩ := hA b o e ⟨u, q⟩
        rw [ha] at e
        cases e
        exact absurd rfl (nd _ _)
    have ns1 : ∀ {b : Addr} {m : Str → Option Value}, s₁.heap.Ns b m → (hidT s₁.heap H).Ns b m := by
      rintro b m ⟨o, es, ep, e, d, r⟩
      exact ⟨o, es, ep, hidT_get e (free e fun v n z => by rw [d] at z; cases z), d, r⟩
    have K1 : K.In (hidT s₁.heap H) := by
      intro b o e
      refine hidT_get (KX b o e) ?_
      cases q : H b with
      | none => rfl
      | some u =>
        obtain ⟨rfl, z⟩ := hA b o (KX b o e) ⟨u, q⟩
        rw [z] at e
        cases e
    have md : Mod K mg (hidT s₁.heap H) := by
      obtain ⟨mc, l1, l2⟩ := lim
      exact ⟨K1, ns1 gl, ⟨mb, ns1 bl, bb⟩, mc, ns1 l1, l2⟩
    have e0 : Env0 P w K mg (hidT s₁.heap H) callerA [] s₁ H :=
      { frames := rfl, mod := md, bs := fun b o e => of_hidT e, bsz := Nat.le_of_eq (hidT_size _ _), funs := trivial, frf := fun b hb => (nomatch hb), hok := hok, bare := .of_eq ge }
    refine codeAny_mono ((F _ K1 (ns1 gl)).run callerA [] s₁ H ⟨[.ref a], []⟩ [.ref a] [.ref a] _ _ hr rfl e0 (bd s₁ (.ref a)) (.cons rfl .nil) (hsp H hO hS)) ?_
    rintro r s' h
    cases r with
    | error e =>
      obtain ⟨_, _, _, _, _, _, _, _, _, _, _, _, z⟩ := h
      exact z.elim
    | ok fl => cases fl with
      | ret u =>
        obtain ⟨v, H', os, bare, un, hok', r', q⟩ := h
        obtain rfl : v = .bl true := q
        obtain rfl : u = Value.bool true := r'
        refine ⟨rfl, OldK.of_keep fun b o e => ?_, os, bare⟩
        rcases hO b with z | ⟨ob, xs, z⟩
        · exact un.keep b o e z (fun y => (nomatch y)) (fun y => (nomatch y))
        · have z2 := un.frzs b ob _ z
          have e1 := (hok b _ z).1
          rw [e] at e1
          cases e1
          exact (hok' b _ z2).1
      | _ => exact h.elim
  cases hk : K.lookup a with
  | some o =>
    have e := KX a o hk
    rw [ha] at e
    cases e
    refine go (fun _ => none) (fun _ => .inl rfl) (.inr ⟨_, vs.toArray, _, hk, rfl, rfl, rfl, by rw [List.size_toArray, hi.length]; exact hl, by simpa using rv⟩) (fun b u z => nomatch z) fun b o _ z => ?_
    obtain ⟨u, z⟩ := z
    cases z
  | none =>
    refine go (upd (fun _ => none) a (.frz { cls := .type "list", data := .seq vs.toArray } (.lst (ns.map V.int)))) (fun b => ?_) (.inl (.inr ⟨_, upd_same⟩)) (fun b u z => ?_) fun b o e z => ?_
    · by_cases hb : b = a
      · subst hb; exact .inr ⟨_, _, upd_same⟩
      · exact .inl (upd_ne hb)
    · by_cases hb : b = a
      · subst hb
        rw [upd_same] at z
        cases z
        exact ⟨ha, by rw [List.length_map]; exact hl, vs, _, rv, ha⟩
      · rw [upd_ne hb] at z
        cases z
    · obtain ⟨u, z⟩ := z
      by_cases hb : b = a
      · exact ⟨hb, hk⟩
      · rw [upd_ne hb] at z
        cases z

/-- the goal that k_head leaves, from the law's promise -/
theorem walkG {l : PySem.W.OpenLaw} {n k : Nat} {q : Program} {loose : List Str} {XP : (Str → Option Value) → Heap → Prop} {YP : World → Heap → Prop} {d : DefRec} {K : Params → PySem.W.Frag} {sp : World → Sp} {x : Str}
    (hn : l.most = some n) (hn2 : n ≤ sizeLine) (hdf : d.params.defaults = []) (hr : Room k callerA)
    (hY : ∀ (w : World) (h : Heap), YP w h → (K w.params).In h)
    (F : ∀ (w : World) (mg : Str → Option Value) (fa : Addr) (h : Heap), (K w.params).In h → h.Ns mainGlobals mg → mg d.name = some (.ref fa) →
      ∃ fd : FuncData, (∀ (s : Shared) (u : Value), BindsTo s fd ⟨[u], []⟩ [(x, u)]) ∧
        ∀ base : Heap, (K w.params).In base → base.Ns mainGlobals mg → FnG ⟨l.prog, w, K w.params, mg, base⟩ k fa fd [x] (sp w))
    (hsp : ∀ (w : World) (H : Hp) (a : Addr) (ns : List Int), ns.length ≤ n → (∀ z ∈ ns, Builtin.Int.intBits z ≤ 1048576) → Only H → SqL (K w.params) H a (ns.map V.int) → sp w [.ref a] H (fun v _ => v = .bl true) fun _ _ _ => False) :
    PySem.W.WalkO q loose XP YP l.row.toRowW d [] (fun f vs => PySem.call f vs) := by
  refine Att.attach_callB hn hdf fun w s₀ s₁ mg mb fa o pm cd doc a vs ns G Y ho hd hcd hmg hobj hints hlen hbits hg => ?_
  obtain ⟨fd, hb, hF⟩ := F w mg fa _ (hY w _ Y) G.T.g hmg
  exact lawG (hY w _ Y) G.T.g G.T.b G.T.builtins G.T.nolimit hg hobj hints (Nat.le_trans hlen hn2) hr hF hb fun H hO hS => hsp w H a ns hlen hbits hO hS
end RS


namespace RS
open PySem PySem.Spec L2
/-- in a def's body: what is raised goes on to the caller -/
theorem tkD {g : Wd} {N : List Str} {qual : Str} {st : Stmt} {f : Addr} {cdv : Value} {A : Around} {outer : List Env} {s : Shared} {H : Hp} {E : XK} : Takes (cx g N qual st f cdv A outer s H E) (fun c d _ H' => E c d H') := takes_of rfl rfl rfl rfl
theorem psD {g : Wd} {N : List Str} {qual : Str} {st : Stmt} {f : Addr} {cdv : Value} {A : Around} {outer : List Env} {s : Shared} {H : Hp} {E : XK} :
    PassesOwn (model (cx g N qual st f cdv A outer s H E).prog (cx g N qual st f cdv A outer s H E).w) (cx g N qual st f cdv A outer s H E).A (cx g N qual st f cdv A outer s H E).env (cx g N qual st f cdv A outer s H E).xe := passes_of rfl
theorem bb_len : bootBuiltins "len" = some (.builtin "len") := by decide +kernel
theorem bb_isinstance : bootBuiltins "isinstance" = some (.builtin "isinstance") := by decide +kernel
theorem bb_sum : bootBuiltins "sum" = some (.builtin "sum") := by decide +kernel
theorem bb_ord : bootBuiltins "ord" = some (.builtin "ord") := by decide +kernel
theorem bb_abs : bootBuiltins "abs" = some (.builtin "abs") := by decide +kernel
theorem bb_repr : bootBuiltins "repr" = some (.builtin "repr") := by decide +kernel
theorem bb_all : bootBuiltins "all" = some (.builtin "all") := by decide +kernel
theorem bb_any : bootBuiltins "any" = some (.builtin "any") := by decide +kernel
theorem bb_sorted : bootBuiltins "sorted" = some (.builtin "sorted") := by decide +kernel
theorem bb_str : bootBuiltins "str" = some (.type "str") := by decide +kernel
theorem bb_int : bootBuiltins "int" = some (.type "int") := by decide +kernel
theorem bb_list : bootBuiltins "list" = some (.type "list") := by decide +kernel
theorem bb_tuple : bootBuiltins "tuple" = some (.type "tuple") := by decide +kernel
theorem bb_bool : bootBuiltins "bool" = some (.type "bool") := by decide +kernel
section
variable {X : Cx}
/-! ### an item, a slice of whatever -/
def rIxU (K : PySem.W.Frag) : R2 := fun x y H Q => match x, y with
  | .str z, .int i => z.length ≤ sizeLine ∧ ∃ c, atI z.cps.toList i = some c ∧ Q (.str ⟨#[c]⟩) H
  | .ref p, .int i => ∃ xs, (SqL K H p xs ∨ SqT K H p xs) ∧ ∃ v, atI xs i = some v ∧ Q v H
  | _, _ => False
theorem o_ix {K : PySem.W.Frag} (hK : X.K = K := by rfl) : IxR X (rIxU K) := by
  subst hK
  intro ve se pins s σ H x y v u Q I rx ry h hsub
  cases x <;> cases y <;> first
    | exact (show False from h).elim
    | (obtain ⟨h1, c, h2, q⟩ := h; exact ix_str ve se pins s σ H _ _ v u Q I rx ry ⟨_, _, c, rfl, rfl, h1, h2, q⟩ hsub)
    | skip
  obtain ⟨xs, hx | hx, w, h2, q⟩ := h
  · exact ix_list ve se pins s σ H _ _ v u Q I rx ry ⟨_, xs, _, w, rfl, rfl, hx, h2, q⟩ hsub
  · exact ix_tup ve se pins s σ H _ _ v u Q I rx ry ⟨_, xs, _, w, rfl, rfl, hx, h2, q⟩ hsub
def rSlU (K : PySem.W.Frag) : V → Option Int → Option Int → Hp → VK → Prop := fun x lo hi H Q => match x with
  | .str z => z.length ≤ sizeLine ∧ Q (.str (cutS z lo hi)) H
  | .ref p => rSlL K (.ref p) lo hi H Q ∨ rSlA K (.ref p) lo hi H Q
  | _ => False
theorem o_sl {K : PySem.W.Frag} (hK : X.K = K := by rfl) : SlR X (rSlU K) := by
  subst hK
  intro pins s σ H x v vl vu lo hi sl Q I rx hs pl pu h
  cases x <;> first
    | exact (show False from h).elim
    | exact sl_str pins s σ H _ v vl vu lo hi sl Q I rx hs pl pu ⟨_, rfl, h.1, h.2⟩
    | exact (show _ ∨ _ from h).elim (sl_list pins s σ H _ v vl vu lo hi sl Q I rx hs pl pu) (sl_tupA pins s σ H _ v vl vu lo hi sl Q I rx hs pl pu)

/-! ### rules that name the written part, with that part told -/
variable {K : PySem.W.Frag} {p pos tpos : Pos} {e o : Expr} {es : List Expr} {ta te : TE} {t : TA}
theorem c_sum (hK : X.K = K := by rfl) (hc : X.calm = true := by rfl) : CallR X (.builtin "sum") (rSum K) := by subst hK; exact cr_sum hc
theorem c_all (hK : X.K = K := by rfl) (hc : X.calm = true := by rfl) : CallR X (.builtin "all") (rAll K) := by subst hK; exact cr_all hc
theorem c_any (hK : X.K = K := by rfl) (hc : X.calm = true := by rfl) : CallR X (.builtin "any") (rAny K) := by subst hK; exact cr_any hc
theorem c_list (hK : X.K = K := by rfl) : CallR X (.type "list") (fun xs H Q => ∃ p ys, xs = [.ref p] ∧ (SqL K H p ys ∨ SqT K H p ys) ∧ ∀ l, H l = none → Q (.ref l) (upd H l (.lst ys))) := by subst hK; exact call_list_of
theorem c_isi (hK : X.K = K := by rfl) : CallR X (.builtin "isinstance") (rIsi K) := by subst hK; exact call_isi
theorem e_fld {f : Str} (he : PE X e ta) (hb : attributeBase e f X.env (eval e X.env) = eval e X.env := by rfl) (hK : X.K = K := by rfl) : PE X (.Attribute e f pos) (tFld K ta f) := by subst hK; exact pe_fld he hb
theorem t_truth (ha : PE X e ta) (he : ∀ whole, isTrue e X.env whole = (do let v ← whole; standAt e.pos; holding [v] (truthy v)) := by intro _; rfl) (hK : X.K = K := by rfl) :
    PT X e (fun σ H Q => ta σ H fun x H' => ∃ k, TruV K x H' k ∧ Q k H') := by subst hK; exact pt_truth ha he
theorem g_tup {k : Nat} {t : TGs} {n : Nat} (h : PGs X es t) (hc : X.calm = true := by rfl) (hn : (assignEach es X.env).length = n := by rfl) (hst : (assignEach es X.env).findIdx? (·.1) = none := by rfl) (hK : X.K = K := by rfl) :
    PG X (.Tuple es k pos) (gTup K n t) := by subst hK; exact pg_tup hc h hn hst
theorem g_fld {fl : Str} (ho : PE X o ta) (hK : X.K = K := by rfl) : PG X (.Attribute o fl pos) (gFld K ta fl) := by subst hK; exact pg_fld ho
theorem e_bm {T id : String} {name : Str} {apos cpos : Pos} {to : TE} {r : V → List V → Hp → VK → Prop} (pa : PlainAttrs T) (slot : Slot T name id) (hty : typeOf (.builtin id) = pure (.type "method_descriptor")) (hm : MtR X id r) (ho : PE X o to) (ha : PA X (e :: es) t)
    (hbase : attributeBase o name X.env (eval o X.env) = eval o X.env := by rfl)
    (hfew : ((backTo cpos (starEach (e :: es) X.env)).all (fun x => !x.1) && (backToKw cpos (keywordEach [] X.env)).all (fun x => x.1.isSome)
      && decide ((e :: es).length + ([] : List Keyword).length + (if ([] : List Keyword).isEmpty then 0 else 1) < 30)) = true := by rfl)
    (hline : (apos.endLine == cpos.line) = true := by rfl) (hs : starEach (e :: es) X.env = (false, eval e X.env) :: starEach es X.env := by rfl) (hplain : (backTo cpos (starEach es X.env)).any (·.1) = false := by rfl) (hK : X.K = K := by rfl) :
    PE X (.Call (.Attribute o name apos) (e :: es) [] cpos) (tBM K T r to t) := by subst hK; exact pe_bm pa slot hty hm ho ha hbase hfew hline hs hplain
theorem i_list {tg : Expr} (hl : PE X e te) (hK : X.K = K := by rfl) : PI X tg e (iList K te) := by subst hK; exact pi_list hl
theorem i_tup {tg : Expr} (hl : PE X e te) (hK : X.K = K := by rfl) : PI X tg e (iTup K te) := by subst hK; exact pi_tup hl
theorem i_enum {kk : Nat} (hm : X.mg "enumerate" = none) (ha : PA X [e] t) (hg : Gl X "enumerate" := by rfl) (hs : starEach [e] X.env = [(false, eval e X.env)] := by rfl) (hK : X.K = K := by rfl) :
    PI X (.Tuple es kk tpos) (.Call (.Name "enumerate" p) [e] [] pos) (iEnum K t) := by subst hK; exact pi_enum hg hm ha hs
theorem s_fld {f : Str} {value : Expr} {tv : TE} {pos' : Pos} (ha : PE X o ta) (hv : PE X value tv) (hs : swapsWith value (some (.Attribute o f pos')) pos.line X.env = pure false := by rfl) (hK : X.K = K := by rfl) :
    PS X (.Assign [.Attribute o f pos'] value pos) (sFld K ta tv f) := by subst hK; exact ps_fld ha hv hs
end
end RS


namespace RS
open PySem PySem.Spec L2

theorem same_new {H H1 : Hp} {p : Addr} {o : HO} (h : Same H H1) (n : H1 p = none) : Same H (upd H1 p o) := fun b u e => by
  rw [upd_ne (ne_of_none (h b u e) n)]; exact h b u e
theorem same_upd {H : Hp} {p : Addr} {o : HO} (n : H p = none) : Same H (L2.upd H p o) := same_new (Same.refl H) n

/-! ### the inside of a loop and of a comprehension, behind what is walked -/
def ForB (J : It) (g : TG) (tb : TS) (D : Ends) (σ : L2.St) (H : Hp) : Prop := ∃ W : Nat → Nat → L2.St → Hp → Prop, (∃ m, W 0 m σ H) ∧ ∀ i m σ H, W i m σ H →
  (J.stop i H ∧ D.nx σ H) ∨ (J.go i H ∧ ∃ N : L2.St → Hp → Prop, (∀ σ' H', N σ' H' → ∃ m', m' < m ∧ W (i + 1) m' σ' H') ∧ ∀ x H', J.yld i H x H' → g x σ H' fun σ2 H2 => tb { D with nx := N, ct := N, bk := D.nx } σ2 H2)
theorem tFor_eq (wi : TI) (g : TG) (tb : TS) (D : Ends) (σ : L2.St) (H : Hp) : tFor wi g tb D σ H = wi σ H fun J H1 => ForB J g tb D σ H1 := rfl
def LcB (J : It) (g : TG) (tt : TT) (te : TE) (vs : List Nat) (σ : L2.St) (H1 : Hp) (Q : VK) : Prop := ∀ D, H1 D = none → ∃ W : Nat → Nat → Hp → Prop, (∃ m, W 0 m (upd H1 D (.lst []))) ∧ ∀ i m H, W i m H →
  (J.stop i H ∧ Q (.ref D) H) ∨ (J.go i H ∧ ∃ Nx : Hp → Prop, (∀ H', Nx H' → ∃ m', m' < m ∧ W (i + 1) m' H') ∧ ∀ x H', J.yld i H x H' → g x (wipe σ vs) H' fun σ2 H2 => wipe σ2 vs = wipe σ vs ∧ tt σ2 H2 fun b H3 =>
    if b = true then te σ2 H3 fun y H4 => ∃ acc, H4 D = some (.lst acc) ∧ acc.length < sizeLine ∧ Nx (upd H4 D (.lst (acc ++ [y]))) else Nx H3)
theorem tLc_eq (wi : TI) (g : TG) (tt : TT) (te : TE) (vs : List Nat) (σ : L2.St) (H : Hp) (Q : VK) : tLc wi g tt te vs σ H Q = wi σ H fun J H1 => LcB J g tt te vs σ H1 Q := rfl

/-! ### for over n items that are told by their index -/
theorem for_by {J : It} {g : TG} {tb : TS} {D : Ends} {σ : L2.St} {H : Hp} (n : Nat) (Pv : Nat → L2.St → Hp → Prop) (h0 : Pv 0 σ H) (hgo : ∀ i σ H, i < n → Pv i σ H → J.go i H) (hst : ∀ σ H, Pv n σ H → J.stop n H)
    (hs : ∀ i σ H x H', i < n → Pv i σ H → J.yld i H x H' → g x σ H' fun σ2 H2 => tb { D with nx := Pv (i + 1), ct := Pv (i + 1), bk := D.nx } σ2 H2) (hd : ∀ σ H, Pv n σ H → D.nx σ H) :
    ForB J g tb D σ H := by
  refine ⟨fun i m σ H => m = n - i ∧ i ≤ n ∧ Pv i σ H, ⟨n, by omega, Nat.zero_le _, h0⟩, ?_⟩
  rintro i m σ H ⟨rfl, hi, p⟩
  by_cases lt : i < n
  · exact .inr ⟨hgo i σ H lt p, Pv (i + 1), fun σ' H' p' => ⟨n - (i + 1), by omega, rfl, lt, p'⟩, fun x H' y => hs i σ H x H' lt p y⟩
  · have e : i = n := by omega
    subst e
    exact .inl ⟨hst σ H p, hd σ H p⟩

/-! ### a list comprehension over n items: the list of what is kept -/
theorem lc_kept {J : It} {g : TG} {tt : TT} {te : TE} {vs : List Nat} {σ : L2.St} {H1 : Hp} {Qf : VK} (n : Nat) (kept : Nat → Option V) (hn : n ≤ sizeLine)
    (hgo : ∀ i H, i < n → Same H1 H → J.go i H) (hst : ∀ H, Same H1 H → J.stop n H)
    (hs : ∀ i H x H' (K : VK) (K0 : Hp → Prop), i < n → Same H1 H → J.yld i H x H' → (∀ v H4, kept i = some v → Same H H4 → K v H4) → (kept i = none → ∀ H4, Same H H4 → K0 H4) →
      g x (wipe σ vs) H' fun σ2 H2 => wipe σ2 vs = wipe σ vs ∧ tt σ2 H2 fun b H3 => if b = true then te σ2 H3 K else K0 H3)
    (hd : ∀ D H, H1 D = none → Same H1 H → H D = some (.lst ((List.range n).filterMap kept)) → Qf (.ref D) H) :
    LcB J g tt te vs σ H1 Qf := by
  intro D hD
  have len : ∀ i, ((List.range i).filterMap kept).length ≤ i := fun i => Nat.le_trans (List.length_filterMap_le _ _) (by rw [List.length_range]; exact Nat.le_refl _)
  have succ : ∀ i, (List.range (i + 1)).filterMap kept = (List.range i).filterMap kept ++ (match kept i with | some v => [v] | none => []) := fun i => by
    rw [List.range_succ, List.filterMap_append]
    cases e : kept i <;> simp [List.filterMap_cons, e]
  let Pv : Nat → Hp → Prop := fun i H => Same H1 H ∧ H D = some (.lst ((List.range i).filterMap kept))
  have store : ∀ i H4 v, Same H1 H4 → H4 D = some (.lst ((List.range i).filterMap kept)) → kept i = some v → Pv (i + 1) (upd H4 D (.lst ((List.range i).filterMap kept ++ [v]))) := fun i H4 v s e k =>
    ⟨fun b o q => by rw [upd_ne (ne_of_none q hD)]; exact s b o q, by rw [upd_same, succ, k]⟩
  refine ⟨fun i m H => m = n - i ∧ i ≤ n ∧ Pv i H, ⟨n, by omega, Nat.zero_le _, fun b o q => by rw [upd_ne (ne_of_none q hD)]; exact q, upd_same⟩, ?_⟩
  rintro i m H ⟨rfl, hi, s, eD⟩
  by_cases lt : i < n
  · refine .inr ⟨hgo i H lt s, Pv (i + 1), fun H' p' => ⟨n - (i + 1), by omega, rfl, lt, p'⟩, fun x H' y => ?_⟩
    refine hs i H x H' _ (Pv (i + 1)) lt s y (fun v H4 k s4 => ⟨_, s4 D _ eD, by have := len i; omega, store i H4 v (s.trans s4) (s4 D _ eD) k⟩) fun k H4 s4 => ⟨s.trans s4, ?_⟩
    rw [succ, k, s4 D _ eD, List.append_nil]
  · have e : i = n := by omega
    subst e
    exact .inl ⟨hst H s, hd D H hD s eD⟩
/-- .. where all are kept -/
theorem lc_all {J : It} {g : TG} {te : TE} {vs : List Nat} {σ : L2.St} {H1 : Hp} {Qf : VK} (n : Nat) (val : Nat → V) (hn : n ≤ sizeLine)
    (hgo : ∀ i H, i < n → Same H1 H → J.go i H) (hst : ∀ H, Same H1 H → J.stop n H)
    (hs : ∀ i H x H' (K : VK), i < n → Same H1 H → J.yld i H x H' → (∀ H4, Same H H4 → K (val i) H4) →
      g x (wipe σ vs) H' fun σ2 H2 => wipe σ2 vs = wipe σ vs ∧ te σ2 H2 K)
    (hd : ∀ D H, H1 D = none → Same H1 H → H D = some (.lst ((List.range n).map val)) → Qf (.ref D) H) :
    LcB J g tYes te vs σ H1 Qf := by
  refine lc_kept n (fun i => some (val i)) hn hgo hst (fun i H x H' K K0 lt s y k _ => ?_) (fun D H h1 h2 h3 => hd D H h1 h2 ?_)
  · have e : (fun (σ2 : L2.St) (H2 : Hp) => wipe σ2 vs = wipe σ vs ∧ tYes σ2 H2 fun b H3 => if b = true then te σ2 H3 K else K0 H3) = fun σ2 H2 => wipe σ2 vs = wipe σ vs ∧ te σ2 H2 K := by
      funext σ2 H2
      simp only [tYes, if_true]
    rw [e]
    exact hs i H x H' K lt s y fun H4 s4 => k _ H4 rfl s4
  · rw [h3]
    congr 2
    rw [show (fun i => some (val i)) = some ∘ val from rfl, ← List.filterMap_eq_map]
end RS


namespace RS
open PySem PySem.Spec L2
section
variable {K : PySem.W.Frag} {H : Hp} {Q : VK} {i j : Int} {a b z : Str} {p q : Addr} {c d : Bool} {x : V}
theorem add_ii : rAdd K (.int i) (.int j) H Q = Q (.int (i + j)) H := rfl
theorem add_ss : rAdd K (.str a) (.str b) H Q = (a.length + b.length ≤ sizeLine ∧ Q (.str (a ++ b)) H) := rfl
theorem add_rr : rAdd K (.ref p) (.ref q) H Q = (rCat (.ref p) (.ref q) H Q ∨ rCatA K (.ref p) (.ref q) H Q) := rfl
theorem mul_ii : rMul (.int i) (.int j) H Q = (CMul i j ∧ Q (.int (i * j)) H) := rfl
theorem mul_si : rMul (.str a) (.int i) H Q = (i < 2 ^ 31 ∧ -(2 ^ 31) < i ∧ a.length * i.toNat ≤ sizeLine ∧ Q (.str (repS a i.toNat)) H) := rfl
theorem mul_ri : rMul (.ref p) (.int i) H Q = rRep (.ref p) (.int i) H Q := rfl
theorem eq_of {x y : V} {k : Bool} (h : scal x y = true) (e : decide (x = y) = k) : rEq x y H Q = Q (.bl k) H := by
  unfold rEq; rw [h, e]; simp
theorem ne_of' {x y : V} {k : Bool} (h : scal x y = true) (e : decide (x = y) = k) : rNe x y H Q = Q (.bl (!k)) H := by
  unfold rNe; rw [h, e]; simp
theorem eq_ii : rEqU K (.int i) (.int j) H Q = Q (.bl (decide (i = j))) H := eq_of rfl (by simp)
theorem eq_ss : rEqU K (.str a) (.str b) H Q = Q (.bl (decide (a = b))) H := eq_of rfl (by simp)
theorem eq_bb : rEqU K (.bl c) (.bl d) H Q = Q (.bl (decide (c = d))) H := eq_of rfl (by simp)
theorem eq_nn : rEqU K .non .non H Q = Q (.bl true) H := eq_of rfl (by simp)
theorem eq_sn : rEqU K (.str a) .non H Q = Q (.bl false) H := eq_of rfl (by simp)
theorem eq_ns : rEqU K .non (.str a) H Q = Q (.bl false) H := eq_of rfl (by simp)
theorem eq_in : rEqU K (.int i) .non H Q = Q (.bl false) H := eq_of rfl (by simp)
theorem eq_ni : rEqU K .non (.int i) H Q = Q (.bl false) H := eq_of rfl (by simp)
theorem eq_bn : rEqU K (.bl c) .non H Q = Q (.bl false) H := eq_of rfl (by simp)
theorem eq_nb : rEqU K .non (.bl c) H Q = Q (.bl false) H := eq_of rfl (by simp)
theorem eq_is : rEqU K (.int i) (.str a) H Q = Q (.bl false) H := eq_of rfl (by simp)
theorem eq_si : rEqU K (.str a) (.int i) H Q = Q (.bl false) H := eq_of rfl (by simp)
theorem eq_rr : rEqU K (.ref p) (.ref q) H Q = rEqD K (.ref p) (.ref q) H Q := rfl
theorem ne_ii : rNeU K (.int i) (.int j) H Q = Q (.bl (!decide (i = j))) H := ne_of' rfl (by simp)
theorem ne_ss : rNeU K (.str a) (.str b) H Q = Q (.bl (!decide (a = b))) H := ne_of' rfl (by simp)
theorem ne_bb : rNeU K (.bl c) (.bl d) H Q = Q (.bl (!decide (c = d))) H := ne_of' rfl (by simp)
theorem ne_nn : rNeU K .non .non H Q = Q (.bl false) H := ne_of' (k := true) rfl (by simp)
theorem ne_sn : rNeU K (.str a) .non H Q = Q (.bl true) H := ne_of' (k := false) rfl (by simp)
theorem ne_ns : rNeU K .non (.str a) H Q = Q (.bl true) H := ne_of' (k := false) rfl (by simp)
theorem ne_in : rNeU K (.int i) .non H Q = Q (.bl true) H := ne_of' (k := false) rfl (by simp)
theorem ne_ni : rNeU K .non (.int i) H Q = Q (.bl true) H := ne_of' (k := false) rfl (by simp)
theorem ne_is : rNeU K (.int i) (.str a) H Q = Q (.bl true) H := ne_of' (k := false) rfl (by simp)
theorem ne_si : rNeU K (.str a) (.int i) H Q = Q (.bl true) H := ne_of' (k := false) rfl (by simp)
theorem ne_rr : rNeU K (.ref p) (.ref q) H Q = rNeD K (.ref p) (.ref q) H Q := rfl
theorem in_ss : rInU K (.str a) (.str b) H Q = Q (.bl (hasS a b)) H := rfl
theorem in_r : rInU K x (.ref p) H Q = ∃ xs, (SqL K H p xs ∨ SqT K H p xs) ∧ flatV x = true ∧ xs.all flatV = true ∧ Q (.bl (inV x xs)) H := by
  cases x <;> simp [rInU, rIn]
theorem nin_ss : rNinU K (.str a) (.str b) H Q = Q (.bl (!hasS a b)) H := rfl
theorem nin_r : rNinU K x (.ref p) H Q = ∃ xs, (SqL K H p xs ∨ SqT K H p xs) ∧ flatV x = true ∧ xs.all flatV = true ∧ Q (.bl (!inV x xs)) H := by
  cases x <;> simp [rNinU, rIn]
theorem len_s : rLen K [.str a] H Q = (a.length ≤ sizeLine ∧ Q (.int a.length) H) := rfl
theorem len_r : rLen K [.ref p] H Q = ((∃ xs, (SqL K H p xs ∨ SqT K H p xs) ∧ Q (.int xs.length) H) ∨ ∃ kvs, H p = some (.dK kvs) ∧ Q (.int kvs.length) H) := rfl
theorem ix_s : rIxU K (.str a) (.int i) H Q = (a.length ≤ sizeLine ∧ ∃ c, atI a.cps.toList i = some c ∧ Q (.str ⟨#[c]⟩) H) := rfl
theorem ix_r : rIxU K (.ref p) (.int i) H Q = ∃ xs, (SqL K H p xs ∨ SqT K H p xs) ∧ ∃ v, atI xs i = some v ∧ Q v H := rfl
theorem sl_s {lo hi : Option Int} : rSlU K (.str a) lo hi H Q = (a.length ≤ sizeLine ∧ Q (.str (cutS a lo hi)) H) := rfl
theorem sl_r {lo hi : Option Int} : rSlU K (.ref p) lo hi H Q = (rSlL K (.ref p) lo hi H Q ∨ rSlA K (.ref p) lo hi H Q) := rfl
theorem is_eq {T T' : String} : rIs T [x, .ty T'] H Q = (T' = T ∧ ∃ t, tyN x H = some t ∧ Q (.bl (isB t T)) H) := rfl
theorem tyN_n : tyN .non H = some "NoneType" := rfl
theorem tyN_b : tyN (.bl c) H = some "bool" := rfl
theorem tyN_i : tyN (.int i) H = some "int" := rfl
theorem tyN_s : tyN (.str a) H = some "str" := rfl
theorem tru_b {k : Bool} : TruV K (.bl c) H k = (k = c) := rfl
theorem tru_i {k : Bool} : TruV K (.int i) H k = (k = (i != 0)) := rfl
theorem tru_n {k : Bool} : TruV K .non H k = (k = false) := rfl
end
/-- a tuple or a list that stands in H -/
theorem isL {K : PySem.W.Frag} {H : Hp} {a : Addr} {xs : List V} (h : H a = some (.lst xs)) : SqL K H a xs := SqL.of h
theorem isT {K : PySem.W.Frag} {H : Hp} {a : Addr} {xs : List V} (h : H a = some (.tup xs)) : SqT K H a xs := SqT.of h
end RS


/-! texts as lists of their signs -/
namespace RS
open PySem PySem.Spec L2
open SX (S S_len S_cat S_tl S_inj)
theorem sIx_nat (n d : Nat) {i : Int} (h : 0 ≤ i) : HT.sIx n d (some i) = min i.toNat n := by
  unfold HT.sIx
  simp only
  split <;> omega
theorem cut_to (a : List Nat) {i : Int} (h : 0 ≤ i) : cutS (S a) none (some i) = S (a.take i.toNat) := by
  unfold cutS
  rw [sIx_nat _ _ h, S_len]
  show (⟨_⟩ : Str) = _
  congr 2
  simp [HT.sIx]
theorem cut_from (a : List Nat) {i : Int} (h : 0 ≤ i) : cutS (S a) (some i) none = S (a.drop i.toNat) := by
  unfold cutS
  rw [sIx_nat _ _ h, S_len]
  show (⟨_⟩ : Str) = _
  congr 2
  simp only [HT.sIx]
  by_cases c : i.toNat ≤ a.length
  · rw [Nat.min_eq_left c, List.take_of_length_le (by simp)]
  · rw [Nat.min_eq_right (by omega), List.drop_of_length_le (Nat.le_refl _), List.drop_of_length_le (by omega)]; simp
theorem cut_both (a : List Nat) {i j : Int} (h : 0 ≤ i) (h2 : 0 ≤ j) : cutS (S a) (some i) (some j) = S ((a.drop i.toNat).take (j.toNat - i.toNat)) := by
  unfold cutS
  rw [sIx_nat _ _ h, sIx_nat _ _ h2, S_len]
  show (⟨_⟩ : Str) = _
  congr 2
  by_cases c : i.toNat ≤ a.length
  · rw [Nat.min_eq_left c, List.take_eq_take_iff]; simp; omega
  · rw [show min i.toNat a.length = a.length by omega, List.drop_of_length_le (Nat.le_refl _), List.drop_of_length_le (by omega)]; simp
theorem rep_S (a : List Nat) (n : Nat) : repS (S a) n = S (List.replicate n a).flatten := rfl
theorem rep_one (c n : Nat) : repS (S [c]) n = S (List.replicate n c) := by
  rw [rep_S]
  congr 2
  induction n with
  | zero => rfl
  | succ n ih => rw [List.replicate_succ, List.flatten_cons, ih, List.replicate_succ]; rfl
theorem has_one (c : Nat) (a : List Nat) : hasS (S [c]) (S a) = decide (c ∈ a) := SX.in_one a c
theorem S_eq {a b : List Nat} : (S a = S b) = (a = b) := propext ⟨S_inj, fun h => by rw [h]⟩
theorem at_lt {a : List Nat} {i : Nat} (h : i < a.length) : atI (S a).cps.toList (i : Int) = some (a.getD i 0) := by
  refine atI_nat ?_
  show a.toArray.toList[i]? = _
  rw [List.getD_eq_getElem?_getD, List.getElem?_eq_getElem (by simpa using h)]
  simp
theorem num_int {i : Int} (h : 0 ≤ i) : (Str.ofString (toString i)) = S (TL.numL i.toNat) := by
  obtain ⟨n, rfl⟩ := Int.eq_ofNat_of_zero_le h
  exact SX.num_S n
theorem ofS_tl (a : String) : (Str.ofString a).cps.toList = a.toList.map Char.toNat := PyProof.Rows.signs_ofString a
theorem ofS_eq {a b : String} : (Str.ofString a = Str.ofString b) = (a = b) := by
  refine propext ⟨fun h => ?_, fun h => by rw [h]⟩
  have e : a.toList.map Char.toNat = b.toList.map Char.toNat := by rw [← ofS_tl, ← ofS_tl, h]
  have inj : ∀ l m : List Char, l.map Char.toNat = m.map Char.toNat → l = m := by
    intro l
    induction l with
    | nil => intro m h; cases m with | nil => rfl | cons => simp at h
    | cons c l ih =>
      intro m h
      cases m with
      | nil => simp at h
      | cons d m =>
        simp only [List.map_cons, List.cons.injEq] at h
        rw [ih m h.2, show c = d from Char.toNat_inj.mp h.1]
  exact String.toList_inj.mp (inj _ _ e)
theorem lk_nil {a : Str} : List.lookup a ([] : List (Str × V)) = none := rfl
theorem lk_cons {a k : Str} {v : V} {es : List (Str × V)} : List.lookup a ((k, v) :: es) = if a = k then some v else List.lookup a es := by
  rw [List.lookup_cons]
  by_cases h : a = k
  · subst h; simp
  · rw [if_neg h, beq_eq_false_iff_ne.mpr h]
theorem pu_nil {f : Str} {v : V} : putF f v [] = [(f, v)] := rfl
theorem pu_cons {f k : Str} {v x : V} {r : List (Str × V)} : putF f v ((k, x) :: r) = if k = f then (k, v) :: r else (k, x) :: putF f v r := rfl
theorem sq_new {K : PySem.W.Frag} {H : Hp} {p : Addr} {xs : List V} : SqT K (upd H p (.tup xs)) p xs := SqT.of upd_same
theorem ty_ins {K : PySem.W.Frag} {H : Hp} {a C dx : Addr} {fs : List (Str × V)} (c : C8.InsC K C) (e : H a = some (.ins C dx fs)) : TyX K H (.ref a) (.ref C) := .base (.ins e c.cl c.ha c.hn c.htk c.hm)
theorem isi_ins {K : PySem.W.Frag} {H : Hp} {Q : VK} {a C D dx : Addr} {fs : List (Str × V)} {b : Bool} (c : C8.InsC K C) (e : H a = some (.ins C dx fs)) (k : PySem.W.kitOne K (.ref C) (.ref D) = some b) (q : Q (.bl b) H) : rIsi K [.ref a, .ref D] H Q :=
  ⟨_, _, _, _, _, rfl, .own D, ty_ins c e, k, q⟩
theorem isi_of {K : PySem.W.Frag} {H : Hp} {Q : VK} {x : V} {D : Addr} {t : String} {b : Bool} (e : tyN x H = some t) (k : PySem.W.kitOne K (.type t) (.ref D) = some b) (q : Q (.bl b) H) : rIsi K [x, .ref D] H Q :=
  ⟨_, _, _, _, _, rfl, .own D, (tyN_tyX e).1, k, q⟩
/-- repr of what is small -/
theorem repr_by {K : PySem.W.Frag} {H : Hp} {Q : VK} {a : Addr} (d : PyData) (h : Dp K H (.ref a) d) (h1 : d.showable = true) (h2 : d.depth ≤ 60) (h3 : d.leavesShort 13 = true) (h4 : d.weight ≤ 2 ^ 20) (q : Q (.str d.shown) H) : rRepr K [.ref a] H Q :=
  ⟨a, d, rfl, h, h1, h2, PyData.shown_fits (by decide) (by decide) h3 h4, q⟩
end RS


namespace RS
open PySem PySem.Spec L2
/-- the class at C has the property n, which hands the field f -/
def Pr (g : Wd) (C : Addr) (n f : Str) : Prop := ∃ p gt fd, PropOf g.K C n p gt ∧ FnOk g.P g.w g.K g.mg g.base C8.CX0 1 gt fd ["self"] (getSp C f) ∧ Binds g.K fd ["self"] []
def tPr (C : Addr) (f : Str) (ta : TE) : TE := fun σ H Q => ta σ H fun x H1 => ∃ a dx fs v, x = .ref a ∧ H1 a = some (.ins C dx fs) ∧ fs.lookup f = some v ∧ Q v H1
theorem e_prop {g : Wd} {X : Cx} {C : Addr} {n f : Str} {e : Expr} {ta : TE} {pos : Pos} (P : Pr g C n f) (c : Cls g.K C) (hr : Rm 2 X) (he : PE X e ta) (hab : attributeBase e n X.env (eval e X.env) = eval e X.env := by rfl) (a : At g X := by exact ⟨rfl, rfl, rfl, rfl, rfl⟩) :
    PE X (.Attribute e n pos) (tPr C f ta) := by
  obtain ⟨p, gt, fd, hp, F, hb⟩ := P
  obtain ⟨P, w, K, mg, base⟩ := g
  obtain ⟨rfl, rfl, rfl, rfl, rfl⟩ := a
  have h := pe_prop (pos := pos) (E := fun _ _ _ => False) he c hp F hr.room hb .nil C8.pass0 hab
  refine ⟨fun pins s σ H Q I q => h.run pins s σ H Q I ?_⟩
  have mono := he
  exact (show tProp C (getSp C f) [] (fun _ _ _ => False) ta σ H Q from by
    unfold tProp
    unfold tPr at q
    have e : (fun x H1 => ∃ a dx fs v, x = V.ref a ∧ H1 a = some (.ins C dx fs) ∧ fs.lookup f = some v ∧ Q v H1) = (fun x H1 => ∃ a dx fs, x = V.ref a ∧ H1 a = some (.ins C dx fs) ∧ getSp C f [.ref a] H1 Q fun _ _ _ => False) := by
      funext x H1
      refine propext ⟨?_, ?_⟩
      · rintro ⟨a, dx, fs, v, rfl, h1, h2, q⟩
        exact ⟨a, dx, fs, rfl, h1, a, dx, fs, v, rfl, h1, h2, q⟩
      · rintro ⟨a, dx, fs, rfl, h1, a', dx', fs', v, e, h1', h2, q⟩
        cases e
        exact ⟨a, dx', fs', v, rfl, h1', h2, q⟩
    rw [e] at q
    exact q)
end RS


/-! dicts with texts or numbers as keys, as equations -/
namespace RS
open PySem PySem.Spec L2
theorem dget_of {H : Hp} {a : Addr} {kvs : List (Key × V)} {k : Key} {o : Option V} (e : H a = some (.dK kvs)) : DGet H a (kV k) o = (valV kvs k = o) := by
  refine propext ⟨?_, fun h => .inl ⟨kvs, k, .inl e, rfl, h.symm⟩⟩
  rintro (⟨kvs', k', h, ek, rfl⟩ | ⟨kvs', k', b, h, ek, _⟩)
  · have : k' = k := by cases k <;> cases k' <;> simp_all [kV]
    subst this
    rcases h with h | ⟨o, h⟩
    · rw [e] at h; cases h; rfl
    · rw [e] at h; cases h
  · cases k <;> cases ek
theorem dget_s {H : Hp} {a : Addr} {kvs : List (Key × V)} {k : Str} {o : Option V} (e : H a = some (.dK kvs)) : DGet H a (.str k) o = (valV kvs (.inr k) = o) := dget_of (k := .inr k) e
theorem dget_i {H : Hp} {a : Addr} {kvs : List (Key × V)} {k : Int} {o : Option V} (e : H a = some (.dK kvs)) : DGet H a (.int k) o = (valV kvs (.inl k) = o) := dget_of (k := .inl k) e
theorem dget_us {H : Hp} {a : Addr} {kvs : List (Key × V)} {k : Str} {o : Option V} : DGet (upd H a (.dK kvs)) a (.str k) o = (valV kvs (.inr k) = o) := dget_s upd_same
theorem dput_of {H : Hp} {a : Addr} {kvs : List (Key × V)} {k : Key} {v : V} {P : Hp → Prop} (e : H a = some (.dK kvs)) : (∃ H4, DPut H a (kV k) v H4 ∧ P H4) = (kvs.length < sizeLine ∧ P (upd H a (.dK (putK kvs k v)))) := by
  refine propext ⟨?_, fun h => ⟨_, .k e h.1, h.2⟩⟩
  rintro ⟨H4, (⟨kvs', k', h, ek, hl, rfl⟩ | ⟨kvs', k', b, h, ek, _⟩), q⟩
  · have : k' = k := by cases k <;> cases k' <;> simp_all [kV]
    subst this
    rw [e] at h; cases h
    exact ⟨hl, q⟩
  · cases k <;> cases ek
theorem dput_s {H : Hp} {a : Addr} {kvs : List (Key × V)} {k : Str} {v : V} {P : Hp → Prop} (e : H a = some (.dK kvs)) : (∃ H4, DPut H a (.str k) v H4 ∧ P H4) = (kvs.length < sizeLine ∧ P (upd H a (.dK (putK kvs (.inr k) v)))) := dput_of (k := .inr k) e
theorem dput_us {H : Hp} {a : Addr} {kvs : List (Key × V)} {k : Str} {v : V} {P : Hp → Prop} : (∃ H4, DPut (upd H a (.dK kvs)) a (.str k) v H4 ∧ P H4) = (kvs.length < sizeLine ∧ P (upd (upd H a (.dK kvs)) a (.dK (putK kvs (.inr k) v)))) := dput_s upd_same
theorem vv_nil {k : Key} : valV ([] : List (Key × V)) k = none := rfl
theorem vv_cons {p k : Key} {v : V} {r : List (Key × V)} : valV ((p, v) :: r) k = if p = k then some v else valV r k := by
  by_cases h : p = k
  · rw [valV_pos (p := (p, v)) h, if_pos h]
  · rw [valV_neg (p := (p, v)) h, if_neg h]
theorem pk_nil {k : Key} {v : V} : putK ([] : List (Key × V)) k v = [(k, v)] := rfl
theorem pk_cons {p k : Key} {v x : V} {r : List (Key × V)} (hr : valV r p = none := by first | rfl | decide) : putK ((p, x) :: r) k v = if p = k then (p, v) :: r else (p, x) :: putK r k v := by
  unfold putK
  by_cases h : p = k
  · subst h
    rw [if_pos rfl, if_pos (by simp)]
    simp only [List.map_cons, if_true]
    congr 1
    have : ∀ q ∈ r, q.1 ≠ p := fun q hq e => by
      have := valV_any p r
      rw [hr] at this
      have t : (r.any fun kv => decide (kv.1 = p)) = true := List.any_eq_true.mpr ⟨q, hq, by simp [e]⟩
      rw [this] at t; cases t
    have e : r.map (fun kv => if kv.1 = p then (kv.1, v) else kv) = r.map id := List.map_congr_left fun q hq => by simp [this q hq]
    rw [e, List.map_id]
  · rw [if_neg h]
    by_cases c : (r.any fun kv => decide (kv.1 = k)) = true
    · rw [if_pos (by simp [c]), if_pos c]
      simp [h]
    · rw [if_neg (by simp [c, h]), if_neg c]; rfl
theorem pk_one {p k : Key} {v x : V} : putK [(p, x)] k v = if p = k then [(p, v)] else [(p, x), (k, v)] := pk_cons (hr := rfl)
theorem inr_eq {a b : Str} : ((.inr a : Key) = .inr b) = (a = b) := by simp
end RS
namespace RS
open PySem PySem.Spec L2
/-! ### repr of lists and tuples of small leaves -/
def Leaf (d : PyData) : Prop := match d with
  | .none => True
  | .bool _ => True
  | .int i => i.natAbs < 10 ^ 12
  | .str x => (∀ c ∈ x.cps.toList, c < 16 ^ 8) ∧ x.length ≤ 10000
  | _ => False
theorem log2_small {n : Nat} (h : n < 10 ^ 12) : n.log2 ≤ 40 := by
  rcases Nat.eq_zero_or_pos n with rfl | h0
  · simp
  · have : n.log2 < 41 := (Nat.log2_lt (by omega)).mpr (show n < 2 ^ 41 by omega)
    omega
theorem Leaf.all {d : PyData} (h : Leaf d) : d.showable = true ∧ d.leavesShort 13 = true ∧ d.weight ≤ 10000 ∧ d.depth ≤ 1 := by
  cases d with
  | none => exact ⟨rfl, rfl, by decide, by decide⟩
  | bool b => exact ⟨rfl, rfl, by simp [PyData.weight], by simp [PyData.depth]⟩
  | int i =>
    have h : i.natAbs < 10 ^ 12 := h
    have l := log2_small h
    refine ⟨?_, ?_, ?_, by simp [PyData.depth]⟩
    · simp only [PyData.showable, decide_eq_true_eq]; omega
    · simp only [PyData.leavesShort, decide_eq_true_eq]; exact PyData.shown_int_le h
    · simp only [PyData.weight]; split <;> omega
  | str x =>
    refine ⟨rfl, ?_, ?_, by simp [PyData.depth]⟩
    · simp only [PyData.leavesShort, List.all_eq_true, decide_eq_true_eq]; exact h.1
    · simp only [PyData.weight]; exact h.2
  | list _ => exact h.elim
  | tuple _ => exact h.elim
  | dict _ => exact h.elim
theorem leafs_all : ∀ {ds : List PyData}, (∀ d ∈ ds, Leaf d) → PyData.showableAll ds = true ∧ PyData.leavesShortAll 13 ds = true ∧ PyData.weightAll ds ≤ 10001 * ds.length ∧ PyData.depthAll ds ≤ 1
  | [], _ => ⟨rfl, rfl, by simp [PyData.weightAll], by simp [PyData.depthAll]⟩
  | d :: ds, h => by
    have a := (h d List.mem_cons_self).all
    have b := leafs_all (ds := ds) fun x hx => h x (List.mem_cons_of_mem _ hx)
    refine ⟨?_, ?_, ?_, ?_⟩
    · simp [PyData.showableAll, a.1, b.1]
    · simp [PyData.leavesShortAll, a.2.1, b.2.1]
    · simp only [PyData.weightAll, List.length_cons]; omega
    · simp only [PyData.depthAll]; omega
theorem repr_list {K : PySem.W.Frag} {H : Hp} {Q : VK} {a : Addr} {xs : List V} {ds : List PyData} (h : SqL K H a xs) (hd : DpAll K H xs ds) (hl : ∀ d ∈ ds, Leaf d) (n : ds.length ≤ 100) (q : Q (.str (PyData.list ds).shown) H) : rRepr K [.ref a] H Q := by
  obtain ⟨a1, a2, a3, a4⟩ := leafs_all hl
  refine repr_by (.list ds) (.lst h hd) ?_ ?_ ?_ ?_ q
  · simpa only [PyData.showable] using a1
  · simp only [PyData.depth]; omega
  · simpa only [PyData.leavesShort] using a2
  · simp only [PyData.weight]; omega
end RS


namespace RS
open PySem PySem.Spec L2
theorem sq_same {K : PySem.W.Frag} {H H' : Hp} {a : Addr} {xs : List V} (h : SqL K H a xs) (s : Same H H') : SqL K H' a xs := by
  rcases h with (h | ⟨o, h⟩) | h
  · exact .inl (.inl (s _ _ h))
  · exact .inl (.inr ⟨o, s _ _ h⟩)
  · exact .inr h
theorem dp_ints {K : PySem.W.Frag} {H : Hp} : ∀ ns : List Int, DpAll K H (ns.map V.int) (ns.map PyData.int)
  | [] => .nil
  | n :: ns => .cons (.int n) (dp_ints ns)
theorem lay_ints : ∀ ns : List Int, PyData.canLayAll0 (ns.map PyData.int) = true ∧ PyData.depthAll (ns.map PyData.int) = 0
  | [] => ⟨rfl, rfl⟩
  | n :: ns => by
    have h := lay_ints ns
    simp [PyData.canLayAll0, PyData.canLay0, PyData.depthAll, PyData.depth, h]
theorem shaped_ints (ns : List Int) : SeqAt.shaped (.list (ns.map PyData.int)) = true := by
  have h := lay_ints ns
  simp [SeqAt.shaped, PyData.canLay0, PyData.depth, h]
theorem eqv_nil (ns : List Int) : PyData.eqv (.list (ns.map PyData.int)) (.list []) = ns.isEmpty := by
  cases ns <;> rfl
/-- ns != [] -/
theorem ne_empty {K : PySem.W.Frag} {H : Hp} {Q : VK} {a p : Addr} {ns : List Int} (h : SqL K H a (ns.map V.int)) (hp : H p = some (.lst [])) (q : Q (.bl (!ns.isEmpty)) H) : rNeD K (.ref a) (.ref p) H Q := by
  refine ⟨.list (ns.map PyData.int), .list [], .lst h (dp_ints ns), .lst (SqL.of hp) .nil, shaped_ints ns, rfl, ?_⟩
  rw [eqv_nil]; exact q
theorem ty_list {K : PySem.W.Frag} {p : Addr} {H : Hp} : tyV K "list" (.ref p) H = ∃ xs, SqL K H p xs := by simp [tyV]
theorem ty_str {K : PySem.W.Frag} {x : Str} {H : Hp} : tyV K "str" (.str x) H = True := by simp [tyV]
theorem cutV_to (a : List V) {i : Int} (h : 0 ≤ i) : cutV a none (some i) = a.take i.toNat := by
  unfold cutV
  rw [sIx_nat _ _ h]
  simp [HT.sIx]
theorem cutV_from (a : List V) {i : Int} (h : 0 ≤ i) : cutV a (some i) none = a.drop i.toNat := by
  unfold cutV
  rw [sIx_nat _ _ h]
  simp only [HT.sIx]
  by_cases c : i.toNat ≤ a.length
  · rw [Nat.min_eq_left c, List.take_of_length_le (by simp)]
  · rw [Nat.min_eq_right (by omega), List.drop_of_length_le (Nat.le_refl _), List.drop_of_length_le (by omega)]; simp
/-- a statement, then the rest, with a word between them that the simp set leaves alone -/
def tMid (t u : TS) : TS := fun D σ H => ∃ Mid : L2.St → Hp → Prop, t { D with nx := Mid } σ H ∧ ∀ σ' H', Mid σ' H' → u D σ' H'
theorem pss_mid {X : Cx} {st : Stmt} {rest : List Stmt} {t u : TS} (h1 : PS X st t) (h2 : PSs X rest u) : PSs X (st :: rest) (tMid t u) := C8.pss_cut h1 h2
theorem mid_at {t u : TS} {D : Ends} {σ : L2.St} {H : Hp} (Mid : L2.St → Hp → Prop) (h1 : t { D with nx := Mid } σ H) (h2 : ∀ σ' H', Mid σ' H' → u D σ' H') : tMid t u D σ H := ⟨Mid, h1, h2⟩
/-- .. where one state alone is left -/
theorem mid_one {t u : TS} {D : Ends} {σ : L2.St} {H : Hp} (σ1 : L2.St) (R : Hp → Prop) (h1 : t { D with nx := fun σ' H' => σ' = σ1 ∧ R H' } σ H) (h2 : ∀ H', R H' → u D σ1 H') : tMid t u D σ H :=
  ⟨_, h1, fun _ _ ⟨e, r⟩ => by subst e; exact h2 _ r⟩
end RS


namespace RS
open PySem PySem.Spec PySem.W PySem.Calls PyProof.Rows
/-- what the text says of an own exception class C: its __init__ at fI is one that says super().__init__(..) -/
structure XC (P : Program) (K : Frag) (C fI cda cc : Addr) (qual : Str) (st : Stmt) (B newId initId : String) (bmB : List Value) : Prop where
  FB : ExcBaseFacts B newId initId bmB
  KF : KxsFacts B initId
  SF : StoreFacts B bmB "object.__setattr__" "object"
  q : excInitIn K C bmB newId = true
  ov : excOver K C bmB = true
  sup : ks_superIn K C C "__init__" = some (some (.builtin initId))
  sub : subIn K (.ref C) (.type B) = some true
  ini : findIn K (.ref C) "__init__" = some (some (.ref fI))
  fn : typeIn K (.ref fI) = some (.type "function")
  lk : ∃ oc od kV doc pm an ct osl, K.lookup fI = some ⟨oc, od, .func (ksFn "__init__" qual (L2.defArgs st) (L2.defBody st) (L2.defScope st) .none kV doc pm an (.ref cda) ct cc), osl⟩
  cd : codeIn K (.ref cda) qual = true
  co : ∃ ccl cdd vs ccs file tf, K.lookup cda = some ⟨ccl, cdd, .fields vs, ccs⟩ ∧ vs[2]? = some (.str file tf) ∧ ((P.main.file : Str) == file) = true
  ce : ∃ cl cld csl, K.lookup cc = some ⟨cl, cld, .cell (some (.ref C)), csl⟩
  me : mroIn K C (.ref C) = some true
  op : nsIn K cStatics "thirdparty.any" = some none
  nt : (P.main.scope.names.lookup ("super" : Str)).isSome = false
section
variable {prog : Program} {w : World} {A : Around} {E : Value → Shared → Prop} {h : Heap} {g : Array GenState} {d : Drawn} {t : Nat} {os : OsState} {K : Frag} {C fI cda cc e u t0 : Addr} {B newId initId : String} {bmB : List Value} {qual : Str} {st : Stmt}
/-- the bound __init__, called: the args are laid anew -/
theorem call_mw {rest : List Value} {Q : Value → Shared → Prop} (KX : K.In h) (FB : ExcBaseFacts B newId initId bmB) (q : excInitIn K C bmB newId = true) (hu : h.get? u = some (kxs_mw initId e)) (he : h.get? e = some (HandSPX.excO C t0)) (hz : rest.length ≤ sizeLine)
    (hq : ∀ h' t1, (∀ b o, b ≠ e → h.get? b = some o → h'.get? b = some o) → h'.get? e = some (HandSPX.excO C t1) → Q .none ⟨h', g, d, t, os⟩) :
    wpAny (model prog w) A (call (.ref u) rest) Q E ⟨h, g, d, t, os⟩ := by
  obtain ⟨nm, N', qn, bs, bm, hdct, sn, sub, ab, col, dd, k0, k1, k2, k3, k5, hC, hT⟩ := excInit_of KX q
  refine wpAny_call (codeAny_of_tree ?_)
  show wpAny _ A.in1 (callAny (.ref u) ⟨rest, []⟩) _ _ _
  simp only [callAny]
  refine wpAny_bind (wpAny_load hu ?_)
  have m1 : (Value.type "method-wrapper" == Value.type "method" || Value.type "method-wrapper" == Value.type "builtin_function_or_method" || Value.type "method-wrapper" == Value.type "method-wrapper") = true := by decide
  simp only [kxs_mw, m1, if_true]
  refine KFB.if_so (by decide) ?_
  refine wpAny_bind (check_bound_init FB.toExcCallFacts hC he rfl ?_)
  refine wpAny_bind (wpAny_pure (wpAny_pure ?_))
  refine ⟨plainId_quiet FB.init.plain _, codeAny_builtin FB.initEntry ?_⟩
  exact exc_init_tree (cls := .ref C) (t0 := t0) (dv := none) (c2 := .none) (c3 := .none) (b4 := .bool false) he hz fun h' k e' t' => hq h' _ k e'
end
end RS
namespace RS
open PySem PySem.Spec PySem.W PySem.Calls PyProof.Rows
section
variable {prog : Program} {w : World} {A : Around} {E : Value → Shared → Prop} {h : Heap} {g : Array GenState} {d : Drawn} {t : Nat} {os : OsState} {K : Frag} {C fI cda cc e t0 L : Addr} {B newId initId : String} {bmB : List Value} {qual : Str} {st : Stmt} {mg mb m : Str → Option Value}
/-- super().__init__('..') in the own __init__ -/
theorem sup_init {body : List Stmt} {ar : Arg} {msg : Str} {j : _} {pc p0 p1 p2 p3 p4 : Pos} {Q : Flow → Shared → Prop} (X : XC prog K C fI cda cc qual st B newId initId bmB) (KX : K.In h) (hns : h.Ns L m) (hp : ((L2.defArgs st).posonlyargs ++ (L2.defArgs st).args).head? = some ar) (hv : m ar.arg = some (.ref e))
    (he : h.get? e = some (HandSPX.excO C t0)) (hg : h.Ns mainGlobals mg) (hm : mg "super" = none) (hb : h.Ns builtinsNs mb) (bb : ∀ x : Str, x ≠ "__name__" → mb x = bootBuiltins x)
    (hks : (L2.defScope st).names.lookup ("super" : Str) = some .globalImplicit) (hkc : (L2.defScope st).names.lookup ("__class__" : Str) = some .free) (hka : (L2.defScope st).names.lookup ar.arg = some .local) (hk : (L2.defScope st).kind = .function)
    {pl : Sem Bool} (hi : interactive (ksEnv qual (L2.defScope st) L fI (.ref cda) cc) = false) (hsw : swapsWith (.Call (.Attribute (.Call (.Name "super" p0) [] [] p1) "__init__" p2) [.Constant (.str msg) j pc] [] p3) none p4.line (ksEnv qual (L2.defScope st) L fI (.ref cda) cc) = pure false)
    (hst : starEach [.Constant (.str msg) j pc] (ksEnv qual (L2.defScope st) L fI (.ref cda) cc) = [(false, eval (.Constant (.str msg) j pc) (ksEnv qual (L2.defScope st) L fI (.ref cda) cc))])
    (hev : eval (.Call (.Attribute (.Call (.Name "super" p0) [] [] p1) "__init__" p2) [.Constant (.str msg) j pc] [] p3) (ksEnv qual (L2.defScope st) L fI (.ref cda) cc) = (do
      let ov ← attributeBase (.Call (.Name "super" p0) [] [] p1) "__init__" (ksEnv qual (L2.defScope st) L fI (.ref cda) cc) (eval (.Call (.Name "super" p0) [] [] p1) (ksEnv qual (L2.defScope st) L fI (.ref cda) cc))
      standAt p2.atName
      let (f, first) ← holding [ov] (getMethod ov "__init__" pl)
      callWith p3 f first (backTo p3 (starEach [.Constant (.str msg) j pc] (ksEnv qual (L2.defScope st) L fI (.ref cda) cc))) []))
    (hq : ∀ h' t1 tk, (∀ b o, b ≠ e → h.get? b = some o → h'.get? b = some o) → h'.get? e = some (HandSPX.excO C t1) → Q .next ⟨h', g, d, tk, os⟩) :
    _root_.PySem.wpAt (model prog w) A (.func body (ksEnv qual (L2.defScope st) L fI (.ref cda) cc)) (exec (.Expr (.Call (.Attribute (.Call (.Name "super" p0) [] [] p1) "__init__" p2) [.Constant (.str msg) j pc] [] p3) p4) (ksEnv qual (L2.defScope st) L fI (.ref cda) cc)) Q E ⟨h, g, d, t, os⟩ := by
  obtain ⟨oc, od, kV, doc, pm, an, ct, osl, lk⟩ := X.lk
  obtain ⟨ccl, cdd, vs, ccs, file, tf, lc, hvs, hfile⟩ := X.co
  obtain ⟨cl, cld, csl, lce⟩ := X.ce
  obtain ⟨nm, N', qn, bs, bm, hdct, sn, sub, ab, col, dd, k0, k1, k2, k3, k5, hC, hT⟩ := excInit_of KX X.q
  refine ks_wpAt_Expr_any (ks_wpAt_MethodCall (pl := pl) ?_ hev) hi hsw
  refine ks_wpAt_super_base (env := ksEnv qual (L2.defScope st) L fI (.ref cda) cc) hks hkc (by decide) rfl (KX _ _ lk) rfl hp rfl (KX _ _ lc) rfl hvs hfile X.nt ?_
  refine ks_loadName_global hk hks (loadGlobal_builtin (env := ksEnv qual (L2.defScope st) L fI (.ref cda) cc) hg hm hb ((bb _ (by decide +kernel)).trans (by decide +kernel)) ⟨rfl, ?_⟩)
  refine wpAny_loadName_free hk hkc rfl ⟨_, KX _ _ lce, rfl⟩ ?_
  refine wpAny_loadName_local hk hka hns hv ?_
  refine ks_wpAny_isType_cls hC rfl ⟨rfl, ?_⟩
  refine ks_wpAny_call_super hC rfl he rfl (fun c z => nomatch z) (looks_mroIn KX X.me) (fun h1 hso k1 => ?_)
  have KX1 : K.In h1 := fun b o z => k1 b o (KX b o z)
  have he1 := k1 _ _ he
  have I1 : InstAt h1 e (HandSPX.excO C t0) C none := ⟨he1, rfl, rfl, trivial⟩
  have hI : Looks (model prog w) h1 (isInstance (.ref e) (.type B)) true := I1.type.andThen (looks_subIn KX1 X.sub)
  have sup := X.sup
  cases hc : clsIn K C with
  | none => unfold ks_superIn at sup; rw [hc] at sup; cases sup
  | some cd =>
    unfold ks_superIn at sup
    rw [hc] at sup
    refine kxs_getMethod X.KF hso (looks_opaque KX1 X.op) (l₀ := cd.mro) (fun A Q E s k q => wpAny_bind ((looks_clsIn KX1 hc) A _ E s k (wpAny_pure q))) rfl KX1 sup hI (ks_ne KX1 I1 hc) (by decide) ?_
    have k2 : ∀ b o, h1.get? b = some o → (h1.push (kxs_mw initId e)).get? b = some o := fun b o z => Heap.get?_push_of_some _ z
    have hu : (h1.push (kxs_mw initId e)).get? h1.objs.size = some (kxs_mw initId e) := Heap.get?_push_at rfl rfl
    rw [hst]
    refine kxs_callWith (i := initId) (x := e) rfl ?_
    show wpAny (model prog w) A (evalArgs (.ref h1.objs.size) true ((false, eval (.Constant (.str msg) j pc) _) :: backTo p3 []) []) _ E _
    refine evalArgs_plain (spliced_cons (Calls.Constant_str ?_))
    refine spliced_nil ⟨hu, ?_⟩
    refine call_mw (t0 := t0) (fun b o z => k2 b o (KX1 b o z)) X.FB X.q hu (k2 _ _ he1) (by rw [sizeLine_eq]; simp) fun h' t1 k3 e3 => ?_
    exact hq h' t1 _ (fun b o hb z => k3 b o hb (k2 b o (k1 b o z))) e3
end
end RS
namespace RS
open PySem PySem.Spec PySem.W PySem.Calls PyProof.Rows Builtin Builtin.ObjectAttr
section
variable {prog : Program} {w : World} {A : Around} {E : Value → Shared → Prop} {R : Result → Shared → Prop} {hp : Heap} {g : Array GenState} {d : Drawn} {t : Nat} {os : OsState} {K : Frag} {C x : Addr} {B : String} {bmB : List Value}
/-- self.name = v on an exception that has no dict yet, over any built-in base -/
theorem osa_newX {name : Str} {tk : Tok} {v : Value} {fv : Array Value} {cd : ClassData} (SF : StoreFacts B bmB "object.__setattr__" "object") (KX : K.In hp) (hx : hp.get? x = some { cls := .ref C, data := .fields fv }) (hcd : clsIn K C = some cd) (hh : cd.hasDict = true) (ov : excOver K C bmB = true)
    (ha : findIn K (.ref C) name = some none)
    (hq : ∀ h' tk' dx, (∀ b o, b ≠ x → hp.get? b = some o → h'.get? b = some o) → hp.objs.size ≤ dx → dx ≠ x → h'.get? x = some { cls := .ref C, dict := some dx, data := .fields fv } →
      h'.Ns1 dx (fun y => if y = name then some v else none) → R (.ok (.ret .none)) ⟨h', g, d, tk', os⟩) :
    codeAny (model prog w) A (.call (.builtin "object.__setattr__") ⟨[.ref x, .str name tk, v], []⟩) R ⟨hp, g, d, t, os⟩ := by
  have I : InstAt hp x { cls := .ref C, data := .fields fv } C none := ⟨hx, rfl, rfl, trivial⟩
  have hxs : x ≠ hp.objs.size := Nat.ne_of_lt (Heap.lt_size hx)
  have ht : takerIn K C name = some none := L2.NoAttr.taker ha
  have hcls : Looks (model prog w) hp (classData C) cd := looks_clsIn KX hcd
  refine osa_openX (s := ⟨hp, g, d, t, os⟩) SF KX I ov ht fun b => ?_
  show wpAny _ _ (storeInOwnDict (.ref x) (.ref C) (.str name tk) name v b) _ _ _
  cases cd with | mk nm bs mro ns qn hd sn sb ab col del =>
  simp only at hh
  subst hh
  unfold storeInOwnDict
  unfold ownDictForStores
  repeat (first | with_reducible refine HandSPX.store_in_new ?_ ?_ | with_reducible refine wpAny_loadPart_at hx ?_ | with_reducible refine hcls.at ?_ | wp_step)
  · refine ⟨_, #[], _, (Heap.get?_update_ne _ _ _ _ hxs.symm).trans (Heap.get?_push_at rfl rfl), rfl, ?_, fun _ => rfl⟩
    exact fun z hz => absurd hz (by simp)
  · intro h2 tk2 hn2 same
    have up2 : ∀ b o, hp.get? b = some o → (hp.push { cls := .type "dict", data := .dict #[] }).get? b = some o := fun b o z => Heap.get?_push_of_some _ z
    refine hq h2 tk2 hp.objs.size (fun b o hb z => ?_) (Nat.le_refl _) hxs.symm ((same.2 x hxs).trans (Heap.get?_update_self _ (up2 _ _ hx) rfl)) hn2
    exact (same.2 b (Nat.ne_of_lt (Heap.lt_size z))).trans ((Heap.get?_update_ne _ _ _ _ hb).trans (up2 _ _ z))
end
end RS
namespace RS
open PySem PySem.Spec PySem.W PySem.Calls PyProof.Rows
/-- the form of such an __init__: super().__init__(msg), then self.f = x -/
structure XSt1 (qual : Str) (st : Stmt) (x f : Str) : Prop where
  bd : ∃ p0 p1 p2 p3 p4 p5 p6 p7 p8 pc msg, ∃ j : Nat, L2.defBody st = [.Expr (.Call (.Attribute (.Call (.Name "super" p0) [] [] p1) "__init__" p2) [.Constant (.str msg) j pc] [] p3) p4, .Assign [.Attribute (.Name "self" p5) f p6] (.Name x p7) p8] ∧
    ∀ (L fI cda cc : Addr), interactive (ksEnv qual (L2.defScope st) L fI (.ref cda) cc) = false ∧
      swapsWith (.Call (.Attribute (.Call (.Name "super" p0) [] [] p1) "__init__" p2) [.Constant (.str msg) j pc] [] p3) none p4.line (ksEnv qual (L2.defScope st) L fI (.ref cda) cc) = pure false ∧
      starEach [.Constant (.str msg) j pc] (ksEnv qual (L2.defScope st) L fI (.ref cda) cc) = [(false, eval (.Constant (.str msg) j pc) (ksEnv qual (L2.defScope st) L fI (.ref cda) cc))] ∧
      (∃ pl, eval (.Call (.Attribute (.Call (.Name "super" p0) [] [] p1) "__init__" p2) [.Constant (.str msg) j pc] [] p3) (ksEnv qual (L2.defScope st) L fI (.ref cda) cc) = (do
        let ov ← attributeBase (.Call (.Name "super" p0) [] [] p1) "__init__" (ksEnv qual (L2.defScope st) L fI (.ref cda) cc) (eval (.Call (.Name "super" p0) [] [] p1) (ksEnv qual (L2.defScope st) L fI (.ref cda) cc))
        standAt p2.atName
        let (f, first) ← holding [ov] (getMethod ov "__init__" pl)
        callWith p3 f first (backTo p3 (starEach [.Constant (.str msg) j pc] (ksEnv qual (L2.defScope st) L fI (.ref cda) cc))) [])) ∧
      swapsWith (.Name x p7) (some (.Attribute (.Name "self" p5) f p6)) p8.line (ksEnv qual (L2.defScope st) L fI (.ref cda) cc) = pure false
  ar : ∃ ar, ((L2.defArgs st).posonlyargs ++ (L2.defArgs st).args).head? = some ar ∧ ar.arg = "self"
  ks : (L2.defScope st).names.lookup ("super" : Str) = some .globalImplicit
  kc : (L2.defScope st).names.lookup ("__class__" : Str) = some .free
  ka : (L2.defScope st).names.lookup ("self" : Str) = some .local
  kx : (L2.defScope st).names.lookup x = some .local
  kd : (L2.defScope st).kind = .function
  co : (L2.defScope st).isCoroutine = false
  ge : (L2.defScope st).isGenerator = false
  ce : ∀ y ∈ (L2.defScope st).names, y.2 ≠ .cell
  bi : ∀ (oc : Value) (kV doc pm : Value) (an : Option Addr) (cdv ct : Value) (cc : Addr) (u v : Value), bindArgs (ksFn "__init__" qual (L2.defArgs st) (L2.defBody st) (L2.defScope st) .none kV doc pm an cdv ct cc) ⟨[u, v], []⟩ = pure ([("self", u), (x, v)] : List (Str × Value))
  ne : ¬ ("self" : Str) = x
  dbg : (x == ("__debug__" : Str)) = false
section
variable {prog : Program} {w : World} {A : Around} {R : Result → Shared → Prop} {h : Heap} {g : Array GenState} {d : Drawn} {t : Nat} {os : OsState} {K : Frag} {C fI cda cc e t0 : Addr} {B newId initId : String} {bmB : List Value} {qual x f : Str} {st : Stmt} {mg mb : Str → Option Value}
theorem xinit1 {v : Value} (X : XC prog K C fI cda cc qual st B newId initId bmB) (Y : XSt1 qual st x f) (hd : hasDictIn K C = true) (sa : findIn K (.ref C) "__setattr__" = some (some (.builtin "object.__setattr__"))) (nf : findIn K (.ref C) f = some none)
    (KX : K.In h) (ke : K.lookup e = none) (hroom : A.depth < recursionLimit) (hlim : h.NoLimit) (he : h.get? e = some (HandSPX.excO C t0)) (hg : h.Ns mainGlobals mg) (hm : mg "super" = none) (hb : h.Ns builtinsNs mb) (bb : ∀ x : Str, x ≠ "__name__" → mb x = bootBuiltins x)
    (hq : ∀ h' t1 dx tk, (∀ b o, b ≠ e → h.get? b = some o → h'.get? b = some o) → h.objs.size ≤ dx → dx ≠ e → h'.get? e = some { cls := .ref C, dict := some dx, data := .fields #[.ref t1, .none, .none, .none, .bool false, .none] } →
      h'.Ns1 dx (fun y => if y = f then some v else none) → R (.ok (.ret .none)) ⟨h', g, d, tk, os⟩) :
    codeAny (model prog w) A (.call (.ref fI) ⟨[.ref e, v], []⟩) R ⟨h, g, d, t, os⟩ := by
  obtain ⟨oc, od, kV, doc, pm, an, ct, osl, lk⟩ := X.lk
  obtain ⟨p0, p1, p2, p3, p4, p5, p6, p7, p8, pc, msg, j, hbd, hform⟩ := Y.bd
  obtain ⟨ar, har, harg⟩ := Y.ar
  obtain ⟨cd, hc, hh⟩ := any_some hd
  refine ks_codeAny_call_defAt (s := ⟨h, g, d, t, os⟩) (body := L2.defBody st) (binds := ([("self", .ref e), (x, v)] : List (Str × Value))) hroom (KX _ _ lk) rfl hlim (codeRec_of KX X.cd) rfl (.of_eq (Y.bi oc kV doc pm an _ ct cc _ _)) Y.ce (fun y hy => ?_) (fun h1 hns k1 => ?_) Y.co Y.ge Y.kd
  · simp only [List.mem_cons, List.not_mem_nil, or_false] at hy
    rcases hy with rfl | rfl
    · exact Y.ka
    · exact Y.kx
  obtain ⟨hi, hsw, hst, ⟨pl, hev⟩, hsw2⟩ := hform h.objs.size fI cda cc
  have KX1 : K.In h1 := fun b o z => k1 b o (KX b o z)
  have lt_e : e < h.objs.size := Heap.lt_size he
  rw [hbd]
  refine ks_wpAt_execs_cons ?_
  have hv1 : (fun y => ([("self", Value.ref e), (x, v)] : List (Str × Value)).reverse.lookup y) ar.arg = some (.ref e) := by
    rw [harg]
    show List.lookup ("self" : Str) ([(x, v), ("self", Value.ref e)] : List (Str × Value)) = _
    rw [List.lookup_cons, beq_eq_false_iff_ne.mpr Y.ne]
    rfl
  have hv2 : (fun y => ([("self", Value.ref e), (x, v)] : List (Str × Value)).reverse.lookup y) x = some v := by
    show List.lookup x ([(x, v), ("self", Value.ref e)] : List (Str × Value)) = _
    rw [List.lookup_cons, beq_self_eq_true]
  refine sup_init X KX1 hns har hv1 (k1 _ _ he) (hg.keeps k1) hm (hb.keeps k1) bb Y.ks Y.kc (by rw [harg]; exact Y.ka) Y.kd (pl := pl) hi hsw hst hev fun h2 t1 tk k2 e2 => ?_
  have hns2 : h2.Ns h.objs.size (fun y => ([("self", Value.ref e), (x, v)] : List (Str × Value)).reverse.lookup y) := by
    obtain ⟨oL, es, ep, hL, r⟩ := hns
    exact ⟨oL, es, ep, k2 _ _ (Nat.ne_of_gt lt_e) hL, r⟩
  refine ks_wpAt_execs_cons (ks_wpAt_Assign_Attr ?_ hsw2)
  have KX2 : K.In h2 := fun b o z => k2 b o (fun y => by rw [y, ke] at z; cases z) (KX1 b o z)
  refine wpAt_of_wpAny (wpAny_Name (wpAny_loadName_local Y.kd Y.kx hns2 hv2 ?_) Y.dbg)
  refine wpAny_Name (wpAny_loadName_local Y.kd Y.ka hns2 (by rw [harg] at hv1; exact hv1) ?_)
  refine set_plain (s := ⟨h2, g, d, tk, os⟩) (ox := HandSPX.excO C t1) (od := none) KX2 ⟨e2, rfl, rfl, trivial⟩ sa ?_
  refine osa_newX X.SF KX2 e2 hc hh X.ov nf fun h3 tk3 dx k3 ldx nex e3 n3 => ?_
  have sz : h.objs.size < h2.objs.size := by
    obtain ⟨oL, es, ep, hL, r⟩ := hns2
    exact Heap.lt_size hL
  refine wpAt_of_wpAny (wpAny_execs_nil ?_)
  exact hq h3 t1 dx _ (fun b o hb z => k3 b o hb (k2 b o hb (k1 b o z))) (Nat.le_trans (Nat.le_of_lt sz) ldx) nex e3 n3
end
end RS
namespace RS
open PySem PySem.Spec PySem.W PySem.Calls PyProof.Rows
/-- the form of an __init__ that says super().__init__(msg) alone -/
structure XSt0 (qual : Str) (st : Stmt) : Prop where
  bd : ∃ p0 p1 p2 p3 p4 pc msg, ∃ j : Nat, L2.defBody st = [.Expr (.Call (.Attribute (.Call (.Name "super" p0) [] [] p1) "__init__" p2) [.Constant (.str msg) j pc] [] p3) p4] ∧
    ∀ (L fI cda cc : Addr), interactive (ksEnv qual (L2.defScope st) L fI (.ref cda) cc) = false ∧
      swapsWith (.Call (.Attribute (.Call (.Name "super" p0) [] [] p1) "__init__" p2) [.Constant (.str msg) j pc] [] p3) none p4.line (ksEnv qual (L2.defScope st) L fI (.ref cda) cc) = pure false ∧
      starEach [.Constant (.str msg) j pc] (ksEnv qual (L2.defScope st) L fI (.ref cda) cc) = [(false, eval (.Constant (.str msg) j pc) (ksEnv qual (L2.defScope st) L fI (.ref cda) cc))] ∧
      (∃ pl, eval (.Call (.Attribute (.Call (.Name "super" p0) [] [] p1) "__init__" p2) [.Constant (.str msg) j pc] [] p3) (ksEnv qual (L2.defScope st) L fI (.ref cda) cc) = (do
        let ov ← attributeBase (.Call (.Name "super" p0) [] [] p1) "__init__" (ksEnv qual (L2.defScope st) L fI (.ref cda) cc) (eval (.Call (.Name "super" p0) [] [] p1) (ksEnv qual (L2.defScope st) L fI (.ref cda) cc))
        standAt p2.atName
        let (f, first) ← holding [ov] (getMethod ov "__init__" pl)
        callWith p3 f first (backTo p3 (starEach [.Constant (.str msg) j pc] (ksEnv qual (L2.defScope st) L fI (.ref cda) cc))) []))
  ar : ∃ ar, ((L2.defArgs st).posonlyargs ++ (L2.defArgs st).args).head? = some ar ∧ ar.arg = "self"
  ks : (L2.defScope st).names.lookup ("super" : Str) = some .globalImplicit
  kc : (L2.defScope st).names.lookup ("__class__" : Str) = some .free
  ka : (L2.defScope st).names.lookup ("self" : Str) = some .local
  kd : (L2.defScope st).kind = .function
  co : (L2.defScope st).isCoroutine = false
  ge : (L2.defScope st).isGenerator = false
  ce : ∀ y ∈ (L2.defScope st).names, y.2 ≠ .cell
  bi : ∀ (oc : Value) (kV doc pm : Value) (an : Option Addr) (cdv ct : Value) (cc : Addr) (u : Value), bindArgs (ksFn "__init__" qual (L2.defArgs st) (L2.defBody st) (L2.defScope st) .none kV doc pm an cdv ct cc) ⟨[u], []⟩ = pure ([("self", u)] : List (Str × Value))
section
variable {prog : Program} {w : World} {A : Around} {R : Result → Shared → Prop} {h : Heap} {g : Array GenState} {d : Drawn} {t : Nat} {os : OsState} {K : Frag} {C fI cda cc e t0 : Addr} {B newId initId : String} {bmB : List Value} {qual : Str} {st : Stmt} {mg mb : Str → Option Value}
theorem xinit0 (X : XC prog K C fI cda cc qual st B newId initId bmB) (Y : XSt0 qual st)
    (KX : K.In h) (hroom : A.depth < recursionLimit) (hlim : h.NoLimit) (he : h.get? e = some (HandSPX.excO C t0)) (hg : h.Ns mainGlobals mg) (hm : mg "super" = none) (hb : h.Ns builtinsNs mb) (bb : ∀ x : Str, x ≠ "__name__" → mb x = bootBuiltins x)
    (hq : ∀ h' t1 tk, (∀ b o, b ≠ e → h.get? b = some o → h'.get? b = some o) → h'.get? e = some (HandSPX.excO C t1) → R (.ok (.ret .none)) ⟨h', g, d, tk, os⟩) :
    codeAny (model prog w) A (.call (.ref fI) ⟨[.ref e], []⟩) R ⟨h, g, d, t, os⟩ := by
  obtain ⟨oc, od, kV, doc, pm, an, ct, osl, lk⟩ := X.lk
  obtain ⟨p0, p1, p2, p3, p4, pc, msg, j, hbd, hform⟩ := Y.bd
  obtain ⟨ar, har, harg⟩ := Y.ar
  refine ks_codeAny_call_defAt (s := ⟨h, g, d, t, os⟩) (body := L2.defBody st) (binds := ([("self", .ref e)] : List (Str × Value))) hroom (KX _ _ lk) rfl hlim (codeRec_of KX X.cd) rfl (.of_eq (Y.bi oc kV doc pm an _ ct cc _)) Y.ce (fun y hy => ?_) (fun h1 hns k1 => ?_) Y.co Y.ge Y.kd
  · rw [List.mem_singleton.mp hy]; exact Y.ka
  obtain ⟨hi, hsw, hst, ⟨pl, hev⟩⟩ := hform h.objs.size fI cda cc
  rw [hbd]
  refine ks_wpAt_execs_cons ?_
  have hv1 : (fun y => ([("self", Value.ref e)] : List (Str × Value)).reverse.lookup y) ar.arg = some (.ref e) := by
    rw [harg]
    rfl
  refine sup_init X (fun b o z => k1 b o (KX b o z)) hns har hv1 (k1 _ _ he) (hg.keeps k1) hm (hb.keeps k1) bb Y.ks Y.kc (by rw [harg]; exact Y.ka) Y.kd (pl := pl) hi hsw hst hev fun h2 t1 tk k2 e2 => ?_
  refine wpAt_of_wpAny (wpAny_execs_nil ?_)
  exact hq h2 t1 _ (fun b o hb z => k2 b o hb (k1 b o z)) e2
end
end RS


/-! own exceptions as values of the hand layer -/
namespace RS
open PySem PySem.Spec L2
/-- at e: an exception of the class at C, its dict at d -/
def exv (e C : Addr) (d : Option Addr) : HO := .ext fun h => ∃ oe vs, h.get? e = some oe ∧ oe.cls = .ref C ∧ oe.dict = d ∧ oe.data = .fields vs
theorem exv_ok {P : Program} {w : World} {H : Hp} {h : Heap} {e C : Addr} {d : Option Addr} {oe : Obj} {vs : Array Value} (he : h.get? e = some oe) (h1 : oe.cls = .ref C) (h2 : oe.dict = d) (h3 : oe.data = .fields vs) : ObjOk P w H h e (exv e C d) :=
  ⟨⟨oe, vs, he, h1, h2, h3⟩, ⟨_, he⟩, fun g1 g2 z k => by
    obtain ⟨o2, v2, q, r⟩ := z
    exact ⟨o2, v2, k _ q, r⟩⟩
theorem exv_at {P : Program} {w : World} {H : Hp} {h : Heap} {e C : Addr} {d : Option Addr} (hok : HOk P w H h) (he : H e = some (exv e C d)) : ∃ oe vs, h.get? e = some oe ∧ oe.cls = .ref C ∧ oe.dict = d ∧ oe.data = .fields vs := by
  have x : ObjOk P w H h e (.ext fun h => ∃ oe vs, h.get? e = some oe ∧ oe.cls = .ref C ∧ oe.dict = d ∧ oe.data = .fields vs) := hok e _ he
  exact x.1
/-- two new objects, both tracked from now on -/
theorem inv_two {X : Cx} {pins : List (Addr × Obj)} {σ : L2.St} {H : Hp} {s : Shared} {h' : Heap} {a b : Addr} {o u : HO} {t' : Nat} (I : Inv X pins σ H s) (k : ∀ c z, s.heap.get? c = some z → h'.get? c = some z) (ha : s.heap.get? a = none) (hb : s.heap.get? b = none) (na : H a = none) (nb : H b = none) (ab : a ≠ b)
    (oa : ObjOk X.prog X.w (upd (upd H b u) a o) h' a o) (ob : ObjOk X.prog X.w (upd (upd H b u) a o) h' b u) : Inv X pins σ (upd (upd H b u) a o) { s with heap := h', toks := t' } := by
  have nA : ∀ {c : Addr} {z : Obj}, s.heap.get? c = some z → c ≠ a := fun q y => by rw [y, ha] at q; cases q
  have nB : ∀ {c : Addr} {z : Obj}, s.heap.get? c = some z → c ≠ b := fun q y => by rw [y, hb] at q; cases q
  have sm : ∀ {c : Addr} {z : HO}, H c = some z → upd (upd H b u) a o c = some z := fun q => by rw [upd_ne (ne_of_none q na), upd_ne (ne_of_none q nb)]; exact q
  have U : Un X.fs [] H (upd (upd H b u) a o) s.heap h' := {
    keep := fun c z q _ _ _ => k c z q
    slot := fun c z q _ _ _ => ⟨z.slots, k c z q⟩
    free := fun c z q n _ => by rw [upd_ne (nA q), upd_ne (nB q)]; exact n
    there := fun c z q _ => ⟨z, k c z q⟩
    tups := fun c xs q => sm q
    frzs := fun c z v q => sm q
    tbls := fun c ps q => ⟨#[], by rw [sm q]; simp⟩ }
  refine I.un (t' := t') U fun c z q => ?_
  by_cases hc : c = a
  · subst hc
    rw [upd_same] at q
    cases q
    exact oa
  · rw [upd_ne hc] at q
    by_cases hd : c = b
    · subst hd
      rw [upd_same] at q
      cases q
      exact ob
    · rw [upd_ne hd] at q
      exact (I.hok c z q).stay (fun y v _ w' => k y v w') (fun y hy => sm hy) (fun y xs hy => sm hy)
end RS
namespace RS
open PySem PySem.Spec L2 PySem.W
/-- the class x at C: C(v) is a new exception whose field f is v -/
def XK1 (g : Wd) (x : Str) (C : Addr) (f : Str) : Prop := g.mg x = some (.ref C) ∧ g.mg "super" = none ∧ keepIn g.K (.ref C) = true ∧ hasDictIn g.K C = true ∧ findIn g.K (.ref C) "__setattr__" = some (some (.builtin "object.__setattr__")) ∧ findIn g.K (.ref C) f = some none ∧
  ∃ fI cda cc qual st B newId initId bmB xp, XC g.P g.K C fI cda cc qual st B newId initId bmB ∧ XSt1 qual st xp f
section
variable {g : Wd} {X : Cx} {C : Addr} {x f : Str} {e : Expr} {t : TA} {p pos : Pos}
def tMkX1 (C : Addr) (f : Str) (t : TA) : TE := fun σ H Q => t σ H fun vs H1 => ∃ v, vs = [v] ∧ ∀ y dy, H1 y = none → H1 dy = none → y ≠ dy → Q (.ref y) (upd (upd H1 dy (exd dy [(f, v)])) y (exv y C (some dy)))
theorem pe_mkX1 (F : XK1 g x C f) (hr : Rm 2 X) (ha : PA X [e] t) (hg : Gl X x := by rfl) (hdb : (x == ("__debug__" : Str)) = false := by decide)
    (he : starEach [e] X.env = (false, eval e X.env) :: starEach [] X.env := by rfl) (hpl : (backTo pos (starEach [] X.env)).any (·.1) = false := by rfl) (a : At g X := by exact ⟨rfl, rfl, rfl, rfl, rfl⟩) :
    PE X (.Call (.Name x p) [e] [] pos) (tMkX1 C f t) := by
  obtain ⟨hm, ms, kp, hd, sa, nf, fI, cda, cc, qual, st, B, newId, initId, bmB, xp, XX, Y⟩ := F
  refine ⟨fun pins s σ H Q I h => wpAny_Call_Name_kw (ld_glob I hg (by rw [a.mg]; exact hm) ?_ hdb)⟩
  refine PySem.W.callWith_K (h₀ := X.base) I.ok.mod.kin (by rw [a.K]; exact kp) (thn (ha.run pos pins s σ H _ I h) ?_) he hpl
  rintro us s1 ⟨vs, H1, I1, r, v, rfl, q⟩
  obtain ⟨u, rfl, ru⟩ := vals1 r
  refine ⟨I1.kIn, ?_⟩
  have KI := I1.kIn
  rw [a.K] at KI
  obtain ⟨nm, N', qn, bs, bm, hdct, sn, sub, ab, col, dd, k0, k1, k2, k3, k5, hC, hT⟩ := excInit_of KI XX.q
  obtain ⟨oc, od, kV, doc, pm, an, ct, osl, lk⟩ := XX.lk
  have hfn : oc = .type "function" := by
    have z := XX.fn
    unfold typeIn at z
    simp only [lk] at z
    simpa using z
  have hglob : s1.heap.Ns mainGlobals g.mg := by rw [← a.mg]; exact I1.mod.glob.keeps I1.bk
  obtain ⟨mb, hblt, bb⟩ := I1.mod.blt
  have hblt2 := hblt.keeps I1.bk
  have hlim := I1.nolimit
  obtain ⟨hp, gg, dr, tt, oo⟩ := s1
  have up : ∀ b o, hp.get? b = some o → ((hp.push (kdv_tup [u])).push (HandSPX.excO C hp.objs.size)).get? b = some o := fun b o z => Heap.get?_push_of_some _ (Heap.get?_push_of_some _ z)
  have hget : ((hp.push (kdv_tup [u])).push (HandSPX.excO C hp.objs.size)).get? (hp.objs.size + 1) = some (HandSPX.excO C hp.objs.size) := by heap_get
  refine wpAny_call (HandSPX.call_own XX.FB hT hC (looks_findIn KI XX.ini) (fun self => exc_bind (KI _ _ lk) hfn self) (by rw [sizeLine_eq]; simp) ?_)
  rw [a.P]
  refine xinit1 XX Y hd sa nf (fun b o z => up b o (KI b o z)) ?_ (hr.here.make C [u] []).room.depth (hlim.keeps up) hget (hglob.keeps up) ms (hblt2.keeps up) bb fun h' t1 dx tk k ldx nex e' n' => ⟨rfl, ?_⟩
  · cases z : g.K.lookup (hp.objs.size + 1) with
    | none => rfl
    | some o => exact absurd (Heap.lt_size (KI _ _ z)) (by show ¬ hp.objs.size + 1 < hp.objs.size; omega)
  have k' : ∀ b o, hp.get? b = some o → h'.get? b = some o := fun b o z => k b o (fun y => by
    have := Heap.lt_size z
    rw [y] at this
    exact absurd this (by show ¬ hp.objs.size + 1 < hp.objs.size; omega)) (up b o z)
  have ld2 : hp.objs.size + 2 ≤ dx := by
    have e2 : ((hp.push (kdv_tup ([] ++ [u]))).push (HandSPX.excO C hp.objs.size)).objs.size = hp.objs.size + 2 := by simp [Heap.size_push]
    rw [e2] at ldx
    exact ldx
  have n1 : hp.get? (hp.objs.size + 1) = none := by
    cases z : hp.get? (hp.objs.size + 1) with
    | none => rfl
    | some o => exact absurd (Heap.lt_size z) (by show ¬ hp.objs.size + 1 < hp.objs.size; omega)
  have n2 : hp.get? dx = none := by
    cases z : hp.get? dx with
    | none => rfl
    | some o => exact absurd (Heap.lt_size z) (by show ¬ dx < hp.objs.size; omega)
  have f1 : H1 (hp.objs.size + 1) = none := I1.hok.fresh (Nat.le_succ _)
  have f2 : H1 dx = none := I1.hok.fresh (by show hp.objs.size ≤ dx; omega)
  have J := inv_two (t' := tk) (o := exv (hp.objs.size + 1) C (some dx)) (u := exd dx [(f, v)]) I1 k' n1 n2 f1 f2 (fun z => nex z.symm) (exv_ok e' rfl rfl rfl) (exd_ok n' (relO_put (fs := []) ru fun g => True.intro))
  exact ⟨.ref (hp.objs.size + 1), _, J, rfl, q _ _ f1 f2 fun z => nex z.symm⟩
end
end RS
namespace RS
open PySem PySem.Spec L2 PySem.W
/-- the class x at C: C() is a new exception without a dict -/
def XK0 (g : Wd) (x : Str) (C : Addr) : Prop := g.mg x = some (.ref C) ∧ g.mg "super" = none ∧ keepIn g.K (.ref C) = true ∧
  ∃ fI cda cc qual st B newId initId bmB, XC g.P g.K C fI cda cc qual st B newId initId bmB ∧ XSt0 qual st
section
variable {g : Wd} {X : Cx} {C : Addr} {x f : Str} {e o : Expr} {t : TA} {ta : TE} {p pos : Pos}
def tMkX0 (C : Addr) : TE := fun σ H Q => ∀ y, H y = none → Q (.ref y) (upd H y (exv y C none))
theorem pe_mkX0 (F : XK0 g x C) (hr : Rm 2 X) (hg : Gl X x := by rfl) (hdb : (x == ("__debug__" : Str)) = false := by decide) (a : At g X := by exact ⟨rfl, rfl, rfl, rfl, rfl⟩) :
    PE X (.Call (.Name x p) [] [] pos) (tMkX0 C) := by
  obtain ⟨hm, ms, kp, fI, cda, cc, qual, st, B, newId, initId, bmB, XX, Y⟩ := F
  refine ⟨fun pins s σ H Q I q => wpAny_Call_Name_kw (ld_glob I hg (by rw [a.mg]; exact hm) ?_ hdb)⟩
  refine PySem.W.callWith_K0 I.kIn (by rw [a.K]; exact kp) ?_
  have KI := I.kIn
  rw [a.K] at KI
  obtain ⟨nm, N', qn, bs, bm, hdct, sn, sub, ab, col, dd, k0, k1, k2, k3, k5, hC, hT⟩ := excInit_of KI XX.q
  obtain ⟨oc, od, kV, doc, pm, an, ct, osl, lk⟩ := XX.lk
  have hfn : oc = .type "function" := by
    have z := XX.fn
    unfold typeIn at z
    simp only [lk] at z
    simpa using z
  have hglob : s.heap.Ns mainGlobals g.mg := by rw [← a.mg]; exact I.mod.glob.keeps I.bk
  obtain ⟨mb, hblt, bb⟩ := I.mod.blt
  have hblt2 := hblt.keeps I.bk
  have hlim := I.nolimit
  obtain ⟨hp, gg, dr, tt, oo⟩ := s
  have up : ∀ b o, hp.get? b = some o → ((hp.push (kdv_tup [])).push (HandSPX.excO C hp.objs.size)).get? b = some o := fun b o z => Heap.get?_push_of_some _ (Heap.get?_push_of_some _ z)
  have hget : ((hp.push (kdv_tup [])).push (HandSPX.excO C hp.objs.size)).get? (hp.objs.size + 1) = some (HandSPX.excO C hp.objs.size) := by heap_get
  refine wpAny_call (HandSPX.call_own XX.FB hT hC (looks_findIn KI XX.ini) (fun self => exc_bind (KI _ _ lk) hfn self) (by rw [sizeLine_eq]; simp) ?_)
  rw [a.P]
  refine xinit0 XX Y (fun b o z => up b o (KI b o z)) (hr.here.make C [] []).room.depth (hlim.keeps up) hget (hglob.keeps up) ms (hblt2.keeps up) bb fun h' t1 tk k e' => ⟨rfl, ?_⟩
  have k' : ∀ b o, hp.get? b = some o → h'.get? b = some o := fun b o z => k b o (fun y => by
    have := Heap.lt_size z
    rw [y] at this
    exact absurd this (by show ¬ hp.objs.size + 1 < hp.objs.size; omega)) (up b o z)
  have n1 : hp.get? (hp.objs.size + 1) = none := by
    cases z : hp.get? (hp.objs.size + 1) with
    | none => rfl
    | some o => exact absurd (Heap.lt_size z) (by show ¬ hp.objs.size + 1 < hp.objs.size; omega)
  have f1 : H (hp.objs.size + 1) = none := I.hok.fresh (Nat.le_succ _)
  have J := I.laid (a := hp.objs.size + 1) (o := exv (hp.objs.size + 1) C none) (h' := h') (t' := tk) k' (Nat.le_succ _) (exv_ok e' rfl rfl rfl)
  exact ⟨.ref (hp.objs.size + 1), _, J, rfl, q _ f1⟩

/-! ### a field of such a value -/
def tXfv (K : Frag) (C : Addr) (f : Str) (ta : TE) : TE := fun σ H Q => ta σ H fun x H1 => ∃ a dd fs v, x = .ref a ∧ H1 a = some (exv a C (some dd)) ∧ H1 dd = some (exd dd fs) ∧ fs.lookup f = some v ∧ Q v H1
theorem pe_xfv (T : XfC g.K C) (hno : findIn g.K (.ref C) f = some none) (he : PE X e ta) (hb : attributeBase e f X.env (eval e X.env) = eval e X.env := by rfl) (at_ : At g X := by exact ⟨rfl, rfl, rfl, rfl, rfl⟩) : PE X (.Attribute e f pos) (tXfv g.K C f ta) := by
  refine ⟨fun pins s σ H Q I h => ?_⟩
  refine attr_of hb (thn (he.run pins s σ H _ I h) fun u s1 hh => ?_)
  obtain ⟨x, H1, I1, rx, a, dd, fs, v, rfl, ea, ed, l, q⟩ := hh
  obtain rfl : u = Value.ref a := rx
  obtain ⟨oe, vs, hoe, c1, c2, c3⟩ := exv_at I1.hok ea
  obtain ⟨mA, hns, hr⟩ := exd_at I1.hok ed
  obtain ⟨od, ho, hl⟩ := lookIn_ns hns
  obtain ⟨u, hu, ru⟩ := RelO.some_of (v := v) (o := mA f) (by rw [← l]; exact hr f)
  have J : InstAt s1.heap a oe C (some od) := ⟨hoe, c1, by unfold notCls; rw [c3] <;> rfl, by rw [c2]; exact ho⟩
  have KI := I1.kIn
  rw [at_.K] at KI
  exact HandSPX.exc_get KI J T.ga T.gg T.exC (findObj_own T.hdC hno rfl (by rw [hl, hu])) (handed_of ru) ⟨v, H1, I1.tok _, ru, q⟩
end
end RS


/-! isinstance of own exceptions held as values -/
namespace RS
open PySem PySem.Spec PySem.W PySem.Calls PyProof.Rows
section
variable {prog : Program} {w : World} {A : Around} {E : Value → Shared → Prop} {s : Shared} {K : Frag} {x C : Addr} {ox : Obj} {od : Option Obj}
theorem clsX (T : L2.ExcC K C) {Q : Option Value → Shared → Prop} (KX : K.In s.heap) (I : InstAt s.heap x ox C od) (q : Q (some (.ref C)) { s with toks := s.toks + 1 }) : wpAny (model prog w) A (getAttr? (.ref x) "__class__") Q E s := by
  have some_cls : (clsIn K C).isSome = true := by
    obtain ⟨cd, hc, _⟩ := any_some T.hd
    rw [hc]; rfl
  have found : findObj K C od "__class__" = some (.bind (.builtin "getset_descriptor.__get__") (.builtin "object.__class__")) := by
    cases od with
    | none => exact findObj_dataN some_cls T.ha T.hn T.ht
    | some od => exact findObj_data some_cls T.ha T.hn T.ht
  obtain ⟨hp, gs, dr, tk, os⟩ := s
  have la := I.type (M := model prog w)
  have lb := looks_findIn (M := model prog w) KX T.hg
  have lc := looks_findIn (M := model prog w) KX T.hk
  have ld := looks_find (M := model prog w) KX I found
  have lsub : Looks (model prog w) hp (isInstance (.ref x) (.type "BaseException")) true := la.andThen (looks_subIn KX T.hs)
  have other : (Value.builtin "BaseException.__getattribute__" == Value.builtin "object.__getattribute__") = false := by decide +kernel
  unfold getAttr?
  unfold getAttrBy?
  unfold getAttrBy
  refine wpAny_bind (wpAny_mkText (wpAny_bind (wpAny_attempt ?_)))
  refine wpAny_holding (wpAny_bind (la.at (wpAny_bind (lb.at ?_))))
  dsimp only
  rw [if_neg (by rw [other]; simp)]
  unfold getAttrByItsOwn
  unfold hookBefore
  refine wpAny_bind ?_
  rw [if_pos (by rfl)]
  refine lc.at ?_
  refine wpAny_bind (wpAny_attempt ?_)
  refine wpAny_holding ?_
  unfold callGetattribute
  rw [if_neg (by simp)]
  unfold boundAndCalled
  rw [PySem.F.excAttr_ValueError.ga.bind (.ref x)]
  refine wpAny_bind (wpAny_pure ?_)
  show wpAny _ _ (call (.builtin "BaseException.__getattribute__") [.ref x, .str "__class__" tk]) _ _ _
  refine wpAny_call (codeAny_call_builtin PySem.F.excAttr_ValueError.ga.plain PySem.F.entry_bexc_ga ?_)
  refine @check_slot (model prog w) _ _ ⟨hp, gs, dr, tk + 1, os⟩ "BaseException.__getattribute__" "BaseException" "__getattribute__" (.ref x) [.str "__class__" tk] [] _ (by decide +kernel) (by decide +kernel) lsub (PySem.F.args_bexc_ga _ _) ?_
  unfold Builtin.«object.__getattribute__»
  refine wpAny_bind (wpAny_of_eq (a := ((Value.ref x : Value), [Value.str "__class__" tk])) (by first | rfl | (simp only [slotArgs]; rfl)) ?_)
  refine wpAny_bind (wpAny_pure ?_)
  refine wpAny_bind (la.at (wpAny_bind (ld.at ?_)))
  refine wpAny_bind (wpAny_holding (wpAny_call (class_get (s := ⟨hp, gs, dr, tk + 1, os⟩) (ox := ox) (od := od) KX I T.hm ?_)))
  refine wpAny_pure ?_
  show wpAny _ _ (handedOut (.ref C)) _ _ _
  rw [handedOut_of (v := .ref C) rfl]
  first
    | exact wpAny_pure (wpAny_pure q)
    | exact wpAny_pure q
    | exact wpAny_pure (wpAny_bind (wpAny_pure (wpAny_pure q)))
theorem kitX (T : L2.ExcC K C) : KitX K (.ref x) (.ref C) (fun h => ∃ ox od, InstAt h x ox C od) where
  ty := fun _ _ _ ⟨_, _, I⟩ => I.type
  it := fun M h KX _ => by
    obtain ⟨cd, hc, _⟩ := any_some T.hd
    unfold clsIn at hc
    split at hc
    · rename_i ho
      intro A' Q' E' s' k q
      unfold isType
      unfold loadHead
      exact wpAny_bind (wpAny_loadPart (k _ _ (KX _ _ ho)) (wpAny_pure q))
    · cases hc
  ne := fun h tp dd its n sl KX htp => by
    obtain ⟨cd, hc, _⟩ := any_some T.hd
    refine Bool.eq_false_iff.mpr fun q => ?_
    obtain rfl : C = tp := Value.ref.inj (beq_iff_eq.mp q)
    unfold clsIn at hc
    split at hc
    · rename_i ho
      cases (KX _ _ ho).symm.trans htp
    · cases hc
  ca := fun KX ⟨_, _, I⟩ q => clsX T KX I q
end
end RS
namespace RS
open PySem PySem.Spec L2
section
variable {X : Cx} {g : Wd}
/-- isinstance(x, c), x an exception of the class at C held as a value -/
def rIsX (K : PySem.W.Frag) : List V → Hp → VK → Prop := fun xs H Q => ∃ (a C : Addr) (d : Option Addr) (c : V) (u : Value) (b : Bool), xs = [.ref a, c] ∧ ExcC K C ∧ ClsV c u ∧ H a = some (exv a C d) ∧ (∀ dd, d = some dd → ∃ fs, H dd = some (exd dd fs)) ∧ PySem.W.kitOne K (.ref C) u = some b ∧ Q (.bl b) H
theorem c_isX {K : PySem.W.Frag} (hK : X.K = K := by rfl) : CallR X (.builtin "isinstance") (rIsX K) := by
  subst hK
  intro pins s σ H xs us Q I r h
  obtain ⟨a, C, d, c, u, b, rfl, T, k, ea, ed, e, q⟩ := h
  obtain ⟨u1, u2, rfl, r1, r2⟩ := vals2 r
  have e2 := k.eq r2
  subst e2
  cases r1
  obtain ⟨oe, vs, hoe, c1, c2, c3⟩ := exv_at I.hok ea
  have J : ∃ ox od, PySem.W.InstAt s.heap a ox C od := by
    cases d with
    | none => exact ⟨oe, none, hoe, c1, by unfold PySem.W.notCls; rw [c3] <;> rfl, by rw [c2]; trivial⟩
    | some dd =>
      obtain ⟨fs, ef⟩ := ed dd rfl
      obtain ⟨mA, hns, hr⟩ := exd_at I.hok ef
      obtain ⟨od, ho, hl⟩ := lookIn_ns hns
      exact ⟨oe, some od, hoe, c1, by unfold PySem.W.notCls; rw [c3] <;> rfl, by rw [c2]; exact ho⟩
  exact PySem.W.kia_one (kitX T) I.kIn J e (fun z => nomatch z) fun tk => ⟨.bl b, H, I.tok tk, rfl, q⟩
end
end RS


/-! repr of data with dicts in it -/
namespace RS
open PySem PySem.Spec L2
def keyD : Key → PyData
  | .inl i => .int i
  | .inr x => .str x
mutual
/-- v stands for the data d -/
inductive DpX (K : PySem.W.Frag) (H : Hp) : V → PyData → Prop
  | non : DpX K H .non .none
  | bl (b : Bool) : DpX K H (.bl b) (.bool b)
  | int (i : Int) : DpX K H (.int i) (.int i)
  | str (x : Str) : DpX K H (.str x) (.str x)
  | lst {a : Addr} {xs : List V} {ds : List PyData} (h : SqL K H a xs) (hs : DpXs K H xs ds) : DpX K H (.ref a) (.list ds)
  | tup {a : Addr} {xs : List V} {ds : List PyData} (h : SqT K H a xs) (hs : DpXs K H xs ds) : DpX K H (.ref a) (.tuple ds)
  | dct {a : Addr} {kvs : List (Key × V)} {D : List (PyData × PyData)} (h : H a = some (.dK kvs)) (hs : DpXd K H kvs D) : DpX K H (.ref a) (.dict D)
inductive DpXs (K : PySem.W.Frag) (H : Hp) : List V → List PyData → Prop
  | nil : DpXs K H [] []
  | cons {v : V} {vs : List V} {d : PyData} {ds : List PyData} (h : DpX K H v d) (hs : DpXs K H vs ds) : DpXs K H (v :: vs) (d :: ds)
inductive DpXd (K : PySem.W.Frag) (H : Hp) : List (Key × V) → List (PyData × PyData) → Prop
  | nil : DpXd K H [] []
  | cons {k : Key} {v : V} {kvs : List (Key × V)} {d : PyData} {D : List (PyData × PyData)} (h : DpX K H v d) (hs : DpXd K H kvs D) : DpXd K H ((k, v) :: kvs) ((keyD k, d) :: D)
end
/-- sys.modules stands in the base, a dict -/
def SmB (base : Heap) : Prop := ∃ o es n, base.get? sysModules = some o ∧ o.data = .dict es n
theorem SmB.ne {X : Cx} {pins : List (Addr × Obj)} {σ : L2.St} {H : Hp} {s : Shared} {a : Addr} {its : Array Value} {n : Nat} {o : Obj} (I : Inv X pins σ H s) (sm : SmB X.base) (h : s.heap.get? a = some o) (hd : o.data = .seq its n) : sysModules ≠ a := fun z => by
  obtain ⟨o2, es, k, e, d⟩ := sm
  have e2 := (I.bs _ _ e).1
  rw [z, h] at e2
  cases e2
  rw [hd] at d
  cases d
section
variable {X : Cx} {pins : List (Addr × Obj)} {σ : L2.St} {H : Hp} {s : Shared}
theorem key_reads {h : Heap} (k : Key) (key : Value) (e : (mixKind X.prog X.w).is k key = true) : Reads h key (keyD k) [] := by
  rcases keyIs_shape e with ⟨i, t, rfl, rfl⟩ | ⟨x, t, rfl, rfl⟩
  · exact Reads.int i t
  · exact Reads.str x t
mutual
theorem DpX.reads (I : Inv X pins σ H s) (sm : SmB X.base) : ∀ {d : PyData} {v : V} {u : Value}, DpX X.K H v d → RelV v u → ∃ as, Reads s.heap u d as ∧ sysModules ∉ as
  | _, _, _, .non, r => by cases r; exact ⟨_, Reads.none, by simp⟩
  | _, _, _, .bl b, r => by cases r; exact ⟨_, Reads.bool b, by simp⟩
  | _, _, _, .int i, r => by obtain ⟨t, rfl⟩ := r; exact ⟨_, Reads.int i t, by simp⟩
  | _, _, _, .str x, r => by obtain ⟨t, rfl⟩ := r; exact ⟨_, Reads.str x t, by simp⟩
  | _, _, _, .lst hs ha, r => by
    cases r
    obtain ⟨its, rv, ⟨o, n, ho, hc, _, hd⟩, _⟩ := I.list hs
    obtain ⟨as, hr, na⟩ := DpXs.reads I sm ha rv
    refine ⟨_, Reads.list ho hc hd hr, fun z => ?_⟩
    rcases List.mem_cons.mp z with z | z
    · exact SmB.ne I sm ho hd z
    · exact na z
  | _, _, _, .tup hs ha, r => by
    cases r
    obtain ⟨its, rv, ⟨o, ho, hc, n, hd⟩, _⟩ := I.tuple hs
    obtain ⟨as, hr, na⟩ := DpXs.reads I sm ha rv
    exact ⟨_, Reads.tuple ho hc hd hr, na⟩
  | _, _, _, .dct hs ha, r => by
    cases r
    obtain ⟨_, ns, vs, kv, dd⟩ := dk_of I.hok hs
    obtain ⟨bs, hp, nb⟩ := DpXd.reads I sm ha kv
    refine ⟨_, PyProof.V.reads_dictOf (enc := keyD) (fun k key e => key_reads (X := X) k key e) dd hp, fun z => ?_⟩
    rcases List.mem_cons.mp z with z | z
    · rw [z] at ns; simp at ns
    · exact nb z
theorem DpXs.reads (I : Inv X pins σ H s) (sm : SmB X.base) : ∀ {ds : List PyData} {vs : List V} {us : List Value}, DpXs X.K H vs ds → Vals vs us → ∃ as, ReadsAll s.heap us ds as ∧ sysModules ∉ as
  | _, _, _, .nil, r => by cases r; exact ⟨_, ReadsAll.nil, by simp⟩
  | _, _, _, .cons h1 h2, r => by
    cases r with
    | cons r1 r2 =>
      obtain ⟨as, q1, n1⟩ := DpX.reads I sm h1 r1
      obtain ⟨bs, q2, n2⟩ := DpXs.reads I sm h2 r2
      exact ⟨_, ReadsAll.cons q1 q2, fun z => (List.mem_append.mp z).elim n1 n2⟩
theorem DpXd.reads (I : Inv X pins σ H s) (sm : SmB X.base) : ∀ {D : List (PyData × PyData)} {kvs : List (Key × V)} {vs : List (Key × Value)}, DpXd X.K H kvs D → KV kvs vs → ∃ bs, PyProof.V.PairsRead s.heap keyD vs D bs ∧ sysModules ∉ bs
  | _, _, _, .nil, r => by cases r; exact ⟨_, PyProof.V.PairsRead.nil, by simp⟩
  | _, _, _, .cons h1 h2, r => by
    cases r with
    | @cons _ q _ _ r1 r2 =>
      obtain ⟨k', v'⟩ := q
      obtain ⟨e1, e2⟩ := r1
      simp only at e1 e2
      subst e1
      obtain ⟨as, q1, n1⟩ := DpX.reads I sm h1 e2
      obtain ⟨bs, q2, n2⟩ := DpXd.reads I sm h2 r2
      exact ⟨_, PyProof.V.PairsRead.cons q1 q2, fun z => (List.mem_append.mp z).elim n1 n2⟩
end
end
end RS
namespace RS
open PySem PySem.Spec L2
section
variable {X : Cx} {k : Nat}
def rReprX (K : PySem.W.Frag) : List V → Hp → VK → Prop := fun xs H Q => ∃ a d, xs = [.ref a] ∧ DpX K H (.ref a) d ∧ d.showable = true ∧ d.depth ≤ 60 ∧ d.shown.length ≤ sizeLine ∧ Q (.str d.shown) H
theorem c_reprX {K : PySem.W.Frag} {base : Heap} (sm : SmB base) (hr : Rm k X) (hK : X.K = K := by rfl) (hB : X.base = base := by rfl) : CallR X (.builtin "repr") (rReprX K) := by
  subst hK
  subst hB
  intro pins s σ H xs us Q I r h
  obtain ⟨a, d, rfl, hd, hs, hz, hl, q⟩ := h
  obtain ⟨u, rfl, ru⟩ := vals1 r
  cases ru
  obtain ⟨as, rd, na⟩ := DpX.reads I sm hd rfl
  refine repr_of_reads' (h₀ := s.heap) rd hs (fun _ => na) hr.gd (by have := hr.room.un; omega) (fun _ _ e => e) (fun h' u tk kp => ?_) hl
  exact ⟨.str _, H, I.kept kp, ⟨_, rfl⟩, q⟩
end
end RS
namespace RS
open PySem PySem.Spec L2
theorem sqT_same {K : PySem.W.Frag} {H H' : Hp} {a : Addr} {xs : List V} (h : SqT K H a xs) (s : Same H H') : SqT K H' a xs := by
  rcases h with (h | ⟨o, h⟩) | h
  · exact .inl (.inl (s _ _ h))
  · exact .inl (.inr ⟨o, s _ _ h⟩)
  · exact .inr h
mutual
theorem DpX.same {K : PySem.W.Frag} {H H' : Hp} (s : Same H H') : ∀ {v : V} {d : PyData}, DpX K H v d → DpX K H' v d
  | _, _, .non => .non
  | _, _, .bl b => .bl b
  | _, _, .int i => .int i
  | _, _, .str x => .str x
  | _, _, .lst h hs => .lst (sq_same h s) (hs.same s)
  | _, _, .tup h hs => .tup (sqT_same h s) (hs.same s)
  | _, _, .dct h hs => .dct (s _ _ h) (hs.same s)
theorem DpXs.same {K : PySem.W.Frag} {H H' : Hp} (s : Same H H') : ∀ {vs : List V} {ds : List PyData}, DpXs K H vs ds → DpXs K H' vs ds
  | _, _, .nil => .nil
  | _, _, .cons h hs => .cons (h.same s) (hs.same s)
theorem DpXd.same {K : PySem.W.Frag} {H H' : Hp} (s : Same H H') : ∀ {kvs : List (Key × V)} {D : List (PyData × PyData)}, DpXd K H kvs D → DpXd K H' kvs D
  | _, _, .nil => .nil
  | _, _, .cons h hs => .cons (h.same s) (hs.same s)
end
theorem DpXs.rep {K : PySem.W.Frag} {H : Hp} {v : V} {d : PyData} (h : DpX K H v d) : ∀ n, DpXs K H (List.replicate n v) (List.replicate n d)
  | 0 => .nil
  | n + 1 => .cons h (DpXs.rep h n)
end RS


namespace RS
open PySem PySem.Spec L2
theorem dp_bools {K : PySem.W.Frag} {H : Hp} : ∀ bs : List Bool, DpAll K H (bs.map V.bl) (bs.map PyData.bool)
  | [] => .nil
  | b :: bs => .cons (.bl b) (dp_bools bs)
theorem lay_bools : ∀ bs : List Bool, PyData.canLayAll0 (bs.map PyData.bool) = true ∧ PyData.depthAll (bs.map PyData.bool) = 0
  | [] => ⟨rfl, rfl⟩
  | b :: bs => by
    have h := lay_bools bs
    simp [PyData.canLayAll0, PyData.canLay0, PyData.depthAll, PyData.depth, h]
theorem shaped_bools (bs : List Bool) : SeqAt.shaped (.list (bs.map PyData.bool)) = true := by
  have h := lay_bools bs
  simp [SeqAt.shaped, PyData.canLay0, PyData.depth, h]
theorem eqv_bools : ∀ bs : List Bool, PyData.eqvAll (bs.map PyData.bool) (bs.map PyData.bool) = true
  | [] => rfl
  | b :: bs => by
    have h := eqv_bools bs
    simp [PyData.eqvAll, PyData.eqv, h]
/-- two lists of the same truth values: != says False -/
theorem ne_bools {K : PySem.W.Frag} {H : Hp} {Q : VK} {a p : Addr} (bs : List Bool) (h : SqL K H a (bs.map V.bl)) (hp : SqL K H p (bs.map V.bl)) (q : Q (.bl false) H) : rNeD K (.ref a) (.ref p) H Q := by
  refine ⟨.list (bs.map PyData.bool), .list (bs.map PyData.bool), .lst h (dp_bools bs), .lst hp (dp_bools bs), shaped_bools bs, shaped_bools bs, ?_⟩
  have e : PyData.eqv (.list (bs.map PyData.bool)) (.list (bs.map PyData.bool)) = true := by simp only [PyData.eqv]; exact eqv_bools bs
  rw [e]; exact q
end RS


namespace RS
open PySem PySem.Spec L2 PyProof.Rows
section
variable {X : Cx}
/-- list + list, of whatever standing -/
def rCatW (K : PySem.W.Frag) : R2 := fun x y H Q => ∃ l b xs zs, x = .ref l ∧ y = .ref b ∧ SqL K H l xs ∧ SqL K H b zs ∧ xs.length + zs.length ≤ sizeLine ∧ ∀ p, H p = none → Q (.ref p) (upd H p (.lst (xs ++ zs)))
theorem op_catW {K : PySem.W.Frag} (hK : X.K = K := by rfl) : OpR X (binaryOp .Add) (rCatW K) := by
  subst hK
  intro pins s σ H x y v u Q I rx ry h
  obtain ⟨l, b, xs, zs, rfl, rfl, hH, hB, hz, q⟩ := h
  cases rx
  cases ry
  obtain ⟨its, r, ⟨⟨c1, d1, t1, sl1⟩, n, ho, hc, hdd, hd⟩, _⟩ := I.list hH
  obtain ⟨its2, r2, ⟨⟨c2, d2, t2, sl2⟩, n2, ho2, hc2, hdd2, hd2⟩, _⟩ := I.list hB
  simp only at hc hd hdd hc2 hd2 hdd2
  subst hc hd hdd hc2 hd2 hdd2
  have l1 := r.length
  have l2 := r2.length
  refine concat_meets ⟨_, ho, rfl⟩ ⟨_, ho2, rfl⟩ noFill_list_add seq_list_add PySem.F.slot_list_add PySem.F.entry_list_add (PySem.F.args_list_add_2 _ _) (list_addW l b its.toArray its2.toArray n n2 none none sl1 sl2 (by rw [List.size_toArray, List.size_toArray]; omega)) ⟨ho, ho2, ?_⟩
  have ea : its.toArray ++ its2.toArray = (its ++ its2).toArray := by simp
  rw [ea]
  exact ⟨.ref _, _, I.lnew (t' := s.toks) (r.append r2) (by rw [List.length_append]; omega), rfl, q _ I.fresh⟩
end
end RS
namespace RS
open PySem PySem.Spec L2
theorem join_len_le (n b : Nat) : ∀ ts : List Str, ts.length ≤ n → (∀ t ∈ ts, t.length ≤ b) → (Str.join ", " ts).length ≤ n * (b + 2) := by
  intro ts hn hb
  by_cases e : ts = []
  · subst e; exact Nat.le_trans (by decide) (Nat.zero_le _)
  · have h := join_length_add ts e
    have hp : piled ts ≤ ts.length * (b + 2) := by
      clear h e hn
      induction ts with
      | nil => simp [piled]
      | cons t ts ih =>
        have h1 := hb t (List.mem_cons_self ..)
        have h2 := ih fun x hx => hb x (List.mem_cons_of_mem _ hx)
        simp only [piled, List.map_cons, List.sum_cons, List.length_cons] at h2 ⊢
        rw [Nat.add_mul]
        omega
    have : ts.length * (b + 2) ≤ n * (b + 2) := Nat.mul_le_mul_right _ hn
    omega
theorem shownAll_rep (d : PyData) : ∀ n, PyData.shownAll (List.replicate n d) = List.replicate n d.shown
  | 0 => by simp [PyData.shownAll]
  | n + 1 => by simp [List.replicate_succ, PyData.shownAll, shownAll_rep d n]
theorem showableAll_rep {d : PyData} (h : d.showable = true) : ∀ n, PyData.showableAll (List.replicate n d) = true
  | 0 => by simp [PyData.showableAll]
  | n + 1 => by simp [List.replicate_succ, PyData.showableAll, showableAll_rep h n, h]
theorem depthAll_rep (d : PyData) : ∀ n, PyData.depthAll (List.replicate n d) ≤ d.depth
  | 0 => by simp [PyData.depthAll]
  | n + 1 => by
    have := depthAll_rep d n
    simp only [List.replicate_succ, PyData.depthAll]; omega
theorem show_int {i : Int} (h : i.natAbs < 10 ^ 30) : (PyData.int i).showable = true ∧ (PyData.int i).depth = 0 ∧ (PyData.int i).shown.length ≤ 1000 := by
  refine ⟨?_, by simp [PyData.depth], ?_⟩
  · simp only [PyData.showable, decide_eq_true_eq]
    have h2 : i.natAbs < 2 ^ 1920 := Nat.lt_of_lt_of_le h (by decide +kernel)
    by_cases z : i.natAbs = 0
    · rw [z]; decide
    · exact (Nat.log2_lt z).mpr h2
  · rw [PyData.shown_int]
    have h3 := int_text_length_le10 (a := i) (k := 30) (by decide) h
    rw [ofString_length]
    omega
end RS


/-! own exception classes at the end of a law -/
namespace RS
open PySem PySem.Spec PySem.W L2
/-- what the kernel tells of an own exception class -/
structure XB (K : Frag) (C fI cda : Addr) (qual : Str) (B newId initId : String) (bmB : List Value) : Prop where
  q : excInitIn K C bmB newId = true
  ov : excOver K C bmB = true
  sup : ks_superIn K C C "__init__" = some (some (.builtin initId))
  sub : subIn K (.ref C) (.type B) = some true
  fn : typeIn K (.ref fI) = some (.type "function")
  cd : codeIn K (.ref cda) qual = true
  me : mroIn K C (.ref C) = some true
  kp : keepIn K (.ref C) = true
  hd : hasDictIn K C = true
  sa : findIn K (.ref C) "__setattr__" = some (some (.builtin "object.__setattr__"))
  hg : findIn K (.ref C) "__getattribute__" = some (some (.builtin "BaseException.__getattribute__"))
  hk : findIn K (.ref C) "__getattr__" = some none
  hs : subIn K (.ref C) (.type "BaseException") = some true
  ha : findIn K (.ref C) "__class__" = some (some (.builtin "object.__class__"))
  hm : mroIn K C (.type "object") = some true
/-- what is common -/
structure XA (P : Program) (K : Frag) : Prop where
  op : nsIn K cStatics "thirdparty.any" = some none
  nt : (P.main.scope.names.lookup ("super" : Str)).isSome = false
  hn : specialIn K (.builtin "object.__class__") "__get__" = some (some (.builtin "getset_descriptor.__get__"))
  ht : takesIn K (.builtin "object.__class__") = some true
section
variable {P : Program} {K : Frag} {C fI cda cc : Addr} {qual : Str} {st : Stmt} {B newId initId : String} {bmB : List Value}
  {oc kV doc pm ct ccl cl : Value} {od an cdd cld : Option Addr} {osl ccs csl : Array (Option Value)} {vs : Array Value} {file : Str} {tf : Tok}
theorem xc_mk (FB : ExcBaseFacts B newId initId bmB) (KF : KxsFacts B initId) (SF : StoreFacts B bmB "object.__setattr__" "object") (A : XA P K) (b : XB K C fI cda qual B newId initId bmB) (ini : findIn K (.ref C) "__init__" = some (some (.ref fI)))
    (l : K.lookup fI = some ⟨oc, od, .func (ksFn "__init__" qual (L2.defArgs st) (L2.defBody st) (L2.defScope st) .none kV doc pm an (.ref cda) ct cc), osl⟩)
    (co : K.lookup cda = some ⟨ccl, cdd, .fields vs, ccs⟩) (fi : vs[2]? = some (.str file tf)) (fe : ((P.main.file : Str) == file) = true) (ce : K.lookup cc = some ⟨cl, cld, .cell (some (.ref C)), csl⟩) :
    XC P K C fI cda cc qual st B newId initId bmB :=
  ⟨FB, KF, SF, b.q, b.ov, b.sup, b.sub, ini, b.fn, ⟨_, _, _, _, _, _, _, _, l⟩, b.cd, ⟨_, _, _, _, _, _, co, fi, fe⟩, ⟨_, _, _, ce⟩, b.me, A.op, A.nt⟩
theorem XB.exc (A : XA P K) (b : XB K C fI cda qual B newId initId bmB) : ExcC K C := ⟨b.hg, b.hk, b.hs, b.hd, b.ha, A.hn, A.ht, b.hm⟩
theorem XB.xf (b : XB K C fI cda qual B newId initId bmB) : XfC K C := ⟨b.hg, b.hk, b.hs, b.hd⟩
end
theorem df_mk {K : PySem.W.Frag} {x qual : Str} {st : Stmt} {f : Addr} {oc : Value} {od an : Option Addr} {osl : Array (Option Value)} {dV kV doc pm cdv ct : Value} (l : K.lookup f = some ⟨oc, od, .func (PySem.W.fnOf x qual (defArgs st) (defBody st) (defScope st) dV kV doc pm an cdv ct), osl⟩)
    (c : PySem.W.codeIn K cdv qual = true) (k : PySem.W.keepIn K (.ref f) = true) : Df K x qual st f (PySem.W.fnOf x qual (defArgs st) (defBody st) (defScope st) dV kV doc pm an cdv ct) dV := ⟨⟨oc, od, kV, doc, pm, an, cdv, ct, osl, rfl, l, c⟩, k⟩
end RS


namespace RS
open PySem PySem.Spec PyProof.Rows L2
/-- whether sys.modules is a dict -/
def smOk (h : Heap) : Bool := match h.get? sysModules with
  | some ⟨_, _, .dict _ _, _⟩ => true
  | _ => false
theorem smB_of {h : Heap} (e : smOk h = true) : SmB h := by
  unfold smOk at e
  split at e
  · rename_i c d es n sl q
    exact ⟨_, es, n, q, rfl⟩
  · cases e
/-- a hook that tells of sys.modules too -/
def smHook (k : PySem.W.Hook) : PySem.W.Hook :=
  ⟨k.α × Bool, fun s => (k.obs s, smOk s.heap), fun w => (k.val w, true), fun w h => k.says w h ∧ SmB h, fun w s e => ⟨k.of w s (Prod.mk.inj e).1, smB_of (Prod.mk.inj e).2⟩,
    fun w h h' x kp => ⟨k.keeps w h h' x.1 kp, by obtain ⟨o, es, n, e, d⟩ := x.2; exact ⟨o, es, n, kp _ _ e, d⟩⟩⟩
/-- the law's call, from its promise, where no repr is under way -/
theorem lawS {P : Program} {w : World} {K : PySem.W.Frag} {mg mb : Str → Option Value} {k : Nat} {fa a : Addr} {fd : FuncData} {x : Str} {sp : Sp} {s₁ : Shared} {vs : List Value} {ns : List Int}
    (KX : K.In s₁.heap) (gl : s₁.heap.Ns mainGlobals mg) (bl : s₁.heap.Ns builtinsNs mb) (bb : ∀ x : Str, x ≠ "__name__" → mb x = bootBuiltins x) (lim : s₁.heap.NoLimit) (ge : s₁.gens = #[])
    (ha : s₁.heap.get? a = some { cls := .type "list", data := .seq vs.toArray }) (hi : IntsAre vs ns) (hl : ns.length ≤ sizeLine) (hr : Room k callerA)
    (sm : SmB s₁.heap) (F : ∀ base : Heap, K.In base → base.Ns mainGlobals mg → SmB base → FnG ⟨P, w, K, mg, base⟩ k fa fd [x] sp) (bd : ∀ (s : Shared) (u : Value), BindsTo s fd ⟨[u], []⟩ [(x, u)])
    (hsp : ∀ H : Hp, Only H → SqL K H a (ns.map V.int) → sp [.ref a] H (fun v _ => v = .bl true) fun _ _ _ => False) :
    codeAny (model P w) callerA (.call (.ref fa) ⟨[.ref a], []⟩) (fun r s' => r = .ok (.ret (.bool true)) ∧ OldK s₁.heap s'.heap ∧ s'.os = s₁.os ∧ AllBare s'.gens) s₁ := by
  have rv := vals_ints hi
  -- H tracks the script, or nothing
  have go : ∀ H : Hp, Only H → SqL K H a (ns.map V.int) → HOk P w H s₁.heap → (∀ b o, s₁.heap.get? b = some o → (∃ u, H b = some u) → b = a ∧ K.lookup a = none) →
      codeAny (model P w) callerA (.call (.ref fa) ⟨[.ref a], []⟩) (fun r s' => r = .ok (.ret (.bool true)) ∧ OldK s₁.heap s'.heap ∧ s'.os = s₁.os ∧ AllBare s'.gens) s₁ := by
    intro H hO hS hok hA
    have free : ∀ {b : Addr} {o : Obj}, s₁.heap.get? b = some o → (∀ v n, o.data ≠ .seq v n) → H b = none := by
      intro b o e nd
      cases q : H b with
      | none => rfl
      | some u =>
        obtain ⟨rfl, _⟩ := hA b o e ⟨u, q⟩
        rw [ha] at e
        cases e
        exact absurd rfl (nd _ _)
    have ns1 : ∀ {b : Addr} {m : Str → Option Value}, s₁.heap.Ns b m → (hidT s₁.heap H).Ns b m := by
      rintro b m ⟨o, es, ep, e, d, r⟩
      exact ⟨o, es, ep, hidT_get e (free e fun v n z => by rw [d] at z; cases z), d, r⟩
    have K1 : K.In (hidT s₁.heap H) := by
      intro b o e
      refine hidT_get (KX b o e) ?_
      cases q : H b with
      | none => rfl
      | some u =>
        obtain ⟨rfl, z⟩ := hA b o (KX b o e) ⟨u, q⟩
        rw [z] at e
        cases e
    have md : Mod K mg (hidT s₁.heap H) := by
      obtain ⟨mc, l1, l2⟩ := lim
      exact ⟨K1, ns1 gl, ⟨mb, ns1 bl, bb⟩, mc, ns1 l1, l2⟩
    have e0 : Env0 P w K mg (hidT s₁.heap H) callerA [] s₁ H :=
      { frames := rfl, mod := md, bs := fun b o e => of_hidT e, bsz := Nat.le_of_eq (hidT_size _ _), funs := trivial, frf := fun b hb => (nomatch hb), hok := hok, bare := .of_eq ge }
    have sm1 : SmB (hidT s₁.heap H) := by
      obtain ⟨o, es, n, e, d⟩ := sm
      exact ⟨o, es, n, hidT_get e (free e fun v n z => by rw [d] at z; cases z), d⟩
    refine codeAny_mono ((F _ K1 (ns1 gl) sm1).run callerA [] s₁ H ⟨[.ref a], []⟩ [.ref a] [.ref a] _ _ hr rfl e0 (bd s₁ (.ref a)) (.cons rfl .nil) (hsp H hO hS)) ?_
    rintro r s' h
    cases r with
    | error e =>
      obtain ⟨_, _, _, _, _, _, _, _, _, _, _, _, z⟩ := h
      exact z.elim
    | ok fl => cases fl with
      | ret u =>
        obtain ⟨v, H', os, bare, un, hok', r', q⟩ := h
        obtain rfl : v = .bl true := q
        obtain rfl : u = Value.bool true := r'
        refine ⟨rfl, OldK.of_keep fun b o e => ?_, os, bare⟩
        rcases hO b with z | ⟨ob, xs, z⟩
        · exact un.keep b o e z (fun y => (nomatch y)) (fun y => (nomatch y))
        · have z2 := un.frzs b ob _ z
          have e1 := (hok b _ z).1
          rw [e] at e1
          cases e1
          exact (hok' b _ z2).1
      | _ => exact h.elim
  cases hk : K.lookup a with
  | some o =>
    have e := KX a o hk
    rw [ha] at e
    cases e
    refine go (fun _ => none) (fun _ => .inl rfl) (.inr ⟨_, vs.toArray, _, hk, rfl, rfl, rfl, by rw [List.size_toArray, hi.length]; exact hl, by simpa using rv⟩) (fun b u z => nomatch z) fun b o _ z => ?_
    obtain ⟨u, z⟩ := z
    cases z
  | none =>
    refine go (upd (fun _ => none) a (.frz { cls := .type "list", data := .seq vs.toArray } (.lst (ns.map V.int)))) (fun b => ?_) (.inl (.inr ⟨_, upd_same⟩)) (fun b u z => ?_) fun b o e z => ?_
    · by_cases hb : b = a
      · subst hb; exact .inr ⟨_, _, upd_same⟩
      · exact .inl (upd_ne hb)
    · by_cases hb : b = a
      · subst hb
        rw [upd_same] at z
        cases z
        exact ⟨ha, by rw [List.length_map]; exact hl, vs, _, rv, ha⟩
      · rw [upd_ne hb] at z
        cases z
    · obtain ⟨u, z⟩ := z
      by_cases hb : b = a
      · exact ⟨hb, hk⟩
      · rw [upd_ne hb] at z
        cases z

/-- the goal that k_head leaves, from the law's promise -/
theorem walkS {l : PySem.W.OpenLaw} {n k : Nat} {q : Program} {loose : List Str} {XP : (Str → Option Value) → Heap → Prop} {YP : World → Heap → Prop} {d : DefRec} {K : Params → PySem.W.Frag} {sp : World → Sp} {x : Str}
    (hn : l.most = some n) (hn2 : n ≤ sizeLine) (hdf : d.params.defaults = []) (hr : Room k callerA)
    (hY : ∀ (w : World) (h : Heap), YP w h → (K w.params).In h) (hY2 : ∀ (w : World) (h : Heap), YP w h → SmB h)
    (F : ∀ (w : World) (mg : Str → Option Value) (fa : Addr) (h : Heap), (K w.params).In h → h.Ns mainGlobals mg → mg d.name = some (.ref fa) →
      ∃ fd : FuncData, (∀ (s : Shared) (u : Value), BindsTo s fd ⟨[u], []⟩ [(x, u)]) ∧
        ∀ base : Heap, (K w.params).In base → base.Ns mainGlobals mg → SmB base → FnG ⟨l.prog, w, K w.params, mg, base⟩ k fa fd [x] (sp w))
    (hsp : ∀ (w : World) (H : Hp) (a : Addr) (ns : List Int), ns.length ≤ n → (∀ z ∈ ns, Builtin.Int.intBits z ≤ 1048576) → Only H → SqL (K w.params) H a (ns.map V.int) → sp w [.ref a] H (fun v _ => v = .bl true) fun _ _ _ => False) :
    PySem.W.WalkO q loose XP YP l.row.toRowW d [] (fun f vs => PySem.call f vs) := by
  refine Att.attach_callB hn hdf fun w s₀ s₁ mg mb fa o pm cd doc a vs ns G Y ho hd hcd hmg hobj hints hlen hbits hg => ?_
  obtain ⟨fd, hb, hF⟩ := F w mg fa _ (hY w _ Y) G.T.g hmg
  exact lawS (hY w _ Y) G.T.g G.T.b G.T.builtins G.T.nolimit hg hobj hints (Nat.le_trans hlen hn2) hr (hY2 w _ Y) hF hb fun H hO hS => hsp w H a ns hlen hbits hO hS
end RS


namespace RS
open PySem PySem.Spec L2 PyProof.Rows
section
variable {X : Cx} {k : Nat}
/-! ### repr of whatever is data -/
def rReprV (K : PySem.W.Frag) : List V → Hp → VK → Prop := fun xs H Q => ∃ v d, xs = [v] ∧ DpX K H v d ∧ d.showable = true ∧ d.depth ≤ 60 ∧ d.shown.length ≤ sizeLine ∧ Q (.str d.shown) H
theorem c_reprV {K : PySem.W.Frag} {base : Heap} (sm : SmB base) (hr : Rm k X) (hK : X.K = K := by rfl) (hB : X.base = base := by rfl) : CallR X (.builtin "repr") (rReprV K) := by
  subst hK
  subst hB
  intro pins s σ H xs us Q I r h
  obtain ⟨v, d, rfl, hd, hs, hz, hl, q⟩ := h
  obtain ⟨u, rfl, ru⟩ := vals1 r
  cases hd with
  | non =>
    cases ru
    rw [PyData.shown_none] at q
    exact PySem.P.repr_of_none ⟨.str _, H, I.tok _, ⟨_, rfl⟩, q⟩
  | bl b =>
    cases ru
    rw [PyData.shown_bool] at q
    exact PySem.P.repr_of_bool ⟨.str _, H, I.tok _, ⟨_, rfl⟩, q⟩
  | int i =>
    obtain ⟨t, rfl⟩ := ru
    rw [PyData.shown_int] at q
    have hb : i.natAbs.log2 < 1920 := by simpa [PyData.showable] using hs
    exact PySem.P.repr_of_int hb ⟨.str _, H, I.tok _, ⟨_, rfl⟩, q⟩
  | str x =>
    obtain ⟨t, rfl⟩ := ru
    rw [PyData.shown_str] at q hl
    exact PySem.P.repr_of_str ⟨.str _, H, I.tok _, ⟨_, rfl⟩, q⟩ hl
  | @lst a xs ds h1 h2 => exact c_reprX (base := X.base) sm hr rfl rfl pins s σ H _ _ Q I r ⟨a, _, rfl, .lst h1 h2, hs, hz, hl, q⟩
  | @tup a xs ds h1 h2 => exact c_reprX (base := X.base) sm hr rfl rfl pins s σ H _ _ Q I r ⟨a, _, rfl, .tup h1 h2, hs, hz, hl, q⟩
  | @dct a kvs D h1 h2 => exact c_reprX (base := X.base) sm hr rfl rfl pins s σ H _ _ Q I r ⟨a, _, rfl, .dct h1 h2, hs, hz, hl, q⟩
/-! ### two lists, one of them empty -/
def rNeE (K : PySem.W.Frag) : R2 := fun x y H Q => ∃ a b xs ys, x = .ref a ∧ y = .ref b ∧ SqL K H a xs ∧ SqL K H b ys ∧ (xs = [] ∨ ys = []) ∧ Q (.bl (decide (xs.length ≠ ys.length))) H
theorem op_neE {K : PySem.W.Frag} (hr : Rm k X) (hK : X.K = K := by rfl) : OpR X (compareOp .NotEq) (rNeE K) := by
  subst hK
  intro pins s σ H x y v u Q I rx ry h
  obtain ⟨a, b, xs, ys, rfl, rfl, ha, hb, he, q⟩ := h
  cases rx
  cases ry
  obtain ⟨its, r1, ⟨o1, n1, ho1, hc1, hdd1, hd1⟩, _⟩ := I.list ha
  obtain ⟨its2, r2, ⟨o2, n2, ho2, hc2, hdd2, hd2⟩, _⟩ := I.list hb
  have l1 := r1.length
  have l2 := r2.length
  have hu : X.A.units < cLine := by have := hr.room.un; omega
  by_cases hl : xs.length = ys.length
  · have z : its.toArray.size = its2.toArray.size := by simp; omega
    have zz : its.length = 0 := by
      rcases he with e | e
      · rw [← l1, e]; rfl
      · rw [← l1, hl, e]; rfl
    have := SeqAt.RcNeAt.lists (A := X.A) (s := s) (l := a) (b := b) (e := fun _ => true) ⟨o1, ho1, hc1, n1, hd1⟩ ⟨o2, ho2, hc2, n2, hd2⟩ z hu (fun j h1 _ => by simp [zz] at h1)
    refine this X.prog X.w X.xe _ ⟨.bl (decide (xs.length ≠ ys.length)), H, I, ?_, q⟩
    simp [hl, zz]; exact rfl
  · have z : (its.toArray.size != its2.toArray.size) = true := by simp; omega
    have := SeqAt.RcNeAt.lists_lengths (A := X.A) (s := s) (l := a) (b := b) ⟨o1, ho1, hc1, n1, hd1⟩ ⟨o2, ho2, hc2, n2, hd2⟩ z hu
    refine this X.prog X.w X.xe _ ⟨.bl (decide (xs.length ≠ ys.length)), H, I, ?_, q⟩
    simp [hl]; exact rfl
end
end RS


/-! list(enumerate(x)), x a list or a tuple -/
namespace RS
open PySem PySem.Spec
/-- an iterator whose turns give out no token -/
structure Dr (prog : Program) (w : World) (A : Around) (it : Addr) (fp : List Addr) (n : Nat) (P : Nat → Value → Prop) (St : Nat → Heap → Prop) : Prop where
  fr : ∀ i h h', St i h → (∀ b ∈ fp, ∀ o, h.get? b = some o → h'.get? b = some o) → St i h'
  nx : ∀ i (s : Shared) (Q : Value → Shared → Prop) (E : Value → Shared → Prop), i < n → St i s.heap → (∀ x h', P i x → St (i + 1) h' → Heap.SameBut it s.heap h' → Q x { s with heap := h' }) → wpAny (model prog w) A (Builtin.SmallTypes.nextOf (.ref it)) Q E s
  dn : ∀ (s : Shared) (Q : Value → Shared → Prop) (E : Value → Shared → Prop), St n s.heap → (∀ h' e, Heap.ExtBut it s.heap h' → (∃ o, h'.get? e = some o ∧ o.cls = .type "StopIteration") → E (.ref e) { s with heap := h' }) → wpAny (model prog w) A (Builtin.SmallTypes.nextOf (.ref it)) Q E s
section
variable {prog : Program} {w : World} {A : Around} {E : Value → Shared → Prop} {s : Shared}
theorem dr_list (hh : A.handled = none) (it l : Addr) (ne : l ≠ it) (xs : Array Value) : Dr prog w A it [it, l] xs.size (fun i v => xs[i]? = some v) (fun i h => h.IsListIter it l i ∧ h.IsList l xs) :=
  ⟨fun _ _ _ z k => ⟨z.1.at fun o e => k it (by simp) o e, z.2.at fun o e => k l (by simp) o e⟩,
   fun i s Q E lt z k => wpAny_nextOf_list_item z.1 z.2 (x := xs[i]) (by simp [lt]) fun h' a b => k _ h' (by simp [lt]) ⟨a, z.2.extBut b.extBut ne⟩ b,
   fun s Q E z k => wpAny_nextOf_list_end hh z.1 z.2 (by simp) k⟩
theorem dr_tup (hh : A.handled = none) (it l : Addr) (ne : l ≠ it) (xs : Array Value) : Dr prog w A it [it, l] xs.size (fun i v => xs[i]? = some v) (fun i h => h.IsTupleIter it l i ∧ h.IsTuple l xs) :=
  ⟨fun _ _ _ z k => ⟨z.1.at fun o e => k it (by simp) o e, z.2.at fun o e => k l (by simp) o e⟩,
   fun i s Q E lt z k => wpAny_nextOf_tuple_item z.1 z.2 (x := xs[i]) (by simp [lt]) fun h' a b => k _ h' (by simp [lt]) ⟨a, z.2.extBut b.extBut ne⟩ b,
   fun s Q E z k => wpAny_nextOf_tuple_end hh z.1 z.2 (by simp) k⟩
/-- an enumerate's record -/
abbrev enO (f0 f1 : Value) (it : Addr) (c : Int) (old : Value) : Obj := { cls := .type "enumerate", dict := none, data := .fields #[f0, f1, .ref it, rawInt c, .none, old], slots := #[] }
abbrev tupO (c : Int) (t : Tok) (x : Value) : Obj := { cls := .type "tuple", data := .seq #[.int c t, x] }
/-- its state: no tuple is out, or one is out and held -/
def EnS (h : Heap) (e it : Addr) (c : Int) : Prop := (∃ old, h.get? e = some (enO .none (.bool false) it c old)) ∨ ∃ (old : Value) (T : Addr) (f : Bool) (o : Obj), h.get? e = some (enO (rawInt T) (.bool f) it c old) ∧ h.get? T = some o ∧ T ≠ e ∧ T ≠ it ∧ o.cls = .type "tuple"
theorem en_next {e it : Addr} {fp : List Addr} {n i : Nat} {P : Nat → Value → Prop} {St : Nat → Heap → Prop} {Q : Value → Shared → Prop} (D : Dr prog w A it fp n P St) (he : EnS s.heap e it i) (hst : St i s.heap) (lt : i < n) (ne : e ≠ it) (nf : e ∉ fp) (hi : it < s.heap.objs.size)
    (k : ∀ x h', P i x → EnS h' e it (i + 1 : Nat) → St (i + 1) h' → h'.get? s.heap.objs.size = some (tupO i s.toks x) → h'.objs.size = s.heap.objs.size + 1 → (∀ b o, b ≠ e → b ≠ it → s.heap.get? b = some o → h'.get? b = some o) → Q (.ref s.heap.objs.size) { s with heap := h', toks := s.toks + 1 }) :
    wpAny (model prog w) A (Builtin.«enumerate.__next__» ⟨[.ref e], []⟩) (fun r z => ∃ v, r = .done (.ret v) ∧ Q v z) E s := by
  obtain ⟨H, gs, dr, tk, os⟩ := s
  have ec : ((i + 1 : Nat) : Int) = (i : Int) + 1 := by omega
  obtain ⟨f0, f1, old, hE⟩ : ∃ f0 f1 old, H.get? e = some (enO f0 f1 it i old) := by
    rcases he with ⟨old, z⟩ | ⟨old, T, f, o, z, _⟩
    · exact ⟨_, _, _, z⟩
    · exact ⟨_, _, _, z⟩
  have le : e < H.objs.size := Heap.lt_size hE
  unfold Builtin.«enumerate.__next__»
  refine wpAny_bind (wpAny_of_eq (a := ((Value.ref e : Value), ([] : List Value))) (by rfl) ?_)
  refine wpAny_bind (wpAny_field hE rfl (x := .ref it) rfl ?_)
  refine wpAny_bind (D.nx i ⟨H, gs, dr, tk, os⟩ _ _ lt hst fun x H1 px st1 m1 => ?_)
  have E1 : H1.get? e = some (enO f0 f1 it i old) := (m1.2 e ne).trans hE
  refine wpAny_bind (wpAny_field E1 rfl (x := rawInt i) rfl ?_)
  refine wpAny_bind (wpAny_field E1 rfl (x := .none) rfl ?_)
  show wpAny _ _ ((mkInt (i : Int)) >>= _) _ _ ⟨H1, gs, dr, tk, os⟩
  refine wpAny_bind (wpAny_mkInt ?_)
  refine wpAny_bind (wpAny_setField_rec (s := ⟨H1, gs, dr, tk + 1, os⟩) E1 (by simp) fun H2 E2 m2 => ?_)
  have E2' : H2.get? e = some (enO f0 f1 it ((i : Int) + 1) old) := E2
  refine wpAny_bind (wpAny_setField_rec (s := ⟨H2, gs, dr, tk + 1, os⟩) E2' (by simp) fun H3 E3 m3 => ?_)
  have E3' : H3.get? e = some (enO f0 f1 it ((i : Int) + 1) old) := E3
  have m2' : Heap.SameBut e H1 H2 := m2
  have m3' : Heap.SameBut e H2 H3 := m3
  have m1' : Heap.SameBut it H H1 := m1
  have z3 : H3.objs.size = H.objs.size := by rw [m3'.1, m2'.1, m1'.1]
  refine wpAny_bind (wpAny_newTuple ?_)
  have keep4 : ∀ b o, b ≠ e → b ≠ it → H.get? b = some o → (H3.push (tupO i tk x)).get? b = some o := fun b o x1 x2 z => Heap.get?_push_of_some _ (m3'.extBut b o x1 (m2'.extBut b o x1 (m1'.extBut b o x2 z)))
  have E4 : (H3.push (tupO i tk x)).get? e = some (enO f0 f1 it ((i : Int) + 1) old) := Heap.get?_push_of_some _ E3'
  have T4 : (H3.push (tupO i tk x)).get? H.objs.size = some (tupO i tk x) := by rw [← z3]; exact Heap.get?_push_size _ rfl
  have st4 : St (i + 1) (H3.push (tupO i tk x)) := D.fr _ _ _ st1 fun b hb o z => by
    have x1 : b ≠ e := fun q => nf (q ▸ hb)
    exact Heap.get?_push_of_some _ (m3'.extBut b o x1 (m2'.extBut b o x1 z))
  have z4 : (H3.push (tupO i tk x)).objs.size = H.objs.size + 1 := by rw [Heap.size_push, z3]
  have keepT : ∀ T o, T ≠ e → T ≠ it → H.get? T = some o → (H3.push (tupO i tk x)).get? T = some o := keep4
  show wpAny _ _ (Builtin.SmallTypes.ownedTupleIsFree (.ref e) >>= _) _ _ ⟨H3.push (tupO i tk x), gs, dr, tk + 1, os⟩
  rw [z3]
  generalize H3.push (tupO i tk x) = H4 at keep4 E4 T4 st4 z4 keepT ⊢
  have nT : H.objs.size ≠ e := Nat.ne_of_gt le
  have nI : H.objs.size ≠ it := Nat.ne_of_gt hi
  rcases he with ⟨old', z⟩ | ⟨old', T, f, oT, z, hT, n1, n2, ct⟩
  · have q : enO f0 f1 it i old = enO .none (.bool false) it i old' := Option.some.inj (hE.symm.trans z)
    have qq := congrArg (fun o : Obj => match o.data with | .fields vs => vs.toList | _ => []) q
    simp only [List.cons.injEq] at qq
    have q0 : f0 = .none := qq.1
    have q1 : f1 = .bool false := qq.2.1
    subst q0 q1
    refine wpAny_bind ?_
    unfold Builtin.SmallTypes.ownedTupleIsFree
    refine wpAny_bind (wpAny_field E4 rfl (x := .none) rfl (wpAny_pure ?_))
    simp only [if_true]
    refine wpAny_bind (wpAny_rule ?_)
    refine wpAny_bind (wpAny_field E4 rfl (x := old) rfl ?_)
    refine wpAny_bind (wpAny_setField_rec E4 (by simp) fun H5 E5 m5 => ?_)
    have E5' : H5.get? e = some (enO .none (.bool false) it ((i : Int) + 1) x) := E5
    have m5' : Heap.SameBut e H4 H5 := m5
    refine wpAny_bind ?_
    unfold Builtin.SmallTypes.ownedTupleHandOut
    refine wpAny_bind (wpAny_setField_rec E5' (by simp) fun H6 E6 m6 => ?_)
    have m6' : Heap.SameBut e H5 H6 := m6
    refine wpAny_setField_rec E6 (by simp) fun H7 E7 m7 => ?_
    have m7' : Heap.SameBut e H6 H7 := m7
    have E7' : H7.get? e = some (enO (rawInt H.objs.size) (.bool false) it ((i + 1 : Nat) : Int) x) := by rw [ec]; exact E7
    have kk : ∀ b o, b ≠ e → H4.get? b = some o → H7.get? b = some o := fun b o x1 z => m7'.extBut b o x1 (m6'.extBut b o x1 (m5'.extBut b o x1 z))
    refine wpAny_bind (wpAny_letGo (wpAny_pure ⟨_, rfl, k x H7 px (.inr ⟨x, H.objs.size, false, _, E7', kk _ _ nT T4, nT, nI, rfl⟩) (D.fr _ _ _ st4 fun b hb o z => kk b o (fun q => nf (q ▸ hb)) z) (kk _ _ nT T4) ?_ fun b o x1 x2 z => kk b o x1 (keep4 b o x1 x2 z)⟩))
    show H7.objs.size = H.objs.size + 1
    rw [m7'.1, m6'.1, m5'.1, z4]
  · have q : enO f0 f1 it i old = enO (rawInt T) (.bool f) it i old' := Option.some.inj (hE.symm.trans z)
    have qq := congrArg (fun o : Obj => match o.data with | .fields vs => vs.toList | _ => []) q
    simp only [List.cons.injEq] at qq
    have q0 : f0 = rawInt T := qq.1
    have q1 : f1 = .bool f := qq.2.1
    subst q0 q1
    refine wpAny_bind (wpAny_tupleHeld_enum (s := ⟨H4, gs, dr, tk + 1, os⟩) E4 (keepT T oT n1 n2 hT) fun H5 E5 m5 => ?_)
    have m5' : Heap.SameBut e H4 H5 := m5
    simp only [Bool.false_eq_true, if_false]
    have kk : ∀ b o, b ≠ e → H4.get? b = some o → H5.get? b = some o := fun b o x1 z => m5'.extBut b o x1 z
    refine wpAny_pure ⟨_, rfl, k x H5 px (.inr ⟨old, T, true, oT, by rw [ec]; exact E5, kk _ _ n1 (keepT T oT n1 n2 hT), n1, n2, ct⟩) (D.fr _ _ _ st4 fun b hb o z => kk b o (fun q => nf (q ▸ hb)) z) (kk _ _ nT T4) ?_ fun b o x1 x2 z => kk b o x1 (keep4 b o x1 x2 z)⟩
    show H5.objs.size = H.objs.size + 1
    rw [m5'.1, z4]
end
end RS


namespace RS
open PySem PySem.Spec
section
variable {prog : Program} {w : World} {A : Around} {E : Value → Shared → Prop} {s : Shared} {e it : Addr} {fp : List Addr} {n i : Nat} {P : Nat → Value → Prop} {St : Nat → Heap → Prop}
theorem EnS.ty {h : Heap} {c : Int} (x : EnS h e it c) : ∃ o, h.get? e = some o ∧ o.cls = .type "enumerate" := by
  rcases x with ⟨old, z⟩ | ⟨old, T, f, o, z, _⟩
  · exact ⟨_, z, rfl⟩
  · exact ⟨_, z, rfl⟩
theorem en_item {Q : Option Value → Shared → Prop} (D : Dr prog w A.in1 it fp n P St) (he : EnS s.heap e it i) (hst : St i s.heap) (lt : i < n) (ne : e ≠ it) (nf : e ∉ fp) (hi : it < s.heap.objs.size)
    (k : ∀ x h', P i x → EnS h' e it (i + 1 : Nat) → St (i + 1) h' → h'.get? s.heap.objs.size = some (tupO i s.toks x) → h'.objs.size = s.heap.objs.size + 1 → (∀ b o, b ≠ e → b ≠ it → s.heap.get? b = some o → h'.get? b = some o) → Q (some (.ref s.heap.objs.size)) { s with heap := h', toks := s.toks + 1 }) :
    wpAny (model prog w) A (pyNext (.ref e)) Q E s := by
  have ty : s.TypeIs (.ref e) "enumerate" := he.ty
  unfold pyNext
  refine wpAny_bind (wpAny_attempt (wpAny_callSpecial?_slot (name := ("__next__" : Str)) ty F.slot_enumerate_next (wpAny_call_entry F.slot_enumerate_next ty F.entry_enumerate_next ?_ (F.args_enumerate_next_1 _))))
  exact en_next D he hst lt ne nf hi fun x h' a b c d f g => wpAny_pure (k x h' a b c d f g)
theorem en_end {Q : Option Value → Shared → Prop} {c : Int} (D : Dr prog w A.in1 it fp n P St) (he : EnS s.heap e it c) (hst : St n s.heap) (k : ∀ h', Heap.ExtBut it s.heap h' → Q none { s with heap := h' }) : wpAny (model prog w) A (pyNext (.ref e)) Q E s := by
  have ty : s.TypeIs (.ref e) "enumerate" := he.ty
  obtain ⟨f0, f1, old, hE⟩ : ∃ f0 f1 old, s.heap.get? e = some (enO f0 f1 it c old) := by
    rcases he with ⟨old, z⟩ | ⟨old, T, f, o, z, _⟩
    · exact ⟨_, _, _, z⟩
    · exact ⟨_, _, _, z⟩
  unfold pyNext
  refine wpAny_bind (wpAny_attempt (wpAny_callSpecial?_slot (name := ("__next__" : Str)) ty F.slot_enumerate_next (wpAny_call_entry F.slot_enumerate_next ty F.entry_enumerate_next ?_ (F.args_enumerate_next_1 _))))
  unfold Builtin.«enumerate.__next__»
  refine wpAny_bind (wpAny_of_eq (a := ((Value.ref e : Value), ([] : List Value))) (by rfl) ?_)
  refine wpAny_bind (wpAny_field hE rfl (x := .ref it) rfl ?_)
  refine wpAny_bind (D.dn s _ _ hst fun h' x eb hx => ?_)
  obtain ⟨o, ho, hc⟩ := hx
  exact wpAny_bind (wpAny_isInstance (T := "StopIteration") (b := true) ⟨o, ho, hc⟩ isSubtype_stop (wpAny_pure (k _ eb)))
abbrev lstO (acc : Array Value) (c : Nat) : Obj := { cls := .type "list", dict := none, data := .seq acc c, slots := #[] }
/-- the tuples laid so far -/
def Laid (P : Nat → Value → Prop) (b0 m : Nat) (h : Heap) : Prop := ∀ j, j < m → ∃ t x, h.get? (b0 + j) = some (tupO j t x) ∧ P j x
def refsR (b0 m : Nat) : List Value := (List.range m).map fun j => .ref (b0 + j)
theorem refsR_succ (b0 m : Nat) : refsR b0 (m + 1) = refsR b0 m ++ [.ref (b0 + m)] := by simp [refsR, List.range_succ]
theorem en_loop {R : Result → Shared → Prop} {S : Addr} {b0 : Nat} {h₁ : Heap} {res : Value} (D : Dr prog w A.in1.in1 it fp n P St) (ne : e ≠ it) (nf : e ∉ fp) (Sf : S ∉ fp) (Se : S ≠ e) (Si : S ≠ it) (hn : n ≤ sizeLine) (lS : S < b0) (li : it < b0) (le : e < b0)
    (hR : ∀ h' tk c, (∀ b o, b ≠ S → b ≠ e → b ≠ it → h₁.get? b = some o → h'.get? b = some o) → h'.get? S = some (lstO (refsR b0 n).toArray c) → Laid P b0 n h' → R (.ok (.ret res)) { s with heap := h', toks := tk }) :
    ∀ (k i : Nat) (h : Heap) (tk c : Nat), n - i = k → i ≤ n → EnS h e it i → St i h → h.objs.size = b0 + i → (∀ b o, b ≠ S → b ≠ e → b ≠ it → h₁.get? b = some o → h.get? b = some o) → h.get? S = some (lstO (refsR b0 i).toArray c) → Laid P b0 i h →
      codeAny (model prog w) A (.builtin "list.extend.loop" ⟨[.ref S, .ref e, res], []⟩) R { s with heap := h, toks := tk } := by
  have nS : ∀ j : Nat, (b0 + j : Nat) ≠ S := fun j => Nat.ne_of_gt (Nat.lt_of_lt_of_le lS (Nat.le_add_right _ _))
  have nE : ∀ j : Nat, (b0 + j : Nat) ≠ e := fun j => Nat.ne_of_gt (Nat.lt_of_lt_of_le le (Nat.le_add_right _ _))
  have nI : ∀ j : Nat, (b0 + j : Nat) ≠ it := fun j => Nat.ne_of_gt (Nat.lt_of_lt_of_le li (Nat.le_add_right _ _))
  intro k
  induction k with
  | zero =>
    intro i h tk c hk hi he st sz kp hS la
    have : i = n := by omega
    subst this
    refine codeAny_builtin PySem.F.entry_extend_loop ?_
    rw [Around.under_plainId PySem.F.plain_extend_loop _]
    unfold Builtin.«list.extend.loop»
    refine wpAny_bind (en_end (s := { s with heap := h, toks := tk }) D he st fun h' eb => wpAny_pure (hR h' tk c (fun b o x1 x2 x3 z => eb b o x3 (kp b o x1 x2 x3 z)) (eb S _ Si hS) fun j hj => ?_))
    obtain ⟨t, x, z, p⟩ := la j hj
    exact ⟨t, x, eb _ _ (nI j) z, p⟩
  | succ k ih =>
    intro i h tk c hk hi he st sz kp hS la
    have lt : i < n := by omega
    refine codeAny_builtin PySem.F.entry_extend_loop ?_
    rw [Around.under_plainId PySem.F.plain_extend_loop _]
    unfold Builtin.«list.extend.loop»
    refine wpAny_bind (en_item (s := { s with heap := h, toks := tk }) D he st lt ne nf (by show it < h.objs.size; rw [sz]; exact Nat.lt_of_lt_of_le li (Nat.le_add_right _ _)) fun x h' px he' st' T' z' k' => ?_)
    have T2 : h'.get? (b0 + i) = some (tupO i tk x) := by rw [← sz]; exact T'
    have z2 : h'.objs.size = b0 + i + 1 := by rw [z']; show h.objs.size + 1 = _; rw [sz]
    have S2 := k' S _ Se Si hS
    have up : Heap.SameBut S h' (h'.update S (Obj.mapSeq (·.push (.ref (b0 + i))))) := Heap.SameBut.update ..
    have S3 := Heap.get?_update_self (Obj.mapSeq (·.push (Value.ref (b0 + i)))) S2 rfl
    have szr : (refsR b0 i).toArray.size = i := by simp [refsR]
    show wpAny _ A.in1 (updateSeq S (·.push (.ref h.objs.size)) >>= fun _ => _) _ _ _
    rw [sz]
    refine wpAny_bind (wpAny_updateSeq S2 rfl (wpAny_pure ⟨plainId_quiet PySem.F.plain_extend_loop _, ih (i + 1) _ _ (if ((refsR b0 i).toArray.push (Value.ref (b0 + i))).size == (refsR b0 i).toArray.size then c else c + 1) (by omega) lt ?_ ?_ ?_ ?_ ?_ ?_⟩) (by rw [szr]; omega) (by show ((refsR b0 i).toArray.push _).size ≤ sizeLine + 1; rw [Array.size_push, szr]; omega))
    · rcases he' with ⟨old, z⟩ | ⟨old, T, f, o, z, y1, y2, y3, y4⟩
      · exact .inl ⟨old, up.extBut _ _ (Ne.symm Se) z⟩
      · refine .inr ⟨old, T, f, o, up.extBut _ _ (Ne.symm Se) z, up.extBut _ _ (fun q => ?_) y1, y2, y3, y4⟩
        rw [q, S2] at y1
        cases y1
        exact absurd y4 (by show ¬ Value.type "list" = Value.type "tuple"; decide)
    · exact D.fr _ _ _ st' fun b hb o z => up.extBut _ _ (fun q => Sf (q ▸ hb)) z
    · rw [up.1, z2]; omega
    · exact fun b o x1 x2 x3 z => up.extBut b o x1 (k' b o x2 x3 (kp b o x1 x2 x3 z))
    · have : (refsR b0 (i + 1)).toArray = (refsR b0 i).toArray.push (.ref (b0 + i)) := by rw [refsR_succ]; simp
      rw [this]; exact S3
    · intro j hj
      by_cases q : j = i
      · subst q
        exact ⟨tk, x, up.extBut _ _ (nS _) T2, px⟩
      · obtain ⟨t, y, z, p⟩ := la j (by omega)
        exact ⟨t, y, up.extBut _ _ (nS _) (k' _ _ (nE _) (nI _) z), p⟩
end
end RS


namespace RS
open PySem PySem.Spec
abbrev itO (kind : String) (l : Addr) : Obj := { cls := .type kind, data := .fields #[.ref l, .int 0 0] }
abbrev en0 (it : Addr) : Obj := { cls := .type "enumerate", data := .fields #[.none, .bool false, .ref it, rawInt 0, .none, .none] }
theorem enew_meets {v : Value} {o : Obj} {H : Heap → Prop} (B : Begins v o H) :
    Meets (Builtin.«enumerate.__new__» ⟨[.type "enumerate", v], []⟩) (fun _ R s => H s.heap ∧ R (.ok (.ret (.ref (s.heap.push o).objs.size))) { s with heap := (s.heap.push o).push (en0 s.heap.objs.size) }) :=
  .of_wp fun prog w A R s h => by
    obtain ⟨hp, g, d, tk, os⟩ := s
    obtain ⟨h1, h⟩ := h
    have sub := sub_enumerate
    have go : ∀ {A' : Around} {E : Value → Shared → Prop} {Q : Value → Shared → Prop}, Q (.ref hp.objs.size) ⟨hp.push o, g, d, tk, os⟩ → wpAny (model prog w) A' (pyIter v) Q E ⟨hp, g, d, tk, os⟩ := fun q => B.iter prog w _ _ ⟨hp, g, d, tk, os⟩ _ h1 q
    wp_walk using go
    refine wpAny_stack_any fun st => wpAny_pure ?_
    split
    · rename_i c _ _ _ _ _
      cases (c == Value.type "enumerate")
      · wp_walk using go
        exact ⟨_, rfl, h⟩
      · wp_walk using go
        exact ⟨_, rfl, h⟩
    · wp_walk using go
      exact ⟨_, rfl, h⟩
section
variable {prog : Program} {w : World} {A : Around} {E : Value → Shared → Prop} {s : Shared}
theorem call_enumB {v : Value} {o : Obj} {H : Heap → Prop} {Q : Value → Shared → Prop} (B : Begins v o H) (h1 : H s.heap)
    (k : ∀ h', h'.get? (s.heap.objs.size + 1) = some (enO .none (.bool false) s.heap.objs.size (0 : Nat) .none) → h'.get? s.heap.objs.size = some o → h'.objs.size = s.heap.objs.size + 2 → (∀ b o, s.heap.get? b = some o → h'.get? b = some o) → Q (.ref (s.heap.objs.size + 1)) { s with heap := h' }) :
    wpAny (model prog w) A (call (.type "enumerate") [v]) Q E s := by
  refine callType_new F.called_enumerate (by decide) (F.typeCall_enumerate_1 _) (F.newCall_enumerate_1 _) (fun obj => F.args_object_init_2 obj _) F.entry_enumerate_new (enew_meets B) ⟨h1, ?_⟩
  have z : (s.heap.push o).objs.size = s.heap.objs.size + 1 := Heap.size_push ..
  show _ ∧ _
  rw [z]
  have he : ((s.heap.push o).push (en0 s.heap.objs.size)).get? (s.heap.objs.size + 1) = some (en0 s.heap.objs.size) := by
    have y := Heap.get?_push_size (s.heap.push o) (o := en0 s.heap.objs.size) rfl
    rw [z] at y
    exact y
  exact ⟨⟨_, he, rfl⟩, k _ he (Heap.get?_push_of_some _ (Heap.get?_push_size _ B.free)) (by rw [Heap.size_push, z]) fun b o x => Heap.get?_push_of_some _ (Heap.get?_push_of_some _ x)⟩
theorem en_no_len : typeLookup (.type "enumerate") "__len__" = pure none := am_miss_of_fast (by decide +kernel)
theorem en_no_hint : typeLookup (.type "enumerate") "__length_hint__" = pure none := am_miss_of_fast (by decide +kernel)
variable {e it : Addr} {fp : List Addr} {n : Nat} {P : Nat → Value → Prop} {St : Nat → Heap → Prop}
/-- list(e), e an enumerate that has not begun -/
theorem list_enum {Q : Value → Shared → Prop} (D : Dr prog w A.in1.in1.in1 it fp n P St) {old0 : Value} (he0 : s.heap.get? e = some (enO .none (.bool false) it (0 : Nat) old0)) (st : St 0 s.heap) (ne : e ≠ it) (nf : e ∉ fp) (hn : n ≤ sizeLine) (li : it < s.heap.objs.size) (lf : ∀ b ∈ fp, b < s.heap.objs.size)
    (k : ∀ h' tk c, (∀ b o, b ≠ e → b ≠ it → s.heap.get? b = some o → h'.get? b = some o) → h'.get? s.heap.objs.size = some (lstO (refsR (s.heap.objs.size + 1) n).toArray c) → Laid P (s.heap.objs.size + 1) n h' → Q (.ref s.heap.objs.size) { s with heap := h', toks := tk }) :
    wpAny (model prog w) A (call (.type "list") [.ref e]) Q E s := by
  have he : EnS s.heap e it (0 : Nat) := .inl ⟨_, he0⟩
  have le : e < s.heap.objs.size := Heap.lt_size he0
  refine callType_codes (Q₁ := fun obj z => obj = .ref s.heap.objs.size ∧ z = { s with heap := s.heap.push { cls := .type "list", data := .seq #[] } }) F.called_list (F.typeCall_list_1 _) F.entry_list_init (code_list_new _ ⟨rfl, rfl⟩) fun obj z hz => ?_
  obtain ⟨rfl, rfl⟩ := hz
  have hS : (s.heap.push (lstO #[] 0)).get? s.heap.objs.size = some (lstO #[] 0) := Heap.get?_push_size _ rfl
  have Se : s.heap.objs.size ≠ e := Nat.ne_of_gt le
  have Si : s.heap.objs.size ≠ it := Nat.ne_of_gt li
  have Sf : s.heap.objs.size ∉ fp := fun hm => Nat.lt_irrefl _ (lf _ hm)
  refine ⟨⟨_, hS, rfl⟩, F.args_list_init_2 _ _, ?_⟩
  have kp : ∀ (h : Heap), Heap.SameBut s.heap.objs.size (s.heap.push (lstO #[] 0)) h → EnS h e it (0 : Nat) ∧ St 0 h ∧ h.objs.size = s.heap.objs.size + 1 + 0 ∧ ∀ b o, b ≠ s.heap.objs.size → b ≠ e → b ≠ it → s.heap.get? b = some o → h.get? b = some o := fun h m => by
    have kk : ∀ b o, b ≠ s.heap.objs.size → s.heap.get? b = some o → h.get? b = some o := fun b o x z => m.extBut b o x (Heap.get?_push_of_some _ z)
    refine ⟨?_, D.fr _ _ _ st fun b hb o z => kk b o (fun q => Sf (q ▸ hb)) z, by rw [m.1, Heap.size_push], fun b o x _ _ z => kk b o x z⟩
    rcases he with ⟨old, z⟩ | ⟨old, T, f, o, z, y1, y2, y3, y4⟩
    · exact .inl ⟨old, kk _ _ (Ne.symm Se) z⟩
    · exact .inr ⟨old, T, f, o, kk _ _ (Ne.symm Se) z, kk _ _ (Nat.ne_of_lt (Heap.lt_size y1)) y1, y2, y3, y4⟩
  show wpAny _ A.in1.in1 (do let old ← Builtin.List.listItems (.ref s.heap.objs.size); Builtin.List.listUpdate (.ref s.heap.objs.size) (fun _ => #[]); letGo old.toList.reverse; Builtin.List.listExtendWith (.ref s.heap.objs.size) (.ref e) .none) _ _ _
  refine wpAny_bind ?_
  unfold Builtin.List.listItems
  refine wpAny_bind (wpAny_seqItems hS rfl (wpAny_pure ?_))
  show wpAny _ _ (updateSeq s.heap.objs.size (fun _ => #[]) >>= fun _ => _) _ _ _
  refine wpAny_bind (wpAny_updateSeq hS rfl ?_)
  have hS2 := Heap.get?_update_self (Obj.mapSeq (fun _ => (#[] : Array Value))) hS rfl
  refine wpAny_bind (wpAny_letGo ?_)
  unfold Builtin.List.listExtendWith
  obtain ⟨e2, s2, z2, k2⟩ := kp _ (Heap.SameBut.update ..)
  have ty2 := e2.ty
  refine wpAny_bind (wpAny_typeOf ty2 ?_)
  have h1 : Builtin.List.listSameRef (.ref s.heap.objs.size) (.ref e) = false := by simp [Builtin.List.listSameRef, Se]
  have h2 : (Value.type "enumerate" == Value.type "list") = false := by decide
  have h3 : (Value.type "enumerate" == Value.type "tuple") = false := by decide
  simp only [h1, h2, h3, Bool.or_false, Bool.false_eq_true, if_false]
  have e3 : ((s.heap.push (lstO #[] 0)).update s.heap.objs.size (Obj.mapSeq (fun _ => (#[] : Array Value)))).get? e = some (enO .none (.bool false) it (0 : Nat) old0) := (Heap.get?_update_other _ _ Se).trans (Heap.get?_push_of_some _ he0)
  refine wpAny_bind (wpAny_pyIter_enum e3 ?_)
  refine wpAny_bind (wpAny_holding ?_)
  unfold Builtin.List.listLengthHint
  refine wpAny_bind (wpAny_specialOf ty2 en_no_len ?_)
  show wpAny _ _ (specialOf (Value.ref e) (Str.ofString "__length_hint__") >>= _) _ _ _
  refine wpAny_bind (wpAny_specialOf ty2 en_no_hint ?_)
  refine wpAny_pure ?_
  rw [if_pos (by rfl)]
  refine wpAny_bind (wpAny_rule ?_)
  show wpAny _ _ ((updateSeq s.heap.objs.size (·.push .none) >>= fun _ => updateSeq s.heap.objs.size (·.pop)) >>= fun _ => _) _ _ _
  refine wpAny_bind (wpAny_bind (wpAny_updateSeq hS2 rfl ?_))
  have hS3 := Heap.get?_update_self (Obj.mapSeq (·.push Value.none)) hS2 rfl
  refine wpAny_updateSeq (hz := by seq_fits) hS3 rfl ?_
  have hS4 := Heap.get?_update_self (Obj.mapSeq (·.pop)) hS3 rfl
  refine wpAny_pure ⟨plainId_quiet PySem.F.plain_extend_loop _, ?_⟩
  have m : Heap.SameBut s.heap.objs.size (s.heap.push (lstO #[] 0)) ((((s.heap.push (lstO #[] 0)).update s.heap.objs.size (Obj.mapSeq (fun _ => (#[] : Array Value)))).update s.heap.objs.size (Obj.mapSeq (·.push Value.none))).update s.heap.objs.size (Obj.mapSeq (·.pop))) := by
    have a1 : Heap.SameBut s.heap.objs.size _ _ := Heap.SameBut.update (h := s.heap.push (lstO #[] 0)) (a := s.heap.objs.size) (f := Obj.mapSeq (fun _ => (#[] : Array Value)))
    have a2 : Heap.SameBut s.heap.objs.size _ _ := Heap.SameBut.update (h := (s.heap.push (lstO #[] 0)).update s.heap.objs.size (Obj.mapSeq (fun _ => (#[] : Array Value)))) (a := s.heap.objs.size) (f := Obj.mapSeq (·.push Value.none))
    have a3 : Heap.SameBut s.heap.objs.size _ _ := Heap.SameBut.update (h := ((s.heap.push (lstO #[] 0)).update s.heap.objs.size (Obj.mapSeq (fun _ => (#[] : Array Value)))).update s.heap.objs.size (Obj.mapSeq (·.push Value.none))) (a := s.heap.objs.size) (f := Obj.mapSeq (·.pop))
    exact ⟨a3.1.trans (a2.1.trans a1.1), fun b hb => (a3.2 b hb).trans ((a2.2 b hb).trans (a1.2 b hb))⟩
  obtain ⟨e5, s5, z5, k5⟩ := kp _ m
  exact en_loop (s := s) (h₁ := s.heap) (A := A.in1) D ne nf Sf Se Si hn (Nat.lt_succ_self _) (Nat.lt_succ_of_lt li) (Nat.lt_succ_of_lt le) (fun h' tk c y1 y2 y3 => ⟨rfl, k h' tk c (fun b o x1 x2 z => y1 b o (Nat.ne_of_lt (Heap.lt_size z)) x1 x2 z) y2 y3⟩) n 0 _ s.toks _ (Nat.sub_zero _) (Nat.zero_le _) e5 s5 z5 k5 hS4 fun j hj => absurd hj (Nat.not_lt_zero _)
end
end RS


namespace RS
open PySem PySem.Spec L2 PyProof.Rows
/-- the list at S and the pairs behind it, tracked -/
def enH (H : Hp) (S : Addr) (b0 : Nat) (xs : List V) : Hp := fun b =>
  if b = S then some (.lst ((List.range xs.length).map fun j => V.ref (b0 + j)))
  else if b0 ≤ b then (match xs[b - b0]? with | some x => some (.tup [.int ((b - b0 : Nat) : Int), x]) | none => H b) else H b
theorem enH_S {H : Hp} {S : Addr} {b0 : Nat} {xs : List V} : enH H S b0 xs S = some (.lst ((List.range xs.length).map fun j => V.ref (b0 + j))) := by simp [enH]
theorem enH_at {H : Hp} {S : Addr} {b0 : Nat} {xs : List V} {j : Nat} {x : V} (hS : S < b0) (h : xs[j]? = some x) : enH H S b0 xs (b0 + j) = some (.tup [.int (j : Nat), x]) := by
  unfold enH
  rw [if_neg (Nat.ne_of_gt (Nat.lt_of_lt_of_le hS (Nat.le_add_right _ _))), if_pos (Nat.le_add_right _ _)]
  have e : b0 + j - b0 = j := by omega
  rw [e, h]
theorem enH_lo {H : Hp} {S : Addr} {b0 : Nat} {xs : List V} {b : Addr} (h1 : b ≠ S) (h2 : b < b0) : enH H S b0 xs b = H b := by
  unfold enH
  rw [if_neg h1, if_neg (Nat.not_le.mpr h2)]
/-- list(enumerate(x)) -/
def tListEnum (K : PySem.W.Frag) (ta : TA) : TE := fun σ H Q => ta σ H fun vs H1 => ∃ a xs, vs = [.ref a] ∧ (SqL K H1 a xs ∨ SqT K H1 a xs) ∧
  ∀ (p : Addr) (ts : List Addr) (H' : Hp), Same H1 H' → H1 p = none → H' p = some (.lst (ts.map V.ref)) → ts.length = xs.length → (∀ (j : Nat) (x : V), xs[j]? = some x → ∃ t, ts[j]? = some t ∧ H1 t = none ∧ H' t = some (.tup [.int (j : Nat), x])) → Q (.ref p) H'
section
variable {X : Cx} {K : PySem.W.Frag} {e : Expr} {ta : TA} {p p2 pos pos2 : Pos}
theorem en_laid {pins : List (Addr × Obj)} {σ : L2.St} {H : Hp} {s : Shared} {Q : VK} {h' : Heap} {tk c : Nat} {xs : List V} {its : List Value} {q : Nat} (I : Inv X pins σ H s) (r : Vals xs its) (hz : xs.length ≤ sizeLine) (lo : s.heap.objs.size ≤ q)
    (kp : ∀ b o, s.heap.get? b = some o → h'.get? b = some o) (hS : h'.get? q = some (lstO (refsR (q + 1) its.toArray.size).toArray c)) (la : Laid (fun i v => its.toArray[i]? = some v) (q + 1) its.toArray.size h')
    (k : ∀ (p : Addr) (ts : List Addr) (H' : Hp), Same H H' → H p = none → H' p = some (.lst (ts.map V.ref)) → ts.length = xs.length → (∀ (j : Nat) (x : V), xs[j]? = some x → ∃ t, ts[j]? = some t ∧ H t = none ∧ H' t = some (.tup [.int (j : Nat), x])) → Q (.ref p) H') :
    EP X pins σ Q (.ref q) { s with heap := h', toks := tk } := by
  have ln := r.length
  have fr : ∀ b : Nat, s.heap.objs.size ≤ b → H b = none := fun b hb => I.hok.fresh hb
  have lt : ∀ b o, H b = some o → b < q := fun b o z => by
    rcases Nat.lt_or_ge b s.heap.objs.size with y | y
    · exact Nat.lt_of_lt_of_le y lo
    · rw [fr b y] at z; cases z
  have ltH : ∀ b o, s.heap.get? b = some o → b < q := fun b o z => Nat.lt_of_lt_of_le (Heap.lt_size z) lo
  have sm : Same H (enH H q (q + 1) xs) := fun b o z => by rw [enH_lo (Nat.ne_of_lt (lt b o z)) (Nat.lt_succ_of_lt (lt b o z))]; exact z
  have szits : its.toArray.size = xs.length := by simp; omega
  have J : Inv X pins σ (enH H q (q + 1) xs) { s with heap := h', toks := tk } := by
    have U : Un X.fs [] H (enH H q (q + 1) xs) s.heap h' := {
      keep := fun b o z _ _ _ => kp b o z
      slot := fun b o z _ _ _ => ⟨o.slots, kp b o z⟩
      free := fun b o z n _ => by rw [enH_lo (Nat.ne_of_lt (ltH b o z)) (Nat.lt_succ_of_lt (ltH b o z))]; exact n
      there := fun b o z _ => ⟨o, kp b o z⟩
      tups := fun b ys z => sm _ _ z
      frzs := fun b o v z => sm _ _ z
      tbls := fun b ps z => ⟨#[], by rw [sm _ _ z]; simp⟩ }
    refine I.un (t' := tk) U fun b z hb => ?_
    by_cases h1 : b = q
    · subst h1
      rw [enH_S] at hb
      cases hb
      refine ⟨by rw [List.length_map, List.length_range]; exact hz, refsR (b + 1) its.toArray.size, c, ?_, hS⟩
      rw [szits]
      show Vals _ ((List.range xs.length).map _)
      generalize List.range xs.length = l
      induction l with
      | nil => exact .nil
      | cons a l ih => exact .cons rfl ih
    · by_cases h2 : q + 1 ≤ b
      · obtain ⟨j, rfl⟩ : ∃ j, b = q + 1 + j := ⟨b - (q + 1), (Nat.add_sub_cancel' h2).symm⟩
        cases hx : xs[j]? with
        | none =>
          unfold enH at hb
          rw [if_neg h1, if_pos h2] at hb
          have ej : q + 1 + j - (q + 1) = j := by omega
          rw [ej, hx] at hb
          rw [fr _ (by omega)] at hb
          cases hb
        | some x =>
          rw [enH_at (Nat.lt_succ_self _) hx] at hb
          cases hb
          have jl : j < xs.length := (List.getElem?_eq_some_iff.mp hx).1
          obtain ⟨t, u, hT, pu⟩ := la j (by rw [szits]; exact jl)
          obtain ⟨u', hu', ru⟩ := r.get hx
          have : u = u' := by simp only [List.getElem?_toArray] at pu; rw [hu'] at pu; exact (Option.some.inj pu).symm
          subst this
          exact ⟨by show 2 ≤ sizeLine; decide, [.int (j : Nat) t, u], .cons ⟨_, rfl⟩ (.cons ru .nil), ⟨_, hT, rfl, _, rfl⟩⟩
      · rw [enH_lo h1 (Nat.lt_of_not_le h2)] at hb
        exact (I.hok b z hb).stay (fun y v _ w' => kp y v w') (fun y hy => sm _ _ hy) fun y ys hy => sm _ _ hy
  refine ⟨.ref q, _, J, rfl, k q ((List.range xs.length).map fun j => q + 1 + j) _ sm (fr q lo) ?_ (by simp) fun j x hx => ?_⟩
  · rw [enH_S, List.map_map]; rfl
  · have jl : j < xs.length := (List.getElem?_eq_some_iff.mp hx).1
    exact ⟨q + 1 + j, by simp [jl], fr _ (by omega), enH_at (Nat.lt_succ_self _) hx⟩
theorem pe_listEnum (hm : X.mg "list" = none) (hm2 : X.mg "enumerate" = none) (ha : PA X [e] ta) (hc : X.calm = true := by rfl) (hg : Gl X "list" := by rfl) (hg2 : Gl X "enumerate" := by rfl) (hs2 : starEach [e] X.env = [(false, eval e X.env)] := by rfl)
    (hs : starEach [.Call (.Name "enumerate" p2) [e] [] pos2] X.env = (false, eval (.Call (.Name "enumerate" p2) [e] [] pos2) X.env) :: starEach [] X.env := by rfl) (hK : X.K = K := by rfl) :
    PE X (.Call (.Name "list" p) [.Call (.Name "enumerate" p2) [e] [] pos2] [] pos) (tListEnum K ta) := by
  subst hK
  refine ⟨fun pins s σ H Q I hq => ?_⟩
  refine wpAny_Call_Name_kw (ld_blt I hg hm bb_list ?_)
  refine PyProof.Rows.callWith_type1 ?_ hs rfl
  rw [hs]
  refine Calls.spliced_cons ?_
  refine Call_ (ld_blt I hg2 hm2 boot_enumerate (PyProof.Rows.callWith_type1 (thn (ha.run pos2 pins s σ H _ I hq) fun us s1 ⟨vs, H1, I1, r1, q1⟩ => ?_) hs2 rfl))
  obtain ⟨a, xs, rfl, hx, k⟩ := q1
  obtain ⟨u, rfl, ru⟩ := vals1 r1
  cases ru
  rcases hx with hx | hx
  · obtain ⟨its, rv, pl, hz⟩ := I1.list hx
    have hl := pl.isList
    have la : a < s1.heap.objs.size := by obtain ⟨o, z, _⟩ := hl; exact Heap.lt_size z
    refine call_enumB (begins_list a its.toArray) hl fun h' he hi z kp => Calls.spliced_nil ?_
    have al : a ≠ s1.heap.objs.size := Nat.ne_of_lt la
    refine list_enum (s := { s1 with heap := h' }) (dr_list (A := X.A.in1.in1.in1) (I.ok.hd hc) s1.heap.objs.size a al its.toArray) he ⟨⟨_, hi, rfl, rfl⟩, hl.at fun o x => kp _ _ x⟩ (Nat.succ_ne_self _) ?_ (by simp; have := rv.length; omega) ?_ ?_ fun h'' tk c kp2 hS la2 => ?_
    · simp only [List.mem_cons, List.not_mem_nil, or_false, not_or]
      exact ⟨Nat.succ_ne_self _, Nat.ne_of_gt (Nat.lt_succ_of_lt la)⟩
    · show s1.heap.objs.size < h'.objs.size; rw [z]; omega
    · intro b hb
      simp only [List.mem_cons, List.not_mem_nil, or_false] at hb
      show b < h'.objs.size
      rw [z]
      rcases hb with rfl | rfl
      · exact Nat.lt_succ_of_lt (Nat.lt_succ_self _)
      · exact Nat.lt_succ_of_lt (Nat.lt_succ_of_lt la)
    · have z' : h'.objs.size = s1.heap.objs.size + 2 := z
      exact en_laid (s := s1) (h' := h'') (tk := tk) (c := c) (q := h'.objs.size) I1 rv hz (by rw [z']; omega) (fun b o y => kp2 b o (Nat.ne_of_lt (Nat.lt_succ_of_lt (Heap.lt_size y))) (Nat.ne_of_lt (Heap.lt_size y)) (kp b o y)) hS la2 k
  · obtain ⟨its, rv, pl, hz⟩ := I1.tuple hx
    have hl : s1.heap.IsTuple a its.toArray := pl
    have la : a < s1.heap.objs.size := by obtain ⟨o, z, _⟩ := hl; exact Heap.lt_size z
    refine call_enumB (begins_tuple a its.toArray) hl fun h' he hi z kp => Calls.spliced_nil ?_
    have al : a ≠ s1.heap.objs.size := Nat.ne_of_lt la
    refine list_enum (s := { s1 with heap := h' }) (dr_tup (A := X.A.in1.in1.in1) (I.ok.hd hc) s1.heap.objs.size a al its.toArray) he ⟨⟨_, hi, rfl, rfl⟩, hl.at fun o x => kp _ _ x⟩ (Nat.succ_ne_self _) ?_ (by simp; have := rv.length; omega) ?_ ?_ fun h'' tk c kp2 hS la2 => ?_
    · simp only [List.mem_cons, List.not_mem_nil, or_false, not_or]
      exact ⟨Nat.succ_ne_self _, Nat.ne_of_gt (Nat.lt_succ_of_lt la)⟩
    · show s1.heap.objs.size < h'.objs.size; rw [z]; omega
    · intro b hb
      simp only [List.mem_cons, List.not_mem_nil, or_false] at hb
      show b < h'.objs.size
      rw [z]
      rcases hb with rfl | rfl
      · exact Nat.lt_succ_of_lt (Nat.lt_succ_self _)
      · exact Nat.lt_succ_of_lt (Nat.lt_succ_of_lt la)
    · have z' : h'.objs.size = s1.heap.objs.size + 2 := z
      exact en_laid (s := s1) (h' := h'') (tk := tk) (c := c) (q := h'.objs.size) I1 rv hz (by rw [z']; omega) (fun b o y => kp2 b o (Nat.ne_of_lt (Nat.lt_succ_of_lt (Heap.lt_size y))) (Nat.ne_of_lt (Heap.lt_size y)) (kp b o y)) hS la2 k
end
end RS


/-! values as trees in the heap, with the addresses of their lists and dicts -/
namespace RS
open PySem PySem.Spec L2
mutual
inductive Tr (H : Hp) : V → PyData → List Addr → Prop
  | non : Tr H .non .none []
  | bl (b : Bool) : Tr H (.bl b) (.bool b) []
  | int (i : Int) : Tr H (.int i) (.int i) []
  | str (x : Str) : Tr H (.str x) (.str x) []
  | lst {a : Addr} {xs : List V} {ds : List PyData} {fp : List Addr} (h : H a = some (.lst xs)) (hs : TrL H xs ds fp) (na : a ∉ fp) : Tr H (.ref a) (.list ds) (a :: fp)
  | tup {a : Addr} {xs : List V} {ds : List PyData} {fp : List Addr} (h : H a = some (.tup xs)) (hs : TrL H xs ds fp) : Tr H (.ref a) (.tuple ds) fp
  | dct {a : Addr} {kvs : List (Key × V)} {D : List (PyData × PyData)} {fp : List Addr} (h : H a = some (.dK kvs)) (hs : TrD H kvs D fp) (na : a ∉ fp) (nd : (kvs.map (·.1)).Nodup) : Tr H (.ref a) (.dict D) (a :: fp)
inductive TrL (H : Hp) : List V → List PyData → List Addr → Prop
  | nil : TrL H [] [] []
  | cons {v : V} {vs : List V} {d : PyData} {ds : List PyData} {f1 f2 : List Addr} (h : Tr H v d f1) (hs : TrL H vs ds f2) : TrL H (v :: vs) (d :: ds) (f1 ++ f2)
inductive TrD (H : Hp) : List (Key × V) → List (PyData × PyData) → List Addr → Prop
  | nil : TrD H [] [] []
  | cons {x : Str} {v : V} {kvs : List (Key × V)} {d : PyData} {D : List (PyData × PyData)} {f1 f2 : List Addr} (h : Tr H v d f1) (hs : TrD H kvs D f2) : TrD H ((.inr x, v) :: kvs) ((.str x, d) :: D) (f1 ++ f2)
end
/-! ### kept where other places change -/
mutual
theorem Tr.keep {H H' : Hp} {S : Addr → Prop} (hS : ∀ c, S c → ∀ xs, H c ≠ some (.tup xs)) (hk : ∀ c o, ¬ S c → H c = some o → H' c = some o) : ∀ {v : V} {d : PyData} {fp : List Addr}, Tr H v d fp → (∀ c ∈ fp, ¬ S c) → Tr H' v d fp
  | _, _, _, .non, _ => .non
  | _, _, _, .bl b, _ => .bl b
  | _, _, _, .int i, _ => .int i
  | _, _, _, .str x, _ => .str x
  | _, _, _, .lst h hs na, f => .lst (hk _ _ (f _ (List.mem_cons_self ..)) h) (hs.keep hS hk fun c hc => f c (List.mem_cons_of_mem _ hc)) na
  | _, _, _, .tup h hs, f => .tup (hk _ _ (fun z => hS _ z _ h) h) (hs.keep hS hk f)
  | _, _, _, .dct h hs na nd, f => .dct (hk _ _ (f _ (List.mem_cons_self ..)) h) (hs.keep hS hk fun c hc => f c (List.mem_cons_of_mem _ hc)) na nd
theorem TrL.keep {H H' : Hp} {S : Addr → Prop} (hS : ∀ c, S c → ∀ xs, H c ≠ some (.tup xs)) (hk : ∀ c o, ¬ S c → H c = some o → H' c = some o) : ∀ {vs : List V} {ds : List PyData} {fp : List Addr}, TrL H vs ds fp → (∀ c ∈ fp, ¬ S c) → TrL H' vs ds fp
  | _, _, _, .nil, _ => .nil
  | _, _, _, .cons h hs, f => .cons (h.keep hS hk fun c hc => f c (List.mem_append_left _ hc)) (hs.keep hS hk fun c hc => f c (List.mem_append_right _ hc))
theorem TrD.keep {H H' : Hp} {S : Addr → Prop} (hS : ∀ c, S c → ∀ xs, H c ≠ some (.tup xs)) (hk : ∀ c o, ¬ S c → H c = some o → H' c = some o) : ∀ {kvs : List (Key × V)} {D : List (PyData × PyData)} {fp : List Addr}, TrD H kvs D fp → (∀ c ∈ fp, ¬ S c) → TrD H' kvs D fp
  | _, _, _, .nil, _ => .nil
  | _, _, _, .cons h hs, f => .cons (h.keep hS hk fun c hc => f c (List.mem_append_left _ hc)) (hs.keep hS hk fun c hc => f c (List.mem_append_right _ hc))
end
theorem Tr.same {H H' : Hp} (s : Same H H') {v : V} {d : PyData} {fp : List Addr} (h : Tr H v d fp) : Tr H' v d fp := h.keep (S := fun _ => False) (fun _ z => z.elim) (fun c o _ z => s c o z) fun _ _ z => z
theorem TrL.same {H H' : Hp} (s : Same H H') {v : List V} {d : List PyData} {fp : List Addr} (h : TrL H v d fp) : TrL H' v d fp := h.keep (S := fun _ => False) (fun _ z => z.elim) (fun c o _ z => s c o z) fun _ _ z => z
theorem TrD.same {H H' : Hp} (s : Same H H') {v : List (Key × V)} {d : List (PyData × PyData)} {fp : List Addr} (h : TrD H v d fp) : TrD H' v d fp := h.keep (S := fun _ => False) (fun _ z => z.elim) (fun c o _ z => s c o z) fun _ _ z => z
/-- one place alone changes -/
theorem keep_one {H H' : Hp} {p : Addr} (n : ∀ xs, H p ≠ some (.tup xs)) (k : ∀ c o, c ≠ p → H c = some o → H' c = some o) : (∀ c, c = p → ∀ xs, H c ≠ some (.tup xs)) ∧ ∀ c o, ¬ c = p → H c = some o → H' c = some o := ⟨fun c e => by subst e; exact n, k⟩
theorem Tr.but {H H' : Hp} {p : Addr} {v : V} {d : PyData} {fp : List Addr} (h : Tr H v d fp) (n : ∀ xs, H p ≠ some (.tup xs)) (k : ∀ c o, c ≠ p → H c = some o → H' c = some o) (np : p ∉ fp) : Tr H' v d fp :=
  h.keep (S := fun c => c = p) (keep_one n k).1 k fun c hc e => np (e ▸ hc)
theorem TrL.but {H H' : Hp} {p : Addr} {v : List V} {d : List PyData} {fp : List Addr} (h : TrL H v d fp) (n : ∀ xs, H p ≠ some (.tup xs)) (k : ∀ c o, c ≠ p → H c = some o → H' c = some o) (np : p ∉ fp) : TrL H' v d fp :=
  h.keep (S := fun c => c = p) (keep_one n k).1 k fun c hc e => np (e ▸ hc)
theorem TrD.but {H H' : Hp} {p : Addr} {v : List (Key × V)} {d : List (PyData × PyData)} {fp : List Addr} (h : TrD H v d fp) (n : ∀ xs, H p ≠ some (.tup xs)) (k : ∀ c o, c ≠ p → H c = some o → H' c = some o) (np : p ∉ fp) : TrD H' v d fp :=
  h.keep (S := fun c => c = p) (keep_one n k).1 k fun c hc e => np (e ▸ hc)
/-! ### the addresses are there -/
mutual
theorem Tr.there {H : Hp} : ∀ {v : V} {d : PyData} {fp : List Addr}, Tr H v d fp → ∀ c ∈ fp, (∃ xs, H c = some (.lst xs)) ∨ ∃ kvs, H c = some (.dK kvs)
  | _, _, _, .non, _, h => by cases h
  | _, _, _, .bl _, _, h => by cases h
  | _, _, _, .int _, _, h => by cases h
  | _, _, _, .str _, _, h => by cases h
  | _, _, _, .lst h hs _, c, m => (List.mem_cons.mp m).elim (fun e => .inl ⟨_, e ▸ h⟩) (hs.there c)
  | _, _, _, .tup h hs, c, m => hs.there c m
  | _, _, _, .dct h hs _ _, c, m => (List.mem_cons.mp m).elim (fun e => .inr ⟨_, e ▸ h⟩) (hs.there c)
theorem TrL.there {H : Hp} : ∀ {vs : List V} {ds : List PyData} {fp : List Addr}, TrL H vs ds fp → ∀ c ∈ fp, (∃ xs, H c = some (.lst xs)) ∨ ∃ kvs, H c = some (.dK kvs)
  | _, _, _, .nil, _, h => by cases h
  | _, _, _, .cons h hs, c, m => (List.mem_append.mp m).elim (h.there c) (hs.there c)
theorem TrD.there {H : Hp} : ∀ {kvs : List (Key × V)} {D : List (PyData × PyData)} {fp : List Addr}, TrD H kvs D fp → ∀ c ∈ fp, (∃ xs, H c = some (.lst xs)) ∨ ∃ kvs, H c = some (.dK kvs)
  | _, _, _, .nil, _, h => by cases h
  | _, _, _, .cons h hs, c, m => (List.mem_append.mp m).elim (h.there c) (hs.there c)
end
/-! ### as data -/
mutual
theorem Tr.dp {K : PySem.W.Frag} {H : Hp} : ∀ {v : V} {d : PyData} {fp : List Addr}, Tr H v d fp → DpX K H v d
  | _, _, _, .non => .non
  | _, _, _, .bl b => .bl b
  | _, _, _, .int i => .int i
  | _, _, _, .str x => .str x
  | _, _, _, .lst h hs _ => .lst (SqL.of h) hs.dp
  | _, _, _, .tup h hs => .tup (SqT.of h) hs.dp
  | _, _, _, .dct h hs _ _ => .dct h hs.dp
theorem TrL.dp {K : PySem.W.Frag} {H : Hp} : ∀ {vs : List V} {ds : List PyData} {fp : List Addr}, TrL H vs ds fp → DpXs K H vs ds
  | _, _, _, .nil => .nil
  | _, _, _, .cons h hs => .cons h.dp hs.dp
theorem TrD.dp {K : PySem.W.Frag} {H : Hp} : ∀ {kvs : List (Key × V)} {D : List (PyData × PyData)} {fp : List Addr}, TrD H kvs D fp → DpXd K H kvs D
  | _, _, _, .nil => .nil
  | _, _, _, .cons h hs => .cons (k := .inr _) h.dp hs.dp
end
/-! ### items -/
theorem TrL.len {H : Hp} : ∀ {vs : List V} {ds : List PyData} {fp : List Addr}, TrL H vs ds fp → vs.length = ds.length
  | _, _, _, .nil => rfl
  | _, _, _, .cons _ hs => by simp [hs.len]
theorem TrD.len {H : Hp} : ∀ {vs : List (Key × V)} {ds : List (PyData × PyData)} {fp : List Addr}, TrD H vs ds fp → vs.length = ds.length
  | _, _, _, .nil => rfl
  | _, _, _, .cons _ hs => by simp [hs.len]
theorem TrL.get {H : Hp} : ∀ {vs : List V} {ds : List PyData} {fp : List Addr}, TrL H vs ds fp → ∀ {i : Nat}, i < vs.length → ∃ v d f, vs[i]? = some v ∧ ds[i]? = some d ∧ Tr H v d f ∧ ∀ c ∈ f, c ∈ fp
  | _, _, _, .cons h _, 0, _ => ⟨_, _, _, rfl, rfl, h, fun c hc => List.mem_append_left _ hc⟩
  | _, _, _, .cons _ hs, i + 1, l => by
    obtain ⟨v, d, f, h1, h2, h3, h4⟩ := hs.get (i := i) (by simpa using l)
    exact ⟨v, d, f, by simpa using h1, by simpa using h2, h3, fun c hc => List.mem_append_right _ (h4 c hc)⟩
theorem TrD.get {H : Hp} : ∀ {vs : List (Key × V)} {ds : List (PyData × PyData)} {fp : List Addr}, TrD H vs ds fp → ∀ {i : Nat}, i < vs.length → ∃ x v d f, vs[i]? = some (.inr x, v) ∧ ds[i]? = some (.str x, d) ∧ Tr H v d f ∧ ∀ c ∈ f, c ∈ fp
  | _, _, _, .cons h _, 0, _ => ⟨_, _, _, _, rfl, rfl, h, fun c hc => List.mem_append_left _ hc⟩
  | _, _, _, .cons _ hs, i + 1, l => by
    obtain ⟨x, v, d, f, h1, h2, h3, h4⟩ := hs.get (i := i) (by simpa using l)
    exact ⟨x, v, d, f, by simpa using h1, by simpa using h2, h3, fun c hc => List.mem_append_right _ (h4 c hc)⟩
/-- a key's own value -/
theorem valV_at : ∀ {kvs : List (Key × V)} {i : Nat} {k : Key} {v : V}, (kvs.map (·.1)).Nodup → kvs[i]? = some (k, v) → valV kvs k = some v
  | (k', v') :: r, 0, k, v, nd, h => by
    cases h
    rw [vv_cons, if_pos rfl]
  | (k', v') :: r, i + 1, k, v, nd, h => by
    have h' : r[i]? = some (k, v) := by simpa using h
    have nd' := List.nodup_cons.mp nd
    have ne : k' ≠ k := fun e => nd'.1 (by
      have := List.mem_of_getElem? h'
      rw [e]
      exact List.mem_map.mpr ⟨_, this, rfl⟩)
    rw [vv_cons, if_neg ne]
    exact valV_at nd'.2 h'
  | [], _, _, _, _, h => by simp at h
theorem depth_all {ds : List PyData} : ∀ {d : PyData} {i : Nat}, ds[i]? = some d → d.depth ≤ PyData.depthAll ds := by
  induction ds with
  | nil => intro d i h; simp at h
  | cons x xs ih =>
    intro d i h
    cases i with
    | zero => cases h; simp only [PyData.depthAll]; omega
    | succ i => have := ih (by simpa using h); simp only [PyData.depthAll]; omega
theorem depth_kv {D : List (PyData × PyData)} : ∀ {k d : PyData} {i : Nat}, D[i]? = some (k, d) → d.depth ≤ PyData.depthKv D := by
  induction D with
  | nil => intro k d i h; simp at h
  | cons x xs ih =>
    obtain ⟨x1, x2⟩ := x
    intro k d i h
    cases i with
    | zero => cases h; simp only [PyData.depthKv]; omega
    | succ i => have := ih (by simpa using h); simp only [PyData.depthKv]; omega
end RS


namespace RS
open PySem PySem.Spec L2
/-! ### isinstance of several built-in classes -/
section
variable {X : Cx}
def rIsT (Ts : List String) : List V → Hp → VK → Prop := fun xs H Q => match xs with
  | [x, .ref tp] => H tp = some (.tup (Ts.map V.ty)) ∧ ∃ t, tyN x H = some t ∧ Q (.bl (Ts.any (isB t))) H
  | _ => False
theorem clsV_tys : ∀ Ts : List String, Paired ClsV (Ts.map V.ty) (Ts.map Value.type)
  | [] => .nil
  | T :: Ts => .cons (.ty T) (clsV_tys Ts)
theorem kitAny_tys {K : PySem.W.Frag} {t : String} (m : t ∈ ["NoneType", "bool", "int", "str", "list", "tuple", "dict"]) : ∀ {Ts : List String}, (∀ T ∈ Ts, T ∈ ["bool", "int", "str", "list", "tuple", "dict", "float"]) → PySem.W.kitAny K (.type t) (Ts.map Value.type) = some (Ts.any (isB t))
  | [], _ => rfl
  | T :: Ts, h => by
    have e1 : PySem.W.kitOne K (.type t) (.type T) = some (isB t T) := kit_ty (kitB_tab t m T (h T (List.mem_cons_self ..)))
    have e2 := kitAny_tys (K := K) m fun T' hT => h T' (List.mem_cons_of_mem _ hT)
    show PySem.W.kitAny K (.type t) (.type T :: Ts.map Value.type) = _
    unfold PySem.W.kitAny
    rw [e1]
    cases hb : isB t T with
    | true => simp [hb]
    | false => simp only [List.any_cons, hb, Bool.false_or]; exact e2
theorem c_isT (Ts : List String) (hT : ∀ T ∈ Ts, T ∈ ["bool", "int", "str", "list", "tuple", "dict", "float"] := by decide) : CallR X (.builtin "isinstance") (rIsT Ts) := by
  intro pins s σ H xs us Q I r h
  unfold rIsT at h
  split at h
  · obtain ⟨h1, t, ht, q⟩ := h
    obtain ⟨ty, m⟩ := tyN_tyX (K := X.K) ht
    exact call_isiT pins s σ H _ us Q I r ⟨_, _, _, _, _, _, rfl, h1, clsV_tys Ts, ty, kitAny_tys m hT, q⟩
  · exact h.elim
/-! ### walks of one kind or another -/
theorem pi_or {tg e : Expr} {w1 w2 : TI} (h1 : PI X tg e w1) (h2 : PI X tg e w2) : PI X tg e (fun σ H R => w1 σ H R ∨ w2 σ H R) :=
  ⟨fun pins s σ H R I h => h.elim (h1.run pins s σ H R I) (h2.run pins s σ H R I)⟩
end
/-! ### the kind of a tree -/
def kindN : PyData → String
  | .none => "NoneType"
  | .bool _ => "bool"
  | .int _ => "int"
  | .str _ => "str"
  | .list _ => "list"
  | .tuple _ => "tuple"
  | .dict _ => "dict"
theorem tyN_l {H : Hp} {a : Addr} {xs : List V} (h : H a = some (.lst xs)) : tyN (.ref a) H = some "list" := by simp [tyN, h]
theorem tyN_t {H : Hp} {a : Addr} {xs : List V} (h : H a = some (.tup xs)) : tyN (.ref a) H = some "tuple" := by simp [tyN, h]
theorem tyN_d {H : Hp} {a : Addr} {xs : List (Key × V)} (h : H a = some (.dK xs)) : tyN (.ref a) H = some "dict" := by simp [tyN, h]
theorem Tr.ty {H : Hp} {v : V} {d : PyData} {fp : List Addr} (h : Tr H v d fp) : tyN v H = some (kindN d) := by
  cases h with
  | non => rfl
  | bl b => rfl
  | int i => rfl
  | str x => rfl
  | lst h _ _ => exact tyN_l h
  | tup h _ => exact tyN_t h
  | dct h _ _ _ => exact tyN_d h
/-- a tree's value is no new place -/
theorem Tr.ne {H : Hp} {a p : Addr} {d : PyData} {fp : List Addr} (h : Tr H (.ref a) d fp) (n : H p = none) : a ≠ p := fun e => by
  cases h with
  | lst h _ _ => rw [e, n] at h; cases h
  | tup h _ => rw [e, n] at h; cases h
  | dct h _ _ _ => rw [e, n] at h; cases h
theorem tyN_same {H H' : Hp} {v : V} {t : String} (s : Same H H') (h : tyN v H = some t) : tyN v H' = some t := by
  cases v with
  | ref a =>
    unfold tyN at h ⊢
    simp only at h ⊢
    split at h <;> first | (cases h; done) | skip
    all_goals (rename_i e; rw [s _ _ e]; exact h)
  | _ => exact h
/-- isinstance(v, (..)): the tuple is laid -/
theorem isT_new {Ts : List String} {H : Hp} {v : V} {t : String} {p : Addr} {Q : VK} (ht : tyN v H = some t) (n : H p = none) (q : Q (.bl (Ts.any (isB t))) (upd H p (.tup (Ts.map V.ty)))) : rIsT Ts [v, .ref p] (upd H p (.tup (Ts.map V.ty))) Q :=
  ⟨upd_same, t, tyN_same (same_upd n) ht, q⟩
/-! ### comprehensions by an invariant -/
theorem lc_inv {J : It} {g : TG} {tt : TT} {te : TE} {vs : List Nat} {σ : L2.St} {H1 : Hp} {Qf : VK} (n : Nat) (Pv : Addr → Nat → List V → Hp → Prop) (hn : n ≤ sizeLine)
    (h0 : ∀ D, H1 D = none → Pv D 0 [] (upd H1 D (.lst []))) (hgo : ∀ D i acc H, H1 D = none → i < n → Pv D i acc H → J.go i H) (hst : ∀ D acc H, H1 D = none → Pv D n acc H → J.stop n H)
    (hs : ∀ D i acc H x H' (K : VK) (K0 : Hp → Prop), H1 D = none → i < n → acc.length ≤ i → Pv D i acc H → H D = some (.lst acc) → J.yld i H x H' → (∀ y H4, H4 D = some (.lst acc) → Pv D (i + 1) (acc ++ [y]) (upd H4 D (.lst (acc ++ [y]))) → K y H4) → (∀ H4, H4 D = some (.lst acc) → Pv D (i + 1) acc H4 → K0 H4) →
      g x (wipe σ vs) H' fun σ2 H2 => wipe σ2 vs = wipe σ vs ∧ tt σ2 H2 fun b H3 => if b = true then te σ2 H3 K else K0 H3)
    (hd : ∀ D acc H, H1 D = none → Pv D n acc H → H D = some (.lst acc) → Qf (.ref D) H) : LcB J g tt te vs σ H1 Qf := by
  intro D hD
  let W : Nat → Hp → Prop := fun i H => ∃ acc, acc.length ≤ i ∧ Pv D i acc H ∧ H D = some (.lst acc)
  refine ⟨fun i m H => m = n - i ∧ i ≤ n ∧ W i H, ⟨n, by omega, Nat.zero_le _, [], Nat.le_refl _, h0 D hD, upd_same⟩, ?_⟩
  rintro i m H ⟨rfl, hi, acc, la, pv, eD⟩
  by_cases lt : i < n
  · refine .inr ⟨hgo D i acc H hD lt pv, W (i + 1), fun H' w => ⟨n - (i + 1), by omega, rfl, lt, w⟩, fun x H' y => ?_⟩
    refine hs D i acc H x H' _ (W (i + 1)) hD lt la pv eD y (fun v H4 e4 p4 => ⟨acc, e4, by omega, acc ++ [v], by simp; omega, p4, upd_same⟩) fun H4 e4 p4 => ⟨acc, by omega, p4, e4⟩
  · have e : i = n := by omega
    subst e
    exact .inl ⟨hst D acc H hD pv, hd D acc H hD pv eD⟩
/-- .. where all are kept -/
theorem lc_invA {J : It} {g : TG} {te : TE} {vs : List Nat} {σ : L2.St} {H1 : Hp} {Qf : VK} (n : Nat) (Pv : Addr → Nat → List V → Hp → Prop) (hn : n ≤ sizeLine)
    (h0 : ∀ D, H1 D = none → Pv D 0 [] (upd H1 D (.lst []))) (hgo : ∀ D i acc H, H1 D = none → i < n → Pv D i acc H → J.go i H) (hst : ∀ D acc H, H1 D = none → Pv D n acc H → J.stop n H)
    (hs : ∀ D i acc H x H' (K : VK), H1 D = none → i < n → acc.length ≤ i → Pv D i acc H → H D = some (.lst acc) → J.yld i H x H' → (∀ y H4, H4 D = some (.lst acc) → Pv D (i + 1) (acc ++ [y]) (upd H4 D (.lst (acc ++ [y]))) → K y H4) →
      g x (wipe σ vs) H' fun σ2 H2 => wipe σ2 vs = wipe σ vs ∧ te σ2 H2 K)
    (hd : ∀ D acc H, H1 D = none → Pv D n acc H → H D = some (.lst acc) → Qf (.ref D) H) : LcB J g tYes te vs σ H1 Qf := by
  refine lc_inv n Pv hn h0 hgo hst (fun D i acc H x H' K K0 hD lt la pv eD y k _ => ?_) hd
  have e : (fun (σ2 : L2.St) (H2 : Hp) => wipe σ2 vs = wipe σ vs ∧ tYes σ2 H2 fun b H3 => if b = true then te σ2 H3 K else K0 H3) = fun σ2 H2 => wipe σ2 vs = wipe σ vs ∧ te σ2 H2 K := by
    funext σ2 H2
    simp only [tYes, if_true]
  rw [e]
  exact hs D i acc H x H' K hD lt la pv eD y k
def DcB (J : It) (g : TG) (tt : TT) (tk tv : TE) (vs : List Nat) (σ : L2.St) (H1 : Hp) (Q : VK) : Prop := ∀ D, H1 D = none → ∃ W : Nat → Nat → Hp → Prop, (∃ m, W 0 m (upd H1 D (.dK []))) ∧ ∀ i m H, W i m H →
  (J.stop i H ∧ Q (.ref D) H) ∨ (J.go i H ∧ ∃ Nx : Hp → Prop, (∀ H', Nx H' → ∃ m', m' < m ∧ W (i + 1) m' H') ∧ ∀ x H', J.yld i H x H' → g x (wipe σ vs) H' fun σ2 H2 => wipe σ2 vs = wipe σ vs ∧ tt σ2 H2 fun b H3 =>
    if b = true then tk σ2 H3 fun y H4 => tv σ2 H4 fun z H5 => ∃ kvs k, y = kV k ∧ H5 D = some (.dK kvs) ∧ kvs.length < sizeLine ∧ Nx (upd H5 D (.dK (putK kvs k z))) else Nx H3)
theorem tDc_eq (wi : TI) (g : TG) (tt : TT) (tk tv : TE) (vs : List Nat) (σ : L2.St) (H : Hp) (Q : VK) : tDc wi g tt tk tv vs σ H Q = wi σ H fun J H1 => DcB J g tt tk tv vs σ H1 Q := rfl
theorem dc_invA {J : It} {g : TG} {tk tv : TE} {vs : List Nat} {σ : L2.St} {H1 : Hp} {Qf : VK} (n : Nat) (Pv : Addr → Nat → List (Key × V) → Hp → Prop)
    (h0 : ∀ D, H1 D = none → Pv D 0 [] (upd H1 D (.dK []))) (hgo : ∀ D i acc H, H1 D = none → i < n → Pv D i acc H → J.go i H) (hst : ∀ D acc H, H1 D = none → Pv D n acc H → J.stop n H)
    (hs : ∀ D i acc H x H' (K : V → V → Hp → Prop), H1 D = none → i < n → Pv D i acc H → H D = some (.dK acc) → J.yld i H x H' → (∀ k z H5, H5 D = some (.dK acc) → acc.length < sizeLine → Pv D (i + 1) (putK acc k z) (upd H5 D (.dK (putK acc k z))) → K (kV k) z H5) →
      g x (wipe σ vs) H' fun σ2 H2 => wipe σ2 vs = wipe σ vs ∧ tk σ2 H2 fun y H4 => tv σ2 H4 fun z H5 => K y z H5)
    (hd : ∀ D acc H, H1 D = none → Pv D n acc H → H D = some (.dK acc) → Qf (.ref D) H) : DcB J g tYes tk tv vs σ H1 Qf := by
  intro D hD
  let W : Nat → Hp → Prop := fun i H => ∃ acc, Pv D i acc H ∧ H D = some (.dK acc)
  refine ⟨fun i m H => m = n - i ∧ i ≤ n ∧ W i H, ⟨n, by omega, Nat.zero_le _, [], h0 D hD, upd_same⟩, ?_⟩
  rintro i m H ⟨rfl, hi, acc, pv, eD⟩
  by_cases lt : i < n
  · refine .inr ⟨hgo D i acc H hD lt pv, W (i + 1), fun H' w => ⟨n - (i + 1), by omega, rfl, lt, w⟩, fun x H' y => ?_⟩
    have e : (fun (σ2 : L2.St) (H2 : Hp) => wipe σ2 vs = wipe σ vs ∧ tYes σ2 H2 fun b H3 => if b = true then tk σ2 H3 (fun y H4 => tv σ2 H4 fun z H5 => ∃ kvs k, y = kV k ∧ H5 D = some (.dK kvs) ∧ kvs.length < sizeLine ∧ W (i + 1) (upd H5 D (.dK (putK kvs k z)))) else W (i + 1) H3) =
        fun σ2 H2 => wipe σ2 vs = wipe σ vs ∧ tk σ2 H2 (fun y H4 => tv σ2 H4 fun z H5 => ∃ kvs k, y = kV k ∧ H5 D = some (.dK kvs) ∧ kvs.length < sizeLine ∧ W (i + 1) (upd H5 D (.dK (putK kvs k z)))) := by
      funext σ2 H2
      simp only [tYes, if_true]
    rw [e]
    exact hs D i acc H x H' _ hD lt pv eD y fun k z H5 e5 l5 p5 => ⟨acc, k, rfl, e5, l5, _, p5, upd_same⟩
  · have e : i = n := by omega
    subst e
    exact .inl ⟨hst D acc H hD pv, hd D acc H hD pv eD⟩
end RS
namespace RS
open PySem PySem.Spec L2
section
variable {X : Cx}
/-- d.update(another dict) -/
def rUpdate : V → List V → Hp → VK → Prop := fun x xs H Q => ∃ d o kvs more, x = .ref d ∧ xs = [.ref o] ∧ d ≠ o ∧ H d = some (.dK kvs) ∧ H o = some (.dK more) ∧ kvs.length + more.length ≤ sizeLine ∧ Q .non (upd H d (.dK (mergeK kvs more)))
theorem mt_update : MtR X "dict.update" rUpdate := by
  intro pins s σ H x xs v us Q I rx rv h
  obtain ⟨d, o, kvs, more, rfl, rfl, ne, hd, ho, hz, q⟩ := h
  cases rx
  obtain ⟨u, rfl, ru⟩ := vals1 rv
  cases ru
  obtain ⟨z1, n1, vs, rel, dd⟩ := dk_of I.hok hd
  obtain ⟨z2, n2, ws, rel2, dd2⟩ := dk_of I.hok ho
  refine call_meetsIn PySem.F.slot_dict_update dd.typeIs PySem.F.entry_dict_update (PySem.F.args_dict_update_2 _ _) (meets_dict_update (mixKind X.prog X.w) d o ne n2) ⟨vs, ws, dd, dd2, by rw [← rel.length, ← rel2.length]; exact hz, fun h' dd' _ hs => ?_⟩
  have he : ∃ q, h'.get? d = some q := let ⟨q, _, _, hq, _⟩ := dd'; ⟨q, hq⟩
  exact ⟨.non, _, d_write (t' := s.toks) I (by rw [hd]; exact True.intro) hs he (dk_new (Nat.le_trans (length_mergeK more kvs) hz) n1 (rel2.merge rel) dd'), rfl, q⟩
end
end RS


/-! defs with a star parameter, under the promise without a repr under way -/
namespace RS
open PySem PySem.Spec L2
/-- a def that takes any number of arguments -/
def FnS (g : Wd) (k : Nat) (f : Addr) (sp : Sp) : Prop :=
  ∀ (A : Around) (outer : List Env) (s : Shared) (H : Hp) (us : List Value) (vs : List V) (Q : VK) (E : XK), Room k A → A.guards = some [] → Env0 g.P g.w g.K g.mg g.base A outer s H → Vals vs us → sp vs H Q E → codeAny (model g.P g.w) A (.call (.ref f) ⟨us, []⟩) (CR (L2.CX g.P g.w) outer g.P g.w H s Q E) s
theorem FnS.mono {g : Wd} {j k : Nat} {f : Addr} {sp : Sp} (F : FnS g j f sp) (h : j ≤ k) : FnS g k f sp := fun A outer s H us vs Q E hr => F A outer s H us vs Q E (hr.mono h)
/-- the module's name x holds such a def -/
def KnS (g : Wd) (x : Str) (k : Nat) (sp : Sp) : Prop := ∃ f, g.mg x = some (.ref f) ∧ PySem.W.keepIn g.K (.ref f) = true ∧ FnS g k f sp
def spS (n : Nat) (sp : Sp) : Sp := fun vs H Q E => ∃ ws rest, vs = ws ++ rest ∧ ws.length = n ∧ rest.length ≤ sizeLine ∧ ∀ p, H p = none → sp (ws ++ [V.ref p]) (upd H p (.tup rest)) Q E
theorem Df.okS {g : Wd} {x qual pv : Str} {st : Stmt} {f : Addr} {fd : FuncData} {dV : Value} {N ps : List Str} {k : Nat} {sp : Sp} (F : Df g.K x qual st f fd dV) (S : FnScope N (ps ++ [pv]) (defScope st))
    (hb : ∀ us rest : List Value, us.length = ps.length → bindArgs fd ⟨us ++ rest, []⟩ = (newTuple rest >>= fun t => pure (ps.zip us ++ [(pv, t)])))
    (hbody : ∀ (cdv : Value) (A : Around) (outer : List Env) (s : Shared) (H : Hp) (vs : List V) (Q : VK) (E : XK), Rm k (cx g N qual st f cdv A outer s H E) → sp vs H Q E →
      ∃ t, PSs (cx g N qual st f cdv A outer s H E) (defBody st) t ∧ t { nx := fun _ H' => Q .non H', rt := Q } (start N vs) H) : FnS g (k + 1) f (spS ps.length sp) := by
  obtain ⟨oc, od, kV, doc, pm, an, cdv, ct, osl, rfl, lk, hcd⟩ := F.ex
  intro A outer s H us vs Q E hr hg e0 r hsp
  obtain ⟨ws, rest, rfl, hl, hz, hq⟩ := hsp
  obtain ⟨u1, u2, rfl, r1, r2⟩ := StX.vals_split r
  have nH : H s.heap.objs.size = none := e0.hok.fresh (Nat.le_refl _)
  have l1 : u1.length = ps.length := by rw [← r1.length]; exact hl
  have l2 : u2.length ≤ sizeLine := by rw [← r2.length]; exact hz
  refine StX.run_bnd lk hcd S hr e0 (G := fun ys G => ∃ p, H p = none ∧ ys = ws ++ [V.ref p] ∧ G = upd H p (.tup rest)) (fun A' Ex Q' k => ?_) fun s2 G ys z hr2 => ?_
  · rw [hb u1 u2 l1]
    refine wpAny_bind (wpAny_newTuple (wpAny_pure ?_) l2)
    have new : ObjOk g.P g.w (upd H s.heap.objs.size (.tup rest)) (s.heap.push { cls := .type "tuple", data := .seq u2.toArray }) s.heap.objs.size (.tup rest) := ⟨hz, u2, r2, ⟨_, Heap.get?_push_size _ rfl, rfl, _, rfl⟩⟩
    have U := StX.un_laid (fs := frs outer) (s := s) (o := { cls := .type "tuple", data := .seq u2.toArray }) (u := .tup rest) nH
    have y := k _ _ (ws ++ [V.ref s.heap.objs.size]) (u1 ++ [Value.ref s.heap.objs.size]) (StX.env0_laid e0 new) U rfl (fun e s' => StX.cxUp outer s H _ _ E e s' U (fun b o q => Heap.get?_push_of_some _ q) rfl) (r1.append (.cons rfl .nil)) (by simp [hl]) ⟨_, nH, rfl, rfl⟩
    rw [List.zip_append l1.symm] at y
    exact y
  · obtain ⟨p, hp, rfl, rfl⟩ := z
    exact hbody cdv A outer s2 _ _ Q E ⟨hr2, hg⟩ (hq p hp)
section
variable {g : Wd} {X : Cx} {k : Nat} {f : Addr} {sp : Sp} {W : WX} {x : Str} {p pos : Pos} {e : Expr} {es : List Expr} {t : TA}
theorem callS (a : At g X) (F : FnS g k f sp) (hr : Rm k X) (tk : Takes X W) {pins : List (Addr × Obj)} {σ : L2.St} {H : Hp} {s : Shared} {Q : VK} {us : List Value} {vs : List V} (I : Inv X pins σ H s) (r : Vals vs us) (h : sp vs H Q (fun c d H' => W c d σ H')) :
    wpAny (model X.prog X.w) X.A (call (.ref f) us) (EP X pins σ Q) X.xe s := by
  obtain ⟨P, w, K, mg, base⟩ := g
  obtain ⟨rfl, rfl, rfl, rfl, rfl⟩ := a
  refine wpAny_call (codeAny_mono (F X.A X.stack s H us vs Q _ hr.room hr.gd I.env0 r h) fun res s' hq => ?_)
  cases res with
  | error e => exact tk e s' (XE.of_call (E := fun c d H' => W c d σ H') I (fun _ _ _ z => z) hq)
  | ok fl => cases fl with
    | ret u => exact I.after hq
    | _ => exact hq.elim
def tCallS (sp : Sp) (W : WX) (t : TA) : TE := fun σ H Q => t σ H fun vs H1 => sp vs H1 Q (fun c d H' => W c d σ H')
theorem pe_callS (F : KnS g x k sp) (hr : Rm k X) (tk : Takes X W) (ha : PA X (e :: es) t) (hg : Gl X x := by rfl) (hdb : (x == ("__debug__" : Str)) = false := by decide)
    (he : starEach (e :: es) X.env = (false, eval e X.env) :: starEach es X.env := by rfl) (hpl : (backTo pos (starEach es X.env)).any (·.1) = false := by rfl) (a : At g X := by exact ⟨rfl, rfl, rfl, rfl, rfl⟩) :
    PE X (.Call (.Name x p) (e :: es) [] pos) (tCallS sp W t) := by
  obtain ⟨f, hm, hk, F⟩ := F
  refine ⟨fun pins s σ H Q I h => wpAny_Call_Name_kw (ld_glob I hg (by rw [a.mg]; exact hm) ?_ hdb)⟩
  refine PySem.W.callWith_K (h₀ := X.base) I.ok.mod.kin (by rw [a.K]; exact hk) (thn (ha.run pos pins s σ H _ I h) ?_) he hpl
  rintro us s1 ⟨vs, H1, I1, r, q⟩
  exact ⟨I1.kIn, callS a F hr tk I1 r q⟩
theorem pe_callS0 (F : KnS g x k sp) (hr : Rm k X) (tk : Takes X W) (hg : Gl X x := by rfl) (hdb : (x == ("__debug__" : Str)) = false := by decide) (a : At g X := by exact ⟨rfl, rfl, rfl, rfl, rfl⟩) :
    PE X (.Call (.Name x p) [] [] pos) (tCallS sp W tNil) := by
  obtain ⟨f, hm, hk, F⟩ := F
  refine ⟨fun pins s σ H Q I h => wpAny_Call_Name_kw (ld_glob I hg (by rw [a.mg]; exact hm) ?_ hdb)⟩
  exact PySem.W.callWith_K0 I.kIn (by rw [a.K]; exact hk) (callS a F hr tk I .nil h)
end
end RS


/-! for i, x in enumerate(a tuple) -/
namespace RS
open PySem PySem.Spec L2
/-- the items of the tuple at a, each with its index in a new pair -/
def ItEt (K : PySem.W.Frag) (a : Addr) : It :=
  ⟨fun i H => ∃ (xs : List V) (x : V), SqT K H a xs ∧ xs[i]? = some x, fun i H v H' => ∃ T x, v = .ref T ∧ H T = none ∧ H' = upd H T (.tup [.int (i : Nat), x]) ∧ ∀ xs, SqT K H a xs → xs[i]? = some x, fun i H => ∃ xs : List V, SqT K H a xs ∧ xs.length = i⟩
theorem turn_enumT {P : Program} {w : World} {K : PySem.W.Frag} {elts : List Expr} {kk : Nat} {tpos : Pos} (a e it : Addr) :
    Turn P w K (.Tuple elts kk tpos) (ItEt K a) [e, it] e (fun i h => (∃ old, IsEnum h e it ((i : Nat) : Int) old) ∧ h.IsTupleIter it a i ∧ e ≠ it ∧ a ≠ it ∧ a ≠ e) where
  mem := List.mem_cons_self
  obj := by
    rintro i h ⟨⟨old, he⟩, ⟨o, ho, hc, hd⟩, _⟩ b hb
    rcases List.mem_cons.mp hb with rfl | hb
    · exact ⟨_, he, fun v q => nomatch q⟩
    · obtain rfl := List.mem_singleton.mp hb
      exact ⟨o, ho, fun v q => by rw [hd] at q; cases q⟩
  keep := by
    rintro i h h' ⟨⟨old, he⟩, ⟨o, ho, hr⟩, hne⟩ k
    exact ⟨⟨old, k e (by simp) _ he⟩, ⟨o, k it (by simp) o ho, hr⟩, hne⟩
  item := by
    intro X hP hw hK hc i pins s σ H E I hf st hg
    subst hP hw hK
    obtain ⟨⟨old, he⟩, hit, hne, nai, nae⟩ := st
    obtain ⟨xs, x, hq, hx⟩ := hg
    obtain ⟨its, rv, pl, hz⟩ := I.tuple hq
    obtain ⟨u0, hu0, ru0⟩ := rv.get hx
    have ln := rv.length
    have li : i < its.toArray.size := by have := (List.getElem?_eq_some_iff.mp hx).1; simp; omega
    have hel : e < s.heap.objs.size := Heap.lt_size he
    have hil : it < s.heap.objs.size := by obtain ⟨_, q, _⟩ := hit; exact Heap.lt_size q
    refine wpAny_pyNext_enum_itemD (Draws.tuple (A := X.A.in1) (I.ok.hd hc) it a nai its.toArray) he ⟨hit, pl⟩ li hne (by simp only [List.mem_cons, List.not_mem_nil, or_false, not_or]; exact ⟨hne, Ne.symm nae⟩) fun u h' tk hp ho hit' hT hsz hk => ?_
    have eu : u = u0 := by simp only [List.getElem?_toArray] at hp; rw [hu0] at hp; exact (Option.some.inj hp).symm
    subst eu
    refine ⟨_, rfl, wpAny_letOwnedTupleGo_enum (s := { s with heap := h', toks := tk + 1 }) ho fun h2 he' sb => ?_⟩
    have hT2 : h2.get? s.heap.objs.size = some { cls := .type "tuple", data := .seq #[.int i tk, u] } := (sb.2 _ (Nat.ne_of_gt hel)).trans hT
    have lay : ObjOk X.prog X.w (upd H s.heap.objs.size (.tup [.int (i : Nat), x])) h2 s.heap.objs.size (.tup [.int (i : Nat), x]) :=
      ⟨by show 2 ≤ sizeLine; decide, _, .cons ⟨_, rfl⟩ (.cons ru0 .nil), _, hT2, rfl, _, rfl⟩
    have keepB : ∀ b o, b ∉ [e, it] → s.heap.get? b = some o → h2.get? b = some o := fun b o hb q => by
      have n1 : b ≠ e := fun z => hb (by simp [z])
      have n2 : b ≠ it := fun z => hb (by simp [z])
      exact (sb.2 b n1).trans (hk b o n1 n2 q)
    have I1 := I.turnedNew (t' := tk + 1) keepB hf (Nat.le_refl _) lay
    refine ⟨.ref s.heap.objs.size, _, I1, rfl, ⟨_, x, rfl, I.hok.fresh (Nat.le_refl _), rfl, fun ys hy => by rw [I.tuple_inj hy hq]; exact hx⟩, ⟨⟨_, by simpa using he'⟩, ?_, hne, nai, nae⟩, fun b hb => ?_⟩
    · obtain ⟨o, ho2, hr⟩ := hit'.1
      exact ⟨o, (sb.2 it (Ne.symm hne)).trans ho2, hr⟩
    · have lt : b < s.heap.objs.size := by
        rcases List.mem_cons.mp hb with rfl | hb
        · exact hel
        · rw [List.mem_singleton.mp hb]; exact hil
      rw [upd_ne (Nat.ne_of_lt lt)]
      exact (hf b hb).1
  done := by
    intro X hP hw hK hc i pins s σ H E I hf st hg
    subst hP hw hK
    obtain ⟨⟨old, he⟩, hit, hne, nai, nae⟩ := st
    obtain ⟨xs, hq, rfl⟩ := hg
    obtain ⟨its, rv, pl, hz⟩ := I.tuple hq
    have ln := rv.length
    obtain ⟨f0, f1, f2, f3, f4, f5⟩ := hf it (by simp)
    refine wpAny_pyNext_enum_endD (Draws.tuple (A := X.A.in1) (I.ok.hd hc) it a nai its.toArray) he (by rw [show its.toArray.size = xs.length by simp; omega]; exact ⟨hit, pl⟩) fun h' eb => ⟨rfl, ?_⟩
    exact I.turned (t' := s.toks) (fun b o hb q => eb b o hb q) f0 f1 f3 f4 f5
  self := fun A i s Q E st h => let ⟨⟨_, he⟩, _⟩ := st; wpAny_pyIter_enum he h
def iEnumT (K : PySem.W.Frag) (ta : TA) : TI := fun σ H R => ta σ H fun vs H1 => ∃ a xs, vs = [.ref a] ∧ SqT K H1 a xs ∧ R (ItEt K a) H1
theorem pi_enumT {X : Cx} {K : PySem.W.Frag} {e : Expr} {ta : TA} {p pos tpos : Pos} {elts : List Expr} {kk : Nat} (hm : X.mg "enumerate" = none) (ha : PA X [e] ta) (hg : Gl X "enumerate" := by rfl) (hs : starEach [e] X.env = [(false, eval e X.env)] := by rfl) (hK : X.K = K := by rfl) :
    PI X (.Tuple elts kk tpos) (.Call (.Name "enumerate" p) [e] [] pos) (iEnumT K ta) := by
  subst hK
  refine ⟨fun pins s σ H R I h => ?_⟩
  refine PyProof.Rows.Call_ (ld_blt I hg hm PyProof.Rows.boot_enumerate (PyProof.Rows.callWith_type1 (thn (ha.run pos pins s σ H _ I h) ?_) hs rfl))
  rintro us s1 ⟨vs, H1, I1, r1, a, xs, rfl, hx, q⟩
  obtain ⟨u, rfl, ru⟩ := vals1 r1
  cases ru
  obtain ⟨its, rv, pl, hz⟩ := I1.tuple hx
  have la : a < s1.heap.objs.size := by obtain ⟨o, z, _⟩ := pl; exact Heap.lt_size z
  refine call_enumB (begins_tuple a its.toArray) pl fun h' he hi z hk => wpAny_pyIter_enum he ?_
  refine ⟨s1.heap.objs.size + 1, [s1.heap.objs.size + 1, s1.heap.objs.size], _, _, H1, rfl, I1.kept (t' := s1.toks) hk, turn_enumT a _ _, ⟨⟨.none, he⟩, ⟨_, hi, rfl, rfl⟩, Nat.succ_ne_self _, Nat.ne_of_lt la, Nat.ne_of_lt (Nat.lt_succ_of_lt la)⟩, fun b hb => ?_, q⟩
  have le : s1.heap.objs.size ≤ b := by
    rcases List.mem_cons.mp hb with rfl | hb
    · exact Nat.le_succ _
    · rw [List.mem_singleton.mp hb]; exact Nat.le_refl _
  exact I1.fpOk le (I1.hok.fresh le)
end RS


/-! raising exceptions of own classes -/
namespace RS
open PySem PySem.Spec L2 PySem.W
section
variable {g : Wd} {X : Cx} {C : Addr} {x f : Str} {e : Expr} {t : TA} {p pos : Pos}
def tPm1 (C : Addr) (f : Str) (t : TA) : L2.St → Hp → XK → Prop := fun σ H Q => t σ H fun vs H1 => ∃ v, vs = [v] ∧ ∀ dy, H1 dy = none → Q (.ref C) (some dy) (upd H1 dy (.xd [(f, v)]))
theorem pmk_x1 (F : XK1 g x C f) (R : Raises X (.ref C)) (hr : Rm 2 X) (ha : PA X [e] t) (hg : Gl X x := by rfl) (hdb : (x == ("__debug__" : Str)) = false := by decide)
    (he : starEach [e] X.env = (false, eval e X.env) :: starEach [] X.env := by rfl) (hpl : (backTo pos (starEach [] X.env)).any (·.1) = false := by rfl) (a : At g X := by exact ⟨rfl, rfl, rfl, rfl, rfl⟩) :
    PMk X (.Call (.Name x p) [e] [] pos) (tPm1 C f t) := by
  obtain ⟨hm, ms, kp, hd, sa, nf, fI, cda, cc, qual, st, B, newId, initId, bmB, xp, XX, Y⟩ := F
  intro pins s σ H Q I h
  refine wpAny_Call_Name_kw (ld_glob I hg (by rw [a.mg]; exact hm) ?_ hdb)
  refine PySem.W.callWith_K (h₀ := X.base) I.ok.mod.kin (by rw [a.K]; exact kp) (thn (ha.run pos pins s σ H _ I h) ?_) he hpl
  rintro us s1 ⟨vs, H1, I1, r, v, rfl, q⟩
  obtain ⟨u, rfl, ru⟩ := vals1 r
  refine ⟨I1.kIn, ?_⟩
  have KI := I1.kIn
  rw [a.K] at KI
  obtain ⟨nm, N', qn, bs, bm, hdct, sn, sub, ab, col, dd, k0, k1, k2, k3, k5, hC, hT⟩ := excInit_of KI XX.q
  obtain ⟨oc, od, kV, doc, pm, an, ct, osl, lk⟩ := XX.lk
  have hfn : oc = .type "function" := by
    have z := XX.fn
    unfold typeIn at z
    simp only [lk] at z
    simpa using z
  have hglob : s1.heap.Ns mainGlobals g.mg := by rw [← a.mg]; exact I1.mod.glob.keeps I1.bk
  obtain ⟨mb, hblt, bb⟩ := I1.mod.blt
  have hblt2 := hblt.keeps I1.bk
  have hlim := I1.nolimit
  have bare := I1.bare
  obtain ⟨hp, gg, dr, tt, oo⟩ := s1
  have up : ∀ b o, hp.get? b = some o → ((hp.push (kdv_tup [u])).push (HandSPX.excO C hp.objs.size)).get? b = some o := fun b o z => Heap.get?_push_of_some _ (Heap.get?_push_of_some _ z)
  have hget : ((hp.push (kdv_tup [u])).push (HandSPX.excO C hp.objs.size)).get? (hp.objs.size + 1) = some (HandSPX.excO C hp.objs.size) := by heap_get
  refine wpAny_call (HandSPX.call_own XX.FB hT hC (looks_findIn KI XX.ini) (fun self => exc_bind (KI _ _ lk) hfn self) (by rw [sizeLine_eq]; simp) ?_)
  rw [a.P]
  refine xinit1 XX Y hd sa nf (fun b o z => up b o (KI b o z)) ?_ (hr.here.make C [u] []).room.depth (hlim.keeps up) hget (hglob.keeps up) ms (hblt2.keeps up) bb fun h' t1 dx tk k ldx nex e' n' => ⟨rfl, ?_⟩
  · cases z : g.K.lookup (hp.objs.size + 1) with
    | none => rfl
    | some o => exact absurd (Heap.lt_size (KI _ _ z)) (by show ¬ hp.objs.size + 1 < hp.objs.size; omega)
  have old : ∀ {b : Addr} {o : Obj}, hp.get? b = some o → b ≠ hp.objs.size + 1 := fun {b o} z y => by
    have := Heap.lt_size z
    rw [y] at this
    exact absurd this (by show ¬ hp.objs.size + 1 < hp.objs.size; omega)
  have k' : ∀ b o, hp.get? b = some o → h'.get? b = some o := fun b o z => k b o (old z) (up b o z)
  have ld2 : hp.objs.size + 2 ≤ dx := by
    have e2 : ((hp.push (kdv_tup ([] ++ [u]))).push (HandSPX.excO C hp.objs.size)).objs.size = hp.objs.size + 2 := by simp [Heap.size_push]
    rw [e2] at ldx
    exact ldx
  have n2 : hp.get? dx = none := by
    cases z : hp.get? dx with
    | none => rfl
    | some o => exact absurd (Heap.lt_size z) (by show ¬ dx < hp.objs.size; omega)
  have f1 : H1 (hp.objs.size + 1) = none := I1.hok.fresh (Nat.le_succ _)
  have f2 : H1 dx = none := I1.hok.fresh (by show hp.objs.size ≤ dx; omega)
  obtain ⟨G, g1, g2⟩ := restrict h' fun b => decide (b ≠ hp.objs.size + 1)
  have gk : ∀ b, b ≠ hp.objs.size + 1 → G.get? b = h'.get? b := fun b hb => g1 b (decide_eq_true hb)
  have ge : G.get? (hp.objs.size + 1) = none := g2 _ (by simp)
  have J := Inv.laidN (t' := tk) (a := dx) (o := HO.xd [(f, v)]) (h' := G) I1 (fun b o z => by rw [gk b (old z)]; exact k' b o z) n2 f2 ⟨_, n'.at fun o y => (gk dx nex).trans y, relO_put (fs := []) ru fun _ => True.intro⟩
  refine ⟨hp.objs.size + 1, _, _, _, _, .ref C, some dx, rfl, J, fun b o z => ?_, ge, e', ⟨rfl, rfl⟩, rfl, rfl, ?_, rfl, bare, R, q dx f2⟩
  · by_cases hb : b = hp.objs.size + 1
    · rw [hb] at z
      have z' : G.get? (hp.objs.size + 1) = some o := z
      rw [ge] at z'; cases z'
    · exact (gk b hb).symm.trans z
  · rw [upd_ne (Ne.symm nex)]; exact f1
end
end RS


/-! the walrus in a test with or; match over texts -/
namespace RS
open PySem PySem.Spec L2 PyProof.Rows
section
variable {X : Cx} {a b : Expr} {rest : List Expr} {pos : Pos}
def wOr (t u : TTw) : TTw := fun σ H Q => t σ H fun c σ1 H1 => if c = true then Q true σ1 H1 else u σ1 H1 Q
/-- (x := e) op f or .. -/
theorem ptw_or {t : TTw} {u : TT} (ha : PTw X a t) (hb : PW X (.BoolOp .Or (b :: rest) pos) u) : PTw X (.BoolOp .Or (a :: b :: rest) pos) (wOr t (wT u)) := by
  refine ⟨fun pins s σ H Q I h => ?_⟩
  refine isTrue_or (thn (ha.run pins s σ H _ I h) fun c s1 ⟨σ1, H1, I1, q1⟩ => ?_)
  cases c with
  | true => exact ⟨σ1, H1, I1, q1⟩
  | false => exact thn (hb.run _ pins s1 σ1 H1 (fun b H2 => Q b σ1 H2) I1 q1) fun b s2 ⟨H2, I2, q2⟩ => ⟨σ1, H2, I2, q2⟩
end
/-! ### match -/
/-- the cases of a match over a value -/
structure PMc (X : Cx) (cs : List MatchCase) (t : V → TS) : Prop where
  run : ∀ (first : Bool) (pins : List (Addr × Obj)) (s : Shared) (σ : L2.St) (H : Hp) (x : V) (v : Value) (D : Ends), Inv X pins σ H s → RelV x v → t x D σ H → wpAny (model X.prog X.w) X.A (matchCases cs X.env v first) (SP X pins D) X.xe s
/-- a pattern that binds nothing, over a text -/
structure PPt (X : Cx) (p : Pattern) (m : Str → Bool) : Prop where
  run : ∀ (pins : List (Addr × Obj)) (s : Shared) (σ : L2.St) (H : Hp) (x : Str) (tk : Tok) (Q : Option (List (Str × Value)) → Shared → Prop), Inv X pins σ H s → (∀ s', Inv X pins σ H s' → Q (if m x = true then some [] else none) s') → wpAny (model X.prog X.w) X.A (matchPattern p X.env (.str x tk)) Q X.xe s
section
variable {X : Cx} {e : Expr} {te : TE} {pos : Pos} {p : Pattern} {ps : List Pattern} {m : Str → Bool} {body : List Stmt} {cs : List MatchCase} {tb : TS} {t : V → TS}
def tMatch (te : TE) (t : V → TS) : TS := fun D σ H => te σ H fun x H1 => t x D σ H1
theorem ps_match (he : PE X e te) (hc : PMc X cs t) : PS X (.Match e cs pos) (tMatch te t) :=
  ⟨fun pins s σ H D I h => wpAny_Match (thn (he.run pins s σ H _ I h) fun v s1 ⟨x, H1, I1, r1, q1⟩ => hc.run true pins s1 σ H1 x v D I1 r1 q1)⟩
theorem pmc_nil : PMc X [] (fun _ D σ H => D.nx σ H) := ⟨fun first pins s σ H x v D I r h => wpAny_matchCases_nil ⟨σ, H, I, h⟩⟩
def tCase (m : Str → Bool) (tb : TS) (t : V → TS) : V → TS := fun x D σ H => ∃ y, x = .str y ∧ if m y = true then tb D σ H else t x D σ H
theorem pmc_case (hp : PPt X p m) (hb : PSs X body tb) (hc : PMc X cs t) : PMc X (⟨p, none, body⟩ :: cs) (tCase m tb t) := by
  refine ⟨fun first pins s σ H x v D I r h => ?_⟩
  obtain ⟨y, rfl, h⟩ := h
  obtain ⟨tk, rfl⟩ := r
  refine wpAny_matchCases_cons (hp.run pins s σ H y tk _ I fun s1 I1 => ?_)
  cases hm : m y with
  | true =>
    rw [hm, if_pos rfl] at h
    rw [if_pos rfl]
    exact wpAny_assignInOrder_none (hb.run pins s1 σ H D I1 h)
  | false =>
    rw [hm, if_neg Bool.false_ne_true] at h
    rw [if_neg Bool.false_ne_true]
    exact hc.run false pins s1 σ H (.str y) _ D I1 ⟨tk, rfl⟩ h
/-- case _ -/
theorem pmc_rest (hb : PSs X body tb) {q : Pos} : PMc X [⟨.MatchAs none none q, none, body⟩] (fun _ => tb) :=
  ⟨fun first pins s σ H x v D I r h => wpAny_matchCases_cons (wpAny_matchPattern_Capture (wpAny_assignInOrder_none (hb.run pins s σ H D I h)))⟩
theorem ppt_str {z : Str} {j : Nat} {q q' : Pos} : PPt X (.MatchValue (.Constant (.str z) j q) q') (fun x => decide (x = z)) := by
  refine ⟨fun pins s σ H x tk Q I h => ?_⟩
  refine wpAny_matchPattern_Value (thn ((pe_str (X := X) (x := z) (j := j) (pos := q)).run pins s σ H (fun y H1 => y = .str z ∧ H1 = H) I ⟨rfl, rfl⟩) fun u s1 ⟨y, H1, I1, r1, e1, e2⟩ => ?_)
  subst e1
  subst e2
  refine thn (op_eq pins s1 σ H1 (.str x) (.str z) _ u (fun w H2 => w = .bl (decide (x = z)) ∧ H2 = H1) I1 ⟨tk, rfl⟩ r1 ?_) fun c s2 ⟨w, H2, I2, r2, e3, e4⟩ => ?_
  · exact ⟨rfl, by simp, rfl⟩
  · subst e3
    subst e4
    cases r2
    refine wpAny_truthy_bool ?_
    have := h s2 I2
    cases hm : decide (x = z) with
    | true => rw [hm] at this; exact this
    | false => rw [hm] at this; exact this
/-- some patterns that bind nothing -/
structure PPs (X : Cx) (ps : List Pattern) (m : Str → Bool) : Prop where
  run : ∀ (pins : List (Addr × Obj)) (s : Shared) (σ : L2.St) (H : Hp) (x : Str) (tk : Tok) (Q : Option (List (Str × Value)) → Shared → Prop), Inv X pins σ H s → (∀ s', Inv X pins σ H s' → Q (if m x = true then some [] else none) s') → wpAny (model X.prog X.w) X.A (matchFirst ps X.env (.str x tk)) Q X.xe s
theorem pps_nil : PPs X [] (fun _ => false) := ⟨fun pins s σ H x tk Q I h => wpAny_matchFirst_nil (h s I)⟩
theorem pps_cons {m' : Str → Bool} (hp : PPt X p m) (hs : PPs X ps m') : PPs X (p :: ps) (fun x => m x || m' x) := by
  refine ⟨fun pins s σ H x tk Q I h => ?_⟩
  refine wpAny_matchFirst_cons (hp.run pins s σ H x tk _ I fun s1 I1 => ?_)
  cases hm : m x with
  | true =>
    have := h s1 I1
    simp only [hm, Bool.true_or, if_true] at this
    exact this
  | false =>
    refine hs.run pins s1 σ H x tk Q I1 fun s2 I2 => ?_
    have := h s2 I2
    simpa only [hm, Bool.false_or] using this
theorem ppt_or (hs : PPs X ps m) {q : Pos} (hn : namesOfAll (ps.take 1) = [] := by rfl) : PPt X (.MatchOr ps q) m := by
  refine ⟨fun pins s σ H x tk Q I k => ?_⟩
  refine wpAny_matchPattern_Or (hs.run pins s σ H x tk _ I fun s1 I1 => ?_)
  have := k s1 I1
  cases hm : m x with
  | true =>
    rw [hm, if_pos rfl] at this
    rw [if_pos rfl]
    simpa [hn] using this
  | false =>
    rw [hm, if_neg Bool.false_ne_true] at this
    rw [if_neg Bool.false_ne_true]
    exact this
end
end RS


/-! is True, is False; two promises of one def -/
namespace RS
open PySem PySem.Spec L2 PyProof.Rows
section
variable {X : Cx}
theorem is_bool {M : Model} {A : Around} {E : Value → Shared → Prop} {s : Shared} {x : V} {u : Value} {b : Bool} {R : Bool → Shared → Prop} (r : RelV x u) (q : R (decide (x = .bl b)) s) : wpAny M A (isSame u (.bool b)) R E s := by
  have eq_ : ∀ {u : Value} {z : Bool}, plainIs u (.bool b) = true → (u == Value.bool b) = z → R z s → wpAny M A (isSame u (.bool b)) R E s := fun h1 h2 q => wpAny_isSame_plain h1 (by rw [h2]; exact q)
  have no : ∀ {u : Value}, plainIs u (.bool b) = true → (u == Value.bool b) = false → decide (x = .bl b) = false → wpAny M A (isSame u (.bool b)) R E s := fun h1 h2 h3 => eq_ h1 h2 (by rw [← h3]; exact q)
  cases x with
  | ref a => cases r; exact no rfl rfl (by simp)
  | non => cases r; exact no rfl rfl (by simp)
  | bl c =>
    cases r
    refine eq_ rfl rfl ?_
    have e : (Value.bool c == Value.bool b) = decide (V.bl c = V.bl b) := by cases c <;> cases b <;> rfl
    rw [e]; exact q
  | int i => obtain ⟨t, rfl⟩ := r; exact no rfl rfl (by simp)
  | str x => obtain ⟨t, rfl⟩ := r; exact no rfl rfl (by simp)
  | byt x => obtain ⟨t, rfl⟩ := r; exact no rfl rfl (by simp)
  | flt x => obtain ⟨t, rfl⟩ := r; exact no rfl rfl (by simp)
  | ty n => cases r; exact no rfl rfl (by simp)
/-- x is True, x is False -/
theorem op_isB : OpR X (compareOp .Is) (fun x y H Q => ∃ b, y = .bl b ∧ Q (.bl (decide (x = .bl b))) H) := by
  intro pins s σ H x y v u Q I rx ry h
  obtain ⟨b, rfl, q⟩ := h
  cases ry
  show wpAny _ _ ((isSame v (Value.bool b)) >>= fun z => pure (Value.bool z)) _ _ s
  exact wpAny_bind (is_bool rx (wpAny_pure (fin_bl I q rfl)))
theorem op_notB : OpR X (compareOp .IsNot) (fun x y H Q => ∃ b, y = .bl b ∧ Q (.bl (!decide (x = .bl b))) H) := by
  intro pins s σ H x y v u Q I rx ry h
  obtain ⟨b, rfl, q⟩ := h
  cases ry
  show wpAny _ _ ((isSame v (Value.bool b)) >>= fun z => pure (Value.bool (!z))) _ _ s
  exact wpAny_bind (is_bool rx (wpAny_pure (fin_bl I q rfl)))
end
/-- either promise -/
def SpOr (sp sp' : Sp) : Sp := fun vs H Q E => sp vs H Q E ∨ sp' vs H Q E
theorem FnG.or {g : Wd} {k : Nat} {f : Addr} {fd : FuncData} {ps : List Str} {sp sp' : Sp} (F : FnG g k f fd ps sp) (F' : FnG g k f fd ps sp') : FnG g k f fd ps (SpOr sp sp') :=
  ⟨fun vs H Q E h => h.elim (F.len vs H Q E) (F'.len vs H Q E), fun A outer s H args us vs Q E hr hg he hb hv h => h.elim (F.run A outer s H args us vs Q E hr hg he hb hv) (F'.run A outer s H args us vs Q E hr hg he hb hv)⟩
end RS


namespace K04
open PySem PySem.Spec L2 RS
/-- the texts of values -/
def num (n : Nat) : Str := Str.ofString (toString (n : Int))
mutual
def spell : PyData → Str
  | .none => "n"
  | .bool b => if b then "t" else "f"
  | .int i => ("i" : Str) ++ Str.ofString (toString i) ++ ";"
  | .str x => ("s" : Str) ++ num x.length ++ ":" ++ x
  | .list ds => ("l" : Str) ++ num ds.length ++ ":" ++ spells ds
  | .tuple ds => ("u" : Str) ++ num ds.length ++ ":" ++ spells ds
  | .dict D => ("d" : Str) ++ num D.length ++ ":" ++ spellKv D
def spells : List PyData → Str
  | [] => Str.empty
  | d :: ds => spell d ++ spells ds
def spellKv : List (PyData × PyData) → Str
  | [] => Str.empty
  | (k, d) :: r => spell k ++ spell d ++ spellKv r
end
def cat : List Str → Str
  | [] => Str.empty
  | x :: xs => x ++ cat xs
theorem join1 : ∀ xs : List Str, Str.join (Str.ofString "") xs = cat xs
  | [] => rfl
  | [x] => by show x = x ++ Str.empty; rw [Str.append_empty]
  | x :: y :: r => by
    have e : Str.join (Str.ofString "") (x :: y :: r) = x ++ Str.ofString "" ++ Str.join (Str.ofString "") (y :: r) := rfl
    have e0 : Str.ofString "" = Str.empty := by decide +kernel
    rw [e, join1 (y :: r), e0, Str.append_empty]
    rfl
theorem join0 (xs : List Str) : Txt.join (Str.ofString "") xs = cat xs := by
  exact (StrLaws.glued_eq_join _ _).trans (join1 xs)
theorem cat_len : ∀ xs : List Str, (cat xs).length = (xs.map (·.length)).sum
  | [] => rfl
  | x :: xs => by simp [cat, Str.length_append, cat_len xs]
theorem cat_map_spell : ∀ ds : List PyData, cat (ds.map spell) = spells ds
  | [] => by simp [cat, spells]
  | d :: ds => by simp [cat, spells, cat_map_spell ds]
theorem cat_map_kv : ∀ D : List (PyData × PyData), cat (D.map fun p => spell p.1 ++ spell p.2) = spellKv D
  | [] => by simp [cat, spellKv]
  | (k, d) :: r => by simp [cat, spellKv, cat_map_kv r]
theorem spells_get : ∀ {ds : List PyData} {i : Nat} {d : PyData}, ds[i]? = some d → (spell d).length ≤ (spells ds).length
  | x :: xs, 0, d, e => by cases e; simp only [spells, Str.length_append]; omega
  | x :: xs, i + 1, d, e => by
    have := spells_get (ds := xs) (by simpa using e)
    simp only [spells, Str.length_append]; omega
  | [], _, _, e => by simp at e
theorem spellKv_get : ∀ {D : List (PyData × PyData)} {i : Nat} {k d : PyData}, D[i]? = some (k, d) → (spell k).length + (spell d).length ≤ (spellKv D).length
  | (x, y) :: xs, 0, k, d, e => by cases e; simp only [spellKv, Str.length_append]; omega
  | (x, y) :: xs, i + 1, k, d, e => by
    have := spellKv_get (D := xs) (by simpa using e)
    simp only [spellKv, Str.length_append]; omega
  | [], _, _, _, e => by simp at e
theorem num_log {n : Nat} (h : n ≤ 10000) : ((n : Nat) : Int).natAbs.log2 < 1920 := by
  rw [Int.natAbs_natCast]
  by_cases z : n = 0
  · rw [z]; decide
  · exact (Nat.log2_lt z).mpr (Nat.lt_of_le_of_lt h (by decide +kernel))


/-- signs of ASCII alone -/
def asc (x : Str) : Bool := x.cps.toList.all (· < 128)
theorem asc_app {x y : Str} (h1 : asc x = true) (h2 : asc y = true) : asc (x ++ y) = true := by
  unfold asc at *
  simp only [Str.cps_append, Array.toList_append, List.all_append, h1, h2, Bool.and_self]
/-! the values that the law draws, and what is put together of them -/
def keyB : PyData → Bool
  | .str x => decide (x.length ≤ 4) && asc x
  | _ => false
mutual
def smB : PyData → Bool
  | .none => true
  | .bool _ => true
  | .int i => decide (i.natAbs < 10 ^ 100)
  | .str x => decide (x.length ≤ 8) && asc x
  | .list ds => decide (ds.length ≤ 3) && smAll ds
  | .tuple ds => decide (ds.length ≤ 3) && smAll ds
  | .dict D => decide (D.length ≤ 3) && smKv D
def smAll : List PyData → Bool
  | [] => true
  | d :: ds => smB d && smAll ds
def smKv : List (PyData × PyData) → Bool
  | [] => true
  | (k, d) :: r => keyB k && smB d && smKv r
end
/-! ### lengths of texts -/
def W : Nat → Nat
  | 0 => 130
  | n + 1 => 30 + 4 * (W n + 30)
theorem W_lo : ∀ n, 130 ≤ W n
  | 0 => Nat.le_refl _
  | n + 1 => by have := W_lo n; simp only [W]; omega
theorem num_len {n : Nat} (h : n ≤ 10000) : (num n).length ≤ 5 := by
  unfold num
  rw [ofString_length]
  exact (Nat.length_repr_le_iff (n := n) (by decide)).mpr (by omega)
theorem key_spell {k : PyData} (h : keyB k = true) : (spell k).length ≤ 20 := by
  cases k with
  | str x =>
    simp only [keyB, Bool.and_eq_true, decide_eq_true_eq] at h
    simp only [spell, Str.length_append]
    have := num_len (n := x.length) (by omega)
    have e1 : ((("s" : Str)).length) = 1 := by decide +kernel
    have e2 : (((":" : Str)).length) = 1 := by decide +kernel
    omega
  | _ => cases h
theorem one_len (c : String) (h : (Str.ofString c).length = 1 := by decide +kernel) : (Str.ofString c).length = 1 := h
mutual
theorem spell_le : ∀ (d : PyData) (n : Nat), smB d = true → d.depth ≤ n → (spell d).length ≤ W n
  | .none, n, _, _ => by
    have := W_lo n
    have e : (spell .none).length = 1 := by decide +kernel
    omega
  | .bool b, n, _, _ => by
    have := W_lo n
    have e : (spell (.bool b)).length = 1 := by cases b <;> decide +kernel
    omega
  | .int i, n, h, _ => by
    have := W_lo n
    simp only [smB, decide_eq_true_eq] at h
    have hl := int_text_length_le10 (a := i) (k := 100) (by decide) h
    simp only [spell, Str.length_append, ofString_length]
    have e1 : ("i" : String).length = 1 := rfl
    have e2 : (";" : String).length = 1 := rfl
    omega
  | .str x, n, h, _ => by
    have := W_lo n
    simp only [smB, Bool.and_eq_true, decide_eq_true_eq] at h
    have hl := num_len (n := x.length) (by omega)
    simp only [spell, Str.length_append, ofString_length]
    have e1 : ("s" : String).length = 1 := rfl
    have e2 : (":" : String).length = 1 := rfl
    omega
  | .list ds, 0, _, hd => by simp only [PyData.depth] at hd; omega
  | .list ds, n + 1, h, hd => by
    simp only [smB, Bool.and_eq_true, decide_eq_true_eq] at h
    have hl := num_len (n := ds.length) (by omega)
    have hs := spells_le ds n h.2 (by simp only [PyData.depth] at hd; omega)
    have := W_lo n
    simp only [spell, Str.length_append, ofString_length, W]
    have e1 : ("l" : String).length = 1 := rfl
    have e2 : (":" : String).length = 1 := rfl
    have : ds.length * W n ≤ 3 * W n := Nat.mul_le_mul_right _ h.1
    omega
  | .tuple ds, 0, _, hd => by simp only [PyData.depth] at hd; omega
  | .tuple ds, n + 1, h, hd => by
    simp only [smB, Bool.and_eq_true, decide_eq_true_eq] at h
    have hl := num_len (n := ds.length) (by omega)
    have hs := spells_le ds n h.2 (by simp only [PyData.depth] at hd; omega)
    have := W_lo n
    simp only [spell, Str.length_append, ofString_length, W]
    have e1 : ("u" : String).length = 1 := rfl
    have e2 : (":" : String).length = 1 := rfl
    have : ds.length * W n ≤ 3 * W n := Nat.mul_le_mul_right _ h.1
    omega
  | .dict D, 0, _, hd => by simp only [PyData.depth] at hd; omega
  | .dict D, n + 1, h, hd => by
    simp only [smB, Bool.and_eq_true, decide_eq_true_eq] at h
    have hl := num_len (n := D.length) (by omega)
    have hs := spellKv_le D n h.2 (by simp only [PyData.depth] at hd; omega)
    simp only [spell, Str.length_append, ofString_length, W]
    have e1 : ("d" : String).length = 1 := rfl
    have e2 : (":" : String).length = 1 := rfl
    have : D.length * (W n + 20) ≤ 3 * (W n + 20) := Nat.mul_le_mul_right _ h.1
    omega
theorem spells_le : ∀ (ds : List PyData) (n : Nat), smAll ds = true → PyData.depthAll ds ≤ n → (spells ds).length ≤ ds.length * W n
  | [], n, _, _ => by simp [spells]; rfl
  | d :: ds, n, h, hd => by
    simp only [smAll, Bool.and_eq_true] at h
    simp only [PyData.depthAll] at hd
    have h1 := spell_le d n h.1 (by omega)
    have h2 := spells_le ds n h.2 (by omega)
    simp only [spells, Str.length_append, List.length_cons, Nat.add_mul]
    omega
theorem spellKv_le : ∀ (D : List (PyData × PyData)) (n : Nat), smKv D = true → PyData.depthKv D ≤ n → (spellKv D).length ≤ D.length * (W n + 20)
  | [], n, _, _ => by simp [spellKv]; rfl
  | (k, d) :: r, n, h, hd => by
    simp only [smKv, Bool.and_eq_true] at h
    simp only [PyData.depthKv] at hd
    have h0 := key_spell h.1.1
    have h1 := spell_le d n h.1.2 (by omega)
    have h2 := spellKv_le r n h.2 (by omega)
    simp only [spellKv, Str.length_append, List.length_cons, Nat.add_mul]
    omega
end
/-! ### lengths of what repr shows, and what shaking does -/
def gkeyB : PyData → Bool
  | .str x => decide (x.length ≤ 6) && asc x
  | _ => false
mutual
/-- a little wider: shaken values too -/
def gB : PyData → Bool
  | .none => true
  | .bool _ => true
  | .int i => decide (i.natAbs < 10 ^ 100)
  | .str x => decide (x.length ≤ 8) && asc x
  | .list ds => decide (ds.length ≤ 4) && gAll ds
  | .tuple ds => decide (ds.length ≤ 4) && gAll ds
  | .dict D => decide (D.length ≤ 4) && gKv D
def gAll : List PyData → Bool
  | [] => true
  | d :: ds => gB d && gAll ds
def gKv : List (PyData × PyData) → Bool
  | [] => true
  | (k, d) :: r => gkeyB k && gB d && gKv r
end
mutual
/-- the value with all its lists and dicts changed -/
def shk : PyData → PyData
  | .list ds => .list (shkAll ds ++ [.str "shaken"])
  | .tuple ds => .tuple (shkAll ds)
  | .dict D => .dict (shkKv D ++ [(.str "shaken", .int 1)])
  | .none => .none
  | .bool b => .bool b
  | .int i => .int i
  | .str x => .str x
def shkAll : List PyData → List PyData
  | [] => []
  | d :: ds => shk d :: shkAll ds
def shkKv : List (PyData × PyData) → List (PyData × PyData)
  | [] => []
  | (k, d) :: r => (k, shk d) :: shkKv r
end
mutual
/-- has it lists or dicts -/
def hm : PyData → Bool
  | .list _ => true
  | .dict _ => true
  | .tuple ds => hmAll ds
  | _ => false
def hmAll : List PyData → Bool
  | [] => false
  | d :: ds => hm d || hmAll ds
end
theorem shkAll_len : ∀ ds : List PyData, (shkAll ds).length = ds.length
  | [] => rfl
  | d :: ds => by simp [shkAll, shkAll_len ds]
theorem shkKv_len : ∀ ds : List (PyData × PyData), (shkKv ds).length = ds.length
  | [] => rfl
  | (k, d) :: ds => by simp [shkKv, shkKv_len ds]
theorem gAll_app : ∀ {a b : List PyData}, gAll a = true → gAll b = true → gAll (a ++ b) = true
  | [], _, _, h => h
  | x :: a, b, h1, h2 => by
    simp only [gAll, Bool.and_eq_true] at h1
    simp only [List.cons_append, gAll, Bool.and_eq_true]
    exact ⟨h1.1, gAll_app h1.2 h2⟩
theorem gKv_app : ∀ {a b : List (PyData × PyData)}, gKv a = true → gKv b = true → gKv (a ++ b) = true
  | [], _, _, h => h
  | (k, x) :: a, b, h1, h2 => by
    simp only [gKv, Bool.and_eq_true] at h1
    simp only [List.cons_append, gKv, Bool.and_eq_true]
    exact ⟨h1.1, gKv_app h1.2 h2⟩
mutual
theorem g_of : ∀ d : PyData, smB d = true → gB d = true ∧ gB (shk d) = true
  | .none, _ => ⟨rfl, rfl⟩
  | .bool _, _ => ⟨rfl, rfl⟩
  | .int i, h => by simp only [smB] at h; simp only [shk, gB]; exact ⟨h, h⟩
  | .str x, h => by simp only [smB] at h; simp only [shk, gB]; exact ⟨h, h⟩
  | .list ds, h => by
    simp only [smB, Bool.and_eq_true, decide_eq_true_eq] at h
    obtain ⟨h1, h2⟩ := gAll_of ds h.2
    simp only [gB, shk, Bool.and_eq_true, decide_eq_true_eq, List.length_append, shkAll_len]
    exact ⟨⟨by omega, h1⟩, by simp; omega, gAll_app h2 (by decide +kernel)⟩
  | .tuple ds, h => by
    simp only [smB, Bool.and_eq_true, decide_eq_true_eq] at h
    obtain ⟨h1, h2⟩ := gAll_of ds h.2
    simp only [gB, shk, Bool.and_eq_true, decide_eq_true_eq, shkAll_len]
    exact ⟨⟨by omega, h1⟩, by omega, h2⟩
  | .dict D, h => by
    simp only [smB, Bool.and_eq_true, decide_eq_true_eq] at h
    obtain ⟨h1, h2⟩ := gKv_of D h.2
    simp only [gB, shk, Bool.and_eq_true, decide_eq_true_eq, List.length_append, shkKv_len]
    exact ⟨⟨by omega, h1⟩, by simp; omega, gKv_app h2 (by decide +kernel)⟩
theorem gAll_of : ∀ ds : List PyData, smAll ds = true → gAll ds = true ∧ gAll (shkAll ds) = true
  | [], _ => ⟨rfl, rfl⟩
  | d :: ds, h => by
    simp only [smAll, Bool.and_eq_true] at h
    have h1 := g_of d h.1
    have h2 := gAll_of ds h.2
    simp only [gAll, shkAll, Bool.and_eq_true]
    exact ⟨⟨h1.1, h2.1⟩, h1.2, h2.2⟩
theorem gKv_of : ∀ D : List (PyData × PyData), smKv D = true → gKv D = true ∧ gKv (shkKv D) = true
  | [], _ => ⟨rfl, rfl⟩
  | (k, d) :: r, h => by
    simp only [smKv, Bool.and_eq_true] at h
    have h1 := g_of d h.1.2
    have h2 := gKv_of r h.2
    have h0 : gkeyB k = true := by
      cases k with
      | str x =>
        have := h.1.1
        simp only [keyB, Bool.and_eq_true, decide_eq_true_eq] at this
        simp only [gkeyB, Bool.and_eq_true, decide_eq_true_eq]
        exact ⟨by omega, this.2⟩
      | _ => cases h.1.1
    simp only [gKv, shkKv, Bool.and_eq_true]
    exact ⟨⟨⟨h0, h1.1⟩, h2.1⟩, ⟨h0, h1.2⟩, h2.2⟩
end
mutual
theorem shk_depth : ∀ d : PyData, (shk d).depth = d.depth
  | .none => rfl
  | .bool _ => rfl
  | .int _ => rfl
  | .str _ => rfl
  | .list ds => by
    simp only [shk, PyData.depth]
    have : ∀ (a : List PyData), PyData.depthAll (a ++ [.str "shaken"]) = PyData.depthAll a := fun a => by
      induction a with
      | nil => rfl
      | cons x a ih => simp only [List.cons_append, PyData.depthAll, ih]
    rw [this, shkAll_depth]
  | .tuple ds => by simp only [shk, PyData.depth, shkAll_depth]
  | .dict D => by
    simp only [shk, PyData.depth]
    have : ∀ (a : List (PyData × PyData)), PyData.depthKv (a ++ [(.str "shaken", .int 1)]) = PyData.depthKv a := fun a => by
      induction a with
      | nil => rfl
      | cons x a ih => obtain ⟨x1, x2⟩ := x; simp only [List.cons_append, PyData.depthKv, ih]
    rw [this, shkKv_depth]
theorem shkAll_depth : ∀ ds : List PyData, PyData.depthAll (shkAll ds) = PyData.depthAll ds
  | [] => rfl
  | d :: ds => by simp only [shkAll, PyData.depthAll, shk_depth d, shkAll_depth ds]
theorem shkKv_depth : ∀ D : List (PyData × PyData), PyData.depthKv (shkKv D) = PyData.depthKv D
  | [] => rfl
  | (k, d) :: r => by simp only [shkKv, PyData.depthKv, shk_depth d, shkKv_depth r]
end


theorem rep_len {x : Str} {n : Nat} (h : asc x = true) (hn : x.length ≤ n) : (reprText x).length ≤ 10 * n + 2 := by
  have := StrLaws.reprText_len x fun c hc => by
    have := List.all_eq_true.mp h c hc
    have : c < 128 := by simpa using this
    omega
  omega
def SH : Nat → Nat
  | 0 => 105
  | n + 1 => 10 + 4 * (SH n + 80)
theorem SH_lo : ∀ n, 105 ≤ SH n
  | 0 => Nat.le_refl _
  | n + 1 => by have := SH_lo n; simp only [SH]; omega
theorem ol (c : String) : (Str.ofString c).length = c.length := ofString_length c
mutual
theorem shown_le : ∀ (d : PyData) (n : Nat), gB d = true → d.depth ≤ n → d.shown.length ≤ SH n
  | .none, n, _, _ => by
    have := SH_lo n
    have e : (PyData.none).shown.length = 4 := by decide +kernel
    omega
  | .bool b, n, _, _ => by
    have := SH_lo n
    have e : (PyData.bool b).shown.length ≤ 5 := by cases b <;> decide +kernel
    omega
  | .int i, n, h, _ => by
    have := SH_lo n
    simp only [gB, decide_eq_true_eq] at h
    have hl := int_text_length_le10 (a := i) (k := 100) (by decide) h
    rw [PyData.shown_int, ofString_length]
    omega
  | .str x, n, h, _ => by
    have := SH_lo n
    simp only [gB, Bool.and_eq_true, decide_eq_true_eq] at h
    rw [PyData.shown_str]
    have := rep_len h.2 h.1
    omega
  | .list ds, 0, _, hd => by simp only [PyData.depth] at hd; omega
  | .list ds, n + 1, h, hd => by
    simp only [gB, Bool.and_eq_true, decide_eq_true_eq] at h
    have hs := shownAll_le ds n h.2 (by simp only [PyData.depth] at hd; omega)
    have hj := join_len_le 4 (SH n) (PyData.shownAll ds) (by rw [PyData.shownAll_length]; exact h.1) hs
    rw [PyData.shown_list, Str.length_append, Str.length_append]
    have e1 : ((("[" : String) : Str)).length = 1 := by decide +kernel
    have e2 : ((("]" : String) : Str)).length = 1 := by decide +kernel
    simp only [SH]; omega
  | .tuple ds, 0, _, hd => by simp only [PyData.depth] at hd; omega
  | .tuple ds, n + 1, h, hd => by
    simp only [gB, Bool.and_eq_true, decide_eq_true_eq] at h
    have hs := shownAll_le ds n h.2 (by simp only [PyData.depth] at hd; omega)
    have hj := join_len_le 4 (SH n) (PyData.shownAll ds) (by rw [PyData.shownAll_length]; exact h.1) hs
    rw [PyData.shown_tuple, Str.length_append, Str.length_append]
    have e1 : ((("(" : String) : Str)).length = 1 := by decide +kernel
    have e2 : (Str.ofString (if ds.length == 1 then ",)" else ")" : String)).length ≤ 2 := by split <;> decide +kernel
    simp only [SH]; omega
  | .dict D, 0, _, hd => by simp only [PyData.depth] at hd; omega
  | .dict D, n + 1, h, hd => by
    simp only [gB, Bool.and_eq_true, decide_eq_true_eq] at h
    have hs := shownKv_le D n h.2 (by simp only [PyData.depth] at hd; omega)
    have hj := join_len_le 4 (SH n + 70) (PyData.shownKv D) (by rw [PyData.shownKv_length]; exact h.1) hs
    rw [PyData.shown_dict, Str.length_append, Str.length_append]
    have e1 : ((("{" : String) : Str)).length = 1 := by decide +kernel
    have e2 : ((("}" : String) : Str)).length = 1 := by decide +kernel
    simp only [SH]; omega
theorem shownAll_le : ∀ (ds : List PyData) (n : Nat), gAll ds = true → PyData.depthAll ds ≤ n → ∀ t ∈ PyData.shownAll ds, t.length ≤ SH n
  | [], n, _, _ => by simp [PyData.shownAll]
  | d :: ds, n, h, hd => by
    simp only [gAll, Bool.and_eq_true] at h
    simp only [PyData.depthAll] at hd
    have h1 := shown_le d n h.1 (by omega)
    have h2 := shownAll_le ds n h.2 (by omega)
    intro t ht
    rw [PyData.shownAll_cons] at ht
    rcases List.mem_cons.mp ht with e | e
    · rw [e]; exact h1
    · exact h2 t e
theorem shownKv_le : ∀ (D : List (PyData × PyData)) (n : Nat), gKv D = true → PyData.depthKv D ≤ n → ∀ t ∈ PyData.shownKv D, t.length ≤ SH n + 70
  | [], n, _, _ => by simp [PyData.shownKv]
  | (k, d) :: r, n, h, hd => by
    simp only [gKv, Bool.and_eq_true] at h
    simp only [PyData.depthKv] at hd
    have h1 := shown_le d n h.1.2 (by omega)
    have h2 := shownKv_le r n h.2 (by omega)
    have h0 : k.shown.length ≤ 62 := by
      cases k with
      | str x =>
        have := h.1.1
        simp only [gkeyB, Bool.and_eq_true, decide_eq_true_eq] at this
        rw [PyData.shown_str]
        exact rep_len this.2 this.1
      | _ => cases h.1.1
    intro t ht
    rw [PyData.shownKv_cons] at ht
    rcases List.mem_cons.mp ht with e | e
    · rw [e, Str.length_append, Str.length_append]
      have e1 : (((": " : String) : Str)).length = 2 := by decide +kernel
      omega
    · exact h2 t e
end
mutual
theorem showable_g : ∀ d : PyData, gB d = true → d.showable = true
  | .none, _ => rfl
  | .bool _, _ => rfl
  | .int i, h => by
    simp only [gB, decide_eq_true_eq] at h
    simp only [PyData.showable, decide_eq_true_eq]
    have h2 : i.natAbs < 2 ^ 1920 := Nat.lt_of_lt_of_le h (by decide +kernel)
    by_cases z : i.natAbs = 0
    · rw [z]; decide
    · exact (Nat.log2_lt z).mpr h2
  | .str _, _ => by simp only [PyData.showable]
  | .list ds, h => by simp only [gB, Bool.and_eq_true] at h; simp only [PyData.showable]; exact showableAll_g ds h.2
  | .tuple ds, h => by simp only [gB, Bool.and_eq_true] at h; simp only [PyData.showable]; exact showableAll_g ds h.2
  | .dict D, h => by simp only [gB, Bool.and_eq_true] at h; simp only [PyData.showable]; exact showableKv_g D h.2
theorem showableAll_g : ∀ ds : List PyData, gAll ds = true → PyData.showableAll ds = true
  | [], _ => by simp only [PyData.showableAll]
  | d :: ds, h => by simp only [gAll, Bool.and_eq_true] at h; simp only [PyData.showableAll, Bool.and_eq_true]; exact ⟨showable_g d h.1, showableAll_g ds h.2⟩
theorem showableKv_g : ∀ D : List (PyData × PyData), gKv D = true → PyData.showableKv D = true
  | [], _ => by simp only [PyData.showableKv]
  | (k, d) :: r, h => by
    simp only [gKv, Bool.and_eq_true] at h
    simp only [PyData.showableKv, Bool.and_eq_true]
    refine ⟨⟨?_, showable_g d h.1.2⟩, showableKv_g r h.2⟩
    cases k with
    | str x => simp only [PyData.showable]
    | _ => cases h.1.1
end
/-! ### shaking shows -/
theorem jl_eq (ts : List Str) : (Str.join ", " ts).length = piled ts - 2 := by
  by_cases e : ts = []
  · subst e; rfl
  · have := join_length_add ts e; omega
theorem piled_cons (t : Str) (ts : List Str) : piled (t :: ts) = t.length + 2 + piled ts := by simp [piled]
theorem piled_app (a : List Str) (t : Str) : piled (a ++ [t]) = piled a + (t.length + 2) := by simp [piled]
theorem shownAll_app : ∀ (a b : List PyData), PyData.shownAll (a ++ b) = PyData.shownAll a ++ PyData.shownAll b
  | [], b => by simp [PyData.shownAll]
  | x :: a, b => by simp [PyData.shownAll, shownAll_app a b]
theorem shownKv_app : ∀ (a b : List (PyData × PyData)), PyData.shownKv (a ++ b) = PyData.shownKv a ++ PyData.shownKv b
  | [], b => by simp [PyData.shownKv]
  | (x, y) :: a, b => by simp [PyData.shownKv, shownKv_app a b]
mutual
theorem grow : ∀ d : PyData, d.shown.length ≤ (shk d).shown.length ∧ (hm d = true → d.shown.length < (shk d).shown.length)
  | .none => ⟨Nat.le_refl _, nofun⟩
  | .bool _ => ⟨Nat.le_refl _, nofun⟩
  | .int _ => ⟨Nat.le_refl _, nofun⟩
  | .str _ => ⟨Nat.le_refl _, nofun⟩
  | .list ds => by
    have h := growAll ds
    have e1 : (PyData.list ds).shown.length = 2 + (piled (PyData.shownAll ds) - 2) := by
      rw [PyData.shown_list, Str.length_append, Str.length_append, jl_eq]
      have a1 : ((("[" : String) : Str)).length = 1 := by decide +kernel
      have a2 : ((("]" : String) : Str)).length = 1 := by decide +kernel
      omega
    have e2 : (shk (PyData.list ds)).shown.length = 2 + (piled (PyData.shownAll (shkAll ds)) + 10 - 2) := by
      simp only [shk]
      rw [PyData.shown_list, Str.length_append, Str.length_append, jl_eq, shownAll_app]
      have a1 : ((("[" : String) : Str)).length = 1 := by decide +kernel
      have a2 : ((("]" : String) : Str)).length = 1 := by decide +kernel
      have a3 : PyData.shownAll [.str "shaken"] = [reprText "shaken"] := by simp [PyData.shownAll, PyData.shown]
      have a4 : (reprText ("shaken" : Str)).length = 8 := by decide +kernel
      rw [a3, piled_app, a4]
      omega
    omega
  | .tuple ds => by
    have h := growAll ds
    have e : ∀ xs : List PyData, xs.length = ds.length → (PyData.tuple xs).shown.length = 1 + (piled (PyData.shownAll xs) - 2) + (Str.ofString (if ds.length == 1 then ",)" else ")" : String)).length := fun xs hx => by
      rw [PyData.shown_tuple, Str.length_append, Str.length_append, jl_eq, hx]
      have a1 : ((("(" : String) : Str)).length = 1 := by decide +kernel
      omega
    simp only [shk]
    rw [e ds rfl, e (shkAll ds) (shkAll_len ds)]
    refine ⟨by omega, fun hh => ?_⟩
    have h2 := h.2 hh
    have h3 : 2 ≤ piled (PyData.shownAll ds) := by
      cases ds with
      | nil => cases hh
      | cons d ds => rw [PyData.shownAll_cons, piled_cons]; omega
    omega
  | .dict D => by
    have h := growKv D
    have e1 : (PyData.dict D).shown.length = 2 + (piled (PyData.shownKv D) - 2) := by
      rw [PyData.shown_dict, Str.length_append, Str.length_append, jl_eq]
      have a1 : ((("{" : String) : Str)).length = 1 := by decide +kernel
      have a2 : ((("}" : String) : Str)).length = 1 := by decide +kernel
      omega
    have e2 : (shk (PyData.dict D)).shown.length = 2 + (piled (PyData.shownKv (shkKv D)) + 13 - 2) := by
      simp only [shk]
      rw [PyData.shown_dict, Str.length_append, Str.length_append, jl_eq, shownKv_app]
      have a1 : ((("{" : String) : Str)).length = 1 := by decide +kernel
      have a2 : ((("}" : String) : Str)).length = 1 := by decide +kernel
      have a3 : PyData.shownKv [(.str "shaken", .int 1)] = [reprText "shaken" ++ ": " ++ "1"] := by
        rw [PyData.shownKv_cons, PyData.shownKv_nil, PyData.shown_str, PyData.shown_int]; rfl
      have a4 : (reprText ("shaken" : Str) ++ ": " ++ "1").length = 11 := by decide +kernel
      rw [a3, piled_app, a4]
      omega
    omega
theorem growAll : ∀ ds : List PyData, piled (PyData.shownAll ds) ≤ piled (PyData.shownAll (shkAll ds)) ∧ (hmAll ds = true → piled (PyData.shownAll ds) < piled (PyData.shownAll (shkAll ds)))
  | [] => ⟨Nat.le_refl _, nofun⟩
  | d :: ds => by
    have h1 := grow d
    have h2 := growAll ds
    simp only [shkAll, PyData.shownAll_cons, piled_cons, hmAll, Bool.or_eq_true]
    refine ⟨by omega, fun h => ?_⟩
    rcases h with h | h
    · have := h1.2 h; omega
    · have := h2.2 h; omega
theorem growKv : ∀ D : List (PyData × PyData), piled (PyData.shownKv D) ≤ piled (PyData.shownKv (shkKv D))
  | [] => Nat.le_refl _
  | (k, d) :: r => by
    have h1 := grow d
    have h2 := growKv r
    simp only [shkKv, PyData.shownKv_cons, piled_cons, Str.length_append]
    omega
end
mutual
theorem still : ∀ d : PyData, hm d = false → shk d = d
  | .none, _ => rfl
  | .bool _, _ => rfl
  | .int _, _ => rfl
  | .str _, _ => rfl
  | .list _, h => by simp [hm] at h
  | .dict _, h => by simp [hm] at h
  | .tuple ds, h => by simp only [hm] at h; simp only [shk, stillAll ds h]
theorem stillAll : ∀ ds : List PyData, hmAll ds = false → shkAll ds = ds
  | [], _ => rfl
  | d :: ds, h => by
    simp only [hmAll, Bool.or_eq_false_iff] at h
    simp only [shkAll, still d h.1, stillAll ds h.2]
end
theorem shown_ne {d : PyData} : ((shk d).shown = d.shown) ↔ hm d = false := by
  constructor
  · intro e
    cases h : hm d with
    | false => rfl
    | true => have := (grow d).2 h; rw [e] at this; omega
  · intro h; rw [still d h]


local macro_rules | `(tactic| walk_at "sx") => `(tactic| simp only [tRet, tRetN, tSeq, C8.tCut, tNext, tAsg, gName, gNil, gCons, gTup, gFld, tIfS, tIf, tAndV, tOrV, tNotV, tAnd, tOr, tNot, tB, tTest, tOp, tUn, tCB, tCons, tNil, tVar, tC, tChain, tDrop, tCallG, tMethG, tMakeG, RS.tCallK, RS.tMakeK, tEqOwn, rI, rI0, rU, add_ii, add_ss, add_rr, mul_ii, mul_si, mul_ri, RS.eq_ii, RS.eq_ss, eq_bb, eq_nn, eq_sn, eq_ns, eq_in, eq_ni, eq_bn, eq_nb, eq_is, eq_si, eq_rr, ne_ii, ne_ss, ne_bb, ne_nn, ne_sn, ne_ns, ne_in, ne_ni, ne_is, ne_si, ne_rr, in_ss, in_r, nin_ss, nin_r, len_s, len_r, RS.ix_s, RS.ix_r, sl_s, sl_r, is_eq, tyN_n, tyN_b, tyN_i, tyN_s, tru_b, tru_i, tru_n, tSl, tPart, tNoPart, tPar, tPar3, tFmtZ, tFmt, tJs, tDGet, sDPut, sFld, tFld, tTup, tLst, tNever, isB,
  L2.start, List.map_cons, List.map_nil, List.length_cons, List.length_nil, Nat.reduceAdd, Nat.reduceSub, Nat.sub_self, List.replicate_zero, List.replicate_succ, List.append_nil, List.cons_append, List.nil_append, List.getElem?_cons_zero, List.getElem?_cons_succ, List.set_cons_zero, List.set_cons_succ, Option.some.injEq, exists_eq_left, exists_eq_left', exists_and_left, V.bl.injEq, V.int.injEq, V.str.injEq, V.ref.injEq, beq_self_eq_true, Bool.true_or, Bool.or_true, Bool.false_or, Bool.or_false, Bool.and_false, Bool.false_and, Bool.true_and, Bool.and_true, Bool.not_true, Bool.not_false, Bool.false_eq_true, if_true, if_false, ite_true, ite_false, true_and, and_true, and_assoc, String.reduceBEq, String.reduceEq, reduceIte, Bool.and_self, reduceCtorEq, false_and, and_false, exists_false, or_false, false_or, exists_const, iEnumS, iStr, iList, iTup, iRng1, iEnum, tFor_eq, tLc_eq, List.cons.injEq, wipe, not_true_eq_false, not_false_eq_true, upd_same, HO.ins.injEq, HO.tup.injEq, HO.lst.injEq, ofS_eq, lk_nil, lk_cons, pu_nil, pu_cons, sizeLine_eq, Nat.reduceLT, Nat.reduceLeDiff, Nat.reduceEqDiff, Nat.le_refl, decide_true, decide_false, tPr, dget_us, dput_us, vv_nil, vv_cons, RS.pk_nil, pk_one, RS.pk_cons, inr_eq, tDisp, tPairs, tBoolOwn, rBoolOwn, tBM, rAppend, ty_list, ty_str, rEqOwn, iEnumT, RS.tCallS, tM1, tDc_eq, tLock, tLockE, iKeys, tListEnum, rUpdate, tMkX0, tMkX1, tXfv, gSub, rSetL, List.getD_cons_zero, List.getD_cons_succ])
theorem lit_0 : (Str.ofString "recordshelf.errors") = SX.S [114, 101, 99, 111, 114, 100, 115, 104, 101, 108, 102, 46, 101, 114, 114, 111, 114, 115] := by decide +kernel
theorem lit_1 : (Str.ofString "recordshelf.values") = SX.S [114, 101, 99, 111, 114, 100, 115, 104, 101, 108, 102, 46, 118, 97, 108, 117, 101, 115] := by decide +kernel
theorem lit_2 : (Str.ofString "0123456789") = SX.S [48, 49, 50, 51, 52, 53, 54, 55, 56, 57] := by decide +kernel
theorem lit_3 : (Str.ofString "law_recordshelf_k04_whole_texts_there_and_ba") = SX.S [108, 97, 119, 95, 114, 101, 99, 111, 114, 100, 115, 104, 101, 108, 102, 95, 107, 48, 52, 95, 119, 104, 111, 108, 101, 95, 116, 101, 120, 116, 115, 95, 116, 104, 101, 114, 101, 95, 97, 110, 100, 95, 98, 97] := by decide +kernel
theorem lit_n : (Str.ofString "n") = SX.S [110] := by decide +kernel
theorem lit_d : (Str.ofString "d") = SX.S [100] := by decide +kernel
theorem lit_6 : (Str.ofString ":") = SX.S [58] := by decide +kernel
theorem lit_7 : (Str.ofString "") = SX.S [] := by decide +kernel
theorem lit_a : (Str.ofString "a") = SX.S [97] := by decide +kernel
theorem lit_b : (Str.ofString "b") = SX.S [98] := by decide +kernel
theorem lit_10 : (Str.ofString "s1:a") = SX.S [115, 49, 58, 97] := by decide +kernel
theorem lit_11 : (Str.ofString "i5;") = SX.S [105, 53, 59] := by decide +kernel
theorem lit_12 : (Str.ofString "l0:") = SX.S [108, 48, 58] := by decide +kernel
theorem lit_13 : (Str.ofString ";") = SX.S [59] := by decide +kernel
theorem lit_14 : (Str.ofString "0") = SX.S [48] := by decide +kernel
theorem lit_15 : (Str.ofString "\n") = SX.S [10] := by decide +kernel
theorem lit_16 : (Str.ofString "ab c") = SX.S [97, 98, 32, 99] := by decide +kernel
theorem lit_17 : (Str.ofString "\"") = SX.S [34] := by decide +kernel
theorem lit_18 : (Str.ofString "d1:") = SX.S [100, 49, 58] := by decide +kernel
theorem lit_19 : (Str.ofString "not a value") = SX.S [110, 111, 116, 32, 97, 32, 118, 97, 108, 117, 101] := by decide +kernel
theorem lit_20 : (Str.ofString "not a text of the expected form") = SX.S [110, 111, 116, 32, 97, 32, 116, 101, 120, 116, 32, 111, 102, 32, 116, 104, 101, 32, 101, 120, 112, 101, 99, 116, 101, 100, 32, 102, 111, 114, 109] := by decide +kernel
theorem lit_t : (Str.ofString "t") = SX.S [116] := by decide +kernel
theorem lit_f : (Str.ofString "f") = SX.S [102] := by decide +kernel
theorem lit_i : (Str.ofString "i") = SX.S [105] := by decide +kernel
theorem lit_s : (Str.ofString "s") = SX.S [115] := by decide +kernel
theorem lit_l : (Str.ofString "l") = SX.S [108] := by decide +kernel
theorem lit_u : (Str.ofString "u") = SX.S [117] := by decide +kernel
theorem lit_27 : (Str.ofString "-") = SX.S [45] := by decide +kernel
theorem lit_28 : (Str.ofString "k 1") = SX.S [107, 32, 49] := by decide +kernel
theorem lit_29 : (Str.ofString "1") = SX.S [49] := by decide +kernel
theorem lit_lud : (Str.ofString "lud") = SX.S [108, 117, 100] := by decide +kernel
theorem lit_ntfislud : (Str.ofString "ntfislud") = SX.S [110, 116, 102, 105, 115, 108, 117, 100] := by decide +kernel
theorem lit_x : (Str.ofString "x") = SX.S [120] := by decide +kernel
theorem lit_33 : (Str.ofString "10:") = SX.S [49, 48, 58] := by decide +kernel
theorem lit_34 : (Str.ofString " ") = SX.S [32] := by decide +kernel
theorem lit_35 : (Str.ofString "i1;") = SX.S [105, 49, 59] := by decide +kernel
local macro_rules | `(tactic| walk_at "lt") => `(tactic| simp only [lit_0, lit_1, lit_2, lit_3, lit_n, lit_d, lit_6, lit_7, lit_a, lit_b, lit_10, lit_11, lit_12, lit_13, lit_14, lit_15, lit_16, lit_17, lit_18, lit_19, lit_20, lit_t, lit_f, lit_i, lit_s, lit_l, lit_u, lit_27, lit_28, lit_29, lit_lud, lit_ntfislud, lit_x, lit_33, lit_34, lit_35])
def top (i : Nat) : Stmt := PySem.Challenge.pw_recordshelf_k04_whole_texts_there_and_ba.main.body.getD i (.Pass ⟨0, 0, 0, 0⟩)
abbrev s_InvalidValue__init : Stmt := inClass (top 2) 0
abbrev s_InvalidText__init : Stmt := inClass (top 3) 0
abbrev s_items_of : Stmt := top 9
abbrev s_is_wrong_part : Stmt := top 10
abbrev s_wrong_path : Stmt := top 11
abbrev s_check_value : Stmt := top 12
abbrev s_is_value : Stmt := top 13
abbrev s_spelled : Stmt := top 14
abbrev s_text_of : Stmt := top 15
abbrev s_same : Stmt := top 16
abbrev s_TextReader__init : Stmt := inClass (top 17) 0
abbrev s_TextReader_sign : Stmt := inClass (top 17) 1
abbrev s_TextReader_refuse : Stmt := inClass (top 17) 2
abbrev s_TextReader_read_digits : Stmt := inClass (top 17) 3
abbrev s_TextReader_read_count : Stmt := inClass (top 17) 4
abbrev s_TextReader_read_integer : Stmt := inClass (top 17) 5
abbrev s_TextReader_read_string : Stmt := inClass (top 17) 6
abbrev s_TextReader_read_pairs : Stmt := inClass (top 17) 7
abbrev s_TextReader_read_items : Stmt := inClass (top 17) 8
abbrev s_TextReader_read_part : Stmt := inClass (top 17) 9
abbrev s_TextReader_is_done : Stmt := inClass (top 17) 10
abbrev s_check_string : Stmt := top 18
abbrev s_value_of : Stmt := top 19
abbrev s_first_wrong : Stmt := top 20
abbrev s_is_text : Stmt := top 21
abbrev s_l_mixed : Stmt := top 23
abbrev s_l_stream : Stmt := top 24
abbrev s_l_draw : Stmt := top 25
abbrev s_l_pick : Stmt := top 26
abbrev s_l_word : Stmt := top 27
abbrev s_l_plain : Stmt := top 28
abbrev s_l_value : Stmt := top 29
abbrev s_l_pairs : Stmt := top 30
abbrev s_l_parts : Stmt := top 31
abbrev s_l_put : Stmt := top 32
abbrev s_l_text_right : Stmt := top 33
abbrev s_l_pair_right : Stmt := top 34
abbrev s_law : Stmt := top 35
theorem bb_dict : bootBuiltins "dict" = some (.type "dict") := by decide +kernel
structure Txt (g : Wd) : Prop where
  b_len : g.mg "len" = none
  b_isinstance : g.mg "isinstance" = none
  b_repr : g.mg "repr" = none
  b_enumerate : g.mg "enumerate" = none
  b_range : g.mg "range" = none
  b_list : g.mg "list" = none
  b_tuple : g.mg "tuple" = none
  b_dict : g.mg "dict" = none
  b_bool : g.mg "bool" = none
  b_int : g.mg "int" = none
  b_str : g.mg "str" = none
  b_abs : g.mg "abs" = none
  b_all : g.mg "all" = none
  nd : PySem.W.nsIn g.K cStatics "sys.int_max_str_digits" = some none
  c_MOST_DIGITS : Gv g "MOST_DIGITS" (.int 100)
  c_MOST_ITEMS : Gv g "MOST_ITEMS" (.int 10000)
  c_MOST_LEVELS : Gv g "MOST_LEVELS" (.int 20)
/-! what the program takes for a value, but for its levels -/
mutual
def okB : PyData → Bool
  | .none => true
  | .bool _ => true
  | .int i => decide (i.natAbs < 10 ^ 100)
  | .str x => decide (x.length ≤ 10000)
  | .list ds => decide (ds.length ≤ 10000) && okAll ds
  | .tuple ds => decide (ds.length ≤ 10000) && okAll ds
  | .dict D => decide (D.length ≤ 10000) && okKv D
def okAll : List PyData → Bool
  | [] => true
  | d :: ds => okB d && okAll ds
def okKv : List (PyData × PyData) → Bool
  | [] => true
  | (k, d) :: r => okB k && okB d && okKv r
end
theorem okAll_get : ∀ {ds : List PyData} {i : Nat} {d : PyData}, okAll ds = true → ds[i]? = some d → okB d = true
  | x :: xs, 0, d, h, e => by
    cases e
    simp only [okAll, Bool.and_eq_true] at h
    exact h.1
  | x :: xs, i + 1, d, h, e => by
    simp only [okAll, Bool.and_eq_true] at h
    exact okAll_get h.2 (by simpa using e)
  | [], _, _, _, e => by simp at e
theorem okKv_get : ∀ {D : List (PyData × PyData)} {i : Nat} {k d : PyData}, okKv D = true → D[i]? = some (k, d) → okB k = true ∧ okB d = true
  | (x, y) :: xs, 0, k, d, h, e => by
    cases e
    simp only [okKv, Bool.and_eq_true] at h
    exact h.1
  | (x, y) :: xs, i + 1, k, d, h, e => by
    simp only [okKv, Bool.and_eq_true] at h
    exact okKv_get h.2 (by simpa using e)
  | [], _, _, _, _, e => by simp at e
/-- the pairs of steps and items -/
def idx (xs : List V) : List (V × V) := (List.range xs.length).map fun j => (.int (j : Nat), xs[j]?.getD .non)
def prs (H : Hp) : V → List (V × V)
  | .ref a => match H a with
    | some (.lst xs) => idx xs
    | some (.tup xs) => idx xs
    | some (.dK kvs) => kvs.map fun kv => (kV kv.1, kv.2)
    | _ => []
  | _ => []
/-- tuples of these pairs -/
def Prd (H : Hp) (ts : List V) (ps : List (V × V)) : Prop := ts.length = ps.length ∧ ∀ (j : Nat) (s x : V), ps[j]? = some (s, x) → ∃ t : Addr, ts[j]? = some (.ref t) ∧ H t = some (.tup [s, x])
theorem Prd.snoc {H H' : Hp} {ts : List V} {ps : List (V × V)} {t : Addr} {s x : V} (h : Prd H ts ps) (sm : Same H H') (ht : H' t = some (.tup [s, x])) : Prd H' (ts ++ [.ref t]) (ps ++ [(s, x)]) := by
  refine ⟨by simp [h.1], fun j s' x' hj => ?_⟩
  by_cases lt : j < ps.length
  · rw [List.getElem?_append_left lt] at hj
    obtain ⟨t', h1, h2⟩ := h.2 j s' x' hj
    exact ⟨t', by rw [List.getElem?_append_left (by rw [h.1]; exact lt)]; exact h1, sm _ _ h2⟩
  · rw [List.getElem?_append_right (by omega)] at hj
    have e : j - ps.length = 0 := by
      cases hh : j - ps.length with
      | zero => rfl
      | succ n => rw [hh] at hj; simp at hj
    rw [e] at hj
    cases hj
    exact ⟨t, by rw [List.getElem?_append_right (by rw [h.1]; omega), h.1, e]; rfl, ht⟩
theorem Prd.tups {H H' : Hp} {ts : List V} {ps : List (V × V)} (h : Prd H ts ps) (k : ∀ t xs, H t = some (.tup xs) → H' t = some (.tup xs)) : Prd H' ts ps :=
  ⟨h.1, fun j s x hj => by obtain ⟨t, h1, h2⟩ := h.2 j s x hj; exact ⟨t, h1, k _ _ h2⟩⟩
/-- a lock taken off -/
theorem unlock {H G : Hp} {a : Addr} {od : Obj} {u : HO} (h : H a = some u) (s : Same (upd H a (.frz od u)) G) : Same H (upd G a u) := fun b o e => by
  by_cases z : b = a
  · subst z; rw [upd_same, ← e]; exact h.symm
  · rw [upd_ne z]; exact s b o (by rw [upd_ne z]; exact e)
theorem fresh_lock {H : Hp} {a b : Addr} {o : HO} (h : upd H a o b = none) : b ≠ a ∧ H b = none := by
  by_cases z : b = a
  · subst z; rw [upd_same] at h; cases h
  · rw [upd_ne z] at h; exact ⟨z, h⟩
theorem idx_get {xs : List V} {j : Nat} {s x : V} (h : (idx xs)[j]? = some (s, x)) : s = .int (j : Nat) ∧ xs[j]? = some x := by
  unfold idx at h
  by_cases lt : j < xs.length
  · simp [lt] at h
    exact ⟨h.1.symm, by simp [lt, ← h.2]⟩
  · simp [lt] at h
theorem idx_len (xs : List V) : (idx xs).length = xs.length := by simp [idx]
section
variable {g : Wd} {f : Addr} {fd : FuncData}
/-- the dict's way -/
theorem dict_pairs {H : Hp} {Q : VK} {a : Addr} {kvs : List (Key × V)} (h : H a = some (.dK kvs)) (nd : (kvs.map (·.1)).Nodup) (hz : kvs.length ≤ sizeLine) (od : Obj)
    (q : ∀ p ts H', Same H H' → H p = none → H' p = some (.lst ts) → Prd H' ts (prs H (.ref a)) → Q (.ref p) H') :
    LcB (Itk a od kvs) (gName 1) tYes (tTup (tCons (tVar 1) (tCons (tDGet (tVar 0) (tVar 1)) tNil))) [1] [some (.ref a), none] (upd H a (.frz od (.dK kvs))) fun v H' => H' a = some (.frz od (.dK kvs)) ∧ Q v (upd H' a (.dK kvs)) := by
  refine lc_invA kvs.length (fun D i acc G => Same (upd H a (.frz od (.dK kvs))) G ∧ Prd G acc ((kvs.map fun kv => (kV kv.1, kv.2)).take i)) hz (fun D hD => ⟨same_upd hD, rfl, by simp⟩) (fun D i acc G hD lt ⟨s, _⟩ => ⟨s _ _ upd_same, lt⟩) (fun D acc G hD ⟨s, _⟩ => ⟨s _ _ upd_same, Nat.le_refl _⟩) (fun D i acc G x G' K hD lt la ⟨s, pr⟩ eD yl k => ?_) (fun D acc G hD ⟨s, pr⟩ eD => ?_)
  · obtain ⟨rfl, k0, v0, hk, rfl⟩ := yl
    have ea : G' a = some (.frz od (.dK kvs)) := s _ _ upd_same
    refine ⟨rfl, ?_⟩
    walk_at "sx"
    refine ⟨v0, .inl ⟨kvs, k0, .inr ⟨od, ea⟩, rfl, (valV_at nd hk).symm⟩, fun t ht => ?_⟩
    have st := same_upd (o := HO.tup [kV k0, v0]) ht
    have Dt : t ≠ D := fun e => by rw [e, eD] at ht; cases ht
    refine k _ _ (st _ _ eD) ⟨fun b o e => ?_, ?_⟩
    · have bD : b ≠ D := fun z => by rw [z, hD] at e; cases e
      rw [upd_ne bD]
      exact st _ _ (s _ _ e)
    · have e1 : (kvs.map fun kv => (kV kv.1, kv.2)).take (i + 1) = (kvs.map fun kv => (kV kv.1, kv.2)).take i ++ [(kV k0, v0)] := by
        rw [List.take_add_one]
        simp [hk]
      rw [e1]
      exact (Prd.snoc pr st upd_same).tups fun t' xs z => by
        have n : t' ≠ D := fun e => by rw [e, st _ _ eD] at z; cases z
        rw [upd_ne n]; exact z
  · have Da := fresh_lock hD
    refine ⟨s _ _ upd_same, q D acc _ (unlock h s) Da.2 (by rw [upd_ne Da.1]; exact eD) ?_⟩
    have e1 : (kvs.map fun kv => (kV kv.1, kv.2)).take kvs.length = prs H (.ref a) := by
      simp only [prs, h]
      exact List.take_of_length_le (by simp)
    rw [← e1]
    exact pr.tups fun t xs z => by
      have ta : t ≠ a := fun e => by rw [e, s _ _ upd_same] at z; cases z
      rw [upd_ne ta]; exact z
theorem sc_items_of : FnScope ["value", "key"] ["value"] (defScope s_items_of) := ⟨rfl, rfl, rfl, by decide +kernel, rfl, by decide +kernel, by decide +kernel⟩
def sp_items : Sp := S1 fun v H Q _ => ∃ d fp, Tr H v d fp ∧ okB d = true ∧ ∀ p ts H', Same H H' → H p = none → H' p = some (.lst ts) → Prd H' ts (prs H v) → Q (.ref p) H'
theorem ok_items (F : Df g.K "items_of" "items_of" s_items_of f fd .none) (T : Txt g) : FnG g 1 f fd ["value"] sp_items := by
  refine F.ok sc_items_of (fun vs H Q E h => S1.len h) (fun cdv A outer s H vs Q E hr h => ?_)
  obtain ⟨v, rfl, d, fp, hv, hok, q⟩ := h
  refine ⟨_, (pss_cons (ps_if (pt_val (pe_callB (c_is "dict") (by rfl) T.b_isinstance bb_isinstance (pa_cons (pv 0) (pa_cons (pe_bltn (v := .ty "dict") rfl T.b_dict bb_dict rfl) pa_nil)))) (pss_one (ps_ret (pe_lock (pe_lc (own := [("key", 1)]) (tt := tYes) rfl sc_items_of.nd (pi_keys (pv 0)) (blkOk_by (own := [("key", 1)]) (N := ["value", "key"]) (sc := defScope s_items_of) (by decide +kernel)) (fun _ _ _ _ _ => (pg_name (i := 1) sc_items_of.nd rfl (.inl rfl))) (fun _ _ _ _ _ => pts_nil) (fun _ _ _ _ _ => (pe_tup (pa_cons (pv 1) (pa_cons (pe_dget (hu_of (Rm.mk hr.room hr.gd).room) (pv 0) (pv 1) (fun _ _ => rfl)) pa_nil)))))))) pss_nil)
      (pss_one (ps_ret (pe_ifExp (pt_val (pe_callB (c_isT ["list", "tuple"]) (by rfl) T.b_isinstance bb_isinstance (pa_cons (pv 0) (pa_cons (pe_tup (pa_cons (pe_bltn (v := .ty "list") rfl T.b_list bb_list rfl) (pa_cons (pe_bltn (v := .ty "tuple") rfl T.b_tuple bb_tuple rfl) pa_nil))) pa_nil)))) (pe_listEnum (K := g.K) T.b_list T.b_enumerate (pa_cons (pv 0) pa_nil)) (pe_lst pa_nil))))), ?_⟩
  walk_at "sx"
  refine ⟨_, hv.ty, ?_⟩
  cases hv with
  | @dct a kvs D fp h hs na nd =>
    rw [if_pos (by simp [kindN])]
    exact ⟨a, _, h, True.intro, fun od => ⟨a, rfl, od, .inl ⟨kvs, upd_same, dict_pairs h nd (by simp only [okB, Bool.and_eq_true, decide_eq_true_eq] at hok; rw [hs.len, sizeLine_eq]; omega) od q⟩⟩⟩
  | @lst a xs ds fp h hs na =>
    rw [if_neg (by simp [kindN])]
    intro p hp
    refine isT_new (Ts := ["list", "tuple"]) (tyN_l h) hp ⟨_, rfl, ?_⟩
    rw [if_pos (by decide)]
    have sp := same_upd (o := HO.tup (["list", "tuple"].map V.ty)) hp
    refine ⟨a, rfl, xs, .inl (SqL.of (sp _ _ h)), fun p2 ts H' s2 n2 e2 l2 k2 => q p2 _ H' (sp.trans s2) (fresh_lock n2).2 e2 ⟨by rw [List.length_map, l2]; simp [prs, h, idx_len], fun j s' x hj => ?_⟩⟩
    have hj' : (idx xs)[j]? = some (s', x) := by simpa [prs, h] using hj
    obtain ⟨rfl, hx⟩ := idx_get hj'
    obtain ⟨t, t1, _, t3⟩ := k2 j x hx
    exact ⟨t, by simp [t1], t3⟩
  | @tup a xs ds fp h hs =>
    rw [if_neg (by simp [kindN])]
    intro p hp
    refine isT_new (Ts := ["list", "tuple"]) (tyN_t h) hp ⟨_, rfl, ?_⟩
    rw [if_pos (by decide)]
    have sp := same_upd (o := HO.tup (["list", "tuple"].map V.ty)) hp
    refine ⟨a, rfl, xs, .inr (SqT.of (sp _ _ h)), fun p2 ts H' s2 n2 e2 l2 k2 => q p2 _ H' (sp.trans s2) (fresh_lock n2).2 e2 ⟨by rw [List.length_map, l2]; simp [prs, h, idx_len], fun j s' x hj => ?_⟩⟩
    have hj' : (idx xs)[j]? = some (s', x) := by simpa [prs, h] using hj
    obtain ⟨rfl, hx⟩ := idx_get hj'
    obtain ⟨t, t1, _, t3⟩ := k2 j x hx
    exact ⟨t, by simp [t1], t3⟩
  | _ =>
    rw [if_neg (by simp [kindN])]
    intro p hp
    refine isT_new (Ts := ["list", "tuple"]) rfl hp ⟨_, rfl, ?_⟩
    rw [if_neg (by decide)]
    exact fun p2 n2 => q p2 _ _ (same_new (same_upd hp) n2) (fresh_lock n2).2 upd_same ⟨rfl, fun j s' x hj => by simp [prs] at hj⟩
theorem sc_l_pairs : FnScope ["_law_worth", "_law_word_here"] ["_law_worth"] (defScope s_l_pairs) := ⟨rfl, rfl, rfl, by decide +kernel, rfl, by decide +kernel, by decide +kernel⟩
theorem ok_pairs (F : Df g.K "_law_pairs" "_law_pairs" s_l_pairs f fd .none) (T : Txt g) : FnG g 1 f fd ["_law_worth"] sp_items := by
  refine F.ok sc_l_pairs (fun vs H Q E h => S1.len h) (fun cdv A outer s H vs Q E hr h => ?_)
  obtain ⟨v, rfl, d, fp, hv, hok, q⟩ := h
  refine ⟨_, (pss_cons (ps_if (pt_val (pe_callB (c_is "dict") (by rfl) T.b_isinstance bb_isinstance (pa_cons (pv 0) (pa_cons (pe_bltn (v := .ty "dict") rfl T.b_dict bb_dict rfl) pa_nil)))) (pss_one (ps_ret (pe_lock (pe_lc (own := [("_law_word_here", 1)]) (tt := tYes) rfl sc_l_pairs.nd (pi_keys (pv 0)) (blkOk_by (own := [("_law_word_here", 1)]) (N := ["_law_worth", "_law_word_here"]) (sc := defScope s_l_pairs) (by decide +kernel)) (fun _ _ _ _ _ => (pg_name (i := 1) sc_l_pairs.nd rfl (.inl rfl))) (fun _ _ _ _ _ => pts_nil) (fun _ _ _ _ _ => (pe_tup (pa_cons (pv 1) (pa_cons (pe_dget (hu_of (Rm.mk hr.room hr.gd).room) (pv 0) (pv 1) (fun _ _ => rfl)) pa_nil)))))))) pss_nil)
      (pss_one (ps_ret (pe_ifExp (pt_val (pe_callB (c_isT ["list", "tuple"]) (by rfl) T.b_isinstance bb_isinstance (pa_cons (pv 0) (pa_cons (pe_tup (pa_cons (pe_bltn (v := .ty "list") rfl T.b_list bb_list rfl) (pa_cons (pe_bltn (v := .ty "tuple") rfl T.b_tuple bb_tuple rfl) pa_nil))) pa_nil)))) (pe_listEnum (K := g.K) T.b_list T.b_enumerate (pa_cons (pv 0) pa_nil)) (pe_lst pa_nil))))), ?_⟩
  walk_at "sx"
  refine ⟨_, hv.ty, ?_⟩
  cases hv with
  | @dct a kvs D fp h hs na nd =>
    rw [if_pos (by simp [kindN])]
    exact ⟨a, _, h, True.intro, fun od => ⟨a, rfl, od, .inl ⟨kvs, upd_same, dict_pairs h nd (by simp only [okB, Bool.and_eq_true, decide_eq_true_eq] at hok; rw [hs.len, sizeLine_eq]; omega) od q⟩⟩⟩
  | @lst a xs ds fp h hs na =>
    rw [if_neg (by simp [kindN])]
    intro p hp
    refine isT_new (Ts := ["list", "tuple"]) (tyN_l h) hp ⟨_, rfl, ?_⟩
    rw [if_pos (by decide)]
    have sp := same_upd (o := HO.tup (["list", "tuple"].map V.ty)) hp
    refine ⟨a, rfl, xs, .inl (SqL.of (sp _ _ h)), fun p2 ts H' s2 n2 e2 l2 k2 => q p2 _ H' (sp.trans s2) (fresh_lock n2).2 e2 ⟨by rw [List.length_map, l2]; simp [prs, h, idx_len], fun j s' x hj => ?_⟩⟩
    have hj' : (idx xs)[j]? = some (s', x) := by simpa [prs, h] using hj
    obtain ⟨rfl, hx⟩ := idx_get hj'
    obtain ⟨t, t1, _, t3⟩ := k2 j x hx
    exact ⟨t, by simp [t1], t3⟩
  | @tup a xs ds fp h hs =>
    rw [if_neg (by simp [kindN])]
    intro p hp
    refine isT_new (Ts := ["list", "tuple"]) (tyN_t h) hp ⟨_, rfl, ?_⟩
    rw [if_pos (by decide)]
    have sp := same_upd (o := HO.tup (["list", "tuple"].map V.ty)) hp
    refine ⟨a, rfl, xs, .inr (SqT.of (sp _ _ h)), fun p2 ts H' s2 n2 e2 l2 k2 => q p2 _ H' (sp.trans s2) (fresh_lock n2).2 e2 ⟨by rw [List.length_map, l2]; simp [prs, h, idx_len], fun j s' x hj => ?_⟩⟩
    have hj' : (idx xs)[j]? = some (s', x) := by simpa [prs, h] using hj
    obtain ⟨rfl, hx⟩ := idx_get hj'
    obtain ⟨t, t1, _, t3⟩ := k2 j x hx
    exact ⟨t, by simp [t1], t3⟩
  | _ =>
    rw [if_neg (by simp [kindN])]
    intro p hp
    refine isT_new (Ts := ["list", "tuple"]) rfl hp ⟨_, rfl, ?_⟩
    rw [if_neg (by decide)]
    exact fun p2 n2 => q p2 _ _ (same_new (same_upd hp) n2) (fresh_lock n2).2 upd_same ⟨rfl, fun j s' x hj => by simp [prs] at hj⟩
end


theorem len_100 {i : Int} (h : i.natAbs < 10 ^ 100) : i.natAbs.log2 < 1920 ∧ (Str.ofString (toString ((i.natAbs : Nat) : Int))).length ≤ 100 := by
  refine ⟨?_, ?_⟩
  · have h2 : i.natAbs < 2 ^ 1920 := Nat.lt_of_lt_of_le h (by decide +kernel)
    by_cases z : i.natAbs = 0
    · rw [z]; decide
    · exact (Nat.log2_lt z).mpr h2
  · rw [ofString_length]
    exact (Nat.length_repr_le_iff (by decide)).mpr h
section
variable {g : Wd} {f : Addr} {fd : FuncData}
theorem sc_is_wrong_part : FnScope ["value", "depth", "key"] ["value", "depth"] (defScope s_is_wrong_part) := ⟨rfl, rfl, rfl, by decide +kernel, rfl, by decide +kernel, by decide +kernel⟩
def sp_wrong : Sp := S2 fun v k H Q _ => ∃ d fp n, Tr H v d fp ∧ okB d = true ∧ k = .int n ∧ (0 < d.depth → n < 20) ∧ ∀ H', Same H H' → Q (.bl false) H'
theorem ok_wrong (F : Df g.K "is_wrong_part" "is_wrong_part" s_is_wrong_part f fd .none) (T : Txt g) : FnG g 1 f fd ["value", "depth"] sp_wrong := by
  refine F.ok sc_is_wrong_part (fun vs H Q E h => S2.len h) (fun cdv A outer s H vs Q E hr h => ?_)
  obtain ⟨v, _, rfl, d, fp, n, hv, hok, rfl, hn, q⟩ := h
  refine ⟨_, (pss_cons (ps_if (PW.pt (pw_or (pt_cmpR op_isN (pv 0) pe_non (nomark _)) (pw_or1 (pt_val (pe_callB (c_is "bool") (by rfl) T.b_isinstance bb_isinstance (pa_cons (pv 0) (pa_cons (pe_bltn (v := .ty "bool") rfl T.b_bool bb_bool rfl) pa_nil))))))) (pss_one (ps_ret pe_bl)) pss_nil)
      (pss_cons (ps_if (pt_val (pe_callB (c_is "int") (by rfl) T.b_isinstance bb_isinstance (pa_cons (pv 0) (pa_cons (pe_bltn (v := .ty "int") rfl T.b_int bb_int rfl) pa_nil)))) (pss_one (ps_ret (pe_cmpR op_gt (pe_callB (c_len (K := g.K)) (by rfl) T.b_len bb_len (pa_cons (pe_callTy call_str_int (by rfl) T.b_str bb_str (pa_cons (pe_callB call_abs (by rfl) T.b_abs bb_abs (pa_cons (pv 0) pa_nil)) pa_nil)) pa_nil)) (e_g T.c_MOST_DIGITS) (nomark _)))) pss_nil)
      (pss_cons (ps_if (pt_val (pe_callB (c_is "str") (by rfl) T.b_isinstance bb_isinstance (pa_cons (pv 0) (pa_cons (pe_bltn (v := .ty "str") rfl T.b_str bb_str rfl) pa_nil)))) (pss_one (ps_ret (pe_cmpR op_gt (pe_callB (c_len (K := g.K)) (by rfl) T.b_len bb_len (pa_cons (pv 0) pa_nil)) (e_g T.c_MOST_ITEMS) (nomark _)))) pss_nil)
      (pss_cons (ps_if (PW.pt (pw_or (pt_not (pt_val (pe_callB (c_isT ["list", "tuple", "dict"]) (by rfl) T.b_isinstance bb_isinstance (pa_cons (pv 0) (pa_cons (pe_tup (pa_cons (pe_bltn (v := .ty "list") rfl T.b_list bb_list rfl) (pa_cons (pe_bltn (v := .ty "tuple") rfl T.b_tuple bb_tuple rfl) (pa_cons (pe_bltn (v := .ty "dict") rfl T.b_dict bb_dict rfl) pa_nil)))) pa_nil))))) (pw_or (pt_cmpR op_ge (pv 1) (e_g T.c_MOST_LEVELS) (nomark _)) (pw_or1 (pt_cmpR op_gt (pe_callB (c_len (K := g.K)) (by rfl) T.b_len bb_len (pa_cons (pv 0) pa_nil)) (e_g T.c_MOST_ITEMS) (nomark _)))))) (pss_one (ps_ret pe_bl)) pss_nil)
      (pss_one (ps_ret (pe_and (pe_callB (c_is "dict") (by rfl) T.b_isinstance bb_isinstance (pa_cons (pv 0) (pa_cons (pe_bltn (v := .ty "dict") rfl T.b_dict bb_dict rfl) pa_nil))) (pe_one (pe_not (pe_callB (c_all (K := g.K)) (by rfl) T.b_all bb_all (pa_cons (pe_lock (pe_lc (own := [("key", 2)]) (tt := tYes) rfl sc_is_wrong_part.nd (pi_keys (pv 0)) (blkOk_by (own := [("key", 2)]) (N := ["value", "depth", "key"]) (sc := defScope s_is_wrong_part) (by decide +kernel)) (fun _ _ _ _ _ => (pg_name (i := 2) sc_is_wrong_part.nd rfl (.inl rfl))) (fun _ _ _ _ _ => pts_nil) (fun _ _ _ _ _ => (pe_and (pe_callB (c_is "str") (by rfl) T.b_isinstance bb_isinstance (pa_cons (pv 2) (pa_cons (pe_bltn (v := .ty "str") rfl T.b_str bb_str rfl) pa_nil))) (pe_one (pe_cmpR op_le (pe_callB (c_len (K := g.K)) (by rfl) T.b_len bb_len (pa_cons (pv 2) pa_nil)) (e_g T.c_MOST_ITEMS) (nomark _))))))) pa_nil))))))))))), ?_⟩
  cases hv with
  | non =>
    walk_at "sx"
    exact q _ (Same.refl _)
  | bl b =>
    walk_at "sx"
    exact q _ (Same.refl _)
  | int i =>
    walk_at "sx"
    have hi : i.natAbs < 10 ^ 100 := by simpa [okB] using hok
    have ea : ((if i < 0 then -i else i : Int)) = ((i.natAbs : Nat) : Int) := by split <;> omega
    rw [ea]
    obtain ⟨l1, l2⟩ := len_100 hi
    refine ⟨?_, by omega, ?_⟩
    · rw [Int.natAbs_natCast]
      exact l1
    · rw [decide_eq_false (by omega)]
      exact q _ (Same.refl _)
  | str x =>
    walk_at "sx"
    have hx : x.length ≤ 10000 := by simpa [okB] using hok
    refine ⟨by omega, ?_⟩
    rw [decide_eq_false (by omega)]
    exact q _ (Same.refl _)
  | @lst a xs ds fp h hs na =>
    simp only [tyN_l h, tRet, tRetN, tSeq, C8.tCut, tNext, tAsg, gName, gNil, gCons, gTup, gFld, tIfS, tIf, tAndV, tOrV, tNotV, tAnd, tOr, tNot, tB, tTest, tOp, tUn, tCB, tCons, tNil, tVar, tC, tChain, tDrop, tCallG, tMethG, tMakeG, RS.tCallK, RS.tMakeK, tEqOwn, rI, rI0, rU, add_ii, add_ss, add_rr, mul_ii, mul_si, mul_ri, RS.eq_ii, RS.eq_ss, eq_bb, eq_nn, eq_sn, eq_ns, eq_in, eq_ni, eq_bn, eq_nb, eq_is, eq_si, eq_rr, ne_ii, ne_ss, ne_bb, ne_nn, ne_sn, ne_ns, ne_in, ne_ni, ne_is, ne_si, ne_rr, in_ss, in_r, nin_ss, nin_r, len_s, len_r, RS.ix_s, RS.ix_r, sl_s, sl_r, is_eq, tyN_n, tyN_b, tyN_i, tyN_s, tru_b, tru_i, tru_n, tSl, tPart, tNoPart, tPar, tPar3, tFmtZ, tFmt, tJs, tDGet, sDPut, sFld, tFld, tTup, tLst, tNever, isB,
  L2.start, List.map_cons, List.map_nil, List.length_cons, List.length_nil, Nat.reduceAdd, Nat.reduceSub, Nat.sub_self, List.replicate_zero, List.replicate_succ, List.append_nil, List.cons_append, List.nil_append, List.getElem?_cons_zero, List.getElem?_cons_succ, List.set_cons_zero, List.set_cons_succ, Option.some.injEq, exists_eq_left, exists_eq_left', exists_and_left, V.bl.injEq, V.int.injEq, V.str.injEq, V.ref.injEq, beq_self_eq_true, Bool.true_or, Bool.or_true, Bool.false_or, Bool.or_false, Bool.and_false, Bool.false_and, Bool.true_and, Bool.and_true, Bool.not_true, Bool.not_false, Bool.false_eq_true, if_true, if_false, ite_true, ite_false, true_and, and_true, and_assoc, String.reduceBEq, String.reduceEq, reduceIte, Bool.and_self, reduceCtorEq, false_and, and_false, exists_false, or_false, false_or, exists_const, iEnumS, iStr, iList, iTup, iRng1, iEnum, tFor_eq, tLc_eq, List.cons.injEq, wipe, not_true_eq_false, not_false_eq_true, upd_same, HO.ins.injEq, HO.tup.injEq, HO.lst.injEq, ofS_eq, lk_nil, lk_cons, pu_nil, pu_cons, sizeLine_eq, Nat.reduceLT, Nat.reduceLeDiff, Nat.reduceEqDiff, Nat.le_refl, decide_true, decide_false, tPr, dget_us, dput_us, vv_nil, vv_cons, RS.pk_nil, pk_one, RS.pk_cons, inr_eq, tDisp, tPairs, tBoolOwn, rBoolOwn, tBM, rAppend, ty_list, ty_str, rEqOwn, iEnumT, RS.tCallS, tM1, tDc_eq, tLock, tLockE, iKeys, tListEnum, rUpdate, tMkX0, tMkX1, tXfv, gSub, rSetL, List.getD_cons_zero, List.getD_cons_succ]
    intro p hp
    have hl : xs.length ≤ 10000 := by rw [hs.len]; simp only [okB, Bool.and_eq_true, decide_eq_true_eq] at hok; exact hok.1
    have hn := hn (by simp [PyData.depth])
    have sp := same_upd (o := HO.tup (["list", "tuple", "dict"].map V.ty)) hp
    refine isT_new (Ts := ["list", "tuple", "dict"]) (tyN_l h) hp ⟨_, rfl, ?_⟩
    rw [if_neg (by decide), if_neg (by simp; omega)]
    refine .inl ⟨xs, .inl (SqL.of (sp _ _ h)), ?_⟩
    rw [if_neg (by simp; omega)]
    refine ⟨_, tyN_l (sp _ _ h), ?_⟩
    rw [if_neg (by decide)]
    exact q _ sp
  | @tup a xs ds fp h hs =>
    simp only [tyN_t h, tRet, tRetN, tSeq, C8.tCut, tNext, tAsg, gName, gNil, gCons, gTup, gFld, tIfS, tIf, tAndV, tOrV, tNotV, tAnd, tOr, tNot, tB, tTest, tOp, tUn, tCB, tCons, tNil, tVar, tC, tChain, tDrop, tCallG, tMethG, tMakeG, RS.tCallK, RS.tMakeK, tEqOwn, rI, rI0, rU, add_ii, add_ss, add_rr, mul_ii, mul_si, mul_ri, RS.eq_ii, RS.eq_ss, eq_bb, eq_nn, eq_sn, eq_ns, eq_in, eq_ni, eq_bn, eq_nb, eq_is, eq_si, eq_rr, ne_ii, ne_ss, ne_bb, ne_nn, ne_sn, ne_ns, ne_in, ne_ni, ne_is, ne_si, ne_rr, in_ss, in_r, nin_ss, nin_r, len_s, len_r, RS.ix_s, RS.ix_r, sl_s, sl_r, is_eq, tyN_n, tyN_b, tyN_i, tyN_s, tru_b, tru_i, tru_n, tSl, tPart, tNoPart, tPar, tPar3, tFmtZ, tFmt, tJs, tDGet, sDPut, sFld, tFld, tTup, tLst, tNever, isB,
  L2.start, List.map_cons, List.map_nil, List.length_cons, List.length_nil, Nat.reduceAdd, Nat.reduceSub, Nat.sub_self, List.replicate_zero, List.replicate_succ, List.append_nil, List.cons_append, List.nil_append, List.getElem?_cons_zero, List.getElem?_cons_succ, List.set_cons_zero, List.set_cons_succ, Option.some.injEq, exists_eq_left, exists_eq_left', exists_and_left, V.bl.injEq, V.int.injEq, V.str.injEq, V.ref.injEq, beq_self_eq_true, Bool.true_or, Bool.or_true, Bool.false_or, Bool.or_false, Bool.and_false, Bool.false_and, Bool.true_and, Bool.and_true, Bool.not_true, Bool.not_false, Bool.false_eq_true, if_true, if_false, ite_true, ite_false, true_and, and_true, and_assoc, String.reduceBEq, String.reduceEq, reduceIte, Bool.and_self, reduceCtorEq, false_and, and_false, exists_false, or_false, false_or, exists_const, iEnumS, iStr, iList, iTup, iRng1, iEnum, tFor_eq, tLc_eq, List.cons.injEq, wipe, not_true_eq_false, not_false_eq_true, upd_same, HO.ins.injEq, HO.tup.injEq, HO.lst.injEq, ofS_eq, lk_nil, lk_cons, pu_nil, pu_cons, sizeLine_eq, Nat.reduceLT, Nat.reduceLeDiff, Nat.reduceEqDiff, Nat.le_refl, decide_true, decide_false, tPr, dget_us, dput_us, vv_nil, vv_cons, RS.pk_nil, pk_one, RS.pk_cons, inr_eq, tDisp, tPairs, tBoolOwn, rBoolOwn, tBM, rAppend, ty_list, ty_str, rEqOwn, iEnumT, RS.tCallS, tM1, tDc_eq, tLock, tLockE, iKeys, tListEnum, rUpdate, tMkX0, tMkX1, tXfv, gSub, rSetL, List.getD_cons_zero, List.getD_cons_succ]
    intro p hp
    have hl : xs.length ≤ 10000 := by rw [hs.len]; simp only [okB, Bool.and_eq_true, decide_eq_true_eq] at hok; exact hok.1
    have hn := hn (by simp [PyData.depth])
    have sp := same_upd (o := HO.tup (["list", "tuple", "dict"].map V.ty)) hp
    refine isT_new (Ts := ["list", "tuple", "dict"]) (tyN_t h) hp ⟨_, rfl, ?_⟩
    rw [if_neg (by decide), if_neg (by simp; omega)]
    refine .inl ⟨xs, .inr (SqT.of (sp _ _ h)), ?_⟩
    rw [if_neg (by simp; omega)]
    refine ⟨_, tyN_t (sp _ _ h), ?_⟩
    rw [if_neg (by decide)]
    exact q _ sp
  | @dct a kvs D fp h hs na nd =>
    simp only [tyN_d h, tRet, tRetN, tSeq, C8.tCut, tNext, tAsg, gName, gNil, gCons, gTup, gFld, tIfS, tIf, tAndV, tOrV, tNotV, tAnd, tOr, tNot, tB, tTest, tOp, tUn, tCB, tCons, tNil, tVar, tC, tChain, tDrop, tCallG, tMethG, tMakeG, RS.tCallK, RS.tMakeK, tEqOwn, rI, rI0, rU, add_ii, add_ss, add_rr, mul_ii, mul_si, mul_ri, RS.eq_ii, RS.eq_ss, eq_bb, eq_nn, eq_sn, eq_ns, eq_in, eq_ni, eq_bn, eq_nb, eq_is, eq_si, eq_rr, ne_ii, ne_ss, ne_bb, ne_nn, ne_sn, ne_ns, ne_in, ne_ni, ne_is, ne_si, ne_rr, in_ss, in_r, nin_ss, nin_r, len_s, len_r, RS.ix_s, RS.ix_r, sl_s, sl_r, is_eq, tyN_n, tyN_b, tyN_i, tyN_s, tru_b, tru_i, tru_n, tSl, tPart, tNoPart, tPar, tPar3, tFmtZ, tFmt, tJs, tDGet, sDPut, sFld, tFld, tTup, tLst, tNever, isB,
  L2.start, List.map_cons, List.map_nil, List.length_cons, List.length_nil, Nat.reduceAdd, Nat.reduceSub, Nat.sub_self, List.replicate_zero, List.replicate_succ, List.append_nil, List.cons_append, List.nil_append, List.getElem?_cons_zero, List.getElem?_cons_succ, List.set_cons_zero, List.set_cons_succ, Option.some.injEq, exists_eq_left, exists_eq_left', exists_and_left, V.bl.injEq, V.int.injEq, V.str.injEq, V.ref.injEq, beq_self_eq_true, Bool.true_or, Bool.or_true, Bool.false_or, Bool.or_false, Bool.and_false, Bool.false_and, Bool.true_and, Bool.and_true, Bool.not_true, Bool.not_false, Bool.false_eq_true, if_true, if_false, ite_true, ite_false, true_and, and_true, and_assoc, String.reduceBEq, String.reduceEq, reduceIte, Bool.and_self, reduceCtorEq, false_and, and_false, exists_false, or_false, false_or, exists_const, iEnumS, iStr, iList, iTup, iRng1, iEnum, tFor_eq, tLc_eq, List.cons.injEq, wipe, not_true_eq_false, not_false_eq_true, upd_same, HO.ins.injEq, HO.tup.injEq, HO.lst.injEq, ofS_eq, lk_nil, lk_cons, pu_nil, pu_cons, sizeLine_eq, Nat.reduceLT, Nat.reduceLeDiff, Nat.reduceEqDiff, Nat.le_refl, decide_true, decide_false, tPr, dget_us, dput_us, vv_nil, vv_cons, RS.pk_nil, pk_one, RS.pk_cons, inr_eq, tDisp, tPairs, tBoolOwn, rBoolOwn, tBM, rAppend, ty_list, ty_str, rEqOwn, iEnumT, RS.tCallS, tM1, tDc_eq, tLock, tLockE, iKeys, tListEnum, rUpdate, tMkX0, tMkX1, tXfv, gSub, rSetL, List.getD_cons_zero, List.getD_cons_succ]
    intro p hp
    simp only [okB, Bool.and_eq_true, decide_eq_true_eq] at hok
    have hl : kvs.length ≤ 10000 := by rw [hs.len]; exact hok.1
    have hn := hn (by simp [PyData.depth])
    have sp := same_upd (o := HO.tup (["list", "tuple", "dict"].map V.ty)) hp
    refine isT_new (Ts := ["list", "tuple", "dict"]) (tyN_d h) hp ⟨_, rfl, ?_⟩
    rw [if_neg (by decide), if_neg (by simp; omega)]
    have h2 := sp _ _ h
    generalize upd H p (HO.tup (["list", "tuple", "dict"].map V.ty)) = G at sp h2 ⊢
    refine .inr ⟨kvs, h2, ?_⟩
    rw [if_neg (by simp; omega)]
    refine ⟨_, tyN_d h2, ?_⟩
    rw [if_pos (by decide)]
    refine ⟨a, _, h2, True.intro, fun od => ⟨od, .inl ⟨kvs, upd_same, ?_⟩⟩⟩
    refine lc_all kvs.length (fun _ => .bl true) (by rw [sizeLine_eq]; omega) (fun i G' lt s => ⟨s _ _ upd_same, lt⟩) (fun G' s => ⟨s _ _ upd_same, Nat.le_refl _⟩) (fun i G' x G'' K lt s yl k => ?_) (fun L G' hL s eL => ?_)
    · obtain ⟨rfl, k0, v0, hk, rfl⟩ := yl
      obtain ⟨x, v, d, f', e1, e2, _, _⟩ := hs.get lt
      rw [hk] at e1
      cases e1
      have hx : x.length ≤ 10000 := by simpa [okB] using (okKv_get hok.2 e2).1
      refine ⟨rfl, ?_⟩
      show _
      simp only [kV, tRet, tRetN, tSeq, C8.tCut, tNext, tAsg, gName, gNil, gCons, gTup, gFld, tIfS, tIf, tAndV, tOrV, tNotV, tAnd, tOr, tNot, tB, tTest, tOp, tUn, tCB, tCons, tNil, tVar, tC, tChain, tDrop, tCallG, tMethG, tMakeG, RS.tCallK, RS.tMakeK, tEqOwn, rI, rI0, rU, add_ii, add_ss, add_rr, mul_ii, mul_si, mul_ri, RS.eq_ii, RS.eq_ss, eq_bb, eq_nn, eq_sn, eq_ns, eq_in, eq_ni, eq_bn, eq_nb, eq_is, eq_si, eq_rr, ne_ii, ne_ss, ne_bb, ne_nn, ne_sn, ne_ns, ne_in, ne_ni, ne_is, ne_si, ne_rr, in_ss, in_r, nin_ss, nin_r, len_s, len_r, RS.ix_s, RS.ix_r, sl_s, sl_r, is_eq, tyN_n, tyN_b, tyN_i, tyN_s, tru_b, tru_i, tru_n, tSl, tPart, tNoPart, tPar, tPar3, tFmtZ, tFmt, tJs, tDGet, sDPut, sFld, tFld, tTup, tLst, tNever, isB,
  L2.start, List.map_cons, List.map_nil, List.length_cons, List.length_nil, Nat.reduceAdd, Nat.reduceSub, Nat.sub_self, List.replicate_zero, List.replicate_succ, List.append_nil, List.cons_append, List.nil_append, List.getElem?_cons_zero, List.getElem?_cons_succ, List.set_cons_zero, List.set_cons_succ, Option.some.injEq, exists_eq_left, exists_eq_left', exists_and_left, V.bl.injEq, V.int.injEq, V.str.injEq, V.ref.injEq, beq_self_eq_true, Bool.true_or, Bool.or_true, Bool.false_or, Bool.or_false, Bool.and_false, Bool.false_and, Bool.true_and, Bool.and_true, Bool.not_true, Bool.not_false, Bool.false_eq_true, if_true, if_false, ite_true, ite_false, true_and, and_true, and_assoc, String.reduceBEq, String.reduceEq, reduceIte, Bool.and_self, reduceCtorEq, false_and, and_false, exists_false, or_false, false_or, exists_const, iEnumS, iStr, iList, iTup, iRng1, iEnum, tFor_eq, tLc_eq, List.cons.injEq, wipe, not_true_eq_false, not_false_eq_true, upd_same, HO.ins.injEq, HO.tup.injEq, HO.lst.injEq, ofS_eq, lk_nil, lk_cons, pu_nil, pu_cons, sizeLine_eq, Nat.reduceLT, Nat.reduceLeDiff, Nat.reduceEqDiff, Nat.le_refl, decide_true, decide_false, tPr, dget_us, dput_us, vv_nil, vv_cons, RS.pk_nil, pk_one, RS.pk_cons, inr_eq, tDisp, tPairs, tBoolOwn, rBoolOwn, tBM, rAppend, ty_list, ty_str, rEqOwn, iEnumT, RS.tCallS, tM1, tDc_eq, tLock, tLockE, iKeys, tListEnum, rUpdate, tMkX0, tMkX1, tXfv, gSub, rSetL, List.getD_cons_zero, List.getD_cons_succ]
      refine ⟨by omega, ?_⟩
      rw [decide_eq_true (by omega)]
      exact k _ (Same.refl _)
    · refine ⟨s _ _ upd_same, L, List.replicate kvs.length true, rfl, SqL.of ?_, ?_⟩
      · rw [upd_ne (fresh_lock hL).1, eL]
        congr 2
        rw [List.map_replicate]
        exact List.ext_getElem (by simp) (by simp)
      · walk_at "sx"
        have e : (List.replicate kvs.length true).all id = true := by simp [List.all_eq_true]
        rw [e]
        exact q _ (sp.trans (unlock h2 s))
end


theorem fnG_void {g : Wd} {k : Nat} {f : Addr} {fd : FuncData} {ps : List Str} {sp : Sp} (h : ∀ vs H Q E, ¬ sp vs H Q E) : FnG g k f fd ps sp :=
  ⟨fun vs H Q E z => (h vs H Q E z).elim, fun A outer s H args us vs Q E _ _ _ _ _ z => (h vs H Q E z).elim⟩
theorem kn_rec {g : Wd} {x : Str} {f : Addr} {fd : FuncData} {ps : List Str} {c : Nat} {sp : Nat → Sp} (m : g.mg x = some (.ref f)) (kp : PySem.W.keepIn g.K (.ref f) = true) (b : Binds g.K fd ps []) (h0 : ∀ vs H Q E, ¬ sp 0 vs H Q E)
    (hs : ∀ n, Kn g x (n + c) ps [] (sp n) → FnG g (n + c + 1) f fd ps (sp (n + 1))) : ∀ n, Kn g x (n + c) ps [] (sp n)
  | 0 => ⟨f, fd, [], m, kp, fnG_void h0, b, .nil⟩
  | n + 1 => ⟨f, fd, [], m, kp, (hs n (kn_rec m kp b h0 hs n)).mono (by omega), b, .nil⟩
/-- an item's data -/
theorem prs_get {H : Hp} {v : V} {d : PyData} {fp : List Addr} (h : Tr H v d fp) (ok : okB d = true) {j : Nat} {s x : V} (e : (prs H v)[j]? = some (s, x)) : ∃ d' f', Tr H x d' f' ∧ okB d' = true ∧ d'.depth < d.depth ∧ ∀ c ∈ f', c ∈ fp := by
  cases h with
  | @lst a xs ds fp h hs na =>
    have e' : (idx xs)[j]? = some (s, x) := by simpa [prs, h] using e
    obtain ⟨rfl, hx⟩ := idx_get e'
    obtain ⟨v, d, f', e1, e2, t, sub⟩ := hs.get (List.getElem?_eq_some_iff.mp hx).1
    rw [hx] at e1
    cases e1
    simp only [okB, Bool.and_eq_true] at ok
    refine ⟨d, f', t, okAll_get ok.2 e2, ?_, fun c hc => List.mem_cons_of_mem _ (sub c hc)⟩
    have := depth_all e2
    simp only [PyData.depth]; omega
  | @tup a xs ds fp h hs =>
    have e' : (idx xs)[j]? = some (s, x) := by simpa [prs, h] using e
    obtain ⟨rfl, hx⟩ := idx_get e'
    obtain ⟨v, d, f', e1, e2, t, sub⟩ := hs.get (List.getElem?_eq_some_iff.mp hx).1
    rw [hx] at e1
    cases e1
    simp only [okB, Bool.and_eq_true] at ok
    refine ⟨d, f', t, okAll_get ok.2 e2, ?_, sub⟩
    have := depth_all e2
    simp only [PyData.depth]; omega
  | @dct a kvs D fp h hs na nd =>
    have e' : (kvs.map fun kv => (kV kv.1, kv.2))[j]? = some (s, x) := by simpa [prs, h] using e
    rw [List.getElem?_map] at e'
    cases hk : kvs[j]? with
    | none => rw [hk] at e'; cases e'
    | some kv =>
      rw [hk] at e'
      cases e'
      obtain ⟨y, v, d, f', e1, e2, t, sub⟩ := hs.get (List.getElem?_eq_some_iff.mp hk).1
      rw [hk] at e1
      cases e1
      simp only [okB, Bool.and_eq_true] at ok
      refine ⟨d, f', t, (okKv_get ok.2 e2).2, ?_, fun c hc => List.mem_cons_of_mem _ (sub c hc)⟩
      have := depth_kv e2
      simp only [PyData.depth]; omega
  | _ => simp [prs] at e
section
variable {g : Wd} {f : Addr} {fd : FuncData}
theorem sc_wrong_path : FnScope ["value", "path", "step", "item", "found"] ["value", "path"] (defScope s_wrong_path) := ⟨rfl, rfl, rfl, by decide +kernel, rfl, by decide +kernel, by decide +kernel⟩
def sp_path (n : Nat) : Sp := S2 fun v p H Q _ => ∃ d fp a ps, Tr H v d fp ∧ okB d = true ∧ p = .ref a ∧ H a = some (.tup ps) ∧ ps.length + d.depth ≤ 20 ∧ d.depth < n ∧ ∀ H', Same H H' → Q .non H'
theorem ok_path (n : Nat) (F : Df g.K "wrong_path" "wrong_path" s_wrong_path f fd .none) (T : Txt g) (F_is_wrong_part : Kn g "is_wrong_part" 1 ["value", "depth"] [] sp_wrong) (F_items_of : Kn g "items_of" 1 ["value"] [] sp_items) (F_wrong_path : Kn g "wrong_path" (n + 1) ["value", "path"] [] (sp_path n)) : FnG g (n + 2) f fd ["value", "path"] (sp_path (n + 1)) := by
  refine F.ok sc_wrong_path (fun vs H Q E h => S2.len h) (fun cdv A outer s H vs Q E hr h => ?_)
  obtain ⟨v, _, rfl, d, fp, a, ps, hv, hok, rfl, ha, hl, hn, q⟩ := h
  refine ⟨_, (pss_mid (ps_if (pt_val (pe_callG F_is_wrong_part (hr.mono (by first | decide | omega)) tkD (pa_cons (pv 0) (pa_cons (pe_callB (c_len (K := g.K)) (by rfl) T.b_len bb_len (pa_cons (pv 1) pa_nil)) pa_nil)))) (pss_one (ps_ret (pv 1))) pss_nil)
      (pss_cons (ps_for psD rfl (i_list (K := g.K) (pe_callG F_items_of (hr.mono (by first | decide | omega)) tkD (pa_cons (pv 0) pa_nil))) (g_tup (K := g.K) (n := 2) (pgs_cons (pg_name (i := 2) sc_wrong_path.nd rfl (.inl rfl)) (pgs_cons (pg_name (i := 3) sc_wrong_path.nd rfl (.inl rfl)) pgs_nil))) (pss_cons (ps_set (i := 4) sc_wrong_path.nd rfl (Or.inl rfl) (pe_callG F_wrong_path (hr.mono (by first | decide | omega)) tkD (pa_cons (pv 3) (pa_cons (pe_op (o_add (K := g.K)) (pv 1) (pe_tup (pa_cons (pv 2) pa_nil))) pa_nil))))
      (pss_one (ps_if (pt_cmpR op_notN (pv 4) pe_non (nomark _)) (pss_one (ps_ret (pv 4))) pss_nil))))
      (pss_one (ps_ret pe_non)))), ?_⟩
  refine mid_one [some v, some (.ref a), none, none, none] (fun H1 => Same H H1) ?_ fun H1 s1 => ?_
  · walk_at "sx"
    refine .inl ⟨ps, .inr (SqT.of ha), _, _, rfl, d, fp, _, hv, hok, rfl, fun z => by omega, fun H' s' => ?_⟩
    walk_at "sx"
    exact s'
  walk_at "sx"
  refine ⟨_, rfl, d, fp, hv.same s1, hok, fun L ts H2 s2 _ eL pr => ?_⟩
  walk_at "sx"
  refine ⟨⟨_, SqL.of eL⟩, ?_⟩
  have s12 := s1.trans s2
  refine for_by ts.length (fun i σ H' => (∃ v2 v3 v4, σ = [some v, some (.ref a), v2, v3, v4]) ∧ Same H2 H') ⟨⟨_, _, _, rfl⟩, Same.refl _⟩ (fun i σ H3 lt P => ⟨_, ts[i], SqL.of (P.2 _ _ eL), List.getElem?_eq_getElem lt⟩) (fun σ H3 P => ⟨_, SqL.of (P.2 _ _ eL), Nat.le_refl _⟩) (fun i σ H3 x H4 lt P yl => ?_) (fun σ H3 P => ?_)
  · obtain ⟨⟨v2, v3, v4, rfl⟩, s3⟩ := P
    obtain ⟨rfl, hx⟩ := yl
    have hx := hx _ (SqL.of (s3 _ _ eL))
    have lp : i < (prs H1 v).length := by rw [← pr.1]; exact lt
    obtain ⟨st, it, hp⟩ : ∃ st it, (prs H1 v)[i]? = some (st, it) := ⟨_, _, List.getElem?_eq_getElem lp⟩
    obtain ⟨t, ht, et⟩ := pr.2 i st it hp
    rw [ht] at hx
    obtain rfl : V.ref t = x := Option.some.inj hx
    obtain ⟨d', f', hd', ok', dl, _⟩ := prs_get (hv.same s1) hok hp
    have et3 := s3 _ _ et
    walk_at "sx"
    refine ⟨_, SqT.of et3, rfl, ?_⟩
    walk_at "sx"
    intro u hu
    have su := same_upd (o := HO.tup [st]) hu
    have a3 := su _ _ (s3 _ _ (s12 _ _ ha))
    have s23 := s2.trans s3
    have go : ∀ (b : Addr) (G : Hp), Same (upd H4 u (HO.tup [st])) G → G b = some (.tup (ps ++ [st])) → sp_path n [it, .ref b] G (fun x H1 => if (!decide (x = V.non)) = true then Q x H1 else (∃ x_1, some x = x_1) ∧ Same H2 H1) fun c d H' => E c d H' := fun b G sG hb =>
      ⟨_, _, rfl, d', f', b, _, hd'.same ((s23.trans su).trans sG), ok', rfl, hb, by simp; omega, by omega, fun H5 s5 => by show (if _ then _ else _); rw [if_neg (by simp)]; exact ⟨⟨_, rfl⟩, ((s3.trans su).trans sG).trans s5⟩⟩
    refine .inr ⟨a, u, ps, [st], rfl, rfl, SqT.of a3, SqT.of upd_same, by rw [sizeLine_eq]; simp; omega, fun e => ?_, (fun _ e => nomatch e), fun _ _ b hb => ?_⟩
    · subst e
      have := go u _ (Same.refl _) upd_same
      simpa using this
    · have := go b _ (same_upd hb) upd_same
      simpa using this
  · obtain ⟨⟨v2, v3, v4, rfl⟩, s3⟩ := P
    walk_at "sx"
    exact q _ (s12.trans s3)
end


section
variable {g : Wd} {f : Addr} {fd : FuncData}
theorem sc_check_value : FnScope ["value", "path"] ["value"] (defScope s_check_value) := ⟨rfl, rfl, rfl, by decide +kernel, rfl, by decide +kernel, by decide +kernel⟩
def sp_check : Sp := S1 fun v H Q _ => ∃ d fp, Tr H v d fp ∧ okB d = true ∧ d.depth < 8 ∧ ∀ H', Same H H' → Q .non H'
theorem ok_check (F : Df g.K "check_value" "check_value" s_check_value f fd .none) (T : Txt g) (F_wrong_path : Kn g "wrong_path" 9 ["value", "path"] [] (sp_path 8)) : FnG g 10 f fd ["value"] sp_check := by
  refine F.ok sc_check_value (fun vs H Q E h => S1.len h) (fun cdv A outer s H vs Q E hr h => ?_)
  obtain ⟨v, rfl, d, fp, hv, hok, hn, q⟩ := h
  refine ⟨_, (pss_cons (ps_set (i := 1) sc_check_value.nd rfl (Or.inl rfl) (pe_callG F_wrong_path (hr.mono (by first | decide | omega)) tkD (pa_cons (pv 0) (pa_cons (pe_tup pa_nil) pa_nil))))
      (pss_one (ps_if (pt_cmpR op_notN (pv 1) pe_non (nomark _)) (pss_one ps_never) pss_nil))), ?_⟩
  walk_at "sx"
  intro p hp
  have sp := same_upd (o := HO.tup []) hp
  refine ⟨_, _, rfl, d, fp, p, [], hv.same sp, hok, rfl, upd_same, by simp; omega, hn, fun H' s' => ?_⟩
  walk_at "sx"
  exact q _ (sp.trans s')
theorem sc_spelled : FnScope ["value", "letter", "front", "key", "item"] ["value"] (defScope s_spelled) := ⟨rfl, rfl, rfl, by decide +kernel, rfl, by decide +kernel, by decide +kernel⟩
def sp_spell (n : Nat) : Sp := S1 fun v H Q _ => ∃ d fp, Tr H v d fp ∧ okB d = true ∧ d.depth < n ∧ (spell d).length ≤ 1000000 ∧ ∀ H', Same H H' → Q (.str (spell d)) H'
/-- the lists' and tuples' way -/
theorem spell_items {n : Nat} {H H1 : Hp} {Qf : VK} {J : It} {xs : List V} {ds : List PyData} {fp : List Addr} {σ : L2.St} {W : WX} (sl : Nat) (hw : ∀ x : V, wipe ((wipe σ [sl]).set sl (some x)) [sl] = wipe σ [sl]) (hv : ∀ x : V, ((wipe σ [sl]).set sl (some x))[sl]? = some (some x)) (sm : Same H H1) (hs : TrL H xs ds fp) (ok : okAll ds = true) (hl : ds.length ≤ 10000) (hd : PyData.depthAll ds < n) (hz : (spells ds).length ≤ 1000000)
    (go : ∀ i G, i < xs.length → Same H1 G → J.go i G) (stop : ∀ G, Same H1 G → J.stop xs.length G) (yl : ∀ i G x G', i < xs.length → Same H1 G → J.yld i G x G' → G' = G ∧ xs[i]? = some x)
    (q : ∀ (L : Addr) (ys : List Str) (G : Hp), Same H1 G → G L = some (.lst (ys.map V.str)) → cat ys = spells ds → (ys.map (·.length)).sum ≤ 1000000 → Qf (.ref L) G) :
    LcB J (gName sl) tYes (tCallG (sp_spell n) [] W (tCons (tVar sl) tNil)) [sl] σ H1 Qf := by
  have ln := hs.len
  refine lc_all xs.length (fun i => .str (spell (ds[i]?.getD .none))) (by rw [sizeLine_eq]; omega) go stop (fun i G x G' K lt s y k => ?_) (fun L G hL s eL => ?_)
  · obtain ⟨rfl, hx⟩ := yl i G x G' lt s y
    obtain ⟨v, d, f', e1, e2, t, _⟩ := hs.get lt
    rw [hx] at e1
    cases e1
    refine ⟨hw x, x, hv x, ?_⟩
    have b1 := depth_all e2
    have b2 := spells_get e2
    refine ⟨_, rfl, d, f', t.same (sm.trans s), okAll_get ok e2, by omega, by omega, fun H' s' => ?_⟩
    have := k H' s'
    rw [e2] at this
    exact this
  · have e : (List.range xs.length).map (fun i => V.str (spell (ds[i]?.getD .none))) = (ds.map spell).map V.str := by
      rw [ln]
      refine List.ext_getElem (by simp) fun i h1 h2 => ?_
      simp at h1 h2
      simp [h1]
    refine q L (ds.map spell) G s (by rw [eL, e]) (cat_map_spell ds) ?_
    rw [← cat_len, cat_map_spell]; exact hz
theorem ok_spell (n : Nat) (F : Df g.K "spelled" "spelled" s_spelled f fd .none) (T : Txt g) (F_spelled : Kn g "spelled" (n + 1) ["value"] [] (sp_spell n)) : FnG g (n + 2) f fd ["value"] (sp_spell (n + 1)) := by
  refine F.ok sc_spelled (fun vs H Q E h => S1.len h) (fun cdv A outer s H vs Q E hr h => ?_)
  obtain ⟨v, rfl, d, fp, hv, hok, hn, hz, q⟩ := h
  refine ⟨_, (pss_cons (ps_if (pt_cmpR op_isN (pv 0) pe_non (nomark _)) (pss_one (ps_ret pe_str)) pss_nil)
      (pss_cons (ps_if (pt_val (pe_callB (c_is "bool") (by rfl) T.b_isinstance bb_isinstance (pa_cons (pv 0) (pa_cons (pe_bltn (v := .ty "bool") rfl T.b_bool bb_bool rfl) pa_nil)))) (pss_one (ps_ret (pe_ifExp (t_truth (K := g.K) (pv 0)) pe_str pe_str))) pss_nil)
      (pss_cons (ps_if (pt_val (pe_callB (c_is "int") (by rfl) T.b_isinstance bb_isinstance (pa_cons (pv 0) (pa_cons (pe_bltn (v := .ty "int") rfl T.b_int bb_int rfl) pa_nil)))) (pss_one (ps_ret (pe_joined (.cons pe_str (.cons (pe_fmt (pv 0)) (.cons pe_str .nil)))))) pss_nil)
      (pss_cons (ps_if (pt_val (pe_callB (c_is "str") (by rfl) T.b_isinstance bb_isinstance (pa_cons (pv 0) (pa_cons (pe_bltn (v := .ty "str") rfl T.b_str bb_str rfl) pa_nil)))) (pss_one (ps_ret (pe_joined (.cons pe_str (.cons (pe_fmt (pe_callB (c_len (K := g.K)) (by rfl) T.b_len bb_len (pa_cons (pv 0) pa_nil))) (.cons pe_str (.cons (pe_fmt (pv 0)) .nil))))))) pss_nil)
      (pss_mid (ps_set (i := 1) sc_spelled.nd rfl (Or.inl rfl) (pe_ifExp (pt_val (pe_callB (c_is "dict") (by rfl) T.b_isinstance bb_isinstance (pa_cons (pv 0) (pa_cons (pe_bltn (v := .ty "dict") rfl T.b_dict bb_dict rfl) pa_nil)))) pe_str (pe_ifExp (pt_val (pe_callB (c_is "list") (by rfl) T.b_isinstance bb_isinstance (pa_cons (pv 0) (pa_cons (pe_bltn (v := .ty "list") rfl T.b_list bb_list rfl) pa_nil)))) pe_str pe_str)))
      (pss_mid (ps_set (i := 2) sc_spelled.nd rfl (Or.inl rfl) (pe_joined (.cons (pe_fmt (pv 1)) (.cons (pe_fmt (pe_callB (c_len (K := g.K)) (by rfl) T.b_len bb_len (pa_cons (pv 0) pa_nil))) (.cons pe_str .nil)))))
      (pss_cons (ps_if (pt_cmpR (o_eq (K := g.K) hr) (pv 1) pe_str (nomark _)) (pss_one (ps_ret (pe_op (o_add (K := g.K)) (pv 2) (pe_join pe_str (pe_lock (pe_lc (own := [("key", 3)]) (tt := tYes) rfl sc_spelled.nd (pi_keys (pv 0)) (blkOk_by (own := [("key", 3)]) (N := ["value", "letter", "front", "key", "item"]) (sc := defScope s_spelled) (by decide +kernel)) (fun _ _ _ _ _ => (pg_name (i := 3) sc_spelled.nd rfl (.inl rfl))) (fun _ _ _ _ _ => pts_nil) (fun _ _ _ _ _ => (pe_op (o_add (K := g.K)) (pe_callG F_spelled (Rm.mono (Rm.mk hr.room hr.gd) (by first | decide | omega)) takes0 (pa_cons (pv 3) pa_nil)) (pe_callG F_spelled (Rm.mono (Rm.mk hr.room hr.gd) (by first | decide | omega)) takes0 (pa_cons (pe_dget (hu_of (Rm.mk hr.room hr.gd).room) (pv 0) (pv 3) (fun _ _ => rfl)) pa_nil)))))))))) pss_nil)
      (pss_one (ps_ret (pe_op (o_add (K := g.K)) (pv 2) (pe_join pe_str (pe_lc (own := [("item", 4)]) (tt := tYes) rfl sc_spelled.nd (pi_or (i_list (K := g.K) (pv 0)) (i_tup (K := g.K) (pv 0))) (blkOk_by (own := [("item", 4)]) (N := ["value", "letter", "front", "key", "item"]) (sc := defScope s_spelled) (by decide +kernel)) (fun _ _ _ _ _ => (pg_name (i := 4) sc_spelled.nd rfl (.inl rfl))) (fun _ _ _ _ _ => pts_nil) (fun _ _ _ _ _ => (pe_callG F_spelled (Rm.mono (Rm.mk hr.room hr.gd) (by first | decide | omega)) takes0 (pa_cons (pv 4) pa_nil))))))))))))))), ?_⟩
  cases hv with
  | non =>
    walk_at "sx"
    exact q _ (Same.refl _)
  | bl b =>
    walk_at "sx"
    have := q H (Same.refl _)
    cases b <;> simpa [spell] using this
  | int i =>
    walk_at "sx"
    have hi : i.natAbs < 10 ^ 100 := by simpa [okB] using hok
    simp only [spell] at hz
    simp only [Str.empty_append]
    simp only [Str.length_append] at hz ⊢
    exact ⟨by omega, (len_100 hi).1, by omega, by omega, q _ (Same.refl _)⟩
  | str x =>
    walk_at "sx"
    have hx : x.length ≤ 10000 := by simpa [okB] using hok
    simp only [spell, num] at hz
    simp only [Str.empty_append]
    simp only [Str.length_append] at hz ⊢
    exact ⟨by omega, by omega, num_log hx, by omega, by omega, by omega, by omega, q _ (Same.refl _)⟩
  | @lst a xs ds fp h hs na =>
    simp only [okB, Bool.and_eq_true, decide_eq_true_eq] at hok
    have hl := hs.len
    simp only [spell] at hz
    have hz' := hz
    simp only [Str.length_append, num] at hz'
    simp only [tyN_l h, tRet, tRetN, tSeq, C8.tCut, tNext, tAsg, gName, gNil, gCons, gTup, gFld, tIfS, tIf, tAndV, tOrV, tNotV, tAnd, tOr, tNot, tB, tTest, tOp, tUn, tCB, tCons, tNil, tVar, tC, tChain, tDrop, tCallG, tMethG, tMakeG, RS.tCallK, RS.tMakeK, tEqOwn, rI, rI0, rU, add_ii, add_ss, add_rr, mul_ii, mul_si, mul_ri, RS.eq_ii, RS.eq_ss, eq_bb, eq_nn, eq_sn, eq_ns, eq_in, eq_ni, eq_bn, eq_nb, eq_is, eq_si, eq_rr, ne_ii, ne_ss, ne_bb, ne_nn, ne_sn, ne_ns, ne_in, ne_ni, ne_is, ne_si, ne_rr, in_ss, in_r, nin_ss, nin_r, len_s, len_r, RS.ix_s, RS.ix_r, sl_s, sl_r, is_eq, tyN_n, tyN_b, tyN_i, tyN_s, tru_b, tru_i, tru_n, tSl, tPart, tNoPart, tPar, tPar3, tFmtZ, tFmt, tJs, tDGet, sDPut, sFld, tFld, tTup, tLst, tNever, isB,
  L2.start, List.map_cons, List.map_nil, List.length_cons, List.length_nil, Nat.reduceAdd, Nat.reduceSub, Nat.sub_self, List.replicate_zero, List.replicate_succ, List.append_nil, List.cons_append, List.nil_append, List.getElem?_cons_zero, List.getElem?_cons_succ, List.set_cons_zero, List.set_cons_succ, Option.some.injEq, exists_eq_left, exists_eq_left', exists_and_left, V.bl.injEq, V.int.injEq, V.str.injEq, V.ref.injEq, beq_self_eq_true, Bool.true_or, Bool.or_true, Bool.false_or, Bool.or_false, Bool.and_false, Bool.false_and, Bool.true_and, Bool.and_true, Bool.not_true, Bool.not_false, Bool.false_eq_true, if_true, if_false, ite_true, ite_false, true_and, and_true, and_assoc, String.reduceBEq, String.reduceEq, reduceIte, Bool.and_self, reduceCtorEq, false_and, and_false, exists_false, or_false, false_or, exists_const, iEnumS, iStr, iList, iTup, iRng1, iEnum, tFor_eq, tLc_eq, List.cons.injEq, wipe, not_true_eq_false, not_false_eq_true, upd_same, HO.ins.injEq, HO.tup.injEq, HO.lst.injEq, ofS_eq, lk_nil, lk_cons, pu_nil, pu_cons, sizeLine_eq, Nat.reduceLT, Nat.reduceLeDiff, Nat.reduceEqDiff, Nat.le_refl, decide_true, decide_false, tPr, dget_us, dput_us, vv_nil, vv_cons, RS.pk_nil, pk_one, RS.pk_cons, inr_eq, tDisp, tPairs, tBoolOwn, rBoolOwn, tBM, rAppend, ty_list, ty_str, rEqOwn, iEnumT, RS.tCallS, tM1, tDc_eq, tLock, tLockE, iKeys, tListEnum, rUpdate, tMkX0, tMkX1, tXfv, gSub, rSetL, List.getD_cons_zero, List.getD_cons_succ]
    refine mid_one [some (.ref a), some (.str "l"), none, none, none] (fun H1 => H1 = H) ?_ ?_
    · simp only [tyN_l h, tRet, tRetN, tSeq, C8.tCut, tNext, tAsg, gName, gNil, gCons, gTup, gFld, tIfS, tIf, tAndV, tOrV, tNotV, tAnd, tOr, tNot, tB, tTest, tOp, tUn, tCB, tCons, tNil, tVar, tC, tChain, tDrop, tCallG, tMethG, tMakeG, RS.tCallK, RS.tMakeK, tEqOwn, rI, rI0, rU, add_ii, add_ss, add_rr, mul_ii, mul_si, mul_ri, RS.eq_ii, RS.eq_ss, eq_bb, eq_nn, eq_sn, eq_ns, eq_in, eq_ni, eq_bn, eq_nb, eq_is, eq_si, eq_rr, ne_ii, ne_ss, ne_bb, ne_nn, ne_sn, ne_ns, ne_in, ne_ni, ne_is, ne_si, ne_rr, in_ss, in_r, nin_ss, nin_r, len_s, len_r, RS.ix_s, RS.ix_r, sl_s, sl_r, is_eq, tyN_n, tyN_b, tyN_i, tyN_s, tru_b, tru_i, tru_n, tSl, tPart, tNoPart, tPar, tPar3, tFmtZ, tFmt, tJs, tDGet, sDPut, sFld, tFld, tTup, tLst, tNever, isB,
  L2.start, List.map_cons, List.map_nil, List.length_cons, List.length_nil, Nat.reduceAdd, Nat.reduceSub, Nat.sub_self, List.replicate_zero, List.replicate_succ, List.append_nil, List.cons_append, List.nil_append, List.getElem?_cons_zero, List.getElem?_cons_succ, List.set_cons_zero, List.set_cons_succ, Option.some.injEq, exists_eq_left, exists_eq_left', exists_and_left, V.bl.injEq, V.int.injEq, V.str.injEq, V.ref.injEq, beq_self_eq_true, Bool.true_or, Bool.or_true, Bool.false_or, Bool.or_false, Bool.and_false, Bool.false_and, Bool.true_and, Bool.and_true, Bool.not_true, Bool.not_false, Bool.false_eq_true, if_true, if_false, ite_true, ite_false, true_and, and_true, and_assoc, String.reduceBEq, String.reduceEq, reduceIte, Bool.and_self, reduceCtorEq, false_and, and_false, exists_false, or_false, false_or, exists_const, iEnumS, iStr, iList, iTup, iRng1, iEnum, tFor_eq, tLc_eq, List.cons.injEq, wipe, not_true_eq_false, not_false_eq_true, upd_same, HO.ins.injEq, HO.tup.injEq, HO.lst.injEq, ofS_eq, lk_nil, lk_cons, pu_nil, pu_cons, sizeLine_eq, Nat.reduceLT, Nat.reduceLeDiff, Nat.reduceEqDiff, Nat.le_refl, decide_true, decide_false, tPr, dget_us, dput_us, vv_nil, vv_cons, RS.pk_nil, pk_one, RS.pk_cons, inr_eq, tDisp, tPairs, tBoolOwn, rBoolOwn, tBM, rAppend, ty_list, ty_str, rEqOwn, iEnumT, RS.tCallS, tM1, tDc_eq, tLock, tLockE, iKeys, tListEnum, rUpdate, tMkX0, tMkX1, tXfv, gSub, rSetL, List.getD_cons_zero, List.getD_cons_succ]
    intro H1 e1
    rw [e1]; clear e1 H1
    refine mid_one [some (.ref a), some (.str "l"), some (.str (("l" : Str) ++ num ds.length ++ ":")), none, none] (fun H1 => H1 = H) ?_ ?_
    · walk_at "sx"
      simp only [Str.empty_append, Str.length_append]
      exact ⟨by omega, by omega, .inl ⟨xs, .inl (SqL.of h), num_log (by omega), by rw [hl]; omega, by rw [hl]; omega, by rw [hl]; rfl⟩⟩
    intro H1 e1
    rw [e1]; clear e1 H1
    walk_at "sx"
    refine ⟨⟨_, rfl⟩, .inl ⟨⟨xs, SqL.of h⟩, ?_⟩⟩
    have e2 : (("l" : Str) ++ num ds.length ++ ":" ++ spells ds).length ≤ 1000000 := hz
    refine spell_items 4 (fun _ => rfl) (fun _ => rfl) (Same.refl _) hs hok.2 hok.1 (by simp only [PyData.depth] at hn; omega) (by omega) (fun i G lt sm => ⟨_, xs[i], SqL.of (sm _ _ h), List.getElem?_eq_getElem lt⟩) (fun G sm => ⟨_, SqL.of (sm _ _ h), Nat.le_refl _⟩) (fun i G x G' lt sm y => ⟨y.1, y.2 _ (SqL.of (sm _ _ h))⟩) (fun L ys G sm eL ec hs2 => ?_)
    refine ⟨L, rfl, ys, .inl (SqL.of eL), by rw [show (Str.ofString "").length = 0 from by decide +kernel]; omega, ?_⟩
    rw [join0, ec]
    exact ⟨by simp only [Str.length_append, num]; omega, q _ sm⟩
  | @tup a xs ds fp h hs =>
    simp only [okB, Bool.and_eq_true, decide_eq_true_eq] at hok
    have hl := hs.len
    simp only [spell] at hz
    have hz' := hz
    simp only [Str.length_append, num] at hz'
    simp only [tyN_t h, tRet, tRetN, tSeq, C8.tCut, tNext, tAsg, gName, gNil, gCons, gTup, gFld, tIfS, tIf, tAndV, tOrV, tNotV, tAnd, tOr, tNot, tB, tTest, tOp, tUn, tCB, tCons, tNil, tVar, tC, tChain, tDrop, tCallG, tMethG, tMakeG, RS.tCallK, RS.tMakeK, tEqOwn, rI, rI0, rU, add_ii, add_ss, add_rr, mul_ii, mul_si, mul_ri, RS.eq_ii, RS.eq_ss, eq_bb, eq_nn, eq_sn, eq_ns, eq_in, eq_ni, eq_bn, eq_nb, eq_is, eq_si, eq_rr, ne_ii, ne_ss, ne_bb, ne_nn, ne_sn, ne_ns, ne_in, ne_ni, ne_is, ne_si, ne_rr, in_ss, in_r, nin_ss, nin_r, len_s, len_r, RS.ix_s, RS.ix_r, sl_s, sl_r, is_eq, tyN_n, tyN_b, tyN_i, tyN_s, tru_b, tru_i, tru_n, tSl, tPart, tNoPart, tPar, tPar3, tFmtZ, tFmt, tJs, tDGet, sDPut, sFld, tFld, tTup, tLst, tNever, isB,
  L2.start, List.map_cons, List.map_nil, List.length_cons, List.length_nil, Nat.reduceAdd, Nat.reduceSub, Nat.sub_self, List.replicate_zero, List.replicate_succ, List.append_nil, List.cons_append, List.nil_append, List.getElem?_cons_zero, List.getElem?_cons_succ, List.set_cons_zero, List.set_cons_succ, Option.some.injEq, exists_eq_left, exists_eq_left', exists_and_left, V.bl.injEq, V.int.injEq, V.str.injEq, V.ref.injEq, beq_self_eq_true, Bool.true_or, Bool.or_true, Bool.false_or, Bool.or_false, Bool.and_false, Bool.false_and, Bool.true_and, Bool.and_true, Bool.not_true, Bool.not_false, Bool.false_eq_true, if_true, if_false, ite_true, ite_false, true_and, and_true, and_assoc, String.reduceBEq, String.reduceEq, reduceIte, Bool.and_self, reduceCtorEq, false_and, and_false, exists_false, or_false, false_or, exists_const, iEnumS, iStr, iList, iTup, iRng1, iEnum, tFor_eq, tLc_eq, List.cons.injEq, wipe, not_true_eq_false, not_false_eq_true, upd_same, HO.ins.injEq, HO.tup.injEq, HO.lst.injEq, ofS_eq, lk_nil, lk_cons, pu_nil, pu_cons, sizeLine_eq, Nat.reduceLT, Nat.reduceLeDiff, Nat.reduceEqDiff, Nat.le_refl, decide_true, decide_false, tPr, dget_us, dput_us, vv_nil, vv_cons, RS.pk_nil, pk_one, RS.pk_cons, inr_eq, tDisp, tPairs, tBoolOwn, rBoolOwn, tBM, rAppend, ty_list, ty_str, rEqOwn, iEnumT, RS.tCallS, tM1, tDc_eq, tLock, tLockE, iKeys, tListEnum, rUpdate, tMkX0, tMkX1, tXfv, gSub, rSetL, List.getD_cons_zero, List.getD_cons_succ]
    refine mid_one [some (.ref a), some (.str "u"), none, none, none] (fun H1 => H1 = H) ?_ ?_
    · simp only [tyN_t h, tRet, tRetN, tSeq, C8.tCut, tNext, tAsg, gName, gNil, gCons, gTup, gFld, tIfS, tIf, tAndV, tOrV, tNotV, tAnd, tOr, tNot, tB, tTest, tOp, tUn, tCB, tCons, tNil, tVar, tC, tChain, tDrop, tCallG, tMethG, tMakeG, RS.tCallK, RS.tMakeK, tEqOwn, rI, rI0, rU, add_ii, add_ss, add_rr, mul_ii, mul_si, mul_ri, RS.eq_ii, RS.eq_ss, eq_bb, eq_nn, eq_sn, eq_ns, eq_in, eq_ni, eq_bn, eq_nb, eq_is, eq_si, eq_rr, ne_ii, ne_ss, ne_bb, ne_nn, ne_sn, ne_ns, ne_in, ne_ni, ne_is, ne_si, ne_rr, in_ss, in_r, nin_ss, nin_r, len_s, len_r, RS.ix_s, RS.ix_r, sl_s, sl_r, is_eq, tyN_n, tyN_b, tyN_i, tyN_s, tru_b, tru_i, tru_n, tSl, tPart, tNoPart, tPar, tPar3, tFmtZ, tFmt, tJs, tDGet, sDPut, sFld, tFld, tTup, tLst, tNever, isB,
  L2.start, List.map_cons, List.map_nil, List.length_cons, List.length_nil, Nat.reduceAdd, Nat.reduceSub, Nat.sub_self, List.replicate_zero, List.replicate_succ, List.append_nil, List.cons_append, List.nil_append, List.getElem?_cons_zero, List.getElem?_cons_succ, List.set_cons_zero, List.set_cons_succ, Option.some.injEq, exists_eq_left, exists_eq_left', exists_and_left, V.bl.injEq, V.int.injEq, V.str.injEq, V.ref.injEq, beq_self_eq_true, Bool.true_or, Bool.or_true, Bool.false_or, Bool.or_false, Bool.and_false, Bool.false_and, Bool.true_and, Bool.and_true, Bool.not_true, Bool.not_false, Bool.false_eq_true, if_true, if_false, ite_true, ite_false, true_and, and_true, and_assoc, String.reduceBEq, String.reduceEq, reduceIte, Bool.and_self, reduceCtorEq, false_and, and_false, exists_false, or_false, false_or, exists_const, iEnumS, iStr, iList, iTup, iRng1, iEnum, tFor_eq, tLc_eq, List.cons.injEq, wipe, not_true_eq_false, not_false_eq_true, upd_same, HO.ins.injEq, HO.tup.injEq, HO.lst.injEq, ofS_eq, lk_nil, lk_cons, pu_nil, pu_cons, sizeLine_eq, Nat.reduceLT, Nat.reduceLeDiff, Nat.reduceEqDiff, Nat.le_refl, decide_true, decide_false, tPr, dget_us, dput_us, vv_nil, vv_cons, RS.pk_nil, pk_one, RS.pk_cons, inr_eq, tDisp, tPairs, tBoolOwn, rBoolOwn, tBM, rAppend, ty_list, ty_str, rEqOwn, iEnumT, RS.tCallS, tM1, tDc_eq, tLock, tLockE, iKeys, tListEnum, rUpdate, tMkX0, tMkX1, tXfv, gSub, rSetL, List.getD_cons_zero, List.getD_cons_succ]
    intro H1 e1
    rw [e1]; clear e1 H1
    refine mid_one [some (.ref a), some (.str "u"), some (.str (("u" : Str) ++ num ds.length ++ ":")), none, none] (fun H1 => H1 = H) ?_ ?_
    · walk_at "sx"
      simp only [Str.empty_append, Str.length_append]
      exact ⟨by omega, by omega, .inl ⟨xs, .inr (SqT.of h), num_log (by omega), by rw [hl]; omega, by rw [hl]; omega, by rw [hl]; rfl⟩⟩
    intro H1 e1
    rw [e1]; clear e1 H1
    walk_at "sx"
    refine ⟨⟨_, rfl⟩, .inr ⟨⟨xs, SqT.of h⟩, ?_⟩⟩
    have e2 : (("u" : Str) ++ num ds.length ++ ":" ++ spells ds).length ≤ 1000000 := hz
    refine spell_items 4 (fun _ => rfl) (fun _ => rfl) (Same.refl _) hs hok.2 hok.1 (by simp only [PyData.depth] at hn; omega) (by omega) (fun i G lt sm => ⟨_, xs[i], SqT.of (sm _ _ h), List.getElem?_eq_getElem lt⟩) (fun G sm => ⟨_, SqT.of (sm _ _ h), Nat.le_refl _⟩) (fun i G x G' lt sm y => ⟨y.1, y.2 _ (SqT.of (sm _ _ h))⟩) (fun L ys G sm eL ec hs2 => ?_)
    refine ⟨L, rfl, ys, .inl (SqL.of eL), by rw [show (Str.ofString "").length = 0 from by decide +kernel]; omega, ?_⟩
    rw [join0, ec]
    exact ⟨by simp only [Str.length_append, num]; omega, q _ sm⟩
  | @dct a kvs D fp h hs na nd =>
    simp only [okB, Bool.and_eq_true, decide_eq_true_eq] at hok
    have hl := hs.len
    simp only [spell] at hz
    have hz' := hz
    simp only [Str.length_append, num] at hz'
    simp only [tyN_d h, tRet, tRetN, tSeq, C8.tCut, tNext, tAsg, gName, gNil, gCons, gTup, gFld, tIfS, tIf, tAndV, tOrV, tNotV, tAnd, tOr, tNot, tB, tTest, tOp, tUn, tCB, tCons, tNil, tVar, tC, tChain, tDrop, tCallG, tMethG, tMakeG, RS.tCallK, RS.tMakeK, tEqOwn, rI, rI0, rU, add_ii, add_ss, add_rr, mul_ii, mul_si, mul_ri, RS.eq_ii, RS.eq_ss, eq_bb, eq_nn, eq_sn, eq_ns, eq_in, eq_ni, eq_bn, eq_nb, eq_is, eq_si, eq_rr, ne_ii, ne_ss, ne_bb, ne_nn, ne_sn, ne_ns, ne_in, ne_ni, ne_is, ne_si, ne_rr, in_ss, in_r, nin_ss, nin_r, len_s, len_r, RS.ix_s, RS.ix_r, sl_s, sl_r, is_eq, tyN_n, tyN_b, tyN_i, tyN_s, tru_b, tru_i, tru_n, tSl, tPart, tNoPart, tPar, tPar3, tFmtZ, tFmt, tJs, tDGet, sDPut, sFld, tFld, tTup, tLst, tNever, isB,
  L2.start, List.map_cons, List.map_nil, List.length_cons, List.length_nil, Nat.reduceAdd, Nat.reduceSub, Nat.sub_self, List.replicate_zero, List.replicate_succ, List.append_nil, List.cons_append, List.nil_append, List.getElem?_cons_zero, List.getElem?_cons_succ, List.set_cons_zero, List.set_cons_succ, Option.some.injEq, exists_eq_left, exists_eq_left', exists_and_left, V.bl.injEq, V.int.injEq, V.str.injEq, V.ref.injEq, beq_self_eq_true, Bool.true_or, Bool.or_true, Bool.false_or, Bool.or_false, Bool.and_false, Bool.false_and, Bool.true_and, Bool.and_true, Bool.not_true, Bool.not_false, Bool.false_eq_true, if_true, if_false, ite_true, ite_false, true_and, and_true, and_assoc, String.reduceBEq, String.reduceEq, reduceIte, Bool.and_self, reduceCtorEq, false_and, and_false, exists_false, or_false, false_or, exists_const, iEnumS, iStr, iList, iTup, iRng1, iEnum, tFor_eq, tLc_eq, List.cons.injEq, wipe, not_true_eq_false, not_false_eq_true, upd_same, HO.ins.injEq, HO.tup.injEq, HO.lst.injEq, ofS_eq, lk_nil, lk_cons, pu_nil, pu_cons, sizeLine_eq, Nat.reduceLT, Nat.reduceLeDiff, Nat.reduceEqDiff, Nat.le_refl, decide_true, decide_false, tPr, dget_us, dput_us, vv_nil, vv_cons, RS.pk_nil, pk_one, RS.pk_cons, inr_eq, tDisp, tPairs, tBoolOwn, rBoolOwn, tBM, rAppend, ty_list, ty_str, rEqOwn, iEnumT, RS.tCallS, tM1, tDc_eq, tLock, tLockE, iKeys, tListEnum, rUpdate, tMkX0, tMkX1, tXfv, gSub, rSetL, List.getD_cons_zero, List.getD_cons_succ]
    refine mid_one [some (.ref a), some (.str "d"), none, none, none] (fun H1 => H1 = H) ?_ ?_
    · simp only [tyN_d h, tRet, tRetN, tSeq, C8.tCut, tNext, tAsg, gName, gNil, gCons, gTup, gFld, tIfS, tIf, tAndV, tOrV, tNotV, tAnd, tOr, tNot, tB, tTest, tOp, tUn, tCB, tCons, tNil, tVar, tC, tChain, tDrop, tCallG, tMethG, tMakeG, RS.tCallK, RS.tMakeK, tEqOwn, rI, rI0, rU, add_ii, add_ss, add_rr, mul_ii, mul_si, mul_ri, RS.eq_ii, RS.eq_ss, eq_bb, eq_nn, eq_sn, eq_ns, eq_in, eq_ni, eq_bn, eq_nb, eq_is, eq_si, eq_rr, ne_ii, ne_ss, ne_bb, ne_nn, ne_sn, ne_ns, ne_in, ne_ni, ne_is, ne_si, ne_rr, in_ss, in_r, nin_ss, nin_r, len_s, len_r, RS.ix_s, RS.ix_r, sl_s, sl_r, is_eq, tyN_n, tyN_b, tyN_i, tyN_s, tru_b, tru_i, tru_n, tSl, tPart, tNoPart, tPar, tPar3, tFmtZ, tFmt, tJs, tDGet, sDPut, sFld, tFld, tTup, tLst, tNever, isB,
  L2.start, List.map_cons, List.map_nil, List.length_cons, List.length_nil, Nat.reduceAdd, Nat.reduceSub, Nat.sub_self, List.replicate_zero, List.replicate_succ, List.append_nil, List.cons_append, List.nil_append, List.getElem?_cons_zero, List.getElem?_cons_succ, List.set_cons_zero, List.set_cons_succ, Option.some.injEq, exists_eq_left, exists_eq_left', exists_and_left, V.bl.injEq, V.int.injEq, V.str.injEq, V.ref.injEq, beq_self_eq_true, Bool.true_or, Bool.or_true, Bool.false_or, Bool.or_false, Bool.and_false, Bool.false_and, Bool.true_and, Bool.and_true, Bool.not_true, Bool.not_false, Bool.false_eq_true, if_true, if_false, ite_true, ite_false, true_and, and_true, and_assoc, String.reduceBEq, String.reduceEq, reduceIte, Bool.and_self, reduceCtorEq, false_and, and_false, exists_false, or_false, false_or, exists_const, iEnumS, iStr, iList, iTup, iRng1, iEnum, tFor_eq, tLc_eq, List.cons.injEq, wipe, not_true_eq_false, not_false_eq_true, upd_same, HO.ins.injEq, HO.tup.injEq, HO.lst.injEq, ofS_eq, lk_nil, lk_cons, pu_nil, pu_cons, sizeLine_eq, Nat.reduceLT, Nat.reduceLeDiff, Nat.reduceEqDiff, Nat.le_refl, decide_true, decide_false, tPr, dget_us, dput_us, vv_nil, vv_cons, RS.pk_nil, pk_one, RS.pk_cons, inr_eq, tDisp, tPairs, tBoolOwn, rBoolOwn, tBM, rAppend, ty_list, ty_str, rEqOwn, iEnumT, RS.tCallS, tM1, tDc_eq, tLock, tLockE, iKeys, tListEnum, rUpdate, tMkX0, tMkX1, tXfv, gSub, rSetL, List.getD_cons_zero, List.getD_cons_succ]
    intro H1 e1
    rw [e1]; clear e1 H1
    refine mid_one [some (.ref a), some (.str "d"), some (.str (("d" : Str) ++ num D.length ++ ":")), none, none] (fun H1 => H1 = H) ?_ ?_
    · walk_at "sx"
      simp only [Str.empty_append, Str.length_append]
      exact ⟨by omega, by omega, .inr ⟨kvs, h, num_log (by omega), by rw [hl]; omega, by rw [hl]; omega, by rw [hl]; rfl⟩⟩
    intro H1 e1
    rw [e1]; clear e1 H1
    walk_at "sx"
    refine ⟨⟨_, rfl⟩, a, _, h, True.intro, fun od => ⟨od, .inl ⟨kvs, upd_same, ?_⟩⟩⟩
    have hlk : ∀ c o, c ≠ a → H c = some o → upd H a (.frz od (.dK kvs)) c = some o := fun c o n z => by rw [upd_ne n]; exact z
    have hs1 : TrD (upd H a (.frz od (.dK kvs))) kvs D fp := hs.but (p := a) (fun xs z => by rw [h] at z; cases z) hlk na
    refine lc_all kvs.length (fun i => .str (spell ((D[i]?.getD (.none, .none)).1) ++ spell ((D[i]?.getD (.none, .none)).2))) (by rw [sizeLine_eq]; omega) (fun i G lt sm => ⟨sm _ _ upd_same, lt⟩) (fun G sm => ⟨sm _ _ upd_same, Nat.le_refl _⟩) (fun i G x G' K lt sm y k => ?_) (fun L G hL sm eL => ?_)
    · obtain ⟨rfl, k0, v0, hk, rfl⟩ := y
      obtain ⟨x, v, d, f', e1, e2, t, _⟩ := hs1.get lt
      rw [hk] at e1
      cases e1
      refine ⟨rfl, ?_⟩
      simp only [kV, tRet, tRetN, tSeq, C8.tCut, tNext, tAsg, gName, gNil, gCons, gTup, gFld, tIfS, tIf, tAndV, tOrV, tNotV, tAnd, tOr, tNot, tB, tTest, tOp, tUn, tCB, tCons, tNil, tVar, tC, tChain, tDrop, tCallG, tMethG, tMakeG, RS.tCallK, RS.tMakeK, tEqOwn, rI, rI0, rU, add_ii, add_ss, add_rr, mul_ii, mul_si, mul_ri, RS.eq_ii, RS.eq_ss, eq_bb, eq_nn, eq_sn, eq_ns, eq_in, eq_ni, eq_bn, eq_nb, eq_is, eq_si, eq_rr, ne_ii, ne_ss, ne_bb, ne_nn, ne_sn, ne_ns, ne_in, ne_ni, ne_is, ne_si, ne_rr, in_ss, in_r, nin_ss, nin_r, len_s, len_r, RS.ix_s, RS.ix_r, sl_s, sl_r, is_eq, tyN_n, tyN_b, tyN_i, tyN_s, tru_b, tru_i, tru_n, tSl, tPart, tNoPart, tPar, tPar3, tFmtZ, tFmt, tJs, tDGet, sDPut, sFld, tFld, tTup, tLst, tNever, isB,
  L2.start, List.map_cons, List.map_nil, List.length_cons, List.length_nil, Nat.reduceAdd, Nat.reduceSub, Nat.sub_self, List.replicate_zero, List.replicate_succ, List.append_nil, List.cons_append, List.nil_append, List.getElem?_cons_zero, List.getElem?_cons_succ, List.set_cons_zero, List.set_cons_succ, Option.some.injEq, exists_eq_left, exists_eq_left', exists_and_left, V.bl.injEq, V.int.injEq, V.str.injEq, V.ref.injEq, beq_self_eq_true, Bool.true_or, Bool.or_true, Bool.false_or, Bool.or_false, Bool.and_false, Bool.false_and, Bool.true_and, Bool.and_true, Bool.not_true, Bool.not_false, Bool.false_eq_true, if_true, if_false, ite_true, ite_false, true_and, and_true, and_assoc, String.reduceBEq, String.reduceEq, reduceIte, Bool.and_self, reduceCtorEq, false_and, and_false, exists_false, or_false, false_or, exists_const, iEnumS, iStr, iList, iTup, iRng1, iEnum, tFor_eq, tLc_eq, List.cons.injEq, wipe, not_true_eq_false, not_false_eq_true, upd_same, HO.ins.injEq, HO.tup.injEq, HO.lst.injEq, ofS_eq, lk_nil, lk_cons, pu_nil, pu_cons, sizeLine_eq, Nat.reduceLT, Nat.reduceLeDiff, Nat.reduceEqDiff, Nat.le_refl, decide_true, decide_false, tPr, dget_us, dput_us, vv_nil, vv_cons, RS.pk_nil, pk_one, RS.pk_cons, inr_eq, tDisp, tPairs, tBoolOwn, rBoolOwn, tBM, rAppend, ty_list, ty_str, rEqOwn, iEnumT, RS.tCallS, tM1, tDc_eq, tLock, tLockE, iKeys, tListEnum, rUpdate, tMkX0, tMkX1, tXfv, gSub, rSetL, List.getD_cons_zero, List.getD_cons_succ]
      have b1 := depth_kv e2
      have b2 := spellKv_get e2
      have b3 : PyData.depthKv D < n := by simp only [PyData.depth] at hn; omega
      refine ⟨_, rfl, .str x, [], .str x, (okKv_get hok.2 e2).1, by simp only [PyData.depth]; omega, by omega, fun H' s' => ⟨v0, .inl ⟨kvs, .inr x, .inr ⟨od, s' _ _ (sm _ _ upd_same)⟩, rfl, (valV_at nd hk).symm⟩, _, rfl, d, f', t.same (sm.trans s'), (okKv_get hok.2 e2).2, by omega, by omega, fun H'' s'' => ?_⟩⟩
      walk_at "sx"
      have := k H'' (s'.trans s'')
      rw [e2] at this
      exact ⟨by omega, this⟩
    · have e : (List.range kvs.length).map (fun i => V.str (spell ((D[i]?.getD (.none, .none)).1) ++ spell ((D[i]?.getD (.none, .none)).2))) = (D.map fun p => spell p.1 ++ spell p.2).map V.str := by
        rw [hl]
        refine List.ext_getElem (by simp) fun i h1 h2 => ?_
        simp at h1 h2
        simp [h1]
      have La := fresh_lock hL
      refine ⟨sm _ _ upd_same, L, rfl, D.map fun p => spell p.1 ++ spell p.2, .inl (SqL.of (by rw [upd_ne La.1, eL, e])), ?_, ?_⟩
      · have := cat_len (D.map fun p => spell p.1 ++ spell p.2)
        rw [cat_map_kv] at this
        have e0 : (Str.ofString "").length = 0 := by decide +kernel
        rw [e0, ← this]; omega
      · rw [join0, cat_map_kv]
        exact ⟨by simp only [Str.length_append, num]; omega, q _ (unlock h sm)⟩
end


theorem TrL.snoc {H : Hp} {v : V} {d : PyData} {f2 : List Addr} (h : Tr H v d f2) : ∀ {vs : List V} {ds : List PyData} {f1 : List Addr}, TrL H vs ds f1 → TrL H (vs ++ [v]) (ds ++ [d]) (f1 ++ f2)
  | _, _, _, .nil => by simpa using TrL.cons h .nil
  | _, _, _, .cons h1 hs => by simpa [List.append_assoc] using TrL.cons h1 (TrL.snoc h hs)
theorem TrD.snoc {H : Hp} {x : Str} {v : V} {d : PyData} {f2 : List Addr} (h : Tr H v d f2) : ∀ {vs : List (Key × V)} {ds : List (PyData × PyData)} {f1 : List Addr}, TrD H vs ds f1 → TrD H (vs ++ [(.inr x, v)]) (ds ++ [(.str x, d)]) (f1 ++ f2)
  | _, _, _, .nil => by simpa using TrD.cons (x := x) h .nil
  | _, _, _, .cons h1 hs => by simpa [List.append_assoc] using TrD.cons h1 (TrD.snoc h hs)
/-- a new key is put behind -/
theorem putK_new {kvs : List (Key × V)} {k : Key} {v : V} (h : k ∉ kvs.map (·.1)) : putK kvs k v = kvs ++ [(k, v)] := by
  unfold putK
  rw [if_neg]
  intro z
  obtain ⟨p, hp, e⟩ := List.any_eq_true.mp z
  exact h (List.mem_map.mpr ⟨p, hp, by simpa using e⟩)


section
variable {g : Wd} {f : Addr} {fd : FuncData}
theorem sc_text_of : FnScope ["value"] ["value"] (defScope s_text_of) := ⟨rfl, rfl, rfl, by decide +kernel, rfl, by decide +kernel, by decide +kernel⟩
def sp_text : Sp := S1 fun v H Q _ => ∃ d fp, Tr H v d fp ∧ okB d = true ∧ d.depth < 8 ∧ (spell d).length ≤ 1000000 ∧ ∀ H', Same H H' → Q (.str (spell d)) H'
theorem ok_text (F : Df g.K "text_of" "text_of" s_text_of f fd .none) (T : Txt g) (F_check_value : Kn g "check_value" 10 ["value"] [] sp_check) (F_spelled : Kn g "spelled" 9 ["value"] [] (sp_spell 8)) : FnG g 11 f fd ["value"] sp_text := by
  refine F.ok sc_text_of (fun vs H Q E h => S1.len h) (fun cdv A outer s H vs Q E hr h => ?_)
  obtain ⟨v, rfl, d, fp, hv, hok, hn, hz, q⟩ := h
  refine ⟨_, (pss_cons (ps_expr (pe_callG F_check_value (hr.mono (by first | decide | omega)) tkD (pa_cons (pv 0) pa_nil)))
      (pss_one (ps_ret (pe_callG F_spelled (hr.mono (by first | decide | omega)) tkD (pa_cons (pv 0) pa_nil))))), ?_⟩
  walk_at "sx"
  refine ⟨_, rfl, d, fp, hv, hok, hn, fun H1 s1 => ?_⟩
  walk_at "sx"
  exact ⟨_, rfl, d, fp, hv.same s1, hok, hn, hz, fun H2 s2 => q _ (s1.trans s2)⟩
end


section
variable {g : Wd} {f : Addr} {fd : FuncData}
theorem sc_l_mixed : FnScope ["_law_number", "_law_k"] ["_law_number", "_law_k"] (defScope s_l_mixed) := ⟨rfl, rfl, rfl, by decide +kernel, rfl, by decide +kernel, by decide +kernel⟩
def mixed (n k : Int) : Int := (n % 2147483647 + 7919 * k * k + 31 * k) * 48271 % 2147483647 * (69621 + 2 * k) % 2147483629
def sp_mixed : Sp := S2 fun a b H Q _ => ∃ n k : Int, a = .int n ∧ b = .int k ∧ 0 ≤ k ∧ k < 1000000 ∧ Q (.int (mixed n k)) H
theorem ok_mixed (F : Df g.K "_law_mixed" "_law_mixed" s_l_mixed f fd .none) (T : Txt g) : FnG g 1 f fd ["_law_number", "_law_k"] sp_mixed := by
  refine F.ok sc_l_mixed (fun vs H Q E h => S2.len h) (fun cdv A outer s H vs Q E hr h => ?_)
  obtain ⟨_, _, rfl, n, k, rfl, rfl, k0, k1, q⟩ := h
  refine ⟨_, (pss_cons (ps_set (i := 0) sc_l_mixed.nd rfl (Or.inl rfl) (pe_op op_mod (pe_op o_mul (pe_op (o_add (K := g.K)) (pe_op (o_add (K := g.K)) (pe_op op_mod (pv 0) pe_int) (pe_op o_mul (pe_op o_mul pe_int (pv 1)) (pv 1))) (pe_op o_mul pe_int (pv 1))) pe_int) pe_int))
      (pss_one (ps_ret (pe_op op_mod (pe_op o_mul (pv 0) (pe_op (o_add (K := g.K)) pe_int (pe_op o_mul pe_int (pv 1)))) pe_int)))), ?_⟩
  walk_at "sx"
  refine ⟨by decide, .inl ⟨by decide, by decide⟩, .inr ⟨by omega, by omega⟩, .inl ⟨by decide, by decide⟩, .inr ⟨by decide, by decide⟩, by decide, .inl ⟨by decide, by decide⟩, .inr ⟨by omega, by omega⟩, by decide, q⟩
theorem mixed_lo (n k : Int) : 0 ≤ mixed n k := Int.emod_nonneg _ (by decide)
/-- a stream: three numbers in a list -/
def Str3 (H : Hp) (p : Addr) (N : Nat) : Prop := ∃ a b c : Int, H p = some (.lst [.int a, .int b, .int c]) ∧ 0 ≤ b ∧ b ≤ N
theorem sc_l_stream : FnScope ["_law_item", "_law_k"] ["_law_item", "_law_k"] (defScope s_l_stream) := ⟨rfl, rfl, rfl, by decide +kernel, rfl, by decide +kernel, by decide +kernel⟩
def sp_stream : Sp := S2 fun a b H Q _ => ∃ n k : Int, a = .int n ∧ b = .int k ∧ 0 ≤ k ∧ k < 1000000 ∧ ∀ p H', H p = none → Same H H' → Str3 H' p 0 → Q (.ref p) H'
theorem ok_stream (F : Df g.K "_law_stream" "_law_stream" s_l_stream f fd .none) (T : Txt g) (F_l_mixed : Kn g "_law_mixed" 1 ["_law_number", "_law_k"] [] sp_mixed) : FnG g 2 f fd ["_law_item", "_law_k"] sp_stream := by
  refine F.ok sc_l_stream (fun vs H Q E h => S2.len h) (fun cdv A outer s H vs Q E hr h => ?_)
  obtain ⟨_, _, rfl, n, k, rfl, rfl, k0, k1, q⟩ := h
  refine ⟨_, (pss_one (ps_ret (pe_lst (pa_cons (pe_ifExp (pt_cmpR op_ge (pv 0) (pe_op op_pow pe_int pe_int) (nomark _)) (pv 0) pe_int) (pa_cons pe_int (pa_cons (pe_callG F_l_mixed (hr.mono (by first | decide | omega)) tkD (pa_cons (pv 0) (pa_cons (pv 1) pa_nil))) pa_nil)))))), ?_⟩
  walk_at "sx"
  refine ⟨⟨by decide, by decide, by decide⟩, ?_⟩
  split
  · exact ⟨_, _, rfl, n, k, rfl, rfl, k0, k1, fun p hp => q p _ hp (same_upd hp) ⟨_, _, _, upd_same, by decide, by decide⟩⟩
  · exact ⟨_, _, rfl, n, k, rfl, rfl, k0, k1, fun p hp => q p _ hp (same_upd hp) ⟨_, _, _, upd_same, by decide, by decide⟩⟩
theorem sc_l_draw : FnScope ["_law_stream_here", "_law_top", "_law_number"] ["_law_stream_here", "_law_top"] (defScope s_l_draw) := ⟨rfl, rfl, rfl, by decide +kernel, rfl, by decide +kernel, by decide +kernel⟩
def sp_draw : Sp := S2 fun a b H Q _ => ∃ (p : Addr) (N : Nat) (m : Int), a = .ref p ∧ b = .int m ∧ 0 < m ∧ m < 1000000 ∧ Str3 H p N ∧ N < 100000 ∧ ∀ (r : Int) H', 0 ≤ r → r < m → Str3 H' p (N + 1) → (∀ c o, c ≠ p → H c = some o → H' c = some o) → Q (.int r) H'
theorem ok_draw (F : Df g.K "_law_draw" "_law_draw" s_l_draw f fd .none) (T : Txt g) (F_l_mixed : Kn g "_law_mixed" 1 ["_law_number", "_law_k"] [] sp_mixed) : FnG g 2 f fd ["_law_stream_here", "_law_top"] sp_draw := by
  refine F.ok sc_l_draw (fun vs H Q E h => S2.len h) (fun cdv A outer s H vs Q E hr h => ?_)
  obtain ⟨_, _, rfl, p, N, m, rfl, rfl, m0, m1, ⟨a, b, c, hp, b0, b1⟩, hN, q⟩ := h
  refine ⟨_, (pss_cons (ps_asg (pe_op (o_add (K := g.K)) (pe_ix (o_ix (K := g.K)) (pv 0) pe_int (fun _ _ => rfl)) pe_int) (pg_sub (pv 0) pe_int set_list))
      (pss_cons (ps_if (pt_cmpR (o_eq (K := g.K) hr) (pe_ix (o_ix (K := g.K)) (pv 0) pe_int (fun _ _ => rfl)) pe_int (nomark _)) (pss_one (ps_ret (pe_op op_mod (pe_callG F_l_mixed (hr.mono (by first | decide | omega)) tkD (pa_cons (pe_callG F_l_mixed (hr.mono (by first | decide | omega)) tkD (pa_cons (pe_ix (o_ix (K := g.K)) (pv 0) pe_int (fun _ _ => rfl)) (pa_cons (pe_ix (o_ix (K := g.K)) (pv 0) pe_int (fun _ _ => rfl)) pa_nil))) (pa_cons pe_int pa_nil))) (pv 1)))) pss_nil)
      (pss_cons (ps_set (i := 2) sc_l_draw.nd rfl (Or.inl rfl) (pe_op op_mod (pe_ix (o_ix (K := g.K)) (pv 0) pe_int (fun _ _ => rfl)) (pv 1)))
      (pss_cons (ps_asg (pe_op op_fdiv (pe_ix (o_ix (K := g.K)) (pv 0) pe_int (fun _ _ => rfl)) (pv 1)) (pg_sub (pv 0) pe_int set_list))
      (pss_one (ps_ret (pv 2))))))), ?_⟩
  walk_at "sx"
  refine ⟨_, .inl (SqL.of hp), _, rfl, ?_⟩
  walk_at "sx"
  refine ⟨_, hp, 1, rfl, _, .inl (SqL.of upd_same), _, rfl, ?_⟩
  have e1 : upd H p (.lst ([V.int a, V.int b, V.int c].set 1 (.int (b + 1)))) p = some (.lst [.int a, .int (b + 1), .int c]) := upd_same
  have k1 : ∀ z o, z ≠ p → H z = some o → upd H p (.lst ([V.int a, V.int b, V.int c].set 1 (.int (b + 1)))) z = some o := fun z o hz ho => by rw [upd_ne hz]; exact ho
  generalize upd H p (.lst ([V.int a, V.int b, V.int c].set 1 (.int (b + 1)))) = G at e1 k1 ⊢
  show rEqU g.K (.int a) (.int 0) G _
  walk_at "sx"
  by_cases h0 : a = 0
  · rw [if_pos (by simpa using h0)]
    refine ⟨_, .inl (SqL.of e1), _, rfl, _, .inl (SqL.of e1), _, rfl, ?_⟩
    refine ⟨_, _, rfl, c, b + 1, rfl, rfl, by omega, by omega, _, _, rfl, _, 7, rfl, rfl, by decide, by decide, _, rfl, m0, ?_⟩
    exact q _ _ (Int.emod_nonneg _ (by omega)) (Int.emod_lt_of_pos _ m0) ⟨_, _, _, e1, by omega, by omega⟩ k1
  · rw [if_neg (by simpa using h0)]
    refine ⟨_, .inl (SqL.of e1), _, rfl, _, rfl, m0, _, .inl (SqL.of e1), _, rfl, _, rfl, ⟨m0, by omega⟩, _, e1, 0, rfl, ?_⟩
    exact q _ _ (Int.emod_nonneg _ (by omega)) (Int.emod_lt_of_pos _ m0) ⟨_, _, _, upd_same, by omega, by omega⟩ fun z o hz ho => by rw [upd_ne hz]; exact k1 z o hz ho
theorem sc_l_pick : FnScope ["_law_stream_here", "_law_some"] ["_law_stream_here", "_law_some"] (defScope s_l_pick) := ⟨rfl, rfl, rfl, by decide +kernel, rfl, by decide +kernel, by decide +kernel⟩
def sp_pick : Sp := S2 fun a b H Q _ => ∃ (p s : Addr) (xs : List V) (N : Nat), a = .ref p ∧ b = .ref s ∧ Str3 H p N ∧ N < 100000 ∧ H s = some (.lst xs) ∧ p ≠ s ∧ 0 < xs.length ∧ xs.length < 1000 ∧
  ∀ v H', v ∈ xs → Str3 H' p (N + 1) → (∀ c o, c ≠ p → H c = some o → H' c = some o) → Q v H'
theorem ok_pick (F : Df g.K "_law_pick" "_law_pick" s_l_pick f fd .none) (T : Txt g) (F_l_draw : Kn g "_law_draw" 2 ["_law_stream_here", "_law_top"] [] sp_draw) : FnG g 3 f fd ["_law_stream_here", "_law_some"] sp_pick := by
  refine F.ok sc_l_pick (fun vs H Q E h => S2.len h) (fun cdv A outer s H vs Q E hr h => ?_)
  obtain ⟨_, _, rfl, p, s', xs, N, rfl, rfl, hS, hN, hs, ne, l0, l1, q⟩ := h
  refine ⟨_, (pss_one (ps_ret (pe_ix (o_ix (K := g.K)) (pv 1) (pe_callG F_l_draw (hr.mono (by first | decide | omega)) tkD (pa_cons (pv 0) (pa_cons (pe_callB (c_len (K := g.K)) (by rfl) T.b_len bb_len (pa_cons (pv 1) pa_nil)) pa_nil))) (fun _ _ => rfl)))), ?_⟩
  walk_at "sx"
  refine .inl ⟨xs, .inl (SqL.of hs), ?_⟩
  refine ⟨_, _, rfl, p, N, xs.length, rfl, rfl, by omega, by omega, hS, hN, fun r H' r0 r1 S' k => ?_⟩
  obtain ⟨j, rfl⟩ := Int.eq_ofNat_of_zero_le r0
  have hj : j < xs.length := by omega
  walk_at "sx"
  exact ⟨xs, .inl (SqL.of (k _ _ (Ne.symm ne) hs)), xs[j], atI_nat (List.getElem?_eq_getElem hj), q _ _ (List.getElem_mem hj) S' k⟩

/-- but for the stream at p all stays -/
def But (p : Addr) (H H' : Hp) : Prop := ∀ c o, c ≠ p → H c = some o → H' c = some o
theorem But.trans {p : Addr} {H H1 H2 : Hp} (a : But p H H1) (b : But p H1 H2) : But p H H2 := fun c o n z => b c o n (a c o n z)
theorem But.of {p : Addr} {H H' : Hp} (s : Same H H') : But p H H' := fun c o _ z => s c o z
theorem Str3.same {H H' : Hp} {p : Addr} {N : Nat} (h : Str3 H p N) (s : Same H H') : Str3 H' p N := by obtain ⟨a, b, c, h1, h2⟩ := h; exact ⟨a, b, c, s _ _ h1, h2⟩
theorem Str3.ne {H : Hp} {p q : Addr} {N : Nat} (h : Str3 H p N) (n : H q = none) : q ≠ p := fun e => by obtain ⟨a, b, c, h1, _⟩ := h; rw [← e, n] at h1; cases h1
def wordsA : List Str := ["", "a", "b", "s1:a", "i5;", "l0:", ":", ";", "0", "\n", "n", "ab c", "\"", "d1:"]
def wordsB : List Str := ["", "", "x", "10:"]
theorem wordsA_len : ∀ x ∈ wordsA, x.length ≤ 4 ∧ asc x = true := by decide +kernel
theorem wordsB_len : ∀ x ∈ wordsB, x.length ≤ 4 ∧ asc x = true := by decide +kernel
theorem sc_l_word : FnScope ["_law_stream_here", "_law_some"] ["_law_stream_here"] (defScope s_l_word) := ⟨rfl, rfl, rfl, by decide +kernel, rfl, by decide +kernel, by decide +kernel⟩
def sp_word : Sp := S1 fun a H Q _ => ∃ p N, a = .ref p ∧ Str3 H p N ∧ N + 2 < 100000 ∧ ∀ x H', x.length ≤ 8 → asc x = true → Str3 H' p (N + 2) → But p H H' → Q (.str x) H'
theorem ok_word (F : Df g.K "_law_word" "_law_word" s_l_word f fd .none) (T : Txt g) (F_l_pick : Kn g "_law_pick" 3 ["_law_stream_here", "_law_some"] [] sp_pick) : FnG g 4 f fd ["_law_stream_here"] sp_word := by
  refine F.ok sc_l_word (fun vs H Q E h => S1.len h) (fun cdv A outer s H vs Q E hr h => ?_)
  obtain ⟨_, rfl, p, N, rfl, hS, hN, q⟩ := h
  refine ⟨_, (pss_cons (ps_set (i := 1) sc_l_word.nd rfl (Or.inl rfl) (pe_lst (pa_cons pe_str (pa_cons pe_str (pa_cons pe_str (pa_cons pe_str (pa_cons pe_str (pa_cons pe_str (pa_cons pe_str (pa_cons pe_str (pa_cons pe_str (pa_cons pe_str (pa_cons pe_str (pa_cons pe_str (pa_cons pe_str (pa_cons pe_str pa_nil))))))))))))))))
      (pss_one (ps_ret (pe_op (o_add (K := g.K)) (pe_callG F_l_pick (hr.mono (by first | decide | omega)) tkD (pa_cons (pv 0) (pa_cons (pv 1) pa_nil))) (pe_callG F_l_pick (hr.mono (by first | decide | omega)) tkD (pa_cons (pv 0) (pa_cons (pe_lst (pa_cons pe_str (pa_cons pe_str (pa_cons pe_str (pa_cons pe_str pa_nil))))) pa_nil))))))), ?_⟩
  walk_at "sx"
  intro p1 hp1
  have s1 := same_upd (o := HO.lst (wordsA.map V.str)) hp1
  refine ⟨_, _, rfl, p, p1, wordsA.map V.str, N, rfl, rfl, hS.same s1, by omega, upd_same, (hS.ne hp1).symm, by decide, by decide, fun v1 H1 hv1 S1 k1 => ?_⟩
  walk_at "sx"
  intro p2 hp2
  have s2 := same_upd (o := HO.lst (wordsB.map V.str)) hp2
  refine ⟨_, _, rfl, p, p2, wordsB.map V.str, N + 1, rfl, rfl, S1.same s2, by omega, upd_same, (S1.ne hp2).symm, by decide, by decide, fun v2 H2 hv2 S2 k2 => ?_⟩
  obtain ⟨x1, m1, rfl⟩ := List.mem_map.mp hv1
  obtain ⟨x2, m2, rfl⟩ := List.mem_map.mp hv2
  have l1 := wordsA_len x1 m1
  have l2 := wordsB_len x2 m2
  walk_at "sx"
  exact ⟨by omega, q _ _ (by rw [Str.length_append]; omega) (asc_app l1.2 l2.2) S2 (((But.of s1).trans k1).trans ((But.of s2).trans k2))⟩
theorem Str3.up {H : Hp} {p : Addr} {N M : Nat} (h : Str3 H p N) (l : N ≤ M) : Str3 H p M := by obtain ⟨a, b, c, h1, h2, h3⟩ := h; exact ⟨a, b, c, h1, h2, by omega⟩
theorem sc_l_plain : FnScope ["_law_stream_here", "_law_way", "_law_small", "_law_big"] ["_law_stream_here"] (defScope s_l_plain) := ⟨rfl, rfl, rfl, by decide +kernel, rfl, by decide +kernel, by decide +kernel⟩
def sp_plain : Sp := S1 fun a H Q _ => ∃ p N, a = .ref p ∧ Str3 H p N ∧ N + 4 < 100000 ∧ ∀ v d H', Tr H' v d [] → smB d = true → d.depth = 0 → Str3 H' p (N + 4) → But p H H' → Q v H'
theorem ok_plain (F : Df g.K "_law_plain" "_law_plain" s_l_plain f fd .none) (T : Txt g) (F_l_pick : Kn g "_law_pick" 3 ["_law_stream_here", "_law_some"] [] sp_pick) (F_l_draw : Kn g "_law_draw" 2 ["_law_stream_here", "_law_top"] [] sp_draw) (F_l_word : Kn g "_law_word" 4 ["_law_stream_here"] [] sp_word) : FnG g 5 f fd ["_law_stream_here"] sp_plain := by
  refine F.ok sc_l_plain (fun vs H Q E h => S1.len h) (fun cdv A outer s H vs Q E hr h => ?_)
  obtain ⟨_, rfl, p, N, rfl, hS, hN, q⟩ := h
  refine ⟨_, (pss_mid (ps_par3 (i := 1) (j := 2) (l := 3) (by rfl) sc_l_plain.nd rfl rfl rfl (by decide) (by decide) (by decide) rfl rfl rfl (pa_cons (pe_callG F_l_draw (hr.mono (by first | decide | omega)) tkD (pa_cons (pv 0) (pa_cons pe_int pa_nil))) (pa_cons (pe_op op_sub (pe_callG F_l_draw (hr.mono (by first | decide | omega)) tkD (pa_cons (pv 0) (pa_cons pe_int pa_nil))) pe_int) (pa_cons (pe_op op_mulW (pe_op op_pow pe_int pe_int) (pe_op op_pow pe_int pe_int)) pa_nil))) (by rfl))
      (pss_cons (ps_if (pt_cmpR op_lt (pv 1) pe_int (nomark _)) (pss_one (ps_ret (pe_callG F_l_word (hr.mono (by first | decide | omega)) tkD (pa_cons (pv 0) pa_nil)))) pss_nil)
      (pss_cons (ps_if (pt_cmpR (o_eq (K := g.K) hr) (pv 1) pe_int (nomark _)) (pss_one (ps_ret (pe_callG F_l_pick (hr.mono (by first | decide | omega)) tkD (pa_cons (pv 0) (pa_cons (pe_lst (pa_cons pe_non (pa_cons pe_bl (pa_cons pe_bl pa_nil)))) pa_nil))))) pss_nil)
      (pss_cons (ps_if (pt_cmpR (o_eq (K := g.K) hr) (pv 1) pe_int (nomark _)) (pss_one (ps_ret (pv 2))) pss_nil)
      (pss_one (ps_ret (pe_callG F_l_pick (hr.mono (by first | decide | omega)) tkD (pa_cons (pv 0) (pa_cons (pe_lst (pa_cons pe_int (pa_cons pe_int (pa_cons (pe_un un_neg pe_int) (pa_cons pe_int (pa_cons (pe_un un_neg pe_int) (pa_cons pe_int (pa_cons (pe_op op_sub (pv 3) pe_int) (pa_cons (pe_op op_sub pe_int (pv 3)) (pa_cons (pe_op op_fdiv (pv 3) pe_int) (pa_cons (pe_op op_sub (pe_op op_sub (pe_op op_fdiv (pv 3) pe_int) pe_int) (pe_callB call_abs (by rfl) T.b_abs bb_abs (pa_cons (pv 2) pa_nil))) pa_nil))))))))))) pa_nil))))))))), ?_⟩
  refine mid_at (fun σ H1 => ∃ w sm : Int, σ = [some (.ref p), some (.int w), some (.int sm), some (.int (10 ^ 50 * 10 ^ 50))] ∧ -1000 ≤ sm ∧ sm < 1000 ∧ Str3 H1 p (N + 2) ∧ But p H H1) ?_ ?_
  · walk_at "sx"
    refine ⟨_, _, rfl, p, N, 6, rfl, rfl, by decide, by decide, hS, by omega, fun r H1 r0 r1 S1 k1 => ?_⟩
    walk_at "sx"
    refine ⟨_, _, rfl, p, N + 1, 2000, rfl, rfl, by decide, by decide, S1, by omega, fun r2 H2 r20 r21 S2 k2 => ?_⟩
    walk_at "sx"
    exact ⟨⟨by decide, by decide, by decide⟩, ⟨by decide, by decide, by decide⟩, by unfold CMulW; decide +kernel, rfl, by omega, by omega, S2, But.trans k1 k2⟩
  rintro _ H1 ⟨w, sm, rfl, sm0, sm1, S1, k1⟩
  walk_at "sx"
  split
  · refine ⟨_, rfl, p, N + 2, rfl, S1, by omega, fun x H2 hx ha S2 k2 => q _ (.str x) _ (.str x) ?_ rfl S2 (k1.trans k2)⟩
    simp only [smB, Bool.and_eq_true, decide_eq_true_eq]
    exact ⟨hx, ha⟩
  split
  · intro p1 hp1
    have s1 := same_upd (o := HO.lst [V.non, V.bl true, V.bl false]) hp1
    refine ⟨_, _, rfl, p, p1, _, N + 2, rfl, rfl, S1.same s1, by omega, upd_same, (S1.ne hp1).symm, by decide, by decide, fun v H2 hv S2 k2 => ?_⟩
    have kk := k1.trans ((But.of s1).trans k2)
    simp only [List.mem_cons, List.not_mem_nil, or_false] at hv
    rcases hv with rfl | rfl | rfl
    · exact q _ _ _ .non rfl rfl (S2.up (by omega)) kk
    · exact q _ _ _ (.bl _) rfl rfl (S2.up (by omega)) kk
    · exact q _ _ _ (.bl _) rfl rfl (S2.up (by omega)) kk
  have big : ∀ i : Int, i.natAbs < 10 ^ 100 → smB (.int i) = true := fun i h => by simp only [smB, decide_eq_true_eq]; exact h
  split
  · exact q _ (.int sm) _ (.int sm) (big sm (by omega)) rfl (S1.up (by omega)) k1
  · have e100 : (10 : Int) ^ 50 * 10 ^ 50 = 10 ^ 100 := by decide +kernel
    refine ⟨⟨by decide, by decide⟩, ⟨by decide, by decide⟩, fun p1 hp1 => ?_⟩
    have s1 := same_upd (o := HO.lst [V.int 0, V.int 1, V.int (-1), V.int 10, V.int (-10), V.int 100, V.int (10 ^ 50 * 10 ^ 50 - 1), V.int (1 - 10 ^ 50 * 10 ^ 50), V.int (10 ^ 50 * 10 ^ 50 / 10), V.int (10 ^ 50 * 10 ^ 50 / 10 - 1 - if sm < 0 then -sm else sm)]) hp1
    refine ⟨_, _, rfl, p, p1, _, N + 2, rfl, rfl, S1.same s1, by omega, upd_same, (S1.ne hp1).symm, by simp, by simp, fun v H2 hv S2 k2 => ?_⟩
    have kk := k1.trans ((But.of s1).trans k2)
    have S2' := S2.up (M := N + 4) (by omega)
    simp only [List.mem_cons, List.not_mem_nil, or_false] at hv
    rw [e100] at hv
    have e99 : (10 : Int) ^ 100 / 10 = 10 ^ 99 := by decide +kernel
    rw [e99] at hv
    rcases hv with rfl | rfl | rfl | rfl | rfl | rfl | rfl | rfl | rfl | rfl
    · exact q _ _ _ (.int _) (big _ (by decide +kernel)) rfl S2' kk
    · exact q _ _ _ (.int _) (big _ (by decide +kernel)) rfl S2' kk
    · exact q _ _ _ (.int _) (big _ (by decide +kernel)) rfl S2' kk
    · exact q _ _ _ (.int _) (big _ (by decide +kernel)) rfl S2' kk
    · exact q _ _ _ (.int _) (big _ (by decide +kernel)) rfl S2' kk
    · exact q _ _ _ (.int _) (big _ (by decide +kernel)) rfl S2' kk
    · exact q _ _ _ (.int _) (big _ (by decide +kernel)) rfl S2' kk
    · exact q _ _ _ (.int _) (big _ (by decide +kernel)) rfl S2' kk
    · exact q _ _ _ (.int _) (big _ (by decide +kernel)) rfl S2' kk
    · refine q _ _ _ (.int _) (big _ ?_) rfl S2' kk
      have a1 : (10 : Int) ^ 99 = 10 ^ 4 * 10 ^ 95 := by decide +kernel
      have a2 : (1 : Int) ≤ 10 ^ 95 := by decide +kernel
      have a3 : (10 : Int) ^ 99 < 10 ^ 100 := by decide +kernel
      have a4 : (((10 : Nat) ^ 100 : Nat) : Int) = 10 ^ 100 := by decide +kernel
      split <;> omega
end


def cst : Nat → Nat
  | 0 => 4
  | n + 1 => 8 + 3 * cst n
theorem smAll_app : ∀ {a b : List PyData}, smAll a = true → smAll b = true → smAll (a ++ b) = true
  | [], _, _, h => h
  | x :: a, b, h1, h2 => by
    simp only [smAll, Bool.and_eq_true] at h1
    simp only [List.cons_append, smAll, Bool.and_eq_true]
    exact ⟨h1.1, smAll_app h1.2 h2⟩
theorem depthAll_app : ∀ (a b : List PyData), PyData.depthAll (a ++ b) = max (PyData.depthAll a) (PyData.depthAll b)
  | [], b => by simp [PyData.depthAll]
  | x :: a, b => by simp only [List.cons_append, PyData.depthAll, depthAll_app a b]; omega
def words5 : List Str := ["a", "b", "", "s1:a", "k 1"]
def w5 (i : Int) : Str := (words5[i.toNat]?).getD ""
def kv5 (r : Int) : List V → List (Key × V)
  | [] => []
  | x :: xs => (.inr (w5 (r % 5)), x) :: kv5 (r + 1) xs
def kd5 (r : Int) : List PyData → List (PyData × PyData)
  | [] => []
  | x :: xs => (.str (w5 (r % 5)), x) :: kd5 (r + 1) xs
theorem kv5_len : ∀ (r : Int) (xs : List V), (kv5 r xs).length = xs.length
  | _, [] => rfl
  | r, x :: xs => by simp [kv5, kv5_len (r + 1) xs]
theorem kd5_len : ∀ (r : Int) (xs : List PyData), (kd5 r xs).length = xs.length
  | _, [] => rfl
  | r, x :: xs => by simp [kd5, kd5_len (r + 1) xs]
theorem kv5_get : ∀ (xs : List V) (r : Int) (i : Nat), (kv5 r xs)[i]? = (xs[i]?).map fun x => ((.inr (w5 ((r + (i : Nat)) % 5)) : Key), x)
  | [], _, _ => by simp [kv5]
  | x :: xs, r, 0 => by simp [kv5]
  | x :: xs, r, i + 1 => by
    have := kv5_get xs (r + 1) i
    have e : r + 1 + (i : Nat) = r + ((i + 1 : Nat) : Int) := by omega
    rw [e] at this
    simpa [kv5] using this
theorem trD5 {H : Hp} : ∀ {xs : List V} {ds : List PyData} {fp : List Addr}, TrL H xs ds fp → ∀ r : Int, TrD H (kv5 r xs) (kd5 r ds) fp
  | _, _, _, .nil, _ => .nil
  | _, _, _, .cons h hs, r => .cons h (trD5 hs (r + 1))
theorem w5_ok : ∀ r : Int, (w5 r).length ≤ 4 ∧ asc (w5 r) = true := fun r => by
  have : ∀ j : Nat, j < 5 → ((words5[j]?).getD "").length ≤ 4 ∧ asc ((words5[j]?).getD "") = true := by decide +kernel
  unfold w5
  by_cases h : r.toNat < 5
  · exact this _ h
  · rw [List.getElem?_eq_none (by show 5 ≤ r.toNat; omega)]
    decide +kernel
theorem kd5_sm : ∀ (ds : List PyData) (r : Int), smAll ds = true → smKv (kd5 r ds) = true
  | [], _, _ => rfl
  | d :: ds, r, h => by
    simp only [smAll, Bool.and_eq_true] at h
    have := w5_ok (r % 5)
    simp only [kd5, smKv, keyB, Bool.and_eq_true, decide_eq_true_eq]
    exact ⟨⟨this, h.1⟩, kd5_sm ds (r + 1) h.2⟩
theorem kd5_depth : ∀ (ds : List PyData) (r : Int), PyData.depthKv (kd5 r ds) = PyData.depthAll ds
  | [], _ => rfl
  | d :: ds, r => by simp only [kd5, PyData.depthKv, PyData.depthAll, kd5_depth ds (r + 1), PyData.depth]; omega
theorem kv5_nodup (r : Int) (xs : List V) (r0 : 0 ≤ r) (r1 : r < 5) (h : xs.length ≤ 3) : ((kv5 r xs).map (·.1)).Nodup := by
  have hr : r = 0 ∨ r = 1 ∨ r = 2 ∨ r = 3 ∨ r = 4 := by omega
  match xs, h with
  | [], _ => exact .nil
  | [x], _ => simp [kv5]
  | [x, y], _ => rcases hr with rfl | rfl | rfl | rfl | rfl <;> (simp only [kv5, List.map_cons, List.map_nil]; decide +kernel)
  | [x, y, z], _ => rcases hr with rfl | rfl | rfl | rfl | rfl <;> (simp only [kv5, List.map_cons, List.map_nil]; decide +kernel)
theorem mergeK_app : ∀ (more kvs : List (Key × V)), ((kvs ++ more).map (·.1)).Nodup → mergeK kvs more = kvs ++ more
  | [], kvs, _ => by simp [mergeK]
  | p :: more, kvs, nd => by
    have e : mergeK kvs (p :: more) = mergeK (putK kvs p.1 p.2) more := rfl
    have hp : p.1 ∉ kvs.map (·.1) := by
      rw [List.map_append, List.map_cons] at nd
      intro z
      exact (List.nodup_append.mp nd).2.2 _ z _ (List.mem_cons_self ..) rfl
    rw [e, putK_new hp, mergeK_app more _ (by simpa using nd)]
    simp
theorem mergeK_nd {kvs : List (Key × V)} (nd : (kvs.map (·.1)).Nodup) : mergeK [] kvs = kvs := by simpa using mergeK_app kvs [] (by simpa using nd)
theorem paired_imp {α β : Type} {F G : α → β → Prop} : ∀ {xs : List α} {ys : List β}, Paired F xs ys → (∀ x y, F x y → G x y) → Paired G xs ys
  | _, _, .nil, _ => .nil
  | _, _, .cons h hs, k => .cons (k _ _ h) (paired_imp hs k)
theorem paired_snoc {α β : Type} {F : α → β → Prop} : ∀ {xs : List α} {ys : List β} {x : α} {y : β}, Paired F xs ys → F x y → Paired F (xs ++ [x]) (ys ++ [y])
  | _, _, _, _, .nil, h => .cons h .nil
  | _, _, _, _, .cons a as, h => .cons a (paired_snoc as h)
section
variable {g : Wd} {f : Addr} {fd : FuncData}
theorem sc_l_value : FnScope ["_law_stream_here", "_law_deep", "_law_way", "_law_items", "_law_words", "_law_first", "_law_turn", "_law_at", "_law_item"] ["_law_stream_here", "_law_deep"] (defScope s_l_value) := ⟨rfl, rfl, rfl, by decide +kernel, rfl, by decide +kernel, by decide +kernel⟩
def sp_value (n : Nat) : Sp := S2 fun a b H Q _ => ∃ (p : Addr) (N k : Nat), a = .ref p ∧ b = .int (k : Nat) ∧ k < n ∧ k ≤ 3 ∧ Str3 H p N ∧ N + cst k < 100000 ∧
  ∀ v d fp H', Tr H' v d fp → smB d = true → d.depth ≤ k → (∀ c ∈ fp, H c = none) → Str3 H' p (N + cst k) → But p H H' → Q v H'
theorem ok_value (n : Nat) (F : Df g.K "_law_value" "_law_value" s_l_value f fd .none) (T : Txt g) (F_l_draw : Kn g "_law_draw" 2 ["_law_stream_here", "_law_top"] [] sp_draw) (F_l_plain : Kn g "_law_plain" 5 ["_law_stream_here"] [] sp_plain) (F_l_value : Kn g "_law_value" (n + 5) ["_law_stream_here", "_law_deep"] [] (sp_value n)) : FnG g (n + 6) f fd ["_law_stream_here", "_law_deep"] (sp_value (n + 1)) := by
  refine F.ok sc_l_value (fun vs H Q E h => S2.len h) (fun cdv A outer s H vs Q E hr h => ?_)
  obtain ⟨_, _, rfl, p, N, k, rfl, rfl, hk, k3, hS, hN, q⟩ := h
  refine ⟨_, (pss_mid (ps_set (i := 2) sc_l_value.nd rfl (Or.inl rfl) (pe_ifExp (pt_cmpR op_gt (pv 1) pe_int (nomark _)) (pe_callG F_l_draw (hr.mono (by first | decide | omega)) tkD (pa_cons (pv 0) (pa_cons pe_int pa_nil))) pe_int))
      (pss_cons (ps_if (pt_cmpR op_lt (pv 2) pe_int (nomark _)) (pss_one (ps_ret (pe_callG F_l_plain (hr.mono (by first | decide | omega)) tkD (pa_cons (pv 0) pa_nil)))) pss_nil)
      (pss_mid (ps_setLc (i := 3) (own := [("_law_turn", 6)]) (tt := tYes) rfl sc_l_value.nd rfl rfl (sw_true rfl rfl rfl (by decide +kernel)) (pi_range1 rfl T.b_range (pa_cons (pe_callG F_l_draw (hr.mono (by first | decide | omega)) tkD (pa_cons (pv 0) (pa_cons pe_int pa_nil))) pa_nil)) (blkOk_by (own := [("_law_turn", 6)]) (N := ["_law_stream_here", "_law_deep", "_law_way", "_law_items", "_law_words", "_law_first", "_law_turn", "_law_at", "_law_item"]) (sc := defScope s_l_value) (by decide +kernel)) (fun _ _ _ _ _ => (pg_name (i := 6) sc_l_value.nd rfl (.inl rfl))) (fun _ _ _ _ _ => pts_nil) (fun _ _ _ _ _ => (pe_callG F_l_value (Rm.mono (Rm.mk hr.room hr.gd) (by first | decide | omega)) takes0 (pa_cons (pv 0) (pa_cons (pe_op op_sub (pv 1) pe_int) pa_nil)))))
      (pss_cons (ps_if (pt_cmpR op_lt (pv 2) pe_int (nomark _)) (pss_one (ps_ret (pv 3))) pss_nil)
      (pss_cons (ps_if (pt_cmpR op_lt (pv 2) pe_int (nomark _)) (pss_one (ps_ret (pe_callTy call_tuple_of (by rfl) T.b_tuple bb_tuple (pa_cons (pv 3) pa_nil)))) pss_nil)
      (pss_mid (ps_asg (pe_tup (pa_cons (pe_lst (pa_cons pe_str (pa_cons pe_str (pa_cons pe_str (pa_cons pe_str (pa_cons pe_str pa_nil)))))) (pa_cons (pe_callG F_l_draw (hr.mono (by first | decide | omega)) tkD (pa_cons (pv 0) (pa_cons pe_int pa_nil))) pa_nil))) (g_tup (K := g.K) (n := 2) (pgs_cons (pg_name (i := 4) sc_l_value.nd rfl (.inr rfl)) (pgs_cons (pg_name (i := 5) sc_l_value.nd rfl (.inr rfl)) pgs_nil))))
      (pss_one (ps_ret (pe_callTy (call_dictP rfl) (by rfl) T.b_dict bb_dict (pa_cons (pe_lc (own := [("_law_at", 7), ("_law_item", 8)]) (tt := tYes) rfl sc_l_value.nd (i_enum (K := g.K) T.b_enumerate (pa_cons (pv 3) pa_nil)) (blkOk_by (own := [("_law_at", 7), ("_law_item", 8)]) (N := ["_law_stream_here", "_law_deep", "_law_way", "_law_items", "_law_words", "_law_first", "_law_turn", "_law_at", "_law_item"]) (sc := defScope s_l_value) (by decide +kernel)) (fun _ _ _ _ _ => (g_tup (K := g.K) (n := 2) (pgs_cons (pg_name (i := 7) sc_l_value.nd rfl (.inl rfl)) (pgs_cons (pg_name (i := 8) sc_l_value.nd rfl (.inl rfl)) pgs_nil)))) (fun _ _ _ _ _ => pts_nil) (fun _ _ _ _ _ => (pe_tup (pa_cons (pe_ix (o_ix (K := g.K)) (pv 4) (pe_op op_mod (pe_op (o_add (K := g.K)) (pv 5) (pv 7)) pe_int) (fun _ _ => rfl)) (pa_cons (pv 8) pa_nil))))) pa_nil)))))))))), ?_⟩
  refine mid_at (fun σ H1 => ∃ w : Int, σ = [some (.ref p), some (.int (k : Nat)), some (.int w), none, none, none, none, none, none] ∧ (k = 0 → w = 0) ∧ Str3 H1 p (N + min k 1) ∧ But p H H1) ?_ ?_
  · walk_at "sx"
    split
    · rename_i hk0
      have hk0 : 0 < k := by simpa using hk0
      refine ⟨_, _, rfl, p, N, 9, rfl, rfl, by decide, by decide, hS, by omega, fun r H1 r0 r1 S1 k1 => ⟨r, rfl, by omega, S1.up (by omega), k1⟩⟩
    · rename_i hk0
      have hk0 : k = 0 := by simpa using hk0
      subst hk0
      exact ⟨fun _ => trivial, hS, But.of (Same.refl _)⟩
  rintro _ H1 ⟨w, rfl, w0, S1, k1⟩
  have cst4 : 4 + min k 1 ≤ cst k := by cases k with | zero => decide | succ k => simp only [cst]; omega
  walk_at "sx"
  split
  · refine ⟨_, rfl, p, N + min k 1, rfl, S1, by omega, fun v d H2 tr sm dp S2 k2 => q v d [] H2 tr sm (by omega) (by simp) (S2.up (by omega)) (k1.trans k2)⟩
  · rename_i hw3
    have hw3 : 3 ≤ w := by simpa using hw3
    obtain ⟨k', rfl⟩ : ∃ k', k = k' + 1 := by
      cases k with
      | zero => have := w0 rfl; omega
      | succ k' => exact ⟨k', rfl⟩
    have S1 : Str3 H1 p (N + 1) := S1.up (by omega)
    simp only [cst] at hN q
    have k1n : ∀ c, H1 c = none → H c = none := fun c z => by
      cases e : H c with
      | none => rfl
      | some o =>
        have cp : c ≠ p := fun y => by obtain ⟨_, _, _, h1, _⟩ := S1; rw [y, h1] at z; cases z
        have := k1 c o cp e
        rw [z] at this; cases this
    refine mid_at (fun σ H2 => ∃ D acc ds fa, σ = [some (.ref p), some (.int ((k' + 1 : Nat) : Nat)), some (.int w), some (.ref D), none, none, none, none, none] ∧ Str3 H2 p (N + 2 + 3 * cst k') ∧ But p H H2 ∧ H D = none ∧ D ≠ p ∧ H2 D = some (.lst acc) ∧ TrL H2 acc ds fa ∧ smAll ds = true ∧ PyData.depthAll ds ≤ k' ∧ ds.length ≤ 3 ∧ (∀ c ∈ fa, H c = none) ∧ D ∉ fa ∧ p ∉ fa) ?_ ?_
    · walk_at "sx"
      refine ⟨_, _, rfl, p, N + 1, 4, rfl, rfl, by decide, by decide, S1, by omega, fun r H2 r0 r1 S2 k2 => ⟨r, rfl, by omega, by omega, ?_⟩⟩
      have k2n : ∀ c, H2 c = none → H c = none := fun c z => by
        cases e : H1 c with
        | none => exact k1n c e
        | some o =>
          have cp : c ≠ p := fun y => by obtain ⟨_, _, _, h1, _⟩ := S2; rw [y, h1] at z; cases z
          have := k2 c o cp e
          rw [z] at this; cases this
      refine lc_invA r.toNat (fun D i acc G => But p H2 G ∧ Str3 G p (N + 2 + i * cst k') ∧ ∃ ds fa, TrL G acc ds fa ∧ smAll ds = true ∧ PyData.depthAll ds ≤ k' ∧ ds.length = i ∧ ∀ c ∈ fa, H2 c = none ∧ c ≠ D) (by rw [sizeLine_eq]; omega) (fun D hD => ⟨But.of (same_upd hD), by simpa using S2.same (same_upd hD), [], [], .nil, rfl, Nat.zero_le _, rfl, by simp⟩) (fun D i acc G hD lt P => by simpa [Itr] using lt) (fun D acc G hD P => by simp [Itr]; omega) (fun D i acc G x G' K hD lt la P eD y k0 => ?_) (fun D acc G hD P eD => ?_)
      · obtain ⟨b, SG, ds, fa, ta, sa, da, la', na⟩ := P
        obtain ⟨rfl, rfl⟩ := y
        refine ⟨rfl, ?_⟩
        walk_at "sx"
        have pD : D ≠ p := S2.ne hD
        have i3 : i < 3 := by omega
        have ci : i * cst k' + cst k' ≤ 3 * cst k' := by
          have : (i + 1) * cst k' ≤ 3 * cst k' := Nat.mul_le_mul_right _ (by omega)
          rw [Nat.add_mul, Nat.one_mul] at this; exact this
        refine ⟨_, _, rfl, p, N + 2 + i * cst k', k', rfl, by simp, by omega, by omega, SG, by omega, fun v d fp G2 tr sm dp nf S3 b3 => ?_⟩
        have eD2 := b3 _ _ pD eD
        have nD : ∀ ys, G2 D ≠ some (.tup ys) := fun ys z => by rw [eD2] at z; cases z
        have kD : ∀ c o, c ≠ D → G2 c = some o → upd G2 D (.lst (acc ++ [v])) c = some o := fun c o n z => by rw [upd_ne n]; exact z
        have fD : D ∉ fp := fun z => by rw [nf D z] at eD; cases eD
        have np : ∀ ys, G' p ≠ some (.tup ys) := fun ys z => by obtain ⟨_, _, _, h1, _⟩ := SG; rw [h1] at z; cases z
        have pa : p ∉ fa := fun z => by obtain ⟨_, _, _, h1, _⟩ := S2; rw [(na p z).1] at h1; cases h1
        refine k0 v G2 eD2 ⟨fun c o n z => ?_, ?_, ds ++ [d], fa ++ fp, TrL.snoc (tr.but nD kD fD) ((ta.but np b3 pa).but nD kD fun z => (na D z).2 rfl), ?_, ?_, by simp [la'], fun c hc => ?_⟩
        · have cD : c ≠ D := fun e => by rw [e, hD] at z; cases z
          rw [upd_ne cD]; exact b3 _ _ n (b _ _ n z)
        · have : (i + 1) * cst k' = i * cst k' + cst k' := by rw [Nat.add_mul, Nat.one_mul]
          rw [this]
          obtain ⟨a1, b1, c1, h1, h2⟩ := S3
          exact ⟨a1, b1, c1, by rw [upd_ne (Ne.symm pD)]; exact h1, by omega, by omega⟩
        · exact smAll_app sa (by simp [smAll, sm])
        · rw [depthAll_app]; simp only [PyData.depthAll]; omega
        · rcases List.mem_append.mp hc with h | h
          · exact na c h
          · refine ⟨?_, fun e => fD (e ▸ h)⟩
            cases e : H2 c with
            | none => rfl
            | some o =>
              have cp : c ≠ p := fun y => by obtain ⟨_, _, _, h1, _⟩ := SG; rw [← y, nf c h] at h1; cases h1
              have := b _ _ cp e
              rw [nf c h] at this; cases this
      · obtain ⟨b, SG, ds, fa, ta, sa, da, la', na⟩ := P
        have l3 : r.toNat ≤ 3 := by omega
        have pD : D ≠ p := S2.ne hD
        refine ⟨D, rfl, SG.up ?_, k1.trans (But.trans k2 b), k2n D hD, pD, acc, eD, ds, fa, ta, sa, da, by omega, fun c hc => k2n c (na c hc).1, fun z => (na D z).2 rfl, fun z => by obtain ⟨_, _, _, h1, _⟩ := S2; rw [(na p z).1] at h1; cases h1⟩
        have : r.toNat * cst k' ≤ 3 * cst k' := Nat.mul_le_mul_right _ l3
        omega
    rintro _ H2 ⟨D, acc, ds, fa, rfl, S2, k2, nD, Dp, eD, ta, sa, da, l3, nfa, Dfa, pfa⟩
    walk_at "sx"
    split
    · exact q _ (.list ds) (D :: fa) H2 (.lst eD ta Dfa) (by simp only [smB, Bool.and_eq_true, decide_eq_true_eq]; exact ⟨l3, sa⟩) (by simp only [PyData.depth]; omega) (fun c hc => (List.mem_cons.mp hc).elim (fun e => e ▸ nD) (nfa c)) (S2.up (by omega)) k2
    split
    · exact ⟨acc, .inl ⟨SqL.of eD, fun l hl => q _ (.tuple ds) fa _ (.tup upd_same (ta.same (same_upd hl))) (by simp only [smB, Bool.and_eq_true, decide_eq_true_eq]; exact ⟨l3, sa⟩) (by simp only [PyData.depth]; omega) nfa ((S2.same (same_upd hl)).up (by omega)) (k2.trans (But.of (same_upd hl)))⟩⟩
    · have ln := ta.len
      refine mid_at (fun σ H3 => ∃ (L : Addr) (r : Int), σ = [some (.ref p), some (.int ((k' + 1 : Nat) : Nat)), some (.int w), some (.ref D), some (.ref L), some (.int r), none, none, none] ∧ 0 ≤ r ∧ r < 5 ∧ Str3 H3 p (N + 3 + 3 * cst k') ∧ But p H2 H3 ∧ H3 L = some (.lst (words5.map V.str))) ?_ ?_
      · walk_at "sx"
        intro L hL
        have sL := same_upd (o := HO.lst (words5.map V.str)) hL
        have Lp := S2.ne hL
        have eL : upd H2 L (HO.lst (words5.map V.str)) L = some (.lst (words5.map V.str)) := upd_same
        refine ⟨_, _, rfl, p, N + 2 + 3 * cst k', 5, rfl, rfl, by decide, by decide, S2.same sL, by omega, fun r H3 r0 r1 S3 k3 => ?_⟩
        walk_at "sx"
        intro T' hT
        have sT := same_upd (o := HO.tup [.ref L, .int r]) hT
        refine ⟨_, SqT.of upd_same, rfl, ?_⟩
        walk_at "sx"
        exact ⟨r0, r1, (S3.same sT).up (by omega), ((But.of sL).trans k3).trans (But.of sT), sT _ _ (k3 _ _ Lp eL)⟩
      rintro _ H3 ⟨L, r, rfl, r0, r1, S3, b3, eL⟩
      have eD3 := b3 _ _ Dp eD
      have np2 : ∀ ys, H2 p ≠ some (.tup ys) := fun ys z => by obtain ⟨_, _, _, h1, _⟩ := S2; rw [h1] at z; cases z
      have ta3 := ta.but np2 b3 pfa
      have k3n : ∀ c, H3 c = none → H c = none := fun c z => by
        cases e : H c with
        | none => rfl
        | some o =>
          have cp : c ≠ p := fun y => by obtain ⟨_, _, _, h1, _⟩ := S3; rw [y, h1] at z; cases z
          have := b3 c o cp (k2 c o cp e)
          rw [z] at this; cases this
      walk_at "sx"
      refine ⟨acc, SqL.of eD3, ?_⟩
      refine lc_invA acc.length (fun E' i acc2 G => Same H3 G ∧ ∃ ts : List Addr, acc2 = ts.map V.ref ∧ Paired (fun t kv => G t = some (.tup [kV kv.1, kv.2])) ts ((kv5 r acc).take i)) (by rw [sizeLine_eq]; omega) (fun E' hE => ⟨same_upd hE, [], rfl, by simpa using Paired.nil⟩) (fun E' i acc2 G hE lt P => ⟨_, acc[i], SqL.of (P.1 _ _ eD3), List.getElem?_eq_getElem lt⟩) (fun E' acc2 G hE P => ⟨_, SqL.of (P.1 _ _ eD3), Nat.le_refl _⟩) (fun E' i acc2 G x G' K hE lt la P eE y k0 => ?_) (fun E' acc2 G hE P eE => ?_)
      · obtain ⟨sG, ts, rfl, pr⟩ := P
        obtain ⟨T', z, rfl, hT, rfl, hz⟩ := y
        have hz := hz _ (SqL.of (sG _ _ eD3))
        have sT := same_upd (o := HO.tup [.int (i : Nat), z]) hT
        walk_at "sx"
        refine ⟨_, SqT.of upd_same, rfl, ?_⟩
        walk_at "sx"
        obtain ⟨j, hj⟩ := Int.eq_ofNat_of_zero_le (show 0 ≤ (r + (i : Nat)) % 5 from Int.emod_nonneg _ (by decide))
        have j5 : j < 5 := by have := Int.emod_lt_of_pos (r + (i : Nat)) (show (0 : Int) < 5 by decide); omega
        refine ⟨by decide, _, .inl (SqL.of (sT _ _ (sG _ _ eL))), .str (w5 ((r + (i : Nat)) % 5)), ?_, fun t ht => ?_⟩
        · rw [hj]
          refine atI_nat ?_
          rw [List.getElem?_map]
          simp only [w5, Int.toNat_natCast]
          rw [List.getElem?_eq_getElem (by show j < 5; exact j5)]
          rfl
        · have st := same_upd (o := HO.tup [V.str (w5 ((r + (i : Nat)) % 5)), z]) ht
          have eE2 := st _ _ (sT _ _ eE)
          refine k0 _ _ eE2 ⟨fun c o e => ?_, ts ++ [t], by simp, ?_⟩
          · have cE : c ≠ E' := fun y => by rw [y, hE] at e; cases e
            rw [upd_ne cE]; exact st _ _ (sT _ _ (sG _ _ e))
          · have e1 : (kv5 r acc).take (i + 1) = (kv5 r acc).take i ++ [(.inr (w5 ((r + (i : Nat)) % 5)), z)] := by
              rw [List.take_add_one, kv5_get, hz]; rfl
            rw [e1]
            refine paired_snoc (paired_imp pr fun t' kv h' => ?_) ?_
            · have n : t' ≠ E' := fun y => by rw [y, eE] at h'; cases h'
              rw [upd_ne n]; exact st _ _ (sT _ _ h')
            · have n : t ≠ E' := fun y => by rw [y, sT _ _ eE] at ht; cases ht
              rw [upd_ne n, upd_same]; rfl
      · obtain ⟨sG, ts, rfl, pr⟩ := P
        rw [List.take_of_length_le (by rw [kv5_len]; exact Nat.le_refl _)] at pr
        refine ⟨E', rfl, ts, SqL.of eE, kv5 r acc, paired_imp pr fun t kv h => SqT.of h, fun l hl => ?_⟩
        have sl := same_upd (o := HO.dK (mergeK [] (kv5 r acc))) hl
        have ndk := kv5_nodup r acc r0 r1 (by omega)
        have Hl : H l = none := k3n l (by
          cases e : H3 l with
          | none => rfl
          | some o => have := sG _ _ e; rw [hl] at this; cases this)
        have lf : l ∉ fa := fun z => by
          have tG := ta3.same sG
          rcases tG.there l z with ⟨_, y⟩ | ⟨_, y⟩ <;> (rw [hl] at y; cases y)
        refine q _ (.dict (kd5 r ds)) (l :: fa) _ (.dct (kvs := kv5 r acc) (by rw [upd_same, mergeK_nd ndk]) (trD5 ((ta3.same sG).same sl) r) lf ndk) ?_ ?_ (fun c hc => (List.mem_cons.mp hc).elim (fun e => e ▸ Hl) (nfa c)) (((S3.same sG).same sl).up (by omega)) ((k2.trans b3).trans (But.of (sG.trans sl)))
        · simp only [smB, Bool.and_eq_true, decide_eq_true_eq, kd5_len]; exact ⟨l3, kd5_sm ds r sa⟩
        · simp only [PyData.depth]; rw [kd5_depth]; omega
end


def flp (b : Bool) : List (V × V) → List V
  | [] => []
  | (s, x) :: r => (if b then [s, x] else [x]) ++ flp b r
theorem flp_snoc (b : Bool) : ∀ (ps : List (V × V)) (s x : V), flp b (ps ++ [(s, x)]) = flp b ps ++ (if b then [s, x] else [x])
  | [], s, x => by simp [flp]
  | (s', x') :: r, s, x => by simp [flp, flp_snoc b r s x]
theorem flp_len (b : Bool) : ∀ ps : List (V × V), (flp b ps).length ≤ 2 * ps.length
  | [] => Nat.le_refl _
  | (s, x) :: r => by
    have := flp_len b r
    cases b <;> simp [flp] <;> omega
def flD : List (PyData × PyData) → List PyData
  | [] => []
  | (k, d) :: r => k :: d :: flD r
theorem flp_map : ∀ (xs : List (V × V)), flp false xs = xs.map (·.2)
  | [] => rfl
  | (s, x) :: r => by simp [flp, flp_map r]
theorem idx_snd (xs : List V) : (idx xs).map (·.2) = xs := by
  refine List.ext_getElem (by simp [idx]) fun i h1 h2 => ?_
  simp [idx, h2]
theorem flp_idx (xs : List V) : flp false (idx xs) = xs := by rw [flp_map, idx_snd]
theorem trL_fl {H : Hp} : ∀ {kvs : List (Key × V)} {D : List (PyData × PyData)} {fp : List Addr}, TrD H kvs D fp → TrL H (flp true (kvs.map fun kv => (kV kv.1, kv.2))) (flD D) fp
  | _, _, _, .nil => .nil
  | _, _, _, .cons (x := x) h hs => by
    have := TrL.cons (.str x) (TrL.cons h (trL_fl hs))
    simpa [flp, flD, kV] using this
theorem spells_fl : ∀ D : List (PyData × PyData), spells (flD D) = spellKv D
  | [] => by simp [flD, spells, spellKv]
  | (k, d) :: r => by simp [flD, spells, spellKv, spells_fl r, Str.append_assoc]
theorem okAll_fl : ∀ {D : List (PyData × PyData)}, okKv D = true → okAll (flD D) = true
  | [], _ => rfl
  | (k, d) :: r, h => by
    simp only [okKv, Bool.and_eq_true] at h
    simp only [flD, okAll, Bool.and_eq_true]
    exact ⟨h.1.1, h.1.2, okAll_fl h.2⟩
theorem okAll_app : ∀ {a b : List PyData}, okAll a = true → okAll b = true → okAll (a ++ b) = true
  | [], _, _, h => h
  | x :: a, b, h1, h2 => by
    simp only [okAll, Bool.and_eq_true] at h1
    simp only [List.cons_append, okAll, Bool.and_eq_true]
    exact ⟨h1.1, okAll_app h1.2 h2⟩
theorem spells_app : ∀ (a b : List PyData), spells (a ++ b) = spells a ++ spells b
  | [], b => by simp [spells, Str.empty_append]
  | x :: a, b => by simp [spells, spells_app a b, Str.append_assoc]
theorem TrL.app {H : Hp} : ∀ {xs ys : List V} {a b : List PyData} {f1 f2 : List Addr}, TrL H xs a f1 → TrL H ys b f2 → TrL H (xs ++ ys) (a ++ b) (f1 ++ f2)
  | _, _, _, _, _, _, .nil, h => h
  | _, _, _, _, _, _, .cons h hs, k => by simpa [List.append_assoc] using TrL.cons h (TrL.app hs k)
theorem spell_pos (d : PyData) : 1 ≤ (spell d).length := by
  cases d with
  | none => decide +kernel
  | bool b => cases b <;> decide +kernel
  | int i => simp only [spell, Str.length_append, ofString_length]; have : ("i" : String).length = 1 := rfl; omega
  | str i => simp only [spell, Str.length_append, ofString_length]; have : ("s" : String).length = 1 := rfl; omega
  | list i => simp only [spell, Str.length_append, ofString_length]; have : ("l" : String).length = 1 := rfl; omega
  | tuple i => simp only [spell, Str.length_append, ofString_length]; have : ("u" : String).length = 1 := rfl; omega
  | dict i => simp only [spell, Str.length_append, ofString_length]; have : ("d" : String).length = 1 := rfl; omega
theorem spells_pos : ∀ ds : List PyData, ds.length ≤ (spells ds).length
  | [] => Nat.zero_le _
  | d :: ds => by
    have := spell_pos d
    have := spells_pos ds
    simp only [spells, Str.length_append, List.length_cons]; omega


mutual
def sz : PyData → Nat
  | .list ds => 1 + szs ds
  | .tuple ds => 1 + szs ds
  | .dict D => 1 + szKv D
  | .none => 1
  | .bool _ => 1
  | .int _ => 1
  | .str _ => 1
def szs : List PyData → Nat
  | [] => 0
  | d :: ds => sz d + szs ds
def szKv : List (PyData × PyData) → Nat
  | [] => 0
  | (_, d) :: r => sz d + szKv r
end
mutual
theorem sz_le : ∀ d : PyData, sz d ≤ (spell d).length
  | .list ds => by
    have := szs_le ds
    simp only [sz, spell, Str.length_append, ofString_length]
    have : ("l" : String).length = 1 := rfl
    omega
  | .tuple ds => by
    have := szs_le ds
    simp only [sz, spell, Str.length_append, ofString_length]
    have : ("u" : String).length = 1 := rfl
    omega
  | .dict D => by
    have := szKv_le D
    simp only [sz, spell, Str.length_append, ofString_length]
    have : ("d" : String).length = 1 := rfl
    omega
  | .none => spell_pos _
  | .bool _ => spell_pos _
  | .int _ => spell_pos _
  | .str _ => spell_pos _
theorem szs_le : ∀ ds : List PyData, szs ds ≤ (spells ds).length
  | [] => Nat.zero_le _
  | d :: ds => by have := sz_le d; have := szs_le ds; simp only [szs, spells, Str.length_append]; omega
theorem szKv_le : ∀ D : List (PyData × PyData), szKv D ≤ (spellKv D).length
  | [] => Nat.zero_le _
  | (k, d) :: D => by have := sz_le d; have := szKv_le D; simp only [szKv, spellKv, Str.length_append]; omega
end
theorem sz_pos (d : PyData) : 1 ≤ sz d := by cases d <;> simp only [sz] <;> omega
theorem szs_app : ∀ a b : List PyData, szs (a ++ b) = szs a + szs b
  | [], b => by simp [szs]
  | x :: a, b => by simp [szs, szs_app a b]; omega
theorem szs_snd : ∀ D : List (PyData × PyData), szs (D.map (·.2)) = szKv D
  | [] => rfl
  | (k, d) :: r => by simp [szs, szKv, szs_snd r]
theorem szs_lo : ∀ ds : List PyData, ds.length ≤ szs ds
  | [] => Nat.zero_le _
  | d :: ds => by have := sz_pos d; have := szs_lo ds; simp only [szs, List.length_cons]; omega
/-- a list or a dict, by its place -/
def Mk (H : Hp) (x : V) (m : List Addr) : Prop := (∃ a xs, x = .ref a ∧ H a = some (.lst xs) ∧ m = [a]) ∨ (∃ a kvs, x = .ref a ∧ H a = some (.dK kvs) ∧ m = [a]) ∨ (m = [] ∧ ∃ n, tyN x H = some n ∧ ["list", "dict"].any (isB n) = false)
theorem trD_snd {H : Hp} : ∀ {kvs : List (Key × V)} {D : List (PyData × PyData)} {fp : List Addr}, TrD H kvs D fp → TrL H (kvs.map (·.2)) (D.map (·.2)) fp
  | _, _, _, .nil => .nil
  | _, _, _, .cons h hs => .cons h (trD_snd hs)
theorem okKv_snd : ∀ {D : List (PyData × PyData)}, okKv D = true → okAll (D.map (·.2)) = true
  | [], _ => rfl
  | (k, d) :: r, h => by
    simp only [okKv, Bool.and_eq_true] at h
    simp only [List.map_cons, okAll, Bool.and_eq_true]
    exact ⟨h.1.2, okKv_snd h.2⟩
/-- the items' data -/
def kidsD : PyData → List PyData
  | .list ds => ds
  | .tuple ds => ds
  | .dict D => D.map (·.2)
  | _ => []
/-- one step into a value -/
inductive Step : PyData → V → PyData → Prop
  | lst {ds : List PyData} {j : Nat} {e : PyData} (h : ds[j]? = some e) : Step (.list ds) (.int (j : Nat)) e
  | tup {ds : List PyData} {j : Nat} {e : PyData} (h : ds[j]? = some e) : Step (.tuple ds) (.int (j : Nat)) e
  | dct {D : List (PyData × PyData)} {j : Nat} {x : Str} {e : PyData} (h : D[j]? = some (.str x, e)) : Step (.dict D) (.str x) e
theorem Step.depth {d e : PyData} {s : V} (h : Step d s e) : e.depth < d.depth := by
  cases h with
  | lst h => have := depth_all h; simp only [PyData.depth]; omega
  | tup h => have := depth_all h; simp only [PyData.depth]; omega
  | dct h => have := depth_kv h; simp only [PyData.depth]; omega
/-- the part at a path -/
inductive Atp : PyData → List V → PyData → Prop
  | nil (d : PyData) : Atp d [] d
  | cons {d e x : PyData} {s : V} {ps : List V} (h : Step d s e) (hs : Atp e ps x) : Atp d (s :: ps) x
theorem Atp.snoc {d e x : PyData} {s : V} {ps : List V} (h : Atp d ps e) (k : Step e s x) : Atp d (ps ++ [s]) x := by
  induction h with
  | nil d => exact .cons k (.nil _)
  | cons h _ ih => exact .cons h (ih k)
theorem Atp.len {d e : PyData} {ps : List V} (h : Atp d ps e) : ps.length + e.depth ≤ d.depth := by
  induction h with
  | nil d => simp
  | cons h _ ih => have := h.depth; simp; omega
theorem step_of {H : Hp} {x : V} {d : PyData} {f : List Addr} (h : Tr H x d f) {i : Nat} {st it : V} {e : PyData} (hp : (prs H x)[i]? = some (st, it)) (he : (kidsD d)[i]? = some e) : Step d st e := by
  cases h with
  | @lst a xs ds fp h hs na =>
    simp only [prs, h] at hp
    obtain ⟨rfl, _⟩ := idx_get hp
    exact .lst he
  | @tup a xs ds fp h hs =>
    simp only [prs, h] at hp
    obtain ⟨rfl, _⟩ := idx_get hp
    exact .tup he
  | @dct a kvs D fp h hs na nd =>
    simp only [prs, h] at hp
    rw [List.getElem?_map] at hp
    cases hk : kvs[i]? with
    | none => rw [hk] at hp; cases hp
    | some kv =>
      rw [hk] at hp
      obtain ⟨y, v, d', f', e1, e2, t, sub⟩ := hs.get (List.getElem?_eq_some_iff.mp hk).1
      rw [hk] at e1
      cases e1
      cases hp
      simp only [kidsD, List.getElem?_map, e2] at he
      cases he
      exact .dct e2
  | _ => simp [prs] at hp
theorem kids {H : Hp} {x : V} {d : PyData} {f : List Addr} (h : Tr H x d f) (ok : okB d = true) : ∃ es fe m, TrL H ((prs H x).map (·.2)) es fe ∧ okAll es = true ∧ sz d = 1 + szs es ∧ es.length ≤ 10000 ∧ Mk H x m ∧ f = m ++ fe ∧ es = kidsD d := by
  cases h with
  | @lst a xs ds fp h hs na =>
    simp only [okB, Bool.and_eq_true, decide_eq_true_eq] at ok
    exact ⟨ds, fp, [a], by simp only [prs, h]; rw [idx_snd]; exact hs, ok.2, by simp only [sz], ok.1, .inl ⟨a, xs, rfl, h, rfl⟩, rfl, rfl⟩
  | @tup a xs ds fp h hs =>
    simp only [okB, Bool.and_eq_true, decide_eq_true_eq] at ok
    exact ⟨ds, f, [], by simp only [prs, h]; rw [idx_snd]; exact hs, ok.2, by simp only [sz], ok.1, .inr (.inr ⟨rfl, _, tyN_t h, by decide⟩), rfl, rfl⟩
  | @dct a kvs D fp h hs na nd =>
    simp only [okB, Bool.and_eq_true, decide_eq_true_eq] at ok
    refine ⟨D.map (·.2), fp, [a], ?_, okKv_snd ok.2, by simp only [sz, szs_snd], by simpa using ok.1, .inr (.inl ⟨a, kvs, rfl, h, rfl⟩), rfl, rfl⟩
    simp only [prs, h, List.map_map]
    exact trD_snd hs
  | _ => exact ⟨[], [], [], .nil, rfl, rfl, Nat.zero_le _, .inr (.inr ⟨rfl, _, rfl, by decide⟩), rfl, rfl⟩
theorem prs_same {H G : Hp} {x : V} {d : PyData} {f : List Addr} (h : Tr H x d f) (s : Same H G) : prs G x = prs H x := by
  cases h with
  | lst h _ _ => simp only [prs, h, s _ _ h]
  | tup h _ => simp only [prs, h, s _ _ h]
  | dct h _ _ _ => simp only [prs, h, s _ _ h]
  | _ => rfl
inductive MkL (H : Hp) : List V → List Addr → Prop
  | nil : MkL H [] []
  | snoc {xs : List V} {ms : List Addr} {x : V} {m : List Addr} (hs : MkL H xs ms) (h : Mk H x m) : MkL H (xs ++ [x]) (ms ++ m)
/-- p is the path of a part with the data e in d -/
def PthA (G : Hp) (d e : PyData) (p : V) : Prop := ∃ a ps, p = .ref a ∧ G a = some (.tup ps) ∧ Atp d ps e
theorem PthA.tups {G G' : Hp} {d e : PyData} {p : V} (h : PthA G d e p) (k : ∀ t xs, G t = some (.tup xs) → G' t = some (.tup xs)) : PthA G' d e p := by
  obtain ⟨a, ps, e, h1, h2⟩ := h
  exact ⟨a, ps, e, k _ _ h1, h2⟩
/-- paths of parts with these data -/
inductive PthL (G : Hp) (d : PyData) : List V → List PyData → Prop
  | nil : PthL G d [] []
  | cons {p : V} {ps : List V} {e : PyData} {es : List PyData} (h : PthA G d e p) (hs : PthL G d ps es) : PthL G d (p :: ps) (e :: es)
theorem PthL.tups {G G' : Hp} {d : PyData} {ps : List V} {es : List PyData} (h : PthL G d ps es) (k : ∀ t xs, G t = some (.tup xs) → G' t = some (.tup xs)) : PthL G' d ps es := by
  induction h with
  | nil => exact .nil
  | cons h _ ih => exact .cons (h.tups k) ih
theorem PthL.app {G : Hp} {d : PyData} {ps qs : List V} {es fs : List PyData} (h : PthL G d ps es) (k : PthL G d qs fs) : PthL G d (ps ++ qs) (es ++ fs) := by
  induction h with
  | nil => exact k
  | cons h _ ih => exact .cons h ih
theorem Prd.tail {G : Hp} {t : V} {ts : List V} {p : V × V} {ps : List (V × V)} (h : Prd G (t :: ts) (p :: ps)) : Prd G ts ps :=
  ⟨by simpa using h.1, fun j s x e => by simpa using h.2 (j + 1) s x (by simpa using e)⟩
theorem Prd.app {G : Hp} {ts us : List V} {ps qs : List (V × V)} (h : Prd G ts ps) (k : Prd G us qs) : Prd G (ts ++ us) (ps ++ qs) := by
  refine ⟨by simp [h.1, k.1], fun j s x e => ?_⟩
  by_cases lt : j < ps.length
  · rw [List.getElem?_append_left lt] at e
    rw [List.getElem?_append_left (by rw [h.1]; exact lt)]
    exact h.2 j s x e
  · rw [List.getElem?_append_right (by omega)] at e
    rw [List.getElem?_append_right (by rw [h.1]; omega), h.1]
    exact k.2 _ s x e
/-- what stands between two turns -/
def PW (v : V) (d : PyData) (fp : List Addr) (H : Hp) (m : Nat) (σ : L2.St) (G : Hp) : Prop := ∃ L R fs qq ts pp ds fr ms v3 v4, σ = [some v, some (.ref L), some (.ref R), v3, v4, none, none] ∧ Same H G ∧ H L = none ∧ L ≠ R ∧ G L = some (.lst fs) ∧ Prd G fs qq ∧ G R = some (.lst ts) ∧ Prd G ts pp ∧ PthL G d (pp.map (·.1)) ds ∧ (∀ p ∈ qq, ∃ e, PthA G d e p.1) ∧ TrL H (pp.map (·.2)) ds fr ∧ okAll ds = true ∧ MkL H (qq.map (·.2)) ms ∧ ms ++ fr = fp ∧ qq.length + szs ds = sz d ∧ m = szs ds
section
variable {g : Wd} {f : Addr} {fd : FuncData}
theorem sc_l_parts : FnScope ["_law_worth", "_law_found", "_law_rest", "_law_path", "_law_part", "_law_step", "_law_item"] ["_law_worth"] (defScope s_l_parts) := ⟨rfl, rfl, rfl, by decide +kernel, rfl, by decide +kernel, by decide +kernel⟩
def sp_lparts : Sp := S1 fun v H Q _ => ∃ d fp, Tr H v d fp ∧ okB d = true ∧ d.depth ≤ 100 ∧ (spell d).length ≤ 1000000 ∧ ∀ L fs qq H', Same H H' → H L = none → H' L = some (.lst fs) → Prd H' fs qq → MkL H (qq.map (·.2)) fp → (∀ p ∈ qq, ∃ e, PthA H' d e p.1) → qq.length = sz d → Q (.ref L) H'
theorem ok_lparts (F : Df g.K "_law_parts" "_law_parts" s_l_parts f fd .none) (T : Txt g) (F_l_pairs : Kn g "_law_pairs" 1 ["_law_worth"] [] sp_items) : FnG g 2 f fd ["_law_worth"] sp_lparts := by
  refine F.ok sc_l_parts (fun vs H Q E h => S1.len h) (fun cdv A outer s H vs Q E hr h => ?_)
  obtain ⟨v, rfl, d, fp, hv, hok, hdp, hz, q⟩ := h
  have sz1 := sz_le d
  refine ⟨_, (pss_mid (ps_par (i := 1) (j := 2) (by rfl) sc_l_parts.nd rfl rfl (by decide) rfl rfl (pa_cons (pe_lst pa_nil) (pa_cons (pe_lst (pa_cons (pe_tup (pa_cons (pe_tup pa_nil) (pa_cons (pv 0) pa_nil))) pa_nil)) pa_nil)) (by rfl))
      (pss_mid (ps_while psD (pt_cmpR (op_neE (K := g.K) hr) (pv 2) (pe_lst pa_nil) (nomark _)) (pss_mid (ps_asg (pe_tup (pa_cons (pe_ix (o_ix (K := g.K)) (pv 2) pe_int (fun _ _ => rfl)) (pa_cons (pe_slice (o_sl (K := g.K)) (pv 2) (po_some pe_int) po_none) pa_nil))) (g_tup (K := g.K) (n := 2) (pgs_cons (g_tup (K := g.K) (n := 2) (pgs_cons (pg_name (i := 3) sc_l_parts.nd rfl (.inr rfl)) (pgs_cons (pg_name (i := 4) sc_l_parts.nd rfl (.inl rfl)) pgs_nil))) (pgs_cons (pg_name (i := 2) sc_l_parts.nd rfl (.inl rfl)) pgs_nil))))
      (pss_mid (ps_expr (e_bm (K := g.K) PySem.F.plainAttrs_list PySem.F.slot_list_append PySem.F.type_list_append mt_append (pv 1) (pa_cons (pe_tup (pa_cons (pv 3) (pa_cons (pv 4) pa_nil))) pa_nil)))
      (pss_one (ps_set (i := 2) sc_l_parts.nd rfl (Or.inl rfl) (pe_op (o_add (K := g.K)) (pe_lc (own := [("_law_step", 5), ("_law_item", 6)]) (tt := tYes) rfl sc_l_parts.nd (i_list (K := g.K) (pe_callG F_l_pairs (hr.mono (by first | decide | omega)) tkD (pa_cons (pv 4) pa_nil))) (blkOk_by (own := [("_law_step", 5), ("_law_item", 6)]) (N := ["_law_worth", "_law_found", "_law_rest", "_law_path", "_law_part", "_law_step", "_law_item"]) (sc := defScope s_l_parts) (by decide +kernel)) (fun _ _ _ _ _ => (g_tup (K := g.K) (n := 2) (pgs_cons (pg_name (i := 5) sc_l_parts.nd rfl (.inl rfl)) (pgs_cons (pg_name (i := 6) sc_l_parts.nd rfl (.inl rfl)) pgs_nil)))) (fun _ _ _ _ _ => pts_nil) (fun _ _ _ _ _ => (pe_tup (pa_cons (pe_op (o_add (K := g.K)) (pv 3) (pe_tup (pa_cons (pv 5) pa_nil))) (pa_cons (pv 6) pa_nil))))) (pv 2)))))))
      (pss_one (ps_ret (pv 1))))), ?_⟩
  refine mid_at (fun σ H1 => PW v d fp H (sz d) σ H1) ?_ ?_
  · walk_at "sx"
    intro L hL p1 h1 p2 h2 R hR
    have s1 := same_upd (o := HO.lst []) hL
    have s2 := same_upd (o := HO.tup []) h1
    have s3 := same_upd (o := HO.tup [V.ref p1, v]) h2
    have s4 := same_upd (o := HO.lst [V.ref p2]) hR
    have eL := s4 _ _ (s3 _ _ (s2 _ _ (upd_same (H := H) (a := L) (o := HO.lst []))))
    refine ⟨L, R, [], [], [.ref p2], [(.ref p1, v)], [d], fp ++ [], [], none, none, rfl, ((s1.trans s2).trans s3).trans s4, hL, fun e => ?_, eL, ⟨rfl, by simp⟩, upd_same, Prd.snoc (ts := []) (ps := []) ⟨rfl, by simp⟩ (Same.refl _) (s4 _ _ upd_same), .cons ⟨p1, [], rfl, s4 _ _ (s3 _ _ upd_same), .nil _⟩ .nil, by simp, .cons hv .nil, by simp [okAll, hok], .nil, by simp, by simp [szs], by simp [szs]⟩
    · subst e; rw [s3 _ _ (s2 _ _ upd_same)] at hR; cases hR
  intro σ H1 P
  refine mid_at (fun σ H2 => ∃ L fs qq v2 v3 v4, σ = [some v, some (.ref L), v2, v3, v4, none, none] ∧ Same H H2 ∧ H L = none ∧ H2 L = some (.lst fs) ∧ Prd H2 fs qq ∧ MkL H (qq.map (·.2)) fp ∧ (∀ p ∈ qq, ∃ e, PthA H2 d e p.1) ∧ qq.length = sz d) ?_ ?_
  · refine ⟨PW v d fp H, ⟨_, P⟩, ?_⟩
    rintro _ _ G ⟨L, R, fs, qq, ts, pp, ds, fr, ms, v3, v4, rfl, sG, nL, LR, eL, hq, eR, hp, pth, qth, td, ok, mk, efp, esm, rfl⟩
    have l1 := td.len
    have l2 := szs_lo ds
    have l3 := hp.1
    rw [List.length_map] at l1
    walk_at "sx"
    intro p hpn
    have sp := same_upd (o := HO.lst []) hpn
    refine ⟨R, p, ts, [], rfl, rfl, SqL.of (sp _ _ eR), SqL.of upd_same, .inr rfl, _, rfl, ?_⟩
    generalize upd G p (HO.lst []) = G1 at sp ⊢
    cases pp with
    | nil =>
      cases ts with
      | cons t ts => simp at l3
      | nil =>
      rw [if_neg (by simp)]
      cases td
      rw [List.append_nil] at efp
      subst efp
      exact ⟨sG.trans sp, nL, fs, sp _ _ eL, qq, hq.tups (fun t xs z => sp _ _ z), mk, fun p hp => (qth p hp).imp fun _ z => z.tups fun t xs z => sp _ _ z, by simp only [szs] at esm; omega⟩
    | cons pq pp =>
      obtain ⟨pa, x⟩ := pq
      cases ts with
      | nil => simp at l3
      | cons t ts =>
      rw [if_pos (by simp)]
      cases td with
      | @cons _ _ d1 ds f1 fr hx td =>
      simp only [okAll, Bool.and_eq_true] at ok
      obtain ⟨es, fe, m, tk, oke, esz, le, mkx, rfl, ekd⟩ := kids hx ok.1
      refine ⟨fun σ' G' => ∃ m', m' < szs (d1 :: ds) ∧ PW v d fp H m' σ' G', fun σ' G' z => z, ?_⟩
      obtain ⟨t, et, ett⟩ := hp.2 0 pa x rfl
      obtain rfl := Option.some.inj et
      cases pth with
      | cons pth0 pth =>
      obtain ⟨pad, ps, rfl, eps, atx⟩ := pth0
      have lps := atx.len
      refine mid_at (fun σ G2 => ∃ R2, σ = [some v, some (.ref L), some (.ref R2), some (.ref pad), some x, none, none] ∧ Same G G2 ∧ L ≠ R2 ∧ G2 R2 = some (.lst ts)) ?_ ?_
      · walk_at "sx"
        refine ⟨_, .inl (SqL.of (sp _ _ eR)), _, atI_nat (j := 0) rfl, .inl ⟨R, _, rfl, SqL.of (sp _ _ eR), fun R2 hR2 => ?_⟩⟩
        rw [cutV_from _ (by decide)]
        intro p3 h3
        have s3 := same_upd (o := HO.lst ts) hR2
        have s4 := same_upd (o := HO.tup [.ref t, .ref R2]) h3
        exact ⟨_, SqT.of upd_same, rfl, _, _, rfl, t, rfl, _, SqT.of (s4 _ _ (s3 _ _ (sp _ _ ett))), rfl, _, _, rfl, _, _, rfl, rfl, _, _, rfl, rfl, R2, rfl, rfl, rfl, (sp.trans s3).trans s4, (fun e => by rw [← e, sp _ _ eL] at hR2; cases hR2), s4 _ _ upd_same⟩
      rintro _ G2 ⟨R2, rfl, s2, LR2, eR2⟩
      refine mid_at (fun σ G3 => ∃ t2, σ = [some v, some (.ref L), some (.ref R2), some (.ref pad), some x, none, none] ∧ (∀ c o, c ≠ L → G2 c = some o → G3 c = some o) ∧ G3 L = some (.lst (fs ++ [.ref t2])) ∧ G3 t2 = some (.tup [.ref pad, x])) ?_ ?_
      · walk_at "sx"
        refine ⟨⟨fs, SqL.of (s2 _ _ eL)⟩, fun t2 h2 => ?_⟩
        have st := same_upd (o := HO.tup [.ref pad, x]) h2
        have nt : t2 ≠ L := fun e => by rw [e, s2 _ _ eL] at h2; cases h2
        exact ⟨fs, st _ _ (s2 _ _ eL), by have := hq.1; omega, fun c o n z => by rw [upd_ne n]; exact st _ _ z, t2, rfl, by rw [upd_ne nt]; exact upd_same⟩
      rintro _ G3 ⟨t2, rfl, k3, eL3, et2⟩
      have sH3 : Same H G3 := fun b o z => k3 b o (fun e => by rw [e, nL] at z; cases z) (s2 _ _ (sG _ _ z))
      have tu3 : ∀ c xs, G c = some (.tup xs) → G3 c = some (.tup xs) := fun c xs z => k3 c _ (fun e => by rw [e, eL] at z; cases z) (s2 _ _ z)
      have eR3 := k3 _ _ (Ne.symm LR2) eR2
      walk_at "sx"
      refine ⟨_, rfl, d1, _, hx.same sH3, ok.1, fun Lp ps' G4 s4 nLp eLp pr => ?_⟩
      rw [prs_same hx sH3] at pr
      walk_at "sx"
      refine ⟨⟨_, SqL.of eLp⟩, ?_⟩
      have lk := tk.len
      rw [List.length_map, ← pr.1] at lk
      refine lc_invA ps'.length (fun D i acc G => Same G4 G ∧ ∃ ppa : List (V × V), Prd G acc ppa ∧ ppa.map (·.2) = ((prs H x).map (·.2)).take i ∧ PthL G d (ppa.map (·.1)) (es.take i)) (by rw [sizeLine_eq]; omega) (fun D hD => ⟨same_upd hD, [], ⟨rfl, by simp⟩, rfl, .nil⟩) (fun D i acc G hD lt P => ⟨_, ps'[i], SqL.of (P.1 _ _ eLp), List.getElem?_eq_getElem lt⟩) (fun D acc G hD P => ⟨_, SqL.of (P.1 _ _ eLp), Nat.le_refl _⟩) (fun D i acc G y G' K hD lt la P eD yl k => ?_) (fun D acc G5 hD P eD => ?_)
      · obtain ⟨sm, ppa, pra, epa, pth2⟩ := P
        obtain ⟨rfl, hy⟩ := yl
        have hy := hy _ (SqL.of (sm _ _ eLp))
        have lp : i < (prs H x).length := by rw [← pr.1]; exact lt
        obtain ⟨st, it, hp3⟩ : ∃ st it, (prs H x)[i]? = some (st, it) := ⟨_, _, List.getElem?_eq_getElem lp⟩
        obtain ⟨t3, ht, et3⟩ := pr.2 i st it hp3
        obtain ⟨ei, hei⟩ : ∃ ei, es[i]? = some ei := ⟨_, List.getElem?_eq_getElem (by omega)⟩
        rw [ht] at hy
        obtain rfl : V.ref t3 = y := Option.some.inj hy
        walk_at "sx"
        refine ⟨_, SqT.of (sm _ _ et3), rfl, ?_⟩
        walk_at "sx"
        intro u hu
        have su := same_upd (o := HO.tup [st]) hu
        have ep4 : G' pad = some (.tup ps) := sm _ _ (s4 _ _ (tu3 _ _ eps))
        have go : ∀ (b : Addr) (G2 : Hp), Same G' G2 → G2 b = some (.tup (ps ++ [st])) → ∀ p, G2 p = none → K (.ref p) (upd G2 p (HO.tup [.ref b, it])) := fun b G2 sg eb p hp => by
          have s5 := same_upd (o := HO.tup [.ref b, it]) hp
          have eD5 := s5 _ _ (sg _ _ eD)
          have tD : ∀ t' xs, upd G2 p (HO.tup [.ref b, it]) t' = some (.tup xs) → upd (upd G2 p (HO.tup [.ref b, it])) D (.lst (acc ++ [.ref p])) t' = some (.tup xs) := fun t' xs z => by
            have n : t' ≠ D := fun e => by rw [e, eD5] at z; cases z
            rw [upd_ne n]; exact z
          refine k _ _ eD5 ⟨fun b' o z => ?_, ppa ++ [(.ref b, it)], ?_, ?_, ?_⟩
          · have bD : b' ≠ D := fun z' => by rw [z', hD] at z; cases z
            rw [upd_ne bD]; exact s5 _ _ (sg _ _ (sm _ _ z))
          · exact (Prd.snoc pra (sg.trans s5) upd_same).tups tD
          · rw [List.map_append, epa, List.take_add_one, List.getElem?_map, hp3]; rfl
          · rw [List.map_append, List.take_add_one, hei]
            exact (pth2.tups (fun t' xs z => tD _ _ (s5 _ _ (sg _ _ z)))).app (.cons ⟨b, _, rfl, tD _ _ (s5 _ _ eb), atx.snoc (step_of hx hp3 (by rw [← ekd]; exact hei))⟩ .nil)
        refine .inr ⟨pad, u, ps, [st], rfl, rfl, SqT.of (su _ _ ep4), SqT.of upd_same, by rw [sizeLine_eq]; simp; omega, fun e => ?_, (fun _ e => nomatch e), fun _ _ b hb => ?_⟩
        · subst e
          exact go u _ su upd_same
        · exact go b _ (su.trans (same_upd hb)) upd_same
      · obtain ⟨sm, ppa, pra, epa, pth2⟩ := P
        walk_at "sx"
        have la : acc.length = ps'.length := by
          have := congrArg List.length epa
          have := pra.1
          have := pr.1
          simp at *; omega
        have szz : szs (d1 :: ds) = sz d1 + szs ds := rfl
        have szl := szs_lo ds
        simp only [List.length_cons] at l1 l3
        refine .inl ⟨D, R2, acc, ts, rfl, rfl, eD, sm _ _ (s4 _ _ eR3), by rw [sizeLine_eq]; omega, fun w hw => ?_⟩
        have sw := same_upd (o := HO.lst (acc ++ ts)) hw
        rw [List.take_of_length_le (by simp; rw [pr.1]; exact Nat.le_refl _)] at epa
        have s35 := s4.trans (sm.trans sw)
        refine ⟨szs (es ++ ds), ?_, L, w, fs ++ [.ref t2], qq ++ [(.ref pad, x)], acc ++ ts, ppa ++ pp, es ++ ds, fe ++ fr, ms ++ m, _, _, rfl, sH3.trans s35, nL, ?_, s35 _ _ eL3, ?_, upd_same, ?_, ?_, ?_, ?_, okAll_app oke ok.2, ?_, ?_, ?_, rfl⟩
        · rw [szs_app]; omega
        · exact fun e => by rw [← e, sm _ _ (s4 _ _ eL3)] at hw; cases hw
        · exact Prd.snoc (hq.tups fun t xs z => s35 _ _ (tu3 _ _ z)) (Same.refl _) (s35 _ _ et2)
        · exact Prd.app (pra.tups fun t xs z => sw _ _ z) (hp.tail.tups fun t xs z => s35 _ _ (tu3 _ _ z))
        · rw [List.map_append]
          rw [List.take_of_length_le (by omega)] at pth2
          exact (pth2.tups fun t' xs z => sw _ _ z).app (pth.tups fun t' xs z => s35 _ _ (tu3 _ _ z))
        · intro p hp'
          rcases List.mem_append.mp hp' with h' | h'
          · exact (qth p h').imp fun _ z => z.tups fun t' xs z => s35 _ _ (tu3 _ _ z)
          · obtain rfl := List.mem_singleton.mp h'
            exact ⟨_, pad, ps, rfl, s35 _ _ (tu3 _ _ eps), atx⟩
        · rw [List.map_append, epa]; exact TrL.app tk td
        · rw [List.map_append]; exact .snoc mk mkx
        · rw [← efp]; simp [List.append_assoc]
        · rw [szs_app, List.length_append, List.length_singleton]; omega
  rintro _ H2 ⟨L, fs, qq, v2, v3, v4, rfl, s2, nL, eL, hq, mk, qth, lq⟩
  walk_at "sx"
  exact q _ fs qq _ s2 nL eL hq mk qth lq
end


/-! ### the reader, in plain words: what is read of some signs, and how many of them; or the place of the first wrong one -/
inductive Res (α : Type) where
  | bad (k : Nat)
  | ok (a : α) (k : Nat)
def Res.up {α : Type} (j : Nat) : Res α → Res α
  | .bad k => .bad (j + k)
  | .ok a k => .ok a (j + k)
def Res.map {α β : Type} (f : α → β) : Res α → Res β
  | .bad k => .bad k
  | .ok a k => .ok (f a) k
def isDig (c : Nat) : Bool := decide (48 ≤ c) && decide (c ≤ 57)
/-- digits and a semicolon: z: the first one is a zero, n: so many are read, v: their value -/
def dg (z : Bool) (n v : Nat) : List Nat → Res Nat
  | [] => .bad n
  | c :: r => if c = 59 ∧ n ≠ 0 then .ok v (n + 1)
    else if isDig c = true ∧ (n = 0 ∨ (n < 100 ∧ z = false)) then dg (if n = 0 then decide (c = 48) else z) (n + 1) (10 * v + (c - 48)) r
    else .bad n
/-- a count and a colon -/
def ct (n v : Nat) : List Nat → Res Nat
  | [] => .bad n
  | c :: r => if c = 58 ∧ n ≠ 0 then .ok v (n + 1)
    else if isDig c = true ∧ (n = 0 ∨ v ≠ 0) ∧ 10 * v + (c - 48) ≤ 10000 then ct (n + 1) (10 * v + (c - 48)) r
    else .bad n
def ig (r : List Nat) : Res Int := match r with
  | 45 :: r' => match r' with
    | 48 :: _ => .bad 1
    | _ => ((dg false 0 0 r').map fun v : Nat => (0 - (v : Int))).up 1
  | _ => (dg false 0 0 r).map fun v : Nat => (v : Int)
def rs (r : List Nat) : Res (List Nat) := match ct 0 0 r with
  | .bad k => .bad k
  | .ok n k => if n ≤ (r.drop k).length then .ok ((r.drop k).take n) (k + n) else .bad r.length
def mny {α : Type} (f : List Nat → Res α) : Nat → List Nat → Res (List α)
  | 0, _ => .ok [] 0
  | m + 1, r => match f r with
    | .bad k => .bad k
    | .ok a k => ((mny f m (r.drop k)).map fun as => a :: as).up k
def mnyK (f : List Nat → Res PyData) : Nat → List (List Nat) → List Nat → Res (List (PyData × PyData))
  | 0, _, _ => .ok [] 0
  | m + 1, seen, r => match r with
    | [] => .bad 0
    | c :: r1 => if c ≠ 115 then .bad 0 else match rs r1 with
      | .bad k => .bad (1 + k)
      | .ok key k => if key ∈ seen then .bad k else match f (r1.drop k) with
        | .bad j => .bad (1 + k + j)
        | .ok d j => ((mnyK f m (seen ++ [key]) (r1.drop (k + j))).map fun D => (.str (SX.S key), d) :: D).up (1 + k + j)
/-- a value; n levels are left -/
def rp : Nat → List Nat → Res PyData
  | _, [] => .bad 0
  | n, c :: r => if c = 110 then .ok .none 1 else if c = 116 then .ok (.bool true) 1 else if c = 102 then .ok (.bool false) 1
    else if c = 105 then ((ig r).map PyData.int).up 1
    else if c = 115 then ((rs r).map fun x => .str (SX.S x)).up 1
    else match n with
      | 0 => .bad 0
      | n + 1 => if c = 108 ∨ c = 117 ∨ c = 100 then
          match ct 0 0 r with
          | .bad k => .bad (1 + k)
          | .ok m k => if c = 100 then ((mnyK (rp n) m [] (r.drop k)).map PyData.dict).up (1 + k)
            else ((mny (rp n) m (r.drop k)).map fun ds => if c = 108 then .list ds else .tuple ds).up (1 + k)
        else .bad 0
theorem ct_len : ∀ {r : List Nat} {n v m k : Nat}, ct n v r = .ok m k → k ≤ n + r.length ∧ m ≤ max v 10000
  | [], n, v, m, k, h => by simp [ct] at h
  | c :: r, n, v, m, k, h => by
    simp only [ct] at h
    split at h
    · cases h; simp <;> omega
    · split at h
      · rename_i _ z
        have := ct_len h
        simp; omega
      · cases h
theorem dg_len : ∀ {r : List Nat} {z : Bool} {n v m k : Nat}, dg z n v r = .ok m k → k ≤ n + r.length
  | [], z, n, v, m, k, h => by simp [dg] at h
  | c :: r, z, n, v, m, k, h => by
    simp only [dg] at h
    split at h
    · cases h; simp <;> omega
    · split at h
      · have := dg_len h
        simp; omega
      · cases h


open SX (S S_len S_cat S_tl S_inj)
structure Txt2 (g : Wd) : Prop extends Txt g where
  c_DIGITS : Gv g "DIGITS" (.str "0123456789")
structure RF (g : Wd) (C : Addr) : Prop where
  cls : Cls g.K C
  n1 : NoAttr g.K C "own_text"
  n2 : NoAttr g.K C "at"
/-- a reader of the signs t, at the place i -/
def Rd (C : Addr) (H : Hp) (y dy : Addr) (t : List Nat) (i : Nat) : Prop := H y = some (.ins C dy [("own_text", .str (S t)), ("at", .int (i : Nat))])
/-- InvalidText(i) leaves; nothing but the reader has changed -/
def Bad (CI y : Addr) (H : Hp) (i : Nat) (E : XK) : Prop := ∀ dd H', But y H H' → H' dd = some (.xd [("position", .int (i : Nat))]) → E (.ref CI) (some dd) H'
local macro_rules | `(tactic| walk_at "st") => `(tactic| simp only [S_cat, S_len, rep_one, has_one, S_eq, List.nil_append, List.append_assoc, List.cons_append, List.length_append, List.length_cons, List.length_nil, List.length_replicate])
theorem rd_at {C y dy : Addr} {G : Hp} {t : List Nat} {j k : Nat} {i : Int} (e : i = (k : Nat)) : Rd C (upd G y (.ins C dy (putF "at" (.int i) [("own_text", .str (S t)), ("at", .int (j : Nat))]))) y dy t k ∧ But y G (upd G y (.ins C dy (putF "at" (.int i) [("own_text", .str (S t)), ("at", .int (j : Nat))]))) := by
  subst e
  refine ⟨?_, fun c o n z => by rw [upd_ne n]; exact z⟩
  unfold Rd
  rw [upd_same]
  have h1 : ¬ (Str.ofString "own_text" = Str.ofString "at") := by decide +kernel
  rw [pu_cons, if_neg h1, pu_cons, if_pos rfl]
theorem lk_at {t : List Nat} {j : Nat} : List.lookup (Str.ofString "at") [((Str.ofString "own_text"), V.str (S t)), ((Str.ofString "at"), V.int (j : Nat))] = some (.int (j : Nat)) := by
  have h1 : ¬ (Str.ofString "at" = Str.ofString "own_text") := by decide +kernel
  rw [lk_cons, if_neg h1, lk_cons, if_pos rfl]
theorem lk_no {x : Str} {t : List Nat} {j : Nat} (h1 : ¬ x = Str.ofString "own_text" := by decide +kernel) (h2 : ¬ x = Str.ofString "at" := by decide +kernel) : List.lookup x [((Str.ofString "own_text"), V.str (S t)), ((Str.ofString "at"), V.int (j : Nat))] = none := by
  rw [lk_cons, if_neg h1, lk_cons, if_neg h2]; rfl
theorem dig_in (c : Nat) : decide (c ∈ [48, 49, 50, 51, 52, 53, 54, 55, 56, 57]) = isDig c := by
  rw [Bool.eq_iff_iff]
  simp [isDig]; omega
theorem int_sign {c : Nat} (h : isDig c = true) : PySem.intText? (S [c]) = some ((c - 48 : Nat) : Int) := by
  have h2 : 48 ≤ c ∧ c ≤ 57 := by simpa [isDig] using h
  have : ∀ k : Nat, k < 10 → PySem.intText? (S [48 + k]) = some (k : Int) := by decide +kernel
  have := this (c - 48) (by omega)
  rw [show 48 + (c - 48) = c from by omega] at this
  exact this
def sp_refuse (CI : Addr) : Sp := S2 fun z i H Q E => ∃ y, z = .ref y ∧ ∀ dd, H dd = none → E (.ref CI) (some dd) (upd H dd (.xd [("position", i)]))
theorem rf {g : Wd} {C CI y dy : Addr} {H G : Hp} {t : List Nat} {j : Nat} {P : VK} {E : XK} (R : RF g C) (hG : Rd C G y dy t j) (q : Bad CI y H j E) (b : But y H G) :
    ∃ x x_1, G y = some (HO.ins C x x_1) ∧ List.lookup (Str.ofString "refuse") x_1 = none ∧ ∃ x x_2 x_3, G y = some (HO.ins x x_2 x_3) ∧ Cls g.K x ∧ NoAttr g.K x (Str.ofString "at") ∧ ∃ x, List.lookup (Str.ofString "at") x_3 = some x ∧ sp_refuse CI [V.ref y, x] G P fun c d H' => E c d H' :=
  ⟨_, _, hG, lk_no, _, _, _, hG, R.cls, R.n2, _, lk_at, _, _, rfl, y, rfl, fun dd hdd => q dd _ (b.trans (But.of (same_upd hdd))) upd_same⟩
section
variable {g : Wd} {f : Addr} {fd : FuncData} {C_TextReader CI : Addr}
theorem sc_TextReader_sign : FnScope ["self"] ["self"] (defScope s_TextReader_sign) := ⟨rfl, rfl, rfl, by decide +kernel, rfl, by decide +kernel, by decide +kernel⟩
def sp_sign (C : Addr) : Sp := S1 fun z H Q _ => ∃ y dy t i, z = .ref y ∧ Rd C H y dy t i ∧ t.length ≤ 10000000 ∧ Q (.str (S ((t.drop i).take 1))) H
theorem ok_sign (F : Df g.K "sign" "TextReader.sign" s_TextReader_sign f fd .none) (T : Txt2 g) (R : RF g C_TextReader) : FnG g 1 f fd ["self"] (sp_sign C_TextReader) := by
  refine F.ok sc_TextReader_sign (fun vs H Q E h => S1.len h) (fun cdv A outer s H vs Q E hr h => ?_)
  obtain ⟨_, rfl, y, dy, t, i, rfl, hy, hl, q⟩ := h
  refine ⟨_, (pss_one (ps_ret (pe_slice (o_sl (K := g.K)) (e_fld (K := g.K) (pv 0)) (po_some (e_fld (K := g.K) (pv 0))) (po_some (pe_op (o_add (K := g.K)) (e_fld (K := g.K) (pv 0)) pe_int))))), ?_⟩
  unfold Rd at hy
  walk_at "sx"
  (simp only [hy]; (try walk_at "sx"); (try simp only [R.cls, R.n1, R.n2, true_and]); (try walk_at "lt"); (try walk_at "sx"))
  refine ⟨by rw [S_len]; omega, ?_⟩
  rw [cut_both _ (by omega) (by omega)]
  have e : (i + 1 : Int).toNat - (i : Int).toNat = 1 := by omega
  rw [e]
  simpa using q
theorem sc_TextReader_refuse : FnScope ["self", "index"] ["self", "index"] (defScope s_TextReader_refuse) := ⟨rfl, rfl, rfl, by decide +kernel, rfl, by decide +kernel, by decide +kernel⟩
theorem ok_refuse (F : Df g.K "refuse" "TextReader.refuse" s_TextReader_refuse f fd .none) (T : Txt2 g) (X_InvalidText : XK1 g "InvalidText" CI "position") (RI : PySem.W.subIn g.K (.ref CI) (.type "BaseException") = some true ∧ PySem.W.typeIn g.K (.ref CI) = some (.type "type")) : FnG g 3 f fd ["self", "index"] (sp_refuse CI) := by
  refine F.ok sc_TextReader_refuse (fun vs H Q E h => S2.len h) (fun cdv A outer s H vs Q E hr h => ?_)
  obtain ⟨_, _, rfl, y, rfl, q⟩ := h
  have R_InvalidText := raises_own (X := cx g ["self", "index"] "TextReader.refuse" s_TextReader_refuse f cdv A outer s H E) RI.1 RI.2
  refine ⟨_, (pss_one (ps_raise rfl tkD (pmk_x1 X_InvalidText R_InvalidText (hr.mono (by first | decide | omega)) (pa_cons (pv 1) pa_nil)))), ?_⟩
  walk_at "sx"
  simp only [tPm1]
  walk_at "sx"
  exact q
theorem sc_TextReader_read_count : FnScope ["self", "found", "begin", "sign"] ["self"] (defScope s_TextReader_read_count) := ⟨rfl, rfl, rfl, by decide +kernel, rfl, by decide +kernel, by decide +kernel⟩
def sp_count (C CI : Addr) : Sp := S1 fun z H Q E => ∃ y dy t i, z = .ref y ∧ Rd C H y dy t i ∧ t.length ≤ 10000000 ∧ i ≤ t.length ∧ match ct 0 0 (t.drop i) with
  | .bad k => Bad CI y H (i + k) E
  | .ok n k => ∀ H', But y H H' → Rd C H' y dy t (i + k) → Q (.int (n : Nat)) H'
theorem ok_count (F : Df g.K "read_count" "TextReader.read_count" s_TextReader_read_count f fd .none) (T : Txt2 g) (R : RF g C_TextReader) (CL_TextReader : Cls g.K C_TextReader) (M_TextReader_sign : Km g C_TextReader "sign" 1 ["self"] [] (sp_sign C_TextReader)) (M_TextReader_refuse : Km g C_TextReader "refuse" 3 ["self", "index"] [] (sp_refuse CI)) : FnG g 4 f fd ["self"] (sp_count C_TextReader CI) := by
  refine F.ok sc_TextReader_read_count (fun vs H Q E h => S1.len h) (fun cdv A outer s H vs Q E hr h => ?_)
  obtain ⟨_, rfl, y, dy, t, i, rfl, hy, hl, hi, q⟩ := h
  refine ⟨_, (pss_mid (ps_set (i := 1) sc_TextReader_read_count.nd rfl (Or.inl rfl) pe_int)
      (pss_mid (ps_set (i := 2) sc_TextReader_read_count.nd rfl (Or.inl rfl) (e_fld (K := g.K) (pv 0)))
      (pss_mid (ps_whileW psD (ptw_or (ptw_cmp (o_ne (K := g.K) hr) (pew_named (i := 3) sc_TextReader_read_count.nd rfl (Or.inl rfl) (pew_of (pe_methG0 (pv 0) CL_TextReader M_TextReader_sign (hr.mono (by first | decide | omega)) tkD))) pe_str (nomark _)) (pw_or1 (pt_cmpR (o_eq (K := g.K) hr) (e_fld (K := g.K) (pv 0)) (pv 2) (nomark _)))) (pss_mid (ps_if (PW.pt (pw_or (pt_cmpR (o_eq (K := g.K) hr) (pv 3) pe_str (nomark _)) (pw_or (pt_cmpR (o_nin (K := g.K)) (pv 3) (e_g T.c_DIGITS) (by rfl)) (pw_or1 (PW.pt (pw_and (pt_cmpR op_gt (e_fld (K := g.K) (pv 0)) (pv 2) (nomark _)) (pw_and1 (pt_cmpR (o_eq (K := g.K) hr) (pv 1) pe_int (nomark _))))))))) (pss_one (ps_expr (pe_methG (pv 0) CL_TextReader M_TextReader_refuse (hr.mono (by first | decide | omega)) tkD (pa_cons (e_fld (K := g.K) (pv 0)) pa_nil)))) pss_nil)
      (pss_mid (ps_set (i := 1) sc_TextReader_read_count.nd rfl (Or.inl rfl) (pe_op (o_add (K := g.K)) (pe_op o_mul pe_int (pv 1)) (pe_callTy call_int_str (by rfl) T.b_int bb_int (pa_cons (pv 3) pa_nil))))
      (pss_mid (ps_if (pt_cmpR op_gt (pv 1) (e_g T.c_MOST_ITEMS) (nomark _)) (pss_one (ps_expr (pe_methG (pv 0) CL_TextReader M_TextReader_refuse (hr.mono (by first | decide | omega)) tkD (pa_cons (e_fld (K := g.K) (pv 0)) pa_nil)))) pss_nil)
      (pss_one (s_fld (K := g.K) (pv 0) (pe_op (o_add (K := g.K)) (e_fld (K := g.K) (pv 0)) pe_int)))))) pss_nil)
      (pss_mid (s_fld (K := g.K) (pv 0) (pe_op (o_add (K := g.K)) (e_fld (K := g.K) (pv 0)) pe_int))
      (pss_one (ps_ret (pv 1))))))), ?_⟩
  refine mid_one [some (.ref y), some (.int 0), none, none] (fun H1 => H1 = H) ?_ ?_
  · walk_at "sx"
  intro H1 e1
  rw [e1]; clear e1 H1
  refine mid_one [some (.ref y), some (.int 0), some (.int (i : Nat)), none] (fun H1 => H1 = H) ?_ ?_
  · unfold Rd at hy
    walk_at "sx"
    (simp only [hy]; (try walk_at "sx"); (try simp only [R.cls, R.n1, R.n2, true_and]); (try walk_at "lt"); (try walk_at "sx"))
  intro H1 e1
  rw [e1]; clear e1 H1
  refine mid_at (fun σ G => ∃ n v, σ = [some (.ref y), some (.int (v : Nat)), some (.int (i : Nat)), some (.str (S [58]))] ∧ Rd C_TextReader G y dy t (i + n) ∧ But y H G ∧ ct 0 0 (t.drop i) = .ok v (n + 1) ∧ i + n < t.length) ?_ ?_
  · refine ⟨fun m σ G => ∃ n v sg, σ = [some (.ref y), some (.int (v : Nat)), some (.int (i : Nat)), sg] ∧ Rd C_TextReader G y dy t (i + n) ∧ But y H G ∧ i + n ≤ t.length ∧ v ≤ 10000 ∧ ct n v (t.drop (i + n)) = ct 0 0 (t.drop i) ∧ m = t.length - (i + n), ⟨_, 0, 0, none, rfl, hy, But.of (Same.refl _), by omega, by omega, rfl, rfl⟩, ?_⟩
    rintro m _ G ⟨n, v, sg, rfl, hG, bG, hn, hv, ec, rfl⟩
    rw [← ec] at q
    have hG' := hG
    unfold Rd at hG'
    simp only [wOr, wCmp, wNm, wE, wT, tRet, tRetN, tSeq, C8.tCut, tNext, tAsg, gName, gNil, gCons, gTup, gFld, tIfS, tIf, tAndV, tOrV, tNotV, tAnd, tOr, tNot, tB, tTest, tOp, tUn, tCB, tCons, tNil, tVar, tC, tChain, tDrop, tCallG, tMethG, tMakeG, RS.tCallK, RS.tMakeK, tEqOwn, rI, rI0, rU, add_ii, add_ss, add_rr, mul_ii, mul_si, mul_ri, RS.eq_ii, RS.eq_ss, eq_bb, eq_nn, eq_sn, eq_ns, eq_in, eq_ni, eq_bn, eq_nb, eq_is, eq_si, eq_rr, ne_ii, ne_ss, ne_bb, ne_nn, ne_sn, ne_ns, ne_in, ne_ni, ne_is, ne_si, ne_rr, in_ss, in_r, nin_ss, nin_r, len_s, len_r, RS.ix_s, RS.ix_r, sl_s, sl_r, is_eq, tyN_n, tyN_b, tyN_i, tyN_s, tru_b, tru_i, tru_n, tSl, tPart, tNoPart, tPar, tPar3, tFmtZ, tFmt, tJs, tDGet, sDPut, sFld, tFld, tTup, tLst, tNever, isB,
  L2.start, List.map_cons, List.map_nil, List.length_cons, List.length_nil, Nat.reduceAdd, Nat.reduceSub, Nat.sub_self, List.replicate_zero, List.replicate_succ, List.append_nil, List.cons_append, List.nil_append, List.getElem?_cons_zero, List.getElem?_cons_succ, List.set_cons_zero, List.set_cons_succ, Option.some.injEq, exists_eq_left, exists_eq_left', exists_and_left, V.bl.injEq, V.int.injEq, V.str.injEq, V.ref.injEq, beq_self_eq_true, Bool.true_or, Bool.or_true, Bool.false_or, Bool.or_false, Bool.and_false, Bool.false_and, Bool.true_and, Bool.and_true, Bool.not_true, Bool.not_false, Bool.false_eq_true, if_true, if_false, ite_true, ite_false, true_and, and_true, and_assoc, String.reduceBEq, String.reduceEq, reduceIte, Bool.and_self, reduceCtorEq, false_and, and_false, exists_false, or_false, false_or, exists_const, iEnumS, iStr, iList, iTup, iRng1, iEnum, tFor_eq, tLc_eq, List.cons.injEq, wipe, not_true_eq_false, not_false_eq_true, upd_same, HO.ins.injEq, HO.tup.injEq, HO.lst.injEq, ofS_eq, lk_nil, lk_cons, pu_nil, pu_cons, sizeLine_eq, Nat.reduceLT, Nat.reduceLeDiff, Nat.reduceEqDiff, Nat.le_refl, decide_true, decide_false, tPr, dget_us, dput_us, vv_nil, vv_cons, RS.pk_nil, pk_one, RS.pk_cons, inr_eq, tDisp, tPairs, tBoolOwn, rBoolOwn, tBM, rAppend, ty_list, ty_str, rEqOwn, iEnumT, RS.tCallS, tM1, tDc_eq, tLock, tLockE, iKeys, tListEnum, rUpdate, tMkX0, tMkX1, tXfv, gSub, rSetL, List.getD_cons_zero, List.getD_cons_succ]
    (simp only [hG']; (try walk_at "sx"); (try simp only [R.cls, R.n1, R.n2, true_and]); (try walk_at "lt"); (try walk_at "sx"))
    refine ⟨_, rfl, y, dy, t, i + n, rfl, hG, hl, ?_⟩
    have len := congrArg List.length (List.take_append_drop (i + n) t)
    cases hr : t.drop (i + n) with
    | nil =>
      rw [hr] at q
      simp only [ct] at q
      simp only [List.take_nil, ne_ss, S_eq]
      refine ⟨_, rfl, ?_⟩
      rw [if_pos (by decide)]
      refine ⟨fun _ _ => False, fun _ _ z => z.elim, ?_⟩
      refine mid_at (fun _ _ => False) ?_ (fun _ _ z => z.elim)
      walk_at "sx"
      (simp only [hG']; (try walk_at "sx"); (try simp only [R.cls, R.n1, R.n2, true_and]); (try walk_at "lt"); (try walk_at "sx"))
      exact ⟨_, _, rfl, y, rfl, fun dd hdd => q dd _ (bG.trans (But.of (same_upd hdd))) upd_same⟩
    | cons c r =>
      rw [hr] at q
      rw [hr] at ec
      have hlt : i + n < t.length := by
        have := congrArg List.length hr
        simp at this; omega
      have hdr : t.drop (i + (n + 1)) = r := by
        have : t.drop (i + (n + 1)) = (t.drop (i + n)).drop 1 := by rw [List.drop_drop]; rfl
        rw [this, hr]; rfl
      simp only [List.take_succ_cons, List.take_zero, ne_ss, S_eq]
      refine ⟨_, rfl, ?_⟩
      by_cases c58 : c = 58
      · subst c58
        rw [if_neg (by simp)]
        (simp only [hG']; (try walk_at "sx"); (try simp only [R.cls, R.n1, R.n2, true_and]); (try walk_at "lt"); (try walk_at "sx"))
        by_cases n0 : n = 0
        · subst n0
          have q' : Bad CI y H (i + 0) E := by simpa [ct, isDig] using q
          rw [if_pos (by simp)]
          refine ⟨fun _ _ => False, fun _ _ z => z.elim, ?_⟩
          refine mid_at (fun _ _ => False) ?_ (fun _ _ z => z.elim)
          walk_at "sx"
          walk_at "st"
          rw [if_neg (by simp), if_pos (by decide)]
          exact rf R hG q' bG
        · rw [if_neg (by simp; omega)]
          have e2 : ct n v (58 :: r) = .ok v (n + 1) := by simp [ct, n0]
          exact ⟨n, v, rfl, hG, bG, by rw [← ec, e2], hlt⟩
      · rw [if_pos (by simp [c58])]
        by_cases dgc : isDig c = true ∧ (n = 0 ∨ v ≠ 0)
        · by_cases big : 10 * v + (c - 48) ≤ 10000
          · have e2 : ct n v (c :: r) = ct (n + 1) (10 * v + (c - 48)) r := by simp only [ct]; rw [if_neg (by simp [c58]), if_pos ⟨dgc.1, dgc.2, big⟩]
            refine ⟨fun σ' G' => σ' = [some (.ref y), some (.int ((10 * v + (c - 48) : Nat))), some (.int (i : Nat)), some (.str (S [c]))] ∧ Rd C_TextReader G' y dy t (i + (n + 1)) ∧ But y H G', fun σ' G' z => ⟨t.length - (i + (n + 1)), by omega, n + 1, _, _, z.1, z.2.1, z.2.2, by omega, big, by rw [hdr, ← e2, ec], rfl⟩, ?_⟩
            refine mid_one [some (.ref y), some (.int (v : Nat)), some (.int (i : Nat)), some (.str (S [c]))] (fun G1 => G1 = G) ?_ ?_
            · walk_at "sx"
              walk_at "st"
              rw [if_neg (by simp), if_neg (by rw [dig_in, dgc.1]; decide)]
              refine ⟨_, _, _, hG', R.cls, R.n2, _, lk_at, _, rfl, ?_⟩
              rcases dgc.2 with n0 | v0
              · rw [if_neg (by simp; omega)]
                trivial
              · split
                · rw [if_neg (by simpa using v0)]; trivial
                · trivial
            intro G1 e1
            rw [e1]; clear e1 G1
            refine mid_one [some (.ref y), some (.int ((10 * v + (c - 48) : Nat))), some (.int (i : Nat)), some (.str (S [c]))] (fun G1 => G1 = G) ?_ ?_
            · walk_at "sx"
              exact ⟨.inl ⟨by decide, by decide⟩, _, int_sign dgc.1, by rw [S_len]; simp, by omega⟩
            intro G1 e1
            rw [e1]; clear e1 G1
            refine mid_one [some (.ref y), some (.int ((10 * v + (c - 48) : Nat))), some (.int (i : Nat)), some (.str (S [c]))] (fun G1 => G1 = G) ?_ ?_
            · walk_at "sx"
              rw [if_neg (by simp; omega)]
              trivial
            intro G1 e1
            rw [e1]; clear e1 G1
            walk_at "sx"
            (simp only [hG']; (try walk_at "sx"); (try simp only [R.cls, R.n1, R.n2, true_and]); (try walk_at "lt"); (try walk_at "sx"))
            have e3 := rd_at (C := C_TextReader) (y := y) (dy := dy) (G := G) (t := t) (j := i + n) (k := i + (n + 1)) (i := ((i + n : Nat) : Int) + 1) (by omega)
            exact ⟨_, _, _, hG', R.cls, R.n2, by simp, e3.1, bG.trans e3.2⟩
          · have q' : Bad CI y H (i + n) E := by
              have e2 : ct n v (c :: r) = .bad n := by simp only [ct]; rw [if_neg (by simp [c58]), if_neg (fun z => big z.2.2)]
              rw [e2] at q; exact q
            refine ⟨fun _ _ => False, fun _ _ z => z.elim, ?_⟩
            refine mid_one [some (.ref y), some (.int (v : Nat)), some (.int (i : Nat)), some (.str (S [c]))] (fun G1 => G1 = G) ?_ ?_
            · walk_at "sx"
              walk_at "st"
              rw [if_neg (by simp), if_neg (by rw [dig_in, dgc.1]; decide)]
              refine ⟨_, _, _, hG', R.cls, R.n2, _, lk_at, _, rfl, ?_⟩
              rcases dgc.2 with n0 | v0
              · rw [if_neg (by simp; omega)]
                trivial
              · split
                · rw [if_neg (by simpa using v0)]; trivial
                · trivial
            intro G1 e1
            rw [e1]; clear e1 G1
            refine mid_one [some (.ref y), some (.int ((10 * v + (c - 48) : Nat))), some (.int (i : Nat)), some (.str (S [c]))] (fun G1 => G1 = G) ?_ ?_
            · walk_at "sx"
              exact ⟨.inl ⟨by decide, by decide⟩, _, int_sign dgc.1, by rw [S_len]; simp, by omega⟩
            intro G1 e1
            rw [e1]; clear e1 G1
            refine mid_at (fun _ _ => False) ?_ (fun _ _ z => z.elim)
            walk_at "sx"
            rw [if_pos (by simp; omega)]
            exact rf R hG q' bG
        · have q' : Bad CI y H (i + n) E := by
            have e2 : ct n v (c :: r) = .bad n := by simp only [ct]; rw [if_neg (by simp [c58]), if_neg (fun z => dgc ⟨z.1, z.2.1⟩)]
            rw [e2] at q; exact q
          refine ⟨fun _ _ => False, fun _ _ z => z.elim, ?_⟩
          refine mid_at (fun _ _ => False) ?_ (fun _ _ z => z.elim)
          walk_at "sx"
          walk_at "st"
          rw [if_neg (by simp)]
          by_cases hd : isDig c = true
          · rw [if_neg (by rw [dig_in, hd]; decide)]
            refine ⟨_, _, _, hG', R.cls, R.n2, _, lk_at, _, rfl, ?_⟩
            have n0 : n ≠ 0 := fun z => dgc ⟨hd, .inl z⟩
            have v0 : v = 0 := by
              cases v with
              | zero => rfl
              | succ v => exact absurd ⟨hd, .inr (by omega)⟩ dgc
            rw [if_pos (by simp; omega), if_pos (by simpa using v0)]
            exact rf R hG q' bG
          · rw [if_pos (by rw [dig_in]; simpa using hd)]
            exact rf R hG q' bG
  rintro _ G ⟨n, v, rfl, hG, bG, ec, hn⟩
  rw [ec] at q
  have hG' := hG
  unfold Rd at hG'
  refine mid_one [some (.ref y), some (.int (v : Nat)), some (.int (i : Nat)), some (.str (S [58]))] (fun G1 => But y H G1 ∧ Rd C_TextReader G1 y dy t (i + (n + 1))) ?_ ?_
  · walk_at "sx"
    (simp only [hG']; (try walk_at "sx"); (try simp only [R.cls, R.n1, R.n2, true_and]); (try walk_at "lt"); (try walk_at "sx"))
    have e3 := rd_at (C := C_TextReader) (y := y) (dy := dy) (G := G) (t := t) (j := i + n) (k := i + (n + 1)) (i := ((i + n : Nat) : Int) + 1) (by omega)
    exact ⟨_, _, _, hG', R.cls, R.n2, by simp, bG.trans e3.2, e3.1⟩
  rintro G1 ⟨b1, r1⟩
  walk_at "sx"
  exact q _ b1 r1
end


open NumText
theorem lk_tx {t : List Nat} {j : Nat} : List.lookup (Str.ofString "own_text") [((Str.ofString "own_text"), V.str (S t)), ((Str.ofString "at"), V.int (j : Nat))] = some (.str (S t)) := by
  rw [lk_cons, if_pos rfl]
section
variable {g : Wd} {f : Addr} {fd : FuncData} {C_TextReader CI : Addr}
theorem sc_TextReader_read_digits : FnScope ["self", "closing", "most", "begin", "sign", "is_more"] ["self", "closing", "most"] (defScope s_TextReader_read_digits) := ⟨rfl, rfl, rfl, by decide +kernel, rfl, by decide +kernel, by decide +kernel⟩
def sp_digits (C CI : Addr) : Sp := S3 fun z a b H Q E => ∃ y dy t i, z = .ref y ∧ a = .str (S [59]) ∧ b = .int 100 ∧ Rd C H y dy t i ∧ t.length ≤ 10000000 ∧ i ≤ t.length ∧ match dg false 0 0 (t.drop i) with
  | .bad k => Bad CI y H (i + k) E
  | .ok n k => ∀ H', But y H H' → Rd C H' y dy t (i + k) → Q (.int (n : Nat)) H'
theorem ok_digits (F : Df g.K "read_digits" "TextReader.read_digits" s_TextReader_read_digits f fd .none) (T : Txt2 g) (R : RF g C_TextReader) (CL_TextReader : Cls g.K C_TextReader) (M_TextReader_sign : Km g C_TextReader "sign" 1 ["self"] [] (sp_sign C_TextReader)) (M_TextReader_refuse : Km g C_TextReader "refuse" 3 ["self", "index"] [] (sp_refuse CI)) : FnG g 4 f fd ["self", "closing", "most"] (sp_digits C_TextReader CI) := by
  refine F.ok sc_TextReader_read_digits (fun vs H Q E h => S3.len h) (fun cdv A outer s H vs Q E hr h => ?_)
  obtain ⟨_, _, _, rfl, y, dy, t, i, rfl, rfl, rfl, hy, hl, hi, q⟩ := h
  refine ⟨_, (pss_mid (ps_set (i := 3) sc_TextReader_read_digits.nd rfl (Or.inl rfl) (e_fld (K := g.K) (pv 0)))
      (pss_mid (ps_whileW psD (ptw_or (ptw_cmp (o_ne (K := g.K) hr) (pew_named (i := 4) sc_TextReader_read_digits.nd rfl (Or.inl rfl) (pew_of (pe_methG0 (pv 0) CL_TextReader M_TextReader_sign (hr.mono (by first | decide | omega)) tkD))) (pv 1) (nomark _)) (pw_or1 (pt_cmpR (o_eq (K := g.K) hr) (e_fld (K := g.K) (pv 0)) (pv 3) (nomark _)))) (pss_mid (ps_set (i := 5) sc_TextReader_read_digits.nd rfl (Or.inl rfl) (pe_or (pe_cmpR (o_eq (K := g.K) hr) (e_fld (K := g.K) (pv 0)) (pv 3) (nomark _)) (pe_one (pe_and (pe_cmpR op_lt (pe_op op_sub (e_fld (K := g.K) (pv 0)) (pv 3)) (pv 2) (nomark _)) (pe_one (pe_cmpR (o_ne (K := g.K) hr) (pe_ix (o_ix (K := g.K)) (e_fld (K := g.K) (pv 0)) (pv 3) (fun _ _ => rfl)) pe_str (nomark _)))))))
      (pss_mid (ps_if (PW.pt (pw_or (pt_cmpR (o_eq (K := g.K) hr) (pv 4) pe_str (nomark _)) (pw_or (pt_cmpR (o_nin (K := g.K)) (pv 4) (e_g T.c_DIGITS) (by rfl)) (pw_or1 (pt_not (t_truth (K := g.K) (pv 5))))))) (pss_one (ps_expr (pe_methG (pv 0) CL_TextReader M_TextReader_refuse (hr.mono (by first | decide | omega)) tkD (pa_cons (e_fld (K := g.K) (pv 0)) pa_nil)))) pss_nil)
      (pss_one (s_fld (K := g.K) (pv 0) (pe_op (o_add (K := g.K)) (e_fld (K := g.K) (pv 0)) pe_int))))) pss_nil)
      (pss_mid (s_fld (K := g.K) (pv 0) (pe_op (o_add (K := g.K)) (e_fld (K := g.K) (pv 0)) pe_int))
      (pss_one (ps_ret (pe_callTy call_int_str (by rfl) T.b_int bb_int (pa_cons (pe_slice (o_sl (K := g.K)) (e_fld (K := g.K) (pv 0)) (po_some (pv 3)) (po_some (pe_op op_sub (e_fld (K := g.K) (pv 0)) pe_int))) pa_nil))))))), ?_⟩
  refine mid_one [some (.ref y), some (.str (S [59])), some (.int 100), some (.int (i : Nat)), none, none] (fun H1 => H1 = H) ?_ ?_
  · unfold Rd at hy
    walk_at "sx"
    (simp only [hy]; (try walk_at "sx"); (try simp only [R.cls, R.n1, R.n2, true_and]); (try walk_at "lt"); (try walk_at "sx"))
  intro H1 e1
  rw [e1]; clear e1 H1
  refine mid_at (fun σ G => ∃ n v s5, σ = [some (.ref y), some (.str (S [59])), some (.int 100), some (.int (i : Nat)), some (.str (S [59])), s5] ∧ Rd C_TextReader G y dy t (i + n) ∧ But y H G ∧ dg false 0 0 (t.drop i) = .ok v (n + 1) ∧ i + n < t.length ∧ n ≠ 0 ∧ n ≤ 100 ∧ AllDigits ((t.drop i).take n) ∧ digitsVal ((t.drop i).take n) = v) ?_ ?_
  · refine ⟨fun m σ G => ∃ n v s4 s5, σ = [some (.ref y), some (.str (S [59])), some (.int 100), some (.int (i : Nat)), s4, s5] ∧ Rd C_TextReader G y dy t (i + n) ∧ But y H G ∧ i + n ≤ t.length ∧ n ≤ 100 ∧ AllDigits ((t.drop i).take n) ∧ digitsVal ((t.drop i).take n) = v ∧ dg (decide (n ≠ 0) && decide (t.getD i 0 = 48)) n v (t.drop (i + n)) = dg false 0 0 (t.drop i) ∧ m = t.length - (i + n), ⟨_, 0, 0, none, none, rfl, hy, But.of (Same.refl _), by omega, by omega, by simp [AllDigits], rfl, rfl, rfl⟩, ?_⟩
    rintro m _ G ⟨n, v, s4, s5, rfl, hG, bG, hn, h100, had, hdv, ec, rfl⟩
    rw [← ec] at q
    have hG' := hG
    unfold Rd at hG'
    simp only [wOr, wCmp, wNm, wE, wT, tRet, tRetN, tSeq, C8.tCut, tNext, tAsg, gName, gNil, gCons, gTup, gFld, tIfS, tIf, tAndV, tOrV, tNotV, tAnd, tOr, tNot, tB, tTest, tOp, tUn, tCB, tCons, tNil, tVar, tC, tChain, tDrop, tCallG, tMethG, tMakeG, RS.tCallK, RS.tMakeK, tEqOwn, rI, rI0, rU, add_ii, add_ss, add_rr, mul_ii, mul_si, mul_ri, RS.eq_ii, RS.eq_ss, eq_bb, eq_nn, eq_sn, eq_ns, eq_in, eq_ni, eq_bn, eq_nb, eq_is, eq_si, eq_rr, ne_ii, ne_ss, ne_bb, ne_nn, ne_sn, ne_ns, ne_in, ne_ni, ne_is, ne_si, ne_rr, in_ss, in_r, nin_ss, nin_r, len_s, len_r, RS.ix_s, RS.ix_r, sl_s, sl_r, is_eq, tyN_n, tyN_b, tyN_i, tyN_s, tru_b, tru_i, tru_n, tSl, tPart, tNoPart, tPar, tPar3, tFmtZ, tFmt, tJs, tDGet, sDPut, sFld, tFld, tTup, tLst, tNever, isB,
  L2.start, List.map_cons, List.map_nil, List.length_cons, List.length_nil, Nat.reduceAdd, Nat.reduceSub, Nat.sub_self, List.replicate_zero, List.replicate_succ, List.append_nil, List.cons_append, List.nil_append, List.getElem?_cons_zero, List.getElem?_cons_succ, List.set_cons_zero, List.set_cons_succ, Option.some.injEq, exists_eq_left, exists_eq_left', exists_and_left, V.bl.injEq, V.int.injEq, V.str.injEq, V.ref.injEq, beq_self_eq_true, Bool.true_or, Bool.or_true, Bool.false_or, Bool.or_false, Bool.and_false, Bool.false_and, Bool.true_and, Bool.and_true, Bool.not_true, Bool.not_false, Bool.false_eq_true, if_true, if_false, ite_true, ite_false, true_and, and_true, and_assoc, String.reduceBEq, String.reduceEq, reduceIte, Bool.and_self, reduceCtorEq, false_and, and_false, exists_false, or_false, false_or, exists_const, iEnumS, iStr, iList, iTup, iRng1, iEnum, tFor_eq, tLc_eq, List.cons.injEq, wipe, not_true_eq_false, not_false_eq_true, upd_same, HO.ins.injEq, HO.tup.injEq, HO.lst.injEq, ofS_eq, lk_nil, lk_cons, pu_nil, pu_cons, sizeLine_eq, Nat.reduceLT, Nat.reduceLeDiff, Nat.reduceEqDiff, Nat.le_refl, decide_true, decide_false, tPr, dget_us, dput_us, vv_nil, vv_cons, RS.pk_nil, pk_one, RS.pk_cons, inr_eq, tDisp, tPairs, tBoolOwn, rBoolOwn, tBM, rAppend, ty_list, ty_str, rEqOwn, iEnumT, RS.tCallS, tM1, tDc_eq, tLock, tLockE, iKeys, tListEnum, rUpdate, tMkX0, tMkX1, tXfv, gSub, rSetL, List.getD_cons_zero, List.getD_cons_succ]
    (simp only [hG']; (try walk_at "sx"); (try simp only [R.cls, R.n1, R.n2, true_and]); (try walk_at "lt"); (try walk_at "sx"))
    refine ⟨_, rfl, y, dy, t, i + n, rfl, hG, hl, ?_⟩
    cases hr : t.drop (i + n) with
    | nil =>
      rw [hr] at q
      simp only [dg] at q
      simp only [List.take_nil, ne_ss, S_eq]
      refine ⟨_, rfl, ?_⟩
      rw [if_pos (by decide)]
      refine ⟨fun _ _ => False, fun _ _ z => z.elim, ?_⟩
      refine mid_one [some (.ref y), some (.str (S [59])), some (.int 100), some (.int (i : Nat)), some (.str (S [])), some (.bl (decide (n = 0 ∨ (n < 100 ∧ ¬ t.getD i 0 = 48))))] (fun G1 => G1 = G) ?_ ?_
      · walk_at "sx"
        (simp only [hG']; (try walk_at "sx"); (try simp only [R.cls, R.n1, R.n2, true_and]); (try walk_at "lt"); (try walk_at "sx"))
        by_cases n0 : n = 0
        · rw [if_pos (by simp [n0])]
          simp [n0]
        · rw [if_neg (by simp; omega)]
          refine ⟨_, _, _, hG', R.cls, R.n2, _, lk_at, _, rfl, ?_⟩
          by_cases n1 : n < 100
          · rw [if_pos (by simp; omega)]
            refine ⟨_, _, _, hG', R.cls, R.n1, _, lk_tx, ?_⟩
            rw [RS.ix_s]
            refine ⟨by rw [S_len, sizeLine_eq]; omega, _, at_lt (by omega), ?_⟩
            show rNeU g.K (.str (S [t.getD i 0])) (.str (S [48])) G _
            simp only [ne_ss, S_eq]
            simp [n0, n1]
          · rw [if_neg (by simp; omega)]
            simp [n0, n1]
      intro G1 e1
      rw [e1]; clear e1 G1
      refine mid_at (fun _ _ => False) ?_ (fun _ _ z => z.elim)
      walk_at "sx"
      try walk_at "st"
      exact rf R hG q bG
    | cons c r =>
      rw [hr] at q
      rw [hr] at ec
      have hlt : i + n < t.length := by
        have := congrArg List.length hr
        simp at this; omega
      have hdr : t.drop (i + (n + 1)) = r := by
        have : t.drop (i + (n + 1)) = (t.drop (i + n)).drop 1 := by rw [List.drop_drop]; rfl
        rw [this, hr]; rfl
      have htk : (t.drop i).take (n + 1) = (t.drop i).take n ++ [c] := by
        rw [List.take_add_one, List.getElem?_drop]
        have : t[i + n]? = some c := by
          have := congrArg List.head? hr
          rw [List.head?_drop] at this
          exact this
        rw [this]; rfl
      simp only [List.take_succ_cons, List.take_zero, ne_ss, S_eq]
      refine ⟨_, rfl, ?_⟩
      by_cases c59 : c = 59
      · subst c59
        rw [if_neg (by simp)]
        (simp only [hG']; (try walk_at "sx"); (try simp only [R.cls, R.n1, R.n2, true_and]); (try walk_at "lt"); (try walk_at "sx"))
        by_cases n0 : n = 0
        · subst n0
          have q' : Bad CI y H (i + 0) E := by simpa [dg, isDig] using q
          rw [if_pos (by simp)]
          refine ⟨fun _ _ => False, fun _ _ z => z.elim, ?_⟩
          refine mid_at (fun σ G1 => (∃ b, σ = [some (.ref y), some (.str (S [59])), some (.int 100), some (.int (i : Nat)), some (.str (S [59])), some (.bl b)]) ∧ G1 = G) ?_ ?_
          · walk_at "sx"
            (simp only [hG']; (try walk_at "sx"); (try simp only [R.cls, R.n1, R.n2, true_and]); (try walk_at "lt"); (try walk_at "sx"))
            rw [if_pos (by simp)]
            simp
          rintro _ G1 ⟨⟨b, rfl⟩, rfl⟩
          refine mid_at (fun _ _ => False) ?_ (fun _ _ z => z.elim)
          walk_at "sx"
          walk_at "st"
          rw [if_neg (by simp), if_pos (by decide)]
          exact rf R hG q' bG
        · rw [if_neg (by simp; omega)]
          have e2 : dg (decide (n ≠ 0) && decide (t.getD i 0 = 48)) n v (59 :: r) = .ok v (n + 1) := by simp [dg, n0]
          exact ⟨n, hG, bG, v, by rw [← ec, e2], hlt, n0, h100, had, hdv⟩
      · rw [if_pos (by simp [c59])]
        have zz : (n = 0 ∨ (n < 100 ∧ (decide (n ≠ 0) && decide (t.getD i 0 = 48)) = false)) ↔ (n = 0 ∨ (n < 100 ∧ ¬ t.getD i 0 = 48)) := by
          by_cases n0 : n = 0
          · simp [n0]
          · simp [n0]
        by_cases dgc : isDig c = true ∧ (n = 0 ∨ (n < 100 ∧ ¬ t.getD i 0 = 48))
        · have e2 : dg (decide (n ≠ 0) && decide (t.getD i 0 = 48)) n v (c :: r) = dg (decide (n + 1 ≠ 0) && decide (t.getD i 0 = 48)) (n + 1) (10 * v + (c - 48)) r := by
            simp only [dg]
            rw [if_neg (by simp [c59]), if_pos ⟨dgc.1, zz.mpr dgc.2⟩]
            congr 1
            by_cases n0 : n = 0
            · subst n0
              have : t.getD i 0 = c := by
                have := congrArg List.head? hr
                rw [List.head?_drop] at this
                simp at this
                rw [List.getD_eq_getElem?_getD, this]; rfl
              rw [this]; simp
            · simp [n0]
          refine ⟨fun σ' G' => σ' = [some (.ref y), some (.str (S [59])), some (.int 100), some (.int (i : Nat)), some (.str (S [c])), some (.bl true)] ∧ Rd C_TextReader G' y dy t (i + (n + 1)) ∧ But y H G', fun σ' G' z => ⟨t.length - (i + (n + 1)), by omega, n + 1, 10 * v + (c - 48), _, _, z.1, z.2.1, z.2.2, by omega, by omega, ?_, ?_, by rw [hdr, ← e2, ec], rfl⟩, ?_⟩
          · rw [htk]
            intro c' hc'
            rcases List.mem_append.mp hc' with h | h
            · exact had c' h
            · rw [List.mem_singleton.mp h]; simpa [isDig] using dgc.1
          · rw [htk, ← hdv]
            unfold digitsVal
            rw [List.foldl_append]
            simp; omega
          refine mid_one [some (.ref y), some (.str (S [59])), some (.int 100), some (.int (i : Nat)), some (.str (S [c])), some (.bl (decide (n = 0 ∨ (n < 100 ∧ ¬ t.getD i 0 = 48))))] (fun G1 => G1 = G) ?_ ?_
          · walk_at "sx"
            (simp only [hG']; (try walk_at "sx"); (try simp only [R.cls, R.n1, R.n2, true_and]); (try walk_at "lt"); (try walk_at "sx"))
            by_cases n0 : n = 0
            · rw [if_pos (by simp [n0])]
              simp [n0]
            · rw [if_neg (by simp; omega)]
              refine ⟨_, _, _, hG', R.cls, R.n2, _, lk_at, _, rfl, ?_⟩
              by_cases n1 : n < 100
              · rw [if_pos (by simp; omega)]
                refine ⟨_, _, _, hG', R.cls, R.n1, _, lk_tx, ?_⟩
                rw [RS.ix_s]
                refine ⟨by rw [S_len, sizeLine_eq]; omega, _, at_lt (by omega), ?_⟩
                show rNeU g.K (.str (S [t.getD i 0])) (.str (S [48])) G _
                simp only [ne_ss, S_eq]
                simp [n0, n1]
              · rw [if_neg (by simp; omega)]
                simp [n0, n1]
          intro G1 e1
          rw [e1]; clear e1 G1
          refine mid_one [some (.ref y), some (.str (S [59])), some (.int 100), some (.int (i : Nat)), some (.str (S [c])), some (.bl (decide (n = 0 ∨ (n < 100 ∧ ¬ t.getD i 0 = 48))))] (fun G1 => G1 = G) ?_ ?_
          · walk_at "sx"
            walk_at "st"
            rw [if_neg (by simp), if_neg (by rw [dig_in, dgc.1]; decide), if_neg (by rw [decide_eq_true dgc.2]; decide)]
            trivial
          intro G1 e1
          rw [e1]; clear e1 G1
          walk_at "sx"
          (simp only [hG']; (try walk_at "sx"); (try simp only [R.cls, R.n1, R.n2, true_and]); (try walk_at "lt"); (try walk_at "sx"))
          have e3 := rd_at (C := C_TextReader) (y := y) (dy := dy) (G := G) (t := t) (j := i + n) (k := i + (n + 1)) (i := ((i + n : Nat) : Int) + 1) (by omega)
          exact ⟨_, _, _, hG', R.cls, R.n2, by simp, decide_eq_true dgc.2, e3.1, bG.trans e3.2⟩
        · have q' : Bad CI y H (i + n) E := by
            have e2 : dg (decide (n ≠ 0) && decide (t.getD i 0 = 48)) n v (c :: r) = .bad n := by simp only [dg]; rw [if_neg (by simp [c59]), if_neg (fun z => dgc ⟨z.1, zz.mp z.2⟩)]
            rw [e2] at q; exact q
          refine ⟨fun _ _ => False, fun _ _ z => z.elim, ?_⟩
          refine mid_one [some (.ref y), some (.str (S [59])), some (.int 100), some (.int (i : Nat)), some (.str (S [c])), some (.bl (decide (n = 0 ∨ (n < 100 ∧ ¬ t.getD i 0 = 48))))] (fun G1 => G1 = G) ?_ ?_
          · walk_at "sx"
            (simp only [hG']; (try walk_at "sx"); (try simp only [R.cls, R.n1, R.n2, true_and]); (try walk_at "lt"); (try walk_at "sx"))
            by_cases n0 : n = 0
            · rw [if_pos (by simp [n0])]
              simp [n0]
            · rw [if_neg (by simp; omega)]
              refine ⟨_, _, _, hG', R.cls, R.n2, _, lk_at, _, rfl, ?_⟩
              by_cases n1 : n < 100
              · rw [if_pos (by simp; omega)]
                refine ⟨_, _, _, hG', R.cls, R.n1, _, lk_tx, ?_⟩
                rw [RS.ix_s]
                refine ⟨by rw [S_len, sizeLine_eq]; omega, _, at_lt (by omega), ?_⟩
                show rNeU g.K (.str (S [t.getD i 0])) (.str (S [48])) G _
                simp only [ne_ss, S_eq]
                simp [n0, n1]
              · rw [if_neg (by simp; omega)]
                simp [n0, n1]
          intro G1 e1
          rw [e1]; clear e1 G1
          refine mid_at (fun _ _ => False) ?_ (fun _ _ z => z.elim)
          walk_at "sx"
          walk_at "st"
          rw [if_neg (by simp)]
          by_cases hd : isDig c = true
          · rw [if_neg (by rw [dig_in, hd]; decide), if_pos (by rw [decide_eq_false (fun z => dgc ⟨hd, z⟩)]; rfl)]
            exact rf R hG q' bG
          · rw [if_pos (by rw [dig_in]; simpa using hd)]
            exact rf R hG q' bG
  rintro _ G ⟨n, v, s5, rfl, hG, bG, ec, hn, n0, h100, had, hdv⟩
  rw [ec] at q
  have hG' := hG
  unfold Rd at hG'
  refine mid_one [some (.ref y), some (.str (S [59])), some (.int 100), some (.int (i : Nat)), some (.str (S [59])), s5] (fun G1 => But y H G1 ∧ Rd C_TextReader G1 y dy t (i + (n + 1))) ?_ ?_
  · walk_at "sx"
    (simp only [hG']; (try walk_at "sx"); (try simp only [R.cls, R.n1, R.n2, true_and]); (try walk_at "lt"); (try walk_at "sx"))
    have e3 := rd_at (C := C_TextReader) (y := y) (dy := dy) (G := G) (t := t) (j := i + n) (k := i + (n + 1)) (i := ((i + n : Nat) : Int) + 1) (by omega)
    exact ⟨_, _, _, hG', R.cls, R.n2, by simp, bG.trans e3.2, e3.1⟩
  rintro G1 ⟨b1, r1⟩
  have r1' := r1
  unfold Rd at r1'
  walk_at "sx"
  (simp only [r1']; (try walk_at "sx"); (try simp only [R.cls, R.n1, R.n2, true_and]); (try walk_at "lt"); (try walk_at "sx"))
  rw [cut_both _ (by omega) (by omega)]
  have e4 : (((i + (n + 1) : Nat) : Int) - 1).toNat - (i : Int).toNat = n := by omega
  rw [e4]
  have e5 : ((i : Nat) : Int).toNat = i := by omega
  rw [e5]
  have nn : (t.drop i).take n ≠ [] := fun z => by
    have := congrArg List.length z
    simp at this; omega
  refine ⟨by rw [S_len]; omega, _, intText_digits (x := S ((t.drop i).take n)) had nn (by rw [S_len, List.length_take]; omega), by rw [S_len, List.length_take]; omega, ?_⟩
  have e6 : digitsVal (S ((t.drop i).take n)).cps.toList = v := hdv
  rw [e6]
  exact q _ b1 r1
end


section
variable {g : Wd} {f : Addr} {fd : FuncData} {C_TextReader CI : Addr}
theorem sc_TextReader_read_integer : FnScope ["self"] ["self"] (defScope s_TextReader_read_integer) := ⟨rfl, rfl, rfl, by decide +kernel, rfl, by decide +kernel, by decide +kernel⟩
def sp_integer (C CI : Addr) : Sp := S1 fun z H Q E => ∃ y dy t i, z = .ref y ∧ Rd C H y dy t i ∧ t.length ≤ 10000000 ∧ i ≤ t.length ∧ match ig (t.drop i) with
  | .bad k => Bad CI y H (i + k) E
  | .ok n k => ∀ H', But y H H' → Rd C H' y dy t (i + k) → Q (.int n) H'
theorem ok_integer (F : Df g.K "read_integer" "TextReader.read_integer" s_TextReader_read_integer f fd .none) (T : Txt2 g) (R : RF g C_TextReader) (CL_TextReader : Cls g.K C_TextReader) (M_TextReader_sign : Km g C_TextReader "sign" 1 ["self"] [] (sp_sign C_TextReader)) (M_TextReader_refuse : Km g C_TextReader "refuse" 3 ["self", "index"] [] (sp_refuse CI)) (M_TextReader_read_digits : Km g C_TextReader "read_digits" 4 ["self", "closing", "most"] [] (sp_digits C_TextReader CI)) : FnG g 5 f fd ["self"] (sp_integer C_TextReader CI) := by
  refine F.ok sc_TextReader_read_integer (fun vs H Q E h => S1.len h) (fun cdv A outer s H vs Q E hr h => ?_)
  obtain ⟨_, rfl, y, dy, t, i, rfl, hy, hl, hi, q⟩ := h
  refine ⟨_, (pss_mid (ps_if (pt_cmpR (o_ne (K := g.K) hr) (pe_methG0 (pv 0) CL_TextReader M_TextReader_sign (hr.mono (by first | decide | omega)) tkD) pe_str (nomark _)) (pss_one (ps_ret (pe_methG (pv 0) CL_TextReader M_TextReader_read_digits (hr.mono (by first | decide | omega)) tkD (pa_cons pe_str (pa_cons (e_g T.c_MOST_DIGITS) pa_nil))))) pss_nil)
      (pss_mid (s_fld (K := g.K) (pv 0) (pe_op (o_add (K := g.K)) (e_fld (K := g.K) (pv 0)) pe_int))
      (pss_mid (ps_if (pt_cmpR (o_eq (K := g.K) hr) (pe_methG0 (pv 0) CL_TextReader M_TextReader_sign (hr.mono (by first | decide | omega)) tkD) pe_str (nomark _)) (pss_one (ps_expr (pe_methG (pv 0) CL_TextReader M_TextReader_refuse (hr.mono (by first | decide | omega)) tkD (pa_cons (e_fld (K := g.K) (pv 0)) pa_nil)))) pss_nil)
      (pss_one (ps_ret (pe_op op_sub pe_int (pe_methG (pv 0) CL_TextReader M_TextReader_read_digits (hr.mono (by first | decide | omega)) tkD (pa_cons pe_str (pa_cons (e_g T.c_MOST_DIGITS) pa_nil))))))))), ?_⟩
  have hy' := hy
  unfold Rd at hy'
  by_cases mi : (t.drop i).take 1 = [45]
  · obtain ⟨r, hr⟩ : ∃ r, t.drop i = 45 :: r := by
      cases hh : t.drop i with
      | nil => rw [hh] at mi; simp at mi
      | cons c r => rw [hh] at mi; simp at mi; exact ⟨r, by rw [mi]⟩
    have hdr : t.drop (i + 1) = r := by
      have : t.drop (i + 1) = (t.drop i).drop 1 := by rw [List.drop_drop]
      rw [this, hr]; rfl
    have hlt : i + 1 ≤ t.length := by
      have := congrArg List.length hr
      simp at this; omega
    refine mid_one [some (.ref y)] (fun H1 => H1 = H) ?_ ?_
    · walk_at "sx"
      (simp only [hy']; (try walk_at "sx"); (try simp only [R.cls, R.n1, R.n2, true_and]); (try walk_at "lt"); (try walk_at "sx"))
      refine ⟨_, rfl, y, dy, t, i, rfl, hy, hl, ?_⟩
      rw [mi]
      simp only [ne_ss]
      refine ⟨_, rfl, ?_⟩
      rw [if_neg (by simp)]
      trivial
    intro H1 e1
    rw [e1]; clear e1 H1
    refine mid_one [some (.ref y)] (fun G => But y H G ∧ Rd C_TextReader G y dy t (i + 1)) ?_ ?_
    · walk_at "sx"
      (simp only [hy']; (try walk_at "sx"); (try simp only [R.cls, R.n1, R.n2, true_and]); (try walk_at "lt"); (try walk_at "sx"))
      have e3 := rd_at (C := C_TextReader) (y := y) (dy := dy) (G := H) (t := t) (j := i) (k := i + 1) (i := (i : Int) + 1) (by omega)
      exact ⟨_, _, _, hy', R.cls, R.n2, by simp, e3.2, e3.1⟩
    rintro G ⟨bG, hG⟩
    have hG' := hG
    unfold Rd at hG'
    by_cases ze : r.take 1 = [48]
    · obtain ⟨r2, hr2⟩ : ∃ r2, r = 48 :: r2 := by
        cases r with
        | nil => simp at ze
        | cons c r => simp at ze; exact ⟨r, by rw [ze]⟩
      have q' : Bad CI y H (i + 1) E := by rw [hr, hr2] at q; simpa [ig] using q
      refine mid_at (fun _ _ => False) ?_ (fun _ _ z => z.elim)
      walk_at "sx"
      (simp only [hG']; (try walk_at "sx"); (try simp only [R.cls, R.n1, R.n2, true_and]); (try walk_at "lt"); (try walk_at "sx"))
      refine ⟨_, rfl, y, dy, t, i + 1, rfl, hG, hl, ?_⟩
      rw [hdr, ze]
      simp only [RS.eq_ss]
      refine ⟨_, rfl, ?_⟩
      rw [if_pos (by simp)]
      exact rf R hG q' bG
    · have eig : ig (t.drop i) = ((dg false 0 0 r).map fun v : Nat => (0 - (v : Int))).up 1 := by
        rw [hr]
        unfold ig
        cases r with
        | nil => rfl
        | cons c r => 
          have : c ≠ 48 := fun e => ze (by simp [e])
          simp [this]
      refine mid_one [some (.ref y)] (fun G1 => G1 = G) ?_ ?_
      · walk_at "sx"
        (simp only [hG']; (try walk_at "sx"); (try simp only [R.cls, R.n1, R.n2, true_and]); (try walk_at "lt"); (try walk_at "sx"))
        refine ⟨_, rfl, y, dy, t, i + 1, rfl, hG, hl, ?_⟩
        rw [hdr]
        simp only [RS.eq_ss, S_eq]
        refine ⟨_, rfl, ?_⟩
        rw [if_neg (by simpa using ze)]
        trivial
      intro G1 e1
      rw [e1]; clear e1 G1
      walk_at "sx"
      (simp only [hG']; (try walk_at "sx"); (try simp only [R.cls, R.n1, R.n2, true_and]); (try walk_at "lt"); (try walk_at "sx"))
      refine ⟨_, _, _, rfl, y, dy, t, i + 1, rfl, rfl, rfl, hG, hl, hlt, ?_⟩
      rw [eig] at q
      rw [hdr]
      cases hd : dg false 0 0 r with
      | bad k =>
        rw [hd] at q
        simp only [Res.map, Res.up] at q
        rw [← Nat.add_assoc] at q
        exact fun dd H' b h => q dd H' (bG.trans b) h
      | ok n k =>
        rw [hd] at q
        simp only [Res.map, Res.up] at q
        rw [← Nat.add_assoc] at q
        exact fun H' b h => ⟨_, rfl, q H' (bG.trans b) h⟩
  · have eig : ig (t.drop i) = (dg false 0 0 (t.drop i)).map fun v : Nat => (v : Int) := by
      cases hh : t.drop i with
      | nil => rfl
      | cons c r =>
        have : c ≠ 45 := fun e => mi (by rw [hh]; simp [e])
        unfold ig
        simp [this]
    refine mid_at (fun _ _ => False) ?_ (fun _ _ z => z.elim)
    walk_at "sx"
    (simp only [hy']; (try walk_at "sx"); (try simp only [R.cls, R.n1, R.n2, true_and]); (try walk_at "lt"); (try walk_at "sx"))
    refine ⟨_, rfl, y, dy, t, i, rfl, hy, hl, ?_⟩
    simp only [ne_ss, S_eq]
    refine ⟨_, rfl, ?_⟩
    rw [if_pos (by simpa using mi)]
    (simp only [hy']; (try walk_at "sx"); (try simp only [R.cls, R.n1, R.n2, true_and]); (try walk_at "lt"); (try walk_at "sx"))
    refine ⟨_, _, _, rfl, y, dy, t, i, rfl, rfl, rfl, hy, hl, hi, ?_⟩
    rw [eig] at q
    cases hd : dg false 0 0 (t.drop i) with
    | bad k => rw [hd] at q; exact q
    | ok n k => rw [hd] at q; exact q
theorem sc_TextReader_read_string : FnScope ["self", "size", "found"] ["self"] (defScope s_TextReader_read_string) := ⟨rfl, rfl, rfl, by decide +kernel, rfl, by decide +kernel, by decide +kernel⟩
def sp_string (C CI : Addr) : Sp := S1 fun z H Q E => ∃ y dy t i, z = .ref y ∧ Rd C H y dy t i ∧ t.length ≤ 10000000 ∧ i ≤ t.length ∧ match rs (t.drop i) with
  | .bad k => Bad CI y H (i + k) E
  | .ok x k => ∀ H', But y H H' → Rd C H' y dy t (i + k) → Q (.str (S x)) H'
theorem ok_string (F : Df g.K "read_string" "TextReader.read_string" s_TextReader_read_string f fd .none) (T : Txt2 g) (R : RF g C_TextReader) (CL_TextReader : Cls g.K C_TextReader) (M_TextReader_refuse : Km g C_TextReader "refuse" 3 ["self", "index"] [] (sp_refuse CI)) (M_TextReader_read_count : Km g C_TextReader "read_count" 4 ["self"] [] (sp_count C_TextReader CI)) : FnG g 5 f fd ["self"] (sp_string C_TextReader CI) := by
  refine F.ok sc_TextReader_read_string (fun vs H Q E h => S1.len h) (fun cdv A outer s H vs Q E hr h => ?_)
  obtain ⟨_, rfl, y, dy, t, i, rfl, hy, hl, hi, q⟩ := h
  refine ⟨_, (pss_mid (ps_set (i := 1) sc_TextReader_read_string.nd rfl (Or.inl rfl) (pe_methG0 (pv 0) CL_TextReader M_TextReader_read_count (hr.mono (by first | decide | omega)) tkD))
      (pss_mid (ps_if (pt_cmpR op_gt (pe_op (o_add (K := g.K)) (e_fld (K := g.K) (pv 0)) (pv 1)) (pe_callB (c_len (K := g.K)) (by rfl) T.b_len bb_len (pa_cons (e_fld (K := g.K) (pv 0)) pa_nil)) (nomark _)) (pss_one (ps_expr (pe_methG (pv 0) CL_TextReader M_TextReader_refuse (hr.mono (by first | decide | omega)) tkD (pa_cons (pe_callB (c_len (K := g.K)) (by rfl) T.b_len bb_len (pa_cons (e_fld (K := g.K) (pv 0)) pa_nil)) pa_nil)))) pss_nil)
      (pss_mid (ps_set (i := 2) sc_TextReader_read_string.nd rfl (Or.inl rfl) (pe_slice (o_sl (K := g.K)) (e_fld (K := g.K) (pv 0)) (po_some (e_fld (K := g.K) (pv 0))) (po_some (pe_op (o_add (K := g.K)) (e_fld (K := g.K) (pv 0)) (pv 1)))))
      (pss_mid (s_fld (K := g.K) (pv 0) (pe_op (o_add (K := g.K)) (e_fld (K := g.K) (pv 0)) (pv 1)))
      (pss_one (ps_ret (pv 2))))))), ?_⟩
  have hy' := hy
  unfold Rd at hy'
  unfold rs at q
  refine mid_at (fun σ G => ∃ n k, ct 0 0 (t.drop i) = .ok n k ∧ σ = [some (.ref y), some (.int (n : Nat)), none] ∧ But y H G ∧ Rd C_TextReader G y dy t (i + k)) ?_ ?_
  · walk_at "sx"
    (simp only [hy']; (try walk_at "sx"); (try simp only [R.cls, R.n1, R.n2, true_and]); (try walk_at "lt"); (try walk_at "sx"))
    refine ⟨_, rfl, y, dy, t, i, rfl, hy, hl, hi, ?_⟩
    cases hc : ct 0 0 (t.drop i) with
    | bad k => rw [hc] at q; exact q
    | ok n k => exact fun H' b h => ⟨n, k, rfl, rfl, b, h⟩
  rintro _ G ⟨n, k, hc, rfl, bG, hG⟩
  rw [hc] at q
  have hG' := hG
  unfold Rd at hG'
  simp only at q
  by_cases fit : n ≤ ((t.drop i).drop k).length
  · rw [if_pos fit] at q
    have f2 : i + k + n ≤ t.length := by
      rw [List.drop_drop, List.length_drop] at fit
      have := (ct_len hc).1
      rw [List.length_drop] at this
      omega
    refine mid_one [some (.ref y), some (.int (n : Nat)), none] (fun G1 => G1 = G) ?_ ?_
    · walk_at "sx"
      (simp only [hG']; (try walk_at "sx"); (try simp only [R.cls, R.n1, R.n2, true_and]); (try walk_at "lt"); (try walk_at "sx"))
      refine ⟨_, _, _, hG', R.cls, R.n1, _, lk_tx, ?_⟩
      simp only [len_s, S_len]
      refine ⟨by rw [sizeLine_eq]; omega, _, rfl, ?_⟩
      rw [if_neg (by simp; omega)]
      trivial
    intro G1 e1
    rw [e1]; clear e1 G1
    refine mid_one [some (.ref y), some (.int (n : Nat)), some (.str (S (((t.drop i).drop k).take n)))] (fun G1 => G1 = G) ?_ ?_
    · walk_at "sx"
      (simp only [hG']; (try walk_at "sx"); (try simp only [R.cls, R.n1, R.n2, true_and]); (try walk_at "lt"); (try walk_at "sx"))
      refine ⟨by rw [S_len]; omega, ?_⟩
      rw [cut_both _ (by omega) (by omega), List.drop_drop]
      congr 2
      · omega
    intro G1 e1
    rw [e1]; clear e1 G1
    refine mid_one [some (.ref y), some (.int (n : Nat)), some (.str (S (((t.drop i).drop k).take n)))] (fun G1 => But y H G1 ∧ Rd C_TextReader G1 y dy t (i + (k + n))) ?_ ?_
    · walk_at "sx"
      (simp only [hG']; (try walk_at "sx"); (try simp only [R.cls, R.n1, R.n2, true_and]); (try walk_at "lt"); (try walk_at "sx"))
      have e3 := rd_at (C := C_TextReader) (y := y) (dy := dy) (G := G) (t := t) (j := i + k) (k := i + (k + n)) (i := ((i + k : Nat) : Int) + (n : Nat)) (by omega)
      exact ⟨_, _, _, hG', R.cls, R.n2, by simp, bG.trans e3.2, e3.1⟩
    rintro G1 ⟨b1, r1⟩
    walk_at "sx"
    exact q _ b1 r1
  · rw [if_neg fit] at q
    have q' : Bad CI y H t.length E := by
      have : i + (t.drop i).length = t.length := by rw [List.length_drop]; omega
      simp only at q
      rw [this] at q; exact q
    refine mid_at (fun _ _ => False) ?_ (fun _ _ z => z.elim)
    walk_at "sx"
    (simp only [hG']; (try walk_at "sx"); (try simp only [R.cls, R.n1, R.n2, true_and]); (try walk_at "lt"); (try walk_at "sx"))
    refine ⟨_, _, _, hG', R.cls, R.n1, _, lk_tx, ?_⟩
    simp only [len_s, S_len]
    refine ⟨by rw [sizeLine_eq]; omega, _, rfl, ?_⟩
    rw [List.drop_drop, List.length_drop] at fit
    rw [if_pos (by simp; omega)]
    refine ⟨_, _, hG', lk_no, _, _, _, hG', R.cls, R.n1, _, lk_tx, ?_⟩
    simp only [len_s, S_len]
    exact ⟨by rw [sizeLine_eq]; omega, _, _, rfl, y, rfl, fun dd hdd => q' dd _ (bG.trans (But.of (same_upd hdd))) upd_same⟩
end


theorem up_map {α : Type} (x : Res (List α)) (a : α) (ds : List α) (k kk : Nat) : (((x.map fun as => a :: as).up k).map fun as => ds ++ as).up kk = (x.map fun as => (ds ++ [a]) ++ as).up (kk + k) := by
  cases x with
  | bad j => simp only [Res.map, Res.up]; congr 1; omega
  | ok b j => simp only [Res.map, Res.up, List.append_assoc, List.cons_append, List.nil_append]; congr 1; omega
theorem mny_len {α : Type} {f : List Nat → Res α} (hf : ∀ r a k, f r = .ok a k → k ≤ r.length) : ∀ {m : Nat} {r : List Nat} {as : List α} {k : Nat}, mny f m r = .ok as k → k ≤ r.length ∧ as.length = m
  | 0, r, as, k, h => by simp only [mny] at h; cases h; simp
  | m + 1, r, as, k, h => by
    simp only [mny] at h
    cases hx : f r with
    | bad j => rw [hx] at h; cases h
    | ok a j =>
      rw [hx] at h
      have l1 := hf r a j hx
      cases hy : mny f m (r.drop j) with
      | bad j2 => simp only [hy, Res.map, Res.up] at h; cases h
      | ok bs j2 =>
        simp only [hy, Res.map, Res.up] at h
        cases h
        have := mny_len hf hy
        rw [List.length_drop] at this
        simp; omega
section
variable {g : Wd} {f : Addr} {fd : FuncData} {C_TextReader CI : Addr}
/-- read_part with n levels left -/
def sp_part (C CI : Addr) (n : Nat) : Sp := S2 fun z dep H Q E => ∃ y dy t i, z = .ref y ∧ dep = .int (20 - (n : Int)) ∧ n ≤ 20 ∧ Rd C H y dy t i ∧ t.length ≤ 10000000 ∧ i ≤ t.length ∧ match rp n (t.drop i) with
  | .bad k => Bad CI y H (i + k) E
  | .ok d k => ∀ v fp H', Tr H' v d fp → (∀ c ∈ fp, H c = none) → But y H H' → Rd C H' y dy t (i + k) → Q v H'
/-- the items of a value that has n levels -/
def rpI (n : Nat) (r : List Nat) : Res (List PyData) := match ct 0 0 r with
  | .bad k => .bad k
  | .ok m k => (mny (rp n) m (r.drop k)).up k
theorem sc_TextReader_read_items : FnScope ["self", "depth", "found", "turn"] ["self", "depth"] (defScope s_TextReader_read_items) := ⟨rfl, rfl, rfl, by decide +kernel, rfl, by decide +kernel, by decide +kernel⟩
def sp_its1 (C CI : Addr) (n : Nat) : Sp := S2 fun z dep H Q E => ∃ y dy t i, z = .ref y ∧ dep = .int (20 - ((n + 1 : Nat) : Int)) ∧ n + 1 ≤ 20 ∧ Rd C H y dy t i ∧ t.length ≤ 10000000 ∧ i ≤ t.length ∧ match rpI n (t.drop i) with
  | .bad k => Bad CI y H (i + k) E
  | .ok ds k => ∀ p vs fp H', H' p = some (.lst vs) → TrL H' vs ds fp → H p = none → (∀ c ∈ fp, H c = none ∧ c ≠ p) → But y H H' → Rd C H' y dy t (i + k) → Q (.ref p) H'
def sp_its (C CI : Addr) : Nat → Sp
  | 0 => fun _ _ _ _ => False
  | n + 1 => sp_its1 C CI n
theorem ok_its (n : Nat) (hrp : ∀ r d k, rp n r = .ok d k → k ≤ r.length) (F : Df g.K "read_items" "TextReader.read_items" s_TextReader_read_items f fd .none) (T : Txt2 g) (R : RF g C_TextReader) (CL_TextReader : Cls g.K C_TextReader) (M_TextReader_read_count : Km g C_TextReader "read_count" 4 ["self"] [] (sp_count C_TextReader CI)) (M_TextReader_read_part : Km g C_TextReader "read_part" (2 * n + 6) ["self", "depth"] [] (sp_part C_TextReader CI n)) : FnG g (2 * n + 7) f fd ["self", "depth"] (sp_its1 C_TextReader CI n) := by
  refine F.ok sc_TextReader_read_items (fun vs H Q E h => S2.len h) (fun cdv A outer s H vs Q E hr h => ?_)
  obtain ⟨_, _, rfl, y, dy, t, i, rfl, rfl, h20, hy, hl, hi, q⟩ := h
  refine ⟨_, (pss_mid (ps_set (i := 2) sc_TextReader_read_items.nd rfl (Or.inl rfl) (pe_lst pa_nil))
      (pss_mid (ps_for psD rfl (pi_range1 rfl T.b_range (pa_cons (pe_methG0 (pv 0) CL_TextReader M_TextReader_read_count (hr.mono (by first | decide | omega)) tkD) pa_nil)) (pg_name (i := 3) sc_TextReader_read_items.nd rfl (.inl rfl)) (pss_one (ps_expr (e_bm (K := g.K) PySem.F.plainAttrs_list PySem.F.slot_list_append PySem.F.type_list_append mt_append (pv 2) (pa_cons (pe_methG (pv 0) CL_TextReader M_TextReader_read_part (hr.mono (by first | decide | omega)) tkD (pa_cons (pe_op (o_add (K := g.K)) (pv 1) pe_int) pa_nil)) pa_nil)))))
      (pss_one (ps_ret (pv 2))))), ?_⟩
  unfold rpI at q
  refine mid_at (fun σ G => ∃ p, σ = [some (.ref y), some (.int (20 - ((n + 1 : Nat) : Int))), some (.ref p), none] ∧ H p = none ∧ G = upd H p (.lst [])) ?_ ?_
  · walk_at "sx"
    exact fun p hp => hp
  rintro _ H1 ⟨p, rfl, hp, rfl⟩
  have s1 := same_upd (o := HO.lst []) hp
  have ep : upd H p (HO.lst []) p = some (.lst []) := upd_same
  have hy1 : Rd C_TextReader (upd H p (HO.lst [])) y dy t i := s1 _ _ hy
  have yp : y ≠ p := fun e => by unfold Rd at hy; rw [e, hp] at hy; cases hy
  generalize upd H p (HO.lst []) = H1 at s1 ep hy1 ⊢
  have hy' := hy1
  unfold Rd at hy'
  refine mid_at (fun σ G => ∃ v3 ds k vs fp, σ = [some (.ref y), some (.int (20 - ((n + 1 : Nat) : Int))), some (.ref p), v3] ∧ rpI n (t.drop i) = .ok ds k ∧ G p = some (.lst vs) ∧ TrL G vs ds fp ∧ (∀ c ∈ fp, H c = none ∧ c ≠ p) ∧ But y H G ∧ Rd C_TextReader G y dy t (i + k)) ?_ ?_
  · walk_at "sx"
    (simp only [hy']; (try walk_at "sx"); (try simp only [R.cls, R.n1, R.n2, true_and]); (try walk_at "lt"); (try walk_at "sx"))
    refine ⟨_, rfl, y, dy, t, i, rfl, hy1, hl, hi, ?_⟩
    cases hc : ct 0 0 (t.drop i) with
    | bad k =>
      rw [hc] at q
      exact fun dd H' b h => q dd H' (fun c o n z => b c o n (s1 _ _ z)) h
    | ok m k =>
      rw [hc] at q
      simp only at q
      intro H2 b2 r2
      have ck := ct_len hc
      rw [List.length_drop] at ck
      refine ⟨_, rfl, by omega, by omega, ?_⟩
      have e0 : rpI n (t.drop i) = ((mny (rp n) (m - 0) (t.drop (i + k))).map fun as => [] ++ as).up k := by
        unfold rpI
        rw [hc]
        simp only [List.drop_drop, Nat.sub_zero]
        cases mny (rp n) m (t.drop (i + k)) <;> rfl
      have b12 : But y H H2 := fun c o n z => b2 c o n (s1 _ _ z)
      have eq2 : (match rpI n (t.drop i) with
        | .bad k => Bad CI y H (i + k) E
        | .ok ds k => ∀ p vs fp H', H' p = some (.lst vs) → TrL H' vs ds fp → H p = none → (∀ c ∈ fp, H c = none ∧ c ≠ p) → But y H H' → Rd C_TextReader H' y dy t (i + k) → Q (.ref p) H') := by
        unfold rpI
        rw [hc]
        exact q
      refine for_by m (fun j σ G => (∃ v3, σ = [some (.ref y), some (.int (20 - ((n + 1 : Nat) : Int))), some (.ref p), v3]) ∧ ∃ ds kk vs fa, G p = some (.lst vs) ∧ vs.length = j ∧ TrL G vs ds fa ∧ (∀ c ∈ fa, H c = none ∧ c ≠ p) ∧ But y H G ∧ Rd C_TextReader G y dy t (i + kk) ∧ i + kk ≤ t.length ∧ rpI n (t.drop i) = ((mny (rp n) (m - j) (t.drop (i + kk))).map fun as => ds ++ as).up kk) ⟨⟨_, rfl⟩, [], k, [], [], b2 _ _ (Ne.symm yp) ep, rfl, .nil, by simp, b12, r2, by omega, e0⟩ (fun j σ G lt P => by simpa [Itr] using lt) (fun σ G P => by simp [Itr]) (fun j σ G x G1 lt P yl => ?_) (fun σ G P => ?_)
      · obtain ⟨⟨v3, rfl⟩, ds, kk, vs, fa, eG, lv, tl, nf, bG, hG, hk, er⟩ := P
        obtain ⟨rfl, rfl⟩ := yl
        have hG' := hG
        unfold Rd at hG'
        walk_at "sx"
        refine ⟨⟨_, SqL.of eG⟩, ?_⟩
        (simp only [hG']; (try walk_at "sx"); (try simp only [R.cls, R.n1, R.n2, true_and]); (try walk_at "lt"); (try walk_at "sx"))
        refine ⟨_, _, rfl, y, dy, t, i + kk, rfl, by congr 1; omega, by omega, hG, hl, hk, ?_⟩
        have em : m - j = (m - (j + 1)) + 1 := by omega
        rw [em] at er
        simp only [mny] at er
        cases hx : rp n (t.drop (i + kk)) with
        | bad k2 =>
          rw [hx] at er
          simp only [Res.map, Res.up] at er
          rw [er] at eq2
          simp only at eq2
          rw [← Nat.add_assoc] at eq2
          exact fun dd H' b h => eq2 dd H' (bG.trans b) h
        | ok d k2 =>
          rw [hx] at er
          simp only at er
          rw [up_map] at er
          intro v fpv G2 tv nv bv rv
          have l2 := hrp _ _ _ hx
          rw [List.length_drop] at l2
          have eG2 := bv _ _ (Ne.symm yp) eG
          have nD : ∀ ys, G2 p ≠ some (.tup ys) := fun ys z => by rw [eG2] at z; cases z
          have kD : ∀ c o, c ≠ p → G2 c = some o → upd G2 p (.lst (vs ++ [v])) c = some o := fun c o n z => by rw [upd_ne n]; exact z
          have fD : p ∉ fpv := fun z => by rw [nv p z] at eG; cases eG
          have ny : ∀ ys, G1 y ≠ some (.tup ys) := fun ys z => by rw [hG'] at z; cases z
          have ya : y ∉ fa := fun z => by
            have := (nf y z).1
            unfold Rd at hy; rw [this] at hy; cases hy
          refine ⟨vs, eG2, by omega, ⟨_, rfl⟩, by simp [lv], ds ++ [d], kk + k2, fa ++ fpv, TrL.snoc (tv.but nD kD fD) ((tl.but ny bv ya).but nD kD fun z => (nf p z).2 rfl), fun c hc => ?_, fun c o n z => ?_, ?_, by omega, ?_⟩
          · rcases List.mem_append.mp hc with h | h
            · exact nf c h
            · refine ⟨?_, fun e => fD (e ▸ h)⟩
              cases e : H c with
              | none => rfl
              | some o =>
                have cy : c ≠ y := fun z => by rw [z] at h; have := nv y h; rw [hG'] at this; cases this
                have := bG _ _ cy e
                rw [nv c h] at this; cases this
          · have cp : c ≠ p := fun e => by rw [e, hp] at z; cases z
            rw [upd_ne cp]; exact bv _ _ n (bG _ _ n z)
          · unfold Rd at rv ⊢
            rw [upd_ne yp, rv, Nat.add_assoc]
          · rw [er, ← Nat.add_assoc, List.drop_drop]
      · obtain ⟨⟨v3, rfl⟩, ds, kk, vs, fa, eG, lv, tl, nf, bG, hG, hk, er⟩ := P
        rw [Nat.sub_self] at er
        simp only [mny, Res.map, Res.up, List.append_nil, Nat.add_zero] at er
        exact ⟨_, rfl, ds, kk, er, vs, eG, fa, tl, nf, bG, hG⟩
  rintro _ G ⟨v3, ds, k, vs, fp, rfl, er, eG, tl, nf, bG, hG⟩
  unfold rpI at er
  rw [er] at q
  walk_at "sx"
  exact q p vs fp G eG tl hp nf bG hG
end


section
variable {g : Wd} {f : Addr} {fd : FuncData} {C_TextReader CI : Addr}
/-- the pairs of a value that has n levels -/
def rpK (n : Nat) (r : List Nat) : Res (List (PyData × PyData)) := match ct 0 0 r with
  | .bad k => .bad k
  | .ok m k => (mnyK (rp n) m [] (r.drop k)).up k
def sp_prs1 (C CI : Addr) (n : Nat) : Sp := S2 fun z dep H Q E => ∃ y dy t i, z = .ref y ∧ dep = .int (20 - ((n + 1 : Nat) : Int)) ∧ n + 1 ≤ 20 ∧ Rd C H y dy t i ∧ t.length ≤ 10000000 ∧ i ≤ t.length ∧ match rpK n (t.drop i) with
  | .bad k => Bad CI y H (i + k) E
  | .ok D k => ∀ p kvs fp H', H' p = some (.dK kvs) → TrD H' kvs D fp → (kvs.map (·.1)).Nodup → H p = none → (∀ c ∈ fp, H c = none ∧ c ≠ p) → But y H H' → Rd C H' y dy t (i + k) → Q (.ref p) H'
def sp_prs (C CI : Addr) : Nat → Sp
  | 0 => fun _ _ _ _ => False
  | n + 1 => sp_prs1 C CI n
theorem sc_TextReader_read_part : FnScope ["self", "depth", "letter", "is_open"] ["self", "depth"] (defScope s_TextReader_read_part) := ⟨rfl, rfl, rfl, by decide +kernel, rfl, by decide +kernel, by decide +kernel⟩
theorem ok_part (n : Nat) (F : Df g.K "read_part" "TextReader.read_part" s_TextReader_read_part f fd .none) (T : Txt2 g) (R : RF g C_TextReader) (CL_TextReader : Cls g.K C_TextReader) (M_TextReader_sign : Km g C_TextReader "sign" 1 ["self"] [] (sp_sign C_TextReader)) (M_TextReader_refuse : Km g C_TextReader "refuse" 3 ["self", "index"] [] (sp_refuse CI))
    (M_TextReader_read_integer : Km g C_TextReader "read_integer" 5 ["self"] [] (sp_integer C_TextReader CI)) (M_TextReader_read_string : Km g C_TextReader "read_string" 5 ["self"] [] (sp_string C_TextReader CI)) (M_TextReader_read_items : Km g C_TextReader "read_items" (2 * n + 5) ["self", "depth"] [] (sp_its C_TextReader CI n)) (M_TextReader_read_pairs : Km g C_TextReader "read_pairs" (2 * n + 5) ["self", "depth"] [] (sp_prs C_TextReader CI n)) : FnG g (2 * n + 6) f fd ["self", "depth"] (sp_part C_TextReader CI n) := by
  refine F.ok sc_TextReader_read_part (fun vs H Q E h => S2.len h) (fun cdv A outer s H vs Q E hr h => ?_)
  obtain ⟨_, _, rfl, y, dy, t, i, rfl, rfl, h20, hy, hl, hi, q⟩ := h
  refine ⟨_, (pss_mid (ps_set (i := 2) sc_TextReader_read_part.nd rfl (Or.inl rfl) (pe_methG0 (pv 0) CL_TextReader M_TextReader_sign (hr.mono (by first | decide | omega)) tkD))
      (pss_mid (ps_set (i := 3) sc_TextReader_read_part.nd rfl (Or.inl rfl) (pe_and (pe_cmpR (o_ne (K := g.K) hr) (pv 2) pe_str (nomark _)) (pe_one (pe_cmpR (o_in (K := g.K)) (pv 2) pe_str (by rfl)))))
      (pss_mid (ps_if (PW.pt (pw_or (pt_cmpR (o_eq (K := g.K) hr) (pv 2) pe_str (nomark _)) (pw_or (pt_cmpR (o_nin (K := g.K)) (pv 2) pe_str (by rfl)) (pw_or1 (PW.pt (pw_and (t_truth (K := g.K) (pv 3)) (pw_and1 (pt_cmpR op_ge (pv 1) (e_g T.c_MOST_LEVELS) (nomark _))))))))) (pss_one (ps_expr (pe_methG (pv 0) CL_TextReader M_TextReader_refuse (hr.mono (by first | decide | omega)) tkD (pa_cons (e_fld (K := g.K) (pv 0)) pa_nil)))) pss_nil)
      (pss_mid (s_fld (K := g.K) (pv 0) (pe_op (o_add (K := g.K)) (e_fld (K := g.K) (pv 0)) pe_int))
      (pss_one (ps_match (pv 2) (pmc_case ppt_str (pss_one (ps_ret pe_non)) (pmc_case (ppt_or (pps_cons ppt_str (pps_cons ppt_str pps_nil))) (pss_one (ps_ret (pe_cmpR (o_eq (K := g.K) hr) (pv 2) pe_str (nomark _)))) (pmc_case ppt_str (pss_one (ps_ret (pe_methG0 (pv 0) CL_TextReader M_TextReader_read_integer (hr.mono (by first | decide | omega)) tkD))) (pmc_case ppt_str (pss_one (ps_ret (pe_methG0 (pv 0) CL_TextReader M_TextReader_read_string (hr.mono (by first | decide | omega)) tkD))) (pmc_case ppt_str (pss_one (ps_ret (pe_methG (pv 0) CL_TextReader M_TextReader_read_pairs (hr.mono (by first | decide | omega)) tkD (pa_cons (pv 1) pa_nil)))) (pmc_case ppt_str (pss_one (ps_ret (pe_methG (pv 0) CL_TextReader M_TextReader_read_items (hr.mono (by first | decide | omega)) tkD (pa_cons (pv 1) pa_nil)))) (pmc_rest (pss_one (ps_ret (pe_callTy call_tuple_of (by rfl) T.b_tuple bb_tuple (pa_cons (pe_methG (pv 0) CL_TextReader M_TextReader_read_items (hr.mono (by first | decide | omega)) tkD (pa_cons (pv 1) pa_nil)) pa_nil))))))))))))))))), ?_⟩
  have hy' := hy
  unfold Rd at hy'
  refine mid_one [some (.ref y), some (.int (20 - (n : Int))), some (.str (S ((t.drop i).take 1))), none] (fun G => G = H) ?_ ?_
  · walk_at "sx"
    (simp only [hy']; (try walk_at "sx"); (try simp only [R.cls, R.n1, R.n2, true_and]); (try walk_at "lt"); (try walk_at "sx"))
    exact ⟨_, rfl, y, dy, t, i, rfl, hy, hl, rfl, rfl⟩
  intro G e1
  rw [e1]; clear e1 G
  cases hr : t.drop i with
  | nil =>
    rw [hr] at q
    have q' : Bad CI y H (i + 0) E := by cases n <;> simpa [rp] using q
    refine mid_at (fun σ G => (∃ b, σ = [some (.ref y), some (.int (20 - (n : Int))), some (.str (S [])), some (.bl b)]) ∧ G = H) ?_ ?_
    · walk_at "sx"
      simp only [List.take_nil]
      walk_at "lt"
      simp
    rintro _ G ⟨⟨b, rfl⟩, rfl⟩
    refine mid_at (fun _ _ => False) ?_ (fun _ _ z => z.elim)
    walk_at "sx"
    exact rf R hy q' (But.of (Same.refl _))
  | cons c r =>
    rw [hr] at q
    refine mid_one [some (.ref y), some (.int (20 - (n : Int))), some (.str (S [c])), some (.bl (decide (c ∈ [108, 117, 100])))] (fun G => G = H) ?_ ?_
    · walk_at "sx"
      simp only [List.take_succ_cons, List.take_zero]
      walk_at "lt"
      walk_at "st"
      simp
    intro G e1
    rw [e1]; clear e1 G
    have hlt : i + 1 ≤ t.length := by
      have := congrArg List.length hr
      simp at this; omega
    have hdr : t.drop (i + 1) = r := by
      have : t.drop (i + 1) = (t.drop i).drop 1 := by rw [List.drop_drop]
      rw [this, hr]; rfl
    by_cases let8 : c ∈ [110, 116, 102, 105, 115, 108, 117, 100]
    · by_cases deep : c ∈ [108, 117, 100] ∧ n = 0
      · have q' : Bad CI y H (i + 0) E := by
          obtain ⟨hc, rfl⟩ := deep
          simp only [List.mem_cons, List.not_mem_nil, or_false] at hc
          rcases hc with rfl | rfl | rfl <;> simpa [rp] using q
        refine mid_at (fun _ _ => False) ?_ (fun _ _ z => z.elim)
        walk_at "sx"
        walk_at "lt"
        walk_at "st"
        rw [if_neg (by simp), if_neg (by rw [decide_eq_true let8]; decide), if_pos (decide_eq_true deep.1), if_pos (by rw [deep.2]; decide)]
        exact rf R hy q' (But.of (Same.refl _))
      · refine mid_one [some (.ref y), some (.int (20 - (n : Int))), some (.str (S [c])), some (.bl (decide (c ∈ [108, 117, 100])))] (fun G => G = H) ?_ ?_
        · walk_at "sx"
          walk_at "lt"
          walk_at "st"
          rw [if_neg (by simp), if_neg (by rw [decide_eq_true let8]; decide)]
          by_cases hc : c ∈ [108, 117, 100]
          · have n0 : n ≠ 0 := fun z => deep ⟨hc, z⟩
            rw [if_pos (decide_eq_true hc), if_neg (by simp; omega)]
            trivial
          · rw [if_neg (by rw [decide_eq_false hc]; decide)]
            trivial
        intro G e1
        rw [e1]; clear e1 G
        refine mid_one [some (.ref y), some (.int (20 - (n : Int))), some (.str (S [c])), some (.bl (decide (c ∈ [108, 117, 100])))] (fun G => But y H G ∧ Rd C_TextReader G y dy t (i + 1)) ?_ ?_
        · walk_at "sx"
          (simp only [hy']; (try walk_at "sx"); (try simp only [R.cls, R.n1, R.n2, true_and]); (try walk_at "lt"); (try walk_at "sx"))
          have e3 := rd_at (C := C_TextReader) (y := y) (dy := dy) (G := H) (t := t) (j := i) (k := i + 1) (i := (i : Int) + 1) (by omega)
          exact ⟨_, _, _, hy', R.cls, R.n2, by simp, e3.2, e3.1⟩
        rintro G ⟨bG, hG⟩
        have hG' := hG
        unfold Rd at hG'
        simp only [tMatch, tCase, tRet, tRetN, tSeq, C8.tCut, tNext, tAsg, gName, gNil, gCons, gTup, gFld, tIfS, tIf, tAndV, tOrV, tNotV, tAnd, tOr, tNot, tB, tTest, tOp, tUn, tCB, tCons, tNil, tVar, tC, tChain, tDrop, tCallG, tMethG, tMakeG, RS.tCallK, RS.tMakeK, tEqOwn, rI, rI0, rU, add_ii, add_ss, add_rr, mul_ii, mul_si, mul_ri, RS.eq_ii, RS.eq_ss, eq_bb, eq_nn, eq_sn, eq_ns, eq_in, eq_ni, eq_bn, eq_nb, eq_is, eq_si, eq_rr, ne_ii, ne_ss, ne_bb, ne_nn, ne_sn, ne_ns, ne_in, ne_ni, ne_is, ne_si, ne_rr, in_ss, in_r, nin_ss, nin_r, len_s, len_r, RS.ix_s, RS.ix_r, sl_s, sl_r, is_eq, tyN_n, tyN_b, tyN_i, tyN_s, tru_b, tru_i, tru_n, tSl, tPart, tNoPart, tPar, tPar3, tFmtZ, tFmt, tJs, tDGet, sDPut, sFld, tFld, tTup, tLst, tNever, isB,
  L2.start, List.map_cons, List.map_nil, List.length_cons, List.length_nil, Nat.reduceAdd, Nat.reduceSub, Nat.sub_self, List.replicate_zero, List.replicate_succ, List.append_nil, List.cons_append, List.nil_append, List.getElem?_cons_zero, List.getElem?_cons_succ, List.set_cons_zero, List.set_cons_succ, Option.some.injEq, exists_eq_left, exists_eq_left', exists_and_left, V.bl.injEq, V.int.injEq, V.str.injEq, V.ref.injEq, beq_self_eq_true, Bool.true_or, Bool.or_true, Bool.false_or, Bool.or_false, Bool.and_false, Bool.false_and, Bool.true_and, Bool.and_true, Bool.not_true, Bool.not_false, Bool.false_eq_true, if_true, if_false, ite_true, ite_false, true_and, and_true, and_assoc, String.reduceBEq, String.reduceEq, reduceIte, Bool.and_self, reduceCtorEq, false_and, and_false, exists_false, or_false, false_or, exists_const, iEnumS, iStr, iList, iTup, iRng1, iEnum, tFor_eq, tLc_eq, List.cons.injEq, wipe, not_true_eq_false, not_false_eq_true, upd_same, HO.ins.injEq, HO.tup.injEq, HO.lst.injEq, ofS_eq, lk_nil, lk_cons, pu_nil, pu_cons, sizeLine_eq, Nat.reduceLT, Nat.reduceLeDiff, Nat.reduceEqDiff, Nat.le_refl, decide_true, decide_false, tPr, dget_us, dput_us, vv_nil, vv_cons, RS.pk_nil, pk_one, RS.pk_cons, inr_eq, tDisp, tPairs, tBoolOwn, rBoolOwn, tBM, rAppend, ty_list, ty_str, rEqOwn, iEnumT, RS.tCallS, tM1, tDc_eq, tLock, tLockE, iKeys, tListEnum, rUpdate, tMkX0, tMkX1, tXfv, gSub, rSetL, List.getD_cons_zero, List.getD_cons_succ]
        walk_at "lt"
        simp only [S_eq]
        have new : ∀ {H' : Hp} {fp : List Addr}, (∀ c ∈ fp, G c = none) → ∀ c ∈ fp, H c = none := fun nf c hc => by
          cases e : H c with
          | none => rfl
          | some o =>
            have cy : c ≠ y := fun z => by rw [z] at hc; have := nf y hc; rw [hG'] at this; cases this
            have := bG _ _ cy e
            rw [nf c hc] at this; cases this
        simp only [List.mem_cons, List.not_mem_nil, or_false] at let8
        rcases let8 with rfl | rfl | rfl | rfl | rfl | rfl | rfl | rfl
        · rw [if_pos (by decide)]
          have e : rp n (110 :: r) = .ok .none 1 := by cases n <;> simp [rp]
          rw [e] at q
          exact q .non [] G .non (by simp) bG hG
        · rw [if_neg (by decide), if_pos (by decide)]
          have e : rp n (116 :: r) = .ok (.bool true) 1 := by cases n <;> simp [rp]
          rw [e] at q
          exact q (.bl true) [] G (.bl true) (by simp) bG hG
        · rw [if_neg (by decide), if_pos (by decide)]
          have e : rp n (102 :: r) = .ok (.bool false) 1 := by cases n <;> simp [rp]
          rw [e] at q
          exact q (.bl false) [] G (.bl false) (by simp) bG hG
        · rw [if_neg (by decide), if_neg (by decide), if_pos (by decide)]
          have e : rp n (105 :: r) = ((ig r).map PyData.int).up 1 := by cases n <;> simp [rp]
          rw [e] at q
          refine ⟨_, _, hG', lk_no, _, rfl, y, dy, t, i + 1, rfl, hG, hl, hlt, ?_⟩
          rw [hdr]
          cases hg : ig r with
          | bad k =>
            rw [hg] at q
            simp only [Res.map, Res.up] at q
            rw [← Nat.add_assoc] at q
            exact fun dd H' b h => q dd H' (bG.trans b) h
          | ok m k =>
            rw [hg] at q
            simp only [Res.map, Res.up] at q
            rw [← Nat.add_assoc] at q
            exact fun H' b h => q (.int m) [] H' (.int m) (by simp) (bG.trans b) h
        · rw [if_neg (by decide), if_neg (by decide), if_neg (by decide), if_pos (by decide)]
          have e : rp n (115 :: r) = ((rs r).map fun x => PyData.str (S x)).up 1 := by cases n <;> simp [rp]
          rw [e] at q
          refine ⟨_, _, hG', lk_no, _, rfl, y, dy, t, i + 1, rfl, hG, hl, hlt, ?_⟩
          rw [hdr]
          cases hg : rs r with
          | bad k =>
            rw [hg] at q
            simp only [Res.map, Res.up] at q
            rw [← Nat.add_assoc] at q
            exact fun dd H' b h => q dd H' (bG.trans b) h
          | ok m k =>
            rw [hg] at q
            simp only [Res.map, Res.up] at q
            rw [← Nat.add_assoc] at q
            exact fun H' b h => q (.str (S m)) [] H' (.str (S m)) (by simp) (bG.trans b) h
        · rw [if_neg (by decide), if_neg (by decide), if_neg (by decide), if_neg (by decide), if_neg (by decide), if_pos (by decide)]
          cases n with
          | zero => exact absurd ⟨by decide, rfl⟩ deep
          | succ n =>
          have e : rp (n + 1) (108 :: r) = ((rpI n r).map PyData.list).up 1 := by
            unfold rpI
            simp only [rp]
            cases hc : ct 0 0 r with
            | bad k => simp [Res.map, Res.up]
            | ok m k =>
              cases hm : mny (rp n) m (r.drop k) with
              | bad j => simp [hm, Res.map, Res.up]; omega
              | ok ds j => simp [hm, Res.map, Res.up]; omega
          rw [e] at q
          refine ⟨_, _, hG', lk_no, _, _, rfl, y, dy, t, i + 1, rfl, rfl, h20, hG, hl, hlt, ?_⟩
          rw [hdr]
          cases hg : rpI n r with
          | bad k =>
            rw [hg] at q
            simp only [Res.map, Res.up] at q
            rw [← Nat.add_assoc] at q
            exact fun dd H' b h => q dd H' (bG.trans b) h
          | ok ds k =>
            rw [hg] at q
            simp only [Res.map, Res.up] at q
            rw [← Nat.add_assoc] at q
            exact fun p vs fp H' ep tl hp nf b h => q (.ref p) (p :: fp) H' (.lst ep tl fun z => (nf p z).2 rfl) (new (H' := H') fun c hc => (List.mem_cons.mp hc).elim (fun e => e ▸ hp) fun hc => (nf c hc).1) (bG.trans b) h
        · rw [if_neg (by decide), if_neg (by decide), if_neg (by decide), if_neg (by decide), if_neg (by decide), if_neg (by decide)]
          cases n with
          | zero => exact absurd ⟨by decide, rfl⟩ deep
          | succ n =>
          have e : rp (n + 1) (117 :: r) = ((rpI n r).map PyData.tuple).up 1 := by
            unfold rpI
            simp only [rp]
            cases hc : ct 0 0 r with
            | bad k => simp [Res.map, Res.up]
            | ok m k =>
              cases hm : mny (rp n) m (r.drop k) with
              | bad j => simp [hm, Res.map, Res.up]; omega
              | ok ds j => simp [hm, Res.map, Res.up]; omega
          rw [e] at q
          refine ⟨_, _, hG', lk_no, _, _, rfl, y, dy, t, i + 1, rfl, rfl, h20, hG, hl, hlt, ?_⟩
          rw [hdr]
          cases hg : rpI n r with
          | bad k =>
            rw [hg] at q
            simp only [Res.map, Res.up] at q
            rw [← Nat.add_assoc] at q
            exact fun dd H' b h => q dd H' (bG.trans b) h
          | ok ds k =>
            rw [hg] at q
            simp only [Res.map, Res.up] at q
            rw [← Nat.add_assoc] at q
            intro p vs fp H' ep tl hp nf b h
            refine ⟨p, rfl, vs, .inl ⟨SqL.of ep, fun l hl => ?_⟩⟩
            have sl := same_upd (o := HO.tup vs) hl
            exact q (.ref l) fp _ (.tup upd_same (tl.same sl)) (new (H' := H') fun c hc => (nf c hc).1) (bG.trans (b.trans (But.of sl))) (sl _ _ h)
        · rw [if_neg (by decide), if_neg (by decide), if_neg (by decide), if_neg (by decide), if_pos (by decide)]
          cases n with
          | zero => exact absurd ⟨by decide, rfl⟩ deep
          | succ n =>
          refine ⟨_, _, hG', lk_no, _, _, rfl, y, dy, t, i + 1, rfl, rfl, h20, hG, hl, hlt, ?_⟩
          rw [hdr]
          simp only [rp] at q
          unfold rpK
          cases hc : ct 0 0 r with
          | bad k =>
            simp [hc] at q
            rw [← Nat.add_assoc] at q
            exact fun dd H' b h => q dd H' (bG.trans b) h
          | ok m k =>
            simp [hc] at q
            simp only
            cases hg : mnyK (rp n) m [] (r.drop k) with
            | bad k2 =>
              rw [hg] at q
              simp only [Res.map, Res.up] at q ⊢
              have e : i + (1 + k + k2) = i + 1 + (k + k2) := by omega
              rw [e] at q
              exact fun dd H' b h => q dd H' (bG.trans b) h
            | ok D k2 =>
              rw [hg] at q
              simp only [Res.map, Res.up] at q ⊢
              have e : i + (1 + k + k2) = i + 1 + (k + k2) := by omega
              rw [e] at q
              exact fun p kvs fp H' ep tl nd hp nf b h => q (.ref p) (p :: fp) H' (.dct ep tl (fun z => (nf p z).2 rfl) nd) (new (H' := H') fun c hc => (List.mem_cons.mp hc).elim (fun e => e ▸ hp) fun hc => (nf c hc).1) (bG.trans b) h
    · have q' : Bad CI y H (i + 0) E := by
        simp only [List.mem_cons, List.not_mem_nil, or_false, not_or] at let8
        cases n <;> simpa [rp, let8] using q
      refine mid_at (fun _ _ => False) ?_ (fun _ _ z => z.elim)
      walk_at "sx"
      walk_at "lt"
      walk_at "st"
      rw [if_neg (by simp), if_pos (by rw [decide_eq_false let8]; rfl)]
      exact rf R hy q' (But.of (Same.refl _))
end


theorem up_mapK (x : Res (List (PyData × PyData))) (a : PyData × PyData) (ds : List (PyData × PyData)) (k kk : Nat) : (((x.map fun as => a :: as).up k).map fun as => ds ++ as).up kk = (x.map fun as => (ds ++ [a]) ++ as).up (kk + k) := up_map x a ds k kk
theorem nodup_S {l : List (List Nat)} (h : l.Nodup) : (l.map fun x => (.inr (S x) : Key)).Nodup :=
  List.pairwise_map.mpr (List.Pairwise.imp (fun h e => h (S_inj (Sum.inr.inj e))) h)
theorem val_none : ∀ {kvs : List (Key × V)} {k : Key}, k ∉ kvs.map (·.1) → valV kvs k = none
  | [], _, _ => rfl
  | (p, v) :: r, k, h => by
    rw [vv_cons, if_neg (fun e => h (by simp [e]))]
    exact val_none fun z => h (List.mem_cons_of_mem _ z)
theorem val_some : ∀ {kvs : List (Key × V)} {k : Key}, k ∈ kvs.map (·.1) → ∃ v, valV kvs k = some v
  | (p, v) :: r, k, h => by
    rw [vv_cons]
    by_cases e : p = k
    · exact ⟨v, if_pos e⟩
    · rw [if_neg e]
      exact val_some ((List.mem_cons.mp h).resolve_left fun z => e z.symm)
  | [], _, h => by simp at h
theorem mem_S {l : List (List Nat)} {x : List Nat} : (.inr (S x) : Key) ∈ l.map (fun x => (.inr (S x) : Key)) ↔ x ∈ l := by
  constructor
  · intro h
    obtain ⟨z, hz, e⟩ := List.mem_map.mp h
    rw [← S_inj (Sum.inr.inj e)]; exact hz
  · exact fun h => List.mem_map.mpr ⟨x, h, rfl⟩
theorem rs_len {r x : List Nat} {k : Nat} (h : rs r = .ok x k) : k ≤ r.length ∧ x.length ≤ 10000 := by
  unfold rs at h
  cases hc : ct 0 0 r with
  | bad j => rw [hc] at h; cases h
  | ok n j =>
    rw [hc] at h
    simp only at h
    split at h
    · cases h
      have := ct_len hc
      rename_i fit
      rw [List.length_drop] at fit
      rw [List.length_take, List.length_drop]
      omega
    · cases h
section
variable {g : Wd} {f : Addr} {fd : FuncData} {C_TextReader CI : Addr}
theorem sc_TextReader_read_pairs : FnScope ["self", "depth", "found", "turn", "key"] ["self", "depth"] (defScope s_TextReader_read_pairs) := ⟨rfl, rfl, rfl, by decide +kernel, rfl, by decide +kernel, by decide +kernel⟩
theorem ok_prs (n : Nat) (hrp : ∀ r d k, rp n r = .ok d k → k ≤ r.length) (F : Df g.K "read_pairs" "TextReader.read_pairs" s_TextReader_read_pairs f fd .none) (T : Txt2 g) (R : RF g C_TextReader) (CL_TextReader : Cls g.K C_TextReader) (M_TextReader_sign : Km g C_TextReader "sign" 1 ["self"] [] (sp_sign C_TextReader)) (M_TextReader_refuse : Km g C_TextReader "refuse" 3 ["self", "index"] [] (sp_refuse CI)) (M_TextReader_read_string : Km g C_TextReader "read_string" 5 ["self"] [] (sp_string C_TextReader CI)) (M_TextReader_read_count : Km g C_TextReader "read_count" 4 ["self"] [] (sp_count C_TextReader CI)) (M_TextReader_read_part : Km g C_TextReader "read_part" (2 * n + 6) ["self", "depth"] [] (sp_part C_TextReader CI n)) : FnG g (2 * n + 7) f fd ["self", "depth"] (sp_prs1 C_TextReader CI n) := by
  refine F.ok sc_TextReader_read_pairs (fun vs H Q E h => S2.len h) (fun cdv A outer s H vs Q E hr h => ?_)
  obtain ⟨_, _, rfl, y, dy, t, i, rfl, rfl, h20, hy, hl, hi, q⟩ := h
  refine ⟨_, (pss_mid (ps_set (i := 2) sc_TextReader_read_pairs.nd rfl (Or.inl rfl) pe_dnewK)
      (pss_mid (ps_for psD rfl (pi_range1 rfl T.b_range (pa_cons (pe_methG0 (pv 0) CL_TextReader M_TextReader_read_count (hr.mono (by first | decide | omega)) tkD) pa_nil)) (pg_name (i := 3) sc_TextReader_read_pairs.nd rfl (.inl rfl)) (pss_mid (ps_if (pt_cmpR (o_ne (K := g.K) hr) (pe_methG0 (pv 0) CL_TextReader M_TextReader_sign (hr.mono (by first | decide | omega)) tkD) pe_str (nomark _)) (pss_one (ps_expr (pe_methG (pv 0) CL_TextReader M_TextReader_refuse (hr.mono (by first | decide | omega)) tkD (pa_cons (e_fld (K := g.K) (pv 0)) pa_nil)))) pss_nil)
      (pss_mid (s_fld (K := g.K) (pv 0) (pe_op (o_add (K := g.K)) (e_fld (K := g.K) (pv 0)) pe_int))
      (pss_mid (ps_set (i := 4) sc_TextReader_read_pairs.nd rfl (Or.inl rfl) (pe_methG0 (pv 0) CL_TextReader M_TextReader_read_string (hr.mono (by first | decide | omega)) tkD))
      (pss_mid (ps_if (pt_cmp (pc_din (hu_of hr.room) (pv 4) (pv 2))) (pss_one (ps_expr (pe_methG (pv 0) CL_TextReader M_TextReader_refuse (hr.mono (by first | decide | omega)) tkD (pa_cons (pe_op op_sub (e_fld (K := g.K) (pv 0)) pe_int) pa_nil)))) pss_nil)
      (pss_one (ps_dput (hu_of hr.room) (pv 2) (pv 4) (pe_methG (pv 0) CL_TextReader M_TextReader_read_part (hr.mono (by first | decide | omega)) tkD (pa_cons (pe_op (o_add (K := g.K)) (pv 1) pe_int) pa_nil)) rfl)))))))
      (pss_one (ps_ret (pv 2))))), ?_⟩
  refine mid_at (fun σ G => ∃ p, σ = [some (.ref y), some (.int (20 - ((n + 1 : Nat) : Int))), some (.ref p), none, none] ∧ H p = none ∧ G = upd H p (.dK [])) ?_ ?_
  · walk_at "sx"
    exact fun p hp => ⟨p, rfl, hp, rfl⟩
  rintro _ H1 ⟨p, rfl, hp, rfl⟩
  have s1 := same_upd (o := HO.dK []) hp
  have ep : upd H p (HO.dK []) p = some (.dK []) := upd_same
  have hy1 : Rd C_TextReader (upd H p (HO.dK [])) y dy t i := s1 _ _ hy
  have yp : y ≠ p := fun e => by unfold Rd at hy; rw [e, hp] at hy; cases hy
  generalize upd H p (HO.dK []) = H1 at s1 ep hy1 ⊢
  have hy' := hy1
  unfold Rd at hy'
  obtain ⟨RR, hR⟩ : ∃ RR, RR = rpK n (t.drop i) := ⟨_, rfl⟩
  rw [← hR] at q
  unfold rpK at hR
  refine mid_at (fun σ G => ∃ v3 v4 D k kvs fp, σ = [some (.ref y), some (.int (20 - ((n + 1 : Nat) : Int))), some (.ref p), v3, v4] ∧ RR = .ok D k ∧ G p = some (.dK kvs) ∧ TrD G kvs D fp ∧ (kvs.map (·.1)).Nodup ∧ (∀ c ∈ fp, H c = none ∧ c ≠ p) ∧ But y H G ∧ Rd C_TextReader G y dy t (i + k)) ?_ ?_
  · walk_at "sx"
    (simp only [hy']; (try walk_at "sx"); (try simp only [R.cls, R.n1, R.n2, true_and]); (try walk_at "lt"); (try walk_at "sx"))
    refine ⟨_, rfl, y, dy, t, i, rfl, hy1, hl, hi, ?_⟩
    cases hc : ct 0 0 (t.drop i) with
    | bad k =>
      rw [hc] at hR
      rw [hR] at q
      exact fun dd H' b h => q dd H' (fun c o n z => b c o n (s1 _ _ z)) h
    | ok m k =>
      rw [hc] at hR
      simp only at hR
      intro H2 b2 r2
      have ck := ct_len hc
      rw [List.length_drop] at ck
      refine ⟨_, rfl, by omega, by omega, ?_⟩
      have e0 : RR = ((mnyK (rp n) (m - 0) ([] : List (List Nat)) (t.drop (i + k))).map fun as => [] ++ as).up k := by
        rw [hR, List.drop_drop, Nat.sub_zero]
        cases mnyK (rp n) m [] (t.drop (i + k)) <;> rfl
      have b12 : But y H H2 := fun c o n z => b2 c o n (s1 _ _ z)
      refine for_by m (fun j σ G => (∃ v3 v4, σ = [some (.ref y), some (.int (20 - ((n + 1 : Nat) : Int))), some (.ref p), v3, v4]) ∧ ∃ D kk kvs fa seen, G p = some (.dK kvs) ∧ kvs.length = j ∧ kvs.map (·.1) = seen.map (fun x => (.inr (S x) : Key)) ∧ seen.Nodup ∧ TrD G kvs D fa ∧ (∀ c ∈ fa, H c = none ∧ c ≠ p) ∧ But y H G ∧ Rd C_TextReader G y dy t (i + kk) ∧ i + kk ≤ t.length ∧ RR = ((mnyK (rp n) (m - j) seen (t.drop (i + kk))).map fun as => D ++ as).up kk) ⟨⟨_, _, rfl⟩, [], k, [], [], [], b2 _ _ (Ne.symm yp) ep, rfl, rfl, .nil, .nil, by simp, b12, r2, by omega, e0⟩ (fun j σ G lt P => by simpa [Itr] using lt) (fun σ G P => by simp [Itr]) (fun j σ G x G1 lt P yl => ?_) (fun σ G P => ?_)
      · obtain ⟨⟨v3, v4, rfl⟩, D, kk, kvs, fa, seen, eG, lv, ks, nd, tl, nf, bG, hG, hk, er⟩ := P
        obtain ⟨rfl, rfl⟩ := yl
        have hG' := hG
        unfold Rd at hG'
        walk_at "sx"
        have em : m - j = (m - (j + 1)) + 1 := by omega
        rw [em] at er
        simp only [mnyK] at er
        cases hr : t.drop (i + kk) with
        | nil =>
          rw [hr] at er
          simp only [Res.map, Res.up, Nat.add_zero] at er
          rw [er] at q
          refine mid_at (fun _ _ => False) ?_ (fun _ _ z => z.elim)
          walk_at "sx"
          (simp only [hG']; (try walk_at "sx"); (try simp only [R.cls, R.n1, R.n2, true_and]); (try walk_at "lt"); (try walk_at "sx"))
          refine ⟨_, rfl, y, dy, t, i + kk, rfl, hG, hl, ?_⟩
          rw [hr]
          simp only [List.take_nil, ne_ss, S_eq]
          refine ⟨_, rfl, ?_⟩
          rw [if_pos (by simp)]
          exact rf R hG q bG
        | cons c r =>
          rw [hr] at er
          simp only at er
          have hlt : i + (kk + 1) ≤ t.length := by
            have := congrArg List.length hr
            simp at this; omega
          have hdr : t.drop (i + (kk + 1)) = r := by
            have : t.drop (i + (kk + 1)) = (t.drop (i + kk)).drop 1 := by rw [List.drop_drop]; rfl
            rw [this, hr]; rfl
          by_cases c115 : c = 115
          · rw [if_neg (by simp [c115])] at er
            refine mid_one [some (.ref y), some (.int (20 - ((n + 1 : Nat) : Int))), some (.ref p), some (.int (0 + (j : Nat))), v4] (fun G2 => G2 = G1) ?_ ?_
            · walk_at "sx"
              (simp only [hG']; (try walk_at "sx"); (try simp only [R.cls, R.n1, R.n2, true_and]); (try walk_at "lt"); (try walk_at "sx"))
              refine ⟨_, rfl, y, dy, t, i + kk, rfl, hG, hl, ?_⟩
              rw [hr]
              simp only [List.take_succ_cons, List.take_zero, ne_ss, S_eq]
              refine ⟨_, rfl, ?_⟩
              rw [if_neg (by simp [c115])]
              trivial
            intro G2 e2
            rw [e2]; clear e2 G2
            refine mid_one [some (.ref y), some (.int (20 - ((n + 1 : Nat) : Int))), some (.ref p), some (.int (0 + (j : Nat))), v4] (fun G2 => But y G1 G2 ∧ Rd C_TextReader G2 y dy t (i + (kk + 1))) ?_ ?_
            · walk_at "sx"
              (simp only [hG']; (try walk_at "sx"); (try simp only [R.cls, R.n1, R.n2, true_and]); (try walk_at "lt"); (try walk_at "sx"))
              have e3 := rd_at (C := C_TextReader) (y := y) (dy := dy) (G := G1) (t := t) (j := i + kk) (k := i + (kk + 1)) (i := ((i + kk : Nat) : Int) + 1) (by omega)
              exact ⟨_, _, _, hG', R.cls, R.n2, by simp, e3.2, e3.1⟩
            rintro G2 ⟨b3, h3⟩
            have h3' := h3
            unfold Rd at h3'
            refine mid_at (fun σ G3 => ∃ key k2, rs r = .ok key k2 ∧ σ = [some (.ref y), some (.int (20 - ((n + 1 : Nat) : Int))), some (.ref p), some (.int (0 + (j : Nat))), some (.str (S key))] ∧ But y G1 G3 ∧ Rd C_TextReader G3 y dy t (i + (kk + 1) + k2)) ?_ ?_
            · walk_at "sx"
              (simp only [h3']; (try walk_at "sx"); (try simp only [R.cls, R.n1, R.n2, true_and]); (try walk_at "lt"); (try walk_at "sx"))
              refine ⟨_, rfl, y, dy, t, i + (kk + 1), rfl, h3, hl, hlt, ?_⟩
              rw [hdr]
              cases hs : rs r with
              | bad k2 =>
                rw [hs] at er
                simp only [Res.map, Res.up] at er
                rw [er] at q
                simp only at q
                have e : i + (kk + (1 + k2)) = i + (kk + 1) + k2 := by omega
                rw [e] at q
                exact fun dd H' b h => q dd H' (bG.trans (b3.trans b)) h
              | ok key k2 => exact fun H' b h => ⟨key, k2, rfl, rfl, b3.trans b, h⟩
            rintro _ G3 ⟨key, k2, hs, rfl, b4, h4⟩
            rw [hs] at er
            simp only at er
            have h4' := h4
            unfold Rd at h4'
            have eG3 := b4 _ _ (Ne.symm yp) eG
            have l2 := (rs_len hs).1
            have lr : r.length = t.length - (i + (kk + 1)) := by rw [← hdr, List.length_drop]
            have hd2 : t.drop (i + (kk + 1) + k2) = r.drop k2 := by rw [← hdr, List.drop_drop]
            by_cases isin : key ∈ seen
            · rw [if_pos isin] at er
              simp only [Res.map, Res.up] at er
              rw [er] at q
              simp only at q
              obtain ⟨v0, hv0⟩ := val_some (kvs := kvs) (k := .inr (S key)) (by rw [ks]; exact mem_S.mpr isin)
              refine mid_at (fun _ _ => False) ?_ (fun _ _ z => z.elim)
              simp only [tDIn, tRet, tRetN, tSeq, C8.tCut, tNext, tAsg, gName, gNil, gCons, gTup, gFld, tIfS, tIf, tAndV, tOrV, tNotV, tAnd, tOr, tNot, tB, tTest, tOp, tUn, tCB, tCons, tNil, tVar, tC, tChain, tDrop, tCallG, tMethG, tMakeG, RS.tCallK, RS.tMakeK, tEqOwn, rI, rI0, rU, add_ii, add_ss, add_rr, mul_ii, mul_si, mul_ri, RS.eq_ii, RS.eq_ss, eq_bb, eq_nn, eq_sn, eq_ns, eq_in, eq_ni, eq_bn, eq_nb, eq_is, eq_si, eq_rr, ne_ii, ne_ss, ne_bb, ne_nn, ne_sn, ne_ns, ne_in, ne_ni, ne_is, ne_si, ne_rr, in_ss, in_r, nin_ss, nin_r, len_s, len_r, RS.ix_s, RS.ix_r, sl_s, sl_r, is_eq, tyN_n, tyN_b, tyN_i, tyN_s, tru_b, tru_i, tru_n, tSl, tPart, tNoPart, tPar, tPar3, tFmtZ, tFmt, tJs, tDGet, sDPut, sFld, tFld, tTup, tLst, tNever, isB,
  L2.start, List.map_cons, List.map_nil, List.length_cons, List.length_nil, Nat.reduceAdd, Nat.reduceSub, Nat.sub_self, List.replicate_zero, List.replicate_succ, List.append_nil, List.cons_append, List.nil_append, List.getElem?_cons_zero, List.getElem?_cons_succ, List.set_cons_zero, List.set_cons_succ, Option.some.injEq, exists_eq_left, exists_eq_left', exists_and_left, V.bl.injEq, V.int.injEq, V.str.injEq, V.ref.injEq, beq_self_eq_true, Bool.true_or, Bool.or_true, Bool.false_or, Bool.or_false, Bool.and_false, Bool.false_and, Bool.true_and, Bool.and_true, Bool.not_true, Bool.not_false, Bool.false_eq_true, if_true, if_false, ite_true, ite_false, true_and, and_true, and_assoc, String.reduceBEq, String.reduceEq, reduceIte, Bool.and_self, reduceCtorEq, false_and, and_false, exists_false, or_false, false_or, exists_const, iEnumS, iStr, iList, iTup, iRng1, iEnum, tFor_eq, tLc_eq, List.cons.injEq, wipe, not_true_eq_false, not_false_eq_true, upd_same, HO.ins.injEq, HO.tup.injEq, HO.lst.injEq, ofS_eq, lk_nil, lk_cons, pu_nil, pu_cons, sizeLine_eq, Nat.reduceLT, Nat.reduceLeDiff, Nat.reduceEqDiff, Nat.le_refl, decide_true, decide_false, tPr, dget_us, dput_us, vv_nil, vv_cons, RS.pk_nil, pk_one, RS.pk_cons, inr_eq, tDisp, tPairs, tBoolOwn, rBoolOwn, tBM, rAppend, ty_list, ty_str, rEqOwn, iEnumT, RS.tCallS, tM1, tDc_eq, tLock, tLockE, iKeys, tListEnum, rUpdate, tMkX0, tMkX1, tXfv, gSub, rSetL, List.getD_cons_zero, List.getD_cons_succ]
              (simp only [h4']; (try walk_at "sx"); (try simp only [R.cls, R.n1, R.n2, true_and]); (try walk_at "lt"); (try walk_at "sx"))
              refine ⟨some v0, by rw [dget_s eG3]; exact hv0, ?_⟩
              rw [if_pos (by simp)]
              have e5 : ((i + (kk + 1) + k2 : Nat) : Int) - 1 = ((i + (kk + k2) : Nat) : Int) := by omega
              rw [e5]
              exact ⟨_, _, rfl, y, rfl, fun dd hdd => q dd _ ((bG.trans b4).trans (But.of (same_upd hdd))) upd_same⟩
            · rw [if_neg isin] at er
              have nov := val_none (kvs := kvs) (k := .inr (S key)) (by rw [ks]; exact fun z => isin (mem_S.mp z))
              refine mid_one [some (.ref y), some (.int (20 - ((n + 1 : Nat) : Int))), some (.ref p), some (.int (0 + (j : Nat))), some (.str (S key))] (fun G4 => G4 = G3) ?_ ?_
              · simp only [tDIn, tRet, tRetN, tSeq, C8.tCut, tNext, tAsg, gName, gNil, gCons, gTup, gFld, tIfS, tIf, tAndV, tOrV, tNotV, tAnd, tOr, tNot, tB, tTest, tOp, tUn, tCB, tCons, tNil, tVar, tC, tChain, tDrop, tCallG, tMethG, tMakeG, RS.tCallK, RS.tMakeK, tEqOwn, rI, rI0, rU, add_ii, add_ss, add_rr, mul_ii, mul_si, mul_ri, RS.eq_ii, RS.eq_ss, eq_bb, eq_nn, eq_sn, eq_ns, eq_in, eq_ni, eq_bn, eq_nb, eq_is, eq_si, eq_rr, ne_ii, ne_ss, ne_bb, ne_nn, ne_sn, ne_ns, ne_in, ne_ni, ne_is, ne_si, ne_rr, in_ss, in_r, nin_ss, nin_r, len_s, len_r, RS.ix_s, RS.ix_r, sl_s, sl_r, is_eq, tyN_n, tyN_b, tyN_i, tyN_s, tru_b, tru_i, tru_n, tSl, tPart, tNoPart, tPar, tPar3, tFmtZ, tFmt, tJs, tDGet, sDPut, sFld, tFld, tTup, tLst, tNever, isB,
  L2.start, List.map_cons, List.map_nil, List.length_cons, List.length_nil, Nat.reduceAdd, Nat.reduceSub, Nat.sub_self, List.replicate_zero, List.replicate_succ, List.append_nil, List.cons_append, List.nil_append, List.getElem?_cons_zero, List.getElem?_cons_succ, List.set_cons_zero, List.set_cons_succ, Option.some.injEq, exists_eq_left, exists_eq_left', exists_and_left, V.bl.injEq, V.int.injEq, V.str.injEq, V.ref.injEq, beq_self_eq_true, Bool.true_or, Bool.or_true, Bool.false_or, Bool.or_false, Bool.and_false, Bool.false_and, Bool.true_and, Bool.and_true, Bool.not_true, Bool.not_false, Bool.false_eq_true, if_true, if_false, ite_true, ite_false, true_and, and_true, and_assoc, String.reduceBEq, String.reduceEq, reduceIte, Bool.and_self, reduceCtorEq, false_and, and_false, exists_false, or_false, false_or, exists_const, iEnumS, iStr, iList, iTup, iRng1, iEnum, tFor_eq, tLc_eq, List.cons.injEq, wipe, not_true_eq_false, not_false_eq_true, upd_same, HO.ins.injEq, HO.tup.injEq, HO.lst.injEq, ofS_eq, lk_nil, lk_cons, pu_nil, pu_cons, sizeLine_eq, Nat.reduceLT, Nat.reduceLeDiff, Nat.reduceEqDiff, Nat.le_refl, decide_true, decide_false, tPr, dget_us, dput_us, vv_nil, vv_cons, RS.pk_nil, pk_one, RS.pk_cons, inr_eq, tDisp, tPairs, tBoolOwn, rBoolOwn, tBM, rAppend, ty_list, ty_str, rEqOwn, iEnumT, RS.tCallS, tM1, tDc_eq, tLock, tLockE, iKeys, tListEnum, rUpdate, tMkX0, tMkX1, tXfv, gSub, rSetL, List.getD_cons_zero, List.getD_cons_succ]
                refine ⟨none, by rw [dget_s eG3]; exact nov, ?_⟩
                rw [if_neg (by simp)]
                trivial
              intro G4 e4
              rw [e4]; clear e4 G4
              walk_at "sx"
              (simp only [h4']; (try walk_at "sx"); (try simp only [R.cls, R.n1, R.n2, true_and]); (try walk_at "lt"); (try walk_at "sx"))
              refine ⟨_, _, rfl, y, dy, t, i + (kk + 1) + k2, rfl, by congr 1; omega, by omega, h4, hl, by omega, ?_⟩
              rw [hd2]
              cases hx : rp n (r.drop k2) with
              | bad j2 =>
                rw [hx] at er
                simp only [Res.map, Res.up] at er
                rw [er] at q
                simp only at q
                have e : i + (kk + (1 + k2 + j2)) = i + (kk + 1) + k2 + j2 := by omega
                rw [e] at q
                exact fun dd H' b h => q dd H' ((bG.trans b4).trans b) h
              | ok d j2 =>
                rw [hx] at er
                simp only at er
                rw [up_mapK] at er
                intro v fpv G4 tv nv bv rv
                have l3 := hrp _ _ _ hx
                rw [List.length_drop] at l3
                have eG4 := bv _ _ (Ne.symm yp) eG3
                have knew : (.inr (S key) : Key) ∉ kvs.map (·.1) := by rw [ks]; exact fun z => isin (mem_S.mp z)
                rw [dput_s eG4, putK_new knew]
                have nD : ∀ ys, G4 p ≠ some (.tup ys) := fun ys z => by rw [eG4] at z; cases z
                have kD : ∀ c o, c ≠ p → G4 c = some o → upd G4 p (.dK (kvs ++ [(.inr (S key), v)])) c = some o := fun c o n z => by rw [upd_ne n]; exact z
                have fD : p ∉ fpv := fun z => by rw [nv p z] at eG3; cases eG3
                have ny : ∀ ys, G1 y ≠ some (.tup ys) := fun ys z => by rw [hG'] at z; cases z
                have ya : y ∉ fa := fun z => by
                  have := (nf y z).1
                  unfold Rd at hy; rw [this] at hy; cases hy
                have b14 := b4.trans bv
                refine ⟨by rw [sizeLine_eq]; omega, ⟨_, rfl⟩, D ++ [(.str (S key), d)], kk + (1 + k2 + j2), kvs ++ [(.inr (S key), v)], upd_same, by simp [lv], fa ++ fpv, seen ++ [key], by simp [ks], ?_, TrD.snoc (tv.but nD kD fD) ((tl.but ny b14 ya).but nD kD fun z => (nf p z).2 rfl), fun c hc => ?_, fun c o n z => ?_, ?_, by omega, ?_⟩
                · exact List.nodup_append.mpr ⟨nd, by simp, fun a ha b hb e => isin (by rw [← List.mem_singleton.mp hb, ← e]; exact ha)⟩
                · rcases List.mem_append.mp hc with h | h
                  · exact nf c h
                  · refine ⟨?_, fun e => fD (e ▸ h)⟩
                    cases e : H c with
                    | none => rfl
                    | some o =>
                      have cy : c ≠ y := fun z => by rw [z] at h; have := nv y h; rw [h4'] at this; cases this
                      have := b4 _ _ cy (bG _ _ cy e)
                      rw [nv c h] at this; cases this
                · have cp : c ≠ p := fun e => by rw [e, hp] at z; cases z
                  rw [upd_ne cp]; exact b14 _ _ n (bG _ _ n z)
                · unfold Rd at rv ⊢
                  have e : i + (kk + (1 + k2 + j2)) = i + (kk + 1) + k2 + j2 := by omega
                  rw [upd_ne yp, rv, e]
                · have e : i + (kk + (1 + k2 + j2)) = i + (kk + 1) + (k2 + j2) := by omega
                  have e6 : t.drop (i + (kk + 1) + (k2 + j2)) = r.drop (k2 + j2) := by rw [← hdr, List.drop_drop]
                  rw [er, e, e6]
          · rw [if_pos (by simpa using c115)] at er
            simp only [Res.map, Res.up, Nat.add_zero] at er
            rw [er] at q
            refine mid_at (fun _ _ => False) ?_ (fun _ _ z => z.elim)
            walk_at "sx"
            (simp only [hG']; (try walk_at "sx"); (try simp only [R.cls, R.n1, R.n2, true_and]); (try walk_at "lt"); (try walk_at "sx"))
            refine ⟨_, rfl, y, dy, t, i + kk, rfl, hG, hl, ?_⟩
            rw [hr]
            simp only [List.take_succ_cons, List.take_zero, ne_ss, S_eq]
            refine ⟨_, rfl, ?_⟩
            rw [if_pos (by simpa using c115)]
            exact rf R hG q bG
      · obtain ⟨⟨v3, v4, rfl⟩, D, kk, kvs, fa, seen, eG, lv, ks, nd, tl, nf, bG, hG, hk, er⟩ := P
        rw [Nat.sub_self] at er
        simp only [mnyK, Res.map, Res.up, List.append_nil, Nat.add_zero] at er
        refine ⟨_, _, rfl, D, kk, er, kvs, eG, fa, tl, ?_, nf, bG, hG⟩
        rw [ks]
        exact nodup_S nd
  rintro _ G ⟨v3, v4, D, k, kvs, fp, rfl, er, eG, tl, nd, nf, bG, hG⟩
  rw [er] at q
  walk_at "sx"
  exact q p kvs fp G eG tl nd hp nf bG hG
end


theorem up_ok {α β : Type} {x : Res α} {g : α → β} {j k : Nat} {b : β} (h : (x.map g).up j = .ok b k) : ∃ a k', x = .ok a k' ∧ k = j + k' := by
  cases x with
  | bad i => simp only [Res.map, Res.up] at h; cases h
  | ok a i => simp only [Res.map, Res.up] at h; cases h; exact ⟨a, i, rfl, rfl⟩
theorem mnyK_len {f : List Nat → Res PyData} (hf : ∀ r a k, f r = .ok a k → k ≤ r.length) : ∀ {m : Nat} {seen : List (List Nat)} {r : List Nat} {D : List (PyData × PyData)} {k : Nat}, mnyK f m seen r = .ok D k → k ≤ r.length
  | 0, seen, r, D, k, h => by simp only [mnyK] at h; cases h; simp
  | m + 1, seen, [], D, k, h => by simp only [mnyK] at h; cases h
  | m + 1, seen, c :: r, D, k, h => by
    simp only [mnyK] at h
    split at h
    · cases h
    · cases hs : rs r with
      | bad j => rw [hs] at h; cases h
      | ok key j =>
        rw [hs] at h
        simp only at h
        have l1 := (rs_len hs).1
        split at h
        · cases h
        · cases hx : f (r.drop j) with
          | bad i => rw [hx] at h; cases h
          | ok d i =>
            rw [hx] at h
            have l2 := hf _ _ _ hx
            rw [List.length_drop] at l2
            obtain ⟨a, k', e1, e2⟩ := up_ok h
            have l3 := mnyK_len hf e1
            rw [List.length_drop] at l3
            simp; omega
theorem ig_len {r : List Nat} {v : Int} {k : Nat} (h : ig r = .ok v k) : k ≤ r.length := by
  unfold ig at h
  split at h
  · split at h
    · cases h
    · obtain ⟨a, k', e1, e2⟩ := up_ok h
      have := dg_len e1
      simp; omega
  · cases hd : dg false 0 0 r with
    | bad j => rw [hd] at h; cases h
    | ok a j =>
      rw [hd] at h
      simp only [Res.map] at h
      cases h
      have := dg_len hd
      omega
theorem rp_len : ∀ (n : Nat) (r : List Nat) (d : PyData) (k : Nat), rp n r = .ok d k → k ≤ r.length
  | n, [], d, k, h => by cases n <;> (simp only [rp] at h; cases h)
  | n, c :: r, d, k, h => by
    unfold rp at h
    split at h
    · cases h; simp
    split at h
    · cases h; simp
    split at h
    · cases h; simp
    split at h
    · obtain ⟨a, k', e1, e2⟩ := up_ok h
      have := ig_len e1
      simp; omega
    split at h
    · obtain ⟨a, k', e1, e2⟩ := up_ok h
      have := (rs_len e1).1
      simp; omega
    cases n with
    | zero => cases h
    | succ n =>
      simp only at h
      split at h
      · cases hc : ct 0 0 r with
        | bad j => rw [hc] at h; cases h
        | ok m j =>
          rw [hc] at h
          simp only at h
          have l1 := (ct_len hc).1
          split at h
          · obtain ⟨a, k', e1, e2⟩ := up_ok h
            have := mnyK_len (rp_len n) e1
            rw [List.length_drop] at this
            simp; omega
          · obtain ⟨a, k', e1, e2⟩ := up_ok h
            have := (mny_len (rp_len n) e1).1
            rw [List.length_drop] at this
            simp; omega
      · cases h
/-- the whole of some signs as a text -/
def vo (t : List Nat) : Res PyData := match rp 20 t with
  | .bad k => .bad k
  | .ok d k => if t.length ≤ k then .ok d k else .bad k
section
variable {g : Wd} {f : Addr} {fd : FuncData} {C_TextReader CI : Addr}
theorem sc_TextReader__init : FnScope ["self", "text"] ["self", "text"] (defScope s_TextReader__init) := ⟨rfl, rfl, rfl, by decide +kernel, rfl, by decide +kernel, by decide +kernel⟩
def sp_rinit (C : Addr) : Sp := S2 fun z x H Q _ => ∃ y dy t, z = .ref y ∧ x = .str (S t) ∧ H y = some (.ins C dy []) ∧ ∀ H', But y H H' → Rd C H' y dy t 0 → Q .non H'
theorem ok_rinit (F : Df g.K "__init__" "TextReader.__init__" s_TextReader__init f fd .none) (T : Txt2 g) (R : RF g C_TextReader) : FnG g 1 f fd ["self", "text"] (sp_rinit C_TextReader) := by
  refine F.ok sc_TextReader__init (fun vs H Q E h => S2.len h) (fun cdv A outer s H vs Q E hr h => ?_)
  obtain ⟨_, _, rfl, y, dy, t, rfl, rfl, hy, q⟩ := h
  refine ⟨_, (pss_cons (s_fld (K := g.K) (pv 0) (pv 1))
      (pss_one (s_fld (K := g.K) (pv 0) pe_int))), ?_⟩
  walk_at "sx"
  refine ⟨_, _, _, hy, R.cls, R.n1, by simp, R.cls, R.n2, by simp [pu_nil], q _ (fun c o n z => by rw [upd_ne n, upd_ne n]; exact z) ?_⟩
  unfold Rd
  have h1 : ¬ (Str.ofString "own_text" = Str.ofString "at") := by decide +kernel
  rw [upd_same, pu_nil, pu_cons, if_neg h1, pu_nil]
  rfl
theorem sc_TextReader_is_done : FnScope ["self"] ["self"] (defScope s_TextReader_is_done) := ⟨rfl, rfl, rfl, by decide +kernel, rfl, by decide +kernel, by decide +kernel⟩
def sp_done (C : Addr) : Sp := S1 fun z H Q _ => ∃ y dy t i, z = .ref y ∧ Rd C H y dy t i ∧ t.length ≤ 10000000 ∧ Q (.bl (decide (t.length ≤ i))) H
theorem ok_done (F : Df g.K "is_done" "TextReader.is_done" s_TextReader_is_done f fd .none) (T : Txt2 g) (R : RF g C_TextReader) : FnG g 1 f fd ["self"] (sp_done C_TextReader) := by
  refine F.ok sc_TextReader_is_done (fun vs H Q E h => S1.len h) (fun cdv A outer s H vs Q E hr h => ?_)
  obtain ⟨_, rfl, y, dy, t, i, rfl, hy, hl, q⟩ := h
  refine ⟨_, (pss_one (ps_ret (pe_cmpR op_ge (e_fld (K := g.K) (pv 0)) (pe_callB (c_len (K := g.K)) (by rfl) T.b_len bb_len (pa_cons (e_fld (K := g.K) (pv 0)) pa_nil)) (nomark _)))), ?_⟩
  have hy' := hy
  unfold Rd at hy'
  walk_at "sx"
  (simp only [hy']; (try walk_at "sx"); (try simp only [R.cls, R.n1, R.n2, true_and]); (try walk_at "lt"); (try walk_at "sx"))
  rw [S_len]
  exact ⟨by omega, by simpa using q⟩
theorem sc_check_string : FnScope ["text"] ["text"] (defScope s_check_string) := ⟨rfl, rfl, rfl, by decide +kernel, rfl, by decide +kernel, by decide +kernel⟩
def sp_cstr : Sp := S1 fun z H Q _ => ∃ x, z = .str x ∧ Q .non H
theorem ok_cstr (F : Df g.K "check_string" "check_string" s_check_string f fd .none) (T : Txt2 g) : FnG g 1 f fd ["text"] sp_cstr := by
  refine F.ok sc_check_string (fun vs H Q E h => S1.len h) (fun cdv A outer s H vs Q E hr h => ?_)
  obtain ⟨_, rfl, x, rfl, q⟩ := h
  refine ⟨_, (pss_one (ps_if (pt_not (pt_val (pe_callB (c_is "str") (by rfl) T.b_isinstance bb_isinstance (pa_cons (pv 0) (pa_cons (pe_bltn (v := .ty "str") rfl T.b_str bb_str rfl) pa_nil))))) (pss_one ps_never) pss_nil)), ?_⟩
  walk_at "sx"
  exact q
theorem sc_value_of : FnScope ["text", "reader", "found"] ["text"] (defScope s_value_of) := ⟨rfl, rfl, rfl, by decide +kernel, rfl, by decide +kernel, by decide +kernel⟩
def sp_vof (CI : Addr) : Sp := S1 fun z H Q E => ∃ t, z = .str (S t) ∧ t.length ≤ 10000000 ∧ match vo t with
  | .bad k => ∀ dd H', Same H H' → H' dd = some (.xd [("position", .int (k : Nat))]) → E (.ref CI) (some dd) H'
  | .ok d k => ∀ v fp H', Tr H' v d fp → (∀ c ∈ fp, H c = none) → Same H H' → Q v H'
theorem ok_vof (F : Df g.K "value_of" "value_of" s_value_of f fd .none) (T : Txt2 g) (R : RF g C_TextReader) (CL_TextReader : Cls g.K C_TextReader) (F_check_string : Kn g "check_string" 1 ["text"] [] sp_cstr) (F_TextReader : Kc g "TextReader" C_TextReader 1 ["self", "text"] [] (sp_rinit C_TextReader)) (M_TextReader_read_part : Km g C_TextReader "read_part" 46 ["self", "depth"] [] (sp_part C_TextReader CI 20)) (M_TextReader_is_done : Km g C_TextReader "is_done" 1 ["self"] [] (sp_done C_TextReader)) (M_TextReader_refuse : Km g C_TextReader "refuse" 3 ["self", "index"] [] (sp_refuse CI)) : FnG g 47 f fd ["text"] (sp_vof CI) := by
  refine F.ok sc_value_of (fun vs H Q E h => S1.len h) (fun cdv A outer s H vs Q E hr h => ?_)
  obtain ⟨_, rfl, t, rfl, hl, q⟩ := h
  refine ⟨_, (pss_mid (ps_expr (pe_callG F_check_string (hr.mono (by first | decide | omega)) tkD (pa_cons (pv 0) pa_nil)))
      (pss_mid (ps_set (i := 1) sc_value_of.nd rfl (Or.inl rfl) (pe_makeG F_TextReader (hr.mono (by first | decide | omega)) tkD (pa_cons (pv 0) pa_nil)))
      (pss_mid (ps_set (i := 2) sc_value_of.nd rfl (Or.inl rfl) (pe_methG (pv 1) CL_TextReader M_TextReader_read_part (hr.mono (by first | decide | omega)) tkD (pa_cons pe_int pa_nil)))
      (pss_mid (ps_if (pt_not (pt_val (pe_methG0 (pv 1) CL_TextReader M_TextReader_is_done (hr.mono (by first | decide | omega)) tkD))) (pss_one (ps_expr (pe_methG (pv 1) CL_TextReader M_TextReader_refuse (hr.mono (by first | decide | omega)) tkD (pa_cons (e_fld (K := g.K) (pv 1)) pa_nil)))) pss_nil)
      (pss_one (ps_ret (pv 2))))))), ?_⟩
  refine mid_one [some (.str (S t)), none, none] (fun G => G = H) ?_ ?_
  · walk_at "sx"
    exact ⟨_, rfl, _, rfl, rfl⟩
  intro G e0
  rw [e0]; clear e0 G
  refine mid_at (fun σ G => ∃ y dy, σ = [some (.str (S t)), some (.ref y), none] ∧ H y = none ∧ Same H G ∧ Rd C_TextReader G y dy t 0) ?_ ?_
  · walk_at "sx"
    intro y dy hy hdy ne
    refine ⟨_, _, rfl, y, dy, t, rfl, rfl, upd_same, fun H' b h => ⟨rfl, hy, fun c o z => ?_, dy, h⟩⟩
    have cy : c ≠ y := ne_of_none z hy
    exact b c o cy (by rw [upd_ne cy, upd_ne (ne_of_none z hdy)]; exact z)
  rintro _ G ⟨y, dy, rfl, ny, sG, hG⟩
  have hG' := hG
  unfold Rd at hG'
  have sm : ∀ {G2 : Hp}, But y G G2 → Same H G2 := fun b c o z => b c o (fun e => by rw [e, ny] at z; cases z) (sG _ _ z)
  refine mid_at (fun σ G2 => ∃ v d k fp, rp 20 t = .ok d k ∧ σ = [some (.str (S t)), some (.ref y), some v] ∧ Tr G2 v d fp ∧ (∀ c ∈ fp, H c = none) ∧ But y G G2 ∧ Rd C_TextReader G2 y dy t k) ?_ ?_
  · walk_at "sx"
    (simp only [hG']; (try walk_at "sx"); (try simp only [R.cls, R.n1, R.n2, true_and]); (try walk_at "lt"); (try walk_at "sx"))
    refine ⟨_, _, rfl, y, dy, t, 0, rfl, by rfl, by decide, hG, hl, Nat.zero_le _, ?_⟩
    rw [List.drop_zero]
    unfold vo at q
    cases hx : rp 20 t with
    | bad k =>
      rw [hx] at q
      simp only [Nat.zero_add]
      exact fun dd H' b h => q dd H' (sm b) h
    | ok d k =>
      simp only [Nat.zero_add]
      intro v fp H' tv nv bv rv
      refine ⟨v, d, k, rfl, rfl, fp, tv, fun c hc => ?_, bv, rv⟩
      cases e : H c with
      | none => rfl
      | some o => have := sG _ _ e; rw [nv c hc] at this; cases this
  rintro _ G2 ⟨v, d, k, fp, hx, rfl, tv, nv, b2, h2⟩
  unfold vo at q
  rw [hx] at q
  simp only at q
  have h2' := h2
  unfold Rd at h2'
  by_cases dn : t.length ≤ k
  · rw [if_pos dn] at q
    refine mid_one [some (.str (S t)), some (.ref y), some v] (fun G3 => G3 = G2) ?_ ?_
    · walk_at "sx"
      (simp only [h2']; (try walk_at "sx"); (try simp only [R.cls, R.n1, R.n2, true_and]); (try walk_at "lt"); (try walk_at "sx"))
      refine ⟨_, rfl, y, dy, t, k, rfl, h2, hl, _, rfl, ?_⟩
      rw [decide_eq_true dn, if_neg (by decide)]
    intro G3 e3
    rw [e3]; clear e3 G3
    walk_at "sx"
    exact q v fp G2 tv nv (sm b2)
  · rw [if_neg dn] at q
    refine mid_at (fun _ _ => False) ?_ (fun _ _ z => z.elim)
    walk_at "sx"
    (simp only [h2']; (try walk_at "sx"); (try simp only [R.cls, R.n1, R.n2, true_and]); (try walk_at "lt"); (try walk_at "sx"))
    refine ⟨_, rfl, y, dy, t, k, rfl, h2, hl, _, rfl, ?_⟩
    rw [decide_eq_false dn, if_pos (by decide)]
    have q' : Bad CI y G k E := fun dd H' b h => q dd H' (sm b) h
    exact rf R h2 q' b2
theorem sc_first_wrong : FnScope ["text", "found", "error"] ["text"] (defScope s_first_wrong) := ⟨rfl, rfl, rfl, by decide +kernel, rfl, by decide +kernel, by decide +kernel⟩
def sp_fw : Sp := S1 fun z H Q E => ∃ t, z = .str (S t) ∧ t.length ≤ 10000000 ∧ match vo t with
  | .bad k => ∀ H', Same H H' → Q (.int (k : Nat)) H'
  | .ok d k => ∀ H', Same H H' → Q .non H'
theorem ok_fw (F : Df g.K "first_wrong" "first_wrong" s_first_wrong f fd .none) (T : Txt2 g) (F_check_string : Kn g "check_string" 1 ["text"] [] sp_cstr) (F_value_of : Kn g "value_of" 47 ["text"] [] (sp_vof CI)) (hm : g.mg "InvalidText" = some (.ref CI)) (hex : PySem.W.exmOne g.K (.ref CI) (.ref CI) = some true) (XF_InvalidText : XfC g.K CI) (NF_InvalidText : PySem.W.findIn g.K (.ref CI) "position" = some none) : FnG g 48 f fd ["text"] sp_fw := by
  refine F.ok sc_first_wrong (fun vs H Q E h => S1.len h) (fun cdv A outer s H vs Q E hr h => ?_)
  obtain ⟨_, rfl, t, rfl, hl, q⟩ := h
  have N_InvalidText : Names (cx g ["text", "found", "error"] "first_wrong" s_first_wrong f cdv A outer s H E) "InvalidText" (.ref CI) := ⟨rfl, by decide, .inl hm⟩
  refine ⟨_, (pss_mid (ps_expr (pe_callG F_check_string (hr.mono (by first | decide | omega)) tkD (pa_cons (pv 0) pa_nil)))
      (pss_mid (ps_set (i := 1) sc_first_wrong.nd rfl (Or.inl rfl) pe_non)
      (pss_mid (ps_try_as (i := 2) rfl rfl sc_first_wrong.nd rfl rfl N_InvalidText tkD (fun W pn xe tk1 po1 => (pss_one (ps_expr (pe_callG F_value_of (Rm.mono (Rm.mk hr.room hr.gd) (by first | decide | omega)) tk1 (pa_cons (pv 0) pa_nil))))) (fun a oe cls d pn hz hf => (pss_one (ps_set (i := 1) sc_first_wrong.nd rfl (Or.inl rfl) (pe_xf XF_InvalidText NF_InvalidText hz hf (pv 2))))))
      (pss_one (ps_ret (pv 1)))))), ?_⟩
  refine mid_one [some (.str (S t)), none, none] (fun G => G = H) ?_ ?_
  · walk_at "sx"
    exact ⟨_, rfl, _, rfl, rfl⟩
  intro G e0
  rw [e0]; clear e0 G
  refine mid_one [some (.str (S t)), some .non, none] (fun G => G = H) ?_ ?_
  · walk_at "sx"
  intro G e0
  rw [e0]; clear e0 G
  refine mid_at (fun σ G => ∃ v, σ = [some (.str (S t)), some v, none] ∧ Same H G ∧ v = (match vo t with
    | .bad k => .int (k : Nat)
    | .ok _ _ => .non)) ?_ ?_
  · walk_at "sx"
    refine ⟨_, rfl, t, rfl, hl, ?_⟩
    cases hv : vo t with
    | bad k =>
      intro dd H' s' h'
      refine ⟨true, hex, fun _ a ha => ?_, fun z => by cases z⟩
      simp only [tXf, tRet, tRetN, tSeq, C8.tCut, tNext, tAsg, gName, gNil, gCons, gTup, gFld, tIfS, tIf, tAndV, tOrV, tNotV, tAnd, tOr, tNot, tB, tTest, tOp, tUn, tCB, tCons, tNil, tVar, tC, tChain, tDrop, tCallG, tMethG, tMakeG, RS.tCallK, RS.tMakeK, tEqOwn, rI, rI0, rU, add_ii, add_ss, add_rr, mul_ii, mul_si, mul_ri, RS.eq_ii, RS.eq_ss, eq_bb, eq_nn, eq_sn, eq_ns, eq_in, eq_ni, eq_bn, eq_nb, eq_is, eq_si, eq_rr, ne_ii, ne_ss, ne_bb, ne_nn, ne_sn, ne_ns, ne_in, ne_ni, ne_is, ne_si, ne_rr, in_ss, in_r, nin_ss, nin_r, len_s, len_r, RS.ix_s, RS.ix_r, sl_s, sl_r, is_eq, tyN_n, tyN_b, tyN_i, tyN_s, tru_b, tru_i, tru_n, tSl, tPart, tNoPart, tPar, tPar3, tFmtZ, tFmt, tJs, tDGet, sDPut, sFld, tFld, tTup, tLst, tNever, isB,
  L2.start, List.map_cons, List.map_nil, List.length_cons, List.length_nil, Nat.reduceAdd, Nat.reduceSub, Nat.sub_self, List.replicate_zero, List.replicate_succ, List.append_nil, List.cons_append, List.nil_append, List.getElem?_cons_zero, List.getElem?_cons_succ, List.set_cons_zero, List.set_cons_succ, Option.some.injEq, exists_eq_left, exists_eq_left', exists_and_left, V.bl.injEq, V.int.injEq, V.str.injEq, V.ref.injEq, beq_self_eq_true, Bool.true_or, Bool.or_true, Bool.false_or, Bool.or_false, Bool.and_false, Bool.false_and, Bool.true_and, Bool.and_true, Bool.not_true, Bool.not_false, Bool.false_eq_true, if_true, if_false, ite_true, ite_false, true_and, and_true, and_assoc, String.reduceBEq, String.reduceEq, reduceIte, Bool.and_self, reduceCtorEq, false_and, and_false, exists_false, or_false, false_or, exists_const, iEnumS, iStr, iList, iTup, iRng1, iEnum, tFor_eq, tLc_eq, List.cons.injEq, wipe, not_true_eq_false, not_false_eq_true, upd_same, HO.ins.injEq, HO.tup.injEq, HO.lst.injEq, ofS_eq, lk_nil, lk_cons, pu_nil, pu_cons, sizeLine_eq, Nat.reduceLT, Nat.reduceLeDiff, Nat.reduceEqDiff, Nat.le_refl, decide_true, decide_false, tPr, dget_us, dput_us, vv_nil, vv_cons, RS.pk_nil, pk_one, RS.pk_cons, inr_eq, tDisp, tPairs, tBoolOwn, rBoolOwn, tBM, rAppend, ty_list, ty_str, rEqOwn, iEnumT, RS.tCallS, tM1, tDc_eq, tLock, tLockE, iKeys, tListEnum, rUpdate, tMkX0, tMkX1, tXfv, gSub, rSetL, List.getD_cons_zero, List.getD_cons_succ]
      exact ⟨_, h', _, by rw [lk_cons, if_pos rfl], s', rfl⟩
    | ok d k => 
      intro v fp H' tv nv s'
      exact ⟨s', rfl⟩
  rintro _ G ⟨v, rfl, sG, rfl⟩
  walk_at "sx"
  cases hv : vo t with
  | bad k => rw [hv] at q; exact q _ sG
  | ok d k => rw [hv] at q; exact q _ sG
end


def isOk {α : Type} : Res α → Bool
  | .ok _ _ => true
  | .bad _ => false
section
variable {g : Wd} {f : Addr} {fd : FuncData} {C_TextReader CI : Addr}
theorem sc_is_text : FnScope ["value"] ["value"] (defScope s_is_text) := ⟨rfl, rfl, rfl, by decide +kernel, rfl, by decide +kernel, by decide +kernel⟩
def sp_ist : Sp := S1 fun z H Q E => ∃ t, z = .str (S t) ∧ t.length ≤ 10000000 ∧ ∀ H', Same H H' → Q (.bl (isOk (vo t))) H'
theorem ok_ist (F : Df g.K "is_text" "is_text" s_is_text f fd .none) (T : Txt2 g) (F_first_wrong : Kn g "first_wrong" 48 ["text"] [] sp_fw) : FnG g 49 f fd ["value"] sp_ist := by
  refine F.ok sc_is_text (fun vs H Q E h => S1.len h) (fun cdv A outer s H vs Q E hr h => ?_)
  obtain ⟨_, rfl, t, rfl, hl, q⟩ := h
  refine ⟨_, (pss_one (ps_ret (pe_and (pe_callB (c_is "str") (by rfl) T.b_isinstance bb_isinstance (pa_cons (pv 0) (pa_cons (pe_bltn (v := .ty "str") rfl T.b_str bb_str rfl) pa_nil))) (pe_one (pe_cmpR op_isN (pe_callG F_first_wrong (hr.mono (by first | decide | omega)) tkD (pa_cons (pv 0) pa_nil)) pe_non (nomark _)))))), ?_⟩
  walk_at "sx"
  refine ⟨_, rfl, t, rfl, hl, ?_⟩
  cases hv : vo t with
  | bad k =>
    rw [hv] at q
    intro H' s'
    have := q H' s'
    simpa [hv, isOk] using this
  | ok d k =>
    rw [hv] at q
    intro H' s'
    have := q H' s'
    simpa [hv, isOk] using this
theorem sc_is_value : FnScope ["value"] ["value"] (defScope s_is_value) := ⟨rfl, rfl, rfl, by decide +kernel, rfl, by decide +kernel, by decide +kernel⟩
def sp_isv : Sp := S1 fun v H Q _ => ∃ d fp, Tr H v d fp ∧ okB d = true ∧ d.depth < 8 ∧ ∀ H', Same H H' → Q (.bl true) H'
theorem ok_isv (F : Df g.K "is_value" "is_value" s_is_value f fd .none) (T : Txt g) (F_wrong_path : Kn g "wrong_path" 9 ["value", "path"] [] (sp_path 8)) : FnG g 10 f fd ["value"] sp_isv := by
  refine F.ok sc_is_value (fun vs H Q E h => S1.len h) (fun cdv A outer s H vs Q E hr h => ?_)
  obtain ⟨v, rfl, d, fp, hv, hok, hn, q⟩ := h
  refine ⟨_, (pss_one (ps_ret (pe_cmpR op_isN (pe_callG F_wrong_path (hr.mono (by first | decide | omega)) tkD (pa_cons (pv 0) (pa_cons (pe_tup pa_nil) pa_nil))) pe_non (nomark _)))), ?_⟩
  walk_at "sx"
  intro p hp
  have sp := same_upd (o := HO.tup []) hp
  refine ⟨_, _, rfl, d, fp, p, [], hv.same sp, hok, rfl, upd_same, by simp; omega, hn, fun H' s' => ?_⟩
  walk_at "sx"
  exact q _ (sp.trans s')
end


/-! what is written is read again -/
open TL (numL numL_lt numL_step numL_digits numL_ne)
theorem ct_num (m : Nat) (h : m ≤ 10000) (r : List Nat) : ct 0 0 (numL m ++ r) = ct (numL m).length m r := by
  induction m using Nat.strongRecOn generalizing r with
  | ind m ih =>
    by_cases lt : m < 10
    · rw [numL_lt lt]
      simp only [List.cons_append, List.nil_append, ct, List.length_cons, List.length_nil]
      rw [if_neg (by simp), if_pos ⟨by simp [isDig]; omega, .inl trivial, by omega⟩]
      congr 1; omega
    · rw [numL_step (by omega), List.append_assoc, ih (m / 10) (by omega) (by omega)]
      have l0 : (numL (m / 10)).length ≠ 0 := fun z => numL_ne (m / 10) (List.eq_nil_of_length_eq_zero z)
      simp only [List.cons_append, List.nil_append, ct]
      rw [if_neg (by omega), if_pos ⟨by simp [isDig]; omega, .inr (by omega), by omega⟩]
      rw [List.length_append]
      congr 1; omega
theorem ct_num_ok {m : Nat} (h : m ≤ 10000) (r : List Nat) : ct 0 0 (numL m ++ 58 :: r) = .ok m ((numL m).length + 1) := by
  rw [ct_num m h]
  have l0 : (numL m).length ≠ 0 := fun z => numL_ne m (List.eq_nil_of_length_eq_zero z)
  simp only [ct]
  rw [if_pos ⟨trivial, l0⟩]
theorem ct_num_cut {m : Nat} (h : m ≤ 10000) {p q : List Nat} (e : p ++ q = numL m) : ct 0 0 p = .bad p.length := by
  induction m using Nat.strongRecOn generalizing p q with
  | ind m ih =>
    by_cases nq : q = []
    · subst nq
      rw [List.append_nil] at e
      have := ct_num m h []
      rw [List.append_nil] at this
      rw [e, this]; rfl
    · by_cases lt : m < 10
      · rw [numL_lt lt] at e
        cases p with
        | nil => rfl
        | cons c p =>
          simp only [List.cons_append, List.cons.injEq, List.append_eq_nil_iff] at e
          exact absurd e.2.2 nq
      · rw [numL_step (by omega)] at e
        obtain ⟨q', c, rfl⟩ : ∃ q' c, q = q' ++ [c] := ⟨q.dropLast, q.getLast nq, (List.dropLast_concat_getLast nq).symm⟩
        rw [← List.append_assoc] at e
        have := (List.append_inj' e rfl).1
        exact ih (m / 10) (by omega) (by omega) this
theorem dg_num (m : Nat) (h : (numL m).length ≤ 100) (r : List Nat) : dg false 0 0 (numL m ++ r) = dg (decide (m = 0)) (numL m).length m r := by
  induction m using Nat.strongRecOn generalizing r with
  | ind m ih =>
    by_cases lt : m < 10
    · rw [numL_lt lt]
      simp only [List.cons_append, List.nil_append, dg, List.length_cons, List.length_nil]
      rw [if_neg (by simp), if_pos ⟨by simp [isDig]; omega, .inl trivial⟩]
      simp
    · have ls : (numL m).length = (numL (m / 10)).length + 1 := by rw [numL_step (by omega)]; simp
      rw [numL_step (by omega), List.append_assoc, ih (m / 10) (by omega) (by omega)]
      have l0 : (numL (m / 10)).length ≠ 0 := fun z => numL_ne (m / 10) (List.eq_nil_of_length_eq_zero z)
      have z0 : decide (m / 10 = 0) = false := decide_eq_false (by omega)
      have z1 : decide (m = 0) = false := decide_eq_false (by omega)
      simp only [List.cons_append, List.nil_append, dg, z0, z1]
      rw [if_neg (by omega), if_pos ⟨by simp [isDig]; omega, .inr ⟨by omega, trivial⟩⟩, if_neg l0]
      rw [List.length_append]
      congr 1; omega
theorem dg_num_ok {m : Nat} (h : (numL m).length ≤ 100) (r : List Nat) : dg false 0 0 (numL m ++ 59 :: r) = .ok m ((numL m).length + 1) := by
  rw [dg_num m h]
  have l0 : (numL m).length ≠ 0 := fun z => numL_ne m (List.eq_nil_of_length_eq_zero z)
  simp only [dg]
  rw [if_pos ⟨trivial, l0⟩]
theorem dg_num_cut {m : Nat} (h : (numL m).length ≤ 100) {p q : List Nat} (e : p ++ q = numL m) : dg false 0 0 p = .bad p.length := by
  induction m using Nat.strongRecOn generalizing p q with
  | ind m ih =>
    by_cases nq : q = []
    · subst nq
      rw [List.append_nil] at e
      have := dg_num m h []
      rw [List.append_nil] at this
      rw [e, this]; rfl
    · by_cases lt : m < 10
      · rw [numL_lt lt] at e
        cases p with
        | nil => rfl
        | cons c p =>
          simp only [List.cons_append, List.cons.injEq, List.append_eq_nil_iff] at e
          exact absurd e.2.2 nq
      · have ls : (numL m).length = (numL (m / 10)).length + 1 := by rw [numL_step (by omega)]; simp
        rw [numL_step (by omega)] at e
        obtain ⟨q', c, rfl⟩ : ∃ q' c, q = q' ++ [c] := ⟨q.dropLast, q.getLast nq, (List.dropLast_concat_getLast nq).symm⟩
        rw [← List.append_assoc] at e
        have := (List.append_inj' e rfl).1
        exact ih (m / 10) (by omega) (by omega) this


/-- a string behind its letter -/
def strL (x : List Nat) : List Nat := numL x.length ++ 58 :: x
theorem rs_ok {x : List Nat} (h : x.length ≤ 10000) (r : List Nat) : rs (strL x ++ r) = .ok x (strL x).length := by
  unfold rs strL
  rw [List.append_assoc, List.cons_append, ct_num_ok h]
  simp only
  have e : (numL x.length ++ 58 :: (x ++ r)).drop ((numL x.length).length + 1) = x ++ r := by
    rw [← List.drop_drop, List.drop_left]; rfl
  rw [e, if_pos (by simp)]
  congr 1
  · simp
  · simp; omega
theorem rs_cut {x p q : List Nat} (h : x.length ≤ 10000) (e : p ++ q = strL x) (nq : q ≠ []) : rs p = .bad p.length := by
  unfold strL at e
  rcases List.append_eq_append_iff.mp e with ⟨a', h1, h2⟩ | ⟨c', h1, h2⟩
  · unfold rs
    rw [ct_num_cut h (p := p) (q := a') h1.symm]
  · cases c' with
    | nil =>
      rw [List.append_nil] at h1
      unfold rs
      rw [ct_num_cut h (p := p) (q := []) (by rw [List.append_nil]; exact h1)]
    | cons c y =>
      simp only [List.cons_append, List.cons.injEq] at h2
      obtain ⟨rfl, h2⟩ := h2
      unfold rs
      rw [h1, ct_num_ok h]
      simp only
      have e2 : (numL x.length ++ 58 :: y).drop ((numL x.length).length + 1) = y := by
        rw [← List.drop_drop, List.drop_left]; rfl
      rw [e2, if_neg]
      rw [h2]
      cases q with
      | nil => exact absurd rfl nq
      | cons a q => simp
/-- an integer behind its letter -/
def intL (i : Int) : List Nat := (if i < 0 then 45 :: numL i.natAbs else numL i.natAbs) ++ [59]
theorem num_head {m : Nat} (h : m ≠ 0) : ∃ c r, numL m = c :: r ∧ c ≠ 48 ∧ c ≠ 45 := by
  induction m using Nat.strongRecOn with
  | ind m ih =>
    by_cases lt : m < 10
    · exact ⟨48 + m, [], numL_lt lt, by omega, by omega⟩
    · obtain ⟨c, r, e, n⟩ := ih (m / 10) (by omega) (by omega)
      exact ⟨c, r ++ [48 + m % 10], by rw [numL_step (by omega), e]; rfl, n⟩
theorem num_first (m : Nat) : ∃ c r, numL m = c :: r ∧ c ≠ 45 := by
  by_cases h : m = 0
  · subst h; exact ⟨48, [], numL_lt (by decide), by decide⟩
  · obtain ⟨c, r, e, n⟩ := num_head h
    exact ⟨c, r, e, n.2⟩
theorem ig_neg {c : Nat} {r : List Nat} (h : c ≠ 48) : ig (45 :: c :: r) = ((dg false 0 0 (c :: r)).map fun v : Nat => (0 - (v : Int))).up 1 := by unfold ig; simp [h]
theorem ig_pos {c : Nat} {r : List Nat} (h : c ≠ 45) : ig (c :: r) = (dg false 0 0 (c :: r)).map fun v : Nat => (v : Int) := by unfold ig; simp [h]
theorem ig_ok {i : Int} (h : (numL i.natAbs).length ≤ 100) (r : List Nat) : ig (intL i ++ r) = .ok i (intL i).length := by
  unfold intL
  have d := dg_num_ok (m := i.natAbs) h r
  by_cases neg : i < 0
  · rw [if_pos neg]
    obtain ⟨c, s, e, n⟩ := num_head (m := i.natAbs) (by omega)
    have e2 : (45 :: numL i.natAbs ++ [59] ++ r) = 45 :: (numL i.natAbs ++ 59 :: r) := by simp
    rw [e2, e, List.cons_append, ig_neg n.1, ← List.cons_append, ← e, d]
    simp only [Res.map, Res.up]
    congr 1
    · omega
    · simp; omega
  · rw [if_neg neg]
    obtain ⟨c, s, e, n⟩ := num_first i.natAbs
    have e2 : (numL i.natAbs ++ [59] ++ r) = numL i.natAbs ++ 59 :: r := by simp
    rw [e2, e, List.cons_append, ig_pos n, ← List.cons_append, ← e, d]
    simp only [Res.map]
    congr 1
    · omega
    · simp
theorem ig_cut {i : Int} (h : (numL i.natAbs).length ≤ 100) {p q : List Nat} (e : p ++ q = intL i) (nq : q ≠ []) : ig p = .bad p.length := by
  unfold intL at e
  -- the front without the semicolon
  have e1 : ∃ q', p ++ q' = (if i < 0 then 45 :: numL i.natAbs else numL i.natAbs) := by
    obtain ⟨q', c, rfl⟩ : ∃ q' c, q = q' ++ [c] := ⟨q.dropLast, q.getLast nq, (List.dropLast_concat_getLast nq).symm⟩
    rw [← List.append_assoc] at e
    exact ⟨q', (List.append_inj' e rfl).1⟩
  obtain ⟨q', e1⟩ := e1
  by_cases neg : i < 0
  · rw [if_pos neg] at e1
    cases p with
    | nil => rfl
    | cons a p =>
      simp only [List.cons_append, List.cons.injEq] at e1
      obtain ⟨rfl, e1⟩ := e1
      have d := dg_num_cut h e1
      cases p with
      | nil => rfl
      | cons c p =>
        obtain ⟨c', s, e', n⟩ := num_head (m := i.natAbs) (by omega)
        rw [e'] at e1
        simp only [List.cons_append, List.cons.injEq] at e1
        rw [ig_neg (by rw [e1.1]; exact n.1), d]
        simp only [Res.map, Res.up, List.length_cons]
        congr 1; omega
  · rw [if_neg neg] at e1
    have d := dg_num_cut h e1
    cases p with
    | nil => rfl
    | cons c p =>
      obtain ⟨c', s, e', n⟩ := num_first i.natAbs
      rw [e'] at e1
      simp only [List.cons_append, List.cons.injEq] at e1
      rw [ig_pos (by rw [e1.1]; exact n), d]
      rfl


mutual
/-- the text of a value as a list of signs -/
def sl : PyData → List Nat
  | .none => [110]
  | .bool b => [if b then 116 else 102]
  | .int i => 105 :: intL i
  | .str x => 115 :: strL x.cps.toList
  | .list ds => 108 :: (numL ds.length ++ 58 :: sls ds)
  | .tuple ds => 117 :: (numL ds.length ++ 58 :: sls ds)
  | .dict D => 100 :: (numL D.length ++ 58 :: slK D)
def sls : List PyData → List Nat
  | [] => []
  | d :: ds => sl d ++ sls ds
def slK : List (PyData × PyData) → List Nat
  | [] => []
  | (k, d) :: r => sl k ++ (sl d ++ slK r)
end
mutual
/-- what can be written: the keys are strings and apart -/
def wf : PyData → Prop
  | .none => True
  | .bool _ => True
  | .int i => (numL i.natAbs).length ≤ 100
  | .str x => x.length ≤ 10000
  | .list ds => ds.length ≤ 10000 ∧ wfs ds
  | .tuple ds => ds.length ≤ 10000 ∧ wfs ds
  | .dict D => D.length ≤ 10000 ∧ wfK [] D
def wfs : List PyData → Prop
  | [] => True
  | d :: ds => wf d ∧ wfs ds
def wfK : List (List Nat) → List (PyData × PyData) → Prop
  | _, [] => True
  | seen, (k, d) :: r => (∃ x : Str, k = .str x ∧ x.length ≤ 10000 ∧ x.cps.toList ∉ seen ∧ wfK (seen ++ [x.cps.toList]) r) ∧ wf d
end
theorem str_S (x : Str) : SX.S x.cps.toList = x := by cases x; rfl
theorem str_len (x : Str) : x.cps.toList.length = x.length := rfl
mutual
theorem rp_ok : ∀ (d : PyData) (n : Nat) (r : List Nat), wf d → d.depth ≤ n → rp n (sl d ++ r) = .ok d (sl d).length
  | .none, n, r, _, _ => by cases n <;> simp [sl, rp]
  | .bool b, n, r, _, _ => by cases b <;> cases n <;> simp [sl, rp]
  | .int i, n, r, h, _ => by
    simp only [wf] at h
    have e := ig_ok h r
    cases n <;> simp [sl, rp, e, Res.map, Res.up] <;> omega
  | .str x, n, r, h, _ => by
    simp only [wf] at h
    have e := rs_ok (x := x.cps.toList) (by rw [str_len]; exact h) r
    cases n <;> simp [sl, rp, e, Res.map, Res.up, str_S] <;> omega
  | .list ds, 0, r, h, hd => by simp only [PyData.depth] at hd; omega
  | .list ds, n + 1, r, h, hd => by
    simp only [wf] at h
    have e := mny_ok ds n r h.2 (by simp only [PyData.depth] at hd; omega)
    have c := ct_num_ok h.1 (sls ds ++ r)
    have dr : (numL ds.length ++ 58 :: (sls ds ++ r)).drop ((numL ds.length).length + 1) = sls ds ++ r := by rw [← List.drop_drop, List.drop_left]; rfl
    simp [sl, rp, c, dr, e, Res.map, Res.up]
    omega
  | .tuple ds, 0, r, h, hd => by simp only [PyData.depth] at hd; omega
  | .tuple ds, n + 1, r, h, hd => by
    simp only [wf] at h
    have e := mny_ok ds n r h.2 (by simp only [PyData.depth] at hd; omega)
    have c := ct_num_ok h.1 (sls ds ++ r)
    have dr : (numL ds.length ++ 58 :: (sls ds ++ r)).drop ((numL ds.length).length + 1) = sls ds ++ r := by rw [← List.drop_drop, List.drop_left]; rfl
    simp [sl, rp, c, dr, e, Res.map, Res.up]
    omega
  | .dict D, 0, r, h, hd => by simp only [PyData.depth] at hd; omega
  | .dict D, n + 1, r, h, hd => by
    simp only [wf] at h
    have e := mnyK_ok D n [] r h.2 (by simp only [PyData.depth] at hd; omega)
    have c := ct_num_ok h.1 (slK D ++ r)
    have dr : (numL D.length ++ 58 :: (slK D ++ r)).drop ((numL D.length).length + 1) = slK D ++ r := by rw [← List.drop_drop, List.drop_left]; rfl
    simp [sl, rp, c, dr, e, Res.map, Res.up]
    omega
theorem mny_ok : ∀ (ds : List PyData) (n : Nat) (r : List Nat), wfs ds → PyData.depthAll ds ≤ n → mny (rp n) ds.length (sls ds ++ r) = .ok ds (sls ds).length
  | [], n, r, _, _ => by simp [mny, sls]
  | d :: ds, n, r, h, hd => by
    simp only [wfs] at h
    simp only [PyData.depthAll] at hd
    have e1 := rp_ok d n (sls ds ++ r) h.1 (by omega)
    have e2 := mny_ok ds n r h.2 (by omega)
    simp [sls, mny, e1, e2, Res.map, Res.up]
theorem mnyK_ok : ∀ (D : List (PyData × PyData)) (n : Nat) (seen : List (List Nat)) (r : List Nat), wfK seen D → PyData.depthKv D ≤ n → mnyK (rp n) D.length seen (slK D ++ r) = .ok D (slK D).length
  | [], n, seen, r, _, _ => by simp [mnyK, slK]
  | (k, d) :: D, n, seen, r, h, hd => by
    simp only [wfK] at h
    simp only [PyData.depthKv] at hd
    obtain ⟨⟨x, rfl, hx, ns, hk⟩, hw⟩ := h
    have e0 := rs_ok (x := x.cps.toList) (by rw [str_len]; exact hx) (sl d ++ (slK D ++ r))
    have e1 := rp_ok d n (slK D ++ r) hw (by omega)
    have e2 := mnyK_ok D n (seen ++ [x.cps.toList]) r hk (by omega)
    have d1 : (strL x.cps.toList ++ (sl d ++ (slK D ++ r))).drop (strL x.cps.toList).length = sl d ++ (slK D ++ r) := List.drop_left
    have d2 : (strL x.cps.toList ++ (sl d ++ (slK D ++ r))).drop ((strL x.cps.toList).length + (sl d).length) = slK D ++ r := by rw [← List.drop_drop, d1, List.drop_left]
    simp [slK, sl, mnyK, e0, ns, d1, d2, e1, e2, Res.map, Res.up, str_S]
    omega
end


/-- a count that is cut off, or what stands behind it -/
theorem front {m : Nat} (h : m ≤ 10000) {p q b : List Nat} (e : p ++ q = numL m ++ 58 :: b) (nq : q ≠ []) : ct 0 0 p = .bad p.length ∨ ∃ y, p = numL m ++ 58 :: y ∧ y ++ q = b ∧ ct 0 0 p = .ok m ((numL m).length + 1) ∧ p.drop ((numL m).length + 1) = y := by
  rcases List.append_eq_append_iff.mp e with ⟨a', h1, h2⟩ | ⟨c', h1, h2⟩
  · exact .inl (ct_num_cut h (p := p) (q := a') h1.symm)
  · cases c' with
    | nil =>
      rw [List.append_nil] at h1
      exact .inl (ct_num_cut h (p := p) (q := []) (by rw [List.append_nil]; exact h1))
    | cons c y =>
      simp only [List.cons_append, List.cons.injEq] at h2
      obtain ⟨rfl, h2⟩ := h2
      refine .inr ⟨y, h1, h2.symm, by rw [h1, ct_num_ok h], ?_⟩
      rw [h1, ← List.drop_drop, List.drop_left]; rfl
mutual
theorem rp_cut : ∀ (d : PyData) (n : Nat) (p q : List Nat), wf d → d.depth ≤ n → p ++ q = sl d → q ≠ [] → rp n p = .bad p.length
  | d, n, [], q, _, _, _, _ => by cases n <;> simp [rp]
  | .none, n, a :: p, q, _, _, e, nq => by simp only [sl, List.cons_append, List.cons.injEq, List.append_eq_nil_iff] at e; exact absurd e.2.2 nq
  | .bool b, n, a :: p, q, _, _, e, nq => by simp only [sl, List.cons_append, List.cons.injEq, List.append_eq_nil_iff] at e; exact absurd e.2.2 nq
  | .int i, n, a :: p, q, h, _, e, nq => by
    simp only [sl, List.cons_append, List.cons.injEq] at e
    obtain ⟨rfl, e⟩ := e
    simp only [wf] at h
    have c := ig_cut h e nq
    cases n <;> simp [rp, c, Res.map, Res.up] <;> omega
  | .str x, n, a :: p, q, h, _, e, nq => by
    simp only [sl, List.cons_append, List.cons.injEq] at e
    obtain ⟨rfl, e⟩ := e
    simp only [wf] at h
    have c := rs_cut (x := x.cps.toList) (by rw [str_len]; exact h) e nq
    cases n <;> simp [rp, c, Res.map, Res.up] <;> omega
  | .list ds, 0, a :: p, q, h, hd, e, nq => by simp only [PyData.depth] at hd; omega
  | .list ds, n + 1, a :: p, q, h, hd, e, nq => by
    simp only [sl, List.cons_append, List.cons.injEq] at e
    obtain ⟨rfl, e⟩ := e
    simp only [wf] at h
    rcases front h.1 e nq with c | ⟨y, h1, h2, c, dr⟩
    · simp [rp, c]; omega
    · have m := mny_cut ds n y q h.2 (by simp only [PyData.depth] at hd; omega) h2 nq
      simp [rp, c, dr, m, Res.map, Res.up]
      rw [h1]; simp; omega
  | .tuple ds, 0, a :: p, q, h, hd, e, nq => by simp only [PyData.depth] at hd; omega
  | .tuple ds, n + 1, a :: p, q, h, hd, e, nq => by
    simp only [sl, List.cons_append, List.cons.injEq] at e
    obtain ⟨rfl, e⟩ := e
    simp only [wf] at h
    rcases front h.1 e nq with c | ⟨y, h1, h2, c, dr⟩
    · simp [rp, c]; omega
    · have m := mny_cut ds n y q h.2 (by simp only [PyData.depth] at hd; omega) h2 nq
      simp [rp, c, dr, m, Res.map, Res.up]
      rw [h1]; simp; omega
  | .dict D, 0, a :: p, q, h, hd, e, nq => by simp only [PyData.depth] at hd; omega
  | .dict D, n + 1, a :: p, q, h, hd, e, nq => by
    simp only [sl, List.cons_append, List.cons.injEq] at e
    obtain ⟨rfl, e⟩ := e
    simp only [wf] at h
    rcases front h.1 e nq with c | ⟨y, h1, h2, c, dr⟩
    · simp [rp, c]; omega
    · have m := mnyK_cut D n [] y q h.2 (by simp only [PyData.depth] at hd; omega) h2 nq
      simp [rp, c, dr, m, Res.map, Res.up]
      rw [h1]; simp; omega
theorem mny_cut : ∀ (ds : List PyData) (n : Nat) (p q : List Nat), wfs ds → PyData.depthAll ds ≤ n → p ++ q = sls ds → q ≠ [] → mny (rp n) ds.length p = .bad p.length
  | [], n, p, q, _, _, e, nq => by simp only [sls, List.append_eq_nil_iff] at e; exact absurd e.2 nq
  | d :: ds, n, p, q, h, hd, e, nq => by
    simp only [wfs] at h
    simp only [PyData.depthAll] at hd
    simp only [sls] at e
    rcases List.append_eq_append_iff.mp e with ⟨a', h1, h2⟩ | ⟨c', h1, h2⟩
    · by_cases na : a' = []
      · subst na
        rw [List.append_nil] at h1
        have e1 := rp_ok d n [] h.1 (by omega)
        rw [List.append_nil, h1] at e1
        have e2 := mny_cut ds n [] q h.2 (by omega) h2 nq
        simp [mny, e1, e2, Res.map, Res.up]
      · have c := rp_cut d n p a' h.1 (by omega) h1.symm na
        simp [mny, c]
    · have e1 := rp_ok d n c' h.1 (by omega)
      have e2 := mny_cut ds n c' q h.2 (by omega) h2.symm nq
      simp [mny, h1, e1, e2, Res.map, Res.up]
theorem mnyK_cut : ∀ (D : List (PyData × PyData)) (n : Nat) (seen : List (List Nat)) (p q : List Nat), wfK seen D → PyData.depthKv D ≤ n → p ++ q = slK D → q ≠ [] → mnyK (rp n) D.length seen p = .bad p.length
  | [], n, seen, p, q, _, _, e, nq => by simp only [slK, List.append_eq_nil_iff] at e; exact absurd e.2 nq
  | (k, d) :: D, n, seen, [], q, h, hd, e, nq => by simp [mnyK]
  | (k, d) :: D, n, seen, a :: p, q, h, hd, e, nq => by
    simp only [wfK] at h
    simp only [PyData.depthKv] at hd
    obtain ⟨⟨x, rfl, hx, ns, hk⟩, hw⟩ := h
    simp only [slK, sl, List.cons_append, List.cons.injEq] at e
    obtain ⟨rfl, e⟩ := e
    have hx' : x.cps.toList.length ≤ 10000 := by rw [str_len]; exact hx
    rcases List.append_eq_append_iff.mp e with ⟨a', h1, h2⟩ | ⟨c', h1, h2⟩
    · by_cases na : a' = []
      · subst na
        rw [List.append_nil] at h1
        have e0 := rs_ok hx' []
        rw [List.append_nil, h1] at e0
        have c := rp_cut d n [] (sl d) hw (by omega) rfl (by cases d <;> simp [sl])
        simp [mnyK, e0, ns, c]
        omega
      · have c := rs_cut hx' h1.symm na
        simp [mnyK, c]; omega
    · have e0 := rs_ok hx' c'
      have d1 : (strL x.cps.toList ++ c').drop (strL x.cps.toList).length = c' := List.drop_left
      rcases List.append_eq_append_iff.mp h2.symm with ⟨a2, g1, g2⟩ | ⟨c2, g1, g2⟩
      · by_cases na : a2 = []
        · subst na
          rw [List.append_nil] at g1
          have e1 := rp_ok d n [] hw (by omega)
          rw [List.append_nil, g1] at e1
          have e2 := mnyK_cut D n (seen ++ [x.cps.toList]) [] q hk (by omega) g2 nq
          have d2 : (strL x.cps.toList ++ c').drop ((strL x.cps.toList).length + c'.length) = [] := by simp
          simp [mnyK, h1, e0, ns, d1, e1, d2, e2, Res.map, Res.up]
          omega
        · have c := rp_cut d n c' a2 hw (by omega) g1.symm na
          simp [mnyK, h1, e0, ns, d1, c]
          omega
      · have e1 := rp_ok d n c2 hw (by omega)
        have e2 := mnyK_cut D n (seen ++ [x.cps.toList]) c2 q hk (by omega) g2.symm nq
        subst g1
        have d2 : (strL x.cps.toList ++ (sl d ++ c2)).drop ((strL x.cps.toList).length + (sl d).length) = c2 := by rw [← List.drop_drop, d1, List.drop_left]
        simp [mnyK, h1, e0, ns, d1, e1, d2, e2, Res.map, Res.up]
        omega
end


theorem vo_ok {d : PyData} (h : wf d) (hd : d.depth ≤ 20) : vo (sl d) = .ok d (sl d).length := by
  unfold vo
  have e := rp_ok d 20 [] h hd
  rw [List.append_nil] at e
  rw [e]
  simp
theorem vo_cut {d : PyData} (h : wf d) (hd : d.depth ≤ 20) {p q : List Nat} (e : p ++ q = sl d) (nq : q ≠ []) : vo p = .bad p.length := by
  unfold vo
  rw [rp_cut d 20 p q h hd e nq]
theorem vo_more {d : PyData} (h : wf d) (hd : d.depth ≤ 20) {q : List Nat} (nq : q ≠ []) : vo (sl d ++ q) = .bad (sl d).length := by
  unfold vo
  rw [rp_ok d 20 q h hd]
  have : 0 < q.length := List.length_pos_iff.mpr nq
  simp
  omega
/-- no text begins another one -/
theorem sl_front {d e : PyData} (h : wf d) (hd : d.depth ≤ 20) (h' : wf e) (hd' : e.depth ≤ 20) {q : List Nat} (eq : sl d ++ q = sl e) : q = [] ∧ d = e := by
  by_cases nq : q = []
  · subst nq
    rw [List.append_nil] at eq
    have a := vo_ok h hd
    have b := vo_ok h' hd'
    rw [eq, b] at a
    injection a with a1 a2
    exact ⟨rfl, a1.symm⟩
  · have a := vo_ok h hd
    rw [vo_cut h' hd' eq nq] at a
    cases a
theorem int_sign_text (i : Int) : (Str.ofString (toString i)).cps.toList = if i < 0 then 45 :: numL i.natAbs else numL i.natAbs := by
  cases i with
  | ofNat m =>
    have := TL.tl_num m
    rw [if_neg (by simp)]
    exact this
  | negSucc m =>
    rw [if_pos (Int.negSucc_lt_zero m)]
    have e : toString (Int.negSucc m) = "-" ++ toString (m + 1) := rfl
    have e2 := TL.tl_num (m + 1)
    have e3 : toString (((m + 1 : Nat)) : Int) = toString (m + 1) := rfl
    rw [e, ofS_tl, String.toList_append, List.map_append, ← ofS_tl, ← ofS_tl, ← e3]
    show [45] ++ _ = 45 :: numL (m + 1)
    rw [← e2]; rfl
theorem tl_app (x y : Str) : (x ++ y).cps.toList = x.cps.toList ++ y.cps.toList := by rw [Str.cps_append, Array.toList_append]
theorem tl_nm (n : Nat) : (num n).cps.toList = numL n := TL.tl_num n
theorem tl_c (s : String) (l : List Nat) (h : (Str.ofString s).cps.toList = l := by decide +kernel) : (Str.ofString s).cps.toList = l := h
mutual
theorem spell_sl : ∀ d : PyData, (∀ k : PyData, True) → (spell d).cps.toList = sl d
  | .none, _ => by simp only [spell, sl]; decide +kernel
  | .bool b, _ => by cases b <;> (simp only [spell, sl]; decide +kernel)
  | .int i, _ => by
    simp only [spell, sl, tl_app, int_sign_text, intL, tl_c "i" [105], tl_c ";" [59]]
    rfl
  | .str x, _ => by
    simp only [spell, sl, tl_app, tl_nm, strL, str_len, tl_c "s" [115], tl_c ":" [58]]
    simp
  | .list ds, _ => by
    simp only [spell, sl, tl_app, tl_nm, tl_c "l" [108], tl_c ":" [58], spells_sl ds]
    simp
  | .tuple ds, _ => by
    simp only [spell, sl, tl_app, tl_nm, tl_c "u" [117], tl_c ":" [58], spells_sl ds]
    simp
  | .dict D, _ => by
    simp only [spell, sl, tl_app, tl_nm, tl_c "d" [100], tl_c ":" [58], spellKv_sl D]
    simp
theorem spells_sl : ∀ ds : List PyData, (spells ds).cps.toList = sls ds
  | [] => by simp only [spells, sls]; decide +kernel
  | d :: ds => by simp only [spells, sls, tl_app, spell_sl d (fun _ => trivial), spells_sl ds]
theorem spellKv_sl : ∀ D : List (PyData × PyData), (spellKv D).cps.toList = slK D
  | [] => by simp only [spellKv, slK]; decide +kernel
  | (k, d) :: D => by simp only [spellKv, slK, tl_app, spell_sl k (fun _ => trivial), spell_sl d (fun _ => trivial), spellKv_sl D, List.append_assoc]
end


theorem str_cps {x y : Str} (h : x.cps.toList = y.cps.toList) : x = y := by rw [← str_S x, ← str_S y, h]
mutual
theorem Tr.wf {H : Hp} : ∀ {v : V} {d : PyData} {fp : List Addr}, Tr H v d fp → okB d = true → K04.wf d
  | _, _, _, .non, _ => by simp only [K04.wf]
  | _, _, _, .bl _, _ => by simp only [K04.wf]
  | _, _, _, .int i, ok => by
    simp only [okB, decide_eq_true_eq] at ok
    simp only [K04.wf]
    exact TL.numL_len (by decide) ok
  | _, _, _, .str x, ok => by simpa [okB, K04.wf] using ok
  | _, _, _, .lst _ hs _, ok => by
    simp only [okB, Bool.and_eq_true, decide_eq_true_eq] at ok
    simp only [K04.wf]
    exact ⟨ok.1, TrL.wf hs ok.2⟩
  | _, _, _, .tup _ hs, ok => by
    simp only [okB, Bool.and_eq_true, decide_eq_true_eq] at ok
    simp only [K04.wf]
    exact ⟨ok.1, TrL.wf hs ok.2⟩
  | _, _, _, .dct _ hs _ nd, ok => by
    simp only [okB, Bool.and_eq_true, decide_eq_true_eq] at ok
    simp only [K04.wf]
    exact ⟨ok.1, TrD.wf hs ok.2 [] nd (by simp)⟩
theorem TrL.wf {H : Hp} : ∀ {v : List V} {d : List PyData} {fp : List Addr}, TrL H v d fp → okAll d = true → wfs d
  | _, _, _, .nil, _ => by simp only [wfs]
  | _, _, _, .cons h hs, ok => by
    simp only [okAll, Bool.and_eq_true] at ok
    simp only [wfs]
    exact ⟨Tr.wf h ok.1, TrL.wf hs ok.2⟩
theorem TrD.wf {H : Hp} : ∀ {v : List (Key × V)} {d : List (PyData × PyData)} {fp : List Addr}, TrD H v d fp → okKv d = true → ∀ (seen : List (List Nat)), (v.map (·.1)).Nodup → (∀ z : Str, (.inr z : Key) ∈ v.map (·.1) → z.cps.toList ∉ seen) → wfK seen d
  | _, _, _, .nil, _, _, _, _ => by simp only [wfK]
  | _, _, _, .cons (x := x) h hs, ok, seen, nd, ns => by
    simp only [okKv, okB, Bool.and_eq_true, decide_eq_true_eq] at ok
    simp only [wfK]
    simp only [List.map_cons, List.nodup_cons] at nd
    refine ⟨⟨x, rfl, ok.1.1, ns x (by simp), TrD.wf hs ok.2 _ nd.2 fun z hz => ?_⟩, Tr.wf h ok.1.2⟩
    intro m
    rcases List.mem_append.mp m with m | m
    · exact ns z (List.mem_cons_of_mem _ hz) m
    · have e := str_cps (List.mem_singleton.mp m)
      rw [e] at hz
      exact nd.1 hz
end


section
variable {g : Wd} {f : Addr} {fd : FuncData}
theorem sc_same : FnScope ["one", "other"] ["one", "other"] (defScope s_same) := ⟨rfl, rfl, rfl, by decide +kernel, rfl, by decide +kernel, by decide +kernel⟩
def sp_same : Sp := S2 fun v w H Q _ => ∃ d e fp fq, Tr H v d fp ∧ Tr H w e fq ∧ okB d = true ∧ okB e = true ∧ d.depth < 8 ∧ e.depth < 8 ∧ (spell d).length ≤ 1000000 ∧ (spell e).length ≤ 1000000 ∧ ∀ H', Same H H' → Q (.bl (decide (spell d = spell e))) H'
theorem ok_same (F : Df g.K "same" "same" s_same f fd .none) (T : Txt g) (F_is_value : Kn g "is_value" 10 ["value"] [] sp_isv) (F_spelled : Kn g "spelled" 9 ["value"] [] (sp_spell 8)) : FnG g 11 f fd ["one", "other"] sp_same := by
  refine F.ok sc_same (fun vs H Q E h => S2.len h) (fun cdv A outer s H vs Q E hr h => ?_)
  obtain ⟨v, w, rfl, d, e, fp, fq, hv, hw, o1, o2, d1, d2, z1, z2, q⟩ := h
  refine ⟨_, (pss_one (ps_ret (pe_and (pe_callG F_is_value (hr.mono (by first | decide | omega)) tkD (pa_cons (pv 0) pa_nil)) (pe_and (pe_callG F_is_value (hr.mono (by first | decide | omega)) tkD (pa_cons (pv 1) pa_nil)) (pe_one (pe_cmpR (o_eq (K := g.K) hr) (pe_callG F_spelled (hr.mono (by first | decide | omega)) tkD (pa_cons (pv 0) pa_nil)) (pe_callG F_spelled (hr.mono (by first | decide | omega)) tkD (pa_cons (pv 1) pa_nil)) (nomark _))))))), ?_⟩
  walk_at "sx"
  refine ⟨_, rfl, d, fp, hv, o1, d1, fun H1 s1 => ⟨_, rfl, ?_⟩⟩
  rw [if_pos rfl]
  refine ⟨_, rfl, e, fq, hw.same s1, o2, d2, fun H2 s2 => ⟨_, rfl, ?_⟩⟩
  rw [if_pos rfl]
  refine ⟨_, rfl, d, fp, hv.same (s1.trans s2), o1, d1, z1, fun H3 s3 => ?_⟩
  refine ⟨_, rfl, e, fq, hw.same ((s1.trans s2).trans s3), o2, d2, z2, fun H4 s4 => ?_⟩
  simp only [RS.eq_ss]
  exact q _ (((s1.trans s2).trans s3).trans s4)
end


/-! what is no value -/
section
variable {g : Wd} {f : Addr} {fd : FuncData}
def sp_wrongI : Sp := S2 fun v k H Q _ => ∃ a i w n, v = .ref a ∧ H a = some (.dK [(.inl i, w)]) ∧ k = .int n ∧ n < 20 ∧ ∀ H', Same H H' → Q (.bl true) H'
theorem ok_wrongI (F : Df g.K "is_wrong_part" "is_wrong_part" s_is_wrong_part f fd .none) (T : Txt g) : FnG g 1 f fd ["value", "depth"] sp_wrongI := by
  refine F.ok sc_is_wrong_part (fun vs H Q E h => S2.len h) (fun cdv A outer s H vs Q E hr h => ?_)
  obtain ⟨_, _, rfl, a, i, w, n, rfl, h, rfl, hn, q⟩ := h
  refine ⟨_, (pss_cons (ps_if (PW.pt (pw_or (pt_cmpR op_isN (pv 0) pe_non (nomark _)) (pw_or1 (pt_val (pe_callB (c_is "bool") (by rfl) T.b_isinstance bb_isinstance (pa_cons (pv 0) (pa_cons (pe_bltn (v := .ty "bool") rfl T.b_bool bb_bool rfl) pa_nil))))))) (pss_one (ps_ret pe_bl)) pss_nil)
      (pss_cons (ps_if (pt_val (pe_callB (c_is "int") (by rfl) T.b_isinstance bb_isinstance (pa_cons (pv 0) (pa_cons (pe_bltn (v := .ty "int") rfl T.b_int bb_int rfl) pa_nil)))) (pss_one (ps_ret (pe_cmpR op_gt (pe_callB (c_len (K := g.K)) (by rfl) T.b_len bb_len (pa_cons (pe_callTy call_str_int (by rfl) T.b_str bb_str (pa_cons (pe_callB call_abs (by rfl) T.b_abs bb_abs (pa_cons (pv 0) pa_nil)) pa_nil)) pa_nil)) (e_g T.c_MOST_DIGITS) (nomark _)))) pss_nil)
      (pss_cons (ps_if (pt_val (pe_callB (c_is "str") (by rfl) T.b_isinstance bb_isinstance (pa_cons (pv 0) (pa_cons (pe_bltn (v := .ty "str") rfl T.b_str bb_str rfl) pa_nil)))) (pss_one (ps_ret (pe_cmpR op_gt (pe_callB (c_len (K := g.K)) (by rfl) T.b_len bb_len (pa_cons (pv 0) pa_nil)) (e_g T.c_MOST_ITEMS) (nomark _)))) pss_nil)
      (pss_cons (ps_if (PW.pt (pw_or (pt_not (pt_val (pe_callB (c_isT ["list", "tuple", "dict"]) (by rfl) T.b_isinstance bb_isinstance (pa_cons (pv 0) (pa_cons (pe_tup (pa_cons (pe_bltn (v := .ty "list") rfl T.b_list bb_list rfl) (pa_cons (pe_bltn (v := .ty "tuple") rfl T.b_tuple bb_tuple rfl) (pa_cons (pe_bltn (v := .ty "dict") rfl T.b_dict bb_dict rfl) pa_nil)))) pa_nil))))) (pw_or (pt_cmpR op_ge (pv 1) (e_g T.c_MOST_LEVELS) (nomark _)) (pw_or1 (pt_cmpR op_gt (pe_callB (c_len (K := g.K)) (by rfl) T.b_len bb_len (pa_cons (pv 0) pa_nil)) (e_g T.c_MOST_ITEMS) (nomark _)))))) (pss_one (ps_ret pe_bl)) pss_nil)
      (pss_one (ps_ret (pe_and (pe_callB (c_is "dict") (by rfl) T.b_isinstance bb_isinstance (pa_cons (pv 0) (pa_cons (pe_bltn (v := .ty "dict") rfl T.b_dict bb_dict rfl) pa_nil))) (pe_one (pe_not (pe_callB (c_all (K := g.K)) (by rfl) T.b_all bb_all (pa_cons (pe_lock (pe_lc (own := [("key", 2)]) (tt := tYes) rfl sc_is_wrong_part.nd (pi_keys (pv 0)) (blkOk_by (own := [("key", 2)]) (N := ["value", "depth", "key"]) (sc := defScope s_is_wrong_part) (by decide +kernel)) (fun _ _ _ _ _ => (pg_name (i := 2) sc_is_wrong_part.nd rfl (.inl rfl))) (fun _ _ _ _ _ => pts_nil) (fun _ _ _ _ _ => (pe_and (pe_callB (c_is "str") (by rfl) T.b_isinstance bb_isinstance (pa_cons (pv 2) (pa_cons (pe_bltn (v := .ty "str") rfl T.b_str bb_str rfl) pa_nil))) (pe_one (pe_cmpR op_le (pe_callB (c_len (K := g.K)) (by rfl) T.b_len bb_len (pa_cons (pv 2) pa_nil)) (e_g T.c_MOST_ITEMS) (nomark _))))))) pa_nil))))))))))), ?_⟩
  simp only [tyN_d h, tRet, tRetN, tSeq, C8.tCut, tNext, tAsg, gName, gNil, gCons, gTup, gFld, tIfS, tIf, tAndV, tOrV, tNotV, tAnd, tOr, tNot, tB, tTest, tOp, tUn, tCB, tCons, tNil, tVar, tC, tChain, tDrop, tCallG, tMethG, tMakeG, RS.tCallK, RS.tMakeK, tEqOwn, rI, rI0, rU, add_ii, add_ss, add_rr, mul_ii, mul_si, mul_ri, RS.eq_ii, RS.eq_ss, eq_bb, eq_nn, eq_sn, eq_ns, eq_in, eq_ni, eq_bn, eq_nb, eq_is, eq_si, eq_rr, ne_ii, ne_ss, ne_bb, ne_nn, ne_sn, ne_ns, ne_in, ne_ni, ne_is, ne_si, ne_rr, in_ss, in_r, nin_ss, nin_r, len_s, len_r, RS.ix_s, RS.ix_r, sl_s, sl_r, is_eq, tyN_n, tyN_b, tyN_i, tyN_s, tru_b, tru_i, tru_n, tSl, tPart, tNoPart, tPar, tPar3, tFmtZ, tFmt, tJs, tDGet, sDPut, sFld, tFld, tTup, tLst, tNever, isB,
  L2.start, List.map_cons, List.map_nil, List.length_cons, List.length_nil, Nat.reduceAdd, Nat.reduceSub, Nat.sub_self, List.replicate_zero, List.replicate_succ, List.append_nil, List.cons_append, List.nil_append, List.getElem?_cons_zero, List.getElem?_cons_succ, List.set_cons_zero, List.set_cons_succ, Option.some.injEq, exists_eq_left, exists_eq_left', exists_and_left, V.bl.injEq, V.int.injEq, V.str.injEq, V.ref.injEq, beq_self_eq_true, Bool.true_or, Bool.or_true, Bool.false_or, Bool.or_false, Bool.and_false, Bool.false_and, Bool.true_and, Bool.and_true, Bool.not_true, Bool.not_false, Bool.false_eq_true, if_true, if_false, ite_true, ite_false, true_and, and_true, and_assoc, String.reduceBEq, String.reduceEq, reduceIte, Bool.and_self, reduceCtorEq, false_and, and_false, exists_false, or_false, false_or, exists_const, iEnumS, iStr, iList, iTup, iRng1, iEnum, tFor_eq, tLc_eq, List.cons.injEq, wipe, not_true_eq_false, not_false_eq_true, upd_same, HO.ins.injEq, HO.tup.injEq, HO.lst.injEq, ofS_eq, lk_nil, lk_cons, pu_nil, pu_cons, sizeLine_eq, Nat.reduceLT, Nat.reduceLeDiff, Nat.reduceEqDiff, Nat.le_refl, decide_true, decide_false, tPr, dget_us, dput_us, vv_nil, vv_cons, RS.pk_nil, pk_one, RS.pk_cons, inr_eq, tDisp, tPairs, tBoolOwn, rBoolOwn, tBM, rAppend, ty_list, ty_str, rEqOwn, iEnumT, RS.tCallS, tM1, tDc_eq, tLock, tLockE, iKeys, tListEnum, rUpdate, tMkX0, tMkX1, tXfv, gSub, rSetL, List.getD_cons_zero, List.getD_cons_succ]
  intro p hp
  have sp := same_upd (o := HO.tup (["list", "tuple", "dict"].map V.ty)) hp
  refine isT_new (Ts := ["list", "tuple", "dict"]) (tyN_d h) hp ⟨_, rfl, ?_⟩
  rw [if_neg (by decide), if_neg (by simp; omega)]
  have h2 := sp _ _ h
  generalize upd H p (HO.tup (["list", "tuple", "dict"].map V.ty)) = G at sp h2 ⊢
  refine .inr ⟨_, h2, ?_⟩
  rw [if_neg (by simp)]
  refine ⟨_, tyN_d h2, ?_⟩
  rw [if_pos (by decide)]
  refine ⟨a, _, h2, True.intro, fun od => ⟨od, .inl ⟨_, upd_same, ?_⟩⟩⟩
  refine lc_all 1 (fun _ => .bl false) (by decide) (fun i G' lt s => ⟨s _ _ upd_same, by simpa using lt⟩) (fun G' s => ⟨s _ _ upd_same, Nat.le_refl _⟩) (fun j G' x G'' K lt s yl k => ?_) (fun L G' hL s eL => ?_)
  · obtain ⟨rfl, k0, v0, hk, rfl⟩ := yl
    have j0 : j = 0 := by omega
    subst j0
    simp only [List.getElem?_cons_zero, Option.some.injEq, Prod.mk.injEq] at hk
    obtain ⟨rfl, rfl⟩ := hk
    refine ⟨rfl, ?_⟩
    show _
    simp only [kV, tRet, tRetN, tSeq, C8.tCut, tNext, tAsg, gName, gNil, gCons, gTup, gFld, tIfS, tIf, tAndV, tOrV, tNotV, tAnd, tOr, tNot, tB, tTest, tOp, tUn, tCB, tCons, tNil, tVar, tC, tChain, tDrop, tCallG, tMethG, tMakeG, RS.tCallK, RS.tMakeK, tEqOwn, rI, rI0, rU, add_ii, add_ss, add_rr, mul_ii, mul_si, mul_ri, RS.eq_ii, RS.eq_ss, eq_bb, eq_nn, eq_sn, eq_ns, eq_in, eq_ni, eq_bn, eq_nb, eq_is, eq_si, eq_rr, ne_ii, ne_ss, ne_bb, ne_nn, ne_sn, ne_ns, ne_in, ne_ni, ne_is, ne_si, ne_rr, in_ss, in_r, nin_ss, nin_r, len_s, len_r, RS.ix_s, RS.ix_r, sl_s, sl_r, is_eq, tyN_n, tyN_b, tyN_i, tyN_s, tru_b, tru_i, tru_n, tSl, tPart, tNoPart, tPar, tPar3, tFmtZ, tFmt, tJs, tDGet, sDPut, sFld, tFld, tTup, tLst, tNever, isB,
  L2.start, List.map_cons, List.map_nil, List.length_cons, List.length_nil, Nat.reduceAdd, Nat.reduceSub, Nat.sub_self, List.replicate_zero, List.replicate_succ, List.append_nil, List.cons_append, List.nil_append, List.getElem?_cons_zero, List.getElem?_cons_succ, List.set_cons_zero, List.set_cons_succ, Option.some.injEq, exists_eq_left, exists_eq_left', exists_and_left, V.bl.injEq, V.int.injEq, V.str.injEq, V.ref.injEq, beq_self_eq_true, Bool.true_or, Bool.or_true, Bool.false_or, Bool.or_false, Bool.and_false, Bool.false_and, Bool.true_and, Bool.and_true, Bool.not_true, Bool.not_false, Bool.false_eq_true, if_true, if_false, ite_true, ite_false, true_and, and_true, and_assoc, String.reduceBEq, String.reduceEq, reduceIte, Bool.and_self, reduceCtorEq, false_and, and_false, exists_false, or_false, false_or, exists_const, iEnumS, iStr, iList, iTup, iRng1, iEnum, tFor_eq, tLc_eq, List.cons.injEq, wipe, not_true_eq_false, not_false_eq_true, upd_same, HO.ins.injEq, HO.tup.injEq, HO.lst.injEq, ofS_eq, lk_nil, lk_cons, pu_nil, pu_cons, sizeLine_eq, Nat.reduceLT, Nat.reduceLeDiff, Nat.reduceEqDiff, Nat.le_refl, decide_true, decide_false, tPr, dget_us, dput_us, vv_nil, vv_cons, RS.pk_nil, pk_one, RS.pk_cons, inr_eq, tDisp, tPairs, tBoolOwn, rBoolOwn, tBM, rAppend, ty_list, ty_str, rEqOwn, iEnumT, RS.tCallS, tM1, tDc_eq, tLock, tLockE, iKeys, tListEnum, rUpdate, tMkX0, tMkX1, tXfv, gSub, rSetL, List.getD_cons_zero, List.getD_cons_succ]
    exact k _ (Same.refl _)
  · refine ⟨s _ _ upd_same, L, [false], rfl, SqL.of ?_, ?_⟩
    · rw [upd_ne (fresh_lock hL).1, eL]; rfl
    · walk_at "sx"
      exact q _ (sp.trans (unlock h2 s))
def sp_wrongL : Sp := S2 fun v k H Q _ => ∃ a xs n, v = .ref a ∧ H a = some (.lst xs) ∧ xs.length ≤ 10000 ∧ k = .int n ∧ n < 20 ∧ ∀ H', Same H H' → Q (.bl false) H'
theorem ok_wrongL (F : Df g.K "is_wrong_part" "is_wrong_part" s_is_wrong_part f fd .none) (T : Txt g) : FnG g 1 f fd ["value", "depth"] sp_wrongL := by
  refine F.ok sc_is_wrong_part (fun vs H Q E h => S2.len h) (fun cdv A outer s H vs Q E hr h => ?_)
  obtain ⟨_, _, rfl, a, xs, n, rfl, h, hl, rfl, hn, q⟩ := h
  refine ⟨_, (pss_cons (ps_if (PW.pt (pw_or (pt_cmpR op_isN (pv 0) pe_non (nomark _)) (pw_or1 (pt_val (pe_callB (c_is "bool") (by rfl) T.b_isinstance bb_isinstance (pa_cons (pv 0) (pa_cons (pe_bltn (v := .ty "bool") rfl T.b_bool bb_bool rfl) pa_nil))))))) (pss_one (ps_ret pe_bl)) pss_nil)
      (pss_cons (ps_if (pt_val (pe_callB (c_is "int") (by rfl) T.b_isinstance bb_isinstance (pa_cons (pv 0) (pa_cons (pe_bltn (v := .ty "int") rfl T.b_int bb_int rfl) pa_nil)))) (pss_one (ps_ret (pe_cmpR op_gt (pe_callB (c_len (K := g.K)) (by rfl) T.b_len bb_len (pa_cons (pe_callTy call_str_int (by rfl) T.b_str bb_str (pa_cons (pe_callB call_abs (by rfl) T.b_abs bb_abs (pa_cons (pv 0) pa_nil)) pa_nil)) pa_nil)) (e_g T.c_MOST_DIGITS) (nomark _)))) pss_nil)
      (pss_cons (ps_if (pt_val (pe_callB (c_is "str") (by rfl) T.b_isinstance bb_isinstance (pa_cons (pv 0) (pa_cons (pe_bltn (v := .ty "str") rfl T.b_str bb_str rfl) pa_nil)))) (pss_one (ps_ret (pe_cmpR op_gt (pe_callB (c_len (K := g.K)) (by rfl) T.b_len bb_len (pa_cons (pv 0) pa_nil)) (e_g T.c_MOST_ITEMS) (nomark _)))) pss_nil)
      (pss_cons (ps_if (PW.pt (pw_or (pt_not (pt_val (pe_callB (c_isT ["list", "tuple", "dict"]) (by rfl) T.b_isinstance bb_isinstance (pa_cons (pv 0) (pa_cons (pe_tup (pa_cons (pe_bltn (v := .ty "list") rfl T.b_list bb_list rfl) (pa_cons (pe_bltn (v := .ty "tuple") rfl T.b_tuple bb_tuple rfl) (pa_cons (pe_bltn (v := .ty "dict") rfl T.b_dict bb_dict rfl) pa_nil)))) pa_nil))))) (pw_or (pt_cmpR op_ge (pv 1) (e_g T.c_MOST_LEVELS) (nomark _)) (pw_or1 (pt_cmpR op_gt (pe_callB (c_len (K := g.K)) (by rfl) T.b_len bb_len (pa_cons (pv 0) pa_nil)) (e_g T.c_MOST_ITEMS) (nomark _)))))) (pss_one (ps_ret pe_bl)) pss_nil)
      (pss_one (ps_ret (pe_and (pe_callB (c_is "dict") (by rfl) T.b_isinstance bb_isinstance (pa_cons (pv 0) (pa_cons (pe_bltn (v := .ty "dict") rfl T.b_dict bb_dict rfl) pa_nil))) (pe_one (pe_not (pe_callB (c_all (K := g.K)) (by rfl) T.b_all bb_all (pa_cons (pe_lock (pe_lc (own := [("key", 2)]) (tt := tYes) rfl sc_is_wrong_part.nd (pi_keys (pv 0)) (blkOk_by (own := [("key", 2)]) (N := ["value", "depth", "key"]) (sc := defScope s_is_wrong_part) (by decide +kernel)) (fun _ _ _ _ _ => (pg_name (i := 2) sc_is_wrong_part.nd rfl (.inl rfl))) (fun _ _ _ _ _ => pts_nil) (fun _ _ _ _ _ => (pe_and (pe_callB (c_is "str") (by rfl) T.b_isinstance bb_isinstance (pa_cons (pv 2) (pa_cons (pe_bltn (v := .ty "str") rfl T.b_str bb_str rfl) pa_nil))) (pe_one (pe_cmpR op_le (pe_callB (c_len (K := g.K)) (by rfl) T.b_len bb_len (pa_cons (pv 2) pa_nil)) (e_g T.c_MOST_ITEMS) (nomark _))))))) pa_nil))))))))))), ?_⟩
  simp only [tyN_l h, tRet, tRetN, tSeq, C8.tCut, tNext, tAsg, gName, gNil, gCons, gTup, gFld, tIfS, tIf, tAndV, tOrV, tNotV, tAnd, tOr, tNot, tB, tTest, tOp, tUn, tCB, tCons, tNil, tVar, tC, tChain, tDrop, tCallG, tMethG, tMakeG, RS.tCallK, RS.tMakeK, tEqOwn, rI, rI0, rU, add_ii, add_ss, add_rr, mul_ii, mul_si, mul_ri, RS.eq_ii, RS.eq_ss, eq_bb, eq_nn, eq_sn, eq_ns, eq_in, eq_ni, eq_bn, eq_nb, eq_is, eq_si, eq_rr, ne_ii, ne_ss, ne_bb, ne_nn, ne_sn, ne_ns, ne_in, ne_ni, ne_is, ne_si, ne_rr, in_ss, in_r, nin_ss, nin_r, len_s, len_r, RS.ix_s, RS.ix_r, sl_s, sl_r, is_eq, tyN_n, tyN_b, tyN_i, tyN_s, tru_b, tru_i, tru_n, tSl, tPart, tNoPart, tPar, tPar3, tFmtZ, tFmt, tJs, tDGet, sDPut, sFld, tFld, tTup, tLst, tNever, isB,
  L2.start, List.map_cons, List.map_nil, List.length_cons, List.length_nil, Nat.reduceAdd, Nat.reduceSub, Nat.sub_self, List.replicate_zero, List.replicate_succ, List.append_nil, List.cons_append, List.nil_append, List.getElem?_cons_zero, List.getElem?_cons_succ, List.set_cons_zero, List.set_cons_succ, Option.some.injEq, exists_eq_left, exists_eq_left', exists_and_left, V.bl.injEq, V.int.injEq, V.str.injEq, V.ref.injEq, beq_self_eq_true, Bool.true_or, Bool.or_true, Bool.false_or, Bool.or_false, Bool.and_false, Bool.false_and, Bool.true_and, Bool.and_true, Bool.not_true, Bool.not_false, Bool.false_eq_true, if_true, if_false, ite_true, ite_false, true_and, and_true, and_assoc, String.reduceBEq, String.reduceEq, reduceIte, Bool.and_self, reduceCtorEq, false_and, and_false, exists_false, or_false, false_or, exists_const, iEnumS, iStr, iList, iTup, iRng1, iEnum, tFor_eq, tLc_eq, List.cons.injEq, wipe, not_true_eq_false, not_false_eq_true, upd_same, HO.ins.injEq, HO.tup.injEq, HO.lst.injEq, ofS_eq, lk_nil, lk_cons, pu_nil, pu_cons, sizeLine_eq, Nat.reduceLT, Nat.reduceLeDiff, Nat.reduceEqDiff, Nat.le_refl, decide_true, decide_false, tPr, dget_us, dput_us, vv_nil, vv_cons, RS.pk_nil, pk_one, RS.pk_cons, inr_eq, tDisp, tPairs, tBoolOwn, rBoolOwn, tBM, rAppend, ty_list, ty_str, rEqOwn, iEnumT, RS.tCallS, tM1, tDc_eq, tLock, tLockE, iKeys, tListEnum, rUpdate, tMkX0, tMkX1, tXfv, gSub, rSetL, List.getD_cons_zero, List.getD_cons_succ]
  intro p hp
  have sp := same_upd (o := HO.tup (["list", "tuple", "dict"].map V.ty)) hp
  refine isT_new (Ts := ["list", "tuple", "dict"]) (tyN_l h) hp ⟨_, rfl, ?_⟩
  rw [if_neg (by decide), if_neg (by simp; omega)]
  refine .inl ⟨xs, .inl (SqL.of (sp _ _ h)), ?_⟩
  rw [if_neg (by simp; omega)]
  refine ⟨_, tyN_l (sp _ _ h), ?_⟩
  rw [if_neg (by decide)]
  exact q _ sp
def sp_itemsL : Sp := S1 fun v H Q _ => ∃ a xs, v = .ref a ∧ H a = some (.lst xs) ∧ ∀ p ts H', Same H H' → H p = none → H' p = some (.lst ts) → Prd H' ts (idx xs) → Q (.ref p) H'
theorem ok_itemsL (F : Df g.K "items_of" "items_of" s_items_of f fd .none) (T : Txt g) : FnG g 1 f fd ["value"] sp_itemsL := by
  refine F.ok sc_items_of (fun vs H Q E h => S1.len h) (fun cdv A outer s H vs Q E hr h => ?_)
  obtain ⟨_, rfl, a, xs, rfl, h, q⟩ := h
  refine ⟨_, (pss_cons (ps_if (pt_val (pe_callB (c_is "dict") (by rfl) T.b_isinstance bb_isinstance (pa_cons (pv 0) (pa_cons (pe_bltn (v := .ty "dict") rfl T.b_dict bb_dict rfl) pa_nil)))) (pss_one (ps_ret (pe_lc (own := [("key", 1)]) (tt := tYes) rfl sc_items_of.nd (i_list (K := g.K) (pv 0)) (blkOk_by (own := [("key", 1)]) (N := ["value", "key"]) (sc := defScope s_items_of) (by decide +kernel)) (fun _ _ _ _ _ => (pg_name (i := 1) sc_items_of.nd rfl (.inl rfl))) (fun _ _ _ _ _ => pts_nil) (fun _ _ _ _ _ => (pe_tup (pa_cons (pv 1) (pa_cons (pe_ix (o_ix (K := g.K)) (pv 0) (pv 1) (fun _ _ => rfl)) pa_nil))))))) pss_nil)
      (pss_one (ps_ret (pe_ifExp (pt_val (pe_callB (c_isT ["list", "tuple"]) (by rfl) T.b_isinstance bb_isinstance (pa_cons (pv 0) (pa_cons (pe_tup (pa_cons (pe_bltn (v := .ty "list") rfl T.b_list bb_list rfl) (pa_cons (pe_bltn (v := .ty "tuple") rfl T.b_tuple bb_tuple rfl) pa_nil))) pa_nil)))) (pe_listEnum (K := g.K) T.b_list T.b_enumerate (pa_cons (pv 0) pa_nil)) (pe_lst pa_nil))))), ?_⟩
  simp only [tyN_l h, tRet, tRetN, tSeq, C8.tCut, tNext, tAsg, gName, gNil, gCons, gTup, gFld, tIfS, tIf, tAndV, tOrV, tNotV, tAnd, tOr, tNot, tB, tTest, tOp, tUn, tCB, tCons, tNil, tVar, tC, tChain, tDrop, tCallG, tMethG, tMakeG, RS.tCallK, RS.tMakeK, tEqOwn, rI, rI0, rU, add_ii, add_ss, add_rr, mul_ii, mul_si, mul_ri, RS.eq_ii, RS.eq_ss, eq_bb, eq_nn, eq_sn, eq_ns, eq_in, eq_ni, eq_bn, eq_nb, eq_is, eq_si, eq_rr, ne_ii, ne_ss, ne_bb, ne_nn, ne_sn, ne_ns, ne_in, ne_ni, ne_is, ne_si, ne_rr, in_ss, in_r, nin_ss, nin_r, len_s, len_r, RS.ix_s, RS.ix_r, sl_s, sl_r, is_eq, tyN_n, tyN_b, tyN_i, tyN_s, tru_b, tru_i, tru_n, tSl, tPart, tNoPart, tPar, tPar3, tFmtZ, tFmt, tJs, tDGet, sDPut, sFld, tFld, tTup, tLst, tNever, isB,
  L2.start, List.map_cons, List.map_nil, List.length_cons, List.length_nil, Nat.reduceAdd, Nat.reduceSub, Nat.sub_self, List.replicate_zero, List.replicate_succ, List.append_nil, List.cons_append, List.nil_append, List.getElem?_cons_zero, List.getElem?_cons_succ, List.set_cons_zero, List.set_cons_succ, Option.some.injEq, exists_eq_left, exists_eq_left', exists_and_left, V.bl.injEq, V.int.injEq, V.str.injEq, V.ref.injEq, beq_self_eq_true, Bool.true_or, Bool.or_true, Bool.false_or, Bool.or_false, Bool.and_false, Bool.false_and, Bool.true_and, Bool.and_true, Bool.not_true, Bool.not_false, Bool.false_eq_true, if_true, if_false, ite_true, ite_false, true_and, and_true, and_assoc, String.reduceBEq, String.reduceEq, reduceIte, Bool.and_self, reduceCtorEq, false_and, and_false, exists_false, or_false, false_or, exists_const, iEnumS, iStr, iList, iTup, iRng1, iEnum, tFor_eq, tLc_eq, List.cons.injEq, wipe, not_true_eq_false, not_false_eq_true, upd_same, HO.ins.injEq, HO.tup.injEq, HO.lst.injEq, ofS_eq, lk_nil, lk_cons, pu_nil, pu_cons, sizeLine_eq, Nat.reduceLT, Nat.reduceLeDiff, Nat.reduceEqDiff, Nat.le_refl, decide_true, decide_false, tPr, dget_us, dput_us, vv_nil, vv_cons, RS.pk_nil, pk_one, RS.pk_cons, inr_eq, tDisp, tPairs, tBoolOwn, rBoolOwn, tBM, rAppend, ty_list, ty_str, rEqOwn, iEnumT, RS.tCallS, tM1, tDc_eq, tLock, tLockE, iKeys, tListEnum, rUpdate, tMkX0, tMkX1, tXfv, gSub, rSetL, List.getD_cons_zero, List.getD_cons_succ]
  intro p hp
  refine isT_new (Ts := ["list", "tuple"]) (tyN_l h) hp ⟨_, rfl, ?_⟩
  rw [if_pos (by decide)]
  have sp := same_upd (o := HO.tup (["list", "tuple"].map V.ty)) hp
  refine ⟨xs, .inl (SqL.of (sp _ _ h)), fun p2 ts H' s2 n2 e2 l2 k2 => q p2 _ H' (sp.trans s2) (fresh_lock n2).2 e2 ⟨by rw [List.length_map, l2, idx_len], fun j s' x hj => ?_⟩⟩
  obtain ⟨rfl, hx⟩ := idx_get hj
  obtain ⟨t, t1, _, t3⟩ := k2 j x hx
  exact ⟨t, by simp [t1], t3⟩
/-- a dict with a number as its key -/
def sp_pathI : Sp := S2 fun v p H Q _ => ∃ a i w b ps, v = .ref a ∧ H a = some (.dK [(.inl i, w)]) ∧ p = .ref b ∧ H b = some (.tup ps) ∧ ps.length < 20 ∧ ∀ H', Same H H' → Q (.ref b) H'
theorem ok_pathI {spI spP : Sp} (F : Df g.K "wrong_path" "wrong_path" s_wrong_path f fd .none) (T : Txt g) (F_is_wrong_part : Kn g "is_wrong_part" 1 ["value", "depth"] [] sp_wrongI) (F_items_of : Kn g "items_of" 1 ["value"] [] spI) (F_wrong_path : Kn g "wrong_path" 1 ["value", "path"] [] spP) : FnG g 2 f fd ["value", "path"] sp_pathI := by
  refine F.ok sc_wrong_path (fun vs H Q E h => S2.len h) (fun cdv A outer s H vs Q E hr h => ?_)
  obtain ⟨_, _, rfl, a, i, w, b, ps, rfl, ha, rfl, hb, hl, q⟩ := h
  refine ⟨_, (pss_mid (ps_if (pt_val (pe_callG F_is_wrong_part (hr.mono (by first | decide | omega)) tkD (pa_cons (pv 0) (pa_cons (pe_callB (c_len (K := g.K)) (by rfl) T.b_len bb_len (pa_cons (pv 1) pa_nil)) pa_nil)))) (pss_one (ps_ret (pv 1))) pss_nil)
      (pss_cons (ps_for psD rfl (i_list (K := g.K) (pe_callG F_items_of (hr.mono (by first | decide | omega)) tkD (pa_cons (pv 0) pa_nil))) (g_tup (K := g.K) (n := 2) (pgs_cons (pg_name (i := 2) sc_wrong_path.nd rfl (.inl rfl)) (pgs_cons (pg_name (i := 3) sc_wrong_path.nd rfl (.inl rfl)) pgs_nil))) (pss_cons (ps_set (i := 4) sc_wrong_path.nd rfl (Or.inl rfl) (pe_callG F_wrong_path (hr.mono (by first | decide | omega)) tkD (pa_cons (pv 3) (pa_cons (pe_op (o_add (K := g.K)) (pv 1) (pe_tup (pa_cons (pv 2) pa_nil))) pa_nil))))
      (pss_one (ps_if (pt_cmpR op_notN (pv 4) pe_non (nomark _)) (pss_one (ps_ret (pv 4))) pss_nil))))
      (pss_one (ps_ret pe_non)))), ?_⟩
  refine mid_at (fun _ _ => False) ?_ (fun _ _ z => z.elim)
  walk_at "sx"
  refine .inl ⟨ps, .inr (SqT.of hb), _, _, rfl, a, i, w, _, rfl, ha, rfl, by omega, fun H' s' => ?_⟩
  walk_at "sx"
  exact q _ s'
def sp_pathL : Sp := S2 fun v p H Q _ => ∃ a a2 i w b, v = .ref a ∧ H a = some (.lst [.ref a2]) ∧ H a2 = some (.dK [(.inl i, w)]) ∧ p = .ref b ∧ H b = some (.tup []) ∧ ∀ c H', Same H H' → Q (.ref c) H'
theorem ok_pathL (F : Df g.K "wrong_path" "wrong_path" s_wrong_path f fd .none) (T : Txt g) (F_is_wrong_part : Kn g "is_wrong_part" 1 ["value", "depth"] [] sp_wrongL) (F_items_of : Kn g "items_of" 1 ["value"] [] sp_itemsL) (F_wrong_path : Kn g "wrong_path" 2 ["value", "path"] [] sp_pathI) : FnG g 3 f fd ["value", "path"] sp_pathL := by
  refine F.ok sc_wrong_path (fun vs H Q E h => S2.len h) (fun cdv A outer s H vs Q E hr h => ?_)
  obtain ⟨_, _, rfl, a, a2, i, w, b, rfl, ha, ha2, rfl, hb, q⟩ := h
  refine ⟨_, (pss_mid (ps_if (pt_val (pe_callG F_is_wrong_part (hr.mono (by first | decide | omega)) tkD (pa_cons (pv 0) (pa_cons (pe_callB (c_len (K := g.K)) (by rfl) T.b_len bb_len (pa_cons (pv 1) pa_nil)) pa_nil)))) (pss_one (ps_ret (pv 1))) pss_nil)
      (pss_cons (ps_for psD rfl (i_list (K := g.K) (pe_callG F_items_of (hr.mono (by first | decide | omega)) tkD (pa_cons (pv 0) pa_nil))) (g_tup (K := g.K) (n := 2) (pgs_cons (pg_name (i := 2) sc_wrong_path.nd rfl (.inl rfl)) (pgs_cons (pg_name (i := 3) sc_wrong_path.nd rfl (.inl rfl)) pgs_nil))) (pss_cons (ps_set (i := 4) sc_wrong_path.nd rfl (Or.inl rfl) (pe_callG F_wrong_path (hr.mono (by first | decide | omega)) tkD (pa_cons (pv 3) (pa_cons (pe_op (o_add (K := g.K)) (pv 1) (pe_tup (pa_cons (pv 2) pa_nil))) pa_nil))))
      (pss_one (ps_if (pt_cmpR op_notN (pv 4) pe_non (nomark _)) (pss_one (ps_ret (pv 4))) pss_nil))))
      (pss_one (ps_ret pe_non)))), ?_⟩
  refine mid_one [some (.ref a), some (.ref b), none, none, none] (fun H1 => Same H H1) ?_ fun H1 s1 => ?_
  · walk_at "sx"
    refine .inl ⟨[], .inr (SqT.of hb), _, _, rfl, a, _, _, rfl, ha, by simp, rfl, by simp, fun H' s' => ?_⟩
    walk_at "sx"
    exact s'
  walk_at "sx"
  refine ⟨_, rfl, a, _, rfl, s1 _ _ ha, fun L ts H2 s2 _ eL pr => ?_⟩
  walk_at "sx"
  refine ⟨⟨_, SqL.of eL⟩, ?_⟩
  have s12 := s1.trans s2
  have l1 : ts.length = 1 := by rw [pr.1]; rfl
  refine for_by ts.length (fun i σ H' => i = 0 ∧ (∃ v2 v3 v4, σ = [some (.ref a), some (.ref b), v2, v3, v4]) ∧ Same H2 H') ⟨rfl, ⟨_, _, _, rfl⟩, Same.refl _⟩ (fun i σ H3 lt P => ⟨_, ts[i], SqL.of (P.2.2 _ _ eL), List.getElem?_eq_getElem lt⟩) (fun σ H3 P => by have := P.1; omega) (fun i σ H3 x H4 lt P yl => ?_) (fun σ H3 P => by have := P.1; omega)
  obtain ⟨rfl, ⟨v2, v3, v4, rfl⟩, s3⟩ := P
  obtain ⟨rfl, hx⟩ := yl
  have hx := hx _ (SqL.of (s3 _ _ eL))
  obtain ⟨t, ht, et⟩ := pr.2 0 (.int ((0 : Nat) : Int)) (.ref a2) rfl
  rw [ht] at hx
  obtain rfl : V.ref t = x := Option.some.inj hx
  have et3 := s3 _ _ et
  walk_at "sx"
  refine ⟨_, SqT.of et3, rfl, ?_⟩
  walk_at "sx"
  intro u hu
  have su := same_upd (o := HO.tup [.int ((0 : Nat) : Int)]) hu
  have a3 := su _ _ (s3 _ _ (s12 _ _ hb))
  have s13 := s12.trans s3
  have go : ∀ (c : Addr) (G : Hp), Same (upd H4 u (HO.tup [.int ((0 : Nat) : Int)])) G → G c = some (.tup [.int ((0 : Nat) : Int)]) → sp_pathI [.ref a2, .ref c] G (fun x H1 => if (!decide (x = V.non)) = true then Q x H1 else 0 + 1 = 0 ∧ (∃ x_1, some x = x_1) ∧ Same H2 H1) fun c d H' => E c d H' := fun c G sG hc =>
    ⟨_, _, rfl, a2, i, w, c, _, rfl, sG _ _ (su _ _ (s13 _ _ ha2)), rfl, hc, by simp, fun H5 s5 => by show (if _ then _ else _); rw [if_pos (by simp)]; exact q _ _ (((s13.trans su).trans sG).trans s5)⟩
  refine .inr ⟨b, u, [], [.int ((0 : Nat) : Int)], rfl, rfl, SqT.of a3, SqT.of upd_same, by rw [sizeLine_eq]; simp, fun e => ?_, (fun _ e => nomatch e), fun _ _ b hb => ?_⟩
  · have := go u _ (Same.refl _) upd_same
    simpa using this
  · have := go b _ (same_upd hb) upd_same
    simpa using this
/-- no value: a dict with a number as its key, or a list of one -/
def NoV (H : Hp) (v : V) : Prop := (∃ a i w, v = .ref a ∧ H a = some (.dK [(.inl i, w)])) ∨ ∃ a a2 i w, v = .ref a ∧ H a = some (.lst [.ref a2]) ∧ H a2 = some (.dK [(.inl i, w)])
theorem NoV.same {H H' : Hp} {v : V} (s : Same H H') (h : NoV H v) : NoV H' v := by
  rcases h with ⟨a, i, w, e, h⟩ | ⟨a, a2, i, w, e, h, h2⟩
  · exact .inl ⟨a, i, w, e, s _ _ h⟩
  · exact .inr ⟨a, a2, i, w, e, s _ _ h, s _ _ h2⟩
def sp_isvN : Sp := S1 fun v H Q _ => NoV H v ∧ ∀ H', Same H H' → Q (.bl false) H'
theorem ok_isvN (F : Df g.K "is_value" "is_value" s_is_value f fd .none) (T : Txt g) (F_wrong_path : Kn g "wrong_path" 3 ["value", "path"] [] (SpOr sp_pathI sp_pathL)) : FnG g 4 f fd ["value"] sp_isvN := by
  refine F.ok sc_is_value (fun vs H Q E h => S1.len h) (fun cdv A outer s H vs Q E hr h => ?_)
  obtain ⟨v, rfl, hv, q⟩ := h
  refine ⟨_, (pss_one (ps_ret (pe_cmpR op_isN (pe_callG F_wrong_path (hr.mono (by first | decide | omega)) tkD (pa_cons (pv 0) (pa_cons (pe_tup pa_nil) pa_nil))) pe_non (nomark _)))), ?_⟩
  walk_at "sx"
  intro p hp
  have sp := same_upd (o := HO.tup []) hp
  rcases hv.same sp with ⟨a, i, w, rfl, h⟩ | ⟨a, a2, i, w, rfl, h, h2⟩
  · refine .inl ⟨_, _, rfl, a, i, w, p, _, rfl, h, rfl, upd_same, by simp, fun H' s' => ?_⟩
    walk_at "sx"
    exact q _ (sp.trans s')
  · refine .inr ⟨_, _, rfl, a, a2, i, w, p, rfl, h, h2, rfl, upd_same, fun c H' s' => ?_⟩
    walk_at "sx"
    exact q _ (sp.trans s')
def sp_sameN : Sp := S2 fun v w H Q _ => (NoV H v ∨ ((∃ d fp, Tr H v d fp ∧ okB d = true ∧ d.depth < 8) ∧ NoV H w)) ∧ ∀ H', Same H H' → Q (.bl false) H'
theorem ok_sameN (F : Df g.K "same" "same" s_same f fd .none) (T : Txt g) (F_is_value : Kn g "is_value" 10 ["value"] [] (SpOr sp_isv sp_isvN)) (F_spelled : Kn g "spelled" 9 ["value"] [] (sp_spell 8)) : FnG g 11 f fd ["one", "other"] sp_sameN := by
  refine F.ok sc_same (fun vs H Q E h => S2.len h) (fun cdv A outer s H vs Q E hr h => ?_)
  obtain ⟨v, w, rfl, hv, q⟩ := h
  refine ⟨_, (pss_one (ps_ret (pe_and (pe_callG F_is_value (hr.mono (by first | decide | omega)) tkD (pa_cons (pv 0) pa_nil)) (pe_and (pe_callG F_is_value (hr.mono (by first | decide | omega)) tkD (pa_cons (pv 1) pa_nil)) (pe_one (pe_cmpR (o_eq (K := g.K) hr) (pe_callG F_spelled (hr.mono (by first | decide | omega)) tkD (pa_cons (pv 0) pa_nil)) (pe_callG F_spelled (hr.mono (by first | decide | omega)) tkD (pa_cons (pv 1) pa_nil)) (nomark _))))))), ?_⟩
  walk_at "sx"
  rcases hv with hv | ⟨⟨d, fp, tv, ok, dp⟩, hw⟩
  · refine .inr ⟨_, rfl, hv, fun H' s' => ⟨_, rfl, ?_⟩⟩
    rw [if_neg (by simp)]
    exact q _ s'
  · refine .inl ⟨_, rfl, d, fp, tv, ok, dp, fun H1 s1 => ⟨_, rfl, ?_⟩⟩
    rw [if_pos rfl]
    refine .inr ⟨_, rfl, hw.same s1, fun H2 s2 => ⟨_, rfl, ?_⟩⟩
    rw [if_neg (by simp)]
    exact q _ (s1.trans s2)
end


/-! repr tells values apart -/
open PySem.Builtin.Str (reprChar)
/-- what stands behind the backslash -/
def bk (c : Nat) : Nat := if c = 110 then 10 else if c = 114 then 13 else if c = 116 then 9 else c
def hx (c : Nat) : Nat := if c < 58 then c - 48 else c - 87
def formB (q c : Nat) : Bool := match reprChar q c with
  | [a] => a == c && a != 92 && a != q
  | [a, b] => a == 92 && b != 120 && bk b == c
  | [a, b, h, l] => a == 92 && b == 120 && 16 * hx h + hx l == c
  | _ => false
theorem form_tab : ((List.range 128).all (formB 34) && (List.range 128).all (formB 39)) = true := by decide +kernel
theorem formB_of {q c : Nat} (hq : q = 34 ∨ q = 39) (hc : c < 128) : formB q c = true := by
  have h := form_tab
  simp only [Bool.and_eq_true, List.all_eq_true, List.mem_range] at h
  rcases hq with rfl | rfl
  · exact h.1 c hc
  · exact h.2 c hc
/-- a sign as repr writes it -/
theorem form {q c : Nat} (hq : q = 34 ∨ q = 39) (hc : c < 128) : (reprChar q c = [c] ∧ c ≠ 92 ∧ c ≠ q) ∨ (∃ b, reprChar q c = [92, b] ∧ b ≠ 120 ∧ bk b = c) ∨ ∃ h l, reprChar q c = [92, 120, h, l] ∧ 16 * hx h + hx l = c := by
  have f := formB_of hq hc
  unfold formB at f
  split at f
  · rename_i a e
    simp only [Bool.and_eq_true, beq_iff_eq, bne_iff_ne] at f
    obtain ⟨⟨rfl, f2⟩, f3⟩ := f
    exact .inl ⟨e, f2, f3⟩
  · rename_i a b e
    simp only [Bool.and_eq_true, beq_iff_eq, bne_iff_ne] at f
    obtain ⟨⟨rfl, f2⟩, f3⟩ := f
    exact .inr (.inl ⟨b, e, f2, f3⟩)
  · rename_i a b h l e
    simp only [Bool.and_eq_true, beq_iff_eq] at f
    obtain ⟨⟨rfl, rfl⟩, f3⟩ := f
    exact .inr (.inr ⟨h, l, e, f3⟩)
  · cases f
theorem sign_inj {q a b : Nat} (hq : q = 34 ∨ q = 39) (ha : a < 128) (hb : b < 128) {r r' : List Nat} (e : reprChar q a ++ r = reprChar q b ++ r') : a = b := by
  rcases form hq ha with ⟨e1, n1, _⟩ | ⟨x, e1, n1, b1⟩ | ⟨h, l, e1, b1⟩ <;> rcases form hq hb with ⟨e2, n2, _⟩ | ⟨y, e2, n2, b2⟩ | ⟨h', l', e2, b2⟩ <;> rw [e1, e2] at e <;> simp only [List.cons_append, List.nil_append, List.cons.injEq] at e
  · exact e.1
  · exact absurd e.1 n1
  · exact absurd e.1 n1
  · exact absurd e.1.symm n2
  · rw [← b1, ← b2, e.2.1]
  · exact absurd e.2.1 n1
  · exact absurd e.1.symm n2
  · exact absurd e.2.1.symm n2
  · rw [← b1, ← b2, e.2.2.1, e.2.2.2.1]
theorem sign_end {q a : Nat} (hq : q = 34 ∨ q = 39) (ha : a < 128) {r r' : List Nat} (e : reprChar q a ++ r = q :: r') : False := by
  have q92 : (92 : Nat) ≠ q := by rcases hq with rfl | rfl <;> decide
  rcases form hq ha with ⟨e1, _, n1⟩ | ⟨x, e1, n1, b1⟩ | ⟨h, l, e1, b1⟩ <;> rw [e1] at e <;> simp only [List.cons_append, List.nil_append, List.cons.injEq] at e
  · exact n1 e.1
  · exact q92 e.1
  · exact q92 e.1
theorem code_inj {q : Nat} (hq : q = 34 ∨ q = 39) : ∀ (x y : List Nat) {r r' : List Nat}, (∀ c ∈ x, c < 128) → (∀ c ∈ y, c < 128) → x.flatMap (reprChar q) ++ q :: r = y.flatMap (reprChar q) ++ q :: r' → x = y ∧ r = r'
  | [], [], r, r', _, _, e => by simpa using e
  | [], b :: y, r, r', _, hy, e => by
    simp only [List.flatMap_nil, List.nil_append, List.flatMap_cons, List.append_assoc] at e
    exact (sign_end hq (hy b (List.mem_cons_self ..)) e.symm).elim
  | a :: x, [], r, r', hx, _, e => by
    simp only [List.flatMap_nil, List.nil_append, List.flatMap_cons, List.append_assoc] at e
    exact (sign_end hq (hx a (List.mem_cons_self ..)) e).elim
  | a :: x, b :: y, r, r', hx, hy, e => by
    simp only [List.flatMap_cons, List.append_assoc] at e
    have ab := sign_inj hq (hx a (List.mem_cons_self ..)) (hy b (List.mem_cons_self ..)) e
    subst ab
    have := code_inj hq x y (fun c hc => hx c (List.mem_cons_of_mem _ hc)) (fun c hc => hy c (List.mem_cons_of_mem _ hc)) (List.append_cancel_left e)
    exact ⟨by rw [this.1], this.2⟩
theorem fold_repr (q : Nat) : ∀ (l : List Nat) (acc : Array Nat), (l.foldl (fun out c => out ++ (reprChar q c).toArray) acc).toList = acc.toList ++ l.flatMap (reprChar q)
  | [], acc => by simp
  | c :: l, acc => by
    rw [List.foldl_cons, fold_repr q l]
    simp
theorem repr_list (x : Str) : (reprText x).cps.toList = reprQuote x :: (x.cps.toList.flatMap (reprChar (reprQuote x)) ++ [reprQuote x]) := by
  unfold reprText
  rw [Array.toList_push, ← Array.foldl_toList, fold_repr]
  simp
theorem quote_of (x : Str) : reprQuote x = 34 ∨ reprQuote x = 39 := by unfold reprQuote; split <;> simp
theorem str_inj {x y : Str} (hx : asc x = true) (hy : asc y = true) {r r' : List Nat} (e : (reprText x).cps.toList ++ r = (reprText y).cps.toList ++ r') : x = y ∧ r = r' := by
  rw [repr_list, repr_list] at e
  simp only [List.cons_append, List.append_assoc, List.nil_append, List.cons.injEq] at e
  obtain ⟨eq, e⟩ := e
  rw [← eq] at e
  have h : ∀ z : Str, asc z = true → ∀ c ∈ z.cps.toList, c < 128 := fun z hz c hc => by simpa using List.all_eq_true.mp hz c hc
  have := code_inj (quote_of x) _ _ (h x hx) (h y hy) e
  exact ⟨str_cps this.1, this.2⟩
/-! ### the signs of what is shown -/
def shL (d : PyData) : List Nat := d.shown.cps.toList
/-- items, each behind a comma -/
def tls : List PyData → List Nat
  | [] => []
  | d :: ds => 44 :: 32 :: (shL d ++ tls ds)
def kvL (k d : PyData) : List Nat := shL k ++ 58 :: 32 :: shL d
def tlK : List (PyData × PyData) → List Nat
  | [] => []
  | (k, d) :: D => 44 :: 32 :: (kvL k d ++ tlK D)
theorem sgn (s : String) (l : List Nat) (h : (Str.ofString s).cps.toList = l := by decide +kernel) : (Str.ofString s).cps.toList = l := h
theorem join_tls : ∀ (d : PyData) (ds : List PyData), (Str.join ", " (PyData.shownAll (d :: ds))).cps.toList = shL d ++ tls ds
  | d, [] => by simp [PyData.shownAll, Str.join, tls, shL]
  | d, e :: ds => by
    have ih := join_tls e ds
    rw [PyData.shownAll_cons] at ih
    rw [PyData.shownAll_cons, PyData.shownAll_cons]
    simp only [Str.join, tl_app]
    rw [ih]
    simp only [tls, shL, List.append_assoc, sgn ", " [44, 32]]
    rfl
theorem join_tlK : ∀ (k d : PyData) (D : List (PyData × PyData)), (Str.join ", " (PyData.shownKv ((k, d) :: D))).cps.toList = kvL k d ++ tlK D
  | k, d, [] => by simp [PyData.shownKv, Str.join, tlK, kvL, shL, tl_app, sgn ": " [58, 32]]
  | k, d, (k', e) :: D => by
    have ih := join_tlK k' e D
    rw [PyData.shownKv_cons] at ih
    rw [PyData.shownKv_cons, PyData.shownKv_cons]
    simp only [Str.join, tl_app] at ih ⊢
    rw [ih]
    simp only [tlK, kvL, shL, List.append_assoc, sgn ", " [44, 32], sgn ": " [58, 32]]
    rfl
def clT (n : Nat) : List Nat := if n = 1 then [44, 41] else [41]
theorem shL_list0 : shL (.list []) = [91, 93] := by unfold shL; rw [PyData.shown_list]; simp only [PyData.shownAll]; decide +kernel
theorem shL_list (d : PyData) (ds : List PyData) : shL (.list (d :: ds)) = 91 :: (shL d ++ (tls ds ++ [93])) := by
  rw [shL, PyData.shown_list, tl_app, tl_app, join_tls]
  simp [sgn "[" [91], sgn "]" [93]]
theorem shL_tup0 : shL (.tuple []) = [40, 41] := by unfold shL; rw [PyData.shown_tuple]; simp only [PyData.shownAll]; decide +kernel
theorem shL_tup (d : PyData) (ds : List PyData) : shL (.tuple (d :: ds)) = 40 :: (shL d ++ (tls ds ++ clT (ds.length + 1))) := by
  rw [shL, PyData.shown_tuple, tl_app, tl_app, join_tls]
  have e : (Str.ofString (if (d :: ds).length == 1 then ",)" else ")" : String)).cps.toList = clT (ds.length + 1) := by
    unfold clT
    by_cases h : ds.length + 1 = 1
    · rw [if_pos h, if_pos (by simpa using h)]; decide +kernel
    · rw [if_neg h, if_neg (by simpa using h)]; decide +kernel
  rw [e]
  simp [sgn "(" [40]]
theorem shL_dict0 : shL (.dict []) = [123, 125] := by unfold shL; rw [PyData.shown_dict]; simp only [PyData.shownKv]; decide +kernel
theorem shL_dict (k d : PyData) (D : List (PyData × PyData)) : shL (.dict ((k, d) :: D)) = 123 :: (kvL k d ++ (tlK D ++ [125])) := by
  rw [shL, PyData.shown_dict, tl_app, tl_app, join_tlK]
  simp [sgn "{" [123], sgn "}" [125]]
theorem shL_none : shL .none = [78, 111, 110, 101] := by unfold shL; decide +kernel
theorem shL_bool (b : Bool) : shL (.bool b) = if b then [84, 114, 117, 101] else [70, 97, 108, 115, 101] := by unfold shL; cases b <;> decide +kernel
theorem shL_str (x : Str) : shL (.str x) = reprQuote x :: (x.cps.toList.flatMap (reprChar (reprQuote x)) ++ [reprQuote x]) := by unfold shL; rw [PyData.shown_str, repr_list]
def sgI (i : Int) : List Nat := if i < 0 then 45 :: numL i.natAbs else numL i.natAbs
theorem shL_int (i : Int) : shL (.int i) = sgI i := by unfold shL; rw [PyData.shown_int]; exact int_sign_text i
/-! ### the kind by the first sign -/
def fst1 : PyData → Nat → Bool
  | .none, c => c == 78
  | .bool true, c => c == 84
  | .bool false, c => c == 70
  | .int _, c => c == 45 || (decide (48 ≤ c) && decide (c ≤ 57))
  | .str _, c => c == 34 || c == 39
  | .list _, c => c == 91
  | .tuple _, c => c == 40
  | .dict _, c => c == 123
theorem numL_dig (n : Nat) : ∀ c ∈ numL n, 48 ≤ c ∧ c ≤ 57 := fun c hc => by
  have := numL_digits n c hc
  simpa using this
theorem head_of (d : PyData) : ∃ c t, shL d = c :: t ∧ fst1 d c = true := by
  cases d with
  | none => exact ⟨_, _, shL_none, rfl⟩
  | bool b => rw [shL_bool]; cases b <;> exact ⟨_, _, rfl, rfl⟩
  | int i =>
    rw [shL_int]
    unfold sgI
    split
    · exact ⟨_, _, rfl, by simp [fst1]⟩
    · obtain ⟨c, r, e, _⟩ := num_first i.natAbs
      rw [e]
      have := numL_dig i.natAbs c (by rw [e]; exact List.mem_cons_self ..)
      exact ⟨c, r, rfl, by simp [fst1, this]⟩
  | str x => rw [shL_str]; exact ⟨_, _, rfl, by rcases quote_of x with h | h <;> simp [fst1, h]⟩
  | list ds => cases ds with
    | nil => exact ⟨_, _, shL_list0, rfl⟩
    | cons d ds => exact ⟨_, _, shL_list d ds, rfl⟩
  | tuple ds => cases ds with
    | nil => exact ⟨_, _, shL_tup0, rfl⟩
    | cons d ds => exact ⟨_, _, shL_tup d ds, rfl⟩
  | dict D => cases D with
    | nil => exact ⟨_, _, shL_dict0, rfl⟩
    | cons p D => obtain ⟨k, d⟩ := p; exact ⟨_, _, shL_dict k d D, rfl⟩
def kindC : PyData → Nat
  | .none => 0
  | .bool true => 1
  | .bool false => 2
  | .int _ => 3
  | .str _ => 4
  | .list _ => 5
  | .tuple _ => 6
  | .dict _ => 7
theorem fst1_kind {d e : PyData} {c : Nat} (h1 : fst1 d c = true) (h2 : fst1 e c = true) : kindC d = kindC e := by
  cases d with
  | bool b => cases b <;> (cases e with
    | bool b' => cases b' <;> simp [fst1, kindC] at h1 h2 ⊢ <;> omega
    | _ => simp [fst1, kindC] at h1 h2 ⊢ <;> omega)
  | _ => cases e with
    | bool b' => cases b' <;> simp [fst1, kindC] at h1 h2 ⊢ <;> omega
    | _ => simp [fst1, kindC] at h1 h2 ⊢ <;> omega
theorem same_kind {d e : PyData} {r r' : List Nat} (h : shL d ++ r = shL e ++ r') : kindC d = kindC e := by
  obtain ⟨c, t, e1, f1⟩ := head_of d
  obtain ⟨c', t', e2, f2⟩ := head_of e
  rw [e1, e2] at h
  simp only [List.cons_append, List.cons.injEq] at h
  rw [← h.1] at f2
  exact fst1_kind f1 f2
/-- what may stand behind a value -/
def Stp (r : List Nat) : Prop := ∀ c t, r = c :: t → c = 44 ∨ c = 93 ∨ c = 41 ∨ c = 125
/-- what may stand behind all items -/
def Cls' (r : List Nat) : Prop := ∃ c t, r = c :: t ∧ (c = 93 ∨ c = 41 ∨ c = 125 ∨ (c = 44 ∧ ∃ t', t = 41 :: t'))
theorem Cls'.stp {r : List Nat} (h : Cls' r) : Stp r := by
  obtain ⟨c, t, rfl, h⟩ := h
  intro c' t' e
  cases e
  rcases h with h | h | h | h
  · exact .inr (.inl h)
  · exact .inr (.inr (.inl h))
  · exact .inr (.inr (.inr h))
  · exact .inl h.1
theorem stp_tls {ds : List PyData} {r : List Nat} (h : Cls' r) : Stp (tls ds ++ r) := by
  cases ds with
  | nil => exact h.stp
  | cons d ds => intro c t e; simp only [tls, List.cons_append, List.cons.injEq] at e; exact .inl e.1.symm
theorem stp_tlK {ds : List (PyData × PyData)} {r : List Nat} (h : Cls' r) : Stp (tlK ds ++ r) := by
  cases ds with
  | nil => exact h.stp
  | cons d ds => obtain ⟨k, d⟩ := d; intro c t e; simp only [tlK, List.cons_append, List.cons.injEq] at e; exact .inl e.1.symm
theorem no_item {r t : List Nat} (h : Cls' r) : r ≠ 44 :: 32 :: t := fun e => by
  obtain ⟨c, t', rfl, h⟩ := h
  simp only [List.cons.injEq] at e
  obtain ⟨rfl, rfl⟩ := e
  rcases h with h | h | h | ⟨_, t', h⟩
  · cases h
  · cases h
  · cases h
  · cases h
theorem run_split {a b r r' : List Nat} (ha : ∀ c ∈ a, 48 ≤ c ∧ c ≤ 57) (hb : ∀ c ∈ b, 48 ≤ c ∧ c ≤ 57) (h : Stp r) (h' : Stp r') (e : a ++ r = b ++ r') : a = b ∧ r = r' := by
  induction a generalizing b with
  | nil => cases b with
    | nil => exact ⟨rfl, e⟩
    | cons c b =>
      have := hb c (List.mem_cons_self ..)
      have := h c _ e
      omega
  | cons c a ih => cases b with
    | nil =>
      have := ha c (List.mem_cons_self ..)
      have := h' c _ e.symm
      omega
    | cons c' b =>
      simp only [List.cons_append, List.cons.injEq] at e
      have := ih (fun x hx => ha x (List.mem_cons_of_mem _ hx)) (b := b) (fun x hx => hb x (List.mem_cons_of_mem _ hx)) e.2
      exact ⟨by rw [e.1, this.1], this.2⟩
theorem int_inj {i j : Int} (hi : i.natAbs < 10 ^ 100) (hj : j.natAbs < 10 ^ 100) {r r' : List Nat} (h : Stp r) (h' : Stp r') (e : sgI i ++ r = sgI j ++ r') : i = j ∧ r = r' := by
  have li := TL.numL_len (by decide) hi
  have lj := TL.numL_len (by decide) hj
  have fin : ∀ (s : sgI i = sgI j), i = j := fun s => by
    have a := ig_ok li []
    have b := ig_ok lj []
    have e : intL i = intL j := by unfold intL; unfold sgI at s; rw [s]
    rw [e, b] at a
    injection a with a1 a2
    exact a1.symm
  by_cases ni : i < 0 <;> by_cases nj : j < 0
  · have e' := e
    unfold sgI at e'
    rw [if_pos ni, if_pos nj] at e'
    simp only [List.cons_append, List.cons.injEq, true_and] at e'
    have := run_split (numL_dig _) (numL_dig _) h h' e'
    exact ⟨fin (by unfold sgI; rw [if_pos ni, if_pos nj, this.1]), this.2⟩
  · exfalso
    unfold sgI at e
    rw [if_pos ni, if_neg nj] at e
    obtain ⟨c, t, e2, n⟩ := num_first j.natAbs
    rw [e2] at e
    simp only [List.cons_append, List.cons.injEq] at e
    exact n e.1.symm
  · exfalso
    unfold sgI at e
    rw [if_neg ni, if_pos nj] at e
    obtain ⟨c, t, e2, n⟩ := num_first i.natAbs
    rw [e2] at e
    simp only [List.cons_append, List.cons.injEq] at e
    exact n e.1
  · have e' := e
    unfold sgI at e'
    rw [if_neg ni, if_neg nj] at e'
    have := run_split (numL_dig _) (numL_dig _) h h' e'
    exact ⟨fin (by unfold sgI; rw [if_neg ni, if_neg nj, this.1]), this.2⟩
theorem cls_93 (r : List Nat) : Cls' ([93] ++ r) := ⟨_, _, rfl, .inl rfl⟩
theorem cls_125 (r : List Nat) : Cls' ([125] ++ r) := ⟨_, _, rfl, .inr (.inr (.inl rfl))⟩
theorem cls_T (n : Nat) (r : List Nat) : Cls' (clT n ++ r) := by
  unfold clT
  split
  · exact ⟨_, _, rfl, .inr (.inr (.inr ⟨rfl, _, rfl⟩))⟩
  · exact ⟨_, _, rfl, .inr (.inl rfl)⟩
theorem no_open {d : PyData} {r t : List Nat} {c : Nat} (h : shL d ++ r = c :: t) (n : c = 93 ∨ c = 41 ∨ c = 125) : False := by
  obtain ⟨a, s, e, f⟩ := head_of d
  rw [e] at h
  simp only [List.cons_append, List.cons.injEq] at h
  rw [h.1] at f
  cases d with
  | bool b => cases b <;> simp [fst1] at f <;> omega
  | _ => simp [fst1] at f <;> omega
mutual
theorem sh_inj : ∀ (d e : PyData) {r r' : List Nat}, gB d = true → gB e = true → Stp r → Stp r' → shL d ++ r = shL e ++ r' → d = e ∧ r = r'
  | .none, e, r, r', _, _, _, _, h => by
    have k := same_kind h
    cases e with
    | none => exact ⟨rfl, List.append_cancel_left h⟩
    | bool b => cases b <;> cases k
    | _ => cases k
  | .bool b, e, r, r', _, _, _, _, h => by
    have k := same_kind h
    cases e with
    | bool b' =>
      have : b = b' := by cases b <;> cases b' <;> first | rfl | cases k
      subst this
      exact ⟨rfl, List.append_cancel_left h⟩
    | _ => cases b <;> cases k
  | .int i, e, r, r', g1, g2, s1, s2, h => by
    have k := same_kind h
    cases e with
    | int j =>
      simp only [gB, decide_eq_true_eq] at g1 g2
      rw [shL_int, shL_int] at h
      have := int_inj g1 g2 s1 s2 h
      exact ⟨by rw [this.1], this.2⟩
    | bool b => cases b <;> cases k
    | _ => cases k
  | .str x, e, r, r', g1, g2, s1, s2, h => by
    have k := same_kind h
    cases e with
    | str y =>
      simp only [gB, Bool.and_eq_true] at g1 g2
      have := str_inj g1.2 g2.2 (r := r) (r' := r') (by unfold shL at h; rw [PyData.shown_str, PyData.shown_str] at h; exact h)
      exact ⟨by rw [this.1], this.2⟩
    | bool b => cases b <;> cases k
    | _ => cases k
  | .list ds, e, r, r', g1, g2, s1, s2, h => by
    have k := same_kind h
    cases e with
    | list es =>
      simp only [gB, Bool.and_eq_true] at g1 g2
      cases ds with
      | nil => cases es with
        | nil => exact ⟨rfl, List.append_cancel_left h⟩
        | cons e es =>
          rw [shL_list0, shL_list] at h
          simp only [List.cons_append, List.nil_append, List.append_assoc, List.cons.injEq, true_and] at h
          exact (no_open h.symm (.inl rfl)).elim
      | cons d ds => cases es with
        | nil =>
          rw [shL_list0, shL_list] at h
          simp only [List.cons_append, List.nil_append, List.append_assoc, List.cons.injEq, true_and] at h
          exact (no_open h (.inl rfl)).elim
        | cons e es =>
          rw [shL_list, shL_list] at h
          simp only [List.cons_append, List.append_assoc, List.cons.injEq, true_and] at h
          simp only [gAll, Bool.and_eq_true] at g1 g2
          have a := sh_inj d e g1.2.1 g2.2.1 (stp_tls (cls_93 r)) (stp_tls (cls_93 r')) h
          have b := tls_inj ds es g1.2.2 g2.2.2 (cls_93 r) (cls_93 r') a.2
          exact ⟨by rw [a.1, b.1], List.append_cancel_left b.2⟩
    | bool b => cases b <;> cases k
    | _ => cases k
  | .tuple ds, e, r, r', g1, g2, s1, s2, h => by
    have k := same_kind h
    cases e with
    | tuple es =>
      simp only [gB, Bool.and_eq_true] at g1 g2
      cases ds with
      | nil => cases es with
        | nil => exact ⟨rfl, List.append_cancel_left h⟩
        | cons e es =>
          rw [shL_tup0, shL_tup] at h
          simp only [List.cons_append, List.nil_append, List.append_assoc, List.cons.injEq, true_and] at h
          exact (no_open h.symm (.inr (.inl rfl))).elim
      | cons d ds => cases es with
        | nil =>
          rw [shL_tup0, shL_tup] at h
          simp only [List.cons_append, List.nil_append, List.append_assoc, List.cons.injEq, true_and] at h
          exact (no_open h (.inr (.inl rfl))).elim
        | cons e es =>
          rw [shL_tup, shL_tup] at h
          simp only [List.cons_append, List.append_assoc, List.cons.injEq, true_and] at h
          simp only [gAll, Bool.and_eq_true] at g1 g2
          have a := sh_inj d e g1.2.1 g2.2.1 (stp_tls (cls_T _ r)) (stp_tls (cls_T _ r')) h
          have b := tls_inj ds es g1.2.2 g2.2.2 (cls_T _ r) (cls_T _ r') a.2
          have c := b.2
          rw [b.1] at c
          exact ⟨by rw [a.1, b.1], List.append_cancel_left c⟩
    | bool b => cases b <;> cases k
    | _ => cases k
  | .dict D, e, r, r', g1, g2, s1, s2, h => by
    have k := same_kind h
    cases e with
    | dict E =>
      simp only [gB, Bool.and_eq_true] at g1 g2
      cases D with
      | nil => cases E with
        | nil => exact ⟨rfl, List.append_cancel_left h⟩
        | cons p E =>
          obtain ⟨k', e⟩ := p
          rw [shL_dict0, shL_dict] at h
          simp only [kvL, List.cons_append, List.nil_append, List.append_assoc, List.cons.injEq, true_and] at h
          exact (no_open h.symm (.inr (.inr rfl))).elim
      | cons p D =>
        obtain ⟨k1, d⟩ := p
        cases E with
        | nil =>
          rw [shL_dict0, shL_dict] at h
          simp only [kvL, List.cons_append, List.nil_append, List.append_assoc, List.cons.injEq, true_and] at h
          exact (no_open h (.inr (.inr rfl))).elim
        | cons p E =>
          obtain ⟨k2, e⟩ := p
          rw [shL_dict, shL_dict] at h
          simp only [kvL, List.cons_append, List.append_assoc, List.cons.injEq, true_and] at h
          simp only [gKv, Bool.and_eq_true] at g1 g2
          cases k1 with
          | str x => cases k2 with
            | str y =>
              have g3 := g1.2.1.1
              have g4 := g2.2.1.1
              simp only [gkeyB, Bool.and_eq_true] at g3 g4
              have c := str_inj g3.2 g4.2 (by unfold shL at h; rw [PyData.shown_str, PyData.shown_str] at h; exact h)
              have c2 := c.2
              simp only [List.cons.injEq, true_and] at c2
              have a := sh_inj d e g1.2.1.2 g2.2.1.2 (stp_tlK (cls_125 r)) (stp_tlK (cls_125 r')) c2
              have b := tlK_inj D E g1.2.2 g2.2.2 (cls_125 r) (cls_125 r') a.2
              exact ⟨by rw [a.1, b.1, c.1], List.append_cancel_left b.2⟩
            | _ => cases g2.2.1.1
          | _ => cases g1.2.1.1
    | bool b => cases b <;> cases k
    | _ => cases k
theorem tls_inj : ∀ (ds es : List PyData) {r r' : List Nat}, gAll ds = true → gAll es = true → Cls' r → Cls' r' → tls ds ++ r = tls es ++ r' → ds = es ∧ r = r'
  | [], [], r, r', _, _, _, _, h => ⟨rfl, h⟩
  | [], e :: es, r, r', _, _, c1, _, h => by
    simp only [tls, List.nil_append, List.cons_append] at h
    exact (no_item c1 h).elim
  | d :: ds, [], r, r', _, _, _, c2, h => by
    simp only [tls, List.nil_append, List.cons_append] at h
    exact (no_item c2 h.symm).elim
  | d :: ds, e :: es, r, r', g1, g2, c1, c2, h => by
    simp only [tls, List.cons_append, List.append_assoc, List.cons.injEq, true_and] at h
    simp only [gAll, Bool.and_eq_true] at g1 g2
    have a := sh_inj d e g1.1 g2.1 (stp_tls c1) (stp_tls c2) h
    have b := tls_inj ds es g1.2 g2.2 c1 c2 a.2
    exact ⟨by rw [a.1, b.1], b.2⟩
theorem tlK_inj : ∀ (D E : List (PyData × PyData)) {r r' : List Nat}, gKv D = true → gKv E = true → Cls' r → Cls' r' → tlK D ++ r = tlK E ++ r' → D = E ∧ r = r'
  | [], [], r, r', _, _, _, _, h => ⟨rfl, h⟩
  | [], (k, e) :: es, r, r', _, _, c1, _, h => by
    simp only [tlK, List.nil_append, List.cons_append] at h
    exact (no_item c1 h).elim
  | (k, d) :: ds, [], r, r', _, _, _, c2, h => by
    simp only [tlK, List.nil_append, List.cons_append] at h
    exact (no_item c2 h.symm).elim
  | (k1, d) :: D, (k2, e) :: E, r, r', g1, g2, c1, c2, h => by
    simp only [tlK, kvL, List.cons_append, List.append_assoc, List.cons.injEq, true_and] at h
    simp only [gKv, Bool.and_eq_true] at g1 g2
    cases k1 with
    | str x => cases k2 with
      | str y =>
        have g3 := g1.1.1
        have g4 := g2.1.1
        simp only [gkeyB, Bool.and_eq_true] at g3 g4
        have c := str_inj g3.2 g4.2 (by unfold shL at h; rw [PyData.shown_str, PyData.shown_str] at h; exact h)
        have c3 := c.2
        simp only [List.cons.injEq, true_and] at c3
        have a := sh_inj d e g1.1.2 g2.1.2 (stp_tlK c1) (stp_tlK c2) c3
        have b := tlK_inj D E g1.2 g2.2 c1 c2 a.2
        exact ⟨by rw [a.1, b.1, c.1], b.2⟩
      | _ => cases g2.1.1
    | _ => cases g1.1.1
end
/-- two values are shown alike only if they are the same -/
theorem shown_inj {d e : PyData} (h1 : gB d = true) (h2 : gB e = true) (h : d.shown = e.shown) : d = e :=
  (sh_inj d e (r := []) (r' := []) h1 h2 (fun _ _ z => by cases z) (fun _ _ z => by cases z) (by simp only [shL, h])).1


/-! a value with a part put anew -/
theorem back {H G : Hp} {c : Addr} (s : Same H G) (h : G c = none) : H c = none := by
  cases e : H c with
  | none => rfl
  | some o => rw [s _ _ e] at h; cases h
def pd : V → PyData
  | .int i => .int i
  | .str x => .str x
  | _ => .none
theorem asc_ok {x : Str} (h : asc x = true) : PyData.strOk x = true := by
  unfold PyData.strOk
  unfold asc at h
  rw [← Array.all_toList]
  refine List.all_eq_true.mpr fun c hc => ?_
  have := List.all_eq_true.mp h c hc
  simp at this ⊢; omega
theorem smAll_get : ∀ {ds : List PyData} {i : Nat} {d : PyData}, smAll ds = true → ds[i]? = some d → smB d = true
  | x :: xs, 0, d, h, e => by
    cases e
    simp only [smAll, Bool.and_eq_true] at h
    exact h.1
  | x :: xs, i + 1, d, h, e => by
    simp only [smAll, Bool.and_eq_true] at h
    exact smAll_get h.2 (by simpa using e)
  | [], _, _, _, e => by simp at e
theorem smKv_get : ∀ {D : List (PyData × PyData)} {i : Nat} {k d : PyData}, smKv D = true → D[i]? = some (k, d) → keyB k = true ∧ smB d = true
  | (x, y) :: xs, 0, k, d, h, e => by
    cases e
    simp only [smKv, Bool.and_eq_true] at h
    exact h.1
  | (x, y) :: xs, i + 1, k, d, h, e => by
    simp only [smKv, Bool.and_eq_true] at h
    exact smKv_get h.2 (by simpa using e)
  | [], _, _, _, _, e => by simp at e
theorem Step.sm {d e : PyData} {s : V} (h : Step d s e) (sm : smB d = true) : smB e = true ∧ (pd s).canLay0 = true ∧ (pd s).depth = 0 ∧ ∀ K H, Dp K H s (pd s) := by
  cases h with
  | lst h =>
    simp only [smB, Bool.and_eq_true] at sm
    exact ⟨smAll_get sm.2 h, rfl, rfl, fun K H => .int _⟩
  | tup h =>
    simp only [smB, Bool.and_eq_true] at sm
    exact ⟨smAll_get sm.2 h, rfl, rfl, fun K H => .int _⟩
  | dct h =>
    simp only [smB, Bool.and_eq_true] at sm
    have k := smKv_get sm.2 h
    simp only [keyB, Bool.and_eq_true] at k
    exact ⟨k.2, by simp only [pd, PyData.canLay0]; exact asc_ok k.1.2, rfl, fun K H => .str _⟩
theorem Atp.pd {d e : PyData} {ps : List V} (h : Atp d ps e) (sm : smB d = true) : PyData.canLayAll0 (ps.map pd) = true ∧ PyData.depthAll (ps.map pd) = 0 ∧ ∀ K H, DpAll K H ps (ps.map pd) := by
  induction h with
  | nil d => exact ⟨rfl, rfl, fun _ _ => .nil⟩
  | cons h _ ih =>
    obtain ⟨s1, s2, s3, s4⟩ := h.sm sm
    obtain ⟨i1, i2, i3⟩ := ih s1
    refine ⟨by simp [PyData.canLayAll0, s2, i1], by simp [PyData.depthAll, s3, i2], fun K H => .cons (s4 K H) (i3 K H)⟩
/-- path == () -/
theorem eq_nil {K : PySem.W.Frag} {H : Hp} {Q : VK} {a p : Addr} {ps : List V} {d e : PyData} (h : H a = some (.tup ps)) (at_ : Atp d ps e) (sm : smB d = true) (hp : H p = some (.tup [])) (q : Q (.bl ps.isEmpty) H) : rEqD K (.ref a) (.ref p) H Q := by
  obtain ⟨i1, i2, i3⟩ := at_.pd sm
  refine ⟨.tuple (ps.map pd), .tuple [], .tup (SqT.of h) (i3 K H), .tup (SqT.of hp) .nil, ?_, by decide, ?_⟩
  · simp only [SeqAt.shaped, PyData.canLay0, PyData.depth, i1, i2]; decide
  · have e : PyData.eqv (.tuple (ps.map pd)) (.tuple []) = ps.isEmpty := by cases ps <;> rfl
    rw [e]; exact q
/-- the items with one of them replaced -/
theorem TrD.put {H : Hp} {x : Str} {v : V} {d : PyData} {f : List Addr} (h : Tr H v d f) : ∀ {kvs : List (Key × V)} {D : List (PyData × PyData)} {fp : List Addr}, TrD H kvs D fp → ∃ D' f', TrD H (kvs.map (fun kv => if kv.1 = .inr x then (kv.1, v) else kv)) D' f' ∧ D'.length = D.length ∧ (smKv D = true → smB d = true → smKv D' = true) ∧ PyData.depthKv D' ≤ max (PyData.depthKv D) d.depth ∧ ∀ c ∈ f', c ∈ fp ∨ c ∈ f
  | _, _, _, .nil => ⟨[], [], .nil, rfl, fun h _ => h, Nat.zero_le _, by simp⟩
  | _, _, _, .cons (x := y) (v := w) (d := e) (kvs := kvs) (D := D) (f1 := f1) (f2 := f2) h1 hs => by
    obtain ⟨D', f', t, l, sm, dp, sub⟩ := TrD.put (x := x) h hs
    by_cases e1 : y = x
    · subst e1
      refine ⟨(.str y, d) :: D', f ++ f', by rw [List.map_cons, if_pos rfl]; exact .cons h t, by simp [l], fun a b => ?_, ?_, fun c hc => ?_⟩
      · simp only [smKv, Bool.and_eq_true] at a ⊢
        exact ⟨⟨a.1.1, b⟩, sm a.2 b⟩
      · simp only [PyData.depthKv] at dp ⊢; omega
      · rcases List.mem_append.mp hc with z | z
        · exact .inr z
        · exact (sub c z).imp (List.mem_append_right _) id
    · have n1 : ¬ ((.inr y : Key) = .inr x) := fun z => e1 (Sum.inr.inj z)
      refine ⟨(.str y, e) :: D', f1 ++ f', by rw [List.map_cons, if_neg n1]; exact .cons h1 t, by simp [l], fun a b => ?_, ?_, fun c hc => ?_⟩
      · simp only [smKv, Bool.and_eq_true] at a ⊢
        exact ⟨a.1, sm a.2 b⟩
      · simp only [PyData.depthKv] at dp ⊢; omega
      · rcases List.mem_append.mp hc with z | z
        · exact .inl (List.mem_append_left _ z)
        · exact (sub c z).imp (List.mem_append_right _) id
theorem keys_put {kvs : List (Key × V)} {x : Key} {v : V} : (kvs.map (fun kv => if kv.1 = x then (kv.1, v) else kv)).map (·.1) = kvs.map (·.1) := by
  rw [List.map_map]
  refine List.map_congr_left fun kv _ => ?_
  simp only [Function.comp]
  split <;> rfl
theorem TrL.snoc' {H : Hp} {v : V} {d : PyData} {f : List Addr} (h : Tr H v d f) : ∀ {vs : List V} {ds : List PyData} {fp : List Addr}, TrL H vs ds fp → TrL H (vs ++ [v]) (ds ++ [d]) (fp ++ f)
  | _, _, _, .nil => by have := TrL.cons h TrL.nil; simpa using this
  | _, _, _, .cons h1 hs => by have := TrL.cons h1 (TrL.snoc' h hs); simpa using this
/-- path[1:] -/
theorem cut_path {K : PySem.W.Frag} {H : Hp} {Q : VK} {a : Addr} {s : V} {ps : List V} (h : H a = some (.tup (s :: ps))) (q : ∀ p, H p = none → Q (.ref p) (upd H p (.tup ps))) : rSlU K (.ref a) (some 1) none H Q := by
  refine .inr ⟨a, _, rfl, SqT.of h, fun w => ?_, fun _ p hp => ?_⟩
  · have := w.1
    simp [HT.sIx] at this
  · rw [cutV_from _ (by decide)]
    exact q p hp
def tePut (K : PySem.W.Frag) (sp : Sp) : TE := tIf (tTest (tOp (rEqU K) (tVar 5) (tOp (rIxU K) (tVar 1) (tC (V.int 0))))) (tCallG sp [] (fun _ _ _ _ => False) (tCons (tVar 6) (tCons (tSl (rSlU K) (tVar 1) (tPart (tC (V.int 1))) tNoPart) (tCons (tVar 2) tNil)))) (tVar 6)
section
variable {g : Wd} {f : Addr} {fd : FuncData}
theorem sc_l_put : FnScope ["_law_worth", "_law_path", "_law_part", "_law_found", "_law_items", "_law_at", "_law_item"] ["_law_worth", "_law_path", "_law_part"] (defScope s_l_put) := ⟨rfl, rfl, rfl, by decide +kernel, rfl, by decide +kernel, by decide +kernel⟩
def sp_put (n : Nat) : Sp := S3 fun w p z H Q _ => ∃ d fp pa ps x e fq, Tr H w d fp ∧ smB d = true ∧ p = .ref pa ∧ H pa = some (.tup ps) ∧ Atp d ps x ∧ Tr H z e fq ∧ smB e = true ∧ ps.length < n ∧
  ∀ v' d' f' H', Same H H' → Tr H' v' d' f' → smB d' = true → d'.depth ≤ d.depth + e.depth → (∀ c ∈ f', c ∈ fp ∨ c ∈ fq ∨ H c = none) → Q v' H'
theorem put_lc {n : Nat} {K : PySem.W.Frag} {J : It} {H G : Hp} {a pa : Addr} {z : V} {xs : List V} {ds : List PyData} {fp fq : List Addr} {j : Nat} {ps : List V} {e e1 x : PyData} {Qf : VK} (hs : TrL H xs ds fp) (sG : Same H G)
    (hgo : ∀ i G', i < xs.length → Same G G' → J.go i G') (hst : ∀ G', Same G G' → J.stop xs.length G') (hy : ∀ i G' v G'', i < xs.length → Same G G' → J.yld i G' v G'' → ∃ T w, v = .ref T ∧ G' T = none ∧ G'' = upd G' T (.tup [.int (i : Nat), w]) ∧ xs[i]? = some w)
    (hpa : H pa = some (.tup (.int (j : Nat) :: ps))) (hj : ds[j]? = some e1) (at1 : Atp e1 ps x) (hz : Tr H z e fq) (hse : smB e = true) (hsm : smAll ds = true) (hl : ds.length ≤ 3) (hn : ps.length < n)
    (hd : ∀ D acc ds' fa G', G D = none → Same G G' → G' D = some (.lst acc) → TrL G' acc ds' fa → smAll ds' = true → ds'.length = ds.length → PyData.depthAll ds' ≤ PyData.depthAll ds + e.depth → (∀ c ∈ fa, c ∈ fp ∨ c ∈ fq ∨ H c = none) → D ∉ fa → Qf (.ref D) G') :
    LcB J (gTup K 2 (gCons (gName 5) (gCons (gName 6) gNil))) tYes (tePut K (sp_put n)) [5, 6] [some (.ref a), some (.ref pa), some z, none, none, none, none] G Qf := by
  have lx := hs.len
  have nH : ∀ {c}, G c = none → H c = none := fun {c} hc => by
    cases e : H c with
    | none => rfl
    | some o => rw [sG _ _ e] at hc; cases hc
  refine lc_invA xs.length (fun D i acc G' => Same G G' ∧ ∃ ds' fa, TrL G' acc ds' fa ∧ smAll ds' = true ∧ ds'.length = i ∧ PyData.depthAll ds' ≤ PyData.depthAll ds + e.depth ∧ (∀ c ∈ fa, c ∈ fp ∨ c ∈ fq ∨ H c = none) ∧ D ∉ fa) (by rw [sizeLine_eq]; omega) (fun D hD => ⟨same_upd hD, [], [], .nil, rfl, rfl, Nat.zero_le _, by simp, by simp⟩) (fun D i acc G' hD lt P => hgo i G' lt P.1) (fun D acc G' hD P => hst G' P.1) (fun D i acc G' v G'' Kk hD lt la P eD yl k => ?_) (fun D acc G' hD P eD => ?_)
  · obtain ⟨sm, ds', fa, tl, sa, ld, dd, sub, nD⟩ := P
    obtain ⟨T, w, rfl, hT, rfl, hw⟩ := hy i G' v G'' lt sm yl
    obtain ⟨w', dw, fw, h1, h2, tw, subw⟩ := hs.get lt
    rw [hw] at h1
    cases h1
    have sT := same_upd (o := HO.tup [.int (i : Nat), w]) hT
    have s1 := (sG.trans sm).trans sT
    have eD1 := sT _ _ eD
    have tl1 := tl.same sT
    have nDH := nH hD
    have smw := smAll_get hsm h2
    have fin : ∀ v' d' f' G2, Same (upd G' T (.tup [.int (i : Nat), w])) G2 → Tr G2 v' d' f' → smB d' = true → d'.depth ≤ PyData.depthAll ds + e.depth → (∀ c ∈ f', c ∈ fp ∨ c ∈ fq ∨ upd G' T (.tup [.int (i : Nat), w]) c = none) → Kk v' G2 := fun v' d' f' G2 s2 t2 sm2 d2 sub2 => by
      have eD2 := s2 _ _ eD1
      have nD2 : D ∉ f' := fun z => by
        rcases sub2 D z with y | y | y
        · rcases hs.there D y with ⟨_, y⟩ | ⟨_, y⟩ <;> (rw [nDH] at y; cases y)
        · rcases hz.there D y with ⟨_, y⟩ | ⟨_, y⟩ <;> (rw [nDH] at y; cases y)
        · rw [eD1] at y; cases y
      have nt : ∀ ys, G2 D ≠ some (.tup ys) := fun ys z => by rw [eD2] at z; cases z
      have kD : ∀ c o, c ≠ D → G2 c = some o → upd G2 D (.lst (acc ++ [v'])) c = some o := fun c o n z => by rw [upd_ne n]; exact z
      refine k _ _ eD2 ⟨fun b o y => ?_, ds' ++ [d'], fa ++ f', TrL.snoc' (t2.but nt kD nD2) ((tl1.same s2).but nt kD nD), smAll_app sa (by simp [smAll, sm2]), by simp [ld], ?_, fun c hc => ?_, fun y => (List.mem_append.mp y).elim nD nD2⟩
      · have bD : b ≠ D := fun y' => by rw [y', hD] at y; cases y
        rw [upd_ne bD]; exact s2 _ _ (sT _ _ (sm _ _ y))
      · rw [depthAll_app]; simp only [PyData.depthAll]; omega
      · rcases List.mem_append.mp hc with y | y
        · exact sub c y
        · rcases sub2 c y with y | y | y
          · exact .inl y
          · exact .inr (.inl y)
          · refine .inr (.inr ?_)
            cases e0 : H c with
            | none => rfl
            | some o => rw [s1 _ _ e0] at y; cases y
    walk_at "sx"
    refine ⟨_, SqT.of upd_same, rfl, ?_⟩
    unfold tePut
    walk_at "sx"
    generalize upd G' T (.tup [.int (i : Nat), w]) = G1 at sT s1 eD1 tl1 fin ⊢
    refine ⟨_, .inr (SqT.of (s1 _ _ hpa)), _, atI_nat (j := 0) rfl, ?_⟩
    simp only [RS.eq_ii]
    refine ⟨_, rfl, ?_⟩
    by_cases ij : i = j
    · subst ij
      rw [if_pos (by simp)]
      rw [hj] at h2
      cases h2
      refine cut_path (s1 _ _ hpa) fun p hp => ?_
      have sp := same_upd (o := HO.tup ps) hp
      have s1p := s1.trans sp
      refine ⟨_, _, _, rfl, _, fw, p, ps, x, e, fq, tw.same s1p, smw, rfl, upd_same, at1, hz.same s1p, hse, hn, fun v' d' f' G2 s2 t2 sm2 d2 sub2 => fin v' d' f' G2 (sp.trans s2) t2 sm2 ?_ fun c hc => ?_⟩
      · have := depth_all hj; omega
      · rcases sub2 c hc with y | y | y
        · exact .inl (subw c y)
        · exact .inr (.inl y)
        · exact .inr (.inr (fresh_lock y).2)
    · rw [if_neg (by simp; omega)]
      exact fin w dw fw G1 (Same.refl _) (tw.same s1) smw (by have := depth_all h2; omega) fun c hc => .inl (subw c hc)
  · obtain ⟨sm, ds', fa, tl, sa, ld, dd, sub, nD⟩ := P
    exact hd D acc ds' fa G' hD sm eD tl sa (by omega) dd sub nD
theorem ok_put (n : Nat) (F : Df g.K "_law_put" "_law_put" s_l_put f fd .none) (T : Txt g) (F_l_put : Kn g "_law_put" n ["_law_worth", "_law_path", "_law_part"] [] (sp_put n)) : FnG g (n + 1) f fd ["_law_worth", "_law_path", "_law_part"] (sp_put (n + 1)) := by
  refine F.ok sc_l_put (fun vs H Q E h => S3.len h) (fun cdv A outer s H vs Q E hr h => ?_)
  obtain ⟨w, _, z, rfl, d, fp, pa, ps, x, e, fq, hw, hsm, rfl, hpa, at_, hz, hse, hn, q⟩ := h
  refine ⟨_, (pss_mid (ps_if (pt_cmpR (o_eq (K := g.K) hr) (pv 1) (pe_tup pa_nil) (nomark _)) (pss_one (ps_ret (pv 2))) pss_nil)
      (pss_mid (ps_if (pt_val (pe_callB (c_is "dict") (by rfl) T.b_isinstance bb_isinstance (pa_cons (pv 0) (pa_cons (pe_bltn (v := .ty "dict") rfl T.b_dict bb_dict rfl) pa_nil)))) (pss_mid (ps_set (i := 3) sc_l_put.nd rfl (Or.inl rfl) (pe_callTy call_dictD (by rfl) T.b_dict bb_dict (pa_cons (pv 0) pa_nil)))
      (pss_mid (ps_dput (hu_of hr.room) (pv 3) (pe_ix (o_ix (K := g.K)) (pv 1) pe_int (fun _ _ => rfl)) (pe_callG F_l_put (hr.mono (by first | decide | omega)) tkD (pa_cons (pe_dget (hu_of hr.room) (pv 0) (pe_ix (o_ix (K := g.K)) (pv 1) pe_int (fun _ _ => rfl)) (fun _ _ => rfl)) (pa_cons (pe_slice (o_sl (K := g.K)) (pv 1) (po_some pe_int) po_none) (pa_cons (pv 2) pa_nil)))) rfl)
      (pss_one (ps_ret (pv 3))))) pss_nil)
      (pss_mid (ps_setLc (i := 4) (own := [("_law_at", 5), ("_law_item", 6)]) (tt := tYes) rfl sc_l_put.nd rfl rfl (sw_true rfl rfl rfl (by decide +kernel)) (pi_or (i_enum (K := g.K) T.b_enumerate (pa_cons (pv 0) pa_nil)) (pi_enumT (K := g.K) T.b_enumerate (pa_cons (pv 0) pa_nil))) (blkOk_by (own := [("_law_at", 5), ("_law_item", 6)]) (N := ["_law_worth", "_law_path", "_law_part", "_law_found", "_law_items", "_law_at", "_law_item"]) (sc := defScope s_l_put) (by decide +kernel)) (fun _ _ _ _ _ => (g_tup (K := g.K) (n := 2) (pgs_cons (pg_name (i := 5) sc_l_put.nd rfl (.inl rfl)) (pgs_cons (pg_name (i := 6) sc_l_put.nd rfl (.inl rfl)) pgs_nil)))) (fun _ _ _ _ _ => pts_nil) (fun _ _ _ _ _ => (pe_ifExp (pt_cmpR (o_eq (K := g.K) (Rm.mk hr.room hr.gd)) (pv 5) (pe_ix (o_ix (K := g.K)) (pv 1) pe_int (fun _ _ => rfl)) (nomark _)) (pe_callG F_l_put (Rm.mono (Rm.mk hr.room hr.gd) (by first | decide | omega)) takes0 (pa_cons (pv 6) (pa_cons (pe_slice (o_sl (K := g.K)) (pv 1) (po_some pe_int) po_none) (pa_cons (pv 2) pa_nil)))) (pv 6))))
      (pss_one (ps_ret (pe_ifExp (pt_val (pe_callB (c_is "list") (by rfl) T.b_isinstance bb_isinstance (pa_cons (pv 0) (pa_cons (pe_bltn (v := .ty "list") rfl T.b_list bb_list rfl) pa_nil)))) (pv 4) (pe_callTy call_tuple_of (by rfl) T.b_tuple bb_tuple (pa_cons (pv 4) pa_nil)))))))), ?_⟩
  cases at_ with
  | nil =>
    refine mid_at (fun _ _ => False) ?_ (fun _ _ z => z.elim)
    walk_at "sx"
    intro p hp
    have sp := same_upd (o := HO.tup []) hp
    refine eq_nil (sp _ _ hpa) (.nil _) hsm upd_same ⟨_, rfl, ?_⟩
    rw [if_pos (by simp)]
    exact q _ _ _ _ sp (hz.same sp) hse (by omega) fun c hc => .inr (.inl hc)
  | @cons _ e1 _ s ps st at1 =>
    refine mid_at (fun σ G => σ = [some w, some (.ref pa), some z, none, none, none, none] ∧ Same H G) ?_ ?_
    · walk_at "sx"
      intro p hp
      have sp := same_upd (o := HO.tup []) hp
      refine eq_nil (sp _ _ hpa) (.cons st at1) hsm upd_same ⟨_, rfl, ?_⟩
      rw [if_neg (by simp)]
      exact sp
    rintro _ G ⟨rfl, sG⟩
    cases hw with
    | @dct a kvs D fp h hs na nd =>
      refine mid_at (fun _ _ => False) ?_ (fun _ _ z => z.elim)
      cases st with
      | @dct _ j xk _ hD =>
      obtain ⟨y, v1, d1, f1, k1, k2, t1, sub1⟩ := hs.get (i := j) (by rw [hs.len]; exact (List.getElem?_eq_some_iff.mp hD).1)
      rw [hD] at k2
      cases k2
      simp only [tyN_d (sG _ _ h), tRet, tRetN, tSeq, C8.tCut, tNext, tAsg, gName, gNil, gCons, gTup, gFld, tIfS, tIf, tAndV, tOrV, tNotV, tAnd, tOr, tNot, tB, tTest, tOp, tUn, tCB, tCons, tNil, tVar, tC, tChain, tDrop, tCallG, tMethG, tMakeG, RS.tCallK, RS.tMakeK, tEqOwn, rI, rI0, rU, add_ii, add_ss, add_rr, mul_ii, mul_si, mul_ri, RS.eq_ii, RS.eq_ss, eq_bb, eq_nn, eq_sn, eq_ns, eq_in, eq_ni, eq_bn, eq_nb, eq_is, eq_si, eq_rr, ne_ii, ne_ss, ne_bb, ne_nn, ne_sn, ne_ns, ne_in, ne_ni, ne_is, ne_si, ne_rr, in_ss, in_r, nin_ss, nin_r, len_s, len_r, RS.ix_s, RS.ix_r, sl_s, sl_r, is_eq, tyN_n, tyN_b, tyN_i, tyN_s, tru_b, tru_i, tru_n, tSl, tPart, tNoPart, tPar, tPar3, tFmtZ, tFmt, tJs, tDGet, sDPut, sFld, tFld, tTup, tLst, tNever, isB,
  L2.start, List.map_cons, List.map_nil, List.length_cons, List.length_nil, Nat.reduceAdd, Nat.reduceSub, Nat.sub_self, List.replicate_zero, List.replicate_succ, List.append_nil, List.cons_append, List.nil_append, List.getElem?_cons_zero, List.getElem?_cons_succ, List.set_cons_zero, List.set_cons_succ, Option.some.injEq, exists_eq_left, exists_eq_left', exists_and_left, V.bl.injEq, V.int.injEq, V.str.injEq, V.ref.injEq, beq_self_eq_true, Bool.true_or, Bool.or_true, Bool.false_or, Bool.or_false, Bool.and_false, Bool.false_and, Bool.true_and, Bool.and_true, Bool.not_true, Bool.not_false, Bool.false_eq_true, if_true, if_false, ite_true, ite_false, true_and, and_true, and_assoc, String.reduceBEq, String.reduceEq, reduceIte, Bool.and_self, reduceCtorEq, false_and, and_false, exists_false, or_false, false_or, exists_const, iEnumS, iStr, iList, iTup, iRng1, iEnum, tFor_eq, tLc_eq, List.cons.injEq, wipe, not_true_eq_false, not_false_eq_true, upd_same, HO.ins.injEq, HO.tup.injEq, HO.lst.injEq, ofS_eq, lk_nil, lk_cons, pu_nil, pu_cons, sizeLine_eq, Nat.reduceLT, Nat.reduceLeDiff, Nat.reduceEqDiff, Nat.le_refl, decide_true, decide_false, tPr, dget_us, dput_us, vv_nil, vv_cons, RS.pk_nil, pk_one, RS.pk_cons, inr_eq, tDisp, tPairs, tBoolOwn, rBoolOwn, tBM, rAppend, ty_list, ty_str, rEqOwn, iEnumT, RS.tCallS, tM1, tDc_eq, tLock, tLockE, iKeys, tListEnum, rUpdate, tMkX0, tMkX1, tXfv, gSub, rSetL, List.getD_cons_zero, List.getD_cons_succ]
      refine mid_at (fun σ G2 => ∃ b, σ = [some (.ref a), some (.ref pa), some z, some (.ref b), none, none, none] ∧ Same G G2 ∧ G b = none ∧ G2 b = some (.dK kvs)) ?_ ?_
      · walk_at "sx"
        exact ⟨kvs, .inl (sG _ _ h), fun p hp => ⟨same_upd hp, hp, rfl⟩⟩
      rintro _ G2 ⟨b, rfl, s2, nb, eb⟩
      have sH2 := sG.trans s2
      have nbH : H b = none := by
        cases e0 : H b with
        | none => rfl
        | some o => rw [sG _ _ e0] at nb; cases nb
      have pa2 := sH2 _ _ hpa
      simp only [smB, Bool.and_eq_true, decide_eq_true_eq] at hsm
      refine mid_at (fun σ G3 => ∃ v', σ = [some (.ref a), some (.ref pa), some z, some (.ref b), none, none, none] ∧ Same H G3 ∧ G3 b = some (.dK (putK kvs (.inr xk) v')) ∧ ∃ d' f', Tr G3 v' d' f' ∧ smB d' = true ∧ d'.depth ≤ e1.depth + e.depth ∧ b ∉ f' ∧ ∀ c ∈ f', c ∈ f1 ∨ c ∈ fq ∨ H c = none) ?_ ?_
      · walk_at "sx"
        refine ⟨_, .inr (SqT.of pa2), _, atI_nat (j := 0) rfl, _, .inl ⟨kvs, .inr xk, .inl (sH2 _ _ h), rfl, (valV_at nd k1).symm⟩, ?_⟩
        refine cut_path pa2 fun p hp => ?_
        have sp := same_upd (o := HO.tup ps) hp
        have s1p := sH2.trans sp
        refine ⟨_, _, _, rfl, _, f1, p, ps, x, e, fq, t1.same s1p, (smKv_get hsm.2 hD).2, rfl, upd_same, at1, hz.same s1p, hse, by simp at hn; omega, fun v' d' f' G3 s3 t3 sm3 d3 sub3 => ?_⟩
        have sH3 := s1p.trans s3
        have eb3 := s3 _ _ (sp _ _ eb)
        refine ⟨_, .inr (SqT.of (sH3 _ _ hpa)), _, atI_nat (j := 0) rfl, _, .inl ⟨kvs, .inr xk, eb3, rfl, by rw [hs.len, sizeLine_eq]; omega, rfl⟩, fun c o y => ?_, v', by first | exact upd_same | rfl, d', f', ?_⟩
        · have cb : c ≠ b := fun y' => by rw [y', nbH] at y; cases y
          rw [upd_ne cb]; exact sH3 _ _ y
        · have nb3 : b ∉ f' := fun y => by
            rcases sub3 b y with y | y | y
            · rcases t1.there b y with ⟨_, y⟩ | ⟨_, y⟩ <;> (rw [nbH] at y; cases y)
            · rcases hz.there b y with ⟨_, y⟩ | ⟨_, y⟩ <;> (rw [nbH] at y; cases y)
            · rw [sp _ _ eb] at y; cases y
          refine ⟨t3.but (fun ys y => by rw [eb3] at y; cases y) (fun c o n y => by rw [upd_ne n]; exact y) nb3, sm3, d3, nb3, fun c hc => ?_⟩
          rcases sub3 c hc with y | y | y
          · exact .inl y
          · exact .inr (.inl y)
          · refine .inr (.inr ?_)
            cases e0 : H c with
            | none => rfl
            | some o => rw [s1p _ _ e0] at y; cases y
      rintro _ G3 ⟨v', rfl, s3, eb3, d', f', t3, sm3, d3, nb3, sub3⟩
      walk_at "sx"
      obtain ⟨D', f'', tD, lD, smD, dD, subD⟩ := TrD.put (x := xk) t3 (hs.same s3)
      have pk : putK kvs (.inr xk) v' = kvs.map (fun kv => if kv.1 = .inr xk then (kv.1, v') else kv) := by
        unfold putK
        rw [if_pos]
        exact List.any_eq_true.mpr ⟨_, List.mem_of_getElem? k1, by simp⟩
      rw [pk] at eb3
      have nbf : b ∉ f'' := fun y => by
        rcases subD b y with y | y
        · rcases hs.there b y with ⟨_, y⟩ | ⟨_, y⟩ <;> (rw [nbH] at y; cases y)
        · exact nb3 y
      refine q _ _ _ G3 s3 (.dct eb3 tD nbf (by rw [keys_put]; exact nd)) ?_ ?_ fun c hc => ?_
      · simp only [smB, Bool.and_eq_true, decide_eq_true_eq]
        exact ⟨by omega, smD hsm.2 sm3⟩
      · have := depth_kv hD
        simp only [PyData.depth]; omega
      · rcases List.mem_cons.mp hc with y | y
        · exact .inr (.inr (y ▸ nbH))
        · rcases subD c y with y | y
          · exact .inl (List.mem_cons_of_mem _ y)
          · rcases sub3 c y with y | y | y
            · exact .inl (List.mem_cons_of_mem _ (sub1 c y))
            · exact .inr (.inl y)
            · exact .inr (.inr y)
    | @lst a xs ds fp h hs na =>
      refine mid_at (fun σ G1 => σ = [some (.ref a), some (.ref pa), some z, none, none, none, none] ∧ G1 = G) ?_ ?_
      · simp only [tyN_l (sG _ _ h), tRet, tRetN, tSeq, C8.tCut, tNext, tAsg, gName, gNil, gCons, gTup, gFld, tIfS, tIf, tAndV, tOrV, tNotV, tAnd, tOr, tNot, tB, tTest, tOp, tUn, tCB, tCons, tNil, tVar, tC, tChain, tDrop, tCallG, tMethG, tMakeG, RS.tCallK, RS.tMakeK, tEqOwn, rI, rI0, rU, add_ii, add_ss, add_rr, mul_ii, mul_si, mul_ri, RS.eq_ii, RS.eq_ss, eq_bb, eq_nn, eq_sn, eq_ns, eq_in, eq_ni, eq_bn, eq_nb, eq_is, eq_si, eq_rr, ne_ii, ne_ss, ne_bb, ne_nn, ne_sn, ne_ns, ne_in, ne_ni, ne_is, ne_si, ne_rr, in_ss, in_r, nin_ss, nin_r, len_s, len_r, RS.ix_s, RS.ix_r, sl_s, sl_r, is_eq, tyN_n, tyN_b, tyN_i, tyN_s, tru_b, tru_i, tru_n, tSl, tPart, tNoPart, tPar, tPar3, tFmtZ, tFmt, tJs, tDGet, sDPut, sFld, tFld, tTup, tLst, tNever, isB,
  L2.start, List.map_cons, List.map_nil, List.length_cons, List.length_nil, Nat.reduceAdd, Nat.reduceSub, Nat.sub_self, List.replicate_zero, List.replicate_succ, List.append_nil, List.cons_append, List.nil_append, List.getElem?_cons_zero, List.getElem?_cons_succ, List.set_cons_zero, List.set_cons_succ, Option.some.injEq, exists_eq_left, exists_eq_left', exists_and_left, V.bl.injEq, V.int.injEq, V.str.injEq, V.ref.injEq, beq_self_eq_true, Bool.true_or, Bool.or_true, Bool.false_or, Bool.or_false, Bool.and_false, Bool.false_and, Bool.true_and, Bool.and_true, Bool.not_true, Bool.not_false, Bool.false_eq_true, if_true, if_false, ite_true, ite_false, true_and, and_true, and_assoc, String.reduceBEq, String.reduceEq, reduceIte, Bool.and_self, reduceCtorEq, false_and, and_false, exists_false, or_false, false_or, exists_const, iEnumS, iStr, iList, iTup, iRng1, iEnum, tFor_eq, tLc_eq, List.cons.injEq, wipe, not_true_eq_false, not_false_eq_true, upd_same, HO.ins.injEq, HO.tup.injEq, HO.lst.injEq, ofS_eq, lk_nil, lk_cons, pu_nil, pu_cons, sizeLine_eq, Nat.reduceLT, Nat.reduceLeDiff, Nat.reduceEqDiff, Nat.le_refl, decide_true, decide_false, tPr, dget_us, dput_us, vv_nil, vv_cons, RS.pk_nil, pk_one, RS.pk_cons, inr_eq, tDisp, tPairs, tBoolOwn, rBoolOwn, tBM, rAppend, ty_list, ty_str, rEqOwn, iEnumT, RS.tCallS, tM1, tDc_eq, tLock, tLockE, iKeys, tListEnum, rUpdate, tMkX0, tMkX1, tXfv, gSub, rSetL, List.getD_cons_zero, List.getD_cons_succ]
      rintro _ _ ⟨rfl, rfl⟩
      cases st with
      | @lst _ j _ hj =>
      simp only [smB, Bool.and_eq_true, decide_eq_true_eq] at hsm
      simp only [List.length_cons] at hn
      refine mid_at (fun σ G1 => ∃ D acc ds' fa, σ = [some (.ref a), some (.ref pa), some z, none, some (.ref D), none, none] ∧ Same H G1 ∧ H D = none ∧ G1 D = some (.lst acc) ∧ TrL G1 acc ds' fa ∧ smAll ds' = true ∧ ds'.length = ds.length ∧ PyData.depthAll ds' ≤ PyData.depthAll ds + e.depth ∧ (∀ c ∈ fa, c ∈ fp ∨ c ∈ fq ∨ H c = none) ∧ D ∉ fa) ?_ ?_
      · walk_at "sx"
        refine .inl ⟨xs, SqL.of (sG _ _ h), put_lc (n := n) hs sG (fun i G' lt s => ⟨_, xs[i], SqL.of (s _ _ (sG _ _ h)), List.getElem?_eq_getElem lt⟩) (fun G' s => ⟨_, SqL.of (s _ _ (sG _ _ h)), Nat.le_refl _⟩) (fun i G' v G'' lt s y => ?_) hpa hj at1 hz hse hsm.2 hsm.1 (by omega) fun D acc ds' fa G' nD s' eD tl sm' l' d' sub' nf => ?_⟩
        · obtain ⟨T, w, e1, e2, e3, e4⟩ := y
          exact ⟨T, w, e1, e2, e3, e4 _ (SqL.of (s _ _ (sG _ _ h)))⟩
        · exact ⟨D, rfl, sG.trans s', back sG nD, acc, eD, ds', fa, tl, sm', l', d', sub', nf⟩
      rintro _ G1 ⟨D, acc, ds', fa, rfl, s1, nD, eD, tl, sm', l', d', sub', nf⟩
      simp only [tyN_l (s1 _ _ h), tRet, tRetN, tSeq, C8.tCut, tNext, tAsg, gName, gNil, gCons, gTup, gFld, tIfS, tIf, tAndV, tOrV, tNotV, tAnd, tOr, tNot, tB, tTest, tOp, tUn, tCB, tCons, tNil, tVar, tC, tChain, tDrop, tCallG, tMethG, tMakeG, RS.tCallK, RS.tMakeK, tEqOwn, rI, rI0, rU, add_ii, add_ss, add_rr, mul_ii, mul_si, mul_ri, RS.eq_ii, RS.eq_ss, eq_bb, eq_nn, eq_sn, eq_ns, eq_in, eq_ni, eq_bn, eq_nb, eq_is, eq_si, eq_rr, ne_ii, ne_ss, ne_bb, ne_nn, ne_sn, ne_ns, ne_in, ne_ni, ne_is, ne_si, ne_rr, in_ss, in_r, nin_ss, nin_r, len_s, len_r, RS.ix_s, RS.ix_r, sl_s, sl_r, is_eq, tyN_n, tyN_b, tyN_i, tyN_s, tru_b, tru_i, tru_n, tSl, tPart, tNoPart, tPar, tPar3, tFmtZ, tFmt, tJs, tDGet, sDPut, sFld, tFld, tTup, tLst, tNever, isB,
  L2.start, List.map_cons, List.map_nil, List.length_cons, List.length_nil, Nat.reduceAdd, Nat.reduceSub, Nat.sub_self, List.replicate_zero, List.replicate_succ, List.append_nil, List.cons_append, List.nil_append, List.getElem?_cons_zero, List.getElem?_cons_succ, List.set_cons_zero, List.set_cons_succ, Option.some.injEq, exists_eq_left, exists_eq_left', exists_and_left, V.bl.injEq, V.int.injEq, V.str.injEq, V.ref.injEq, beq_self_eq_true, Bool.true_or, Bool.or_true, Bool.false_or, Bool.or_false, Bool.and_false, Bool.false_and, Bool.true_and, Bool.and_true, Bool.not_true, Bool.not_false, Bool.false_eq_true, if_true, if_false, ite_true, ite_false, true_and, and_true, and_assoc, String.reduceBEq, String.reduceEq, reduceIte, Bool.and_self, reduceCtorEq, false_and, and_false, exists_false, or_false, false_or, exists_const, iEnumS, iStr, iList, iTup, iRng1, iEnum, tFor_eq, tLc_eq, List.cons.injEq, wipe, not_true_eq_false, not_false_eq_true, upd_same, HO.ins.injEq, HO.tup.injEq, HO.lst.injEq, ofS_eq, lk_nil, lk_cons, pu_nil, pu_cons, sizeLine_eq, Nat.reduceLT, Nat.reduceLeDiff, Nat.reduceEqDiff, Nat.le_refl, decide_true, decide_false, tPr, dget_us, dput_us, vv_nil, vv_cons, RS.pk_nil, pk_one, RS.pk_cons, inr_eq, tDisp, tPairs, tBoolOwn, rBoolOwn, tBM, rAppend, ty_list, ty_str, rEqOwn, iEnumT, RS.tCallS, tM1, tDc_eq, tLock, tLockE, iKeys, tListEnum, rUpdate, tMkX0, tMkX1, tXfv, gSub, rSetL, List.getD_cons_zero, List.getD_cons_succ]
      refine q _ _ _ G1 s1 (.lst eD tl nf) ?_ ?_ fun c hc => ?_
      · simp only [smB, Bool.and_eq_true, decide_eq_true_eq]
        exact ⟨by omega, sm'⟩
      · simp only [PyData.depth]; omega
      · rcases List.mem_cons.mp hc with y | y
        · exact .inr (.inr (y ▸ nD))
        · exact (sub' c y).imp (List.mem_cons_of_mem _) id
    | @tup a xs ds fp h hs =>
      refine mid_at (fun σ G1 => σ = [some (.ref a), some (.ref pa), some z, none, none, none, none] ∧ G1 = G) ?_ ?_
      · simp only [tyN_t (sG _ _ h), tRet, tRetN, tSeq, C8.tCut, tNext, tAsg, gName, gNil, gCons, gTup, gFld, tIfS, tIf, tAndV, tOrV, tNotV, tAnd, tOr, tNot, tB, tTest, tOp, tUn, tCB, tCons, tNil, tVar, tC, tChain, tDrop, tCallG, tMethG, tMakeG, RS.tCallK, RS.tMakeK, tEqOwn, rI, rI0, rU, add_ii, add_ss, add_rr, mul_ii, mul_si, mul_ri, RS.eq_ii, RS.eq_ss, eq_bb, eq_nn, eq_sn, eq_ns, eq_in, eq_ni, eq_bn, eq_nb, eq_is, eq_si, eq_rr, ne_ii, ne_ss, ne_bb, ne_nn, ne_sn, ne_ns, ne_in, ne_ni, ne_is, ne_si, ne_rr, in_ss, in_r, nin_ss, nin_r, len_s, len_r, RS.ix_s, RS.ix_r, sl_s, sl_r, is_eq, tyN_n, tyN_b, tyN_i, tyN_s, tru_b, tru_i, tru_n, tSl, tPart, tNoPart, tPar, tPar3, tFmtZ, tFmt, tJs, tDGet, sDPut, sFld, tFld, tTup, tLst, tNever, isB,
  L2.start, List.map_cons, List.map_nil, List.length_cons, List.length_nil, Nat.reduceAdd, Nat.reduceSub, Nat.sub_self, List.replicate_zero, List.replicate_succ, List.append_nil, List.cons_append, List.nil_append, List.getElem?_cons_zero, List.getElem?_cons_succ, List.set_cons_zero, List.set_cons_succ, Option.some.injEq, exists_eq_left, exists_eq_left', exists_and_left, V.bl.injEq, V.int.injEq, V.str.injEq, V.ref.injEq, beq_self_eq_true, Bool.true_or, Bool.or_true, Bool.false_or, Bool.or_false, Bool.and_false, Bool.false_and, Bool.true_and, Bool.and_true, Bool.not_true, Bool.not_false, Bool.false_eq_true, if_true, if_false, ite_true, ite_false, true_and, and_true, and_assoc, String.reduceBEq, String.reduceEq, reduceIte, Bool.and_self, reduceCtorEq, false_and, and_false, exists_false, or_false, false_or, exists_const, iEnumS, iStr, iList, iTup, iRng1, iEnum, tFor_eq, tLc_eq, List.cons.injEq, wipe, not_true_eq_false, not_false_eq_true, upd_same, HO.ins.injEq, HO.tup.injEq, HO.lst.injEq, ofS_eq, lk_nil, lk_cons, pu_nil, pu_cons, sizeLine_eq, Nat.reduceLT, Nat.reduceLeDiff, Nat.reduceEqDiff, Nat.le_refl, decide_true, decide_false, tPr, dget_us, dput_us, vv_nil, vv_cons, RS.pk_nil, pk_one, RS.pk_cons, inr_eq, tDisp, tPairs, tBoolOwn, rBoolOwn, tBM, rAppend, ty_list, ty_str, rEqOwn, iEnumT, RS.tCallS, tM1, tDc_eq, tLock, tLockE, iKeys, tListEnum, rUpdate, tMkX0, tMkX1, tXfv, gSub, rSetL, List.getD_cons_zero, List.getD_cons_succ]
      rintro _ _ ⟨rfl, rfl⟩
      cases st with
      | @tup _ j _ hj =>
      simp only [smB, Bool.and_eq_true, decide_eq_true_eq] at hsm
      simp only [List.length_cons] at hn
      refine mid_at (fun σ G1 => ∃ D acc ds' fa, σ = [some (.ref a), some (.ref pa), some z, none, some (.ref D), none, none] ∧ Same H G1 ∧ H D = none ∧ G1 D = some (.lst acc) ∧ TrL G1 acc ds' fa ∧ smAll ds' = true ∧ ds'.length = ds.length ∧ PyData.depthAll ds' ≤ PyData.depthAll ds + e.depth ∧ (∀ c ∈ fa, c ∈ fp ∨ c ∈ fq ∨ H c = none) ∧ D ∉ fa) ?_ ?_
      · walk_at "sx"
        refine .inr ⟨xs, SqT.of (sG _ _ h), put_lc (n := n) hs sG (fun i G' lt s => ⟨_, xs[i], SqT.of (s _ _ (sG _ _ h)), List.getElem?_eq_getElem lt⟩) (fun G' s => ⟨_, SqT.of (s _ _ (sG _ _ h)), rfl⟩) (fun i G' v G'' lt s y => ?_) hpa hj at1 hz hse hsm.2 hsm.1 (by omega) fun D acc ds' fa G' nD s' eD tl sm' l' d' sub' nf => ?_⟩
        · obtain ⟨T, w, e1, e2, e3, e4⟩ := y
          exact ⟨T, w, e1, e2, e3, e4 _ (SqT.of (s _ _ (sG _ _ h)))⟩
        · exact ⟨D, rfl, sG.trans s', back sG nD, acc, eD, ds', fa, tl, sm', l', d', sub', nf⟩
      rintro _ G1 ⟨D, acc, ds', fa, rfl, s1, nD, eD, tl, sm', l', d', sub', nf⟩
      simp only [tyN_t (s1 _ _ h), tRet, tRetN, tSeq, C8.tCut, tNext, tAsg, gName, gNil, gCons, gTup, gFld, tIfS, tIf, tAndV, tOrV, tNotV, tAnd, tOr, tNot, tB, tTest, tOp, tUn, tCB, tCons, tNil, tVar, tC, tChain, tDrop, tCallG, tMethG, tMakeG, RS.tCallK, RS.tMakeK, tEqOwn, rI, rI0, rU, add_ii, add_ss, add_rr, mul_ii, mul_si, mul_ri, RS.eq_ii, RS.eq_ss, eq_bb, eq_nn, eq_sn, eq_ns, eq_in, eq_ni, eq_bn, eq_nb, eq_is, eq_si, eq_rr, ne_ii, ne_ss, ne_bb, ne_nn, ne_sn, ne_ns, ne_in, ne_ni, ne_is, ne_si, ne_rr, in_ss, in_r, nin_ss, nin_r, len_s, len_r, RS.ix_s, RS.ix_r, sl_s, sl_r, is_eq, tyN_n, tyN_b, tyN_i, tyN_s, tru_b, tru_i, tru_n, tSl, tPart, tNoPart, tPar, tPar3, tFmtZ, tFmt, tJs, tDGet, sDPut, sFld, tFld, tTup, tLst, tNever, isB,
  L2.start, List.map_cons, List.map_nil, List.length_cons, List.length_nil, Nat.reduceAdd, Nat.reduceSub, Nat.sub_self, List.replicate_zero, List.replicate_succ, List.append_nil, List.cons_append, List.nil_append, List.getElem?_cons_zero, List.getElem?_cons_succ, List.set_cons_zero, List.set_cons_succ, Option.some.injEq, exists_eq_left, exists_eq_left', exists_and_left, V.bl.injEq, V.int.injEq, V.str.injEq, V.ref.injEq, beq_self_eq_true, Bool.true_or, Bool.or_true, Bool.false_or, Bool.or_false, Bool.and_false, Bool.false_and, Bool.true_and, Bool.and_true, Bool.not_true, Bool.not_false, Bool.false_eq_true, if_true, if_false, ite_true, ite_false, true_and, and_true, and_assoc, String.reduceBEq, String.reduceEq, reduceIte, Bool.and_self, reduceCtorEq, false_and, and_false, exists_false, or_false, false_or, exists_const, iEnumS, iStr, iList, iTup, iRng1, iEnum, tFor_eq, tLc_eq, List.cons.injEq, wipe, not_true_eq_false, not_false_eq_true, upd_same, HO.ins.injEq, HO.tup.injEq, HO.lst.injEq, ofS_eq, lk_nil, lk_cons, pu_nil, pu_cons, sizeLine_eq, Nat.reduceLT, Nat.reduceLeDiff, Nat.reduceEqDiff, Nat.le_refl, decide_true, decide_false, tPr, dget_us, dput_us, vv_nil, vv_cons, RS.pk_nil, pk_one, RS.pk_cons, inr_eq, tDisp, tPairs, tBoolOwn, rBoolOwn, tBM, rAppend, ty_list, ty_str, rEqOwn, iEnumT, RS.tCallS, tM1, tDc_eq, tLock, tLockE, iKeys, tListEnum, rUpdate, tMkX0, tMkX1, tXfv, gSub, rSetL, List.getD_cons_zero, List.getD_cons_succ]
      refine ⟨_, .inl ⟨SqL.of eD, fun l hl => ?_⟩⟩
      have sl := same_upd (o := HO.tup acc) hl
      refine q _ _ _ _ (s1.trans sl) (.tup upd_same (tl.same sl)) ?_ ?_ fun c hc => ?_
      · simp only [smB, Bool.and_eq_true, decide_eq_true_eq]
        exact ⟨by omega, sm'⟩
      · simp only [PyData.depth]; omega
      · exact sub' c hc
    | _ => cases st
end


/-! the texts are right -/
theorem spell_S (d : PyData) : spell d = S (sl d) := by rw [← spell_sl d (fun _ => trivial), str_S]
theorem cut_neg1 (a : List Nat) : cutS (S a) none (some (-1)) = S (a.take (a.length - 1)) := by
  unfold cutS
  rw [S_len]
  show (⟨_⟩ : Str) = _
  congr 2
  simp [HT.sIx]
  omega
mutual
theorem Tr.llen {H : Hp} : ∀ {v : V} {d : PyData} {fp : List Addr}, Tr H v d fp → smB d = true → ∀ c ∈ fp, ∀ xs, H c = some (.lst xs) → xs.length ≤ 3
  | _, _, _, .non, _, _, m => by cases m
  | _, _, _, .bl _, _, _, m => by cases m
  | _, _, _, .int _, _, _, m => by cases m
  | _, _, _, .str _, _, _, m => by cases m
  | _, _, _, .lst h hs _, ok, c, m => by
    simp only [smB, Bool.and_eq_true, decide_eq_true_eq] at ok
    have l := hs.len
    rcases List.mem_cons.mp m with e | e
    · intro xs hx
      rw [e, h] at hx
      cases hx
      omega
    · exact TrL.llen hs ok.2 c e
  | _, _, _, .tup h hs, ok, c, m => by
    simp only [smB, Bool.and_eq_true, decide_eq_true_eq] at ok
    exact TrL.llen hs ok.2 c m
  | _, _, _, .dct h hs _ _, ok, c, m => by
    simp only [smB, Bool.and_eq_true, decide_eq_true_eq] at ok
    rcases List.mem_cons.mp m with e | e
    · intro xs hx
      rw [e, h] at hx
      cases hx
    · exact TrD.llen hs ok.2 c e
theorem TrL.llen {H : Hp} : ∀ {v : List V} {d : List PyData} {fp : List Addr}, TrL H v d fp → smAll d = true → ∀ c ∈ fp, ∀ xs, H c = some (.lst xs) → xs.length ≤ 3
  | _, _, _, .nil, _, _, m => by cases m
  | _, _, _, .cons h hs, ok, c, m => by
    simp only [smAll, Bool.and_eq_true] at ok
    rcases List.mem_append.mp m with e | e
    · exact Tr.llen h ok.1 c e
    · exact TrL.llen hs ok.2 c e
theorem TrD.llen {H : Hp} : ∀ {v : List (Key × V)} {d : List (PyData × PyData)} {fp : List Addr}, TrD H v d fp → smKv d = true → ∀ c ∈ fp, ∀ xs, H c = some (.lst xs) → xs.length ≤ 3
  | _, _, _, .nil, _, _, m => by cases m
  | _, _, _, .cons h hs, ok, c, m => by
    simp only [smKv, Bool.and_eq_true] at ok
    rcases List.mem_append.mp m with e | e
    · exact Tr.llen h ok.1.2 c e
    · exact TrD.llen hs ok.2 c e
end
mutual
theorem ok_sm : ∀ d : PyData, smB d = true → okB d = true
  | .none, _ => rfl
  | .bool _, _ => rfl
  | .int i, h => by simpa [smB, okB] using h
  | .str x, h => by
    simp only [smB, Bool.and_eq_true, decide_eq_true_eq] at h
    simp only [okB, decide_eq_true_eq]; omega
  | .list ds, h => by
    simp only [smB, Bool.and_eq_true, decide_eq_true_eq] at h
    simp only [okB, Bool.and_eq_true, decide_eq_true_eq]
    exact ⟨by omega, ok_smAll ds h.2⟩
  | .tuple ds, h => by
    simp only [smB, Bool.and_eq_true, decide_eq_true_eq] at h
    simp only [okB, Bool.and_eq_true, decide_eq_true_eq]
    exact ⟨by omega, ok_smAll ds h.2⟩
  | .dict D, h => by
    simp only [smB, Bool.and_eq_true, decide_eq_true_eq] at h
    simp only [okB, Bool.and_eq_true, decide_eq_true_eq]
    exact ⟨by omega, ok_smKv D h.2⟩
theorem ok_smAll : ∀ ds : List PyData, smAll ds = true → okAll ds = true
  | [], _ => rfl
  | d :: ds, h => by
    simp only [smAll, Bool.and_eq_true] at h
    simp only [okAll, Bool.and_eq_true]
    exact ⟨ok_sm d h.1, ok_smAll ds h.2⟩
theorem ok_smKv : ∀ D : List (PyData × PyData), smKv D = true → okKv D = true
  | [], _ => rfl
  | (k, d) :: r, h => by
    simp only [smKv, Bool.and_eq_true] at h
    simp only [okKv, Bool.and_eq_true]
    refine ⟨⟨?_, ok_sm d h.1.2⟩, ok_smKv r h.2⟩
    have hk := h.1.1
    cases k with
    | str x =>
      simp only [keyB, Bool.and_eq_true, decide_eq_true_eq] at hk
      simp only [okB, decide_eq_true_eq]; omega
    | _ => cases hk
end
/-- what repr shows of a small value: it fits -/
theorem fits {d : PyData} {n : Nat} (h : gB d = true) (hd : d.depth ≤ n) (hn : n ≤ 7) : d.showable = true ∧ d.depth ≤ 60 ∧ d.shown.length ≤ 16777216 := by
  refine ⟨showable_g d h, by omega, ?_⟩
  have := shown_le d 7 h (by omega)
  have e : SH 7 ≤ 16777216 := by decide
  omega
/-- the marks one by one -/
theorem MkL.list {H : Hp} {xs : List V} {fp : List Addr} (h : MkL H xs fp) : ∀ (j : Nat) (x : V), xs[j]? = some x → ∃ m, Mk H x m ∧ ∀ c ∈ m, c ∈ fp := by
  induction h with
  | nil => simp
  | @snoc xs ms x m hs h ih =>
    intro j y hy
    by_cases lt : j < xs.length
    · rw [List.getElem?_append_left lt] at hy
      obtain ⟨m', h1, h2⟩ := ih j y hy
      exact ⟨m', h1, fun c hc => List.mem_append_left _ (h2 c hc)⟩
    · rw [List.getElem?_append_right (by omega)] at hy
      have e0 : j - xs.length = 0 := by
        cases hh : j - xs.length with
        | zero => rfl
        | succ n => rw [hh] at hy; simp at hy
      rw [e0] at hy
      obtain rfl : x = y := by simpa using hy
      exact ⟨m, h, fun c hc => List.mem_append_right _ hc⟩
theorem tyN_at {H G : Hp} {v : V} {t : String} (k : ∀ a o, v = .ref a → H a = some o → G a = some o) (h : tyN v H = some t) : tyN v G = some t := by
  cases v with
  | ref a =>
    unfold tyN at h ⊢
    simp only at h ⊢
    split at h <;> first | (cases h; done) | skip
    all_goals (rename_i e; rw [k a _ rfl e]; exact h)
  | _ => exact h
/-- the lists of F have grown by at most i items -/
def Grown (F : List Addr) (i : Nat) (H G : Hp) : Prop := (∀ b o, b ∉ F → H b = some o → G b = some o) ∧ ∀ b ∈ F, ∀ o, H b = some o → (∃ kvs, o = .dK kvs ∧ G b = some o) ∨ ∃ xs ys, o = .lst xs ∧ G b = some (.lst ys) ∧ ys.length ≤ xs.length + i
section
variable {g : Wd} {f : Addr} {fd : FuncData} {CI : Addr}
theorem sc_l_text_right : FnScope ["_law_stream_here", "_law_worth", "_law_signs", "_law_early", "_law_late", "_law_path", "_law_part", "_law_cut", "_law_more"] ["_law_stream_here", "_law_worth"] (defScope s_l_text_right) := ⟨rfl, rfl, rfl, by decide +kernel, rfl, by decide +kernel, by decide +kernel⟩
def sp_tright : Sp := S2 fun p v H Q _ => ∃ pa N d fp, p = .ref pa ∧ Str3 H pa N ∧ N + 10 < 100000 ∧ Tr H v d fp ∧ smB d = true ∧ d.depth ≤ 3 ∧ pa ∉ fp ∧ ∀ H', But pa H H' → Str3 H' pa (N + 2) → Q (.bl true) H'
theorem ok_tright (SM : SmB g.base) (F : Df g.K "_law_text_right" "_law_text_right" s_l_text_right f fd .none) (T : Txt g) (F_text_of : Kn g "text_of" 11 ["value"] [] sp_text)
    (F_value_of : Kn g "value_of" 47 ["text"] [] (sp_vof CI)) (KK_value_of : Kk g "value_of" 47 ["text"] ["text"] [0] (sp_vof CI)) (F_is_text : Kn g "is_text" 49 ["value"] [] sp_ist) (KK_is_text : Kk g "is_text" 49 ["value"] ["value"] [0] sp_ist)
    (F_first_wrong : Kn g "first_wrong" 48 ["text"] [] sp_fw) (KK_first_wrong : Kk g "first_wrong" 48 ["text"] ["text"] [0] sp_fw) (F_l_parts : Kn g "_law_parts" 2 ["_law_worth"] [] sp_lparts)
    (F_l_draw : Kn g "_law_draw" 2 ["_law_stream_here", "_law_top"] [] sp_draw) (F_l_pick : Kn g "_law_pick" 3 ["_law_stream_here", "_law_some"] [] sp_pick) : FnG g 50 f fd ["_law_stream_here", "_law_worth"] sp_tright := by
  refine F.ok sc_l_text_right (fun vs H Q E h => S2.len h) (fun cdv A outer s H vs Q E hr h => ?_)
  obtain ⟨_, v, rfl, pa, N, d, fp, rfl, hS, hN, hv, hsm, hdp, npa, q⟩ := h
  have hok := ok_sm d hsm
  have hz := spell_le d 3 hsm hdp
  have w3 : W 3 = 11470 := by decide
  have hz : (spell d).length ≤ 11470 := by omega
  have hg := (g_of d hsm).1
  have hwf := Tr.wf hv hok
  have eS := spell_S d
  have lS : (spell d).length = (sl d).length := by rw [eS, S_len]
  have vok := vo_ok hwf (by omega : d.depth ≤ 20)
  obtain ⟨sh1, sh2, sh3⟩ := fits hg hdp (by decide)
  have pos := spell_pos d
  refine ⟨_, (pss_mid (ps_set (i := 2) sc_l_text_right.nd rfl (Or.inl rfl) (pe_callG F_text_of (hr.mono (by first | decide | omega)) tkD (pa_cons (pv 1) pa_nil)))
      (pss_mid (ps_par (i := 3) (j := 4) (by rfl) sc_l_text_right.nd rfl rfl (by decide) rfl rfl (pa_cons (pe_callG F_value_of (hr.mono (by first | decide | omega)) tkD (pa_cons (pv 2) pa_nil)) (pa_cons (RS.pe_callK KK_value_of (hr.mono (by first | decide | omega)) tkD (L2.pk_cons (pv 2) L2.pk_nil)) pa_nil)) (by rfl))
      (pss_mid (ps_if (PW.pt (pw_or (pt_cmpR (o_ne (K := g.K) hr) (pe_callB (c_reprV (K := g.K) (base := g.base) SM hr) (by rfl) T.b_repr bb_repr (pa_cons (pe_lst (pa_cons (pv 3) (pa_cons (pv 4) pa_nil))) pa_nil)) (pe_callB (c_reprV (K := g.K) (base := g.base) SM hr) (by rfl) T.b_repr bb_repr (pa_cons (pe_op o_mul (pe_lst (pa_cons (pv 1) pa_nil)) pe_int) pa_nil)) (nomark _)) (pw_or1 (pt_cmpR (o_ne (K := g.K) hr) (pe_callB (c_reprV (K := g.K) (base := g.base) SM hr) (by rfl) T.b_repr bb_repr (pa_cons (pe_lst (pa_cons (pe_callG F_is_text (hr.mono (by first | decide | omega)) tkD (pa_cons (pv 2) pa_nil)) (pa_cons (RS.pe_callK KK_is_text (hr.mono (by first | decide | omega)) tkD (L2.pk_cons (pv 2) L2.pk_nil)) pa_nil))) pa_nil)) (pe_callB (c_reprV (K := g.K) (base := g.base) SM hr) (by rfl) T.b_repr bb_repr (pa_cons (pe_op o_mul (pe_lst (pa_cons pe_bl pa_nil)) pe_int) pa_nil)) (nomark _))))) (pss_one (ps_ret pe_bl)) pss_nil)
      (pss_mid (ps_for psD rfl (i_list (K := g.K) (pe_callG F_l_parts (hr.mono (by first | decide | omega)) tkD (pa_cons (pv 3) pa_nil))) (g_tup (K := g.K) (n := 2) (pgs_cons (pg_name (i := 5) sc_l_text_right.nd rfl (.inl rfl)) (pgs_cons (pg_name (i := 6) sc_l_text_right.nd rfl (.inl rfl)) pgs_nil))) (pss_one (ps_if (pt_val (pe_callB (c_is "list") (by rfl) T.b_isinstance bb_isinstance (pa_cons (pv 6) (pa_cons (pe_bltn (v := .ty "list") rfl T.b_list bb_list rfl) pa_nil)))) (pss_one (ps_expr (e_bm (K := g.K) PySem.F.plainAttrs_list PySem.F.slot_list_append PySem.F.type_list_append mt_append (pv 6) (pa_cons pe_non pa_nil)))) pss_nil)))
      (pss_mid (ps_if (PW.pt (pw_or (pt_cmpR (o_ne (K := g.K) hr) (pe_callB (c_reprV (K := g.K) (base := g.base) SM hr) (by rfl) T.b_repr bb_repr (pa_cons (pv 4) pa_nil)) (pe_callB (c_reprV (K := g.K) (base := g.base) SM hr) (by rfl) T.b_repr bb_repr (pa_cons (pv 1) pa_nil)) (nomark _)) (pw_or (pt_cmpR (o_ne (K := g.K) hr) (pe_callG F_text_of (hr.mono (by first | decide | omega)) tkD (pa_cons (pv 4) pa_nil)) (pv 2) (nomark _)) (pw_or1 (pt_cmpR op_notN (pe_callG F_first_wrong (hr.mono (by first | decide | omega)) tkD (pa_cons (pv 2) pa_nil)) pe_non (nomark _)))))) (pss_one (ps_ret pe_bl)) pss_nil)
      (pss_mid (ps_set (i := 7) sc_l_text_right.nd rfl (Or.inl rfl) (pe_callG F_l_draw (hr.mono (by first | decide | omega)) tkD (pa_cons (pv 0) (pa_cons (pe_callB (c_len (K := g.K)) (by rfl) T.b_len bb_len (pa_cons (pv 2) pa_nil)) pa_nil))))
      (pss_mid (ps_if (PW.pt (pw_or (pt_val (pe_callG F_is_text (hr.mono (by first | decide | omega)) tkD (pa_cons (pe_slice (o_sl (K := g.K)) (pv 2) po_none (po_some (pv 7))) pa_nil))) (pw_or (pt_cmpR (o_ne (K := g.K) hr) (pe_callG F_first_wrong (hr.mono (by first | decide | omega)) tkD (pa_cons (pe_slice (o_sl (K := g.K)) (pv 2) po_none (po_some (pv 7))) pa_nil)) (pv 7) (nomark _)) (pw_or1 (pt_cmpR (o_ne (K := g.K) hr) (RS.pe_callK KK_first_wrong (hr.mono (by first | decide | omega)) tkD (L2.pk_cons (pe_slice (o_sl (K := g.K)) (pv 2) po_none (po_some (pe_un un_neg pe_int))) L2.pk_nil)) (pe_op op_sub (pe_callB (c_len (K := g.K)) (by rfl) T.b_len bb_len (pa_cons (pv 2) pa_nil)) pe_int) (nomark _)))))) (pss_one (ps_ret pe_bl)) pss_nil)
      (pss_mid (ps_set (i := 8) sc_l_text_right.nd rfl (Or.inl rfl) (pe_op (o_add (K := g.K)) (pv 2) (pe_callG F_l_pick (hr.mono (by first | decide | omega)) tkD (pa_cons (pv 0) (pa_cons (pe_lst (pa_cons pe_str (pa_cons pe_str (pa_cons pe_str (pa_cons pe_str (pa_cons pe_str (pa_cons pe_str (pa_cons (pv 2) pa_nil)))))))) pa_nil)))))
      (pss_one (ps_ret (pe_and (pe_not (pe_callG F_is_text (hr.mono (by first | decide | omega)) tkD (pa_cons (pv 8) pa_nil))) (pe_one (pe_cmpR (o_eq (K := g.K) hr) (pe_callG F_first_wrong (hr.mono (by first | decide | omega)) tkD (pa_cons (pv 8) pa_nil)) (pe_callB (c_len (K := g.K)) (by rfl) T.b_len bb_len (pa_cons (pv 2) pa_nil)) (nomark _)))))))))))))), ?_⟩
  refine mid_at (fun σ G => σ = [some (.ref pa), some v, some (.str (S (sl d))), none, none, none, none, none, none] ∧ Same H G) ?_ ?_
  · walk_at "sx"
    refine ⟨_, rfl, d, fp, hv, hok, by omega, by omega, fun G sG => ?_⟩
    rw [eS]
    exact ⟨rfl, sG⟩
  rintro _ H1 ⟨rfl, s1⟩
  refine mid_at (fun σ G => ∃ ve vl fe fl, σ = [some (.ref pa), some v, some (.str (S (sl d))), some ve, some vl, none, none, none, none] ∧ Same H1 G ∧ Tr G ve d fe ∧ Tr G vl d fl ∧ (∀ c ∈ fe, H1 c = none) ∧ (∀ c ∈ fl, H1 c = none) ∧ ∀ c ∈ fl, c ∉ fe) ?_ ?_
  · walk_at "sx"
    refine ⟨_, rfl, sl d, rfl, by omega, ?_⟩
    rw [vok]
    intro ve fe G tv nv sG
    refine ⟨_, rfl, sl d, rfl, by omega, ?_⟩
    rw [vok]
    intro vl fl G2 tl nl sG2
    exact ⟨sG.trans sG2, fe, tv.same sG2, fl, tl, nv, fun c hc => back sG (nl c hc), fun c hc hc' => by rcases tv.there c hc' with ⟨_, y⟩ | ⟨_, y⟩ <;> (rw [nl c hc] at y; cases y)⟩
  rintro _ H2 ⟨ve, vl, fe, fl, rfl, s2, te, tl, ne, nl, dj⟩
  have g2 : gB (.list [d, d]) = true := by simp [gB, gAll, hg]
  obtain ⟨sq1, sq2, sq3⟩ := fits (n := 4) g2 (by simp [PyData.depth, PyData.depthAll]; omega) (by decide)
  have gt : ∀ b c : Bool, gB (.list [.bool b, .bool c]) = true := by decide
  refine mid_at (fun σ G => σ = [some (.ref pa), some v, some (.str (S (sl d))), some ve, some vl, none, none, none, none] ∧ Same H2 G) ?_ ?_
  · walk_at "sx"
    intro p1 h1
    have t1 := same_upd (o := HO.lst [ve, vl]) h1
    refine ⟨_, _, rfl, .lst (SqL.of upd_same) (.cons (te.same t1).dp (.cons (tl.same t1).dp .nil)), sq1, sq2, by rw [sizeLine_eq]; exact sq3, fun p2 h2 => ?_⟩
    have t2 := same_upd (o := HO.lst [v]) h2
    refine ⟨p2, 2, _, rfl, rfl, upd_same, by decide, by decide, by rw [sizeLine_eq]; simp, fun p3 h3 => ?_⟩
    have t3 := same_upd (o := HO.lst [v, v]) h3
    have hv3 := hv.same (s1.trans (s2.trans (t1.trans (t2.trans t3))))
    refine ⟨_, .list [d, d], rfl, .lst (SqL.of upd_same) (.cons hv3.dp (.cons hv3.dp .nil)), sq1, sq2, by rw [sizeLine_eq]; exact sq3, ?_⟩
    simp only [ne_ss]
    refine ⟨_, rfl, ?_⟩
    rw [if_neg (by simp)]
    refine ⟨_, rfl, sl d, rfl, by omega, fun G4 s4 => ?_⟩
    refine ⟨_, rfl, sl d, rfl, by omega, fun G5 s5 => ?_⟩
    rw [vok]
    intro p4 h4
    have t4 := same_upd (o := HO.lst [.bl true, .bl true]) h4
    refine ⟨_, .list [.bool true, .bool true], rfl, .lst (SqL.of upd_same) (.cons (.bl true) (.cons (.bl true) .nil)), by decide +kernel, by decide +kernel, by decide +kernel, fun p5 h5 => ?_⟩
    have t5 := same_upd (o := HO.lst [.bl true]) h5
    refine ⟨p5, 2, _, rfl, rfl, upd_same, by decide, by decide, by decide, fun p6 h6 => ?_⟩
    have t6 := same_upd (o := HO.lst [.bl true, .bl true]) h6
    refine ⟨_, .list [.bool true, .bool true], rfl, .lst (SqL.of upd_same) (.cons (.bl true) (.cons (.bl true) .nil)), by decide +kernel, by decide +kernel, by decide +kernel, ?_⟩
    simp only [ne_ss]
    refine ⟨_, rfl, ?_⟩
    rw [if_neg (by simp)]
    exact (t1.trans (t2.trans t3)).trans ((s4.trans s5).trans (t4.trans (t5.trans t6)))
  rintro _ H3 ⟨rfl, s3⟩
  have te3 := te.same s3
  have tl3 := tl.same s3
  have s13 := s1.trans (s2.trans s3)
  refine mid_at (fun σ G => ∃ v5 v6, σ = [some (.ref pa), some v, some (.str (S (sl d))), some ve, some vl, v5, v6, none, none] ∧ ∃ n, Grown fe n H3 G) ?_ ?_
  · walk_at "sx"
    refine ⟨_, rfl, d, fe, te3, hok, by omega, by omega, fun L fs qq G s4 nL eL pr mk pth lq => ?_⟩
    refine ⟨L, rfl, ⟨_, SqL.of eL⟩, ?_⟩
    have le := sz_le d
    have nt : ∀ c ∈ fe, ∀ ys, G c ≠ some (.tup ys) := fun c hc ys z => by rcases (te3.same s4).there c hc with ⟨_, y⟩ | ⟨_, y⟩ <;> (rw [y] at z; cases z)
    have nLf : L ∉ fe := fun y => by rcases te3.there L y with ⟨_, y⟩ | ⟨_, y⟩ <;> (rw [nL] at y; cases y)
    have ll := Tr.llen (te3.same s4) hsm
    refine for_by fs.length (fun i σ G' => (∃ v5 v6, σ = [some (.ref pa), some v, some (.str (S (sl d))), some ve, some vl, v5, v6, none, none]) ∧ Grown fe i G G') ⟨⟨_, _, rfl⟩, fun b o _ z => z, fun b hb o z => ?_⟩ (fun i σ G' lt P => ⟨_, fs[i], SqL.of (P.2.1 _ _ nLf eL), List.getElem?_eq_getElem lt⟩) (fun σ G' P => ⟨_, SqL.of (P.2.1 _ _ nLf eL), Nat.le_refl _⟩) (fun i σ G' x G'' lt P yl => ?_) (fun σ G' P => ?_)
    · rcases (te3.same s4).there b hb with ⟨xs, y⟩ | ⟨kvs, y⟩
      · rw [y] at z; cases z; exact .inr ⟨xs, xs, rfl, y, Nat.le_refl _⟩
      · rw [y] at z; cases z; exact .inl ⟨kvs, rfl, y⟩
    · obtain ⟨⟨v5, v6, rfl⟩, gr⟩ := P
      obtain ⟨rfl, hx⟩ := yl
      have hx := hx _ (SqL.of (gr.1 _ _ nLf eL))
      obtain ⟨pp, xx, hp⟩ : ∃ pp xx, qq[i]? = some (pp, xx) := ⟨_, _, List.getElem?_eq_getElem (by rw [← pr.1]; exact lt)⟩
      obtain ⟨t, ht, et⟩ := pr.2 i pp xx hp
      rw [ht] at hx
      obtain rfl : V.ref t = x := Option.some.inj hx
      obtain ⟨m, mkx, sub⟩ := MkL.list mk i xx (by rw [List.getElem?_map, hp]; rfl)
      have et' := gr.1 _ _ (fun y => nt t y _ et) et
      have li : i < 11470 := by rw [pr.1, lq] at lt; omega
      walk_at "sx"
      refine ⟨_, SqT.of et', rfl, ?_⟩
      have up : ∀ G2, Grown fe i G G2 → Grown fe (i + 1) G G2 := fun G2 y => ⟨y.1, fun b hb o z => (y.2 b hb o z).imp id fun ⟨xs, ys, h1, h2, h3⟩ => ⟨xs, ys, h1, h2, by omega⟩⟩
      rcases mkx with ⟨a, xs, rfl, ea, em⟩ | ⟨a, kvs, rfl, ea, em⟩ | ⟨em, n, en, no⟩
      · have ha : a ∈ fe := sub a (by rw [em]; exact List.mem_singleton.mpr rfl)
        have ea4 := s4 _ _ ea
        rcases gr.2 a ha _ ea4 with ⟨kvs, y, _⟩ | ⟨xs', ys, y, ey, ly⟩
        · cases y
        · cases y
          have := ll a ha _ ea4
          simp only [tyN_l ey, tRet, tRetN, tSeq, C8.tCut, tNext, tAsg, gName, gNil, gCons, gTup, gFld, tIfS, tIf, tAndV, tOrV, tNotV, tAnd, tOr, tNot, tB, tTest, tOp, tUn, tCB, tCons, tNil, tVar, tC, tChain, tDrop, tCallG, tMethG, tMakeG, RS.tCallK, RS.tMakeK, tEqOwn, rI, rI0, rU, add_ii, add_ss, add_rr, mul_ii, mul_si, mul_ri, RS.eq_ii, RS.eq_ss, eq_bb, eq_nn, eq_sn, eq_ns, eq_in, eq_ni, eq_bn, eq_nb, eq_is, eq_si, eq_rr, ne_ii, ne_ss, ne_bb, ne_nn, ne_sn, ne_ns, ne_in, ne_ni, ne_is, ne_si, ne_rr, in_ss, in_r, nin_ss, nin_r, len_s, len_r, RS.ix_s, RS.ix_r, sl_s, sl_r, is_eq, tyN_n, tyN_b, tyN_i, tyN_s, tru_b, tru_i, tru_n, tSl, tPart, tNoPart, tPar, tPar3, tFmtZ, tFmt, tJs, tDGet, sDPut, sFld, tFld, tTup, tLst, tNever, isB,
  L2.start, List.map_cons, List.map_nil, List.length_cons, List.length_nil, Nat.reduceAdd, Nat.reduceSub, Nat.sub_self, List.replicate_zero, List.replicate_succ, List.append_nil, List.cons_append, List.nil_append, List.getElem?_cons_zero, List.getElem?_cons_succ, List.set_cons_zero, List.set_cons_succ, Option.some.injEq, exists_eq_left, exists_eq_left', exists_and_left, V.bl.injEq, V.int.injEq, V.str.injEq, V.ref.injEq, beq_self_eq_true, Bool.true_or, Bool.or_true, Bool.false_or, Bool.or_false, Bool.and_false, Bool.false_and, Bool.true_and, Bool.and_true, Bool.not_true, Bool.not_false, Bool.false_eq_true, if_true, if_false, ite_true, ite_false, true_and, and_true, and_assoc, String.reduceBEq, String.reduceEq, reduceIte, Bool.and_self, reduceCtorEq, false_and, and_false, exists_false, or_false, false_or, exists_const, iEnumS, iStr, iList, iTup, iRng1, iEnum, tFor_eq, tLc_eq, List.cons.injEq, wipe, not_true_eq_false, not_false_eq_true, upd_same, HO.ins.injEq, HO.tup.injEq, HO.lst.injEq, ofS_eq, lk_nil, lk_cons, pu_nil, pu_cons, sizeLine_eq, Nat.reduceLT, Nat.reduceLeDiff, Nat.reduceEqDiff, Nat.le_refl, decide_true, decide_false, tPr, dget_us, dput_us, vv_nil, vv_cons, RS.pk_nil, pk_one, RS.pk_cons, inr_eq, tDisp, tPairs, tBoolOwn, rBoolOwn, tBM, rAppend, ty_list, ty_str, rEqOwn, iEnumT, RS.tCallS, tM1, tDc_eq, tLock, tLockE, iKeys, tListEnum, rUpdate, tMkX0, tMkX1, tXfv, gSub, rSetL, List.getD_cons_zero, List.getD_cons_succ]
          refine ⟨⟨_, SqL.of ey⟩, ys, ey, by omega, ⟨_, rfl⟩, fun b o nb z => ?_, fun b hb o z => ?_⟩
          · rw [upd_ne (fun y : b = a => nb (by rw [y]; exact ha))]; exact gr.1 b o nb z
          · by_cases ba : b = a
            · subst ba
              rw [ea4] at z
              cases z
              exact .inr ⟨_, _, rfl, upd_same, by simp; omega⟩
            · rw [upd_ne ba]
              exact (gr.2 b hb o z).imp id fun ⟨xs, ys, h1, h2, h3⟩ => ⟨xs, ys, h1, h2, by omega⟩
      · have ha : a ∈ fe := sub a (by rw [em]; exact List.mem_singleton.mpr rfl)
        rcases gr.2 a ha _ (s4 _ _ ea) with ⟨kvs', y, ey⟩ | ⟨xs', ys, y, ey, ly⟩
        · simp only [tyN_d ey, tRet, tRetN, tSeq, C8.tCut, tNext, tAsg, gName, gNil, gCons, gTup, gFld, tIfS, tIf, tAndV, tOrV, tNotV, tAnd, tOr, tNot, tB, tTest, tOp, tUn, tCB, tCons, tNil, tVar, tC, tChain, tDrop, tCallG, tMethG, tMakeG, RS.tCallK, RS.tMakeK, tEqOwn, rI, rI0, rU, add_ii, add_ss, add_rr, mul_ii, mul_si, mul_ri, RS.eq_ii, RS.eq_ss, eq_bb, eq_nn, eq_sn, eq_ns, eq_in, eq_ni, eq_bn, eq_nb, eq_is, eq_si, eq_rr, ne_ii, ne_ss, ne_bb, ne_nn, ne_sn, ne_ns, ne_in, ne_ni, ne_is, ne_si, ne_rr, in_ss, in_r, nin_ss, nin_r, len_s, len_r, RS.ix_s, RS.ix_r, sl_s, sl_r, is_eq, tyN_n, tyN_b, tyN_i, tyN_s, tru_b, tru_i, tru_n, tSl, tPart, tNoPart, tPar, tPar3, tFmtZ, tFmt, tJs, tDGet, sDPut, sFld, tFld, tTup, tLst, tNever, isB,
  L2.start, List.map_cons, List.map_nil, List.length_cons, List.length_nil, Nat.reduceAdd, Nat.reduceSub, Nat.sub_self, List.replicate_zero, List.replicate_succ, List.append_nil, List.cons_append, List.nil_append, List.getElem?_cons_zero, List.getElem?_cons_succ, List.set_cons_zero, List.set_cons_succ, Option.some.injEq, exists_eq_left, exists_eq_left', exists_and_left, V.bl.injEq, V.int.injEq, V.str.injEq, V.ref.injEq, beq_self_eq_true, Bool.true_or, Bool.or_true, Bool.false_or, Bool.or_false, Bool.and_false, Bool.false_and, Bool.true_and, Bool.and_true, Bool.not_true, Bool.not_false, Bool.false_eq_true, if_true, if_false, ite_true, ite_false, true_and, and_true, and_assoc, String.reduceBEq, String.reduceEq, reduceIte, Bool.and_self, reduceCtorEq, false_and, and_false, exists_false, or_false, false_or, exists_const, iEnumS, iStr, iList, iTup, iRng1, iEnum, tFor_eq, tLc_eq, List.cons.injEq, wipe, not_true_eq_false, not_false_eq_true, upd_same, HO.ins.injEq, HO.tup.injEq, HO.lst.injEq, ofS_eq, lk_nil, lk_cons, pu_nil, pu_cons, sizeLine_eq, Nat.reduceLT, Nat.reduceLeDiff, Nat.reduceEqDiff, Nat.le_refl, decide_true, decide_false, tPr, dget_us, dput_us, vv_nil, vv_cons, RS.pk_nil, pk_one, RS.pk_cons, inr_eq, tDisp, tPairs, tBoolOwn, rBoolOwn, tBM, rAppend, ty_list, ty_str, rEqOwn, iEnumT, RS.tCallS, tM1, tDc_eq, tLock, tLockE, iKeys, tListEnum, rUpdate, tMkX0, tMkX1, tXfv, gSub, rSetL, List.getD_cons_zero, List.getD_cons_succ]
          exact ⟨⟨_, rfl⟩, up _ gr⟩
        · cases y
      · have nx : ∀ a o, xx = .ref a → H3 a = some o → G'' a = some o := fun a o e z => by
          refine gr.1 a o (fun y => ?_) (s4 _ _ z)
          subst e
          rcases te3.there a y with ⟨xs, y⟩ | ⟨kvs, y⟩
          · rw [tyN_l y] at en; cases en; simp [isB] at no
          · rw [tyN_d y] at en; cases en; simp [isB] at no
        simp only [List.any_cons, List.any_nil, Bool.or_false, Bool.or_eq_false_iff] at no
        have no1 : (n == "list") = false := by have := no.1; simp only [isB] at this; simpa using this
        simp only [tyN_at nx en, no1, tRet, tRetN, tSeq, C8.tCut, tNext, tAsg, gName, gNil, gCons, gTup, gFld, tIfS, tIf, tAndV, tOrV, tNotV, tAnd, tOr, tNot, tB, tTest, tOp, tUn, tCB, tCons, tNil, tVar, tC, tChain, tDrop, tCallG, tMethG, tMakeG, RS.tCallK, RS.tMakeK, tEqOwn, rI, rI0, rU, add_ii, add_ss, add_rr, mul_ii, mul_si, mul_ri, RS.eq_ii, RS.eq_ss, eq_bb, eq_nn, eq_sn, eq_ns, eq_in, eq_ni, eq_bn, eq_nb, eq_is, eq_si, eq_rr, ne_ii, ne_ss, ne_bb, ne_nn, ne_sn, ne_ns, ne_in, ne_ni, ne_is, ne_si, ne_rr, in_ss, in_r, nin_ss, nin_r, len_s, len_r, RS.ix_s, RS.ix_r, sl_s, sl_r, is_eq, tyN_n, tyN_b, tyN_i, tyN_s, tru_b, tru_i, tru_n, tSl, tPart, tNoPart, tPar, tPar3, tFmtZ, tFmt, tJs, tDGet, sDPut, sFld, tFld, tTup, tLst, tNever, isB,
  L2.start, List.map_cons, List.map_nil, List.length_cons, List.length_nil, Nat.reduceAdd, Nat.reduceSub, Nat.sub_self, List.replicate_zero, List.replicate_succ, List.append_nil, List.cons_append, List.nil_append, List.getElem?_cons_zero, List.getElem?_cons_succ, List.set_cons_zero, List.set_cons_succ, Option.some.injEq, exists_eq_left, exists_eq_left', exists_and_left, V.bl.injEq, V.int.injEq, V.str.injEq, V.ref.injEq, beq_self_eq_true, Bool.true_or, Bool.or_true, Bool.false_or, Bool.or_false, Bool.and_false, Bool.false_and, Bool.true_and, Bool.and_true, Bool.not_true, Bool.not_false, Bool.false_eq_true, if_true, if_false, ite_true, ite_false, true_and, and_true, and_assoc, String.reduceBEq, String.reduceEq, reduceIte, Bool.and_self, reduceCtorEq, false_and, and_false, exists_false, or_false, false_or, exists_const, iEnumS, iStr, iList, iTup, iRng1, iEnum, tFor_eq, tLc_eq, List.cons.injEq, wipe, not_true_eq_false, not_false_eq_true, upd_same, HO.ins.injEq, HO.tup.injEq, HO.lst.injEq, ofS_eq, lk_nil, lk_cons, pu_nil, pu_cons, sizeLine_eq, Nat.reduceLT, Nat.reduceLeDiff, Nat.reduceEqDiff, Nat.le_refl, decide_true, decide_false, tPr, dget_us, dput_us, vv_nil, vv_cons, RS.pk_nil, pk_one, RS.pk_cons, inr_eq, tDisp, tPairs, tBoolOwn, rBoolOwn, tBM, rAppend, ty_list, ty_str, rEqOwn, iEnumT, RS.tCallS, tM1, tDc_eq, tLock, tLockE, iKeys, tListEnum, rUpdate, tMkX0, tMkX1, tXfv, gSub, rSetL, List.getD_cons_zero, List.getD_cons_succ]
        exact ⟨⟨_, rfl⟩, up _ gr⟩
    · obtain ⟨⟨v5, v6, rfl⟩, gr⟩ := P
      refine ⟨_, _, rfl, fs.length, fun b o nb z => gr.1 b o nb (s4 _ _ z), fun b hb o z => gr.2 b hb o (s4 _ _ z)⟩
  rintro _ H4 ⟨v5, v6, rfl, n4, gr⟩
  have nfe : ∀ c o, H1 c = some o → c ∉ fe := fun c o z y => by rw [ne c y] at z; cases z
  have k4 : Same H1 H4 := fun c o z => gr.1 c o (nfe c o z) (s3 _ _ (s2 _ _ z))
  have sH4 : Same H H4 := s1.trans k4
  have hv4 := hv.same sH4
  have tl4 : Tr H4 vl d fl := tl3.keep (S := fun c => c ∈ fe) (fun c hc xs z => by rcases te3.there c hc with ⟨_, y⟩ | ⟨_, y⟩ <;> (rw [y] at z; cases z)) (fun c o n z => gr.1 c o n z) (fun c hc => dj c hc)
  refine mid_at (fun σ G => σ = [some (.ref pa), some v, some (.str (S (sl d))), some ve, some vl, v5, v6, none, none] ∧ Same H4 G) ?_ ?_
  · walk_at "sx"
    refine ⟨_, _, rfl, tl4.dp, sh1, sh2, by rw [sizeLine_eq]; exact sh3, ?_⟩
    refine ⟨_, _, rfl, hv4.dp, sh1, sh2, by rw [sizeLine_eq]; exact sh3, ?_⟩
    simp only [ne_ss]
    refine ⟨_, rfl, ?_⟩
    rw [if_neg (by simp)]
    refine ⟨_, rfl, d, fl, tl4, hok, by omega, by omega, fun G5 s5 => ?_⟩
    rw [eS]
    simp only [ne_ss]
    refine ⟨_, rfl, ?_⟩
    rw [if_neg (by simp)]
    refine ⟨_, rfl, sl d, rfl, by omega, ?_⟩
    rw [vok]
    intro G6 s6
    walk_at "sx"
    exact s5.trans s6
  rintro _ H5 ⟨rfl, s5⟩
  have S5 := hS.same (sH4.trans s5)
  refine mid_at (fun σ G => ∃ r : Nat, σ = [some (.ref pa), some v, some (.str (S (sl d))), some ve, some vl, v5, v6, some (.int (r : Nat)), none] ∧ r < (sl d).length ∧ But pa H5 G ∧ Str3 G pa (N + 1)) ?_ ?_
  · walk_at "sx"
    rw [S_len]
    refine ⟨by omega, _, _, rfl, pa, N, (sl d).length, rfl, rfl, by omega, by omega, S5, by omega, fun r G r0 r1 S6 k6 => ?_⟩
    obtain ⟨j, rfl⟩ := Int.eq_ofNat_of_zero_le r0
    exact ⟨j, rfl, by omega, k6, S6⟩
  rintro _ H6 ⟨r, rfl, hr6, b6, S6⟩
  have c1 := vo_cut hwf (by omega) (p := (sl d).take r) (q := (sl d).drop r) (List.take_append_drop ..) (by simp; omega)
  have c2 := vo_cut hwf (by omega) (p := (sl d).take ((sl d).length - 1)) (q := (sl d).drop ((sl d).length - 1)) (List.take_append_drop ..) (by simp; omega)
  have l1 : ((sl d).take r).length = r := by simp; omega
  have l2 : ((sl d).take ((sl d).length - 1)).length = (sl d).length - 1 := by simp
  rw [l1] at c1
  rw [l2] at c2
  refine mid_at (fun σ G => σ = [some (.ref pa), some v, some (.str (S (sl d))), some ve, some vl, v5, v6, some (.int (r : Nat)), none] ∧ Same H6 G) ?_ ?_
  · walk_at "sx"
    simp only [S_len, cut_to _ (Int.natCast_nonneg r), cut_neg1, Int.toNat_natCast]
    refine ⟨by omega, _, rfl, (sl d).take r, rfl, by omega, fun G7 s7 => ⟨_, rfl, ?_⟩⟩
    rw [c1, if_neg (by simp [isOk])]
    refine ⟨by omega, _, rfl, (sl d).take r, rfl, by omega, ?_⟩
    rw [c1]
    intro G8 s8
    simp only [ne_ii]
    refine ⟨_, rfl, ?_⟩
    rw [if_neg (by simp)]
    refine ⟨by omega, _, rfl, (sl d).take ((sl d).length - 1), rfl, by simp; omega, ?_⟩
    rw [c2]
    intro G9 s9
    refine ⟨by omega, ?_⟩
    simp only [ne_ii]
    refine ⟨_, rfl, ?_⟩
    rw [if_neg (by simp; omega)]
    exact s7.trans (s8.trans s9)
  rintro _ H7 ⟨rfl, s7⟩
  have S7 := S6.same s7
  refine mid_at (fun σ G => ∃ m q', σ = [some (.ref pa), some v, some (.str (S (sl d))), some ve, some vl, v5, v6, some (.int (r : Nat)), some (.str (S m))] ∧ m = sl d ++ q' ∧ q' ≠ [] ∧ q'.length ≤ 11470 ∧ But pa H7 G ∧ Str3 G pa (N + 2)) ?_ ?_
  · walk_at "sx"
    walk_at "lt"
    intro p hp
    have sp := same_upd (o := HO.lst [.str (S [110]), .str (S [116]), .str (S [32]), .str (S [105, 49, 59]), .str (S [59]), .str (S [10]), .str (S (sl d))]) hp
    refine ⟨_, _, rfl, pa, p, _, N + 1, rfl, rfl, S7.same sp, by omega, upd_same, (S7.ne hp).symm, by simp, by simp, fun w G hw SG kG => ?_⟩
    have : ∃ q', w = .str (S q') ∧ q' ≠ [] ∧ q'.length ≤ 11470 := by
      simp only [List.mem_cons, List.not_mem_nil, or_false] at hw
      rcases hw with h | h | h | h | h | h | h
      · exact ⟨_, h, by simp, by simp⟩
      · exact ⟨_, h, by simp, by simp⟩
      · exact ⟨_, h, by simp, by simp⟩
      · exact ⟨_, h, by simp, by simp⟩
      · exact ⟨_, h, by simp, by simp⟩
      · exact ⟨_, h, by simp, by simp⟩
      · exact ⟨_, h, fun z => by rw [z] at lS; simp at lS; omega, by omega⟩
    obtain ⟨q', rfl, nq, lq⟩ := this
    walk_at "sx"
    rw [S_len, S_len, S_cat]
    exact ⟨by omega, _, rfl, q', rfl, nq, lq, (But.of sp).trans kG, SG⟩
  rintro _ H8 ⟨m, q', rfl, rfl, nq, lq, b8, S8⟩
  have c3 := vo_more hwf (by omega) nq
  walk_at "sx"
  refine ⟨_, rfl, sl d ++ q', rfl, by simp; omega, fun G9 s9 => ?_⟩
  rw [c3]
  refine ⟨_, rfl, ?_⟩
  rw [if_pos (by simp [isOk])]
  refine ⟨_, rfl, sl d ++ q', rfl, by simp; omega, ?_⟩
  rw [c3]
  intro G10 s10
  rw [S_len]
  refine ⟨by omega, ?_⟩
  simp only [RS.eq_ii, decide_true]
  exact q G10 (((((But.of (sH4.trans s5)).trans b6).trans (But.of s7)).trans b8).trans (But.of (s9.trans s10))) (S8.same (s9.trans s10))
end


/-! two values are told apart -/
theorem spell_inj {d e : PyData} (h : wf d) (hd : d.depth ≤ 20) (h' : wf e) (hd' : e.depth ≤ 20) (q : spell d = spell e) : d = e := by
  rw [spell_S, spell_S] at q
  exact (sl_front h hd h' hd' (q := []) (by rw [List.append_nil]; exact S_inj q)).2
/-- no text is a front of another one -/
theorem no_front {d e : PyData} (h : wf d) (hd : d.depth ≤ 20) (h' : wf e) (hd' : e.depth ≤ 20) (n : d ≠ e) : (sl e).take (sl d).length ≠ sl d := fun z => by
  have t : sl d ++ (sl e).drop (sl d).length = (sl e).take (sl d).length ++ (sl e).drop (sl d).length := by rw [z]
  exact n (sl_front h hd h' hd' (t.trans (List.take_append_drop ..))).2
section
variable {g : Wd} {f : Addr} {fd : FuncData}
theorem sc_l_pair_right : FnScope ["_law_early", "_law_late", "_law_due", "_law_near", "_law_far"] ["_law_early", "_law_late"] (defScope s_l_pair_right) := ⟨rfl, rfl, rfl, by decide +kernel, rfl, by decide +kernel, by decide +kernel⟩
def sp_pright : Sp := S2 fun v w H Q _ => ∃ d e fp fq, Tr H v d fp ∧ Tr H w e fq ∧ smB d = true ∧ smB e = true ∧ d.depth ≤ 4 ∧ e.depth ≤ 4 ∧ ∀ H', Same H H' → Q (.bl true) H'
theorem ok_pright (SM : SmB g.base) (F : Df g.K "_law_pair_right" "_law_pair_right" s_l_pair_right f fd .none) (T : Txt g) (F_text_of : Kn g "text_of" 11 ["value"] [] sp_text)
    (F_same : Kn g "same" 11 ["one", "other"] [] (SpOr sp_same sp_sameN)) (KK_same : Kk g "same" 11 ["one", "other"] ["other", "one"] [1, 0] (SpOr sp_same sp_sameN)) : FnG g 12 f fd ["_law_early", "_law_late"] sp_pright := by
  refine F.ok sc_l_pair_right (fun vs H Q E h => S2.len h) (fun cdv A outer s H vs Q E hr h => ?_)
  obtain ⟨v, w, rfl, d, e, fp, fq, hv, hw, sm1, sm2, dp1, dp2, q⟩ := h
  have ok1 := ok_sm d sm1
  have ok2 := ok_sm e sm2
  have z1 := spell_le d 4 sm1 dp1
  have z2 := spell_le e 4 sm2 dp2
  have w4 : W 4 = 46030 := by decide
  have g1 := (g_of d sm1).1
  have g2 := (g_of e sm2).1
  have wf1 := Tr.wf hv ok1
  have wf2 := Tr.wf hw ok2
  obtain ⟨a1, a2, a3⟩ := fits g1 dp1 (by decide)
  obtain ⟨b1, b2, b3⟩ := fits g2 dp2 (by decide)
  have sh : decide (d.shown = e.shown) = decide (spell d = spell e) := by
    refine decide_eq_decide.mpr ⟨fun z => by rw [shown_inj g1 g2 z], fun z => by rw [spell_inj wf1 (by omega) wf2 (by omega) z]⟩
  have sp' : decide (spell e = spell d) = decide (spell d = spell e) := decide_eq_decide.mpr eq_comm
  have de : decide (spell d = spell e) = false → d ≠ e := fun h z => by rw [z] at h; simp at h
  have sS : decide (S (sl d) = S (sl e)) = decide (spell d = spell e) := by rw [spell_S, spell_S]
  refine ⟨_, (pss_mid (ps_set (i := 2) sc_l_pair_right.nd rfl (Or.inl rfl) (pe_cmpR (o_eq (K := g.K) hr) (pe_callB (c_reprV (K := g.K) (base := g.base) SM hr) (by rfl) T.b_repr bb_repr (pa_cons (pv 0) pa_nil)) (pe_callB (c_reprV (K := g.K) (base := g.base) SM hr) (by rfl) T.b_repr bb_repr (pa_cons (pv 1) pa_nil)) (nomark _)))
      (pss_mid (ps_if (pt_cmpR (o_ne (K := g.K) hr) (pe_callB (c_reprV (K := g.K) (base := g.base) SM hr) (by rfl) T.b_repr bb_repr (pa_cons (pe_lst (pa_cons (pe_callG F_same (hr.mono (by first | decide | omega)) tkD (pa_cons (pv 0) (pa_cons (pv 1) pa_nil))) (pa_cons (RS.pe_callK KK_same (hr.mono (by first | decide | omega)) tkD (L2.pk_cons (pv 0) (L2.pk_cons (pv 1) L2.pk_nil))) (pa_cons (pe_callG F_same (hr.mono (by first | decide | omega)) tkD (pa_cons (pv 0) (pa_cons (pv 0) pa_nil))) pa_nil)))) pa_nil)) (pe_callB (c_reprV (K := g.K) (base := g.base) SM hr) (by rfl) T.b_repr bb_repr (pa_cons (pe_lst (pa_cons (pv 2) (pa_cons (pv 2) (pa_cons pe_bl pa_nil)))) pa_nil)) (nomark _)) (pss_one (ps_ret pe_bl)) pss_nil)
      (pss_mid (ps_par (i := 3) (j := 4) (by rfl) sc_l_pair_right.nd rfl rfl (by decide) rfl rfl (pa_cons (pe_callG F_text_of (hr.mono (by first | decide | omega)) tkD (pa_cons (pv 0) pa_nil)) (pa_cons (pe_callG F_text_of (hr.mono (by first | decide | omega)) tkD (pa_cons (pv 1) pa_nil)) pa_nil)) (by rfl))
      (pss_one (ps_ret (pe_and (pe_cmpR (o_eq (K := g.K) hr) (pe_cmpR (o_eq (K := g.K) hr) (pv 3) (pv 4) (nomark _)) (pv 2) (nomark _)) (pe_one (pe_or (pv 2) (pe_one (pe_and (pe_cmpR (o_ne (K := g.K) hr) (pe_slice (o_sl (K := g.K)) (pv 3) po_none (po_some (pe_callB (c_len (K := g.K)) (by rfl) T.b_len bb_len (pa_cons (pv 4) pa_nil)))) (pv 4) (nomark _)) (pe_one (pe_cmpR (o_ne (K := g.K) hr) (pe_slice (o_sl (K := g.K)) (pv 4) po_none (po_some (pe_callB (c_len (K := g.K)) (by rfl) T.b_len bb_len (pa_cons (pv 3) pa_nil)))) (pv 3) (nomark _))))))))))))), ?_⟩
  refine mid_at (fun σ G => σ = [some v, some w, some (.bl (decide (spell d = spell e))), none, none] ∧ Same H G) ?_ ?_
  · walk_at "sx"
    refine ⟨_, _, rfl, hv.dp, a1, a2, by rw [sizeLine_eq]; exact a3, ?_⟩
    refine ⟨_, _, rfl, hw.dp, b1, b2, by rw [sizeLine_eq]; exact b3, ?_⟩
    simp only [RS.eq_ss]
    rw [sh]
    exact ⟨rfl, Same.refl _⟩
  rintro _ H0 ⟨rfl, s0⟩
  refine mid_at (fun σ G => σ = [some v, some w, some (.bl (decide (spell d = spell e))), none, none] ∧ Same H G) ?_ ?_
  · walk_at "sx"
    refine .inl ⟨_, _, rfl, d, e, fp, fq, hv.same s0, hw.same s0, ok1, ok2, by omega, by omega, by omega, by omega, fun G1 s1 => ?_⟩
    have s01 := s0.trans s1
    refine .inl ⟨_, _, rfl, e, d, fq, fp, hw.same s01, hv.same s01, ok2, ok1, by omega, by omega, by omega, by omega, fun G2 s2 => ?_⟩
    have s02 := s01.trans s2
    refine .inl ⟨_, _, rfl, d, d, fp, fp, hv.same s02, hv.same s02, ok1, ok1, by omega, by omega, by omega, by omega, fun G3 s3 => ?_⟩
    have dt : decide (spell d = spell d) = true := by simp
    rw [sp', dt]
    generalize decide (spell d = spell e) = b
    intro p1 h1
    have t1 := same_upd (o := HO.lst [.bl b, .bl b, .bl true]) h1
    have c1 : (PyData.list [.bool b, .bool b, .bool true]).showable = true ∧ (PyData.list [.bool b, .bool b, .bool true]).depth ≤ 60 ∧ (PyData.list [.bool b, .bool b, .bool true]).shown.length ≤ sizeLine := by cases b <;> decide +kernel
    refine ⟨_, _, rfl, .lst (SqL.of upd_same) (.cons (.bl b) (.cons (.bl b) (.cons (.bl true) .nil))), c1.1, c1.2.1, c1.2.2, fun p2 h2 => ?_⟩
    have t2 := same_upd (o := HO.lst [.bl b, .bl b, .bl true]) h2
    refine ⟨_, _, rfl, .lst (SqL.of upd_same) (.cons (.bl b) (.cons (.bl b) (.cons (.bl true) .nil))), c1.1, c1.2.1, c1.2.2, ?_⟩
    simp only [ne_ss]
    refine ⟨_, rfl, ?_⟩
    rw [if_neg (by simp)]
    exact (s02.trans s3).trans (t1.trans t2)
  rintro _ H1 ⟨rfl, s1⟩
  refine mid_at (fun σ G => σ = [some v, some w, some (.bl (decide (spell d = spell e))), some (.str (S (sl d))), some (.str (S (sl e)))] ∧ Same H1 G) ?_ ?_
  · walk_at "sx"
    refine ⟨_, rfl, d, fp, hv.same s1, ok1, by omega, by omega, fun G2 s2 => ?_⟩
    refine ⟨_, rfl, e, fq, hw.same (s1.trans s2), ok2, by omega, by omega, fun G3 s3 => ?_⟩
    rw [spell_S, spell_S]
    exact ⟨rfl, rfl, s2.trans s3⟩
  rintro _ H2 ⟨rfl, s2⟩
  walk_at "sx"
  rw [sS, if_pos (by simp)]
  have l1 : (sl d).length = (spell d).length := by rw [spell_S, S_len]
  have l2 : (sl e).length = (spell e).length := by rw [spell_S, S_len]
  cases hb : decide (spell d = spell e) with
  | true => rw [if_pos rfl]; exact q _ (s1.trans s2)
  | false =>
    have n := de hb
    have n1 := no_front wf1 (by omega) wf2 (by omega) n
    have n2 := no_front wf2 (by omega) wf1 (by omega) (Ne.symm n)
    rw [if_neg (by simp)]
    simp only [S_len, cut_to _ (Int.natCast_nonneg _), Int.toNat_natCast, S_eq]
    refine ⟨by omega, by omega, ?_⟩
    rw [decide_eq_false n2, decide_eq_false n1, if_pos (by decide)]
    exact ⟨by omega, by omega, q _ (s1.trans s2)⟩
end


/-! the law -/
def szB : Nat → Nat
  | 0 => 1
  | n + 1 => 1 + 3 * szB n
theorem szB_pos (n : Nat) : 1 ≤ szB n := by cases n <;> simp only [szB] <;> omega
mutual
theorem sz_small : ∀ (d : PyData) (n : Nat), smB d = true → d.depth ≤ n → sz d ≤ szB n
  | .none, n, _, _ => szB_pos n
  | .bool _, n, _, _ => szB_pos n
  | .int _, n, _, _ => szB_pos n
  | .str _, n, _, _ => szB_pos n
  | .list ds, 0, _, h => by simp only [PyData.depth] at h; omega
  | .list ds, n + 1, sm, h => by
    simp only [smB, Bool.and_eq_true, decide_eq_true_eq] at sm
    have := szs_small ds n sm.2 (by simp only [PyData.depth] at h; omega)
    have : ds.length * szB n ≤ 3 * szB n := Nat.mul_le_mul_right _ sm.1
    simp only [sz, szB]; omega
  | .tuple ds, 0, _, h => by simp only [PyData.depth] at h; omega
  | .tuple ds, n + 1, sm, h => by
    simp only [smB, Bool.and_eq_true, decide_eq_true_eq] at sm
    have := szs_small ds n sm.2 (by simp only [PyData.depth] at h; omega)
    have : ds.length * szB n ≤ 3 * szB n := Nat.mul_le_mul_right _ sm.1
    simp only [sz, szB]; omega
  | .dict D, 0, _, h => by simp only [PyData.depth] at h; omega
  | .dict D, n + 1, sm, h => by
    simp only [smB, Bool.and_eq_true, decide_eq_true_eq] at sm
    have := szKv_small D n sm.2 (by simp only [PyData.depth] at h; omega)
    have : D.length * szB n ≤ 3 * szB n := Nat.mul_le_mul_right _ sm.1
    simp only [sz, szB]; omega
theorem szs_small : ∀ (ds : List PyData) (n : Nat), smAll ds = true → PyData.depthAll ds ≤ n → szs ds ≤ ds.length * szB n
  | [], n, _, _ => by simp [szs]
  | d :: ds, n, sm, h => by
    simp only [smAll, Bool.and_eq_true] at sm
    simp only [PyData.depthAll] at h
    have h1 := sz_small d n sm.1 (by omega)
    have h2 := szs_small ds n sm.2 (by omega)
    simp only [szs, List.length_cons, Nat.add_mul]
    omega
theorem szKv_small : ∀ (D : List (PyData × PyData)) (n : Nat), smKv D = true → PyData.depthKv D ≤ n → szKv D ≤ D.length * szB n
  | [], n, _, _ => by simp [szKv]
  | (k, d) :: ds, n, sm, h => by
    simp only [smKv, Bool.and_eq_true] at sm
    simp only [PyData.depthKv] at h
    have h1 := sz_small d n sm.1.2 (by omega)
    have h2 := szKv_small ds n sm.2 (by omega)
    simp only [szKv, List.length_cons, Nat.add_mul]
    omega
end
/-- a row of two different values -/
def RowOk (H : Hp) (x : V) : Prop := ∃ t v w d e fp fq, x = .ref t ∧ H t = some (.tup [v, w]) ∧ Tr H v d fp ∧ Tr H w e fq ∧ smB d = true ∧ smB e = true ∧ d.depth ≤ 4 ∧ e.depth ≤ 4 ∧ spell d ≠ spell e
theorem RowOk.same {H H' : Hp} {x : V} (s : Same H H') (h : RowOk H x) : RowOk H' x := by
  obtain ⟨t, v, w, d, e, fp, fq, rfl, h1, h2, h3, h4⟩ := h
  exact ⟨t, v, w, d, e, fp, fq, rfl, s _ _ h1, h2.same s, h3.same s, h4⟩
theorem Str3.nin {H G : Hp} {p : Addr} {N : Nat} {F : List Addr} (h : Str3 H p N) (n : ∀ c ∈ F, H c = none) : p ∉ F := fun z => by
  obtain ⟨_, _, _, h1, _⟩ := h; rw [n p z] at h1; cases h1
theorem Str3.nt {H : Hp} {p : Addr} {N : Nat} (h : Str3 H p N) : ∀ ys, H p ≠ some (.tup ys) := fun ys z => by
  obtain ⟨_, _, _, h1, _⟩ := h; rw [h1] at z; cases z
theorem disp_new {G : Hp} {b : Addr} {ks : List (Key × V)} (h : G b = none) : Same G (upd (upd G b (HO.dK [])) b (HO.dK ks)) := fun c u e => by rw [upd_ne (ne_of_none e h), upd_ne (ne_of_none e h)]; exact e
section
variable {g : Wd} {f : Addr} {fd : FuncData}
theorem sc_law : FnScope ["_law_script", "_law_k", "_law_item", "_law_stream_here", "_law_turn", "_law_early", "_law_late", "_law_place", "_law_rows", "_law_row"] ["_law_script"] (defScope s_law) := ⟨rfl, rfl, rfl, by decide +kernel, rfl, by decide +kernel, by decide +kernel⟩
def sp_law (K : PySem.W.Frag) : Sp := S1 fun v H Q _ => ∃ (a : Addr) (ns : List Int), v = .ref a ∧ SqL K H a (ns.map V.int) ∧ ns.length ≤ 63 ∧ ∀ H', Q (.bl true) H'
/-- what stands at a turn -/
theorem ok_law (F : Df g.K "law" "law" s_law f fd .none) (T : Txt g) (F_l_stream : Kn g "_law_stream" 2 ["_law_item", "_law_k"] [] sp_stream) (F_l_value : Kn g "_law_value" 9 ["_law_stream_here", "_law_deep"] [] (sp_value 4)) (F_l_draw : Kn g "_law_draw" 2 ["_law_stream_here", "_law_top"] [] sp_draw)
    (F_l_pick : Kn g "_law_pick" 3 ["_law_stream_here", "_law_some"] [] sp_pick) (F_l_parts : Kn g "_law_parts" 2 ["_law_worth"] [] sp_lparts) (F_l_put : Kn g "_law_put" 5 ["_law_worth", "_law_path", "_law_part"] [] (sp_put 5))
    (F_l_text_right : Kn g "_law_text_right" 50 ["_law_stream_here", "_law_worth"] [] sp_tright) (F_l_pair_right : Kn g "_law_pair_right" 12 ["_law_early", "_law_late"] [] sp_pright) (F_same : Kn g "same" 11 ["one", "other"] [] (SpOr sp_same sp_sameN)) : FnG g 51 f fd ["_law_script"] (sp_law g.K) := by
  refine F.ok sc_law (fun vs H Q E h => S1.len h) (fun cdv A outer s H vs Q E hr h => ?_)
  obtain ⟨_, rfl, a, ns, rfl, hA, hl, q⟩ := h
  refine ⟨_, (pss_mid (ps_for psD rfl (i_enum (K := g.K) T.b_enumerate (pa_cons (pe_slice (o_sl (K := g.K)) (pe_op (op_catW (K := g.K)) (pv 0) (pe_lst (pa_cons pe_int pa_nil))) po_none (po_some pe_int)) pa_nil)) (g_tup (K := g.K) (n := 2) (pgs_cons (pg_name (i := 1) sc_law.nd rfl (.inl rfl)) (pgs_cons (pg_name (i := 2) sc_law.nd rfl (.inl rfl)) pgs_nil))) (pss_mid (ps_set (i := 3) sc_law.nd rfl (Or.inl rfl) (pe_callG F_l_stream (hr.mono (by first | decide | omega)) tkD (pa_cons (pv 2) (pa_cons (pv 1) pa_nil))))
      (pss_one (ps_for psD rfl (pi_range1 rfl T.b_range (pa_cons pe_int pa_nil)) (pg_name (i := 4) sc_law.nd rfl (.inl rfl)) (pss_mid (ps_par (i := 5) (j := 6) (by rfl) sc_law.nd rfl rfl (by decide) rfl rfl (pa_cons (pe_callG F_l_value (hr.mono (by first | decide | omega)) tkD (pa_cons (pv 3) (pa_cons pe_int pa_nil))) (pa_cons (pe_callG F_l_value (hr.mono (by first | decide | omega)) tkD (pa_cons (pv 3) (pa_cons pe_int pa_nil))) pa_nil)) (by rfl))
      (pss_mid (ps_if (pt_cmpR op_gt (pe_callG F_l_draw (hr.mono (by first | decide | omega)) tkD (pa_cons (pv 3) (pa_cons pe_int pa_nil))) pe_int (nomark _)) (pss_mid (ps_set (i := 7) sc_law.nd rfl (Or.inl rfl) (pe_ix (o_ix (K := g.K)) (pe_callG F_l_pick (hr.mono (by first | decide | omega)) tkD (pa_cons (pv 3) (pa_cons (pe_callG F_l_parts (hr.mono (by first | decide | omega)) tkD (pa_cons (pv 5) pa_nil)) pa_nil))) pe_int (fun _ _ => rfl)))
      (pss_one (ps_set (i := 6) sc_law.nd rfl (Or.inl rfl) (pe_callG F_l_put (hr.mono (by first | decide | omega)) tkD (pa_cons (pv 5) (pa_cons (pv 7) (pa_cons (pe_callG F_l_value (hr.mono (by first | decide | omega)) tkD (pa_cons (pv 3) (pa_cons pe_int pa_nil))) pa_nil))))))) pss_nil)
      (pss_mid (ps_if (PW.pt (pw_or (pt_not (pt_val (pe_callG F_l_text_right (hr.mono (by first | decide | omega)) tkD (pa_cons (pv 3) (pa_cons (pv 5) pa_nil))))) (pw_or1 (pt_not (pt_val (pe_callG F_l_pair_right (hr.mono (by first | decide | omega)) tkD (pa_cons (pv 5) (pa_cons (pv 6) pa_nil)))))))) (pss_one (ps_ret pe_bl)) pss_nil)
      (pss_one (ps_if (PW.pt (pw_or (pt_cmpR op_notB (pe_callG F_same (hr.mono (by first | decide | omega)) tkD (pa_cons (pe_disp (pps_cons pe_int pe_int pps_nil) (by rfl) (by rfl) (fun z => by cases z) (by decide)) (pa_cons (pe_disp (pps_cons pe_int pe_int pps_nil) (by rfl) (by rfl) (fun z => by cases z) (by decide)) pa_nil))) pe_bl (nomark _)) (pw_or1 (pt_cmpR op_notB (pe_callG F_same (hr.mono (by first | decide | omega)) tkD (pa_cons (pv 5) (pa_cons (pe_lst (pa_cons (pe_disp (pps_cons pe_int (pv 5) pps_nil) (by rfl) (by rfl) (fun z => by cases z) (by decide)) pa_nil)) pa_nil))) pe_bl (nomark _))))) (pss_one (ps_ret pe_bl)) pss_nil)))))))))
      (pss_mid (ps_set (i := 8) sc_law.nd rfl (Or.inl rfl) (pe_lst (pa_cons (pe_tup (pa_cons pe_int (pa_cons pe_bl pa_nil))) (pa_cons (pe_tup (pa_cons pe_int (pa_cons pe_bl pa_nil))) (pa_cons (pe_tup (pa_cons (pe_lst (pa_cons pe_int pa_nil)) (pa_cons (pe_tup (pa_cons pe_int pa_nil)) pa_nil))) (pa_cons (pe_tup (pa_cons pe_str (pa_cons pe_non pa_nil))) (pa_cons (pe_tup (pa_cons (pe_disp (pps_cons pe_str pe_int (pps_cons pe_str pe_int pps_nil)) (by rfl) (by rfl) (fun z => by cases z) (by decide)) (pa_cons (pe_disp (pps_cons pe_str pe_int (pps_cons pe_str pe_int pps_nil)) (by rfl) (by rfl) (fun z => by cases z) (by decide)) pa_nil))) (pa_cons (pe_tup (pa_cons (pe_lst pa_nil) (pa_cons pe_dnewK pa_nil))) (pa_cons (pe_tup (pa_cons pe_str (pa_cons pe_int pa_nil))) pa_nil)))))))))
      (pss_one (ps_ret (pe_and (pe_cmpR (o_eq (K := g.K) hr) (pe_lc (own := [("_law_row", 9)]) rfl sc_law.nd (i_list (K := g.K) (pv 8)) (blkOk_by (own := [("_law_row", 9)]) (N := ["_law_script", "_law_k", "_law_item", "_law_stream_here", "_law_turn", "_law_early", "_law_late", "_law_place", "_law_rows", "_law_row"]) (sc := defScope s_law) (by decide +kernel)) (fun _ _ _ _ _ => (pg_name (i := 9) sc_law.nd rfl (.inl rfl))) (fun _ _ _ _ _ => (pts_one (pt_cmpR op_notB (pe_callG F_same (Rm.mono (Rm.mk hr.room hr.gd) (by first | decide | omega)) takes0 (pa_cons (pe_ix (o_ix (K := g.K)) (pv 9) pe_int (fun _ _ => rfl)) (pa_cons (pe_ix (o_ix (K := g.K)) (pv 9) pe_int (fun _ _ => rfl)) pa_nil))) pe_bl (nomark _)))) (fun _ _ _ _ _ => (pv 9))) (pe_lst pa_nil) (nomark _)) (pe_one (pe_cmpR op_isB (pe_callG F_same (hr.mono (by first | decide | omega)) tkD (pa_cons (pe_disp (pps_cons pe_str (pe_tup (pa_cons pe_int pa_nil)) pps_nil) (by rfl) (by rfl) (fun z => by cases z) (by decide)) (pa_cons (pe_disp (pps_cons pe_str (pe_tup (pa_cons pe_int pa_nil)) pps_nil) (by rfl) (by rfl) (fun z => by cases z) (by decide)) pa_nil))) pe_bl (nomark _)))))))), ?_⟩
  refine mid_at (fun σ H' => ∃ v1 v2 v3 v4 v5 v6 v7, σ = [some (.ref a), v1, v2, v3, v4, v5, v6, v7, none, none]) ?_ ?_
  · walk_at "sx"
    intro p0 hp0
    refine ⟨a, p0, _, _, rfl, rfl, sq_same hA (same_upd hp0), SqL.of upd_same, by rw [sizeLine_eq, List.length_map]; simp; omega, fun p1 hp1 => ?_⟩
    refine .inl ⟨p1, _, rfl, SqL.of upd_same, fun L hL => ⟨L, rfl, _, SqL.of upd_same, ?_⟩⟩
    rw [cutV_to _ (by decide)]
    have eL : (upd (upd (upd H p0 (HO.lst [V.int 0])) p1 (HO.lst (List.map V.int ns ++ [V.int 0]))) L (HO.lst ((List.map V.int ns ++ [V.int 0]).take (Int.toNat 8)))) L = some (.lst (((ns ++ [0]).take 8).map V.int)) := by rw [upd_same]; simp
    generalize (upd (upd (upd H p0 (HO.lst [V.int 0])) p1 (HO.lst (List.map V.int ns ++ [V.int 0]))) L (HO.lst ((List.map V.int ns ++ [V.int 0]).take (Int.toNat 8)))) = G at eL ⊢
    have l8 : ((ns ++ [0]).take 8).length ≤ 8 := by simp; omega
    generalize (ns ++ [0]).take 8 = cs at eL l8 ⊢
    have gt : ∀ i : Nat, i < cs.length → (cs.map V.int)[i]? = some (.int (cs[i]?.getD 0)) := fun i h => by simp [h]
    refine for_by cs.length (fun i σ H' => (∃ v1 v2 v3 v4 v5 v6 v7, σ = [some (.ref a), v1, v2, v3, v4, v5, v6, v7, none, none]) ∧ H' L = some (.lst (cs.map V.int))) ⟨⟨_, _, _, _, _, _, _, rfl⟩, eL⟩ (fun i σ H1 lt P => ⟨_, _, SqL.of P.2, gt i lt⟩) (fun σ H1 P => ⟨_, SqL.of P.2, by simp⟩) (fun i σ H3 x H4 lt P yl => ?_) (fun σ H3 P => ?_)
    · obtain ⟨⟨v1, v2, v3, v4, v5, v6, v7, rfl⟩, eL⟩ := P
      obtain ⟨T', z, rfl, hT, rfl, hz⟩ := yl
      have hz := hz _ (SqL.of eL)
      rw [gt i lt] at hz
      obtain rfl : V.int (cs[i]?.getD 0) = z := by simpa using hz
      generalize (cs[i]?.getD 0) = c at hz ⊢
      have hi : i < 8 := by omega
      have s4 : Same H3 (upd H3 T' (.tup [.int (i : Nat), .int c])) := same_upd hT
      have eL4 := s4 _ _ eL
      walk_at "sx"
      refine ⟨_, SqT.of upd_same, rfl, ?_⟩
      walk_at "sx"
      generalize upd H3 T' (.tup [.int (i : Nat), .int c]) = G4 at s4 eL4 ⊢
      refine mid_at (fun σ H' => ∃ p, σ = [some (.ref a), some (.int (i : Nat)), some (.int c), some (.ref p), v4, v5, v6, v7, none, none] ∧ H' L = some (.lst (cs.map V.int)) ∧ L ≠ p ∧ Str3 H' p 0) ?_ ?_
      · walk_at "sx"
        refine ⟨_, _, rfl, c, i, rfl, rfl, by omega, by omega, fun p H' n' s' h' => ?_⟩
        exact ⟨p, rfl, s' _ _ eL4, (fun e => by rw [← e, eL4] at n'; cases n'), h'⟩
      rintro _ H5 ⟨p, rfl, eL5, Lp, S5⟩
      walk_at "sx"
      refine ⟨by decide, by decide, ?_⟩
      have c3 : cst 3 = 212 := by decide
      have c1 : cst 1 ≤ 212 := by decide
      refine for_by 3 (fun t σ G => (∃ v4 v5 v6 v7, σ = [some (.ref a), some (.int (i : Nat)), some (.int c), some (.ref p), v4, v5, v6, v7, none, none]) ∧ G L = some (.lst (cs.map V.int)) ∧ Str3 G p (t * 1000)) ⟨⟨_, _, _, _, rfl⟩, eL5, S5.up (Nat.zero_le _)⟩ (fun i σ G lt P => by simpa [Itr] using lt) (fun σ G P => by simp [Itr]) (fun t σ G x G1 lt P yl => ?_) (fun σ G P => ?_)
      · obtain ⟨⟨v4, v5, v6, v7, rfl⟩, eLG, S6⟩ := P
        obtain ⟨rfl, rfl⟩ := yl
        walk_at "sx"
        refine mid_at (fun σ G2 => ∃ ve vl d e fe fl, σ = [some (.ref a), some (.int (i : Nat)), some (.int c), some (.ref p), some (.int (0 + t)), some ve, some vl, v7, none, none] ∧ G2 L = some (.lst (cs.map V.int)) ∧ Str3 G2 p (t * 1000 + 500) ∧ Tr G2 ve d fe ∧ Tr G2 vl e fl ∧ smB d = true ∧ smB e = true ∧ d.depth ≤ 3 ∧ e.depth ≤ 3 ∧ p ∉ fe ∧ p ∉ fl) ?_ ?_
        · walk_at "sx"
          refine ⟨_, _, rfl, p, t * 1000, 3, rfl, rfl, by decide, by decide, S6, by omega, fun ve d fe G2 te sm1 dp1 nf1 S7 b7 => ?_⟩
          refine ⟨_, _, rfl, p, t * 1000 + cst 3, 3, rfl, rfl, by decide, by decide, S7, by omega, fun vl e fl G3 tl sm2 dp2 nf2 S8 b8 => ?_⟩
          have np1 := Str3.nin (G := G2) S6 nf1
          have np2 := Str3.nin (G := G2) S7 nf2
          exact ⟨b8 _ _ Lp (b7 _ _ Lp eLG), S8.up (by omega), d, e, fe, te.but S7.nt b8 np1, fl, tl, sm1, sm2, dp1, dp2, np1, np2⟩
        rintro _ G2 ⟨ve, vl, d, e, fe, fl, rfl, eL2, S2, te, tl, sm1, sm2, dp1, dp2, np1, np2⟩
        refine mid_at (fun σ G3 => ∃ vl v7 e fl, σ = [some (.ref a), some (.int (i : Nat)), some (.int c), some (.ref p), some (.int (0 + t)), some ve, some vl, v7, none, none] ∧ G3 L = some (.lst (cs.map V.int)) ∧ Str3 G3 p (t * 1000 + 900) ∧ Tr G3 ve d fe ∧ Tr G3 vl e fl ∧ smB e = true ∧ e.depth ≤ 4 ∧ p ∉ fl) ?_ ?_
        · walk_at "sx"
          refine ⟨_, _, rfl, p, t * 1000 + 500, 3, rfl, rfl, by decide, by decide, S2, by omega, fun r G3 r0 r1 S3 b3 => ?_⟩
          have te3 := te.but S2.nt b3 np1
          have tl3 := tl.but S2.nt b3 np2
          have eL3 := b3 _ _ Lp eL2
          walk_at "sx"
          split
          · refine mid_at (fun σ G4 => ∃ pp ps x, σ = [some (.ref a), some (.int (i : Nat)), some (.int c), some (.ref p), some (.int (0 + t)), some ve, some vl, some (.ref pp), none, none] ∧ But p G3 G4 ∧ Str3 G4 p (t * 1000 + 502) ∧ G4 pp = some (.tup ps) ∧ Atp d ps x) ?_ ?_
            · walk_at "sx"
              have le := spell_le d 3 sm1 dp1
              have w3 : W 3 = 11470 := by decide
              refine ⟨_, rfl, d, fe, te3, ok_sm d sm1, by omega, by omega, fun Lp' fs qq G4 s4 nL eLp pr mk pth lq => ?_⟩
              have z0 := sz_pos d
              have z1 := sz_small d 3 sm1 dp1
              have z2 : szB 3 = 40 := by decide
              have lf := pr.1
              refine ⟨_, _, rfl, p, Lp', fs, t * 1000 + 501, rfl, rfl, S3.same s4, by omega, eLp, (S3.ne nL).symm, by omega, by omega, fun v G5 hv S5 b5 => ?_⟩
              obtain ⟨j, hj, ej⟩ := List.getElem_of_mem hv
              obtain ⟨pp, xx, hp⟩ : ∃ pp xx, qq[j]? = some (pp, xx) := ⟨_, _, List.getElem?_eq_getElem (by omega)⟩
              obtain ⟨tt, ht, ett⟩ := pr.2 j pp xx hp
              rw [List.getElem?_eq_getElem hj, ej] at ht
              obtain rfl := Option.some.inj ht
              obtain ⟨e', pa, ps, epp, epa, atp⟩ := pth _ (List.mem_of_getElem? hp)
              simp only at epp
              subst epp
              have tp : ∀ c ys, G4 c = some (.tup ys) → G5 c = some (.tup ys) := fun c ys z => b5 c _ (fun y => (S3.same s4).nt ys (y ▸ z)) z
              walk_at "sx"
              refine ⟨_, .inr (SqT.of (tp _ _ ett)), _, atI_nat (j := 0) rfl, pa, rfl, (But.of s4).trans b5, S5, ps, tp _ _ epa, e', atp⟩
            rintro _ G4 ⟨pp, ps, x, rfl, b4, S4, epp, atp⟩
            have te4 := te3.but S3.nt b4 np1
            walk_at "sx"
            refine ⟨_, _, rfl, p, t * 1000 + 502, 1, rfl, rfl, by decide, by decide, S4, by omega, fun w e1 fw G5 tw smw dpw nfw S5 b5 => ?_⟩
            have npw := Str3.nin (G := G4) S4 nfw
            have epp5 := b5 pp _ (fun y => S4.nt ps (y ▸ epp)) epp
            have ln := atp.len
            refine ⟨_, _, _, rfl, d, fe, pp, ps, x, e1, fw, te4.but S4.nt b5 np1, sm1, rfl, epp5, atp, tw, smw, by omega, fun v' d' f' G6 s6 t6 sm6 d6 sub6 => ?_⟩
            refine ⟨s6 _ _ (b5 _ _ Lp (b4 _ _ Lp eL3)), (S5.same s6).up (by omega), (te4.but S4.nt b5 np1).same s6, d', f', t6, sm6, by omega, fun z => ?_⟩
            rcases sub6 p z with y | y | y
            · exact np1 y
            · exact npw y
            · obtain ⟨_, _, _, h1, _⟩ := S5; rw [h1] at y; cases y
          · exact ⟨eL3, S3.up (by omega), te3, e, fl, tl3, sm2, by omega, np2⟩
        rintro _ G3 ⟨vl, v7, e, fl, rfl, eL3, S3, te3, tl3, sm3, dp3, np3⟩
        refine mid_at (fun σ G4 => σ = [some (.ref a), some (.int (i : Nat)), some (.int c), some (.ref p), some (.int (0 + t)), some ve, some vl, v7, none, none] ∧ G4 L = some (.lst (cs.map V.int)) ∧ Str3 G4 p (t * 1000 + 902) ∧ Tr G4 ve d fe) ?_ ?_
        · walk_at "sx"
          refine ⟨_, _, rfl, p, t * 1000 + 900, d, fe, rfl, S3, by omega, te3, sm1, dp1, np1, fun G4 b4 S4 => ⟨_, rfl, ?_⟩⟩
          rw [if_neg (by simp)]
          have te4 := te3.but S3.nt b4 np1
          refine ⟨_, _, rfl, d, e, fe, fl, te4, tl3.but S3.nt b4 np3, sm1, sm3, by omega, by omega, fun G5 s5 => ⟨_, rfl, ?_⟩⟩
          rw [if_neg (by simp)]
          exact ⟨s5 _ _ (b4 _ _ Lp eL3), S4.same s5, te4.same s5⟩
        rintro _ G4 ⟨rfl, eL4, S4, te4⟩
        walk_at "sx"
        intro b1 h1
        refine ⟨[(.inl 1, .int 2)], rfl, by simp, fun b2 h2 => ⟨[(.inl 1, .int 2)], rfl, by simp, ?_⟩⟩
        have s1 := disp_new (ks := mergeK [] [((.inl 1 : Key), V.int 2)]) h1
        have s2 := disp_new (ks := mergeK [] [((.inl 1 : Key), V.int 2)]) h2
        have e1 := s2 _ _ (upd_same (H := upd G4 b1 (HO.dK [])) (a := b1) (o := HO.dK (mergeK [] [((.inl 1 : Key), V.int 2)])))
        refine .inr ⟨_, _, rfl, .inl (.inl ⟨b1, 1, .int 2, rfl, e1⟩), fun G5 s5 => ?_⟩
        walk_at "sx"
        intro b3 h3
        refine ⟨[(.inl 2, ve)], rfl, by simp, fun b4 h4 => ?_⟩
        have s3 := disp_new (ks := mergeK [] [((.inl 2 : Key), ve)]) h3
        have s4 := same_upd (o := HO.lst [.ref b3]) h4
        have sx := (s1.trans s2).trans (s5.trans (s3.trans s4))
        have w3 : W 3 = 11470 := by decide
        refine .inr ⟨_, _, rfl, .inr ⟨⟨d, fe, te4.same sx, ok_sm d sm1, by omega⟩, .inr ⟨b4, b3, 2, ve, rfl, upd_same, s4 _ _ upd_same⟩⟩, fun G6 s6 => ?_⟩
        walk_at "sx"
        exact ⟨⟨_, rfl⟩, s6 _ _ (sx _ _ eL4), (S4.same (sx.trans s6)).up (by omega)⟩
      · obtain ⟨⟨v4, v5, v6, v7, rfl⟩, eLG, S6⟩ := P
        exact ⟨⟨_, _, _, _, _, _, _, rfl⟩, eLG⟩
    · obtain ⟨⟨v1, v2, v3, v4, v5, v6, v7, rfl⟩, _⟩ := P
      exact ⟨_, _, _, _, _, _, _, rfl⟩
  rintro _ H1 ⟨v1, v2, v3, v4, v5, v6, v7, rfl⟩
  refine mid_at (fun σ G => ∃ R rows, σ = [some (.ref a), v1, v2, v3, v4, v5, v6, v7, some (.ref R), none] ∧ G R = some (.lst rows) ∧ rows.length = 7 ∧ ∀ x ∈ rows, RowOk G x) ?_ ?_
  · walk_at "sx"
    intro t0 ht0 t1 ht1 a2 ha2 b2 hb2 t2 ht2 t3 ht3 a4 ha4
    refine ⟨[(.inr "a", .int 1), (.inr "b", .int 2)], rfl, by decide, fun b4 hb4 => ⟨[(.inr "b", .int 2), (.inr "a", .int 1)], rfl, by decide, fun t4 ht4 a5 ha5 b5 hb5 t5 ht5 t6 ht6 R hR => ?_⟩⟩
    have s_t0 := same_upd (o := HO.tup [.int 1, .bl true]) ht0
    have s_t1 := same_upd (o := HO.tup [.int 0, .bl false]) ht1
    have s_a2 := same_upd (o := HO.lst [.int 1]) ha2
    have s_b2 := same_upd (o := HO.tup [.int 1]) hb2
    have s_t2 := same_upd (o := HO.tup [.ref a2, .ref b2]) ht2
    have s_t3 := same_upd (o := HO.tup [.str (Str.ofString ""), .non]) ht3
    have s_a4 := disp_new (ks := mergeK [] [((.inr "a" : Key), V.int 1), ((.inr "b" : Key), V.int 2)]) ha4
    have s_b4 := disp_new (ks := mergeK [] [((.inr "b" : Key), V.int 2), ((.inr "a" : Key), V.int 1)]) hb4
    have s_t4 := same_upd (o := HO.tup [.ref a4, .ref b4]) ht4
    have s_a5 := same_upd (o := HO.lst []) ha5
    have s_b5 := same_upd (o := HO.dK []) hb5
    have s_t5 := same_upd (o := HO.tup [.ref a5, .ref b5]) ht5
    have s_t6 := same_upd (o := HO.tup [.str (Str.ofString "1"), .int 1]) ht6
    have s_R := same_upd (o := HO.lst [.ref t0, .ref t1, .ref t2, .ref t3, .ref t4, .ref t5, .ref t6]) hR
    have q_R := s_R
    have q_t6 := s_t6.trans q_R
    have q_t5 := s_t5.trans q_t6
    have q_b5 := s_b5.trans q_t5
    have q_a5 := s_a5.trans q_b5
    have q_t4 := s_t4.trans q_a5
    have q_b4 := s_b4.trans q_t4
    have q_a4 := s_a4.trans q_b4
    have q_t3 := s_t3.trans q_a4
    have q_t2 := s_t2.trans q_t3
    have q_b2 := s_b2.trans q_t2
    have q_a2 := s_a2.trans q_b2
    have q_t1 := s_t1.trans q_a2
    have q_t0 := s_t0.trans q_t1
    have f_t0 := q_t1 _ _ (upd_same (a := t0) (o := HO.tup [.int 1, .bl true]))
    have f_t1 := q_a2 _ _ (upd_same (a := t1) (o := HO.tup [.int 0, .bl false]))
    have f_a2 := q_b2 _ _ (upd_same (a := a2) (o := HO.lst [.int 1]))
    have f_b2 := q_t2 _ _ (upd_same (a := b2) (o := HO.tup [.int 1]))
    have f_t2 := q_t3 _ _ (upd_same (a := t2) (o := HO.tup [.ref a2, .ref b2]))
    have f_t3 := q_a4 _ _ (upd_same (a := t3) (o := HO.tup [.str (Str.ofString ""), .non]))
    have f_a4 := q_b4 _ _ (upd_same (a := a4) (o := HO.dK (mergeK [] [((.inr "a" : Key), V.int 1), ((.inr "b" : Key), V.int 2)])))
    have f_b4 := q_t4 _ _ (upd_same (a := b4) (o := HO.dK (mergeK [] [((.inr "b" : Key), V.int 2), ((.inr "a" : Key), V.int 1)])))
    have f_t4 := q_a5 _ _ (upd_same (a := t4) (o := HO.tup [.ref a4, .ref b4]))
    have f_a5 := q_b5 _ _ (upd_same (a := a5) (o := HO.lst []))
    have f_b5 := q_t5 _ _ (upd_same (a := b5) (o := HO.dK []))
    have f_t5 := q_t6 _ _ (upd_same (a := t5) (o := HO.tup [.ref a5, .ref b5]))
    have f_t6 := q_R _ _ (upd_same (a := t6) (o := HO.tup [.str (Str.ofString "1"), .int 1]))
    intro x hx
    simp only [List.mem_cons, List.not_mem_nil, or_false] at hx
    rcases hx with rfl | rfl | rfl | rfl | rfl | rfl | rfl
    · exact ⟨t0, _, _, .int 1, .bool true, _, _, rfl, f_t0, .int 1, .bl true, by decide +kernel, by decide +kernel, by decide +kernel, by decide +kernel, by simp only [spell, spells, spellKv]; decide +kernel⟩
    · exact ⟨t1, _, _, .int 0, .bool false, _, _, rfl, f_t1, .int 0, .bl false, by decide +kernel, by decide +kernel, by decide +kernel, by decide +kernel, by simp only [spell, spells, spellKv]; decide +kernel⟩
    · exact ⟨t2, _, _, .list [.int 1], .tuple [.int 1], _, _, rfl, f_t2, .lst f_a2 (.cons (.int 1) .nil) (by simp), .tup f_b2 (.cons (.int 1) .nil), by decide +kernel, by decide +kernel, by decide +kernel, by decide +kernel, by simp only [spell, spells, spellKv]; decide +kernel⟩
    · exact ⟨t3, _, _, .str (Str.ofString ""), .none, _, _, rfl, f_t3, .str _, .non, by decide +kernel, by decide +kernel, by decide +kernel, by decide +kernel, by simp only [spell, spells, spellKv]; decide +kernel⟩
    · exact ⟨t4, _, _, .dict [(.str "a", .int 1), (.str "b", .int 2)], .dict [(.str "b", .int 2), (.str "a", .int 1)], _, _, rfl, f_t4, .dct f_a4 (.cons (x := "a") (.int 1) (.cons (x := "b") (.int 2) .nil)) (by simp) (by decide +kernel), .dct f_b4 (.cons (x := "b") (.int 2) (.cons (x := "a") (.int 1) .nil)) (by simp) (by decide +kernel), by decide +kernel, by decide +kernel, by decide +kernel, by decide +kernel, by simp only [spell, spells, spellKv]; decide +kernel⟩
    · exact ⟨t5, _, _, .list [], .dict [], _, _, rfl, f_t5, .lst f_a5 .nil (by simp), .dct f_b5 .nil (by simp) (by simp), by decide +kernel, by decide +kernel, by decide +kernel, by decide +kernel, by simp only [spell, spells, spellKv]; decide +kernel⟩
    · exact ⟨t6, _, _, .str (Str.ofString "1"), .int 1, _, _, rfl, f_t6, .str _, .int 1, by decide +kernel, by decide +kernel, by decide +kernel, by decide +kernel, by simp only [spell, spells, spellKv]; decide +kernel⟩
  rintro _ H2 ⟨R, rows, rfl, eR, lr, hrow⟩
  walk_at "sx"
  refine ⟨⟨_, SqL.of eR⟩, ?_⟩
  refine lc_kept 7 (fun _ => none) (by decide) (fun i G lt sm => ⟨_, rows[i], SqL.of (sm _ _ eR), List.getElem?_eq_getElem (by omega)⟩) (fun G sm => ⟨_, SqL.of (sm _ _ eR), by omega⟩) (fun i G x G' K K0 lt sm y k k0 => ?_) (fun D G hD sm eD => ?_)
  · obtain ⟨rfl, hx⟩ := y
    have hx := hx _ (SqL.of (sm _ _ eR))
    obtain ⟨t, v, w, d, e, fp, fq, rfl, e1, e2, e3, sm1, sm2, d1, d2, ne⟩ := (hrow x (List.mem_of_getElem? hx)).same sm
    refine ⟨rfl, ?_⟩
    walk_at "sx"
    refine ⟨_, .inr (SqT.of e1), _, atI_nat (j := 0) rfl, _, .inr (SqT.of e1), _, atI_nat (j := 1) rfl, ?_⟩
    have w4 : W 4 = 46030 := by decide
    have z1 := spell_le d 4 sm1 d1
    have z2 := spell_le e 4 sm2 d2
    refine .inl ⟨_, _, rfl, d, e, fp, fq, e2, e3, ok_sm d sm1, ok_sm e sm2, by omega, by omega, by omega, by omega, fun G2 s2 => ?_⟩
    rw [decide_eq_false ne]
    walk_at "sx"
    exact k0 rfl _ s2
  · have e0 : (List.range 7).filterMap (fun _ => (none : Option V)) = [] := by decide
    rw [e0] at eD
    intro p hp
    have sp := same_upd (o := HO.lst []) hp
    refine ⟨.list [], .list [], .lst (SqL.of (sp _ _ eD)) .nil, .lst (SqL.of upd_same) .nil, by decide, by decide, true, rfl, ?_⟩
    rw [if_pos rfl]
    intro a1 h1 a2 h2
    have n12 : a1 ≠ a2 := fun z => by rw [← z, upd_same] at h2; cases h2
    refine ⟨by rw [upd_ne n12]; exact upd_same, [(.inr "a", .ref a2)], rfl, by simp, fun a3 h3 a4 h4 => ?_⟩
    have n34 : a3 ≠ a4 := fun z => by rw [← z, upd_same] at h4; cases h4
    refine ⟨by rw [upd_ne n34]; exact upd_same, [(.inr "a", .ref a4)], rfl, by simp, ?_⟩
    have n31 : a1 ≠ a3 := fun z => by rw [← z, upd_same] at h3; cases h3
    have n32 : a2 ≠ a3 := fun z => by rw [← z, upd_ne (Ne.symm n12), upd_same] at h3; cases h3
    have n41 : a1 ≠ a4 := fun z => by rw [← z, upd_ne n31, upd_same] at h4; cases h4
    have n42 : a2 ≠ a4 := fun z => by rw [← z, upd_ne n32, upd_ne (Ne.symm n12), upd_same] at h4; cases h4
    generalize hX : upd (upd (upd (upd (upd (upd (upd G p (HO.lst [])) a1 (HO.dK [])) a2 (HO.tup [V.int 1])) a1 (HO.dK (mergeK [] [((.inr "a" : Key), V.ref a2)]))) a3 (HO.dK [])) a4 (HO.tup [V.int 1])) a3 (HO.dK (mergeK [] [((.inr "a" : Key), V.ref a4)])) = X
    have e1 : X a1 = some (.dK [(.inr "a", .ref a2)]) := by rw [← hX, upd_ne n31, upd_ne n41, upd_ne n31, upd_same]; rfl
    have e2 : X a2 = some (.tup [.int 1]) := by rw [← hX, upd_ne n32, upd_ne n42, upd_ne n32, upd_ne (Ne.symm n12), upd_same]
    have e3 : X a3 = some (.dK [(.inr "a", .ref a4)]) := by rw [← hX, upd_same]; rfl
    have e4 : X a4 = some (.tup [.int 1]) := by rw [← hX, upd_ne (Ne.symm n34), upd_same]
    refine .inl ⟨_, _, rfl, .dict [(.str "a", .tuple [.int 1])], .dict [(.str "a", .tuple [.int 1])], _, _, .dct e1 (.cons (x := "a") (.tup e2 (.cons (.int 1) .nil)) .nil) (by simp) (by simp), .dct e3 (.cons (x := "a") (.tup e4 (.cons (.int 1) .nil)) .nil) (by simp) (by simp), by decide +kernel, by decide +kernel, by decide +kernel, by decide +kernel, by simp only [spell, spells, spellKv]; decide +kernel, by simp only [spell, spells, spellKv]; decide +kernel, fun H' s' => ?_⟩
    have := q H'
    simpa using this
end


theorem xst_InvalidText : XSt1 "InvalidText.__init__" s_InvalidText__init "position" "position" where
  bd := ⟨_, _, _, _, _, _, _, _, _, _, _, _, rfl, fun L fI cda cc => ⟨rfl, rfl, rfl, ⟨_, rfl⟩, rfl⟩⟩
  ar := ⟨_, rfl, rfl⟩
  ks := rfl
  kc := rfl
  ka := rfl
  kx := rfl
  kd := rfl
  co := rfl
  ge := rfl
  ce := by decide +kernel
  bi := fun oc kV doc pm an cdv ct cc u v => rfl
  ne := by decide
  dbg := by decide
theorem all_mk {l : PySem.W.OpenLaw} {w : World} {K : PySem.W.Frag} {h : Heap} {mg : Str → Option Value} {fa : Addr}
    {C_InvalidText fI_InvalidText cda_InvalidText cc_InvalidText : Addr} {oc_InvalidText kV_InvalidText doc_InvalidText pm_InvalidText ct_InvalidText ccl_InvalidText cl_InvalidText : Value} {od_InvalidText an_InvalidText cdd_InvalidText cld_InvalidText : Option Addr} {osl_InvalidText ccs_InvalidText csl_InvalidText : Array (Option Value)} {vs_InvalidText : Array Value} {file_InvalidText : Str} {tf_InvalidText : Tok}
    {C_TextReader : Addr}
    {f_TextReader__init : Addr} {od_TextReader__init an_TextReader__init : Option Addr} {sl_TextReader__init : Array (Option Value)} {oc_TextReader__init kV_TextReader__init dc_TextReader__init pm_TextReader__init cd_TextReader__init ct_TextReader__init : Value}
    {f_TextReader_sign : Addr} {od_TextReader_sign an_TextReader_sign : Option Addr} {sl_TextReader_sign : Array (Option Value)} {oc_TextReader_sign kV_TextReader_sign dc_TextReader_sign pm_TextReader_sign cd_TextReader_sign ct_TextReader_sign : Value}
    {f_TextReader_refuse : Addr} {od_TextReader_refuse an_TextReader_refuse : Option Addr} {sl_TextReader_refuse : Array (Option Value)} {oc_TextReader_refuse kV_TextReader_refuse dc_TextReader_refuse pm_TextReader_refuse cd_TextReader_refuse ct_TextReader_refuse : Value}
    {f_TextReader_read_digits : Addr} {od_TextReader_read_digits an_TextReader_read_digits : Option Addr} {sl_TextReader_read_digits : Array (Option Value)} {oc_TextReader_read_digits kV_TextReader_read_digits dc_TextReader_read_digits pm_TextReader_read_digits cd_TextReader_read_digits ct_TextReader_read_digits : Value}
    {f_TextReader_read_count : Addr} {od_TextReader_read_count an_TextReader_read_count : Option Addr} {sl_TextReader_read_count : Array (Option Value)} {oc_TextReader_read_count kV_TextReader_read_count dc_TextReader_read_count pm_TextReader_read_count cd_TextReader_read_count ct_TextReader_read_count : Value}
    {f_TextReader_read_integer : Addr} {od_TextReader_read_integer an_TextReader_read_integer : Option Addr} {sl_TextReader_read_integer : Array (Option Value)} {oc_TextReader_read_integer kV_TextReader_read_integer dc_TextReader_read_integer pm_TextReader_read_integer cd_TextReader_read_integer ct_TextReader_read_integer : Value}
    {f_TextReader_read_string : Addr} {od_TextReader_read_string an_TextReader_read_string : Option Addr} {sl_TextReader_read_string : Array (Option Value)} {oc_TextReader_read_string kV_TextReader_read_string dc_TextReader_read_string pm_TextReader_read_string cd_TextReader_read_string ct_TextReader_read_string : Value}
    {f_TextReader_read_pairs : Addr} {od_TextReader_read_pairs an_TextReader_read_pairs : Option Addr} {sl_TextReader_read_pairs : Array (Option Value)} {oc_TextReader_read_pairs kV_TextReader_read_pairs dc_TextReader_read_pairs pm_TextReader_read_pairs cd_TextReader_read_pairs ct_TextReader_read_pairs : Value}
    {f_TextReader_read_items : Addr} {od_TextReader_read_items an_TextReader_read_items : Option Addr} {sl_TextReader_read_items : Array (Option Value)} {oc_TextReader_read_items kV_TextReader_read_items dc_TextReader_read_items pm_TextReader_read_items cd_TextReader_read_items ct_TextReader_read_items : Value}
    {f_TextReader_read_part : Addr} {od_TextReader_read_part an_TextReader_read_part : Option Addr} {sl_TextReader_read_part : Array (Option Value)} {oc_TextReader_read_part kV_TextReader_read_part dc_TextReader_read_part pm_TextReader_read_part cd_TextReader_read_part ct_TextReader_read_part : Value}
    {f_TextReader_is_done : Addr} {od_TextReader_is_done an_TextReader_is_done : Option Addr} {sl_TextReader_is_done : Array (Option Value)} {oc_TextReader_is_done kV_TextReader_is_done dc_TextReader_is_done pm_TextReader_is_done cd_TextReader_is_done ct_TextReader_is_done : Value}
    {f_items_of : Addr} {od_items_of an_items_of : Option Addr} {sl_items_of : Array (Option Value)} {oc_items_of kV_items_of dc_items_of pm_items_of cd_items_of ct_items_of : Value}
    {f_is_wrong_part : Addr} {od_is_wrong_part an_is_wrong_part : Option Addr} {sl_is_wrong_part : Array (Option Value)} {oc_is_wrong_part kV_is_wrong_part dc_is_wrong_part pm_is_wrong_part cd_is_wrong_part ct_is_wrong_part : Value}
    {f_wrong_path : Addr} {od_wrong_path an_wrong_path : Option Addr} {sl_wrong_path : Array (Option Value)} {oc_wrong_path kV_wrong_path dc_wrong_path pm_wrong_path cd_wrong_path ct_wrong_path : Value}
    {f_check_value : Addr} {od_check_value an_check_value : Option Addr} {sl_check_value : Array (Option Value)} {oc_check_value kV_check_value dc_check_value pm_check_value cd_check_value ct_check_value : Value}
    {f_is_value : Addr} {od_is_value an_is_value : Option Addr} {sl_is_value : Array (Option Value)} {oc_is_value kV_is_value dc_is_value pm_is_value cd_is_value ct_is_value : Value}
    {f_spelled : Addr} {od_spelled an_spelled : Option Addr} {sl_spelled : Array (Option Value)} {oc_spelled kV_spelled dc_spelled pm_spelled cd_spelled ct_spelled : Value}
    {f_text_of : Addr} {od_text_of an_text_of : Option Addr} {sl_text_of : Array (Option Value)} {oc_text_of kV_text_of dc_text_of pm_text_of cd_text_of ct_text_of : Value}
    {f_same : Addr} {od_same an_same : Option Addr} {sl_same : Array (Option Value)} {oc_same kV_same dc_same pm_same cd_same ct_same : Value}
    {f_check_string : Addr} {od_check_string an_check_string : Option Addr} {sl_check_string : Array (Option Value)} {oc_check_string kV_check_string dc_check_string pm_check_string cd_check_string ct_check_string : Value}
    {f_value_of : Addr} {od_value_of an_value_of : Option Addr} {sl_value_of : Array (Option Value)} {oc_value_of kV_value_of dc_value_of pm_value_of cd_value_of ct_value_of : Value}
    {f_first_wrong : Addr} {od_first_wrong an_first_wrong : Option Addr} {sl_first_wrong : Array (Option Value)} {oc_first_wrong kV_first_wrong dc_first_wrong pm_first_wrong cd_first_wrong ct_first_wrong : Value}
    {f_is_text : Addr} {od_is_text an_is_text : Option Addr} {sl_is_text : Array (Option Value)} {oc_is_text kV_is_text dc_is_text pm_is_text cd_is_text ct_is_text : Value}
    {f_l_mixed : Addr} {od_l_mixed an_l_mixed : Option Addr} {sl_l_mixed : Array (Option Value)} {oc_l_mixed kV_l_mixed dc_l_mixed pm_l_mixed cd_l_mixed ct_l_mixed : Value}
    {f_l_stream : Addr} {od_l_stream an_l_stream : Option Addr} {sl_l_stream : Array (Option Value)} {oc_l_stream kV_l_stream dc_l_stream pm_l_stream cd_l_stream ct_l_stream : Value}
    {f_l_draw : Addr} {od_l_draw an_l_draw : Option Addr} {sl_l_draw : Array (Option Value)} {oc_l_draw kV_l_draw dc_l_draw pm_l_draw cd_l_draw ct_l_draw : Value}
    {f_l_pick : Addr} {od_l_pick an_l_pick : Option Addr} {sl_l_pick : Array (Option Value)} {oc_l_pick kV_l_pick dc_l_pick pm_l_pick cd_l_pick ct_l_pick : Value}
    {f_l_word : Addr} {od_l_word an_l_word : Option Addr} {sl_l_word : Array (Option Value)} {oc_l_word kV_l_word dc_l_word pm_l_word cd_l_word ct_l_word : Value}
    {f_l_plain : Addr} {od_l_plain an_l_plain : Option Addr} {sl_l_plain : Array (Option Value)} {oc_l_plain kV_l_plain dc_l_plain pm_l_plain cd_l_plain ct_l_plain : Value}
    {f_l_value : Addr} {od_l_value an_l_value : Option Addr} {sl_l_value : Array (Option Value)} {oc_l_value kV_l_value dc_l_value pm_l_value cd_l_value ct_l_value : Value}
    {f_l_pairs : Addr} {od_l_pairs an_l_pairs : Option Addr} {sl_l_pairs : Array (Option Value)} {oc_l_pairs kV_l_pairs dc_l_pairs pm_l_pairs cd_l_pairs ct_l_pairs : Value}
    {f_l_parts : Addr} {od_l_parts an_l_parts : Option Addr} {sl_l_parts : Array (Option Value)} {oc_l_parts kV_l_parts dc_l_parts pm_l_parts cd_l_parts ct_l_parts : Value}
    {f_l_put : Addr} {od_l_put an_l_put : Option Addr} {sl_l_put : Array (Option Value)} {oc_l_put kV_l_put dc_l_put pm_l_put cd_l_put ct_l_put : Value}
    {f_l_text_right : Addr} {od_l_text_right an_l_text_right : Option Addr} {sl_l_text_right : Array (Option Value)} {oc_l_text_right kV_l_text_right dc_l_text_right pm_l_text_right cd_l_text_right ct_l_text_right : Value}
    {f_l_pair_right : Addr} {od_l_pair_right an_l_pair_right : Option Addr} {sl_l_pair_right : Array (Option Value)} {oc_l_pair_right kV_l_pair_right dc_l_pair_right pm_l_pair_right cd_l_pair_right ct_l_pair_right : Value}
    {f_law : Addr} {od_law an_law : Option Addr} {sl_law : Array (Option Value)} {oc_law kV_law dc_law pm_law cd_law ct_law : Value}
    {t_MOST_DIGITS : Tok}
    {t_MOST_ITEMS : Tok}
    {t_MOST_LEVELS : Tok}
    {t_DIGITS : Tok} (X : K.In h) (G : h.Ns mainGlobals mg) (hfa : mg "law" = some (.ref fa))
    (b_super : PySem.W.nsIn K mainGlobals "super" = some none)
    (xa : XA l.prog K)
    (aC_InvalidText : PySem.W.nsIn K mainGlobals "InvalidText" = some (some (.ref C_InvalidText)))
    (in_InvalidText : PySem.W.findIn K (.ref C_InvalidText) "__init__" = some (some (.ref fI_InvalidText)))
    (l_InvalidText : K.lookup fI_InvalidText = some ⟨oc_InvalidText, od_InvalidText, .func (PySem.W.ksFn "__init__" "InvalidText.__init__" (defArgs s_InvalidText__init) (defBody s_InvalidText__init) (defScope s_InvalidText__init) .none kV_InvalidText doc_InvalidText pm_InvalidText an_InvalidText (.ref cda_InvalidText) ct_InvalidText cc_InvalidText), osl_InvalidText⟩)
    (co_InvalidText : K.lookup cda_InvalidText = some ⟨ccl_InvalidText, cdd_InvalidText, .fields vs_InvalidText, ccs_InvalidText⟩)
    (fi_InvalidText : vs_InvalidText[2]? = some (.str file_InvalidText tf_InvalidText))
    (fe_InvalidText : ((l.prog.main.file : Str) == file_InvalidText) = true)
    (ce_InvalidText : K.lookup cc_InvalidText = some ⟨cl_InvalidText, cld_InvalidText, .cell (some (.ref C_InvalidText)), csl_InvalidText⟩)
    (xb_InvalidText : XB K C_InvalidText fI_InvalidText cda_InvalidText "InvalidText.__init__" "ValueError" "ValueError.__new__" "ValueError.__init__" [.type "ValueError", .type "Exception", .type "BaseException", .type "object"])
    (nf_InvalidText : PySem.W.findIn K (.ref C_InvalidText) "position" = some none)
    (tyX : PySem.W.typeIn K (.ref C_InvalidText) = some (.type "type"))
    (hex : PySem.W.exmOne K (.ref C_InvalidText) (.ref C_InvalidText) = some true)
    (aC_TextReader : PySem.W.nsIn K mainGlobals "TextReader" = some (some (.ref C_TextReader)))
    (pg_TextReader : PySem.W.plainGet K C_TextReader Str.empty = true)
    (hd_TextReader : PySem.W.hasDictIn K C_TextReader = true)
    (po_TextReader : PySem.W.plainOver K C_TextReader = true)
    (sa_TextReader : PySem.W.findIn K (.ref C_TextReader) "__setattr__" = some (some (.builtin "object.__setattr__")))
    (kc_TextReader : PySem.W.keepIn K (.ref C_TextReader) = true)
    (mk_TextReader : PySem.W.makesIn K C_TextReader = true)
    (na_TextReader_own_text : PySem.W.findIn K (.ref C_TextReader) "own_text" = some none)
    (na_TextReader_at : PySem.W.findIn K (.ref C_TextReader) "at" = some none)
    (a_TextReader__init : PySem.W.findIn K (.ref C_TextReader) "__init__" = some (some (.ref f_TextReader__init)))
    (i_TextReader__init : PySem.W.isFn K (.ref f_TextReader__init) = true)
    (l_TextReader__init : K.lookup f_TextReader__init = some ⟨oc_TextReader__init, od_TextReader__init, .func (PySem.W.fnOf "__init__" "TextReader.__init__" (defArgs s_TextReader__init) (defBody s_TextReader__init) (defScope s_TextReader__init) .none kV_TextReader__init dc_TextReader__init pm_TextReader__init an_TextReader__init cd_TextReader__init ct_TextReader__init), sl_TextReader__init⟩)
    (c_TextReader__init : PySem.W.codeIn K cd_TextReader__init "TextReader.__init__" = true)
    (k_TextReader__init : PySem.W.keepIn K (.ref f_TextReader__init) = true)
    (a_TextReader_sign : PySem.W.findIn K (.ref C_TextReader) "sign" = some (some (.ref f_TextReader_sign)))
    (i_TextReader_sign : PySem.W.isFn K (.ref f_TextReader_sign) = true)
    (l_TextReader_sign : K.lookup f_TextReader_sign = some ⟨oc_TextReader_sign, od_TextReader_sign, .func (PySem.W.fnOf "sign" "TextReader.sign" (defArgs s_TextReader_sign) (defBody s_TextReader_sign) (defScope s_TextReader_sign) .none kV_TextReader_sign dc_TextReader_sign pm_TextReader_sign an_TextReader_sign cd_TextReader_sign ct_TextReader_sign), sl_TextReader_sign⟩)
    (c_TextReader_sign : PySem.W.codeIn K cd_TextReader_sign "TextReader.sign" = true)
    (k_TextReader_sign : PySem.W.keepIn K (.ref f_TextReader_sign) = true)
    (a_TextReader_refuse : PySem.W.findIn K (.ref C_TextReader) "refuse" = some (some (.ref f_TextReader_refuse)))
    (i_TextReader_refuse : PySem.W.isFn K (.ref f_TextReader_refuse) = true)
    (l_TextReader_refuse : K.lookup f_TextReader_refuse = some ⟨oc_TextReader_refuse, od_TextReader_refuse, .func (PySem.W.fnOf "refuse" "TextReader.refuse" (defArgs s_TextReader_refuse) (defBody s_TextReader_refuse) (defScope s_TextReader_refuse) .none kV_TextReader_refuse dc_TextReader_refuse pm_TextReader_refuse an_TextReader_refuse cd_TextReader_refuse ct_TextReader_refuse), sl_TextReader_refuse⟩)
    (c_TextReader_refuse : PySem.W.codeIn K cd_TextReader_refuse "TextReader.refuse" = true)
    (k_TextReader_refuse : PySem.W.keepIn K (.ref f_TextReader_refuse) = true)
    (a_TextReader_read_digits : PySem.W.findIn K (.ref C_TextReader) "read_digits" = some (some (.ref f_TextReader_read_digits)))
    (i_TextReader_read_digits : PySem.W.isFn K (.ref f_TextReader_read_digits) = true)
    (l_TextReader_read_digits : K.lookup f_TextReader_read_digits = some ⟨oc_TextReader_read_digits, od_TextReader_read_digits, .func (PySem.W.fnOf "read_digits" "TextReader.read_digits" (defArgs s_TextReader_read_digits) (defBody s_TextReader_read_digits) (defScope s_TextReader_read_digits) .none kV_TextReader_read_digits dc_TextReader_read_digits pm_TextReader_read_digits an_TextReader_read_digits cd_TextReader_read_digits ct_TextReader_read_digits), sl_TextReader_read_digits⟩)
    (c_TextReader_read_digits : PySem.W.codeIn K cd_TextReader_read_digits "TextReader.read_digits" = true)
    (k_TextReader_read_digits : PySem.W.keepIn K (.ref f_TextReader_read_digits) = true)
    (a_TextReader_read_count : PySem.W.findIn K (.ref C_TextReader) "read_count" = some (some (.ref f_TextReader_read_count)))
    (i_TextReader_read_count : PySem.W.isFn K (.ref f_TextReader_read_count) = true)
    (l_TextReader_read_count : K.lookup f_TextReader_read_count = some ⟨oc_TextReader_read_count, od_TextReader_read_count, .func (PySem.W.fnOf "read_count" "TextReader.read_count" (defArgs s_TextReader_read_count) (defBody s_TextReader_read_count) (defScope s_TextReader_read_count) .none kV_TextReader_read_count dc_TextReader_read_count pm_TextReader_read_count an_TextReader_read_count cd_TextReader_read_count ct_TextReader_read_count), sl_TextReader_read_count⟩)
    (c_TextReader_read_count : PySem.W.codeIn K cd_TextReader_read_count "TextReader.read_count" = true)
    (k_TextReader_read_count : PySem.W.keepIn K (.ref f_TextReader_read_count) = true)
    (a_TextReader_read_integer : PySem.W.findIn K (.ref C_TextReader) "read_integer" = some (some (.ref f_TextReader_read_integer)))
    (i_TextReader_read_integer : PySem.W.isFn K (.ref f_TextReader_read_integer) = true)
    (l_TextReader_read_integer : K.lookup f_TextReader_read_integer = some ⟨oc_TextReader_read_integer, od_TextReader_read_integer, .func (PySem.W.fnOf "read_integer" "TextReader.read_integer" (defArgs s_TextReader_read_integer) (defBody s_TextReader_read_integer) (defScope s_TextReader_read_integer) .none kV_TextReader_read_integer dc_TextReader_read_integer pm_TextReader_read_integer an_TextReader_read_integer cd_TextReader_read_integer ct_TextReader_read_integer), sl_TextReader_read_integer⟩)
    (c_TextReader_read_integer : PySem.W.codeIn K cd_TextReader_read_integer "TextReader.read_integer" = true)
    (k_TextReader_read_integer : PySem.W.keepIn K (.ref f_TextReader_read_integer) = true)
    (a_TextReader_read_string : PySem.W.findIn K (.ref C_TextReader) "read_string" = some (some (.ref f_TextReader_read_string)))
    (i_TextReader_read_string : PySem.W.isFn K (.ref f_TextReader_read_string) = true)
    (l_TextReader_read_string : K.lookup f_TextReader_read_string = some ⟨oc_TextReader_read_string, od_TextReader_read_string, .func (PySem.W.fnOf "read_string" "TextReader.read_string" (defArgs s_TextReader_read_string) (defBody s_TextReader_read_string) (defScope s_TextReader_read_string) .none kV_TextReader_read_string dc_TextReader_read_string pm_TextReader_read_string an_TextReader_read_string cd_TextReader_read_string ct_TextReader_read_string), sl_TextReader_read_string⟩)
    (c_TextReader_read_string : PySem.W.codeIn K cd_TextReader_read_string "TextReader.read_string" = true)
    (k_TextReader_read_string : PySem.W.keepIn K (.ref f_TextReader_read_string) = true)
    (a_TextReader_read_pairs : PySem.W.findIn K (.ref C_TextReader) "read_pairs" = some (some (.ref f_TextReader_read_pairs)))
    (i_TextReader_read_pairs : PySem.W.isFn K (.ref f_TextReader_read_pairs) = true)
    (l_TextReader_read_pairs : K.lookup f_TextReader_read_pairs = some ⟨oc_TextReader_read_pairs, od_TextReader_read_pairs, .func (PySem.W.fnOf "read_pairs" "TextReader.read_pairs" (defArgs s_TextReader_read_pairs) (defBody s_TextReader_read_pairs) (defScope s_TextReader_read_pairs) .none kV_TextReader_read_pairs dc_TextReader_read_pairs pm_TextReader_read_pairs an_TextReader_read_pairs cd_TextReader_read_pairs ct_TextReader_read_pairs), sl_TextReader_read_pairs⟩)
    (c_TextReader_read_pairs : PySem.W.codeIn K cd_TextReader_read_pairs "TextReader.read_pairs" = true)
    (k_TextReader_read_pairs : PySem.W.keepIn K (.ref f_TextReader_read_pairs) = true)
    (a_TextReader_read_items : PySem.W.findIn K (.ref C_TextReader) "read_items" = some (some (.ref f_TextReader_read_items)))
    (i_TextReader_read_items : PySem.W.isFn K (.ref f_TextReader_read_items) = true)
    (l_TextReader_read_items : K.lookup f_TextReader_read_items = some ⟨oc_TextReader_read_items, od_TextReader_read_items, .func (PySem.W.fnOf "read_items" "TextReader.read_items" (defArgs s_TextReader_read_items) (defBody s_TextReader_read_items) (defScope s_TextReader_read_items) .none kV_TextReader_read_items dc_TextReader_read_items pm_TextReader_read_items an_TextReader_read_items cd_TextReader_read_items ct_TextReader_read_items), sl_TextReader_read_items⟩)
    (c_TextReader_read_items : PySem.W.codeIn K cd_TextReader_read_items "TextReader.read_items" = true)
    (k_TextReader_read_items : PySem.W.keepIn K (.ref f_TextReader_read_items) = true)
    (a_TextReader_read_part : PySem.W.findIn K (.ref C_TextReader) "read_part" = some (some (.ref f_TextReader_read_part)))
    (i_TextReader_read_part : PySem.W.isFn K (.ref f_TextReader_read_part) = true)
    (l_TextReader_read_part : K.lookup f_TextReader_read_part = some ⟨oc_TextReader_read_part, od_TextReader_read_part, .func (PySem.W.fnOf "read_part" "TextReader.read_part" (defArgs s_TextReader_read_part) (defBody s_TextReader_read_part) (defScope s_TextReader_read_part) .none kV_TextReader_read_part dc_TextReader_read_part pm_TextReader_read_part an_TextReader_read_part cd_TextReader_read_part ct_TextReader_read_part), sl_TextReader_read_part⟩)
    (c_TextReader_read_part : PySem.W.codeIn K cd_TextReader_read_part "TextReader.read_part" = true)
    (k_TextReader_read_part : PySem.W.keepIn K (.ref f_TextReader_read_part) = true)
    (a_TextReader_is_done : PySem.W.findIn K (.ref C_TextReader) "is_done" = some (some (.ref f_TextReader_is_done)))
    (i_TextReader_is_done : PySem.W.isFn K (.ref f_TextReader_is_done) = true)
    (l_TextReader_is_done : K.lookup f_TextReader_is_done = some ⟨oc_TextReader_is_done, od_TextReader_is_done, .func (PySem.W.fnOf "is_done" "TextReader.is_done" (defArgs s_TextReader_is_done) (defBody s_TextReader_is_done) (defScope s_TextReader_is_done) .none kV_TextReader_is_done dc_TextReader_is_done pm_TextReader_is_done an_TextReader_is_done cd_TextReader_is_done ct_TextReader_is_done), sl_TextReader_is_done⟩)
    (c_TextReader_is_done : PySem.W.codeIn K cd_TextReader_is_done "TextReader.is_done" = true)
    (k_TextReader_is_done : PySem.W.keepIn K (.ref f_TextReader_is_done) = true)
    (a_items_of : PySem.W.nsIn K mainGlobals "items_of" = some (some (.ref f_items_of)))
    (l_items_of : K.lookup f_items_of = some ⟨oc_items_of, od_items_of, .func (PySem.W.fnOf "items_of" "items_of" (defArgs s_items_of) (defBody s_items_of) (defScope s_items_of) .none kV_items_of dc_items_of pm_items_of an_items_of cd_items_of ct_items_of), sl_items_of⟩)
    (c_items_of : PySem.W.codeIn K cd_items_of "items_of" = true)
    (k_items_of : PySem.W.keepIn K (.ref f_items_of) = true)
    (a_is_wrong_part : PySem.W.nsIn K mainGlobals "is_wrong_part" = some (some (.ref f_is_wrong_part)))
    (l_is_wrong_part : K.lookup f_is_wrong_part = some ⟨oc_is_wrong_part, od_is_wrong_part, .func (PySem.W.fnOf "is_wrong_part" "is_wrong_part" (defArgs s_is_wrong_part) (defBody s_is_wrong_part) (defScope s_is_wrong_part) .none kV_is_wrong_part dc_is_wrong_part pm_is_wrong_part an_is_wrong_part cd_is_wrong_part ct_is_wrong_part), sl_is_wrong_part⟩)
    (c_is_wrong_part : PySem.W.codeIn K cd_is_wrong_part "is_wrong_part" = true)
    (k_is_wrong_part : PySem.W.keepIn K (.ref f_is_wrong_part) = true)
    (a_wrong_path : PySem.W.nsIn K mainGlobals "wrong_path" = some (some (.ref f_wrong_path)))
    (l_wrong_path : K.lookup f_wrong_path = some ⟨oc_wrong_path, od_wrong_path, .func (PySem.W.fnOf "wrong_path" "wrong_path" (defArgs s_wrong_path) (defBody s_wrong_path) (defScope s_wrong_path) .none kV_wrong_path dc_wrong_path pm_wrong_path an_wrong_path cd_wrong_path ct_wrong_path), sl_wrong_path⟩)
    (c_wrong_path : PySem.W.codeIn K cd_wrong_path "wrong_path" = true)
    (k_wrong_path : PySem.W.keepIn K (.ref f_wrong_path) = true)
    (a_check_value : PySem.W.nsIn K mainGlobals "check_value" = some (some (.ref f_check_value)))
    (l_check_value : K.lookup f_check_value = some ⟨oc_check_value, od_check_value, .func (PySem.W.fnOf "check_value" "check_value" (defArgs s_check_value) (defBody s_check_value) (defScope s_check_value) .none kV_check_value dc_check_value pm_check_value an_check_value cd_check_value ct_check_value), sl_check_value⟩)
    (c_check_value : PySem.W.codeIn K cd_check_value "check_value" = true)
    (k_check_value : PySem.W.keepIn K (.ref f_check_value) = true)
    (a_is_value : PySem.W.nsIn K mainGlobals "is_value" = some (some (.ref f_is_value)))
    (l_is_value : K.lookup f_is_value = some ⟨oc_is_value, od_is_value, .func (PySem.W.fnOf "is_value" "is_value" (defArgs s_is_value) (defBody s_is_value) (defScope s_is_value) .none kV_is_value dc_is_value pm_is_value an_is_value cd_is_value ct_is_value), sl_is_value⟩)
    (c_is_value : PySem.W.codeIn K cd_is_value "is_value" = true)
    (k_is_value : PySem.W.keepIn K (.ref f_is_value) = true)
    (a_spelled : PySem.W.nsIn K mainGlobals "spelled" = some (some (.ref f_spelled)))
    (l_spelled : K.lookup f_spelled = some ⟨oc_spelled, od_spelled, .func (PySem.W.fnOf "spelled" "spelled" (defArgs s_spelled) (defBody s_spelled) (defScope s_spelled) .none kV_spelled dc_spelled pm_spelled an_spelled cd_spelled ct_spelled), sl_spelled⟩)
    (c_spelled : PySem.W.codeIn K cd_spelled "spelled" = true)
    (k_spelled : PySem.W.keepIn K (.ref f_spelled) = true)
    (a_text_of : PySem.W.nsIn K mainGlobals "text_of" = some (some (.ref f_text_of)))
    (l_text_of : K.lookup f_text_of = some ⟨oc_text_of, od_text_of, .func (PySem.W.fnOf "text_of" "text_of" (defArgs s_text_of) (defBody s_text_of) (defScope s_text_of) .none kV_text_of dc_text_of pm_text_of an_text_of cd_text_of ct_text_of), sl_text_of⟩)
    (c_text_of : PySem.W.codeIn K cd_text_of "text_of" = true)
    (k_text_of : PySem.W.keepIn K (.ref f_text_of) = true)
    (a_same : PySem.W.nsIn K mainGlobals "same" = some (some (.ref f_same)))
    (l_same : K.lookup f_same = some ⟨oc_same, od_same, .func (PySem.W.fnOf "same" "same" (defArgs s_same) (defBody s_same) (defScope s_same) .none kV_same dc_same pm_same an_same cd_same ct_same), sl_same⟩)
    (c_same : PySem.W.codeIn K cd_same "same" = true)
    (k_same : PySem.W.keepIn K (.ref f_same) = true)
    (a_check_string : PySem.W.nsIn K mainGlobals "check_string" = some (some (.ref f_check_string)))
    (l_check_string : K.lookup f_check_string = some ⟨oc_check_string, od_check_string, .func (PySem.W.fnOf "check_string" "check_string" (defArgs s_check_string) (defBody s_check_string) (defScope s_check_string) .none kV_check_string dc_check_string pm_check_string an_check_string cd_check_string ct_check_string), sl_check_string⟩)
    (c_check_string : PySem.W.codeIn K cd_check_string "check_string" = true)
    (k_check_string : PySem.W.keepIn K (.ref f_check_string) = true)
    (a_value_of : PySem.W.nsIn K mainGlobals "value_of" = some (some (.ref f_value_of)))
    (l_value_of : K.lookup f_value_of = some ⟨oc_value_of, od_value_of, .func (PySem.W.fnOf "value_of" "value_of" (defArgs s_value_of) (defBody s_value_of) (defScope s_value_of) .none kV_value_of dc_value_of pm_value_of an_value_of cd_value_of ct_value_of), sl_value_of⟩)
    (c_value_of : PySem.W.codeIn K cd_value_of "value_of" = true)
    (k_value_of : PySem.W.keepIn K (.ref f_value_of) = true)
    (a_first_wrong : PySem.W.nsIn K mainGlobals "first_wrong" = some (some (.ref f_first_wrong)))
    (l_first_wrong : K.lookup f_first_wrong = some ⟨oc_first_wrong, od_first_wrong, .func (PySem.W.fnOf "first_wrong" "first_wrong" (defArgs s_first_wrong) (defBody s_first_wrong) (defScope s_first_wrong) .none kV_first_wrong dc_first_wrong pm_first_wrong an_first_wrong cd_first_wrong ct_first_wrong), sl_first_wrong⟩)
    (c_first_wrong : PySem.W.codeIn K cd_first_wrong "first_wrong" = true)
    (k_first_wrong : PySem.W.keepIn K (.ref f_first_wrong) = true)
    (a_is_text : PySem.W.nsIn K mainGlobals "is_text" = some (some (.ref f_is_text)))
    (l_is_text : K.lookup f_is_text = some ⟨oc_is_text, od_is_text, .func (PySem.W.fnOf "is_text" "is_text" (defArgs s_is_text) (defBody s_is_text) (defScope s_is_text) .none kV_is_text dc_is_text pm_is_text an_is_text cd_is_text ct_is_text), sl_is_text⟩)
    (c_is_text : PySem.W.codeIn K cd_is_text "is_text" = true)
    (k_is_text : PySem.W.keepIn K (.ref f_is_text) = true)
    (a_l_mixed : PySem.W.nsIn K mainGlobals "_law_mixed" = some (some (.ref f_l_mixed)))
    (l_l_mixed : K.lookup f_l_mixed = some ⟨oc_l_mixed, od_l_mixed, .func (PySem.W.fnOf "_law_mixed" "_law_mixed" (defArgs s_l_mixed) (defBody s_l_mixed) (defScope s_l_mixed) .none kV_l_mixed dc_l_mixed pm_l_mixed an_l_mixed cd_l_mixed ct_l_mixed), sl_l_mixed⟩)
    (c_l_mixed : PySem.W.codeIn K cd_l_mixed "_law_mixed" = true)
    (k_l_mixed : PySem.W.keepIn K (.ref f_l_mixed) = true)
    (a_l_stream : PySem.W.nsIn K mainGlobals "_law_stream" = some (some (.ref f_l_stream)))
    (l_l_stream : K.lookup f_l_stream = some ⟨oc_l_stream, od_l_stream, .func (PySem.W.fnOf "_law_stream" "_law_stream" (defArgs s_l_stream) (defBody s_l_stream) (defScope s_l_stream) .none kV_l_stream dc_l_stream pm_l_stream an_l_stream cd_l_stream ct_l_stream), sl_l_stream⟩)
    (c_l_stream : PySem.W.codeIn K cd_l_stream "_law_stream" = true)
    (k_l_stream : PySem.W.keepIn K (.ref f_l_stream) = true)
    (a_l_draw : PySem.W.nsIn K mainGlobals "_law_draw" = some (some (.ref f_l_draw)))
    (l_l_draw : K.lookup f_l_draw = some ⟨oc_l_draw, od_l_draw, .func (PySem.W.fnOf "_law_draw" "_law_draw" (defArgs s_l_draw) (defBody s_l_draw) (defScope s_l_draw) .none kV_l_draw dc_l_draw pm_l_draw an_l_draw cd_l_draw ct_l_draw), sl_l_draw⟩)
    (c_l_draw : PySem.W.codeIn K cd_l_draw "_law_draw" = true)
    (k_l_draw : PySem.W.keepIn K (.ref f_l_draw) = true)
    (a_l_pick : PySem.W.nsIn K mainGlobals "_law_pick" = some (some (.ref f_l_pick)))
    (l_l_pick : K.lookup f_l_pick = some ⟨oc_l_pick, od_l_pick, .func (PySem.W.fnOf "_law_pick" "_law_pick" (defArgs s_l_pick) (defBody s_l_pick) (defScope s_l_pick) .none kV_l_pick dc_l_pick pm_l_pick an_l_pick cd_l_pick ct_l_pick), sl_l_pick⟩)
    (c_l_pick : PySem.W.codeIn K cd_l_pick "_law_pick" = true)
    (k_l_pick : PySem.W.keepIn K (.ref f_l_pick) = true)
    (a_l_word : PySem.W.nsIn K mainGlobals "_law_word" = some (some (.ref f_l_word)))
    (l_l_word : K.lookup f_l_word = some ⟨oc_l_word, od_l_word, .func (PySem.W.fnOf "_law_word" "_law_word" (defArgs s_l_word) (defBody s_l_word) (defScope s_l_word) .none kV_l_word dc_l_word pm_l_word an_l_word cd_l_word ct_l_word), sl_l_word⟩)
    (c_l_word : PySem.W.codeIn K cd_l_word "_law_word" = true)
    (k_l_word : PySem.W.keepIn K (.ref f_l_word) = true)
    (a_l_plain : PySem.W.nsIn K mainGlobals "_law_plain" = some (some (.ref f_l_plain)))
    (l_l_plain : K.lookup f_l_plain = some ⟨oc_l_plain, od_l_plain, .func (PySem.W.fnOf "_law_plain" "_law_plain" (defArgs s_l_plain) (defBody s_l_plain) (defScope s_l_plain) .none kV_l_plain dc_l_plain pm_l_plain an_l_plain cd_l_plain ct_l_plain), sl_l_plain⟩)
    (c_l_plain : PySem.W.codeIn K cd_l_plain "_law_plain" = true)
    (k_l_plain : PySem.W.keepIn K (.ref f_l_plain) = true)
    (a_l_value : PySem.W.nsIn K mainGlobals "_law_value" = some (some (.ref f_l_value)))
    (l_l_value : K.lookup f_l_value = some ⟨oc_l_value, od_l_value, .func (PySem.W.fnOf "_law_value" "_law_value" (defArgs s_l_value) (defBody s_l_value) (defScope s_l_value) .none kV_l_value dc_l_value pm_l_value an_l_value cd_l_value ct_l_value), sl_l_value⟩)
    (c_l_value : PySem.W.codeIn K cd_l_value "_law_value" = true)
    (k_l_value : PySem.W.keepIn K (.ref f_l_value) = true)
    (a_l_pairs : PySem.W.nsIn K mainGlobals "_law_pairs" = some (some (.ref f_l_pairs)))
    (l_l_pairs : K.lookup f_l_pairs = some ⟨oc_l_pairs, od_l_pairs, .func (PySem.W.fnOf "_law_pairs" "_law_pairs" (defArgs s_l_pairs) (defBody s_l_pairs) (defScope s_l_pairs) .none kV_l_pairs dc_l_pairs pm_l_pairs an_l_pairs cd_l_pairs ct_l_pairs), sl_l_pairs⟩)
    (c_l_pairs : PySem.W.codeIn K cd_l_pairs "_law_pairs" = true)
    (k_l_pairs : PySem.W.keepIn K (.ref f_l_pairs) = true)
    (a_l_parts : PySem.W.nsIn K mainGlobals "_law_parts" = some (some (.ref f_l_parts)))
    (l_l_parts : K.lookup f_l_parts = some ⟨oc_l_parts, od_l_parts, .func (PySem.W.fnOf "_law_parts" "_law_parts" (defArgs s_l_parts) (defBody s_l_parts) (defScope s_l_parts) .none kV_l_parts dc_l_parts pm_l_parts an_l_parts cd_l_parts ct_l_parts), sl_l_parts⟩)
    (c_l_parts : PySem.W.codeIn K cd_l_parts "_law_parts" = true)
    (k_l_parts : PySem.W.keepIn K (.ref f_l_parts) = true)
    (a_l_put : PySem.W.nsIn K mainGlobals "_law_put" = some (some (.ref f_l_put)))
    (l_l_put : K.lookup f_l_put = some ⟨oc_l_put, od_l_put, .func (PySem.W.fnOf "_law_put" "_law_put" (defArgs s_l_put) (defBody s_l_put) (defScope s_l_put) .none kV_l_put dc_l_put pm_l_put an_l_put cd_l_put ct_l_put), sl_l_put⟩)
    (c_l_put : PySem.W.codeIn K cd_l_put "_law_put" = true)
    (k_l_put : PySem.W.keepIn K (.ref f_l_put) = true)
    (a_l_text_right : PySem.W.nsIn K mainGlobals "_law_text_right" = some (some (.ref f_l_text_right)))
    (l_l_text_right : K.lookup f_l_text_right = some ⟨oc_l_text_right, od_l_text_right, .func (PySem.W.fnOf "_law_text_right" "_law_text_right" (defArgs s_l_text_right) (defBody s_l_text_right) (defScope s_l_text_right) .none kV_l_text_right dc_l_text_right pm_l_text_right an_l_text_right cd_l_text_right ct_l_text_right), sl_l_text_right⟩)
    (c_l_text_right : PySem.W.codeIn K cd_l_text_right "_law_text_right" = true)
    (k_l_text_right : PySem.W.keepIn K (.ref f_l_text_right) = true)
    (a_l_pair_right : PySem.W.nsIn K mainGlobals "_law_pair_right" = some (some (.ref f_l_pair_right)))
    (l_l_pair_right : K.lookup f_l_pair_right = some ⟨oc_l_pair_right, od_l_pair_right, .func (PySem.W.fnOf "_law_pair_right" "_law_pair_right" (defArgs s_l_pair_right) (defBody s_l_pair_right) (defScope s_l_pair_right) .none kV_l_pair_right dc_l_pair_right pm_l_pair_right an_l_pair_right cd_l_pair_right ct_l_pair_right), sl_l_pair_right⟩)
    (c_l_pair_right : PySem.W.codeIn K cd_l_pair_right "_law_pair_right" = true)
    (k_l_pair_right : PySem.W.keepIn K (.ref f_l_pair_right) = true)
    (a_law : PySem.W.nsIn K mainGlobals "law" = some (some (.ref f_law)))
    (l_law : K.lookup f_law = some ⟨oc_law, od_law, .func (PySem.W.fnOf "law" "law" (defArgs s_law) (defBody s_law) (defScope s_law) .none kV_law dc_law pm_law an_law cd_law ct_law), sl_law⟩)
    (c_law : PySem.W.codeIn K cd_law "law" = true)
    (k_law : PySem.W.keepIn K (.ref f_law) = true)
    (b_len : PySem.W.nsIn K mainGlobals "len" = some none)
    (b_isinstance : PySem.W.nsIn K mainGlobals "isinstance" = some none)
    (b_repr : PySem.W.nsIn K mainGlobals "repr" = some none)
    (b_enumerate : PySem.W.nsIn K mainGlobals "enumerate" = some none)
    (b_range : PySem.W.nsIn K mainGlobals "range" = some none)
    (b_list : PySem.W.nsIn K mainGlobals "list" = some none)
    (b_tuple : PySem.W.nsIn K mainGlobals "tuple" = some none)
    (b_dict : PySem.W.nsIn K mainGlobals "dict" = some none)
    (b_bool : PySem.W.nsIn K mainGlobals "bool" = some none)
    (b_int : PySem.W.nsIn K mainGlobals "int" = some none)
    (b_str : PySem.W.nsIn K mainGlobals "str" = some none)
    (b_abs : PySem.W.nsIn K mainGlobals "abs" = some none)
    (b_all : PySem.W.nsIn K mainGlobals "all" = some none)
    (nd : PySem.W.nsIn K cStatics "sys.int_max_str_digits" = some none)
    (v_MOST_DIGITS : PySem.W.nsIn K mainGlobals "MOST_DIGITS" = some (some (.int 100 t_MOST_DIGITS)))
    (v_MOST_ITEMS : PySem.W.nsIn K mainGlobals "MOST_ITEMS" = some (some (.int 10000 t_MOST_ITEMS)))
    (v_MOST_LEVELS : PySem.W.nsIn K mainGlobals "MOST_LEVELS" = some (some (.int 20 t_MOST_LEVELS)))
    (v_DIGITS : PySem.W.nsIn K mainGlobals "DIGITS" = some (some (.str "0123456789" t_DIGITS))) :
    ∃ fd : FuncData, (∀ (s : Shared) (v : Value), BindsTo s fd ⟨[v], []⟩ [("_law_script", v)]) ∧ ∀ base : Heap, K.In base → base.Ns mainGlobals mg → SmB base → FnG ⟨l.prog, w, K, mg, base⟩ 51 fa fd ["_law_script"] (sp_law K) := by
  have e := hfa.symm.trans (PySem.W.mg_of X G a_law)
  cases e
  have D_items_of := df_mk (st := s_items_of) l_items_of c_items_of k_items_of
  have b_items_of : Binds K (PySem.W.fnOf "items_of" "items_of" (defArgs s_items_of) (defBody s_items_of) (defScope s_items_of) .none kV_items_of dc_items_of pm_items_of an_items_of cd_items_of ct_items_of) ["value"] [] := Binds.all fun us hl => match us, hl with | [_], _ => rfl
  have D_is_wrong_part := df_mk (st := s_is_wrong_part) l_is_wrong_part c_is_wrong_part k_is_wrong_part
  have b_is_wrong_part : Binds K (PySem.W.fnOf "is_wrong_part" "is_wrong_part" (defArgs s_is_wrong_part) (defBody s_is_wrong_part) (defScope s_is_wrong_part) .none kV_is_wrong_part dc_is_wrong_part pm_is_wrong_part an_is_wrong_part cd_is_wrong_part ct_is_wrong_part) ["value", "depth"] [] := Binds.all fun us hl => match us, hl with | [_, _], _ => rfl
  have D_wrong_path := df_mk (st := s_wrong_path) l_wrong_path c_wrong_path k_wrong_path
  have b_wrong_path : Binds K (PySem.W.fnOf "wrong_path" "wrong_path" (defArgs s_wrong_path) (defBody s_wrong_path) (defScope s_wrong_path) .none kV_wrong_path dc_wrong_path pm_wrong_path an_wrong_path cd_wrong_path ct_wrong_path) ["value", "path"] [] := Binds.all fun us hl => match us, hl with | [_, _], _ => rfl
  have D_check_value := df_mk (st := s_check_value) l_check_value c_check_value k_check_value
  have b_check_value : Binds K (PySem.W.fnOf "check_value" "check_value" (defArgs s_check_value) (defBody s_check_value) (defScope s_check_value) .none kV_check_value dc_check_value pm_check_value an_check_value cd_check_value ct_check_value) ["value"] [] := Binds.all fun us hl => match us, hl with | [_], _ => rfl
  have D_is_value := df_mk (st := s_is_value) l_is_value c_is_value k_is_value
  have b_is_value : Binds K (PySem.W.fnOf "is_value" "is_value" (defArgs s_is_value) (defBody s_is_value) (defScope s_is_value) .none kV_is_value dc_is_value pm_is_value an_is_value cd_is_value ct_is_value) ["value"] [] := Binds.all fun us hl => match us, hl with | [_], _ => rfl
  have D_spelled := df_mk (st := s_spelled) l_spelled c_spelled k_spelled
  have b_spelled : Binds K (PySem.W.fnOf "spelled" "spelled" (defArgs s_spelled) (defBody s_spelled) (defScope s_spelled) .none kV_spelled dc_spelled pm_spelled an_spelled cd_spelled ct_spelled) ["value"] [] := Binds.all fun us hl => match us, hl with | [_], _ => rfl
  have D_text_of := df_mk (st := s_text_of) l_text_of c_text_of k_text_of
  have b_text_of : Binds K (PySem.W.fnOf "text_of" "text_of" (defArgs s_text_of) (defBody s_text_of) (defScope s_text_of) .none kV_text_of dc_text_of pm_text_of an_text_of cd_text_of ct_text_of) ["value"] [] := Binds.all fun us hl => match us, hl with | [_], _ => rfl
  have D_same := df_mk (st := s_same) l_same c_same k_same
  have b_same : Binds K (PySem.W.fnOf "same" "same" (defArgs s_same) (defBody s_same) (defScope s_same) .none kV_same dc_same pm_same an_same cd_same ct_same) ["one", "other"] [] := Binds.all fun us hl => match us, hl with | [_, _], _ => rfl
  have D_check_string := df_mk (st := s_check_string) l_check_string c_check_string k_check_string
  have b_check_string : Binds K (PySem.W.fnOf "check_string" "check_string" (defArgs s_check_string) (defBody s_check_string) (defScope s_check_string) .none kV_check_string dc_check_string pm_check_string an_check_string cd_check_string ct_check_string) ["text"] [] := Binds.all fun us hl => match us, hl with | [_], _ => rfl
  have D_value_of := df_mk (st := s_value_of) l_value_of c_value_of k_value_of
  have b_value_of : Binds K (PySem.W.fnOf "value_of" "value_of" (defArgs s_value_of) (defBody s_value_of) (defScope s_value_of) .none kV_value_of dc_value_of pm_value_of an_value_of cd_value_of ct_value_of) ["text"] [] := Binds.all fun us hl => match us, hl with | [_], _ => rfl
  have D_first_wrong := df_mk (st := s_first_wrong) l_first_wrong c_first_wrong k_first_wrong
  have b_first_wrong : Binds K (PySem.W.fnOf "first_wrong" "first_wrong" (defArgs s_first_wrong) (defBody s_first_wrong) (defScope s_first_wrong) .none kV_first_wrong dc_first_wrong pm_first_wrong an_first_wrong cd_first_wrong ct_first_wrong) ["text"] [] := Binds.all fun us hl => match us, hl with | [_], _ => rfl
  have D_is_text := df_mk (st := s_is_text) l_is_text c_is_text k_is_text
  have b_is_text : Binds K (PySem.W.fnOf "is_text" "is_text" (defArgs s_is_text) (defBody s_is_text) (defScope s_is_text) .none kV_is_text dc_is_text pm_is_text an_is_text cd_is_text ct_is_text) ["value"] [] := Binds.all fun us hl => match us, hl with | [_], _ => rfl
  have D_l_mixed := df_mk (st := s_l_mixed) l_l_mixed c_l_mixed k_l_mixed
  have b_l_mixed : Binds K (PySem.W.fnOf "_law_mixed" "_law_mixed" (defArgs s_l_mixed) (defBody s_l_mixed) (defScope s_l_mixed) .none kV_l_mixed dc_l_mixed pm_l_mixed an_l_mixed cd_l_mixed ct_l_mixed) ["_law_number", "_law_k"] [] := Binds.all fun us hl => match us, hl with | [_, _], _ => rfl
  have D_l_stream := df_mk (st := s_l_stream) l_l_stream c_l_stream k_l_stream
  have b_l_stream : Binds K (PySem.W.fnOf "_law_stream" "_law_stream" (defArgs s_l_stream) (defBody s_l_stream) (defScope s_l_stream) .none kV_l_stream dc_l_stream pm_l_stream an_l_stream cd_l_stream ct_l_stream) ["_law_item", "_law_k"] [] := Binds.all fun us hl => match us, hl with | [_, _], _ => rfl
  have D_l_draw := df_mk (st := s_l_draw) l_l_draw c_l_draw k_l_draw
  have b_l_draw : Binds K (PySem.W.fnOf "_law_draw" "_law_draw" (defArgs s_l_draw) (defBody s_l_draw) (defScope s_l_draw) .none kV_l_draw dc_l_draw pm_l_draw an_l_draw cd_l_draw ct_l_draw) ["_law_stream_here", "_law_top"] [] := Binds.all fun us hl => match us, hl with | [_, _], _ => rfl
  have D_l_pick := df_mk (st := s_l_pick) l_l_pick c_l_pick k_l_pick
  have b_l_pick : Binds K (PySem.W.fnOf "_law_pick" "_law_pick" (defArgs s_l_pick) (defBody s_l_pick) (defScope s_l_pick) .none kV_l_pick dc_l_pick pm_l_pick an_l_pick cd_l_pick ct_l_pick) ["_law_stream_here", "_law_some"] [] := Binds.all fun us hl => match us, hl with | [_, _], _ => rfl
  have D_l_word := df_mk (st := s_l_word) l_l_word c_l_word k_l_word
  have b_l_word : Binds K (PySem.W.fnOf "_law_word" "_law_word" (defArgs s_l_word) (defBody s_l_word) (defScope s_l_word) .none kV_l_word dc_l_word pm_l_word an_l_word cd_l_word ct_l_word) ["_law_stream_here"] [] := Binds.all fun us hl => match us, hl with | [_], _ => rfl
  have D_l_plain := df_mk (st := s_l_plain) l_l_plain c_l_plain k_l_plain
  have b_l_plain : Binds K (PySem.W.fnOf "_law_plain" "_law_plain" (defArgs s_l_plain) (defBody s_l_plain) (defScope s_l_plain) .none kV_l_plain dc_l_plain pm_l_plain an_l_plain cd_l_plain ct_l_plain) ["_law_stream_here"] [] := Binds.all fun us hl => match us, hl with | [_], _ => rfl
  have D_l_value := df_mk (st := s_l_value) l_l_value c_l_value k_l_value
  have b_l_value : Binds K (PySem.W.fnOf "_law_value" "_law_value" (defArgs s_l_value) (defBody s_l_value) (defScope s_l_value) .none kV_l_value dc_l_value pm_l_value an_l_value cd_l_value ct_l_value) ["_law_stream_here", "_law_deep"] [] := Binds.all fun us hl => match us, hl with | [_, _], _ => rfl
  have D_l_pairs := df_mk (st := s_l_pairs) l_l_pairs c_l_pairs k_l_pairs
  have b_l_pairs : Binds K (PySem.W.fnOf "_law_pairs" "_law_pairs" (defArgs s_l_pairs) (defBody s_l_pairs) (defScope s_l_pairs) .none kV_l_pairs dc_l_pairs pm_l_pairs an_l_pairs cd_l_pairs ct_l_pairs) ["_law_worth"] [] := Binds.all fun us hl => match us, hl with | [_], _ => rfl
  have D_l_parts := df_mk (st := s_l_parts) l_l_parts c_l_parts k_l_parts
  have b_l_parts : Binds K (PySem.W.fnOf "_law_parts" "_law_parts" (defArgs s_l_parts) (defBody s_l_parts) (defScope s_l_parts) .none kV_l_parts dc_l_parts pm_l_parts an_l_parts cd_l_parts ct_l_parts) ["_law_worth"] [] := Binds.all fun us hl => match us, hl with | [_], _ => rfl
  have D_l_put := df_mk (st := s_l_put) l_l_put c_l_put k_l_put
  have b_l_put : Binds K (PySem.W.fnOf "_law_put" "_law_put" (defArgs s_l_put) (defBody s_l_put) (defScope s_l_put) .none kV_l_put dc_l_put pm_l_put an_l_put cd_l_put ct_l_put) ["_law_worth", "_law_path", "_law_part"] [] := Binds.all fun us hl => match us, hl with | [_, _, _], _ => rfl
  have D_l_text_right := df_mk (st := s_l_text_right) l_l_text_right c_l_text_right k_l_text_right
  have b_l_text_right : Binds K (PySem.W.fnOf "_law_text_right" "_law_text_right" (defArgs s_l_text_right) (defBody s_l_text_right) (defScope s_l_text_right) .none kV_l_text_right dc_l_text_right pm_l_text_right an_l_text_right cd_l_text_right ct_l_text_right) ["_law_stream_here", "_law_worth"] [] := Binds.all fun us hl => match us, hl with | [_, _], _ => rfl
  have D_l_pair_right := df_mk (st := s_l_pair_right) l_l_pair_right c_l_pair_right k_l_pair_right
  have b_l_pair_right : Binds K (PySem.W.fnOf "_law_pair_right" "_law_pair_right" (defArgs s_l_pair_right) (defBody s_l_pair_right) (defScope s_l_pair_right) .none kV_l_pair_right dc_l_pair_right pm_l_pair_right an_l_pair_right cd_l_pair_right ct_l_pair_right) ["_law_early", "_law_late"] [] := Binds.all fun us hl => match us, hl with | [_, _], _ => rfl
  have D_law := df_mk (st := s_law) l_law c_law k_law
  have b_law : Binds K (PySem.W.fnOf "law" "law" (defArgs s_law) (defBody s_law) (defScope s_law) .none kV_law dc_law pm_law an_law cd_law ct_law) ["_law_script"] [] := Binds.all fun us hl => match us, hl with | [_], _ => rfl
  have D_TextReader__init := df_mk (st := s_TextReader__init) l_TextReader__init c_TextReader__init k_TextReader__init
  have b_TextReader__init : Binds K (PySem.W.fnOf "__init__" "TextReader.__init__" (defArgs s_TextReader__init) (defBody s_TextReader__init) (defScope s_TextReader__init) .none kV_TextReader__init dc_TextReader__init pm_TextReader__init an_TextReader__init cd_TextReader__init ct_TextReader__init) ["self", "text"] [] := Binds.all fun us hl => match us, hl with | [_, _], _ => rfl
  have D_TextReader_sign := df_mk (st := s_TextReader_sign) l_TextReader_sign c_TextReader_sign k_TextReader_sign
  have b_TextReader_sign : Binds K (PySem.W.fnOf "sign" "TextReader.sign" (defArgs s_TextReader_sign) (defBody s_TextReader_sign) (defScope s_TextReader_sign) .none kV_TextReader_sign dc_TextReader_sign pm_TextReader_sign an_TextReader_sign cd_TextReader_sign ct_TextReader_sign) ["self"] [] := Binds.all fun us hl => match us, hl with | [_], _ => rfl
  have D_TextReader_refuse := df_mk (st := s_TextReader_refuse) l_TextReader_refuse c_TextReader_refuse k_TextReader_refuse
  have b_TextReader_refuse : Binds K (PySem.W.fnOf "refuse" "TextReader.refuse" (defArgs s_TextReader_refuse) (defBody s_TextReader_refuse) (defScope s_TextReader_refuse) .none kV_TextReader_refuse dc_TextReader_refuse pm_TextReader_refuse an_TextReader_refuse cd_TextReader_refuse ct_TextReader_refuse) ["self", "index"] [] := Binds.all fun us hl => match us, hl with | [_, _], _ => rfl
  have D_TextReader_read_digits := df_mk (st := s_TextReader_read_digits) l_TextReader_read_digits c_TextReader_read_digits k_TextReader_read_digits
  have b_TextReader_read_digits : Binds K (PySem.W.fnOf "read_digits" "TextReader.read_digits" (defArgs s_TextReader_read_digits) (defBody s_TextReader_read_digits) (defScope s_TextReader_read_digits) .none kV_TextReader_read_digits dc_TextReader_read_digits pm_TextReader_read_digits an_TextReader_read_digits cd_TextReader_read_digits ct_TextReader_read_digits) ["self", "closing", "most"] [] := Binds.all fun us hl => match us, hl with | [_, _, _], _ => rfl
  have D_TextReader_read_count := df_mk (st := s_TextReader_read_count) l_TextReader_read_count c_TextReader_read_count k_TextReader_read_count
  have b_TextReader_read_count : Binds K (PySem.W.fnOf "read_count" "TextReader.read_count" (defArgs s_TextReader_read_count) (defBody s_TextReader_read_count) (defScope s_TextReader_read_count) .none kV_TextReader_read_count dc_TextReader_read_count pm_TextReader_read_count an_TextReader_read_count cd_TextReader_read_count ct_TextReader_read_count) ["self"] [] := Binds.all fun us hl => match us, hl with | [_], _ => rfl
  have D_TextReader_read_integer := df_mk (st := s_TextReader_read_integer) l_TextReader_read_integer c_TextReader_read_integer k_TextReader_read_integer
  have b_TextReader_read_integer : Binds K (PySem.W.fnOf "read_integer" "TextReader.read_integer" (defArgs s_TextReader_read_integer) (defBody s_TextReader_read_integer) (defScope s_TextReader_read_integer) .none kV_TextReader_read_integer dc_TextReader_read_integer pm_TextReader_read_integer an_TextReader_read_integer cd_TextReader_read_integer ct_TextReader_read_integer) ["self"] [] := Binds.all fun us hl => match us, hl with | [_], _ => rfl
  have D_TextReader_read_string := df_mk (st := s_TextReader_read_string) l_TextReader_read_string c_TextReader_read_string k_TextReader_read_string
  have b_TextReader_read_string : Binds K (PySem.W.fnOf "read_string" "TextReader.read_string" (defArgs s_TextReader_read_string) (defBody s_TextReader_read_string) (defScope s_TextReader_read_string) .none kV_TextReader_read_string dc_TextReader_read_string pm_TextReader_read_string an_TextReader_read_string cd_TextReader_read_string ct_TextReader_read_string) ["self"] [] := Binds.all fun us hl => match us, hl with | [_], _ => rfl
  have D_TextReader_read_pairs := df_mk (st := s_TextReader_read_pairs) l_TextReader_read_pairs c_TextReader_read_pairs k_TextReader_read_pairs
  have b_TextReader_read_pairs : Binds K (PySem.W.fnOf "read_pairs" "TextReader.read_pairs" (defArgs s_TextReader_read_pairs) (defBody s_TextReader_read_pairs) (defScope s_TextReader_read_pairs) .none kV_TextReader_read_pairs dc_TextReader_read_pairs pm_TextReader_read_pairs an_TextReader_read_pairs cd_TextReader_read_pairs ct_TextReader_read_pairs) ["self", "depth"] [] := Binds.all fun us hl => match us, hl with | [_, _], _ => rfl
  have D_TextReader_read_items := df_mk (st := s_TextReader_read_items) l_TextReader_read_items c_TextReader_read_items k_TextReader_read_items
  have b_TextReader_read_items : Binds K (PySem.W.fnOf "read_items" "TextReader.read_items" (defArgs s_TextReader_read_items) (defBody s_TextReader_read_items) (defScope s_TextReader_read_items) .none kV_TextReader_read_items dc_TextReader_read_items pm_TextReader_read_items an_TextReader_read_items cd_TextReader_read_items ct_TextReader_read_items) ["self", "depth"] [] := Binds.all fun us hl => match us, hl with | [_, _], _ => rfl
  have D_TextReader_read_part := df_mk (st := s_TextReader_read_part) l_TextReader_read_part c_TextReader_read_part k_TextReader_read_part
  have b_TextReader_read_part : Binds K (PySem.W.fnOf "read_part" "TextReader.read_part" (defArgs s_TextReader_read_part) (defBody s_TextReader_read_part) (defScope s_TextReader_read_part) .none kV_TextReader_read_part dc_TextReader_read_part pm_TextReader_read_part an_TextReader_read_part cd_TextReader_read_part ct_TextReader_read_part) ["self", "depth"] [] := Binds.all fun us hl => match us, hl with | [_, _], _ => rfl
  have D_TextReader_is_done := df_mk (st := s_TextReader_is_done) l_TextReader_is_done c_TextReader_is_done k_TextReader_is_done
  have b_TextReader_is_done : Binds K (PySem.W.fnOf "is_done" "TextReader.is_done" (defArgs s_TextReader_is_done) (defBody s_TextReader_is_done) (defScope s_TextReader_is_done) .none kV_TextReader_is_done dc_TextReader_is_done pm_TextReader_is_done an_TextReader_is_done cd_TextReader_is_done ct_TextReader_is_done) ["self"] [] := Binds.all fun us hl => match us, hl with | [_], _ => rfl
  refine ⟨PySem.W.fnOf "law" "law" (defArgs s_law) (defBody s_law) (defScope s_law) .none kV_law dc_law pm_law an_law cd_law ct_law, fun s v => .of_eq rfl, fun base _ _ SM => ?_⟩
  have T : Txt ⟨l.prog, w, K, mg, base⟩ := { b_len := PySem.W.mg_none_of X G b_len, b_isinstance := PySem.W.mg_none_of X G b_isinstance, b_repr := PySem.W.mg_none_of X G b_repr, b_enumerate := PySem.W.mg_none_of X G b_enumerate, b_range := PySem.W.mg_none_of X G b_range, b_list := PySem.W.mg_none_of X G b_list, b_tuple := PySem.W.mg_none_of X G b_tuple, b_dict := PySem.W.mg_none_of X G b_dict, b_bool := PySem.W.mg_none_of X G b_bool, b_int := PySem.W.mg_none_of X G b_int, b_str := PySem.W.mg_none_of X G b_str, b_abs := PySem.W.mg_none_of X G b_abs, b_all := PySem.W.mg_none_of X G b_all, nd := nd, c_MOST_DIGITS := ⟨_, PySem.W.mg_of X G v_MOST_DIGITS, _, rfl⟩, c_MOST_ITEMS := ⟨_, PySem.W.mg_of X G v_MOST_ITEMS, _, rfl⟩, c_MOST_LEVELS := ⟨_, PySem.W.mg_of X G v_MOST_LEVELS, _, rfl⟩ }
  have T2 : Txt2 ⟨l.prog, w, K, mg, base⟩ := { toTxt := T, c_DIGITS := ⟨_, PySem.W.mg_of X G v_DIGITS, _, rfl⟩ }
  have X_InvalidText : XK1 ⟨l.prog, w, K, mg, base⟩ "InvalidText" C_InvalidText "position" := ⟨PySem.W.mg_of X G aC_InvalidText, PySem.W.mg_none_of X G b_super, xb_InvalidText.kp, xb_InvalidText.hd, xb_InvalidText.sa, nf_InvalidText, _, _, _, _, _, _, _, _, _, _, xc_mk PySem.F.excBase_ValueError PySem.W.kxs_ValueError PySem.F.store_ValueError xa xb_InvalidText in_InvalidText l_InvalidText co_InvalidText fi_InvalidText fe_InvalidText ce_InvalidText, xst_InvalidText⟩
  have RI : PySem.W.subIn K (.ref C_InvalidText) (.type "BaseException") = some true ∧ PySem.W.typeIn K (.ref C_InvalidText) = some (.type "type") := ⟨xb_InvalidText.hs, tyX⟩
  have CL : Cls K C_TextReader := ⟨pg_TextReader, hd_TextReader, po_TextReader, sa_TextReader⟩
  have RR : RF ⟨l.prog, w, K, mg, base⟩ C_TextReader := ⟨CL, na_TextReader_own_text, na_TextReader_at⟩
  have F_items_of : Kn ⟨l.prog, w, K, mg, base⟩ "items_of" 1 ["value"] [] sp_items := ⟨_, _, [], PySem.W.mg_of X G a_items_of, k_items_of, ok_items D_items_of T, b_items_of, .nil⟩
  have F_is_wrong_part : Kn ⟨l.prog, w, K, mg, base⟩ "is_wrong_part" 1 ["value", "depth"] [] sp_wrong := ⟨_, _, [], PySem.W.mg_of X G a_is_wrong_part, k_is_wrong_part, ok_wrong D_is_wrong_part T, b_is_wrong_part, .nil⟩
  have R_wrong_path : ∀ n, Kn ⟨l.prog, w, K, mg, base⟩ "wrong_path" (n + 1) ["value", "path"] [] (sp_path n) := kn_rec (g := ⟨l.prog, w, K, mg, base⟩) (PySem.W.mg_of X G a_wrong_path) k_wrong_path b_wrong_path (fun vs H Q E z => by obtain ⟨v, u, _, d, fp, a, ps, _, _, _, _, _, h, _⟩ := z; exact absurd h (Nat.not_lt_zero _)) fun n F => ok_path n D_wrong_path T F_is_wrong_part F_items_of F
  have F_wrong_path : Kn ⟨l.prog, w, K, mg, base⟩ "wrong_path" 9 ["value", "path"] [] (sp_path 8) := R_wrong_path 8
  have F_check_value : Kn ⟨l.prog, w, K, mg, base⟩ "check_value" 10 ["value"] [] sp_check := ⟨_, _, [], PySem.W.mg_of X G a_check_value, k_check_value, ok_check D_check_value T F_wrong_path, b_check_value, .nil⟩
  have R_spelled : ∀ n, Kn ⟨l.prog, w, K, mg, base⟩ "spelled" (n + 1) ["value"] [] (sp_spell n) := kn_rec (g := ⟨l.prog, w, K, mg, base⟩) (PySem.W.mg_of X G a_spelled) k_spelled b_spelled (fun vs H Q E z => by obtain ⟨v, _, d, fp, _, _, h, _⟩ := z; exact absurd h (Nat.not_lt_zero _)) fun n F => ok_spell n D_spelled T F
  have F_spelled : Kn ⟨l.prog, w, K, mg, base⟩ "spelled" 9 ["value"] [] (sp_spell 8) := R_spelled 8
  have F_text_of : Kn ⟨l.prog, w, K, mg, base⟩ "text_of" 11 ["value"] [] sp_text := ⟨_, _, [], PySem.W.mg_of X G a_text_of, k_text_of, ok_text D_text_of T F_check_value F_spelled, b_text_of, .nil⟩
  have FwI : Kn ⟨l.prog, w, K, mg, base⟩ "is_wrong_part" 1 ["value", "depth"] [] sp_wrongI := ⟨_, _, [], PySem.W.mg_of X G a_is_wrong_part, k_is_wrong_part, ok_wrongI D_is_wrong_part T, b_is_wrong_part, .nil⟩
  have FwL : Kn ⟨l.prog, w, K, mg, base⟩ "is_wrong_part" 1 ["value", "depth"] [] sp_wrongL := ⟨_, _, [], PySem.W.mg_of X G a_is_wrong_part, k_is_wrong_part, ok_wrongL D_is_wrong_part T, b_is_wrong_part, .nil⟩
  have FiL : Kn ⟨l.prog, w, K, mg, base⟩ "items_of" 1 ["value"] [] sp_itemsL := ⟨_, _, [], PySem.W.mg_of X G a_items_of, k_items_of, ok_itemsL D_items_of T, b_items_of, .nil⟩
  have OI := ok_pathI (g := ⟨l.prog, w, K, mg, base⟩) D_wrong_path T FwI F_items_of (R_wrong_path 0)
  have FpI : Kn ⟨l.prog, w, K, mg, base⟩ "wrong_path" 2 ["value", "path"] [] sp_pathI := ⟨_, _, [], PySem.W.mg_of X G a_wrong_path, k_wrong_path, OI, b_wrong_path, .nil⟩
  have OL := ok_pathL (g := ⟨l.prog, w, K, mg, base⟩) D_wrong_path T FwL FiL FpI
  have FpN : Kn ⟨l.prog, w, K, mg, base⟩ "wrong_path" 3 ["value", "path"] [] (SpOr sp_pathI sp_pathL) := ⟨_, _, [], PySem.W.mg_of X G a_wrong_path, k_wrong_path, (OI.mono (by decide)).or OL, b_wrong_path, .nil⟩
  have OV := ok_isv (g := ⟨l.prog, w, K, mg, base⟩) D_is_value T F_wrong_path
  have ON := ok_isvN (g := ⟨l.prog, w, K, mg, base⟩) D_is_value T FpN
  have FvV : Kn ⟨l.prog, w, K, mg, base⟩ "is_value" 10 ["value"] [] sp_isv := ⟨_, _, [], PySem.W.mg_of X G a_is_value, k_is_value, OV, b_is_value, .nil⟩
  have FvN : Kn ⟨l.prog, w, K, mg, base⟩ "is_value" 10 ["value"] [] (SpOr sp_isv sp_isvN) := ⟨_, _, [], PySem.W.mg_of X G a_is_value, k_is_value, OV.or (ON.mono (by decide)), b_is_value, .nil⟩
  have OS := (ok_same (g := ⟨l.prog, w, K, mg, base⟩) D_same T FvV F_spelled).or (ok_sameN D_same T FvN F_spelled)
  have F_same : Kn ⟨l.prog, w, K, mg, base⟩ "same" 11 ["one", "other"] [] (SpOr sp_same sp_sameN) := ⟨_, _, [], PySem.W.mg_of X G a_same, k_same, OS, b_same, .nil⟩
  have KK_same : Kk ⟨l.prog, w, K, mg, base⟩ "same" 11 ["one", "other"] ["other", "one"] [1, 0] (SpOr sp_same sp_sameN) := ⟨_, _, PySem.W.mg_of X G a_same, k_same, OS, fun s ws hw => match ws, hw with | [_, _], _ => .of_eq rfl⟩
  have M_sign : Km ⟨l.prog, w, K, mg, base⟩ C_TextReader "sign" 1 ["self"] [] (sp_sign C_TextReader) := ⟨_, _, [], a_TextReader_sign, i_TextReader_sign, k_TextReader_sign, ok_sign D_TextReader_sign T2 RR, b_TextReader_sign, .nil⟩
  have M_refuse : Km ⟨l.prog, w, K, mg, base⟩ C_TextReader "refuse" 3 ["self", "index"] [] (sp_refuse C_InvalidText) := ⟨_, _, [], a_TextReader_refuse, i_TextReader_refuse, k_TextReader_refuse, ok_refuse D_TextReader_refuse T2 X_InvalidText RI, b_TextReader_refuse, .nil⟩
  have M_read_count : Km ⟨l.prog, w, K, mg, base⟩ C_TextReader "read_count" 4 ["self"] [] (sp_count C_TextReader C_InvalidText) := ⟨_, _, [], a_TextReader_read_count, i_TextReader_read_count, k_TextReader_read_count, ok_count D_TextReader_read_count T2 RR CL M_sign M_refuse, b_TextReader_read_count, .nil⟩
  have M_read_digits : Km ⟨l.prog, w, K, mg, base⟩ C_TextReader "read_digits" 4 ["self", "closing", "most"] [] (sp_digits C_TextReader C_InvalidText) := ⟨_, _, [], a_TextReader_read_digits, i_TextReader_read_digits, k_TextReader_read_digits, ok_digits D_TextReader_read_digits T2 RR CL M_sign M_refuse, b_TextReader_read_digits, .nil⟩
  have M_read_integer : Km ⟨l.prog, w, K, mg, base⟩ C_TextReader "read_integer" 5 ["self"] [] (sp_integer C_TextReader C_InvalidText) := ⟨_, _, [], a_TextReader_read_integer, i_TextReader_read_integer, k_TextReader_read_integer, ok_integer D_TextReader_read_integer T2 RR CL M_sign M_refuse M_read_digits, b_TextReader_read_integer, .nil⟩
  have M_read_string : Km ⟨l.prog, w, K, mg, base⟩ C_TextReader "read_string" 5 ["self"] [] (sp_string C_TextReader C_InvalidText) := ⟨_, _, [], a_TextReader_read_string, i_TextReader_read_string, k_TextReader_read_string, ok_string D_TextReader_read_string T2 RR CL M_refuse M_read_count, b_TextReader_read_string, .nil⟩
  have RP : ∀ n, Km ⟨l.prog, w, K, mg, base⟩ C_TextReader "read_part" (2 * n + 6) ["self", "depth"] [] (sp_part C_TextReader C_InvalidText n) := by
    intro n
    induction n with
    | zero => exact ⟨_, _, [], a_TextReader_read_part, i_TextReader_read_part, k_TextReader_read_part, ok_part 0 D_TextReader_read_part T2 RR CL M_sign M_refuse M_read_integer M_read_string ⟨_, _, [], a_TextReader_read_items, i_TextReader_read_items, k_TextReader_read_items, fnG_void (fun _ _ _ _ z => z), b_TextReader_read_items, .nil⟩ ⟨_, _, [], a_TextReader_read_pairs, i_TextReader_read_pairs, k_TextReader_read_pairs, fnG_void (fun _ _ _ _ z => z), b_TextReader_read_pairs, .nil⟩, b_TextReader_read_part, .nil⟩
    | succ n ih => exact ⟨_, _, [], a_TextReader_read_part, i_TextReader_read_part, k_TextReader_read_part, ok_part (n + 1) D_TextReader_read_part T2 RR CL M_sign M_refuse M_read_integer M_read_string ⟨_, _, [], a_TextReader_read_items, i_TextReader_read_items, k_TextReader_read_items, ok_its n (rp_len n) D_TextReader_read_items T2 RR CL M_read_count ih, b_TextReader_read_items, .nil⟩ ⟨_, _, [], a_TextReader_read_pairs, i_TextReader_read_pairs, k_TextReader_read_pairs, ok_prs n (rp_len n) D_TextReader_read_pairs T2 RR CL M_sign M_refuse M_read_string M_read_count ih, b_TextReader_read_pairs, .nil⟩, b_TextReader_read_part, .nil⟩
  have M_read_part := RP 20
  have M_is_done : Km ⟨l.prog, w, K, mg, base⟩ C_TextReader "is_done" 1 ["self"] [] (sp_done C_TextReader) := ⟨_, _, [], a_TextReader_is_done, i_TextReader_is_done, k_TextReader_is_done, ok_done D_TextReader_is_done T2 RR, b_TextReader_is_done, .nil⟩
  have F_TextReader : Kc ⟨l.prog, w, K, mg, base⟩ "TextReader" C_TextReader 1 ["self", "text"] [] (sp_rinit C_TextReader) := ⟨PySem.W.mg_of X G aC_TextReader, _, _, [], ⟨mk_TextReader, a_TextReader__init, i_TextReader__init, kc_TextReader⟩, ok_rinit D_TextReader__init T2 RR, b_TextReader__init, .nil⟩
  have F_check_string : Kn ⟨l.prog, w, K, mg, base⟩ "check_string" 1 ["text"] [] sp_cstr := ⟨_, _, [], PySem.W.mg_of X G a_check_string, k_check_string, ok_cstr D_check_string T2, b_check_string, .nil⟩
  have OVO := ok_vof (g := ⟨l.prog, w, K, mg, base⟩) D_value_of T2 RR CL F_check_string F_TextReader M_read_part M_is_done M_refuse
  have F_value_of : Kn ⟨l.prog, w, K, mg, base⟩ "value_of" 47 ["text"] [] (sp_vof C_InvalidText) := ⟨_, _, [], PySem.W.mg_of X G a_value_of, k_value_of, OVO, b_value_of, .nil⟩
  have OFW := ok_fw (g := ⟨l.prog, w, K, mg, base⟩) D_first_wrong T2 F_check_string F_value_of (PySem.W.mg_of X G aC_InvalidText) hex xb_InvalidText.xf nf_InvalidText
  have F_first_wrong : Kn ⟨l.prog, w, K, mg, base⟩ "first_wrong" 48 ["text"] [] sp_fw := ⟨_, _, [], PySem.W.mg_of X G a_first_wrong, k_first_wrong, OFW, b_first_wrong, .nil⟩
  have OIT := ok_ist (g := ⟨l.prog, w, K, mg, base⟩) D_is_text T2 F_first_wrong
  have F_is_text : Kn ⟨l.prog, w, K, mg, base⟩ "is_text" 49 ["value"] [] sp_ist := ⟨_, _, [], PySem.W.mg_of X G a_is_text, k_is_text, OIT, b_is_text, .nil⟩
  have KK_value_of : Kk ⟨l.prog, w, K, mg, base⟩ "value_of" 47 ["text"] ["text"] [0] (sp_vof C_InvalidText) := ⟨_, _, PySem.W.mg_of X G a_value_of, k_value_of, OVO, fun s ws hw => match ws, hw with | [_], _ => .of_eq rfl⟩
  have KK_first_wrong : Kk ⟨l.prog, w, K, mg, base⟩ "first_wrong" 48 ["text"] ["text"] [0] sp_fw := ⟨_, _, PySem.W.mg_of X G a_first_wrong, k_first_wrong, OFW, fun s ws hw => match ws, hw with | [_], _ => .of_eq rfl⟩
  have KK_is_text : Kk ⟨l.prog, w, K, mg, base⟩ "is_text" 49 ["value"] ["value"] [0] sp_ist := ⟨_, _, PySem.W.mg_of X G a_is_text, k_is_text, OIT, fun s ws hw => match ws, hw with | [_], _ => .of_eq rfl⟩
  have F_l_mixed : Kn ⟨l.prog, w, K, mg, base⟩ "_law_mixed" 1 ["_law_number", "_law_k"] [] sp_mixed := ⟨_, _, [], PySem.W.mg_of X G a_l_mixed, k_l_mixed, ok_mixed D_l_mixed T, b_l_mixed, .nil⟩
  have F_l_stream : Kn ⟨l.prog, w, K, mg, base⟩ "_law_stream" 2 ["_law_item", "_law_k"] [] sp_stream := ⟨_, _, [], PySem.W.mg_of X G a_l_stream, k_l_stream, ok_stream D_l_stream T F_l_mixed, b_l_stream, .nil⟩
  have F_l_draw : Kn ⟨l.prog, w, K, mg, base⟩ "_law_draw" 2 ["_law_stream_here", "_law_top"] [] sp_draw := ⟨_, _, [], PySem.W.mg_of X G a_l_draw, k_l_draw, ok_draw D_l_draw T F_l_mixed, b_l_draw, .nil⟩
  have F_l_pick : Kn ⟨l.prog, w, K, mg, base⟩ "_law_pick" 3 ["_law_stream_here", "_law_some"] [] sp_pick := ⟨_, _, [], PySem.W.mg_of X G a_l_pick, k_l_pick, ok_pick D_l_pick T F_l_draw, b_l_pick, .nil⟩
  have F_l_word : Kn ⟨l.prog, w, K, mg, base⟩ "_law_word" 4 ["_law_stream_here"] [] sp_word := ⟨_, _, [], PySem.W.mg_of X G a_l_word, k_l_word, ok_word D_l_word T F_l_pick, b_l_word, .nil⟩
  have F_l_plain : Kn ⟨l.prog, w, K, mg, base⟩ "_law_plain" 5 ["_law_stream_here"] [] sp_plain := ⟨_, _, [], PySem.W.mg_of X G a_l_plain, k_l_plain, ok_plain D_l_plain T F_l_pick F_l_draw F_l_word, b_l_plain, .nil⟩
  have R_l_value : ∀ n, Kn ⟨l.prog, w, K, mg, base⟩ "_law_value" (n + 5) ["_law_stream_here", "_law_deep"] [] (sp_value n) := kn_rec (g := ⟨l.prog, w, K, mg, base⟩) (PySem.W.mg_of X G a_l_value) k_l_value b_l_value (fun vs H Q E z => by obtain ⟨v, u, _, p, N, k, _, _, h, _⟩ := z; exact absurd h (Nat.not_lt_zero _)) fun n F => ok_value n D_l_value T F_l_draw F_l_plain F
  have F_l_value : Kn ⟨l.prog, w, K, mg, base⟩ "_law_value" 9 ["_law_stream_here", "_law_deep"] [] (sp_value 4) := R_l_value 4
  have F_l_pairs : Kn ⟨l.prog, w, K, mg, base⟩ "_law_pairs" 1 ["_law_worth"] [] sp_items := ⟨_, _, [], PySem.W.mg_of X G a_l_pairs, k_l_pairs, ok_pairs D_l_pairs T, b_l_pairs, .nil⟩
  have F_l_parts : Kn ⟨l.prog, w, K, mg, base⟩ "_law_parts" 2 ["_law_worth"] [] sp_lparts := ⟨_, _, [], PySem.W.mg_of X G a_l_parts, k_l_parts, ok_lparts D_l_parts T F_l_pairs, b_l_parts, .nil⟩
  have R_l_put : ∀ n, Kn ⟨l.prog, w, K, mg, base⟩ "_law_put" (n + 0) ["_law_worth", "_law_path", "_law_part"] [] (sp_put n) := kn_rec (g := ⟨l.prog, w, K, mg, base⟩) (PySem.W.mg_of X G a_l_put) k_l_put b_l_put (fun vs H Q E z => by obtain ⟨w, p, y, _, d, fp, pa, ps, x, e, fq, _, _, _, _, _, _, _, h, _⟩ := z; exact absurd h (Nat.not_lt_zero _)) fun n F => ok_put n D_l_put T F
  have F_l_put : Kn ⟨l.prog, w, K, mg, base⟩ "_law_put" 5 ["_law_worth", "_law_path", "_law_part"] [] (sp_put 5) := R_l_put 5
  have F_l_text_right : Kn ⟨l.prog, w, K, mg, base⟩ "_law_text_right" 50 ["_law_stream_here", "_law_worth"] [] sp_tright := ⟨_, _, [], PySem.W.mg_of X G a_l_text_right, k_l_text_right, ok_tright SM D_l_text_right T F_text_of F_value_of KK_value_of F_is_text KK_is_text F_first_wrong KK_first_wrong F_l_parts F_l_draw F_l_pick, b_l_text_right, .nil⟩
  have F_l_pair_right : Kn ⟨l.prog, w, K, mg, base⟩ "_law_pair_right" 12 ["_law_early", "_law_late"] [] sp_pright := ⟨_, _, [], PySem.W.mg_of X G a_l_pair_right, k_l_pair_right, ok_pright SM D_l_pair_right T F_text_of F_same KK_same, b_l_pair_right, .nil⟩
  exact ok_law D_law T F_l_stream F_l_value F_l_draw F_l_pick F_l_parts F_l_put F_l_text_right F_l_pair_right F_same


end K04
open PySem PySem.W PyProof.Rows
local macro_rules | `(tactic| o_head ($f:ident $k $a $e)) => `(tactic| o_head (RS.smHook ($f $k $a $e)))
set_option maxRecDepth 100000 in
set_option maxHeartbeats 0 in
theorem PySem.Challenge.cw_recordshelf_k04_whole_texts_there_and_ba_holds : PySem.Challenge.rw_recordshelf_k04_whole_texts_there_and_ba.Holds := by
  w_on; o_law; k_head; (case hw => w_witness2)
  k_fill
  refine RS.walkS (l := PySem.Challenge.rw_recordshelf_k04_whole_texts_there_and_ba) (n := 63) (k := 51) (sp := fun w => K04.sp_law _) (x := "_law_script") rfl (by decide) rfl ⟨rfl, by decide, by decide⟩ (fun w h Y => PySem.W.kIn_of Y.1) (fun w h Y => Y.2) ?F (fun w H a ns hl hb hO hS => ⟨_, rfl, a, ns, rfl, hS, by omega, fun _ => rfl⟩)
  case F =>
    intro w mg fa h KX G hmg
    refine' K04.all_mk (l := PySem.Challenge.rw_recordshelf_k04_whole_texts_there_and_ba) KX G hmg ?b_super ?xa ?aC_InvalidText ?in_InvalidText ?l_InvalidText ?co_InvalidText ?fi_InvalidText ?fe_InvalidText ?ce_InvalidText ?xb_InvalidText ?nf_InvalidText ?tyX ?hex ?aC_TextReader ?pg_TextReader ?hd_TextReader ?po_TextReader ?sa_TextReader ?kc_TextReader ?mk_TextReader ?na_TextReader_own_text ?na_TextReader_at ?a_TextReader__init ?i_TextReader__init ?l_TextReader__init ?c_TextReader__init ?k_TextReader__init ?a_TextReader_sign ?i_TextReader_sign ?l_TextReader_sign ?c_TextReader_sign ?k_TextReader_sign ?a_TextReader_refuse ?i_TextReader_refuse ?l_TextReader_refuse ?c_TextReader_refuse ?k_TextReader_refuse ?a_TextReader_read_digits ?i_TextReader_read_digits ?l_TextReader_read_digits ?c_TextReader_read_digits ?k_TextReader_read_digits ?a_TextReader_read_count ?i_TextReader_read_count ?l_TextReader_read_count ?c_TextReader_read_count ?k_TextReader_read_count ?a_TextReader_read_integer ?i_TextReader_read_integer ?l_TextReader_read_integer ?c_TextReader_read_integer ?k_TextReader_read_integer ?a_TextReader_read_string ?i_TextReader_read_string ?l_TextReader_read_string ?c_TextReader_read_string ?k_TextReader_read_string ?a_TextReader_read_pairs ?i_TextReader_read_pairs ?l_TextReader_read_pairs ?c_TextReader_read_pairs ?k_TextReader_read_pairs ?a_TextReader_read_items ?i_TextReader_read_items ?l_TextReader_read_items ?c_TextReader_read_items ?k_TextReader_read_items ?a_TextReader_read_part ?i_TextReader_read_part ?l_TextReader_read_part ?c_TextReader_read_part ?k_TextReader_read_part ?a_TextReader_is_done ?i_TextReader_is_done ?l_TextReader_is_done ?c_TextReader_is_done ?k_TextReader_is_done ?a_items_of ?l_items_of ?c_items_of ?k_items_of ?a_is_wrong_part ?l_is_wrong_part ?c_is_wrong_part ?k_is_wrong_part ?a_wrong_path ?l_wrong_path ?c_wrong_path ?k_wrong_path ?a_check_value ?l_check_value ?c_check_value ?k_check_value ?a_is_value ?l_is_value ?c_is_value ?k_is_value ?a_spelled ?l_spelled ?c_spelled ?k_spelled ?a_text_of ?l_text_of ?c_text_of ?k_text_of ?a_same ?l_same ?c_same ?k_same ?a_check_string ?l_check_string ?c_check_string ?k_check_string ?a_value_of ?l_value_of ?c_value_of ?k_value_of ?a_first_wrong ?l_first_wrong ?c_first_wrong ?k_first_wrong ?a_is_text ?l_is_text ?c_is_text ?k_is_text ?a_l_mixed ?l_l_mixed ?c_l_mixed ?k_l_mixed ?a_l_stream ?l_l_stream ?c_l_stream ?k_l_stream ?a_l_draw ?l_l_draw ?c_l_draw ?k_l_draw ?a_l_pick ?l_l_pick ?c_l_pick ?k_l_pick ?a_l_word ?l_l_word ?c_l_word ?k_l_word ?a_l_plain ?l_l_plain ?c_l_plain ?k_l_plain ?a_l_value ?l_l_value ?c_l_value ?k_l_value ?a_l_pairs ?l_l_pairs ?c_l_pairs ?k_l_pairs ?a_l_parts ?l_l_parts ?c_l_parts ?k_l_parts ?a_l_put ?l_l_put ?c_l_put ?k_l_put ?a_l_text_right ?l_l_text_right ?c_l_text_right ?k_l_text_right ?a_l_pair_right ?l_l_pair_right ?c_l_pair_right ?k_l_pair_right ?a_law ?l_law ?c_law ?k_law ?b_len ?b_isinstance ?b_repr ?b_enumerate ?b_range ?b_list ?b_tuple ?b_dict ?b_bool ?b_int ?b_str ?b_abs ?b_all ?nd ?v_MOST_DIGITS ?v_MOST_ITEMS ?v_MOST_LEVELS ?v_DIGITS
    (case b_super => k_is)
    (case xa => exact ⟨by kernel_rfl, by kernel_rfl, by kernel_rfl, by kernel_rfl⟩)
    (case aC_InvalidText => k_is)
    (case in_InvalidText => k_is)
    (case l_InvalidText => k_is)
    (case co_InvalidText => k_is)
    (case fi_InvalidText => exact rfl)
    (case fe_InvalidText => kernel_rfl)
    (case ce_InvalidText => k_is)
    (case xb_InvalidText => exact ⟨by kernel_rfl, by kernel_rfl, by kernel_rfl, by kernel_rfl, by kernel_rfl, by kernel_rfl, by kernel_rfl, by kernel_rfl, by kernel_rfl, by kernel_rfl, by kernel_rfl, by kernel_rfl, by kernel_rfl, by kernel_rfl, by kernel_rfl⟩)
    (case nf_InvalidText => kernel_rfl)
    (case tyX => kernel_rfl)
    (case hex => kernel_rfl)
    (case aC_TextReader => k_is)
    (case pg_TextReader => k_is)
    (case hd_TextReader => k_is)
    (case po_TextReader => k_is)
    (case sa_TextReader => k_is)
    (case kc_TextReader => k_is)
    (case mk_TextReader => k_is)
    (case na_TextReader_own_text => k_is)
    (case na_TextReader_at => k_is)
    (case a_TextReader__init => k_is)
    (case i_TextReader__init => k_is)
    (case l_TextReader__init => k_is)
    (case c_TextReader__init => k_is)
    (case k_TextReader__init => k_is)
    (case a_TextReader_sign => k_is)
    (case i_TextReader_sign => k_is)
    (case l_TextReader_sign => k_is)
    (case c_TextReader_sign => k_is)
    (case k_TextReader_sign => k_is)
    (case a_TextReader_refuse => k_is)
    (case i_TextReader_refuse => k_is)
    (case l_TextReader_refuse => k_is)
    (case c_TextReader_refuse => k_is)
    (case k_TextReader_refuse => k_is)
    (case a_TextReader_read_digits => k_is)
    (case i_TextReader_read_digits => k_is)
    (case l_TextReader_read_digits => k_is)
    (case c_TextReader_read_digits => k_is)
    (case k_TextReader_read_digits => k_is)
    (case a_TextReader_read_count => k_is)
    (case i_TextReader_read_count => k_is)
    (case l_TextReader_read_count => k_is)
    (case c_TextReader_read_count => k_is)
    (case k_TextReader_read_count => k_is)
    (case a_TextReader_read_integer => k_is)
    (case i_TextReader_read_integer => k_is)
    (case l_TextReader_read_integer => k_is)
    (case c_TextReader_read_integer => k_is)
    (case k_TextReader_read_integer => k_is)
    (case a_TextReader_read_string => k_is)
    (case i_TextReader_read_string => k_is)
    (case l_TextReader_read_string => k_is)
    (case c_TextReader_read_string => k_is)
    (case k_TextReader_read_string => k_is)
    (case a_TextReader_read_pairs => k_is)
    (case i_TextReader_read_pairs => k_is)
    (case l_TextReader_read_pairs => k_is)
    (case c_TextReader_read_pairs => k_is)
    (case k_TextReader_read_pairs => k_is)
    (case a_TextReader_read_items => k_is)
    (case i_TextReader_read_items => k_is)
    (case l_TextReader_read_items => k_is)
    (case c_TextReader_read_items => k_is)
    (case k_TextReader_read_items => k_is)
    (case a_TextReader_read_part => k_is)
    (case i_TextReader_read_part => k_is)
    (case l_TextReader_read_part => k_is)
    (case c_TextReader_read_part => k_is)
    (case k_TextReader_read_part => k_is)
    (case a_TextReader_is_done => k_is)
    (case i_TextReader_is_done => k_is)
    (case l_TextReader_is_done => k_is)
    (case c_TextReader_is_done => k_is)
    (case k_TextReader_is_done => k_is)
    (case a_items_of => k_is)
    (case l_items_of => k_is)
    (case c_items_of => k_is)
    (case k_items_of => k_is)
    (case a_is_wrong_part => k_is)
    (case l_is_wrong_part => k_is)
    (case c_is_wrong_part => k_is)
    (case k_is_wrong_part => k_is)
    (case a_wrong_path => k_is)
    (case l_wrong_path => k_is)
    (case c_wrong_path => k_is)
    (case k_wrong_path => k_is)
    (case a_check_value => k_is)
    (case l_check_value => k_is)
    (case c_check_value => k_is)
    (case k_check_value => k_is)
    (case a_is_value => k_is)
    (case l_is_value => k_is)
    (case c_is_value => k_is)
    (case k_is_value => k_is)
    (case a_spelled => k_is)
    (case l_spelled => k_is)
    (case c_spelled => k_is)
    (case k_spelled => k_is)
    (case a_text_of => k_is)
    (case l_text_of => k_is)
    (case c_text_of => k_is)
    (case k_text_of => k_is)
    (case a_same => k_is)
    (case l_same => k_is)
    (case c_same => k_is)
    (case k_same => k_is)
    (case a_check_string => k_is)
    (case l_check_string => k_is)
    (case c_check_string => k_is)
    (case k_check_string => k_is)
    (case a_value_of => k_is)
    (case l_value_of => k_is)
    (case c_value_of => k_is)
    (case k_value_of => k_is)
    (case a_first_wrong => k_is)
    (case l_first_wrong => k_is)
    (case c_first_wrong => k_is)
    (case k_first_wrong => k_is)
    (case a_is_text => k_is)
    (case l_is_text => k_is)
    (case c_is_text => k_is)
    (case k_is_text => k_is)
    (case a_l_mixed => k_is)
    (case l_l_mixed => k_is)
    (case c_l_mixed => k_is)
    (case k_l_mixed => k_is)
    (case a_l_stream => k_is)
    (case l_l_stream => k_is)
    (case c_l_stream => k_is)
    (case k_l_stream => k_is)
    (case a_l_draw => k_is)
    (case l_l_draw => k_is)
    (case c_l_draw => k_is)
    (case k_l_draw => k_is)
    (case a_l_pick => k_is)
    (case l_l_pick => k_is)
    (case c_l_pick => k_is)
    (case k_l_pick => k_is)
    (case a_l_word => k_is)
    (case l_l_word => k_is)
    (case c_l_word => k_is)
    (case k_l_word => k_is)
    (case a_l_plain => k_is)
    (case l_l_plain => k_is)
    (case c_l_plain => k_is)
    (case k_l_plain => k_is)
    (case a_l_value => k_is)
    (case l_l_value => k_is)
    (case c_l_value => k_is)
    (case k_l_value => k_is)
    (case a_l_pairs => k_is)
    (case l_l_pairs => k_is)
    (case c_l_pairs => k_is)
    (case k_l_pairs => k_is)
    (case a_l_parts => k_is)
    (case l_l_parts => k_is)
    (case c_l_parts => k_is)
    (case k_l_parts => k_is)
    (case a_l_put => k_is)
    (case l_l_put => k_is)
    (case c_l_put => k_is)
    (case k_l_put => k_is)
    (case a_l_text_right => k_is)
    (case l_l_text_right => k_is)
    (case c_l_text_right => k_is)
    (case k_l_text_right => k_is)
    (case a_l_pair_right => k_is)
    (case l_l_pair_right => k_is)
    (case c_l_pair_right => k_is)
    (case k_l_pair_right => k_is)
    (case a_law => k_is)
    (case l_law => k_is)
    (case c_law => k_is)
    (case k_law => k_is)
    (case b_len => k_is)
    (case b_isinstance => k_is)
    (case b_repr => k_is)
    (case b_enumerate => k_is)
    (case b_range => k_is)
    (case b_list => k_is)
    (case b_tuple => k_is)
    (case b_dict => k_is)
    (case b_bool => k_is)
    (case b_int => k_is)
    (case b_str => k_is)
    (case b_abs => k_is)
    (case b_all => k_is)
    (case nd => k_is)
    (case v_MOST_DIGITS => k_is)
    (case v_MOST_ITEMS => k_is)
    (case v_MOST_LEVELS => k_is)
    (case v_DIGITS => k_is)


