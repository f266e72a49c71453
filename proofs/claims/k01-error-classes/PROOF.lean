import PyProof.Rows.All
import Wide.All
import OpenK.AllK
import Wide.FinOn
import HandS.ForMost
import HandS.Exc
import HandS.WordsExc
import HandS.Flow
import HandS.IsInst
import HandS.FStr
import HandS.TupAny
import HandS.Style
import PyProof.ReprRoads
import KE.GoesMore
import PyProof.FString3
import PyProof.Rows.StrIntSpec
import KE.KFmtOwn
import PyProof.StrBlock2
import HandS.Property
import HandS.Text
import PyProof.Rows.Range3
import PyProof.Conv_bool
import HandS.Small
import PyProof.InstEq
import HandS.EndBits
import HandS.Codes
import PyProof.ReprLen
import HandS.Dict
import KE.KExcSuper
import HandS.ExcInit
import HandS.ExcField
import HandS.ExcIs
import PyProof.RowDictHeap
import PyProof.Rows.SeqMore
import PyProof.FitsInt
import KE.KExcInit
import KE.KExcLine
import PySem.Challenge.RW_recordshelf_k01_error_classes
set_option Elab.async false
set_option linter.all false
set_option maxRecDepth 100000
set_option maxHeartbeats 4000000
namespace RS
open PySem PySem.Spec L2

/-- what a law's text is, as it stands behind its top -/
structure Wd where
  P : Program
  w : World
  K : PySem.W.Frag
  mg : Str → Option Value
  base : Heap

/-- a def that keeps its promise wherever no repr is under way -/
structure FnG (g : Wd) (k : Nat) (f : Addr) (fd : FuncData) (ps : List Str) (sp : Sp) : Prop where
  len : ∀ vs H Q E, sp vs H Q E → vs.length = ps.length
  run : ∀ (A : Around) (outer : List Env) (s : Shared) (H : Hp) (args : Args) (us : List Value) (vs : List V) (Q : VK) (E : XK),
    Room k A → A.guards = some [] → Env0 g.P g.w g.K g.mg g.base A outer s H → BindsTo s fd args (ps.zip us) → Vals vs us → sp vs H Q E →
      codeAny (model g.P g.w) A (.call (.ref f) args) (CR (L2.CX g.P g.w) outer g.P g.w H s Q E) s

theorem FnG.mono {g : Wd} {j k : Nat} {f : Addr} {fd : FuncData} {ps : List Str} {sp : Sp} (F : FnG g j f fd ps sp) (h : j ≤ k) : FnG g k f fd ps sp :=
  ⟨F.len, fun A outer s H args us vs Q E hr => F.run A outer s H args us vs Q E (hr.mono h)⟩
theorem FnG.imp {g : Wd} {k : Nat} {f : Addr} {fd : FuncData} {ps : List Str} {sp sp' : Sp} (F : FnG g k f fd ps sp) (h : ∀ vs H Q E, sp' vs H Q E → sp vs H Q E) : FnG g k f fd ps sp' :=
  ⟨fun vs H Q E q => F.len vs H Q E (h _ _ _ _ q), fun A outer s H args us vs Q E hr hg he hb hv hs => F.run A outer s H args us vs Q E hr hg he hb hv (h _ _ _ _ hs)⟩

/-- a def of the text, with the value of its defaults -/
structure Df (K : PySem.W.Frag) (x qual : Str) (st : Stmt) (f : Addr) (fd : FuncData) (dV : Value) : Prop where
  ex : ∃ (oc : Value) (od : Option Addr) (kV doc pm : Value) (an : Option Addr) (cdv ct : Value) (osl : Array (Option Value)),
    fd = PySem.W.fnOf x qual (defArgs st) (defBody st) (defScope st) dV kV doc pm an cdv ct ∧ K.lookup f = some ⟨oc, od, .func fd, osl⟩ ∧ PySem.W.codeIn K cdv qual = true
  kp : PySem.W.keepIn K (.ref f) = true

/-- the context of its body -/
abbrev cx (g : Wd) (N : List Str) (qual : Str) (st : Stmt) (f : Addr) (cdv : Value) (A : Around) (outer : List Env) (s : Shared) (H : Hp) (E : XK) : Cx :=
  cxOf (L2.CX g.P g.w) g.P g.w g.K g.mg g.base N qual (defScope st) f cdv A outer s H E

/-- what a body may lean on: room, and no repr under way -/
structure Rm (k : Nat) (X : Cx) : Prop where
  room : Room k X.A
  gd : X.A.guards = some []
theorem Rm.mono {j k : Nat} {X : Cx} (r : Rm k X) (h : j ≤ k) : Rm j X := ⟨r.room.mono h, r.gd⟩

theorem Df.ok {g : Wd} {x qual : Str} {st : Stmt} {f : Addr} {fd : FuncData} {dV : Value} {N ps : List Str} {k : Nat} {sp : Sp} (F : Df g.K x qual st f fd dV) (S : FnScope N ps (defScope st))
    (len : ∀ vs H Q E, sp vs H Q E → vs.length = ps.length)
    (hbody : ∀ (cdv : Value) (A : Around) (outer : List Env) (s : Shared) (H : Hp) (vs : List V) (Q : VK) (E : XK), Rm k (cx g N qual st f cdv A outer s H E) → sp vs H Q E →
      ∃ t, PSs (cx g N qual st f cdv A outer s H E) (defBody st) t ∧ t { nx := fun _ H' => Q .non H', rt := Q } (start N vs) H) : FnG g (k + 1) f fd ps sp := by
  obtain ⟨oc, od, kV, doc, pm, an, cdv, ct, osl, rfl, lk, hcd⟩ := F.ex
  refine ⟨len, fun A outer s H args us vs Q E hr hg e0 hb rv hsp => ?_⟩
  have kept : ∀ b o, g.base.get? b = some o → s.heap.get? b = some o := fun b o e => (e0.bs b o e).1
  have KX := e0.mod.kin.keeps kept
  have par : ∀ y ∈ ps.zip us, (defScope st).names.lookup y.1 = some .local ∨ ((defScope st).names.lookup y.1 = some .cell ∧ ((cellsFrom (s.heap.objs.size + 1) (defScope st).names []).lookup y.1).isSome = true) := by
    rintro ⟨n, v⟩ hy
    exact (S.par n (List.of_mem_zip hy).1).imp id fun q => ⟨q, PySem.W.cellsFrom_some _ _ _ (.inl q)⟩
  refine codeAny_call_function hr.depth (KX _ _ lk) rfl S.co S.gen rfl (PySem.W.codeRec_of KX hcd) (hb _ _ _ _ (wpAny_newFunctionEnv_cells S.kind par ?_))
  rintro env rfl s1 ic
  refine ⟨(e0.mod.nolimit.keeps kept).keeps ic.toInCall.keep, codeAny_func ?_⟩
  obtain ⟨t, ht, hq⟩ := hbody cdv A outer s H vs Q E ⟨hr.deeper _, hg⟩ hsp
  have J := inv_start (CX := L2.CX g.P g.w) (E := E) (qual := qual) (f := f) (cd := cdv) S hr.hd e0 (len _ _ _ _ hsp) rv ic
  refine wpAny_mono (ht.run [] s1 _ H _ J hq) ?_ fun _ _ z => z
  rintro fl s' hs
  cases fl with
  | ret u => obtain ⟨v, σ', H', I, r, q⟩ := hs; exact ⟨v, H', I.os, I.bare, I.base, I.hok, r, q⟩
  | next => obtain ⟨σ', H', I, q⟩ := hs; exact ⟨.non, H', I.os, I.bare, I.base, I.hok, rfl, q⟩
  | brk => obtain ⟨_, _, _, q⟩ := hs; exact q.elim
  | cont => obtain ⟨_, _, _, q⟩ := hs; exact q.elim

/-! ### calls -/
/-- X stands in the world g -/
structure At (g : Wd) (X : Cx) : Prop where
  P : X.prog = g.P
  w : X.w = g.w
  K : X.K = g.K
  mg : X.mg = g.mg
  base : X.base = g.base

section
variable {g : Wd} {X : Cx} {k : Nat} {f : Addr} {fd : FuncData} {ps : List Str} {sp : Sp} {W : WX}
/-- the callee runs, its arguments bound somehow -/
theorem runG (a : At g X) (F : FnG g k f fd ps sp) (hr : Rm k X) (tk : Takes X W) {pins : List (Addr × Obj)} {σ : St} {H : Hp} {s : Shared} {Q : VK} {args : Args} {us : List Value} {vs : List V}
    (I : Inv X pins σ H s) (hb : BindsTo s fd args (ps.zip us)) (r : Vals vs us) (h : sp vs H Q (fun c d H' => W c d σ H')) :
    codeAny (model X.prog X.w) X.A (.call (.ref f) args) (fun res s' => match res with | .ok fl => (match fl with | .ret u => EP X pins σ Q u s' | _ => False) | .error e => X.xe e s') s := by
  obtain ⟨P, w, K, mg, base⟩ := g
  obtain ⟨rfl, rfl, rfl, rfl, rfl⟩ := a
  refine codeAny_mono (F.run X.A X.stack s H args us vs Q _ hr.room hr.gd I.env0 hb r h) fun res s' hq => ?_
  cases res with
  | error e => exact tk e s' (XE.of_call (E := fun c d H' => W c d σ H') I (fun _ _ _ z => z) hq)
  | ok fl =>
    cases fl with
    | ret u => exact I.after hq
    | _ => exact hq.elim
end
end RS


namespace RS
open PySem PySem.Spec L2

/-! ### promises by the number of arguments -/
def S0 (g : Hp → VK → XK → Prop) : Sp := fun vs H Q E => vs = [] ∧ g H Q E
def S1 (g : V → Hp → VK → XK → Prop) : Sp := fun vs H Q E => ∃ a, vs = [a] ∧ g a H Q E
def S2 (g : V → V → Hp → VK → XK → Prop) : Sp := fun vs H Q E => ∃ a b, vs = [a, b] ∧ g a b H Q E
def S3 (g : V → V → V → Hp → VK → XK → Prop) : Sp := fun vs H Q E => ∃ a b c, vs = [a, b, c] ∧ g a b c H Q E
def S4 (g : V → V → V → V → Hp → VK → XK → Prop) : Sp := fun vs H Q E => ∃ a b c d, vs = [a, b, c, d] ∧ g a b c d H Q E
def S5 (g : V → V → V → V → V → Hp → VK → XK → Prop) : Sp := fun vs H Q E => ∃ a b c d e, vs = [a, b, c, d, e] ∧ g a b c d e H Q E
theorem S0.len {g} {vs : List V} {H Q E} (h : S0 g vs H Q E) : vs.length = 0 := by obtain ⟨rfl, _⟩ := h; rfl
theorem S1.len {g} {vs : List V} {H Q E} (h : S1 g vs H Q E) : vs.length = 1 := by obtain ⟨_, rfl, _⟩ := h; rfl
theorem S2.len {g} {vs : List V} {H Q E} (h : S2 g vs H Q E) : vs.length = 2 := by obtain ⟨_, _, rfl, _⟩ := h; rfl
theorem S3.len {g} {vs : List V} {H Q E} (h : S3 g vs H Q E) : vs.length = 3 := by obtain ⟨_, _, _, rfl, _⟩ := h; rfl
theorem S4.len {g} {vs : List V} {H Q E} (h : S4 g vs H Q E) : vs.length = 4 := by obtain ⟨_, _, _, _, rfl, _⟩ := h; rfl
theorem S5.len {g} {vs : List V} {H Q E} (h : S5 g vs H Q E) : vs.length = 5 := by obtain ⟨_, _, _, _, _, rfl, _⟩ := h; rfl

/-! ### a def by its name -/
/-- what the module's name x holds is worth v -/
def Gv (g : Wd) (x : Str) (v : V) : Prop := ∃ u, g.mg x = some u ∧ RelV v u
/-- the module's name x holds a def that keeps sp; ds: its defaults that fill up -/
def Kn (g : Wd) (x : Str) (k : Nat) (ps : List Str) (ds : List V) (sp : Sp) : Prop :=
  ∃ f fd dsV, g.mg x = some (.ref f) ∧ PySem.W.keepIn g.K (.ref f) = true ∧ FnG g k f fd ps sp ∧ Binds g.K fd ps dsV ∧ Vals ds dsV

section
variable {g : Wd} {X : Cx} {k : Nat} {f : Addr} {fd : FuncData} {ps : List Str} {sp : Sp} {W : WX} {ds : List V} {x : Str} {p pos : Pos} {e : Expr} {es : List Expr} {t : TA}

theorem e_g {v : V} (h : Gv g x v) (hg : Gl X x := by rfl) (hd : (x == ("__debug__" : Str)) = false := by decide) (a : At g X := by exact ⟨rfl, rfl, rfl, rfl, rfl⟩) : PE X (.Name x pos) (tC v) := by
  obtain ⟨u, hm, r⟩ := h
  exact pe_glob hg (by rw [a.mg]; exact hm) r hd

def tCallG (sp : Sp) (ds : List V) (W : WX) (t : TA) : TE := fun σ H Q => t σ H fun vs H1 => sp (vs ++ ds) H1 Q (fun c d H' => W c d σ H')

/-- the call itself, the arguments at hand -/
theorem callG {dsV : List Value} (a : At g X) (F : FnG g k f fd ps sp) (hr : Rm k X) (tk : Takes X W) (hb : Binds g.K fd ps dsV) (rd : Vals ds dsV) {pins : List (Addr × Obj)} {σ : L2.St} {H : Hp} {s : Shared} {Q : VK} {us : List Value} {vs : List V}
    (I : Inv X pins σ H s) (r : Vals vs us) (h : sp (vs ++ ds) H Q (fun c d H' => W c d σ H')) : wpAny (model X.prog X.w) X.A (call (.ref f) us) (EP X pins σ Q) X.xe s := by
  have r2 := Vals.append r rd
  have hl : (us ++ dsV).length = ps.length := by rw [← r2.length]; exact F.len _ _ _ _ h
  have KI : g.K.In s.heap := by rw [← a.K]; exact I.kIn
  refine wpAny_call (codeAny_mono (runG a F hr tk I (hb s us KI hl) r2 h) fun res s' hq => ?_)
  cases res with
  | error e => exact hq
  | ok fl => cases fl with
    | ret u => exact hq
    | _ => exact hq.elim

theorem pe_callG (F : Kn g x k ps ds sp) (hr : Rm k X) (tk : Takes X W) (ha : PA X (e :: es) t) (hg : Gl X x := by rfl) (hdb : (x == ("__debug__" : Str)) = false := by decide)
    (he : starEach (e :: es) X.env = (false, eval e X.env) :: starEach es X.env := by rfl) (hpl : (backTo pos (starEach es X.env)).any (·.1) = false := by rfl) (a : At g X := by exact ⟨rfl, rfl, rfl, rfl, rfl⟩) :
    PE X (.Call (.Name x p) (e :: es) [] pos) (tCallG sp ds W t) := by
  obtain ⟨f, fd, dsV, hm, hk, F, hb, rd⟩ := F
  refine ⟨fun pins s σ H Q I h => wpAny_Call_Name_kw (ld_glob I hg (by rw [a.mg]; exact hm) ?_ hdb)⟩
  refine PySem.W.callWith_K (h₀ := X.base) I.ok.mod.kin (by rw [a.K]; exact hk) (thn (ha.run pos pins s σ H _ I h) ?_) he hpl
  rintro us s1 ⟨vs, H1, I1, r, q⟩
  exact ⟨I1.kIn, callG a F hr tk hb rd I1 r q⟩
theorem pe_callG0 (F : Kn g x k ps ds sp) (hr : Rm k X) (tk : Takes X W) (hg : Gl X x := by rfl) (hdb : (x == ("__debug__" : Str)) = false := by decide) (a : At g X := by exact ⟨rfl, rfl, rfl, rfl, rfl⟩) :
    PE X (.Call (.Name x p) [] [] pos) (tCallG sp ds W tNil) := by
  obtain ⟨f, fd, dsV, hm, hk, F, hb, rd⟩ := F
  refine ⟨fun pins s σ H Q I h => wpAny_Call_Name_kw (ld_glob I hg (by rw [a.mg]; exact hm) ?_ hdb)⟩
  exact PySem.W.callWith_K0 I.kIn (by rw [a.K]; exact hk) (callG a F hr tk hb rd I .nil h)
end

/-! ### repr -/
section
variable {X : Cx} {k : Nat}
mutual
theorem Dp.noDict {K : PySem.W.Frag} {H : Hp} : ∀ {d : PyData} {v : V}, Dp K H v d → d.hasDict = false
  | .none, _, _ => rfl
  | .bool _, _, _ => rfl
  | .int _, _, _ => rfl
  | .str _, _, _ => rfl
  | .list ds, _, h => by cases h with | lst _ ha => simp only [PyData.hasDict]; exact DpAll.noDict ha
  | .tuple ds, _, h => by cases h with | tup _ ha => simp only [PyData.hasDict]; exact DpAll.noDict ha
  | .dict _, _, h => by cases h
theorem DpAll.noDict {K : PySem.W.Frag} {H : Hp} : ∀ {ds : List PyData} {vs : List V}, DpAll K H vs ds → PyData.hasDictAll ds = false
  | [], _, _ => rfl
  | d :: ds, _, h => by cases h with | cons h1 h2 => simp only [PyData.hasDictAll, Dp.noDict h1, DpAll.noDict h2, Bool.or_self]
end
def rRepr (K : PySem.W.Frag) : List V → Hp → VK → Prop := fun xs H Q => ∃ a d, xs = [.ref a] ∧ Dp K H (.ref a) d ∧ d.showable = true ∧ d.depth ≤ 60 ∧ d.shown.length ≤ sizeLine ∧ Q (.str d.shown) H
theorem c_repr {K : PySem.W.Frag} (hr : Rm k X) (hK : X.K = K := by rfl) : CallR X (.builtin "repr") (rRepr K) := by
  subst hK
  intro pins s σ H xs us Q I r h
  obtain ⟨a, d, rfl, hd, hs, hz, hl, q⟩ := h
  obtain ⟨u, rfl, ru⟩ := vals1 r
  cases ru
  obtain ⟨as, rd⟩ := Dp.reads I d (.ref a) (.ref a) hd rfl
  refine repr_of_reads' (h₀ := s.heap) rd hs (PyData.noDict_hsm (Dp.noDict hd)) hr.gd (by have := hr.room.un; omega) (fun _ _ e => e) (fun h' u tk kp => ?_) hl
  exact ⟨.str _, H, I.kept kp, ⟨_, rfl⟩, q⟩
end
end RS


namespace RS
open PySem PySem.Spec L2

/-! ### enumerate(text) -/
/-- the signs of x, each with its index in a new pair -/
def ItEs (x : Str) : It :=
  ⟨fun i _ => i < x.cps.size, fun i H v H' => ∃ T c, v = .ref T ∧ H T = none ∧ H' = upd H T (.tup [.int (i : Nat), .str ⟨#[c]⟩]) ∧ x.cps[i]? = some c, fun i _ => i = x.cps.size⟩
theorem turn_enumS {P : Program} {w : World} {K : PySem.W.Frag} {elts : List Expr} {kk : Nat} {tpos : Pos} (x : Str) (t : Tok) (e it : Addr) :
    Turn P w K (.Tuple elts kk tpos) (ItEs x) [e, it] e (fun i h => (∃ old, IsEnum h e it ((i : Nat) : Int) old) ∧ h.IsStrIter it (strIterType x) x t i ∧ e ≠ it) where
  mem := List.mem_cons_self
  obj := by
    rintro i h ⟨⟨old, he⟩, ⟨o, ho, hc, hd⟩, _⟩ b hb
    rcases List.mem_cons.mp hb with rfl | hb
    · exact ⟨_, he, fun v q => nomatch q⟩
    · obtain rfl := List.mem_singleton.mp hb
      exact ⟨o, ho, fun v q => by rw [hd] at q; cases q⟩
  keep := by
    rintro i h h' ⟨⟨old, he⟩, ⟨o, ho, hr⟩, hne⟩ k
    exact ⟨⟨old, k e (by simp) _ he⟩, ⟨o, k it (by simp) o ho, hr⟩, hne⟩
  item := by
    intro X hP hw hK hc i pins s σ H E I hf st hg
    subst hP hw hK
    obtain ⟨⟨old, he⟩, hit, hne⟩ := st
    have hel : e < s.heap.objs.size := Heap.lt_size he
    have hil : it < s.heap.objs.size := by obtain ⟨_, q, _⟩ := hit; exact Heap.lt_size q
    refine wpAny_pyNext_enum_itemD (Draws.text (A := X.A.in1) (I.ok.hd hc) it x t) he hit hg hne (by simpa using hne) fun u h' tk hp ho hit' hT hsz hk => ?_
    obtain ⟨c, tu, hcx, rfl⟩ := hp
    refine ⟨_, rfl, wpAny_letOwnedTupleGo_enum (s := { s with heap := h', toks := tk + 1 }) ho fun h2 he' sb => ?_⟩
    have hT2 : h2.get? s.heap.objs.size = some { cls := .type "tuple", data := .seq #[.int i tk, .str ⟨#[c]⟩ tu] } := (sb.2 _ (Nat.ne_of_gt hel)).trans hT
    have lay : ObjOk X.prog X.w (upd H s.heap.objs.size (.tup [.int (i : Nat), .str ⟨#[c]⟩])) h2 s.heap.objs.size (.tup [.int (i : Nat), .str ⟨#[c]⟩]) :=
      ⟨by show 2 ≤ sizeLine; decide, _, .cons ⟨_, rfl⟩ (.cons ⟨_, rfl⟩ .nil), _, hT2, rfl, _, rfl⟩
    have keepB : ∀ b o, b ∉ [e, it] → s.heap.get? b = some o → h2.get? b = some o := fun b o hb q => by
      have n1 : b ≠ e := fun z => hb (by simp [z])
      have n2 : b ≠ it := fun z => hb (by simp [z])
      exact (sb.2 b n1).trans (hk b o n1 n2 q)
    have I1 := I.turnedNew (t' := tk + 1) keepB hf (Nat.le_refl _) lay
    refine ⟨.ref s.heap.objs.size, _, I1, rfl, ⟨_, c, rfl, I.hok.fresh (Nat.le_refl _), rfl, hcx⟩, ⟨⟨_, by simpa using he'⟩, ?_, hne⟩, fun b hb => ?_⟩
    · obtain ⟨o, ho2, hr⟩ := hit'
      exact ⟨o, (sb.2 it (Ne.symm hne)).trans ho2, hr⟩
    · have lt : b < s.heap.objs.size := by
        rcases List.mem_cons.mp hb with rfl | hb
        · exact hel
        · rw [List.mem_singleton.mp hb]; exact hil
      rw [upd_ne (Nat.ne_of_lt lt)]
      exact (hf b hb).1
  done := by
    intro X hP hw hK hc i pins s σ H E I hf st hg
    subst hP hw hK
    obtain ⟨⟨old, he⟩, hit, hne⟩ := st
    obtain rfl : i = x.cps.size := hg
    obtain ⟨f0, f1, f2, f3, f4, f5⟩ := hf it (by simp)
    refine wpAny_pyNext_enum_endD (Draws.text (A := X.A.in1) (I.ok.hd hc) it x t) he hit fun h' eb => ⟨rfl, ?_⟩
    exact I.turned (t' := s.toks) (fun b o hb q => eb b o hb q) f0 f1 f3 f4 f5
  self := fun A i s Q E st h => let ⟨⟨_, he⟩, _⟩ := st; wpAny_pyIter_enum he h

def iEnumS (ta : TA) : TI := fun σ H R => ta σ H fun vs H1 => ∃ x, vs = [.str x] ∧ R (ItEs x) H1
theorem pi_enumS {X : Cx} {e : Expr} {ta : TA} {p pos tpos : Pos} {elts : List Expr} {kk : Nat} (hm : X.mg "enumerate" = none) (ha : PA X [e] ta) (hg : Gl X "enumerate" := by rfl) (hs : starEach [e] X.env = [(false, eval e X.env)] := by rfl) :
    PI X (.Tuple elts kk tpos) (.Call (.Name "enumerate" p) [e] [] pos) (iEnumS ta) := by
  refine ⟨fun pins s σ H R I h => ?_⟩
  refine PyProof.Rows.Call_ (ld_blt I hg hm PyProof.Rows.boot_enumerate (PyProof.Rows.callWith_type1 (thn (ha.run pos pins s σ H _ I h) ?_) hs rfl))
  rintro us s1 ⟨vs, H1, I1, r1, x, rfl, q⟩
  obtain ⟨u, rfl, t, rfl⟩ := vals1 r1
  refine call_enumerate_str fun h' he hit hsz hk => wpAny_pyIter_enum he ?_
  refine ⟨s1.heap.objs.size + 1, [s1.heap.objs.size + 1, s1.heap.objs.size], _, _, H1, rfl, I1.kept (t' := s1.toks) hk, turn_enumS x t _ _, ⟨⟨.none, he⟩, hit, Nat.succ_ne_self _⟩, fun b hb => ?_, q⟩
  have le : s1.heap.objs.size ≤ b := by
    rcases List.mem_cons.mp hb with rfl | hb
    · exact Nat.le_succ _
    · rw [List.mem_singleton.mp hb]; exact Nat.le_refl _
  exact I1.fpOk le (I1.hok.fresh le)

/-! ### a number with zeros in front -/
theorem ns_none {K : PySem.W.Frag} {h : Heap} {a : Addr} {m : Str → Option Value} {n : Str} (X : K.In h) (G : h.Ns a m) (e : PySem.W.nsIn K a n = some none) : m n = none := by
  obtain ⟨o, es, ep, ho, hd, _, hf⟩ := G
  unfold PySem.W.nsIn at e
  split at e
  · rename_i q
    have z := X _ _ q
    rw [ho] at z
    cases z
    cases hd
    split at e
    · cases e
    · rename_i he
      rw [← hf]
      unfold nsFind findBy
      rw [← Array.find?_toList, he]
      split at e <;> first | rfl | cases e
  · cases e
/-- i with zeros in front, W signs at least -/
def padZ (W : Nat) (i : Int) : Str := ⟨(List.replicate (W - (Nat.toDigits 10 i.natAbs).length) 48).toArray⟩ ++ Str.ofString (toString i)
section
variable {X : Cx} {e spec : Expr} {te : TE} {pos : Pos} {sp : Str}
def tFmtZ (W : Nat) (te : TE) : TE := fun σ H Q => te σ H fun x H1 => ∃ i : Int, x = .int i ∧ 0 ≤ i ∧ i < 10 ^ 12 ∧ Q (.str (padZ W i)) H1
theorem pe_fmtZ (W : Nat) (he : PE X e te) (hs : PE X spec (tC (.str sp))) (nd : PySem.W.nsIn X.K cStatics "sys.int_max_str_digits" = some none) (hok : PyProof.Rows.intSpecOk sp = true := by decide +kernel) (hz : PyProof.Rows.intSpecZeroOf sp = true := by decide +kernel)
    (hW : PyProof.Rows.intSpecWidthOf sp = W := by decide +kernel) (hl : sp.length ≤ sizeLine := by decide +kernel) : PE X (.FormattedValue e (-1) (some spec) pos) (tFmtZ W te) := by
  refine ⟨fun pins s σ H Q I h => wpAny_FormattedValue_spec (thn (he.run pins s σ H _ I h) ?_)⟩
  rintro v s1 ⟨x, H1, I1, r1, i, rfl, i0, i1, q⟩
  obtain ⟨t, rfl⟩ := r1
  refine thn (hs.run pins s1 σ H1 (fun y H2 => y = .str sp ∧ H2 = H1) I1 ⟨rfl, rfl⟩) ?_
  rintro u s2 ⟨y, H2, I2, r2, rfl, rfl⟩
  obtain ⟨t2, rfl⟩ := r2
  have nd2 : s2.heap.NoDigits := by
    obtain ⟨mc, hn, _⟩ := I2.nolimit
    exact ⟨mc, hn, ns_none I2.kIn hn nd⟩
  have lt : i.natAbs < 10 ^ 4300 := Nat.lt_of_lt_of_le (show i.natAbs < 10 ^ 12 by omega) (Nat.pow_le_pow_right (by decide) (by decide))
  refine ⟨sp, t2, rfl, PyProof.Rows.formatField_int_specOf nd2 lt hok (fun W' hW' f => ?_) hl⟩
  have e2 := f.zeroG hz i0
  rw [hW', hW] at e2
  rw [e2]
  exact ⟨.str (padZ W i), H2, I2.tok _, ⟨_, rfl⟩, q⟩
end
end RS


namespace RS
open PySem PySem.Spec L2
section
variable {X : Cx}

/-! ### + of whatever -/
def rAdd (K : PySem.W.Frag) : R2 := fun x y H Q => match x, y with
  | .int i, .int j => Q (.int (i + j)) H
  | .str a, .str b => a.length + b.length ≤ sizeLine ∧ Q (.str (a ++ b)) H
  | .ref p, .ref q => rCat (.ref p) (.ref q) H Q ∨ rCatA K (.ref p) (.ref q) H Q
  | _, _ => False
theorem o_add {K : PySem.W.Frag} (hK : X.K = K := by rfl) : OpR X (binaryOp .Add) (rAdd K) := by
  subst hK
  intro pins s σ H x y v u Q I rx ry h
  cases x <;> cases y <;> first
    | exact (show False from h).elim
    | exact op_add pins s σ H _ _ v u Q I rx ry ⟨_, _, rfl, rfl, h⟩
    | exact op_add_str pins s σ H _ _ v u Q I rx ry ⟨_, _, rfl, rfl, h.1, h.2⟩
    | exact (show _ ∨ _ from h).elim (op_cat pins s σ H _ _ v u Q I rx ry) (op_catA pins s σ H _ _ v u Q I rx ry)

/-! ### * of whatever -/
/-- a, n times -/
def repS (a : Str) (n : Nat) : Str := ⟨(List.replicate n a.cps.toList).flatten.toArray⟩
theorem foldl_app (a : Array Nat) : ∀ (n : Nat) (acc : Array Nat), (List.replicate n a).foldl (· ++ ·) acc = acc ++ (List.replicate n a.toList).flatten.toArray
  | 0, acc => by simp
  | n + 1, acc => by
    rw [List.replicate_succ, List.foldl_cons, foldl_app a n (acc ++ a), List.replicate_succ, List.flatten_cons]
    apply Array.ext'
    simp [Array.toList_append, List.append_assoc]
theorem txt_mul (a : Str) (n : Int) : Txt.mul a n = repS a n.toNat := by
  unfold Txt.mul repS
  by_cases h1 : n < 1
  · rw [if_pos h1]
    have e : n.toNat = 0 := by omega
    rw [e]
    rfl
  · rw [if_neg h1]
    have e : ({ cps := (List.replicate n.toNat a.cps).foldl (· ++ ·) #[] } : Str) = { cps := (List.replicate n.toNat a.cps.toList).flatten.toArray } := by
      rw [foldl_app]
      congr 1
      apply Array.ext'
      simp
    split
    · rename_i c
      rcases Bool.or_eq_true_iff.mp c with c | c
      · have : n = 1 := by simpa using c
        subst this
        obtain ⟨l⟩ := a
        simp
      · have : a.cps.size = 0 := by simpa [Str.length] using c
        obtain ⟨⟨l⟩⟩ := a
        have : l = [] := by simpa using this
        subst this
        simp
    · exact e
def rMul : R2 := fun x y H Q => match x, y with
  | .int i, .int j => CMul i j ∧ Q (.int (i * j)) H
  | .str a, .int n => n < 2 ^ 31 ∧ -(2 ^ 31) < n ∧ a.length * n.toNat ≤ sizeLine ∧ Q (.str (repS a n.toNat)) H
  | .ref p, .int n => rRep (.ref p) (.int n) H Q
  | _, _ => False
theorem o_mul : OpR X (binaryOp .Mult) rMul := by
  intro pins s σ H x y v u Q I rx ry h
  cases x <;> cases y <;> first
    | exact (show False from h).elim
    | exact op_mul pins s σ H _ _ v u Q I rx ry ⟨_, _, rfl, rfl, h.1, h.2⟩
    | exact op_rep pins s σ H _ _ v u Q I rx ry h
    | skip
  rename_i a n
  obtain ⟨t, rfl⟩ := rx
  obtain ⟨t', rfl⟩ := ry
  obtain ⟨h1, h2, h3, q⟩ := h
  have hs : sizeLine = 16777216 := sizeLine_eq
  refine SB.mul (x := a) (n := n) ⟨?_, fun hn hc => ?_, fun hn hc => ?_⟩ fun t' k => ?_
  · rw [decide_eq_false (by omega), decide_eq_false (by omega)]; rfl
  · have h4 : (a.length : Int) * n ≤ 16777216 := by
      have : ((a.length * n.toNat : Nat) : Int) ≤ 16777216 := by omega
      rw [Int.natCast_mul] at this
      have e : ((n.toNat : Nat) : Int) = n := by omega
      rw [e] at this
      exact this
    have h5 : (a.length : Int) ≤ a.length * n := by
      have e : (a.length : Int) * 1 ≤ a.length * n := Int.mul_le_mul_of_nonneg_left (by omega) (by omega)
      omega
    have h6 : (4294967296 : Int) ≤ (2 ^ 63 - 1) / n := by
      rw [Int.le_ediv_iff_mul_le (by omega)]
      omega
    omega
  · unfold Builtin.Str.tooLong
    simp
    omega
  · rw [txt_mul]
    exact ⟨.str _, H, I.tok k, ⟨t', rfl⟩, q⟩

/-! ### == and != of scalars and of data -/
def rEqU (K : PySem.W.Frag) : R2 := fun x y H Q => match x, y with
  | .ref a, .ref b => rEqD K (.ref a) (.ref b) H Q
  | x, y => rEq x y H Q
theorem o_eq {K : PySem.W.Frag} {k : Nat} (hr : Rm k X) (hK : X.K = K := by rfl) : OpR X (compareOp .Eq) (rEqU K) := by
  subst hK
  intro pins s σ H x y v u Q I rx ry h
  cases x <;> cases y <;> first
    | exact op_eqD hr.room.units pins s σ H _ _ v u Q I rx ry h
    | exact op_eq pins s σ H _ _ v u Q I rx ry h
def rNeU (K : PySem.W.Frag) : R2 := fun x y H Q => match x, y with
  | .ref a, .ref b => rNeD K (.ref a) (.ref b) H Q
  | x, y => rNe x y H Q
theorem o_ne {K : PySem.W.Frag} {k : Nat} (hr : Rm k X) (hK : X.K = K := by rfl) : OpR X (compareOp .NotEq) (rNeU K) := by
  subst hK
  intro pins s σ H x y v u Q I rx ry h
  cases x <;> cases y <;> first
    | exact op_neD hr.room.units pins s σ H _ _ v u Q I rx ry h
    | exact op_ne pins s σ H _ _ v u Q I rx ry h

/-! ### in, not in: a text in a text, a thing in a list or a tuple -/
def hasS (z y : Str) : Bool := !(Builtin.Str.occurrences y z 0 y.length 1).isEmpty
def rInU (K : PySem.W.Frag) : R2 := fun x y H Q => match x, y with
  | .str z, .str y => Q (.bl (hasS z y)) H
  | x, .ref p => rIn K false x (.ref p) H Q
  | _, _ => False
theorem o_in {K : PySem.W.Frag} (hK : X.K = K := by rfl) : OpR X (compareOp .In) (rInU K) := by
  subst hK
  intro pins s σ H x y v u Q I rx ry h
  cases x <;> cases y <;> first
    | exact (show False from h).elim
    | exact op_in_str pins s σ H _ _ v u Q I rx ry ⟨_, _, rfl, rfl, h⟩
    | exact op_in_seq pins s σ H _ _ v u Q I rx ry h
def rNinU (K : PySem.W.Frag) : R2 := fun x y H Q => match x, y with
  | .str z, .str y => Q (.bl (!hasS z y)) H
  | x, .ref p => rIn K true x (.ref p) H Q
  | _, _ => False
theorem o_nin {K : PySem.W.Frag} (hK : X.K = K := by rfl) : OpR X (compareOp .NotIn) (rNinU K) := by
  subst hK
  intro pins s σ H x y v u Q I rx ry h
  cases x <;> cases y <;> first
    | exact (show False from h).elim
    | exact op_notin_str pins s σ H _ _ v u Q I rx ry ⟨_, _, rfl, rfl, h⟩
    | exact op_notIn_seq pins s σ H _ _ v u Q I rx ry h

/-! ### len -/
def rLen (K : PySem.W.Frag) : List V → Hp → VK → Prop := fun xs H Q => match xs with
  | [.str y] => y.length ≤ sizeLine ∧ Q (.int y.length) H
  | [.ref p] => (∃ xs, (SqL K H p xs ∨ SqT K H p xs) ∧ Q (.int xs.length) H) ∨ ∃ kvs, H p = some (.dK kvs) ∧ Q (.int kvs.length) H
  | _ => False
theorem c_len {K : PySem.W.Frag} (hK : X.K = K := by rfl) : CallR X (.builtin "len") (rLen K) := by
  subst hK
  intro pins s σ H xs us Q I r h
  cases xs with
  | nil => exact (show False from h).elim
  | cons x xs =>
    cases xs with
    | cons y ys => cases x <;> exact (show False from h).elim
    | nil =>
      cases x with
      | str y => exact call_len pins s σ H _ us Q I r ⟨_, y.length, rfl, ⟨h.1, rfl⟩, h.2⟩
      | ref p =>
        rcases (show _ ∨ _ from h) with ⟨xs, hx | hx, q⟩ | ⟨kvs, hk, q⟩
        · exact call_len pins s σ H _ us Q I r ⟨_, xs.length, rfl, .inl ⟨xs, hx, rfl⟩, q⟩
        · exact call_len pins s σ H _ us Q I r ⟨_, xs.length, rfl, .inr ⟨xs, hx, rfl⟩, q⟩
        · exact call_lenD pins s σ H _ us Q I r ⟨p, kvs, rfl, hk, q⟩
      | _ => exact (show False from h).elim

/-! ### isinstance of one built-in class -/
/-- the name of a value's built-in type -/
def tyN (x : V) (H : Hp) : Option String := match x with
  | .non => some "NoneType"
  | .bl _ => some "bool"
  | .int _ => some "int"
  | .str _ => some "str"
  | .ref a => match H a with
    | some (.lst _) => some "list"
    | some (.tup _) => some "tuple"
    | some (.dK _) => some "dict"
    | some (.frz _ (.lst _)) => some "list"
    | some (.frz _ (.dK _)) => some "dict"
    | _ => none
  | _ => none
def isB (t T : String) : Bool := t == T || (t == "bool" && T == "int")
theorem kitB_tab : ∀ t ∈ ["NoneType", "bool", "int", "str", "list", "tuple", "dict"], ∀ T ∈ ["bool", "int", "str", "list", "tuple", "dict", "float"], kitB t T = some (isB t T) := by decide +kernel
theorem tyN_tyX {K : PySem.W.Frag} {H : Hp} {x : V} {t : String} (h : tyN x H = some t) : TyX K H x (.type t) ∧ t ∈ ["NoneType", "bool", "int", "str", "list", "tuple", "dict"] := by
  cases x with
  | non => cases h; exact ⟨.base .non, by simp⟩
  | bl b => cases h; exact ⟨.base (.bl b), by simp⟩
  | int i => cases h; exact ⟨.base (.int i), by simp⟩
  | str y => cases h; exact ⟨.base (.str y), by simp⟩
  | ref a =>
    unfold tyN at h
    simp only at h
    split at h <;> first | (cases h; done) | skip
    · rename_i e; cases h; exact ⟨.base (.lst e), by simp⟩
    · rename_i e; cases h; exact ⟨.base (.tup e), by simp⟩
    · rename_i e; cases h; exact ⟨.base (.dK e), by simp⟩
    · rename_i e; cases h; exact ⟨.base (.frz e), by simp⟩
    · rename_i e; cases h; exact ⟨.fDict e, by simp⟩
  | _ => cases h
def rIs (T : String) : List V → Hp → VK → Prop := fun xs H Q => match xs with
  | [x, .ty T'] => T' = T ∧ ∃ t, tyN x H = some t ∧ Q (.bl (isB t T)) H
  | _ => False
theorem c_is (T : String) (hT : T ∈ ["bool", "int", "str", "list", "tuple", "dict", "float"] := by decide) : CallR X (.builtin "isinstance") (rIs T) := by
  intro pins s σ H xs us Q I r h
  unfold rIs at h
  split at h
  · obtain ⟨rfl, t, ht, q⟩ := h
    obtain ⟨ty, m⟩ := tyN_tyX (K := X.K) ht
    exact call_isi pins s σ H _ us Q I r ⟨_, _, _, _, _, rfl, .ty _, ty, kit_ty (kitB_tab _ m _ hT), q⟩
  · exact h.elim
end
end RS


namespace RS
open PySem PySem.Spec L2

/-- another surrounding of the same frames -/
structure Rb (k : Nat) (X : Cx) (B : Around) : Prop where
  room : Room k B
  gd : B.guards = some []
  fr : B.frames = X.A.frames
theorem Rm.here {k : Nat} {X : Cx} (r : Rm k X) : Rb k X X.A := ⟨r.room, r.gd, rfl⟩
theorem Rb.in1 {k : Nat} {X : Cx} {B : Around} (r : Rb (k + 1) X B) : Rb k X B.in1 := ⟨r.room.in1, r.gd, r.fr⟩
theorem Rb.mono {j k : Nat} {X : Cx} {B : Around} (r : Rb k X B) (h : j ≤ k) : Rb j X B := ⟨r.room.mono h, r.gd, r.fr⟩
theorem Rb.make {k : Nat} {X : Cx} {B : Around} (r : Rb (k + 1) X B) (C : Addr) (us : List Value) (kw : List (Str × Value)) : Rb k X (B.under (.builtin "type.__call__" ⟨.ref C :: us, kw⟩)) := by
  refine ⟨r.room.make C us kw, ?_, ?_⟩
  · have g : (Code.builtin "type.__call__" ⟨.ref C :: us, kw⟩).isGuard = false := by show guardIds.contains "type.__call__" = false; decide +kernel
    simp [Around.under, Code.guards, g, pushGuards, r.gd]
  · have e : (B.under (.builtin "type.__call__" ⟨.ref C :: us, kw⟩)).frames = B.frames := by
      first | rfl | simp [Around.under, Code.envs, Code.isFrame, pushEnvs]
    rw [e]; exact r.fr

section
variable {g : Wd} {X : Cx} {k : Nat} {f C : Addr} {fd : FuncData} {ps : List Str} {sp : Sp} {W : WX}
/-- the callee runs in another surrounding of the same frames -/
theorem runB {B : Around} (a : At g X) (F : FnG g k f fd ps sp) (hr : Rb k X B) (tk : Takes X W) {pins : List (Addr × Obj)} {σ : L2.St} {H : Hp} {s : Shared} {Q : VK} {args : Args} {us : List Value} {vs : List V}
    (I : Inv X pins σ H s) (hb : BindsTo s fd args (ps.zip us)) (r : Vals vs us) (h : sp vs H Q (fun c d H' => W c d σ H')) :
    codeAny (model X.prog X.w) B (.call (.ref f) args) (fun res s' => match res with | .ok fl => (match fl with | .ret u => EP X pins σ Q u s' | _ => False) | .error e => X.xe e s') s := by
  obtain ⟨P, w, K, mg, base⟩ := g
  obtain ⟨rfl, rfl, rfl, rfl, rfl⟩ := a
  have e := I.env0
  have e' : Env0 X.prog X.w X.K X.mg X.base B X.stack s H := ⟨hr.fr.trans e.frames, e.mod, e.bs, e.bsz, e.funs, e.frf, e.hok, e.bare⟩
  refine codeAny_mono (F.run B X.stack s H args us vs Q _ hr.room hr.gd e' hb r h) fun res s' hq => ?_
  cases res with
  | error e => exact tk e s' (XE.of_call (E := fun c d H' => W c d σ H') I (fun _ _ _ z => z) hq)
  | ok fl =>
    cases fl with
    | ret u => exact I.after hq
    | _ => exact hq.elim

/-- a method of the class at C -/
def Km (g : Wd) (C : Addr) (m : Str) (k : Nat) (ps : List Str) (ds : List V) (sp : Sp) : Prop :=
  ∃ f fd dsV, PySem.W.findIn g.K (.ref C) m = some (some (.ref f)) ∧ PySem.W.isFn g.K (.ref f) = true ∧ PySem.W.keepIn g.K (.ref f) = true ∧ FnG g k f fd ps sp ∧ Binds g.K fd ps dsV ∧ Vals ds dsV

/-- f(self, ..) by values, in any surrounding -/
theorem callB {B : Around} {ds : List V} {dsV : List Value} (a : At g X) (F : FnG g k f fd ps sp) (hr : Rb k X B) (tk : Takes X W) (hb : Binds g.K fd ps dsV) (rd : Vals ds dsV) {pins : List (Addr × Obj)} {σ : L2.St} {H : Hp} {s : Shared} {Q : VK} {us : List Value} {vs : List V}
    (I : Inv X pins σ H s) (r : Vals vs us) (h : sp (vs ++ ds) H Q (fun c d H' => W c d σ H')) : wpAny (model X.prog X.w) B (call (.ref f) us) (EP X pins σ Q) X.xe s := by
  have r2 := Vals.append r rd
  have hl : (us ++ dsV).length = ps.length := by rw [← r2.length]; exact F.len _ _ _ _ h
  have KI : g.K.In s.heap := by rw [← a.K]; exact I.kIn
  refine wpAny_call (codeAny_mono (runB a F hr tk I (hb s us KI hl) r2 h) fun res s' hq => ?_)
  cases res with
  | error e => exact hq
  | ok fl => cases fl with
    | ret u => exact hq
    | _ => exact hq.elim

/-! ### o.m(..) -/
variable {m : Str} {ds : List V} {o e : Expr} {es : List Expr} {ta : TE} {t : TA} {p pos apos : Pos}
def tMethG (C : Addr) (m : Str) (sp : Sp) (ds : List V) (W : WX) (ta : TE) (t : TA) : TE := fun σ H Q => ta σ H fun x H1 => ∃ a dx fs, x = .ref a ∧ H1 a = some (.ins C dx fs) ∧ fs.lookup m = none ∧
  t σ H1 fun vs H2 => sp (x :: (vs ++ ds)) H2 Q (fun c d H' => W c d σ H')
theorem pe_methG {pl : Sem Bool} (he : PE X o ta) (c : Cls g.K C) (F : Km g C m k ps ds sp) (hr : Rm k X) (tk : Takes X W) (ha : PA X (e :: es) t)
    (hst : starEach (e :: es) X.env = (false, eval e X.env) :: starEach es X.env := by rfl) (hpl : (backTo pos (starEach es X.env)).any (·.1) = false := by rfl)
    (ht : eval (.Call (.Attribute o m apos) (e :: es) [] pos) X.env = (do
      let ov ← eval o X.env
      standAt apos.atName
      let (f, first) ← holding [ov] (getMethod ov m pl)
      callWith pos f first (backTo pos (starEach (e :: es) X.env)) (backToKw pos (keywordEach [] X.env))) := by rfl) (a : At g X := by exact ⟨rfl, rfl, rfl, rfl, rfl⟩) :
    PE X (.Call (.Attribute o m apos) (e :: es) [] pos) (tMethG C m sp ds W ta t) := by
  obtain ⟨f, fd, dsV, hf, hi, hk, F, hb, rd⟩ := F
  refine ⟨fun pins s σ H Q I h => PySem.W.methodCall_KW (pl := pl) (thn (he.run pins s σ H _ I h) ?_) ht⟩
  rintro u s1 ⟨x, H1, I1, rx, q, dx, fs, rfl, ea, l, h1⟩
  obtain rfl : u = Value.ref q := rx
  refine getmeth_ok I1 ea (by rw [a.K]; exact c) (g := f) (by rw [a.K]; exact ⟨hf, hi, hk⟩) l ?_
  refine PySem.W.callWith_K (first := [.ref q]) (h₀ := X.base) I.ok.mod.kin (by rw [a.K]; exact hk) (thn (ha.run pos pins s1 σ H1 _ I1 h1) ?_) hst hpl
  rintro us s2 ⟨vs, H2, I2, r, q2⟩
  exact ⟨I2.kIn, callG (vs := .ref q :: vs) (us := .ref q :: us) a F hr tk hb rd I2 (.cons rfl r) q2⟩
theorem pe_methG0 {pl : Sem Bool} (he : PE X o ta) (c : Cls g.K C) (F : Km g C m k ps ds sp) (hr : Rm k X) (tk : Takes X W)
    (ht : eval (.Call (.Attribute o m apos) [] [] pos) X.env = (do
      let ov ← eval o X.env
      standAt apos.atName
      let (f, first) ← holding [ov] (getMethod ov m pl)
      callWith pos f first (backTo pos (starEach [] X.env)) (backToKw pos (keywordEach [] X.env))) := by rfl) (a : At g X := by exact ⟨rfl, rfl, rfl, rfl, rfl⟩) :
    PE X (.Call (.Attribute o m apos) [] [] pos) (tMethG C m sp ds W ta tNil) := by
  obtain ⟨f, fd, dsV, hf, hi, hk, F, hb, rd⟩ := F
  refine ⟨fun pins s σ H Q I h => PySem.W.methodCall_KW (pl := pl) (thn (he.run pins s σ H _ I h) ?_) ht⟩
  rintro u s1 ⟨x, H1, I1, rx, q, dx, fs, rfl, ea, l, h1⟩
  obtain rfl : u = Value.ref q := rx
  refine getmeth_ok I1 ea (by rw [a.K]; exact c) (g := f) (by rw [a.K]; exact ⟨hf, hi, hk⟩) l ?_
  exact PySem.W.callWith_K0 (first := [.ref q]) I1.kIn (by rw [a.K]; exact hk) (callG (vs := [.ref q]) (us := [.ref q]) a F hr tk hb rd I1 (.cons rfl .nil) h1)

/-! ### C(..) -/
/-- the class at C, made by its own __init__ -/
def Kc (g : Wd) (x : Str) (C : Addr) (k : Nat) (ps : List Str) (ds : List V) (sp : Sp) : Prop :=
  g.mg x = some (.ref C) ∧ ∃ f fd dsV, Mk g.K C f ∧ FnG g k f fd ps sp ∧ Binds g.K fd ps dsV ∧ Vals ds dsV
theorem makeG {dsV : List Value} (a : At g X) (M : Mk g.K C f) (F : FnG g k f fd ps sp) (hr : Rm (k + 1) X) (tk : Takes X W) (rd : Vals ds dsV) {pins : List (Addr × Obj)} {σ : L2.St} {H : Hp} {s : Shared} {Q : VK} {us : List Value} {kw : List (Str × Value)} {all : List Value} {vs : List V}
    (I : Inv X pins σ H s) (r : Vals vs all)
    (hb : ∀ s' : Shared, g.K.In s'.heap → BindsTo s' fd ⟨.ref (s.heap.objs.size + 1) :: us, kw⟩ (ps.zip (.ref (s.heap.objs.size + 1) :: all)))
    (h : ∀ y dy, H y = none → H dy = none → dy ≠ y → sp (.ref y :: vs) (upd (upd H dy (.own y)) y (.ins C dy [])) (fun v H2 => v = .non ∧ Q (.ref y) H2) (fun c d H' => W c d σ H')) :
    wpAny (model X.prog X.w) X.A (call (.ref C) us kw) (EP X pins σ Q) X.xe s := by
  have hq := h (s.heap.objs.size + 1) s.heap.objs.size (I.hok.fresh (Nat.le_succ _)) (I.hok.fresh (Nat.le_refl _)) (Nat.ne_of_lt (Nat.lt_succ_self _))
  have J := Inv.made (C := C) I
  have KI := J.kIn
  rw [a.K] at KI
  have rr : Vals (V.ref (s.heap.objs.size + 1) :: vs) (Value.ref (s.heap.objs.size + 1) :: all) := .cons rfl r
  refine wpAny_call (make_map (K := X.K) (f := f) I.kIn (by rw [a.K]; exact M.makes) (by rw [a.K]; exact M.init) (by rw [a.K]; exact beq_iff_eq.mp M.fn) (codeAny_mono (runB a F (hr.here.make C us kw) tk J (hb _ KI) rr hq) fun res s' hz => ?_))
  cases res with
  | error e => exact hz
  | ok fl => cases fl with
    | ret u =>
      obtain ⟨v, H', I3, rv, rfl, q3⟩ := hz
      exact ⟨rv, ⟨.ref (s.heap.objs.size + 1), H', I3, rfl, q3⟩⟩
    | _ => exact hz.elim
def tMakeG (C : Addr) (sp : Sp) (ds : List V) (W : WX) (t : TA) : TE := fun σ H Q => t σ H fun vs H1 => ∀ y dy, H1 y = none → H1 dy = none → dy ≠ y →
  sp (.ref y :: (vs ++ ds)) (upd (upd H1 dy (.own y)) y (.ins C dy [])) (fun v H2 => v = .non ∧ Q (.ref y) H2) (fun c d H' => W c d σ H')
variable {x : Str}
theorem pe_makeG (F : Kc g x C k ps ds sp) (hr : Rm (k + 1) X) (tk : Takes X W) (ha : PA X (e :: es) t) (hg : Gl X x := by rfl) (hdb : (x == ("__debug__" : Str)) = false := by decide)
    (he : starEach (e :: es) X.env = (false, eval e X.env) :: starEach es X.env := by rfl) (hpl : (backTo pos (starEach es X.env)).any (·.1) = false := by rfl) (a : At g X := by exact ⟨rfl, rfl, rfl, rfl, rfl⟩) :
    PE X (.Call (.Name x p) (e :: es) [] pos) (tMakeG C sp ds W t) := by
  obtain ⟨hm, f, fd, dsV, M, F, hb, rd⟩ := F
  refine ⟨fun pins s σ H Q I h => wpAny_Call_Name_kw (ld_glob I hg (by rw [a.mg]; exact hm) ?_ hdb)⟩
  refine PySem.W.callWith_K (h₀ := X.base) I.ok.mod.kin (by rw [a.K]; exact M.kp) (thn (ha.run pos pins s σ H _ I h) ?_) he hpl
  rintro us s1 ⟨vs, H1, I1, r, q⟩
  have r2 := Vals.append r rd
  refine ⟨I1.kIn, makeG a M F hr tk rd I1 r2 (fun s' KI => ?_) q⟩
  have hl := F.len _ _ _ _ (q (s1.heap.objs.size + 1) s1.heap.objs.size (I1.hok.fresh (Nat.le_succ _)) (I1.hok.fresh (Nat.le_refl _)) (Nat.ne_of_lt (Nat.lt_succ_self _)))
  exact hb s' (.ref (s1.heap.objs.size + 1) :: us) KI (by
    rw [← hl]
    show (us ++ dsV).length + 1 = (vs ++ ds).length + 1
    rw [← r2.length])
theorem pe_makeG0 (F : Kc g x C k ps ds sp) (hr : Rm (k + 1) X) (tk : Takes X W) (hg : Gl X x := by rfl) (hdb : (x == ("__debug__" : Str)) = false := by decide) (a : At g X := by exact ⟨rfl, rfl, rfl, rfl, rfl⟩) :
    PE X (.Call (.Name x p) [] [] pos) (tMakeG C sp ds W tNil) := by
  obtain ⟨hm, f, fd, dsV, M, F, hb, rd⟩ := F
  refine ⟨fun pins s σ H Q I h => wpAny_Call_Name_kw (ld_glob I hg (by rw [a.mg]; exact hm) ?_ hdb)⟩
  refine PySem.W.callWith_K0 I.kIn (by rw [a.K]; exact M.kp) (makeG a M F hr tk rd I (vs := [] ++ ds) rd (fun s' KI => ?_) h)
  have hl := F.len _ _ _ _ (h (s.heap.objs.size + 1) s.heap.objs.size (I.hok.fresh (Nat.le_succ _)) (I.hok.fresh (Nat.le_refl _)) (Nat.ne_of_lt (Nat.lt_succ_self _)))
  exact hb s' [.ref (s.heap.objs.size + 1)] KI (by
    rw [← hl]
    show dsV.length + 1 = ds.length + 1
    rw [← rd.length])
end
end RS


namespace RS
open PySem PySem.Spec L2
section
variable {g : Wd} {X : Cx} {k : Nat} {f C : Addr} {fd : FuncData} {ps ks : List Str} {sp : Sp} {W : WX} {ds : List V} {x : Str} {p pos : Pos} {kws : List Keyword} {tk' : TA} {pm : List Nat}

/-! ### calls by keywords alone: pm tells which keyword's value each parameter gets -/
def Kk (g : Wd) (x : Str) (k : Nat) (ps ks : List Str) (pm : List Nat) (sp : Sp) : Prop :=
  ∃ f fd, g.mg x = some (.ref f) ∧ PySem.W.keepIn g.K (.ref f) = true ∧ FnG g k f fd ps sp ∧
    ∀ (s : Shared) (ws : List Value), ws.length = ks.length → BindsTo s fd ⟨[], ks.zip ws⟩ (ps.zip (pm.map fun i => ws.getD i .none))
theorem vals_getD {zs : List V} {ws : List Value} (r : Vals zs ws) (i : Nat) : RelV (zs.getD i .non) (ws.getD i .none) := by
  cases e : zs[i]? with
  | none =>
    have e2 := Vals.none_of r e
    rw [List.getD_eq_getElem?_getD, List.getD_eq_getElem?_getD, e, e2]
    exact rfl
  | some v =>
    obtain ⟨u, e2, rv⟩ := r.get e
    rw [List.getD_eq_getElem?_getD, List.getD_eq_getElem?_getD, e, e2]
    exact rv
theorem vals_pm {zs : List V} {ws : List Value} (r : Vals zs ws) : ∀ pm : List Nat, Vals (pm.map fun i => zs.getD i .non) (pm.map fun i => ws.getD i .none)
  | [] => .nil
  | i :: pm => .cons (vals_getD r i) (vals_pm r pm)
def tCallK (n : Nat) (sp : Sp) (pm : List Nat) (W : WX) (t : TA) : TE := fun σ H Q => t σ H fun zs H1 => zs.length = n ∧ sp (pm.map fun i => zs.getD i .non) H1 Q (fun c d H' => W c d σ H')
theorem pe_callK (F : Kk g x k ps ks pm sp) (hr : Rm k X) (tk : Takes X W) (hkw : PK X kws tk') (hg : Gl X x := by rfl)
    (hall : (backToKw pos (keywordEach kws X.env)).all (·.1.isSome) = true := by rfl) (hks : (backToKw pos (keywordEach kws X.env)).filterMap (·.1) = ks := by rfl) (hdb : (x == ("__debug__" : Str)) = false := by decide)
    (hpl : ((backTo pos (starEach [] X.env)).any (·.1) || (backToKw pos (keywordEach kws X.env)).any (·.1.isNone)) = false := by rfl) (a : At g X := by exact ⟨rfl, rfl, rfl, rfl, rfl⟩) :
    PE X (.Call (.Name x p) [] kws pos) (tCallK ks.length sp pm W tk') := by
  obtain ⟨f, fd, hm, hk, F, hb⟩ := F
  refine ⟨fun pins s σ H Q I h => wpAny_Call_Name_kw (ld_glob I hg (by rw [a.mg]; exact hm) ?_ hdb)⟩
  refine PySem.W.callWith_KW0 (h₀ := X.base) I.ok.mod.kin (by rw [a.K]; exact hk) hall (thn (hkw.run pos pins s σ H _ I h) ?_) hpl
  rintro ws s2 ⟨zs, H2, I2, rz, lz, q⟩
  refine ⟨I2.kIn, ?_⟩
  rw [hks]
  refine wpAny_call (codeAny_mono (runG a F hr tk I2 (hb s2 ws (by rw [← rz.length]; exact lz)) (vals_pm rz pm) q) fun res s' hq => ?_)
  cases res with
  | error e => exact hq
  | ok fl => cases fl with
    | ret u => exact hq
    | _ => exact hq.elim
/-- C(k = v, ..) -/
def Kck (g : Wd) (x : Str) (C : Addr) (k : Nat) (ps ks : List Str) (pm : List Nat) (sp : Sp) : Prop :=
  g.mg x = some (.ref C) ∧ ∃ f fd, Mk g.K C f ∧ FnG g k f fd ps sp ∧
    ∀ (s : Shared) (y : Value) (ws : List Value), ws.length = ks.length → BindsTo s fd ⟨[y], ks.zip ws⟩ (ps.zip (y :: pm.map fun i => ws.getD i .none))
def tMakeK (n : Nat) (C : Addr) (sp : Sp) (pm : List Nat) (W : WX) (t : TA) : TE := fun σ H Q => t σ H fun zs H1 => zs.length = n ∧ ∀ y dy, H1 y = none → H1 dy = none → dy ≠ y →
  sp (.ref y :: pm.map fun i => zs.getD i .non) (upd (upd H1 dy (.own y)) y (.ins C dy [])) (fun v H2 => v = .non ∧ Q (.ref y) H2) (fun c d H' => W c d σ H')
theorem pe_makeK (F : Kck g x C k ps ks pm sp) (hr : Rm (k + 1) X) (tk : Takes X W) (hkw : PK X kws tk') (hg : Gl X x := by rfl)
    (hall : (backToKw pos (keywordEach kws X.env)).all (·.1.isSome) = true := by rfl) (hks : (backToKw pos (keywordEach kws X.env)).filterMap (·.1) = ks := by rfl) (hdb : (x == ("__debug__" : Str)) = false := by decide)
    (hpl : ((backTo pos (starEach [] X.env)).any (·.1) || (backToKw pos (keywordEach kws X.env)).any (·.1.isNone)) = false := by rfl) (a : At g X := by exact ⟨rfl, rfl, rfl, rfl, rfl⟩) :
    PE X (.Call (.Name x p) [] kws pos) (tMakeK ks.length C sp pm W tk') := by
  obtain ⟨hm, f, fd, M, F, hb⟩ := F
  refine ⟨fun pins s σ H Q I h => wpAny_Call_Name_kw (ld_glob I hg (by rw [a.mg]; exact hm) ?_ hdb)⟩
  refine PySem.W.callWith_KW0 (h₀ := X.base) I.ok.mod.kin (by rw [a.K]; exact M.kp) hall (thn (hkw.run pos pins s σ H _ I h) ?_) hpl
  rintro ws s2 ⟨zs, H2, I2, rz, lz, q⟩
  refine ⟨I2.kIn, ?_⟩
  rw [hks]
  exact makeG a M F hr tk .nil I2 (vals_pm rz pm) (fun s' _ => hb s' _ ws (by rw [← rz.length]; exact lz)) q

/-! ### o.f as a target among others -/
def gFld (K : PySem.W.Frag) (ta : TE) (f : Str) : TG := fun v σ H Q => ta σ H fun x H1 => ∃ a C dx fs, x = .ref a ∧ H1 a = some (.ins C dx fs) ∧ Cls K C ∧ NoAttr K C f ∧ fs.length < 1000 ∧ Q σ (upd H1 a (.ins C dx (putF f v fs)))
theorem pg_fld {o : Expr} {fl : Str} {ta : TE} (ho : PE X o ta) : PG X (.Attribute o fl pos) (gFld X.K ta fl) := by
  refine ⟨fun pins s σ H v u Q I r h => ?_⟩
  rw [assign_Attribute]
  refine wpAny_bind (wpAny_holding (thn (ho.run pins s σ H _ I h) ?_))
  rintro ov s1 ⟨y, H1, I1, ry, a, C, dx, fs, rfl, ea, c, n, l, q⟩
  obtain rfl : ov = Value.ref a := ry
  refine wpAny_bind (wpAny_standAt (wpAny_bind (wpAny_holding ?_)))
  exact setattr_ok I1 ea c n l r fun s2 I2 => wpAny_release ⟨σ, _, I2, q⟩

/-! ### ==, !=, bool of an instance, by its own defs -/
theorem noRef_mro : ∀ T ∈ ["NoneType", "bool", "int", "str", "list", "tuple", "dict"], ((fastBuiltinMro T).any fun l => l.all fun v => match v with | .type _ => true | _ => false) = true := by decide +kernel
theorem notFirst_ty {K : PySem.W.Frag} {C : Addr} {T : String} (h : T ∈ ["NoneType", "bool", "int", "str", "list", "tuple", "dict"]) : PySem.W.notFirst K C (.type T) = true := by
  have e := noRef_mro T h
  unfold PySem.W.notFirst PySem.W.subIn
  cases q : fastBuiltinMro T with
  | none => rw [q] at e; cases e
  | some l =>
    rw [q] at e
    simp only [q]
    have e2 : l.contains (.ref C) = false := by
      rw [List.contains_eq_any_beq, List.any_eq_false]
      intro v hv
      have z := List.all_eq_true.mp (show (l.all fun v => match v with | .type _ => true | _ => false) = true from e) v hv
      cases v <;> first | (intro z2; cases z2; done) | (cases z; done) | skip
      all_goals simp
    show (_ || ((some l).map _ == some false)) = true
    rw [Option.map_some, e2]
    simp
/-- what may stand on the other side: a plain thing, or an instance of the same class -/
def Oth (C : Addr) (H : Hp) (y : V) : Prop := (∃ t, tyN y H = some t) ∨ ∃ b dx fs, y = .ref b ∧ H b = some (.ins C dx fs)
theorem oth_looks {pins : List (Addr × Obj)} {σ : L2.St} {H : Hp} {s : Shared} {y : V} {u : Value} (I : Inv X pins σ H s) (o : Oth C H y) (r : RelV y u) :
    ∃ tb, PySem.W.Looks (model X.prog X.w) s.heap (typeOf u) tb ∧ PySem.W.notFirst X.K C tb = true := by
  rcases o with ⟨t, ht⟩ | ⟨b, dx, fs, rfl, hb⟩
  · obtain ⟨ty, m⟩ := tyN_tyX (K := X.K) ht
    obtain ⟨P, Z, hp, _⟩ := kit_of I r ty
    exact ⟨.type t, Z.ty _ _ I.kIn hp, notFirst_ty m⟩
  · cases r
    obtain ⟨mA, J, _⟩ := ins_get I.hok hb
    obtain ⟨od, J, _⟩ := J.look
    exact ⟨.ref C, J.type, by simp [PySem.W.notFirst]⟩
def rEqOwn (C : Addr) (sp : Sp) (ds : List V) (W : WX) (neg : Bool) : L2.St → R2 := fun σ x y H Q => ∃ a dx fs, x = .ref a ∧ H a = some (.ins C dx fs) ∧ Oth C H y ∧
  sp ([x, y] ++ ds) H (fun v H' => ∃ b, v = .bl b ∧ Q (.bl (if neg then !b else b)) H') (fun c d H' => W c d σ H')
theorem run_eq (F : Km g C "__eq__" k ps ds sp) {B : Around} (hr : Rb k X B) (tk : Takes X W) (a : At g X) {pins : List (Addr × Obj)} {σ : L2.St} {H : Hp} {s : Shared} {y : V} {u : Value} {Q : Bool → Hp → Prop} {q dx : Addr} {fs : List (Str × V)}
    (I : Inv X pins σ H s) (ea : H q = some (.ins C dx fs)) (o : Oth C H y) (r : RelV y u) (h : sp ([.ref q, y] ++ ds) H (fun v H' => ∃ b, v = .bl b ∧ Q b H') (fun c d H' => W c d σ H')) :
    wpAny (model X.prog X.w) B (richCompare .Eq (.ref q) u) (fun v s' => ∃ b H', v = .bool b ∧ Inv X pins σ H' s' ∧ Q b H') X.xe s := by
  obtain ⟨f, fd, dsV, hf, hi, hk, F, hb, rd⟩ := F
  obtain ⟨tb, L, nf⟩ := oth_looks I o r
  obtain ⟨mA, J, _⟩ := ins_get I.hok ea
  obtain ⟨od, J, _⟩ := J.look
  obtain ⟨m, hF⟩ := I.fr
  refine PySem.W.cmp_K (op := .Eq) hr.room.units0 hF I.ok.mod.kin J L nf (by rw [a.K]; exact hf) (by rw [a.K]; exact hi) (wpAny_mono (callB a F hr tk hb rd (vs := [.ref q, y]) (us := [.ref q, u]) I (.cons rfl (.cons r .nil)) h) ?_ fun _ _ z => z)
  rintro v s' ⟨z, H', I', rz, b, rfl, hq⟩
  cases rz
  exact ⟨b, H', rfl, I', hq⟩
end
section
variable {g : Wd} {X : Cx} {k : Nat} {C : Addr} {ps : List Str} {sp : Sp} {W : WX} {ds : List V} {p pos : Pos} {a b : Expr} {ta tb : TE}
def tEqOwn (C : Addr) (sp : Sp) (ds : List V) (W : WX) (neg : Bool) (ta tb : TE) : TE := fun σ H Q => ta σ H fun x H1 => tb σ H1 fun y H2 => rEqOwn C sp ds W neg σ x y H2 Q
theorem c_eqOwn (F : Km g C "__eq__" k ps ds sp) (hr : Rm k X) (tk : Takes X W) (ha : PE X a ta) (hb : PE X b tb) (at_ : At g X := by exact ⟨rfl, rfl, rfl, rfl, rfl⟩) : PC X .Eq a b (tEqOwn C sp ds W false ta tb) := by
    refine ⟨fun pins s σ H Q I h => ?_⟩
    refine bin (R := fun x y H2 => rEqOwn C sp ds W false σ x y H2 Q) ha hb I h fun v u s2 x y H2 I2 rx ry q => ?_
    obtain ⟨q, dx, fs, rfl, ea, o, hs⟩ := q
    cases rx
    refine wpAny_mono (run_eq F hr.here tk at_ (Q := fun b H' => Q (.bl b) H') I2 ea o ry hs) ?_ fun _ _ z => z
    rintro v s' ⟨b, H', rfl, I', hq⟩
    exact ⟨.bl b, H', I', rfl, hq⟩
theorem e_eqOwn (F : Km g C "__eq__" k ps ds sp) (hr : Rm k X) (tk : Takes X W) (ha : PE X a ta) (hb : PE X b tb) (at_ : At g X := by exact ⟨rfl, rfl, rfl, rfl, rfl⟩) : PE X (.Compare a [.Eq] [b] pos) (tEqOwn C sp ds W false ta tb) := pe_cmp (c_eqOwn F hr tk ha hb at_) (nomark b)
theorem t_eqOwn (F : Km g C "__eq__" k ps ds sp) (hr : Rm k X) (tk : Takes X W) (ha : PE X a ta) (hb : PE X b tb) (at_ : At g X := by exact ⟨rfl, rfl, rfl, rfl, rfl⟩) : PT X (.Compare a [.Eq] [b] pos) (tB (tEqOwn C sp ds W false ta tb)) := pt_cmp (c_eqOwn F hr tk ha hb at_) (nomark b)
end
section
variable {g : Wd} {X : Cx} {k : Nat} {C : Addr} {ps : List Str} {sp : Sp} {W : WX} {ds : List V}

/-- what the written part says of != and bool of the class -/
structure Plain (g : Wd) (C : Addr) : Prop where
  ne : PySem.W.findIn g.K (.ref C) "__ne__" = some (some (.builtin "object.__ne__"))
  ob : PySem.W.mroIn g.K C (.type "object") = some true
end
end RS


namespace RS
open PySem PySem.Spec L2
section
variable {M : Model} {A : Around} {E : Value → Shared → Prop} {s : Shared} {K : PySem.W.Frag} {x C : Addr} {ox : Obj} {od : Option Obj} {name : Str} {id : String}
/-- a special method that is a built-in, where it is bound -/
theorem ifBound_B {args : List Value} {Q : Option Value → Shared → Prop} (KI : K.In s.heap) (I : PySem.W.InstAt s.heap x ox C od) (hs : PySem.W.findIn K (.ref C) name = some (some (.builtin id)))
    (hb : ∀ self, bindSpecial (.builtin id) self = pure (.builtin id, [self])) (h : wpAny M A (call (.builtin id) (.ref x :: args)) (fun v => Q (some v)) E s) : wpAny M A (callSpecialIfBound? (.ref x) name args) Q E s := by
  simp only [callSpecialIfBound?, bindSpecialIfBound?]
  refine wpAny_holding (wpAny_bind (wpAny_bind (wpAny_bind (I.type.here ((PySem.W.looks_findIn KI hs).here ?_)))))
  refine wpAny_bind (wpAny_askSetting (wpAny_ite ?_))
  have fin : wpAny M A (call (.builtin id) ([.ref x] ++ args) >>= fun v => pure (some v)) Q E s := wpAny_bind (wpAny_mono h (fun v s' h' => wpAny_pure h') fun _ _ h' => h')
  split
  · exact wpAny_bind ((PySem.W.Looks.of_pure (hb _)).here (wpAny_pure (by exact fin)))
  · exact wpAny_tryCatch (wpAny_bind ((PySem.W.Looks.of_pure (hb _)).here (wpAny_pure (by exact fin))))
end
section
variable {g : Wd} {X : Cx} {k : Nat} {C : Addr} {ps : List Str} {sp : Sp} {W : WX} {ds : List V} {p pos : Pos} {a b : Expr} {ta tb : TE}
theorem bind_ne : ∀ self, bindSpecial (.builtin "object.__ne__") self = pure (.builtin "object.__ne__", [self]) := fun self => (F.cmp_object.ne).bind self
theorem run_ne (F : Km g C "__eq__" k ps ds sp) (Pl : Plain g C) {B : Around} (hr : Rb (k + 1) X B) (tk : Takes X W) (at_ : At g X) {pins : List (Addr × Obj)} {σ : L2.St} {H : Hp} {s : Shared} {y : V} {u : Value} {Q : Bool → Hp → Prop} {q dx : Addr} {fs : List (Str × V)}
    (I : Inv X pins σ H s) (ea : H q = some (.ins C dx fs)) (o : Oth C H y) (r : RelV y u) (h : sp ([.ref q, y] ++ ds) H (fun v H' => ∃ b, v = .bl b ∧ Q (!b) H') (fun c d H' => W c d σ H')) :
    wpAny (model X.prog X.w) B (richCompare .NotEq (.ref q) u) (fun v s' => ∃ b H', v = .bool b ∧ Inv X pins σ H' s' ∧ Q b H') X.xe s := by
  obtain ⟨f, fd, dsV, hf, hi, hk, F, hb, rd⟩ := F
  obtain ⟨tb, L, nf⟩ := oth_looks I o r
  obtain ⟨mA, J, _⟩ := ins_get I.hok ea
  obtain ⟨od, J, _⟩ := J.look
  have KI : X.K.In s.heap := I.kIn
  have inner : wpAny (model X.prog X.w) B (tryCompare (.ref q) (cmpInfo .NotEq).2.1 u) (fun r s' => ∃ b H', r = some (.bool b) ∧ Inv X pins σ H' s' ∧ Q b H') X.xe s := by
    unfold tryCompare
    refine wpAny_bind (ifBound_B (id := "object.__ne__") KI J (by rw [at_.K]; exact Pl.ne) bind_ne ?_)
    refine wpAny_call (codeAny_call_builtin (PySem.F.cmp_object.ne).plain PySem.F.cmpEntry_ne (PySem.W.check_slot (i := "object.__ne__") (owner := "object") (n := "__ne__") PySem.F.cmpKind_ne PySem.F.cmpSplit_ne (J.type.andThen (PySem.W.looks_mroIn KI (by rw [at_.K]; exact Pl.ob))) (PySem.F.cmpArgs_ne _ _) ?_))
    unfold Builtin.«object.__ne__»
    refine wpAny_bind (wpAny_of_eq (a := (.ref q, [u])) (by first | rfl | kernel_rfl) ?_)
    refine wpAny_bind (wpAny_cRoomFor (hr.in1.room.units0) ?_)
    refine wpAny_bind (PySem.W.ifBound_K KI J (by rw [at_.K]; exact hf) (by rw [at_.K]; exact hi) (wpAny_mono (callB at_ F hr.in1 tk hb rd (vs := [.ref q, y]) (us := [.ref q, u]) I (.cons rfl (.cons r .nil)) h) ?_ fun _ _ z => z))
    rintro v s' ⟨z, H', I', rz, b, rfl, hq⟩
    cases rz
    refine wpAny_bind (wpAny_truthy_bool ?_)
    refine wpAny_pure ?_
    refine wpAny_pure ?_
    exact ⟨!b, H', rfl, I', hq⟩
  unfold richCompare
  simp only [oneThing_ref]
  refine wpAny_holding (wpAny_bind (wpAny_cRoomFor hr.room.units0 ?_))
  refine wpAny_bind (J.type.here (wpAny_bind (L.here ?_)))
  have rest : wpAny (model X.prog X.w) B (tryCompare (.ref q) (cmpInfo .NotEq).2.1 u) (fun r s' => ∃ v, r = some v ∧ ∃ b H', v = .bool b ∧ Inv X pins σ H' s' ∧ Q b H') X.xe s :=
    wpAny_mono inner (fun r s' ⟨b, H', e, z⟩ => ⟨_, e, b, H', rfl, z⟩) fun _ _ z => z
  split
  · rename_i ne
    have e : PySem.W.subIn X.K tb (.ref C) = some false := by
      rcases Bool.or_eq_true_iff.mp nf with e | e
      · rw [beq_iff_eq.mp e] at ne; simp at ne
      · exact beq_iff_eq.mp e
    refine wpAny_bind ((PySem.W.looks_subIn KI e).here ?_)
    simp only [Bool.false_eq_true, if_false]
    refine wpAny_bind (wpAny_mono rest ?_ fun _ _ z => z)
    rintro r s' ⟨v, rfl, z⟩
    exact wpAny_pure z
  · refine wpAny_bind (wpAny_pure ?_)
    simp only [Bool.false_eq_true, if_false]
    refine wpAny_bind (wpAny_mono rest ?_ fun _ _ z => z)
    rintro r s' ⟨v, rfl, z⟩
    exact wpAny_pure z
theorem c_neOwn (F : Km g C "__eq__" k ps ds sp) (Pl : Plain g C) (hr : Rm (k + 1) X) (tk : Takes X W) (ha : PE X a ta) (hb : PE X b tb) (at_ : At g X := by exact ⟨rfl, rfl, rfl, rfl, rfl⟩) : PC X .NotEq a b (tEqOwn C sp ds W true ta tb) := by
    refine ⟨fun pins s σ H Q I h => ?_⟩
    refine bin (R := fun x y H2 => rEqOwn C sp ds W true σ x y H2 Q) ha hb I h fun v u s2 x y H2 I2 rx ry q => ?_
    obtain ⟨q, dx, fs, rfl, ea, o, hs⟩ := q
    cases rx
    refine wpAny_mono (run_ne F Pl hr.here tk at_ (Q := fun b H' => Q (.bl b) H') I2 ea o ry hs) ?_ fun _ _ z => z
    rintro v s' ⟨b, H', rfl, I', hq⟩
    exact ⟨.bl b, H', I', rfl, hq⟩

theorem e_neOwn (F : Km g C "__eq__" k ps ds sp) (Pl : Plain g C) (hr : Rm (k + 1) X) (tk : Takes X W) (ha : PE X a ta) (hb : PE X b tb) (at_ : At g X := by exact ⟨rfl, rfl, rfl, rfl, rfl⟩) : PE X (.Compare a [.NotEq] [b] pos) (tEqOwn C sp ds W true ta tb) := pe_cmp (c_neOwn F Pl hr tk ha hb at_) (nomark b)
theorem t_neOwn (F : Km g C "__eq__" k ps ds sp) (Pl : Plain g C) (hr : Rm (k + 1) X) (tk : Takes X W) (ha : PE X a ta) (hb : PE X b tb) (at_ : At g X := by exact ⟨rfl, rfl, rfl, rfl, rfl⟩) : PT X (.Compare a [.NotEq] [b] pos) (tB (tEqOwn C sp ds W true ta tb)) := pt_cmp (c_neOwn F Pl hr tk ha hb at_) (nomark b)

/-! ### bool(o) by the own __bool__ -/
def rBoolOwn (C : Addr) (sp : Sp) (ds : List V) (W : WX) : L2.St → List V → Hp → VK → Prop := fun σ xs H Q => ∃ q dx fs, xs = [.ref q] ∧ H q = some (.ins C dx fs) ∧
  sp ([.ref q] ++ ds) H (fun v H' => ∃ b, v = .bl b ∧ Q (.bl b) H') (fun c d H' => W c d σ H')
def tBoolOwn (C : Addr) (sp : Sp) (ds : List V) (W : WX) (ta : TA) : TE := fun σ H Q => ta σ H fun xs H1 => rBoolOwn C sp ds W σ xs H1 Q
theorem e_boolOwn {e : Expr} {t : TA} (F : Km g C "__bool__" k ps ds sp) (hr : Rm (k + 2) X) (tk : Takes X W) (hm : X.mg "bool" = none) (ha : PA X [e] t) (hg : Gl X "bool" := by rfl)
    (he : starEach (e :: []) X.env = (false, eval e X.env) :: starEach [] X.env := by rfl) (hpl : (backTo pos (starEach [] X.env)).any (·.1) = false := by rfl) (at_ : At g X := by exact ⟨rfl, rfl, rfl, rfl, rfl⟩) :
    PE X (.Call (.Name "bool" p) [e] [] pos) (tBoolOwn C sp ds W t) := by
  obtain ⟨f, fd, dsV, hf, hi, hk, F, hb, rd⟩ := F
  refine ⟨fun pins s σ H Q I h => wpAny_Call_Name_kw (ld_blt (u := .type "bool") I hg hm (by decide +kernel) ?_ (by decide) (by decide))⟩
  refine PyProof.Rows.callWith_type1 (thn (ha.run pos pins s σ H _ I h) ?_) he hpl
  rintro us s1 ⟨vs, H1, I1, r1, q, dx, fs, rfl, ea, hs⟩
  obtain ⟨u, rfl, ru⟩ := vals1 r1
  cases ru
  obtain ⟨mA, J, _⟩ := ins_get I1.hok ea
  obtain ⟨od, J, _⟩ := J.look
  obtain ⟨m, hF⟩ := I1.fr
  have tr : wpAny (model X.prog X.w) X.A.in1.in1 (truthy (.ref q)) (fun b s' => ∃ H', Inv X pins σ H' s' ∧ Q (.bl b) H') X.xe s1 := by
    refine PySem.W.truthy_K hF I1.ok.mod.kin J (by rw [at_.K]; exact hf) (by rw [at_.K]; exact hi) (wpAny_mono (callB at_ F hr.here.in1.in1 tk hb rd (vs := [.ref q]) (us := [.ref q]) I1 (.cons rfl .nil) hs) ?_ fun _ _ z => z)
    rintro v s' ⟨z, H', I', rz, b, rfl, hq⟩
    cases rz
    exact ⟨H', I', hq⟩
  refine callType_newIn PySem.F.called_bool PySem.F.newNe_bool (PySem.F.typeCall_bool_1 _) (PySem.F.newCall_bool_1 _) (fun obj => PySem.F.args_object_init_2 obj _) PySem.F.entry_bool_new
    (S := fun A R s' => wpAny (model X.prog X.w) A.in1 (truthy (.ref q)) (fun b s2 => R (.ok (.ret (.bool b))) s2) (fun e s2 => R (.error e) s2) s') (MeetsIn.of_wp fun A R s' hs' => ?_) ?_
  · obtain ⟨hp, g', d', tk', os'⟩ := s'
    have f1 := PySem.F.conv_sub_bool
    repeat (any_goals (first | (with_reducible refine wpAny_bind (wpAny_mono hs' ?_ fun _ _ z => z)) | wp_step))
    all_goals (intro b s2 h2)
    all_goals exact wpAny_pure ⟨_, rfl, h2⟩
  · refine wpAny_mono tr ?_ fun _ _ z => z
    rintro b s' ⟨H', I', hq⟩
    exact ⟨typeIs_bool _ _, .bl b, H', I', rfl, hq⟩
end
end RS


namespace RS
open PySem PySem.Spec PyProof.Rows L2

/-- the law's call, from its promise, where no repr is under way -/
theorem lawG {P : Program} {w : World} {K : PySem.W.Frag} {mg mb : Str → Option Value} {k : Nat} {fa a : Addr} {fd : FuncData} {x : Str} {sp : Sp} {s₁ : Shared} {vs : List Value} {ns : List Int}
    (KX : K.In s₁.heap) (gl : s₁.heap.Ns mainGlobals mg) (bl : s₁.heap.Ns builtinsNs mb) (bb : ∀ x : Str, x ≠ "__name__" → mb x = bootBuiltins x) (lim : s₁.heap.NoLimit) (ge : s₁.gens = #[])
    (ha : s₁.heap.get? a = some { cls := .type "list", data := .seq vs.toArray }) (hi : IntsAre vs ns) (hl : ns.length ≤ sizeLine) (hr : Room k callerA)
    (F : ∀ base : Heap, K.In base → base.Ns mainGlobals mg → FnG ⟨P, w, K, mg, base⟩ k fa fd [x] sp) (bd : ∀ (s : Shared) (u : Value), BindsTo s fd ⟨[u], []⟩ [(x, u)])
    (hsp : ∀ H : Hp, Only H → SqL K H a (ns.map V.int) → sp [.ref a] H (fun v _ => v = .bl true) fun _ _ _ => False) :
    codeAny (model P w) callerA (.call (.ref fa) ⟨[.ref a], []⟩) (fun r s' => r = .ok (.ret (.bool true)) ∧ OldK s₁.heap s'.heap ∧ s'.os = s₁.os ∧ AllBare s'.gens) s₁ := by
  have rv := vals_ints hi
  -- H tracks the script, or nothing
  have go : ∀ H : Hp, Only H → SqL K H a (ns.map V.int) → HOk P w H s₁.heap → (∀ b o, s₁.heap.get? b = some o → (∃ u, H b = some u) → b = a ∧ K.lookup a = none) →
      codeAny (model P w) callerA (.call (.ref fa) ⟨[.ref a], []⟩) (fun r s' => r = .ok (.ret (.bool true)) ∧ OldK s₁.heap s'.heap ∧ s'.os = s₁.os ∧ AllBare s'.gens) s₁ := by
    intro H hO hS hok hA
    have free : ∀ {b : Addr} {o : Obj}, s₁.heap.get? b = some o → (∀ v n, o.data ≠ .seq v n) → H b = none := by
      intro b o e nd
      cases q : H b with
      | none => rfl
      | some u =>
        obtain ⟨rfl, _⟩ := hA b o e ⟨u, q⟩
        rw [ha] at e
        cases e
        exact absurd rfl (nd _ _)
    have ns1 : ∀ {b : Addr} {m : Str → Option Value}, s₁.heap.Ns b m → (hidT s₁.heap H).Ns b m := by
      rintro b m ⟨o, es, ep, e, d, r⟩
      exact ⟨o, es, ep, hidT_get e (free e fun v n z => by rw [d] at z; cases z), d, r⟩
    have K1 : K.In (hidT s₁.heap H) := by
      intro b o e
      refine hidT_get (KX b o e) ?_
      cases q : H b with
      | none => rfl
      | some u =>
        obtain ⟨rfl, z⟩ := hA b o (KX b o e) ⟨u, q⟩
        rw [z] at e
        cases e
    have md : Mod K mg (hidT s₁.heap H) := by
      obtain ⟨mc, l1, l2⟩ := lim
      exact ⟨K1, ns1 gl, ⟨mb, ns1 bl, bb⟩, mc, ns1 l1, l2⟩
    have e0 : Env0 P w K mg (hidT s₁.heap H) callerA [] s₁ H :=
      { frames := rfl, mod := md, bs := fun b o e => of_hidT e, bsz := Nat.le_of_eq (hidT_size _ _), funs := trivial, frf := fun b hb => (nomatch hb), hok := hok, bare := .of_eq ge }
    refine codeAny_mono ((F _ K1 (ns1 gl)).run callerA [] s₁ H ⟨[.ref a], []⟩ [.ref a] [.ref a] _ _ hr rfl e0 (bd s₁ (.ref a)) (.cons rfl .nil) (hsp H hO hS)) ?_
    rintro r s' h
    cases r with
    | error e =>
      obtain ⟨_, _, _, _, _, _, _, _, _, _, _, _, z⟩ := h
      exact z.elim
    | ok fl => cases fl with
      | ret u =>
        obtain ⟨v, H', os, bare, un, hok', r', q⟩ := h
        obtain rfl : v = .bl true := q
        obtain rfl : u = Value.bool true := r'
        refine ⟨rfl, OldK.of_keep fun b o e => ?_, os, bare⟩
        rcases hO b with z | ⟨ob, xs, z⟩
        · exact un.keep b o e z (fun y => (nomatch y)) (fun y => (nomatch y))
        · have z2 := un.frzs b ob _ z
          have e1 := (hok b _ z).1
          rw [e] at e1
          cases e1
          exact (hok' b _ z2).1
      | _ => exact h.elim
  cases hk : K.lookup a with
  | some o =>
    have e := KX a o hk
    rw [ha] at e
    cases e
    refine go (fun _ => none) (fun _ => .inl rfl) (.inr ⟨_, vs.toArray, _, hk, rfl, rfl, rfl, by rw [List.size_toArray, hi.length]; exact hl, by simpa using rv⟩) (fun b u z => nomatch z) fun b o _ z => ?_
    obtain ⟨u, z⟩ := z
    cases z
  | none =>
    refine go (upd (fun _ => none) a (.frz { cls := .type "list", data := .seq vs.toArray } (.lst (ns.map V.int)))) (fun b => ?_) (.inl (.inr ⟨_, upd_same⟩)) (fun b u z => ?_) fun b o e z => ?_
    · by_cases hb : b = a
      · subst hb; exact .inr ⟨_, _, upd_same⟩
      · exact .inl (upd_ne hb)
    · by_cases hb : b = a
      · subst hb
        rw [upd_same] at z
        cases z
        exact ⟨ha, by rw [List.length_map]; exact hl, vs, _, rv, ha⟩
      · rw [upd_ne hb] at z
        cases z
    · obtain ⟨u, z⟩ := z
      by_cases hb : b = a
      · exact ⟨hb, hk⟩
      · rw [upd_ne hb] at z
        cases z

/-- the goal that k_head leaves, from the law's promise -/
theorem walkG {l : PySem.W.OpenLaw} {n k : Nat} {q : Program} {loose : List Str} {XP : (Str → Option Value) → Heap → Prop} {YP : World → Heap → Prop} {d : DefRec} {K : Params → PySem.W.Frag} {sp : World → Sp} {x : Str}
    (hn : l.most = some n) (hn2 : n ≤ sizeLine) (hdf : d.params.defaults = []) (hr : Room k callerA)
    (hY : ∀ (w : World) (h : Heap), YP w h → (K w.params).In h)
    (F : ∀ (w : World) (mg : Str → Option Value) (fa : Addr) (h : Heap), (K w.params).In h → h.Ns mainGlobals mg → mg d.name = some (.ref fa) →
      ∃ fd : FuncData, (∀ (s : Shared) (u : Value), BindsTo s fd ⟨[u], []⟩ [(x, u)]) ∧
        ∀ base : Heap, (K w.params).In base → base.Ns mainGlobals mg → FnG ⟨l.prog, w, K w.params, mg, base⟩ k fa fd [x] (sp w))
    (hsp : ∀ (w : World) (H : Hp) (a : Addr) (ns : List Int), ns.length ≤ n → (∀ z ∈ ns, Builtin.Int.intBits z ≤ 1048576) → Only H → SqL (K w.params) H a (ns.map V.int) → sp w [.ref a] H (fun v _ => v = .bl true) fun _ _ _ => False) :
    PySem.W.WalkO q loose XP YP l.row.toRowW d [] (fun f vs => PySem.call f vs) := by
  refine Att.attach_callB hn hdf fun w s₀ s₁ mg mb fa o pm cd doc a vs ns G Y ho hd hcd hmg hobj hints hlen hbits hg => ?_
  obtain ⟨fd, hb, hF⟩ := F w mg fa _ (hY w _ Y) G.T.g hmg
  exact lawG (hY w _ Y) G.T.g G.T.b G.T.builtins G.T.nolimit hg hobj hints (Nat.le_trans hlen hn2) hr hF hb fun H hO hS => hsp w H a ns hlen hbits hO hS
end RS


namespace RS
open PySem PySem.Spec L2
/-- in a def's body: what is raised goes on to the caller -/
theorem tkD {g : Wd} {N : List Str} {qual : Str} {st : Stmt} {f : Addr} {cdv : Value} {A : Around} {outer : List Env} {s : Shared} {H : Hp} {E : XK} : Takes (cx g N qual st f cdv A outer s H E) (fun c d _ H' => E c d H') := takes_of rfl rfl rfl rfl
theorem psD {g : Wd} {N : List Str} {qual : Str} {st : Stmt} {f : Addr} {cdv : Value} {A : Around} {outer : List Env} {s : Shared} {H : Hp} {E : XK} :
    PassesOwn (model (cx g N qual st f cdv A outer s H E).prog (cx g N qual st f cdv A outer s H E).w) (cx g N qual st f cdv A outer s H E).A (cx g N qual st f cdv A outer s H E).env (cx g N qual st f cdv A outer s H E).xe := passes_of rfl
theorem bb_len : bootBuiltins "len" = some (.builtin "len") := by decide +kernel
theorem bb_isinstance : bootBuiltins "isinstance" = some (.builtin "isinstance") := by decide +kernel
theorem bb_sum : bootBuiltins "sum" = some (.builtin "sum") := by decide +kernel
theorem bb_ord : bootBuiltins "ord" = some (.builtin "ord") := by decide +kernel
theorem bb_abs : bootBuiltins "abs" = some (.builtin "abs") := by decide +kernel
theorem bb_repr : bootBuiltins "repr" = some (.builtin "repr") := by decide +kernel
theorem bb_all : bootBuiltins "all" = some (.builtin "all") := by decide +kernel
theorem bb_any : bootBuiltins "any" = some (.builtin "any") := by decide +kernel
theorem bb_sorted : bootBuiltins "sorted" = some (.builtin "sorted") := by decide +kernel
theorem bb_str : bootBuiltins "str" = some (.type "str") := by decide +kernel
theorem bb_int : bootBuiltins "int" = some (.type "int") := by decide +kernel
theorem bb_list : bootBuiltins "list" = some (.type "list") := by decide +kernel
theorem bb_tuple : bootBuiltins "tuple" = some (.type "tuple") := by decide +kernel
theorem bb_bool : bootBuiltins "bool" = some (.type "bool") := by decide +kernel
section
variable {X : Cx}
/-! ### an item, a slice of whatever -/
def rIxU (K : PySem.W.Frag) : R2 := fun x y H Q => match x, y with
  | .str z, .int i => z.length ≤ sizeLine ∧ ∃ c, atI z.cps.toList i = some c ∧ Q (.str ⟨#[c]⟩) H
  | .ref p, .int i => ∃ xs, (SqL K H p xs ∨ SqT K H p xs) ∧ ∃ v, atI xs i = some v ∧ Q v H
  | _, _ => False
theorem o_ix {K : PySem.W.Frag} (hK : X.K = K := by rfl) : IxR X (rIxU K) := by
  subst hK
  intro ve se pins s σ H x y v u Q I rx ry h hsub
  cases x <;> cases y <;> first
    | exact (show False from h).elim
    | (obtain ⟨h1, c, h2, q⟩ := h; exact ix_str ve se pins s σ H _ _ v u Q I rx ry ⟨_, _, c, rfl, rfl, h1, h2, q⟩ hsub)
    | skip
  obtain ⟨xs, hx | hx, w, h2, q⟩ := h
  · exact ix_list ve se pins s σ H _ _ v u Q I rx ry ⟨_, xs, _, w, rfl, rfl, hx, h2, q⟩ hsub
  · exact ix_tup ve se pins s σ H _ _ v u Q I rx ry ⟨_, xs, _, w, rfl, rfl, hx, h2, q⟩ hsub
def rSlU (K : PySem.W.Frag) : V → Option Int → Option Int → Hp → VK → Prop := fun x lo hi H Q => match x with
  | .str z => z.length ≤ sizeLine ∧ Q (.str (cutS z lo hi)) H
  | .ref p => rSlL K (.ref p) lo hi H Q ∨ rSlA K (.ref p) lo hi H Q
  | _ => False
theorem o_sl {K : PySem.W.Frag} (hK : X.K = K := by rfl) : SlR X (rSlU K) := by
  subst hK
  intro pins s σ H x v vl vu lo hi sl Q I rx hs pl pu h
  cases x <;> first
    | exact (show False from h).elim
    | exact sl_str pins s σ H _ v vl vu lo hi sl Q I rx hs pl pu ⟨_, rfl, h.1, h.2⟩
    | exact (show _ ∨ _ from h).elim (sl_list pins s σ H _ v vl vu lo hi sl Q I rx hs pl pu) (sl_tupA pins s σ H _ v vl vu lo hi sl Q I rx hs pl pu)

/-! ### rules that name the written part, with that part told -/
variable {K : PySem.W.Frag} {p pos tpos : Pos} {e o : Expr} {es : List Expr} {ta te : TE} {t : TA}
theorem c_sum (hK : X.K = K := by rfl) (hc : X.calm = true := by rfl) : CallR X (.builtin "sum") (rSum K) := by subst hK; exact cr_sum hc
theorem c_all (hK : X.K = K := by rfl) (hc : X.calm = true := by rfl) : CallR X (.builtin "all") (rAll K) := by subst hK; exact cr_all hc
theorem c_any (hK : X.K = K := by rfl) (hc : X.calm = true := by rfl) : CallR X (.builtin "any") (rAny K) := by subst hK; exact cr_any hc
theorem c_list (hK : X.K = K := by rfl) : CallR X (.type "list") (fun xs H Q => ∃ p ys, xs = [.ref p] ∧ (SqL K H p ys ∨ SqT K H p ys) ∧ ∀ l, H l = none → Q (.ref l) (upd H l (.lst ys))) := by subst hK; exact call_list_of
theorem c_isi (hK : X.K = K := by rfl) : CallR X (.builtin "isinstance") (rIsi K) := by subst hK; exact call_isi
theorem e_fld {f : Str} (he : PE X e ta) (hb : attributeBase e f X.env (eval e X.env) = eval e X.env := by rfl) (hK : X.K = K := by rfl) : PE X (.Attribute e f pos) (tFld K ta f) := by subst hK; exact pe_fld he hb
theorem t_truth (ha : PE X e ta) (he : ∀ whole, isTrue e X.env whole = (do let v ← whole; standAt e.pos; holding [v] (truthy v)) := by intro _; rfl) (hK : X.K = K := by rfl) :
    PT X e (fun σ H Q => ta σ H fun x H' => ∃ k, TruV K x H' k ∧ Q k H') := by subst hK; exact pt_truth ha he
theorem g_tup {k : Nat} {t : TGs} {n : Nat} (h : PGs X es t) (hc : X.calm = true := by rfl) (hn : (assignEach es X.env).length = n := by rfl) (hst : (assignEach es X.env).findIdx? (·.1) = none := by rfl) (hK : X.K = K := by rfl) :
    PG X (.Tuple es k pos) (gTup K n t) := by subst hK; exact pg_tup hc h hn hst
theorem g_fld {fl : Str} (ho : PE X o ta) (hK : X.K = K := by rfl) : PG X (.Attribute o fl pos) (gFld K ta fl) := by subst hK; exact pg_fld ho
theorem e_bm {T id : String} {name : Str} {apos cpos : Pos} {to : TE} {r : V → List V → Hp → VK → Prop} (pa : PlainAttrs T) (slot : Slot T name id) (hty : typeOf (.builtin id) = pure (.type "method_descriptor")) (hm : MtR X id r) (ho : PE X o to) (ha : PA X (e :: es) t)
    (hbase : attributeBase o name X.env (eval o X.env) = eval o X.env := by rfl)
    (hfew : ((backTo cpos (starEach (e :: es) X.env)).all (fun x => !x.1) && (backToKw cpos (keywordEach [] X.env)).all (fun x => x.1.isSome)
      && decide ((e :: es).length + ([] : List Keyword).length + (if ([] : List Keyword).isEmpty then 0 else 1) < 30)) = true := by rfl)
    (hline : (apos.endLine == cpos.line) = true := by rfl) (hs : starEach (e :: es) X.env = (false, eval e X.env) :: starEach es X.env := by rfl) (hplain : (backTo cpos (starEach es X.env)).any (·.1) = false := by rfl) (hK : X.K = K := by rfl) :
    PE X (.Call (.Attribute o name apos) (e :: es) [] cpos) (tBM K T r to t) := by subst hK; exact pe_bm pa slot hty hm ho ha hbase hfew hline hs hplain
theorem i_list {tg : Expr} (hl : PE X e te) (hK : X.K = K := by rfl) : PI X tg e (iList K te) := by subst hK; exact pi_list hl
theorem i_tup {tg : Expr} (hl : PE X e te) (hK : X.K = K := by rfl) : PI X tg e (iTup K te) := by subst hK; exact pi_tup hl
theorem i_enum {kk : Nat} (hm : X.mg "enumerate" = none) (ha : PA X [e] t) (hg : Gl X "enumerate" := by rfl) (hs : starEach [e] X.env = [(false, eval e X.env)] := by rfl) (hK : X.K = K := by rfl) :
    PI X (.Tuple es kk tpos) (.Call (.Name "enumerate" p) [e] [] pos) (iEnum K t) := by subst hK; exact pi_enum hg hm ha hs
theorem s_fld {f : Str} {value : Expr} {tv : TE} {pos' : Pos} (ha : PE X o ta) (hv : PE X value tv) (hs : swapsWith value (some (.Attribute o f pos')) pos.line X.env = pure false := by rfl) (hK : X.K = K := by rfl) :
    PS X (.Assign [.Attribute o f pos'] value pos) (sFld K ta tv f) := by subst hK; exact ps_fld ha hv hs
end
end RS


namespace RS
open PySem PySem.Spec L2

theorem same_new {H H1 : Hp} {p : Addr} {o : HO} (h : Same H H1) (n : H1 p = none) : Same H (upd H1 p o) := fun b u e => by
  rw [upd_ne (ne_of_none (h b u e) n)]; exact h b u e
theorem same_upd {H : Hp} {p : Addr} {o : HO} (n : H p = none) : Same H (L2.upd H p o) := same_new (Same.refl H) n

/-! ### the inside of a loop and of a comprehension, behind what is walked -/
def ForB (J : It) (g : TG) (tb : TS) (D : Ends) (σ : L2.St) (H : Hp) : Prop := ∃ W : Nat → Nat → L2.St → Hp → Prop, (∃ m, W 0 m σ H) ∧ ∀ i m σ H, W i m σ H →
  (J.stop i H ∧ D.nx σ H) ∨ (J.go i H ∧ ∃ N : L2.St → Hp → Prop, (∀ σ' H', N σ' H' → ∃ m', m' < m ∧ W (i + 1) m' σ' H') ∧ ∀ x H', J.yld i H x H' → g x σ H' fun σ2 H2 => tb { D with nx := N, ct := N, bk := D.nx } σ2 H2)
theorem tFor_eq (wi : TI) (g : TG) (tb : TS) (D : Ends) (σ : L2.St) (H : Hp) : tFor wi g tb D σ H = wi σ H fun J H1 => ForB J g tb D σ H1 := rfl
def LcB (J : It) (g : TG) (tt : TT) (te : TE) (vs : List Nat) (σ : L2.St) (H1 : Hp) (Q : VK) : Prop := ∀ D, H1 D = none → ∃ W : Nat → Nat → Hp → Prop, (∃ m, W 0 m (upd H1 D (.lst []))) ∧ ∀ i m H, W i m H →
  (J.stop i H ∧ Q (.ref D) H) ∨ (J.go i H ∧ ∃ Nx : Hp → Prop, (∀ H', Nx H' → ∃ m', m' < m ∧ W (i + 1) m' H') ∧ ∀ x H', J.yld i H x H' → g x (wipe σ vs) H' fun σ2 H2 => wipe σ2 vs = wipe σ vs ∧ tt σ2 H2 fun b H3 =>
    if b = true then te σ2 H3 fun y H4 => ∃ acc, H4 D = some (.lst acc) ∧ acc.length < sizeLine ∧ Nx (upd H4 D (.lst (acc ++ [y]))) else Nx H3)
theorem tLc_eq (wi : TI) (g : TG) (tt : TT) (te : TE) (vs : List Nat) (σ : L2.St) (H : Hp) (Q : VK) : tLc wi g tt te vs σ H Q = wi σ H fun J H1 => LcB J g tt te vs σ H1 Q := rfl

/-! ### for over n items that are told by their index -/
theorem for_by {J : It} {g : TG} {tb : TS} {D : Ends} {σ : L2.St} {H : Hp} (n : Nat) (Pv : Nat → L2.St → Hp → Prop) (h0 : Pv 0 σ H) (hgo : ∀ i σ H, i < n → Pv i σ H → J.go i H) (hst : ∀ σ H, Pv n σ H → J.stop n H)
    (hs : ∀ i σ H x H', i < n → Pv i σ H → J.yld i H x H' → g x σ H' fun σ2 H2 => tb { D with nx := Pv (i + 1), ct := Pv (i + 1), bk := D.nx } σ2 H2) (hd : ∀ σ H, Pv n σ H → D.nx σ H) :
    ForB J g tb D σ H := by
  refine ⟨fun i m σ H => m = n - i ∧ i ≤ n ∧ Pv i σ H, ⟨n, by omega, Nat.zero_le _, h0⟩, ?_⟩
  rintro i m σ H ⟨rfl, hi, p⟩
  by_cases lt : i < n
  · exact .inr ⟨hgo i σ H lt p, Pv (i + 1), fun σ' H' p' => ⟨n - (i + 1), by omega, rfl, lt, p'⟩, fun x H' y => hs i σ H x H' lt p y⟩
  · have e : i = n := by omega
    subst e
    exact .inl ⟨hst σ H p, hd σ H p⟩

/-! ### a list comprehension over n items: the list of what is kept -/
theorem lc_kept {J : It} {g : TG} {tt : TT} {te : TE} {vs : List Nat} {σ : L2.St} {H1 : Hp} {Qf : VK} (n : Nat) (kept : Nat → Option V) (hn : n ≤ sizeLine)
    (hgo : ∀ i H, i < n → Same H1 H → J.go i H) (hst : ∀ H, Same H1 H → J.stop n H)
    (hs : ∀ i H x H' (K : VK) (K0 : Hp → Prop), i < n → Same H1 H → J.yld i H x H' → (∀ v H4, kept i = some v → Same H H4 → K v H4) → (kept i = none → ∀ H4, Same H H4 → K0 H4) →
      g x (wipe σ vs) H' fun σ2 H2 => wipe σ2 vs = wipe σ vs ∧ tt σ2 H2 fun b H3 => if b = true then te σ2 H3 K else K0 H3)
    (hd : ∀ D H, H1 D = none → Same H1 H → H D = some (.lst ((List.range n).filterMap kept)) → Qf (.ref D) H) :
    LcB J g tt te vs σ H1 Qf := by
  intro D hD
  have len : ∀ i, ((List.range i).filterMap kept).length ≤ i := fun i => Nat.le_trans (List.length_filterMap_le _ _) (by rw [List.length_range]; exact Nat.le_refl _)
  have succ : ∀ i, (List.range (i + 1)).filterMap kept = (List.range i).filterMap kept ++ (match kept i with | some v => [v] | none => []) := fun i => by
    rw [List.range_succ, List.filterMap_append]
    cases e : kept i <;> simp [List.filterMap_cons, e]
  let Pv : Nat → Hp → Prop := fun i H => Same H1 H ∧ H D = some (.lst ((List.range i).filterMap kept))
  have store : ∀ i H4 v, Same H1 H4 → H4 D = some (.lst ((List.range i).filterMap kept)) → kept i = some v → Pv (i + 1) (upd H4 D (.lst ((List.range i).filterMap kept ++ [v]))) := fun i H4 v s e k =>
    ⟨fun b o q => by rw [upd_ne (ne_of_none q hD)]; exact s b o q, by rw [upd_same, succ, k]⟩
  refine ⟨fun i m H => m = n - i ∧ i ≤ n ∧ Pv i H, ⟨n, by omega, Nat.zero_le _, fun b o q => by rw [upd_ne (ne_of_none q hD)]; exact q, upd_same⟩, ?_⟩
  rintro i m H ⟨rfl, hi, s, eD⟩
  by_cases lt : i < n
  · refine .inr ⟨hgo i H lt s, Pv (i + 1), fun H' p' => ⟨n - (i + 1), by omega, rfl, lt, p'⟩, fun x H' y => ?_⟩
    refine hs i H x H' _ (Pv (i + 1)) lt s y (fun v H4 k s4 => ⟨_, s4 D _ eD, by have := len i; omega, store i H4 v (s.trans s4) (s4 D _ eD) k⟩) fun k H4 s4 => ⟨s.trans s4, ?_⟩
    rw [succ, k, s4 D _ eD, List.append_nil]
  · have e : i = n := by omega
    subst e
    exact .inl ⟨hst H s, hd D H hD s eD⟩
/-- .. where all are kept -/
theorem lc_all {J : It} {g : TG} {te : TE} {vs : List Nat} {σ : L2.St} {H1 : Hp} {Qf : VK} (n : Nat) (val : Nat → V) (hn : n ≤ sizeLine)
    (hgo : ∀ i H, i < n → Same H1 H → J.go i H) (hst : ∀ H, Same H1 H → J.stop n H)
    (hs : ∀ i H x H' (K : VK), i < n → Same H1 H → J.yld i H x H' → (∀ H4, Same H H4 → K (val i) H4) →
      g x (wipe σ vs) H' fun σ2 H2 => wipe σ2 vs = wipe σ vs ∧ te σ2 H2 K)
    (hd : ∀ D H, H1 D = none → Same H1 H → H D = some (.lst ((List.range n).map val)) → Qf (.ref D) H) :
    LcB J g tYes te vs σ H1 Qf := by
  refine lc_kept n (fun i => some (val i)) hn hgo hst (fun i H x H' K K0 lt s y k _ => ?_) (fun D H h1 h2 h3 => hd D H h1 h2 ?_)
  · have e : (fun (σ2 : L2.St) (H2 : Hp) => wipe σ2 vs = wipe σ vs ∧ tYes σ2 H2 fun b H3 => if b = true then te σ2 H3 K else K0 H3) = fun σ2 H2 => wipe σ2 vs = wipe σ vs ∧ te σ2 H2 K := by
      funext σ2 H2
      simp only [tYes, if_true]
    rw [e]
    exact hs i H x H' K lt s y fun H4 s4 => k _ H4 rfl s4
  · rw [h3]
    congr 2
    rw [show (fun i => some (val i)) = some ∘ val from rfl, ← List.filterMap_eq_map]
end RS


namespace RS
open PySem PySem.Spec L2
section
variable {K : PySem.W.Frag} {H : Hp} {Q : VK} {i j : Int} {a b z : Str} {p q : Addr} {c d : Bool} {x : V}
theorem add_ii : rAdd K (.int i) (.int j) H Q = Q (.int (i + j)) H := rfl
theorem add_ss : rAdd K (.str a) (.str b) H Q = (a.length + b.length ≤ sizeLine ∧ Q (.str (a ++ b)) H) := rfl
theorem add_rr : rAdd K (.ref p) (.ref q) H Q = (rCat (.ref p) (.ref q) H Q ∨ rCatA K (.ref p) (.ref q) H Q) := rfl
theorem mul_ii : rMul (.int i) (.int j) H Q = (CMul i j ∧ Q (.int (i * j)) H) := rfl
theorem mul_si : rMul (.str a) (.int i) H Q = (i < 2 ^ 31 ∧ -(2 ^ 31) < i ∧ a.length * i.toNat ≤ sizeLine ∧ Q (.str (repS a i.toNat)) H) := rfl
theorem mul_ri : rMul (.ref p) (.int i) H Q = rRep (.ref p) (.int i) H Q := rfl
theorem eq_of {x y : V} {k : Bool} (h : scal x y = true) (e : decide (x = y) = k) : rEq x y H Q = Q (.bl k) H := by
  unfold rEq; rw [h, e]; simp
theorem ne_of' {x y : V} {k : Bool} (h : scal x y = true) (e : decide (x = y) = k) : rNe x y H Q = Q (.bl (!k)) H := by
  unfold rNe; rw [h, e]; simp
theorem eq_ii : rEqU K (.int i) (.int j) H Q = Q (.bl (decide (i = j))) H := eq_of rfl (by simp)
theorem eq_ss : rEqU K (.str a) (.str b) H Q = Q (.bl (decide (a = b))) H := eq_of rfl (by simp)
theorem eq_bb : rEqU K (.bl c) (.bl d) H Q = Q (.bl (decide (c = d))) H := eq_of rfl (by simp)
theorem eq_nn : rEqU K .non .non H Q = Q (.bl true) H := eq_of rfl (by simp)
theorem eq_sn : rEqU K (.str a) .non H Q = Q (.bl false) H := eq_of rfl (by simp)
theorem eq_ns : rEqU K .non (.str a) H Q = Q (.bl false) H := eq_of rfl (by simp)
theorem eq_in : rEqU K (.int i) .non H Q = Q (.bl false) H := eq_of rfl (by simp)
theorem eq_ni : rEqU K .non (.int i) H Q = Q (.bl false) H := eq_of rfl (by simp)
theorem eq_bn : rEqU K (.bl c) .non H Q = Q (.bl false) H := eq_of rfl (by simp)
theorem eq_nb : rEqU K .non (.bl c) H Q = Q (.bl false) H := eq_of rfl (by simp)
theorem eq_is : rEqU K (.int i) (.str a) H Q = Q (.bl false) H := eq_of rfl (by simp)
theorem eq_si : rEqU K (.str a) (.int i) H Q = Q (.bl false) H := eq_of rfl (by simp)
theorem eq_rr : rEqU K (.ref p) (.ref q) H Q = rEqD K (.ref p) (.ref q) H Q := rfl
theorem ne_ii : rNeU K (.int i) (.int j) H Q = Q (.bl (!decide (i = j))) H := ne_of' rfl (by simp)
theorem ne_ss : rNeU K (.str a) (.str b) H Q = Q (.bl (!decide (a = b))) H := ne_of' rfl (by simp)
theorem ne_bb : rNeU K (.bl c) (.bl d) H Q = Q (.bl (!decide (c = d))) H := ne_of' rfl (by simp)
theorem ne_nn : rNeU K .non .non H Q = Q (.bl false) H := ne_of' (k := true) rfl (by simp)
theorem ne_sn : rNeU K (.str a) .non H Q = Q (.bl true) H := ne_of' (k := false) rfl (by simp)
theorem ne_ns : rNeU K .non (.str a) H Q = Q (.bl true) H := ne_of' (k := false) rfl (by simp)
theorem ne_in : rNeU K (.int i) .non H Q = Q (.bl true) H := ne_of' (k := false) rfl (by simp)
theorem ne_ni : rNeU K .non (.int i) H Q = Q (.bl true) H := ne_of' (k := false) rfl (by simp)
theorem ne_is : rNeU K (.int i) (.str a) H Q = Q (.bl true) H := ne_of' (k := false) rfl (by simp)
theorem ne_si : rNeU K (.str a) (.int i) H Q = Q (.bl true) H := ne_of' (k := false) rfl (by simp)
theorem ne_rr : rNeU K (.ref p) (.ref q) H Q = rNeD K (.ref p) (.ref q) H Q := rfl
theorem in_ss : rInU K (.str a) (.str b) H Q = Q (.bl (hasS a b)) H := rfl
theorem in_r : rInU K x (.ref p) H Q = ∃ xs, (SqL K H p xs ∨ SqT K H p xs) ∧ flatV x = true ∧ xs.all flatV = true ∧ Q (.bl (inV x xs)) H := by
  cases x <;> simp [rInU, rIn]
theorem nin_ss : rNinU K (.str a) (.str b) H Q = Q (.bl (!hasS a b)) H := rfl
theorem nin_r : rNinU K x (.ref p) H Q = ∃ xs, (SqL K H p xs ∨ SqT K H p xs) ∧ flatV x = true ∧ xs.all flatV = true ∧ Q (.bl (!inV x xs)) H := by
  cases x <;> simp [rNinU, rIn]
theorem len_s : rLen K [.str a] H Q = (a.length ≤ sizeLine ∧ Q (.int a.length) H) := rfl
theorem len_r : rLen K [.ref p] H Q = ((∃ xs, (SqL K H p xs ∨ SqT K H p xs) ∧ Q (.int xs.length) H) ∨ ∃ kvs, H p = some (.dK kvs) ∧ Q (.int kvs.length) H) := rfl
theorem ix_s : rIxU K (.str a) (.int i) H Q = (a.length ≤ sizeLine ∧ ∃ c, atI a.cps.toList i = some c ∧ Q (.str ⟨#[c]⟩) H) := rfl
theorem ix_r : rIxU K (.ref p) (.int i) H Q = ∃ xs, (SqL K H p xs ∨ SqT K H p xs) ∧ ∃ v, atI xs i = some v ∧ Q v H := rfl
theorem sl_s {lo hi : Option Int} : rSlU K (.str a) lo hi H Q = (a.length ≤ sizeLine ∧ Q (.str (cutS a lo hi)) H) := rfl
theorem sl_r {lo hi : Option Int} : rSlU K (.ref p) lo hi H Q = (rSlL K (.ref p) lo hi H Q ∨ rSlA K (.ref p) lo hi H Q) := rfl
theorem is_eq {T T' : String} : rIs T [x, .ty T'] H Q = (T' = T ∧ ∃ t, tyN x H = some t ∧ Q (.bl (isB t T)) H) := rfl
theorem tyN_n : tyN .non H = some "NoneType" := rfl
theorem tyN_b : tyN (.bl c) H = some "bool" := rfl
theorem tyN_i : tyN (.int i) H = some "int" := rfl
theorem tyN_s : tyN (.str a) H = some "str" := rfl
theorem tru_b {k : Bool} : TruV K (.bl c) H k = (k = c) := rfl
theorem tru_i {k : Bool} : TruV K (.int i) H k = (k = (i != 0)) := rfl
theorem tru_n {k : Bool} : TruV K .non H k = (k = false) := rfl
end
/-- a tuple or a list that stands in H -/
theorem isL {K : PySem.W.Frag} {H : Hp} {a : Addr} {xs : List V} (h : H a = some (.lst xs)) : SqL K H a xs := SqL.of h
theorem isT {K : PySem.W.Frag} {H : Hp} {a : Addr} {xs : List V} (h : H a = some (.tup xs)) : SqT K H a xs := SqT.of h
end RS


/-! texts as lists of their signs -/
namespace RS
open PySem PySem.Spec L2
open SX (S S_len S_cat S_tl S_inj)
theorem sIx_nat (n d : Nat) {i : Int} (h : 0 ≤ i) : HT.sIx n d (some i) = min i.toNat n := by
  unfold HT.sIx
  simp only
  split <;> omega
theorem cut_to (a : List Nat) {i : Int} (h : 0 ≤ i) : cutS (S a) none (some i) = S (a.take i.toNat) := by
  unfold cutS
  rw [sIx_nat _ _ h, S_len]
  show (⟨_⟩ : Str) = _
  congr 2
  simp [HT.sIx]
theorem cut_from (a : List Nat) {i : Int} (h : 0 ≤ i) : cutS (S a) (some i) none = S (a.drop i.toNat) := by
  unfold cutS
  rw [sIx_nat _ _ h, S_len]
  show (⟨_⟩ : Str) = _
  congr 2
  simp only [HT.sIx]
  by_cases c : i.toNat ≤ a.length
  · rw [Nat.min_eq_left c, List.take_of_length_le (by simp)]
  · rw [Nat.min_eq_right (by omega), List.drop_of_length_le (Nat.le_refl _), List.drop_of_length_le (by omega)]; simp
theorem cut_both (a : List Nat) {i j : Int} (h : 0 ≤ i) (h2 : 0 ≤ j) : cutS (S a) (some i) (some j) = S ((a.drop i.toNat).take (j.toNat - i.toNat)) := by
  unfold cutS
  rw [sIx_nat _ _ h, sIx_nat _ _ h2, S_len]
  show (⟨_⟩ : Str) = _
  congr 2
  by_cases c : i.toNat ≤ a.length
  · rw [Nat.min_eq_left c, List.take_eq_take_iff]; simp; omega
  · rw [show min i.toNat a.length = a.length by omega, List.drop_of_length_le (Nat.le_refl _), List.drop_of_length_le (by omega)]; simp
theorem rep_S (a : List Nat) (n : Nat) : repS (S a) n = S (List.replicate n a).flatten := rfl
theorem rep_one (c n : Nat) : repS (S [c]) n = S (List.replicate n c) := by
  rw [rep_S]
  congr 2
  induction n with
  | zero => rfl
  | succ n ih => rw [List.replicate_succ, List.flatten_cons, ih, List.replicate_succ]; rfl
theorem has_one (c : Nat) (a : List Nat) : hasS (S [c]) (S a) = decide (c ∈ a) := SX.in_one a c
theorem S_eq {a b : List Nat} : (S a = S b) = (a = b) := propext ⟨S_inj, fun h => by rw [h]⟩
theorem at_lt {a : List Nat} {i : Nat} (h : i < a.length) : atI (S a).cps.toList (i : Int) = some (a.getD i 0) := by
  refine atI_nat ?_
  show a.toArray.toList[i]? = _
  rw [List.getD_eq_getElem?_getD, List.getElem?_eq_getElem (by simpa using h)]
  simp
theorem num_int {i : Int} (h : 0 ≤ i) : (Str.ofString (toString i)) = S (TL.numL i.toNat) := by
  obtain ⟨n, rfl⟩ := Int.eq_ofNat_of_zero_le h
  exact SX.num_S n
theorem ofS_tl (a : String) : (Str.ofString a).cps.toList = a.toList.map Char.toNat := PyProof.Rows.signs_ofString a
theorem ofS_eq {a b : String} : (Str.ofString a = Str.ofString b) = (a = b) := by
  refine propext ⟨fun h => ?_, fun h => by rw [h]⟩
  have e : a.toList.map Char.toNat = b.toList.map Char.toNat := by rw [← ofS_tl, ← ofS_tl, h]
  have inj : ∀ l m : List Char, l.map Char.toNat = m.map Char.toNat → l = m := by
    intro l
    induction l with
    | nil => intro m h; cases m with | nil => rfl | cons => simp at h
    | cons c l ih =>
      intro m h
      cases m with
      | nil => simp at h
      | cons d m =>
        simp only [List.map_cons, List.cons.injEq] at h
        rw [ih m h.2, show c = d from Char.toNat_inj.mp h.1]
  exact String.toList_inj.mp (inj _ _ e)
theorem lk_nil {a : Str} : List.lookup a ([] : List (Str × V)) = none := rfl
theorem lk_cons {a k : Str} {v : V} {es : List (Str × V)} : List.lookup a ((k, v) :: es) = if a = k then some v else List.lookup a es := by
  rw [List.lookup_cons]
  by_cases h : a = k
  · subst h; simp
  · rw [if_neg h, beq_eq_false_iff_ne.mpr h]
theorem pu_nil {f : Str} {v : V} : putF f v [] = [(f, v)] := rfl
theorem pu_cons {f k : Str} {v x : V} {r : List (Str × V)} : putF f v ((k, x) :: r) = if k = f then (k, v) :: r else (k, x) :: putF f v r := rfl
theorem sq_new {K : PySem.W.Frag} {H : Hp} {p : Addr} {xs : List V} : SqT K (upd H p (.tup xs)) p xs := SqT.of upd_same
theorem ty_ins {K : PySem.W.Frag} {H : Hp} {a C dx : Addr} {fs : List (Str × V)} (c : C8.InsC K C) (e : H a = some (.ins C dx fs)) : TyX K H (.ref a) (.ref C) := .base (.ins e c.cl c.ha c.hn c.htk c.hm)
theorem isi_ins {K : PySem.W.Frag} {H : Hp} {Q : VK} {a C D dx : Addr} {fs : List (Str × V)} {b : Bool} (c : C8.InsC K C) (e : H a = some (.ins C dx fs)) (k : PySem.W.kitOne K (.ref C) (.ref D) = some b) (q : Q (.bl b) H) : rIsi K [.ref a, .ref D] H Q :=
  ⟨_, _, _, _, _, rfl, .own D, ty_ins c e, k, q⟩
theorem isi_of {K : PySem.W.Frag} {H : Hp} {Q : VK} {x : V} {D : Addr} {t : String} {b : Bool} (e : tyN x H = some t) (k : PySem.W.kitOne K (.type t) (.ref D) = some b) (q : Q (.bl b) H) : rIsi K [x, .ref D] H Q :=
  ⟨_, _, _, _, _, rfl, .own D, (tyN_tyX e).1, k, q⟩
/-- repr of what is small -/
theorem repr_by {K : PySem.W.Frag} {H : Hp} {Q : VK} {a : Addr} (d : PyData) (h : Dp K H (.ref a) d) (h1 : d.showable = true) (h2 : d.depth ≤ 60) (h3 : d.leavesShort 13 = true) (h4 : d.weight ≤ 2 ^ 20) (q : Q (.str d.shown) H) : rRepr K [.ref a] H Q :=
  ⟨a, d, rfl, h, h1, h2, PyData.shown_fits (by decide) (by decide) h3 h4, q⟩
end RS


namespace RS
open PySem PySem.Spec L2
/-- the class at C has the property n, which hands the field f -/
def Pr (g : Wd) (C : Addr) (n f : Str) : Prop := ∃ p gt fd, PropOf g.K C n p gt ∧ FnOk g.P g.w g.K g.mg g.base C8.CX0 1 gt fd ["self"] (getSp C f) ∧ Binds g.K fd ["self"] []
def tPr (C : Addr) (f : Str) (ta : TE) : TE := fun σ H Q => ta σ H fun x H1 => ∃ a dx fs v, x = .ref a ∧ H1 a = some (.ins C dx fs) ∧ fs.lookup f = some v ∧ Q v H1
theorem e_prop {g : Wd} {X : Cx} {C : Addr} {n f : Str} {e : Expr} {ta : TE} {pos : Pos} (P : Pr g C n f) (c : Cls g.K C) (hr : Rm 2 X) (he : PE X e ta) (hab : attributeBase e n X.env (eval e X.env) = eval e X.env := by rfl) (a : At g X := by exact ⟨rfl, rfl, rfl, rfl, rfl⟩) :
    PE X (.Attribute e n pos) (tPr C f ta) := by
  obtain ⟨p, gt, fd, hp, F, hb⟩ := P
  obtain ⟨P, w, K, mg, base⟩ := g
  obtain ⟨rfl, rfl, rfl, rfl, rfl⟩ := a
  have h := pe_prop (pos := pos) (E := fun _ _ _ => False) he c hp F hr.room hb .nil C8.pass0 hab
  refine ⟨fun pins s σ H Q I q => h.run pins s σ H Q I ?_⟩
  have mono := he
  exact (show tProp C (getSp C f) [] (fun _ _ _ => False) ta σ H Q from by
    unfold tProp
    unfold tPr at q
    have e : (fun x H1 => ∃ a dx fs v, x = V.ref a ∧ H1 a = some (.ins C dx fs) ∧ fs.lookup f = some v ∧ Q v H1) = (fun x H1 => ∃ a dx fs, x = V.ref a ∧ H1 a = some (.ins C dx fs) ∧ getSp C f [.ref a] H1 Q fun _ _ _ => False) := by
      funext x H1
      refine propext ⟨?_, ?_⟩
      · rintro ⟨a, dx, fs, v, rfl, h1, h2, q⟩
        exact ⟨a, dx, fs, rfl, h1, a, dx, fs, v, rfl, h1, h2, q⟩
      · rintro ⟨a, dx, fs, rfl, h1, a', dx', fs', v, e, h1', h2, q⟩
        cases e
        exact ⟨a, dx', fs', v, rfl, h1', h2, q⟩
    rw [e] at q
    exact q)
end RS


/-! dicts with texts or numbers as keys, as equations -/
namespace RS
open PySem PySem.Spec L2
theorem dget_of {H : Hp} {a : Addr} {kvs : List (Key × V)} {k : Key} {o : Option V} (e : H a = some (.dK kvs)) : DGet H a (kV k) o = (valV kvs k = o) := by
  refine propext ⟨?_, fun h => .inl ⟨kvs, k, .inl e, rfl, h.symm⟩⟩
  rintro (⟨kvs', k', h, ek, rfl⟩ | ⟨kvs', k', b, h, ek, _⟩)
  · have : k' = k := by cases k <;> cases k' <;> simp_all [kV]
    subst this
    rcases h with h | ⟨o, h⟩
    · rw [e] at h; cases h; rfl
    · rw [e] at h; cases h
  · cases k <;> cases ek
theorem dget_s {H : Hp} {a : Addr} {kvs : List (Key × V)} {k : Str} {o : Option V} (e : H a = some (.dK kvs)) : DGet H a (.str k) o = (valV kvs (.inr k) = o) := dget_of (k := .inr k) e
theorem dget_i {H : Hp} {a : Addr} {kvs : List (Key × V)} {k : Int} {o : Option V} (e : H a = some (.dK kvs)) : DGet H a (.int k) o = (valV kvs (.inl k) = o) := dget_of (k := .inl k) e
theorem dget_us {H : Hp} {a : Addr} {kvs : List (Key × V)} {k : Str} {o : Option V} : DGet (upd H a (.dK kvs)) a (.str k) o = (valV kvs (.inr k) = o) := dget_s upd_same
theorem dput_of {H : Hp} {a : Addr} {kvs : List (Key × V)} {k : Key} {v : V} {P : Hp → Prop} (e : H a = some (.dK kvs)) : (∃ H4, DPut H a (kV k) v H4 ∧ P H4) = (kvs.length < sizeLine ∧ P (upd H a (.dK (putK kvs k v)))) := by
  refine propext ⟨?_, fun h => ⟨_, .k e h.1, h.2⟩⟩
  rintro ⟨H4, (⟨kvs', k', h, ek, hl, rfl⟩ | ⟨kvs', k', b, h, ek, _⟩), q⟩
  · have : k' = k := by cases k <;> cases k' <;> simp_all [kV]
    subst this
    rw [e] at h; cases h
    exact ⟨hl, q⟩
  · cases k <;> cases ek
theorem dput_s {H : Hp} {a : Addr} {kvs : List (Key × V)} {k : Str} {v : V} {P : Hp → Prop} (e : H a = some (.dK kvs)) : (∃ H4, DPut H a (.str k) v H4 ∧ P H4) = (kvs.length < sizeLine ∧ P (upd H a (.dK (putK kvs (.inr k) v)))) := dput_of (k := .inr k) e
theorem dput_us {H : Hp} {a : Addr} {kvs : List (Key × V)} {k : Str} {v : V} {P : Hp → Prop} : (∃ H4, DPut (upd H a (.dK kvs)) a (.str k) v H4 ∧ P H4) = (kvs.length < sizeLine ∧ P (upd (upd H a (.dK kvs)) a (.dK (putK kvs (.inr k) v)))) := dput_s upd_same
theorem vv_nil {k : Key} : valV ([] : List (Key × V)) k = none := rfl
theorem vv_cons {p k : Key} {v : V} {r : List (Key × V)} : valV ((p, v) :: r) k = if p = k then some v else valV r k := by
  by_cases h : p = k
  · rw [valV_pos (p := (p, v)) h, if_pos h]
  · rw [valV_neg (p := (p, v)) h, if_neg h]
theorem pk_nil {k : Key} {v : V} : putK ([] : List (Key × V)) k v = [(k, v)] := rfl
theorem pk_cons {p k : Key} {v x : V} {r : List (Key × V)} (hr : valV r p = none := by first | rfl | decide) : putK ((p, x) :: r) k v = if p = k then (p, v) :: r else (p, x) :: putK r k v := by
  unfold putK
  by_cases h : p = k
  · subst h
    rw [if_pos rfl, if_pos (by simp)]
    simp only [List.map_cons, if_true]
    congr 1
    have : ∀ q ∈ r, q.1 ≠ p := fun q hq e => by
      have := valV_any p r
      rw [hr] at this
      have t : (r.any fun kv => decide (kv.1 = p)) = true := List.any_eq_true.mpr ⟨q, hq, by simp [e]⟩
      rw [this] at t; cases t
    have e : r.map (fun kv => if kv.1 = p then (kv.1, v) else kv) = r.map id := List.map_congr_left fun q hq => by simp [this q hq]
    rw [e, List.map_id]
  · rw [if_neg h]
    by_cases c : (r.any fun kv => decide (kv.1 = k)) = true
    · rw [if_pos (by simp [c]), if_pos c]
      simp [h]
    · rw [if_neg (by simp [c, h]), if_neg c]; rfl
theorem pk_one {p k : Key} {v x : V} : putK [(p, x)] k v = if p = k then [(p, v)] else [(p, x), (k, v)] := pk_cons (hr := rfl)
theorem inr_eq {a b : Str} : ((.inr a : Key) = .inr b) = (a = b) := by simp
end RS
namespace RS
open PySem PySem.Spec L2
/-! ### repr of lists and tuples of small leaves -/
def Leaf (d : PyData) : Prop := match d with
  | .none => True
  | .bool _ => True
  | .int i => i.natAbs < 10 ^ 12
  | .str x => (∀ c ∈ x.cps.toList, c < 16 ^ 8) ∧ x.length ≤ 10000
  | _ => False
theorem log2_small {n : Nat} (h : n < 10 ^ 12) : n.log2 ≤ 40 := by
  rcases Nat.eq_zero_or_pos n with rfl | h0
  · simp
  · have : n.log2 < 41 := (Nat.log2_lt (by omega)).mpr (show n < 2 ^ 41 by omega)
    omega
theorem Leaf.all {d : PyData} (h : Leaf d) : d.showable = true ∧ d.leavesShort 13 = true ∧ d.weight ≤ 10000 ∧ d.depth ≤ 1 := by
  cases d with
  | none => exact ⟨rfl, rfl, by decide, by decide⟩
  | bool b => exact ⟨rfl, rfl, by simp [PyData.weight], by simp [PyData.depth]⟩
  | int i =>
    have h : i.natAbs < 10 ^ 12 := h
    have l := log2_small h
    refine ⟨?_, ?_, ?_, by simp [PyData.depth]⟩
    · simp only [PyData.showable, decide_eq_true_eq]; omega
    · simp only [PyData.leavesShort, decide_eq_true_eq]; exact PyData.shown_int_le h
    · simp only [PyData.weight]; split <;> omega
  | str x =>
    refine ⟨rfl, ?_, ?_, by simp [PyData.depth]⟩
    · simp only [PyData.leavesShort, List.all_eq_true, decide_eq_true_eq]; exact h.1
    · simp only [PyData.weight]; exact h.2
  | list _ => exact h.elim
  | tuple _ => exact h.elim
  | dict _ => exact h.elim
theorem leafs_all : ∀ {ds : List PyData}, (∀ d ∈ ds, Leaf d) → PyData.showableAll ds = true ∧ PyData.leavesShortAll 13 ds = true ∧ PyData.weightAll ds ≤ 10001 * ds.length ∧ PyData.depthAll ds ≤ 1
  | [], _ => ⟨rfl, rfl, by simp [PyData.weightAll], by simp [PyData.depthAll]⟩
  | d :: ds, h => by
    have a := (h d List.mem_cons_self).all
    have b := leafs_all (ds := ds) fun x hx => h x (List.mem_cons_of_mem _ hx)
    refine ⟨?_, ?_, ?_, ?_⟩
    · simp [PyData.showableAll, a.1, b.1]
    · simp [PyData.leavesShortAll, a.2.1, b.2.1]
    · simp only [PyData.weightAll, List.length_cons]; omega
    · simp only [PyData.depthAll]; omega
theorem repr_list {K : PySem.W.Frag} {H : Hp} {Q : VK} {a : Addr} {xs : List V} {ds : List PyData} (h : SqL K H a xs) (hd : DpAll K H xs ds) (hl : ∀ d ∈ ds, Leaf d) (n : ds.length ≤ 100) (q : Q (.str (PyData.list ds).shown) H) : rRepr K [.ref a] H Q := by
  obtain ⟨a1, a2, a3, a4⟩ := leafs_all hl
  refine repr_by (.list ds) (.lst h hd) ?_ ?_ ?_ ?_ q
  · simpa only [PyData.showable] using a1
  · simp only [PyData.depth]; omega
  · simpa only [PyData.leavesShort] using a2
  · simp only [PyData.weight]; omega
end RS


namespace RS
open PySem PySem.Spec L2
theorem sq_same {K : PySem.W.Frag} {H H' : Hp} {a : Addr} {xs : List V} (h : SqL K H a xs) (s : Same H H') : SqL K H' a xs := by
  rcases h with (h | ⟨o, h⟩) | h
  · exact .inl (.inl (s _ _ h))
  · exact .inl (.inr ⟨o, s _ _ h⟩)
  · exact .inr h
theorem dp_ints {K : PySem.W.Frag} {H : Hp} : ∀ ns : List Int, DpAll K H (ns.map V.int) (ns.map PyData.int)
  | [] => .nil
  | n :: ns => .cons (.int n) (dp_ints ns)
theorem lay_ints : ∀ ns : List Int, PyData.canLayAll0 (ns.map PyData.int) = true ∧ PyData.depthAll (ns.map PyData.int) = 0
  | [] => ⟨rfl, rfl⟩
  | n :: ns => by
    have h := lay_ints ns
    simp [PyData.canLayAll0, PyData.canLay0, PyData.depthAll, PyData.depth, h]
theorem shaped_ints (ns : List Int) : SeqAt.shaped (.list (ns.map PyData.int)) = true := by
  have h := lay_ints ns
  simp [SeqAt.shaped, PyData.canLay0, PyData.depth, h]
theorem eqv_nil (ns : List Int) : PyData.eqv (.list (ns.map PyData.int)) (.list []) = ns.isEmpty := by
  cases ns <;> rfl
/-- ns != [] -/
theorem ne_empty {K : PySem.W.Frag} {H : Hp} {Q : VK} {a p : Addr} {ns : List Int} (h : SqL K H a (ns.map V.int)) (hp : H p = some (.lst [])) (q : Q (.bl (!ns.isEmpty)) H) : rNeD K (.ref a) (.ref p) H Q := by
  refine ⟨.list (ns.map PyData.int), .list [], .lst h (dp_ints ns), .lst (SqL.of hp) .nil, shaped_ints ns, rfl, ?_⟩
  rw [eqv_nil]; exact q
theorem ty_list {K : PySem.W.Frag} {p : Addr} {H : Hp} : tyV K "list" (.ref p) H = ∃ xs, SqL K H p xs := by simp [tyV]
theorem ty_str {K : PySem.W.Frag} {x : Str} {H : Hp} : tyV K "str" (.str x) H = True := by simp [tyV]
theorem cutV_to (a : List V) {i : Int} (h : 0 ≤ i) : cutV a none (some i) = a.take i.toNat := by
  unfold cutV
  rw [sIx_nat _ _ h]
  simp [HT.sIx]
theorem cutV_from (a : List V) {i : Int} (h : 0 ≤ i) : cutV a (some i) none = a.drop i.toNat := by
  unfold cutV
  rw [sIx_nat _ _ h]
  simp only [HT.sIx]
  by_cases c : i.toNat ≤ a.length
  · rw [Nat.min_eq_left c, List.take_of_length_le (by simp)]
  · rw [Nat.min_eq_right (by omega), List.drop_of_length_le (Nat.le_refl _), List.drop_of_length_le (by omega)]; simp
/-- a statement, then the rest, with a word between them that the simp set leaves alone -/
def tMid (t u : TS) : TS := fun D σ H => ∃ Mid : L2.St → Hp → Prop, t { D with nx := Mid } σ H ∧ ∀ σ' H', Mid σ' H' → u D σ' H'
theorem pss_mid {X : Cx} {st : Stmt} {rest : List Stmt} {t u : TS} (h1 : PS X st t) (h2 : PSs X rest u) : PSs X (st :: rest) (tMid t u) := C8.pss_cut h1 h2
theorem mid_at {t u : TS} {D : Ends} {σ : L2.St} {H : Hp} (Mid : L2.St → Hp → Prop) (h1 : t { D with nx := Mid } σ H) (h2 : ∀ σ' H', Mid σ' H' → u D σ' H') : tMid t u D σ H := ⟨Mid, h1, h2⟩
/-- .. where one state alone is left -/
theorem mid_one {t u : TS} {D : Ends} {σ : L2.St} {H : Hp} (σ1 : L2.St) (R : Hp → Prop) (h1 : t { D with nx := fun σ' H' => σ' = σ1 ∧ R H' } σ H) (h2 : ∀ H', R H' → u D σ1 H') : tMid t u D σ H :=
  ⟨_, h1, fun _ _ ⟨e, r⟩ => by subst e; exact h2 _ r⟩
end RS


namespace RS
open PySem PySem.Spec PySem.W PySem.Calls PyProof.Rows
/-- what the text says of an own exception class C: its __init__ at fI is one that says super().__init__(..) -/
structure XC (P : Program) (K : Frag) (C fI cda cc : Addr) (qual : Str) (st : Stmt) (B newId initId : String) (bmB : List Value) : Prop where
  FB : ExcBaseFacts B newId initId bmB
  KF : KxsFacts B initId
  SF : StoreFacts B bmB "object.__setattr__" "object"
  q : excInitIn K C bmB newId = true
  ov : excOver K C bmB = true
  sup : ks_superIn K C C "__init__" = some (some (.builtin initId))
  sub : subIn K (.ref C) (.type B) = some true
  ini : findIn K (.ref C) "__init__" = some (some (.ref fI))
  fn : typeIn K (.ref fI) = some (.type "function")
  lk : ∃ oc od kV doc pm an ct osl, K.lookup fI = some ⟨oc, od, .func (ksFn "__init__" qual (L2.defArgs st) (L2.defBody st) (L2.defScope st) .none kV doc pm an (.ref cda) ct cc), osl⟩
  cd : codeIn K (.ref cda) qual = true
  co : ∃ ccl cdd vs ccs file tf, K.lookup cda = some ⟨ccl, cdd, .fields vs, ccs⟩ ∧ vs[2]? = some (.str file tf) ∧ ((P.main.file : Str) == file) = true
  ce : ∃ cl cld csl, K.lookup cc = some ⟨cl, cld, .cell (some (.ref C)), csl⟩
  me : mroIn K C (.ref C) = some true
  op : nsIn K cStatics "thirdparty.any" = some none
  nt : (P.main.scope.names.lookup ("super" : Str)).isSome = false
section
variable {prog : Program} {w : World} {A : Around} {E : Value → Shared → Prop} {h : Heap} {g : Array GenState} {d : Drawn} {t : Nat} {os : OsState} {K : Frag} {C fI cda cc e u t0 : Addr} {B newId initId : String} {bmB : List Value} {qual : Str} {st : Stmt}
/-- the bound __init__, called: the args are laid anew -/
theorem call_mw {rest : List Value} {Q : Value → Shared → Prop} (KX : K.In h) (FB : ExcBaseFacts B newId initId bmB) (q : excInitIn K C bmB newId = true) (hu : h.get? u = some (kxs_mw initId e)) (he : h.get? e = some (HandSPX.excO C t0)) (hz : rest.length ≤ sizeLine)
    (hq : ∀ h' t1, (∀ b o, b ≠ e → h.get? b = some o → h'.get? b = some o) → h'.get? e = some (HandSPX.excO C t1) → Q .none ⟨h', g, d, t, os⟩) :
    wpAny (model prog w) A (call (.ref u) rest) Q E ⟨h, g, d, t, os⟩ := by
  obtain ⟨nm, N', qn, bs, bm, hdct, sn, sub, ab, col, dd, k0, k1, k2, k3, k5, hC, hT⟩ := excInit_of KX q
  refine wpAny_call (codeAny_of_tree ?_)
  show wpAny _ A.in1 (callAny (.ref u) ⟨rest, []⟩) _ _ _
  simp only [callAny]
  refine wpAny_bind (wpAny_load hu ?_)
  have m1 : (Value.type "method-wrapper" == Value.type "method" || Value.type "method-wrapper" == Value.type "builtin_function_or_method" || Value.type "method-wrapper" == Value.type "method-wrapper") = true := by decide
  simp only [kxs_mw, m1, if_true]
  refine KFB.if_so (by decide) ?_
  refine wpAny_bind (check_bound_init FB.toExcCallFacts hC he rfl ?_)
  refine wpAny_bind (wpAny_pure (wpAny_pure ?_))
  refine ⟨plainId_quiet FB.init.plain _, codeAny_builtin FB.initEntry ?_⟩
  exact exc_init_tree (cls := .ref C) (t0 := t0) (dv := none) (c2 := .none) (c3 := .none) (b4 := .bool false) he hz fun h' k e' t' => hq h' _ k e'
end
end RS
namespace RS
open PySem PySem.Spec PySem.W PySem.Calls PyProof.Rows
section
variable {prog : Program} {w : World} {A : Around} {E : Value → Shared → Prop} {h : Heap} {g : Array GenState} {d : Drawn} {t : Nat} {os : OsState} {K : Frag} {C fI cda cc e t0 L : Addr} {B newId initId : String} {bmB : List Value} {qual : Str} {st : Stmt} {mg mb m : Str → Option Value}
/-- super().__init__('..') in the own __init__ -/
theorem sup_init {body : List Stmt} {ar : Arg} {msg : Str} {j : _} {pc p0 p1 p2 p3 p4 : Pos} {Q : Flow → Shared → Prop} (X : XC prog K C fI cda cc qual st B newId initId bmB) (KX : K.In h) (hns : h.Ns L m) (hp : ((L2.defArgs st).posonlyargs ++ (L2.defArgs st).args).head? = some ar) (hv : m ar.arg = some (.ref e))
    (he : h.get? e = some (HandSPX.excO C t0)) (hg : h.Ns mainGlobals mg) (hm : mg "super" = none) (hb : h.Ns builtinsNs mb) (bb : ∀ x : Str, x ≠ "__name__" → mb x = bootBuiltins x)
    (hks : (L2.defScope st).names.lookup ("super" : Str) = some .globalImplicit) (hkc : (L2.defScope st).names.lookup ("__class__" : Str) = some .free) (hka : (L2.defScope st).names.lookup ar.arg = some .local) (hk : (L2.defScope st).kind = .function)
    {pl : Sem Bool} (hi : interactive (ksEnv qual (L2.defScope st) L fI (.ref cda) cc) = false) (hsw : swapsWith (.Call (.Attribute (.Call (.Name "super" p0) [] [] p1) "__init__" p2) [.Constant (.str msg) j pc] [] p3) none p4.line (ksEnv qual (L2.defScope st) L fI (.ref cda) cc) = pure false)
    (hst : starEach [.Constant (.str msg) j pc] (ksEnv qual (L2.defScope st) L fI (.ref cda) cc) = [(false, eval (.Constant (.str msg) j pc) (ksEnv qual (L2.defScope st) L fI (.ref cda) cc))])
    (hev : eval (.Call (.Attribute (.Call (.Name "super" p0) [] [] p1) "__init__" p2) [.Constant (.str msg) j pc] [] p3) (ksEnv qual (L2.defScope st) L fI (.ref cda) cc) = (do
      let ov ← attributeBase (.Call (.Name "super" p0) [] [] p1) "__init__" (ksEnv qual (L2.defScope st) L fI (.ref cda) cc) (eval (.Call (.Name "super" p0) [] [] p1) (ksEnv qual (L2.defScope st) L fI (.ref cda) cc))
      standAt p2.atName
      let (f, first) ← holding [ov] (getMethod ov "__init__" pl)
      callWith p3 f first (backTo p3 (starEach [.Constant (.str msg) j pc] (ksEnv qual (L2.defScope st) L fI (.ref cda) cc))) []))
    (hq : ∀ h' t1 tk, (∀ b o, b ≠ e → h.get? b = some o → h'.get? b = some o) → h'.get? e = some (HandSPX.excO C t1) → Q .next ⟨h', g, d, tk, os⟩) :
    _root_.PySem.wpAt (model prog w) A (.func body (ksEnv qual (L2.defScope st) L fI (.ref cda) cc)) (exec (.Expr (.Call (.Attribute (.Call (.Name "super" p0) [] [] p1) "__init__" p2) [.Constant (.str msg) j pc] [] p3) p4) (ksEnv qual (L2.defScope st) L fI (.ref cda) cc)) Q E ⟨h, g, d, t, os⟩ := by
  obtain ⟨oc, od, kV, doc, pm, an, ct, osl, lk⟩ := X.lk
  obtain ⟨ccl, cdd, vs, ccs, file, tf, lc, hvs, hfile⟩ := X.co
  obtain ⟨cl, cld, csl, lce⟩ := X.ce
  obtain ⟨nm, N', qn, bs, bm, hdct, sn, sub, ab, col, dd, k0, k1, k2, k3, k5, hC, hT⟩ := excInit_of KX X.q
  refine ks_wpAt_Expr_any (ks_wpAt_MethodCall (pl := pl) ?_ hev) hi hsw
  refine ks_wpAt_super_base (env := ksEnv qual (L2.defScope st) L fI (.ref cda) cc) hks hkc (by decide) rfl (KX _ _ lk) rfl hp rfl (KX _ _ lc) rfl hvs hfile X.nt ?_
  refine ks_loadName_global hk hks (loadGlobal_builtin (env := ksEnv qual (L2.defScope st) L fI (.ref cda) cc) hg hm hb ((bb _ (by decide +kernel)).trans (by decide +kernel)) ⟨rfl, ?_⟩)
  refine wpAny_loadName_free hk hkc rfl ⟨_, KX _ _ lce, rfl⟩ ?_
  refine wpAny_loadName_local hk hka hns hv ?_
  refine ks_wpAny_isType_cls hC rfl ⟨rfl, ?_⟩
  refine ks_wpAny_call_super hC rfl he rfl (fun c z => nomatch z) (looks_mroIn KX X.me) (fun h1 hso k1 => ?_)
  have KX1 : K.In h1 := fun b o z => k1 b o (KX b o z)
  have he1 := k1 _ _ he
  have I1 : InstAt h1 e (HandSPX.excO C t0) C none := ⟨he1, rfl, rfl, trivial⟩
  have hI : Looks (model prog w) h1 (isInstance (.ref e) (.type B)) true := I1.type.andThen (looks_subIn KX1 X.sub)
  have sup := X.sup
  cases hc : clsIn K C with
  | none => unfold ks_superIn at sup; rw [hc] at sup; cases sup
  | some cd =>
    unfold ks_superIn at sup
    rw [hc] at sup
    refine kxs_getMethod X.KF hso (looks_opaque KX1 X.op) (l₀ := cd.mro) (fun A Q E s k q => wpAny_bind ((looks_clsIn KX1 hc) A _ E s k (wpAny_pure q))) rfl KX1 sup hI (ks_ne KX1 I1 hc) (by decide) ?_
    have k2 : ∀ b o, h1.get? b = some o → (h1.push (kxs_mw initId e)).get? b = some o := fun b o z => Heap.get?_push_of_some _ z
    have hu : (h1.push (kxs_mw initId e)).get? h1.objs.size = some (kxs_mw initId e) := Heap.get?_push_at rfl rfl
    rw [hst]
    refine kxs_callWith (i := initId) (x := e) rfl ?_
    show wpAny (model prog w) A (evalArgs (.ref h1.objs.size) true ((false, eval (.Constant (.str msg) j pc) _) :: backTo p3 []) []) _ E _
    refine evalArgs_plain (spliced_cons (Calls.Constant_str ?_))
    refine spliced_nil ⟨hu, ?_⟩
    refine call_mw (t0 := t0) (fun b o z => k2 b o (KX1 b o z)) X.FB X.q hu (k2 _ _ he1) (by rw [sizeLine_eq]; simp) fun h' t1 k3 e3 => ?_
    exact hq h' t1 _ (fun b o hb z => k3 b o hb (k2 b o (k1 b o z))) e3
end
end RS
namespace RS
open PySem PySem.Spec PySem.W PySem.Calls PyProof.Rows Builtin Builtin.ObjectAttr
section
variable {prog : Program} {w : World} {A : Around} {E : Value → Shared → Prop} {R : Result → Shared → Prop} {hp : Heap} {g : Array GenState} {d : Drawn} {t : Nat} {os : OsState} {K : Frag} {C x : Addr} {B : String} {bmB : List Value}
/-- self.name = v on an exception that has no dict yet, over any built-in base -/
theorem osa_newX {name : Str} {tk : Tok} {v : Value} {fv : Array Value} {cd : ClassData} (SF : StoreFacts B bmB "object.__setattr__" "object") (KX : K.In hp) (hx : hp.get? x = some { cls := .ref C, data := .fields fv }) (hcd : clsIn K C = some cd) (hh : cd.hasDict = true) (ov : excOver K C bmB = true)
    (ha : findIn K (.ref C) name = some none)
    (hq : ∀ h' tk' dx, (∀ b o, b ≠ x → hp.get? b = some o → h'.get? b = some o) → hp.objs.size ≤ dx → dx ≠ x → h'.get? x = some { cls := .ref C, dict := some dx, data := .fields fv } →
      h'.Ns1 dx (fun y => if y = name then some v else none) → R (.ok (.ret .none)) ⟨h', g, d, tk', os⟩) :
    codeAny (model prog w) A (.call (.builtin "object.__setattr__") ⟨[.ref x, .str name tk, v], []⟩) R ⟨hp, g, d, t, os⟩ := by
  have I : InstAt hp x { cls := .ref C, data := .fields fv } C none := ⟨hx, rfl, rfl, trivial⟩
  have hxs : x ≠ hp.objs.size := Nat.ne_of_lt (Heap.lt_size hx)
  have ht : takerIn K C name = some none := L2.NoAttr.taker ha
  have hcls : Looks (model prog w) hp (classData C) cd := looks_clsIn KX hcd
  refine osa_openX (s := ⟨hp, g, d, t, os⟩) SF KX I ov ht fun b => ?_
  show wpAny _ _ (storeInOwnDict (.ref x) (.ref C) (.str name tk) name v b) _ _ _
  cases cd with | mk nm bs mro ns qn hd sn sb ab col del =>
  simp only at hh
  subst hh
  unfold storeInOwnDict
  unfold ownDictForStores
  repeat (first | with_reducible refine HandSPX.store_in_new ?_ ?_ | with_reducible refine wpAny_loadPart_at hx ?_ | with_reducible refine hcls.at ?_ | wp_step)
  · refine ⟨_, #[], _, (Heap.get?_update_ne _ _ _ _ hxs.symm).trans (Heap.get?_push_at rfl rfl), rfl, ?_, fun _ => rfl⟩
    exact fun z hz => absurd hz (by simp)
  · intro h2 tk2 hn2 same
    have up2 : ∀ b o, hp.get? b = some o → (hp.push { cls := .type "dict", data := .dict #[] }).get? b = some o := fun b o z => Heap.get?_push_of_some _ z
    refine hq h2 tk2 hp.objs.size (fun b o hb z => ?_) (Nat.le_refl _) hxs.symm ((same.2 x hxs).trans (Heap.get?_update_self _ (up2 _ _ hx) rfl)) hn2
    exact (same.2 b (Nat.ne_of_lt (Heap.lt_size z))).trans ((Heap.get?_update_ne _ _ _ _ hb).trans (up2 _ _ z))
end
end RS
namespace RS
open PySem PySem.Spec PySem.W PySem.Calls PyProof.Rows
/-- the form of such an __init__: super().__init__(msg), then self.f = x -/
structure XSt1 (qual : Str) (st : Stmt) (x f : Str) : Prop where
  bd : ∃ p0 p1 p2 p3 p4 p5 p6 p7 p8 pc msg, ∃ j : Nat, L2.defBody st = [.Expr (.Call (.Attribute (.Call (.Name "super" p0) [] [] p1) "__init__" p2) [.Constant (.str msg) j pc] [] p3) p4, .Assign [.Attribute (.Name "self" p5) f p6] (.Name x p7) p8] ∧
    ∀ (L fI cda cc : Addr), interactive (ksEnv qual (L2.defScope st) L fI (.ref cda) cc) = false ∧
      swapsWith (.Call (.Attribute (.Call (.Name "super" p0) [] [] p1) "__init__" p2) [.Constant (.str msg) j pc] [] p3) none p4.line (ksEnv qual (L2.defScope st) L fI (.ref cda) cc) = pure false ∧
      starEach [.Constant (.str msg) j pc] (ksEnv qual (L2.defScope st) L fI (.ref cda) cc) = [(false, eval (.Constant (.str msg) j pc) (ksEnv qual (L2.defScope st) L fI (.ref cda) cc))] ∧
      (∃ pl, eval (.Call (.Attribute (.Call (.Name "super" p0) [] [] p1) "__init__" p2) [.Constant (.str msg) j pc] [] p3) (ksEnv qual (L2.defScope st) L fI (.ref cda) cc) = (do
        let ov ← attributeBase (.Call (.Name "super" p0) [] [] p1) "__init__" (ksEnv qual (L2.defScope st) L fI (.ref cda) cc) (eval (.Call (.Name "super" p0) [] [] p1) (ksEnv qual (L2.defScope st) L fI (.ref cda) cc))
        standAt p2.atName
        let (f, first) ← holding [ov] (getMethod ov "__init__" pl)
        callWith p3 f first (backTo p3 (starEach [.Constant (.str msg) j pc] (ksEnv qual (L2.defScope st) L fI (.ref cda) cc))) [])) ∧
      swapsWith (.Name x p7) (some (.Attribute (.Name "self" p5) f p6)) p8.line (ksEnv qual (L2.defScope st) L fI (.ref cda) cc) = pure false
  ar : ∃ ar, ((L2.defArgs st).posonlyargs ++ (L2.defArgs st).args).head? = some ar ∧ ar.arg = "self"
  ks : (L2.defScope st).names.lookup ("super" : Str) = some .globalImplicit
  kc : (L2.defScope st).names.lookup ("__class__" : Str) = some .free
  ka : (L2.defScope st).names.lookup ("self" : Str) = some .local
  kx : (L2.defScope st).names.lookup x = some .local
  kd : (L2.defScope st).kind = .function
  co : (L2.defScope st).isCoroutine = false
  ge : (L2.defScope st).isGenerator = false
  ce : ∀ y ∈ (L2.defScope st).names, y.2 ≠ .cell
  bi : ∀ (oc : Value) (kV doc pm : Value) (an : Option Addr) (cdv ct : Value) (cc : Addr) (u v : Value), bindArgs (ksFn "__init__" qual (L2.defArgs st) (L2.defBody st) (L2.defScope st) .none kV doc pm an cdv ct cc) ⟨[u, v], []⟩ = pure ([("self", u), (x, v)] : List (Str × Value))
  ne : ¬ ("self" : Str) = x
  dbg : (x == ("__debug__" : Str)) = false
section
variable {prog : Program} {w : World} {A : Around} {R : Result → Shared → Prop} {h : Heap} {g : Array GenState} {d : Drawn} {t : Nat} {os : OsState} {K : Frag} {C fI cda cc e t0 : Addr} {B newId initId : String} {bmB : List Value} {qual x f : Str} {st : Stmt} {mg mb : Str → Option Value}
theorem xinit1 {v : Value} (X : XC prog K C fI cda cc qual st B newId initId bmB) (Y : XSt1 qual st x f) (hd : hasDictIn K C = true) (sa : findIn K (.ref C) "__setattr__" = some (some (.builtin "object.__setattr__"))) (nf : findIn K (.ref C) f = some none)
    (KX : K.In h) (ke : K.lookup e = none) (hroom : A.depth < recursionLimit) (hlim : h.NoLimit) (he : h.get? e = some (HandSPX.excO C t0)) (hg : h.Ns mainGlobals mg) (hm : mg "super" = none) (hb : h.Ns builtinsNs mb) (bb : ∀ x : Str, x ≠ "__name__" → mb x = bootBuiltins x)
    (hq : ∀ h' t1 dx tk, (∀ b o, b ≠ e → h.get? b = some o → h'.get? b = some o) → h.objs.size ≤ dx → dx ≠ e → h'.get? e = some { cls := .ref C, dict := some dx, data := .fields #[.ref t1, .none, .none, .none, .bool false, .none] } →
      h'.Ns1 dx (fun y => if y = f then some v else none) → R (.ok (.ret .none)) ⟨h', g, d, tk, os⟩) :
    codeAny (model prog w) A (.call (.ref fI) ⟨[.ref e, v], []⟩) R ⟨h, g, d, t, os⟩ := by
  obtain ⟨oc, od, kV, doc, pm, an, ct, osl, lk⟩ := X.lk
  obtain ⟨p0, p1, p2, p3, p4, p5, p6, p7, p8, pc, msg, j, hbd, hform⟩ := Y.bd
  obtain ⟨ar, har, harg⟩ := Y.ar
  obtain ⟨cd, hc, hh⟩ := any_some hd
  refine ks_codeAny_call_defAt (s := ⟨h, g, d, t, os⟩) (body := L2.defBody st) (binds := ([("self", .ref e), (x, v)] : List (Str × Value))) hroom (KX _ _ lk) rfl hlim (codeRec_of KX X.cd) rfl (.of_eq (Y.bi oc kV doc pm an _ ct cc _ _)) Y.ce (fun y hy => ?_) (fun h1 hns k1 => ?_) Y.co Y.ge Y.kd
  · simp only [List.mem_cons, List.not_mem_nil, or_false] at hy
    rcases hy with rfl | rfl
    · exact Y.ka
    · exact Y.kx
  obtain ⟨hi, hsw, hst, ⟨pl, hev⟩, hsw2⟩ := hform h.objs.size fI cda cc
  have KX1 : K.In h1 := fun b o z => k1 b o (KX b o z)
  have lt_e : e < h.objs.size := Heap.lt_size he
  rw [hbd]
  refine ks_wpAt_execs_cons ?_
  have hv1 : (fun y => ([("self", Value.ref e), (x, v)] : List (Str × Value)).reverse.lookup y) ar.arg = some (.ref e) := by
    rw [harg]
    show List.lookup ("self" : Str) ([(x, v), ("self", Value.ref e)] : List (Str × Value)) = _
    rw [List.lookup_cons, beq_eq_false_iff_ne.mpr Y.ne]
    rfl
  have hv2 : (fun y => ([("self", Value.ref e), (x, v)] : List (Str × Value)).reverse.lookup y) x = some v := by
    show List.lookup x ([(x, v), ("self", Value.ref e)] : List (Str × Value)) = _
    rw [List.lookup_cons, beq_self_eq_true]
  refine sup_init X KX1 hns har hv1 (k1 _ _ he) (hg.keeps k1) hm (hb.keeps k1) bb Y.ks Y.kc (by rw [harg]; exact Y.ka) Y.kd (pl := pl) hi hsw hst hev fun h2 t1 tk k2 e2 => ?_
  have hns2 : h2.Ns h.objs.size (fun y => ([("self", Value.ref e), (x, v)] : List (Str × Value)).reverse.lookup y) := by
    obtain ⟨oL, es, ep, hL, r⟩ := hns
    exact ⟨oL, es, ep, k2 _ _ (Nat.ne_of_gt lt_e) hL, r⟩
  refine ks_wpAt_execs_cons (ks_wpAt_Assign_Attr ?_ hsw2)
  have KX2 : K.In h2 := fun b o z => k2 b o (fun y => by rw [y, ke] at z; cases z) (KX1 b o z)
  refine wpAt_of_wpAny (wpAny_Name (wpAny_loadName_local Y.kd Y.kx hns2 hv2 ?_) Y.dbg)
  refine wpAny_Name (wpAny_loadName_local Y.kd Y.ka hns2 (by rw [harg] at hv1; exact hv1) ?_)
  refine set_plain (s := ⟨h2, g, d, tk, os⟩) (ox := HandSPX.excO C t1) (od := none) KX2 ⟨e2, rfl, rfl, trivial⟩ sa ?_
  refine osa_newX X.SF KX2 e2 hc hh X.ov nf fun h3 tk3 dx k3 ldx nex e3 n3 => ?_
  have sz : h.objs.size < h2.objs.size := by
    obtain ⟨oL, es, ep, hL, r⟩ := hns2
    exact Heap.lt_size hL
  refine wpAt_of_wpAny (wpAny_execs_nil ?_)
  exact hq h3 t1 dx _ (fun b o hb z => k3 b o hb (k2 b o hb (k1 b o z))) (Nat.le_trans (Nat.le_of_lt sz) ldx) nex e3 n3
end
end RS
namespace RS
open PySem PySem.Spec PySem.W PySem.Calls PyProof.Rows
/-- the form of an __init__ that says super().__init__(msg) alone -/
structure XSt0 (qual : Str) (st : Stmt) : Prop where
  bd : ∃ p0 p1 p2 p3 p4 pc msg, ∃ j : Nat, L2.defBody st = [.Expr (.Call (.Attribute (.Call (.Name "super" p0) [] [] p1) "__init__" p2) [.Constant (.str msg) j pc] [] p3) p4] ∧
    ∀ (L fI cda cc : Addr), interactive (ksEnv qual (L2.defScope st) L fI (.ref cda) cc) = false ∧
      swapsWith (.Call (.Attribute (.Call (.Name "super" p0) [] [] p1) "__init__" p2) [.Constant (.str msg) j pc] [] p3) none p4.line (ksEnv qual (L2.defScope st) L fI (.ref cda) cc) = pure false ∧
      starEach [.Constant (.str msg) j pc] (ksEnv qual (L2.defScope st) L fI (.ref cda) cc) = [(false, eval (.Constant (.str msg) j pc) (ksEnv qual (L2.defScope st) L fI (.ref cda) cc))] ∧
      (∃ pl, eval (.Call (.Attribute (.Call (.Name "super" p0) [] [] p1) "__init__" p2) [.Constant (.str msg) j pc] [] p3) (ksEnv qual (L2.defScope st) L fI (.ref cda) cc) = (do
        let ov ← attributeBase (.Call (.Name "super" p0) [] [] p1) "__init__" (ksEnv qual (L2.defScope st) L fI (.ref cda) cc) (eval (.Call (.Name "super" p0) [] [] p1) (ksEnv qual (L2.defScope st) L fI (.ref cda) cc))
        standAt p2.atName
        let (f, first) ← holding [ov] (getMethod ov "__init__" pl)
        callWith p3 f first (backTo p3 (starEach [.Constant (.str msg) j pc] (ksEnv qual (L2.defScope st) L fI (.ref cda) cc))) []))
  ar : ∃ ar, ((L2.defArgs st).posonlyargs ++ (L2.defArgs st).args).head? = some ar ∧ ar.arg = "self"
  ks : (L2.defScope st).names.lookup ("super" : Str) = some .globalImplicit
  kc : (L2.defScope st).names.lookup ("__class__" : Str) = some .free
  ka : (L2.defScope st).names.lookup ("self" : Str) = some .local
  kd : (L2.defScope st).kind = .function
  co : (L2.defScope st).isCoroutine = false
  ge : (L2.defScope st).isGenerator = false
  ce : ∀ y ∈ (L2.defScope st).names, y.2 ≠ .cell
  bi : ∀ (oc : Value) (kV doc pm : Value) (an : Option Addr) (cdv ct : Value) (cc : Addr) (u : Value), bindArgs (ksFn "__init__" qual (L2.defArgs st) (L2.defBody st) (L2.defScope st) .none kV doc pm an cdv ct cc) ⟨[u], []⟩ = pure ([("self", u)] : List (Str × Value))
section
variable {prog : Program} {w : World} {A : Around} {R : Result → Shared → Prop} {h : Heap} {g : Array GenState} {d : Drawn} {t : Nat} {os : OsState} {K : Frag} {C fI cda cc e t0 : Addr} {B newId initId : String} {bmB : List Value} {qual : Str} {st : Stmt} {mg mb : Str → Option Value}
theorem xinit0 (X : XC prog K C fI cda cc qual st B newId initId bmB) (Y : XSt0 qual st)
    (KX : K.In h) (hroom : A.depth < recursionLimit) (hlim : h.NoLimit) (he : h.get? e = some (HandSPX.excO C t0)) (hg : h.Ns mainGlobals mg) (hm : mg "super" = none) (hb : h.Ns builtinsNs mb) (bb : ∀ x : Str, x ≠ "__name__" → mb x = bootBuiltins x)
    (hq : ∀ h' t1 tk, (∀ b o, b ≠ e → h.get? b = some o → h'.get? b = some o) → h'.get? e = some (HandSPX.excO C t1) → R (.ok (.ret .none)) ⟨h', g, d, tk, os⟩) :
    codeAny (model prog w) A (.call (.ref fI) ⟨[.ref e], []⟩) R ⟨h, g, d, t, os⟩ := by
  obtain ⟨oc, od, kV, doc, pm, an, ct, osl, lk⟩ := X.lk
  obtain ⟨p0, p1, p2, p3, p4, pc, msg, j, hbd, hform⟩ := Y.bd
  obtain ⟨ar, har, harg⟩ := Y.ar
  refine ks_codeAny_call_defAt (s := ⟨h, g, d, t, os⟩) (body := L2.defBody st) (binds := ([("self", .ref e)] : List (Str × Value))) hroom (KX _ _ lk) rfl hlim (codeRec_of KX X.cd) rfl (.of_eq (Y.bi oc kV doc pm an _ ct cc _)) Y.ce (fun y hy => ?_) (fun h1 hns k1 => ?_) Y.co Y.ge Y.kd
  · rw [List.mem_singleton.mp hy]; exact Y.ka
  obtain ⟨hi, hsw, hst, ⟨pl, hev⟩⟩ := hform h.objs.size fI cda cc
  rw [hbd]
  refine ks_wpAt_execs_cons ?_
  have hv1 : (fun y => ([("self", Value.ref e)] : List (Str × Value)).reverse.lookup y) ar.arg = some (.ref e) := by
    rw [harg]
    rfl
  refine sup_init X (fun b o z => k1 b o (KX b o z)) hns har hv1 (k1 _ _ he) (hg.keeps k1) hm (hb.keeps k1) bb Y.ks Y.kc (by rw [harg]; exact Y.ka) Y.kd (pl := pl) hi hsw hst hev fun h2 t1 tk k2 e2 => ?_
  refine wpAt_of_wpAny (wpAny_execs_nil ?_)
  exact hq h2 t1 _ (fun b o hb z => k2 b o hb (k1 b o z)) e2
end
end RS


/-! own exceptions as values of the hand layer -/
namespace RS
open PySem PySem.Spec L2
/-- at e: an exception of the class at C, its dict at d -/
def exv (e C : Addr) (d : Option Addr) : HO := .ext fun h => ∃ oe vs, h.get? e = some oe ∧ oe.cls = .ref C ∧ oe.dict = d ∧ oe.data = .fields vs
theorem exv_ok {P : Program} {w : World} {H : Hp} {h : Heap} {e C : Addr} {d : Option Addr} {oe : Obj} {vs : Array Value} (he : h.get? e = some oe) (h1 : oe.cls = .ref C) (h2 : oe.dict = d) (h3 : oe.data = .fields vs) : ObjOk P w H h e (exv e C d) :=
  ⟨⟨oe, vs, he, h1, h2, h3⟩, ⟨_, he⟩, fun g1 g2 z k => by
    obtain ⟨o2, v2, q, r⟩ := z
    exact ⟨o2, v2, k _ q, r⟩⟩
theorem exv_at {P : Program} {w : World} {H : Hp} {h : Heap} {e C : Addr} {d : Option Addr} (hok : HOk P w H h) (he : H e = some (exv e C d)) : ∃ oe vs, h.get? e = some oe ∧ oe.cls = .ref C ∧ oe.dict = d ∧ oe.data = .fields vs := by
  have x : ObjOk P w H h e (.ext fun h => ∃ oe vs, h.get? e = some oe ∧ oe.cls = .ref C ∧ oe.dict = d ∧ oe.data = .fields vs) := hok e _ he
  exact x.1
/-- two new objects, both tracked from now on -/
theorem inv_two {X : Cx} {pins : List (Addr × Obj)} {σ : L2.St} {H : Hp} {s : Shared} {h' : Heap} {a b : Addr} {o u : HO} {t' : Nat} (I : Inv X pins σ H s) (k : ∀ c z, s.heap.get? c = some z → h'.get? c = some z) (ha : s.heap.get? a = none) (hb : s.heap.get? b = none) (na : H a = none) (nb : H b = none) (ab : a ≠ b)
    (oa : ObjOk X.prog X.w (upd (upd H b u) a o) h' a o) (ob : ObjOk X.prog X.w (upd (upd H b u) a o) h' b u) : Inv X pins σ (upd (upd H b u) a o) { s with heap := h', toks := t' } := by
  have nA : ∀ {c : Addr} {z : Obj}, s.heap.get? c = some z → c ≠ a := fun q y => by rw [y, ha] at q; cases q
  have nB : ∀ {c : Addr} {z : Obj}, s.heap.get? c = some z → c ≠ b := fun q y => by rw [y, hb] at q; cases q
  have sm : ∀ {c : Addr} {z : HO}, H c = some z → upd (upd H b u) a o c = some z := fun q => by rw [upd_ne (ne_of_none q na), upd_ne (ne_of_none q nb)]; exact q
  have U : Un X.fs [] H (upd (upd H b u) a o) s.heap h' := {
    keep := fun c z q _ _ _ => k c z q
    slot := fun c z q _ _ _ => ⟨z.slots, k c z q⟩
    free := fun c z q n _ => by rw [upd_ne (nA q), upd_ne (nB q)]; exact n
    there := fun c z q _ => ⟨z, k c z q⟩
    tups := fun c xs q => sm q
    frzs := fun c z v q => sm q
    tbls := fun c ps q => ⟨#[], by rw [sm q]; simp⟩ }
  refine I.un (t' := t') U fun c z q => ?_
  by_cases hc : c = a
  · subst hc
    rw [upd_same] at q
    cases q
    exact oa
  · rw [upd_ne hc] at q
    by_cases hd : c = b
    · subst hd
      rw [upd_same] at q
      cases q
      exact ob
    · rw [upd_ne hd] at q
      exact (I.hok c z q).stay (fun y v _ w' => k y v w') (fun y hy => sm hy) (fun y xs hy => sm hy)
end RS
namespace RS
open PySem PySem.Spec L2 PySem.W
/-- the class x at C: C(v) is a new exception whose field f is v -/
def XK1 (g : Wd) (x : Str) (C : Addr) (f : Str) : Prop := g.mg x = some (.ref C) ∧ g.mg "super" = none ∧ keepIn g.K (.ref C) = true ∧ hasDictIn g.K C = true ∧ findIn g.K (.ref C) "__setattr__" = some (some (.builtin "object.__setattr__")) ∧ findIn g.K (.ref C) f = some none ∧
  ∃ fI cda cc qual st B newId initId bmB xp, XC g.P g.K C fI cda cc qual st B newId initId bmB ∧ XSt1 qual st xp f
section
variable {g : Wd} {X : Cx} {C : Addr} {x f : Str} {e : Expr} {t : TA} {p pos : Pos}
def tMkX1 (C : Addr) (f : Str) (t : TA) : TE := fun σ H Q => t σ H fun vs H1 => ∃ v, vs = [v] ∧ ∀ y dy, H1 y = none → H1 dy = none → y ≠ dy → Q (.ref y) (upd (upd H1 dy (exd dy [(f, v)])) y (exv y C (some dy)))
theorem pe_mkX1 (F : XK1 g x C f) (hr : Rm 2 X) (ha : PA X [e] t) (hg : Gl X x := by rfl) (hdb : (x == ("__debug__" : Str)) = false := by decide)
    (he : starEach [e] X.env = (false, eval e X.env) :: starEach [] X.env := by rfl) (hpl : (backTo pos (starEach [] X.env)).any (·.1) = false := by rfl) (a : At g X := by exact ⟨rfl, rfl, rfl, rfl, rfl⟩) :
    PE X (.Call (.Name x p) [e] [] pos) (tMkX1 C f t) := by
  obtain ⟨hm, ms, kp, hd, sa, nf, fI, cda, cc, qual, st, B, newId, initId, bmB, xp, XX, Y⟩ := F
  refine ⟨fun pins s σ H Q I h => wpAny_Call_Name_kw (ld_glob I hg (by rw [a.mg]; exact hm) ?_ hdb)⟩
  refine PySem.W.callWith_K (h₀ := X.base) I.ok.mod.kin (by rw [a.K]; exact kp) (thn (ha.run pos pins s σ H _ I h) ?_) he hpl
  rintro us s1 ⟨vs, H1, I1, r, v, rfl, q⟩
  obtain ⟨u, rfl, ru⟩ := vals1 r
  refine ⟨I1.kIn, ?_⟩
  have KI := I1.kIn
  rw [a.K] at KI
  obtain ⟨nm, N', qn, bs, bm, hdct, sn, sub, ab, col, dd, k0, k1, k2, k3, k5, hC, hT⟩ := excInit_of KI XX.q
  obtain ⟨oc, od, kV, doc, pm, an, ct, osl, lk⟩ := XX.lk
  have hfn : oc = .type "function" := by
    have z := XX.fn
    unfold typeIn at z
    simp only [lk] at z
    simpa using z
  have hglob : s1.heap.Ns mainGlobals g.mg := by rw [← a.mg]; exact I1.mod.glob.keeps I1.bk
  obtain ⟨mb, hblt, bb⟩ := I1.mod.blt
  have hblt2 := hblt.keeps I1.bk
  have hlim := I1.nolimit
  obtain ⟨hp, gg, dr, tt, oo⟩ := s1
  have up : ∀ b o, hp.get? b = some o → ((hp.push (kdv_tup [u])).push (HandSPX.excO C hp.objs.size)).get? b = some o := fun b o z => Heap.get?_push_of_some _ (Heap.get?_push_of_some _ z)
  have hget : ((hp.push (kdv_tup [u])).push (HandSPX.excO C hp.objs.size)).get? (hp.objs.size + 1) = some (HandSPX.excO C hp.objs.size) := by heap_get
  refine wpAny_call (HandSPX.call_own XX.FB hT hC (looks_findIn KI XX.ini) (fun self => exc_bind (KI _ _ lk) hfn self) (by rw [sizeLine_eq]; simp) ?_)
  rw [a.P]
  refine xinit1 XX Y hd sa nf (fun b o z => up b o (KI b o z)) ?_ (hr.here.make C [u] []).room.depth (hlim.keeps up) hget (hglob.keeps up) ms (hblt2.keeps up) bb fun h' t1 dx tk k ldx nex e' n' => ⟨rfl, ?_⟩
  · cases z : g.K.lookup (hp.objs.size + 1) with
    | none => rfl
    | some o => exact absurd (Heap.lt_size (KI _ _ z)) (by show ¬ hp.objs.size + 1 < hp.objs.size; omega)
  have k' : ∀ b o, hp.get? b = some o → h'.get? b = some o := fun b o z => k b o (fun y => by
    have := Heap.lt_size z
    rw [y] at this
    exact absurd this (by show ¬ hp.objs.size + 1 < hp.objs.size; omega)) (up b o z)
  have ld2 : hp.objs.size + 2 ≤ dx := by
    have e2 : ((hp.push (kdv_tup ([] ++ [u]))).push (HandSPX.excO C hp.objs.size)).objs.size = hp.objs.size + 2 := by simp [Heap.size_push]
    rw [e2] at ldx
    exact ldx
  have n1 : hp.get? (hp.objs.size + 1) = none := by
    cases z : hp.get? (hp.objs.size + 1) with
    | none => rfl
    | some o => exact absurd (Heap.lt_size z) (by show ¬ hp.objs.size + 1 < hp.objs.size; omega)
  have n2 : hp.get? dx = none := by
    cases z : hp.get? dx with
    | none => rfl
    | some o => exact absurd (Heap.lt_size z) (by show ¬ dx < hp.objs.size; omega)
  have f1 : H1 (hp.objs.size + 1) = none := I1.hok.fresh (Nat.le_succ _)
  have f2 : H1 dx = none := I1.hok.fresh (by show hp.objs.size ≤ dx; omega)
  have J := inv_two (t' := tk) (o := exv (hp.objs.size + 1) C (some dx)) (u := exd dx [(f, v)]) I1 k' n1 n2 f1 f2 (fun z => nex z.symm) (exv_ok e' rfl rfl rfl) (exd_ok n' (relO_put (fs := []) ru fun g => True.intro))
  exact ⟨.ref (hp.objs.size + 1), _, J, rfl, q _ _ f1 f2 fun z => nex z.symm⟩
end
end RS
namespace RS
open PySem PySem.Spec L2 PySem.W
/-- the class x at C: C() is a new exception without a dict -/
def XK0 (g : Wd) (x : Str) (C : Addr) : Prop := g.mg x = some (.ref C) ∧ g.mg "super" = none ∧ keepIn g.K (.ref C) = true ∧
  ∃ fI cda cc qual st B newId initId bmB, XC g.P g.K C fI cda cc qual st B newId initId bmB ∧ XSt0 qual st
section
variable {g : Wd} {X : Cx} {C : Addr} {x f : Str} {e o : Expr} {t : TA} {ta : TE} {p pos : Pos}
def tMkX0 (C : Addr) : TE := fun σ H Q => ∀ y, H y = none → Q (.ref y) (upd H y (exv y C none))
theorem pe_mkX0 (F : XK0 g x C) (hr : Rm 2 X) (hg : Gl X x := by rfl) (hdb : (x == ("__debug__" : Str)) = false := by decide) (a : At g X := by exact ⟨rfl, rfl, rfl, rfl, rfl⟩) :
    PE X (.Call (.Name x p) [] [] pos) (tMkX0 C) := by
  obtain ⟨hm, ms, kp, fI, cda, cc, qual, st, B, newId, initId, bmB, XX, Y⟩ := F
  refine ⟨fun pins s σ H Q I q => wpAny_Call_Name_kw (ld_glob I hg (by rw [a.mg]; exact hm) ?_ hdb)⟩
  refine PySem.W.callWith_K0 I.kIn (by rw [a.K]; exact kp) ?_
  have KI := I.kIn
  rw [a.K] at KI
  obtain ⟨nm, N', qn, bs, bm, hdct, sn, sub, ab, col, dd, k0, k1, k2, k3, k5, hC, hT⟩ := excInit_of KI XX.q
  obtain ⟨oc, od, kV, doc, pm, an, ct, osl, lk⟩ := XX.lk
  have hfn : oc = .type "function" := by
    have z := XX.fn
    unfold typeIn at z
    simp only [lk] at z
    simpa using z
  have hglob : s.heap.Ns mainGlobals g.mg := by rw [← a.mg]; exact I.mod.glob.keeps I.bk
  obtain ⟨mb, hblt, bb⟩ := I.mod.blt
  have hblt2 := hblt.keeps I.bk
  have hlim := I.nolimit
  obtain ⟨hp, gg, dr, tt, oo⟩ := s
  have up : ∀ b o, hp.get? b = some o → ((hp.push (kdv_tup [])).push (HandSPX.excO C hp.objs.size)).get? b = some o := fun b o z => Heap.get?_push_of_some _ (Heap.get?_push_of_some _ z)
  have hget : ((hp.push (kdv_tup [])).push (HandSPX.excO C hp.objs.size)).get? (hp.objs.size + 1) = some (HandSPX.excO C hp.objs.size) := by heap_get
  refine wpAny_call (HandSPX.call_own XX.FB hT hC (looks_findIn KI XX.ini) (fun self => exc_bind (KI _ _ lk) hfn self) (by rw [sizeLine_eq]; simp) ?_)
  rw [a.P]
  refine xinit0 XX Y (fun b o z => up b o (KI b o z)) (hr.here.make C [] []).room.depth (hlim.keeps up) hget (hglob.keeps up) ms (hblt2.keeps up) bb fun h' t1 tk k e' => ⟨rfl, ?_⟩
  have k' : ∀ b o, hp.get? b = some o → h'.get? b = some o := fun b o z => k b o (fun y => by
    have := Heap.lt_size z
    rw [y] at this
    exact absurd this (by show ¬ hp.objs.size + 1 < hp.objs.size; omega)) (up b o z)
  have n1 : hp.get? (hp.objs.size + 1) = none := by
    cases z : hp.get? (hp.objs.size + 1) with
    | none => rfl
    | some o => exact absurd (Heap.lt_size z) (by show ¬ hp.objs.size + 1 < hp.objs.size; omega)
  have f1 : H (hp.objs.size + 1) = none := I.hok.fresh (Nat.le_succ _)
  have J := I.laid (a := hp.objs.size + 1) (o := exv (hp.objs.size + 1) C none) (h' := h') (t' := tk) k' (Nat.le_succ _) (exv_ok e' rfl rfl rfl)
  exact ⟨.ref (hp.objs.size + 1), _, J, rfl, q _ f1⟩

/-! ### a field of such a value -/
def tXfv (K : Frag) (C : Addr) (f : Str) (ta : TE) : TE := fun σ H Q => ta σ H fun x H1 => ∃ a dd fs v, x = .ref a ∧ H1 a = some (exv a C (some dd)) ∧ H1 dd = some (exd dd fs) ∧ fs.lookup f = some v ∧ Q v H1
theorem pe_xfv (T : XfC g.K C) (hno : findIn g.K (.ref C) f = some none) (he : PE X e ta) (hb : attributeBase e f X.env (eval e X.env) = eval e X.env := by rfl) (at_ : At g X := by exact ⟨rfl, rfl, rfl, rfl, rfl⟩) : PE X (.Attribute e f pos) (tXfv g.K C f ta) := by
  refine ⟨fun pins s σ H Q I h => ?_⟩
  refine attr_of hb (thn (he.run pins s σ H _ I h) fun u s1 hh => ?_)
  obtain ⟨x, H1, I1, rx, a, dd, fs, v, rfl, ea, ed, l, q⟩ := hh
  obtain rfl : u = Value.ref a := rx
  obtain ⟨oe, vs, hoe, c1, c2, c3⟩ := exv_at I1.hok ea
  obtain ⟨mA, hns, hr⟩ := exd_at I1.hok ed
  obtain ⟨od, ho, hl⟩ := lookIn_ns hns
  obtain ⟨u, hu, ru⟩ := RelO.some_of (v := v) (o := mA f) (by rw [← l]; exact hr f)
  have J : InstAt s1.heap a oe C (some od) := ⟨hoe, c1, by unfold notCls; rw [c3] <;> rfl, by rw [c2]; exact ho⟩
  have KI := I1.kIn
  rw [at_.K] at KI
  exact HandSPX.exc_get KI J T.ga T.gg T.exC (findObj_own T.hdC hno rfl (by rw [hl, hu])) (handed_of ru) ⟨v, H1, I1.tok _, ru, q⟩
end
end RS


/-! isinstance of own exceptions held as values -/
namespace RS
open PySem PySem.Spec PySem.W PySem.Calls PyProof.Rows
section
variable {prog : Program} {w : World} {A : Around} {E : Value → Shared → Prop} {s : Shared} {K : Frag} {x C : Addr} {ox : Obj} {od : Option Obj}
theorem clsX (T : L2.ExcC K C) {Q : Option Value → Shared → Prop} (KX : K.In s.heap) (I : InstAt s.heap x ox C od) (q : Q (some (.ref C)) { s with toks := s.toks + 1 }) : wpAny (model prog w) A (getAttr? (.ref x) "__class__") Q E s := by
  have some_cls : (clsIn K C).isSome = true := by
    obtain ⟨cd, hc, _⟩ := any_some T.hd
    rw [hc]; rfl
  have found : findObj K C od "__class__" = some (.bind (.builtin "getset_descriptor.__get__") (.builtin "object.__class__")) := by
    cases od with
    | none => exact findObj_dataN some_cls T.ha T.hn T.ht
    | some od => exact findObj_data some_cls T.ha T.hn T.ht
  obtain ⟨hp, gs, dr, tk, os⟩ := s
  have la := I.type (M := model prog w)
  have lb := looks_findIn (M := model prog w) KX T.hg
  have lc := looks_findIn (M := model prog w) KX T.hk
  have ld := looks_find (M := model prog w) KX I found
  have lsub : Looks (model prog w) hp (isInstance (.ref x) (.type "BaseException")) true := la.andThen (looks_subIn KX T.hs)
  have other : (Value.builtin "BaseException.__getattribute__" == Value.builtin "object.__getattribute__") = false := by decide +kernel
  unfold getAttr?
  unfold getAttrBy?
  unfold getAttrBy
  refine wpAny_bind (wpAny_mkText (wpAny_bind (wpAny_attempt ?_)))
  refine wpAny_holding (wpAny_bind (la.at (wpAny_bind (lb.at ?_))))
  dsimp only
  rw [if_neg (by rw [other]; simp)]
  unfold getAttrByItsOwn
  unfold hookBefore
  refine wpAny_bind ?_
  rw [if_pos (by rfl)]
  refine lc.at ?_
  refine wpAny_bind (wpAny_attempt ?_)
  refine wpAny_holding ?_
  unfold callGetattribute
  rw [if_neg (by simp)]
  unfold boundAndCalled
  rw [PySem.F.excAttr_ValueError.ga.bind (.ref x)]
  refine wpAny_bind (wpAny_pure ?_)
  show wpAny _ _ (call (.builtin "BaseException.__getattribute__") [.ref x, .str "__class__" tk]) _ _ _
  refine wpAny_call (codeAny_call_builtin PySem.F.excAttr_ValueError.ga.plain PySem.F.entry_bexc_ga ?_)
  refine @check_slot (model prog w) _ _ ⟨hp, gs, dr, tk + 1, os⟩ "BaseException.__getattribute__" "BaseException" "__getattribute__" (.ref x) [.str "__class__" tk] [] _ (by decide +kernel) (by decide +kernel) lsub (PySem.F.args_bexc_ga _ _) ?_
  unfold Builtin.«object.__getattribute__»
  refine wpAny_bind (wpAny_of_eq (a := ((Value.ref x : Value), [Value.str "__class__" tk])) (by first | rfl | (simp only [slotArgs]; rfl)) ?_)
  refine wpAny_bind (wpAny_pure ?_)
  refine wpAny_bind (la.at (wpAny_bind (ld.at ?_)))
  refine wpAny_bind (wpAny_holding (wpAny_call (class_get (s := ⟨hp, gs, dr, tk + 1, os⟩) (ox := ox) (od := od) KX I T.hm ?_)))
  refine wpAny_pure ?_
  show wpAny _ _ (handedOut (.ref C)) _ _ _
  rw [handedOut_of (v := .ref C) rfl]
  first
    | exact wpAny_pure (wpAny_pure q)
    | exact wpAny_pure q
    | exact wpAny_pure (wpAny_bind (wpAny_pure (wpAny_pure q)))
theorem kitX (T : L2.ExcC K C) : KitX K (.ref x) (.ref C) (fun h => ∃ ox od, InstAt h x ox C od) where
  ty := fun _ _ _ ⟨_, _, I⟩ => I.type
  it := fun M h KX _ => by
    obtain ⟨cd, hc, _⟩ := any_some T.hd
    unfold clsIn at hc
    split at hc
    · rename_i ho
      intro A' Q' E' s' k q
      unfold isType
      unfold loadHead
      exact wpAny_bind (wpAny_loadPart (k _ _ (KX _ _ ho)) (wpAny_pure q))
    · cases hc
  ne := fun h tp dd its n sl KX htp => by
    obtain ⟨cd, hc, _⟩ := any_some T.hd
    refine Bool.eq_false_iff.mpr fun q => ?_
    obtain rfl : C = tp := Value.ref.inj (beq_iff_eq.mp q)
    unfold clsIn at hc
    split at hc
    · rename_i ho
      cases (KX _ _ ho).symm.trans htp
    · cases hc
  ca := fun KX ⟨_, _, I⟩ q => clsX T KX I q
end
end RS
namespace RS
open PySem PySem.Spec L2
section
variable {X : Cx} {g : Wd}
/-- isinstance(x, c), x an exception of the class at C held as a value -/
def rIsX (K : PySem.W.Frag) : List V → Hp → VK → Prop := fun xs H Q => ∃ (a C : Addr) (d : Option Addr) (c : V) (u : Value) (b : Bool), xs = [.ref a, c] ∧ ExcC K C ∧ ClsV c u ∧ H a = some (exv a C d) ∧ (∀ dd, d = some dd → ∃ fs, H dd = some (exd dd fs)) ∧ PySem.W.kitOne K (.ref C) u = some b ∧ Q (.bl b) H
theorem c_isX {K : PySem.W.Frag} (hK : X.K = K := by rfl) : CallR X (.builtin "isinstance") (rIsX K) := by
  subst hK
  intro pins s σ H xs us Q I r h
  obtain ⟨a, C, d, c, u, b, rfl, T, k, ea, ed, e, q⟩ := h
  obtain ⟨u1, u2, rfl, r1, r2⟩ := vals2 r
  have e2 := k.eq r2
  subst e2
  cases r1
  obtain ⟨oe, vs, hoe, c1, c2, c3⟩ := exv_at I.hok ea
  have J : ∃ ox od, PySem.W.InstAt s.heap a ox C od := by
    cases d with
    | none => exact ⟨oe, none, hoe, c1, by unfold PySem.W.notCls; rw [c3] <;> rfl, by rw [c2]; trivial⟩
    | some dd =>
      obtain ⟨fs, ef⟩ := ed dd rfl
      obtain ⟨mA, hns, hr⟩ := exd_at I.hok ef
      obtain ⟨od, ho, hl⟩ := lookIn_ns hns
      exact ⟨oe, some od, hoe, c1, by unfold PySem.W.notCls; rw [c3] <;> rfl, by rw [c2]; exact ho⟩
  exact PySem.W.kia_one (kitX T) I.kIn J e (fun z => nomatch z) fun tk => ⟨.bl b, H, I.tok tk, rfl, q⟩
end
end RS


/-! repr of data with dicts in it -/
namespace RS
open PySem PySem.Spec L2
def keyD : Key → PyData
  | .inl i => .int i
  | .inr x => .str x
mutual
/-- v stands for the data d -/
inductive DpX (K : PySem.W.Frag) (H : Hp) : V → PyData → Prop
  | non : DpX K H .non .none
  | bl (b : Bool) : DpX K H (.bl b) (.bool b)
  | int (i : Int) : DpX K H (.int i) (.int i)
  | str (x : Str) : DpX K H (.str x) (.str x)
  | lst {a : Addr} {xs : List V} {ds : List PyData} (h : SqL K H a xs) (hs : DpXs K H xs ds) : DpX K H (.ref a) (.list ds)
  | tup {a : Addr} {xs : List V} {ds : List PyData} (h : SqT K H a xs) (hs : DpXs K H xs ds) : DpX K H (.ref a) (.tuple ds)
  | dct {a : Addr} {kvs : List (Key × V)} {D : List (PyData × PyData)} (h : H a = some (.dK kvs)) (hs : DpXd K H kvs D) : DpX K H (.ref a) (.dict D)
inductive DpXs (K : PySem.W.Frag) (H : Hp) : List V → List PyData → Prop
  | nil : DpXs K H [] []
  | cons {v : V} {vs : List V} {d : PyData} {ds : List PyData} (h : DpX K H v d) (hs : DpXs K H vs ds) : DpXs K H (v :: vs) (d :: ds)
inductive DpXd (K : PySem.W.Frag) (H : Hp) : List (Key × V) → List (PyData × PyData) → Prop
  | nil : DpXd K H [] []
  | cons {k : Key} {v : V} {kvs : List (Key × V)} {d : PyData} {D : List (PyData × PyData)} (h : DpX K H v d) (hs : DpXd K H kvs D) : DpXd K H ((k, v) :: kvs) ((keyD k, d) :: D)
end
/-- sys.modules stands in the base, a dict -/
def SmB (base : Heap) : Prop := ∃ o es n, base.get? sysModules = some o ∧ o.data = .dict es n
theorem SmB.ne {X : Cx} {pins : List (Addr × Obj)} {σ : L2.St} {H : Hp} {s : Shared} {a : Addr} {its : Array Value} {n : Nat} {o : Obj} (I : Inv X pins σ H s) (sm : SmB X.base) (h : s.heap.get? a = some o) (hd : o.data = .seq its n) : sysModules ≠ a := fun z => by
  obtain ⟨o2, es, k, e, d⟩ := sm
  have e2 := (I.bs _ _ e).1
  rw [z, h] at e2
  cases e2
  rw [hd] at d
  cases d
section
variable {X : Cx} {pins : List (Addr × Obj)} {σ : L2.St} {H : Hp} {s : Shared}
theorem key_reads {h : Heap} (k : Key) (key : Value) (e : (mixKind X.prog X.w).is k key = true) : Reads h key (keyD k) [] := by
  rcases keyIs_shape e with ⟨i, t, rfl, rfl⟩ | ⟨x, t, rfl, rfl⟩
  · exact Reads.int i t
  · exact Reads.str x t
mutual
theorem DpX.reads (I : Inv X pins σ H s) (sm : SmB X.base) : ∀ {d : PyData} {v : V} {u : Value}, DpX X.K H v d → RelV v u → ∃ as, Reads s.heap u d as ∧ sysModules ∉ as
  | _, _, _, .non, r => by cases r; exact ⟨_, Reads.none, by simp⟩
  | _, _, _, .bl b, r => by cases r; exact ⟨_, Reads.bool b, by simp⟩
  | _, _, _, .int i, r => by obtain ⟨t, rfl⟩ := r; exact ⟨_, Reads.int i t, by simp⟩
  | _, _, _, .str x, r => by obtain ⟨t, rfl⟩ := r; exact ⟨_, Reads.str x t, by simp⟩
  | _, _, _, .lst hs ha, r => by
    cases r
    obtain ⟨its, rv, ⟨o, n, ho, hc, _, hd⟩, _⟩ := I.list hs
    obtain ⟨as, hr, na⟩ := DpXs.reads I sm ha rv
    refine ⟨_, Reads.list ho hc hd hr, fun z => ?_⟩
    rcases List.mem_cons.mp z with z | z
    · exact SmB.ne I sm ho hd z
    · exact na z
  | _, _, _, .tup hs ha, r => by
    cases r
    obtain ⟨its, rv, ⟨o, ho, hc, n, hd⟩, _⟩ := I.tuple hs
    obtain ⟨as, hr, na⟩ := DpXs.reads I sm ha rv
    exact ⟨_, Reads.tuple ho hc hd hr, na⟩
  | _, _, _, .dct hs ha, r => by
    cases r
    obtain ⟨_, ns, vs, kv, dd⟩ := dk_of I.hok hs
    obtain ⟨bs, hp, nb⟩ := DpXd.reads I sm ha kv
    refine ⟨_, PyProof.V.reads_dictOf (enc := keyD) (fun k key e => key_reads (X := X) k key e) dd hp, fun z => ?_⟩
    rcases List.mem_cons.mp z with z | z
    · rw [z] at ns; simp at ns
    · exact nb z
theorem DpXs.reads (I : Inv X pins σ H s) (sm : SmB X.base) : ∀ {ds : List PyData} {vs : List V} {us : List Value}, DpXs X.K H vs ds → Vals vs us → ∃ as, ReadsAll s.heap us ds as ∧ sysModules ∉ as
  | _, _, _, .nil, r => by cases r; exact ⟨_, ReadsAll.nil, by simp⟩
  | _, _, _, .cons h1 h2, r => by
    cases r with
    | cons r1 r2 =>
      obtain ⟨as, q1, n1⟩ := DpX.reads I sm h1 r1
      obtain ⟨bs, q2, n2⟩ := DpXs.reads I sm h2 r2
      exact ⟨_, ReadsAll.cons q1 q2, fun z => (List.mem_append.mp z).elim n1 n2⟩
theorem DpXd.reads (I : Inv X pins σ H s) (sm : SmB X.base) : ∀ {D : List (PyData × PyData)} {kvs : List (Key × V)} {vs : List (Key × Value)}, DpXd X.K H kvs D → KV kvs vs → ∃ bs, PyProof.V.PairsRead s.heap keyD vs D bs ∧ sysModules ∉ bs
  | _, _, _, .nil, r => by cases r; exact ⟨_, PyProof.V.PairsRead.nil, by simp⟩
  | _, _, _, .cons h1 h2, r => by
    cases r with
    | @cons _ q _ _ r1 r2 =>
      obtain ⟨k', v'⟩ := q
      obtain ⟨e1, e2⟩ := r1
      simp only at e1 e2
      subst e1
      obtain ⟨as, q1, n1⟩ := DpX.reads I sm h1 e2
      obtain ⟨bs, q2, n2⟩ := DpXd.reads I sm h2 r2
      exact ⟨_, PyProof.V.PairsRead.cons q1 q2, fun z => (List.mem_append.mp z).elim n1 n2⟩
end
end
end RS
namespace RS
open PySem PySem.Spec L2
section
variable {X : Cx} {k : Nat}
def rReprX (K : PySem.W.Frag) : List V → Hp → VK → Prop := fun xs H Q => ∃ a d, xs = [.ref a] ∧ DpX K H (.ref a) d ∧ d.showable = true ∧ d.depth ≤ 60 ∧ d.shown.length ≤ sizeLine ∧ Q (.str d.shown) H
theorem c_reprX {K : PySem.W.Frag} {base : Heap} (sm : SmB base) (hr : Rm k X) (hK : X.K = K := by rfl) (hB : X.base = base := by rfl) : CallR X (.builtin "repr") (rReprX K) := by
  subst hK
  subst hB
  intro pins s σ H xs us Q I r h
  obtain ⟨a, d, rfl, hd, hs, hz, hl, q⟩ := h
  obtain ⟨u, rfl, ru⟩ := vals1 r
  cases ru
  obtain ⟨as, rd, na⟩ := DpX.reads I sm hd rfl
  refine repr_of_reads' (h₀ := s.heap) rd hs (fun _ => na) hr.gd (by have := hr.room.un; omega) (fun _ _ e => e) (fun h' u tk kp => ?_) hl
  exact ⟨.str _, H, I.kept kp, ⟨_, rfl⟩, q⟩
end
end RS
namespace RS
open PySem PySem.Spec L2
theorem sqT_same {K : PySem.W.Frag} {H H' : Hp} {a : Addr} {xs : List V} (h : SqT K H a xs) (s : Same H H') : SqT K H' a xs := by
  rcases h with (h | ⟨o, h⟩) | h
  · exact .inl (.inl (s _ _ h))
  · exact .inl (.inr ⟨o, s _ _ h⟩)
  · exact .inr h
mutual
theorem DpX.same {K : PySem.W.Frag} {H H' : Hp} (s : Same H H') : ∀ {v : V} {d : PyData}, DpX K H v d → DpX K H' v d
  | _, _, .non => .non
  | _, _, .bl b => .bl b
  | _, _, .int i => .int i
  | _, _, .str x => .str x
  | _, _, .lst h hs => .lst (sq_same h s) (hs.same s)
  | _, _, .tup h hs => .tup (sqT_same h s) (hs.same s)
  | _, _, .dct h hs => .dct (s _ _ h) (hs.same s)
theorem DpXs.same {K : PySem.W.Frag} {H H' : Hp} (s : Same H H') : ∀ {vs : List V} {ds : List PyData}, DpXs K H vs ds → DpXs K H' vs ds
  | _, _, .nil => .nil
  | _, _, .cons h hs => .cons (h.same s) (hs.same s)
theorem DpXd.same {K : PySem.W.Frag} {H H' : Hp} (s : Same H H') : ∀ {kvs : List (Key × V)} {D : List (PyData × PyData)}, DpXd K H kvs D → DpXd K H' kvs D
  | _, _, .nil => .nil
  | _, _, .cons h hs => .cons (h.same s) (hs.same s)
end
theorem DpXs.rep {K : PySem.W.Frag} {H : Hp} {v : V} {d : PyData} (h : DpX K H v d) : ∀ n, DpXs K H (List.replicate n v) (List.replicate n d)
  | 0 => .nil
  | n + 1 => .cons h (DpXs.rep h n)
end RS


namespace RS
open PySem PySem.Spec L2
theorem dp_bools {K : PySem.W.Frag} {H : Hp} : ∀ bs : List Bool, DpAll K H (bs.map V.bl) (bs.map PyData.bool)
  | [] => .nil
  | b :: bs => .cons (.bl b) (dp_bools bs)
theorem lay_bools : ∀ bs : List Bool, PyData.canLayAll0 (bs.map PyData.bool) = true ∧ PyData.depthAll (bs.map PyData.bool) = 0
  | [] => ⟨rfl, rfl⟩
  | b :: bs => by
    have h := lay_bools bs
    simp [PyData.canLayAll0, PyData.canLay0, PyData.depthAll, PyData.depth, h]
theorem shaped_bools (bs : List Bool) : SeqAt.shaped (.list (bs.map PyData.bool)) = true := by
  have h := lay_bools bs
  simp [SeqAt.shaped, PyData.canLay0, PyData.depth, h]
theorem eqv_bools : ∀ bs : List Bool, PyData.eqvAll (bs.map PyData.bool) (bs.map PyData.bool) = true
  | [] => rfl
  | b :: bs => by
    have h := eqv_bools bs
    simp [PyData.eqvAll, PyData.eqv, h]
/-- two lists of the same truth values: != says False -/
theorem ne_bools {K : PySem.W.Frag} {H : Hp} {Q : VK} {a p : Addr} (bs : List Bool) (h : SqL K H a (bs.map V.bl)) (hp : SqL K H p (bs.map V.bl)) (q : Q (.bl false) H) : rNeD K (.ref a) (.ref p) H Q := by
  refine ⟨.list (bs.map PyData.bool), .list (bs.map PyData.bool), .lst h (dp_bools bs), .lst hp (dp_bools bs), shaped_bools bs, shaped_bools bs, ?_⟩
  have e : PyData.eqv (.list (bs.map PyData.bool)) (.list (bs.map PyData.bool)) = true := by simp only [PyData.eqv]; exact eqv_bools bs
  rw [e]; exact q
end RS


namespace RS
open PySem PySem.Spec L2 PyProof.Rows
section
variable {X : Cx}
/-- list + list, of whatever standing -/
def rCatW (K : PySem.W.Frag) : R2 := fun x y H Q => ∃ l b xs zs, x = .ref l ∧ y = .ref b ∧ SqL K H l xs ∧ SqL K H b zs ∧ xs.length + zs.length ≤ sizeLine ∧ ∀ p, H p = none → Q (.ref p) (upd H p (.lst (xs ++ zs)))
theorem op_catW {K : PySem.W.Frag} (hK : X.K = K := by rfl) : OpR X (binaryOp .Add) (rCatW K) := by
  subst hK
  intro pins s σ H x y v u Q I rx ry h
  obtain ⟨l, b, xs, zs, rfl, rfl, hH, hB, hz, q⟩ := h
  cases rx
  cases ry
  obtain ⟨its, r, ⟨⟨c1, d1, t1, sl1⟩, n, ho, hc, hdd, hd⟩, _⟩ := I.list hH
  obtain ⟨its2, r2, ⟨⟨c2, d2, t2, sl2⟩, n2, ho2, hc2, hdd2, hd2⟩, _⟩ := I.list hB
  simp only at hc hd hdd hc2 hd2 hdd2
  subst hc hd hdd hc2 hd2 hdd2
  have l1 := r.length
  have l2 := r2.length
  refine concat_meets ⟨_, ho, rfl⟩ ⟨_, ho2, rfl⟩ noFill_list_add seq_list_add PySem.F.slot_list_add PySem.F.entry_list_add (PySem.F.args_list_add_2 _ _) (list_addW l b its.toArray its2.toArray n n2 none none sl1 sl2 (by rw [List.size_toArray, List.size_toArray]; omega)) ⟨ho, ho2, ?_⟩
  have ea : its.toArray ++ its2.toArray = (its ++ its2).toArray := by simp
  rw [ea]
  exact ⟨.ref _, _, I.lnew (t' := s.toks) (r.append r2) (by rw [List.length_append]; omega), rfl, q _ I.fresh⟩
end
end RS
namespace RS
open PySem PySem.Spec L2
theorem join_len_le (n b : Nat) : ∀ ts : List Str, ts.length ≤ n → (∀ t ∈ ts, t.length ≤ b) → (Str.join ", " ts).length ≤ n * (b + 2) := by
  intro ts hn hb
  by_cases e : ts = []
  · subst e; exact Nat.le_trans (by decide) (Nat.zero_le _)
  · have h := join_length_add ts e
    have hp : piled ts ≤ ts.length * (b + 2) := by
      clear h e hn
      induction ts with
      | nil => simp [piled]
      | cons t ts ih =>
        have h1 := hb t (List.mem_cons_self ..)
        have h2 := ih fun x hx => hb x (List.mem_cons_of_mem _ hx)
        simp only [piled, List.map_cons, List.sum_cons, List.length_cons] at h2 ⊢
        rw [Nat.add_mul]
        omega
    have : ts.length * (b + 2) ≤ n * (b + 2) := Nat.mul_le_mul_right _ hn
    omega
theorem shownAll_rep (d : PyData) : ∀ n, PyData.shownAll (List.replicate n d) = List.replicate n d.shown
  | 0 => by simp [PyData.shownAll]
  | n + 1 => by simp [List.replicate_succ, PyData.shownAll, shownAll_rep d n]
theorem showableAll_rep {d : PyData} (h : d.showable = true) : ∀ n, PyData.showableAll (List.replicate n d) = true
  | 0 => by simp [PyData.showableAll]
  | n + 1 => by simp [List.replicate_succ, PyData.showableAll, showableAll_rep h n, h]
theorem depthAll_rep (d : PyData) : ∀ n, PyData.depthAll (List.replicate n d) ≤ d.depth
  | 0 => by simp [PyData.depthAll]
  | n + 1 => by
    have := depthAll_rep d n
    simp only [List.replicate_succ, PyData.depthAll]; omega
theorem show_int {i : Int} (h : i.natAbs < 10 ^ 30) : (PyData.int i).showable = true ∧ (PyData.int i).depth = 0 ∧ (PyData.int i).shown.length ≤ 1000 := by
  refine ⟨?_, by simp [PyData.depth], ?_⟩
  · simp only [PyData.showable, decide_eq_true_eq]
    have h2 : i.natAbs < 2 ^ 1920 := Nat.lt_of_lt_of_le h (by decide +kernel)
    by_cases z : i.natAbs = 0
    · rw [z]; decide
    · exact (Nat.log2_lt z).mpr h2
  · rw [PyData.shown_int]
    have h3 := int_text_length_le10 (a := i) (k := 30) (by decide) h
    rw [ofString_length]
    omega
end RS


/-! own exception classes at the end of a law -/
namespace RS
open PySem PySem.Spec PySem.W L2
/-- what the kernel tells of an own exception class -/
structure XB (K : Frag) (C fI cda : Addr) (qual : Str) (B newId initId : String) (bmB : List Value) : Prop where
  q : excInitIn K C bmB newId = true
  ov : excOver K C bmB = true
  sup : ks_superIn K C C "__init__" = some (some (.builtin initId))
  sub : subIn K (.ref C) (.type B) = some true
  fn : typeIn K (.ref fI) = some (.type "function")
  cd : codeIn K (.ref cda) qual = true
  me : mroIn K C (.ref C) = some true
  kp : keepIn K (.ref C) = true
  hd : hasDictIn K C = true
  sa : findIn K (.ref C) "__setattr__" = some (some (.builtin "object.__setattr__"))
  hg : findIn K (.ref C) "__getattribute__" = some (some (.builtin "BaseException.__getattribute__"))
  hk : findIn K (.ref C) "__getattr__" = some none
  hs : subIn K (.ref C) (.type "BaseException") = some true
  ha : findIn K (.ref C) "__class__" = some (some (.builtin "object.__class__"))
  hm : mroIn K C (.type "object") = some true
/-- what is common -/
structure XA (P : Program) (K : Frag) : Prop where
  op : nsIn K cStatics "thirdparty.any" = some none
  nt : (P.main.scope.names.lookup ("super" : Str)).isSome = false
  hn : specialIn K (.builtin "object.__class__") "__get__" = some (some (.builtin "getset_descriptor.__get__"))
  ht : takesIn K (.builtin "object.__class__") = some true
section
variable {P : Program} {K : Frag} {C fI cda cc : Addr} {qual : Str} {st : Stmt} {B newId initId : String} {bmB : List Value}
  {oc kV doc pm ct ccl cl : Value} {od an cdd cld : Option Addr} {osl ccs csl : Array (Option Value)} {vs : Array Value} {file : Str} {tf : Tok}
theorem xc_mk (FB : ExcBaseFacts B newId initId bmB) (KF : KxsFacts B initId) (SF : StoreFacts B bmB "object.__setattr__" "object") (A : XA P K) (b : XB K C fI cda qual B newId initId bmB) (ini : findIn K (.ref C) "__init__" = some (some (.ref fI)))
    (l : K.lookup fI = some ⟨oc, od, .func (ksFn "__init__" qual (L2.defArgs st) (L2.defBody st) (L2.defScope st) .none kV doc pm an (.ref cda) ct cc), osl⟩)
    (co : K.lookup cda = some ⟨ccl, cdd, .fields vs, ccs⟩) (fi : vs[2]? = some (.str file tf)) (fe : ((P.main.file : Str) == file) = true) (ce : K.lookup cc = some ⟨cl, cld, .cell (some (.ref C)), csl⟩) :
    XC P K C fI cda cc qual st B newId initId bmB :=
  ⟨FB, KF, SF, b.q, b.ov, b.sup, b.sub, ini, b.fn, ⟨_, _, _, _, _, _, _, _, l⟩, b.cd, ⟨_, _, _, _, _, _, co, fi, fe⟩, ⟨_, _, _, ce⟩, b.me, A.op, A.nt⟩
theorem XB.exc (A : XA P K) (b : XB K C fI cda qual B newId initId bmB) : ExcC K C := ⟨b.hg, b.hk, b.hs, b.hd, b.ha, A.hn, A.ht, b.hm⟩
theorem XB.xf (b : XB K C fI cda qual B newId initId bmB) : XfC K C := ⟨b.hg, b.hk, b.hs, b.hd⟩
end
theorem df_mk {K : PySem.W.Frag} {x qual : Str} {st : Stmt} {f : Addr} {oc : Value} {od an : Option Addr} {osl : Array (Option Value)} {dV kV doc pm cdv ct : Value} (l : K.lookup f = some ⟨oc, od, .func (PySem.W.fnOf x qual (defArgs st) (defBody st) (defScope st) dV kV doc pm an cdv ct), osl⟩)
    (c : PySem.W.codeIn K cdv qual = true) (k : PySem.W.keepIn K (.ref f) = true) : Df K x qual st f (PySem.W.fnOf x qual (defArgs st) (defBody st) (defScope st) dV kV doc pm an cdv ct) dV := ⟨⟨oc, od, kV, doc, pm, an, cdv, ct, osl, rfl, l, c⟩, k⟩
end RS


namespace RS
open PySem PySem.Spec PyProof.Rows L2
/-- whether sys.modules is a dict -/
def smOk (h : Heap) : Bool := match h.get? sysModules with
  | some ⟨_, _, .dict _ _, _⟩ => true
  | _ => false
theorem smB_of {h : Heap} (e : smOk h = true) : SmB h := by
  unfold smOk at e
  split at e
  · rename_i c d es n sl q
    exact ⟨_, es, n, q, rfl⟩
  · cases e
/-- a hook that tells of sys.modules too -/
def smHook (k : PySem.W.Hook) : PySem.W.Hook :=
  ⟨k.α × Bool, fun s => (k.obs s, smOk s.heap), fun w => (k.val w, true), fun w h => k.says w h ∧ SmB h, fun w s e => ⟨k.of w s (Prod.mk.inj e).1, smB_of (Prod.mk.inj e).2⟩,
    fun w h h' x kp => ⟨k.keeps w h h' x.1 kp, by obtain ⟨o, es, n, e, d⟩ := x.2; exact ⟨o, es, n, kp _ _ e, d⟩⟩⟩
/-- the law's call, from its promise, where no repr is under way -/
theorem lawS {P : Program} {w : World} {K : PySem.W.Frag} {mg mb : Str → Option Value} {k : Nat} {fa a : Addr} {fd : FuncData} {x : Str} {sp : Sp} {s₁ : Shared} {vs : List Value} {ns : List Int}
    (KX : K.In s₁.heap) (gl : s₁.heap.Ns mainGlobals mg) (bl : s₁.heap.Ns builtinsNs mb) (bb : ∀ x : Str, x ≠ "__name__" → mb x = bootBuiltins x) (lim : s₁.heap.NoLimit) (ge : s₁.gens = #[])
    (ha : s₁.heap.get? a = some { cls := .type "list", data := .seq vs.toArray }) (hi : IntsAre vs ns) (hl : ns.length ≤ sizeLine) (hr : Room k callerA)
    (sm : SmB s₁.heap) (F : ∀ base : Heap, K.In base → base.Ns mainGlobals mg → SmB base → FnG ⟨P, w, K, mg, base⟩ k fa fd [x] sp) (bd : ∀ (s : Shared) (u : Value), BindsTo s fd ⟨[u], []⟩ [(x, u)])
    (hsp : ∀ H : Hp, Only H → SqL K H a (ns.map V.int) → sp [.ref a] H (fun v _ => v = .bl true) fun _ _ _ => False) :
    codeAny (model P w) callerA (.call (.ref fa) ⟨[.ref a], []⟩) (fun r s' => r = .ok (.ret (.bool true)) ∧ OldK s₁.heap s'.heap ∧ s'.os = s₁.os ∧ AllBare s'.gens) s₁ := by
  have rv := vals_ints hi
  -- H tracks the script, or nothing
  have go : ∀ H : Hp, Only H → SqL K H a (ns.map V.int) → HOk P w H s₁.heap → (∀ b o, s₁.heap.get? b = some o → (∃ u, H b = some u) → b = a ∧ K.lookup a = none) →
      codeAny (model P w) callerA (.call (.ref fa) ⟨[.ref a], []⟩) (fun r s' => r = .ok (.ret (.bool true)) ∧ OldK s₁.heap s'.heap ∧ s'.os = s₁.os ∧ AllBare s'.gens) s₁ := by
    intro H hO hS hok hA
    have free : ∀ {b : Addr} {o : Obj}, s₁.heap.get? b = some o → (∀ v n, o.data ≠ .seq v n) → H b = none := by
      intro b o e nd
      cases q : H b with
      | none => rfl
      | some u =>
        obtain ⟨rfl, _⟩ := hA b o e ⟨u, q⟩
        rw [ha] at e
        cases e
        exact absurd rfl (nd _ _)
    have ns1 : ∀ {b : Addr} {m : Str → Option Value}, s₁.heap.Ns b m → (hidT s₁.heap H).Ns b m := by
      rintro b m ⟨o, es, ep, e, d, r⟩
      exact ⟨o, es, ep, hidT_get e (free e fun v n z => by rw [d] at z; cases z), d, r⟩
    have K1 : K.In (hidT s₁.heap H) := by
      intro b o e
      refine hidT_get (KX b o e) ?_
      cases q : H b with
      | none => rfl
      | some u =>
        obtain ⟨rfl, z⟩ := hA b o (KX b o e) ⟨u, q⟩
        rw [z] at e
        cases e
    have md : Mod K mg (hidT s₁.heap H) := by
      obtain ⟨mc, l1, l2⟩ := lim
      exact ⟨K1, ns1 gl, ⟨mb, ns1 bl, bb⟩, mc, ns1 l1, l2⟩
    have e0 : Env0 P w K mg (hidT s₁.heap H) callerA [] s₁ H :=
      { frames := rfl, mod := md, bs := fun b o e => of_hidT e, bsz := Nat.le_of_eq (hidT_size _ _), funs := trivial, frf := fun b hb => (nomatch hb), hok := hok, bare := .of_eq ge }
    have sm1 : SmB (hidT s₁.heap H) := by
      obtain ⟨o, es, n, e, d⟩ := sm
      exact ⟨o, es, n, hidT_get e (free e fun v n z => by rw [d] at z; cases z), d⟩
    refine codeAny_mono ((F _ K1 (ns1 gl) sm1).run callerA [] s₁ H ⟨[.ref a], []⟩ [.ref a] [.ref a] _ _ hr rfl e0 (bd s₁ (.ref a)) (.cons rfl .nil) (hsp H hO hS)) ?_
    rintro r s' h
    cases r with
    | error e =>
      obtain ⟨_, _, _, _, _, _, _, _, _, _, _, _, z⟩ := h
      exact z.elim
    | ok fl => cases fl with
      | ret u =>
        obtain ⟨v, H', os, bare, un, hok', r', q⟩ := h
        obtain rfl : v = .bl true := q
        obtain rfl : u = Value.bool true := r'
        refine ⟨rfl, OldK.of_keep fun b o e => ?_, os, bare⟩
        rcases hO b with z | ⟨ob, xs, z⟩
        · exact un.keep b o e z (fun y => (nomatch y)) (fun y => (nomatch y))
        · have z2 := un.frzs b ob _ z
          have e1 := (hok b _ z).1
          rw [e] at e1
          cases e1
          exact (hok' b _ z2).1
      | _ => exact h.elim
  cases hk : K.lookup a with
  | some o =>
    have e := KX a o hk
    rw [ha] at e
    cases e
    refine go (fun _ => none) (fun _ => .inl rfl) (.inr ⟨_, vs.toArray, _, hk, rfl, rfl, rfl, by rw [List.size_toArray, hi.length]; exact hl, by simpa using rv⟩) (fun b u z => nomatch z) fun b o _ z => ?_
    obtain ⟨u, z⟩ := z
    cases z
  | none =>
    refine go (upd (fun _ => none) a (.frz { cls := .type "list", data := .seq vs.toArray } (.lst (ns.map V.int)))) (fun b => ?_) (.inl (.inr ⟨_, upd_same⟩)) (fun b u z => ?_) fun b o e z => ?_
    · by_cases hb : b = a
      · subst hb; exact .inr ⟨_, _, upd_same⟩
      · exact .inl (upd_ne hb)
    · by_cases hb : b = a
      · subst hb
        rw [upd_same] at z
        cases z
        exact ⟨ha, by rw [List.length_map]; exact hl, vs, _, rv, ha⟩
      · rw [upd_ne hb] at z
        cases z
    · obtain ⟨u, z⟩ := z
      by_cases hb : b = a
      · exact ⟨hb, hk⟩
      · rw [upd_ne hb] at z
        cases z

/-- the goal that k_head leaves, from the law's promise -/
theorem walkS {l : PySem.W.OpenLaw} {n k : Nat} {q : Program} {loose : List Str} {XP : (Str → Option Value) → Heap → Prop} {YP : World → Heap → Prop} {d : DefRec} {K : Params → PySem.W.Frag} {sp : World → Sp} {x : Str}
    (hn : l.most = some n) (hn2 : n ≤ sizeLine) (hdf : d.params.defaults = []) (hr : Room k callerA)
    (hY : ∀ (w : World) (h : Heap), YP w h → (K w.params).In h) (hY2 : ∀ (w : World) (h : Heap), YP w h → SmB h)
    (F : ∀ (w : World) (mg : Str → Option Value) (fa : Addr) (h : Heap), (K w.params).In h → h.Ns mainGlobals mg → mg d.name = some (.ref fa) →
      ∃ fd : FuncData, (∀ (s : Shared) (u : Value), BindsTo s fd ⟨[u], []⟩ [(x, u)]) ∧
        ∀ base : Heap, (K w.params).In base → base.Ns mainGlobals mg → SmB base → FnG ⟨l.prog, w, K w.params, mg, base⟩ k fa fd [x] (sp w))
    (hsp : ∀ (w : World) (H : Hp) (a : Addr) (ns : List Int), ns.length ≤ n → (∀ z ∈ ns, Builtin.Int.intBits z ≤ 1048576) → Only H → SqL (K w.params) H a (ns.map V.int) → sp w [.ref a] H (fun v _ => v = .bl true) fun _ _ _ => False) :
    PySem.W.WalkO q loose XP YP l.row.toRowW d [] (fun f vs => PySem.call f vs) := by
  refine Att.attach_callB hn hdf fun w s₀ s₁ mg mb fa o pm cd doc a vs ns G Y ho hd hcd hmg hobj hints hlen hbits hg => ?_
  obtain ⟨fd, hb, hF⟩ := F w mg fa _ (hY w _ Y) G.T.g hmg
  exact lawS (hY w _ Y) G.T.g G.T.b G.T.builtins G.T.nolimit hg hobj hints (Nat.le_trans hlen hn2) hr (hY2 w _ Y) hF hb fun H hO hS => hsp w H a ns hlen hbits hO hS
end RS


namespace K01
open PySem PySem.Spec L2 RS
local macro_rules | `(tactic| walk_at "sx") => `(tactic| simp only [tRet, tRetN, tSeq, C8.tCut, tNext, tAsg, gName, gNil, gCons, gTup, gFld, tIfS, tIf, tAndV, tOrV, tNotV, tAnd, tOr, tNot, tB, tTest, tOp, tUn, tCB, tCons, tNil, tVar, tC, tChain, tDrop, tCallG, tMethG, tMakeG, RS.tCallK, RS.tMakeK, tEqOwn, rI, rI0, rU, add_ii, add_ss, add_rr, mul_ii, mul_si, mul_ri, RS.eq_ii, RS.eq_ss, eq_bb, eq_nn, eq_sn, eq_ns, eq_in, eq_ni, eq_bn, eq_nb, eq_is, eq_si, eq_rr, ne_ii, ne_ss, ne_bb, ne_nn, ne_sn, ne_ns, ne_in, ne_ni, ne_is, ne_si, ne_rr, in_ss, in_r, nin_ss, nin_r, len_s, len_r, RS.ix_s, RS.ix_r, sl_s, sl_r, is_eq, tyN_n, tyN_b, tyN_i, tyN_s, tru_b, tru_i, tru_n, tSl, tPart, tNoPart, tPar, tPar3, tFmtZ, tFmt, tJs, tDGet, sDPut, sFld, tFld, tTup, tLst, tNever, isB,
  L2.start, List.map_cons, List.map_nil, List.length_cons, List.length_nil, Nat.reduceAdd, Nat.reduceSub, Nat.sub_self, List.replicate_zero, List.replicate_succ, List.append_nil, List.cons_append, List.nil_append, List.getElem?_cons_zero, List.getElem?_cons_succ, List.set_cons_zero, List.set_cons_succ, Option.some.injEq, exists_eq_left, exists_eq_left', exists_and_left, V.bl.injEq, V.int.injEq, V.str.injEq, V.ref.injEq, beq_self_eq_true, Bool.true_or, Bool.or_true, Bool.false_or, Bool.or_false, Bool.and_false, Bool.false_and, Bool.true_and, Bool.and_true, Bool.not_true, Bool.not_false, Bool.false_eq_true, if_true, if_false, ite_true, ite_false, true_and, and_true, and_assoc, String.reduceBEq, String.reduceEq, reduceIte, Bool.and_self, reduceCtorEq, false_and, and_false, exists_false, or_false, false_or, exists_const, iEnumS, iStr, iList, iTup, iRng1, iEnum, tFor_eq, tLc_eq, List.cons.injEq, wipe, not_true_eq_false, not_false_eq_true, upd_same, HO.ins.injEq, HO.tup.injEq, HO.lst.injEq, ofS_eq, lk_nil, lk_cons, pu_nil, pu_cons, sizeLine_eq, Nat.reduceLT, Nat.reduceLeDiff, Nat.reduceEqDiff, Nat.le_refl, decide_true, decide_false, tPr, dget_us, dput_us, vv_nil, vv_cons, RS.pk_nil, pk_one, RS.pk_cons, inr_eq, tDisp, tPairs, tBoolOwn, rBoolOwn, tBM, rAppend, ty_list, ty_str, rEqOwn, tMkX0, tMkX1, tXfv, gSub, rSetL, List.getD_cons_zero, List.getD_cons_succ])
theorem lit_0 : (Str.ofString "recordshelf.errors") = SX.S [114, 101, 99, 111, 114, 100, 115, 104, 101, 108, 102, 46, 101, 114, 114, 111, 114, 115] := by decide +kernel
theorem lit_1 : (Str.ofString "law_recordshelf_k01_error_classes") = SX.S [108, 97, 119, 95, 114, 101, 99, 111, 114, 100, 115, 104, 101, 108, 102, 95, 107, 48, 49, 95, 101, 114, 114, 111, 114, 95, 99, 108, 97, 115, 115, 101, 115] := by decide +kernel
theorem lit_2 : (Str.ofString "not a value") = SX.S [110, 111, 116, 32, 97, 32, 118, 97, 108, 117, 101] := by decide +kernel
theorem lit_3 : (Str.ofString "not a text of the expected form") = SX.S [110, 111, 116, 32, 97, 32, 116, 101, 120, 116, 32, 111, 102, 32, 116, 104, 101, 32, 101, 120, 112, 101, 99, 116, 101, 100, 32, 102, 111, 114, 109] := by decide +kernel
theorem lit_4 : (Str.ofString "no part has this path") = SX.S [110, 111, 32, 112, 97, 114, 116, 32, 104, 97, 115, 32, 116, 104, 105, 115, 32, 112, 97, 116, 104] := by decide +kernel
theorem lit_5 : (Str.ofString "not a string of 1 to 200 characters") = SX.S [110, 111, 116, 32, 97, 32, 115, 116, 114, 105, 110, 103, 32, 111, 102, 32, 49, 32, 116, 111, 32, 50, 48, 48, 32, 99, 104, 97, 114, 97, 99, 116, 101, 114, 115] := by decide +kernel
theorem lit_6 : (Str.ofString "not one of the expected words") = SX.S [110, 111, 116, 32, 111, 110, 101, 32, 111, 102, 32, 116, 104, 101, 32, 101, 120, 112, 101, 99, 116, 101, 100, 32, 119, 111, 114, 100, 115] := by decide +kernel
theorem lit_7 : (Str.ofString "not a number of the expected size") = SX.S [110, 111, 116, 32, 97, 32, 110, 117, 109, 98, 101, 114, 32, 111, 102, 32, 116, 104, 101, 32, 101, 120, 112, 101, 99, 116, 101, 100, 32, 115, 105, 122, 101] := by decide +kernel
theorem lit_8 : (Str.ofString "not a mapping from keys to values") = SX.S [110, 111, 116, 32, 97, 32, 109, 97, 112, 112, 105, 110, 103, 32, 102, 114, 111, 109, 32, 107, 101, 121, 115, 32, 116, 111, 32, 118, 97, 108, 117, 101, 115] := by decide +kernel
theorem lit_9 : (Str.ofString "not a volume") = SX.S [110, 111, 116, 32, 97, 32, 118, 111, 108, 117, 109, 101] := by decide +kernel
theorem lit_10 : (Str.ofString "not a shelf") = SX.S [110, 111, 116, 32, 97, 32, 115, 104, 101, 108, 102] := by decide +kernel
theorem lit_11 : (Str.ofString "not a valid deed") = SX.S [110, 111, 116, 32, 97, 32, 118, 97, 108, 105, 100, 32, 100, 101, 101, 100] := by decide +kernel
theorem lit_12 : (Str.ofString "the page is not blank") = SX.S [116, 104, 101, 32, 112, 97, 103, 101, 32, 105, 115, 32, 110, 111, 116, 32, 98, 108, 97, 110, 107] := by decide +kernel
theorem lit_13 : (Str.ofString "the page is damaged") = SX.S [116, 104, 101, 32, 112, 97, 103, 101, 32, 105, 115, 32, 100, 97, 109, 97, 103, 101, 100] := by decide +kernel
theorem lit_14 : (Str.ofString "the key is not in the mapping") = SX.S [116, 104, 101, 32, 107, 101, 121, 32, 105, 115, 32, 110, 111, 116, 32, 105, 110, 32, 116, 104, 101, 32, 109, 97, 112, 112, 105, 110, 103] := by decide +kernel
theorem lit_15 : (Str.ofString "the object of a key is no value any more") = SX.S [116, 104, 101, 32, 111, 98, 106, 101, 99, 116, 32, 111, 102, 32, 97, 32, 107, 101, 121, 32, 105, 115, 32, 110, 111, 32, 118, 97, 108, 117, 101, 32, 97, 110, 121, 32, 109, 111, 114, 101] := by decide +kernel
theorem lit_16 : (Str.ofString "two changes do not agree") = SX.S [116, 119, 111, 32, 99, 104, 97, 110, 103, 101, 115, 32, 100, 111, 32, 110, 111, 116, 32, 97, 103, 114, 101, 101] := by decide +kernel
theorem lit_17 : (Str.ofString "the volume has crashed") = SX.S [116, 104, 101, 32, 118, 111, 108, 117, 109, 101, 32, 104, 97, 115, 32, 99, 114, 97, 115, 104, 101, 100] := by decide +kernel
theorem lit_18 : (Str.ofString "the object is closed") = SX.S [116, 104, 101, 32, 111, 98, 106, 101, 99, 116, 32, 105, 115, 32, 99, 108, 111, 115, 101, 100] := by decide +kernel
theorem lit_19 : (Str.ofString "another writer is open") = SX.S [97, 110, 111, 116, 104, 101, 114, 32, 119, 114, 105, 116, 101, 114, 32, 105, 115, 32, 111, 112, 101, 110] := by decide +kernel
theorem lit_20 : (Str.ofString "a compaction is under way") = SX.S [97, 32, 99, 111, 109, 112, 97, 99, 116, 105, 111, 110, 32, 105, 115, 32, 117, 110, 100, 101, 114, 32, 119, 97, 121] := by decide +kernel
theorem lit_21 : (Str.ofString "there is nothing to undo") = SX.S [116, 104, 101, 114, 101, 32, 105, 115, 32, 110, 111, 116, 104, 105, 110, 103, 32, 116, 111, 32, 117, 110, 100, 111] := by decide +kernel
theorem lit_22 : (Str.ofString "larger than the limit") = SX.S [108, 97, 114, 103, 101, 114, 32, 116, 104, 97, 110, 32, 116, 104, 101, 32, 108, 105, 109, 105, 116] := by decide +kernel
theorem lit_23 : (Str.ofString "") = SX.S [] := by decide +kernel
theorem lit_24 : (Str.ofString "a key") = SX.S [97, 32, 107, 101, 121] := by decide +kernel
theorem lit_a : (Str.ofString "a") = SX.S [97] := by decide +kernel
theorem lit_x : (Str.ofString "x") = SX.S [120] := by decide +kernel
local macro_rules | `(tactic| walk_at "lt") => `(tactic| simp only [lit_0, lit_1, lit_2, lit_3, lit_4, lit_5, lit_6, lit_7, lit_8, lit_9, lit_10, lit_11, lit_12, lit_13, lit_14, lit_15, lit_16, lit_17, lit_18, lit_19, lit_20, lit_21, lit_22, lit_23, lit_24, lit_a, lit_x])
def top (i : Nat) : Stmt := PySem.Challenge.pw_recordshelf_k01_error_classes.main.body.getD i (.Pass ⟨0, 0, 0, 0⟩)
abbrev s_InvalidValue__init : Stmt := inClass (top 4) 0
abbrev s_InvalidText__init : Stmt := inClass (top 5) 0
abbrev s_InvalidPath__init : Stmt := inClass (top 6) 0
abbrev s_InvalidKey__init : Stmt := inClass (top 7) 0
abbrev s_InvalidKind__init : Stmt := inClass (top 8) 0
abbrev s_InvalidNumber__init : Stmt := inClass (top 9) 0
abbrev s_InvalidMapping__init : Stmt := inClass (top 10) 0
abbrev s_InvalidVolume__init : Stmt := inClass (top 11) 0
abbrev s_InvalidShelf__init : Stmt := inClass (top 12) 0
abbrev s_InvalidDeed__init : Stmt := inClass (top 13) 0
abbrev s_NotBlank__init : Stmt := inClass (top 14) 0
abbrev s_Damaged__init : Stmt := inClass (top 15) 0
abbrev s_NoKey__init : Stmt := inClass (top 16) 0
abbrev s_NotWritable__init : Stmt := inClass (top 17) 0
abbrev s_Conflict__init : Stmt := inClass (top 18) 0
abbrev s_Dead__init : Stmt := inClass (top 19) 0
abbrev s_Closed__init : Stmt := inClass (top 20) 0
abbrev s_Locked__init : Stmt := inClass (top 21) 0
abbrev s_Busy__init : Stmt := inClass (top 22) 0
abbrev s_NothingToUndo__init : Stmt := inClass (top 23) 0
abbrev s_TooLarge__init : Stmt := inClass (top 24) 0
abbrev s_l_mixed : Stmt := top 26
abbrev s_l_stream : Stmt := top 27
abbrev s_l_draw : Stmt := top 28
abbrev s_l_pick : Stmt := top 29
abbrev s_l_made : Stmt := top 30
abbrev s_l_kinds : Stmt := top 31
abbrev s_l_bases : Stmt := top 32
abbrev s_l_fields : Stmt := top 33
abbrev s_l_right : Stmt := top 34
abbrev s_law : Stmt := top 35
structure Txt (g : Wd) : Prop where
  b_len : g.mg "len" = none
  b_isinstance : g.mg "isinstance" = none
  b_repr : g.mg "repr" = none
  b_enumerate : g.mg "enumerate" = none
  b_range : g.mg "range" = none
section
variable {g : Wd} {f : Addr} {fd : FuncData}
theorem sc_l_mixed : FnScope ["_law_number", "_law_k"] ["_law_number", "_law_k"] (defScope s_l_mixed) := ⟨rfl, rfl, rfl, by decide +kernel, rfl, by decide +kernel, by decide +kernel⟩
def mixed (n k : Int) : Int := (n % 2147483647 + 7919 * k * k + 31 * k) * 48271 % 2147483647 * (69621 + 2 * k) % 2147483629
def sp_mixed : Sp := S2 fun a b H Q _ => ∃ n k : Int, a = .int n ∧ b = .int k ∧ 0 ≤ k ∧ k < 1000000 ∧ Q (.int (mixed n k)) H
theorem ok_mixed (F : Df g.K "_law_mixed" "_law_mixed" s_l_mixed f fd .none) (T : Txt g) : FnG g 1 f fd ["_law_number", "_law_k"] sp_mixed := by
  refine F.ok sc_l_mixed (fun vs H Q E h => S2.len h) (fun cdv A outer s H vs Q E hr h => ?_)
  obtain ⟨_, _, rfl, n, k, rfl, rfl, k0, k1, q⟩ := h
  refine ⟨_, (pss_cons (ps_set (i := 0) sc_l_mixed.nd rfl (Or.inl rfl) (pe_op op_mod (pe_op o_mul (pe_op (o_add (K := g.K)) (pe_op (o_add (K := g.K)) (pe_op op_mod (pv 0) pe_int) (pe_op o_mul (pe_op o_mul pe_int (pv 1)) (pv 1))) (pe_op o_mul pe_int (pv 1))) pe_int) pe_int))
      (pss_one (ps_ret (pe_op op_mod (pe_op o_mul (pv 0) (pe_op (o_add (K := g.K)) pe_int (pe_op o_mul pe_int (pv 1)))) pe_int)))), ?_⟩
  walk_at "sx"
  refine ⟨by decide, .inl ⟨by decide, by decide⟩, .inr ⟨by omega, by omega⟩, .inl ⟨by decide, by decide⟩, .inr ⟨by decide, by decide⟩, by decide, .inl ⟨by decide, by decide⟩, .inr ⟨by omega, by omega⟩, by decide, q⟩
theorem mixed_lo (n k : Int) : 0 ≤ mixed n k := Int.emod_nonneg _ (by decide)
/-- a stream: three numbers in a list -/
def Str3 (H : Hp) (p : Addr) (N : Nat) : Prop := ∃ a b c : Int, H p = some (.lst [.int a, .int b, .int c]) ∧ 0 ≤ b ∧ b ≤ N
theorem sc_l_stream : FnScope ["_law_item", "_law_k"] ["_law_item", "_law_k"] (defScope s_l_stream) := ⟨rfl, rfl, rfl, by decide +kernel, rfl, by decide +kernel, by decide +kernel⟩
def sp_stream : Sp := S2 fun a b H Q _ => ∃ n k : Int, a = .int n ∧ b = .int k ∧ 0 ≤ k ∧ k < 1000000 ∧ ∀ p H', H p = none → Same H H' → Str3 H' p 0 → Q (.ref p) H'
theorem ok_stream (F : Df g.K "_law_stream" "_law_stream" s_l_stream f fd .none) (T : Txt g) (F_l_mixed : Kn g "_law_mixed" 1 ["_law_number", "_law_k"] [] sp_mixed) : FnG g 2 f fd ["_law_item", "_law_k"] sp_stream := by
  refine F.ok sc_l_stream (fun vs H Q E h => S2.len h) (fun cdv A outer s H vs Q E hr h => ?_)
  obtain ⟨_, _, rfl, n, k, rfl, rfl, k0, k1, q⟩ := h
  refine ⟨_, (pss_one (ps_ret (pe_lst (pa_cons (pe_ifExp (pt_cmpR op_ge (pv 0) (pe_op op_pow pe_int pe_int) (nomark _)) (pv 0) pe_int) (pa_cons pe_int (pa_cons (pe_callG F_l_mixed (hr.mono (by decide)) tkD (pa_cons (pv 0) (pa_cons (pv 1) pa_nil))) pa_nil)))))), ?_⟩
  walk_at "sx"
  refine ⟨⟨by decide, by decide, by decide⟩, ?_⟩
  split
  · exact ⟨_, _, rfl, n, k, rfl, rfl, k0, k1, fun p hp => q p _ hp (same_upd hp) ⟨_, _, _, upd_same, by decide, by decide⟩⟩
  · exact ⟨_, _, rfl, n, k, rfl, rfl, k0, k1, fun p hp => q p _ hp (same_upd hp) ⟨_, _, _, upd_same, by decide, by decide⟩⟩
theorem sc_l_draw : FnScope ["_law_stream_here", "_law_top", "_law_number"] ["_law_stream_here", "_law_top"] (defScope s_l_draw) := ⟨rfl, rfl, rfl, by decide +kernel, rfl, by decide +kernel, by decide +kernel⟩
def sp_draw : Sp := S2 fun a b H Q _ => ∃ (p : Addr) (N : Nat) (m : Int), a = .ref p ∧ b = .int m ∧ 0 < m ∧ m < 1000000 ∧ Str3 H p N ∧ N < 1000 ∧ ∀ (r : Int) H', 0 ≤ r → r < m → Str3 H' p (N + 1) → (∀ c o, c ≠ p → H c = some o → H' c = some o) → Q (.int r) H'
theorem ok_draw (F : Df g.K "_law_draw" "_law_draw" s_l_draw f fd .none) (T : Txt g) (F_l_mixed : Kn g "_law_mixed" 1 ["_law_number", "_law_k"] [] sp_mixed) : FnG g 2 f fd ["_law_stream_here", "_law_top"] sp_draw := by
  refine F.ok sc_l_draw (fun vs H Q E h => S2.len h) (fun cdv A outer s H vs Q E hr h => ?_)
  obtain ⟨_, _, rfl, p, N, m, rfl, rfl, m0, m1, ⟨a, b, c, hp, b0, b1⟩, hN, q⟩ := h
  refine ⟨_, (pss_cons (ps_asg (pe_op (o_add (K := g.K)) (pe_ix (o_ix (K := g.K)) (pv 0) pe_int (fun _ _ => rfl)) pe_int) (pg_sub (pv 0) pe_int set_list))
      (pss_cons (ps_if (pt_cmpR (o_eq (K := g.K) hr) (pe_ix (o_ix (K := g.K)) (pv 0) pe_int (fun _ _ => rfl)) pe_int (nomark _)) (pss_one (ps_ret (pe_op op_mod (pe_callG F_l_mixed (hr.mono (by decide)) tkD (pa_cons (pe_callG F_l_mixed (hr.mono (by decide)) tkD (pa_cons (pe_ix (o_ix (K := g.K)) (pv 0) pe_int (fun _ _ => rfl)) (pa_cons (pe_ix (o_ix (K := g.K)) (pv 0) pe_int (fun _ _ => rfl)) pa_nil))) (pa_cons pe_int pa_nil))) (pv 1)))) pss_nil)
      (pss_cons (ps_set (i := 2) sc_l_draw.nd rfl (Or.inl rfl) (pe_op op_mod (pe_ix (o_ix (K := g.K)) (pv 0) pe_int (fun _ _ => rfl)) (pv 1)))
      (pss_cons (ps_asg (pe_op op_fdiv (pe_ix (o_ix (K := g.K)) (pv 0) pe_int (fun _ _ => rfl)) (pv 1)) (pg_sub (pv 0) pe_int set_list))
      (pss_one (ps_ret (pv 2))))))), ?_⟩
  walk_at "sx"
  refine ⟨_, .inl (SqL.of hp), _, rfl, ?_⟩
  walk_at "sx"
  refine ⟨_, hp, 1, rfl, _, .inl (SqL.of upd_same), _, rfl, ?_⟩
  have e1 : upd H p (.lst ([V.int a, V.int b, V.int c].set 1 (.int (b + 1)))) p = some (.lst [.int a, .int (b + 1), .int c]) := upd_same
  have k1 : ∀ z o, z ≠ p → H z = some o → upd H p (.lst ([V.int a, V.int b, V.int c].set 1 (.int (b + 1)))) z = some o := fun z o hz ho => by rw [upd_ne hz]; exact ho
  generalize upd H p (.lst ([V.int a, V.int b, V.int c].set 1 (.int (b + 1)))) = G at e1 k1 ⊢
  show rEqU g.K (.int a) (.int 0) G _
  walk_at "sx"
  by_cases h0 : a = 0
  · rw [if_pos (by simpa using h0)]
    refine ⟨_, .inl (SqL.of e1), _, rfl, _, .inl (SqL.of e1), _, rfl, ?_⟩
    refine ⟨_, _, rfl, c, b + 1, rfl, rfl, by omega, by omega, _, _, rfl, _, 7, rfl, rfl, by decide, by decide, _, rfl, m0, ?_⟩
    exact q _ _ (Int.emod_nonneg _ (by omega)) (Int.emod_lt_of_pos _ m0) ⟨_, _, _, e1, by omega, by omega⟩ k1
  · rw [if_neg (by simpa using h0)]
    refine ⟨_, .inl (SqL.of e1), _, rfl, _, rfl, m0, _, .inl (SqL.of e1), _, rfl, _, rfl, ⟨m0, by omega⟩, _, e1, 0, rfl, ?_⟩
    exact q _ _ (Int.emod_nonneg _ (by omega)) (Int.emod_lt_of_pos _ m0) ⟨_, _, _, upd_same, by omega, by omega⟩ fun z o hz ho => by rw [upd_ne hz]; exact k1 z o hz ho
end


/-- the classes, each with its field -/
def names21 : List (Str × Option Str) := [("InvalidValue", some "path"), ("InvalidText", some "position"), ("InvalidPath", some "given"), ("InvalidKey", some "given"), ("InvalidKind", some "given"), ("InvalidNumber", some "given"), ("InvalidMapping", some "given"), ("InvalidVolume", some "part"), ("InvalidShelf", some "part"), ("InvalidDeed", some "index"),
  ("NotBlank", some "page"), ("Damaged", some "page"), ("NoKey", some "given"), ("NotWritable", some "given"), ("Conflict", some "given"), ("Dead", none), ("Closed", none), ("Locked", none), ("Busy", none), ("NothingToUndo", none), ("TooLarge", some "limit")]
/-- at e: an exception of the class at C, its field (if it has one) is v -/
def ExcAt (H : Hp) (v : V) (e C : Addr) : Option Str → Prop
  | some f => ∃ d, H e = some (exv e C (some d)) ∧ H d = some (exd d [(f, v)])
  | none => H e = some (exv e C none)
theorem ExcAt.same {H H' : Hp} {v : V} {e C : Addr} {f : Option Str} (h : ExcAt H v e C f) (s : Same H H') : ExcAt H' v e C f := by
  cases f with
  | none => exact s _ _ h
  | some f => obtain ⟨d, h1, h2⟩ := h; exact ⟨d, s _ _ h1, s _ _ h2⟩
/-- a row of exceptions -/
inductive Excs (H : Hp) (v : V) : List V → List (Addr × Option Str) → Prop
  | nil : Excs H v [] []
  | cons {e C : Addr} {f : Option Str} {es : List V} {cs : List (Addr × Option Str)} (h : ExcAt H v e C f) (hs : Excs H v es cs) : Excs H v (.ref e :: es) ((C, f) :: cs)
theorem Excs.same {H H' : Hp} {v : V} (s : Same H H') : ∀ {es : List V} {cs : List (Addr × Option Str)}, Excs H v es cs → Excs H' v es cs
  | _, _, .nil => .nil
  | _, _, .cons h hs => .cons (h.same s) (hs.same s)
theorem Excs.app {H : Hp} {v : V} : ∀ {es fs : List V} {cs ds : List (Addr × Option Str)}, Excs H v es cs → Excs H v fs ds → Excs H v (es ++ fs) (cs ++ ds)
  | _, _, _, _, .nil, h => h
  | _, _, _, _, .cons h hs, k => .cons h (hs.app k)
/-- one more exception made -/
theorem made1 {H : Hp} {v : V} {y dy C : Addr} {f : Str} (hy : H y = none) (hd : H dy = none) (ne : y ≠ dy) : Same H (upd (upd H dy (exd dy [(f, v)])) y (exv y C (some dy))) ∧ ExcAt (upd (upd H dy (exd dy [(f, v)])) y (exv y C (some dy))) v y C (some f) := by
  refine ⟨fun b u hu => ?_, dy, upd_same, ?_⟩
  · rw [upd_ne (ne_of_none hu hy), upd_ne (ne_of_none hu hd)]; exact hu
  · rw [upd_ne (Ne.symm ne), upd_same]
theorem made0 {H : Hp} {v : V} {y C : Addr} (hy : H y = none) : Same H (upd H y (exv y C none)) ∧ ExcAt (upd H y (exv y C none)) v y C none := ⟨same_upd hy, upd_same⟩
structure Xs (g : Wd) (C0 C1 C2 C3 C4 C5 C6 C7 C8 C9 C10 C11 C12 C13 C14 C15 C16 C17 C18 C19 C20 : Addr) : Prop where
  x0 : XK1 g "InvalidValue" C0 "path"
  x1 : XK1 g "InvalidText" C1 "position"
  x2 : XK1 g "InvalidPath" C2 "given"
  x3 : XK1 g "InvalidKey" C3 "given"
  x4 : XK1 g "InvalidKind" C4 "given"
  x5 : XK1 g "InvalidNumber" C5 "given"
  x6 : XK1 g "InvalidMapping" C6 "given"
  x7 : XK1 g "InvalidVolume" C7 "part"
  x8 : XK1 g "InvalidShelf" C8 "part"
  x9 : XK1 g "InvalidDeed" C9 "index"
  x10 : XK1 g "NotBlank" C10 "page"
  x11 : XK1 g "Damaged" C11 "page"
  x12 : XK1 g "NoKey" C12 "given"
  x13 : XK1 g "NotWritable" C13 "given"
  x14 : XK1 g "Conflict" C14 "given"
  x15 : XK0 g "Dead" C15
  x16 : XK0 g "Closed" C16
  x17 : XK0 g "Locked" C17
  x18 : XK0 g "Busy" C18
  x19 : XK0 g "NothingToUndo" C19
  x20 : XK1 g "TooLarge" C20 "limit"
section
variable {g : Wd} {f C0 C1 C2 C3 C4 C5 C6 C7 C8 C9 C10 C11 C12 C13 C14 C15 C16 C17 C18 C19 C20 : Addr} {fd : FuncData}
theorem sc_l_made : FnScope ["_law_one", "_law_found"] ["_law_one"] (defScope s_l_made) := ⟨rfl, rfl, rfl, by decide +kernel, rfl, by decide +kernel, by decide +kernel⟩
def sp_made (C0 C1 C2 C3 C4 C5 C6 C7 C8 C9 C10 C11 C12 C13 C14 C15 C16 C17 C18 C19 C20 : Addr) : Sp := S1 fun v H Q _ => ∀ p es H', Same H H' → H' p = some (.lst es) → Excs H' v es [(C0, some "path"), (C1, some "position"), (C2, some "given"), (C3, some "given"), (C4, some "given"), (C5, some "given"), (C6, some "given"), (C7, some "part"), (C8, some "part"), (C9, some "index"), (C10, some "page"), (C11, some "page"), (C12, some "given"), (C13, some "given"), (C14, some "given"), (C15, none), (C16, none), (C17, none), (C18, none), (C19, none), (C20, some "limit")] → Q (.ref p) H'
theorem ok_made (F : Df g.K "_law_made" "_law_made" s_l_made f fd .none) (T : Txt g) (XX : Xs g C0 C1 C2 C3 C4 C5 C6 C7 C8 C9 C10 C11 C12 C13 C14 C15 C16 C17 C18 C19 C20) : FnG g 3 f fd ["_law_one"] (sp_made C0 C1 C2 C3 C4 C5 C6 C7 C8 C9 C10 C11 C12 C13 C14 C15 C16 C17 C18 C19 C20) := by
  obtain ⟨X_InvalidValue, X_InvalidText, X_InvalidPath, X_InvalidKey, X_InvalidKind, X_InvalidNumber, X_InvalidMapping, X_InvalidVolume, X_InvalidShelf, X_InvalidDeed, X_NotBlank, X_Damaged, X_NoKey, X_NotWritable, X_Conflict, X_Dead, X_Closed, X_Locked, X_Busy, X_NothingToUndo, X_TooLarge⟩ := XX
  refine F.ok sc_l_made (fun vs H Q E h => S1.len h) (fun cdv A outer s H vs Q E hr h => ?_)
  obtain ⟨v, rfl, q⟩ := h
  refine ⟨_, (pss_mid (ps_set (i := 1) sc_l_made.nd rfl (Or.inl rfl) (pe_lst (pa_cons (pe_mkX1 X_InvalidValue (hr.mono (by decide)) (pa_cons (pv 0) pa_nil)) (pa_cons (pe_mkX1 X_InvalidText (hr.mono (by decide)) (pa_cons (pv 0) pa_nil)) (pa_cons (pe_mkX1 X_InvalidPath (hr.mono (by decide)) (pa_cons (pv 0) pa_nil)) (pa_cons (pe_mkX1 X_InvalidKey (hr.mono (by decide)) (pa_cons (pv 0) pa_nil)) (pa_cons (pe_mkX1 X_InvalidKind (hr.mono (by decide)) (pa_cons (pv 0) pa_nil)) pa_nil)))))))
      (pss_mid (ps_set (i := 1) sc_l_made.nd rfl (Or.inl rfl) (pe_op (o_add (K := g.K)) (pv 1) (pe_lst (pa_cons (pe_mkX1 X_InvalidNumber (hr.mono (by decide)) (pa_cons (pv 0) pa_nil)) (pa_cons (pe_mkX1 X_InvalidMapping (hr.mono (by decide)) (pa_cons (pv 0) pa_nil)) (pa_cons (pe_mkX1 X_InvalidVolume (hr.mono (by decide)) (pa_cons (pv 0) pa_nil)) (pa_cons (pe_mkX1 X_InvalidShelf (hr.mono (by decide)) (pa_cons (pv 0) pa_nil)) (pa_cons (pe_mkX1 X_InvalidDeed (hr.mono (by decide)) (pa_cons (pv 0) pa_nil)) pa_nil))))))))
      (pss_mid (ps_set (i := 1) sc_l_made.nd rfl (Or.inl rfl) (pe_op (o_add (K := g.K)) (pv 1) (pe_lst (pa_cons (pe_mkX1 X_NotBlank (hr.mono (by decide)) (pa_cons (pv 0) pa_nil)) (pa_cons (pe_mkX1 X_Damaged (hr.mono (by decide)) (pa_cons (pv 0) pa_nil)) (pa_cons (pe_mkX1 X_NoKey (hr.mono (by decide)) (pa_cons (pv 0) pa_nil)) (pa_cons (pe_mkX1 X_NotWritable (hr.mono (by decide)) (pa_cons (pv 0) pa_nil)) (pa_cons (pe_mkX1 X_Conflict (hr.mono (by decide)) (pa_cons (pv 0) pa_nil)) pa_nil))))))))
      (pss_one (ps_ret (pe_op (o_add (K := g.K)) (pv 1) (pe_lst (pa_cons (pe_mkX0 X_Dead (hr.mono (by decide))) (pa_cons (pe_mkX0 X_Closed (hr.mono (by decide))) (pa_cons (pe_mkX0 X_Locked (hr.mono (by decide))) (pa_cons (pe_mkX0 X_Busy (hr.mono (by decide))) (pa_cons (pe_mkX0 X_NothingToUndo (hr.mono (by decide))) (pa_cons (pe_mkX1 X_TooLarge (hr.mono (by decide)) (pa_cons (pv 0) pa_nil)) pa_nil))))))))))))), ?_⟩
  refine mid_at (fun σ H1 => ∃ p es, σ = [some v, some (.ref p)] ∧ Same H H1 ∧ H1 p = some (.lst es) ∧ Excs H1 v es [(C0, some "path"), (C1, some "position"), (C2, some "given"), (C3, some "given"), (C4, some "given")] ∧ es.length = 5) ?_ ?_
  · walk_at "sx"
    intro y0 d0 hy0 hd0 ne0
    obtain ⟨s0, E0⟩ := made1 (v := v) (C := C0) (f := "path") hy0 hd0 ne0
    generalize upd (upd _ d0 (exd d0 [("path", v)])) y0 (exv y0 C0 (some d0)) = G0 at s0 E0 ⊢
    intro y1 d1 hy1 hd1 ne1
    obtain ⟨s1, E1⟩ := made1 (v := v) (C := C1) (f := "position") hy1 hd1 ne1
    generalize upd (upd _ d1 (exd d1 [("position", v)])) y1 (exv y1 C1 (some d1)) = G1 at s1 E1 ⊢
    intro y2 d2 hy2 hd2 ne2
    obtain ⟨s2, E2⟩ := made1 (v := v) (C := C2) (f := "given") hy2 hd2 ne2
    generalize upd (upd _ d2 (exd d2 [("given", v)])) y2 (exv y2 C2 (some d2)) = G2 at s2 E2 ⊢
    intro y3 d3 hy3 hd3 ne3
    obtain ⟨s3, E3⟩ := made1 (v := v) (C := C3) (f := "given") hy3 hd3 ne3
    generalize upd (upd _ d3 (exd d3 [("given", v)])) y3 (exv y3 C3 (some d3)) = G3 at s3 E3 ⊢
    intro y4 d4 hy4 hd4 ne4
    obtain ⟨s4, E4⟩ := made1 (v := v) (C := C4) (f := "given") hy4 hd4 ne4
    generalize upd (upd _ d4 (exd d4 [("given", v)])) y4 (exv y4 C4 (some d4)) = G4 at s4 E4 ⊢
    intro p hp
    have sp := same_upd (o := HO.lst [V.ref y0, V.ref y1, V.ref y2, V.ref y3, V.ref y4]) hp
    exact ⟨(((((s0.trans s1).trans s2).trans s3).trans s4).trans sp), (.cons (E0.same ((((s1.trans s2).trans s3).trans s4).trans sp)) (.cons (E1.same (((s2.trans s3).trans s4).trans sp)) (.cons (E2.same ((s3.trans s4).trans sp)) (.cons (E3.same (s4.trans sp)) (.cons (E4.same sp) .nil)))))⟩
  rintro _ H1 ⟨p0, es, rfl, sH, e0, Ex, l0⟩
  refine mid_at (fun σ H1 => ∃ p es, σ = [some v, some (.ref p)] ∧ Same H H1 ∧ H1 p = some (.lst es) ∧ Excs H1 v es [(C0, some "path"), (C1, some "position"), (C2, some "given"), (C3, some "given"), (C4, some "given"), (C5, some "given"), (C6, some "given"), (C7, some "part"), (C8, some "part"), (C9, some "index")] ∧ es.length = 10) ?_ ?_
  · have sH0 := sH
    walk_at "sx"
    intro y5 d5 hy5 hd5 ne5
    obtain ⟨s5, E5⟩ := made1 (v := v) (C := C5) (f := "given") hy5 hd5 ne5
    generalize upd (upd _ d5 (exd d5 [("given", v)])) y5 (exv y5 C5 (some d5)) = G5 at s5 E5 ⊢
    intro y6 d6 hy6 hd6 ne6
    obtain ⟨s6, E6⟩ := made1 (v := v) (C := C6) (f := "given") hy6 hd6 ne6
    generalize upd (upd _ d6 (exd d6 [("given", v)])) y6 (exv y6 C6 (some d6)) = G6 at s6 E6 ⊢
    intro y7 d7 hy7 hd7 ne7
    obtain ⟨s7, E7⟩ := made1 (v := v) (C := C7) (f := "part") hy7 hd7 ne7
    generalize upd (upd _ d7 (exd d7 [("part", v)])) y7 (exv y7 C7 (some d7)) = G7 at s7 E7 ⊢
    intro y8 d8 hy8 hd8 ne8
    obtain ⟨s8, E8⟩ := made1 (v := v) (C := C8) (f := "part") hy8 hd8 ne8
    generalize upd (upd _ d8 (exd d8 [("part", v)])) y8 (exv y8 C8 (some d8)) = G8 at s8 E8 ⊢
    intro y9 d9 hy9 hd9 ne9
    obtain ⟨s9, E9⟩ := made1 (v := v) (C := C9) (f := "index") hy9 hd9 ne9
    generalize upd (upd _ d9 (exd d9 [("index", v)])) y9 (exv y9 C9 (some d9)) = G9 at s9 E9 ⊢
    intro p hp
    have sp := same_upd (o := HO.lst [V.ref y5, V.ref y6, V.ref y7, V.ref y8, V.ref y9]) hp
    have sq : Same H1 _ := (((((s5.trans s6).trans s7).trans s8).trans s9).trans sp)
    have en : Excs _ v _ [(C5, some "given"), (C6, some "given"), (C7, some "part"), (C8, some "part"), (C9, some "index")] := (.cons (E5.same ((((s6.trans s7).trans s8).trans s9).trans sp)) (.cons (E6.same (((s7.trans s8).trans s9).trans sp)) (.cons (E7.same ((s8.trans s9).trans sp)) (.cons (E8.same (s9.trans sp)) (.cons (E9.same sp) .nil)))))
    have ep := upd_same (H := G9) (a := p) (o := HO.lst [V.ref y5, V.ref y6, V.ref y7, V.ref y8, V.ref y9])
    generalize upd G9 p (HO.lst [V.ref y5, V.ref y6, V.ref y7, V.ref y8, V.ref y9]) = G at sp sq en ep ⊢
    refine .inl ⟨p0, p, _, _, rfl, rfl, sq _ _ e0, ep, by rw [sizeLine_eq]; simp; omega, fun p2 hp2 => ?_⟩
    have s2 := same_upd (o := HO.lst (es ++ [V.ref y5, V.ref y6, V.ref y7, V.ref y8, V.ref y9])) hp2
    have both := ((Ex.same sq).app en).same s2
    exact ⟨p2, rfl, (sH.trans sq).trans s2, _, upd_same, both, by simp [l0]⟩
  rintro _ H1 ⟨p0, es, rfl, sH, e0, Ex, l0⟩
  refine mid_at (fun σ H1 => ∃ p es, σ = [some v, some (.ref p)] ∧ Same H H1 ∧ H1 p = some (.lst es) ∧ Excs H1 v es [(C0, some "path"), (C1, some "position"), (C2, some "given"), (C3, some "given"), (C4, some "given"), (C5, some "given"), (C6, some "given"), (C7, some "part"), (C8, some "part"), (C9, some "index"), (C10, some "page"), (C11, some "page"), (C12, some "given"), (C13, some "given"), (C14, some "given")] ∧ es.length = 15) ?_ ?_
  · have sH0 := sH
    walk_at "sx"
    intro y10 d10 hy10 hd10 ne10
    obtain ⟨s10, E10⟩ := made1 (v := v) (C := C10) (f := "page") hy10 hd10 ne10
    generalize upd (upd _ d10 (exd d10 [("page", v)])) y10 (exv y10 C10 (some d10)) = G10 at s10 E10 ⊢
    intro y11 d11 hy11 hd11 ne11
    obtain ⟨s11, E11⟩ := made1 (v := v) (C := C11) (f := "page") hy11 hd11 ne11
    generalize upd (upd _ d11 (exd d11 [("page", v)])) y11 (exv y11 C11 (some d11)) = G11 at s11 E11 ⊢
    intro y12 d12 hy12 hd12 ne12
    obtain ⟨s12, E12⟩ := made1 (v := v) (C := C12) (f := "given") hy12 hd12 ne12
    generalize upd (upd _ d12 (exd d12 [("given", v)])) y12 (exv y12 C12 (some d12)) = G12 at s12 E12 ⊢
    intro y13 d13 hy13 hd13 ne13
    obtain ⟨s13, E13⟩ := made1 (v := v) (C := C13) (f := "given") hy13 hd13 ne13
    generalize upd (upd _ d13 (exd d13 [("given", v)])) y13 (exv y13 C13 (some d13)) = G13 at s13 E13 ⊢
    intro y14 d14 hy14 hd14 ne14
    obtain ⟨s14, E14⟩ := made1 (v := v) (C := C14) (f := "given") hy14 hd14 ne14
    generalize upd (upd _ d14 (exd d14 [("given", v)])) y14 (exv y14 C14 (some d14)) = G14 at s14 E14 ⊢
    intro p hp
    have sp := same_upd (o := HO.lst [V.ref y10, V.ref y11, V.ref y12, V.ref y13, V.ref y14]) hp
    have sq : Same H1 _ := (((((s10.trans s11).trans s12).trans s13).trans s14).trans sp)
    have en : Excs _ v _ [(C10, some "page"), (C11, some "page"), (C12, some "given"), (C13, some "given"), (C14, some "given")] := (.cons (E10.same ((((s11.trans s12).trans s13).trans s14).trans sp)) (.cons (E11.same (((s12.trans s13).trans s14).trans sp)) (.cons (E12.same ((s13.trans s14).trans sp)) (.cons (E13.same (s14.trans sp)) (.cons (E14.same sp) .nil)))))
    have ep := upd_same (H := G14) (a := p) (o := HO.lst [V.ref y10, V.ref y11, V.ref y12, V.ref y13, V.ref y14])
    generalize upd G14 p (HO.lst [V.ref y10, V.ref y11, V.ref y12, V.ref y13, V.ref y14]) = G at sp sq en ep ⊢
    refine .inl ⟨p0, p, _, _, rfl, rfl, sq _ _ e0, ep, by rw [sizeLine_eq]; simp; omega, fun p2 hp2 => ?_⟩
    have s2 := same_upd (o := HO.lst (es ++ [V.ref y10, V.ref y11, V.ref y12, V.ref y13, V.ref y14])) hp2
    have both := ((Ex.same sq).app en).same s2
    exact ⟨p2, rfl, (sH.trans sq).trans s2, _, upd_same, both, by simp [l0]⟩
  rintro _ H1 ⟨p0, es, rfl, sH, e0, Ex, l0⟩
  have sH0 := sH
  walk_at "sx"
  intro y15 hy15
  obtain ⟨s15, E15⟩ := made0 (v := v) (C := C15) hy15
  generalize upd _ y15 (exv y15 C15 none) = G15 at s15 E15 ⊢
  intro y16 hy16
  obtain ⟨s16, E16⟩ := made0 (v := v) (C := C16) hy16
  generalize upd _ y16 (exv y16 C16 none) = G16 at s16 E16 ⊢
  intro y17 hy17
  obtain ⟨s17, E17⟩ := made0 (v := v) (C := C17) hy17
  generalize upd _ y17 (exv y17 C17 none) = G17 at s17 E17 ⊢
  intro y18 hy18
  obtain ⟨s18, E18⟩ := made0 (v := v) (C := C18) hy18
  generalize upd _ y18 (exv y18 C18 none) = G18 at s18 E18 ⊢
  intro y19 hy19
  obtain ⟨s19, E19⟩ := made0 (v := v) (C := C19) hy19
  generalize upd _ y19 (exv y19 C19 none) = G19 at s19 E19 ⊢
  intro y20 d20 hy20 hd20 ne20
  obtain ⟨s20, E20⟩ := made1 (v := v) (C := C20) (f := "limit") hy20 hd20 ne20
  generalize upd (upd _ d20 (exd d20 [("limit", v)])) y20 (exv y20 C20 (some d20)) = G20 at s20 E20 ⊢
  intro p hp
  have sp := same_upd (o := HO.lst [V.ref y15, V.ref y16, V.ref y17, V.ref y18, V.ref y19, V.ref y20]) hp
  have sq : Same H1 _ := ((((((s15.trans s16).trans s17).trans s18).trans s19).trans s20).trans sp)
  have en : Excs _ v _ [(C15, none), (C16, none), (C17, none), (C18, none), (C19, none), (C20, some "limit")] := (.cons (E15.same (((((s16.trans s17).trans s18).trans s19).trans s20).trans sp)) (.cons (E16.same ((((s17.trans s18).trans s19).trans s20).trans sp)) (.cons (E17.same (((s18.trans s19).trans s20).trans sp)) (.cons (E18.same ((s19.trans s20).trans sp)) (.cons (E19.same (s20.trans sp)) (.cons (E20.same sp) .nil))))))
  have ep := upd_same (H := G20) (a := p) (o := HO.lst [V.ref y15, V.ref y16, V.ref y17, V.ref y18, V.ref y19, V.ref y20])
  generalize upd G20 p (HO.lst [V.ref y15, V.ref y16, V.ref y17, V.ref y18, V.ref y19, V.ref y20]) = G at sp sq en ep ⊢
  refine .inl ⟨p0, p, _, _, rfl, rfl, sq _ _ e0, ep, by rw [sizeLine_eq]; simp; omega, fun p2 hp2 => ?_⟩
  have s2 := same_upd (o := HO.lst (es ++ [V.ref y15, V.ref y16, V.ref y17, V.ref y18, V.ref y19, V.ref y20])) hp2
  have both := ((Ex.same sq).app en).same s2
  exact q p2 _ _ ((sH.trans sq).trans s2) upd_same both
end


/-- isinstance of a held exception, its answer told -/
theorem isX {K : PySem.W.Frag} {H : Hp} {Q : VK} {v : V} {e C D : Addr} {f : Option Str} {b : Bool} (T : ExcC K C) (h : ExcAt H v e C f) (k : PySem.W.kitOne K (.ref C) (.ref D) = some b) (q : Q (.bl b) H) : rIsX K [.ref e, .ref D] H Q := by
  cases f with
  | none => exact ⟨e, C, none, _, _, b, rfl, T, .own D, h, nofun, k, q⟩
  | some f => obtain ⟨d, h1, h2⟩ := h; exact ⟨e, C, some d, _, _, b, rfl, T, .own D, h1, fun dd z => ⟨_, by cases z; exact h2⟩, k, q⟩
theorem isXt {K : PySem.W.Frag} {H : Hp} {Q : VK} {v : V} {e C : Addr} {D : String} {f : Option Str} {b : Bool} (T : ExcC K C) (h : ExcAt H v e C f) (k : PySem.W.kitOne K (.ref C) (.type D) = some b) (q : Q (.bl b) H) : rIsX K [.ref e, .ty D] H Q := by
  cases f with
  | none => exact ⟨e, C, none, _, _, b, rfl, T, .ty D, h, nofun, k, q⟩
  | some f => obtain ⟨d, h1, h2⟩ := h; exact ⟨e, C, some d, _, _, b, rfl, T, .ty D, h1, fun dd z => ⟨_, by cases z; exact h2⟩, k, q⟩
structure Vs (g : Wd) (C0 C1 C2 C3 C4 C5 C6 C7 C8 C9 C10 C11 C12 C13 C14 C15 C16 C17 C18 C19 C20 : Addr) : Prop where
  v0 : Gv g "InvalidValue" (.ref C0)
  v1 : Gv g "InvalidText" (.ref C1)
  v2 : Gv g "InvalidPath" (.ref C2)
  v3 : Gv g "InvalidKey" (.ref C3)
  v4 : Gv g "InvalidKind" (.ref C4)
  v5 : Gv g "InvalidNumber" (.ref C5)
  v6 : Gv g "InvalidMapping" (.ref C6)
  v7 : Gv g "InvalidVolume" (.ref C7)
  v8 : Gv g "InvalidShelf" (.ref C8)
  v9 : Gv g "InvalidDeed" (.ref C9)
  v10 : Gv g "NotBlank" (.ref C10)
  v11 : Gv g "Damaged" (.ref C11)
  v12 : Gv g "NoKey" (.ref C12)
  v13 : Gv g "NotWritable" (.ref C13)
  v14 : Gv g "Conflict" (.ref C14)
  v15 : Gv g "Dead" (.ref C15)
  v16 : Gv g "Closed" (.ref C16)
  v17 : Gv g "Locked" (.ref C17)
  v18 : Gv g "Busy" (.ref C18)
  v19 : Gv g "NothingToUndo" (.ref C19)
  v20 : Gv g "TooLarge" (.ref C20)
section
variable {g : Wd} {f C0 C1 C2 C3 C4 C5 C6 C7 C8 C9 C10 C11 C12 C13 C14 C15 C16 C17 C18 C19 C20 : Addr} {fd : FuncData}
theorem sc_l_kinds : FnScope ["_law_error", "_law_found"] ["_law_error"] (defScope s_l_kinds) := ⟨rfl, rfl, rfl, by decide +kernel, rfl, by decide +kernel, by decide +kernel⟩
def Knds (K : PySem.W.Frag) (C : Addr) (i : Nat) (C0 C1 C2 C3 C4 C5 C6 C7 C8 C9 C10 C11 C12 C13 C14 C15 C16 C17 C18 C19 C20 : Addr) : Prop := PySem.W.kitOne K (.ref C) (.ref C0) = some (decide (0 = i)) ∧ PySem.W.kitOne K (.ref C) (.ref C1) = some (decide (1 = i)) ∧ PySem.W.kitOne K (.ref C) (.ref C2) = some (decide (2 = i)) ∧ PySem.W.kitOne K (.ref C) (.ref C3) = some (decide (3 = i)) ∧ PySem.W.kitOne K (.ref C) (.ref C4) = some (decide (4 = i)) ∧ PySem.W.kitOne K (.ref C) (.ref C5) = some (decide (5 = i)) ∧ PySem.W.kitOne K (.ref C) (.ref C6) = some (decide (6 = i)) ∧ PySem.W.kitOne K (.ref C) (.ref C7) = some (decide (7 = i)) ∧ PySem.W.kitOne K (.ref C) (.ref C8) = some (decide (8 = i)) ∧ PySem.W.kitOne K (.ref C) (.ref C9) = some (decide (9 = i)) ∧ PySem.W.kitOne K (.ref C) (.ref C10) = some (decide (10 = i)) ∧ PySem.W.kitOne K (.ref C) (.ref C11) = some (decide (11 = i)) ∧ PySem.W.kitOne K (.ref C) (.ref C12) = some (decide (12 = i)) ∧ PySem.W.kitOne K (.ref C) (.ref C13) = some (decide (13 = i)) ∧ PySem.W.kitOne K (.ref C) (.ref C14) = some (decide (14 = i)) ∧ PySem.W.kitOne K (.ref C) (.ref C15) = some (decide (15 = i)) ∧ PySem.W.kitOne K (.ref C) (.ref C16) = some (decide (16 = i)) ∧ PySem.W.kitOne K (.ref C) (.ref C17) = some (decide (17 = i)) ∧ PySem.W.kitOne K (.ref C) (.ref C18) = some (decide (18 = i)) ∧ PySem.W.kitOne K (.ref C) (.ref C19) = some (decide (19 = i)) ∧ PySem.W.kitOne K (.ref C) (.ref C20) = some (decide (20 = i))
def sp_kinds (K : PySem.W.Frag) (C0 C1 C2 C3 C4 C5 C6 C7 C8 C9 C10 C11 C12 C13 C14 C15 C16 C17 C18 C19 C20 : Addr) : Sp := S1 fun a H Q _ => ∃ (v : V) (e C : Addr) (fo : Option Str) (i : Nat), a = .ref e ∧ ExcAt H v e C fo ∧ ExcC K C ∧ Knds K C i C0 C1 C2 C3 C4 C5 C6 C7 C8 C9 C10 C11 C12 C13 C14 C15 C16 C17 C18 C19 C20 ∧ ∀ p H', Same H H' → H' p = some (.lst [V.bl (decide (0 = i)), V.bl (decide (1 = i)), V.bl (decide (2 = i)), V.bl (decide (3 = i)), V.bl (decide (4 = i)), V.bl (decide (5 = i)), V.bl (decide (6 = i)), V.bl (decide (7 = i)), V.bl (decide (8 = i)), V.bl (decide (9 = i)), V.bl (decide (10 = i)), V.bl (decide (11 = i)), V.bl (decide (12 = i)), V.bl (decide (13 = i)), V.bl (decide (14 = i)), V.bl (decide (15 = i)), V.bl (decide (16 = i)), V.bl (decide (17 = i)), V.bl (decide (18 = i)), V.bl (decide (19 = i)), V.bl (decide (20 = i))]) → Q (.ref p) H'
theorem ok_kinds (F : Df g.K "_law_kinds" "_law_kinds" s_l_kinds f fd .none) (T : Txt g) (VV : Vs g C0 C1 C2 C3 C4 C5 C6 C7 C8 C9 C10 C11 C12 C13 C14 C15 C16 C17 C18 C19 C20) : FnG g 1 f fd ["_law_error"] (sp_kinds g.K C0 C1 C2 C3 C4 C5 C6 C7 C8 C9 C10 C11 C12 C13 C14 C15 C16 C17 C18 C19 C20) := by
  obtain ⟨V_InvalidValue, V_InvalidText, V_InvalidPath, V_InvalidKey, V_InvalidKind, V_InvalidNumber, V_InvalidMapping, V_InvalidVolume, V_InvalidShelf, V_InvalidDeed, V_NotBlank, V_Damaged, V_NoKey, V_NotWritable, V_Conflict, V_Dead, V_Closed, V_Locked, V_Busy, V_NothingToUndo, V_TooLarge⟩ := VV
  refine F.ok sc_l_kinds (fun vs H Q E h => S1.len h) (fun cdv A outer s H vs Q E hr h => ?_)
  obtain ⟨_, rfl, v, e, C, fo, i, rfl, hE, TC, ⟨k0, k1, k2, k3, k4, k5, k6, k7, k8, k9, k10, k11, k12, k13, k14, k15, k16, k17, k18, k19, k20⟩, q⟩ := h
  refine ⟨_, (pss_mid (ps_set (i := 1) sc_l_kinds.nd rfl (Or.inl rfl) (pe_lst (pa_cons (pe_callB (c_isX (K := g.K)) (by rfl) T.b_isinstance bb_isinstance (pa_cons (pv 0) (pa_cons (e_g V_InvalidValue) pa_nil))) (pa_cons (pe_callB (c_isX (K := g.K)) (by rfl) T.b_isinstance bb_isinstance (pa_cons (pv 0) (pa_cons (e_g V_InvalidText) pa_nil))) (pa_cons (pe_callB (c_isX (K := g.K)) (by rfl) T.b_isinstance bb_isinstance (pa_cons (pv 0) (pa_cons (e_g V_InvalidPath) pa_nil))) pa_nil)))))
      (pss_mid (ps_set (i := 1) sc_l_kinds.nd rfl (Or.inl rfl) (pe_op (o_add (K := g.K)) (pv 1) (pe_lst (pa_cons (pe_callB (c_isX (K := g.K)) (by rfl) T.b_isinstance bb_isinstance (pa_cons (pv 0) (pa_cons (e_g V_InvalidKey) pa_nil))) (pa_cons (pe_callB (c_isX (K := g.K)) (by rfl) T.b_isinstance bb_isinstance (pa_cons (pv 0) (pa_cons (e_g V_InvalidKind) pa_nil))) (pa_cons (pe_callB (c_isX (K := g.K)) (by rfl) T.b_isinstance bb_isinstance (pa_cons (pv 0) (pa_cons (e_g V_InvalidNumber) pa_nil))) pa_nil))))))
      (pss_mid (ps_set (i := 1) sc_l_kinds.nd rfl (Or.inl rfl) (pe_op (o_add (K := g.K)) (pv 1) (pe_lst (pa_cons (pe_callB (c_isX (K := g.K)) (by rfl) T.b_isinstance bb_isinstance (pa_cons (pv 0) (pa_cons (e_g V_InvalidMapping) pa_nil))) (pa_cons (pe_callB (c_isX (K := g.K)) (by rfl) T.b_isinstance bb_isinstance (pa_cons (pv 0) (pa_cons (e_g V_InvalidVolume) pa_nil))) pa_nil)))))
      (pss_mid (ps_set (i := 1) sc_l_kinds.nd rfl (Or.inl rfl) (pe_op (o_add (K := g.K)) (pv 1) (pe_lst (pa_cons (pe_callB (c_isX (K := g.K)) (by rfl) T.b_isinstance bb_isinstance (pa_cons (pv 0) (pa_cons (e_g V_InvalidShelf) pa_nil))) (pa_cons (pe_callB (c_isX (K := g.K)) (by rfl) T.b_isinstance bb_isinstance (pa_cons (pv 0) (pa_cons (e_g V_InvalidDeed) pa_nil))) (pa_cons (pe_callB (c_isX (K := g.K)) (by rfl) T.b_isinstance bb_isinstance (pa_cons (pv 0) (pa_cons (e_g V_NotBlank) pa_nil))) pa_nil))))))
      (pss_mid (ps_set (i := 1) sc_l_kinds.nd rfl (Or.inl rfl) (pe_op (o_add (K := g.K)) (pv 1) (pe_lst (pa_cons (pe_callB (c_isX (K := g.K)) (by rfl) T.b_isinstance bb_isinstance (pa_cons (pv 0) (pa_cons (e_g V_Damaged) pa_nil))) (pa_cons (pe_callB (c_isX (K := g.K)) (by rfl) T.b_isinstance bb_isinstance (pa_cons (pv 0) (pa_cons (e_g V_NoKey) pa_nil))) (pa_cons (pe_callB (c_isX (K := g.K)) (by rfl) T.b_isinstance bb_isinstance (pa_cons (pv 0) (pa_cons (e_g V_NotWritable) pa_nil))) pa_nil))))))
      (pss_mid (ps_set (i := 1) sc_l_kinds.nd rfl (Or.inl rfl) (pe_op (o_add (K := g.K)) (pv 1) (pe_lst (pa_cons (pe_callB (c_isX (K := g.K)) (by rfl) T.b_isinstance bb_isinstance (pa_cons (pv 0) (pa_cons (e_g V_Conflict) pa_nil))) (pa_cons (pe_callB (c_isX (K := g.K)) (by rfl) T.b_isinstance bb_isinstance (pa_cons (pv 0) (pa_cons (e_g V_Dead) pa_nil))) (pa_cons (pe_callB (c_isX (K := g.K)) (by rfl) T.b_isinstance bb_isinstance (pa_cons (pv 0) (pa_cons (e_g V_Closed) pa_nil))) pa_nil))))))
      (pss_mid (ps_set (i := 1) sc_l_kinds.nd rfl (Or.inl rfl) (pe_op (o_add (K := g.K)) (pv 1) (pe_lst (pa_cons (pe_callB (c_isX (K := g.K)) (by rfl) T.b_isinstance bb_isinstance (pa_cons (pv 0) (pa_cons (e_g V_Locked) pa_nil))) (pa_cons (pe_callB (c_isX (K := g.K)) (by rfl) T.b_isinstance bb_isinstance (pa_cons (pv 0) (pa_cons (e_g V_Busy) pa_nil))) (pa_cons (pe_callB (c_isX (K := g.K)) (by rfl) T.b_isinstance bb_isinstance (pa_cons (pv 0) (pa_cons (e_g V_NothingToUndo) pa_nil))) pa_nil))))))
      (pss_one (ps_ret (pe_op (o_add (K := g.K)) (pv 1) (pe_lst (pa_cons (pe_callB (c_isX (K := g.K)) (by rfl) T.b_isinstance bb_isinstance (pa_cons (pv 0) (pa_cons (e_g V_TooLarge) pa_nil))) pa_nil)))))))))))), ?_⟩
  refine mid_at (fun σ H1 => ∃ p, σ = [some (.ref e), some (.ref p)] ∧ Same H H1 ∧ H1 p = some (.lst [V.bl (decide (0 = i)), V.bl (decide (1 = i)), V.bl (decide (2 = i))])) ?_ ?_
  · walk_at "sx"
    refine isX (b := decide (0 = i)) TC hE k0 ?_
    try walk_at "sx"
    refine isX (b := decide (1 = i)) TC hE k1 ?_
    try walk_at "sx"
    refine isX (b := decide (2 = i)) TC hE k2 ?_
    try walk_at "sx"
    exact fun p hp => same_upd hp
  rintro _ H1 ⟨p0, rfl, sH, e0⟩
  refine mid_at (fun σ H1 => ∃ p, σ = [some (.ref e), some (.ref p)] ∧ Same H H1 ∧ H1 p = some (.lst [V.bl (decide (0 = i)), V.bl (decide (1 = i)), V.bl (decide (2 = i)), V.bl (decide (3 = i)), V.bl (decide (4 = i)), V.bl (decide (5 = i))])) ?_ ?_
  · skip
    have hE1 := hE.same sH
    walk_at "sx"
    refine isX (b := decide (3 = i)) TC hE1 k3 ?_
    try walk_at "sx"
    refine isX (b := decide (4 = i)) TC hE1 k4 ?_
    try walk_at "sx"
    refine isX (b := decide (5 = i)) TC hE1 k5 ?_
    try walk_at "sx"
    intro p hp
    try walk_at "sx"
    refine .inl ⟨p0, p, _, _, rfl, rfl, same_upd hp _ _ e0, upd_same, by rw [sizeLine_eq]; simp, fun p2 hp2 => ?_⟩
    exact ⟨p2, rfl, same_new (same_new sH hp) hp2, upd_same⟩
  rintro _ H1 ⟨p0, rfl, sH, e0⟩
  refine mid_at (fun σ H1 => ∃ p, σ = [some (.ref e), some (.ref p)] ∧ Same H H1 ∧ H1 p = some (.lst [V.bl (decide (0 = i)), V.bl (decide (1 = i)), V.bl (decide (2 = i)), V.bl (decide (3 = i)), V.bl (decide (4 = i)), V.bl (decide (5 = i)), V.bl (decide (6 = i)), V.bl (decide (7 = i))])) ?_ ?_
  · skip
    have hE1 := hE.same sH
    walk_at "sx"
    refine isX (b := decide (6 = i)) TC hE1 k6 ?_
    try walk_at "sx"
    refine isX (b := decide (7 = i)) TC hE1 k7 ?_
    try walk_at "sx"
    intro p hp
    try walk_at "sx"
    refine .inl ⟨p0, p, _, _, rfl, rfl, same_upd hp _ _ e0, upd_same, by rw [sizeLine_eq]; simp, fun p2 hp2 => ?_⟩
    exact ⟨p2, rfl, same_new (same_new sH hp) hp2, upd_same⟩
  rintro _ H1 ⟨p0, rfl, sH, e0⟩
  refine mid_at (fun σ H1 => ∃ p, σ = [some (.ref e), some (.ref p)] ∧ Same H H1 ∧ H1 p = some (.lst [V.bl (decide (0 = i)), V.bl (decide (1 = i)), V.bl (decide (2 = i)), V.bl (decide (3 = i)), V.bl (decide (4 = i)), V.bl (decide (5 = i)), V.bl (decide (6 = i)), V.bl (decide (7 = i)), V.bl (decide (8 = i)), V.bl (decide (9 = i)), V.bl (decide (10 = i))])) ?_ ?_
  · skip
    have hE1 := hE.same sH
    walk_at "sx"
    refine isX (b := decide (8 = i)) TC hE1 k8 ?_
    try walk_at "sx"
    refine isX (b := decide (9 = i)) TC hE1 k9 ?_
    try walk_at "sx"
    refine isX (b := decide (10 = i)) TC hE1 k10 ?_
    try walk_at "sx"
    intro p hp
    try walk_at "sx"
    refine .inl ⟨p0, p, _, _, rfl, rfl, same_upd hp _ _ e0, upd_same, by rw [sizeLine_eq]; simp, fun p2 hp2 => ?_⟩
    exact ⟨p2, rfl, same_new (same_new sH hp) hp2, upd_same⟩
  rintro _ H1 ⟨p0, rfl, sH, e0⟩
  refine mid_at (fun σ H1 => ∃ p, σ = [some (.ref e), some (.ref p)] ∧ Same H H1 ∧ H1 p = some (.lst [V.bl (decide (0 = i)), V.bl (decide (1 = i)), V.bl (decide (2 = i)), V.bl (decide (3 = i)), V.bl (decide (4 = i)), V.bl (decide (5 = i)), V.bl (decide (6 = i)), V.bl (decide (7 = i)), V.bl (decide (8 = i)), V.bl (decide (9 = i)), V.bl (decide (10 = i)), V.bl (decide (11 = i)), V.bl (decide (12 = i)), V.bl (decide (13 = i))])) ?_ ?_
  · skip
    have hE1 := hE.same sH
    walk_at "sx"
    refine isX (b := decide (11 = i)) TC hE1 k11 ?_
    try walk_at "sx"
    refine isX (b := decide (12 = i)) TC hE1 k12 ?_
    try walk_at "sx"
    refine isX (b := decide (13 = i)) TC hE1 k13 ?_
    try walk_at "sx"
    intro p hp
    try walk_at "sx"
    refine .inl ⟨p0, p, _, _, rfl, rfl, same_upd hp _ _ e0, upd_same, by rw [sizeLine_eq]; simp, fun p2 hp2 => ?_⟩
    exact ⟨p2, rfl, same_new (same_new sH hp) hp2, upd_same⟩
  rintro _ H1 ⟨p0, rfl, sH, e0⟩
  refine mid_at (fun σ H1 => ∃ p, σ = [some (.ref e), some (.ref p)] ∧ Same H H1 ∧ H1 p = some (.lst [V.bl (decide (0 = i)), V.bl (decide (1 = i)), V.bl (decide (2 = i)), V.bl (decide (3 = i)), V.bl (decide (4 = i)), V.bl (decide (5 = i)), V.bl (decide (6 = i)), V.bl (decide (7 = i)), V.bl (decide (8 = i)), V.bl (decide (9 = i)), V.bl (decide (10 = i)), V.bl (decide (11 = i)), V.bl (decide (12 = i)), V.bl (decide (13 = i)), V.bl (decide (14 = i)), V.bl (decide (15 = i)), V.bl (decide (16 = i))])) ?_ ?_
  · skip
    have hE1 := hE.same sH
    walk_at "sx"
    refine isX (b := decide (14 = i)) TC hE1 k14 ?_
    try walk_at "sx"
    refine isX (b := decide (15 = i)) TC hE1 k15 ?_
    try walk_at "sx"
    refine isX (b := decide (16 = i)) TC hE1 k16 ?_
    try walk_at "sx"
    intro p hp
    try walk_at "sx"
    refine .inl ⟨p0, p, _, _, rfl, rfl, same_upd hp _ _ e0, upd_same, by rw [sizeLine_eq]; simp, fun p2 hp2 => ?_⟩
    exact ⟨p2, rfl, same_new (same_new sH hp) hp2, upd_same⟩
  rintro _ H1 ⟨p0, rfl, sH, e0⟩
  refine mid_at (fun σ H1 => ∃ p, σ = [some (.ref e), some (.ref p)] ∧ Same H H1 ∧ H1 p = some (.lst [V.bl (decide (0 = i)), V.bl (decide (1 = i)), V.bl (decide (2 = i)), V.bl (decide (3 = i)), V.bl (decide (4 = i)), V.bl (decide (5 = i)), V.bl (decide (6 = i)), V.bl (decide (7 = i)), V.bl (decide (8 = i)), V.bl (decide (9 = i)), V.bl (decide (10 = i)), V.bl (decide (11 = i)), V.bl (decide (12 = i)), V.bl (decide (13 = i)), V.bl (decide (14 = i)), V.bl (decide (15 = i)), V.bl (decide (16 = i)), V.bl (decide (17 = i)), V.bl (decide (18 = i)), V.bl (decide (19 = i))])) ?_ ?_
  · skip
    have hE1 := hE.same sH
    walk_at "sx"
    refine isX (b := decide (17 = i)) TC hE1 k17 ?_
    try walk_at "sx"
    refine isX (b := decide (18 = i)) TC hE1 k18 ?_
    try walk_at "sx"
    refine isX (b := decide (19 = i)) TC hE1 k19 ?_
    try walk_at "sx"
    intro p hp
    try walk_at "sx"
    refine .inl ⟨p0, p, _, _, rfl, rfl, same_upd hp _ _ e0, upd_same, by rw [sizeLine_eq]; simp, fun p2 hp2 => ?_⟩
    exact ⟨p2, rfl, same_new (same_new sH hp) hp2, upd_same⟩
  rintro _ H1 ⟨p0, rfl, sH, e0⟩
  have hE1 := hE.same sH
  walk_at "sx"
  refine isX (b := decide (20 = i)) TC hE1 k20 ?_
  try walk_at "sx"
  intro p hp
  try walk_at "sx"
  refine .inl ⟨p0, p, _, _, rfl, rfl, same_upd hp _ _ e0, upd_same, by rw [sizeLine_eq]; simp, fun p2 hp2 => ?_⟩
  exact q p2 _ (same_new (same_new sH hp) hp2) upd_same
end


theorem bb_ValueError : bootBuiltins "ValueError" = some (.type "ValueError") := by decide +kernel
theorem bb_RuntimeError : bootBuiltins "RuntimeError" = some (.type "RuntimeError") := by decide +kernel
theorem bb_OverflowError : bootBuiltins "OverflowError" = some (.type "OverflowError") := by decide +kernel
theorem bb_LookupError : bootBuiltins "LookupError" = some (.type "LookupError") := by decide +kernel
theorem bb_NotImplementedError : bootBuiltins "NotImplementedError" = some (.type "NotImplementedError") := by decide +kernel
structure TxtB (g : Wd) : Prop extends Txt g where
  b_ValueError : g.mg "ValueError" = none
  b_RuntimeError : g.mg "RuntimeError" = none
  b_OverflowError : g.mg "OverflowError" = none
  b_LookupError : g.mg "LookupError" = none
  b_NotImplementedError : g.mg "NotImplementedError" = none
section
variable {g : Wd} {f B0 B1 B2 : Addr} {fd : FuncData}
theorem sc_l_bases : FnScope ["_law_error", "_law_found"] ["_law_error"] (defScope s_l_bases) := ⟨rfl, rfl, rfl, by decide +kernel, rfl, by decide +kernel, by decide +kernel⟩
def Bss (K : PySem.W.Frag) (C : Addr) (b : Nat) (B0 B1 B2 : Addr) : Prop := PySem.W.kitOne K (.ref C) (.ref B0) = some (decide (b = 0)) ∧ PySem.W.kitOne K (.ref C) (.ref B1) = some (decide (b = 1)) ∧ PySem.W.kitOne K (.ref C) (.ref B2) = some (decide (b = 2)) ∧ PySem.W.kitOne K (.ref C) (.type "ValueError") = some (decide (b = 0)) ∧ PySem.W.kitOne K (.ref C) (.type "RuntimeError") = some (decide (b = 1)) ∧ PySem.W.kitOne K (.ref C) (.type "OverflowError") = some (decide (b = 2)) ∧ PySem.W.kitOne K (.ref C) (.type "LookupError") = some (false) ∧ PySem.W.kitOne K (.ref C) (.type "NotImplementedError") = some (false)
def sp_bases (K : PySem.W.Frag) (B0 B1 B2 : Addr) : Sp := S1 fun a H Q _ => ∃ (v : V) (e C : Addr) (fo : Option Str) (b : Nat), a = .ref e ∧ ExcAt H v e C fo ∧ ExcC K C ∧ Bss K C b B0 B1 B2 ∧ ∀ p H', Same H H' → H' p = some (.lst [V.bl (decide (b = 0)), V.bl (decide (b = 1)), V.bl (decide (b = 2)), V.bl (decide (b = 0)), V.bl (decide (b = 1)), V.bl (decide (b = 2)), V.bl false, V.bl false]) → Q (.ref p) H'
theorem ok_bases (F : Df g.K "_law_bases" "_law_bases" s_l_bases f fd .none) (T : TxtB g) (V_ShelfError : Gv g "ShelfError" (.ref B0)) (V_ShelfStateError : Gv g "ShelfStateError" (.ref B1)) (V_LimitError : Gv g "LimitError" (.ref B2)) : FnG g 1 f fd ["_law_error"] (sp_bases g.K B0 B1 B2) := by
  refine F.ok sc_l_bases (fun vs H Q E h => S1.len h) (fun cdv A outer s H vs Q E hr h => ?_)
  obtain ⟨_, rfl, v, e, C, fo, b, rfl, hE, TC, ⟨k0, k1, k2, k3, k4, k5, k6, k7⟩, q⟩ := h
  refine ⟨_, (pss_mid (ps_set (i := 1) sc_l_bases.nd rfl (Or.inl rfl) (pe_lst (pa_cons (pe_callB (c_isX (K := g.K)) (by rfl) T.b_isinstance bb_isinstance (pa_cons (pv 0) (pa_cons (e_g V_ShelfError) pa_nil))) (pa_cons (pe_callB (c_isX (K := g.K)) (by rfl) T.b_isinstance bb_isinstance (pa_cons (pv 0) (pa_cons (e_g V_ShelfStateError) pa_nil))) (pa_cons (pe_callB (c_isX (K := g.K)) (by rfl) T.b_isinstance bb_isinstance (pa_cons (pv 0) (pa_cons (e_g V_LimitError) pa_nil))) pa_nil)))))
      (pss_mid (ps_set (i := 1) sc_l_bases.nd rfl (Or.inl rfl) (pe_op (o_add (K := g.K)) (pv 1) (pe_lst (pa_cons (pe_callB (c_isX (K := g.K)) (by rfl) T.b_isinstance bb_isinstance (pa_cons (pv 0) (pa_cons (pe_bltn (v := .ty "ValueError") rfl T.b_ValueError bb_ValueError rfl) pa_nil))) (pa_cons (pe_callB (c_isX (K := g.K)) (by rfl) T.b_isinstance bb_isinstance (pa_cons (pv 0) (pa_cons (pe_bltn (v := .ty "RuntimeError") rfl T.b_RuntimeError bb_RuntimeError rfl) pa_nil))) (pa_cons (pe_callB (c_isX (K := g.K)) (by rfl) T.b_isinstance bb_isinstance (pa_cons (pv 0) (pa_cons (pe_bltn (v := .ty "OverflowError") rfl T.b_OverflowError bb_OverflowError rfl) pa_nil))) pa_nil))))))
      (pss_one (ps_ret (pe_op (o_add (K := g.K)) (pv 1) (pe_lst (pa_cons (pe_callB (c_isX (K := g.K)) (by rfl) T.b_isinstance bb_isinstance (pa_cons (pv 0) (pa_cons (pe_bltn (v := .ty "LookupError") rfl T.b_LookupError bb_LookupError rfl) pa_nil))) (pa_cons (pe_callB (c_isX (K := g.K)) (by rfl) T.b_isinstance bb_isinstance (pa_cons (pv 0) (pa_cons (pe_bltn (v := .ty "NotImplementedError") rfl T.b_NotImplementedError bb_NotImplementedError rfl) pa_nil))) pa_nil)))))))), ?_⟩
  refine mid_at (fun σ H1 => ∃ p, σ = [some (.ref e), some (.ref p)] ∧ Same H H1 ∧ H1 p = some (.lst [V.bl (decide (b = 0)), V.bl (decide (b = 1)), V.bl (decide (b = 2))])) ?_ ?_
  · walk_at "sx"
    refine isX (b := decide (b = 0)) TC hE k0 ?_
    try walk_at "sx"
    refine isX (b := decide (b = 1)) TC hE k1 ?_
    try walk_at "sx"
    refine isX (b := decide (b = 2)) TC hE k2 ?_
    try walk_at "sx"
    exact fun p hp => same_upd hp
  rintro _ H1 ⟨p0, rfl, sH, e0⟩
  refine mid_at (fun σ H1 => ∃ p, σ = [some (.ref e), some (.ref p)] ∧ Same H H1 ∧ H1 p = some (.lst [V.bl (decide (b = 0)), V.bl (decide (b = 1)), V.bl (decide (b = 2)), V.bl (decide (b = 0)), V.bl (decide (b = 1)), V.bl (decide (b = 2))])) ?_ ?_
  · have hE1 := hE.same sH
    walk_at "sx"
    refine isXt (b := decide (b = 0)) TC hE1 k3 ?_
    try walk_at "sx"
    refine isXt (b := decide (b = 1)) TC hE1 k4 ?_
    try walk_at "sx"
    refine isXt (b := decide (b = 2)) TC hE1 k5 ?_
    try walk_at "sx"
    intro p hp
    try walk_at "sx"
    refine .inl ⟨p0, p, _, _, rfl, rfl, same_upd hp _ _ e0, upd_same, by rw [sizeLine_eq]; simp, fun p2 hp2 => ?_⟩
    exact ⟨p2, rfl, same_new (same_new sH hp) hp2, upd_same⟩
  rintro _ H1 ⟨p0, rfl, sH, e0⟩
  have hE1 := hE.same sH
  walk_at "sx"
  refine isXt (b := false) TC hE1 k6 ?_
  try walk_at "sx"
  refine isXt (b := false) TC hE1 k7 ?_
  try walk_at "sx"
  intro p hp
  try walk_at "sx"
  refine .inl ⟨p0, p, _, _, rfl, rfl, same_upd hp _ _ e0, upd_same, by rw [sizeLine_eq]; simp, fun p2 hp2 => ?_⟩
  exact q p2 _ (same_new (same_new sH hp) hp2) upd_same
end


theorem Excs.inv {H : Hp} {v : V} {es : List V} {C : Addr} {f : Option Str} {cs : List (Addr × Option Str)} (h : Excs H v es ((C, f) :: cs)) : ∃ e es', es = .ref e :: es' ∧ ExcAt H v e C f ∧ Excs H v es' cs := by
  cases h with | cons h hs => exact ⟨_, _, rfl, h, hs⟩
structure Fs (g : Wd) (C0 C1 C2 C3 C4 C5 C6 C7 C8 C9 C10 C11 C12 C13 C14 C15 C16 C17 C18 C19 C20 : Addr) : Prop where
  x0 : XfC g.K C0
  n0 : PySem.W.findIn g.K (.ref C0) "path" = some none
  x1 : XfC g.K C1
  n1 : PySem.W.findIn g.K (.ref C1) "position" = some none
  x2 : XfC g.K C2
  n2 : PySem.W.findIn g.K (.ref C2) "given" = some none
  x3 : XfC g.K C3
  n3 : PySem.W.findIn g.K (.ref C3) "given" = some none
  x4 : XfC g.K C4
  n4 : PySem.W.findIn g.K (.ref C4) "given" = some none
  x5 : XfC g.K C5
  n5 : PySem.W.findIn g.K (.ref C5) "given" = some none
  x6 : XfC g.K C6
  n6 : PySem.W.findIn g.K (.ref C6) "given" = some none
  x7 : XfC g.K C7
  n7 : PySem.W.findIn g.K (.ref C7) "part" = some none
  x8 : XfC g.K C8
  n8 : PySem.W.findIn g.K (.ref C8) "part" = some none
  x9 : XfC g.K C9
  n9 : PySem.W.findIn g.K (.ref C9) "index" = some none
  x10 : XfC g.K C10
  n10 : PySem.W.findIn g.K (.ref C10) "page" = some none
  x11 : XfC g.K C11
  n11 : PySem.W.findIn g.K (.ref C11) "page" = some none
  x12 : XfC g.K C12
  n12 : PySem.W.findIn g.K (.ref C12) "given" = some none
  x13 : XfC g.K C13
  n13 : PySem.W.findIn g.K (.ref C13) "given" = some none
  x14 : XfC g.K C14
  n14 : PySem.W.findIn g.K (.ref C14) "given" = some none
  x20 : XfC g.K C20
  n20 : PySem.W.findIn g.K (.ref C20) "limit" = some none
section
variable {g : Wd} {f C0 C1 C2 C3 C4 C5 C6 C7 C8 C9 C10 C11 C12 C13 C14 C15 C16 C17 C18 C19 C20 : Addr} {fd : FuncData}
theorem sc_l_fields : FnScope ["_law_some", "_law_found"] ["_law_some"] (defScope s_l_fields) := ⟨rfl, rfl, rfl, by decide +kernel, rfl, by decide +kernel, by decide +kernel⟩
def sp_fields (C0 C1 C2 C3 C4 C5 C6 C7 C8 C9 C10 C11 C12 C13 C14 C15 C16 C17 C18 C19 C20 : Addr) : Sp := S1 fun a H Q _ => ∃ (p : Addr) (es : List V) (v : V), a = .ref p ∧ H p = some (.lst es) ∧ Excs H v es [(C0, some "path"), (C1, some "position"), (C2, some "given"), (C3, some "given"), (C4, some "given"), (C5, some "given"), (C6, some "given"), (C7, some "part"), (C8, some "part"), (C9, some "index"), (C10, some "page"), (C11, some "page"), (C12, some "given"), (C13, some "given"), (C14, some "given"), (C15, none), (C16, none), (C17, none), (C18, none), (C19, none), (C20, some "limit")] ∧ ∀ q H', Same H H' → H' q = some (.lst (List.replicate 16 v)) → Q (.ref q) H'
theorem ok_fields (F : Df g.K "_law_fields" "_law_fields" s_l_fields f fd .none) (T : Txt g) (XF : Fs g C0 C1 C2 C3 C4 C5 C6 C7 C8 C9 C10 C11 C12 C13 C14 C15 C16 C17 C18 C19 C20) : FnG g 1 f fd ["_law_some"] (sp_fields C0 C1 C2 C3 C4 C5 C6 C7 C8 C9 C10 C11 C12 C13 C14 C15 C16 C17 C18 C19 C20) := by
  refine F.ok sc_l_fields (fun vs H Q E h => S1.len h) (fun cdv A outer s H vs Q E hr h => ?_)
  obtain ⟨_, rfl, p, es, v, rfl, hp, Ex, q⟩ := h
  obtain ⟨e0, es0, rfl, h0, Ey⟩ := Ex.inv
  clear Ex
  have Ex := Ey
  clear Ey
  obtain ⟨e1, es1, rfl, h1, Ey⟩ := Ex.inv
  clear Ex
  have Ex := Ey
  clear Ey
  obtain ⟨e2, es2, rfl, h2, Ey⟩ := Ex.inv
  clear Ex
  have Ex := Ey
  clear Ey
  obtain ⟨e3, es3, rfl, h3, Ey⟩ := Ex.inv
  clear Ex
  have Ex := Ey
  clear Ey
  obtain ⟨e4, es4, rfl, h4, Ey⟩ := Ex.inv
  clear Ex
  have Ex := Ey
  clear Ey
  obtain ⟨e5, es5, rfl, h5, Ey⟩ := Ex.inv
  clear Ex
  have Ex := Ey
  clear Ey
  obtain ⟨e6, es6, rfl, h6, Ey⟩ := Ex.inv
  clear Ex
  have Ex := Ey
  clear Ey
  obtain ⟨e7, es7, rfl, h7, Ey⟩ := Ex.inv
  clear Ex
  have Ex := Ey
  clear Ey
  obtain ⟨e8, es8, rfl, h8, Ey⟩ := Ex.inv
  clear Ex
  have Ex := Ey
  clear Ey
  obtain ⟨e9, es9, rfl, h9, Ey⟩ := Ex.inv
  clear Ex
  have Ex := Ey
  clear Ey
  obtain ⟨e10, es10, rfl, h10, Ey⟩ := Ex.inv
  clear Ex
  have Ex := Ey
  clear Ey
  obtain ⟨e11, es11, rfl, h11, Ey⟩ := Ex.inv
  clear Ex
  have Ex := Ey
  clear Ey
  obtain ⟨e12, es12, rfl, h12, Ey⟩ := Ex.inv
  clear Ex
  have Ex := Ey
  clear Ey
  obtain ⟨e13, es13, rfl, h13, Ey⟩ := Ex.inv
  clear Ex
  have Ex := Ey
  clear Ey
  obtain ⟨e14, es14, rfl, h14, Ey⟩ := Ex.inv
  clear Ex
  have Ex := Ey
  clear Ey
  obtain ⟨e15, es15, rfl, h15, Ey⟩ := Ex.inv
  clear Ex
  have Ex := Ey
  clear Ey
  obtain ⟨e16, es16, rfl, h16, Ey⟩ := Ex.inv
  clear Ex
  have Ex := Ey
  clear Ey
  obtain ⟨e17, es17, rfl, h17, Ey⟩ := Ex.inv
  clear Ex
  have Ex := Ey
  clear Ey
  obtain ⟨e18, es18, rfl, h18, Ey⟩ := Ex.inv
  clear Ex
  have Ex := Ey
  clear Ey
  obtain ⟨e19, es19, rfl, h19, Ey⟩ := Ex.inv
  clear Ex
  have Ex := Ey
  clear Ey
  obtain ⟨e20, es20, rfl, h20, Ey⟩ := Ex.inv
  clear Ex
  have Ex := Ey
  clear Ey
  cases Ex
  obtain ⟨d0, a0, b0⟩ := h0
  obtain ⟨d1, a1, b1⟩ := h1
  obtain ⟨d2, a2, b2⟩ := h2
  obtain ⟨d3, a3, b3⟩ := h3
  obtain ⟨d4, a4, b4⟩ := h4
  obtain ⟨d5, a5, b5⟩ := h5
  obtain ⟨d6, a6, b6⟩ := h6
  obtain ⟨d7, a7, b7⟩ := h7
  obtain ⟨d8, a8, b8⟩ := h8
  obtain ⟨d9, a9, b9⟩ := h9
  obtain ⟨d10, a10, b10⟩ := h10
  obtain ⟨d11, a11, b11⟩ := h11
  obtain ⟨d12, a12, b12⟩ := h12
  obtain ⟨d13, a13, b13⟩ := h13
  obtain ⟨d14, a14, b14⟩ := h14
  obtain ⟨d20, a20, b20⟩ := h20
  refine ⟨_, (pss_mid (ps_set (i := 1) sc_l_fields.nd rfl (Or.inl rfl) (pe_lst (pa_cons (pe_xfv (C := C0) XF.x0 XF.n0 (pe_ix (o_ix (K := g.K)) (pv 0) pe_int (fun _ _ => rfl))) (pa_cons (pe_xfv (C := C1) XF.x1 XF.n1 (pe_ix (o_ix (K := g.K)) (pv 0) pe_int (fun _ _ => rfl))) (pa_cons (pe_xfv (C := C2) XF.x2 XF.n2 (pe_ix (o_ix (K := g.K)) (pv 0) pe_int (fun _ _ => rfl))) (pa_cons (pe_xfv (C := C3) XF.x3 XF.n3 (pe_ix (o_ix (K := g.K)) (pv 0) pe_int (fun _ _ => rfl))) (pa_cons (pe_xfv (C := C4) XF.x4 XF.n4 (pe_ix (o_ix (K := g.K)) (pv 0) pe_int (fun _ _ => rfl))) (pa_cons (pe_xfv (C := C5) XF.x5 XF.n5 (pe_ix (o_ix (K := g.K)) (pv 0) pe_int (fun _ _ => rfl))) pa_nil))))))))
      (pss_mid (ps_set (i := 1) sc_l_fields.nd rfl (Or.inl rfl) (pe_op (o_add (K := g.K)) (pv 1) (pe_lst (pa_cons (pe_xfv (C := C6) XF.x6 XF.n6 (pe_ix (o_ix (K := g.K)) (pv 0) pe_int (fun _ _ => rfl))) (pa_cons (pe_xfv (C := C7) XF.x7 XF.n7 (pe_ix (o_ix (K := g.K)) (pv 0) pe_int (fun _ _ => rfl))) (pa_cons (pe_xfv (C := C8) XF.x8 XF.n8 (pe_ix (o_ix (K := g.K)) (pv 0) pe_int (fun _ _ => rfl))) (pa_cons (pe_xfv (C := C9) XF.x9 XF.n9 (pe_ix (o_ix (K := g.K)) (pv 0) pe_int (fun _ _ => rfl))) (pa_cons (pe_xfv (C := C10) XF.x10 XF.n10 (pe_ix (o_ix (K := g.K)) (pv 0) pe_int (fun _ _ => rfl))) (pa_cons (pe_xfv (C := C11) XF.x11 XF.n11 (pe_ix (o_ix (K := g.K)) (pv 0) pe_int (fun _ _ => rfl))) pa_nil)))))))))
      (pss_one (ps_ret (pe_op (o_add (K := g.K)) (pv 1) (pe_lst (pa_cons (pe_xfv (C := C12) XF.x12 XF.n12 (pe_ix (o_ix (K := g.K)) (pv 0) pe_int (fun _ _ => rfl))) (pa_cons (pe_xfv (C := C13) XF.x13 XF.n13 (pe_ix (o_ix (K := g.K)) (pv 0) pe_int (fun _ _ => rfl))) (pa_cons (pe_xfv (C := C14) XF.x14 XF.n14 (pe_ix (o_ix (K := g.K)) (pv 0) pe_int (fun _ _ => rfl))) (pa_cons (pe_xfv (C := C20) XF.x20 XF.n20 (pe_ix (o_ix (K := g.K)) (pv 0) pe_int (fun _ _ => rfl))) pa_nil)))))))))), ?_⟩
  refine mid_at (fun σ H1 => ∃ p2, σ = [some (.ref p), some (.ref p2)] ∧ Same H H1 ∧ H1 p2 = some (.lst (List.replicate 6 v))) ?_ ?_
  · walk_at "sx"
    refine ⟨_, .inl (SqL.of hp), _, rfl, e0, rfl, d0, a0, _, b0, v, by rw [lk_cons, if_pos rfl], ?_⟩
    refine ⟨_, .inl (SqL.of hp), _, rfl, e1, rfl, d1, a1, _, b1, v, by rw [lk_cons, if_pos rfl], ?_⟩
    refine ⟨_, .inl (SqL.of hp), _, rfl, e2, rfl, d2, a2, _, b2, v, by rw [lk_cons, if_pos rfl], ?_⟩
    refine ⟨_, .inl (SqL.of hp), _, rfl, e3, rfl, d3, a3, _, b3, v, by rw [lk_cons, if_pos rfl], ?_⟩
    refine ⟨_, .inl (SqL.of hp), _, rfl, e4, rfl, d4, a4, _, b4, v, by rw [lk_cons, if_pos rfl], ?_⟩
    refine ⟨_, .inl (SqL.of hp), _, rfl, e5, rfl, d5, a5, _, b5, v, by rw [lk_cons, if_pos rfl], ?_⟩
    exact fun p2 hp2 => ⟨same_upd hp2, by simp⟩
  rintro _ H1 ⟨p0, rfl, sH, e0'⟩
  refine mid_at (fun σ H1 => ∃ p2, σ = [some (.ref p), some (.ref p2)] ∧ Same H H1 ∧ H1 p2 = some (.lst (List.replicate 12 v))) ?_ ?_
  · walk_at "sx"
    refine ⟨_, .inl (SqL.of (sH _ _ hp)), _, rfl, e6, rfl, d6, sH _ _ a6, _, sH _ _ b6, v, by rw [lk_cons, if_pos rfl], ?_⟩
    refine ⟨_, .inl (SqL.of (sH _ _ hp)), _, rfl, e7, rfl, d7, sH _ _ a7, _, sH _ _ b7, v, by rw [lk_cons, if_pos rfl], ?_⟩
    refine ⟨_, .inl (SqL.of (sH _ _ hp)), _, rfl, e8, rfl, d8, sH _ _ a8, _, sH _ _ b8, v, by rw [lk_cons, if_pos rfl], ?_⟩
    refine ⟨_, .inl (SqL.of (sH _ _ hp)), _, rfl, e9, rfl, d9, sH _ _ a9, _, sH _ _ b9, v, by rw [lk_cons, if_pos rfl], ?_⟩
    refine ⟨_, .inl (SqL.of (sH _ _ hp)), _, rfl, e10, rfl, d10, sH _ _ a10, _, sH _ _ b10, v, by rw [lk_cons, if_pos rfl], ?_⟩
    refine ⟨_, .inl (SqL.of (sH _ _ hp)), _, rfl, e11, rfl, d11, sH _ _ a11, _, sH _ _ b11, v, by rw [lk_cons, if_pos rfl], ?_⟩
    intro p2 hp2
    try walk_at "sx"
    refine .inl ⟨p0, p2, _, _, rfl, rfl, same_upd hp2 _ _ e0', upd_same, by rw [sizeLine_eq]; simp, fun p3 hp3 => ?_⟩
    exact ⟨p3, rfl, same_new (same_new sH hp2) hp3, upd_same⟩
  rintro _ H1 ⟨p0, rfl, sH, e0'⟩
  walk_at "sx"
  refine ⟨_, .inl (SqL.of (sH _ _ hp)), _, rfl, e12, rfl, d12, sH _ _ a12, _, sH _ _ b12, v, by rw [lk_cons, if_pos rfl], ?_⟩
  refine ⟨_, .inl (SqL.of (sH _ _ hp)), _, rfl, e13, rfl, d13, sH _ _ a13, _, sH _ _ b13, v, by rw [lk_cons, if_pos rfl], ?_⟩
  refine ⟨_, .inl (SqL.of (sH _ _ hp)), _, rfl, e14, rfl, d14, sH _ _ a14, _, sH _ _ b14, v, by rw [lk_cons, if_pos rfl], ?_⟩
  refine ⟨_, .inl (SqL.of (sH _ _ hp)), _, rfl, e20, rfl, d20, sH _ _ a20, _, sH _ _ b20, v, by rw [lk_cons, if_pos rfl], ?_⟩
  intro p2 hp2
  try walk_at "sx"
  refine .inl ⟨p0, p2, _, _, rfl, rfl, same_upd hp2 _ _ e0', upd_same, by rw [sizeLine_eq]; simp, fun p3 hp3 => ?_⟩
  exact q p3 _ (same_new (same_new sH hp2) hp3) upd_same
end


section
variable {g : Wd} {f : Addr} {fd : FuncData}
theorem sc_l_pick : FnScope ["_law_stream_here", "_law_some"] ["_law_stream_here", "_law_some"] (defScope s_l_pick) := ⟨rfl, rfl, rfl, by decide +kernel, rfl, by decide +kernel, by decide +kernel⟩
def sp_pick : Sp := S2 fun a b H Q _ => ∃ (p s : Addr) (xs : List V) (N : Nat), a = .ref p ∧ b = .ref s ∧ Str3 H p N ∧ N < 1000 ∧ H s = some (.lst xs) ∧ p ≠ s ∧ 0 < xs.length ∧ xs.length < 1000 ∧
  ∀ v H', v ∈ xs → Str3 H' p (N + 1) → (∀ c o, c ≠ p → H c = some o → H' c = some o) → Q v H'
theorem ok_pick (F : Df g.K "_law_pick" "_law_pick" s_l_pick f fd .none) (T : Txt g) (F_l_draw : Kn g "_law_draw" 2 ["_law_stream_here", "_law_top"] [] sp_draw) : FnG g 3 f fd ["_law_stream_here", "_law_some"] sp_pick := by
  refine F.ok sc_l_pick (fun vs H Q E h => S2.len h) (fun cdv A outer s H vs Q E hr h => ?_)
  obtain ⟨_, _, rfl, p, s', xs, N, rfl, rfl, hS, hN, hs, ne, l0, l1, q⟩ := h
  refine ⟨_, (pss_one (ps_ret (pe_ix (o_ix (K := g.K)) (pv 1) (pe_callG F_l_draw (hr.mono (by decide)) tkD (pa_cons (pv 0) (pa_cons (pe_callB (c_len (K := g.K)) (by rfl) T.b_len bb_len (pa_cons (pv 1) pa_nil)) pa_nil))) (fun _ _ => rfl)))), ?_⟩
  walk_at "sx"
  refine .inl ⟨xs, .inl (SqL.of hs), ?_⟩
  refine ⟨_, _, rfl, p, N, xs.length, rfl, rfl, by omega, by omega, hS, hN, fun r H' r0 r1 S' k => ?_⟩
  obtain ⟨j, rfl⟩ := Int.eq_ofNat_of_zero_le r0
  have hj : j < xs.length := by omega
  walk_at "sx"
  exact ⟨xs, .inl (SqL.of (k _ _ (Ne.symm ne) hs)), xs[j], atI_nat (List.getElem?_eq_getElem hj), q _ _ (List.getElem_mem hj) S' k⟩
end


theorem Excs.get {H : Hp} {v : V} : ∀ {es : List V} {cs : List (Addr × Option Str)}, Excs H v es cs → ∀ {i : Nat}, i < cs.length → ∃ e C f, es[i]? = some (.ref e) ∧ cs[i]? = some (C, f) ∧ ExcAt H v e C f
  | _, _, .cons h hs, 0, _ => ⟨_, _, _, rfl, rfl, h⟩
  | _, _, .cons h hs, i + 1, l => by simpa using hs.get (i := i) (by simpa using l)
theorem Excs.len {H : Hp} {v : V} : ∀ {es : List V} {cs : List (Addr × Option Str)}, Excs H v es cs → es.length = cs.length
  | _, _, .nil => rfl
  | _, _, .cons _ hs => by simp [hs.len]
section
variable {g : Wd} {f C0 C1 C2 C3 C4 C5 C6 C7 C8 C9 C10 C11 C12 C13 C14 C15 C16 C17 C18 C19 C20 B0 B1 B2 : Addr} {fd : FuncData}
def baseOf (i : Nat) : Nat := if i < 10 then 0 else if i < 20 then 1 else 2
theorem sc_l_right : FnScope ["_law_one", "_law_some", "_law_k", "_law_error", "_law_base", "_law_at"] ["_law_one"] (defScope s_l_right) := ⟨rfl, rfl, rfl, by decide +kernel, rfl, by decide +kernel, by decide +kernel⟩
/-- what may be put into a list of sixteen and shown -/
structure Shows (d : PyData) : Prop where
  sh : (PyData.list (List.replicate 16 d)).showable = true
  dp : (PyData.list (List.replicate 16 d)).depth ≤ 60
  ln : (PyData.list (List.replicate 16 d)).shown.length ≤ sizeLine
def sp_right (K : PySem.W.Frag) : Sp := S1 fun v H Q _ => ∃ d, DpX K H v d ∧ Shows d ∧ ∀ H', Same H H' → Q (.bl true) H'
theorem ok_right (F : Df g.K "_law_right" "_law_right" s_l_right f fd .none) (T : TxtB g) (SM : SmB g.base) (TB : ∀ i C fo, ([(C0, some "path"), (C1, some "position"), (C2, some "given"), (C3, some "given"), (C4, some "given"), (C5, some "given"), (C6, some "given"), (C7, some "part"), (C8, some "part"), (C9, some "index"), (C10, some "page"), (C11, some "page"), (C12, some "given"), (C13, some "given"), (C14, some "given"), (C15, none), (C16, none), (C17, none), (C18, none), (C19, none), (C20, some "limit")] : List (Addr × Option Str))[i]? = some (C, fo) → ExcC g.K C ∧ Knds g.K C i C0 C1 C2 C3 C4 C5 C6 C7 C8 C9 C10 C11 C12 C13 C14 C15 C16 C17 C18 C19 C20 ∧ Bss g.K C (baseOf i) B0 B1 B2)
    (F_l_made : Kn g "_law_made" 3 ["_law_one"] [] (sp_made C0 C1 C2 C3 C4 C5 C6 C7 C8 C9 C10 C11 C12 C13 C14 C15 C16 C17 C18 C19 C20)) (F_l_fields : Kn g "_law_fields" 1 ["_law_some"] [] (sp_fields C0 C1 C2 C3 C4 C5 C6 C7 C8 C9 C10 C11 C12 C13 C14 C15 C16 C17 C18 C19 C20)) (F_l_kinds : Kn g "_law_kinds" 1 ["_law_error"] [] (sp_kinds g.K C0 C1 C2 C3 C4 C5 C6 C7 C8 C9 C10 C11 C12 C13 C14 C15 C16 C17 C18 C19 C20)) (F_l_bases : Kn g "_law_bases" 1 ["_law_error"] [] (sp_bases g.K B0 B1 B2)) :
    FnG g 4 f fd ["_law_one"] (sp_right g.K) := by
  refine F.ok sc_l_right (fun vs H Q E h => S1.len h) (fun cdv A outer s H vs Q E hr h => ?_)
  obtain ⟨v, rfl, d, hd, hw, q⟩ := h
  refine ⟨_, (pss_mid (ps_set (i := 1) sc_l_right.nd rfl (Or.inl rfl) (pe_callG F_l_made (hr.mono (by decide)) tkD (pa_cons (pv 0) pa_nil)))
      (pss_mid (ps_if (pt_cmpR (o_ne (K := g.K) hr) (pe_callB (c_reprX (K := g.K) SM hr) (by rfl) T.b_repr bb_repr (pa_cons (pe_callG F_l_fields (hr.mono (by decide)) tkD (pa_cons (pv 1) pa_nil)) pa_nil)) (pe_callB (c_reprX (K := g.K) SM hr) (by rfl) T.b_repr bb_repr (pa_cons (pe_op o_mul (pe_lst (pa_cons (pv 0) pa_nil)) pe_int) pa_nil)) (nomark _)) (pss_one (ps_ret pe_bl)) pss_nil)
      (pss_cons (ps_for psD rfl (i_enum (K := g.K) T.b_enumerate (pa_cons (pv 1) pa_nil)) (g_tup (K := g.K) (n := 2) (pgs_cons (pg_name (i := 2) sc_l_right.nd rfl (.inr rfl)) (pgs_cons (pg_name (i := 3) sc_l_right.nd rfl (.inl rfl)) pgs_nil))) (pss_mid (ps_if (pt_cmpR (o_ne (K := g.K) hr) (pe_callG F_l_kinds (hr.mono (by decide)) tkD (pa_cons (pv 3) pa_nil)) (pe_lc (own := [("_law_at", 5)]) (tt := tYes) rfl sc_l_right.nd (pi_range1 rfl T.b_range (pa_cons pe_int pa_nil)) (blkOk_by (own := [("_law_at", 5)]) (N := ["_law_one", "_law_some", "_law_k", "_law_error", "_law_base", "_law_at"]) (sc := defScope s_l_right) (by decide +kernel)) (fun _ _ _ _ _ => (pg_name (i := 5) sc_l_right.nd rfl (.inl rfl))) (fun _ _ _ _ _ => pts_nil) (fun _ _ _ _ _ => (pe_cmpR (o_eq (K := g.K) (Rm.mk hr.room hr.gd)) (pv 5) (pv 2) (nomark _)))) (nomark _)) (pss_one (ps_ret pe_bl)) pss_nil)
      (pss_mid (ps_set (i := 4) sc_l_right.nd rfl (Or.inr rfl) (pe_ifExp (pt_cmpR op_lt (pv 2) pe_int (nomark _)) pe_int (pe_ifExp (pt_cmpR op_lt (pv 2) pe_int (nomark _)) pe_int pe_int)))
      (pss_one (ps_if (pt_cmpR (o_ne (K := g.K) hr) (pe_callG F_l_bases (hr.mono (by decide)) tkD (pa_cons (pv 3) pa_nil)) (pe_op (o_add (K := g.K)) (pe_lc (own := [("_law_at", 5)]) (tt := tYes) rfl sc_l_right.nd (i_tup (K := g.K) (pe_tup (pa_cons pe_int (pa_cons pe_int (pa_cons pe_int (pa_cons pe_int (pa_cons pe_int (pa_cons pe_int pa_nil)))))))) (blkOk_by (own := [("_law_at", 5)]) (N := ["_law_one", "_law_some", "_law_k", "_law_error", "_law_base", "_law_at"]) (sc := defScope s_l_right) (by decide +kernel)) (fun _ _ _ _ _ => (pg_name (i := 5) sc_l_right.nd rfl (.inl rfl))) (fun _ _ _ _ _ => pts_nil) (fun _ _ _ _ _ => (pe_cmpR (o_eq (K := g.K) (Rm.mk hr.room hr.gd)) (pv 4) (pv 5) (nomark _)))) (pe_lst (pa_cons pe_bl (pa_cons pe_bl pa_nil)))) (nomark _)) (pss_one (ps_ret pe_bl)) pss_nil)))))
      (pss_one (ps_ret pe_bl))))), ?_⟩
  refine mid_at (fun σ H1 => ∃ p es, σ = [some v, some (.ref p), none, none, none, none] ∧ Same H H1 ∧ H1 p = some (.lst es) ∧ Excs H1 v es [(C0, some "path"), (C1, some "position"), (C2, some "given"), (C3, some "given"), (C4, some "given"), (C5, some "given"), (C6, some "given"), (C7, some "part"), (C8, some "part"), (C9, some "index"), (C10, some "page"), (C11, some "page"), (C12, some "given"), (C13, some "given"), (C14, some "given"), (C15, none), (C16, none), (C17, none), (C18, none), (C19, none), (C20, some "limit")]) ?_ ?_
  · walk_at "sx"
    exact ⟨v, rfl, fun p es H1 s1 e1 ex => ⟨p, rfl, s1, es, e1, ex⟩⟩
  rintro _ H1 ⟨p, es, rfl, s1, e1, ex⟩
  refine mid_one [some v, some (.ref p), none, none, none, none] (fun H2 => Same H1 H2) ?_ fun H2 s2 => ?_
  · walk_at "sx"
    refine ⟨_, rfl, p, es, v, rfl, e1, ex, fun q2 H2 s2 e2 => ?_⟩
    have hd2 := hd.same (s1.trans s2)
    refine ⟨q2, .list (List.replicate 16 d), rfl, .lst (SqL.of e2) (DpXs.rep hd2 16), hw.sh, hw.dp, hw.ln, fun p3 hp3 => ?_⟩
    refine ⟨p3, 16, [v], rfl, rfl, upd_same, by decide, by decide, by rw [sizeLine_eq]; simp, fun p4 hp4 => ?_⟩
    have hd4 := hd2.same (same_new (same_upd (o := HO.lst [v]) hp3) (o := HO.lst (List.replicate (Int.toNat 16) [v]).flatten) hp4)
    refine ⟨p4, .list (List.replicate 16 d), rfl, .lst (SqL.of upd_same) (DpXs.rep hd4 16), hw.sh, hw.dp, hw.ln, ?_⟩
    walk_at "sx"
    exact same_new (same_new s2 hp3) hp4
  have ex2 := ex.same s2
  have e2 := s2 _ _ e1
  walk_at "sx"
  refine ⟨_, SqL.of e2, ?_⟩
  have len := ex2.len
  have len21 : es.length = 21 := by rw [len]; rfl
  refine for_by 21 (fun i σ H' => (∃ v2 v3 v4 v5, σ = [some v, some (.ref p), v2, v3, v4, v5]) ∧ Same H2 H') ⟨⟨_, _, _, _, rfl⟩, Same.refl H2⟩ (fun i σ H3 lt P => ⟨_, es[i]'(by omega), SqL.of (P.2 _ _ e2), List.getElem?_eq_getElem (by omega)⟩) (fun σ H3 P => ⟨_, SqL.of (P.2 _ _ e2), by omega⟩) (fun i σ H3 x H4 lt P yl => ?_) (fun σ H3 P => ?_)
  · obtain ⟨⟨v2, v3, v4, v5, rfl⟩, s3⟩ := P
    obtain ⟨T', z, rfl, hT, rfl, hz⟩ := yl
    have hz := hz _ (SqL.of (s3 _ _ e2))
    obtain ⟨e, C, fo, g1, g2, g3⟩ := ex2.get (i := i) (by show i < 21; exact lt)
    rw [g1] at hz
    obtain rfl : V.ref e = z := by simpa using hz
    obtain ⟨TC, TK, TBs⟩ := TB i C fo g2
    have s4 : Same H2 (upd H3 T' (.tup [.int (i : Nat), .ref e])) := same_new s3 hT
    have E4 := g3.same s4
    walk_at "sx"
    refine ⟨_, SqT.of upd_same, rfl, ?_⟩
    walk_at "sx"
    generalize upd H3 T' (.tup [.int (i : Nat), .ref e]) = G at s4 E4 ⊢
    refine mid_one [some v, some (.ref p), some (.int (i : Nat)), some (.ref e), v4, v5] (fun H' => Same H2 H') ?_ fun H6 s6 => ?_
    · walk_at "sx"
      refine ⟨_, rfl, v, e, C, fo, i, rfl, E4, TC, TK, fun p5 H5 s5 e5 => ?_⟩
      walk_at "sx"
      refine ⟨by decide, by decide, ?_⟩
      refine lc_all 21 (fun j => .bl (decide (j = i))) (by rw [sizeLine_eq]; decide) (fun j H lt _ => by simpa [Itr] using lt) (fun H _ => by simp [Itr]) (fun j H7 x H8 K lt s7 y k => ?_) (fun D H7 hD s7 eD => ?_)
      · obtain ⟨rfl, rfl⟩ := y
        walk_at "sx"
        have e1 : decide ((0 : Int) + (j : Nat) = (i : Nat)) = decide (j = i) := by rw [decide_eq_decide]; omega
        rw [e1]
        exact k _ (Same.refl _)
      · walk_at "sx"
        refine ne_bools ((List.range 21).map fun j => decide (j = i)) (SqL.of (by rw [s7 _ _ e5]; rfl)) (SqL.of (by rw [eD, List.map_map]; rfl)) ?_
        walk_at "sx"
        exact (s4.trans s5).trans s7
    refine mid_one [some v, some (.ref p), some (.int (i : Nat)), some (.ref e), some (.int (baseOf i : Nat)), v5] (fun H' => H' = H6) ?_ ?_
    · walk_at "sx"
      unfold baseOf
      by_cases c1 : i < 10
      · rw [if_pos (by simp; omega), if_pos c1]; exact rfl
      · rw [if_neg (by simp; omega), if_neg c1]
        by_cases c2 : i < 20
        · rw [if_pos (by simp; omega), if_pos c2]; exact rfl
        · rw [if_neg (by simp; omega), if_neg c2]; exact rfl
    rintro _ rfl
    walk_at "sx"
    refine ⟨_, rfl, v, e, C, fo, baseOf i, rfl, g3.same s6, TC, TBs, fun p7 H7 s7 e7 => ?_⟩
    intro t6 ht6
    refine ⟨⟨_, SqT.of upd_same⟩, ?_⟩
    have s8 : Same H7 (upd H7 t6 (HO.tup [V.int 0, V.int 1, V.int 2, V.int 0, V.int 1, V.int 2])) := same_upd ht6
    have e8 : SqT g.K (upd H7 t6 (HO.tup [V.int 0, V.int 1, V.int 2, V.int 0, V.int 1, V.int 2])) t6 ([0, 1, 2, 0, 1, 2].map V.int) := SqT.of upd_same
    generalize upd H7 t6 (HO.tup [V.int 0, V.int 1, V.int 2, V.int 0, V.int 1, V.int 2]) = G7 at s8 e8 ⊢
    refine lc_all 6 (fun j => .bl (decide (baseOf i = j % 3))) (by rw [sizeLine_eq]; decide) (fun j H lt' sm => ⟨_, ([0, 1, 2, 0, 1, 2].map V.int)[j], sqT_same e8 sm, List.getElem?_eq_getElem (by simpa using lt')⟩) (fun H sm => ⟨_, sqT_same e8 sm, by decide⟩) (fun j H8 x H9 K lt' s9 y k => ?_) (fun D H8 hD s9 eD => ?_)
    · obtain ⟨rfl, y⟩ := y
      have y := y _ (sqT_same e8 s9)
      have hx : x = .int ((j % 3 : Nat) : Int) := by
        have : ∀ j : Nat, j < 6 → ([0, 1, 2, 0, 1, 2].map V.int)[j]? = some (.int ((j % 3 : Nat) : Int)) := by decide
        rw [this j lt'] at y
        exact (Option.some.inj y).symm
      subst hx
      walk_at "sx"
      have e1 : decide (((baseOf i : Nat) : Int) = ((j % 3 : Nat) : Int)) = decide (baseOf i = j % 3) := by rw [decide_eq_decide]; omega
      rw [e1]
      exact k _ (Same.refl _)
    · intro p9 hp9
      have s9' := same_upd (o := HO.lst [V.bl false, V.bl false]) hp9
      refine .inl ⟨D, p9, _, _, rfl, rfl, s9' _ _ eD, upd_same, by rw [sizeLine_eq]; simp, fun p10 hp10 => ?_⟩
      have s10 := same_new (o := HO.lst ((List.range 6).map (fun j => V.bl (decide (baseOf i = j % 3))) ++ [V.bl false, V.bl false])) s9' hp10
      simp only [ne_rr]
      refine ne_bools [decide (baseOf i = 0), decide (baseOf i = 1), decide (baseOf i = 2), decide (baseOf i = 0), decide (baseOf i = 1), decide (baseOf i = 2), false, false] (SqL.of (s10 _ _ (s9 _ _ (s8 _ _ e7)))) (SqL.of upd_same) ?_
      walk_at "sx"
      exact ⟨⟨_, rfl⟩, ((((s6.trans s7).trans s8).trans s9).trans s10)⟩
  · obtain ⟨⟨v2, v3, v4, v5, rfl⟩, s3⟩ := P
    walk_at "sx"
    exact q H3 ((s1.trans s2).trans s3)
end


theorem shows_of {d : PyData} (h1 : d.showable = true) (h2 : d.depth ≤ 50) (h3 : d.shown.length ≤ 1000) : Shows d := by
  refine ⟨?_, ?_, ?_⟩
  · simp only [PyData.showable]; exact showableAll_rep h1 16
  · have := depthAll_rep d 16
    simp only [PyData.depth]; omega
  · rw [PyData.shown_list, shownAll_rep]
    have h := join_len_le 16 1000 (List.replicate 16 d.shown) (by simp) (fun t ht => by rw [List.eq_of_mem_replicate ht]; exact h3)
    rw [Str.length_append, Str.length_append, sizeLine_eq]
    have e1 : (("[" : Str)).length = 1 := by decide +kernel
    have e2 : (("]" : Str)).length = 1 := by decide +kernel
    omega
section
variable {g : Wd} {f : Addr} {fd : FuncData}
theorem sc_law : FnScope ["_law_script", "_law_k", "_law_item", "_law_stream_here", "_law_small", "_law_some"] ["_law_script"] (defScope s_law) := ⟨rfl, rfl, rfl, by decide +kernel, rfl, by decide +kernel, by decide +kernel⟩
def sp_law (K : PySem.W.Frag) : Sp := S1 fun z H Q _ => ∃ (a : Addr) (ns : List Int), z = .ref a ∧ SqL K H a (ns.map V.int) ∧ ns.length ≤ 100000 ∧ ∀ H', Q (.bl true) H'
theorem ok_law (F : Df g.K "law" "law" s_law f fd .none) (T : TxtB g) (F_l_stream : Kn g "_law_stream" 2 ["_law_item", "_law_k"] [] sp_stream) (F_l_pick : Kn g "_law_pick" 3 ["_law_stream_here", "_law_some"] [] sp_pick) (F_l_right : Kn g "_law_right" 4 ["_law_one"] [] (sp_right g.K)) : FnG g 5 f fd ["_law_script"] (sp_law g.K) := by
  refine F.ok sc_law (fun vs H Q E h => S1.len h) (fun cdv A outer s H vs Q E hr h => ?_)
  obtain ⟨_, rfl, a, ns, rfl, hA, hl, q⟩ := h
  refine ⟨_, (pss_cons (ps_for psD rfl (i_enum (K := g.K) T.b_enumerate (pa_cons (pe_slice (o_sl (K := g.K)) (pe_op (op_catW (K := g.K)) (pv 0) (pe_lst (pa_cons pe_int pa_nil))) po_none (po_some pe_int)) pa_nil)) (g_tup (K := g.K) (n := 2) (pgs_cons (pg_name (i := 1) sc_law.nd rfl (.inl rfl)) (pgs_cons (pg_name (i := 2) sc_law.nd rfl (.inl rfl)) pgs_nil))) (pss_mid (ps_set (i := 3) sc_law.nd rfl (Or.inl rfl) (pe_callG F_l_stream (hr.mono (by decide)) tkD (pa_cons (pv 2) (pa_cons (pv 1) pa_nil))))
      (pss_mid (ps_set (i := 4) sc_law.nd rfl (Or.inl rfl) (pe_op op_mod (pv 2) (pe_op op_pow pe_int pe_int)))
      (pss_mid (ps_set (i := 5) sc_law.nd rfl (Or.inl rfl) (pe_lst (pa_cons pe_non (pa_cons pe_bl (pa_cons pe_int (pa_cons pe_str (pa_cons pe_str (pa_cons (pe_tup (pa_cons pe_str (pa_cons pe_int pa_nil))) (pa_cons (pe_lst (pa_cons pe_int (pa_cons pe_str pa_nil))) (pa_cons (pe_disp (pps_cons pe_str pe_int pps_nil) (by rfl) (by rfl) (fun z => by cases z) (by decide)) (pa_cons (pe_op op_sub pe_int (pv 4)) (pa_cons (pe_tup pa_nil) pa_nil))))))))))))
      (pss_one (ps_if (PW.pt (pw_or (pt_not (pt_val (pe_callG F_l_right (hr.mono (by decide)) tkD (pa_cons (pe_callG F_l_pick (hr.mono (by decide)) tkD (pa_cons (pv 3) (pa_cons (pv 5) pa_nil))) pa_nil)))) (pw_or1 (pt_not (pt_val (pe_callG F_l_right (hr.mono (by decide)) tkD (pa_cons (pv 4) pa_nil))))))) (pss_one (ps_ret pe_bl)) pss_nil))))))
      (pss_one (ps_ret pe_bl))), ?_⟩
  walk_at "sx"
  intro p0 hp0
  refine ⟨a, p0, _, _, rfl, rfl, sq_same hA (same_upd hp0), SqL.of upd_same, by rw [sizeLine_eq, List.length_map]; simp; omega, fun p1 hp1 => ?_⟩
  refine .inl ⟨p1, _, rfl, SqL.of upd_same, fun L hL => ⟨L, rfl, _, SqL.of upd_same, ?_⟩⟩
  rw [cutV_to _ (by decide)]
  have eL : (upd (upd (upd H p0 (HO.lst [V.int 0])) p1 (HO.lst (List.map V.int ns ++ [V.int 0]))) L (HO.lst ((List.map V.int ns ++ [V.int 0]).take (Int.toNat 8)))) L = some (.lst (((ns ++ [0]).take 8).map V.int)) := by rw [upd_same]; simp
  generalize (upd (upd (upd H p0 (HO.lst [V.int 0])) p1 (HO.lst (List.map V.int ns ++ [V.int 0]))) L (HO.lst ((List.map V.int ns ++ [V.int 0]).take (Int.toNat 8)))) = G at eL ⊢
  have l8 : ((ns ++ [0]).take 8).length ≤ 8 := by simp; omega
  generalize (ns ++ [0]).take 8 = cs at eL l8 ⊢
  have gt : ∀ i : Nat, i < cs.length → (cs.map V.int)[i]? = some (.int (cs[i]?.getD 0)) := fun i h => by simp [h]
  refine for_by cs.length (fun i σ H' => (∃ v1 v2 v3 v4 v5, σ = [some (.ref a), v1, v2, v3, v4, v5]) ∧ H' L = some (.lst (cs.map V.int))) ⟨⟨_, _, _, _, _, rfl⟩, eL⟩ (fun i σ H1 lt P => ⟨_, _, SqL.of P.2, gt i lt⟩) (fun σ H1 P => ⟨_, SqL.of P.2, by simp⟩) (fun i σ H3 x H4 lt P yl => ?_) (fun σ H3 P => ?_)
  · obtain ⟨⟨v1, v2, v3, v4, v5, rfl⟩, eL⟩ := P
    obtain ⟨T', z, rfl, hT, rfl, hz⟩ := yl
    have hz := hz _ (SqL.of eL)
    rw [gt i lt] at hz
    obtain rfl : V.int (cs[i]?.getD 0) = z := by simpa using hz
    generalize (cs[i]?.getD 0) = c at hz ⊢
    have hi : i < 8 := by omega
    have s4 : Same H3 (upd H3 T' (.tup [.int (i : Nat), .int c])) := same_upd hT
    walk_at "sx"
    refine ⟨_, SqT.of upd_same, rfl, ?_⟩
    walk_at "sx"
    generalize upd H3 T' (.tup [.int (i : Nat), .int c]) = G4 at s4 ⊢
    refine mid_at (fun σ H' => ∃ p, σ = [some (.ref a), some (.int (i : Nat)), some (.int c), some (.ref p), v4, v5] ∧ G4 p = none ∧ Same G4 H' ∧ Str3 H' p 0) ?_ ?_
    · walk_at "sx"
      exact ⟨_, _, rfl, c, i, rfl, rfl, by omega, by omega, fun p H' n' s' h' => ⟨p, rfl, n', s', h'⟩⟩
    rintro _ H5 ⟨p, rfl, n5, s5, hS⟩
    refine mid_one [some (.ref a), some (.int (i : Nat)), some (.int c), some (.ref p), some (.int (c % 10 ^ 30)), v5] (fun H' => H' = H5) ?_ ?_
    · walk_at "sx"
      exact ⟨⟨by decide, by decide, by decide⟩, by decide, rfl⟩
    intro H5' e5
    rw [e5]
    clear e5 H5'
    refine mid_at (fun σ H' => ∃ s xs, σ = [some (.ref a), some (.int (i : Nat)), some (.int c), some (.ref p), some (.int (c % 10 ^ 30)), some (.ref s)] ∧ Same H5 H' ∧ H' s = some (.lst xs) ∧ xs.length = 10 ∧ ∀ H6, (∀ c o, c ≠ p → H' c = some o → H6 c = some o) → ∀ v ∈ xs, ∃ d, DpX g.K H6 v d ∧ Shows d) ?_ ?_
    · walk_at "sx"
      have fr : ∀ {G : Hp} {t : Addr} , Same H5 G → G t = none → t ≠ p := fun s h z => by
        obtain ⟨_, _, _, h1, _⟩ := hS
        have := s _ _ h1
        rw [z, this] at h
        cases h
      intro t ht
      have n1 := fr (Same.refl _) ht
      have a1 := same_upd (o := HO.tup [V.str "a", V.int 1]) ht
      have b1 := upd_same (H := H5) (a := t) (o := HO.tup [V.str "a", V.int 1])
      generalize upd H5 t (HO.tup [V.str "a", V.int 1]) = G1 at a1 b1 ⊢
      intro l hl
      have n2 := fr a1 hl
      have a2 := same_upd (o := HO.lst [V.int 1, V.str "x"]) hl
      have b2 := upd_same (H := G1) (a := l) (o := HO.lst [V.int 1, V.str "x"])
      generalize upd G1 l (HO.lst [V.int 1, V.str "x"]) = G2 at a2 b2 ⊢
      intro dd hdd
      have n3 := fr (a1.trans a2) hdd
      refine ⟨[(.inr "a", .int 1)], rfl, by decide, ?_⟩
      have a3 : Same G2 (upd (upd G2 dd (HO.dK [])) dd (HO.dK (mergeK [] [((.inr "a" : Key), V.int 1)]))) := fun b u e => by rw [upd_ne (ne_of_none e hdd), upd_ne (ne_of_none e hdd)]; exact e
      have b3 := upd_same (H := upd G2 dd (HO.dK [])) (a := dd) (o := HO.dK (mergeK [] [((.inr "a" : Key), V.int 1)]))
      generalize upd (upd G2 dd (HO.dK [])) dd (HO.dK (mergeK [] [((.inr "a" : Key), V.int 1)])) = G3 at a3 b3 ⊢
      intro u hu
      have n4 := fr ((a1.trans a2).trans a3) hu
      have a4 := same_upd (o := HO.tup []) hu
      have b4 := upd_same (H := G3) (a := u) (o := HO.tup [])
      generalize upd G3 u (HO.tup []) = G5 at a4 b4 ⊢
      intro r hr5
      have a5 := same_upd (o := HO.lst [V.non, V.bl true, V.int 0, V.str "", V.str "a key", V.ref t, V.ref l, V.ref dd, V.int (0 - c % 10 ^ 30), V.ref u]) hr5
      generalize upd G5 r (HO.lst [V.non, V.bl true, V.int 0, V.str "", V.str "a key", V.ref t, V.ref l, V.ref dd, V.int (0 - c % 10 ^ 30), V.ref u]) = G6 at a5 ⊢
      refine ⟨(((a1.trans a2).trans a3).trans a4).trans a5, fun H6 k v hv => ?_⟩
      have c1 := k _ _ n1 (a5 _ _ (a4 _ _ (a3 _ _ (a2 _ _ b1))))
      have c2 := k _ _ n2 (a5 _ _ (a4 _ _ (a3 _ _ b2)))
      have c3 := k _ _ n3 (a5 _ _ (a4 _ _ b3))
      have c4 := k _ _ n4 (a5 _ _ b4)
      simp only [List.mem_cons, List.not_mem_nil, or_false] at hv
      rcases hv with rfl | rfl | rfl | rfl | rfl | rfl | rfl | rfl | rfl | rfl
      · exact ⟨_, .non, shows_of (by decide +kernel) (by decide +kernel) (by decide +kernel)⟩
      · exact ⟨_, .bl _, shows_of (by decide +kernel) (by decide +kernel) (by decide +kernel)⟩
      · exact ⟨_, .int _, shows_of (by decide +kernel) (by decide +kernel) (by decide +kernel)⟩
      · exact ⟨_, .str _, shows_of (by decide +kernel) (by decide +kernel) (by decide +kernel)⟩
      · exact ⟨_, .str _, shows_of (by decide +kernel) (by decide +kernel) (by decide +kernel)⟩
      · exact ⟨_, .tup (SqT.of c1) (.cons (.str _) (.cons (.int _) .nil)), shows_of (by decide +kernel) (by decide +kernel) (by decide +kernel)⟩
      · exact ⟨_, .lst (SqL.of c2) (.cons (.int _) (.cons (.str _) .nil)), shows_of (by decide +kernel) (by decide +kernel) (by decide +kernel)⟩
      · exact ⟨_, .dct c3 (.cons (.int _) .nil), shows_of (by decide +kernel) (by decide +kernel) (by decide +kernel)⟩
      · have b0 : 0 ≤ c % 10 ^ 30 := Int.emod_nonneg _ (by decide)
        have b1 : c % 10 ^ 30 < 10 ^ 30 := Int.emod_lt_of_pos _ (by decide)
        obtain ⟨x1, x2, x3⟩ := show_int (i := 0 - c % 10 ^ 30) (by omega)
        exact ⟨_, .int _, shows_of x1 (by omega) x3⟩
      · exact ⟨_, .tup (SqT.of c4) .nil, shows_of (by decide +kernel) (by decide +kernel) (by decide +kernel)⟩
    rintro _ H6 ⟨s, xs, rfl, s6, hs, lx, hx⟩
    have hS6 : Str3 H6 p 0 := by obtain ⟨a, b, c, h1, h2⟩ := hS; exact ⟨a, b, c, s6 _ _ h1, h2⟩
    have ne : p ≠ s := fun z => by obtain ⟨_, _, _, h1, _⟩ := hS6; rw [z, hs] at h1; cases h1; simp at lx
    have Lp : L ≠ p := fun z => by
      have := s4 _ _ eL
      rw [z, n5] at this
      cases this
    walk_at "sx"
    refine ⟨_, _, rfl, p, s, xs, 0, rfl, rfl, hS6, by decide, hs, ne, by omega, by omega, fun v H7 hv S7 k7 => ?_⟩
    obtain ⟨d, hd, hw⟩ := hx H7 k7 v hv
    refine ⟨_, rfl, d, hd, hw, fun H8 s8 => ?_⟩
    walk_at "sx"
    have b0 : 0 ≤ c % 10 ^ 30 := Int.emod_nonneg _ (by decide)
    have b1 : c % 10 ^ 30 < 10 ^ 30 := Int.emod_lt_of_pos _ (by decide)
    obtain ⟨x1, x2, x3⟩ := show_int (i := c % 10 ^ 30) (by omega)
    refine ⟨_, rfl, _, .int _, shows_of x1 (by omega) x3, fun H9 s9 => ?_⟩
    walk_at "sx"
    exact ⟨⟨_, rfl⟩, s9 _ _ (s8 _ _ (k7 _ _ Lp (s6 _ _ (s5 _ _ (s4 _ _ eL)))))⟩
  · obtain ⟨⟨v1, v2, v3, v4, v5, rfl⟩, eL⟩ := P
    walk_at "sx"
    exact q _
end


theorem xst_InvalidValue : XSt1 "InvalidValue.__init__" s_InvalidValue__init "path" "path" where
  bd := ⟨_, _, _, _, _, _, _, _, _, _, _, _, rfl, fun L fI cda cc => ⟨rfl, rfl, rfl, ⟨_, rfl⟩, rfl⟩⟩
  ar := ⟨_, rfl, rfl⟩
  ks := rfl
  kc := rfl
  ka := rfl
  kx := rfl
  kd := rfl
  co := rfl
  ge := rfl
  ce := by decide +kernel
  bi := fun oc kV doc pm an cdv ct cc u v => rfl
  ne := by decide
  dbg := by decide
theorem xst_InvalidText : XSt1 "InvalidText.__init__" s_InvalidText__init "position" "position" where
  bd := ⟨_, _, _, _, _, _, _, _, _, _, _, _, rfl, fun L fI cda cc => ⟨rfl, rfl, rfl, ⟨_, rfl⟩, rfl⟩⟩
  ar := ⟨_, rfl, rfl⟩
  ks := rfl
  kc := rfl
  ka := rfl
  kx := rfl
  kd := rfl
  co := rfl
  ge := rfl
  ce := by decide +kernel
  bi := fun oc kV doc pm an cdv ct cc u v => rfl
  ne := by decide
  dbg := by decide
theorem xst_InvalidPath : XSt1 "InvalidPath.__init__" s_InvalidPath__init "given" "given" where
  bd := ⟨_, _, _, _, _, _, _, _, _, _, _, _, rfl, fun L fI cda cc => ⟨rfl, rfl, rfl, ⟨_, rfl⟩, rfl⟩⟩
  ar := ⟨_, rfl, rfl⟩
  ks := rfl
  kc := rfl
  ka := rfl
  kx := rfl
  kd := rfl
  co := rfl
  ge := rfl
  ce := by decide +kernel
  bi := fun oc kV doc pm an cdv ct cc u v => rfl
  ne := by decide
  dbg := by decide
theorem xst_InvalidKey : XSt1 "InvalidKey.__init__" s_InvalidKey__init "given" "given" where
  bd := ⟨_, _, _, _, _, _, _, _, _, _, _, _, rfl, fun L fI cda cc => ⟨rfl, rfl, rfl, ⟨_, rfl⟩, rfl⟩⟩
  ar := ⟨_, rfl, rfl⟩
  ks := rfl
  kc := rfl
  ka := rfl
  kx := rfl
  kd := rfl
  co := rfl
  ge := rfl
  ce := by decide +kernel
  bi := fun oc kV doc pm an cdv ct cc u v => rfl
  ne := by decide
  dbg := by decide
theorem xst_InvalidKind : XSt1 "InvalidKind.__init__" s_InvalidKind__init "given" "given" where
  bd := ⟨_, _, _, _, _, _, _, _, _, _, _, _, rfl, fun L fI cda cc => ⟨rfl, rfl, rfl, ⟨_, rfl⟩, rfl⟩⟩
  ar := ⟨_, rfl, rfl⟩
  ks := rfl
  kc := rfl
  ka := rfl
  kx := rfl
  kd := rfl
  co := rfl
  ge := rfl
  ce := by decide +kernel
  bi := fun oc kV doc pm an cdv ct cc u v => rfl
  ne := by decide
  dbg := by decide
theorem xst_InvalidNumber : XSt1 "InvalidNumber.__init__" s_InvalidNumber__init "given" "given" where
  bd := ⟨_, _, _, _, _, _, _, _, _, _, _, _, rfl, fun L fI cda cc => ⟨rfl, rfl, rfl, ⟨_, rfl⟩, rfl⟩⟩
  ar := ⟨_, rfl, rfl⟩
  ks := rfl
  kc := rfl
  ka := rfl
  kx := rfl
  kd := rfl
  co := rfl
  ge := rfl
  ce := by decide +kernel
  bi := fun oc kV doc pm an cdv ct cc u v => rfl
  ne := by decide
  dbg := by decide
theorem xst_InvalidMapping : XSt1 "InvalidMapping.__init__" s_InvalidMapping__init "given" "given" where
  bd := ⟨_, _, _, _, _, _, _, _, _, _, _, _, rfl, fun L fI cda cc => ⟨rfl, rfl, rfl, ⟨_, rfl⟩, rfl⟩⟩
  ar := ⟨_, rfl, rfl⟩
  ks := rfl
  kc := rfl
  ka := rfl
  kx := rfl
  kd := rfl
  co := rfl
  ge := rfl
  ce := by decide +kernel
  bi := fun oc kV doc pm an cdv ct cc u v => rfl
  ne := by decide
  dbg := by decide
theorem xst_InvalidVolume : XSt1 "InvalidVolume.__init__" s_InvalidVolume__init "part" "part" where
  bd := ⟨_, _, _, _, _, _, _, _, _, _, _, _, rfl, fun L fI cda cc => ⟨rfl, rfl, rfl, ⟨_, rfl⟩, rfl⟩⟩
  ar := ⟨_, rfl, rfl⟩
  ks := rfl
  kc := rfl
  ka := rfl
  kx := rfl
  kd := rfl
  co := rfl
  ge := rfl
  ce := by decide +kernel
  bi := fun oc kV doc pm an cdv ct cc u v => rfl
  ne := by decide
  dbg := by decide
theorem xst_InvalidShelf : XSt1 "InvalidShelf.__init__" s_InvalidShelf__init "part" "part" where
  bd := ⟨_, _, _, _, _, _, _, _, _, _, _, _, rfl, fun L fI cda cc => ⟨rfl, rfl, rfl, ⟨_, rfl⟩, rfl⟩⟩
  ar := ⟨_, rfl, rfl⟩
  ks := rfl
  kc := rfl
  ka := rfl
  kx := rfl
  kd := rfl
  co := rfl
  ge := rfl
  ce := by decide +kernel
  bi := fun oc kV doc pm an cdv ct cc u v => rfl
  ne := by decide
  dbg := by decide
theorem xst_InvalidDeed : XSt1 "InvalidDeed.__init__" s_InvalidDeed__init "index" "index" where
  bd := ⟨_, _, _, _, _, _, _, _, _, _, _, _, rfl, fun L fI cda cc => ⟨rfl, rfl, rfl, ⟨_, rfl⟩, rfl⟩⟩
  ar := ⟨_, rfl, rfl⟩
  ks := rfl
  kc := rfl
  ka := rfl
  kx := rfl
  kd := rfl
  co := rfl
  ge := rfl
  ce := by decide +kernel
  bi := fun oc kV doc pm an cdv ct cc u v => rfl
  ne := by decide
  dbg := by decide
theorem xst_NotBlank : XSt1 "NotBlank.__init__" s_NotBlank__init "page" "page" where
  bd := ⟨_, _, _, _, _, _, _, _, _, _, _, _, rfl, fun L fI cda cc => ⟨rfl, rfl, rfl, ⟨_, rfl⟩, rfl⟩⟩
  ar := ⟨_, rfl, rfl⟩
  ks := rfl
  kc := rfl
  ka := rfl
  kx := rfl
  kd := rfl
  co := rfl
  ge := rfl
  ce := by decide +kernel
  bi := fun oc kV doc pm an cdv ct cc u v => rfl
  ne := by decide
  dbg := by decide
theorem xst_Damaged : XSt1 "Damaged.__init__" s_Damaged__init "page" "page" where
  bd := ⟨_, _, _, _, _, _, _, _, _, _, _, _, rfl, fun L fI cda cc => ⟨rfl, rfl, rfl, ⟨_, rfl⟩, rfl⟩⟩
  ar := ⟨_, rfl, rfl⟩
  ks := rfl
  kc := rfl
  ka := rfl
  kx := rfl
  kd := rfl
  co := rfl
  ge := rfl
  ce := by decide +kernel
  bi := fun oc kV doc pm an cdv ct cc u v => rfl
  ne := by decide
  dbg := by decide
theorem xst_NoKey : XSt1 "NoKey.__init__" s_NoKey__init "given" "given" where
  bd := ⟨_, _, _, _, _, _, _, _, _, _, _, _, rfl, fun L fI cda cc => ⟨rfl, rfl, rfl, ⟨_, rfl⟩, rfl⟩⟩
  ar := ⟨_, rfl, rfl⟩
  ks := rfl
  kc := rfl
  ka := rfl
  kx := rfl
  kd := rfl
  co := rfl
  ge := rfl
  ce := by decide +kernel
  bi := fun oc kV doc pm an cdv ct cc u v => rfl
  ne := by decide
  dbg := by decide
theorem xst_NotWritable : XSt1 "NotWritable.__init__" s_NotWritable__init "given" "given" where
  bd := ⟨_, _, _, _, _, _, _, _, _, _, _, _, rfl, fun L fI cda cc => ⟨rfl, rfl, rfl, ⟨_, rfl⟩, rfl⟩⟩
  ar := ⟨_, rfl, rfl⟩
  ks := rfl
  kc := rfl
  ka := rfl
  kx := rfl
  kd := rfl
  co := rfl
  ge := rfl
  ce := by decide +kernel
  bi := fun oc kV doc pm an cdv ct cc u v => rfl
  ne := by decide
  dbg := by decide
theorem xst_Conflict : XSt1 "Conflict.__init__" s_Conflict__init "given" "given" where
  bd := ⟨_, _, _, _, _, _, _, _, _, _, _, _, rfl, fun L fI cda cc => ⟨rfl, rfl, rfl, ⟨_, rfl⟩, rfl⟩⟩
  ar := ⟨_, rfl, rfl⟩
  ks := rfl
  kc := rfl
  ka := rfl
  kx := rfl
  kd := rfl
  co := rfl
  ge := rfl
  ce := by decide +kernel
  bi := fun oc kV doc pm an cdv ct cc u v => rfl
  ne := by decide
  dbg := by decide
theorem xst_Dead : XSt0 "Dead.__init__" s_Dead__init where
  bd := ⟨_, _, _, _, _, _, _, _, rfl, fun L fI cda cc => ⟨rfl, rfl, rfl, ⟨_, rfl⟩⟩⟩
  ar := ⟨_, rfl, rfl⟩
  ks := rfl
  kc := rfl
  ka := rfl
  kd := rfl
  co := rfl
  ge := rfl
  ce := by decide +kernel
  bi := fun oc kV doc pm an cdv ct cc u => rfl
theorem xst_Closed : XSt0 "Closed.__init__" s_Closed__init where
  bd := ⟨_, _, _, _, _, _, _, _, rfl, fun L fI cda cc => ⟨rfl, rfl, rfl, ⟨_, rfl⟩⟩⟩
  ar := ⟨_, rfl, rfl⟩
  ks := rfl
  kc := rfl
  ka := rfl
  kd := rfl
  co := rfl
  ge := rfl
  ce := by decide +kernel
  bi := fun oc kV doc pm an cdv ct cc u => rfl
theorem xst_Locked : XSt0 "Locked.__init__" s_Locked__init where
  bd := ⟨_, _, _, _, _, _, _, _, rfl, fun L fI cda cc => ⟨rfl, rfl, rfl, ⟨_, rfl⟩⟩⟩
  ar := ⟨_, rfl, rfl⟩
  ks := rfl
  kc := rfl
  ka := rfl
  kd := rfl
  co := rfl
  ge := rfl
  ce := by decide +kernel
  bi := fun oc kV doc pm an cdv ct cc u => rfl
theorem xst_Busy : XSt0 "Busy.__init__" s_Busy__init where
  bd := ⟨_, _, _, _, _, _, _, _, rfl, fun L fI cda cc => ⟨rfl, rfl, rfl, ⟨_, rfl⟩⟩⟩
  ar := ⟨_, rfl, rfl⟩
  ks := rfl
  kc := rfl
  ka := rfl
  kd := rfl
  co := rfl
  ge := rfl
  ce := by decide +kernel
  bi := fun oc kV doc pm an cdv ct cc u => rfl
theorem xst_NothingToUndo : XSt0 "NothingToUndo.__init__" s_NothingToUndo__init where
  bd := ⟨_, _, _, _, _, _, _, _, rfl, fun L fI cda cc => ⟨rfl, rfl, rfl, ⟨_, rfl⟩⟩⟩
  ar := ⟨_, rfl, rfl⟩
  ks := rfl
  kc := rfl
  ka := rfl
  kd := rfl
  co := rfl
  ge := rfl
  ce := by decide +kernel
  bi := fun oc kV doc pm an cdv ct cc u => rfl
theorem xst_TooLarge : XSt1 "TooLarge.__init__" s_TooLarge__init "limit" "limit" where
  bd := ⟨_, _, _, _, _, _, _, _, _, _, _, _, rfl, fun L fI cda cc => ⟨rfl, rfl, rfl, ⟨_, rfl⟩, rfl⟩⟩
  ar := ⟨_, rfl, rfl⟩
  ks := rfl
  kc := rfl
  ka := rfl
  kx := rfl
  kd := rfl
  co := rfl
  ge := rfl
  ce := by decide +kernel
  bi := fun oc kV doc pm an cdv ct cc u v => rfl
  ne := by decide
  dbg := by decide
theorem all_mk {l : PySem.W.OpenLaw} {w : World} {K : PySem.W.Frag} {h : Heap} {mg : Str → Option Value} {fa : Addr}
    {C_InvalidValue fI_InvalidValue cda_InvalidValue cc_InvalidValue : Addr} {oc_InvalidValue kV_InvalidValue doc_InvalidValue pm_InvalidValue ct_InvalidValue ccl_InvalidValue cl_InvalidValue : Value} {od_InvalidValue an_InvalidValue cdd_InvalidValue cld_InvalidValue : Option Addr} {osl_InvalidValue ccs_InvalidValue csl_InvalidValue : Array (Option Value)} {vs_InvalidValue : Array Value} {file_InvalidValue : Str} {tf_InvalidValue : Tok}
    {C_InvalidText fI_InvalidText cda_InvalidText cc_InvalidText : Addr} {oc_InvalidText kV_InvalidText doc_InvalidText pm_InvalidText ct_InvalidText ccl_InvalidText cl_InvalidText : Value} {od_InvalidText an_InvalidText cdd_InvalidText cld_InvalidText : Option Addr} {osl_InvalidText ccs_InvalidText csl_InvalidText : Array (Option Value)} {vs_InvalidText : Array Value} {file_InvalidText : Str} {tf_InvalidText : Tok}
    {C_InvalidPath fI_InvalidPath cda_InvalidPath cc_InvalidPath : Addr} {oc_InvalidPath kV_InvalidPath doc_InvalidPath pm_InvalidPath ct_InvalidPath ccl_InvalidPath cl_InvalidPath : Value} {od_InvalidPath an_InvalidPath cdd_InvalidPath cld_InvalidPath : Option Addr} {osl_InvalidPath ccs_InvalidPath csl_InvalidPath : Array (Option Value)} {vs_InvalidPath : Array Value} {file_InvalidPath : Str} {tf_InvalidPath : Tok}
    {C_InvalidKey fI_InvalidKey cda_InvalidKey cc_InvalidKey : Addr} {oc_InvalidKey kV_InvalidKey doc_InvalidKey pm_InvalidKey ct_InvalidKey ccl_InvalidKey cl_InvalidKey : Value} {od_InvalidKey an_InvalidKey cdd_InvalidKey cld_InvalidKey : Option Addr} {osl_InvalidKey ccs_InvalidKey csl_InvalidKey : Array (Option Value)} {vs_InvalidKey : Array Value} {file_InvalidKey : Str} {tf_InvalidKey : Tok}
    {C_InvalidKind fI_InvalidKind cda_InvalidKind cc_InvalidKind : Addr} {oc_InvalidKind kV_InvalidKind doc_InvalidKind pm_InvalidKind ct_InvalidKind ccl_InvalidKind cl_InvalidKind : Value} {od_InvalidKind an_InvalidKind cdd_InvalidKind cld_InvalidKind : Option Addr} {osl_InvalidKind ccs_InvalidKind csl_InvalidKind : Array (Option Value)} {vs_InvalidKind : Array Value} {file_InvalidKind : Str} {tf_InvalidKind : Tok}
    {C_InvalidNumber fI_InvalidNumber cda_InvalidNumber cc_InvalidNumber : Addr} {oc_InvalidNumber kV_InvalidNumber doc_InvalidNumber pm_InvalidNumber ct_InvalidNumber ccl_InvalidNumber cl_InvalidNumber : Value} {od_InvalidNumber an_InvalidNumber cdd_InvalidNumber cld_InvalidNumber : Option Addr} {osl_InvalidNumber ccs_InvalidNumber csl_InvalidNumber : Array (Option Value)} {vs_InvalidNumber : Array Value} {file_InvalidNumber : Str} {tf_InvalidNumber : Tok}
    {C_InvalidMapping fI_InvalidMapping cda_InvalidMapping cc_InvalidMapping : Addr} {oc_InvalidMapping kV_InvalidMapping doc_InvalidMapping pm_InvalidMapping ct_InvalidMapping ccl_InvalidMapping cl_InvalidMapping : Value} {od_InvalidMapping an_InvalidMapping cdd_InvalidMapping cld_InvalidMapping : Option Addr} {osl_InvalidMapping ccs_InvalidMapping csl_InvalidMapping : Array (Option Value)} {vs_InvalidMapping : Array Value} {file_InvalidMapping : Str} {tf_InvalidMapping : Tok}
    {C_InvalidVolume fI_InvalidVolume cda_InvalidVolume cc_InvalidVolume : Addr} {oc_InvalidVolume kV_InvalidVolume doc_InvalidVolume pm_InvalidVolume ct_InvalidVolume ccl_InvalidVolume cl_InvalidVolume : Value} {od_InvalidVolume an_InvalidVolume cdd_InvalidVolume cld_InvalidVolume : Option Addr} {osl_InvalidVolume ccs_InvalidVolume csl_InvalidVolume : Array (Option Value)} {vs_InvalidVolume : Array Value} {file_InvalidVolume : Str} {tf_InvalidVolume : Tok}
    {C_InvalidShelf fI_InvalidShelf cda_InvalidShelf cc_InvalidShelf : Addr} {oc_InvalidShelf kV_InvalidShelf doc_InvalidShelf pm_InvalidShelf ct_InvalidShelf ccl_InvalidShelf cl_InvalidShelf : Value} {od_InvalidShelf an_InvalidShelf cdd_InvalidShelf cld_InvalidShelf : Option Addr} {osl_InvalidShelf ccs_InvalidShelf csl_InvalidShelf : Array (Option Value)} {vs_InvalidShelf : Array Value} {file_InvalidShelf : Str} {tf_InvalidShelf : Tok}
    {C_InvalidDeed fI_InvalidDeed cda_InvalidDeed cc_InvalidDeed : Addr} {oc_InvalidDeed kV_InvalidDeed doc_InvalidDeed pm_InvalidDeed ct_InvalidDeed ccl_InvalidDeed cl_InvalidDeed : Value} {od_InvalidDeed an_InvalidDeed cdd_InvalidDeed cld_InvalidDeed : Option Addr} {osl_InvalidDeed ccs_InvalidDeed csl_InvalidDeed : Array (Option Value)} {vs_InvalidDeed : Array Value} {file_InvalidDeed : Str} {tf_InvalidDeed : Tok}
    {C_NotBlank fI_NotBlank cda_NotBlank cc_NotBlank : Addr} {oc_NotBlank kV_NotBlank doc_NotBlank pm_NotBlank ct_NotBlank ccl_NotBlank cl_NotBlank : Value} {od_NotBlank an_NotBlank cdd_NotBlank cld_NotBlank : Option Addr} {osl_NotBlank ccs_NotBlank csl_NotBlank : Array (Option Value)} {vs_NotBlank : Array Value} {file_NotBlank : Str} {tf_NotBlank : Tok}
    {C_Damaged fI_Damaged cda_Damaged cc_Damaged : Addr} {oc_Damaged kV_Damaged doc_Damaged pm_Damaged ct_Damaged ccl_Damaged cl_Damaged : Value} {od_Damaged an_Damaged cdd_Damaged cld_Damaged : Option Addr} {osl_Damaged ccs_Damaged csl_Damaged : Array (Option Value)} {vs_Damaged : Array Value} {file_Damaged : Str} {tf_Damaged : Tok}
    {C_NoKey fI_NoKey cda_NoKey cc_NoKey : Addr} {oc_NoKey kV_NoKey doc_NoKey pm_NoKey ct_NoKey ccl_NoKey cl_NoKey : Value} {od_NoKey an_NoKey cdd_NoKey cld_NoKey : Option Addr} {osl_NoKey ccs_NoKey csl_NoKey : Array (Option Value)} {vs_NoKey : Array Value} {file_NoKey : Str} {tf_NoKey : Tok}
    {C_NotWritable fI_NotWritable cda_NotWritable cc_NotWritable : Addr} {oc_NotWritable kV_NotWritable doc_NotWritable pm_NotWritable ct_NotWritable ccl_NotWritable cl_NotWritable : Value} {od_NotWritable an_NotWritable cdd_NotWritable cld_NotWritable : Option Addr} {osl_NotWritable ccs_NotWritable csl_NotWritable : Array (Option Value)} {vs_NotWritable : Array Value} {file_NotWritable : Str} {tf_NotWritable : Tok}
    {C_Conflict fI_Conflict cda_Conflict cc_Conflict : Addr} {oc_Conflict kV_Conflict doc_Conflict pm_Conflict ct_Conflict ccl_Conflict cl_Conflict : Value} {od_Conflict an_Conflict cdd_Conflict cld_Conflict : Option Addr} {osl_Conflict ccs_Conflict csl_Conflict : Array (Option Value)} {vs_Conflict : Array Value} {file_Conflict : Str} {tf_Conflict : Tok}
    {C_Dead fI_Dead cda_Dead cc_Dead : Addr} {oc_Dead kV_Dead doc_Dead pm_Dead ct_Dead ccl_Dead cl_Dead : Value} {od_Dead an_Dead cdd_Dead cld_Dead : Option Addr} {osl_Dead ccs_Dead csl_Dead : Array (Option Value)} {vs_Dead : Array Value} {file_Dead : Str} {tf_Dead : Tok}
    {C_Closed fI_Closed cda_Closed cc_Closed : Addr} {oc_Closed kV_Closed doc_Closed pm_Closed ct_Closed ccl_Closed cl_Closed : Value} {od_Closed an_Closed cdd_Closed cld_Closed : Option Addr} {osl_Closed ccs_Closed csl_Closed : Array (Option Value)} {vs_Closed : Array Value} {file_Closed : Str} {tf_Closed : Tok}
    {C_Locked fI_Locked cda_Locked cc_Locked : Addr} {oc_Locked kV_Locked doc_Locked pm_Locked ct_Locked ccl_Locked cl_Locked : Value} {od_Locked an_Locked cdd_Locked cld_Locked : Option Addr} {osl_Locked ccs_Locked csl_Locked : Array (Option Value)} {vs_Locked : Array Value} {file_Locked : Str} {tf_Locked : Tok}
    {C_Busy fI_Busy cda_Busy cc_Busy : Addr} {oc_Busy kV_Busy doc_Busy pm_Busy ct_Busy ccl_Busy cl_Busy : Value} {od_Busy an_Busy cdd_Busy cld_Busy : Option Addr} {osl_Busy ccs_Busy csl_Busy : Array (Option Value)} {vs_Busy : Array Value} {file_Busy : Str} {tf_Busy : Tok}
    {C_NothingToUndo fI_NothingToUndo cda_NothingToUndo cc_NothingToUndo : Addr} {oc_NothingToUndo kV_NothingToUndo doc_NothingToUndo pm_NothingToUndo ct_NothingToUndo ccl_NothingToUndo cl_NothingToUndo : Value} {od_NothingToUndo an_NothingToUndo cdd_NothingToUndo cld_NothingToUndo : Option Addr} {osl_NothingToUndo ccs_NothingToUndo csl_NothingToUndo : Array (Option Value)} {vs_NothingToUndo : Array Value} {file_NothingToUndo : Str} {tf_NothingToUndo : Tok}
    {C_TooLarge fI_TooLarge cda_TooLarge cc_TooLarge : Addr} {oc_TooLarge kV_TooLarge doc_TooLarge pm_TooLarge ct_TooLarge ccl_TooLarge cl_TooLarge : Value} {od_TooLarge an_TooLarge cdd_TooLarge cld_TooLarge : Option Addr} {osl_TooLarge ccs_TooLarge csl_TooLarge : Array (Option Value)} {vs_TooLarge : Array Value} {file_TooLarge : Str} {tf_TooLarge : Tok}
    {B_0 : Addr}
    {B_1 : Addr}
    {B_2 : Addr}
    {f_l_mixed : Addr} {od_l_mixed an_l_mixed : Option Addr} {sl_l_mixed : Array (Option Value)} {oc_l_mixed kV_l_mixed dc_l_mixed pm_l_mixed cd_l_mixed ct_l_mixed : Value}
    {f_l_stream : Addr} {od_l_stream an_l_stream : Option Addr} {sl_l_stream : Array (Option Value)} {oc_l_stream kV_l_stream dc_l_stream pm_l_stream cd_l_stream ct_l_stream : Value}
    {f_l_draw : Addr} {od_l_draw an_l_draw : Option Addr} {sl_l_draw : Array (Option Value)} {oc_l_draw kV_l_draw dc_l_draw pm_l_draw cd_l_draw ct_l_draw : Value}
    {f_l_pick : Addr} {od_l_pick an_l_pick : Option Addr} {sl_l_pick : Array (Option Value)} {oc_l_pick kV_l_pick dc_l_pick pm_l_pick cd_l_pick ct_l_pick : Value}
    {f_l_made : Addr} {od_l_made an_l_made : Option Addr} {sl_l_made : Array (Option Value)} {oc_l_made kV_l_made dc_l_made pm_l_made cd_l_made ct_l_made : Value}
    {f_l_kinds : Addr} {od_l_kinds an_l_kinds : Option Addr} {sl_l_kinds : Array (Option Value)} {oc_l_kinds kV_l_kinds dc_l_kinds pm_l_kinds cd_l_kinds ct_l_kinds : Value}
    {f_l_bases : Addr} {od_l_bases an_l_bases : Option Addr} {sl_l_bases : Array (Option Value)} {oc_l_bases kV_l_bases dc_l_bases pm_l_bases cd_l_bases ct_l_bases : Value}
    {f_l_fields : Addr} {od_l_fields an_l_fields : Option Addr} {sl_l_fields : Array (Option Value)} {oc_l_fields kV_l_fields dc_l_fields pm_l_fields cd_l_fields ct_l_fields : Value}
    {f_l_right : Addr} {od_l_right an_l_right : Option Addr} {sl_l_right : Array (Option Value)} {oc_l_right kV_l_right dc_l_right pm_l_right cd_l_right ct_l_right : Value}
    {f_law : Addr} {od_law an_law : Option Addr} {sl_law : Array (Option Value)} {oc_law kV_law dc_law pm_law cd_law ct_law : Value} (X : K.In h) (G : h.Ns mainGlobals mg) (hfa : mg "law" = some (.ref fa))
    (b_super : PySem.W.nsIn K mainGlobals "super" = some none)
    (xa : XA l.prog K)
    (aC_InvalidValue : PySem.W.nsIn K mainGlobals "InvalidValue" = some (some (.ref C_InvalidValue)))
    (in_InvalidValue : PySem.W.findIn K (.ref C_InvalidValue) "__init__" = some (some (.ref fI_InvalidValue)))
    (l_InvalidValue : K.lookup fI_InvalidValue = some ⟨oc_InvalidValue, od_InvalidValue, .func (PySem.W.ksFn "__init__" "InvalidValue.__init__" (defArgs s_InvalidValue__init) (defBody s_InvalidValue__init) (defScope s_InvalidValue__init) .none kV_InvalidValue doc_InvalidValue pm_InvalidValue an_InvalidValue (.ref cda_InvalidValue) ct_InvalidValue cc_InvalidValue), osl_InvalidValue⟩)
    (co_InvalidValue : K.lookup cda_InvalidValue = some ⟨ccl_InvalidValue, cdd_InvalidValue, .fields vs_InvalidValue, ccs_InvalidValue⟩)
    (fi_InvalidValue : vs_InvalidValue[2]? = some (.str file_InvalidValue tf_InvalidValue))
    (fe_InvalidValue : ((l.prog.main.file : Str) == file_InvalidValue) = true)
    (ce_InvalidValue : K.lookup cc_InvalidValue = some ⟨cl_InvalidValue, cld_InvalidValue, .cell (some (.ref C_InvalidValue)), csl_InvalidValue⟩)
    (xb_InvalidValue : XB K C_InvalidValue fI_InvalidValue cda_InvalidValue "InvalidValue.__init__" "ValueError" "ValueError.__new__" "ValueError.__init__" [.type "ValueError", .type "Exception", .type "BaseException", .type "object"])
    (nf_InvalidValue : PySem.W.findIn K (.ref C_InvalidValue) "path" = some none)
    (aC_InvalidText : PySem.W.nsIn K mainGlobals "InvalidText" = some (some (.ref C_InvalidText)))
    (in_InvalidText : PySem.W.findIn K (.ref C_InvalidText) "__init__" = some (some (.ref fI_InvalidText)))
    (l_InvalidText : K.lookup fI_InvalidText = some ⟨oc_InvalidText, od_InvalidText, .func (PySem.W.ksFn "__init__" "InvalidText.__init__" (defArgs s_InvalidText__init) (defBody s_InvalidText__init) (defScope s_InvalidText__init) .none kV_InvalidText doc_InvalidText pm_InvalidText an_InvalidText (.ref cda_InvalidText) ct_InvalidText cc_InvalidText), osl_InvalidText⟩)
    (co_InvalidText : K.lookup cda_InvalidText = some ⟨ccl_InvalidText, cdd_InvalidText, .fields vs_InvalidText, ccs_InvalidText⟩)
    (fi_InvalidText : vs_InvalidText[2]? = some (.str file_InvalidText tf_InvalidText))
    (fe_InvalidText : ((l.prog.main.file : Str) == file_InvalidText) = true)
    (ce_InvalidText : K.lookup cc_InvalidText = some ⟨cl_InvalidText, cld_InvalidText, .cell (some (.ref C_InvalidText)), csl_InvalidText⟩)
    (xb_InvalidText : XB K C_InvalidText fI_InvalidText cda_InvalidText "InvalidText.__init__" "ValueError" "ValueError.__new__" "ValueError.__init__" [.type "ValueError", .type "Exception", .type "BaseException", .type "object"])
    (nf_InvalidText : PySem.W.findIn K (.ref C_InvalidText) "position" = some none)
    (aC_InvalidPath : PySem.W.nsIn K mainGlobals "InvalidPath" = some (some (.ref C_InvalidPath)))
    (in_InvalidPath : PySem.W.findIn K (.ref C_InvalidPath) "__init__" = some (some (.ref fI_InvalidPath)))
    (l_InvalidPath : K.lookup fI_InvalidPath = some ⟨oc_InvalidPath, od_InvalidPath, .func (PySem.W.ksFn "__init__" "InvalidPath.__init__" (defArgs s_InvalidPath__init) (defBody s_InvalidPath__init) (defScope s_InvalidPath__init) .none kV_InvalidPath doc_InvalidPath pm_InvalidPath an_InvalidPath (.ref cda_InvalidPath) ct_InvalidPath cc_InvalidPath), osl_InvalidPath⟩)
    (co_InvalidPath : K.lookup cda_InvalidPath = some ⟨ccl_InvalidPath, cdd_InvalidPath, .fields vs_InvalidPath, ccs_InvalidPath⟩)
    (fi_InvalidPath : vs_InvalidPath[2]? = some (.str file_InvalidPath tf_InvalidPath))
    (fe_InvalidPath : ((l.prog.main.file : Str) == file_InvalidPath) = true)
    (ce_InvalidPath : K.lookup cc_InvalidPath = some ⟨cl_InvalidPath, cld_InvalidPath, .cell (some (.ref C_InvalidPath)), csl_InvalidPath⟩)
    (xb_InvalidPath : XB K C_InvalidPath fI_InvalidPath cda_InvalidPath "InvalidPath.__init__" "ValueError" "ValueError.__new__" "ValueError.__init__" [.type "ValueError", .type "Exception", .type "BaseException", .type "object"])
    (nf_InvalidPath : PySem.W.findIn K (.ref C_InvalidPath) "given" = some none)
    (aC_InvalidKey : PySem.W.nsIn K mainGlobals "InvalidKey" = some (some (.ref C_InvalidKey)))
    (in_InvalidKey : PySem.W.findIn K (.ref C_InvalidKey) "__init__" = some (some (.ref fI_InvalidKey)))
    (l_InvalidKey : K.lookup fI_InvalidKey = some ⟨oc_InvalidKey, od_InvalidKey, .func (PySem.W.ksFn "__init__" "InvalidKey.__init__" (defArgs s_InvalidKey__init) (defBody s_InvalidKey__init) (defScope s_InvalidKey__init) .none kV_InvalidKey doc_InvalidKey pm_InvalidKey an_InvalidKey (.ref cda_InvalidKey) ct_InvalidKey cc_InvalidKey), osl_InvalidKey⟩)
    (co_InvalidKey : K.lookup cda_InvalidKey = some ⟨ccl_InvalidKey, cdd_InvalidKey, .fields vs_InvalidKey, ccs_InvalidKey⟩)
    (fi_InvalidKey : vs_InvalidKey[2]? = some (.str file_InvalidKey tf_InvalidKey))
    (fe_InvalidKey : ((l.prog.main.file : Str) == file_InvalidKey) = true)
    (ce_InvalidKey : K.lookup cc_InvalidKey = some ⟨cl_InvalidKey, cld_InvalidKey, .cell (some (.ref C_InvalidKey)), csl_InvalidKey⟩)
    (xb_InvalidKey : XB K C_InvalidKey fI_InvalidKey cda_InvalidKey "InvalidKey.__init__" "ValueError" "ValueError.__new__" "ValueError.__init__" [.type "ValueError", .type "Exception", .type "BaseException", .type "object"])
    (nf_InvalidKey : PySem.W.findIn K (.ref C_InvalidKey) "given" = some none)
    (aC_InvalidKind : PySem.W.nsIn K mainGlobals "InvalidKind" = some (some (.ref C_InvalidKind)))
    (in_InvalidKind : PySem.W.findIn K (.ref C_InvalidKind) "__init__" = some (some (.ref fI_InvalidKind)))
    (l_InvalidKind : K.lookup fI_InvalidKind = some ⟨oc_InvalidKind, od_InvalidKind, .func (PySem.W.ksFn "__init__" "InvalidKind.__init__" (defArgs s_InvalidKind__init) (defBody s_InvalidKind__init) (defScope s_InvalidKind__init) .none kV_InvalidKind doc_InvalidKind pm_InvalidKind an_InvalidKind (.ref cda_InvalidKind) ct_InvalidKind cc_InvalidKind), osl_InvalidKind⟩)
    (co_InvalidKind : K.lookup cda_InvalidKind = some ⟨ccl_InvalidKind, cdd_InvalidKind, .fields vs_InvalidKind, ccs_InvalidKind⟩)
    (fi_InvalidKind : vs_InvalidKind[2]? = some (.str file_InvalidKind tf_InvalidKind))
    (fe_InvalidKind : ((l.prog.main.file : Str) == file_InvalidKind) = true)
    (ce_InvalidKind : K.lookup cc_InvalidKind = some ⟨cl_InvalidKind, cld_InvalidKind, .cell (some (.ref C_InvalidKind)), csl_InvalidKind⟩)
    (xb_InvalidKind : XB K C_InvalidKind fI_InvalidKind cda_InvalidKind "InvalidKind.__init__" "ValueError" "ValueError.__new__" "ValueError.__init__" [.type "ValueError", .type "Exception", .type "BaseException", .type "object"])
    (nf_InvalidKind : PySem.W.findIn K (.ref C_InvalidKind) "given" = some none)
    (aC_InvalidNumber : PySem.W.nsIn K mainGlobals "InvalidNumber" = some (some (.ref C_InvalidNumber)))
    (in_InvalidNumber : PySem.W.findIn K (.ref C_InvalidNumber) "__init__" = some (some (.ref fI_InvalidNumber)))
    (l_InvalidNumber : K.lookup fI_InvalidNumber = some ⟨oc_InvalidNumber, od_InvalidNumber, .func (PySem.W.ksFn "__init__" "InvalidNumber.__init__" (defArgs s_InvalidNumber__init) (defBody s_InvalidNumber__init) (defScope s_InvalidNumber__init) .none kV_InvalidNumber doc_InvalidNumber pm_InvalidNumber an_InvalidNumber (.ref cda_InvalidNumber) ct_InvalidNumber cc_InvalidNumber), osl_InvalidNumber⟩)
    (co_InvalidNumber : K.lookup cda_InvalidNumber = some ⟨ccl_InvalidNumber, cdd_InvalidNumber, .fields vs_InvalidNumber, ccs_InvalidNumber⟩)
    (fi_InvalidNumber : vs_InvalidNumber[2]? = some (.str file_InvalidNumber tf_InvalidNumber))
    (fe_InvalidNumber : ((l.prog.main.file : Str) == file_InvalidNumber) = true)
    (ce_InvalidNumber : K.lookup cc_InvalidNumber = some ⟨cl_InvalidNumber, cld_InvalidNumber, .cell (some (.ref C_InvalidNumber)), csl_InvalidNumber⟩)
    (xb_InvalidNumber : XB K C_InvalidNumber fI_InvalidNumber cda_InvalidNumber "InvalidNumber.__init__" "ValueError" "ValueError.__new__" "ValueError.__init__" [.type "ValueError", .type "Exception", .type "BaseException", .type "object"])
    (nf_InvalidNumber : PySem.W.findIn K (.ref C_InvalidNumber) "given" = some none)
    (aC_InvalidMapping : PySem.W.nsIn K mainGlobals "InvalidMapping" = some (some (.ref C_InvalidMapping)))
    (in_InvalidMapping : PySem.W.findIn K (.ref C_InvalidMapping) "__init__" = some (some (.ref fI_InvalidMapping)))
    (l_InvalidMapping : K.lookup fI_InvalidMapping = some ⟨oc_InvalidMapping, od_InvalidMapping, .func (PySem.W.ksFn "__init__" "InvalidMapping.__init__" (defArgs s_InvalidMapping__init) (defBody s_InvalidMapping__init) (defScope s_InvalidMapping__init) .none kV_InvalidMapping doc_InvalidMapping pm_InvalidMapping an_InvalidMapping (.ref cda_InvalidMapping) ct_InvalidMapping cc_InvalidMapping), osl_InvalidMapping⟩)
    (co_InvalidMapping : K.lookup cda_InvalidMapping = some ⟨ccl_InvalidMapping, cdd_InvalidMapping, .fields vs_InvalidMapping, ccs_InvalidMapping⟩)
    (fi_InvalidMapping : vs_InvalidMapping[2]? = some (.str file_InvalidMapping tf_InvalidMapping))
    (fe_InvalidMapping : ((l.prog.main.file : Str) == file_InvalidMapping) = true)
    (ce_InvalidMapping : K.lookup cc_InvalidMapping = some ⟨cl_InvalidMapping, cld_InvalidMapping, .cell (some (.ref C_InvalidMapping)), csl_InvalidMapping⟩)
    (xb_InvalidMapping : XB K C_InvalidMapping fI_InvalidMapping cda_InvalidMapping "InvalidMapping.__init__" "ValueError" "ValueError.__new__" "ValueError.__init__" [.type "ValueError", .type "Exception", .type "BaseException", .type "object"])
    (nf_InvalidMapping : PySem.W.findIn K (.ref C_InvalidMapping) "given" = some none)
    (aC_InvalidVolume : PySem.W.nsIn K mainGlobals "InvalidVolume" = some (some (.ref C_InvalidVolume)))
    (in_InvalidVolume : PySem.W.findIn K (.ref C_InvalidVolume) "__init__" = some (some (.ref fI_InvalidVolume)))
    (l_InvalidVolume : K.lookup fI_InvalidVolume = some ⟨oc_InvalidVolume, od_InvalidVolume, .func (PySem.W.ksFn "__init__" "InvalidVolume.__init__" (defArgs s_InvalidVolume__init) (defBody s_InvalidVolume__init) (defScope s_InvalidVolume__init) .none kV_InvalidVolume doc_InvalidVolume pm_InvalidVolume an_InvalidVolume (.ref cda_InvalidVolume) ct_InvalidVolume cc_InvalidVolume), osl_InvalidVolume⟩)
    (co_InvalidVolume : K.lookup cda_InvalidVolume = some ⟨ccl_InvalidVolume, cdd_InvalidVolume, .fields vs_InvalidVolume, ccs_InvalidVolume⟩)
    (fi_InvalidVolume : vs_InvalidVolume[2]? = some (.str file_InvalidVolume tf_InvalidVolume))
    (fe_InvalidVolume : ((l.prog.main.file : Str) == file_InvalidVolume) = true)
    (ce_InvalidVolume : K.lookup cc_InvalidVolume = some ⟨cl_InvalidVolume, cld_InvalidVolume, .cell (some (.ref C_InvalidVolume)), csl_InvalidVolume⟩)
    (xb_InvalidVolume : XB K C_InvalidVolume fI_InvalidVolume cda_InvalidVolume "InvalidVolume.__init__" "ValueError" "ValueError.__new__" "ValueError.__init__" [.type "ValueError", .type "Exception", .type "BaseException", .type "object"])
    (nf_InvalidVolume : PySem.W.findIn K (.ref C_InvalidVolume) "part" = some none)
    (aC_InvalidShelf : PySem.W.nsIn K mainGlobals "InvalidShelf" = some (some (.ref C_InvalidShelf)))
    (in_InvalidShelf : PySem.W.findIn K (.ref C_InvalidShelf) "__init__" = some (some (.ref fI_InvalidShelf)))
    (l_InvalidShelf : K.lookup fI_InvalidShelf = some ⟨oc_InvalidShelf, od_InvalidShelf, .func (PySem.W.ksFn "__init__" "InvalidShelf.__init__" (defArgs s_InvalidShelf__init) (defBody s_InvalidShelf__init) (defScope s_InvalidShelf__init) .none kV_InvalidShelf doc_InvalidShelf pm_InvalidShelf an_InvalidShelf (.ref cda_InvalidShelf) ct_InvalidShelf cc_InvalidShelf), osl_InvalidShelf⟩)
    (co_InvalidShelf : K.lookup cda_InvalidShelf = some ⟨ccl_InvalidShelf, cdd_InvalidShelf, .fields vs_InvalidShelf, ccs_InvalidShelf⟩)
    (fi_InvalidShelf : vs_InvalidShelf[2]? = some (.str file_InvalidShelf tf_InvalidShelf))
    (fe_InvalidShelf : ((l.prog.main.file : Str) == file_InvalidShelf) = true)
    (ce_InvalidShelf : K.lookup cc_InvalidShelf = some ⟨cl_InvalidShelf, cld_InvalidShelf, .cell (some (.ref C_InvalidShelf)), csl_InvalidShelf⟩)
    (xb_InvalidShelf : XB K C_InvalidShelf fI_InvalidShelf cda_InvalidShelf "InvalidShelf.__init__" "ValueError" "ValueError.__new__" "ValueError.__init__" [.type "ValueError", .type "Exception", .type "BaseException", .type "object"])
    (nf_InvalidShelf : PySem.W.findIn K (.ref C_InvalidShelf) "part" = some none)
    (aC_InvalidDeed : PySem.W.nsIn K mainGlobals "InvalidDeed" = some (some (.ref C_InvalidDeed)))
    (in_InvalidDeed : PySem.W.findIn K (.ref C_InvalidDeed) "__init__" = some (some (.ref fI_InvalidDeed)))
    (l_InvalidDeed : K.lookup fI_InvalidDeed = some ⟨oc_InvalidDeed, od_InvalidDeed, .func (PySem.W.ksFn "__init__" "InvalidDeed.__init__" (defArgs s_InvalidDeed__init) (defBody s_InvalidDeed__init) (defScope s_InvalidDeed__init) .none kV_InvalidDeed doc_InvalidDeed pm_InvalidDeed an_InvalidDeed (.ref cda_InvalidDeed) ct_InvalidDeed cc_InvalidDeed), osl_InvalidDeed⟩)
    (co_InvalidDeed : K.lookup cda_InvalidDeed = some ⟨ccl_InvalidDeed, cdd_InvalidDeed, .fields vs_InvalidDeed, ccs_InvalidDeed⟩)
    (fi_InvalidDeed : vs_InvalidDeed[2]? = some (.str file_InvalidDeed tf_InvalidDeed))
    (fe_InvalidDeed : ((l.prog.main.file : Str) == file_InvalidDeed) = true)
    (ce_InvalidDeed : K.lookup cc_InvalidDeed = some ⟨cl_InvalidDeed, cld_InvalidDeed, .cell (some (.ref C_InvalidDeed)), csl_InvalidDeed⟩)
    (xb_InvalidDeed : XB K C_InvalidDeed fI_InvalidDeed cda_InvalidDeed "InvalidDeed.__init__" "ValueError" "ValueError.__new__" "ValueError.__init__" [.type "ValueError", .type "Exception", .type "BaseException", .type "object"])
    (nf_InvalidDeed : PySem.W.findIn K (.ref C_InvalidDeed) "index" = some none)
    (aC_NotBlank : PySem.W.nsIn K mainGlobals "NotBlank" = some (some (.ref C_NotBlank)))
    (in_NotBlank : PySem.W.findIn K (.ref C_NotBlank) "__init__" = some (some (.ref fI_NotBlank)))
    (l_NotBlank : K.lookup fI_NotBlank = some ⟨oc_NotBlank, od_NotBlank, .func (PySem.W.ksFn "__init__" "NotBlank.__init__" (defArgs s_NotBlank__init) (defBody s_NotBlank__init) (defScope s_NotBlank__init) .none kV_NotBlank doc_NotBlank pm_NotBlank an_NotBlank (.ref cda_NotBlank) ct_NotBlank cc_NotBlank), osl_NotBlank⟩)
    (co_NotBlank : K.lookup cda_NotBlank = some ⟨ccl_NotBlank, cdd_NotBlank, .fields vs_NotBlank, ccs_NotBlank⟩)
    (fi_NotBlank : vs_NotBlank[2]? = some (.str file_NotBlank tf_NotBlank))
    (fe_NotBlank : ((l.prog.main.file : Str) == file_NotBlank) = true)
    (ce_NotBlank : K.lookup cc_NotBlank = some ⟨cl_NotBlank, cld_NotBlank, .cell (some (.ref C_NotBlank)), csl_NotBlank⟩)
    (xb_NotBlank : XB K C_NotBlank fI_NotBlank cda_NotBlank "NotBlank.__init__" "RuntimeError" "RuntimeError.__new__" "RuntimeError.__init__" [.type "RuntimeError", .type "Exception", .type "BaseException", .type "object"])
    (nf_NotBlank : PySem.W.findIn K (.ref C_NotBlank) "page" = some none)
    (aC_Damaged : PySem.W.nsIn K mainGlobals "Damaged" = some (some (.ref C_Damaged)))
    (in_Damaged : PySem.W.findIn K (.ref C_Damaged) "__init__" = some (some (.ref fI_Damaged)))
    (l_Damaged : K.lookup fI_Damaged = some ⟨oc_Damaged, od_Damaged, .func (PySem.W.ksFn "__init__" "Damaged.__init__" (defArgs s_Damaged__init) (defBody s_Damaged__init) (defScope s_Damaged__init) .none kV_Damaged doc_Damaged pm_Damaged an_Damaged (.ref cda_Damaged) ct_Damaged cc_Damaged), osl_Damaged⟩)
    (co_Damaged : K.lookup cda_Damaged = some ⟨ccl_Damaged, cdd_Damaged, .fields vs_Damaged, ccs_Damaged⟩)
    (fi_Damaged : vs_Damaged[2]? = some (.str file_Damaged tf_Damaged))
    (fe_Damaged : ((l.prog.main.file : Str) == file_Damaged) = true)
    (ce_Damaged : K.lookup cc_Damaged = some ⟨cl_Damaged, cld_Damaged, .cell (some (.ref C_Damaged)), csl_Damaged⟩)
    (xb_Damaged : XB K C_Damaged fI_Damaged cda_Damaged "Damaged.__init__" "RuntimeError" "RuntimeError.__new__" "RuntimeError.__init__" [.type "RuntimeError", .type "Exception", .type "BaseException", .type "object"])
    (nf_Damaged : PySem.W.findIn K (.ref C_Damaged) "page" = some none)
    (aC_NoKey : PySem.W.nsIn K mainGlobals "NoKey" = some (some (.ref C_NoKey)))
    (in_NoKey : PySem.W.findIn K (.ref C_NoKey) "__init__" = some (some (.ref fI_NoKey)))
    (l_NoKey : K.lookup fI_NoKey = some ⟨oc_NoKey, od_NoKey, .func (PySem.W.ksFn "__init__" "NoKey.__init__" (defArgs s_NoKey__init) (defBody s_NoKey__init) (defScope s_NoKey__init) .none kV_NoKey doc_NoKey pm_NoKey an_NoKey (.ref cda_NoKey) ct_NoKey cc_NoKey), osl_NoKey⟩)
    (co_NoKey : K.lookup cda_NoKey = some ⟨ccl_NoKey, cdd_NoKey, .fields vs_NoKey, ccs_NoKey⟩)
    (fi_NoKey : vs_NoKey[2]? = some (.str file_NoKey tf_NoKey))
    (fe_NoKey : ((l.prog.main.file : Str) == file_NoKey) = true)
    (ce_NoKey : K.lookup cc_NoKey = some ⟨cl_NoKey, cld_NoKey, .cell (some (.ref C_NoKey)), csl_NoKey⟩)
    (xb_NoKey : XB K C_NoKey fI_NoKey cda_NoKey "NoKey.__init__" "RuntimeError" "RuntimeError.__new__" "RuntimeError.__init__" [.type "RuntimeError", .type "Exception", .type "BaseException", .type "object"])
    (nf_NoKey : PySem.W.findIn K (.ref C_NoKey) "given" = some none)
    (aC_NotWritable : PySem.W.nsIn K mainGlobals "NotWritable" = some (some (.ref C_NotWritable)))
    (in_NotWritable : PySem.W.findIn K (.ref C_NotWritable) "__init__" = some (some (.ref fI_NotWritable)))
    (l_NotWritable : K.lookup fI_NotWritable = some ⟨oc_NotWritable, od_NotWritable, .func (PySem.W.ksFn "__init__" "NotWritable.__init__" (defArgs s_NotWritable__init) (defBody s_NotWritable__init) (defScope s_NotWritable__init) .none kV_NotWritable doc_NotWritable pm_NotWritable an_NotWritable (.ref cda_NotWritable) ct_NotWritable cc_NotWritable), osl_NotWritable⟩)
    (co_NotWritable : K.lookup cda_NotWritable = some ⟨ccl_NotWritable, cdd_NotWritable, .fields vs_NotWritable, ccs_NotWritable⟩)
    (fi_NotWritable : vs_NotWritable[2]? = some (.str file_NotWritable tf_NotWritable))
    (fe_NotWritable : ((l.prog.main.file : Str) == file_NotWritable) = true)
    (ce_NotWritable : K.lookup cc_NotWritable = some ⟨cl_NotWritable, cld_NotWritable, .cell (some (.ref C_NotWritable)), csl_NotWritable⟩)
    (xb_NotWritable : XB K C_NotWritable fI_NotWritable cda_NotWritable "NotWritable.__init__" "RuntimeError" "RuntimeError.__new__" "RuntimeError.__init__" [.type "RuntimeError", .type "Exception", .type "BaseException", .type "object"])
    (nf_NotWritable : PySem.W.findIn K (.ref C_NotWritable) "given" = some none)
    (aC_Conflict : PySem.W.nsIn K mainGlobals "Conflict" = some (some (.ref C_Conflict)))
    (in_Conflict : PySem.W.findIn K (.ref C_Conflict) "__init__" = some (some (.ref fI_Conflict)))
    (l_Conflict : K.lookup fI_Conflict = some ⟨oc_Conflict, od_Conflict, .func (PySem.W.ksFn "__init__" "Conflict.__init__" (defArgs s_Conflict__init) (defBody s_Conflict__init) (defScope s_Conflict__init) .none kV_Conflict doc_Conflict pm_Conflict an_Conflict (.ref cda_Conflict) ct_Conflict cc_Conflict), osl_Conflict⟩)
    (co_Conflict : K.lookup cda_Conflict = some ⟨ccl_Conflict, cdd_Conflict, .fields vs_Conflict, ccs_Conflict⟩)
    (fi_Conflict : vs_Conflict[2]? = some (.str file_Conflict tf_Conflict))
    (fe_Conflict : ((l.prog.main.file : Str) == file_Conflict) = true)
    (ce_Conflict : K.lookup cc_Conflict = some ⟨cl_Conflict, cld_Conflict, .cell (some (.ref C_Conflict)), csl_Conflict⟩)
    (xb_Conflict : XB K C_Conflict fI_Conflict cda_Conflict "Conflict.__init__" "RuntimeError" "RuntimeError.__new__" "RuntimeError.__init__" [.type "RuntimeError", .type "Exception", .type "BaseException", .type "object"])
    (nf_Conflict : PySem.W.findIn K (.ref C_Conflict) "given" = some none)
    (aC_Dead : PySem.W.nsIn K mainGlobals "Dead" = some (some (.ref C_Dead)))
    (in_Dead : PySem.W.findIn K (.ref C_Dead) "__init__" = some (some (.ref fI_Dead)))
    (l_Dead : K.lookup fI_Dead = some ⟨oc_Dead, od_Dead, .func (PySem.W.ksFn "__init__" "Dead.__init__" (defArgs s_Dead__init) (defBody s_Dead__init) (defScope s_Dead__init) .none kV_Dead doc_Dead pm_Dead an_Dead (.ref cda_Dead) ct_Dead cc_Dead), osl_Dead⟩)
    (co_Dead : K.lookup cda_Dead = some ⟨ccl_Dead, cdd_Dead, .fields vs_Dead, ccs_Dead⟩)
    (fi_Dead : vs_Dead[2]? = some (.str file_Dead tf_Dead))
    (fe_Dead : ((l.prog.main.file : Str) == file_Dead) = true)
    (ce_Dead : K.lookup cc_Dead = some ⟨cl_Dead, cld_Dead, .cell (some (.ref C_Dead)), csl_Dead⟩)
    (xb_Dead : XB K C_Dead fI_Dead cda_Dead "Dead.__init__" "RuntimeError" "RuntimeError.__new__" "RuntimeError.__init__" [.type "RuntimeError", .type "Exception", .type "BaseException", .type "object"])
    (aC_Closed : PySem.W.nsIn K mainGlobals "Closed" = some (some (.ref C_Closed)))
    (in_Closed : PySem.W.findIn K (.ref C_Closed) "__init__" = some (some (.ref fI_Closed)))
    (l_Closed : K.lookup fI_Closed = some ⟨oc_Closed, od_Closed, .func (PySem.W.ksFn "__init__" "Closed.__init__" (defArgs s_Closed__init) (defBody s_Closed__init) (defScope s_Closed__init) .none kV_Closed doc_Closed pm_Closed an_Closed (.ref cda_Closed) ct_Closed cc_Closed), osl_Closed⟩)
    (co_Closed : K.lookup cda_Closed = some ⟨ccl_Closed, cdd_Closed, .fields vs_Closed, ccs_Closed⟩)
    (fi_Closed : vs_Closed[2]? = some (.str file_Closed tf_Closed))
    (fe_Closed : ((l.prog.main.file : Str) == file_Closed) = true)
    (ce_Closed : K.lookup cc_Closed = some ⟨cl_Closed, cld_Closed, .cell (some (.ref C_Closed)), csl_Closed⟩)
    (xb_Closed : XB K C_Closed fI_Closed cda_Closed "Closed.__init__" "RuntimeError" "RuntimeError.__new__" "RuntimeError.__init__" [.type "RuntimeError", .type "Exception", .type "BaseException", .type "object"])
    (aC_Locked : PySem.W.nsIn K mainGlobals "Locked" = some (some (.ref C_Locked)))
    (in_Locked : PySem.W.findIn K (.ref C_Locked) "__init__" = some (some (.ref fI_Locked)))
    (l_Locked : K.lookup fI_Locked = some ⟨oc_Locked, od_Locked, .func (PySem.W.ksFn "__init__" "Locked.__init__" (defArgs s_Locked__init) (defBody s_Locked__init) (defScope s_Locked__init) .none kV_Locked doc_Locked pm_Locked an_Locked (.ref cda_Locked) ct_Locked cc_Locked), osl_Locked⟩)
    (co_Locked : K.lookup cda_Locked = some ⟨ccl_Locked, cdd_Locked, .fields vs_Locked, ccs_Locked⟩)
    (fi_Locked : vs_Locked[2]? = some (.str file_Locked tf_Locked))
    (fe_Locked : ((l.prog.main.file : Str) == file_Locked) = true)
    (ce_Locked : K.lookup cc_Locked = some ⟨cl_Locked, cld_Locked, .cell (some (.ref C_Locked)), csl_Locked⟩)
    (xb_Locked : XB K C_Locked fI_Locked cda_Locked "Locked.__init__" "RuntimeError" "RuntimeError.__new__" "RuntimeError.__init__" [.type "RuntimeError", .type "Exception", .type "BaseException", .type "object"])
    (aC_Busy : PySem.W.nsIn K mainGlobals "Busy" = some (some (.ref C_Busy)))
    (in_Busy : PySem.W.findIn K (.ref C_Busy) "__init__" = some (some (.ref fI_Busy)))
    (l_Busy : K.lookup fI_Busy = some ⟨oc_Busy, od_Busy, .func (PySem.W.ksFn "__init__" "Busy.__init__" (defArgs s_Busy__init) (defBody s_Busy__init) (defScope s_Busy__init) .none kV_Busy doc_Busy pm_Busy an_Busy (.ref cda_Busy) ct_Busy cc_Busy), osl_Busy⟩)
    (co_Busy : K.lookup cda_Busy = some ⟨ccl_Busy, cdd_Busy, .fields vs_Busy, ccs_Busy⟩)
    (fi_Busy : vs_Busy[2]? = some (.str file_Busy tf_Busy))
    (fe_Busy : ((l.prog.main.file : Str) == file_Busy) = true)
    (ce_Busy : K.lookup cc_Busy = some ⟨cl_Busy, cld_Busy, .cell (some (.ref C_Busy)), csl_Busy⟩)
    (xb_Busy : XB K C_Busy fI_Busy cda_Busy "Busy.__init__" "RuntimeError" "RuntimeError.__new__" "RuntimeError.__init__" [.type "RuntimeError", .type "Exception", .type "BaseException", .type "object"])
    (aC_NothingToUndo : PySem.W.nsIn K mainGlobals "NothingToUndo" = some (some (.ref C_NothingToUndo)))
    (in_NothingToUndo : PySem.W.findIn K (.ref C_NothingToUndo) "__init__" = some (some (.ref fI_NothingToUndo)))
    (l_NothingToUndo : K.lookup fI_NothingToUndo = some ⟨oc_NothingToUndo, od_NothingToUndo, .func (PySem.W.ksFn "__init__" "NothingToUndo.__init__" (defArgs s_NothingToUndo__init) (defBody s_NothingToUndo__init) (defScope s_NothingToUndo__init) .none kV_NothingToUndo doc_NothingToUndo pm_NothingToUndo an_NothingToUndo (.ref cda_NothingToUndo) ct_NothingToUndo cc_NothingToUndo), osl_NothingToUndo⟩)
    (co_NothingToUndo : K.lookup cda_NothingToUndo = some ⟨ccl_NothingToUndo, cdd_NothingToUndo, .fields vs_NothingToUndo, ccs_NothingToUndo⟩)
    (fi_NothingToUndo : vs_NothingToUndo[2]? = some (.str file_NothingToUndo tf_NothingToUndo))
    (fe_NothingToUndo : ((l.prog.main.file : Str) == file_NothingToUndo) = true)
    (ce_NothingToUndo : K.lookup cc_NothingToUndo = some ⟨cl_NothingToUndo, cld_NothingToUndo, .cell (some (.ref C_NothingToUndo)), csl_NothingToUndo⟩)
    (xb_NothingToUndo : XB K C_NothingToUndo fI_NothingToUndo cda_NothingToUndo "NothingToUndo.__init__" "RuntimeError" "RuntimeError.__new__" "RuntimeError.__init__" [.type "RuntimeError", .type "Exception", .type "BaseException", .type "object"])
    (aC_TooLarge : PySem.W.nsIn K mainGlobals "TooLarge" = some (some (.ref C_TooLarge)))
    (in_TooLarge : PySem.W.findIn K (.ref C_TooLarge) "__init__" = some (some (.ref fI_TooLarge)))
    (l_TooLarge : K.lookup fI_TooLarge = some ⟨oc_TooLarge, od_TooLarge, .func (PySem.W.ksFn "__init__" "TooLarge.__init__" (defArgs s_TooLarge__init) (defBody s_TooLarge__init) (defScope s_TooLarge__init) .none kV_TooLarge doc_TooLarge pm_TooLarge an_TooLarge (.ref cda_TooLarge) ct_TooLarge cc_TooLarge), osl_TooLarge⟩)
    (co_TooLarge : K.lookup cda_TooLarge = some ⟨ccl_TooLarge, cdd_TooLarge, .fields vs_TooLarge, ccs_TooLarge⟩)
    (fi_TooLarge : vs_TooLarge[2]? = some (.str file_TooLarge tf_TooLarge))
    (fe_TooLarge : ((l.prog.main.file : Str) == file_TooLarge) = true)
    (ce_TooLarge : K.lookup cc_TooLarge = some ⟨cl_TooLarge, cld_TooLarge, .cell (some (.ref C_TooLarge)), csl_TooLarge⟩)
    (xb_TooLarge : XB K C_TooLarge fI_TooLarge cda_TooLarge "TooLarge.__init__" "OverflowError" "OverflowError.__new__" "OverflowError.__init__" [.type "OverflowError", .type "ArithmeticError", .type "Exception", .type "BaseException", .type "object"])
    (nf_TooLarge : PySem.W.findIn K (.ref C_TooLarge) "limit" = some none)
    (aB_0 : PySem.W.nsIn K mainGlobals "ShelfError" = some (some (.ref B_0)))
    (aB_1 : PySem.W.nsIn K mainGlobals "ShelfStateError" = some (some (.ref B_1)))
    (aB_2 : PySem.W.nsIn K mainGlobals "LimitError" = some (some (.ref B_2)))
    (kn_InvalidValue : Knds K C_InvalidValue 0 C_InvalidValue C_InvalidText C_InvalidPath C_InvalidKey C_InvalidKind C_InvalidNumber C_InvalidMapping C_InvalidVolume C_InvalidShelf C_InvalidDeed C_NotBlank C_Damaged C_NoKey C_NotWritable C_Conflict C_Dead C_Closed C_Locked C_Busy C_NothingToUndo C_TooLarge)
    (bs_InvalidValue : Bss K C_InvalidValue 0 B_0 B_1 B_2)
    (kn_InvalidText : Knds K C_InvalidText 1 C_InvalidValue C_InvalidText C_InvalidPath C_InvalidKey C_InvalidKind C_InvalidNumber C_InvalidMapping C_InvalidVolume C_InvalidShelf C_InvalidDeed C_NotBlank C_Damaged C_NoKey C_NotWritable C_Conflict C_Dead C_Closed C_Locked C_Busy C_NothingToUndo C_TooLarge)
    (bs_InvalidText : Bss K C_InvalidText 0 B_0 B_1 B_2)
    (kn_InvalidPath : Knds K C_InvalidPath 2 C_InvalidValue C_InvalidText C_InvalidPath C_InvalidKey C_InvalidKind C_InvalidNumber C_InvalidMapping C_InvalidVolume C_InvalidShelf C_InvalidDeed C_NotBlank C_Damaged C_NoKey C_NotWritable C_Conflict C_Dead C_Closed C_Locked C_Busy C_NothingToUndo C_TooLarge)
    (bs_InvalidPath : Bss K C_InvalidPath 0 B_0 B_1 B_2)
    (kn_InvalidKey : Knds K C_InvalidKey 3 C_InvalidValue C_InvalidText C_InvalidPath C_InvalidKey C_InvalidKind C_InvalidNumber C_InvalidMapping C_InvalidVolume C_InvalidShelf C_InvalidDeed C_NotBlank C_Damaged C_NoKey C_NotWritable C_Conflict C_Dead C_Closed C_Locked C_Busy C_NothingToUndo C_TooLarge)
    (bs_InvalidKey : Bss K C_InvalidKey 0 B_0 B_1 B_2)
    (kn_InvalidKind : Knds K C_InvalidKind 4 C_InvalidValue C_InvalidText C_InvalidPath C_InvalidKey C_InvalidKind C_InvalidNumber C_InvalidMapping C_InvalidVolume C_InvalidShelf C_InvalidDeed C_NotBlank C_Damaged C_NoKey C_NotWritable C_Conflict C_Dead C_Closed C_Locked C_Busy C_NothingToUndo C_TooLarge)
    (bs_InvalidKind : Bss K C_InvalidKind 0 B_0 B_1 B_2)
    (kn_InvalidNumber : Knds K C_InvalidNumber 5 C_InvalidValue C_InvalidText C_InvalidPath C_InvalidKey C_InvalidKind C_InvalidNumber C_InvalidMapping C_InvalidVolume C_InvalidShelf C_InvalidDeed C_NotBlank C_Damaged C_NoKey C_NotWritable C_Conflict C_Dead C_Closed C_Locked C_Busy C_NothingToUndo C_TooLarge)
    (bs_InvalidNumber : Bss K C_InvalidNumber 0 B_0 B_1 B_2)
    (kn_InvalidMapping : Knds K C_InvalidMapping 6 C_InvalidValue C_InvalidText C_InvalidPath C_InvalidKey C_InvalidKind C_InvalidNumber C_InvalidMapping C_InvalidVolume C_InvalidShelf C_InvalidDeed C_NotBlank C_Damaged C_NoKey C_NotWritable C_Conflict C_Dead C_Closed C_Locked C_Busy C_NothingToUndo C_TooLarge)
    (bs_InvalidMapping : Bss K C_InvalidMapping 0 B_0 B_1 B_2)
    (kn_InvalidVolume : Knds K C_InvalidVolume 7 C_InvalidValue C_InvalidText C_InvalidPath C_InvalidKey C_InvalidKind C_InvalidNumber C_InvalidMapping C_InvalidVolume C_InvalidShelf C_InvalidDeed C_NotBlank C_Damaged C_NoKey C_NotWritable C_Conflict C_Dead C_Closed C_Locked C_Busy C_NothingToUndo C_TooLarge)
    (bs_InvalidVolume : Bss K C_InvalidVolume 0 B_0 B_1 B_2)
    (kn_InvalidShelf : Knds K C_InvalidShelf 8 C_InvalidValue C_InvalidText C_InvalidPath C_InvalidKey C_InvalidKind C_InvalidNumber C_InvalidMapping C_InvalidVolume C_InvalidShelf C_InvalidDeed C_NotBlank C_Damaged C_NoKey C_NotWritable C_Conflict C_Dead C_Closed C_Locked C_Busy C_NothingToUndo C_TooLarge)
    (bs_InvalidShelf : Bss K C_InvalidShelf 0 B_0 B_1 B_2)
    (kn_InvalidDeed : Knds K C_InvalidDeed 9 C_InvalidValue C_InvalidText C_InvalidPath C_InvalidKey C_InvalidKind C_InvalidNumber C_InvalidMapping C_InvalidVolume C_InvalidShelf C_InvalidDeed C_NotBlank C_Damaged C_NoKey C_NotWritable C_Conflict C_Dead C_Closed C_Locked C_Busy C_NothingToUndo C_TooLarge)
    (bs_InvalidDeed : Bss K C_InvalidDeed 0 B_0 B_1 B_2)
    (kn_NotBlank : Knds K C_NotBlank 10 C_InvalidValue C_InvalidText C_InvalidPath C_InvalidKey C_InvalidKind C_InvalidNumber C_InvalidMapping C_InvalidVolume C_InvalidShelf C_InvalidDeed C_NotBlank C_Damaged C_NoKey C_NotWritable C_Conflict C_Dead C_Closed C_Locked C_Busy C_NothingToUndo C_TooLarge)
    (bs_NotBlank : Bss K C_NotBlank 1 B_0 B_1 B_2)
    (kn_Damaged : Knds K C_Damaged 11 C_InvalidValue C_InvalidText C_InvalidPath C_InvalidKey C_InvalidKind C_InvalidNumber C_InvalidMapping C_InvalidVolume C_InvalidShelf C_InvalidDeed C_NotBlank C_Damaged C_NoKey C_NotWritable C_Conflict C_Dead C_Closed C_Locked C_Busy C_NothingToUndo C_TooLarge)
    (bs_Damaged : Bss K C_Damaged 1 B_0 B_1 B_2)
    (kn_NoKey : Knds K C_NoKey 12 C_InvalidValue C_InvalidText C_InvalidPath C_InvalidKey C_InvalidKind C_InvalidNumber C_InvalidMapping C_InvalidVolume C_InvalidShelf C_InvalidDeed C_NotBlank C_Damaged C_NoKey C_NotWritable C_Conflict C_Dead C_Closed C_Locked C_Busy C_NothingToUndo C_TooLarge)
    (bs_NoKey : Bss K C_NoKey 1 B_0 B_1 B_2)
    (kn_NotWritable : Knds K C_NotWritable 13 C_InvalidValue C_InvalidText C_InvalidPath C_InvalidKey C_InvalidKind C_InvalidNumber C_InvalidMapping C_InvalidVolume C_InvalidShelf C_InvalidDeed C_NotBlank C_Damaged C_NoKey C_NotWritable C_Conflict C_Dead C_Closed C_Locked C_Busy C_NothingToUndo C_TooLarge)
    (bs_NotWritable : Bss K C_NotWritable 1 B_0 B_1 B_2)
    (kn_Conflict : Knds K C_Conflict 14 C_InvalidValue C_InvalidText C_InvalidPath C_InvalidKey C_InvalidKind C_InvalidNumber C_InvalidMapping C_InvalidVolume C_InvalidShelf C_InvalidDeed C_NotBlank C_Damaged C_NoKey C_NotWritable C_Conflict C_Dead C_Closed C_Locked C_Busy C_NothingToUndo C_TooLarge)
    (bs_Conflict : Bss K C_Conflict 1 B_0 B_1 B_2)
    (kn_Dead : Knds K C_Dead 15 C_InvalidValue C_InvalidText C_InvalidPath C_InvalidKey C_InvalidKind C_InvalidNumber C_InvalidMapping C_InvalidVolume C_InvalidShelf C_InvalidDeed C_NotBlank C_Damaged C_NoKey C_NotWritable C_Conflict C_Dead C_Closed C_Locked C_Busy C_NothingToUndo C_TooLarge)
    (bs_Dead : Bss K C_Dead 1 B_0 B_1 B_2)
    (kn_Closed : Knds K C_Closed 16 C_InvalidValue C_InvalidText C_InvalidPath C_InvalidKey C_InvalidKind C_InvalidNumber C_InvalidMapping C_InvalidVolume C_InvalidShelf C_InvalidDeed C_NotBlank C_Damaged C_NoKey C_NotWritable C_Conflict C_Dead C_Closed C_Locked C_Busy C_NothingToUndo C_TooLarge)
    (bs_Closed : Bss K C_Closed 1 B_0 B_1 B_2)
    (kn_Locked : Knds K C_Locked 17 C_InvalidValue C_InvalidText C_InvalidPath C_InvalidKey C_InvalidKind C_InvalidNumber C_InvalidMapping C_InvalidVolume C_InvalidShelf C_InvalidDeed C_NotBlank C_Damaged C_NoKey C_NotWritable C_Conflict C_Dead C_Closed C_Locked C_Busy C_NothingToUndo C_TooLarge)
    (bs_Locked : Bss K C_Locked 1 B_0 B_1 B_2)
    (kn_Busy : Knds K C_Busy 18 C_InvalidValue C_InvalidText C_InvalidPath C_InvalidKey C_InvalidKind C_InvalidNumber C_InvalidMapping C_InvalidVolume C_InvalidShelf C_InvalidDeed C_NotBlank C_Damaged C_NoKey C_NotWritable C_Conflict C_Dead C_Closed C_Locked C_Busy C_NothingToUndo C_TooLarge)
    (bs_Busy : Bss K C_Busy 1 B_0 B_1 B_2)
    (kn_NothingToUndo : Knds K C_NothingToUndo 19 C_InvalidValue C_InvalidText C_InvalidPath C_InvalidKey C_InvalidKind C_InvalidNumber C_InvalidMapping C_InvalidVolume C_InvalidShelf C_InvalidDeed C_NotBlank C_Damaged C_NoKey C_NotWritable C_Conflict C_Dead C_Closed C_Locked C_Busy C_NothingToUndo C_TooLarge)
    (bs_NothingToUndo : Bss K C_NothingToUndo 1 B_0 B_1 B_2)
    (kn_TooLarge : Knds K C_TooLarge 20 C_InvalidValue C_InvalidText C_InvalidPath C_InvalidKey C_InvalidKind C_InvalidNumber C_InvalidMapping C_InvalidVolume C_InvalidShelf C_InvalidDeed C_NotBlank C_Damaged C_NoKey C_NotWritable C_Conflict C_Dead C_Closed C_Locked C_Busy C_NothingToUndo C_TooLarge)
    (bs_TooLarge : Bss K C_TooLarge 2 B_0 B_1 B_2)
    (a_l_mixed : PySem.W.nsIn K mainGlobals "_law_mixed" = some (some (.ref f_l_mixed)))
    (l_l_mixed : K.lookup f_l_mixed = some ⟨oc_l_mixed, od_l_mixed, .func (PySem.W.fnOf "_law_mixed" "_law_mixed" (defArgs s_l_mixed) (defBody s_l_mixed) (defScope s_l_mixed) .none kV_l_mixed dc_l_mixed pm_l_mixed an_l_mixed cd_l_mixed ct_l_mixed), sl_l_mixed⟩)
    (c_l_mixed : PySem.W.codeIn K cd_l_mixed "_law_mixed" = true)
    (k_l_mixed : PySem.W.keepIn K (.ref f_l_mixed) = true)
    (a_l_stream : PySem.W.nsIn K mainGlobals "_law_stream" = some (some (.ref f_l_stream)))
    (l_l_stream : K.lookup f_l_stream = some ⟨oc_l_stream, od_l_stream, .func (PySem.W.fnOf "_law_stream" "_law_stream" (defArgs s_l_stream) (defBody s_l_stream) (defScope s_l_stream) .none kV_l_stream dc_l_stream pm_l_stream an_l_stream cd_l_stream ct_l_stream), sl_l_stream⟩)
    (c_l_stream : PySem.W.codeIn K cd_l_stream "_law_stream" = true)
    (k_l_stream : PySem.W.keepIn K (.ref f_l_stream) = true)
    (a_l_draw : PySem.W.nsIn K mainGlobals "_law_draw" = some (some (.ref f_l_draw)))
    (l_l_draw : K.lookup f_l_draw = some ⟨oc_l_draw, od_l_draw, .func (PySem.W.fnOf "_law_draw" "_law_draw" (defArgs s_l_draw) (defBody s_l_draw) (defScope s_l_draw) .none kV_l_draw dc_l_draw pm_l_draw an_l_draw cd_l_draw ct_l_draw), sl_l_draw⟩)
    (c_l_draw : PySem.W.codeIn K cd_l_draw "_law_draw" = true)
    (k_l_draw : PySem.W.keepIn K (.ref f_l_draw) = true)
    (a_l_pick : PySem.W.nsIn K mainGlobals "_law_pick" = some (some (.ref f_l_pick)))
    (l_l_pick : K.lookup f_l_pick = some ⟨oc_l_pick, od_l_pick, .func (PySem.W.fnOf "_law_pick" "_law_pick" (defArgs s_l_pick) (defBody s_l_pick) (defScope s_l_pick) .none kV_l_pick dc_l_pick pm_l_pick an_l_pick cd_l_pick ct_l_pick), sl_l_pick⟩)
    (c_l_pick : PySem.W.codeIn K cd_l_pick "_law_pick" = true)
    (k_l_pick : PySem.W.keepIn K (.ref f_l_pick) = true)
    (a_l_made : PySem.W.nsIn K mainGlobals "_law_made" = some (some (.ref f_l_made)))
    (l_l_made : K.lookup f_l_made = some ⟨oc_l_made, od_l_made, .func (PySem.W.fnOf "_law_made" "_law_made" (defArgs s_l_made) (defBody s_l_made) (defScope s_l_made) .none kV_l_made dc_l_made pm_l_made an_l_made cd_l_made ct_l_made), sl_l_made⟩)
    (c_l_made : PySem.W.codeIn K cd_l_made "_law_made" = true)
    (k_l_made : PySem.W.keepIn K (.ref f_l_made) = true)
    (a_l_kinds : PySem.W.nsIn K mainGlobals "_law_kinds" = some (some (.ref f_l_kinds)))
    (l_l_kinds : K.lookup f_l_kinds = some ⟨oc_l_kinds, od_l_kinds, .func (PySem.W.fnOf "_law_kinds" "_law_kinds" (defArgs s_l_kinds) (defBody s_l_kinds) (defScope s_l_kinds) .none kV_l_kinds dc_l_kinds pm_l_kinds an_l_kinds cd_l_kinds ct_l_kinds), sl_l_kinds⟩)
    (c_l_kinds : PySem.W.codeIn K cd_l_kinds "_law_kinds" = true)
    (k_l_kinds : PySem.W.keepIn K (.ref f_l_kinds) = true)
    (a_l_bases : PySem.W.nsIn K mainGlobals "_law_bases" = some (some (.ref f_l_bases)))
    (l_l_bases : K.lookup f_l_bases = some ⟨oc_l_bases, od_l_bases, .func (PySem.W.fnOf "_law_bases" "_law_bases" (defArgs s_l_bases) (defBody s_l_bases) (defScope s_l_bases) .none kV_l_bases dc_l_bases pm_l_bases an_l_bases cd_l_bases ct_l_bases), sl_l_bases⟩)
    (c_l_bases : PySem.W.codeIn K cd_l_bases "_law_bases" = true)
    (k_l_bases : PySem.W.keepIn K (.ref f_l_bases) = true)
    (a_l_fields : PySem.W.nsIn K mainGlobals "_law_fields" = some (some (.ref f_l_fields)))
    (l_l_fields : K.lookup f_l_fields = some ⟨oc_l_fields, od_l_fields, .func (PySem.W.fnOf "_law_fields" "_law_fields" (defArgs s_l_fields) (defBody s_l_fields) (defScope s_l_fields) .none kV_l_fields dc_l_fields pm_l_fields an_l_fields cd_l_fields ct_l_fields), sl_l_fields⟩)
    (c_l_fields : PySem.W.codeIn K cd_l_fields "_law_fields" = true)
    (k_l_fields : PySem.W.keepIn K (.ref f_l_fields) = true)
    (a_l_right : PySem.W.nsIn K mainGlobals "_law_right" = some (some (.ref f_l_right)))
    (l_l_right : K.lookup f_l_right = some ⟨oc_l_right, od_l_right, .func (PySem.W.fnOf "_law_right" "_law_right" (defArgs s_l_right) (defBody s_l_right) (defScope s_l_right) .none kV_l_right dc_l_right pm_l_right an_l_right cd_l_right ct_l_right), sl_l_right⟩)
    (c_l_right : PySem.W.codeIn K cd_l_right "_law_right" = true)
    (k_l_right : PySem.W.keepIn K (.ref f_l_right) = true)
    (a_law : PySem.W.nsIn K mainGlobals "law" = some (some (.ref f_law)))
    (l_law : K.lookup f_law = some ⟨oc_law, od_law, .func (PySem.W.fnOf "law" "law" (defArgs s_law) (defBody s_law) (defScope s_law) .none kV_law dc_law pm_law an_law cd_law ct_law), sl_law⟩)
    (c_law : PySem.W.codeIn K cd_law "law" = true)
    (k_law : PySem.W.keepIn K (.ref f_law) = true)
    (b_len : PySem.W.nsIn K mainGlobals "len" = some none)
    (b_isinstance : PySem.W.nsIn K mainGlobals "isinstance" = some none)
    (b_repr : PySem.W.nsIn K mainGlobals "repr" = some none)
    (b_enumerate : PySem.W.nsIn K mainGlobals "enumerate" = some none)
    (b_range : PySem.W.nsIn K mainGlobals "range" = some none)
    (b_ValueError : PySem.W.nsIn K mainGlobals "ValueError" = some none)
    (b_RuntimeError : PySem.W.nsIn K mainGlobals "RuntimeError" = some none)
    (b_OverflowError : PySem.W.nsIn K mainGlobals "OverflowError" = some none)
    (b_LookupError : PySem.W.nsIn K mainGlobals "LookupError" = some none)
    (b_NotImplementedError : PySem.W.nsIn K mainGlobals "NotImplementedError" = some none) :
    ∃ fd : FuncData, (∀ (s : Shared) (v : Value), BindsTo s fd ⟨[v], []⟩ [("_law_script", v)]) ∧ ∀ base : Heap, K.In base → base.Ns mainGlobals mg → SmB base → FnG ⟨l.prog, w, K, mg, base⟩ 5 fa fd ["_law_script"] (sp_law K) := by
  have e := hfa.symm.trans (PySem.W.mg_of X G a_law)
  cases e
  have D_l_mixed := df_mk (st := s_l_mixed) l_l_mixed c_l_mixed k_l_mixed
  have b_l_mixed : Binds K (PySem.W.fnOf "_law_mixed" "_law_mixed" (defArgs s_l_mixed) (defBody s_l_mixed) (defScope s_l_mixed) .none kV_l_mixed dc_l_mixed pm_l_mixed an_l_mixed cd_l_mixed ct_l_mixed) ["_law_number", "_law_k"] [] := Binds.all fun us hl => match us, hl with | [_, _], _ => rfl
  have D_l_stream := df_mk (st := s_l_stream) l_l_stream c_l_stream k_l_stream
  have b_l_stream : Binds K (PySem.W.fnOf "_law_stream" "_law_stream" (defArgs s_l_stream) (defBody s_l_stream) (defScope s_l_stream) .none kV_l_stream dc_l_stream pm_l_stream an_l_stream cd_l_stream ct_l_stream) ["_law_item", "_law_k"] [] := Binds.all fun us hl => match us, hl with | [_, _], _ => rfl
  have D_l_draw := df_mk (st := s_l_draw) l_l_draw c_l_draw k_l_draw
  have b_l_draw : Binds K (PySem.W.fnOf "_law_draw" "_law_draw" (defArgs s_l_draw) (defBody s_l_draw) (defScope s_l_draw) .none kV_l_draw dc_l_draw pm_l_draw an_l_draw cd_l_draw ct_l_draw) ["_law_stream_here", "_law_top"] [] := Binds.all fun us hl => match us, hl with | [_, _], _ => rfl
  have D_l_pick := df_mk (st := s_l_pick) l_l_pick c_l_pick k_l_pick
  have b_l_pick : Binds K (PySem.W.fnOf "_law_pick" "_law_pick" (defArgs s_l_pick) (defBody s_l_pick) (defScope s_l_pick) .none kV_l_pick dc_l_pick pm_l_pick an_l_pick cd_l_pick ct_l_pick) ["_law_stream_here", "_law_some"] [] := Binds.all fun us hl => match us, hl with | [_, _], _ => rfl
  have D_l_made := df_mk (st := s_l_made) l_l_made c_l_made k_l_made
  have b_l_made : Binds K (PySem.W.fnOf "_law_made" "_law_made" (defArgs s_l_made) (defBody s_l_made) (defScope s_l_made) .none kV_l_made dc_l_made pm_l_made an_l_made cd_l_made ct_l_made) ["_law_one"] [] := Binds.all fun us hl => match us, hl with | [_], _ => rfl
  have D_l_kinds := df_mk (st := s_l_kinds) l_l_kinds c_l_kinds k_l_kinds
  have b_l_kinds : Binds K (PySem.W.fnOf "_law_kinds" "_law_kinds" (defArgs s_l_kinds) (defBody s_l_kinds) (defScope s_l_kinds) .none kV_l_kinds dc_l_kinds pm_l_kinds an_l_kinds cd_l_kinds ct_l_kinds) ["_law_error"] [] := Binds.all fun us hl => match us, hl with | [_], _ => rfl
  have D_l_bases := df_mk (st := s_l_bases) l_l_bases c_l_bases k_l_bases
  have b_l_bases : Binds K (PySem.W.fnOf "_law_bases" "_law_bases" (defArgs s_l_bases) (defBody s_l_bases) (defScope s_l_bases) .none kV_l_bases dc_l_bases pm_l_bases an_l_bases cd_l_bases ct_l_bases) ["_law_error"] [] := Binds.all fun us hl => match us, hl with | [_], _ => rfl
  have D_l_fields := df_mk (st := s_l_fields) l_l_fields c_l_fields k_l_fields
  have b_l_fields : Binds K (PySem.W.fnOf "_law_fields" "_law_fields" (defArgs s_l_fields) (defBody s_l_fields) (defScope s_l_fields) .none kV_l_fields dc_l_fields pm_l_fields an_l_fields cd_l_fields ct_l_fields) ["_law_some"] [] := Binds.all fun us hl => match us, hl with | [_], _ => rfl
  have D_l_right := df_mk (st := s_l_right) l_l_right c_l_right k_l_right
  have b_l_right : Binds K (PySem.W.fnOf "_law_right" "_law_right" (defArgs s_l_right) (defBody s_l_right) (defScope s_l_right) .none kV_l_right dc_l_right pm_l_right an_l_right cd_l_right ct_l_right) ["_law_one"] [] := Binds.all fun us hl => match us, hl with | [_], _ => rfl
  have D_law := df_mk (st := s_law) l_law c_law k_law
  have b_law : Binds K (PySem.W.fnOf "law" "law" (defArgs s_law) (defBody s_law) (defScope s_law) .none kV_law dc_law pm_law an_law cd_law ct_law) ["_law_script"] [] := Binds.all fun us hl => match us, hl with | [_], _ => rfl
  refine ⟨PySem.W.fnOf "law" "law" (defArgs s_law) (defBody s_law) (defScope s_law) .none kV_law dc_law pm_law an_law cd_law ct_law, fun s v => .of_eq rfl, fun base _ _ SM => ?_⟩
  have T : TxtB ⟨l.prog, w, K, mg, base⟩ := { b_len := PySem.W.mg_none_of X G b_len, b_isinstance := PySem.W.mg_none_of X G b_isinstance, b_repr := PySem.W.mg_none_of X G b_repr, b_enumerate := PySem.W.mg_none_of X G b_enumerate, b_range := PySem.W.mg_none_of X G b_range, b_ValueError := PySem.W.mg_none_of X G b_ValueError, b_RuntimeError := PySem.W.mg_none_of X G b_RuntimeError, b_OverflowError := PySem.W.mg_none_of X G b_OverflowError, b_LookupError := PySem.W.mg_none_of X G b_LookupError, b_NotImplementedError := PySem.W.mg_none_of X G b_NotImplementedError }
  have X_InvalidValue : XK1 ⟨l.prog, w, K, mg, base⟩ "InvalidValue" C_InvalidValue "path" := ⟨PySem.W.mg_of X G aC_InvalidValue, PySem.W.mg_none_of X G b_super, xb_InvalidValue.kp, xb_InvalidValue.hd, xb_InvalidValue.sa, nf_InvalidValue, _, _, _, _, _, _, _, _, _, _, xc_mk PySem.F.excBase_ValueError PySem.W.kxs_ValueError PySem.F.store_ValueError xa xb_InvalidValue in_InvalidValue l_InvalidValue co_InvalidValue fi_InvalidValue fe_InvalidValue ce_InvalidValue, xst_InvalidValue⟩
  have X_InvalidText : XK1 ⟨l.prog, w, K, mg, base⟩ "InvalidText" C_InvalidText "position" := ⟨PySem.W.mg_of X G aC_InvalidText, PySem.W.mg_none_of X G b_super, xb_InvalidText.kp, xb_InvalidText.hd, xb_InvalidText.sa, nf_InvalidText, _, _, _, _, _, _, _, _, _, _, xc_mk PySem.F.excBase_ValueError PySem.W.kxs_ValueError PySem.F.store_ValueError xa xb_InvalidText in_InvalidText l_InvalidText co_InvalidText fi_InvalidText fe_InvalidText ce_InvalidText, xst_InvalidText⟩
  have X_InvalidPath : XK1 ⟨l.prog, w, K, mg, base⟩ "InvalidPath" C_InvalidPath "given" := ⟨PySem.W.mg_of X G aC_InvalidPath, PySem.W.mg_none_of X G b_super, xb_InvalidPath.kp, xb_InvalidPath.hd, xb_InvalidPath.sa, nf_InvalidPath, _, _, _, _, _, _, _, _, _, _, xc_mk PySem.F.excBase_ValueError PySem.W.kxs_ValueError PySem.F.store_ValueError xa xb_InvalidPath in_InvalidPath l_InvalidPath co_InvalidPath fi_InvalidPath fe_InvalidPath ce_InvalidPath, xst_InvalidPath⟩
  have X_InvalidKey : XK1 ⟨l.prog, w, K, mg, base⟩ "InvalidKey" C_InvalidKey "given" := ⟨PySem.W.mg_of X G aC_InvalidKey, PySem.W.mg_none_of X G b_super, xb_InvalidKey.kp, xb_InvalidKey.hd, xb_InvalidKey.sa, nf_InvalidKey, _, _, _, _, _, _, _, _, _, _, xc_mk PySem.F.excBase_ValueError PySem.W.kxs_ValueError PySem.F.store_ValueError xa xb_InvalidKey in_InvalidKey l_InvalidKey co_InvalidKey fi_InvalidKey fe_InvalidKey ce_InvalidKey, xst_InvalidKey⟩
  have X_InvalidKind : XK1 ⟨l.prog, w, K, mg, base⟩ "InvalidKind" C_InvalidKind "given" := ⟨PySem.W.mg_of X G aC_InvalidKind, PySem.W.mg_none_of X G b_super, xb_InvalidKind.kp, xb_InvalidKind.hd, xb_InvalidKind.sa, nf_InvalidKind, _, _, _, _, _, _, _, _, _, _, xc_mk PySem.F.excBase_ValueError PySem.W.kxs_ValueError PySem.F.store_ValueError xa xb_InvalidKind in_InvalidKind l_InvalidKind co_InvalidKind fi_InvalidKind fe_InvalidKind ce_InvalidKind, xst_InvalidKind⟩
  have X_InvalidNumber : XK1 ⟨l.prog, w, K, mg, base⟩ "InvalidNumber" C_InvalidNumber "given" := ⟨PySem.W.mg_of X G aC_InvalidNumber, PySem.W.mg_none_of X G b_super, xb_InvalidNumber.kp, xb_InvalidNumber.hd, xb_InvalidNumber.sa, nf_InvalidNumber, _, _, _, _, _, _, _, _, _, _, xc_mk PySem.F.excBase_ValueError PySem.W.kxs_ValueError PySem.F.store_ValueError xa xb_InvalidNumber in_InvalidNumber l_InvalidNumber co_InvalidNumber fi_InvalidNumber fe_InvalidNumber ce_InvalidNumber, xst_InvalidNumber⟩
  have X_InvalidMapping : XK1 ⟨l.prog, w, K, mg, base⟩ "InvalidMapping" C_InvalidMapping "given" := ⟨PySem.W.mg_of X G aC_InvalidMapping, PySem.W.mg_none_of X G b_super, xb_InvalidMapping.kp, xb_InvalidMapping.hd, xb_InvalidMapping.sa, nf_InvalidMapping, _, _, _, _, _, _, _, _, _, _, xc_mk PySem.F.excBase_ValueError PySem.W.kxs_ValueError PySem.F.store_ValueError xa xb_InvalidMapping in_InvalidMapping l_InvalidMapping co_InvalidMapping fi_InvalidMapping fe_InvalidMapping ce_InvalidMapping, xst_InvalidMapping⟩
  have X_InvalidVolume : XK1 ⟨l.prog, w, K, mg, base⟩ "InvalidVolume" C_InvalidVolume "part" := ⟨PySem.W.mg_of X G aC_InvalidVolume, PySem.W.mg_none_of X G b_super, xb_InvalidVolume.kp, xb_InvalidVolume.hd, xb_InvalidVolume.sa, nf_InvalidVolume, _, _, _, _, _, _, _, _, _, _, xc_mk PySem.F.excBase_ValueError PySem.W.kxs_ValueError PySem.F.store_ValueError xa xb_InvalidVolume in_InvalidVolume l_InvalidVolume co_InvalidVolume fi_InvalidVolume fe_InvalidVolume ce_InvalidVolume, xst_InvalidVolume⟩
  have X_InvalidShelf : XK1 ⟨l.prog, w, K, mg, base⟩ "InvalidShelf" C_InvalidShelf "part" := ⟨PySem.W.mg_of X G aC_InvalidShelf, PySem.W.mg_none_of X G b_super, xb_InvalidShelf.kp, xb_InvalidShelf.hd, xb_InvalidShelf.sa, nf_InvalidShelf, _, _, _, _, _, _, _, _, _, _, xc_mk PySem.F.excBase_ValueError PySem.W.kxs_ValueError PySem.F.store_ValueError xa xb_InvalidShelf in_InvalidShelf l_InvalidShelf co_InvalidShelf fi_InvalidShelf fe_InvalidShelf ce_InvalidShelf, xst_InvalidShelf⟩
  have X_InvalidDeed : XK1 ⟨l.prog, w, K, mg, base⟩ "InvalidDeed" C_InvalidDeed "index" := ⟨PySem.W.mg_of X G aC_InvalidDeed, PySem.W.mg_none_of X G b_super, xb_InvalidDeed.kp, xb_InvalidDeed.hd, xb_InvalidDeed.sa, nf_InvalidDeed, _, _, _, _, _, _, _, _, _, _, xc_mk PySem.F.excBase_ValueError PySem.W.kxs_ValueError PySem.F.store_ValueError xa xb_InvalidDeed in_InvalidDeed l_InvalidDeed co_InvalidDeed fi_InvalidDeed fe_InvalidDeed ce_InvalidDeed, xst_InvalidDeed⟩
  have X_NotBlank : XK1 ⟨l.prog, w, K, mg, base⟩ "NotBlank" C_NotBlank "page" := ⟨PySem.W.mg_of X G aC_NotBlank, PySem.W.mg_none_of X G b_super, xb_NotBlank.kp, xb_NotBlank.hd, xb_NotBlank.sa, nf_NotBlank, _, _, _, _, _, _, _, _, _, _, xc_mk PySem.F.excBase_RuntimeError PySem.W.kxs_RuntimeError PySem.F.store_RuntimeError xa xb_NotBlank in_NotBlank l_NotBlank co_NotBlank fi_NotBlank fe_NotBlank ce_NotBlank, xst_NotBlank⟩
  have X_Damaged : XK1 ⟨l.prog, w, K, mg, base⟩ "Damaged" C_Damaged "page" := ⟨PySem.W.mg_of X G aC_Damaged, PySem.W.mg_none_of X G b_super, xb_Damaged.kp, xb_Damaged.hd, xb_Damaged.sa, nf_Damaged, _, _, _, _, _, _, _, _, _, _, xc_mk PySem.F.excBase_RuntimeError PySem.W.kxs_RuntimeError PySem.F.store_RuntimeError xa xb_Damaged in_Damaged l_Damaged co_Damaged fi_Damaged fe_Damaged ce_Damaged, xst_Damaged⟩
  have X_NoKey : XK1 ⟨l.prog, w, K, mg, base⟩ "NoKey" C_NoKey "given" := ⟨PySem.W.mg_of X G aC_NoKey, PySem.W.mg_none_of X G b_super, xb_NoKey.kp, xb_NoKey.hd, xb_NoKey.sa, nf_NoKey, _, _, _, _, _, _, _, _, _, _, xc_mk PySem.F.excBase_RuntimeError PySem.W.kxs_RuntimeError PySem.F.store_RuntimeError xa xb_NoKey in_NoKey l_NoKey co_NoKey fi_NoKey fe_NoKey ce_NoKey, xst_NoKey⟩
  have X_NotWritable : XK1 ⟨l.prog, w, K, mg, base⟩ "NotWritable" C_NotWritable "given" := ⟨PySem.W.mg_of X G aC_NotWritable, PySem.W.mg_none_of X G b_super, xb_NotWritable.kp, xb_NotWritable.hd, xb_NotWritable.sa, nf_NotWritable, _, _, _, _, _, _, _, _, _, _, xc_mk PySem.F.excBase_RuntimeError PySem.W.kxs_RuntimeError PySem.F.store_RuntimeError xa xb_NotWritable in_NotWritable l_NotWritable co_NotWritable fi_NotWritable fe_NotWritable ce_NotWritable, xst_NotWritable⟩
  have X_Conflict : XK1 ⟨l.prog, w, K, mg, base⟩ "Conflict" C_Conflict "given" := ⟨PySem.W.mg_of X G aC_Conflict, PySem.W.mg_none_of X G b_super, xb_Conflict.kp, xb_Conflict.hd, xb_Conflict.sa, nf_Conflict, _, _, _, _, _, _, _, _, _, _, xc_mk PySem.F.excBase_RuntimeError PySem.W.kxs_RuntimeError PySem.F.store_RuntimeError xa xb_Conflict in_Conflict l_Conflict co_Conflict fi_Conflict fe_Conflict ce_Conflict, xst_Conflict⟩
  have X_Dead : XK0 ⟨l.prog, w, K, mg, base⟩ "Dead" C_Dead := ⟨PySem.W.mg_of X G aC_Dead, PySem.W.mg_none_of X G b_super, xb_Dead.kp, _, _, _, _, _, _, _, _, _, xc_mk PySem.F.excBase_RuntimeError PySem.W.kxs_RuntimeError PySem.F.store_RuntimeError xa xb_Dead in_Dead l_Dead co_Dead fi_Dead fe_Dead ce_Dead, xst_Dead⟩
  have X_Closed : XK0 ⟨l.prog, w, K, mg, base⟩ "Closed" C_Closed := ⟨PySem.W.mg_of X G aC_Closed, PySem.W.mg_none_of X G b_super, xb_Closed.kp, _, _, _, _, _, _, _, _, _, xc_mk PySem.F.excBase_RuntimeError PySem.W.kxs_RuntimeError PySem.F.store_RuntimeError xa xb_Closed in_Closed l_Closed co_Closed fi_Closed fe_Closed ce_Closed, xst_Closed⟩
  have X_Locked : XK0 ⟨l.prog, w, K, mg, base⟩ "Locked" C_Locked := ⟨PySem.W.mg_of X G aC_Locked, PySem.W.mg_none_of X G b_super, xb_Locked.kp, _, _, _, _, _, _, _, _, _, xc_mk PySem.F.excBase_RuntimeError PySem.W.kxs_RuntimeError PySem.F.store_RuntimeError xa xb_Locked in_Locked l_Locked co_Locked fi_Locked fe_Locked ce_Locked, xst_Locked⟩
  have X_Busy : XK0 ⟨l.prog, w, K, mg, base⟩ "Busy" C_Busy := ⟨PySem.W.mg_of X G aC_Busy, PySem.W.mg_none_of X G b_super, xb_Busy.kp, _, _, _, _, _, _, _, _, _, xc_mk PySem.F.excBase_RuntimeError PySem.W.kxs_RuntimeError PySem.F.store_RuntimeError xa xb_Busy in_Busy l_Busy co_Busy fi_Busy fe_Busy ce_Busy, xst_Busy⟩
  have X_NothingToUndo : XK0 ⟨l.prog, w, K, mg, base⟩ "NothingToUndo" C_NothingToUndo := ⟨PySem.W.mg_of X G aC_NothingToUndo, PySem.W.mg_none_of X G b_super, xb_NothingToUndo.kp, _, _, _, _, _, _, _, _, _, xc_mk PySem.F.excBase_RuntimeError PySem.W.kxs_RuntimeError PySem.F.store_RuntimeError xa xb_NothingToUndo in_NothingToUndo l_NothingToUndo co_NothingToUndo fi_NothingToUndo fe_NothingToUndo ce_NothingToUndo, xst_NothingToUndo⟩
  have X_TooLarge : XK1 ⟨l.prog, w, K, mg, base⟩ "TooLarge" C_TooLarge "limit" := ⟨PySem.W.mg_of X G aC_TooLarge, PySem.W.mg_none_of X G b_super, xb_TooLarge.kp, xb_TooLarge.hd, xb_TooLarge.sa, nf_TooLarge, _, _, _, _, _, _, _, _, _, _, xc_mk PySem.F.excBase_OverflowError PySem.W.kxs_OverflowError PySem.F.store_OverflowError xa xb_TooLarge in_TooLarge l_TooLarge co_TooLarge fi_TooLarge fe_TooLarge ce_TooLarge, xst_TooLarge⟩
  have XX : Xs ⟨l.prog, w, K, mg, base⟩ C_InvalidValue C_InvalidText C_InvalidPath C_InvalidKey C_InvalidKind C_InvalidNumber C_InvalidMapping C_InvalidVolume C_InvalidShelf C_InvalidDeed C_NotBlank C_Damaged C_NoKey C_NotWritable C_Conflict C_Dead C_Closed C_Locked C_Busy C_NothingToUndo C_TooLarge := ⟨X_InvalidValue, X_InvalidText, X_InvalidPath, X_InvalidKey, X_InvalidKind, X_InvalidNumber, X_InvalidMapping, X_InvalidVolume, X_InvalidShelf, X_InvalidDeed, X_NotBlank, X_Damaged, X_NoKey, X_NotWritable, X_Conflict, X_Dead, X_Closed, X_Locked, X_Busy, X_NothingToUndo, X_TooLarge⟩
  have VV : Vs ⟨l.prog, w, K, mg, base⟩ C_InvalidValue C_InvalidText C_InvalidPath C_InvalidKey C_InvalidKind C_InvalidNumber C_InvalidMapping C_InvalidVolume C_InvalidShelf C_InvalidDeed C_NotBlank C_Damaged C_NoKey C_NotWritable C_Conflict C_Dead C_Closed C_Locked C_Busy C_NothingToUndo C_TooLarge := ⟨⟨_, PySem.W.mg_of X G aC_InvalidValue, rfl⟩, ⟨_, PySem.W.mg_of X G aC_InvalidText, rfl⟩, ⟨_, PySem.W.mg_of X G aC_InvalidPath, rfl⟩, ⟨_, PySem.W.mg_of X G aC_InvalidKey, rfl⟩, ⟨_, PySem.W.mg_of X G aC_InvalidKind, rfl⟩, ⟨_, PySem.W.mg_of X G aC_InvalidNumber, rfl⟩, ⟨_, PySem.W.mg_of X G aC_InvalidMapping, rfl⟩, ⟨_, PySem.W.mg_of X G aC_InvalidVolume, rfl⟩, ⟨_, PySem.W.mg_of X G aC_InvalidShelf, rfl⟩, ⟨_, PySem.W.mg_of X G aC_InvalidDeed, rfl⟩, ⟨_, PySem.W.mg_of X G aC_NotBlank, rfl⟩, ⟨_, PySem.W.mg_of X G aC_Damaged, rfl⟩, ⟨_, PySem.W.mg_of X G aC_NoKey, rfl⟩, ⟨_, PySem.W.mg_of X G aC_NotWritable, rfl⟩, ⟨_, PySem.W.mg_of X G aC_Conflict, rfl⟩, ⟨_, PySem.W.mg_of X G aC_Dead, rfl⟩, ⟨_, PySem.W.mg_of X G aC_Closed, rfl⟩, ⟨_, PySem.W.mg_of X G aC_Locked, rfl⟩, ⟨_, PySem.W.mg_of X G aC_Busy, rfl⟩, ⟨_, PySem.W.mg_of X G aC_NothingToUndo, rfl⟩, ⟨_, PySem.W.mg_of X G aC_TooLarge, rfl⟩⟩
  have XF : Fs ⟨l.prog, w, K, mg, base⟩ C_InvalidValue C_InvalidText C_InvalidPath C_InvalidKey C_InvalidKind C_InvalidNumber C_InvalidMapping C_InvalidVolume C_InvalidShelf C_InvalidDeed C_NotBlank C_Damaged C_NoKey C_NotWritable C_Conflict C_Dead C_Closed C_Locked C_Busy C_NothingToUndo C_TooLarge := ⟨xb_InvalidValue.xf, nf_InvalidValue, xb_InvalidText.xf, nf_InvalidText, xb_InvalidPath.xf, nf_InvalidPath, xb_InvalidKey.xf, nf_InvalidKey, xb_InvalidKind.xf, nf_InvalidKind, xb_InvalidNumber.xf, nf_InvalidNumber, xb_InvalidMapping.xf, nf_InvalidMapping, xb_InvalidVolume.xf, nf_InvalidVolume, xb_InvalidShelf.xf, nf_InvalidShelf, xb_InvalidDeed.xf, nf_InvalidDeed, xb_NotBlank.xf, nf_NotBlank, xb_Damaged.xf, nf_Damaged, xb_NoKey.xf, nf_NoKey, xb_NotWritable.xf, nf_NotWritable, xb_Conflict.xf, nf_Conflict, xb_TooLarge.xf, nf_TooLarge⟩
  have V_ShelfError : Gv ⟨l.prog, w, K, mg, base⟩ "ShelfError" (.ref B_0) := ⟨_, PySem.W.mg_of X G aB_0, rfl⟩
  have V_ShelfStateError : Gv ⟨l.prog, w, K, mg, base⟩ "ShelfStateError" (.ref B_1) := ⟨_, PySem.W.mg_of X G aB_1, rfl⟩
  have V_LimitError : Gv ⟨l.prog, w, K, mg, base⟩ "LimitError" (.ref B_2) := ⟨_, PySem.W.mg_of X G aB_2, rfl⟩
  have TB : ∀ i C fo, ([(C_InvalidValue, some "path"), (C_InvalidText, some "position"), (C_InvalidPath, some "given"), (C_InvalidKey, some "given"), (C_InvalidKind, some "given"), (C_InvalidNumber, some "given"), (C_InvalidMapping, some "given"), (C_InvalidVolume, some "part"), (C_InvalidShelf, some "part"), (C_InvalidDeed, some "index"), (C_NotBlank, some "page"), (C_Damaged, some "page"), (C_NoKey, some "given"), (C_NotWritable, some "given"), (C_Conflict, some "given"), (C_Dead, none), (C_Closed, none), (C_Locked, none), (C_Busy, none), (C_NothingToUndo, none), (C_TooLarge, some "limit")] : List (Addr × Option Str))[i]? = some (C, fo) → ExcC K C ∧ Knds K C i C_InvalidValue C_InvalidText C_InvalidPath C_InvalidKey C_InvalidKind C_InvalidNumber C_InvalidMapping C_InvalidVolume C_InvalidShelf C_InvalidDeed C_NotBlank C_Damaged C_NoKey C_NotWritable C_Conflict C_Dead C_Closed C_Locked C_Busy C_NothingToUndo C_TooLarge ∧ Bss K C (baseOf i) B_0 B_1 B_2 := by
    intro i C fo hi
    match i, hi with
    | 0, hi => cases hi; exact ⟨xb_InvalidValue.exc xa, kn_InvalidValue, bs_InvalidValue⟩
    | 1, hi => cases hi; exact ⟨xb_InvalidText.exc xa, kn_InvalidText, bs_InvalidText⟩
    | 2, hi => cases hi; exact ⟨xb_InvalidPath.exc xa, kn_InvalidPath, bs_InvalidPath⟩
    | 3, hi => cases hi; exact ⟨xb_InvalidKey.exc xa, kn_InvalidKey, bs_InvalidKey⟩
    | 4, hi => cases hi; exact ⟨xb_InvalidKind.exc xa, kn_InvalidKind, bs_InvalidKind⟩
    | 5, hi => cases hi; exact ⟨xb_InvalidNumber.exc xa, kn_InvalidNumber, bs_InvalidNumber⟩
    | 6, hi => cases hi; exact ⟨xb_InvalidMapping.exc xa, kn_InvalidMapping, bs_InvalidMapping⟩
    | 7, hi => cases hi; exact ⟨xb_InvalidVolume.exc xa, kn_InvalidVolume, bs_InvalidVolume⟩
    | 8, hi => cases hi; exact ⟨xb_InvalidShelf.exc xa, kn_InvalidShelf, bs_InvalidShelf⟩
    | 9, hi => cases hi; exact ⟨xb_InvalidDeed.exc xa, kn_InvalidDeed, bs_InvalidDeed⟩
    | 10, hi => cases hi; exact ⟨xb_NotBlank.exc xa, kn_NotBlank, bs_NotBlank⟩
    | 11, hi => cases hi; exact ⟨xb_Damaged.exc xa, kn_Damaged, bs_Damaged⟩
    | 12, hi => cases hi; exact ⟨xb_NoKey.exc xa, kn_NoKey, bs_NoKey⟩
    | 13, hi => cases hi; exact ⟨xb_NotWritable.exc xa, kn_NotWritable, bs_NotWritable⟩
    | 14, hi => cases hi; exact ⟨xb_Conflict.exc xa, kn_Conflict, bs_Conflict⟩
    | 15, hi => cases hi; exact ⟨xb_Dead.exc xa, kn_Dead, bs_Dead⟩
    | 16, hi => cases hi; exact ⟨xb_Closed.exc xa, kn_Closed, bs_Closed⟩
    | 17, hi => cases hi; exact ⟨xb_Locked.exc xa, kn_Locked, bs_Locked⟩
    | 18, hi => cases hi; exact ⟨xb_Busy.exc xa, kn_Busy, bs_Busy⟩
    | 19, hi => cases hi; exact ⟨xb_NothingToUndo.exc xa, kn_NothingToUndo, bs_NothingToUndo⟩
    | 20, hi => cases hi; exact ⟨xb_TooLarge.exc xa, kn_TooLarge, bs_TooLarge⟩
    | i + 21, hi => simp at hi
  have F_l_mixed : Kn ⟨l.prog, w, K, mg, base⟩ "_law_mixed" 1 ["_law_number", "_law_k"] [] sp_mixed := ⟨_, _, [], PySem.W.mg_of X G a_l_mixed, k_l_mixed, ok_mixed D_l_mixed T.toTxt, b_l_mixed, .nil⟩
  have F_l_stream : Kn ⟨l.prog, w, K, mg, base⟩ "_law_stream" 2 ["_law_item", "_law_k"] [] sp_stream := ⟨_, _, [], PySem.W.mg_of X G a_l_stream, k_l_stream, ok_stream D_l_stream T.toTxt F_l_mixed, b_l_stream, .nil⟩
  have F_l_draw : Kn ⟨l.prog, w, K, mg, base⟩ "_law_draw" 2 ["_law_stream_here", "_law_top"] [] sp_draw := ⟨_, _, [], PySem.W.mg_of X G a_l_draw, k_l_draw, ok_draw D_l_draw T.toTxt F_l_mixed, b_l_draw, .nil⟩
  have F_l_pick : Kn ⟨l.prog, w, K, mg, base⟩ "_law_pick" 3 ["_law_stream_here", "_law_some"] [] sp_pick := ⟨_, _, [], PySem.W.mg_of X G a_l_pick, k_l_pick, ok_pick D_l_pick T.toTxt F_l_draw, b_l_pick, .nil⟩
  have F_l_made : Kn ⟨l.prog, w, K, mg, base⟩ "_law_made" 3 ["_law_one"] [] (sp_made C_InvalidValue C_InvalidText C_InvalidPath C_InvalidKey C_InvalidKind C_InvalidNumber C_InvalidMapping C_InvalidVolume C_InvalidShelf C_InvalidDeed C_NotBlank C_Damaged C_NoKey C_NotWritable C_Conflict C_Dead C_Closed C_Locked C_Busy C_NothingToUndo C_TooLarge) := ⟨_, _, [], PySem.W.mg_of X G a_l_made, k_l_made, ok_made D_l_made T.toTxt XX, b_l_made, .nil⟩
  have F_l_kinds : Kn ⟨l.prog, w, K, mg, base⟩ "_law_kinds" 1 ["_law_error"] [] (sp_kinds K C_InvalidValue C_InvalidText C_InvalidPath C_InvalidKey C_InvalidKind C_InvalidNumber C_InvalidMapping C_InvalidVolume C_InvalidShelf C_InvalidDeed C_NotBlank C_Damaged C_NoKey C_NotWritable C_Conflict C_Dead C_Closed C_Locked C_Busy C_NothingToUndo C_TooLarge) := ⟨_, _, [], PySem.W.mg_of X G a_l_kinds, k_l_kinds, ok_kinds D_l_kinds T.toTxt VV, b_l_kinds, .nil⟩
  have F_l_bases : Kn ⟨l.prog, w, K, mg, base⟩ "_law_bases" 1 ["_law_error"] [] (sp_bases K B_0 B_1 B_2) := ⟨_, _, [], PySem.W.mg_of X G a_l_bases, k_l_bases, ok_bases D_l_bases T V_ShelfError V_ShelfStateError V_LimitError, b_l_bases, .nil⟩
  have F_l_fields : Kn ⟨l.prog, w, K, mg, base⟩ "_law_fields" 1 ["_law_some"] [] (sp_fields C_InvalidValue C_InvalidText C_InvalidPath C_InvalidKey C_InvalidKind C_InvalidNumber C_InvalidMapping C_InvalidVolume C_InvalidShelf C_InvalidDeed C_NotBlank C_Damaged C_NoKey C_NotWritable C_Conflict C_Dead C_Closed C_Locked C_Busy C_NothingToUndo C_TooLarge) := ⟨_, _, [], PySem.W.mg_of X G a_l_fields, k_l_fields, ok_fields D_l_fields T.toTxt XF, b_l_fields, .nil⟩
  have F_l_right : Kn ⟨l.prog, w, K, mg, base⟩ "_law_right" 4 ["_law_one"] [] (sp_right K) := ⟨_, _, [], PySem.W.mg_of X G a_l_right, k_l_right, ok_right D_l_right T SM TB F_l_made F_l_fields F_l_kinds F_l_bases, b_l_right, .nil⟩
  exact ok_law D_law T F_l_stream F_l_pick F_l_right


end K01
open PySem PySem.W PyProof.Rows
local macro_rules | `(tactic| o_head ($f:ident $k $a $e)) => `(tactic| o_head (RS.smHook ($f $k $a $e)))
set_option maxRecDepth 100000 in
set_option maxHeartbeats 0 in
theorem PySem.Challenge.cw_recordshelf_k01_error_classes_holds : PySem.Challenge.rw_recordshelf_k01_error_classes.Holds := by
  w_on; o_law; k_head; (case hw => w_witness2)
  k_fill
  refine RS.walkS (l := PySem.Challenge.rw_recordshelf_k01_error_classes) (n := 63) (k := 5) (sp := fun w => K01.sp_law _) (x := "_law_script") rfl (by decide) rfl ⟨rfl, by decide, by decide⟩ (fun w h Y => PySem.W.kIn_of Y.1) (fun w h Y => Y.2) ?F (fun w H a ns hl hb hO hS => ⟨_, rfl, a, ns, rfl, hS, by omega, fun _ => rfl⟩)
  case F =>
    intro w mg fa h KX G hmg
    refine' K01.all_mk (l := PySem.Challenge.rw_recordshelf_k01_error_classes) KX G hmg ?b_super ?xa ?aC_InvalidValue ?in_InvalidValue ?l_InvalidValue ?co_InvalidValue ?fi_InvalidValue ?fe_InvalidValue ?ce_InvalidValue ?xb_InvalidValue ?nf_InvalidValue ?aC_InvalidText ?in_InvalidText ?l_InvalidText ?co_InvalidText ?fi_InvalidText ?fe_InvalidText ?ce_InvalidText ?xb_InvalidText ?nf_InvalidText ?aC_InvalidPath ?in_InvalidPath ?l_InvalidPath ?co_InvalidPath ?fi_InvalidPath ?fe_InvalidPath ?ce_InvalidPath ?xb_InvalidPath ?nf_InvalidPath ?aC_InvalidKey ?in_InvalidKey ?l_InvalidKey ?co_InvalidKey ?fi_InvalidKey ?fe_InvalidKey ?ce_InvalidKey ?xb_InvalidKey ?nf_InvalidKey ?aC_InvalidKind ?in_InvalidKind ?l_InvalidKind ?co_InvalidKind ?fi_InvalidKind ?fe_InvalidKind ?ce_InvalidKind ?xb_InvalidKind ?nf_InvalidKind ?aC_InvalidNumber ?in_InvalidNumber ?l_InvalidNumber ?co_InvalidNumber ?fi_InvalidNumber ?fe_InvalidNumber ?ce_InvalidNumber ?xb_InvalidNumber ?nf_InvalidNumber ?aC_InvalidMapping ?in_InvalidMapping ?l_InvalidMapping ?co_InvalidMapping ?fi_InvalidMapping ?fe_InvalidMapping ?ce_InvalidMapping ?xb_InvalidMapping ?nf_InvalidMapping ?aC_InvalidVolume ?in_InvalidVolume ?l_InvalidVolume ?co_InvalidVolume ?fi_InvalidVolume ?fe_InvalidVolume ?ce_InvalidVolume ?xb_InvalidVolume ?nf_InvalidVolume ?aC_InvalidShelf ?in_InvalidShelf ?l_InvalidShelf ?co_InvalidShelf ?fi_InvalidShelf ?fe_InvalidShelf ?ce_InvalidShelf ?xb_InvalidShelf ?nf_InvalidShelf ?aC_InvalidDeed ?in_InvalidDeed ?l_InvalidDeed ?co_InvalidDeed ?fi_InvalidDeed ?fe_InvalidDeed ?ce_InvalidDeed ?xb_InvalidDeed ?nf_InvalidDeed ?aC_NotBlank ?in_NotBlank ?l_NotBlank ?co_NotBlank ?fi_NotBlank ?fe_NotBlank ?ce_NotBlank ?xb_NotBlank ?nf_NotBlank ?aC_Damaged ?in_Damaged ?l_Damaged ?co_Damaged ?fi_Damaged ?fe_Damaged ?ce_Damaged ?xb_Damaged ?nf_Damaged ?aC_NoKey ?in_NoKey ?l_NoKey ?co_NoKey ?fi_NoKey ?fe_NoKey ?ce_NoKey ?xb_NoKey ?nf_NoKey ?aC_NotWritable ?in_NotWritable ?l_NotWritable ?co_NotWritable ?fi_NotWritable ?fe_NotWritable ?ce_NotWritable ?xb_NotWritable ?nf_NotWritable ?aC_Conflict ?in_Conflict ?l_Conflict ?co_Conflict ?fi_Conflict ?fe_Conflict ?ce_Conflict ?xb_Conflict ?nf_Conflict ?aC_Dead ?in_Dead ?l_Dead ?co_Dead ?fi_Dead ?fe_Dead ?ce_Dead ?xb_Dead ?aC_Closed ?in_Closed ?l_Closed ?co_Closed ?fi_Closed ?fe_Closed ?ce_Closed ?xb_Closed ?aC_Locked ?in_Locked ?l_Locked ?co_Locked ?fi_Locked ?fe_Locked ?ce_Locked ?xb_Locked ?aC_Busy ?in_Busy ?l_Busy ?co_Busy ?fi_Busy ?fe_Busy ?ce_Busy ?xb_Busy ?aC_NothingToUndo ?in_NothingToUndo ?l_NothingToUndo ?co_NothingToUndo ?fi_NothingToUndo ?fe_NothingToUndo ?ce_NothingToUndo ?xb_NothingToUndo ?aC_TooLarge ?in_TooLarge ?l_TooLarge ?co_TooLarge ?fi_TooLarge ?fe_TooLarge ?ce_TooLarge ?xb_TooLarge ?nf_TooLarge ?aB_0 ?aB_1 ?aB_2 ?kn_InvalidValue ?bs_InvalidValue ?kn_InvalidText ?bs_InvalidText ?kn_InvalidPath ?bs_InvalidPath ?kn_InvalidKey ?bs_InvalidKey ?kn_InvalidKind ?bs_InvalidKind ?kn_InvalidNumber ?bs_InvalidNumber ?kn_InvalidMapping ?bs_InvalidMapping ?kn_InvalidVolume ?bs_InvalidVolume ?kn_InvalidShelf ?bs_InvalidShelf ?kn_InvalidDeed ?bs_InvalidDeed ?kn_NotBlank ?bs_NotBlank ?kn_Damaged ?bs_Damaged ?kn_NoKey ?bs_NoKey ?kn_NotWritable ?bs_NotWritable ?kn_Conflict ?bs_Conflict ?kn_Dead ?bs_Dead ?kn_Closed ?bs_Closed ?kn_Locked ?bs_Locked ?kn_Busy ?bs_Busy ?kn_NothingToUndo ?bs_NothingToUndo ?kn_TooLarge ?bs_TooLarge ?a_l_mixed ?l_l_mixed ?c_l_mixed ?k_l_mixed ?a_l_stream ?l_l_stream ?c_l_stream ?k_l_stream ?a_l_draw ?l_l_draw ?c_l_draw ?k_l_draw ?a_l_pick ?l_l_pick ?c_l_pick ?k_l_pick ?a_l_made ?l_l_made ?c_l_made ?k_l_made ?a_l_kinds ?l_l_kinds ?c_l_kinds ?k_l_kinds ?a_l_bases ?l_l_bases ?c_l_bases ?k_l_bases ?a_l_fields ?l_l_fields ?c_l_fields ?k_l_fields ?a_l_right ?l_l_right ?c_l_right ?k_l_right ?a_law ?l_law ?c_law ?k_law ?b_len ?b_isinstance ?b_repr ?b_enumerate ?b_range ?b_ValueError ?b_RuntimeError ?b_OverflowError ?b_LookupError ?b_NotImplementedError
    (case b_super => k_is)
    (case xa => exact ⟨by kernel_rfl, by kernel_rfl, by kernel_rfl, by kernel_rfl⟩)
    (case aC_InvalidValue => k_is)
    (case in_InvalidValue => k_is)
    (case l_InvalidValue => k_is)
    (case co_InvalidValue => k_is)
    (case fi_InvalidValue => exact rfl)
    (case fe_InvalidValue => kernel_rfl)
    (case ce_InvalidValue => k_is)
    (case xb_InvalidValue => exact ⟨by kernel_rfl, by kernel_rfl, by kernel_rfl, by kernel_rfl, by kernel_rfl, by kernel_rfl, by kernel_rfl, by kernel_rfl, by kernel_rfl, by kernel_rfl, by kernel_rfl, by kernel_rfl, by kernel_rfl, by kernel_rfl, by kernel_rfl⟩)
    (case nf_InvalidValue => kernel_rfl)
    (case aC_InvalidText => k_is)
    (case in_InvalidText => k_is)
    (case l_InvalidText => k_is)
    (case co_InvalidText => k_is)
    (case fi_InvalidText => exact rfl)
    (case fe_InvalidText => kernel_rfl)
    (case ce_InvalidText => k_is)
    (case xb_InvalidText => exact ⟨by kernel_rfl, by kernel_rfl, by kernel_rfl, by kernel_rfl, by kernel_rfl, by kernel_rfl, by kernel_rfl, by kernel_rfl, by kernel_rfl, by kernel_rfl, by kernel_rfl, by kernel_rfl, by kernel_rfl, by kernel_rfl, by kernel_rfl⟩)
    (case nf_InvalidText => kernel_rfl)
    (case aC_InvalidPath => k_is)
    (case in_InvalidPath => k_is)
    (case l_InvalidPath => k_is)
    (case co_InvalidPath => k_is)
    (case fi_InvalidPath => exact rfl)
    (case fe_InvalidPath => kernel_rfl)
    (case ce_InvalidPath => k_is)
    (case xb_InvalidPath => exact ⟨by kernel_rfl, by kernel_rfl, by kernel_rfl, by kernel_rfl, by kernel_rfl, by kernel_rfl, by kernel_rfl, by kernel_rfl, by kernel_rfl, by kernel_rfl, by kernel_rfl, by kernel_rfl, by kernel_rfl, by kernel_rfl, by kernel_rfl⟩)
    (case nf_InvalidPath => kernel_rfl)
    (case aC_InvalidKey => k_is)
    (case in_InvalidKey => k_is)
    (case l_InvalidKey => k_is)
    (case co_InvalidKey => k_is)
    (case fi_InvalidKey => exact rfl)
    (case fe_InvalidKey => kernel_rfl)
    (case ce_InvalidKey => k_is)
    (case xb_InvalidKey => exact ⟨by kernel_rfl, by kernel_rfl, by kernel_rfl, by kernel_rfl, by kernel_rfl, by kernel_rfl, by kernel_rfl, by kernel_rfl, by kernel_rfl, by kernel_rfl, by kernel_rfl, by kernel_rfl, by kernel_rfl, by kernel_rfl, by kernel_rfl⟩)
    (case nf_InvalidKey => kernel_rfl)
    (case aC_InvalidKind => k_is)
    (case in_InvalidKind => k_is)
    (case l_InvalidKind => k_is)
    (case co_InvalidKind => k_is)
    (case fi_InvalidKind => exact rfl)
    (case fe_InvalidKind => kernel_rfl)
    (case ce_InvalidKind => k_is)
    (case xb_InvalidKind => exact ⟨by kernel_rfl, by kernel_rfl, by kernel_rfl, by kernel_rfl, by kernel_rfl, by kernel_rfl, by kernel_rfl, by kernel_rfl, by kernel_rfl, by kernel_rfl, by kernel_rfl, by kernel_rfl, by kernel_rfl, by kernel_rfl, by kernel_rfl⟩)
    (case nf_InvalidKind => kernel_rfl)
    (case aC_InvalidNumber => k_is)
    (case in_InvalidNumber => k_is)
    (case l_InvalidNumber => k_is)
    (case co_InvalidNumber => k_is)
    (case fi_InvalidNumber => exact rfl)
    (case fe_InvalidNumber => kernel_rfl)
    (case ce_InvalidNumber => k_is)
    (case xb_InvalidNumber => exact ⟨by kernel_rfl, by kernel_rfl, by kernel_rfl, by kernel_rfl, by kernel_rfl, by kernel_rfl, by kernel_rfl, by kernel_rfl, by kernel_rfl, by kernel_rfl, by kernel_rfl, by kernel_rfl, by kernel_rfl, by kernel_rfl, by kernel_rfl⟩)
    (case nf_InvalidNumber => kernel_rfl)
    (case aC_InvalidMapping => k_is)
    (case in_InvalidMapping => k_is)
    (case l_InvalidMapping => k_is)
    (case co_InvalidMapping => k_is)
    (case fi_InvalidMapping => exact rfl)
    (case fe_InvalidMapping => kernel_rfl)
    (case ce_InvalidMapping => k_is)
    (case xb_InvalidMapping => exact ⟨by kernel_rfl, by kernel_rfl, by kernel_rfl, by kernel_rfl, by kernel_rfl, by kernel_rfl, by kernel_rfl, by kernel_rfl, by kernel_rfl, by kernel_rfl, by kernel_rfl, by kernel_rfl, by kernel_rfl, by kernel_rfl, by kernel_rfl⟩)
    (case nf_InvalidMapping => kernel_rfl)
    (case aC_InvalidVolume => k_is)
    (case in_InvalidVolume => k_is)
    (case l_InvalidVolume => k_is)
    (case co_InvalidVolume => k_is)
    (case fi_InvalidVolume => exact rfl)
    (case fe_InvalidVolume => kernel_rfl)
    (case ce_InvalidVolume => k_is)
    (case xb_InvalidVolume => exact ⟨by kernel_rfl, by kernel_rfl, by kernel_rfl, by kernel_rfl, by kernel_rfl, by kernel_rfl, by kernel_rfl, by kernel_rfl, by kernel_rfl, by kernel_rfl, by kernel_rfl, by kernel_rfl, by kernel_rfl, by kernel_rfl, by kernel_rfl⟩)
    (case nf_InvalidVolume => kernel_rfl)
    (case aC_InvalidShelf => k_is)
    (case in_InvalidShelf => k_is)
    (case l_InvalidShelf => k_is)
    (case co_InvalidShelf => k_is)
    (case fi_InvalidShelf => exact rfl)
    (case fe_InvalidShelf => kernel_rfl)
    (case ce_InvalidShelf => k_is)
    (case xb_InvalidShelf => exact ⟨by kernel_rfl, by kernel_rfl, by kernel_rfl, by kernel_rfl, by kernel_rfl, by kernel_rfl, by kernel_rfl, by kernel_rfl, by kernel_rfl, by kernel_rfl, by kernel_rfl, by kernel_rfl, by kernel_rfl, by kernel_rfl, by kernel_rfl⟩)
    (case nf_InvalidShelf => kernel_rfl)
    (case aC_InvalidDeed => k_is)
    (case in_InvalidDeed => k_is)
    (case l_InvalidDeed => k_is)
    (case co_InvalidDeed => k_is)
    (case fi_InvalidDeed => exact rfl)
    (case fe_InvalidDeed => kernel_rfl)
    (case ce_InvalidDeed => k_is)
    (case xb_InvalidDeed => exact ⟨by kernel_rfl, by kernel_rfl, by kernel_rfl, by kernel_rfl, by kernel_rfl, by kernel_rfl, by kernel_rfl, by kernel_rfl, by kernel_rfl, by kernel_rfl, by kernel_rfl, by kernel_rfl, by kernel_rfl, by kernel_rfl, by kernel_rfl⟩)
    (case nf_InvalidDeed => kernel_rfl)
    (case aC_NotBlank => k_is)
    (case in_NotBlank => k_is)
    (case l_NotBlank => k_is)
    (case co_NotBlank => k_is)
    (case fi_NotBlank => exact rfl)
    (case fe_NotBlank => kernel_rfl)
    (case ce_NotBlank => k_is)
    (case xb_NotBlank => exact ⟨by kernel_rfl, by kernel_rfl, by kernel_rfl, by kernel_rfl, by kernel_rfl, by kernel_rfl, by kernel_rfl, by kernel_rfl, by kernel_rfl, by kernel_rfl, by kernel_rfl, by kernel_rfl, by kernel_rfl, by kernel_rfl, by kernel_rfl⟩)
    (case nf_NotBlank => kernel_rfl)
    (case aC_Damaged => k_is)
    (case in_Damaged => k_is)
    (case l_Damaged => k_is)
    (case co_Damaged => k_is)
    (case fi_Damaged => exact rfl)
    (case fe_Damaged => kernel_rfl)
    (case ce_Damaged => k_is)
    (case xb_Damaged => exact ⟨by kernel_rfl, by kernel_rfl, by kernel_rfl, by kernel_rfl, by kernel_rfl, by kernel_rfl, by kernel_rfl, by kernel_rfl, by kernel_rfl, by kernel_rfl, by kernel_rfl, by kernel_rfl, by kernel_rfl, by kernel_rfl, by kernel_rfl⟩)
    (case nf_Damaged => kernel_rfl)
    (case aC_NoKey => k_is)
    (case in_NoKey => k_is)
    (case l_NoKey => k_is)
    (case co_NoKey => k_is)
    (case fi_NoKey => exact rfl)
    (case fe_NoKey => kernel_rfl)
    (case ce_NoKey => k_is)
    (case xb_NoKey => exact ⟨by kernel_rfl, by kernel_rfl, by kernel_rfl, by kernel_rfl, by kernel_rfl, by kernel_rfl, by kernel_rfl, by kernel_rfl, by kernel_rfl, by kernel_rfl, by kernel_rfl, by kernel_rfl, by kernel_rfl, by kernel_rfl, by kernel_rfl⟩)
    (case nf_NoKey => kernel_rfl)
    (case aC_NotWritable => k_is)
    (case in_NotWritable => k_is)
    (case l_NotWritable => k_is)
    (case co_NotWritable => k_is)
    (case fi_NotWritable => exact rfl)
    (case fe_NotWritable => kernel_rfl)
    (case ce_NotWritable => k_is)
    (case xb_NotWritable => exact ⟨by kernel_rfl, by kernel_rfl, by kernel_rfl, by kernel_rfl, by kernel_rfl, by kernel_rfl, by kernel_rfl, by kernel_rfl, by kernel_rfl, by kernel_rfl, by kernel_rfl, by kernel_rfl, by kernel_rfl, by kernel_rfl, by kernel_rfl⟩)
    (case nf_NotWritable => kernel_rfl)
    (case aC_Conflict => k_is)
    (case in_Conflict => k_is)
    (case l_Conflict => k_is)
    (case co_Conflict => k_is)
    (case fi_Conflict => exact rfl)
    (case fe_Conflict => kernel_rfl)
    (case ce_Conflict => k_is)
    (case xb_Conflict => exact ⟨by kernel_rfl, by kernel_rfl, by kernel_rfl, by kernel_rfl, by kernel_rfl, by kernel_rfl, by kernel_rfl, by kernel_rfl, by kernel_rfl, by kernel_rfl, by kernel_rfl, by kernel_rfl, by kernel_rfl, by kernel_rfl, by kernel_rfl⟩)
    (case nf_Conflict => kernel_rfl)
    (case aC_Dead => k_is)
    (case in_Dead => k_is)
    (case l_Dead => k_is)
    (case co_Dead => k_is)
    (case fi_Dead => exact rfl)
    (case fe_Dead => kernel_rfl)
    (case ce_Dead => k_is)
    (case xb_Dead => exact ⟨by kernel_rfl, by kernel_rfl, by kernel_rfl, by kernel_rfl, by kernel_rfl, by kernel_rfl, by kernel_rfl, by kernel_rfl, by kernel_rfl, by kernel_rfl, by kernel_rfl, by kernel_rfl, by kernel_rfl, by kernel_rfl, by kernel_rfl⟩)
    (case aC_Closed => k_is)
    (case in_Closed => k_is)
    (case l_Closed => k_is)
    (case co_Closed => k_is)
    (case fi_Closed => exact rfl)
    (case fe_Closed => kernel_rfl)
    (case ce_Closed => k_is)
    (case xb_Closed => exact ⟨by kernel_rfl, by kernel_rfl, by kernel_rfl, by kernel_rfl, by kernel_rfl, by kernel_rfl, by kernel_rfl, by kernel_rfl, by kernel_rfl, by kernel_rfl, by kernel_rfl, by kernel_rfl, by kernel_rfl, by kernel_rfl, by kernel_rfl⟩)
    (case aC_Locked => k_is)
    (case in_Locked => k_is)
    (case l_Locked => k_is)
    (case co_Locked => k_is)
    (case fi_Locked => exact rfl)
    (case fe_Locked => kernel_rfl)
    (case ce_Locked => k_is)
    (case xb_Locked => exact ⟨by kernel_rfl, by kernel_rfl, by kernel_rfl, by kernel_rfl, by kernel_rfl, by kernel_rfl, by kernel_rfl, by kernel_rfl, by kernel_rfl, by kernel_rfl, by kernel_rfl, by kernel_rfl, by kernel_rfl, by kernel_rfl, by kernel_rfl⟩)
    (case aC_Busy => k_is)
    (case in_Busy => k_is)
    (case l_Busy => k_is)
    (case co_Busy => k_is)
    (case fi_Busy => exact rfl)
    (case fe_Busy => kernel_rfl)
    (case ce_Busy => k_is)
    (case xb_Busy => exact ⟨by kernel_rfl, by kernel_rfl, by kernel_rfl, by kernel_rfl, by kernel_rfl, by kernel_rfl, by kernel_rfl, by kernel_rfl, by kernel_rfl, by kernel_rfl, by kernel_rfl, by kernel_rfl, by kernel_rfl, by kernel_rfl, by kernel_rfl⟩)
    (case aC_NothingToUndo => k_is)
    (case in_NothingToUndo => k_is)
    (case l_NothingToUndo => k_is)
    (case co_NothingToUndo => k_is)
    (case fi_NothingToUndo => exact rfl)
    (case fe_NothingToUndo => kernel_rfl)
    (case ce_NothingToUndo => k_is)
    (case xb_NothingToUndo => exact ⟨by kernel_rfl, by kernel_rfl, by kernel_rfl, by kernel_rfl, by kernel_rfl, by kernel_rfl, by kernel_rfl, by kernel_rfl, by kernel_rfl, by kernel_rfl, by kernel_rfl, by kernel_rfl, by kernel_rfl, by kernel_rfl, by kernel_rfl⟩)
    (case aC_TooLarge => k_is)
    (case in_TooLarge => k_is)
    (case l_TooLarge => k_is)
    (case co_TooLarge => k_is)
    (case fi_TooLarge => exact rfl)
    (case fe_TooLarge => kernel_rfl)
    (case ce_TooLarge => k_is)
    (case xb_TooLarge => exact ⟨by kernel_rfl, by kernel_rfl, by kernel_rfl, by kernel_rfl, by kernel_rfl, by kernel_rfl, by kernel_rfl, by kernel_rfl, by kernel_rfl, by kernel_rfl, by kernel_rfl, by kernel_rfl, by kernel_rfl, by kernel_rfl, by kernel_rfl⟩)
    (case nf_TooLarge => kernel_rfl)
    (case aB_0 => k_is)
    (case aB_1 => k_is)
    (case aB_2 => k_is)
    (case kn_InvalidValue => exact ⟨by kernel_rfl, by kernel_rfl, by kernel_rfl, by kernel_rfl, by kernel_rfl, by kernel_rfl, by kernel_rfl, by kernel_rfl, by kernel_rfl, by kernel_rfl, by kernel_rfl, by kernel_rfl, by kernel_rfl, by kernel_rfl, by kernel_rfl, by kernel_rfl, by kernel_rfl, by kernel_rfl, by kernel_rfl, by kernel_rfl, by kernel_rfl⟩)
    (case bs_InvalidValue => exact ⟨by kernel_rfl, by kernel_rfl, by kernel_rfl, by kernel_rfl, by kernel_rfl, by kernel_rfl, by kernel_rfl, by kernel_rfl⟩)
    (case kn_InvalidText => exact ⟨by kernel_rfl, by kernel_rfl, by kernel_rfl, by kernel_rfl, by kernel_rfl, by kernel_rfl, by kernel_rfl, by kernel_rfl, by kernel_rfl, by kernel_rfl, by kernel_rfl, by kernel_rfl, by kernel_rfl, by kernel_rfl, by kernel_rfl, by kernel_rfl, by kernel_rfl, by kernel_rfl, by kernel_rfl, by kernel_rfl, by kernel_rfl⟩)
    (case bs_InvalidText => exact ⟨by kernel_rfl, by kernel_rfl, by kernel_rfl, by kernel_rfl, by kernel_rfl, by kernel_rfl, by kernel_rfl, by kernel_rfl⟩)
    (case kn_InvalidPath => exact ⟨by kernel_rfl, by kernel_rfl, by kernel_rfl, by kernel_rfl, by kernel_rfl, by kernel_rfl, by kernel_rfl, by kernel_rfl, by kernel_rfl, by kernel_rfl, by kernel_rfl, by kernel_rfl, by kernel_rfl, by kernel_rfl, by kernel_rfl, by kernel_rfl, by kernel_rfl, by kernel_rfl, by kernel_rfl, by kernel_rfl, by kernel_rfl⟩)
    (case bs_InvalidPath => exact ⟨by kernel_rfl, by kernel_rfl, by kernel_rfl, by kernel_rfl, by kernel_rfl, by kernel_rfl, by kernel_rfl, by kernel_rfl⟩)
    (case kn_InvalidKey => exact ⟨by kernel_rfl, by kernel_rfl, by kernel_rfl, by kernel_rfl, by kernel_rfl, by kernel_rfl, by kernel_rfl, by kernel_rfl, by kernel_rfl, by kernel_rfl, by kernel_rfl, by kernel_rfl, by kernel_rfl, by kernel_rfl, by kernel_rfl, by kernel_rfl, by kernel_rfl, by kernel_rfl, by kernel_rfl, by kernel_rfl, by kernel_rfl⟩)
    (case bs_InvalidKey => exact ⟨by kernel_rfl, by kernel_rfl, by kernel_rfl, by kernel_rfl, by kernel_rfl, by kernel_rfl, by kernel_rfl, by kernel_rfl⟩)
    (case kn_InvalidKind => exact ⟨by kernel_rfl, by kernel_rfl, by kernel_rfl, by kernel_rfl, by kernel_rfl, by kernel_rfl, by kernel_rfl, by kernel_rfl, by kernel_rfl, by kernel_rfl, by kernel_rfl, by kernel_rfl, by kernel_rfl, by kernel_rfl, by kernel_rfl, by kernel_rfl, by kernel_rfl, by kernel_rfl, by kernel_rfl, by kernel_rfl, by kernel_rfl⟩)
    (case bs_InvalidKind => exact ⟨by kernel_rfl, by kernel_rfl, by kernel_rfl, by kernel_rfl, by kernel_rfl, by kernel_rfl, by kernel_rfl, by kernel_rfl⟩)
    (case kn_InvalidNumber => exact ⟨by kernel_rfl, by kernel_rfl, by kernel_rfl, by kernel_rfl, by kernel_rfl, by kernel_rfl, by kernel_rfl, by kernel_rfl, by kernel_rfl, by kernel_rfl, by kernel_rfl, by kernel_rfl, by kernel_rfl, by kernel_rfl, by kernel_rfl, by kernel_rfl, by kernel_rfl, by kernel_rfl, by kernel_rfl, by kernel_rfl, by kernel_rfl⟩)
    (case bs_InvalidNumber => exact ⟨by kernel_rfl, by kernel_rfl, by kernel_rfl, by kernel_rfl, by kernel_rfl, by kernel_rfl, by kernel_rfl, by kernel_rfl⟩)
    (case kn_InvalidMapping => exact ⟨by kernel_rfl, by kernel_rfl, by kernel_rfl, by kernel_rfl, by kernel_rfl, by kernel_rfl, by kernel_rfl, by kernel_rfl, by kernel_rfl, by kernel_rfl, by kernel_rfl, by kernel_rfl, by kernel_rfl, by kernel_rfl, by kernel_rfl, by kernel_rfl, by kernel_rfl, by kernel_rfl, by kernel_rfl, by kernel_rfl, by kernel_rfl⟩)
    (case bs_InvalidMapping => exact ⟨by kernel_rfl, by kernel_rfl, by kernel_rfl, by kernel_rfl, by kernel_rfl, by kernel_rfl, by kernel_rfl, by kernel_rfl⟩)
    (case kn_InvalidVolume => exact ⟨by kernel_rfl, by kernel_rfl, by kernel_rfl, by kernel_rfl, by kernel_rfl, by kernel_rfl, by kernel_rfl, by kernel_rfl, by kernel_rfl, by kernel_rfl, by kernel_rfl, by kernel_rfl, by kernel_rfl, by kernel_rfl, by kernel_rfl, by kernel_rfl, by kernel_rfl, by kernel_rfl, by kernel_rfl, by kernel_rfl, by kernel_rfl⟩)
    (case bs_InvalidVolume => exact ⟨by kernel_rfl, by kernel_rfl, by kernel_rfl, by kernel_rfl, by kernel_rfl, by kernel_rfl, by kernel_rfl, by kernel_rfl⟩)
    (case kn_InvalidShelf => exact ⟨by kernel_rfl, by kernel_rfl, by kernel_rfl, by kernel_rfl, by kernel_rfl, by kernel_rfl, by kernel_rfl, by kernel_rfl, by kernel_rfl, by kernel_rfl, by kernel_rfl, by kernel_rfl, by kernel_rfl, by kernel_rfl, by kernel_rfl, by kernel_rfl, by kernel_rfl, by kernel_rfl, by kernel_rfl, by kernel_rfl, by kernel_rfl⟩)
    (case bs_InvalidShelf => exact ⟨by kernel_rfl, by kernel_rfl, by kernel_rfl, by kernel_rfl, by kernel_rfl, by kernel_rfl, by kernel_rfl, by kernel_rfl⟩)
    (case kn_InvalidDeed => exact ⟨by kernel_rfl, by kernel_rfl, by kernel_rfl, by kernel_rfl, by kernel_rfl, by kernel_rfl, by kernel_rfl, by kernel_rfl, by kernel_rfl, by kernel_rfl, by kernel_rfl, by kernel_rfl, by kernel_rfl, by kernel_rfl, by kernel_rfl, by kernel_rfl, by kernel_rfl, by kernel_rfl, by kernel_rfl, by kernel_rfl, by kernel_rfl⟩)
    (case bs_InvalidDeed => exact ⟨by kernel_rfl, by kernel_rfl, by kernel_rfl, by kernel_rfl, by kernel_rfl, by kernel_rfl, by kernel_rfl, by kernel_rfl⟩)
    (case kn_NotBlank => exact ⟨by kernel_rfl, by kernel_rfl, by kernel_rfl, by kernel_rfl, by kernel_rfl, by kernel_rfl, by kernel_rfl, by kernel_rfl, by kernel_rfl, by kernel_rfl, by kernel_rfl, by kernel_rfl, by kernel_rfl, by kernel_rfl, by kernel_rfl, by kernel_rfl, by kernel_rfl, by kernel_rfl, by kernel_rfl, by kernel_rfl, by kernel_rfl⟩)
    (case bs_NotBlank => exact ⟨by kernel_rfl, by kernel_rfl, by kernel_rfl, by kernel_rfl, by kernel_rfl, by kernel_rfl, by kernel_rfl, by kernel_rfl⟩)
    (case kn_Damaged => exact ⟨by kernel_rfl, by kernel_rfl, by kernel_rfl, by kernel_rfl, by kernel_rfl, by kernel_rfl, by kernel_rfl, by kernel_rfl, by kernel_rfl, by kernel_rfl, by kernel_rfl, by kernel_rfl, by kernel_rfl, by kernel_rfl, by kernel_rfl, by kernel_rfl, by kernel_rfl, by kernel_rfl, by kernel_rfl, by kernel_rfl, by kernel_rfl⟩)
    (case bs_Damaged => exact ⟨by kernel_rfl, by kernel_rfl, by kernel_rfl, by kernel_rfl, by kernel_rfl, by kernel_rfl, by kernel_rfl, by kernel_rfl⟩)
    (case kn_NoKey => exact ⟨by kernel_rfl, by kernel_rfl, by kernel_rfl, by kernel_rfl, by kernel_rfl, by kernel_rfl, by kernel_rfl, by kernel_rfl, by kernel_rfl, by kernel_rfl, by kernel_rfl, by kernel_rfl, by kernel_rfl, by kernel_rfl, by kernel_rfl, by kernel_rfl, by kernel_rfl, by kernel_rfl, by kernel_rfl, by kernel_rfl, by kernel_rfl⟩)
    (case bs_NoKey => exact ⟨by kernel_rfl, by kernel_rfl, by kernel_rfl, by kernel_rfl, by kernel_rfl, by kernel_rfl, by kernel_rfl, by kernel_rfl⟩)
    (case kn_NotWritable => exact ⟨by kernel_rfl, by kernel_rfl, by kernel_rfl, by kernel_rfl, by kernel_rfl, by kernel_rfl, by kernel_rfl, by kernel_rfl, by kernel_rfl, by kernel_rfl, by kernel_rfl, by kernel_rfl, by kernel_rfl, by kernel_rfl, by kernel_rfl, by kernel_rfl, by kernel_rfl, by kernel_rfl, by kernel_rfl, by kernel_rfl, by kernel_rfl⟩)
    (case bs_NotWritable => exact ⟨by kernel_rfl, by kernel_rfl, by kernel_rfl, by kernel_rfl, by kernel_rfl, by kernel_rfl, by kernel_rfl, by kernel_rfl⟩)
    (case kn_Conflict => exact ⟨by kernel_rfl, by kernel_rfl, by kernel_rfl, by kernel_rfl, by kernel_rfl, by kernel_rfl, by kernel_rfl, by kernel_rfl, by kernel_rfl, by kernel_rfl, by kernel_rfl, by kernel_rfl, by kernel_rfl, by kernel_rfl, by kernel_rfl, by kernel_rfl, by kernel_rfl, by kernel_rfl, by kernel_rfl, by kernel_rfl, by kernel_rfl⟩)
    (case bs_Conflict => exact ⟨by kernel_rfl, by kernel_rfl, by kernel_rfl, by kernel_rfl, by kernel_rfl, by kernel_rfl, by kernel_rfl, by kernel_rfl⟩)
    (case kn_Dead => exact ⟨by kernel_rfl, by kernel_rfl, by kernel_rfl, by kernel_rfl, by kernel_rfl, by kernel_rfl, by kernel_rfl, by kernel_rfl, by kernel_rfl, by kernel_rfl, by kernel_rfl, by kernel_rfl, by kernel_rfl, by kernel_rfl, by kernel_rfl, by kernel_rfl, by kernel_rfl, by kernel_rfl, by kernel_rfl, by kernel_rfl, by kernel_rfl⟩)
    (case bs_Dead => exact ⟨by kernel_rfl, by kernel_rfl, by kernel_rfl, by kernel_rfl, by kernel_rfl, by kernel_rfl, by kernel_rfl, by kernel_rfl⟩)
    (case kn_Closed => exact ⟨by kernel_rfl, by kernel_rfl, by kernel_rfl, by kernel_rfl, by kernel_rfl, by kernel_rfl, by kernel_rfl, by kernel_rfl, by kernel_rfl, by kernel_rfl, by kernel_rfl, by kernel_rfl, by kernel_rfl, by kernel_rfl, by kernel_rfl, by kernel_rfl, by kernel_rfl, by kernel_rfl, by kernel_rfl, by kernel_rfl, by kernel_rfl⟩)
    (case bs_Closed => exact ⟨by kernel_rfl, by kernel_rfl, by kernel_rfl, by kernel_rfl, by kernel_rfl, by kernel_rfl, by kernel_rfl, by kernel_rfl⟩)
    (case kn_Locked => exact ⟨by kernel_rfl, by kernel_rfl, by kernel_rfl, by kernel_rfl, by kernel_rfl, by kernel_rfl, by kernel_rfl, by kernel_rfl, by kernel_rfl, by kernel_rfl, by kernel_rfl, by kernel_rfl, by kernel_rfl, by kernel_rfl, by kernel_rfl, by kernel_rfl, by kernel_rfl, by kernel_rfl, by kernel_rfl, by kernel_rfl, by kernel_rfl⟩)
    (case bs_Locked => exact ⟨by kernel_rfl, by kernel_rfl, by kernel_rfl, by kernel_rfl, by kernel_rfl, by kernel_rfl, by kernel_rfl, by kernel_rfl⟩)
    (case kn_Busy => exact ⟨by kernel_rfl, by kernel_rfl, by kernel_rfl, by kernel_rfl, by kernel_rfl, by kernel_rfl, by kernel_rfl, by kernel_rfl, by kernel_rfl, by kernel_rfl, by kernel_rfl, by kernel_rfl, by kernel_rfl, by kernel_rfl, by kernel_rfl, by kernel_rfl, by kernel_rfl, by kernel_rfl, by kernel_rfl, by kernel_rfl, by kernel_rfl⟩)
    (case bs_Busy => exact ⟨by kernel_rfl, by kernel_rfl, by kernel_rfl, by kernel_rfl, by kernel_rfl, by kernel_rfl, by kernel_rfl, by kernel_rfl⟩)
    (case kn_NothingToUndo => exact ⟨by kernel_rfl, by kernel_rfl, by kernel_rfl, by kernel_rfl, by kernel_rfl, by kernel_rfl, by kernel_rfl, by kernel_rfl, by kernel_rfl, by kernel_rfl, by kernel_rfl, by kernel_rfl, by kernel_rfl, by kernel_rfl, by kernel_rfl, by kernel_rfl, by kernel_rfl, by kernel_rfl, by kernel_rfl, by kernel_rfl, by kernel_rfl⟩)
    (case bs_NothingToUndo => exact ⟨by kernel_rfl, by kernel_rfl, by kernel_rfl, by kernel_rfl, by kernel_rfl, by kernel_rfl, by kernel_rfl, by kernel_rfl⟩)
    (case kn_TooLarge => exact ⟨by kernel_rfl, by kernel_rfl, by kernel_rfl, by kernel_rfl, by kernel_rfl, by kernel_rfl, by kernel_rfl, by kernel_rfl, by kernel_rfl, by kernel_rfl, by kernel_rfl, by kernel_rfl, by kernel_rfl, by kernel_rfl, by kernel_rfl, by kernel_rfl, by kernel_rfl, by kernel_rfl, by kernel_rfl, by kernel_rfl, by kernel_rfl⟩)
    (case bs_TooLarge => exact ⟨by kernel_rfl, by kernel_rfl, by kernel_rfl, by kernel_rfl, by kernel_rfl, by kernel_rfl, by kernel_rfl, by kernel_rfl⟩)
    (case a_l_mixed => k_is)
    (case l_l_mixed => k_is)
    (case c_l_mixed => k_is)
    (case k_l_mixed => k_is)
    (case a_l_stream => k_is)
    (case l_l_stream => k_is)
    (case c_l_stream => k_is)
    (case k_l_stream => k_is)
    (case a_l_draw => k_is)
    (case l_l_draw => k_is)
    (case c_l_draw => k_is)
    (case k_l_draw => k_is)
    (case a_l_pick => k_is)
    (case l_l_pick => k_is)
    (case c_l_pick => k_is)
    (case k_l_pick => k_is)
    (case a_l_made => k_is)
    (case l_l_made => k_is)
    (case c_l_made => k_is)
    (case k_l_made => k_is)
    (case a_l_kinds => k_is)
    (case l_l_kinds => k_is)
    (case c_l_kinds => k_is)
    (case k_l_kinds => k_is)
    (case a_l_bases => k_is)
    (case l_l_bases => k_is)
    (case c_l_bases => k_is)
    (case k_l_bases => k_is)
    (case a_l_fields => k_is)
    (case l_l_fields => k_is)
    (case c_l_fields => k_is)
    (case k_l_fields => k_is)
    (case a_l_right => k_is)
    (case l_l_right => k_is)
    (case c_l_right => k_is)
    (case k_l_right => k_is)
    (case a_law => k_is)
    (case l_law => k_is)
    (case c_law => k_is)
    (case k_law => k_is)
    (case b_len => k_is)
    (case b_isinstance => k_is)
    (case b_repr => k_is)
    (case b_enumerate => k_is)
    (case b_range => k_is)
    (case b_ValueError => k_is)
    (case b_RuntimeError => k_is)
    (case b_OverflowError => k_is)
    (case b_LookupError => k_is)
    (case b_NotImplementedError => k_is)


