import PyProof.Rows.All
import Wide.All
import OpenK.AllK
import Wide.FinOn
import HandS.ForMost
import HandS.Exc
import HandS.WordsExc
import HandS.Flow
import HandS.IsInst
import HandS.FStr
import HandS.TupAny
import HandS.Style
import PyProof.ReprRoads
import KE.GoesMore
import PyProof.FString3
import PyProof.Rows.StrIntSpec
import KE.KFmtOwn
import PyProof.StrBlock2
import HandS.Property
import HandS.Text
import PyProof.Rows.Range3
import PyProof.Conv_bool
import HandS.Small
import PyProof.InstEq
import HandS.EndBits
import HandS.Codes
import PyProof.ReprLen
import HandS.Dict
import KE.KExcSuper
import HandS.ExcInit
import HandS.ExcField
import HandS.ExcIs
import PyProof.RowDictHeap
import PyProof.Rows.SeqMore
import PyProof.FitsInt
import KE.KExcInit
import HandS.DictComp
import HandS.Wide
import PyProof.NeKinds
import KE.KDictZip
import KE.GoesEnum
import HandS.Star
import HandS.ExcValue
import PyProof.RulesMatch
import KE.KTryMore
import HandS.Lambda
import HandS.EndTab
import HandS.ClsMeth
import HandS.GenList
import HandS.SortInts
import HandS.Defaults
import HandS.DeepEq
import KE.KDflt
import KE.KSuper
import HandS.More
import KE.KRevSl
import HandS.TryMany
import HandS.Deep
import HandS.DictEq
import PyProof.EqKinds
import PyProof.FactsAll.dict_1
import PyProof.FactsAll.subtypes_4
import PyProof.DictUpdate
import HandS.GenYield
import HandS.DictSub
import HandS.Set
import HandS.SetFor
import HandS.Strs
import KE.KCallOwn
import OpenK.KMeth
import OpenK.KOps
import PyProof.StrLawsRepr
import PyProof.PureStr
import KE.KExcLine
import PySem.Challenge.RW_recordshelf_k60_whole_patches
set_option Elab.async false
set_option linter.all false
set_option maxRecDepth 100000
set_option maxHeartbeats 4000000
namespace RS
open PySem PySem.Spec L2
/-- what a law's text is, as it stands behind its top -/
structure Wd where
  P : Program
  w : World
  K : PySem.W.Frag
  mg : Str → Option Value
  base : Heap
/-- a def that keeps its promise wherever no repr is under way -/
structure FnG (g : Wd) (k : Nat) (f : Addr) (fd : FuncData) (ps : List Str) (sp : Sp) : Prop where
  len : ∀ vs H Q E, sp vs H Q E → vs.length = ps.length
  run : ∀ (A : Around) (outer : List Env) (s : Shared) (H : Hp) (args : Args) (us : List Value) (vs : List V) (Q : VK) (E : XK),
    Room k A → A.guards = some [] → Env0 g.P g.w g.K g.mg g.base A outer s H → BindsTo s fd args (ps.zip us) → Vals vs us → sp vs H Q E →
      codeAny (model g.P g.w) A (.call (.ref f) args) (CR (L2.CX g.P g.w) outer g.P g.w H s Q E) s
theorem FnG.mono {g : Wd} {j k : Nat} {f : Addr} {fd : FuncData} {ps : List Str} {sp : Sp} (F : FnG g j f fd ps sp) (h : j ≤ k) : FnG g k f fd ps sp :=
  ⟨F.len, fun A outer s H args us vs Q E hr => F.run A outer s H args us vs Q E (hr.mono h)⟩
theorem FnG.imp {g : Wd} {k : Nat} {f : Addr} {fd : FuncData} {ps : List Str} {sp sp' : Sp} (F : FnG g k f fd ps sp) (h : ∀ vs H Q E, sp' vs H Q E → sp vs H Q E) : FnG g k f fd ps sp' :=
  ⟨fun vs H Q E q => F.len vs H Q E (h _ _ _ _ q), fun A outer s H args us vs Q E hr hg he hb hv hs => F.run A outer s H args us vs Q E hr hg he hb hv (h _ _ _ _ hs)⟩
/-- a def of the text, with the value of its defaults -/
structure Df (K : PySem.W.Frag) (x qual : Str) (st : Stmt) (f : Addr) (fd : FuncData) (dV : Value) : Prop where
  ex : ∃ (oc : Value) (od : Option Addr) (kV doc pm : Value) (an : Option Addr) (cdv ct : Value) (osl : Array (Option Value)),
    fd = PySem.W.fnOf x qual (defArgs st) (defBody st) (defScope st) dV kV doc pm an cdv ct ∧ K.lookup f = some ⟨oc, od, .func fd, osl⟩ ∧ PySem.W.codeIn K cdv qual = true
  kp : PySem.W.keepIn K (.ref f) = true
/-- the context of its body -/
abbrev cx (g : Wd) (N : List Str) (qual : Str) (st : Stmt) (f : Addr) (cdv : Value) (A : Around) (outer : List Env) (s : Shared) (H : Hp) (E : XK) : Cx :=
  cxOf (L2.CX g.P g.w) g.P g.w g.K g.mg g.base N qual (defScope st) f cdv A outer s H E
/-- what a body may lean on: room, and no repr under way -/
structure Rm (k : Nat) (X : Cx) : Prop where
  room : Room k X.A
  gd : X.A.guards = some []
theorem Rm.mono {j k : Nat} {X : Cx} (r : Rm k X) (h : j ≤ k) : Rm j X := ⟨r.room.mono h, r.gd⟩
theorem Df.ok {g : Wd} {x qual : Str} {st : Stmt} {f : Addr} {fd : FuncData} {dV : Value} {N ps : List Str} {k : Nat} {sp : Sp} (F : Df g.K x qual st f fd dV) (S : FnScope N ps (defScope st))
    (len : ∀ vs H Q E, sp vs H Q E → vs.length = ps.length)
    (hbody : ∀ (cdv : Value) (A : Around) (outer : List Env) (s : Shared) (H : Hp) (vs : List V) (Q : VK) (E : XK), Rm k (cx g N qual st f cdv A outer s H E) → sp vs H Q E →
      ∃ t, PSs (cx g N qual st f cdv A outer s H E) (defBody st) t ∧ t { nx := fun _ H' => Q .non H', rt := Q } (start N vs) H) : FnG g (k + 1) f fd ps sp := by
  obtain ⟨oc, od, kV, doc, pm, an, cdv, ct, osl, rfl, lk, hcd⟩ := F.ex
  refine ⟨len, fun A outer s H args us vs Q E hr hg e0 hb rv hsp => ?_⟩
  have kept : ∀ b o, g.base.get? b = some o → s.heap.get? b = some o := fun b o e => (e0.bs b o e).1
  have KX := e0.mod.kin.keeps kept
  have par : ∀ y ∈ ps.zip us, (defScope st).names.lookup y.1 = some .local ∨ ((defScope st).names.lookup y.1 = some .cell ∧ ((cellsFrom (s.heap.objs.size + 1) (defScope st).names []).lookup y.1).isSome = true) := by
    rintro ⟨n, v⟩ hy
    exact (S.par n (List.of_mem_zip hy).1).imp id fun q => ⟨q, PySem.W.cellsFrom_some _ _ _ (.inl q)⟩
  refine codeAny_call_function hr.depth (KX _ _ lk) rfl S.co S.gen rfl (PySem.W.codeRec_of KX hcd) (hb _ _ _ _ (wpAny_newFunctionEnv_cells S.kind par ?_))
  rintro env rfl s1 ic
  refine ⟨(e0.mod.nolimit.keeps kept).keeps ic.toInCall.keep, codeAny_func ?_⟩
  obtain ⟨t, ht, hq⟩ := hbody cdv A outer s H vs Q E ⟨hr.deeper _, hg⟩ hsp
  have J := inv_start (CX := L2.CX g.P g.w) (E := E) (qual := qual) (f := f) (cd := cdv) S hr.hd e0 (len _ _ _ _ hsp) rv ic
  refine wpAny_mono (ht.run [] s1 _ H _ J hq) ?_ fun _ _ z => z
  rintro fl s' hs
  cases fl with
  | ret u => obtain ⟨v, σ', H', I, r, q⟩ := hs; exact ⟨v, H', I.os, I.bare, I.base, I.hok, r, q⟩
  | next => obtain ⟨σ', H', I, q⟩ := hs; exact ⟨.non, H', I.os, I.bare, I.base, I.hok, rfl, q⟩
  | brk => obtain ⟨_, _, _, q⟩ := hs; exact q.elim
  | cont => obtain ⟨_, _, _, q⟩ := hs; exact q.elim
/-- X stands in the world g -/
structure At (g : Wd) (X : Cx) : Prop where
  P : X.prog = g.P
  w : X.w = g.w
  K : X.K = g.K
  mg : X.mg = g.mg
  base : X.base = g.base
section
variable {g : Wd} {X : Cx} {k : Nat} {f : Addr} {fd : FuncData} {ps : List Str} {sp : Sp} {W : WX}
/-- the callee runs, its arguments bound somehow -/
theorem runG (a : At g X) (F : FnG g k f fd ps sp) (hr : Rm k X) (tk : Takes X W) {pins : List (Addr × Obj)} {σ : St} {H : Hp} {s : Shared} {Q : VK} {args : Args} {us : List Value} {vs : List V}
    (I : Inv X pins σ H s) (hb : BindsTo s fd args (ps.zip us)) (r : Vals vs us) (h : sp vs H Q (fun c d H' => W c d σ H')) :
    codeAny (model X.prog X.w) X.A (.call (.ref f) args) (fun res s' => match res with | .ok fl => (match fl with | .ret u => EP X pins σ Q u s' | _ => False) | .error e => X.xe e s') s := by
  obtain ⟨P, w, K, mg, base⟩ := g
  obtain ⟨rfl, rfl, rfl, rfl, rfl⟩ := a
  refine codeAny_mono (F.run X.A X.stack s H args us vs Q _ hr.room hr.gd I.env0 hb r h) fun res s' hq => ?_
  cases res with
  | error e => exact tk e s' (XE.of_call (E := fun c d H' => W c d σ H') I (fun _ _ _ z => z) hq)
  | ok fl =>
    cases fl with
    | ret u => exact I.after hq
    | _ => exact hq.elim
end
end RS
namespace RS
open PySem PySem.Spec L2
def S0 (g : Hp → VK → XK → Prop) : Sp := fun vs H Q E => vs = [] ∧ g H Q E
def S1 (g : V → Hp → VK → XK → Prop) : Sp := fun vs H Q E => ∃ a, vs = [a] ∧ g a H Q E
def S2 (g : V → V → Hp → VK → XK → Prop) : Sp := fun vs H Q E => ∃ a b, vs = [a, b] ∧ g a b H Q E
def S3 (g : V → V → V → Hp → VK → XK → Prop) : Sp := fun vs H Q E => ∃ a b c, vs = [a, b, c] ∧ g a b c H Q E
def S4 (g : V → V → V → V → Hp → VK → XK → Prop) : Sp := fun vs H Q E => ∃ a b c d, vs = [a, b, c, d] ∧ g a b c d H Q E
def S5 (g : V → V → V → V → V → Hp → VK → XK → Prop) : Sp := fun vs H Q E => ∃ a b c d e, vs = [a, b, c, d, e] ∧ g a b c d e H Q E
theorem S0.len {g} {vs : List V} {H Q E} (h : S0 g vs H Q E) : vs.length = 0 := by obtain ⟨rfl, _⟩ := h; rfl
theorem S1.len {g} {vs : List V} {H Q E} (h : S1 g vs H Q E) : vs.length = 1 := by obtain ⟨_, rfl, _⟩ := h; rfl
theorem S2.len {g} {vs : List V} {H Q E} (h : S2 g vs H Q E) : vs.length = 2 := by obtain ⟨_, _, rfl, _⟩ := h; rfl
theorem S3.len {g} {vs : List V} {H Q E} (h : S3 g vs H Q E) : vs.length = 3 := by obtain ⟨_, _, _, rfl, _⟩ := h; rfl
theorem S4.len {g} {vs : List V} {H Q E} (h : S4 g vs H Q E) : vs.length = 4 := by obtain ⟨_, _, _, _, rfl, _⟩ := h; rfl
theorem S5.len {g} {vs : List V} {H Q E} (h : S5 g vs H Q E) : vs.length = 5 := by obtain ⟨_, _, _, _, _, rfl, _⟩ := h; rfl
/-- what the module's name x holds is worth v -/
def Gv (g : Wd) (x : Str) (v : V) : Prop := ∃ u, g.mg x = some u ∧ RelV v u
/-- the module's name x holds a def that keeps sp; ds: its defaults that fill up -/
def Kn (g : Wd) (x : Str) (k : Nat) (ps : List Str) (ds : List V) (sp : Sp) : Prop :=
  ∃ f fd dsV, g.mg x = some (.ref f) ∧ PySem.W.keepIn g.K (.ref f) = true ∧ FnG g k f fd ps sp ∧ Binds g.K fd ps dsV ∧ Vals ds dsV
section
variable {g : Wd} {X : Cx} {k : Nat} {f : Addr} {fd : FuncData} {ps : List Str} {sp : Sp} {W : WX} {ds : List V} {x : Str} {p pos : Pos} {e : Expr} {es : List Expr} {t : TA}
theorem e_g {v : V} (h : Gv g x v) (hg : Gl X x := by rfl) (hd : (x == ("__debug__" : Str)) = false := by decide) (a : At g X := by exact ⟨rfl, rfl, rfl, rfl, rfl⟩) : PE X (.Name x pos) (tC v) := by
  obtain ⟨u, hm, r⟩ := h
  exact pe_glob hg (by rw [a.mg]; exact hm) r hd
def tCallG (sp : Sp) (ds : List V) (W : WX) (t : TA) : TE := fun σ H Q => t σ H fun vs H1 => sp (vs ++ ds) H1 Q (fun c d H' => W c d σ H')
/-- the call itself, the arguments at hand -/
theorem callG {dsV : List Value} (a : At g X) (F : FnG g k f fd ps sp) (hr : Rm k X) (tk : Takes X W) (hb : Binds g.K fd ps dsV) (rd : Vals ds dsV) {pins : List (Addr × Obj)} {σ : L2.St} {H : Hp} {s : Shared} {Q : VK} {us : List Value} {vs : List V}
    (I : Inv X pins σ H s) (r : Vals vs us) (h : sp (vs ++ ds) H Q (fun c d H' => W c d σ H')) : wpAny (model X.prog X.w) X.A (call (.ref f) us) (EP X pins σ Q) X.xe s := by
  have r2 := Vals.append r rd
  have hl : (us ++ dsV).length = ps.length := by rw [← r2.length]; exact F.len _ _ _ _ h
  have KI : g.K.In s.heap := by rw [← a.K]; exact I.kIn
  refine wpAny_call (codeAny_mono (runG a F hr tk I (hb s us KI hl) r2 h) fun res s' hq => ?_)
  cases res with
  | error e => exact hq
  | ok fl => cases fl with
    | ret u => exact hq
    | _ => exact hq.elim
theorem pe_callG (F : Kn g x k ps ds sp) (hr : Rm k X) (tk : Takes X W) (ha : PA X (e :: es) t) (hg : Gl X x := by rfl) (hdb : (x == ("__debug__" : Str)) = false := by decide)
    (he : starEach (e :: es) X.env = (false, eval e X.env) :: starEach es X.env := by rfl) (hpl : (backTo pos (starEach es X.env)).any (·.1) = false := by rfl) (a : At g X := by exact ⟨rfl, rfl, rfl, rfl, rfl⟩) :
    PE X (.Call (.Name x p) (e :: es) [] pos) (tCallG sp ds W t) := by
  obtain ⟨f, fd, dsV, hm, hk, F, hb, rd⟩ := F
  refine ⟨fun pins s σ H Q I h => wpAny_Call_Name_kw (ld_glob I hg (by rw [a.mg]; exact hm) ?_ hdb)⟩
  refine PySem.W.callWith_K (h₀ := X.base) I.ok.mod.kin (by rw [a.K]; exact hk) (thn (ha.run pos pins s σ H _ I h) ?_) he hpl
  rintro us s1 ⟨vs, H1, I1, r, q⟩
  exact ⟨I1.kIn, callG a F hr tk hb rd I1 r q⟩
theorem pe_callG0 (F : Kn g x k ps ds sp) (hr : Rm k X) (tk : Takes X W) (hg : Gl X x := by rfl) (hdb : (x == ("__debug__" : Str)) = false := by decide) (a : At g X := by exact ⟨rfl, rfl, rfl, rfl, rfl⟩) :
    PE X (.Call (.Name x p) [] [] pos) (tCallG sp ds W tNil) := by
  obtain ⟨f, fd, dsV, hm, hk, F, hb, rd⟩ := F
  refine ⟨fun pins s σ H Q I h => wpAny_Call_Name_kw (ld_glob I hg (by rw [a.mg]; exact hm) ?_ hdb)⟩
  exact PySem.W.callWith_K0 I.kIn (by rw [a.K]; exact hk) (callG a F hr tk hb rd I .nil h)
end
section
variable {X : Cx} {k : Nat}
def rRepr (K : PySem.W.Frag) : List V → Hp → VK → Prop := fun xs H Q => ∃ a d, xs = [.ref a] ∧ Dp K H (.ref a) d ∧ d.showable = true ∧ d.depth ≤ 60 ∧ d.shown.length ≤ sizeLine ∧ Q (.str d.shown) H
end
end RS
namespace RS
open PySem PySem.Spec L2
/-- the signs of x, each with its index in a new pair -/
def ItEs (x : Str) : It :=
  ⟨fun i _ => i < x.cps.size, fun i H v H' => ∃ T c, v = .ref T ∧ H T = none ∧ H' = upd H T (.tup [.int (i : Nat), .str ⟨#[c]⟩]) ∧ x.cps[i]? = some c, fun i _ => i = x.cps.size⟩
def iEnumS (ta : TA) : TI := fun σ H R => ta σ H fun vs H1 => ∃ x, vs = [.str x] ∧ R (ItEs x) H1
/-- i with zeros in front, W signs at least -/
def padZ (W : Nat) (i : Int) : Str := ⟨(List.replicate (W - (Nat.toDigits 10 i.natAbs).length) 48).toArray⟩ ++ Str.ofString (toString i)
section
variable {X : Cx} {e spec : Expr} {te : TE} {pos : Pos} {sp : Str}
def tFmtZ (W : Nat) (te : TE) : TE := fun σ H Q => te σ H fun x H1 => ∃ i : Int, x = .int i ∧ 0 ≤ i ∧ i < 10 ^ 12 ∧ Q (.str (padZ W i)) H1
end
end RS
namespace RS
open PySem PySem.Spec L2
section
variable {X : Cx}
def rAdd (K : PySem.W.Frag) : R2 := fun x y H Q => match x, y with
  | .int i, .int j => Q (.int (i + j)) H
  | .str a, .str b => a.length + b.length ≤ sizeLine ∧ Q (.str (a ++ b)) H
  | .ref p, .ref q => rCat (.ref p) (.ref q) H Q ∨ rCatA K (.ref p) (.ref q) H Q
  | _, _ => False
theorem o_add {K : PySem.W.Frag} (hK : X.K = K := by rfl) : OpR X (binaryOp .Add) (rAdd K) := by
  subst hK
  intro pins s σ H x y v u Q I rx ry h
  cases x <;> cases y <;> first
    | exact (show False from h).elim
    | exact op_add pins s σ H _ _ v u Q I rx ry ⟨_, _, rfl, rfl, h⟩
    | exact op_add_str pins s σ H _ _ v u Q I rx ry ⟨_, _, rfl, rfl, h.1, h.2⟩
    | exact (show _ ∨ _ from h).elim (op_cat pins s σ H _ _ v u Q I rx ry) (op_catA pins s σ H _ _ v u Q I rx ry)
/-- a, n times -/
def repS (a : Str) (n : Nat) : Str := ⟨(List.replicate n a.cps.toList).flatten.toArray⟩
theorem foldl_app (a : Array Nat) : ∀ (n : Nat) (acc : Array Nat), (List.replicate n a).foldl (· ++ ·) acc = acc ++ (List.replicate n a.toList).flatten.toArray
  | 0, acc => by simp
  | n + 1, acc => by
    rw [List.replicate_succ, List.foldl_cons, foldl_app a n (acc ++ a), List.replicate_succ, List.flatten_cons]
    apply Array.ext'
    simp [Array.toList_append, List.append_assoc]
theorem txt_mul (a : Str) (n : Int) : Txt.mul a n = repS a n.toNat := by
  unfold Txt.mul repS
  by_cases h1 : n < 1
  · rw [if_pos h1]
    have e : n.toNat = 0 := by omega
    rw [e]
    rfl
  · rw [if_neg h1]
    have e : ({ cps := (List.replicate n.toNat a.cps).foldl (· ++ ·) #[] } : Str) = { cps := (List.replicate n.toNat a.cps.toList).flatten.toArray } := by
      rw [foldl_app]
      congr 1
      apply Array.ext'
      simp
    split
    · rename_i c
      rcases Bool.or_eq_true_iff.mp c with c | c
      · have : n = 1 := by simpa using c
        subst this
        obtain ⟨l⟩ := a
        simp
      · have : a.cps.size = 0 := by simpa [Str.length] using c
        obtain ⟨⟨l⟩⟩ := a
        have : l = [] := by simpa using this
        subst this
        simp
    · exact e
def rMul : R2 := fun x y H Q => match x, y with
  | .int i, .int j => CMul i j ∧ Q (.int (i * j)) H
  | .str a, .int n => n < 2 ^ 31 ∧ -(2 ^ 31) < n ∧ a.length * n.toNat ≤ sizeLine ∧ Q (.str (repS a n.toNat)) H
  | .ref p, .int n => rRep (.ref p) (.int n) H Q
  | _, _ => False
theorem o_mul : OpR X (binaryOp .Mult) rMul := by
  intro pins s σ H x y v u Q I rx ry h
  cases x <;> cases y <;> first
    | exact (show False from h).elim
    | exact op_mul pins s σ H _ _ v u Q I rx ry ⟨_, _, rfl, rfl, h.1, h.2⟩
    | exact op_rep pins s σ H _ _ v u Q I rx ry h
    | skip
  rename_i a n
  obtain ⟨t, rfl⟩ := rx
  obtain ⟨t', rfl⟩ := ry
  obtain ⟨h1, h2, h3, q⟩ := h
  have hs : sizeLine = 16777216 := sizeLine_eq
  refine SB.mul (x := a) (n := n) ⟨?_, fun hn hc => ?_, fun hn hc => ?_⟩ fun t' k => ?_
  · rw [decide_eq_false (by omega), decide_eq_false (by omega)]; rfl
  · have h4 : (a.length : Int) * n ≤ 16777216 := by
      have : ((a.length * n.toNat : Nat) : Int) ≤ 16777216 := by omega
      rw [Int.natCast_mul] at this
      have e : ((n.toNat : Nat) : Int) = n := by omega
      rw [e] at this
      exact this
    have h5 : (a.length : Int) ≤ a.length * n := by
      have e : (a.length : Int) * 1 ≤ a.length * n := Int.mul_le_mul_of_nonneg_left (by omega) (by omega)
      omega
    have h6 : (4294967296 : Int) ≤ (2 ^ 63 - 1) / n := by
      rw [Int.le_ediv_iff_mul_le (by omega)]
      omega
    omega
  · unfold Builtin.Str.tooLong
    simp
    omega
  · rw [txt_mul]
    exact ⟨.str _, H, I.tok k, ⟨t', rfl⟩, q⟩
def rEqU (K : PySem.W.Frag) : R2 := fun x y H Q => match x, y with
  | .ref a, .ref b => rEqD K (.ref a) (.ref b) H Q
  | x, y => rEq x y H Q
theorem o_eq {K : PySem.W.Frag} {k : Nat} (hr : Rm k X) (hK : X.K = K := by rfl) : OpR X (compareOp .Eq) (rEqU K) := by
  subst hK
  intro pins s σ H x y v u Q I rx ry h
  cases x <;> cases y <;> first
    | exact op_eqD hr.room.units pins s σ H _ _ v u Q I rx ry h
    | exact op_eq pins s σ H _ _ v u Q I rx ry h
def rNeU (K : PySem.W.Frag) : R2 := fun x y H Q => match x, y with
  | .ref a, .ref b => rNeD K (.ref a) (.ref b) H Q
  | x, y => rNe x y H Q
theorem o_ne {K : PySem.W.Frag} {k : Nat} (hr : Rm k X) (hK : X.K = K := by rfl) : OpR X (compareOp .NotEq) (rNeU K) := by
  subst hK
  intro pins s σ H x y v u Q I rx ry h
  cases x <;> cases y <;> first
    | exact op_neD hr.room.units pins s σ H _ _ v u Q I rx ry h
    | exact op_ne pins s σ H _ _ v u Q I rx ry h
def hasS (z y : Str) : Bool := !(Builtin.Str.occurrences y z 0 y.length 1).isEmpty
def rInU (K : PySem.W.Frag) : R2 := fun x y H Q => match x, y with
  | .str z, .str y => Q (.bl (hasS z y)) H
  | x, .ref p => rIn K false x (.ref p) H Q
  | _, _ => False
def rNinU (K : PySem.W.Frag) : R2 := fun x y H Q => match x, y with
  | .str z, .str y => Q (.bl (!hasS z y)) H
  | x, .ref p => rIn K true x (.ref p) H Q
  | _, _ => False
def rLen (K : PySem.W.Frag) : List V → Hp → VK → Prop := fun xs H Q => match xs with
  | [.str y] => y.length ≤ sizeLine ∧ Q (.int y.length) H
  | [.ref p] => (∃ xs, (SqL K H p xs ∨ SqT K H p xs) ∧ Q (.int xs.length) H) ∨ ∃ kvs, H p = some (.dK kvs) ∧ Q (.int kvs.length) H
  | _ => False
theorem c_len {K : PySem.W.Frag} (hK : X.K = K := by rfl) : CallR X (.builtin "len") (rLen K) := by
  subst hK
  intro pins s σ H xs us Q I r h
  cases xs with
  | nil => exact (show False from h).elim
  | cons x xs =>
    cases xs with
    | cons y ys => cases x <;> exact (show False from h).elim
    | nil =>
      cases x with
      | str y => exact call_len pins s σ H _ us Q I r ⟨_, y.length, rfl, ⟨h.1, rfl⟩, h.2⟩
      | ref p =>
        rcases (show _ ∨ _ from h) with ⟨xs, hx | hx, q⟩ | ⟨kvs, hk, q⟩
        · exact call_len pins s σ H _ us Q I r ⟨_, xs.length, rfl, .inl ⟨xs, hx, rfl⟩, q⟩
        · exact call_len pins s σ H _ us Q I r ⟨_, xs.length, rfl, .inr ⟨xs, hx, rfl⟩, q⟩
        · exact call_lenD pins s σ H _ us Q I r ⟨p, kvs, rfl, hk, q⟩
      | _ => exact (show False from h).elim
/-- the name of a value's built-in type -/
def tyN (x : V) (H : Hp) : Option String := match x with
  | .non => some "NoneType"
  | .bl _ => some "bool"
  | .int _ => some "int"
  | .str _ => some "str"
  | .ref a => match H a with
    | some (.lst _) => some "list"
    | some (.tup _) => some "tuple"
    | some (.dK _) => some "dict"
    | some (.frz _ (.lst _)) => some "list"
    | some (.frz _ (.dK _)) => some "dict"
    | _ => none
  | _ => none
def isB (t T : String) : Bool := t == T || (t == "bool" && T == "int")
theorem kitB_tab : ∀ t ∈ ["NoneType", "bool", "int", "str", "list", "tuple", "dict"], ∀ T ∈ ["bool", "int", "str", "list", "tuple", "dict", "float"], kitB t T = some (isB t T) := by decide +kernel
theorem tyN_tyX {K : PySem.W.Frag} {H : Hp} {x : V} {t : String} (h : tyN x H = some t) : TyX K H x (.type t) ∧ t ∈ ["NoneType", "bool", "int", "str", "list", "tuple", "dict"] := by
  cases x with
  | non => cases h; exact ⟨.base .non, by simp⟩
  | bl b => cases h; exact ⟨.base (.bl b), by simp⟩
  | int i => cases h; exact ⟨.base (.int i), by simp⟩
  | str y => cases h; exact ⟨.base (.str y), by simp⟩
  | ref a =>
    unfold tyN at h
    simp only at h
    split at h <;> first | (cases h; done) | skip
    · rename_i e; cases h; exact ⟨.base (.lst e), by simp⟩
    · rename_i e; cases h; exact ⟨.base (.tup e), by simp⟩
    · rename_i e; cases h; exact ⟨.base (.dK e), by simp⟩
    · rename_i e; cases h; exact ⟨.base (.frz e), by simp⟩
    · rename_i e; cases h; exact ⟨.fDict e, by simp⟩
  | _ => cases h
def rIs (T : String) : List V → Hp → VK → Prop := fun xs H Q => match xs with
  | [x, .ty T'] => T' = T ∧ ∃ t, tyN x H = some t ∧ Q (.bl (isB t T)) H
  | _ => False
theorem c_is (T : String) (hT : T ∈ ["bool", "int", "str", "list", "tuple", "dict", "float"] := by decide) : CallR X (.builtin "isinstance") (rIs T) := by
  intro pins s σ H xs us Q I r h
  unfold rIs at h
  split at h
  · obtain ⟨rfl, t, ht, q⟩ := h
    obtain ⟨ty, m⟩ := tyN_tyX (K := X.K) ht
    exact call_isi pins s σ H _ us Q I r ⟨_, _, _, _, _, rfl, .ty _, ty, kit_ty (kitB_tab _ m _ hT), q⟩
  · exact h.elim
end
end RS
namespace RS
open PySem PySem.Spec L2
/-- another surrounding of the same frames -/
structure Rb (k : Nat) (X : Cx) (B : Around) : Prop where
  room : Room k B
  gd : B.guards = some []
  fr : B.frames = X.A.frames
theorem Rm.here {k : Nat} {X : Cx} (r : Rm k X) : Rb k X X.A := ⟨r.room, r.gd, rfl⟩
theorem Rb.in1 {k : Nat} {X : Cx} {B : Around} (r : Rb (k + 1) X B) : Rb k X B.in1 := ⟨r.room.in1, r.gd, r.fr⟩
theorem Rb.mono {j k : Nat} {X : Cx} {B : Around} (r : Rb k X B) (h : j ≤ k) : Rb j X B := ⟨r.room.mono h, r.gd, r.fr⟩
theorem Rb.make {k : Nat} {X : Cx} {B : Around} (r : Rb (k + 1) X B) (C : Addr) (us : List Value) (kw : List (Str × Value)) : Rb k X (B.under (.builtin "type.__call__" ⟨.ref C :: us, kw⟩)) := by
  refine ⟨r.room.make C us kw, ?_, ?_⟩
  · have g : (Code.builtin "type.__call__" ⟨.ref C :: us, kw⟩).isGuard = false := by show guardIds.contains "type.__call__" = false; decide +kernel
    simp [Around.under, Code.guards, g, pushGuards, r.gd]
  · have e : (B.under (.builtin "type.__call__" ⟨.ref C :: us, kw⟩)).frames = B.frames := by
      first | rfl | simp [Around.under, Code.envs, Code.isFrame, pushEnvs]
    rw [e]; exact r.fr
section
variable {g : Wd} {X : Cx} {k : Nat} {f C : Addr} {fd : FuncData} {ps : List Str} {sp : Sp} {W : WX}
/-- the callee runs in another surrounding of the same frames -/
theorem runB {B : Around} (a : At g X) (F : FnG g k f fd ps sp) (hr : Rb k X B) (tk : Takes X W) {pins : List (Addr × Obj)} {σ : L2.St} {H : Hp} {s : Shared} {Q : VK} {args : Args} {us : List Value} {vs : List V}
    (I : Inv X pins σ H s) (hb : BindsTo s fd args (ps.zip us)) (r : Vals vs us) (h : sp vs H Q (fun c d H' => W c d σ H')) :
    codeAny (model X.prog X.w) B (.call (.ref f) args) (fun res s' => match res with | .ok fl => (match fl with | .ret u => EP X pins σ Q u s' | _ => False) | .error e => X.xe e s') s := by
  obtain ⟨P, w, K, mg, base⟩ := g
  obtain ⟨rfl, rfl, rfl, rfl, rfl⟩ := a
  have e := I.env0
  have e' : Env0 X.prog X.w X.K X.mg X.base B X.stack s H := ⟨hr.fr.trans e.frames, e.mod, e.bs, e.bsz, e.funs, e.frf, e.hok, e.bare⟩
  refine codeAny_mono (F.run B X.stack s H args us vs Q _ hr.room hr.gd e' hb r h) fun res s' hq => ?_
  cases res with
  | error e => exact tk e s' (XE.of_call (E := fun c d H' => W c d σ H') I (fun _ _ _ z => z) hq)
  | ok fl =>
    cases fl with
    | ret u => exact I.after hq
    | _ => exact hq.elim
/-- a method of the class at C -/
def Km (g : Wd) (C : Addr) (m : Str) (k : Nat) (ps : List Str) (ds : List V) (sp : Sp) : Prop :=
  ∃ f fd dsV, PySem.W.findIn g.K (.ref C) m = some (some (.ref f)) ∧ PySem.W.isFn g.K (.ref f) = true ∧ PySem.W.keepIn g.K (.ref f) = true ∧ FnG g k f fd ps sp ∧ Binds g.K fd ps dsV ∧ Vals ds dsV
/-- f(self, ..) by values, in any surrounding -/
theorem callB {B : Around} {ds : List V} {dsV : List Value} (a : At g X) (F : FnG g k f fd ps sp) (hr : Rb k X B) (tk : Takes X W) (hb : Binds g.K fd ps dsV) (rd : Vals ds dsV) {pins : List (Addr × Obj)} {σ : L2.St} {H : Hp} {s : Shared} {Q : VK} {us : List Value} {vs : List V}
    (I : Inv X pins σ H s) (r : Vals vs us) (h : sp (vs ++ ds) H Q (fun c d H' => W c d σ H')) : wpAny (model X.prog X.w) B (call (.ref f) us) (EP X pins σ Q) X.xe s := by
  have r2 := Vals.append r rd
  have hl : (us ++ dsV).length = ps.length := by rw [← r2.length]; exact F.len _ _ _ _ h
  have KI : g.K.In s.heap := by rw [← a.K]; exact I.kIn
  refine wpAny_call (codeAny_mono (runB a F hr tk I (hb s us KI hl) r2 h) fun res s' hq => ?_)
  cases res with
  | error e => exact hq
  | ok fl => cases fl with
    | ret u => exact hq
    | _ => exact hq.elim
variable {m : Str} {ds : List V} {o e : Expr} {es : List Expr} {ta : TE} {t : TA} {p pos apos : Pos}
def tMethG (C : Addr) (m : Str) (sp : Sp) (ds : List V) (W : WX) (ta : TE) (t : TA) : TE := fun σ H Q => ta σ H fun x H1 => ∃ a dx fs, x = .ref a ∧ H1 a = some (.ins C dx fs) ∧ fs.lookup m = none ∧
  t σ H1 fun vs H2 => sp (x :: (vs ++ ds)) H2 Q (fun c d H' => W c d σ H')
theorem pe_methG0 {pl : Sem Bool} (he : PE X o ta) (c : Cls g.K C) (F : Km g C m k ps ds sp) (hr : Rm k X) (tk : Takes X W)
    (ht : eval (.Call (.Attribute o m apos) [] [] pos) X.env = (do
      let ov ← eval o X.env
      standAt apos.atName
      let (f, first) ← holding [ov] (getMethod ov m pl)
      callWith pos f first (backTo pos (starEach [] X.env)) (backToKw pos (keywordEach [] X.env))) := by rfl) (a : At g X := by exact ⟨rfl, rfl, rfl, rfl, rfl⟩) :
    PE X (.Call (.Attribute o m apos) [] [] pos) (tMethG C m sp ds W ta tNil) := by
  obtain ⟨f, fd, dsV, hf, hi, hk, F, hb, rd⟩ := F
  refine ⟨fun pins s σ H Q I h => PySem.W.methodCall_KW (pl := pl) (thn (he.run pins s σ H _ I h) ?_) ht⟩
  rintro u s1 ⟨x, H1, I1, rx, q, dx, fs, rfl, ea, l, h1⟩
  obtain rfl : u = Value.ref q := rx
  refine getmeth_ok I1 ea (by rw [a.K]; exact c) (g := f) (by rw [a.K]; exact ⟨hf, hi, hk⟩) l ?_
  exact PySem.W.callWith_K0 (first := [.ref q]) I1.kIn (by rw [a.K]; exact hk) (callG (vs := [.ref q]) (us := [.ref q]) a F hr tk hb rd I1 (.cons rfl .nil) h1)
/-- the class at C, made by its own __init__ -/
def Kc (g : Wd) (x : Str) (C : Addr) (k : Nat) (ps : List Str) (ds : List V) (sp : Sp) : Prop :=
  g.mg x = some (.ref C) ∧ ∃ f fd dsV, Mk g.K C f ∧ FnG g k f fd ps sp ∧ Binds g.K fd ps dsV ∧ Vals ds dsV
theorem makeG {dsV : List Value} (a : At g X) (M : Mk g.K C f) (F : FnG g k f fd ps sp) (hr : Rm (k + 1) X) (tk : Takes X W) (rd : Vals ds dsV) {pins : List (Addr × Obj)} {σ : L2.St} {H : Hp} {s : Shared} {Q : VK} {us : List Value} {kw : List (Str × Value)} {all : List Value} {vs : List V}
    (I : Inv X pins σ H s) (r : Vals vs all)
    (hb : ∀ s' : Shared, g.K.In s'.heap → BindsTo s' fd ⟨.ref (s.heap.objs.size + 1) :: us, kw⟩ (ps.zip (.ref (s.heap.objs.size + 1) :: all)))
    (h : ∀ y dy, H y = none → H dy = none → dy ≠ y → sp (.ref y :: vs) (upd (upd H dy (.own y)) y (.ins C dy [])) (fun v H2 => v = .non ∧ Q (.ref y) H2) (fun c d H' => W c d σ H')) :
    wpAny (model X.prog X.w) X.A (call (.ref C) us kw) (EP X pins σ Q) X.xe s := by
  have hq := h (s.heap.objs.size + 1) s.heap.objs.size (I.hok.fresh (Nat.le_succ _)) (I.hok.fresh (Nat.le_refl _)) (Nat.ne_of_lt (Nat.lt_succ_self _))
  have J := Inv.made (C := C) I
  have KI := J.kIn
  rw [a.K] at KI
  have rr : Vals (V.ref (s.heap.objs.size + 1) :: vs) (Value.ref (s.heap.objs.size + 1) :: all) := .cons rfl r
  refine wpAny_call (make_map (K := X.K) (f := f) I.kIn (by rw [a.K]; exact M.makes) (by rw [a.K]; exact M.init) (by rw [a.K]; exact beq_iff_eq.mp M.fn) (codeAny_mono (runB a F (hr.here.make C us kw) tk J (hb _ KI) rr hq) fun res s' hz => ?_))
  cases res with
  | error e => exact hz
  | ok fl => cases fl with
    | ret u =>
      obtain ⟨v, H', I3, rv, rfl, q3⟩ := hz
      exact ⟨rv, ⟨.ref (s.heap.objs.size + 1), H', I3, rfl, q3⟩⟩
    | _ => exact hz.elim
def tMakeG (C : Addr) (sp : Sp) (ds : List V) (W : WX) (t : TA) : TE := fun σ H Q => t σ H fun vs H1 => ∀ y dy, H1 y = none → H1 dy = none → dy ≠ y →
  sp (.ref y :: (vs ++ ds)) (upd (upd H1 dy (.own y)) y (.ins C dy [])) (fun v H2 => v = .non ∧ Q (.ref y) H2) (fun c d H' => W c d σ H')
variable {x : Str}
theorem pe_makeG (F : Kc g x C k ps ds sp) (hr : Rm (k + 1) X) (tk : Takes X W) (ha : PA X (e :: es) t) (hg : Gl X x := by rfl) (hdb : (x == ("__debug__" : Str)) = false := by decide)
    (he : starEach (e :: es) X.env = (false, eval e X.env) :: starEach es X.env := by rfl) (hpl : (backTo pos (starEach es X.env)).any (·.1) = false := by rfl) (a : At g X := by exact ⟨rfl, rfl, rfl, rfl, rfl⟩) :
    PE X (.Call (.Name x p) (e :: es) [] pos) (tMakeG C sp ds W t) := by
  obtain ⟨hm, f, fd, dsV, M, F, hb, rd⟩ := F
  refine ⟨fun pins s σ H Q I h => wpAny_Call_Name_kw (ld_glob I hg (by rw [a.mg]; exact hm) ?_ hdb)⟩
  refine PySem.W.callWith_K (h₀ := X.base) I.ok.mod.kin (by rw [a.K]; exact M.kp) (thn (ha.run pos pins s σ H _ I h) ?_) he hpl
  rintro us s1 ⟨vs, H1, I1, r, q⟩
  have r2 := Vals.append r rd
  refine ⟨I1.kIn, makeG a M F hr tk rd I1 r2 (fun s' KI => ?_) q⟩
  have hl := F.len _ _ _ _ (q (s1.heap.objs.size + 1) s1.heap.objs.size (I1.hok.fresh (Nat.le_succ _)) (I1.hok.fresh (Nat.le_refl _)) (Nat.ne_of_lt (Nat.lt_succ_self _)))
  exact hb s' (.ref (s1.heap.objs.size + 1) :: us) KI (by
    rw [← hl]
    show (us ++ dsV).length + 1 = (vs ++ ds).length + 1
    rw [← r2.length])
end
end RS
namespace RS
open PySem PySem.Spec L2
section
variable {g : Wd} {X : Cx} {k : Nat} {f C : Addr} {fd : FuncData} {ps ks : List Str} {sp : Sp} {W : WX} {ds : List V} {x : Str} {p pos : Pos} {kws : List Keyword} {tk' : TA} {pm : List Nat}
def tCallK (n : Nat) (sp : Sp) (pm : List Nat) (W : WX) (t : TA) : TE := fun σ H Q => t σ H fun zs H1 => zs.length = n ∧ sp (pm.map fun i => zs.getD i .non) H1 Q (fun c d H' => W c d σ H')
def tMakeK (n : Nat) (C : Addr) (sp : Sp) (pm : List Nat) (W : WX) (t : TA) : TE := fun σ H Q => t σ H fun zs H1 => zs.length = n ∧ ∀ y dy, H1 y = none → H1 dy = none → dy ≠ y →
  sp (.ref y :: pm.map fun i => zs.getD i .non) (upd (upd H1 dy (.own y)) y (.ins C dy [])) (fun v H2 => v = .non ∧ Q (.ref y) H2) (fun c d H' => W c d σ H')
def gFld (K : PySem.W.Frag) (ta : TE) (f : Str) : TG := fun v σ H Q => ta σ H fun x H1 => ∃ a C dx fs, x = .ref a ∧ H1 a = some (.ins C dx fs) ∧ Cls K C ∧ NoAttr K C f ∧ fs.length < 1000 ∧ Q σ (upd H1 a (.ins C dx (putF f v fs)))
theorem noRef_mro : ∀ T ∈ ["NoneType", "bool", "int", "str", "list", "tuple", "dict"], ((fastBuiltinMro T).any fun l => l.all fun v => match v with | .type _ => true | _ => false) = true := by decide +kernel
theorem notFirst_ty {K : PySem.W.Frag} {C : Addr} {T : String} (h : T ∈ ["NoneType", "bool", "int", "str", "list", "tuple", "dict"]) : PySem.W.notFirst K C (.type T) = true := by
  have e := noRef_mro T h
  unfold PySem.W.notFirst PySem.W.subIn
  cases q : fastBuiltinMro T with
  | none => rw [q] at e; cases e
  | some l =>
    rw [q] at e
    simp only [q]
    have e2 : l.contains (.ref C) = false := by
      rw [List.contains_eq_any_beq, List.any_eq_false]
      intro v hv
      have z := List.all_eq_true.mp (show (l.all fun v => match v with | .type _ => true | _ => false) = true from e) v hv
      cases v <;> first | (intro z2; cases z2; done) | (cases z; done) | skip
      all_goals simp
    show (_ || ((some l).map _ == some false)) = true
    rw [Option.map_some, e2]
    simp
/-- what may stand on the other side: a plain thing, or an instance of the same class -/
def Oth (C : Addr) (H : Hp) (y : V) : Prop := (∃ t, tyN y H = some t) ∨ ∃ b dx fs, y = .ref b ∧ H b = some (.ins C dx fs)
theorem oth_looks {pins : List (Addr × Obj)} {σ : L2.St} {H : Hp} {s : Shared} {y : V} {u : Value} (I : Inv X pins σ H s) (o : Oth C H y) (r : RelV y u) :
    ∃ tb, PySem.W.Looks (model X.prog X.w) s.heap (typeOf u) tb ∧ PySem.W.notFirst X.K C tb = true := by
  rcases o with ⟨t, ht⟩ | ⟨b, dx, fs, rfl, hb⟩
  · obtain ⟨ty, m⟩ := tyN_tyX (K := X.K) ht
    obtain ⟨P, Z, hp, _⟩ := kit_of I r ty
    exact ⟨.type t, Z.ty _ _ I.kIn hp, notFirst_ty m⟩
  · cases r
    obtain ⟨mA, J, _⟩ := ins_get I.hok hb
    obtain ⟨od, J, _⟩ := J.look
    exact ⟨.ref C, J.type, by simp [PySem.W.notFirst]⟩
def rEqOwn (C : Addr) (sp : Sp) (ds : List V) (W : WX) (neg : Bool) : L2.St → R2 := fun σ x y H Q => ∃ a dx fs, x = .ref a ∧ H a = some (.ins C dx fs) ∧ Oth C H y ∧
  sp ([x, y] ++ ds) H (fun v H' => ∃ b, v = .bl b ∧ Q (.bl (if neg then !b else b)) H') (fun c d H' => W c d σ H')
theorem run_eq (F : Km g C "__eq__" k ps ds sp) {B : Around} (hr : Rb k X B) (tk : Takes X W) (a : At g X) {pins : List (Addr × Obj)} {σ : L2.St} {H : Hp} {s : Shared} {y : V} {u : Value} {Q : Bool → Hp → Prop} {q dx : Addr} {fs : List (Str × V)}
    (I : Inv X pins σ H s) (ea : H q = some (.ins C dx fs)) (o : Oth C H y) (r : RelV y u) (h : sp ([.ref q, y] ++ ds) H (fun v H' => ∃ b, v = .bl b ∧ Q b H') (fun c d H' => W c d σ H')) :
    wpAny (model X.prog X.w) B (richCompare .Eq (.ref q) u) (fun v s' => ∃ b H', v = .bool b ∧ Inv X pins σ H' s' ∧ Q b H') X.xe s := by
  obtain ⟨f, fd, dsV, hf, hi, hk, F, hb, rd⟩ := F
  obtain ⟨tb, L, nf⟩ := oth_looks I o r
  obtain ⟨mA, J, _⟩ := ins_get I.hok ea
  obtain ⟨od, J, _⟩ := J.look
  obtain ⟨m, hF⟩ := I.fr
  refine PySem.W.cmp_K (op := .Eq) hr.room.units0 hF I.ok.mod.kin J L nf (by rw [a.K]; exact hf) (by rw [a.K]; exact hi) (wpAny_mono (callB a F hr tk hb rd (vs := [.ref q, y]) (us := [.ref q, u]) I (.cons rfl (.cons r .nil)) h) ?_ fun _ _ z => z)
  rintro v s' ⟨z, H', I', rz, b, rfl, hq⟩
  cases rz
  exact ⟨b, H', rfl, I', hq⟩
end
section
variable {g : Wd} {X : Cx} {k : Nat} {C : Addr} {ps : List Str} {sp : Sp} {W : WX} {ds : List V} {p pos : Pos} {a b : Expr} {ta tb : TE}
def tEqOwn (C : Addr) (sp : Sp) (ds : List V) (W : WX) (neg : Bool) (ta tb : TE) : TE := fun σ H Q => ta σ H fun x H1 => tb σ H1 fun y H2 => rEqOwn C sp ds W neg σ x y H2 Q
theorem c_eqOwn (F : Km g C "__eq__" k ps ds sp) (hr : Rm k X) (tk : Takes X W) (ha : PE X a ta) (hb : PE X b tb) (at_ : At g X := by exact ⟨rfl, rfl, rfl, rfl, rfl⟩) : PC X .Eq a b (tEqOwn C sp ds W false ta tb) := by
    refine ⟨fun pins s σ H Q I h => ?_⟩
    refine bin (R := fun x y H2 => rEqOwn C sp ds W false σ x y H2 Q) ha hb I h fun v u s2 x y H2 I2 rx ry q => ?_
    obtain ⟨q, dx, fs, rfl, ea, o, hs⟩ := q
    cases rx
    refine wpAny_mono (run_eq F hr.here tk at_ (Q := fun b H' => Q (.bl b) H') I2 ea o ry hs) ?_ fun _ _ z => z
    rintro v s' ⟨b, H', rfl, I', hq⟩
    exact ⟨.bl b, H', I', rfl, hq⟩
theorem e_eqOwn (F : Km g C "__eq__" k ps ds sp) (hr : Rm k X) (tk : Takes X W) (ha : PE X a ta) (hb : PE X b tb) (at_ : At g X := by exact ⟨rfl, rfl, rfl, rfl, rfl⟩) : PE X (.Compare a [.Eq] [b] pos) (tEqOwn C sp ds W false ta tb) := pe_cmp (c_eqOwn F hr tk ha hb at_) (nomark b)
theorem t_eqOwn (F : Km g C "__eq__" k ps ds sp) (hr : Rm k X) (tk : Takes X W) (ha : PE X a ta) (hb : PE X b tb) (at_ : At g X := by exact ⟨rfl, rfl, rfl, rfl, rfl⟩) : PT X (.Compare a [.Eq] [b] pos) (tB (tEqOwn C sp ds W false ta tb)) := pt_cmp (c_eqOwn F hr tk ha hb at_) (nomark b)
end
section
variable {g : Wd} {X : Cx} {k : Nat} {C : Addr} {ps : List Str} {sp : Sp} {W : WX} {ds : List V}
/-- what the written part says of != and bool of the class -/
structure Plain (g : Wd) (C : Addr) : Prop where
  ne : PySem.W.findIn g.K (.ref C) "__ne__" = some (some (.builtin "object.__ne__"))
  ob : PySem.W.mroIn g.K C (.type "object") = some true
end
end RS
namespace RS
open PySem PySem.Spec L2
section
variable {M : Model} {A : Around} {E : Value → Shared → Prop} {s : Shared} {K : PySem.W.Frag} {x C : Addr} {ox : Obj} {od : Option Obj} {name : Str} {id : String}
/-- a special method that is a built-in, where it is bound -/
theorem ifBound_B {args : List Value} {Q : Option Value → Shared → Prop} (KI : K.In s.heap) (I : PySem.W.InstAt s.heap x ox C od) (hs : PySem.W.findIn K (.ref C) name = some (some (.builtin id)))
    (hb : ∀ self, bindSpecial (.builtin id) self = pure (.builtin id, [self])) (h : wpAny M A (call (.builtin id) (.ref x :: args)) (fun v => Q (some v)) E s) : wpAny M A (callSpecialIfBound? (.ref x) name args) Q E s := by
  simp only [callSpecialIfBound?, bindSpecialIfBound?]
  refine wpAny_holding (wpAny_bind (wpAny_bind (wpAny_bind (I.type.here ((PySem.W.looks_findIn KI hs).here ?_)))))
  refine wpAny_bind (wpAny_askSetting (wpAny_ite ?_))
  have fin : wpAny M A (call (.builtin id) ([.ref x] ++ args) >>= fun v => pure (some v)) Q E s := wpAny_bind (wpAny_mono h (fun v s' h' => wpAny_pure h') fun _ _ h' => h')
  split
  · exact wpAny_bind ((PySem.W.Looks.of_pure (hb _)).here (wpAny_pure (by exact fin)))
  · exact wpAny_tryCatch (wpAny_bind ((PySem.W.Looks.of_pure (hb _)).here (wpAny_pure (by exact fin))))
end
section
variable {g : Wd} {X : Cx} {k : Nat} {C : Addr} {ps : List Str} {sp : Sp} {W : WX} {ds : List V} {p pos : Pos} {a b : Expr} {ta tb : TE}
theorem bind_ne : ∀ self, bindSpecial (.builtin "object.__ne__") self = pure (.builtin "object.__ne__", [self]) := fun self => (F.cmp_object.ne).bind self
theorem run_ne (F : Km g C "__eq__" k ps ds sp) (Pl : Plain g C) {B : Around} (hr : Rb (k + 1) X B) (tk : Takes X W) (at_ : At g X) {pins : List (Addr × Obj)} {σ : L2.St} {H : Hp} {s : Shared} {y : V} {u : Value} {Q : Bool → Hp → Prop} {q dx : Addr} {fs : List (Str × V)}
    (I : Inv X pins σ H s) (ea : H q = some (.ins C dx fs)) (o : Oth C H y) (r : RelV y u) (h : sp ([.ref q, y] ++ ds) H (fun v H' => ∃ b, v = .bl b ∧ Q (!b) H') (fun c d H' => W c d σ H')) :
    wpAny (model X.prog X.w) B (richCompare .NotEq (.ref q) u) (fun v s' => ∃ b H', v = .bool b ∧ Inv X pins σ H' s' ∧ Q b H') X.xe s := by
  obtain ⟨f, fd, dsV, hf, hi, hk, F, hb, rd⟩ := F
  obtain ⟨tb, L, nf⟩ := oth_looks I o r
  obtain ⟨mA, J, _⟩ := ins_get I.hok ea
  obtain ⟨od, J, _⟩ := J.look
  have KI : X.K.In s.heap := I.kIn
  have inner : wpAny (model X.prog X.w) B (tryCompare (.ref q) (cmpInfo .NotEq).2.1 u) (fun r s' => ∃ b H', r = some (.bool b) ∧ Inv X pins σ H' s' ∧ Q b H') X.xe s := by
    unfold tryCompare
    refine wpAny_bind (ifBound_B (id := "object.__ne__") KI J (by rw [at_.K]; exact Pl.ne) bind_ne ?_)
    refine wpAny_call (codeAny_call_builtin (PySem.F.cmp_object.ne).plain PySem.F.cmpEntry_ne (PySem.W.check_slot (i := "object.__ne__") (owner := "object") (n := "__ne__") PySem.F.cmpKind_ne PySem.F.cmpSplit_ne (J.type.andThen (PySem.W.looks_mroIn KI (by rw [at_.K]; exact Pl.ob))) (PySem.F.cmpArgs_ne _ _) ?_))
    unfold Builtin.«object.__ne__»
    refine wpAny_bind (wpAny_of_eq (a := (.ref q, [u])) (by first | rfl | kernel_rfl) ?_)
    refine wpAny_bind (wpAny_cRoomFor (hr.in1.room.units0) ?_)
    refine wpAny_bind (PySem.W.ifBound_K KI J (by rw [at_.K]; exact hf) (by rw [at_.K]; exact hi) (wpAny_mono (callB at_ F hr.in1 tk hb rd (vs := [.ref q, y]) (us := [.ref q, u]) I (.cons rfl (.cons r .nil)) h) ?_ fun _ _ z => z))
    rintro v s' ⟨z, H', I', rz, b, rfl, hq⟩
    cases rz
    refine wpAny_bind (wpAny_truthy_bool ?_)
    refine wpAny_pure ?_
    refine wpAny_pure ?_
    exact ⟨!b, H', rfl, I', hq⟩
  unfold richCompare
  simp only [oneThing_ref]
  refine wpAny_holding (wpAny_bind (wpAny_cRoomFor hr.room.units0 ?_))
  refine wpAny_bind (J.type.here (wpAny_bind (L.here ?_)))
  have rest : wpAny (model X.prog X.w) B (tryCompare (.ref q) (cmpInfo .NotEq).2.1 u) (fun r s' => ∃ v, r = some v ∧ ∃ b H', v = .bool b ∧ Inv X pins σ H' s' ∧ Q b H') X.xe s :=
    wpAny_mono inner (fun r s' ⟨b, H', e, z⟩ => ⟨_, e, b, H', rfl, z⟩) fun _ _ z => z
  split
  · rename_i ne
    have e : PySem.W.subIn X.K tb (.ref C) = some false := by
      rcases Bool.or_eq_true_iff.mp nf with e | e
      · rw [beq_iff_eq.mp e] at ne; simp at ne
      · exact beq_iff_eq.mp e
    refine wpAny_bind ((PySem.W.looks_subIn KI e).here ?_)
    simp only [Bool.false_eq_true, if_false]
    refine wpAny_bind (wpAny_mono rest ?_ fun _ _ z => z)
    rintro r s' ⟨v, rfl, z⟩
    exact wpAny_pure z
  · refine wpAny_bind (wpAny_pure ?_)
    simp only [Bool.false_eq_true, if_false]
    refine wpAny_bind (wpAny_mono rest ?_ fun _ _ z => z)
    rintro r s' ⟨v, rfl, z⟩
    exact wpAny_pure z
theorem c_neOwn (F : Km g C "__eq__" k ps ds sp) (Pl : Plain g C) (hr : Rm (k + 1) X) (tk : Takes X W) (ha : PE X a ta) (hb : PE X b tb) (at_ : At g X := by exact ⟨rfl, rfl, rfl, rfl, rfl⟩) : PC X .NotEq a b (tEqOwn C sp ds W true ta tb) := by
    refine ⟨fun pins s σ H Q I h => ?_⟩
    refine bin (R := fun x y H2 => rEqOwn C sp ds W true σ x y H2 Q) ha hb I h fun v u s2 x y H2 I2 rx ry q => ?_
    obtain ⟨q, dx, fs, rfl, ea, o, hs⟩ := q
    cases rx
    refine wpAny_mono (run_ne F Pl hr.here tk at_ (Q := fun b H' => Q (.bl b) H') I2 ea o ry hs) ?_ fun _ _ z => z
    rintro v s' ⟨b, H', rfl, I', hq⟩
    exact ⟨.bl b, H', I', rfl, hq⟩
theorem t_neOwn (F : Km g C "__eq__" k ps ds sp) (Pl : Plain g C) (hr : Rm (k + 1) X) (tk : Takes X W) (ha : PE X a ta) (hb : PE X b tb) (at_ : At g X := by exact ⟨rfl, rfl, rfl, rfl, rfl⟩) : PT X (.Compare a [.NotEq] [b] pos) (tB (tEqOwn C sp ds W true ta tb)) := pt_cmp (c_neOwn F Pl hr tk ha hb at_) (nomark b)
def rBoolOwn (C : Addr) (sp : Sp) (ds : List V) (W : WX) : L2.St → List V → Hp → VK → Prop := fun σ xs H Q => ∃ q dx fs, xs = [.ref q] ∧ H q = some (.ins C dx fs) ∧
  sp ([.ref q] ++ ds) H (fun v H' => ∃ b, v = .bl b ∧ Q (.bl b) H') (fun c d H' => W c d σ H')
def tBoolOwn (C : Addr) (sp : Sp) (ds : List V) (W : WX) (ta : TA) : TE := fun σ H Q => ta σ H fun xs H1 => rBoolOwn C sp ds W σ xs H1 Q
theorem e_boolOwn {e : Expr} {t : TA} (F : Km g C "__bool__" k ps ds sp) (hr : Rm (k + 2) X) (tk : Takes X W) (hm : X.mg "bool" = none) (ha : PA X [e] t) (hg : Gl X "bool" := by rfl)
    (he : starEach (e :: []) X.env = (false, eval e X.env) :: starEach [] X.env := by rfl) (hpl : (backTo pos (starEach [] X.env)).any (·.1) = false := by rfl) (at_ : At g X := by exact ⟨rfl, rfl, rfl, rfl, rfl⟩) :
    PE X (.Call (.Name "bool" p) [e] [] pos) (tBoolOwn C sp ds W t) := by
  obtain ⟨f, fd, dsV, hf, hi, hk, F, hb, rd⟩ := F
  refine ⟨fun pins s σ H Q I h => wpAny_Call_Name_kw (ld_blt (u := .type "bool") I hg hm (by decide +kernel) ?_ (by decide) (by decide))⟩
  refine PyProof.Rows.callWith_type1 (thn (ha.run pos pins s σ H _ I h) ?_) he hpl
  rintro us s1 ⟨vs, H1, I1, r1, q, dx, fs, rfl, ea, hs⟩
  obtain ⟨u, rfl, ru⟩ := vals1 r1
  cases ru
  obtain ⟨mA, J, _⟩ := ins_get I1.hok ea
  obtain ⟨od, J, _⟩ := J.look
  obtain ⟨m, hF⟩ := I1.fr
  have tr : wpAny (model X.prog X.w) X.A.in1.in1 (truthy (.ref q)) (fun b s' => ∃ H', Inv X pins σ H' s' ∧ Q (.bl b) H') X.xe s1 := by
    refine PySem.W.truthy_K hF I1.ok.mod.kin J (by rw [at_.K]; exact hf) (by rw [at_.K]; exact hi) (wpAny_mono (callB at_ F hr.here.in1.in1 tk hb rd (vs := [.ref q]) (us := [.ref q]) I1 (.cons rfl .nil) hs) ?_ fun _ _ z => z)
    rintro v s' ⟨z, H', I', rz, b, rfl, hq⟩
    cases rz
    exact ⟨H', I', hq⟩
  refine callType_newIn PySem.F.called_bool PySem.F.newNe_bool (PySem.F.typeCall_bool_1 _) (PySem.F.newCall_bool_1 _) (fun obj => PySem.F.args_object_init_2 obj _) PySem.F.entry_bool_new
    (S := fun A R s' => wpAny (model X.prog X.w) A.in1 (truthy (.ref q)) (fun b s2 => R (.ok (.ret (.bool b))) s2) (fun e s2 => R (.error e) s2) s') (MeetsIn.of_wp fun A R s' hs' => ?_) ?_
  · obtain ⟨hp, g', d', tk', os'⟩ := s'
    have f1 := PySem.F.conv_sub_bool
    repeat (any_goals (first | (with_reducible refine wpAny_bind (wpAny_mono hs' ?_ fun _ _ z => z)) | wp_step))
    all_goals (intro b s2 h2)
    all_goals exact wpAny_pure ⟨_, rfl, h2⟩
  · refine wpAny_mono tr ?_ fun _ _ z => z
    rintro b s' ⟨H', I', hq⟩
    exact ⟨typeIs_bool _ _, .bl b, H', I', rfl, hq⟩
end
end RS
namespace RS
open PySem PySem.Spec PyProof.Rows L2
end RS
namespace RS
open PySem PySem.Spec L2
/-- in a def's body: what is raised goes on to the caller -/
theorem tkD {g : Wd} {N : List Str} {qual : Str} {st : Stmt} {f : Addr} {cdv : Value} {A : Around} {outer : List Env} {s : Shared} {H : Hp} {E : XK} : Takes (cx g N qual st f cdv A outer s H E) (fun c d _ H' => E c d H') := takes_of rfl rfl rfl rfl
theorem psD {g : Wd} {N : List Str} {qual : Str} {st : Stmt} {f : Addr} {cdv : Value} {A : Around} {outer : List Env} {s : Shared} {H : Hp} {E : XK} :
    PassesOwn (model (cx g N qual st f cdv A outer s H E).prog (cx g N qual st f cdv A outer s H E).w) (cx g N qual st f cdv A outer s H E).A (cx g N qual st f cdv A outer s H E).env (cx g N qual st f cdv A outer s H E).xe := passes_of rfl
theorem bb_len : bootBuiltins "len" = some (.builtin "len") := by decide +kernel
theorem bb_isinstance : bootBuiltins "isinstance" = some (.builtin "isinstance") := by decide +kernel
theorem bb_abs : bootBuiltins "abs" = some (.builtin "abs") := by decide +kernel
theorem bb_repr : bootBuiltins "repr" = some (.builtin "repr") := by decide +kernel
theorem bb_all : bootBuiltins "all" = some (.builtin "all") := by decide +kernel
theorem bb_any : bootBuiltins "any" = some (.builtin "any") := by decide +kernel
theorem bb_str : bootBuiltins "str" = some (.type "str") := by decide +kernel
theorem bb_int : bootBuiltins "int" = some (.type "int") := by decide +kernel
theorem bb_list : bootBuiltins "list" = some (.type "list") := by decide +kernel
theorem bb_tuple : bootBuiltins "tuple" = some (.type "tuple") := by decide +kernel
theorem bb_bool : bootBuiltins "bool" = some (.type "bool") := by decide +kernel
section
variable {X : Cx}
def rIxU (K : PySem.W.Frag) : R2 := fun x y H Q => match x, y with
  | .str z, .int i => z.length ≤ sizeLine ∧ ∃ c, atI z.cps.toList i = some c ∧ Q (.str ⟨#[c]⟩) H
  | .ref p, .int i => ∃ xs, (SqL K H p xs ∨ SqT K H p xs) ∧ ∃ v, atI xs i = some v ∧ Q v H
  | _, _ => False
theorem o_ix {K : PySem.W.Frag} (hK : X.K = K := by rfl) : IxR X (rIxU K) := by
  subst hK
  intro ve se pins s σ H x y v u Q I rx ry h hsub
  cases x <;> cases y <;> first
    | exact (show False from h).elim
    | (obtain ⟨h1, c, h2, q⟩ := h; exact ix_str ve se pins s σ H _ _ v u Q I rx ry ⟨_, _, c, rfl, rfl, h1, h2, q⟩ hsub)
    | skip
  obtain ⟨xs, hx | hx, w, h2, q⟩ := h
  · exact ix_list ve se pins s σ H _ _ v u Q I rx ry ⟨_, xs, _, w, rfl, rfl, hx, h2, q⟩ hsub
  · exact ix_tup ve se pins s σ H _ _ v u Q I rx ry ⟨_, xs, _, w, rfl, rfl, hx, h2, q⟩ hsub
def rSlU (K : PySem.W.Frag) : V → Option Int → Option Int → Hp → VK → Prop := fun x lo hi H Q => match x with
  | .str z => z.length ≤ sizeLine ∧ Q (.str (cutS z lo hi)) H
  | .ref p => rSlL K (.ref p) lo hi H Q ∨ rSlA K (.ref p) lo hi H Q
  | _ => False
theorem o_sl {K : PySem.W.Frag} (hK : X.K = K := by rfl) : SlR X (rSlU K) := by
  subst hK
  intro pins s σ H x v vl vu lo hi sl Q I rx hs pl pu h
  cases x <;> first
    | exact (show False from h).elim
    | exact sl_str pins s σ H _ v vl vu lo hi sl Q I rx hs pl pu ⟨_, rfl, h.1, h.2⟩
    | exact (show _ ∨ _ from h).elim (sl_list pins s σ H _ v vl vu lo hi sl Q I rx hs pl pu) (sl_tupA pins s σ H _ v vl vu lo hi sl Q I rx hs pl pu)
variable {K : PySem.W.Frag} {p pos tpos : Pos} {e o : Expr} {es : List Expr} {ta te : TE} {t : TA}
theorem c_all (hK : X.K = K := by rfl) (hc : X.calm = true := by rfl) : CallR X (.builtin "all") (rAll K) := by subst hK; exact cr_all hc
theorem c_any (hK : X.K = K := by rfl) (hc : X.calm = true := by rfl) : CallR X (.builtin "any") (rAny K) := by subst hK; exact cr_any hc
theorem c_isi (hK : X.K = K := by rfl) : CallR X (.builtin "isinstance") (rIsi K) := by subst hK; exact call_isi
theorem e_fld {f : Str} (he : PE X e ta) (hb : attributeBase e f X.env (eval e X.env) = eval e X.env := by rfl) (hK : X.K = K := by rfl) : PE X (.Attribute e f pos) (tFld K ta f) := by subst hK; exact pe_fld he hb
theorem g_tup {k : Nat} {t : TGs} {n : Nat} (h : PGs X es t) (hc : X.calm = true := by rfl) (hn : (assignEach es X.env).length = n := by rfl) (hst : (assignEach es X.env).findIdx? (·.1) = none := by rfl) (hK : X.K = K := by rfl) :
    PG X (.Tuple es k pos) (gTup K n t) := by subst hK; exact pg_tup hc h hn hst
theorem e_bm {T id : String} {name : Str} {apos cpos : Pos} {to : TE} {r : V → List V → Hp → VK → Prop} (pa : PlainAttrs T) (slot : Slot T name id) (hty : typeOf (.builtin id) = pure (.type "method_descriptor")) (hm : MtR X id r) (ho : PE X o to) (ha : PA X (e :: es) t)
    (hbase : attributeBase o name X.env (eval o X.env) = eval o X.env := by rfl)
    (hfew : ((backTo cpos (starEach (e :: es) X.env)).all (fun x => !x.1) && (backToKw cpos (keywordEach [] X.env)).all (fun x => x.1.isSome)
      && decide ((e :: es).length + ([] : List Keyword).length + (if ([] : List Keyword).isEmpty then 0 else 1) < 30)) = true := by rfl)
    (hline : (apos.endLine == cpos.line) = true := by rfl) (hs : starEach (e :: es) X.env = (false, eval e X.env) :: starEach es X.env := by rfl) (hplain : (backTo cpos (starEach es X.env)).any (·.1) = false := by rfl) (hK : X.K = K := by rfl) :
    PE X (.Call (.Attribute o name apos) (e :: es) [] cpos) (tBM K T r to t) := by subst hK; exact pe_bm pa slot hty hm ho ha hbase hfew hline hs hplain
theorem i_list {tg : Expr} (hl : PE X e te) (hK : X.K = K := by rfl) : PI X tg e (iList K te) := by subst hK; exact pi_list hl
theorem i_tup {tg : Expr} (hl : PE X e te) (hK : X.K = K := by rfl) : PI X tg e (iTup K te) := by subst hK; exact pi_tup hl
theorem s_fld {f : Str} {value : Expr} {tv : TE} {pos' : Pos} (ha : PE X o ta) (hv : PE X value tv) (hs : swapsWith value (some (.Attribute o f pos')) pos.line X.env = pure false := by rfl) (hK : X.K = K := by rfl) :
    PS X (.Assign [.Attribute o f pos'] value pos) (sFld K ta tv f) := by subst hK; exact ps_fld ha hv hs
end
end RS
namespace RS
open PySem PySem.Spec L2
theorem same_new {H H1 : Hp} {p : Addr} {o : HO} (h : Same H H1) (n : H1 p = none) : Same H (upd H1 p o) := fun b u e => by
  rw [upd_ne (ne_of_none (h b u e) n)]; exact h b u e
theorem same_upd {H : Hp} {p : Addr} {o : HO} (n : H p = none) : Same H (L2.upd H p o) := same_new (Same.refl H) n
def ForB (J : It) (g : TG) (tb : TS) (D : Ends) (σ : L2.St) (H : Hp) : Prop := ∃ W : Nat → Nat → L2.St → Hp → Prop, (∃ m, W 0 m σ H) ∧ ∀ i m σ H, W i m σ H →
  (J.stop i H ∧ D.nx σ H) ∨ (J.go i H ∧ ∃ N : L2.St → Hp → Prop, (∀ σ' H', N σ' H' → ∃ m', m' < m ∧ W (i + 1) m' σ' H') ∧ ∀ x H', J.yld i H x H' → g x σ H' fun σ2 H2 => tb { D with nx := N, ct := N, bk := D.nx } σ2 H2)
theorem tFor_eq (wi : TI) (g : TG) (tb : TS) (D : Ends) (σ : L2.St) (H : Hp) : tFor wi g tb D σ H = wi σ H fun J H1 => ForB J g tb D σ H1 := rfl
def LcB (J : It) (g : TG) (tt : TT) (te : TE) (vs : List Nat) (σ : L2.St) (H1 : Hp) (Q : VK) : Prop := ∀ D, H1 D = none → ∃ W : Nat → Nat → Hp → Prop, (∃ m, W 0 m (upd H1 D (.lst []))) ∧ ∀ i m H, W i m H →
  (J.stop i H ∧ Q (.ref D) H) ∨ (J.go i H ∧ ∃ Nx : Hp → Prop, (∀ H', Nx H' → ∃ m', m' < m ∧ W (i + 1) m' H') ∧ ∀ x H', J.yld i H x H' → g x (wipe σ vs) H' fun σ2 H2 => wipe σ2 vs = wipe σ vs ∧ tt σ2 H2 fun b H3 =>
    if b = true then te σ2 H3 fun y H4 => ∃ acc, H4 D = some (.lst acc) ∧ acc.length < sizeLine ∧ Nx (upd H4 D (.lst (acc ++ [y]))) else Nx H3)
theorem tLc_eq (wi : TI) (g : TG) (tt : TT) (te : TE) (vs : List Nat) (σ : L2.St) (H : Hp) (Q : VK) : tLc wi g tt te vs σ H Q = wi σ H fun J H1 => LcB J g tt te vs σ H1 Q := rfl
theorem for_by {J : It} {g : TG} {tb : TS} {D : Ends} {σ : L2.St} {H : Hp} (n : Nat) (Pv : Nat → L2.St → Hp → Prop) (h0 : Pv 0 σ H) (hgo : ∀ i σ H, i < n → Pv i σ H → J.go i H) (hst : ∀ σ H, Pv n σ H → J.stop n H)
    (hs : ∀ i σ H x H', i < n → Pv i σ H → J.yld i H x H' → g x σ H' fun σ2 H2 => tb { D with nx := Pv (i + 1), ct := Pv (i + 1), bk := D.nx } σ2 H2) (hd : ∀ σ H, Pv n σ H → D.nx σ H) :
    ForB J g tb D σ H := by
  refine ⟨fun i m σ H => m = n - i ∧ i ≤ n ∧ Pv i σ H, ⟨n, by omega, Nat.zero_le _, h0⟩, ?_⟩
  rintro i m σ H ⟨rfl, hi, p⟩
  by_cases lt : i < n
  · exact .inr ⟨hgo i σ H lt p, Pv (i + 1), fun σ' H' p' => ⟨n - (i + 1), by omega, rfl, lt, p'⟩, fun x H' y => hs i σ H x H' lt p y⟩
  · have e : i = n := by omega
    subst e
    exact .inl ⟨hst σ H p, hd σ H p⟩
theorem lc_kept {J : It} {g : TG} {tt : TT} {te : TE} {vs : List Nat} {σ : L2.St} {H1 : Hp} {Qf : VK} (n : Nat) (kept : Nat → Option V) (hn : n ≤ sizeLine)
    (hgo : ∀ i H, i < n → Same H1 H → J.go i H) (hst : ∀ H, Same H1 H → J.stop n H)
    (hs : ∀ i H x H' (K : VK) (K0 : Hp → Prop), i < n → Same H1 H → J.yld i H x H' → (∀ v H4, kept i = some v → Same H H4 → K v H4) → (kept i = none → ∀ H4, Same H H4 → K0 H4) →
      g x (wipe σ vs) H' fun σ2 H2 => wipe σ2 vs = wipe σ vs ∧ tt σ2 H2 fun b H3 => if b = true then te σ2 H3 K else K0 H3)
    (hd : ∀ D H, H1 D = none → Same H1 H → H D = some (.lst ((List.range n).filterMap kept)) → Qf (.ref D) H) :
    LcB J g tt te vs σ H1 Qf := by
  intro D hD
  have len : ∀ i, ((List.range i).filterMap kept).length ≤ i := fun i => Nat.le_trans (List.length_filterMap_le _ _) (by rw [List.length_range]; exact Nat.le_refl _)
  have succ : ∀ i, (List.range (i + 1)).filterMap kept = (List.range i).filterMap kept ++ (match kept i with | some v => [v] | none => []) := fun i => by
    rw [List.range_succ, List.filterMap_append]
    cases e : kept i <;> simp [List.filterMap_cons, e]
  let Pv : Nat → Hp → Prop := fun i H => Same H1 H ∧ H D = some (.lst ((List.range i).filterMap kept))
  have store : ∀ i H4 v, Same H1 H4 → H4 D = some (.lst ((List.range i).filterMap kept)) → kept i = some v → Pv (i + 1) (upd H4 D (.lst ((List.range i).filterMap kept ++ [v]))) := fun i H4 v s e k =>
    ⟨fun b o q => by rw [upd_ne (ne_of_none q hD)]; exact s b o q, by rw [upd_same, succ, k]⟩
  refine ⟨fun i m H => m = n - i ∧ i ≤ n ∧ Pv i H, ⟨n, by omega, Nat.zero_le _, fun b o q => by rw [upd_ne (ne_of_none q hD)]; exact q, upd_same⟩, ?_⟩
  rintro i m H ⟨rfl, hi, s, eD⟩
  by_cases lt : i < n
  · refine .inr ⟨hgo i H lt s, Pv (i + 1), fun H' p' => ⟨n - (i + 1), by omega, rfl, lt, p'⟩, fun x H' y => ?_⟩
    refine hs i H x H' _ (Pv (i + 1)) lt s y (fun v H4 k s4 => ⟨_, s4 D _ eD, by have := len i; omega, store i H4 v (s.trans s4) (s4 D _ eD) k⟩) fun k H4 s4 => ⟨s.trans s4, ?_⟩
    rw [succ, k, s4 D _ eD, List.append_nil]
  · have e : i = n := by omega
    subst e
    exact .inl ⟨hst H s, hd D H hD s eD⟩
/-- .. where all are kept -/
theorem lc_all {J : It} {g : TG} {te : TE} {vs : List Nat} {σ : L2.St} {H1 : Hp} {Qf : VK} (n : Nat) (val : Nat → V) (hn : n ≤ sizeLine)
    (hgo : ∀ i H, i < n → Same H1 H → J.go i H) (hst : ∀ H, Same H1 H → J.stop n H)
    (hs : ∀ i H x H' (K : VK), i < n → Same H1 H → J.yld i H x H' → (∀ H4, Same H H4 → K (val i) H4) →
      g x (wipe σ vs) H' fun σ2 H2 => wipe σ2 vs = wipe σ vs ∧ te σ2 H2 K)
    (hd : ∀ D H, H1 D = none → Same H1 H → H D = some (.lst ((List.range n).map val)) → Qf (.ref D) H) :
    LcB J g tYes te vs σ H1 Qf := by
  refine lc_kept n (fun i => some (val i)) hn hgo hst (fun i H x H' K K0 lt s y k _ => ?_) (fun D H h1 h2 h3 => hd D H h1 h2 ?_)
  · have e : (fun (σ2 : L2.St) (H2 : Hp) => wipe σ2 vs = wipe σ vs ∧ tYes σ2 H2 fun b H3 => if b = true then te σ2 H3 K else K0 H3) = fun σ2 H2 => wipe σ2 vs = wipe σ vs ∧ te σ2 H2 K := by
      funext σ2 H2
      simp only [tYes, if_true]
    rw [e]
    exact hs i H x H' K lt s y fun H4 s4 => k _ H4 rfl s4
  · rw [h3]
    congr 2
    rw [show (fun i => some (val i)) = some ∘ val from rfl, ← List.filterMap_eq_map]
end RS
namespace RS
open PySem PySem.Spec L2
section
variable {K : PySem.W.Frag} {H : Hp} {Q : VK} {i j : Int} {a b z : Str} {p q : Addr} {c d : Bool} {x : V}
theorem add_ii : rAdd K (.int i) (.int j) H Q = Q (.int (i + j)) H := rfl
theorem add_ss : rAdd K (.str a) (.str b) H Q = (a.length + b.length ≤ sizeLine ∧ Q (.str (a ++ b)) H) := rfl
theorem add_rr : rAdd K (.ref p) (.ref q) H Q = (rCat (.ref p) (.ref q) H Q ∨ rCatA K (.ref p) (.ref q) H Q) := rfl
theorem mul_ii : rMul (.int i) (.int j) H Q = (CMul i j ∧ Q (.int (i * j)) H) := rfl
theorem mul_si : rMul (.str a) (.int i) H Q = (i < 2 ^ 31 ∧ -(2 ^ 31) < i ∧ a.length * i.toNat ≤ sizeLine ∧ Q (.str (repS a i.toNat)) H) := rfl
theorem mul_ri : rMul (.ref p) (.int i) H Q = rRep (.ref p) (.int i) H Q := rfl
theorem eq_of {x y : V} {k : Bool} (h : scal x y = true) (e : decide (x = y) = k) : rEq x y H Q = Q (.bl k) H := by
  unfold rEq; rw [h, e]; simp
theorem ne_of' {x y : V} {k : Bool} (h : scal x y = true) (e : decide (x = y) = k) : rNe x y H Q = Q (.bl (!k)) H := by
  unfold rNe; rw [h, e]; simp
theorem eq_ii : rEqU K (.int i) (.int j) H Q = Q (.bl (decide (i = j))) H := eq_of rfl (by simp)
theorem eq_ss : rEqU K (.str a) (.str b) H Q = Q (.bl (decide (a = b))) H := eq_of rfl (by simp)
theorem eq_bb : rEqU K (.bl c) (.bl d) H Q = Q (.bl (decide (c = d))) H := eq_of rfl (by simp)
theorem eq_nn : rEqU K .non .non H Q = Q (.bl true) H := eq_of rfl (by simp)
theorem eq_sn : rEqU K (.str a) .non H Q = Q (.bl false) H := eq_of rfl (by simp)
theorem eq_ns : rEqU K .non (.str a) H Q = Q (.bl false) H := eq_of rfl (by simp)
theorem eq_in : rEqU K (.int i) .non H Q = Q (.bl false) H := eq_of rfl (by simp)
theorem eq_ni : rEqU K .non (.int i) H Q = Q (.bl false) H := eq_of rfl (by simp)
theorem eq_bn : rEqU K (.bl c) .non H Q = Q (.bl false) H := eq_of rfl (by simp)
theorem eq_nb : rEqU K .non (.bl c) H Q = Q (.bl false) H := eq_of rfl (by simp)
theorem eq_is : rEqU K (.int i) (.str a) H Q = Q (.bl false) H := eq_of rfl (by simp)
theorem eq_si : rEqU K (.str a) (.int i) H Q = Q (.bl false) H := eq_of rfl (by simp)
theorem eq_rr : rEqU K (.ref p) (.ref q) H Q = rEqD K (.ref p) (.ref q) H Q := rfl
theorem ne_ii : rNeU K (.int i) (.int j) H Q = Q (.bl (!decide (i = j))) H := ne_of' rfl (by simp)
theorem ne_ss : rNeU K (.str a) (.str b) H Q = Q (.bl (!decide (a = b))) H := ne_of' rfl (by simp)
theorem ne_bb : rNeU K (.bl c) (.bl d) H Q = Q (.bl (!decide (c = d))) H := ne_of' rfl (by simp)
theorem ne_nn : rNeU K .non .non H Q = Q (.bl false) H := ne_of' (k := true) rfl (by simp)
theorem ne_sn : rNeU K (.str a) .non H Q = Q (.bl true) H := ne_of' (k := false) rfl (by simp)
theorem ne_ns : rNeU K .non (.str a) H Q = Q (.bl true) H := ne_of' (k := false) rfl (by simp)
theorem ne_in : rNeU K (.int i) .non H Q = Q (.bl true) H := ne_of' (k := false) rfl (by simp)
theorem ne_ni : rNeU K .non (.int i) H Q = Q (.bl true) H := ne_of' (k := false) rfl (by simp)
theorem ne_is : rNeU K (.int i) (.str a) H Q = Q (.bl true) H := ne_of' (k := false) rfl (by simp)
theorem ne_si : rNeU K (.str a) (.int i) H Q = Q (.bl true) H := ne_of' (k := false) rfl (by simp)
theorem ne_rr : rNeU K (.ref p) (.ref q) H Q = rNeD K (.ref p) (.ref q) H Q := rfl
theorem in_ss : rInU K (.str a) (.str b) H Q = Q (.bl (hasS a b)) H := rfl
theorem in_r : rInU K x (.ref p) H Q = ∃ xs, (SqL K H p xs ∨ SqT K H p xs) ∧ flatV x = true ∧ xs.all flatV = true ∧ Q (.bl (inV x xs)) H := by
  cases x <;> simp [rInU, rIn]
theorem nin_ss : rNinU K (.str a) (.str b) H Q = Q (.bl (!hasS a b)) H := rfl
theorem nin_r : rNinU K x (.ref p) H Q = ∃ xs, (SqL K H p xs ∨ SqT K H p xs) ∧ flatV x = true ∧ xs.all flatV = true ∧ Q (.bl (!inV x xs)) H := by
  cases x <;> simp [rNinU, rIn]
theorem len_s : rLen K [.str a] H Q = (a.length ≤ sizeLine ∧ Q (.int a.length) H) := rfl
theorem len_r : rLen K [.ref p] H Q = ((∃ xs, (SqL K H p xs ∨ SqT K H p xs) ∧ Q (.int xs.length) H) ∨ ∃ kvs, H p = some (.dK kvs) ∧ Q (.int kvs.length) H) := rfl
theorem ix_s : rIxU K (.str a) (.int i) H Q = (a.length ≤ sizeLine ∧ ∃ c, atI a.cps.toList i = some c ∧ Q (.str ⟨#[c]⟩) H) := rfl
theorem ix_r : rIxU K (.ref p) (.int i) H Q = ∃ xs, (SqL K H p xs ∨ SqT K H p xs) ∧ ∃ v, atI xs i = some v ∧ Q v H := rfl
theorem sl_s {lo hi : Option Int} : rSlU K (.str a) lo hi H Q = (a.length ≤ sizeLine ∧ Q (.str (cutS a lo hi)) H) := rfl
theorem sl_r {lo hi : Option Int} : rSlU K (.ref p) lo hi H Q = (rSlL K (.ref p) lo hi H Q ∨ rSlA K (.ref p) lo hi H Q) := rfl
theorem is_eq {T T' : String} : rIs T [x, .ty T'] H Q = (T' = T ∧ ∃ t, tyN x H = some t ∧ Q (.bl (isB t T)) H) := rfl
theorem tyN_n : tyN .non H = some "NoneType" := rfl
theorem tyN_b : tyN (.bl c) H = some "bool" := rfl
theorem tyN_i : tyN (.int i) H = some "int" := rfl
theorem tyN_s : tyN (.str a) H = some "str" := rfl
theorem tru_b {k : Bool} : TruV K (.bl c) H k = (k = c) := rfl
theorem tru_i {k : Bool} : TruV K (.int i) H k = (k = (i != 0)) := rfl
theorem tru_n {k : Bool} : TruV K .non H k = (k = false) := rfl
end
end RS
namespace RS
open PySem PySem.Spec L2
open SX (S S_len S_cat S_tl S_inj)
theorem sIx_nat (n d : Nat) {i : Int} (h : 0 ≤ i) : HT.sIx n d (some i) = min i.toNat n := by
  unfold HT.sIx
  simp only
  split <;> omega
theorem ofS_tl (a : String) : (Str.ofString a).cps.toList = a.toList.map Char.toNat := PyProof.Rows.signs_ofString a
theorem ofS_eq {a b : String} : (Str.ofString a = Str.ofString b) = (a = b) := by
  refine propext ⟨fun h => ?_, fun h => by rw [h]⟩
  have e : a.toList.map Char.toNat = b.toList.map Char.toNat := by rw [← ofS_tl, ← ofS_tl, h]
  have inj : ∀ l m : List Char, l.map Char.toNat = m.map Char.toNat → l = m := by
    intro l
    induction l with
    | nil => intro m h; cases m with | nil => rfl | cons => simp at h
    | cons c l ih =>
      intro m h
      cases m with
      | nil => simp at h
      | cons d m =>
        simp only [List.map_cons, List.cons.injEq] at h
        rw [ih m h.2, show c = d from Char.toNat_inj.mp h.1]
  exact String.toList_inj.mp (inj _ _ e)
theorem lk_nil {a : Str} : List.lookup a ([] : List (Str × V)) = none := rfl
theorem lk_cons {a k : Str} {v : V} {es : List (Str × V)} : List.lookup a ((k, v) :: es) = if a = k then some v else List.lookup a es := by
  rw [List.lookup_cons]
  by_cases h : a = k
  · subst h; simp
  · rw [if_neg h, beq_eq_false_iff_ne.mpr h]
theorem pu_nil {f : Str} {v : V} : putF f v [] = [(f, v)] := rfl
theorem pu_cons {f k : Str} {v x : V} {r : List (Str × V)} : putF f v ((k, x) :: r) = if k = f then (k, v) :: r else (k, x) :: putF f v r := rfl
theorem sq_new {K : PySem.W.Frag} {H : Hp} {p : Addr} {xs : List V} : SqT K (upd H p (.tup xs)) p xs := SqT.of upd_same
theorem ty_ins {K : PySem.W.Frag} {H : Hp} {a C dx : Addr} {fs : List (Str × V)} (c : C8.InsC K C) (e : H a = some (.ins C dx fs)) : TyX K H (.ref a) (.ref C) := .base (.ins e c.cl c.ha c.hn c.htk c.hm)
theorem isi_ins {K : PySem.W.Frag} {H : Hp} {Q : VK} {a C D dx : Addr} {fs : List (Str × V)} {b : Bool} (c : C8.InsC K C) (e : H a = some (.ins C dx fs)) (k : PySem.W.kitOne K (.ref C) (.ref D) = some b) (q : Q (.bl b) H) : rIsi K [.ref a, .ref D] H Q :=
  ⟨_, _, _, _, _, rfl, .own D, ty_ins c e, k, q⟩
theorem isi_of {K : PySem.W.Frag} {H : Hp} {Q : VK} {x : V} {D : Addr} {t : String} {b : Bool} (e : tyN x H = some t) (k : PySem.W.kitOne K (.type t) (.ref D) = some b) (q : Q (.bl b) H) : rIsi K [x, .ref D] H Q :=
  ⟨_, _, _, _, _, rfl, .own D, (tyN_tyX e).1, k, q⟩
/-- repr of what is small -/
theorem repr_by {K : PySem.W.Frag} {H : Hp} {Q : VK} {a : Addr} (d : PyData) (h : Dp K H (.ref a) d) (h1 : d.showable = true) (h2 : d.depth ≤ 60) (h3 : d.leavesShort 13 = true) (h4 : d.weight ≤ 2 ^ 20) (q : Q (.str d.shown) H) : rRepr K [.ref a] H Q :=
  ⟨a, d, rfl, h, h1, h2, PyData.shown_fits (by decide) (by decide) h3 h4, q⟩
end RS
namespace RS
open PySem PySem.Spec L2
/-- the class at C has the property n, which hands the field f -/
def Pr (g : Wd) (C : Addr) (n f : Str) : Prop := ∃ p gt fd, PropOf g.K C n p gt ∧ FnOk g.P g.w g.K g.mg g.base C8.CX0 1 gt fd ["self"] (getSp C f) ∧ Binds g.K fd ["self"] []
def tPr (C : Addr) (f : Str) (ta : TE) : TE := fun σ H Q => ta σ H fun x H1 => ∃ a dx fs v, x = .ref a ∧ H1 a = some (.ins C dx fs) ∧ fs.lookup f = some v ∧ Q v H1
end RS
namespace RS
open PySem PySem.Spec L2
theorem dget_of {H : Hp} {a : Addr} {kvs : List (Key × V)} {k : Key} {o : Option V} (e : H a = some (.dK kvs)) : DGet H a (kV k) o = (valV kvs k = o) := by
  refine propext ⟨?_, fun h => .inl ⟨kvs, k, .inl e, rfl, h.symm⟩⟩
  rintro (⟨kvs', k', h, ek, rfl⟩ | ⟨kvs', k', b, h, ek, _⟩)
  · have : k' = k := by cases k <;> cases k' <;> simp_all [kV]
    subst this
    rcases h with h | ⟨o, h⟩
    · rw [e] at h; cases h; rfl
    · rw [e] at h; cases h
  · cases k <;> cases ek
theorem dget_s {H : Hp} {a : Addr} {kvs : List (Key × V)} {k : Str} {o : Option V} (e : H a = some (.dK kvs)) : DGet H a (.str k) o = (valV kvs (.inr k) = o) := dget_of (k := .inr k) e
theorem dget_us {H : Hp} {a : Addr} {kvs : List (Key × V)} {k : Str} {o : Option V} : DGet (upd H a (.dK kvs)) a (.str k) o = (valV kvs (.inr k) = o) := dget_s upd_same
theorem dput_of {H : Hp} {a : Addr} {kvs : List (Key × V)} {k : Key} {v : V} {P : Hp → Prop} (e : H a = some (.dK kvs)) : (∃ H4, DPut H a (kV k) v H4 ∧ P H4) = (kvs.length < sizeLine ∧ P (upd H a (.dK (putK kvs k v)))) := by
  refine propext ⟨?_, fun h => ⟨_, .k e h.1, h.2⟩⟩
  rintro ⟨H4, (⟨kvs', k', h, ek, hl, rfl⟩ | ⟨kvs', k', b, h, ek, _⟩), q⟩
  · have : k' = k := by cases k <;> cases k' <;> simp_all [kV]
    subst this
    rw [e] at h; cases h
    exact ⟨hl, q⟩
  · cases k <;> cases ek
theorem dput_s {H : Hp} {a : Addr} {kvs : List (Key × V)} {k : Str} {v : V} {P : Hp → Prop} (e : H a = some (.dK kvs)) : (∃ H4, DPut H a (.str k) v H4 ∧ P H4) = (kvs.length < sizeLine ∧ P (upd H a (.dK (putK kvs (.inr k) v)))) := dput_of (k := .inr k) e
theorem dput_us {H : Hp} {a : Addr} {kvs : List (Key × V)} {k : Str} {v : V} {P : Hp → Prop} : (∃ H4, DPut (upd H a (.dK kvs)) a (.str k) v H4 ∧ P H4) = (kvs.length < sizeLine ∧ P (upd (upd H a (.dK kvs)) a (.dK (putK kvs (.inr k) v)))) := dput_s upd_same
theorem vv_nil {k : Key} : valV ([] : List (Key × V)) k = none := rfl
theorem vv_cons {p k : Key} {v : V} {r : List (Key × V)} : valV ((p, v) :: r) k = if p = k then some v else valV r k := by
  by_cases h : p = k
  · rw [valV_pos (p := (p, v)) h, if_pos h]
  · rw [valV_neg (p := (p, v)) h, if_neg h]
theorem pk_nil {k : Key} {v : V} : putK ([] : List (Key × V)) k v = [(k, v)] := rfl
theorem pk_cons {p k : Key} {v x : V} {r : List (Key × V)} (hr : valV r p = none := by first | rfl | decide) : putK ((p, x) :: r) k v = if p = k then (p, v) :: r else (p, x) :: putK r k v := by
  unfold putK
  by_cases h : p = k
  · subst h
    rw [if_pos rfl, if_pos (by simp)]
    simp only [List.map_cons, if_true]
    congr 1
    have : ∀ q ∈ r, q.1 ≠ p := fun q hq e => by
      have := valV_any p r
      rw [hr] at this
      have t : (r.any fun kv => decide (kv.1 = p)) = true := List.any_eq_true.mpr ⟨q, hq, by simp [e]⟩
      rw [this] at t; cases t
    have e : r.map (fun kv => if kv.1 = p then (kv.1, v) else kv) = r.map id := List.map_congr_left fun q hq => by simp [this q hq]
    rw [e, List.map_id]
  · rw [if_neg h]
    by_cases c : (r.any fun kv => decide (kv.1 = k)) = true
    · rw [if_pos (by simp [c]), if_pos c]
      simp [h]
    · rw [if_neg (by simp [c, h]), if_neg c]; rfl
theorem pk_one {p k : Key} {v x : V} : putK [(p, x)] k v = if p = k then [(p, v)] else [(p, x), (k, v)] := pk_cons (hr := rfl)
theorem inr_eq {a b : Str} : ((.inr a : Key) = .inr b) = (a = b) := by simp
end RS
namespace RS
open PySem PySem.Spec L2
def Leaf (d : PyData) : Prop := match d with
  | .none => True
  | .bool _ => True
  | .int i => i.natAbs < 10 ^ 12
  | .str x => (∀ c ∈ x.cps.toList, c < 16 ^ 8) ∧ x.length ≤ 10000
  | _ => False
theorem log2_small {n : Nat} (h : n < 10 ^ 12) : n.log2 ≤ 40 := by
  rcases Nat.eq_zero_or_pos n with rfl | h0
  · simp
  · have : n.log2 < 41 := (Nat.log2_lt (by omega)).mpr (show n < 2 ^ 41 by omega)
    omega
theorem Leaf.all {d : PyData} (h : Leaf d) : d.showable = true ∧ d.leavesShort 13 = true ∧ d.weight ≤ 10000 ∧ d.depth ≤ 1 := by
  cases d with
  | none => exact ⟨rfl, rfl, by decide, by decide⟩
  | bool b => exact ⟨rfl, rfl, by simp [PyData.weight], by simp [PyData.depth]⟩
  | int i =>
    have h : i.natAbs < 10 ^ 12 := h
    have l := log2_small h
    refine ⟨?_, ?_, ?_, by simp [PyData.depth]⟩
    · simp only [PyData.showable, decide_eq_true_eq]; omega
    · simp only [PyData.leavesShort, decide_eq_true_eq]; exact PyData.shown_int_le h
    · simp only [PyData.weight]; split <;> omega
  | str x =>
    refine ⟨rfl, ?_, ?_, by simp [PyData.depth]⟩
    · simp only [PyData.leavesShort, List.all_eq_true, decide_eq_true_eq]; exact h.1
    · simp only [PyData.weight]; exact h.2
  | list _ => exact h.elim
  | tuple _ => exact h.elim
  | dict _ => exact h.elim
theorem leafs_all : ∀ {ds : List PyData}, (∀ d ∈ ds, Leaf d) → PyData.showableAll ds = true ∧ PyData.leavesShortAll 13 ds = true ∧ PyData.weightAll ds ≤ 10001 * ds.length ∧ PyData.depthAll ds ≤ 1
  | [], _ => ⟨rfl, rfl, by simp [PyData.weightAll], by simp [PyData.depthAll]⟩
  | d :: ds, h => by
    have a := (h d List.mem_cons_self).all
    have b := leafs_all (ds := ds) fun x hx => h x (List.mem_cons_of_mem _ hx)
    refine ⟨?_, ?_, ?_, ?_⟩
    · simp [PyData.showableAll, a.1, b.1]
    · simp [PyData.leavesShortAll, a.2.1, b.2.1]
    · simp only [PyData.weightAll, List.length_cons]; omega
    · simp only [PyData.depthAll]; omega
theorem repr_list {K : PySem.W.Frag} {H : Hp} {Q : VK} {a : Addr} {xs : List V} {ds : List PyData} (h : SqL K H a xs) (hd : DpAll K H xs ds) (hl : ∀ d ∈ ds, Leaf d) (n : ds.length ≤ 100) (q : Q (.str (PyData.list ds).shown) H) : rRepr K [.ref a] H Q := by
  obtain ⟨a1, a2, a3, a4⟩ := leafs_all hl
  refine repr_by (.list ds) (.lst h hd) ?_ ?_ ?_ ?_ q
  · simpa only [PyData.showable] using a1
  · simp only [PyData.depth]; omega
  · simpa only [PyData.leavesShort] using a2
  · simp only [PyData.weight]; omega
end RS
namespace RS
open PySem PySem.Spec L2
theorem sq_same {K : PySem.W.Frag} {H H' : Hp} {a : Addr} {xs : List V} (h : SqL K H a xs) (s : Same H H') : SqL K H' a xs := by
  rcases h with (h | ⟨o, h⟩) | h
  · exact .inl (.inl (s _ _ h))
  · exact .inl (.inr ⟨o, s _ _ h⟩)
  · exact .inr h
theorem dp_ints {K : PySem.W.Frag} {H : Hp} : ∀ ns : List Int, DpAll K H (ns.map V.int) (ns.map PyData.int)
  | [] => .nil
  | n :: ns => .cons (.int n) (dp_ints ns)
theorem lay_ints : ∀ ns : List Int, PyData.canLayAll0 (ns.map PyData.int) = true ∧ PyData.depthAll (ns.map PyData.int) = 0
  | [] => ⟨rfl, rfl⟩
  | n :: ns => by
    have h := lay_ints ns
    simp [PyData.canLayAll0, PyData.canLay0, PyData.depthAll, PyData.depth, h]
theorem shaped_ints (ns : List Int) : SeqAt.shaped (.list (ns.map PyData.int)) = true := by
  have h := lay_ints ns
  simp [SeqAt.shaped, PyData.canLay0, PyData.depth, h]
theorem eqv_nil (ns : List Int) : PyData.eqv (.list (ns.map PyData.int)) (.list []) = ns.isEmpty := by
  cases ns <;> rfl
theorem ty_list {K : PySem.W.Frag} {p : Addr} {H : Hp} : tyV K "list" (.ref p) H = ∃ xs, SqL K H p xs := by simp [tyV]
theorem ty_str {K : PySem.W.Frag} {x : Str} {H : Hp} : tyV K "str" (.str x) H = True := by simp [tyV]
theorem cutV_to (a : List V) {i : Int} (h : 0 ≤ i) : cutV a none (some i) = a.take i.toNat := by
  unfold cutV
  rw [sIx_nat _ _ h]
  simp [HT.sIx]
theorem cutV_from (a : List V) {i : Int} (h : 0 ≤ i) : cutV a (some i) none = a.drop i.toNat := by
  unfold cutV
  rw [sIx_nat _ _ h]
  simp only [HT.sIx]
  by_cases c : i.toNat ≤ a.length
  · rw [Nat.min_eq_left c, List.take_of_length_le (by simp)]
  · rw [Nat.min_eq_right (by omega), List.drop_of_length_le (Nat.le_refl _), List.drop_of_length_le (by omega)]; simp
/-- a statement, then the rest, with a word between them that the simp set leaves alone -/
def tMid (t u : TS) : TS := fun D σ H => ∃ Mid : L2.St → Hp → Prop, t { D with nx := Mid } σ H ∧ ∀ σ' H', Mid σ' H' → u D σ' H'
theorem pss_mid {X : Cx} {st : Stmt} {rest : List Stmt} {t u : TS} (h1 : PS X st t) (h2 : PSs X rest u) : PSs X (st :: rest) (tMid t u) := C8.pss_cut h1 h2
theorem mid_at {t u : TS} {D : Ends} {σ : L2.St} {H : Hp} (Mid : L2.St → Hp → Prop) (h1 : t { D with nx := Mid } σ H) (h2 : ∀ σ' H', Mid σ' H' → u D σ' H') : tMid t u D σ H := ⟨Mid, h1, h2⟩
/-- .. where one state alone is left -/
theorem mid_one {t u : TS} {D : Ends} {σ : L2.St} {H : Hp} (σ1 : L2.St) (R : Hp → Prop) (h1 : t { D with nx := fun σ' H' => σ' = σ1 ∧ R H' } σ H) (h2 : ∀ H', R H' → u D σ1 H') : tMid t u D σ H :=
  ⟨_, h1, fun _ _ ⟨e, r⟩ => by subst e; exact h2 _ r⟩
end RS
namespace RS
open PySem PySem.Spec PySem.W PySem.Calls PyProof.Rows
/-- what the text says of an own exception class C: its __init__ at fI is one that says super().__init__(..) -/
structure XC (P : Program) (K : Frag) (C fI cda cc : Addr) (qual : Str) (st : Stmt) (B newId initId : String) (bmB : List Value) : Prop where
  FB : ExcBaseFacts B newId initId bmB
  KF : KxsFacts B initId
  SF : StoreFacts B bmB "object.__setattr__" "object"
  q : excInitIn K C bmB newId = true
  ov : excOver K C bmB = true
  sup : ks_superIn K C C "__init__" = some (some (.builtin initId))
  sub : subIn K (.ref C) (.type B) = some true
  ini : findIn K (.ref C) "__init__" = some (some (.ref fI))
  fn : typeIn K (.ref fI) = some (.type "function")
  lk : ∃ oc od kV doc pm an ct osl, K.lookup fI = some ⟨oc, od, .func (ksFn "__init__" qual (L2.defArgs st) (L2.defBody st) (L2.defScope st) .none kV doc pm an (.ref cda) ct cc), osl⟩
  cd : codeIn K (.ref cda) qual = true
  co : ∃ ccl cdd vs ccs file tf, K.lookup cda = some ⟨ccl, cdd, .fields vs, ccs⟩ ∧ vs[2]? = some (.str file tf) ∧ ((P.main.file : Str) == file) = true
  ce : ∃ cl cld csl, K.lookup cc = some ⟨cl, cld, .cell (some (.ref C)), csl⟩
  me : mroIn K C (.ref C) = some true
  op : nsIn K cStatics "thirdparty.any" = some none
  nt : (P.main.scope.names.lookup ("super" : Str)).isSome = false
section
variable {prog : Program} {w : World} {A : Around} {E : Value → Shared → Prop} {h : Heap} {g : Array GenState} {d : Drawn} {t : Nat} {os : OsState} {K : Frag} {C fI cda cc e u t0 : Addr} {B newId initId : String} {bmB : List Value} {qual : Str} {st : Stmt}
/-- the bound __init__, called: the args are laid anew -/
theorem call_mw {rest : List Value} {Q : Value → Shared → Prop} (KX : K.In h) (FB : ExcBaseFacts B newId initId bmB) (q : excInitIn K C bmB newId = true) (hu : h.get? u = some (kxs_mw initId e)) (he : h.get? e = some (HandSPX.excO C t0)) (hz : rest.length ≤ sizeLine)
    (hq : ∀ h' t1, (∀ b o, b ≠ e → h.get? b = some o → h'.get? b = some o) → h'.get? e = some (HandSPX.excO C t1) → Q .none ⟨h', g, d, t, os⟩) :
    wpAny (model prog w) A (call (.ref u) rest) Q E ⟨h, g, d, t, os⟩ := by
  obtain ⟨nm, N', qn, bs, bm, hdct, sn, sub, ab, col, dd, k0, k1, k2, k3, k5, hC, hT⟩ := excInit_of KX q
  refine wpAny_call (codeAny_of_tree ?_)
  show wpAny _ A.in1 (callAny (.ref u) ⟨rest, []⟩) _ _ _
  simp only [callAny]
  refine wpAny_bind (wpAny_load hu ?_)
  have m1 : (Value.type "method-wrapper" == Value.type "method" || Value.type "method-wrapper" == Value.type "builtin_function_or_method" || Value.type "method-wrapper" == Value.type "method-wrapper") = true := by decide
  simp only [kxs_mw, m1, if_true]
  refine KFB.if_so (by decide) ?_
  refine wpAny_bind (check_bound_init FB.toExcCallFacts hC he rfl ?_)
  refine wpAny_bind (wpAny_pure (wpAny_pure ?_))
  refine ⟨plainId_quiet FB.init.plain _, codeAny_builtin FB.initEntry ?_⟩
  exact exc_init_tree (cls := .ref C) (t0 := t0) (dv := none) (c2 := .none) (c3 := .none) (b4 := .bool false) he hz fun h' k e' t' => hq h' _ k e'
end
end RS
namespace RS
open PySem PySem.Spec PySem.W PySem.Calls PyProof.Rows
section
variable {prog : Program} {w : World} {A : Around} {E : Value → Shared → Prop} {h : Heap} {g : Array GenState} {d : Drawn} {t : Nat} {os : OsState} {K : Frag} {C fI cda cc e t0 L : Addr} {B newId initId : String} {bmB : List Value} {qual : Str} {st : Stmt} {mg mb m : Str → Option Value}
/-- super().__init__('..') in the own __init__ -/
theorem sup_init {body : List Stmt} {ar : Arg} {msg : Str} {j : _} {pc p0 p1 p2 p3 p4 : Pos} {Q : Flow → Shared → Prop} (X : XC prog K C fI cda cc qual st B newId initId bmB) (KX : K.In h) (hns : h.Ns L m) (hp : ((L2.defArgs st).posonlyargs ++ (L2.defArgs st).args).head? = some ar) (hv : m ar.arg = some (.ref e))
    (he : h.get? e = some (HandSPX.excO C t0)) (hg : h.Ns mainGlobals mg) (hm : mg "super" = none) (hb : h.Ns builtinsNs mb) (bb : ∀ x : Str, x ≠ "__name__" → mb x = bootBuiltins x)
    (hks : (L2.defScope st).names.lookup ("super" : Str) = some .globalImplicit) (hkc : (L2.defScope st).names.lookup ("__class__" : Str) = some .free) (hka : (L2.defScope st).names.lookup ar.arg = some .local) (hk : (L2.defScope st).kind = .function)
    {pl : Sem Bool} (hi : interactive (ksEnv qual (L2.defScope st) L fI (.ref cda) cc) = false) (hsw : swapsWith (.Call (.Attribute (.Call (.Name "super" p0) [] [] p1) "__init__" p2) [.Constant (.str msg) j pc] [] p3) none p4.line (ksEnv qual (L2.defScope st) L fI (.ref cda) cc) = pure false)
    (hst : starEach [.Constant (.str msg) j pc] (ksEnv qual (L2.defScope st) L fI (.ref cda) cc) = [(false, eval (.Constant (.str msg) j pc) (ksEnv qual (L2.defScope st) L fI (.ref cda) cc))])
    (hev : eval (.Call (.Attribute (.Call (.Name "super" p0) [] [] p1) "__init__" p2) [.Constant (.str msg) j pc] [] p3) (ksEnv qual (L2.defScope st) L fI (.ref cda) cc) = (do
      let ov ← attributeBase (.Call (.Name "super" p0) [] [] p1) "__init__" (ksEnv qual (L2.defScope st) L fI (.ref cda) cc) (eval (.Call (.Name "super" p0) [] [] p1) (ksEnv qual (L2.defScope st) L fI (.ref cda) cc))
      standAt p2.atName
      let (f, first) ← holding [ov] (getMethod ov "__init__" pl)
      callWith p3 f first (backTo p3 (starEach [.Constant (.str msg) j pc] (ksEnv qual (L2.defScope st) L fI (.ref cda) cc))) []))
    (hq : ∀ h' t1 tk, (∀ b o, b ≠ e → h.get? b = some o → h'.get? b = some o) → h'.get? e = some (HandSPX.excO C t1) → Q .next ⟨h', g, d, tk, os⟩) :
    _root_.PySem.wpAt (model prog w) A (.func body (ksEnv qual (L2.defScope st) L fI (.ref cda) cc)) (exec (.Expr (.Call (.Attribute (.Call (.Name "super" p0) [] [] p1) "__init__" p2) [.Constant (.str msg) j pc] [] p3) p4) (ksEnv qual (L2.defScope st) L fI (.ref cda) cc)) Q E ⟨h, g, d, t, os⟩ := by
  obtain ⟨oc, od, kV, doc, pm, an, ct, osl, lk⟩ := X.lk
  obtain ⟨ccl, cdd, vs, ccs, file, tf, lc, hvs, hfile⟩ := X.co
  obtain ⟨cl, cld, csl, lce⟩ := X.ce
  obtain ⟨nm, N', qn, bs, bm, hdct, sn, sub, ab, col, dd, k0, k1, k2, k3, k5, hC, hT⟩ := excInit_of KX X.q
  refine ks_wpAt_Expr_any (ks_wpAt_MethodCall (pl := pl) ?_ hev) hi hsw
  refine ks_wpAt_super_base (env := ksEnv qual (L2.defScope st) L fI (.ref cda) cc) hks hkc (by decide) rfl (KX _ _ lk) rfl hp rfl (KX _ _ lc) rfl hvs hfile X.nt ?_
  refine ks_loadName_global hk hks (loadGlobal_builtin (env := ksEnv qual (L2.defScope st) L fI (.ref cda) cc) hg hm hb ((bb _ (by decide +kernel)).trans (by decide +kernel)) ⟨rfl, ?_⟩)
  refine wpAny_loadName_free hk hkc rfl ⟨_, KX _ _ lce, rfl⟩ ?_
  refine wpAny_loadName_local hk hka hns hv ?_
  refine ks_wpAny_isType_cls hC rfl ⟨rfl, ?_⟩
  refine ks_wpAny_call_super hC rfl he rfl (fun c z => nomatch z) (looks_mroIn KX X.me) (fun h1 hso k1 => ?_)
  have KX1 : K.In h1 := fun b o z => k1 b o (KX b o z)
  have he1 := k1 _ _ he
  have I1 : InstAt h1 e (HandSPX.excO C t0) C none := ⟨he1, rfl, rfl, trivial⟩
  have hI : Looks (model prog w) h1 (isInstance (.ref e) (.type B)) true := I1.type.andThen (looks_subIn KX1 X.sub)
  have sup := X.sup
  cases hc : clsIn K C with
  | none => unfold ks_superIn at sup; rw [hc] at sup; cases sup
  | some cd =>
    unfold ks_superIn at sup
    rw [hc] at sup
    refine kxs_getMethod X.KF hso (looks_opaque KX1 X.op) (l₀ := cd.mro) (fun A Q E s k q => wpAny_bind ((looks_clsIn KX1 hc) A _ E s k (wpAny_pure q))) rfl KX1 sup hI (ks_ne KX1 I1 hc) (by decide) ?_
    have k2 : ∀ b o, h1.get? b = some o → (h1.push (kxs_mw initId e)).get? b = some o := fun b o z => Heap.get?_push_of_some _ z
    have hu : (h1.push (kxs_mw initId e)).get? h1.objs.size = some (kxs_mw initId e) := Heap.get?_push_at rfl rfl
    rw [hst]
    refine kxs_callWith (i := initId) (x := e) rfl ?_
    show wpAny (model prog w) A (evalArgs (.ref h1.objs.size) true ((false, eval (.Constant (.str msg) j pc) _) :: backTo p3 []) []) _ E _
    refine evalArgs_plain (spliced_cons (Calls.Constant_str ?_))
    refine spliced_nil ⟨hu, ?_⟩
    refine call_mw (t0 := t0) (fun b o z => k2 b o (KX1 b o z)) X.FB X.q hu (k2 _ _ he1) (by rw [sizeLine_eq]; simp) fun h' t1 k3 e3 => ?_
    exact hq h' t1 _ (fun b o hb z => k3 b o hb (k2 b o (k1 b o z))) e3
end
end RS
namespace RS
open PySem PySem.Spec PySem.W PySem.Calls PyProof.Rows Builtin Builtin.ObjectAttr
section
variable {prog : Program} {w : World} {A : Around} {E : Value → Shared → Prop} {R : Result → Shared → Prop} {hp : Heap} {g : Array GenState} {d : Drawn} {t : Nat} {os : OsState} {K : Frag} {C x : Addr} {B : String} {bmB : List Value}
/-- self.name = v on an exception that has no dict yet, over any built-in base -/
theorem osa_newX {name : Str} {tk : Tok} {v : Value} {fv : Array Value} {cd : ClassData} (SF : StoreFacts B bmB "object.__setattr__" "object") (KX : K.In hp) (hx : hp.get? x = some { cls := .ref C, data := .fields fv }) (hcd : clsIn K C = some cd) (hh : cd.hasDict = true) (ov : excOver K C bmB = true)
    (ha : findIn K (.ref C) name = some none)
    (hq : ∀ h' tk' dx, (∀ b o, b ≠ x → hp.get? b = some o → h'.get? b = some o) → hp.objs.size ≤ dx → dx ≠ x → h'.get? x = some { cls := .ref C, dict := some dx, data := .fields fv } →
      h'.Ns1 dx (fun y => if y = name then some v else none) → R (.ok (.ret .none)) ⟨h', g, d, tk', os⟩) :
    codeAny (model prog w) A (.call (.builtin "object.__setattr__") ⟨[.ref x, .str name tk, v], []⟩) R ⟨hp, g, d, t, os⟩ := by
  have I : InstAt hp x { cls := .ref C, data := .fields fv } C none := ⟨hx, rfl, rfl, trivial⟩
  have hxs : x ≠ hp.objs.size := Nat.ne_of_lt (Heap.lt_size hx)
  have ht : takerIn K C name = some none := L2.NoAttr.taker ha
  have hcls : Looks (model prog w) hp (classData C) cd := looks_clsIn KX hcd
  refine osa_openX (s := ⟨hp, g, d, t, os⟩) SF KX I ov ht fun b => ?_
  show wpAny _ _ (storeInOwnDict (.ref x) (.ref C) (.str name tk) name v b) _ _ _
  cases cd with | mk nm bs mro ns qn hd sn sb ab col del =>
  simp only at hh
  subst hh
  unfold storeInOwnDict
  unfold ownDictForStores
  repeat (first | with_reducible refine HandSPX.store_in_new ?_ ?_ | with_reducible refine wpAny_loadPart_at hx ?_ | with_reducible refine hcls.at ?_ | wp_step)
  · refine ⟨_, #[], _, (Heap.get?_update_ne _ _ _ _ hxs.symm).trans (Heap.get?_push_at rfl rfl), rfl, ?_, fun _ => rfl⟩
    exact fun z hz => absurd hz (by simp)
  · intro h2 tk2 hn2 same
    have up2 : ∀ b o, hp.get? b = some o → (hp.push { cls := .type "dict", data := .dict #[] }).get? b = some o := fun b o z => Heap.get?_push_of_some _ z
    refine hq h2 tk2 hp.objs.size (fun b o hb z => ?_) (Nat.le_refl _) hxs.symm ((same.2 x hxs).trans (Heap.get?_update_self _ (up2 _ _ hx) rfl)) hn2
    exact (same.2 b (Nat.ne_of_lt (Heap.lt_size z))).trans ((Heap.get?_update_ne _ _ _ _ hb).trans (up2 _ _ z))
end
end RS
namespace RS
open PySem PySem.Spec PySem.W PySem.Calls PyProof.Rows
/-- the form of such an __init__: super().__init__(msg), then self.f = x -/
structure XSt1 (qual : Str) (st : Stmt) (x f : Str) : Prop where
  bd : ∃ p0 p1 p2 p3 p4 p5 p6 p7 p8 pc msg, ∃ j : Nat, L2.defBody st = [.Expr (.Call (.Attribute (.Call (.Name "super" p0) [] [] p1) "__init__" p2) [.Constant (.str msg) j pc] [] p3) p4, .Assign [.Attribute (.Name "self" p5) f p6] (.Name x p7) p8] ∧
    ∀ (L fI cda cc : Addr), interactive (ksEnv qual (L2.defScope st) L fI (.ref cda) cc) = false ∧
      swapsWith (.Call (.Attribute (.Call (.Name "super" p0) [] [] p1) "__init__" p2) [.Constant (.str msg) j pc] [] p3) none p4.line (ksEnv qual (L2.defScope st) L fI (.ref cda) cc) = pure false ∧
      starEach [.Constant (.str msg) j pc] (ksEnv qual (L2.defScope st) L fI (.ref cda) cc) = [(false, eval (.Constant (.str msg) j pc) (ksEnv qual (L2.defScope st) L fI (.ref cda) cc))] ∧
      (∃ pl, eval (.Call (.Attribute (.Call (.Name "super" p0) [] [] p1) "__init__" p2) [.Constant (.str msg) j pc] [] p3) (ksEnv qual (L2.defScope st) L fI (.ref cda) cc) = (do
        let ov ← attributeBase (.Call (.Name "super" p0) [] [] p1) "__init__" (ksEnv qual (L2.defScope st) L fI (.ref cda) cc) (eval (.Call (.Name "super" p0) [] [] p1) (ksEnv qual (L2.defScope st) L fI (.ref cda) cc))
        standAt p2.atName
        let (f, first) ← holding [ov] (getMethod ov "__init__" pl)
        callWith p3 f first (backTo p3 (starEach [.Constant (.str msg) j pc] (ksEnv qual (L2.defScope st) L fI (.ref cda) cc))) [])) ∧
      swapsWith (.Name x p7) (some (.Attribute (.Name "self" p5) f p6)) p8.line (ksEnv qual (L2.defScope st) L fI (.ref cda) cc) = pure false
  ar : ∃ ar, ((L2.defArgs st).posonlyargs ++ (L2.defArgs st).args).head? = some ar ∧ ar.arg = "self"
  ks : (L2.defScope st).names.lookup ("super" : Str) = some .globalImplicit
  kc : (L2.defScope st).names.lookup ("__class__" : Str) = some .free
  ka : (L2.defScope st).names.lookup ("self" : Str) = some .local
  kx : (L2.defScope st).names.lookup x = some .local
  kd : (L2.defScope st).kind = .function
  co : (L2.defScope st).isCoroutine = false
  ge : (L2.defScope st).isGenerator = false
  ce : ∀ y ∈ (L2.defScope st).names, y.2 ≠ .cell
  bi : ∀ (oc : Value) (kV doc pm : Value) (an : Option Addr) (cdv ct : Value) (cc : Addr) (u v : Value), bindArgs (ksFn "__init__" qual (L2.defArgs st) (L2.defBody st) (L2.defScope st) .none kV doc pm an cdv ct cc) ⟨[u, v], []⟩ = pure ([("self", u), (x, v)] : List (Str × Value))
  ne : ¬ ("self" : Str) = x
  dbg : (x == ("__debug__" : Str)) = false
section
variable {prog : Program} {w : World} {A : Around} {R : Result → Shared → Prop} {h : Heap} {g : Array GenState} {d : Drawn} {t : Nat} {os : OsState} {K : Frag} {C fI cda cc e t0 : Addr} {B newId initId : String} {bmB : List Value} {qual x f : Str} {st : Stmt} {mg mb : Str → Option Value}
theorem xinit1 {v : Value} (X : XC prog K C fI cda cc qual st B newId initId bmB) (Y : XSt1 qual st x f) (hd : hasDictIn K C = true) (sa : findIn K (.ref C) "__setattr__" = some (some (.builtin "object.__setattr__"))) (nf : findIn K (.ref C) f = some none)
    (KX : K.In h) (ke : K.lookup e = none) (hroom : A.depth < recursionLimit) (hlim : h.NoLimit) (he : h.get? e = some (HandSPX.excO C t0)) (hg : h.Ns mainGlobals mg) (hm : mg "super" = none) (hb : h.Ns builtinsNs mb) (bb : ∀ x : Str, x ≠ "__name__" → mb x = bootBuiltins x)
    (hq : ∀ h' t1 dx tk, (∀ b o, b ≠ e → h.get? b = some o → h'.get? b = some o) → h.objs.size ≤ dx → dx ≠ e → h'.get? e = some { cls := .ref C, dict := some dx, data := .fields #[.ref t1, .none, .none, .none, .bool false, .none] } →
      h'.Ns1 dx (fun y => if y = f then some v else none) → R (.ok (.ret .none)) ⟨h', g, d, tk, os⟩) :
    codeAny (model prog w) A (.call (.ref fI) ⟨[.ref e, v], []⟩) R ⟨h, g, d, t, os⟩ := by
  obtain ⟨oc, od, kV, doc, pm, an, ct, osl, lk⟩ := X.lk
  obtain ⟨p0, p1, p2, p3, p4, p5, p6, p7, p8, pc, msg, j, hbd, hform⟩ := Y.bd
  obtain ⟨ar, har, harg⟩ := Y.ar
  obtain ⟨cd, hc, hh⟩ := any_some hd
  refine ks_codeAny_call_defAt (s := ⟨h, g, d, t, os⟩) (body := L2.defBody st) (binds := ([("self", .ref e), (x, v)] : List (Str × Value))) hroom (KX _ _ lk) rfl hlim (codeRec_of KX X.cd) rfl (.of_eq (Y.bi oc kV doc pm an _ ct cc _ _)) Y.ce (fun y hy => ?_) (fun h1 hns k1 => ?_) Y.co Y.ge Y.kd
  · simp only [List.mem_cons, List.not_mem_nil, or_false] at hy
    rcases hy with rfl | rfl
    · exact Y.ka
    · exact Y.kx
  obtain ⟨hi, hsw, hst, ⟨pl, hev⟩, hsw2⟩ := hform h.objs.size fI cda cc
  have KX1 : K.In h1 := fun b o z => k1 b o (KX b o z)
  have lt_e : e < h.objs.size := Heap.lt_size he
  rw [hbd]
  refine ks_wpAt_execs_cons ?_
  have hv1 : (fun y => ([("self", Value.ref e), (x, v)] : List (Str × Value)).reverse.lookup y) ar.arg = some (.ref e) := by
    rw [harg]
    show List.lookup ("self" : Str) ([(x, v), ("self", Value.ref e)] : List (Str × Value)) = _
    rw [List.lookup_cons, beq_eq_false_iff_ne.mpr Y.ne]
    rfl
  have hv2 : (fun y => ([("self", Value.ref e), (x, v)] : List (Str × Value)).reverse.lookup y) x = some v := by
    show List.lookup x ([(x, v), ("self", Value.ref e)] : List (Str × Value)) = _
    rw [List.lookup_cons, beq_self_eq_true]
  refine sup_init X KX1 hns har hv1 (k1 _ _ he) (hg.keeps k1) hm (hb.keeps k1) bb Y.ks Y.kc (by rw [harg]; exact Y.ka) Y.kd (pl := pl) hi hsw hst hev fun h2 t1 tk k2 e2 => ?_
  have hns2 : h2.Ns h.objs.size (fun y => ([("self", Value.ref e), (x, v)] : List (Str × Value)).reverse.lookup y) := by
    obtain ⟨oL, es, ep, hL, r⟩ := hns
    exact ⟨oL, es, ep, k2 _ _ (Nat.ne_of_gt lt_e) hL, r⟩
  refine ks_wpAt_execs_cons (ks_wpAt_Assign_Attr ?_ hsw2)
  have KX2 : K.In h2 := fun b o z => k2 b o (fun y => by rw [y, ke] at z; cases z) (KX1 b o z)
  refine wpAt_of_wpAny (wpAny_Name (wpAny_loadName_local Y.kd Y.kx hns2 hv2 ?_) Y.dbg)
  refine wpAny_Name (wpAny_loadName_local Y.kd Y.ka hns2 (by rw [harg] at hv1; exact hv1) ?_)
  refine set_plain (s := ⟨h2, g, d, tk, os⟩) (ox := HandSPX.excO C t1) (od := none) KX2 ⟨e2, rfl, rfl, trivial⟩ sa ?_
  refine osa_newX X.SF KX2 e2 hc hh X.ov nf fun h3 tk3 dx k3 ldx nex e3 n3 => ?_
  have sz : h.objs.size < h2.objs.size := by
    obtain ⟨oL, es, ep, hL, r⟩ := hns2
    exact Heap.lt_size hL
  refine wpAt_of_wpAny (wpAny_execs_nil ?_)
  exact hq h3 t1 dx _ (fun b o hb z => k3 b o hb (k2 b o hb (k1 b o z))) (Nat.le_trans (Nat.le_of_lt sz) ldx) nex e3 n3
end
end RS
namespace RS
open PySem PySem.Spec PySem.W PySem.Calls PyProof.Rows
end RS
namespace RS
open PySem PySem.Spec L2
/-- at e: an exception of the class at C, its dict at d -/
def exv (e C : Addr) (d : Option Addr) : HO := .ext fun h => ∃ oe vs, h.get? e = some oe ∧ oe.cls = .ref C ∧ oe.dict = d ∧ oe.data = .fields vs
theorem exv_ok {P : Program} {w : World} {H : Hp} {h : Heap} {e C : Addr} {d : Option Addr} {oe : Obj} {vs : Array Value} (he : h.get? e = some oe) (h1 : oe.cls = .ref C) (h2 : oe.dict = d) (h3 : oe.data = .fields vs) : ObjOk P w H h e (exv e C d) :=
  ⟨⟨oe, vs, he, h1, h2, h3⟩, ⟨_, he⟩, fun g1 g2 z k => by
    obtain ⟨o2, v2, q, r⟩ := z
    exact ⟨o2, v2, k _ q, r⟩⟩
theorem exv_at {P : Program} {w : World} {H : Hp} {h : Heap} {e C : Addr} {d : Option Addr} (hok : HOk P w H h) (he : H e = some (exv e C d)) : ∃ oe vs, h.get? e = some oe ∧ oe.cls = .ref C ∧ oe.dict = d ∧ oe.data = .fields vs := by
  have x : ObjOk P w H h e (.ext fun h => ∃ oe vs, h.get? e = some oe ∧ oe.cls = .ref C ∧ oe.dict = d ∧ oe.data = .fields vs) := hok e _ he
  exact x.1
end RS
namespace RS
open PySem PySem.Spec L2 PySem.W
/-- the class x at C: C(v) is a new exception whose field f is v -/
def XK1 (g : Wd) (x : Str) (C : Addr) (f : Str) : Prop := g.mg x = some (.ref C) ∧ g.mg "super" = none ∧ keepIn g.K (.ref C) = true ∧ hasDictIn g.K C = true ∧ findIn g.K (.ref C) "__setattr__" = some (some (.builtin "object.__setattr__")) ∧ findIn g.K (.ref C) f = some none ∧
  ∃ fI cda cc qual st B newId initId bmB xp, XC g.P g.K C fI cda cc qual st B newId initId bmB ∧ XSt1 qual st xp f
section
variable {g : Wd} {X : Cx} {C : Addr} {x f : Str} {e : Expr} {t : TA} {p pos : Pos}
def tMkX1 (C : Addr) (f : Str) (t : TA) : TE := fun σ H Q => t σ H fun vs H1 => ∃ v, vs = [v] ∧ ∀ y dy, H1 y = none → H1 dy = none → y ≠ dy → Q (.ref y) (upd (upd H1 dy (exd dy [(f, v)])) y (exv y C (some dy)))
end
end RS
namespace RS
open PySem PySem.Spec L2 PySem.W
section
variable {g : Wd} {X : Cx} {C : Addr} {x f : Str} {e o : Expr} {t : TA} {ta : TE} {p pos : Pos}
def tMkX0 (C : Addr) : TE := fun σ H Q => ∀ y, H y = none → Q (.ref y) (upd H y (exv y C none))
def tXfv (K : Frag) (C : Addr) (f : Str) (ta : TE) : TE := fun σ H Q => ta σ H fun x H1 => ∃ a dd fs v, x = .ref a ∧ H1 a = some (exv a C (some dd)) ∧ H1 dd = some (exd dd fs) ∧ fs.lookup f = some v ∧ Q v H1
end
end RS
namespace RS
open PySem PySem.Spec PySem.W PySem.Calls PyProof.Rows
section
variable {prog : Program} {w : World} {A : Around} {E : Value → Shared → Prop} {s : Shared} {K : Frag} {x C : Addr} {ox : Obj} {od : Option Obj}
theorem clsX (T : L2.ExcC K C) {Q : Option Value → Shared → Prop} (KX : K.In s.heap) (I : InstAt s.heap x ox C od) (q : Q (some (.ref C)) { s with toks := s.toks + 1 }) : wpAny (model prog w) A (getAttr? (.ref x) "__class__") Q E s := by
  have some_cls : (clsIn K C).isSome = true := by
    obtain ⟨cd, hc, _⟩ := any_some T.hd
    rw [hc]; rfl
  have found : findObj K C od "__class__" = some (.bind (.builtin "getset_descriptor.__get__") (.builtin "object.__class__")) := by
    cases od with
    | none => exact findObj_dataN some_cls T.ha T.hn T.ht
    | some od => exact findObj_data some_cls T.ha T.hn T.ht
  obtain ⟨hp, gs, dr, tk, os⟩ := s
  have la := I.type (M := model prog w)
  have lb := looks_findIn (M := model prog w) KX T.hg
  have lc := looks_findIn (M := model prog w) KX T.hk
  have ld := looks_find (M := model prog w) KX I found
  have lsub : Looks (model prog w) hp (isInstance (.ref x) (.type "BaseException")) true := la.andThen (looks_subIn KX T.hs)
  have other : (Value.builtin "BaseException.__getattribute__" == Value.builtin "object.__getattribute__") = false := by decide +kernel
  unfold getAttr?
  unfold getAttrBy?
  unfold getAttrBy
  refine wpAny_bind (wpAny_mkText (wpAny_bind (wpAny_attempt ?_)))
  refine wpAny_holding (wpAny_bind (la.at (wpAny_bind (lb.at ?_))))
  dsimp only
  rw [if_neg (by rw [other]; simp)]
  unfold getAttrByItsOwn
  unfold hookBefore
  refine wpAny_bind ?_
  rw [if_pos (by rfl)]
  refine lc.at ?_
  refine wpAny_bind (wpAny_attempt ?_)
  refine wpAny_holding ?_
  unfold callGetattribute
  rw [if_neg (by simp)]
  unfold boundAndCalled
  rw [PySem.F.excAttr_ValueError.ga.bind (.ref x)]
  refine wpAny_bind (wpAny_pure ?_)
  show wpAny _ _ (call (.builtin "BaseException.__getattribute__") [.ref x, .str "__class__" tk]) _ _ _
  refine wpAny_call (codeAny_call_builtin PySem.F.excAttr_ValueError.ga.plain PySem.F.entry_bexc_ga ?_)
  refine @check_slot (model prog w) _ _ ⟨hp, gs, dr, tk + 1, os⟩ "BaseException.__getattribute__" "BaseException" "__getattribute__" (.ref x) [.str "__class__" tk] [] _ (by decide +kernel) (by decide +kernel) lsub (PySem.F.args_bexc_ga _ _) ?_
  unfold Builtin.«object.__getattribute__»
  refine wpAny_bind (wpAny_of_eq (a := ((Value.ref x : Value), [Value.str "__class__" tk])) (by first | rfl | (simp only [slotArgs]; rfl)) ?_)
  refine wpAny_bind (wpAny_pure ?_)
  refine wpAny_bind (la.at (wpAny_bind (ld.at ?_)))
  refine wpAny_bind (wpAny_holding (wpAny_call (class_get (s := ⟨hp, gs, dr, tk + 1, os⟩) (ox := ox) (od := od) KX I T.hm ?_)))
  refine wpAny_pure ?_
  show wpAny _ _ (handedOut (.ref C)) _ _ _
  rw [handedOut_of (v := .ref C) rfl]
  first
    | exact wpAny_pure (wpAny_pure q)
    | exact wpAny_pure q
    | exact wpAny_pure (wpAny_bind (wpAny_pure (wpAny_pure q)))
theorem kitX (T : L2.ExcC K C) : KitX K (.ref x) (.ref C) (fun h => ∃ ox od, InstAt h x ox C od) where
  ty := fun _ _ _ ⟨_, _, I⟩ => I.type
  it := fun M h KX _ => by
    obtain ⟨cd, hc, _⟩ := any_some T.hd
    unfold clsIn at hc
    split at hc
    · rename_i ho
      intro A' Q' E' s' k q
      unfold isType
      unfold loadHead
      exact wpAny_bind (wpAny_loadPart (k _ _ (KX _ _ ho)) (wpAny_pure q))
    · cases hc
  ne := fun h tp dd its n sl KX htp => by
    obtain ⟨cd, hc, _⟩ := any_some T.hd
    refine Bool.eq_false_iff.mpr fun q => ?_
    obtain rfl : C = tp := Value.ref.inj (beq_iff_eq.mp q)
    unfold clsIn at hc
    split at hc
    · rename_i ho
      cases (KX _ _ ho).symm.trans htp
    · cases hc
  ca := fun KX ⟨_, _, I⟩ q => clsX T KX I q
end
end RS
namespace RS
open PySem PySem.Spec L2
end RS
namespace RS
open PySem PySem.Spec L2
def keyD : Key → PyData
  | .inl i => .int i
  | .inr x => .str x
mutual
/-- v stands for the data d -/
inductive DpX (K : PySem.W.Frag) (H : Hp) : V → PyData → Prop
  | non : DpX K H .non .none
  | bl (b : Bool) : DpX K H (.bl b) (.bool b)
  | int (i : Int) : DpX K H (.int i) (.int i)
  | str (x : Str) : DpX K H (.str x) (.str x)
  | lst {a : Addr} {xs : List V} {ds : List PyData} (h : SqL K H a xs) (hs : DpXs K H xs ds) : DpX K H (.ref a) (.list ds)
  | tup {a : Addr} {xs : List V} {ds : List PyData} (h : SqT K H a xs) (hs : DpXs K H xs ds) : DpX K H (.ref a) (.tuple ds)
  | dct {a : Addr} {kvs : List (Key × V)} {D : List (PyData × PyData)} (h : H a = some (.dK kvs)) (hs : DpXd K H kvs D) : DpX K H (.ref a) (.dict D)
inductive DpXs (K : PySem.W.Frag) (H : Hp) : List V → List PyData → Prop
  | nil : DpXs K H [] []
  | cons {v : V} {vs : List V} {d : PyData} {ds : List PyData} (h : DpX K H v d) (hs : DpXs K H vs ds) : DpXs K H (v :: vs) (d :: ds)
inductive DpXd (K : PySem.W.Frag) (H : Hp) : List (Key × V) → List (PyData × PyData) → Prop
  | nil : DpXd K H [] []
  | cons {k : Key} {v : V} {kvs : List (Key × V)} {d : PyData} {D : List (PyData × PyData)} (h : DpX K H v d) (hs : DpXd K H kvs D) : DpXd K H ((k, v) :: kvs) ((keyD k, d) :: D)
end
/-- sys.modules stands in the base, a dict -/
def SmB (base : Heap) : Prop := ∃ o es n, base.get? sysModules = some o ∧ o.data = .dict es n
theorem SmB.ne {X : Cx} {pins : List (Addr × Obj)} {σ : L2.St} {H : Hp} {s : Shared} {a : Addr} {its : Array Value} {n : Nat} {o : Obj} (I : Inv X pins σ H s) (sm : SmB X.base) (h : s.heap.get? a = some o) (hd : o.data = .seq its n) : sysModules ≠ a := fun z => by
  obtain ⟨o2, es, k, e, d⟩ := sm
  have e2 := (I.bs _ _ e).1
  rw [z, h] at e2
  cases e2
  rw [hd] at d
  cases d
section
variable {X : Cx} {pins : List (Addr × Obj)} {σ : L2.St} {H : Hp} {s : Shared}
theorem key_reads {h : Heap} (k : Key) (key : Value) (e : (mixKind X.prog X.w).is k key = true) : Reads h key (keyD k) [] := by
  rcases keyIs_shape e with ⟨i, t, rfl, rfl⟩ | ⟨x, t, rfl, rfl⟩
  · exact Reads.int i t
  · exact Reads.str x t
mutual
theorem DpX.reads (I : Inv X pins σ H s) (sm : SmB X.base) : ∀ {d : PyData} {v : V} {u : Value}, DpX X.K H v d → RelV v u → ∃ as, Reads s.heap u d as ∧ sysModules ∉ as
  | _, _, _, .non, r => by cases r; exact ⟨_, Reads.none, by simp⟩
  | _, _, _, .bl b, r => by cases r; exact ⟨_, Reads.bool b, by simp⟩
  | _, _, _, .int i, r => by obtain ⟨t, rfl⟩ := r; exact ⟨_, Reads.int i t, by simp⟩
  | _, _, _, .str x, r => by obtain ⟨t, rfl⟩ := r; exact ⟨_, Reads.str x t, by simp⟩
  | _, _, _, .lst hs ha, r => by
    cases r
    obtain ⟨its, rv, ⟨o, n, ho, hc, _, hd⟩, _⟩ := I.list hs
    obtain ⟨as, hr, na⟩ := DpXs.reads I sm ha rv
    refine ⟨_, Reads.list ho hc hd hr, fun z => ?_⟩
    rcases List.mem_cons.mp z with z | z
    · exact SmB.ne I sm ho hd z
    · exact na z
  | _, _, _, .tup hs ha, r => by
    cases r
    obtain ⟨its, rv, ⟨o, ho, hc, n, hd⟩, _⟩ := I.tuple hs
    obtain ⟨as, hr, na⟩ := DpXs.reads I sm ha rv
    exact ⟨_, Reads.tuple ho hc hd hr, na⟩
  | _, _, _, .dct hs ha, r => by
    cases r
    obtain ⟨_, ns, vs, kv, dd⟩ := dk_of I.hok hs
    obtain ⟨bs, hp, nb⟩ := DpXd.reads I sm ha kv
    refine ⟨_, PyProof.V.reads_dictOf (enc := keyD) (fun k key e => key_reads (X := X) k key e) dd hp, fun z => ?_⟩
    rcases List.mem_cons.mp z with z | z
    · rw [z] at ns; simp at ns
    · exact nb z
theorem DpXs.reads (I : Inv X pins σ H s) (sm : SmB X.base) : ∀ {ds : List PyData} {vs : List V} {us : List Value}, DpXs X.K H vs ds → Vals vs us → ∃ as, ReadsAll s.heap us ds as ∧ sysModules ∉ as
  | _, _, _, .nil, r => by cases r; exact ⟨_, ReadsAll.nil, by simp⟩
  | _, _, _, .cons h1 h2, r => by
    cases r with
    | cons r1 r2 =>
      obtain ⟨as, q1, n1⟩ := DpX.reads I sm h1 r1
      obtain ⟨bs, q2, n2⟩ := DpXs.reads I sm h2 r2
      exact ⟨_, ReadsAll.cons q1 q2, fun z => (List.mem_append.mp z).elim n1 n2⟩
theorem DpXd.reads (I : Inv X pins σ H s) (sm : SmB X.base) : ∀ {D : List (PyData × PyData)} {kvs : List (Key × V)} {vs : List (Key × Value)}, DpXd X.K H kvs D → KV kvs vs → ∃ bs, PyProof.V.PairsRead s.heap keyD vs D bs ∧ sysModules ∉ bs
  | _, _, _, .nil, r => by cases r; exact ⟨_, PyProof.V.PairsRead.nil, by simp⟩
  | _, _, _, .cons h1 h2, r => by
    cases r with
    | @cons _ q _ _ r1 r2 =>
      obtain ⟨k', v'⟩ := q
      obtain ⟨e1, e2⟩ := r1
      simp only at e1 e2
      subst e1
      obtain ⟨as, q1, n1⟩ := DpX.reads I sm h1 e2
      obtain ⟨bs, q2, n2⟩ := DpXd.reads I sm h2 r2
      exact ⟨_, PyProof.V.PairsRead.cons q1 q2, fun z => (List.mem_append.mp z).elim n1 n2⟩
end
end
end RS
namespace RS
open PySem PySem.Spec L2
section
variable {X : Cx} {k : Nat}
def rReprX (K : PySem.W.Frag) : List V → Hp → VK → Prop := fun xs H Q => ∃ a d, xs = [.ref a] ∧ DpX K H (.ref a) d ∧ d.showable = true ∧ d.depth ≤ 60 ∧ d.shown.length ≤ sizeLine ∧ Q (.str d.shown) H
theorem c_reprX {K : PySem.W.Frag} {base : Heap} (sm : SmB base) (hr : Rm k X) (hK : X.K = K := by rfl) (hB : X.base = base := by rfl) : CallR X (.builtin "repr") (rReprX K) := by
  subst hK
  subst hB
  intro pins s σ H xs us Q I r h
  obtain ⟨a, d, rfl, hd, hs, hz, hl, q⟩ := h
  obtain ⟨u, rfl, ru⟩ := vals1 r
  cases ru
  obtain ⟨as, rd, na⟩ := DpX.reads I sm hd rfl
  refine repr_of_reads' (h₀ := s.heap) rd hs (fun _ => na) hr.gd (by have := hr.room.un; omega) (fun _ _ e => e) (fun h' u tk kp => ?_) hl
  exact ⟨.str _, H, I.kept kp, ⟨_, rfl⟩, q⟩
end
end RS
namespace RS
open PySem PySem.Spec L2
theorem sqT_same {K : PySem.W.Frag} {H H' : Hp} {a : Addr} {xs : List V} (h : SqT K H a xs) (s : Same H H') : SqT K H' a xs := by
  rcases h with (h | ⟨o, h⟩) | h
  · exact .inl (.inl (s _ _ h))
  · exact .inl (.inr ⟨o, s _ _ h⟩)
  · exact .inr h
mutual
theorem DpX.same {K : PySem.W.Frag} {H H' : Hp} (s : Same H H') : ∀ {v : V} {d : PyData}, DpX K H v d → DpX K H' v d
  | _, _, .non => .non
  | _, _, .bl b => .bl b
  | _, _, .int i => .int i
  | _, _, .str x => .str x
  | _, _, .lst h hs => .lst (sq_same h s) (hs.same s)
  | _, _, .tup h hs => .tup (sqT_same h s) (hs.same s)
  | _, _, .dct h hs => .dct (s _ _ h) (hs.same s)
theorem DpXs.same {K : PySem.W.Frag} {H H' : Hp} (s : Same H H') : ∀ {vs : List V} {ds : List PyData}, DpXs K H vs ds → DpXs K H' vs ds
  | _, _, .nil => .nil
  | _, _, .cons h hs => .cons (h.same s) (hs.same s)
theorem DpXd.same {K : PySem.W.Frag} {H H' : Hp} (s : Same H H') : ∀ {kvs : List (Key × V)} {D : List (PyData × PyData)}, DpXd K H kvs D → DpXd K H' kvs D
  | _, _, .nil => .nil
  | _, _, .cons h hs => .cons (h.same s) (hs.same s)
end
end RS
namespace RS
open PySem PySem.Spec L2
end RS
namespace RS
open PySem PySem.Spec L2 PyProof.Rows
end RS
namespace RS
open PySem PySem.Spec L2
theorem join_len_le (n b : Nat) : ∀ ts : List Str, ts.length ≤ n → (∀ t ∈ ts, t.length ≤ b) → (Str.join ", " ts).length ≤ n * (b + 2) := by
  intro ts hn hb
  by_cases e : ts = []
  · subst e; exact Nat.le_trans (by decide) (Nat.zero_le _)
  · have h := join_length_add ts e
    have hp : piled ts ≤ ts.length * (b + 2) := by
      clear h e hn
      induction ts with
      | nil => simp [piled]
      | cons t ts ih =>
        have h1 := hb t (List.mem_cons_self ..)
        have h2 := ih fun x hx => hb x (List.mem_cons_of_mem _ hx)
        simp only [piled, List.map_cons, List.sum_cons, List.length_cons] at h2 ⊢
        rw [Nat.add_mul]
        omega
    have : ts.length * (b + 2) ≤ n * (b + 2) := Nat.mul_le_mul_right _ hn
    omega
end RS
namespace RS
open PySem PySem.Spec PySem.W L2
/-- what the kernel tells of an own exception class -/
structure XB (K : Frag) (C fI cda : Addr) (qual : Str) (B newId initId : String) (bmB : List Value) : Prop where
  q : excInitIn K C bmB newId = true
  ov : excOver K C bmB = true
  sup : ks_superIn K C C "__init__" = some (some (.builtin initId))
  sub : subIn K (.ref C) (.type B) = some true
  fn : typeIn K (.ref fI) = some (.type "function")
  cd : codeIn K (.ref cda) qual = true
  me : mroIn K C (.ref C) = some true
  kp : keepIn K (.ref C) = true
  hd : hasDictIn K C = true
  sa : findIn K (.ref C) "__setattr__" = some (some (.builtin "object.__setattr__"))
  hg : findIn K (.ref C) "__getattribute__" = some (some (.builtin "BaseException.__getattribute__"))
  hk : findIn K (.ref C) "__getattr__" = some none
  hs : subIn K (.ref C) (.type "BaseException") = some true
  ha : findIn K (.ref C) "__class__" = some (some (.builtin "object.__class__"))
  hm : mroIn K C (.type "object") = some true
/-- what is common -/
structure XA (P : Program) (K : Frag) : Prop where
  op : nsIn K cStatics "thirdparty.any" = some none
  nt : (P.main.scope.names.lookup ("super" : Str)).isSome = false
  hn : specialIn K (.builtin "object.__class__") "__get__" = some (some (.builtin "getset_descriptor.__get__"))
  ht : takesIn K (.builtin "object.__class__") = some true
section
variable {P : Program} {K : Frag} {C fI cda cc : Addr} {qual : Str} {st : Stmt} {B newId initId : String} {bmB : List Value}
  {oc kV doc pm ct ccl cl : Value} {od an cdd cld : Option Addr} {osl ccs csl : Array (Option Value)} {vs : Array Value} {file : Str} {tf : Tok}
theorem xc_mk (FB : ExcBaseFacts B newId initId bmB) (KF : KxsFacts B initId) (SF : StoreFacts B bmB "object.__setattr__" "object") (A : XA P K) (b : XB K C fI cda qual B newId initId bmB) (ini : findIn K (.ref C) "__init__" = some (some (.ref fI)))
    (l : K.lookup fI = some ⟨oc, od, .func (ksFn "__init__" qual (L2.defArgs st) (L2.defBody st) (L2.defScope st) .none kV doc pm an (.ref cda) ct cc), osl⟩)
    (co : K.lookup cda = some ⟨ccl, cdd, .fields vs, ccs⟩) (fi : vs[2]? = some (.str file tf)) (fe : ((P.main.file : Str) == file) = true) (ce : K.lookup cc = some ⟨cl, cld, .cell (some (.ref C)), csl⟩) :
    XC P K C fI cda cc qual st B newId initId bmB :=
  ⟨FB, KF, SF, b.q, b.ov, b.sup, b.sub, ini, b.fn, ⟨_, _, _, _, _, _, _, _, l⟩, b.cd, ⟨_, _, _, _, _, _, co, fi, fe⟩, ⟨_, _, _, ce⟩, b.me, A.op, A.nt⟩
theorem XB.exc (A : XA P K) (b : XB K C fI cda qual B newId initId bmB) : ExcC K C := ⟨b.hg, b.hk, b.hs, b.hd, b.ha, A.hn, A.ht, b.hm⟩
theorem XB.xf (b : XB K C fI cda qual B newId initId bmB) : XfC K C := ⟨b.hg, b.hk, b.hs, b.hd⟩
end
theorem df_mk {K : PySem.W.Frag} {x qual : Str} {st : Stmt} {f : Addr} {oc : Value} {od an : Option Addr} {osl : Array (Option Value)} {dV kV doc pm cdv ct : Value} (l : K.lookup f = some ⟨oc, od, .func (PySem.W.fnOf x qual (defArgs st) (defBody st) (defScope st) dV kV doc pm an cdv ct), osl⟩)
    (c : PySem.W.codeIn K cdv qual = true) (k : PySem.W.keepIn K (.ref f) = true) : Df K x qual st f (PySem.W.fnOf x qual (defArgs st) (defBody st) (defScope st) dV kV doc pm an cdv ct) dV := ⟨⟨oc, od, kV, doc, pm, an, cdv, ct, osl, rfl, l, c⟩, k⟩
end RS
namespace RS
open PySem PySem.Spec PyProof.Rows L2
/-- whether sys.modules is a dict -/
def smOk (h : Heap) : Bool := match h.get? sysModules with
  | some ⟨_, _, .dict _ _, _⟩ => true
  | _ => false
theorem smB_of {h : Heap} (e : smOk h = true) : SmB h := by
  unfold smOk at e
  split at e
  · rename_i c d es n sl q
    exact ⟨_, es, n, q, rfl⟩
  · cases e
/-- a hook that tells of sys.modules too -/
def smHook (k : PySem.W.Hook) : PySem.W.Hook :=
  ⟨k.α × Bool, fun s => (k.obs s, smOk s.heap), fun w => (k.val w, true), fun w h => k.says w h ∧ SmB h, fun w s e => ⟨k.of w s (Prod.mk.inj e).1, smB_of (Prod.mk.inj e).2⟩,
    fun w h h' x kp => ⟨k.keeps w h h' x.1 kp, by obtain ⟨o, es, n, e, d⟩ := x.2; exact ⟨o, es, n, kp _ _ e, d⟩⟩⟩
end RS
namespace RS
open PySem PySem.Spec L2 PyProof.Rows
section
variable {X : Cx} {k : Nat}
def rReprV (K : PySem.W.Frag) : List V → Hp → VK → Prop := fun xs H Q => ∃ v d, xs = [v] ∧ DpX K H v d ∧ d.showable = true ∧ d.depth ≤ 60 ∧ d.shown.length ≤ sizeLine ∧ Q (.str d.shown) H
theorem c_reprV {K : PySem.W.Frag} {base : Heap} (sm : SmB base) (hr : Rm k X) (hK : X.K = K := by rfl) (hB : X.base = base := by rfl) : CallR X (.builtin "repr") (rReprV K) := by
  subst hK
  subst hB
  intro pins s σ H xs us Q I r h
  obtain ⟨v, d, rfl, hd, hs, hz, hl, q⟩ := h
  obtain ⟨u, rfl, ru⟩ := vals1 r
  cases hd with
  | non =>
    cases ru
    rw [PyData.shown_none] at q
    exact PySem.P.repr_of_none ⟨.str _, H, I.tok _, ⟨_, rfl⟩, q⟩
  | bl b =>
    cases ru
    rw [PyData.shown_bool] at q
    exact PySem.P.repr_of_bool ⟨.str _, H, I.tok _, ⟨_, rfl⟩, q⟩
  | int i =>
    obtain ⟨t, rfl⟩ := ru
    rw [PyData.shown_int] at q
    have hb : i.natAbs.log2 < 1920 := by simpa [PyData.showable] using hs
    exact PySem.P.repr_of_int hb ⟨.str _, H, I.tok _, ⟨_, rfl⟩, q⟩
  | str x =>
    obtain ⟨t, rfl⟩ := ru
    rw [PyData.shown_str] at q hl
    exact PySem.P.repr_of_str ⟨.str _, H, I.tok _, ⟨_, rfl⟩, q⟩ hl
  | @lst a xs ds h1 h2 => exact c_reprX (base := X.base) sm hr rfl rfl pins s σ H _ _ Q I r ⟨a, _, rfl, .lst h1 h2, hs, hz, hl, q⟩
  | @tup a xs ds h1 h2 => exact c_reprX (base := X.base) sm hr rfl rfl pins s σ H _ _ Q I r ⟨a, _, rfl, .tup h1 h2, hs, hz, hl, q⟩
  | @dct a kvs D h1 h2 => exact c_reprX (base := X.base) sm hr rfl rfl pins s σ H _ _ Q I r ⟨a, _, rfl, .dct h1 h2, hs, hz, hl, q⟩
def rNeE (K : PySem.W.Frag) : R2 := fun x y H Q => ∃ a b xs ys, x = .ref a ∧ y = .ref b ∧ SqL K H a xs ∧ SqL K H b ys ∧ (xs = [] ∨ ys = []) ∧ Q (.bl (decide (xs.length ≠ ys.length))) H
theorem op_neE {K : PySem.W.Frag} (hr : Rm k X) (hK : X.K = K := by rfl) : OpR X (compareOp .NotEq) (rNeE K) := by
  subst hK
  intro pins s σ H x y v u Q I rx ry h
  obtain ⟨a, b, xs, ys, rfl, rfl, ha, hb, he, q⟩ := h
  cases rx
  cases ry
  obtain ⟨its, r1, ⟨o1, n1, ho1, hc1, hdd1, hd1⟩, _⟩ := I.list ha
  obtain ⟨its2, r2, ⟨o2, n2, ho2, hc2, hdd2, hd2⟩, _⟩ := I.list hb
  have l1 := r1.length
  have l2 := r2.length
  have hu : X.A.units < cLine := by have := hr.room.un; omega
  by_cases hl : xs.length = ys.length
  · have z : its.toArray.size = its2.toArray.size := by simp; omega
    have zz : its.length = 0 := by
      rcases he with e | e
      · rw [← l1, e]; rfl
      · rw [← l1, hl, e]; rfl
    have := SeqAt.RcNeAt.lists (A := X.A) (s := s) (l := a) (b := b) (e := fun _ => true) ⟨o1, ho1, hc1, n1, hd1⟩ ⟨o2, ho2, hc2, n2, hd2⟩ z hu (fun j h1 _ => by simp [zz] at h1)
    refine this X.prog X.w X.xe _ ⟨.bl (decide (xs.length ≠ ys.length)), H, I, ?_, q⟩
    simp [hl, zz]; exact rfl
  · have z : (its.toArray.size != its2.toArray.size) = true := by simp; omega
    have := SeqAt.RcNeAt.lists_lengths (A := X.A) (s := s) (l := a) (b := b) ⟨o1, ho1, hc1, n1, hd1⟩ ⟨o2, ho2, hc2, n2, hd2⟩ z hu
    refine this X.prog X.w X.xe _ ⟨.bl (decide (xs.length ≠ ys.length)), H, I, ?_, q⟩
    simp [hl]; exact rfl
end
end RS
namespace RS
open PySem PySem.Spec
/-- an iterator whose turns give out no token -/
structure Dr (prog : Program) (w : World) (A : Around) (it : Addr) (fp : List Addr) (n : Nat) (P : Nat → Value → Prop) (St : Nat → Heap → Prop) : Prop where
  fr : ∀ i h h', St i h → (∀ b ∈ fp, ∀ o, h.get? b = some o → h'.get? b = some o) → St i h'
  nx : ∀ i (s : Shared) (Q : Value → Shared → Prop) (E : Value → Shared → Prop), i < n → St i s.heap → (∀ x h', P i x → St (i + 1) h' → Heap.SameBut it s.heap h' → Q x { s with heap := h' }) → wpAny (model prog w) A (Builtin.SmallTypes.nextOf (.ref it)) Q E s
  dn : ∀ (s : Shared) (Q : Value → Shared → Prop) (E : Value → Shared → Prop), St n s.heap → (∀ h' e, Heap.ExtBut it s.heap h' → (∃ o, h'.get? e = some o ∧ o.cls = .type "StopIteration") → E (.ref e) { s with heap := h' }) → wpAny (model prog w) A (Builtin.SmallTypes.nextOf (.ref it)) Q E s
section
variable {prog : Program} {w : World} {A : Around} {E : Value → Shared → Prop} {s : Shared}
theorem dr_list (hh : A.handled = none) (it l : Addr) (ne : l ≠ it) (xs : Array Value) : Dr prog w A it [it, l] xs.size (fun i v => xs[i]? = some v) (fun i h => h.IsListIter it l i ∧ h.IsList l xs) :=
  ⟨fun _ _ _ z k => ⟨z.1.at fun o e => k it (by simp) o e, z.2.at fun o e => k l (by simp) o e⟩,
   fun i s Q E lt z k => wpAny_nextOf_list_item z.1 z.2 (x := xs[i]) (by simp [lt]) fun h' a b => k _ h' (by simp [lt]) ⟨a, z.2.extBut b.extBut ne⟩ b,
   fun s Q E z k => wpAny_nextOf_list_end hh z.1 z.2 (by simp) k⟩
theorem dr_tup (hh : A.handled = none) (it l : Addr) (ne : l ≠ it) (xs : Array Value) : Dr prog w A it [it, l] xs.size (fun i v => xs[i]? = some v) (fun i h => h.IsTupleIter it l i ∧ h.IsTuple l xs) :=
  ⟨fun _ _ _ z k => ⟨z.1.at fun o e => k it (by simp) o e, z.2.at fun o e => k l (by simp) o e⟩,
   fun i s Q E lt z k => wpAny_nextOf_tuple_item z.1 z.2 (x := xs[i]) (by simp [lt]) fun h' a b => k _ h' (by simp [lt]) ⟨a, z.2.extBut b.extBut ne⟩ b,
   fun s Q E z k => wpAny_nextOf_tuple_end hh z.1 z.2 (by simp) k⟩
/-- an enumerate's record -/
abbrev enO (f0 f1 : Value) (it : Addr) (c : Int) (old : Value) : Obj := { cls := .type "enumerate", dict := none, data := .fields #[f0, f1, .ref it, rawInt c, .none, old], slots := #[] }
abbrev tupO (c : Int) (t : Tok) (x : Value) : Obj := { cls := .type "tuple", data := .seq #[.int c t, x] }
/-- its state: no tuple is out, or one is out and held -/
def EnS (h : Heap) (e it : Addr) (c : Int) : Prop := (∃ old, h.get? e = some (enO .none (.bool false) it c old)) ∨ ∃ (old : Value) (T : Addr) (f : Bool) (o : Obj), h.get? e = some (enO (rawInt T) (.bool f) it c old) ∧ h.get? T = some o ∧ T ≠ e ∧ T ≠ it ∧ o.cls = .type "tuple"
theorem en_next {e it : Addr} {fp : List Addr} {n i : Nat} {P : Nat → Value → Prop} {St : Nat → Heap → Prop} {Q : Value → Shared → Prop} (D : Dr prog w A it fp n P St) (he : EnS s.heap e it i) (hst : St i s.heap) (lt : i < n) (ne : e ≠ it) (nf : e ∉ fp) (hi : it < s.heap.objs.size)
    (k : ∀ x h', P i x → EnS h' e it (i + 1 : Nat) → St (i + 1) h' → h'.get? s.heap.objs.size = some (tupO i s.toks x) → h'.objs.size = s.heap.objs.size + 1 → (∀ b o, b ≠ e → b ≠ it → s.heap.get? b = some o → h'.get? b = some o) → Q (.ref s.heap.objs.size) { s with heap := h', toks := s.toks + 1 }) :
    wpAny (model prog w) A (Builtin.«enumerate.__next__» ⟨[.ref e], []⟩) (fun r z => ∃ v, r = .done (.ret v) ∧ Q v z) E s := by
  obtain ⟨H, gs, dr, tk, os⟩ := s
  have ec : ((i + 1 : Nat) : Int) = (i : Int) + 1 := by omega
  obtain ⟨f0, f1, old, hE⟩ : ∃ f0 f1 old, H.get? e = some (enO f0 f1 it i old) := by
    rcases he with ⟨old, z⟩ | ⟨old, T, f, o, z, _⟩
    · exact ⟨_, _, _, z⟩
    · exact ⟨_, _, _, z⟩
  have le : e < H.objs.size := Heap.lt_size hE
  unfold Builtin.«enumerate.__next__»
  refine wpAny_bind (wpAny_of_eq (a := ((Value.ref e : Value), ([] : List Value))) (by rfl) ?_)
  refine wpAny_bind (wpAny_field hE rfl (x := .ref it) rfl ?_)
  refine wpAny_bind (D.nx i ⟨H, gs, dr, tk, os⟩ _ _ lt hst fun x H1 px st1 m1 => ?_)
  have E1 : H1.get? e = some (enO f0 f1 it i old) := (m1.2 e ne).trans hE
  refine wpAny_bind (wpAny_field E1 rfl (x := rawInt i) rfl ?_)
  refine wpAny_bind (wpAny_field E1 rfl (x := .none) rfl ?_)
  show wpAny _ _ ((mkInt (i : Int)) >>= _) _ _ ⟨H1, gs, dr, tk, os⟩
  refine wpAny_bind (wpAny_mkInt ?_)
  refine wpAny_bind (wpAny_setField_rec (s := ⟨H1, gs, dr, tk + 1, os⟩) E1 (by simp) fun H2 E2 m2 => ?_)
  have E2' : H2.get? e = some (enO f0 f1 it ((i : Int) + 1) old) := E2
  refine wpAny_bind (wpAny_setField_rec (s := ⟨H2, gs, dr, tk + 1, os⟩) E2' (by simp) fun H3 E3 m3 => ?_)
  have E3' : H3.get? e = some (enO f0 f1 it ((i : Int) + 1) old) := E3
  have m2' : Heap.SameBut e H1 H2 := m2
  have m3' : Heap.SameBut e H2 H3 := m3
  have m1' : Heap.SameBut it H H1 := m1
  have z3 : H3.objs.size = H.objs.size := by rw [m3'.1, m2'.1, m1'.1]
  refine wpAny_bind (wpAny_newTuple ?_)
  have keep4 : ∀ b o, b ≠ e → b ≠ it → H.get? b = some o → (H3.push (tupO i tk x)).get? b = some o := fun b o x1 x2 z => Heap.get?_push_of_some _ (m3'.extBut b o x1 (m2'.extBut b o x1 (m1'.extBut b o x2 z)))
  have E4 : (H3.push (tupO i tk x)).get? e = some (enO f0 f1 it ((i : Int) + 1) old) := Heap.get?_push_of_some _ E3'
  have T4 : (H3.push (tupO i tk x)).get? H.objs.size = some (tupO i tk x) := by rw [← z3]; exact Heap.get?_push_size _ rfl
  have st4 : St (i + 1) (H3.push (tupO i tk x)) := D.fr _ _ _ st1 fun b hb o z => by
    have x1 : b ≠ e := fun q => nf (q ▸ hb)
    exact Heap.get?_push_of_some _ (m3'.extBut b o x1 (m2'.extBut b o x1 z))
  have z4 : (H3.push (tupO i tk x)).objs.size = H.objs.size + 1 := by rw [Heap.size_push, z3]
  have keepT : ∀ T o, T ≠ e → T ≠ it → H.get? T = some o → (H3.push (tupO i tk x)).get? T = some o := keep4
  show wpAny _ _ (Builtin.SmallTypes.ownedTupleIsFree (.ref e) >>= _) _ _ ⟨H3.push (tupO i tk x), gs, dr, tk + 1, os⟩
  rw [z3]
  generalize H3.push (tupO i tk x) = H4 at keep4 E4 T4 st4 z4 keepT ⊢
  have nT : H.objs.size ≠ e := Nat.ne_of_gt le
  have nI : H.objs.size ≠ it := Nat.ne_of_gt hi
  rcases he with ⟨old', z⟩ | ⟨old', T, f, oT, z, hT, n1, n2, ct⟩
  · have q : enO f0 f1 it i old = enO .none (.bool false) it i old' := Option.some.inj (hE.symm.trans z)
    have qq := congrArg (fun o : Obj => match o.data with | .fields vs => vs.toList | _ => []) q
    simp only [List.cons.injEq] at qq
    have q0 : f0 = .none := qq.1
    have q1 : f1 = .bool false := qq.2.1
    subst q0 q1
    refine wpAny_bind ?_
    unfold Builtin.SmallTypes.ownedTupleIsFree
    refine wpAny_bind (wpAny_field E4 rfl (x := .none) rfl (wpAny_pure ?_))
    simp only [if_true]
    refine wpAny_bind (wpAny_rule ?_)
    refine wpAny_bind (wpAny_field E4 rfl (x := old) rfl ?_)
    refine wpAny_bind (wpAny_setField_rec E4 (by simp) fun H5 E5 m5 => ?_)
    have E5' : H5.get? e = some (enO .none (.bool false) it ((i : Int) + 1) x) := E5
    have m5' : Heap.SameBut e H4 H5 := m5
    refine wpAny_bind ?_
    unfold Builtin.SmallTypes.ownedTupleHandOut
    refine wpAny_bind (wpAny_setField_rec E5' (by simp) fun H6 E6 m6 => ?_)
    have m6' : Heap.SameBut e H5 H6 := m6
    refine wpAny_setField_rec E6 (by simp) fun H7 E7 m7 => ?_
    have m7' : Heap.SameBut e H6 H7 := m7
    have E7' : H7.get? e = some (enO (rawInt H.objs.size) (.bool false) it ((i + 1 : Nat) : Int) x) := by rw [ec]; exact E7
    have kk : ∀ b o, b ≠ e → H4.get? b = some o → H7.get? b = some o := fun b o x1 z => m7'.extBut b o x1 (m6'.extBut b o x1 (m5'.extBut b o x1 z))
    refine wpAny_bind (wpAny_letGo (wpAny_pure ⟨_, rfl, k x H7 px (.inr ⟨x, H.objs.size, false, _, E7', kk _ _ nT T4, nT, nI, rfl⟩) (D.fr _ _ _ st4 fun b hb o z => kk b o (fun q => nf (q ▸ hb)) z) (kk _ _ nT T4) ?_ fun b o x1 x2 z => kk b o x1 (keep4 b o x1 x2 z)⟩))
    show H7.objs.size = H.objs.size + 1
    rw [m7'.1, m6'.1, m5'.1, z4]
  · have q : enO f0 f1 it i old = enO (rawInt T) (.bool f) it i old' := Option.some.inj (hE.symm.trans z)
    have qq := congrArg (fun o : Obj => match o.data with | .fields vs => vs.toList | _ => []) q
    simp only [List.cons.injEq] at qq
    have q0 : f0 = rawInt T := qq.1
    have q1 : f1 = .bool f := qq.2.1
    subst q0 q1
    refine wpAny_bind (wpAny_tupleHeld_enum (s := ⟨H4, gs, dr, tk + 1, os⟩) E4 (keepT T oT n1 n2 hT) fun H5 E5 m5 => ?_)
    have m5' : Heap.SameBut e H4 H5 := m5
    simp only [Bool.false_eq_true, if_false]
    have kk : ∀ b o, b ≠ e → H4.get? b = some o → H5.get? b = some o := fun b o x1 z => m5'.extBut b o x1 z
    refine wpAny_pure ⟨_, rfl, k x H5 px (.inr ⟨old, T, true, oT, by rw [ec]; exact E5, kk _ _ n1 (keepT T oT n1 n2 hT), n1, n2, ct⟩) (D.fr _ _ _ st4 fun b hb o z => kk b o (fun q => nf (q ▸ hb)) z) (kk _ _ nT T4) ?_ fun b o x1 x2 z => kk b o x1 (keep4 b o x1 x2 z)⟩
    show H5.objs.size = H.objs.size + 1
    rw [m5'.1, z4]
end
end RS
namespace RS
open PySem PySem.Spec
section
variable {prog : Program} {w : World} {A : Around} {E : Value → Shared → Prop} {s : Shared} {e it : Addr} {fp : List Addr} {n i : Nat} {P : Nat → Value → Prop} {St : Nat → Heap → Prop}
theorem EnS.ty {h : Heap} {c : Int} (x : EnS h e it c) : ∃ o, h.get? e = some o ∧ o.cls = .type "enumerate" := by
  rcases x with ⟨old, z⟩ | ⟨old, T, f, o, z, _⟩
  · exact ⟨_, z, rfl⟩
  · exact ⟨_, z, rfl⟩
theorem en_item {Q : Option Value → Shared → Prop} (D : Dr prog w A.in1 it fp n P St) (he : EnS s.heap e it i) (hst : St i s.heap) (lt : i < n) (ne : e ≠ it) (nf : e ∉ fp) (hi : it < s.heap.objs.size)
    (k : ∀ x h', P i x → EnS h' e it (i + 1 : Nat) → St (i + 1) h' → h'.get? s.heap.objs.size = some (tupO i s.toks x) → h'.objs.size = s.heap.objs.size + 1 → (∀ b o, b ≠ e → b ≠ it → s.heap.get? b = some o → h'.get? b = some o) → Q (some (.ref s.heap.objs.size)) { s with heap := h', toks := s.toks + 1 }) :
    wpAny (model prog w) A (pyNext (.ref e)) Q E s := by
  have ty : s.TypeIs (.ref e) "enumerate" := he.ty
  unfold pyNext
  refine wpAny_bind (wpAny_attempt (wpAny_callSpecial?_slot (name := ("__next__" : Str)) ty F.slot_enumerate_next (wpAny_call_entry F.slot_enumerate_next ty F.entry_enumerate_next ?_ (F.args_enumerate_next_1 _))))
  exact en_next D he hst lt ne nf hi fun x h' a b c d f g => wpAny_pure (k x h' a b c d f g)
theorem en_end {Q : Option Value → Shared → Prop} {c : Int} (D : Dr prog w A.in1 it fp n P St) (he : EnS s.heap e it c) (hst : St n s.heap) (k : ∀ h', Heap.ExtBut it s.heap h' → Q none { s with heap := h' }) : wpAny (model prog w) A (pyNext (.ref e)) Q E s := by
  have ty : s.TypeIs (.ref e) "enumerate" := he.ty
  obtain ⟨f0, f1, old, hE⟩ : ∃ f0 f1 old, s.heap.get? e = some (enO f0 f1 it c old) := by
    rcases he with ⟨old, z⟩ | ⟨old, T, f, o, z, _⟩
    · exact ⟨_, _, _, z⟩
    · exact ⟨_, _, _, z⟩
  unfold pyNext
  refine wpAny_bind (wpAny_attempt (wpAny_callSpecial?_slot (name := ("__next__" : Str)) ty F.slot_enumerate_next (wpAny_call_entry F.slot_enumerate_next ty F.entry_enumerate_next ?_ (F.args_enumerate_next_1 _))))
  unfold Builtin.«enumerate.__next__»
  refine wpAny_bind (wpAny_of_eq (a := ((Value.ref e : Value), ([] : List Value))) (by rfl) ?_)
  refine wpAny_bind (wpAny_field hE rfl (x := .ref it) rfl ?_)
  refine wpAny_bind (D.dn s _ _ hst fun h' x eb hx => ?_)
  obtain ⟨o, ho, hc⟩ := hx
  exact wpAny_bind (wpAny_isInstance (T := "StopIteration") (b := true) ⟨o, ho, hc⟩ isSubtype_stop (wpAny_pure (k _ eb)))
abbrev lstO (acc : Array Value) (c : Nat) : Obj := { cls := .type "list", dict := none, data := .seq acc c, slots := #[] }
/-- the tuples laid so far -/
def Laid (P : Nat → Value → Prop) (b0 m : Nat) (h : Heap) : Prop := ∀ j, j < m → ∃ t x, h.get? (b0 + j) = some (tupO j t x) ∧ P j x
def refsR (b0 m : Nat) : List Value := (List.range m).map fun j => .ref (b0 + j)
theorem refsR_succ (b0 m : Nat) : refsR b0 (m + 1) = refsR b0 m ++ [.ref (b0 + m)] := by simp [refsR, List.range_succ]
theorem en_loop {R : Result → Shared → Prop} {S : Addr} {b0 : Nat} {h₁ : Heap} {res : Value} (D : Dr prog w A.in1.in1 it fp n P St) (ne : e ≠ it) (nf : e ∉ fp) (Sf : S ∉ fp) (Se : S ≠ e) (Si : S ≠ it) (hn : n ≤ sizeLine) (lS : S < b0) (li : it < b0) (le : e < b0)
    (hR : ∀ h' tk c, (∀ b o, b ≠ S → b ≠ e → b ≠ it → h₁.get? b = some o → h'.get? b = some o) → h'.get? S = some (lstO (refsR b0 n).toArray c) → Laid P b0 n h' → R (.ok (.ret res)) { s with heap := h', toks := tk }) :
    ∀ (k i : Nat) (h : Heap) (tk c : Nat), n - i = k → i ≤ n → EnS h e it i → St i h → h.objs.size = b0 + i → (∀ b o, b ≠ S → b ≠ e → b ≠ it → h₁.get? b = some o → h.get? b = some o) → h.get? S = some (lstO (refsR b0 i).toArray c) → Laid P b0 i h →
      codeAny (model prog w) A (.builtin "list.extend.loop" ⟨[.ref S, .ref e, res], []⟩) R { s with heap := h, toks := tk } := by
  have nS : ∀ j : Nat, (b0 + j : Nat) ≠ S := fun j => Nat.ne_of_gt (Nat.lt_of_lt_of_le lS (Nat.le_add_right _ _))
  have nE : ∀ j : Nat, (b0 + j : Nat) ≠ e := fun j => Nat.ne_of_gt (Nat.lt_of_lt_of_le le (Nat.le_add_right _ _))
  have nI : ∀ j : Nat, (b0 + j : Nat) ≠ it := fun j => Nat.ne_of_gt (Nat.lt_of_lt_of_le li (Nat.le_add_right _ _))
  intro k
  induction k with
  | zero =>
    intro i h tk c hk hi he st sz kp hS la
    have : i = n := by omega
    subst this
    refine codeAny_builtin PySem.F.entry_extend_loop ?_
    rw [Around.under_plainId PySem.F.plain_extend_loop _]
    unfold Builtin.«list.extend.loop»
    refine wpAny_bind (en_end (s := { s with heap := h, toks := tk }) D he st fun h' eb => wpAny_pure (hR h' tk c (fun b o x1 x2 x3 z => eb b o x3 (kp b o x1 x2 x3 z)) (eb S _ Si hS) fun j hj => ?_))
    obtain ⟨t, x, z, p⟩ := la j hj
    exact ⟨t, x, eb _ _ (nI j) z, p⟩
  | succ k ih =>
    intro i h tk c hk hi he st sz kp hS la
    have lt : i < n := by omega
    refine codeAny_builtin PySem.F.entry_extend_loop ?_
    rw [Around.under_plainId PySem.F.plain_extend_loop _]
    unfold Builtin.«list.extend.loop»
    refine wpAny_bind (en_item (s := { s with heap := h, toks := tk }) D he st lt ne nf (by show it < h.objs.size; rw [sz]; exact Nat.lt_of_lt_of_le li (Nat.le_add_right _ _)) fun x h' px he' st' T' z' k' => ?_)
    have T2 : h'.get? (b0 + i) = some (tupO i tk x) := by rw [← sz]; exact T'
    have z2 : h'.objs.size = b0 + i + 1 := by rw [z']; show h.objs.size + 1 = _; rw [sz]
    have S2 := k' S _ Se Si hS
    have up : Heap.SameBut S h' (h'.update S (Obj.mapSeq (·.push (.ref (b0 + i))))) := Heap.SameBut.update ..
    have S3 := Heap.get?_update_self (Obj.mapSeq (·.push (Value.ref (b0 + i)))) S2 rfl
    have szr : (refsR b0 i).toArray.size = i := by simp [refsR]
    show wpAny _ A.in1 (updateSeq S (·.push (.ref h.objs.size)) >>= fun _ => _) _ _ _
    rw [sz]
    refine wpAny_bind (wpAny_updateSeq S2 rfl (wpAny_pure ⟨plainId_quiet PySem.F.plain_extend_loop _, ih (i + 1) _ _ (if ((refsR b0 i).toArray.push (Value.ref (b0 + i))).size == (refsR b0 i).toArray.size then c else c + 1) (by omega) lt ?_ ?_ ?_ ?_ ?_ ?_⟩) (by rw [szr]; omega) (by show ((refsR b0 i).toArray.push _).size ≤ sizeLine + 1; rw [Array.size_push, szr]; omega))
    · rcases he' with ⟨old, z⟩ | ⟨old, T, f, o, z, y1, y2, y3, y4⟩
      · exact .inl ⟨old, up.extBut _ _ (Ne.symm Se) z⟩
      · refine .inr ⟨old, T, f, o, up.extBut _ _ (Ne.symm Se) z, up.extBut _ _ (fun q => ?_) y1, y2, y3, y4⟩
        rw [q, S2] at y1
        cases y1
        exact absurd y4 (by show ¬ Value.type "list" = Value.type "tuple"; decide)
    · exact D.fr _ _ _ st' fun b hb o z => up.extBut _ _ (fun q => Sf (q ▸ hb)) z
    · rw [up.1, z2]; omega
    · exact fun b o x1 x2 x3 z => up.extBut b o x1 (k' b o x2 x3 (kp b o x1 x2 x3 z))
    · have : (refsR b0 (i + 1)).toArray = (refsR b0 i).toArray.push (.ref (b0 + i)) := by rw [refsR_succ]; simp
      rw [this]; exact S3
    · intro j hj
      by_cases q : j = i
      · subst q
        exact ⟨tk, x, up.extBut _ _ (nS _) T2, px⟩
      · obtain ⟨t, y, z, p⟩ := la j (by omega)
        exact ⟨t, y, up.extBut _ _ (nS _) (k' _ _ (nE _) (nI _) z), p⟩
end
end RS
namespace RS
open PySem PySem.Spec
abbrev en0 (it : Addr) : Obj := { cls := .type "enumerate", data := .fields #[.none, .bool false, .ref it, rawInt 0, .none, .none] }
theorem enew_meets {v : Value} {o : Obj} {H : Heap → Prop} (B : Begins v o H) :
    Meets (Builtin.«enumerate.__new__» ⟨[.type "enumerate", v], []⟩) (fun _ R s => H s.heap ∧ R (.ok (.ret (.ref (s.heap.push o).objs.size))) { s with heap := (s.heap.push o).push (en0 s.heap.objs.size) }) :=
  .of_wp fun prog w A R s h => by
    obtain ⟨hp, g, d, tk, os⟩ := s
    obtain ⟨h1, h⟩ := h
    have sub := sub_enumerate
    have go : ∀ {A' : Around} {E : Value → Shared → Prop} {Q : Value → Shared → Prop}, Q (.ref hp.objs.size) ⟨hp.push o, g, d, tk, os⟩ → wpAny (model prog w) A' (pyIter v) Q E ⟨hp, g, d, tk, os⟩ := fun q => B.iter prog w _ _ ⟨hp, g, d, tk, os⟩ _ h1 q
    wp_walk using go
    refine wpAny_stack_any fun st => wpAny_pure ?_
    split
    · rename_i c _ _ _ _ _
      cases (c == Value.type "enumerate")
      · wp_walk using go
        exact ⟨_, rfl, h⟩
      · wp_walk using go
        exact ⟨_, rfl, h⟩
    · wp_walk using go
      exact ⟨_, rfl, h⟩
section
variable {prog : Program} {w : World} {A : Around} {E : Value → Shared → Prop} {s : Shared}
theorem call_enumB {v : Value} {o : Obj} {H : Heap → Prop} {Q : Value → Shared → Prop} (B : Begins v o H) (h1 : H s.heap)
    (k : ∀ h', h'.get? (s.heap.objs.size + 1) = some (enO .none (.bool false) s.heap.objs.size (0 : Nat) .none) → h'.get? s.heap.objs.size = some o → h'.objs.size = s.heap.objs.size + 2 → (∀ b o, s.heap.get? b = some o → h'.get? b = some o) → Q (.ref (s.heap.objs.size + 1)) { s with heap := h' }) :
    wpAny (model prog w) A (call (.type "enumerate") [v]) Q E s := by
  refine callType_new F.called_enumerate (by decide) (F.typeCall_enumerate_1 _) (F.newCall_enumerate_1 _) (fun obj => F.args_object_init_2 obj _) F.entry_enumerate_new (enew_meets B) ⟨h1, ?_⟩
  have z : (s.heap.push o).objs.size = s.heap.objs.size + 1 := Heap.size_push ..
  show _ ∧ _
  rw [z]
  have he : ((s.heap.push o).push (en0 s.heap.objs.size)).get? (s.heap.objs.size + 1) = some (en0 s.heap.objs.size) := by
    have y := Heap.get?_push_size (s.heap.push o) (o := en0 s.heap.objs.size) rfl
    rw [z] at y
    exact y
  exact ⟨⟨_, he, rfl⟩, k _ he (Heap.get?_push_of_some _ (Heap.get?_push_size _ B.free)) (by rw [Heap.size_push, z]) fun b o x => Heap.get?_push_of_some _ (Heap.get?_push_of_some _ x)⟩
theorem en_no_len : typeLookup (.type "enumerate") "__len__" = pure none := am_miss_of_fast (by decide +kernel)
theorem en_no_hint : typeLookup (.type "enumerate") "__length_hint__" = pure none := am_miss_of_fast (by decide +kernel)
variable {e it : Addr} {fp : List Addr} {n : Nat} {P : Nat → Value → Prop} {St : Nat → Heap → Prop}
/-- list(e), e an enumerate that has not begun -/
theorem list_enum {Q : Value → Shared → Prop} (D : Dr prog w A.in1.in1.in1 it fp n P St) {old0 : Value} (he0 : s.heap.get? e = some (enO .none (.bool false) it (0 : Nat) old0)) (st : St 0 s.heap) (ne : e ≠ it) (nf : e ∉ fp) (hn : n ≤ sizeLine) (li : it < s.heap.objs.size) (lf : ∀ b ∈ fp, b < s.heap.objs.size)
    (k : ∀ h' tk c, (∀ b o, b ≠ e → b ≠ it → s.heap.get? b = some o → h'.get? b = some o) → h'.get? s.heap.objs.size = some (lstO (refsR (s.heap.objs.size + 1) n).toArray c) → Laid P (s.heap.objs.size + 1) n h' → Q (.ref s.heap.objs.size) { s with heap := h', toks := tk }) :
    wpAny (model prog w) A (call (.type "list") [.ref e]) Q E s := by
  have he : EnS s.heap e it (0 : Nat) := .inl ⟨_, he0⟩
  have le : e < s.heap.objs.size := Heap.lt_size he0
  refine callType_codes (Q₁ := fun obj z => obj = .ref s.heap.objs.size ∧ z = { s with heap := s.heap.push { cls := .type "list", data := .seq #[] } }) F.called_list (F.typeCall_list_1 _) F.entry_list_init (code_list_new _ ⟨rfl, rfl⟩) fun obj z hz => ?_
  obtain ⟨rfl, rfl⟩ := hz
  have hS : (s.heap.push (lstO #[] 0)).get? s.heap.objs.size = some (lstO #[] 0) := Heap.get?_push_size _ rfl
  have Se : s.heap.objs.size ≠ e := Nat.ne_of_gt le
  have Si : s.heap.objs.size ≠ it := Nat.ne_of_gt li
  have Sf : s.heap.objs.size ∉ fp := fun hm => Nat.lt_irrefl _ (lf _ hm)
  refine ⟨⟨_, hS, rfl⟩, F.args_list_init_2 _ _, ?_⟩
  have kp : ∀ (h : Heap), Heap.SameBut s.heap.objs.size (s.heap.push (lstO #[] 0)) h → EnS h e it (0 : Nat) ∧ St 0 h ∧ h.objs.size = s.heap.objs.size + 1 + 0 ∧ ∀ b o, b ≠ s.heap.objs.size → b ≠ e → b ≠ it → s.heap.get? b = some o → h.get? b = some o := fun h m => by
    have kk : ∀ b o, b ≠ s.heap.objs.size → s.heap.get? b = some o → h.get? b = some o := fun b o x z => m.extBut b o x (Heap.get?_push_of_some _ z)
    refine ⟨?_, D.fr _ _ _ st fun b hb o z => kk b o (fun q => Sf (q ▸ hb)) z, by rw [m.1, Heap.size_push], fun b o x _ _ z => kk b o x z⟩
    rcases he with ⟨old, z⟩ | ⟨old, T, f, o, z, y1, y2, y3, y4⟩
    · exact .inl ⟨old, kk _ _ (Ne.symm Se) z⟩
    · exact .inr ⟨old, T, f, o, kk _ _ (Ne.symm Se) z, kk _ _ (Nat.ne_of_lt (Heap.lt_size y1)) y1, y2, y3, y4⟩
  show wpAny _ A.in1.in1 (do let old ← Builtin.List.listItems (.ref s.heap.objs.size); Builtin.List.listUpdate (.ref s.heap.objs.size) (fun _ => #[]); letGo old.toList.reverse; Builtin.List.listExtendWith (.ref s.heap.objs.size) (.ref e) .none) _ _ _
  refine wpAny_bind ?_
  unfold Builtin.List.listItems
  refine wpAny_bind (wpAny_seqItems hS rfl (wpAny_pure ?_))
  show wpAny _ _ (updateSeq s.heap.objs.size (fun _ => #[]) >>= fun _ => _) _ _ _
  refine wpAny_bind (wpAny_updateSeq hS rfl ?_)
  have hS2 := Heap.get?_update_self (Obj.mapSeq (fun _ => (#[] : Array Value))) hS rfl
  refine wpAny_bind (wpAny_letGo ?_)
  unfold Builtin.List.listExtendWith
  obtain ⟨e2, s2, z2, k2⟩ := kp _ (Heap.SameBut.update ..)
  have ty2 := e2.ty
  refine wpAny_bind (wpAny_typeOf ty2 ?_)
  have h1 : Builtin.List.listSameRef (.ref s.heap.objs.size) (.ref e) = false := by simp [Builtin.List.listSameRef, Se]
  have h2 : (Value.type "enumerate" == Value.type "list") = false := by decide
  have h3 : (Value.type "enumerate" == Value.type "tuple") = false := by decide
  simp only [h1, h2, h3, Bool.or_false, Bool.false_eq_true, if_false]
  have e3 : ((s.heap.push (lstO #[] 0)).update s.heap.objs.size (Obj.mapSeq (fun _ => (#[] : Array Value)))).get? e = some (enO .none (.bool false) it (0 : Nat) old0) := (Heap.get?_update_other _ _ Se).trans (Heap.get?_push_of_some _ he0)
  refine wpAny_bind (wpAny_pyIter_enum e3 ?_)
  refine wpAny_bind (wpAny_holding ?_)
  unfold Builtin.List.listLengthHint
  refine wpAny_bind (wpAny_specialOf ty2 en_no_len ?_)
  show wpAny _ _ (specialOf (Value.ref e) (Str.ofString "__length_hint__") >>= _) _ _ _
  refine wpAny_bind (wpAny_specialOf ty2 en_no_hint ?_)
  refine wpAny_pure ?_
  rw [if_pos (by rfl)]
  refine wpAny_bind (wpAny_rule ?_)
  show wpAny _ _ ((updateSeq s.heap.objs.size (·.push .none) >>= fun _ => updateSeq s.heap.objs.size (·.pop)) >>= fun _ => _) _ _ _
  refine wpAny_bind (wpAny_bind (wpAny_updateSeq hS2 rfl ?_))
  have hS3 := Heap.get?_update_self (Obj.mapSeq (·.push Value.none)) hS2 rfl
  refine wpAny_updateSeq (hz := by seq_fits) hS3 rfl ?_
  have hS4 := Heap.get?_update_self (Obj.mapSeq (·.pop)) hS3 rfl
  refine wpAny_pure ⟨plainId_quiet PySem.F.plain_extend_loop _, ?_⟩
  have m : Heap.SameBut s.heap.objs.size (s.heap.push (lstO #[] 0)) ((((s.heap.push (lstO #[] 0)).update s.heap.objs.size (Obj.mapSeq (fun _ => (#[] : Array Value)))).update s.heap.objs.size (Obj.mapSeq (·.push Value.none))).update s.heap.objs.size (Obj.mapSeq (·.pop))) := by
    have a1 : Heap.SameBut s.heap.objs.size _ _ := Heap.SameBut.update (h := s.heap.push (lstO #[] 0)) (a := s.heap.objs.size) (f := Obj.mapSeq (fun _ => (#[] : Array Value)))
    have a2 : Heap.SameBut s.heap.objs.size _ _ := Heap.SameBut.update (h := (s.heap.push (lstO #[] 0)).update s.heap.objs.size (Obj.mapSeq (fun _ => (#[] : Array Value)))) (a := s.heap.objs.size) (f := Obj.mapSeq (·.push Value.none))
    have a3 : Heap.SameBut s.heap.objs.size _ _ := Heap.SameBut.update (h := ((s.heap.push (lstO #[] 0)).update s.heap.objs.size (Obj.mapSeq (fun _ => (#[] : Array Value)))).update s.heap.objs.size (Obj.mapSeq (·.push Value.none))) (a := s.heap.objs.size) (f := Obj.mapSeq (·.pop))
    exact ⟨a3.1.trans (a2.1.trans a1.1), fun b hb => (a3.2 b hb).trans ((a2.2 b hb).trans (a1.2 b hb))⟩
  obtain ⟨e5, s5, z5, k5⟩ := kp _ m
  exact en_loop (s := s) (h₁ := s.heap) (A := A.in1) D ne nf Sf Se Si hn (Nat.lt_succ_self _) (Nat.lt_succ_of_lt li) (Nat.lt_succ_of_lt le) (fun h' tk c y1 y2 y3 => ⟨rfl, k h' tk c (fun b o x1 x2 z => y1 b o (Nat.ne_of_lt (Heap.lt_size z)) x1 x2 z) y2 y3⟩) n 0 _ s.toks _ (Nat.sub_zero _) (Nat.zero_le _) e5 s5 z5 k5 hS4 fun j hj => absurd hj (Nat.not_lt_zero _)
end
end RS
namespace RS
open PySem PySem.Spec L2 PyProof.Rows
/-- the list at S and the pairs behind it, tracked -/
def enH (H : Hp) (S : Addr) (b0 : Nat) (xs : List V) : Hp := fun b =>
  if b = S then some (.lst ((List.range xs.length).map fun j => V.ref (b0 + j)))
  else if b0 ≤ b then (match xs[b - b0]? with | some x => some (.tup [.int ((b - b0 : Nat) : Int), x]) | none => H b) else H b
theorem enH_S {H : Hp} {S : Addr} {b0 : Nat} {xs : List V} : enH H S b0 xs S = some (.lst ((List.range xs.length).map fun j => V.ref (b0 + j))) := by simp [enH]
theorem enH_at {H : Hp} {S : Addr} {b0 : Nat} {xs : List V} {j : Nat} {x : V} (hS : S < b0) (h : xs[j]? = some x) : enH H S b0 xs (b0 + j) = some (.tup [.int (j : Nat), x]) := by
  unfold enH
  rw [if_neg (Nat.ne_of_gt (Nat.lt_of_lt_of_le hS (Nat.le_add_right _ _))), if_pos (Nat.le_add_right _ _)]
  have e : b0 + j - b0 = j := by omega
  rw [e, h]
theorem enH_lo {H : Hp} {S : Addr} {b0 : Nat} {xs : List V} {b : Addr} (h1 : b ≠ S) (h2 : b < b0) : enH H S b0 xs b = H b := by
  unfold enH
  rw [if_neg h1, if_neg (Nat.not_le.mpr h2)]
/-- list(enumerate(x)) -/
def tListEnum (K : PySem.W.Frag) (ta : TA) : TE := fun σ H Q => ta σ H fun vs H1 => ∃ a xs, vs = [.ref a] ∧ (SqL K H1 a xs ∨ SqT K H1 a xs) ∧
  ∀ (p : Addr) (ts : List Addr) (H' : Hp), Same H1 H' → H1 p = none → H' p = some (.lst (ts.map V.ref)) → ts.length = xs.length → (∀ (j : Nat) (x : V), xs[j]? = some x → ∃ t, ts[j]? = some t ∧ H1 t = none ∧ H' t = some (.tup [.int (j : Nat), x])) → Q (.ref p) H'
section
variable {X : Cx} {K : PySem.W.Frag} {e : Expr} {ta : TA} {p p2 pos pos2 : Pos}
theorem en_laid {pins : List (Addr × Obj)} {σ : L2.St} {H : Hp} {s : Shared} {Q : VK} {h' : Heap} {tk c : Nat} {xs : List V} {its : List Value} {q : Nat} (I : Inv X pins σ H s) (r : Vals xs its) (hz : xs.length ≤ sizeLine) (lo : s.heap.objs.size ≤ q)
    (kp : ∀ b o, s.heap.get? b = some o → h'.get? b = some o) (hS : h'.get? q = some (lstO (refsR (q + 1) its.toArray.size).toArray c)) (la : Laid (fun i v => its.toArray[i]? = some v) (q + 1) its.toArray.size h')
    (k : ∀ (p : Addr) (ts : List Addr) (H' : Hp), Same H H' → H p = none → H' p = some (.lst (ts.map V.ref)) → ts.length = xs.length → (∀ (j : Nat) (x : V), xs[j]? = some x → ∃ t, ts[j]? = some t ∧ H t = none ∧ H' t = some (.tup [.int (j : Nat), x])) → Q (.ref p) H') :
    EP X pins σ Q (.ref q) { s with heap := h', toks := tk } := by
  have ln := r.length
  have fr : ∀ b : Nat, s.heap.objs.size ≤ b → H b = none := fun b hb => I.hok.fresh hb
  have lt : ∀ b o, H b = some o → b < q := fun b o z => by
    rcases Nat.lt_or_ge b s.heap.objs.size with y | y
    · exact Nat.lt_of_lt_of_le y lo
    · rw [fr b y] at z; cases z
  have ltH : ∀ b o, s.heap.get? b = some o → b < q := fun b o z => Nat.lt_of_lt_of_le (Heap.lt_size z) lo
  have sm : Same H (enH H q (q + 1) xs) := fun b o z => by rw [enH_lo (Nat.ne_of_lt (lt b o z)) (Nat.lt_succ_of_lt (lt b o z))]; exact z
  have szits : its.toArray.size = xs.length := by simp; omega
  have J : Inv X pins σ (enH H q (q + 1) xs) { s with heap := h', toks := tk } := by
    have U : Un X.fs [] H (enH H q (q + 1) xs) s.heap h' := {
      keep := fun b o z _ _ _ => kp b o z
      slot := fun b o z _ _ _ => ⟨o.slots, kp b o z⟩
      free := fun b o z n _ => by rw [enH_lo (Nat.ne_of_lt (ltH b o z)) (Nat.lt_succ_of_lt (ltH b o z))]; exact n
      there := fun b o z _ => ⟨o, kp b o z⟩
      tups := fun b ys z => sm _ _ z
      frzs := fun b o v z => sm _ _ z
      tbls := fun b ps z => ⟨#[], by rw [sm _ _ z]; simp⟩ }
    refine I.un (t' := tk) U fun b z hb => ?_
    by_cases h1 : b = q
    · subst h1
      rw [enH_S] at hb
      cases hb
      refine ⟨by rw [List.length_map, List.length_range]; exact hz, refsR (b + 1) its.toArray.size, c, ?_, hS⟩
      rw [szits]
      show Vals _ ((List.range xs.length).map _)
      generalize List.range xs.length = l
      induction l with
      | nil => exact .nil
      | cons a l ih => exact .cons rfl ih
    · by_cases h2 : q + 1 ≤ b
      · obtain ⟨j, rfl⟩ : ∃ j, b = q + 1 + j := ⟨b - (q + 1), (Nat.add_sub_cancel' h2).symm⟩
        cases hx : xs[j]? with
        | none =>
          unfold enH at hb
          rw [if_neg h1, if_pos h2] at hb
          have ej : q + 1 + j - (q + 1) = j := by omega
          rw [ej, hx] at hb
          rw [fr _ (by omega)] at hb
          cases hb
        | some x =>
          rw [enH_at (Nat.lt_succ_self _) hx] at hb
          cases hb
          have jl : j < xs.length := (List.getElem?_eq_some_iff.mp hx).1
          obtain ⟨t, u, hT, pu⟩ := la j (by rw [szits]; exact jl)
          obtain ⟨u', hu', ru⟩ := r.get hx
          have : u = u' := by simp only [List.getElem?_toArray] at pu; rw [hu'] at pu; exact (Option.some.inj pu).symm
          subst this
          exact ⟨by show 2 ≤ sizeLine; decide, [.int (j : Nat) t, u], .cons ⟨_, rfl⟩ (.cons ru .nil), ⟨_, hT, rfl, _, rfl⟩⟩
      · rw [enH_lo h1 (Nat.lt_of_not_le h2)] at hb
        exact (I.hok b z hb).stay (fun y v _ w' => kp y v w') (fun y hy => sm _ _ hy) fun y ys hy => sm _ _ hy
  refine ⟨.ref q, _, J, rfl, k q ((List.range xs.length).map fun j => q + 1 + j) _ sm (fr q lo) ?_ (by simp) fun j x hx => ?_⟩
  · rw [enH_S, List.map_map]; rfl
  · have jl : j < xs.length := (List.getElem?_eq_some_iff.mp hx).1
    exact ⟨q + 1 + j, by simp [jl], fr _ (by omega), enH_at (Nat.lt_succ_self _) hx⟩
theorem pe_listEnum (hm : X.mg "list" = none) (hm2 : X.mg "enumerate" = none) (ha : PA X [e] ta) (hc : X.calm = true := by rfl) (hg : Gl X "list" := by rfl) (hg2 : Gl X "enumerate" := by rfl) (hs2 : starEach [e] X.env = [(false, eval e X.env)] := by rfl)
    (hs : starEach [.Call (.Name "enumerate" p2) [e] [] pos2] X.env = (false, eval (.Call (.Name "enumerate" p2) [e] [] pos2) X.env) :: starEach [] X.env := by rfl) (hK : X.K = K := by rfl) :
    PE X (.Call (.Name "list" p) [.Call (.Name "enumerate" p2) [e] [] pos2] [] pos) (tListEnum K ta) := by
  subst hK
  refine ⟨fun pins s σ H Q I hq => ?_⟩
  refine wpAny_Call_Name_kw (ld_blt I hg hm bb_list ?_)
  refine PyProof.Rows.callWith_type1 ?_ hs rfl
  rw [hs]
  refine Calls.spliced_cons ?_
  refine Call_ (ld_blt I hg2 hm2 boot_enumerate (PyProof.Rows.callWith_type1 (thn (ha.run pos2 pins s σ H _ I hq) fun us s1 ⟨vs, H1, I1, r1, q1⟩ => ?_) hs2 rfl))
  obtain ⟨a, xs, rfl, hx, k⟩ := q1
  obtain ⟨u, rfl, ru⟩ := vals1 r1
  cases ru
  rcases hx with hx | hx
  · obtain ⟨its, rv, pl, hz⟩ := I1.list hx
    have hl := pl.isList
    have la : a < s1.heap.objs.size := by obtain ⟨o, z, _⟩ := hl; exact Heap.lt_size z
    refine call_enumB (begins_list a its.toArray) hl fun h' he hi z kp => Calls.spliced_nil ?_
    have al : a ≠ s1.heap.objs.size := Nat.ne_of_lt la
    refine list_enum (s := { s1 with heap := h' }) (dr_list (A := X.A.in1.in1.in1) (I.ok.hd hc) s1.heap.objs.size a al its.toArray) he ⟨⟨_, hi, rfl, rfl⟩, hl.at fun o x => kp _ _ x⟩ (Nat.succ_ne_self _) ?_ (by simp; have := rv.length; omega) ?_ ?_ fun h'' tk c kp2 hS la2 => ?_
    · simp only [List.mem_cons, List.not_mem_nil, or_false, not_or]
      exact ⟨Nat.succ_ne_self _, Nat.ne_of_gt (Nat.lt_succ_of_lt la)⟩
    · show s1.heap.objs.size < h'.objs.size; rw [z]; omega
    · intro b hb
      simp only [List.mem_cons, List.not_mem_nil, or_false] at hb
      show b < h'.objs.size
      rw [z]
      rcases hb with rfl | rfl
      · exact Nat.lt_succ_of_lt (Nat.lt_succ_self _)
      · exact Nat.lt_succ_of_lt (Nat.lt_succ_of_lt la)
    · have z' : h'.objs.size = s1.heap.objs.size + 2 := z
      exact en_laid (s := s1) (h' := h'') (tk := tk) (c := c) (q := h'.objs.size) I1 rv hz (by rw [z']; omega) (fun b o y => kp2 b o (Nat.ne_of_lt (Nat.lt_succ_of_lt (Heap.lt_size y))) (Nat.ne_of_lt (Heap.lt_size y)) (kp b o y)) hS la2 k
  · obtain ⟨its, rv, pl, hz⟩ := I1.tuple hx
    have hl : s1.heap.IsTuple a its.toArray := pl
    have la : a < s1.heap.objs.size := by obtain ⟨o, z, _⟩ := hl; exact Heap.lt_size z
    refine call_enumB (begins_tuple a its.toArray) hl fun h' he hi z kp => Calls.spliced_nil ?_
    have al : a ≠ s1.heap.objs.size := Nat.ne_of_lt la
    refine list_enum (s := { s1 with heap := h' }) (dr_tup (A := X.A.in1.in1.in1) (I.ok.hd hc) s1.heap.objs.size a al its.toArray) he ⟨⟨_, hi, rfl, rfl⟩, hl.at fun o x => kp _ _ x⟩ (Nat.succ_ne_self _) ?_ (by simp; have := rv.length; omega) ?_ ?_ fun h'' tk c kp2 hS la2 => ?_
    · simp only [List.mem_cons, List.not_mem_nil, or_false, not_or]
      exact ⟨Nat.succ_ne_self _, Nat.ne_of_gt (Nat.lt_succ_of_lt la)⟩
    · show s1.heap.objs.size < h'.objs.size; rw [z]; omega
    · intro b hb
      simp only [List.mem_cons, List.not_mem_nil, or_false] at hb
      show b < h'.objs.size
      rw [z]
      rcases hb with rfl | rfl
      · exact Nat.lt_succ_of_lt (Nat.lt_succ_self _)
      · exact Nat.lt_succ_of_lt (Nat.lt_succ_of_lt la)
    · have z' : h'.objs.size = s1.heap.objs.size + 2 := z
      exact en_laid (s := s1) (h' := h'') (tk := tk) (c := c) (q := h'.objs.size) I1 rv hz (by rw [z']; omega) (fun b o y => kp2 b o (Nat.ne_of_lt (Nat.lt_succ_of_lt (Heap.lt_size y))) (Nat.ne_of_lt (Heap.lt_size y)) (kp b o y)) hS la2 k
end
end RS
namespace RS
open PySem PySem.Spec L2
mutual
inductive Tr (H : Hp) : V → PyData → List Addr → Prop
  | non : Tr H .non .none []
  | bl (b : Bool) : Tr H (.bl b) (.bool b) []
  | int (i : Int) : Tr H (.int i) (.int i) []
  | str (x : Str) : Tr H (.str x) (.str x) []
  | lst {a : Addr} {xs : List V} {ds : List PyData} {fp : List Addr} (h : H a = some (.lst xs)) (hs : TrL H xs ds fp) (na : a ∉ fp) : Tr H (.ref a) (.list ds) (a :: fp)
  | tup {a : Addr} {xs : List V} {ds : List PyData} {fp : List Addr} (h : H a = some (.tup xs)) (hs : TrL H xs ds fp) : Tr H (.ref a) (.tuple ds) fp
  | dct {a : Addr} {kvs : List (Key × V)} {D : List (PyData × PyData)} {fp : List Addr} (h : H a = some (.dK kvs)) (hs : TrD H kvs D fp) (na : a ∉ fp) (nd : (kvs.map (·.1)).Nodup) : Tr H (.ref a) (.dict D) (a :: fp)
inductive TrL (H : Hp) : List V → List PyData → List Addr → Prop
  | nil : TrL H [] [] []
  | cons {v : V} {vs : List V} {d : PyData} {ds : List PyData} {f1 f2 : List Addr} (h : Tr H v d f1) (hs : TrL H vs ds f2) : TrL H (v :: vs) (d :: ds) (f1 ++ f2)
inductive TrD (H : Hp) : List (Key × V) → List (PyData × PyData) → List Addr → Prop
  | nil : TrD H [] [] []
  | cons {x : Str} {v : V} {kvs : List (Key × V)} {d : PyData} {D : List (PyData × PyData)} {f1 f2 : List Addr} (h : Tr H v d f1) (hs : TrD H kvs D f2) : TrD H ((.inr x, v) :: kvs) ((.str x, d) :: D) (f1 ++ f2)
end
mutual
theorem Tr.keep {H H' : Hp} {S : Addr → Prop} (hS : ∀ c, S c → ∀ xs, H c ≠ some (.tup xs)) (hk : ∀ c o, ¬ S c → H c = some o → H' c = some o) : ∀ {v : V} {d : PyData} {fp : List Addr}, Tr H v d fp → (∀ c ∈ fp, ¬ S c) → Tr H' v d fp
  | _, _, _, .non, _ => .non
  | _, _, _, .bl b, _ => .bl b
  | _, _, _, .int i, _ => .int i
  | _, _, _, .str x, _ => .str x
  | _, _, _, .lst h hs na, f => .lst (hk _ _ (f _ (List.mem_cons_self ..)) h) (hs.keep hS hk fun c hc => f c (List.mem_cons_of_mem _ hc)) na
  | _, _, _, .tup h hs, f => .tup (hk _ _ (fun z => hS _ z _ h) h) (hs.keep hS hk f)
  | _, _, _, .dct h hs na nd, f => .dct (hk _ _ (f _ (List.mem_cons_self ..)) h) (hs.keep hS hk fun c hc => f c (List.mem_cons_of_mem _ hc)) na nd
theorem TrL.keep {H H' : Hp} {S : Addr → Prop} (hS : ∀ c, S c → ∀ xs, H c ≠ some (.tup xs)) (hk : ∀ c o, ¬ S c → H c = some o → H' c = some o) : ∀ {vs : List V} {ds : List PyData} {fp : List Addr}, TrL H vs ds fp → (∀ c ∈ fp, ¬ S c) → TrL H' vs ds fp
  | _, _, _, .nil, _ => .nil
  | _, _, _, .cons h hs, f => .cons (h.keep hS hk fun c hc => f c (List.mem_append_left _ hc)) (hs.keep hS hk fun c hc => f c (List.mem_append_right _ hc))
theorem TrD.keep {H H' : Hp} {S : Addr → Prop} (hS : ∀ c, S c → ∀ xs, H c ≠ some (.tup xs)) (hk : ∀ c o, ¬ S c → H c = some o → H' c = some o) : ∀ {kvs : List (Key × V)} {D : List (PyData × PyData)} {fp : List Addr}, TrD H kvs D fp → (∀ c ∈ fp, ¬ S c) → TrD H' kvs D fp
  | _, _, _, .nil, _ => .nil
  | _, _, _, .cons h hs, f => .cons (h.keep hS hk fun c hc => f c (List.mem_append_left _ hc)) (hs.keep hS hk fun c hc => f c (List.mem_append_right _ hc))
end
theorem Tr.same {H H' : Hp} (s : Same H H') {v : V} {d : PyData} {fp : List Addr} (h : Tr H v d fp) : Tr H' v d fp := h.keep (S := fun _ => False) (fun _ z => z.elim) (fun c o _ z => s c o z) fun _ _ z => z
theorem TrL.same {H H' : Hp} (s : Same H H') {v : List V} {d : List PyData} {fp : List Addr} (h : TrL H v d fp) : TrL H' v d fp := h.keep (S := fun _ => False) (fun _ z => z.elim) (fun c o _ z => s c o z) fun _ _ z => z
theorem TrD.same {H H' : Hp} (s : Same H H') {v : List (Key × V)} {d : List (PyData × PyData)} {fp : List Addr} (h : TrD H v d fp) : TrD H' v d fp := h.keep (S := fun _ => False) (fun _ z => z.elim) (fun c o _ z => s c o z) fun _ _ z => z
/-- one place alone changes -/
theorem keep_one {H H' : Hp} {p : Addr} (n : ∀ xs, H p ≠ some (.tup xs)) (k : ∀ c o, c ≠ p → H c = some o → H' c = some o) : (∀ c, c = p → ∀ xs, H c ≠ some (.tup xs)) ∧ ∀ c o, ¬ c = p → H c = some o → H' c = some o := ⟨fun c e => by subst e; exact n, k⟩
theorem Tr.but {H H' : Hp} {p : Addr} {v : V} {d : PyData} {fp : List Addr} (h : Tr H v d fp) (n : ∀ xs, H p ≠ some (.tup xs)) (k : ∀ c o, c ≠ p → H c = some o → H' c = some o) (np : p ∉ fp) : Tr H' v d fp :=
  h.keep (S := fun c => c = p) (keep_one n k).1 k fun c hc e => np (e ▸ hc)
theorem TrL.but {H H' : Hp} {p : Addr} {v : List V} {d : List PyData} {fp : List Addr} (h : TrL H v d fp) (n : ∀ xs, H p ≠ some (.tup xs)) (k : ∀ c o, c ≠ p → H c = some o → H' c = some o) (np : p ∉ fp) : TrL H' v d fp :=
  h.keep (S := fun c => c = p) (keep_one n k).1 k fun c hc e => np (e ▸ hc)
theorem TrD.but {H H' : Hp} {p : Addr} {v : List (Key × V)} {d : List (PyData × PyData)} {fp : List Addr} (h : TrD H v d fp) (n : ∀ xs, H p ≠ some (.tup xs)) (k : ∀ c o, c ≠ p → H c = some o → H' c = some o) (np : p ∉ fp) : TrD H' v d fp :=
  h.keep (S := fun c => c = p) (keep_one n k).1 k fun c hc e => np (e ▸ hc)
mutual
theorem Tr.there {H : Hp} : ∀ {v : V} {d : PyData} {fp : List Addr}, Tr H v d fp → ∀ c ∈ fp, (∃ xs, H c = some (.lst xs)) ∨ ∃ kvs, H c = some (.dK kvs)
  | _, _, _, .non, _, h => by cases h
  | _, _, _, .bl _, _, h => by cases h
  | _, _, _, .int _, _, h => by cases h
  | _, _, _, .str _, _, h => by cases h
  | _, _, _, .lst h hs _, c, m => (List.mem_cons.mp m).elim (fun e => .inl ⟨_, e ▸ h⟩) (hs.there c)
  | _, _, _, .tup h hs, c, m => hs.there c m
  | _, _, _, .dct h hs _ _, c, m => (List.mem_cons.mp m).elim (fun e => .inr ⟨_, e ▸ h⟩) (hs.there c)
theorem TrL.there {H : Hp} : ∀ {vs : List V} {ds : List PyData} {fp : List Addr}, TrL H vs ds fp → ∀ c ∈ fp, (∃ xs, H c = some (.lst xs)) ∨ ∃ kvs, H c = some (.dK kvs)
  | _, _, _, .nil, _, h => by cases h
  | _, _, _, .cons h hs, c, m => (List.mem_append.mp m).elim (h.there c) (hs.there c)
theorem TrD.there {H : Hp} : ∀ {kvs : List (Key × V)} {D : List (PyData × PyData)} {fp : List Addr}, TrD H kvs D fp → ∀ c ∈ fp, (∃ xs, H c = some (.lst xs)) ∨ ∃ kvs, H c = some (.dK kvs)
  | _, _, _, .nil, _, h => by cases h
  | _, _, _, .cons h hs, c, m => (List.mem_append.mp m).elim (h.there c) (hs.there c)
end
mutual
theorem Tr.dp {K : PySem.W.Frag} {H : Hp} : ∀ {v : V} {d : PyData} {fp : List Addr}, Tr H v d fp → DpX K H v d
  | _, _, _, .non => .non
  | _, _, _, .bl b => .bl b
  | _, _, _, .int i => .int i
  | _, _, _, .str x => .str x
  | _, _, _, .lst h hs _ => .lst (SqL.of h) hs.dp
  | _, _, _, .tup h hs => .tup (SqT.of h) hs.dp
  | _, _, _, .dct h hs _ _ => .dct h hs.dp
theorem TrL.dp {K : PySem.W.Frag} {H : Hp} : ∀ {vs : List V} {ds : List PyData} {fp : List Addr}, TrL H vs ds fp → DpXs K H vs ds
  | _, _, _, .nil => .nil
  | _, _, _, .cons h hs => .cons h.dp hs.dp
theorem TrD.dp {K : PySem.W.Frag} {H : Hp} : ∀ {kvs : List (Key × V)} {D : List (PyData × PyData)} {fp : List Addr}, TrD H kvs D fp → DpXd K H kvs D
  | _, _, _, .nil => .nil
  | _, _, _, .cons h hs => .cons (k := .inr _) h.dp hs.dp
end
theorem TrL.len {H : Hp} : ∀ {vs : List V} {ds : List PyData} {fp : List Addr}, TrL H vs ds fp → vs.length = ds.length
  | _, _, _, .nil => rfl
  | _, _, _, .cons _ hs => by simp [hs.len]
theorem TrD.len {H : Hp} : ∀ {vs : List (Key × V)} {ds : List (PyData × PyData)} {fp : List Addr}, TrD H vs ds fp → vs.length = ds.length
  | _, _, _, .nil => rfl
  | _, _, _, .cons _ hs => by simp [hs.len]
theorem TrL.get {H : Hp} : ∀ {vs : List V} {ds : List PyData} {fp : List Addr}, TrL H vs ds fp → ∀ {i : Nat}, i < vs.length → ∃ v d f, vs[i]? = some v ∧ ds[i]? = some d ∧ Tr H v d f ∧ ∀ c ∈ f, c ∈ fp
  | _, _, _, .cons h _, 0, _ => ⟨_, _, _, rfl, rfl, h, fun c hc => List.mem_append_left _ hc⟩
  | _, _, _, .cons _ hs, i + 1, l => by
    obtain ⟨v, d, f, h1, h2, h3, h4⟩ := hs.get (i := i) (by simpa using l)
    exact ⟨v, d, f, by simpa using h1, by simpa using h2, h3, fun c hc => List.mem_append_right _ (h4 c hc)⟩
theorem TrD.get {H : Hp} : ∀ {vs : List (Key × V)} {ds : List (PyData × PyData)} {fp : List Addr}, TrD H vs ds fp → ∀ {i : Nat}, i < vs.length → ∃ x v d f, vs[i]? = some (.inr x, v) ∧ ds[i]? = some (.str x, d) ∧ Tr H v d f ∧ ∀ c ∈ f, c ∈ fp
  | _, _, _, .cons h _, 0, _ => ⟨_, _, _, _, rfl, rfl, h, fun c hc => List.mem_append_left _ hc⟩
  | _, _, _, .cons _ hs, i + 1, l => by
    obtain ⟨x, v, d, f, h1, h2, h3, h4⟩ := hs.get (i := i) (by simpa using l)
    exact ⟨x, v, d, f, by simpa using h1, by simpa using h2, h3, fun c hc => List.mem_append_right _ (h4 c hc)⟩
/-- a key's own value -/
theorem valV_at : ∀ {kvs : List (Key × V)} {i : Nat} {k : Key} {v : V}, (kvs.map (·.1)).Nodup → kvs[i]? = some (k, v) → valV kvs k = some v
  | (k', v') :: r, 0, k, v, nd, h => by
    cases h
    rw [vv_cons, if_pos rfl]
  | (k', v') :: r, i + 1, k, v, nd, h => by
    have h' : r[i]? = some (k, v) := by simpa using h
    have nd' := List.nodup_cons.mp nd
    have ne : k' ≠ k := fun e => nd'.1 (by
      have := List.mem_of_getElem? h'
      rw [e]
      exact List.mem_map.mpr ⟨_, this, rfl⟩)
    rw [vv_cons, if_neg ne]
    exact valV_at nd'.2 h'
  | [], _, _, _, _, h => by simp at h
theorem depth_all {ds : List PyData} : ∀ {d : PyData} {i : Nat}, ds[i]? = some d → d.depth ≤ PyData.depthAll ds := by
  induction ds with
  | nil => intro d i h; simp at h
  | cons x xs ih =>
    intro d i h
    cases i with
    | zero => cases h; simp only [PyData.depthAll]; omega
    | succ i => have := ih (by simpa using h); simp only [PyData.depthAll]; omega
theorem depth_kv {D : List (PyData × PyData)} : ∀ {k d : PyData} {i : Nat}, D[i]? = some (k, d) → d.depth ≤ PyData.depthKv D := by
  induction D with
  | nil => intro k d i h; simp at h
  | cons x xs ih =>
    obtain ⟨x1, x2⟩ := x
    intro k d i h
    cases i with
    | zero => cases h; simp only [PyData.depthKv]; omega
    | succ i => have := ih (by simpa using h); simp only [PyData.depthKv]; omega
end RS
namespace RS
open PySem PySem.Spec L2
section
variable {X : Cx}
def rIsT (Ts : List String) : List V → Hp → VK → Prop := fun xs H Q => match xs with
  | [x, .ref tp] => H tp = some (.tup (Ts.map V.ty)) ∧ ∃ t, tyN x H = some t ∧ Q (.bl (Ts.any (isB t))) H
  | _ => False
theorem clsV_tys : ∀ Ts : List String, Paired ClsV (Ts.map V.ty) (Ts.map Value.type)
  | [] => .nil
  | T :: Ts => .cons (.ty T) (clsV_tys Ts)
theorem kitAny_tys {K : PySem.W.Frag} {t : String} (m : t ∈ ["NoneType", "bool", "int", "str", "list", "tuple", "dict"]) : ∀ {Ts : List String}, (∀ T ∈ Ts, T ∈ ["bool", "int", "str", "list", "tuple", "dict", "float"]) → PySem.W.kitAny K (.type t) (Ts.map Value.type) = some (Ts.any (isB t))
  | [], _ => rfl
  | T :: Ts, h => by
    have e1 : PySem.W.kitOne K (.type t) (.type T) = some (isB t T) := kit_ty (kitB_tab t m T (h T (List.mem_cons_self ..)))
    have e2 := kitAny_tys (K := K) m fun T' hT => h T' (List.mem_cons_of_mem _ hT)
    show PySem.W.kitAny K (.type t) (.type T :: Ts.map Value.type) = _
    unfold PySem.W.kitAny
    rw [e1]
    cases hb : isB t T with
    | true => simp [hb]
    | false => simp only [List.any_cons, hb, Bool.false_or]; exact e2
theorem c_isT (Ts : List String) (hT : ∀ T ∈ Ts, T ∈ ["bool", "int", "str", "list", "tuple", "dict", "float"] := by decide) : CallR X (.builtin "isinstance") (rIsT Ts) := by
  intro pins s σ H xs us Q I r h
  unfold rIsT at h
  split at h
  · obtain ⟨h1, t, ht, q⟩ := h
    obtain ⟨ty, m⟩ := tyN_tyX (K := X.K) ht
    exact call_isiT pins s σ H _ us Q I r ⟨_, _, _, _, _, _, rfl, h1, clsV_tys Ts, ty, kitAny_tys m hT, q⟩
  · exact h.elim
theorem pi_or {tg e : Expr} {w1 w2 : TI} (h1 : PI X tg e w1) (h2 : PI X tg e w2) : PI X tg e (fun σ H R => w1 σ H R ∨ w2 σ H R) :=
  ⟨fun pins s σ H R I h => h.elim (h1.run pins s σ H R I) (h2.run pins s σ H R I)⟩
end
def kindN : PyData → String
  | .none => "NoneType"
  | .bool _ => "bool"
  | .int _ => "int"
  | .str _ => "str"
  | .list _ => "list"
  | .tuple _ => "tuple"
  | .dict _ => "dict"
theorem tyN_l {H : Hp} {a : Addr} {xs : List V} (h : H a = some (.lst xs)) : tyN (.ref a) H = some "list" := by simp [tyN, h]
theorem tyN_t {H : Hp} {a : Addr} {xs : List V} (h : H a = some (.tup xs)) : tyN (.ref a) H = some "tuple" := by simp [tyN, h]
theorem tyN_d {H : Hp} {a : Addr} {xs : List (Key × V)} (h : H a = some (.dK xs)) : tyN (.ref a) H = some "dict" := by simp [tyN, h]
theorem Tr.ty {H : Hp} {v : V} {d : PyData} {fp : List Addr} (h : Tr H v d fp) : tyN v H = some (kindN d) := by
  cases h with
  | non => rfl
  | bl b => rfl
  | int i => rfl
  | str x => rfl
  | lst h _ _ => exact tyN_l h
  | tup h _ => exact tyN_t h
  | dct h _ _ _ => exact tyN_d h
/-- a tree's value is no new place -/
theorem Tr.ne {H : Hp} {a p : Addr} {d : PyData} {fp : List Addr} (h : Tr H (.ref a) d fp) (n : H p = none) : a ≠ p := fun e => by
  cases h with
  | lst h _ _ => rw [e, n] at h; cases h
  | tup h _ => rw [e, n] at h; cases h
  | dct h _ _ _ => rw [e, n] at h; cases h
theorem tyN_same {H H' : Hp} {v : V} {t : String} (s : Same H H') (h : tyN v H = some t) : tyN v H' = some t := by
  cases v with
  | ref a =>
    unfold tyN at h ⊢
    simp only at h ⊢
    split at h <;> first | (cases h; done) | skip
    all_goals (rename_i e; rw [s _ _ e]; exact h)
  | _ => exact h
/-- isinstance(v, (..)): the tuple is laid -/
theorem isT_new {Ts : List String} {H : Hp} {v : V} {t : String} {p : Addr} {Q : VK} (ht : tyN v H = some t) (n : H p = none) (q : Q (.bl (Ts.any (isB t))) (upd H p (.tup (Ts.map V.ty)))) : rIsT Ts [v, .ref p] (upd H p (.tup (Ts.map V.ty))) Q :=
  ⟨upd_same, t, tyN_same (same_upd n) ht, q⟩
theorem lc_inv {J : It} {g : TG} {tt : TT} {te : TE} {vs : List Nat} {σ : L2.St} {H1 : Hp} {Qf : VK} (n : Nat) (Pv : Addr → Nat → List V → Hp → Prop) (hn : n ≤ sizeLine)
    (h0 : ∀ D, H1 D = none → Pv D 0 [] (upd H1 D (.lst []))) (hgo : ∀ D i acc H, H1 D = none → i < n → Pv D i acc H → J.go i H) (hst : ∀ D acc H, H1 D = none → Pv D n acc H → J.stop n H)
    (hs : ∀ D i acc H x H' (K : VK) (K0 : Hp → Prop), H1 D = none → i < n → acc.length ≤ i → Pv D i acc H → H D = some (.lst acc) → J.yld i H x H' → (∀ y H4, H4 D = some (.lst acc) → Pv D (i + 1) (acc ++ [y]) (upd H4 D (.lst (acc ++ [y]))) → K y H4) → (∀ H4, H4 D = some (.lst acc) → Pv D (i + 1) acc H4 → K0 H4) →
      g x (wipe σ vs) H' fun σ2 H2 => wipe σ2 vs = wipe σ vs ∧ tt σ2 H2 fun b H3 => if b = true then te σ2 H3 K else K0 H3)
    (hd : ∀ D acc H, H1 D = none → Pv D n acc H → H D = some (.lst acc) → Qf (.ref D) H) : LcB J g tt te vs σ H1 Qf := by
  intro D hD
  let W : Nat → Hp → Prop := fun i H => ∃ acc, acc.length ≤ i ∧ Pv D i acc H ∧ H D = some (.lst acc)
  refine ⟨fun i m H => m = n - i ∧ i ≤ n ∧ W i H, ⟨n, by omega, Nat.zero_le _, [], Nat.le_refl _, h0 D hD, upd_same⟩, ?_⟩
  rintro i m H ⟨rfl, hi, acc, la, pv, eD⟩
  by_cases lt : i < n
  · refine .inr ⟨hgo D i acc H hD lt pv, W (i + 1), fun H' w => ⟨n - (i + 1), by omega, rfl, lt, w⟩, fun x H' y => ?_⟩
    refine hs D i acc H x H' _ (W (i + 1)) hD lt la pv eD y (fun v H4 e4 p4 => ⟨acc, e4, by omega, acc ++ [v], by simp; omega, p4, upd_same⟩) fun H4 e4 p4 => ⟨acc, by omega, p4, e4⟩
  · have e : i = n := by omega
    subst e
    exact .inl ⟨hst D acc H hD pv, hd D acc H hD pv eD⟩
/-- .. where all are kept -/
theorem lc_invA {J : It} {g : TG} {te : TE} {vs : List Nat} {σ : L2.St} {H1 : Hp} {Qf : VK} (n : Nat) (Pv : Addr → Nat → List V → Hp → Prop) (hn : n ≤ sizeLine)
    (h0 : ∀ D, H1 D = none → Pv D 0 [] (upd H1 D (.lst []))) (hgo : ∀ D i acc H, H1 D = none → i < n → Pv D i acc H → J.go i H) (hst : ∀ D acc H, H1 D = none → Pv D n acc H → J.stop n H)
    (hs : ∀ D i acc H x H' (K : VK), H1 D = none → i < n → acc.length ≤ i → Pv D i acc H → H D = some (.lst acc) → J.yld i H x H' → (∀ y H4, H4 D = some (.lst acc) → Pv D (i + 1) (acc ++ [y]) (upd H4 D (.lst (acc ++ [y]))) → K y H4) →
      g x (wipe σ vs) H' fun σ2 H2 => wipe σ2 vs = wipe σ vs ∧ te σ2 H2 K)
    (hd : ∀ D acc H, H1 D = none → Pv D n acc H → H D = some (.lst acc) → Qf (.ref D) H) : LcB J g tYes te vs σ H1 Qf := by
  refine lc_inv n Pv hn h0 hgo hst (fun D i acc H x H' K K0 hD lt la pv eD y k _ => ?_) hd
  have e : (fun (σ2 : L2.St) (H2 : Hp) => wipe σ2 vs = wipe σ vs ∧ tYes σ2 H2 fun b H3 => if b = true then te σ2 H3 K else K0 H3) = fun σ2 H2 => wipe σ2 vs = wipe σ vs ∧ te σ2 H2 K := by
    funext σ2 H2
    simp only [tYes, if_true]
  rw [e]
  exact hs D i acc H x H' K hD lt la pv eD y k
def DcB (J : It) (g : TG) (tt : TT) (tk tv : TE) (vs : List Nat) (σ : L2.St) (H1 : Hp) (Q : VK) : Prop := ∀ D, H1 D = none → ∃ W : Nat → Nat → Hp → Prop, (∃ m, W 0 m (upd H1 D (.dK []))) ∧ ∀ i m H, W i m H →
  (J.stop i H ∧ Q (.ref D) H) ∨ (J.go i H ∧ ∃ Nx : Hp → Prop, (∀ H', Nx H' → ∃ m', m' < m ∧ W (i + 1) m' H') ∧ ∀ x H', J.yld i H x H' → g x (wipe σ vs) H' fun σ2 H2 => wipe σ2 vs = wipe σ vs ∧ tt σ2 H2 fun b H3 =>
    if b = true then tk σ2 H3 fun y H4 => tv σ2 H4 fun z H5 => ∃ kvs k, y = kV k ∧ H5 D = some (.dK kvs) ∧ kvs.length < sizeLine ∧ Nx (upd H5 D (.dK (putK kvs k z))) else Nx H3)
theorem tDc_eq (wi : TI) (g : TG) (tt : TT) (tk tv : TE) (vs : List Nat) (σ : L2.St) (H : Hp) (Q : VK) : tDc wi g tt tk tv vs σ H Q = wi σ H fun J H1 => DcB J g tt tk tv vs σ H1 Q := rfl
theorem dc_invA {J : It} {g : TG} {tk tv : TE} {vs : List Nat} {σ : L2.St} {H1 : Hp} {Qf : VK} (n : Nat) (Pv : Addr → Nat → List (Key × V) → Hp → Prop)
    (h0 : ∀ D, H1 D = none → Pv D 0 [] (upd H1 D (.dK []))) (hgo : ∀ D i acc H, H1 D = none → i < n → Pv D i acc H → J.go i H) (hst : ∀ D acc H, H1 D = none → Pv D n acc H → J.stop n H)
    (hs : ∀ D i acc H x H' (K : V → V → Hp → Prop), H1 D = none → i < n → Pv D i acc H → H D = some (.dK acc) → J.yld i H x H' → (∀ k z H5, H5 D = some (.dK acc) → acc.length < sizeLine → Pv D (i + 1) (putK acc k z) (upd H5 D (.dK (putK acc k z))) → K (kV k) z H5) →
      g x (wipe σ vs) H' fun σ2 H2 => wipe σ2 vs = wipe σ vs ∧ tk σ2 H2 fun y H4 => tv σ2 H4 fun z H5 => K y z H5)
    (hd : ∀ D acc H, H1 D = none → Pv D n acc H → H D = some (.dK acc) → Qf (.ref D) H) : DcB J g tYes tk tv vs σ H1 Qf := by
  intro D hD
  let W : Nat → Hp → Prop := fun i H => ∃ acc, Pv D i acc H ∧ H D = some (.dK acc)
  refine ⟨fun i m H => m = n - i ∧ i ≤ n ∧ W i H, ⟨n, by omega, Nat.zero_le _, [], h0 D hD, upd_same⟩, ?_⟩
  rintro i m H ⟨rfl, hi, acc, pv, eD⟩
  by_cases lt : i < n
  · refine .inr ⟨hgo D i acc H hD lt pv, W (i + 1), fun H' w => ⟨n - (i + 1), by omega, rfl, lt, w⟩, fun x H' y => ?_⟩
    have e : (fun (σ2 : L2.St) (H2 : Hp) => wipe σ2 vs = wipe σ vs ∧ tYes σ2 H2 fun b H3 => if b = true then tk σ2 H3 (fun y H4 => tv σ2 H4 fun z H5 => ∃ kvs k, y = kV k ∧ H5 D = some (.dK kvs) ∧ kvs.length < sizeLine ∧ W (i + 1) (upd H5 D (.dK (putK kvs k z)))) else W (i + 1) H3) =
        fun σ2 H2 => wipe σ2 vs = wipe σ vs ∧ tk σ2 H2 (fun y H4 => tv σ2 H4 fun z H5 => ∃ kvs k, y = kV k ∧ H5 D = some (.dK kvs) ∧ kvs.length < sizeLine ∧ W (i + 1) (upd H5 D (.dK (putK kvs k z)))) := by
      funext σ2 H2
      simp only [tYes, if_true]
    rw [e]
    exact hs D i acc H x H' _ hD lt pv eD y fun k z H5 e5 l5 p5 => ⟨acc, k, rfl, e5, l5, _, p5, upd_same⟩
  · have e : i = n := by omega
    subst e
    exact .inl ⟨hst D acc H hD pv, hd D acc H hD pv eD⟩
end RS
namespace RS
open PySem PySem.Spec L2
section
variable {X : Cx}
/-- d.update(another dict) -/
def rUpdate : V → List V → Hp → VK → Prop := fun x xs H Q => ∃ d o kvs more, x = .ref d ∧ xs = [.ref o] ∧ d ≠ o ∧ H d = some (.dK kvs) ∧ H o = some (.dK more) ∧ kvs.length + more.length ≤ sizeLine ∧ Q .non (upd H d (.dK (mergeK kvs more)))
end
end RS
namespace RS
open PySem PySem.Spec L2
/-- a def that takes any number of arguments -/
def FnS (g : Wd) (k : Nat) (f : Addr) (sp : Sp) : Prop :=
  ∀ (A : Around) (outer : List Env) (s : Shared) (H : Hp) (us : List Value) (vs : List V) (Q : VK) (E : XK), Room k A → A.guards = some [] → Env0 g.P g.w g.K g.mg g.base A outer s H → Vals vs us → sp vs H Q E → codeAny (model g.P g.w) A (.call (.ref f) ⟨us, []⟩) (CR (L2.CX g.P g.w) outer g.P g.w H s Q E) s
theorem FnS.mono {g : Wd} {j k : Nat} {f : Addr} {sp : Sp} (F : FnS g j f sp) (h : j ≤ k) : FnS g k f sp := fun A outer s H us vs Q E hr => F A outer s H us vs Q E (hr.mono h)
/-- the module's name x holds such a def -/
def KnS (g : Wd) (x : Str) (k : Nat) (sp : Sp) : Prop := ∃ f, g.mg x = some (.ref f) ∧ PySem.W.keepIn g.K (.ref f) = true ∧ FnS g k f sp
def spS (n : Nat) (sp : Sp) : Sp := fun vs H Q E => ∃ ws rest, vs = ws ++ rest ∧ ws.length = n ∧ rest.length ≤ sizeLine ∧ ∀ p, H p = none → sp (ws ++ [V.ref p]) (upd H p (.tup rest)) Q E
theorem Df.okS {g : Wd} {x qual pv : Str} {st : Stmt} {f : Addr} {fd : FuncData} {dV : Value} {N ps : List Str} {k : Nat} {sp : Sp} (F : Df g.K x qual st f fd dV) (S : FnScope N (ps ++ [pv]) (defScope st))
    (hb : ∀ us rest : List Value, us.length = ps.length → bindArgs fd ⟨us ++ rest, []⟩ = (newTuple rest >>= fun t => pure (ps.zip us ++ [(pv, t)])))
    (hbody : ∀ (cdv : Value) (A : Around) (outer : List Env) (s : Shared) (H : Hp) (vs : List V) (Q : VK) (E : XK), Rm k (cx g N qual st f cdv A outer s H E) → sp vs H Q E →
      ∃ t, PSs (cx g N qual st f cdv A outer s H E) (defBody st) t ∧ t { nx := fun _ H' => Q .non H', rt := Q } (start N vs) H) : FnS g (k + 1) f (spS ps.length sp) := by
  obtain ⟨oc, od, kV, doc, pm, an, cdv, ct, osl, rfl, lk, hcd⟩ := F.ex
  intro A outer s H us vs Q E hr hg e0 r hsp
  obtain ⟨ws, rest, rfl, hl, hz, hq⟩ := hsp
  obtain ⟨u1, u2, rfl, r1, r2⟩ := StX.vals_split r
  have nH : H s.heap.objs.size = none := e0.hok.fresh (Nat.le_refl _)
  have l1 : u1.length = ps.length := by rw [← r1.length]; exact hl
  have l2 : u2.length ≤ sizeLine := by rw [← r2.length]; exact hz
  refine StX.run_bnd lk hcd S hr e0 (G := fun ys G => ∃ p, H p = none ∧ ys = ws ++ [V.ref p] ∧ G = upd H p (.tup rest)) (fun A' Ex Q' k => ?_) fun s2 G ys z hr2 => ?_
  · rw [hb u1 u2 l1]
    refine wpAny_bind (wpAny_newTuple (wpAny_pure ?_) l2)
    have new : ObjOk g.P g.w (upd H s.heap.objs.size (.tup rest)) (s.heap.push { cls := .type "tuple", data := .seq u2.toArray }) s.heap.objs.size (.tup rest) := ⟨hz, u2, r2, ⟨_, Heap.get?_push_size _ rfl, rfl, _, rfl⟩⟩
    have U := StX.un_laid (fs := frs outer) (s := s) (o := { cls := .type "tuple", data := .seq u2.toArray }) (u := .tup rest) nH
    have y := k _ _ (ws ++ [V.ref s.heap.objs.size]) (u1 ++ [Value.ref s.heap.objs.size]) (StX.env0_laid e0 new) U rfl (fun e s' => StX.cxUp outer s H _ _ E e s' U (fun b o q => Heap.get?_push_of_some _ q) rfl) (r1.append (.cons rfl .nil)) (by simp [hl]) ⟨_, nH, rfl, rfl⟩
    rw [List.zip_append l1.symm] at y
    exact y
  · obtain ⟨p, hp, rfl, rfl⟩ := z
    exact hbody cdv A outer s2 _ _ Q E ⟨hr2, hg⟩ (hq p hp)
section
variable {g : Wd} {X : Cx} {k : Nat} {f : Addr} {sp : Sp} {W : WX} {x : Str} {p pos : Pos} {e : Expr} {es : List Expr} {t : TA}
theorem callS (a : At g X) (F : FnS g k f sp) (hr : Rm k X) (tk : Takes X W) {pins : List (Addr × Obj)} {σ : L2.St} {H : Hp} {s : Shared} {Q : VK} {us : List Value} {vs : List V} (I : Inv X pins σ H s) (r : Vals vs us) (h : sp vs H Q (fun c d H' => W c d σ H')) :
    wpAny (model X.prog X.w) X.A (call (.ref f) us) (EP X pins σ Q) X.xe s := by
  obtain ⟨P, w, K, mg, base⟩ := g
  obtain ⟨rfl, rfl, rfl, rfl, rfl⟩ := a
  refine wpAny_call (codeAny_mono (F X.A X.stack s H us vs Q _ hr.room hr.gd I.env0 r h) fun res s' hq => ?_)
  cases res with
  | error e => exact tk e s' (XE.of_call (E := fun c d H' => W c d σ H') I (fun _ _ _ z => z) hq)
  | ok fl => cases fl with
    | ret u => exact I.after hq
    | _ => exact hq.elim
def tCallS (sp : Sp) (W : WX) (t : TA) : TE := fun σ H Q => t σ H fun vs H1 => sp vs H1 Q (fun c d H' => W c d σ H')
theorem pe_callS (F : KnS g x k sp) (hr : Rm k X) (tk : Takes X W) (ha : PA X (e :: es) t) (hg : Gl X x := by rfl) (hdb : (x == ("__debug__" : Str)) = false := by decide)
    (he : starEach (e :: es) X.env = (false, eval e X.env) :: starEach es X.env := by rfl) (hpl : (backTo pos (starEach es X.env)).any (·.1) = false := by rfl) (a : At g X := by exact ⟨rfl, rfl, rfl, rfl, rfl⟩) :
    PE X (.Call (.Name x p) (e :: es) [] pos) (tCallS sp W t) := by
  obtain ⟨f, hm, hk, F⟩ := F
  refine ⟨fun pins s σ H Q I h => wpAny_Call_Name_kw (ld_glob I hg (by rw [a.mg]; exact hm) ?_ hdb)⟩
  refine PySem.W.callWith_K (h₀ := X.base) I.ok.mod.kin (by rw [a.K]; exact hk) (thn (ha.run pos pins s σ H _ I h) ?_) he hpl
  rintro us s1 ⟨vs, H1, I1, r, q⟩
  exact ⟨I1.kIn, callS a F hr tk I1 r q⟩
end
end RS
namespace RS
open PySem PySem.Spec L2
/-- the items of the tuple at a, each with its index in a new pair -/
def ItEt (K : PySem.W.Frag) (a : Addr) : It :=
  ⟨fun i H => ∃ (xs : List V) (x : V), SqT K H a xs ∧ xs[i]? = some x, fun i H v H' => ∃ T x, v = .ref T ∧ H T = none ∧ H' = upd H T (.tup [.int (i : Nat), x]) ∧ ∀ xs, SqT K H a xs → xs[i]? = some x, fun i H => ∃ xs : List V, SqT K H a xs ∧ xs.length = i⟩
theorem turn_enumT {P : Program} {w : World} {K : PySem.W.Frag} {elts : List Expr} {kk : Nat} {tpos : Pos} (a e it : Addr) :
    Turn P w K (.Tuple elts kk tpos) (ItEt K a) [e, it] e (fun i h => (∃ old, IsEnum h e it ((i : Nat) : Int) old) ∧ h.IsTupleIter it a i ∧ e ≠ it ∧ a ≠ it ∧ a ≠ e) where
  mem := List.mem_cons_self
  obj := by
    rintro i h ⟨⟨old, he⟩, ⟨o, ho, hc, hd⟩, _⟩ b hb
    rcases List.mem_cons.mp hb with rfl | hb
    · exact ⟨_, he, fun v q => nomatch q⟩
    · obtain rfl := List.mem_singleton.mp hb
      exact ⟨o, ho, fun v q => by rw [hd] at q; cases q⟩
  keep := by
    rintro i h h' ⟨⟨old, he⟩, ⟨o, ho, hr⟩, hne⟩ k
    exact ⟨⟨old, k e (by simp) _ he⟩, ⟨o, k it (by simp) o ho, hr⟩, hne⟩
  item := by
    intro X hP hw hK hc i pins s σ H E I hf st hg
    subst hP hw hK
    obtain ⟨⟨old, he⟩, hit, hne, nai, nae⟩ := st
    obtain ⟨xs, x, hq, hx⟩ := hg
    obtain ⟨its, rv, pl, hz⟩ := I.tuple hq
    obtain ⟨u0, hu0, ru0⟩ := rv.get hx
    have ln := rv.length
    have li : i < its.toArray.size := by have := (List.getElem?_eq_some_iff.mp hx).1; simp; omega
    have hel : e < s.heap.objs.size := Heap.lt_size he
    have hil : it < s.heap.objs.size := by obtain ⟨_, q, _⟩ := hit; exact Heap.lt_size q
    refine wpAny_pyNext_enum_itemD (Draws.tuple (A := X.A.in1) (I.ok.hd hc) it a nai its.toArray) he ⟨hit, pl⟩ li hne (by simp only [List.mem_cons, List.not_mem_nil, or_false, not_or]; exact ⟨hne, Ne.symm nae⟩) fun u h' tk hp ho hit' hT hsz hk => ?_
    have eu : u = u0 := by simp only [List.getElem?_toArray] at hp; rw [hu0] at hp; exact (Option.some.inj hp).symm
    subst eu
    refine ⟨_, rfl, wpAny_letOwnedTupleGo_enum (s := { s with heap := h', toks := tk + 1 }) ho fun h2 he' sb => ?_⟩
    have hT2 : h2.get? s.heap.objs.size = some { cls := .type "tuple", data := .seq #[.int i tk, u] } := (sb.2 _ (Nat.ne_of_gt hel)).trans hT
    have lay : ObjOk X.prog X.w (upd H s.heap.objs.size (.tup [.int (i : Nat), x])) h2 s.heap.objs.size (.tup [.int (i : Nat), x]) :=
      ⟨by show 2 ≤ sizeLine; decide, _, .cons ⟨_, rfl⟩ (.cons ru0 .nil), _, hT2, rfl, _, rfl⟩
    have keepB : ∀ b o, b ∉ [e, it] → s.heap.get? b = some o → h2.get? b = some o := fun b o hb q => by
      have n1 : b ≠ e := fun z => hb (by simp [z])
      have n2 : b ≠ it := fun z => hb (by simp [z])
      exact (sb.2 b n1).trans (hk b o n1 n2 q)
    have I1 := I.turnedNew (t' := tk + 1) keepB hf (Nat.le_refl _) lay
    refine ⟨.ref s.heap.objs.size, _, I1, rfl, ⟨_, x, rfl, I.hok.fresh (Nat.le_refl _), rfl, fun ys hy => by rw [I.tuple_inj hy hq]; exact hx⟩, ⟨⟨_, by simpa using he'⟩, ?_, hne, nai, nae⟩, fun b hb => ?_⟩
    · obtain ⟨o, ho2, hr⟩ := hit'.1
      exact ⟨o, (sb.2 it (Ne.symm hne)).trans ho2, hr⟩
    · have lt : b < s.heap.objs.size := by
        rcases List.mem_cons.mp hb with rfl | hb
        · exact hel
        · rw [List.mem_singleton.mp hb]; exact hil
      rw [upd_ne (Nat.ne_of_lt lt)]
      exact (hf b hb).1
  done := by
    intro X hP hw hK hc i pins s σ H E I hf st hg
    subst hP hw hK
    obtain ⟨⟨old, he⟩, hit, hne, nai, nae⟩ := st
    obtain ⟨xs, hq, rfl⟩ := hg
    obtain ⟨its, rv, pl, hz⟩ := I.tuple hq
    have ln := rv.length
    obtain ⟨f0, f1, f2, f3, f4, f5⟩ := hf it (by simp)
    refine wpAny_pyNext_enum_endD (Draws.tuple (A := X.A.in1) (I.ok.hd hc) it a nai its.toArray) he (by rw [show its.toArray.size = xs.length by simp; omega]; exact ⟨hit, pl⟩) fun h' eb => ⟨rfl, ?_⟩
    exact I.turned (t' := s.toks) (fun b o hb q => eb b o hb q) f0 f1 f3 f4 f5
  self := fun A i s Q E st h => let ⟨⟨_, he⟩, _⟩ := st; wpAny_pyIter_enum he h
def iEnumT (K : PySem.W.Frag) (ta : TA) : TI := fun σ H R => ta σ H fun vs H1 => ∃ a xs, vs = [.ref a] ∧ SqT K H1 a xs ∧ R (ItEt K a) H1
theorem pi_enumT {X : Cx} {K : PySem.W.Frag} {e : Expr} {ta : TA} {p pos tpos : Pos} {elts : List Expr} {kk : Nat} (hm : X.mg "enumerate" = none) (ha : PA X [e] ta) (hg : Gl X "enumerate" := by rfl) (hs : starEach [e] X.env = [(false, eval e X.env)] := by rfl) (hK : X.K = K := by rfl) :
    PI X (.Tuple elts kk tpos) (.Call (.Name "enumerate" p) [e] [] pos) (iEnumT K ta) := by
  subst hK
  refine ⟨fun pins s σ H R I h => ?_⟩
  refine PyProof.Rows.Call_ (ld_blt I hg hm PyProof.Rows.boot_enumerate (PyProof.Rows.callWith_type1 (thn (ha.run pos pins s σ H _ I h) ?_) hs rfl))
  rintro us s1 ⟨vs, H1, I1, r1, a, xs, rfl, hx, q⟩
  obtain ⟨u, rfl, ru⟩ := vals1 r1
  cases ru
  obtain ⟨its, rv, pl, hz⟩ := I1.tuple hx
  have la : a < s1.heap.objs.size := by obtain ⟨o, z, _⟩ := pl; exact Heap.lt_size z
  refine call_enumB (begins_tuple a its.toArray) pl fun h' he hi z hk => wpAny_pyIter_enum he ?_
  refine ⟨s1.heap.objs.size + 1, [s1.heap.objs.size + 1, s1.heap.objs.size], _, _, H1, rfl, I1.kept (t' := s1.toks) hk, turn_enumT a _ _, ⟨⟨.none, he⟩, ⟨_, hi, rfl, rfl⟩, Nat.succ_ne_self _, Nat.ne_of_lt la, Nat.ne_of_lt (Nat.lt_succ_of_lt la)⟩, fun b hb => ?_, q⟩
  have le : s1.heap.objs.size ≤ b := by
    rcases List.mem_cons.mp hb with rfl | hb
    · exact Nat.le_succ _
    · rw [List.mem_singleton.mp hb]; exact Nat.le_refl _
  exact I1.fpOk le (I1.hok.fresh le)
end RS
namespace RS
open PySem PySem.Spec L2 PySem.W
section
variable {g : Wd} {X : Cx} {C : Addr} {x f : Str} {e : Expr} {t : TA} {p pos : Pos}
def tPm1 (C : Addr) (f : Str) (t : TA) : L2.St → Hp → XK → Prop := fun σ H Q => t σ H fun vs H1 => ∃ v, vs = [v] ∧ ∀ dy, H1 dy = none → Q (.ref C) (some dy) (upd H1 dy (.xd [(f, v)]))
theorem pmk_x1 (F : XK1 g x C f) (R : Raises X (.ref C)) (hr : Rm 2 X) (ha : PA X [e] t) (hg : Gl X x := by rfl) (hdb : (x == ("__debug__" : Str)) = false := by decide)
    (he : starEach [e] X.env = (false, eval e X.env) :: starEach [] X.env := by rfl) (hpl : (backTo pos (starEach [] X.env)).any (·.1) = false := by rfl) (a : At g X := by exact ⟨rfl, rfl, rfl, rfl, rfl⟩) :
    PMk X (.Call (.Name x p) [e] [] pos) (tPm1 C f t) := by
  obtain ⟨hm, ms, kp, hd, sa, nf, fI, cda, cc, qual, st, B, newId, initId, bmB, xp, XX, Y⟩ := F
  intro pins s σ H Q I h
  refine wpAny_Call_Name_kw (ld_glob I hg (by rw [a.mg]; exact hm) ?_ hdb)
  refine PySem.W.callWith_K (h₀ := X.base) I.ok.mod.kin (by rw [a.K]; exact kp) (thn (ha.run pos pins s σ H _ I h) ?_) he hpl
  rintro us s1 ⟨vs, H1, I1, r, v, rfl, q⟩
  obtain ⟨u, rfl, ru⟩ := vals1 r
  refine ⟨I1.kIn, ?_⟩
  have KI := I1.kIn
  rw [a.K] at KI
  obtain ⟨nm, N', qn, bs, bm, hdct, sn, sub, ab, col, dd, k0, k1, k2, k3, k5, hC, hT⟩ := excInit_of KI XX.q
  obtain ⟨oc, od, kV, doc, pm, an, ct, osl, lk⟩ := XX.lk
  have hfn : oc = .type "function" := by
    have z := XX.fn
    unfold typeIn at z
    simp only [lk] at z
    simpa using z
  have hglob : s1.heap.Ns mainGlobals g.mg := by rw [← a.mg]; exact I1.mod.glob.keeps I1.bk
  obtain ⟨mb, hblt, bb⟩ := I1.mod.blt
  have hblt2 := hblt.keeps I1.bk
  have hlim := I1.nolimit
  have bare := I1.bare
  obtain ⟨hp, gg, dr, tt, oo⟩ := s1
  have up : ∀ b o, hp.get? b = some o → ((hp.push (kdv_tup [u])).push (HandSPX.excO C hp.objs.size)).get? b = some o := fun b o z => Heap.get?_push_of_some _ (Heap.get?_push_of_some _ z)
  have hget : ((hp.push (kdv_tup [u])).push (HandSPX.excO C hp.objs.size)).get? (hp.objs.size + 1) = some (HandSPX.excO C hp.objs.size) := by heap_get
  refine wpAny_call (HandSPX.call_own XX.FB hT hC (looks_findIn KI XX.ini) (fun self => exc_bind (KI _ _ lk) hfn self) (by rw [sizeLine_eq]; simp) ?_)
  rw [a.P]
  refine xinit1 XX Y hd sa nf (fun b o z => up b o (KI b o z)) ?_ (hr.here.make C [u] []).room.depth (hlim.keeps up) hget (hglob.keeps up) ms (hblt2.keeps up) bb fun h' t1 dx tk k ldx nex e' n' => ⟨rfl, ?_⟩
  · cases z : g.K.lookup (hp.objs.size + 1) with
    | none => rfl
    | some o => exact absurd (Heap.lt_size (KI _ _ z)) (by show ¬ hp.objs.size + 1 < hp.objs.size; omega)
  have old : ∀ {b : Addr} {o : Obj}, hp.get? b = some o → b ≠ hp.objs.size + 1 := fun {b o} z y => by
    have := Heap.lt_size z
    rw [y] at this
    exact absurd this (by show ¬ hp.objs.size + 1 < hp.objs.size; omega)
  have k' : ∀ b o, hp.get? b = some o → h'.get? b = some o := fun b o z => k b o (old z) (up b o z)
  have ld2 : hp.objs.size + 2 ≤ dx := by
    have e2 : ((hp.push (kdv_tup ([] ++ [u]))).push (HandSPX.excO C hp.objs.size)).objs.size = hp.objs.size + 2 := by simp [Heap.size_push]
    rw [e2] at ldx
    exact ldx
  have n2 : hp.get? dx = none := by
    cases z : hp.get? dx with
    | none => rfl
    | some o => exact absurd (Heap.lt_size z) (by show ¬ dx < hp.objs.size; omega)
  have f1 : H1 (hp.objs.size + 1) = none := I1.hok.fresh (Nat.le_succ _)
  have f2 : H1 dx = none := I1.hok.fresh (by show hp.objs.size ≤ dx; omega)
  obtain ⟨G, g1, g2⟩ := restrict h' fun b => decide (b ≠ hp.objs.size + 1)
  have gk : ∀ b, b ≠ hp.objs.size + 1 → G.get? b = h'.get? b := fun b hb => g1 b (decide_eq_true hb)
  have ge : G.get? (hp.objs.size + 1) = none := g2 _ (by simp)
  have J := Inv.laidN (t' := tk) (a := dx) (o := HO.xd [(f, v)]) (h' := G) I1 (fun b o z => by rw [gk b (old z)]; exact k' b o z) n2 f2 ⟨_, n'.at fun o y => (gk dx nex).trans y, relO_put (fs := []) ru fun _ => True.intro⟩
  refine ⟨hp.objs.size + 1, _, _, _, _, .ref C, some dx, rfl, J, fun b o z => ?_, ge, e', ⟨rfl, rfl⟩, rfl, rfl, ?_, rfl, bare, R, q dx f2⟩
  · by_cases hb : b = hp.objs.size + 1
    · rw [hb] at z
      have z' : G.get? (hp.objs.size + 1) = some o := z
      rw [ge] at z'; cases z'
    · exact (gk b hb).symm.trans z
  · rw [upd_ne (Ne.symm nex)]; exact f1
end
end RS
namespace RS
open PySem PySem.Spec L2 PyProof.Rows
/-- a pattern that binds nothing, over a text -/
structure PPt (X : Cx) (p : Pattern) (m : Str → Bool) : Prop where
  run : ∀ (pins : List (Addr × Obj)) (s : Shared) (σ : L2.St) (H : Hp) (x : Str) (tk : Tok) (Q : Option (List (Str × Value)) → Shared → Prop), Inv X pins σ H s → (∀ s', Inv X pins σ H s' → Q (if m x = true then some [] else none) s') → wpAny (model X.prog X.w) X.A (matchPattern p X.env (.str x tk)) Q X.xe s
section
variable {X : Cx} {e : Expr} {te : TE} {pos : Pos} {p : Pattern} {ps : List Pattern} {m : Str → Bool} {body : List Stmt} {cs : List MatchCase} {tb : TS} {t : V → TS}
/-- some patterns that bind nothing -/
structure PPs (X : Cx) (ps : List Pattern) (m : Str → Bool) : Prop where
  run : ∀ (pins : List (Addr × Obj)) (s : Shared) (σ : L2.St) (H : Hp) (x : Str) (tk : Tok) (Q : Option (List (Str × Value)) → Shared → Prop), Inv X pins σ H s → (∀ s', Inv X pins σ H s' → Q (if m x = true then some [] else none) s') → wpAny (model X.prog X.w) X.A (matchFirst ps X.env (.str x tk)) Q X.xe s
theorem pps_nil : PPs X [] (fun _ => false) := ⟨fun pins s σ H x tk Q I h => wpAny_matchFirst_nil (h s I)⟩
theorem pps_cons {m' : Str → Bool} (hp : PPt X p m) (hs : PPs X ps m') : PPs X (p :: ps) (fun x => m x || m' x) := by
  refine ⟨fun pins s σ H x tk Q I h => ?_⟩
  refine wpAny_matchFirst_cons (hp.run pins s σ H x tk _ I fun s1 I1 => ?_)
  cases hm : m x with
  | true =>
    have := h s1 I1
    simp only [hm, Bool.true_or, if_true] at this
    exact this
  | false =>
    refine hs.run pins s1 σ H x tk Q I1 fun s2 I2 => ?_
    have := h s2 I2
    simpa only [hm, Bool.false_or] using this
end
end RS
namespace RS
open PySem PySem.Spec L2 PyProof.Rows
end RS
namespace RS
open PySem PySem.Spec L2 PyProof.Rows
/-- an object that came to be behind the entry is known from now on -/
theorem track {X : Cx} {pins : List (Addr × Obj)} {σ : L2.St} {H : Hp} {s : Shared} {a : Addr} {u : HO} (I : Inv X pins σ H s) (na : H a = none) (n0 : X.s_0.heap.get? a = none) (nL : a ≠ X.env.locals)
    (nc : ∀ x c, X.env.cells.lookup x = some c → c ≠ a) (np : ∀ p ∈ X.pn ++ pins, p.1 ≠ a) (ok : ObjOk X.prog X.w (upd H a u) s.heap a u) : Inv X pins σ (upd H a u) s where
  ok := I.ok
  os := I.os
  bare := I.bare
  base := {
    keep := I.base.keep
    slot := I.base.slot
    free := fun b o q n hx => by rw [upd_ne (fun z => by rw [z, n0] at q; cases q)]; exact I.base.free b o q n hx
    there := I.base.there
    tups := fun b xs q => by
      have z := I.base.tups b xs q
      rw [upd_ne (ne_of_none z na)]; exact z
    frzs := fun b o v q => by
      have z := I.base.frzs b o v q
      rw [upd_ne (ne_of_none z na)]; exact z
    tbls := fun b ps q => by
      obtain ⟨m, z⟩ := I.base.tbls b ps q
      exact ⟨m, by rw [upd_ne (ne_of_none z na)]; exact z⟩ }
  loc := I.loc
  cell := I.cell
  free := by rw [upd_ne (Ne.symm nL)]; exact I.free
  freeC := fun x c q => by rw [upd_ne (nc x c q)]; exact I.freeC x c q
  pin := fun p hp => by
    obtain ⟨e1, e2, e3⟩ := I.pin p hp
    exact ⟨e1, by rw [upd_ne (np p hp)]; exact e2, e3⟩
  hok := fun b o q => by
    by_cases hb : b = a
    · subst hb
      rw [upd_same] at q
      cases q
      exact ok
    · rw [upd_ne hb] at q
      exact (I.hok b o q).stay (fun _ _ _ z => z) (fun y hy => by rw [upd_ne (ne_of_none hy na)]; exact hy) (fun y xs hy => by rw [upd_ne (ne_of_none hy na)]; exact hy)
  len := I.len
theorem sky_none {B : Heap} {l : List Env} {a L : Addr} {Z : Obj → Prop} {h : Heap} (x : Sky B l a Z L h) : B.get? a = none := by
  rcases x with x | x | x
  · exact x.2.1
  · exact x.2.1
  · exact x.2.1
end RS
namespace RS
open PySem PySem.Spec L2 PyProof.Rows LamX
/-- within the context Z, entered with the lambda at f in the slot 0: a() does what tl says -/
def Acts (Z : Cx) (a : Str) (f c' : Addr) (q : Str) (tl : XK → Hp → VK → Prop) : Prop :=
  ∀ (W : WX) (pn : List (Addr × Obj)) (xe : Value → Shared → Prop) (p1 p2 : Pos), Takes (Z.tr pn xe) W →
    PE (Z.tr pn xe) (.Call (.Name a p1) [] [] p2) (fun σZ HZ Q => σZ[0]? = some (some (.ref f)) ∧ HZ c' = some (CodeO c' q) ∧ tl (fun cls d H' => W cls d σZ H') HZ Q)
/-- the module's name x holds a def with one parameter a, which it calls; TT: what it makes of the lambda's reading -/
structure Told (g : Wd) (k : Nat) (x : Str) (TT : Addr → Str → (XK → Hp → VK → Prop) → Hp → VK → Prop) : Prop where
  ex : ∃ (st : Stmt) (gf : Addr) (fd : FuncData) (a : Str) (N : List Str), g.mg x = some (.ref gf) ∧ Df g.K x x st gf fd .none ∧ Binds g.K fd [a] [] ∧ FnScope N [a] (defScope st) ∧ N[0]? = some a ∧ Vis (defScope st) a ∧ (a == ("__debug__" : Str)) = false ∧ (a == ("__classdict__" : Str)) = false ∧
    ∀ (cdv : Value) (A : Around) (outer : List Env) (s : Shared) (H : Hp) (Q : VK) (f c' : Addr) (q : Str) (tl : XK → Hp → VK → Prop), Rm k (cx g N x st gf cdv A outer s H fun _ _ _ => False) →
      Acts (cx g N x st gf cdv A outer s H fun _ _ _ => False) a f c' q tl → H c' = some (CodeO c' q) → TT c' q tl H Q →
      ∃ t, PSs (cx g N x st gf cdv A outer s H fun _ _ _ => False) (defBody st) t ∧ t { nx := fun _ H' => Q .non H', rt := Q } (start N [.ref f]) H
section
variable {X : Cx} {pins : List (Addr × Obj)} {σ : L2.St} {H : Hp} {s : Shared}
/-- the lambda at f, run from the frames of Z -/
theorem lam_run {f c' : Addr} {pm ctv : Value} {params : Arguments} {body : Expr} {scope : Scope} {k : Nat} {E : XK} {tb : TE} {A : Around} {outer : List Env} {s1 : Shared} {HZ : Hp} {Q : VK}
    (I : Inv X pins σ H s) (L : LamS X.env.scope scope) (hc : HZ c' = some (CodeO c' (X.env.qual ++ "<lambda>"))) (e0 : Env0 X.prog X.w X.K X.mg X.base A outer s1 HZ) (lim : s1.heap.NoLimit)
    (of1 : s1.heap.get? f = some (PySem.W.kla_obj "<lambda>" (X.env.qual ++ "<lambda>") params body scope (cloFrom X.env.cells scope.names []) pm c' ctv)) (un : Un (frs X.stack) [] H HZ s.heap s1.heap)
    (hbind : bindArgs (PySem.W.kla_fn "<lambda>" (X.env.qual ++ "<lambda>") params body scope (cloFrom X.env.cells scope.names []) pm (.ref c') ctv) ⟨[], []⟩ = pure []) (hr : Room (k + 1) A) (gd : A.guards = some [])
    (hbody : Rm k (lamCx X A outer s1 HZ E scope f c') → PE (lamCx X A outer s1 HZ E scope f c') body tb) (ht : tb σ HZ Q) :
    codeAny (model X.prog X.w) A (.call (.ref f) ⟨[], []⟩) (CR (L2.CX X.prog X.w) outer X.prog X.w HZ s1 Q E) s1 := by
  obtain ⟨⟨oc, vs, t, hoc, hdc, hvc⟩, _, _⟩ := e0.hok c' _ hc
  refine PySem.W.kla_callFunE hr.depth of1 rfl L.co L.gen rfl ⟨c', oc, vs, t, rfl, hoc, hdc, hvc⟩ ?_
  rw [hbind]
  refine wpAny_pure (wpAny_newFunctionEnv (fun y hy => (L.own y hy).2) (fun y hy => absurd hy (by simp)) (fun h₁ hns hsb => ⟨lim.fresh _ hsb, ?_⟩) L.kind)
  show codeAny _ _ (.expr body (lamEnv X scope s1.heap.objs.size f c')) _ _
  have kp : ∀ b o, s1.heap.get? b = some o → h₁.get? b = some o := fun b o q => hsb.extBut b o (Nat.ne_of_lt (Heap.lt_size q)) (Heap.get?_push_of_some _ q)
  have J := lam_start2 (E := E) (f := f) (c' := c') (tk := s1.toks + ([] : List (Str × Value)).length) I L e0 hr.hd un hns kp
  have P := hbody ⟨hr.deeper _, gd⟩
  refine PySem.W.kla_codeExpr (wpAny_mono (P.run [] _ _ HZ Q J ht) (fun v s' hq => ?_) fun e s' hq => hq)
  obtain ⟨w', H', J', rv, q⟩ := hq
  exact ⟨w', H', J'.os, J'.bare, J'.base, J'.hok, rv, q⟩
def tLamG (T : List (Addr × Str)) (TT : Addr → Str → (XK → Hp → VK → Prop) → Hp → VK → Prop) (q : Str) (t : XK → TE) : TE := fun σ H Q => Tabs T H ∧ ∀ c' H1, ExtN H H1 → Tabs T H1 → H1 c' = some (CodeO c' q) → TT c' q (fun E H' Q' => t E σ H' Q') H1 Q
/-- x(lambda: body) -/
theorem pe_lamG {g : Wd} {T : List (Addr × Str)} {TT : Addr → Str → (XK → Hp → VK → Prop) → Hp → VK → Prop} {x : Str} {c P : Addr} {k : Nat} {params : Arguments} {body : Expr} {scope : Scope} {t : XK → TE} {p lpos pos : Pos}
    (F : Told g (k + 1) x TT) (hr : Rm (k + 2) X) (TB : TabB X.base X.mg c P) (hcode : X.env.code = .ref c) (hmT : (P, X.env.qual ++ "<lambda>") ∈ T) (hu : ∀ p ∈ T, p.1 = P → p.2 = X.env.qual ++ "<lambda>")
    (L : LamS X.env.scope scope) (hdef : defaultsOf params X.env = ([], []))
    (hbind : ∀ (q : Str) (cl : List (Str × Addr)) (pm cv ctv : Value), bindArgs (PySem.W.kla_fn "<lambda>" q params body scope cl pm cv ctv) ⟨[], []⟩ = pure [])
    (hbody : ∀ (A : Around) (outer : List Env) (s : Shared) (H : Hp) (E : XK) (f c' : Addr), Rm k (lamCx X A outer s H E scope f c') → PE (lamCx X A outer s H E scope f c') body (t E))
    (hg : Gl X x := by rfl) (hdb : (x == ("__debug__" : Str)) = false := by decide) (at_ : At g X := by exact ⟨rfl, rfl, rfl, rfl, rfl⟩) :
    PE X (.Call (.Name x p) [.Lambda params body scope lpos] [] pos) (tLamG T TT (X.env.qual ++ "<lambda>") t) := by
  refine ⟨fun pins s σ H Q I h => ?_⟩
  obtain ⟨hT, h⟩ := h
  obtain ⟨st, gf, fd, a, N, hm, DF, hb, Sg, hN0, hva, hd1, hd2, body_⟩ := F.ex
  obtain ⟨oc, od, kV, doc, pm0, an, cdv, ct, osl, rfl, lk, hcd⟩ := DF.ex
  have hm' : X.mg x = some (.ref gf) := by rw [at_.mg]; exact hm
  refine wpAny_Call_Name_kw (ld_glob I hg hm' ?_ hdb)
  refine PySem.W.callWith_K (h₀ := X.base) I.ok.mod.kin (by rw [at_.K]; exact DF.kp) ?_ (by rfl) (by rfl)
  show wpAny _ _ (spliced ((false, eval (.Lambda params body scope lpos) X.env) :: backTo pos (starEach [] X.env))) _ _ s
  refine Calls.spliced_cons (lam_make2 I TB hcode hmT hu hT hdef (L.has I.ok) fun f c' pm' ctv H1 s' I1 eN T1 hf hfn hfr hco => ?_)
  refine Calls.spliced_nil ⟨I1.kIn, ?_⟩
  have KX := I1.kIn
  rw [at_.K] at KX
  have rc : codeAny (model X.prog X.w) X.A (.call (.ref gf) ⟨[.ref f], []⟩) (CR (L2.CX X.prog X.w) X.stack X.prog X.w H1 s' Q fun _ _ _ => False) s' := by
    obtain ⟨P0, w0, K0, mg0, base0⟩ := g
    obtain ⟨rfl, rfl, rfl, rfl, rfl⟩ := at_
    refine run_ofS (N := N) (ps := [a]) (us := [.ref f]) (vs := [.ref f]) lk hcd Sg hr.room I1.env0 (hb s' [.ref f] I1.kIn rfl) (.cons rfl .nil) rfl fun hr' => ?_
    refine body_ cdv X.A X.stack s' H1 Q f c' (X.env.qual ++ "<lambda>") (fun E H' Q' => t E σ H' Q') ⟨hr', hr.gd⟩ (fun W pn xe p1 p2 tk => ⟨fun pinsZ sZ σZ HZ Q IZ hz => ?_⟩) hco (h c' H1 eN T1 hco)
    obtain ⟨hs, hc, ht⟩ := hz
    refine wpAny_Call_Name_kw (thn ((pe_var (pos := p1) (i := 0) hN0 hva hd1 hd2).run pinsZ sZ σZ HZ (fun v H1 => v = .ref f ∧ H1 = HZ) IZ ⟨.ref f, hs, rfl, rfl⟩) fun u s1 ⟨v, H2, I2, r2, q2⟩ => ?_)
    obtain ⟨ev, eH⟩ := q2
    subst ev
    rw [eH] at I2
    obtain rfl : u = Value.ref f := r2
    have of1 := I2.base.keep f _ hf hfn hfr (fun z => nomatch (show f ∈ ([] : List Addr) from z))
    refine PySem.W.callWith_F0 ⟨_, _, _, _, of1⟩ ?_
    have un : Un (frs X.stack) [] H1 HZ s'.heap s1.heap := I2.base
    have rl := lam_run (X := X) (k := k) (E := fun cls d H' => W cls d σZ H') (A := X.A.deeper (envOfC x (defScope st) s'.heap.objs.size gf cdv)) (outer := envOfC x (defScope st) s'.heap.objs.size gf cdv :: X.stack) (s1 := s1) (Q := Q) I1 L hc I2.env0 I2.nolimit of1 un (hbind _ _ _ _ _) hr' hr.gd (hbody _ _ _ _ _ _ _) ht
    refine wpAny_call (codeAny_mono rl fun r s2 hq => ?_)
    cases r with
    | error e => exact tk e s2 (XE.of_call (E := fun cls d H' => W cls d σZ H') I2 (fun _ _ _ z => z) hq)
    | ok fl =>
      cases fl with
      | ret u => exact I2.after hq
      | next => exact False.elim hq
      | brk => exact False.elim hq
      | cont => exact False.elim hq
  refine wpAny_call (codeAny_mono rc fun r s2 hq => ?_)
  cases r with
  | error e =>
    obtain ⟨_, _, _, _, _, _, _, _, _, _, _, _, z⟩ := hq
    exact z.elim
  | ok fl =>
    cases fl with
    | ret u => exact I1.after hq
    | next => exact False.elim hq
    | brk => exact False.elim hq
    | cont => exact False.elim hq
end
end RS
namespace RS
open PySem PySem.Spec L2 PySem.W
/-- the fields of an exception, however they are known -/
def XdAt (H : Hp) (dd : Addr) (fs : List (Str × V)) : Prop := H dd = some (.xd fs) ∨ H dd = some (exd dd fs)
theorem XdAt.same {H H' : Hp} {dd : Addr} {fs : List (Str × V)} (h : XdAt H dd fs) (s : Same H H') : XdAt H' dd fs := h.imp (s _ _) (s _ _)
theorem XdAt.at {P : Program} {w : World} {H : Hp} {h : Heap} {dd : Addr} {fs : List (Str × V)} (hok : HOk P w H h) (e : XdAt H dd fs) : ∃ mA, h.Ns1 dd mA ∧ ∀ f, RelO (fs.lookup f) (mA f) := by
  rcases e with e | e
  · have x : ObjOk P w H h dd (.xd fs) := hok dd _ e
    exact x
  · exact exd_at hok e
section
variable {g : Wd} {X : Cx} {C : Addr} {x f : Str} {e o : Expr} {t : TA} {ta : TE} {p pos : Pos}
def tXfa (K : Frag) (f : Str) (ta : TE) : TE := fun σ H Q => ta σ H fun x H1 => ∃ a C dd fs v, x = .ref a ∧ H1 a = some (exv a C (some dd)) ∧ XdAt H1 dd fs ∧ fs.lookup f = some v ∧ XfC K C ∧ findIn K (.ref C) f = some none ∧ Q v H1
theorem pe_xfa (he : PE X e ta) (hb : attributeBase e f X.env (eval e X.env) = eval e X.env := by rfl) (at_ : At g X := by exact ⟨rfl, rfl, rfl, rfl, rfl⟩) : PE X (.Attribute e f pos) (tXfa g.K f ta) := by
  refine ⟨fun pins s σ H Q I h => ?_⟩
  refine attr_of hb (thn (he.run pins s σ H _ I h) fun u s1 hh => ?_)
  obtain ⟨x, H1, I1, rx, a, C, dd, fs, v, rfl, ea, ed, l, T, hno, q⟩ := hh
  obtain rfl : u = Value.ref a := rx
  obtain ⟨oe, vs, hoe, c1, c2, c3⟩ := exv_at I1.hok ea
  obtain ⟨mA, hns, hr⟩ := ed.at I1.hok
  obtain ⟨od, ho, hl⟩ := lookIn_ns hns
  obtain ⟨u, hu, ru⟩ := RelO.some_of (v := v) (o := mA f) (by rw [← l]; exact hr f)
  have J : InstAt s1.heap a oe C (some od) := ⟨hoe, c1, by unfold notCls; rw [c3] <;> rfl, by rw [c2]; exact ho⟩
  have KI := I1.kIn
  rw [at_.K] at KI
  exact HandSPX.exc_get KI J T.ga T.gg T.exC (findObj_own T.hdC hno rfl (by rw [hl, hu])) (handed_of ru) ⟨v, H1, I1.tok _, ru, q⟩
/-- isinstance(x, c), x what was caught -/
def rIsW (K : Frag) : List V → Hp → VK → Prop := fun xs H Q => ∃ (a C : Addr) (d : Option Addr) (c : V) (u : Value) (b : Bool), xs = [.ref a, c] ∧ ExcC K C ∧ ClsV c u ∧ H a = some (exv a C d) ∧ (∀ dd, d = some dd → ∃ fs, XdAt H dd fs) ∧ kitOne K (.ref C) u = some b ∧ Q (.bl b) H
theorem c_isW {K : Frag} (hK : X.K = K := by rfl) : CallR X (.builtin "isinstance") (rIsW K) := by
  subst hK
  intro pins s σ H xs us Q I r h
  obtain ⟨a, C, d, c, u, b, rfl, T, k, ea, ed, e, q⟩ := h
  obtain ⟨u1, u2, rfl, r1, r2⟩ := vals2 r
  have e2 := k.eq r2
  subst e2
  cases r1
  obtain ⟨oe, vs, hoe, c1, c2, c3⟩ := exv_at I.hok ea
  have J : ∃ ox od, InstAt s.heap a ox C od := by
    cases d with
    | none => exact ⟨oe, none, hoe, c1, by unfold notCls; rw [c3] <;> rfl, by rw [c2]; trivial⟩
    | some dd =>
      obtain ⟨fs, ef⟩ := ed dd rfl
      obtain ⟨mA, hns, hr⟩ := ef.at I.hok
      obtain ⟨od, ho, hl⟩ := lookIn_ns hns
      exact ⟨oe, some od, hoe, c1, by unfold notCls; rw [c3] <;> rfl, by rw [c2]; exact ho⟩
  exact kia_one (kitX T) I.kIn J e (fun z => nomatch z) fun tk => ⟨.bl b, H, I.tok tk, rfl, q⟩
/-- raise C() -/
def tPm0 (C : Addr) : L2.St → Hp → XK → Prop := fun σ H Q => Q (.ref C) none H
end
end RS
namespace RS
open PySem PySem.Spec PyProof.Rows L2 LamX
/-- nothing but the script and the tables is tracked -/
def OnlyT (cs : List (Addr × Addr)) (H : Hp) : Prop := ∀ b, H b = none ∨ b ∈ cs.map (·.2) ∨ ∃ o xs, H b = some (.frz o (.lst xs))
theorem lawT {P : Program} {w : World} {K : PySem.W.Frag} {mg mb : Str → Option Value} {k : Nat} {fa a : Addr} {cs : List (Addr × Addr)} {fd : FuncData} {x : Str} {sp : Sp} {s₁ : Shared} {vs : List Value} {ns : List Int}
    (KX : K.In s₁.heap) (gl : s₁.heap.Ns mainGlobals mg) (bl : s₁.heap.Ns builtinsNs mb) (bb : ∀ x : Str, x ≠ "__name__" → mb x = bootBuiltins x) (lim : s₁.heap.NoLimit) (ge : s₁.gens = #[])
    (tab : ∀ p ∈ cs, s₁.heap.get? p.2 = some { cls := .none, data := .fields #[] }) (tabN : ∀ p ∈ cs, K.lookup p.2 = none) (cod : ∀ p ∈ cs, PySem.W.CodeHd s₁.heap p.1 p.2)
    (bmd : ∃ (bm : Addr) (ob : Obj), mg "__builtins__" = some (.ref bm) ∧ bm ≠ builtinsNs ∧ s₁.heap.get? bm = some ob ∧ ob.cls = .type "module" ∧ ob.dict = some builtinsNs ∧ ob.data = .plain)
    (ha : s₁.heap.get? a = some { cls := .type "list", data := .seq vs.toArray }) (hi : IntsAre vs ns) (hl : ns.length ≤ sizeLine) (hr : Room k callerA) (sm : SmB s₁.heap)
    (F : ∀ base : Heap, K.In base → base.Ns mainGlobals mg → SmB base → (∀ p ∈ cs, TabB base mg p.1 p.2) → FnG ⟨P, w, K, mg, base⟩ k fa fd [x] sp) (bd : ∀ (s : Shared) (u : Value), BindsTo s fd ⟨[u], []⟩ [(x, u)])
    (hsp : ∀ H : Hp, (∀ p ∈ cs, H p.2 = some (.tbl #[])) → SqL K H a (ns.map V.int) → sp [.ref a] H (fun v _ => v = .bl true) fun _ _ _ => False) :
    codeAny (model P w) callerA (.call (.ref fa) ⟨[.ref a], []⟩) (fun r s' => r = .ok (.ret (.bool true)) ∧ OldK s₁.heap s'.heap ∧ s'.os = s₁.os ∧ AllBare s'.gens) s₁ := by
  have rv := vals_ints hi
  have tabM : ∀ b, b ∈ cs.map (·.2) → s₁.heap.get? b = some { cls := .none, data := .fields #[] } := fun b hb => by
    obtain ⟨p, hp, rfl⟩ := List.mem_map.mp hb
    exact tab p hp
  have mem : ∀ p ∈ cs, p.2 ∈ cs.map (·.2) := fun p hp => List.mem_map.mpr ⟨p, hp, rfl⟩
  have ncs : a ∉ cs.map (·.2) := fun z => by
    have q := tabM a z
    rw [ha] at q
    have z' : Data.seq vs.toArray _ = Data.fields #[] := congrArg Obj.data (Option.some.inj q)
    cases z'
  have go : ∀ H : Hp, (∀ p ∈ cs, H p.2 = some (.tbl #[])) → OnlyT cs H → SqL K H a (ns.map V.int) → HOk P w H s₁.heap → (∀ b, H b ≠ none → b = a ∨ b ∈ cs.map (·.2)) → (H a ≠ none → K.lookup a = none) →
      codeAny (model P w) callerA (.call (.ref fa) ⟨[.ref a], []⟩) (fun r s' => r = .ok (.ret (.bool true)) ∧ OldK s₁.heap s'.heap ∧ s'.os = s₁.os ∧ AllBare s'.gens) s₁ := by
    intro H hH hO hS hok hA hK
    have free : ∀ {b : Addr} {o : Obj}, s₁.heap.get? b = some o → (∀ v n, o.data ≠ .seq v n) → o.data ≠ .fields #[] → H b = none := by
      intro b o e n1 n2
      cases q : H b with
      | none => rfl
      | some u =>
        rcases hA b (by rw [q]; simp) with rfl | z
        · rw [ha] at e
          cases e
          exact absurd rfl (n1 _ _)
        · rw [tabM b z] at e
          cases e
          exact absurd rfl n2
    have freeD : ∀ {b : Addr} {o : Obj} {es : Array DictEntry} {n : Nat}, s₁.heap.get? b = some o → o.data = .dict es n → H b = none := fun e d =>
      free e (fun v m z => by rw [d] at z; cases z) (fun z => by rw [d] at z; cases z)
    have ns1 : ∀ {b : Addr} {m : Str → Option Value}, s₁.heap.Ns b m → (hidT s₁.heap H).Ns b m := by
      rintro b m ⟨o, es, ep, e, d, r⟩
      exact ⟨o, es, ep, hidT_get e (freeD e d), d, r⟩
    have K1 : K.In (hidT s₁.heap H) := by
      intro b o e
      refine hidT_get (KX b o e) ?_
      cases q : H b with
      | none => rfl
      | some u =>
        rcases hA b (by rw [q]; simp) with rfl | z
        · rw [hK (by rw [q]; simp)] at e
          cases e
        · obtain ⟨p, hp, rfl⟩ := List.mem_map.mp z
          rw [tabN p hp] at e
          cases e
    have md : Mod K mg (hidT s₁.heap H) := by
      obtain ⟨mc, l1, l2⟩ := lim
      exact ⟨K1, ns1 gl, ⟨mb, ns1 bl, bb⟩, mc, ns1 l1, l2⟩
    have TB : ∀ p ∈ cs, TabB (hidT s₁.heap H) mg p.1 p.2 := by
      intro p hp
      refine ⟨?_, ?_, fun z => ?_⟩
      · obtain ⟨o, us, file, tf, flags, tg, inF, text, tt, e1, r1, r2, r3, rest⟩ := cod p hp
        refine ⟨o, us, file, tf, flags, tg, inF, text, tt, hidT_get e1 (free e1 (fun v n z => by rw [r2] at z; cases z) fun z => ?_), r1, r2, r3, rest⟩
        rw [r2] at z
        cases z
        simp at r3
      · obtain ⟨bm, ob, b1, b2, b3, b4, b5, b6⟩ := bmd
        refine ⟨bm, ob, b1, b2, fun z => ?_, fun z => ?_, hidT_get b3 (free b3 (fun v n y => by rw [b6] at y; cases y) fun y => by rw [b6] at y; cases y), b4, b5, b6⟩
        · obtain ⟨o, es, ep, e, d, _⟩ := gl
          rw [z, e] at b3
          cases b3
          rw [d] at b6; cases b6
        · rw [z, tab p hp] at b3
          cases b3
          cases b6
      · obtain ⟨o, es, ep, e, d, _⟩ := gl
        rw [z, tab p hp] at e
        cases e
        cases d
    have e0 : Env0 P w K mg (hidT s₁.heap H) callerA [] s₁ H :=
      { frames := rfl, mod := md, bs := fun b o e => of_hidT e, bsz := Nat.le_of_eq (hidT_size _ _), funs := trivial, frf := fun b hb => (nomatch hb), hok := hok, bare := .of_eq ge }
    have sm1 : SmB (hidT s₁.heap H) := by
      obtain ⟨o, es, n, e, d⟩ := sm
      exact ⟨o, es, n, hidT_get e (freeD e d), d⟩
    refine codeAny_mono ((F _ K1 (ns1 gl) sm1 TB).run callerA [] s₁ H ⟨[.ref a], []⟩ [.ref a] [.ref a] _ _ hr rfl e0 (bd s₁ (.ref a)) (.cons rfl .nil) (hsp H hH hS)) ?_
    rintro r s' h
    cases r with
    | error e =>
      obtain ⟨_, _, _, _, _, _, _, _, _, _, _, _, z⟩ := h
      exact z.elim
    | ok fl => cases fl with
      | ret u =>
        obtain ⟨v, H', os, bare, un, hok', r', q⟩ := h
        obtain rfl : v = .bl true := q
        obtain rfl : u = Value.bool true := r'
        have kept : ∀ b o, b ∉ cs.map (·.2) → s₁.heap.get? b = some o → s'.heap.get? b = some o := fun b o nb e => by
          rcases hO b with z | z | ⟨ob, xs, z⟩
          · exact un.keep b o e z (fun y => (nomatch y)) (fun y => (nomatch y))
          · exact absurd z nb
          · have z2 := un.frzs b ob _ z
            have e1 := (hok b _ z).1
            rw [e] at e1
            cases e1
            exact (hok' b _ z2).1
        have grown : ∀ p ∈ cs, ∃ more : Array Value, s'.heap.get? p.2 = some { cls := .none, data := .fields more } := fun p hp => by
          obtain ⟨more, z⟩ := un.tbls p.2 #[] (hH p hp)
          exact ⟨_, hok' p.2 _ z⟩
        refine ⟨rfl, ⟨fun b o e => ?_, fun b o e => ?_⟩, os, bare⟩
        · by_cases hb : b ∈ cs.map (·.2)
          · obtain ⟨p, hp, rfl⟩ := List.mem_map.mp hb
            obtain ⟨more, hm⟩ := grown p hp
            rw [tab p hp] at e
            cases e
            refine .inr (.inl ⟨((cod p hp).tab (tab p hp)).isCodeTable, rfl, #[], more, rfl, ?_⟩)
            rw [Array.empty_append]; exact hm
          · exact .inl (kept b o hb e)
        · by_cases hb : b ∈ cs.map (·.2)
          · obtain ⟨p, hp, rfl⟩ := List.mem_map.mp hb
            obtain ⟨more, hm⟩ := grown p hp
            exact ⟨_, hm⟩
          · exact ⟨o, kept b o hb e⟩
      | _ => exact h.elim
  let Ht : Hp := fun b => if b ∈ cs.map (·.2) then some (.tbl #[]) else none
  have ht1 : ∀ b, b ∈ cs.map (·.2) → Ht b = some (.tbl #[]) := fun b hb => if_pos hb
  have ht0 : ∀ b, b ∉ cs.map (·.2) → Ht b = none := fun b hb => if_neg hb
  have htok : HOk P w Ht s₁.heap := fun b u z => by
    by_cases hb : b ∈ cs.map (·.2)
    · rw [ht1 b hb] at z
      cases z
      exact tabM b hb
    · rw [ht0 b hb] at z; cases z
  cases hk : K.lookup a with
  | some o =>
    have e := KX a o hk
    rw [ha] at e
    cases e
    refine go Ht (fun p hp => ht1 _ (mem p hp)) (fun b => ?_) (.inr ⟨_, vs.toArray, _, hk, rfl, rfl, rfl, by rw [List.size_toArray, hi.length]; exact hl, by simpa using rv⟩) htok (fun b z => ?_) fun z => absurd (ht0 a ncs) z
    · by_cases hb : b ∈ cs.map (·.2)
      · exact .inr (.inl hb)
      · exact .inl (ht0 b hb)
    · by_cases hb : b ∈ cs.map (·.2)
      · exact .inr hb
      · exact absurd (ht0 b hb) z
  | none =>
    have hta := ht0 a ncs
    refine go (upd Ht a (.frz { cls := .type "list", data := .seq vs.toArray } (.lst (ns.map V.int)))) (fun p hp => ?_) (fun b => ?_) (.inl (.inr ⟨_, upd_same⟩)) (fun b u z => ?_) (fun b z => ?_) fun _ => hk
    · rw [upd_ne (fun y : p.2 = a => ncs (by rw [← y]; exact mem p hp))]; exact ht1 _ (mem p hp)
    · by_cases hb : b = a
      · subst hb; exact .inr (.inr ⟨_, _, upd_same⟩)
      · rw [upd_ne hb]
        by_cases hc : b ∈ cs.map (·.2)
        · exact .inr (.inl hc)
        · exact .inl (ht0 b hc)
    · by_cases hb : b = a
      · subst hb
        rw [upd_same] at z
        cases z
        exact ⟨ha, by rw [List.length_map]; exact hl, vs, _, rv, ha⟩
      · rw [upd_ne hb] at z
        exact (htok b u z).stay (fun _ _ _ q => q) (fun y hy => by rw [upd_ne (ne_of_none hy hta)]; exact hy) (fun y xs hy => by rw [upd_ne (ne_of_none hy hta)]; exact hy)
    · by_cases hb : b = a
      · exact .inl hb
      · rw [upd_ne hb] at z
        by_cases hc : b ∈ cs.map (·.2)
        · exact .inr hc
        · exact absurd (ht0 b hc) z
/-- what the facts of the top give: the law's def with the tables of its makers of lambdas -/
def LawTs (l : PySem.W.OpenLaw) (w : World) (K : PySem.W.Frag) (k n : Nat) (x : Str) (mg : Str → Option Value) (fa : Addr) (h : Heap) : Prop :=
  ∃ (fd : FuncData) (cs : List (Addr × Addr)) (sp : Sp), (∀ p ∈ cs, h.get? p.2 = some { cls := .none, data := .fields #[] }) ∧ (∀ p ∈ cs, K.lookup p.2 = none) ∧ (∀ p ∈ cs, PySem.W.CodeHd h p.1 p.2) ∧ (∀ (s : Shared) (u : Value), BindsTo s fd ⟨[u], []⟩ [(x, u)]) ∧
    (∀ (H : Hp) (a : Addr) (ns : List Int), ns.length ≤ n → (∀ p ∈ cs, H p.2 = some (.tbl #[])) → SqL K H a (ns.map V.int) → sp [.ref a] H (fun v _ => v = .bl true) fun _ _ _ => False) ∧
    ∀ base : Heap, K.In base → base.Ns mainGlobals mg → SmB base → (∀ p ∈ cs, TabB base mg p.1 p.2) → FnG ⟨l.prog, w, K, mg, base⟩ k fa fd [x] sp
/-- the tables of the defs, by their names -/
def TabF (q : Program) (K : PySem.W.Frag) (h : Heap) : Prop := ∀ (x : Str) (d : DefRec) (c P : Addr), (recsOf q).find? (fun e => e.name == x) = some d → PySem.W.tabIn K x = some (c, P) → PySem.W.CodeHd h c P ∧ h.get? P = some { cls := .none, data := .fields #[] }
theorem walkT {l : PySem.W.OpenLaw} {n k : Nat} {q : Program} {loose : List Str} {XP : (Str → Option Value) → Heap → Prop} {YP : World → Heap → Prop} {d : DefRec} {K : Params → PySem.W.Frag} {x : Str}
    (hn : l.most = some n) (hn2 : n ≤ sizeLine) (hdf : d.params.defaults = []) (hr : Room k callerA)
    (hY : ∀ (w : World) (h : Heap), YP w h → (K w.params).In h) (hY2 : ∀ (w : World) (h : Heap), YP w h → SmB h)
    (F : ∀ (w : World) (mg : Str → Option Value) (fa : Addr) (h : Heap), YP w h → (K w.params).In h → h.Ns mainGlobals mg → mg d.name = some (.ref fa) → TabF q (K w.params) h → LawTs l w (K w.params) k n x mg fa h) :
    PySem.W.WalkO q loose XP YP l.row.toRowW d [] (fun f vs => PySem.call f vs) := by
  refine Att.attach_callB hn hdf fun w s₀ s₁ mg mb fa o pm cd doc a vs ns G Y ho hd hcd hmg hobj hints hlen hbits hg => ?_
  obtain ⟨fd, cs, sp, t1, t2, t3, hb, hsp, hF⟩ := F w mg fa _ Y (hY w _ Y) G.T.g hmg fun x d c P h1 h2 => PySem.W.tab_of G.T (hY w _ Y) h1 h2
  exact lawT (hY w _ Y) G.T.g G.T.b G.T.builtins G.T.nolimit hg t1 t2 t3 G.T.bmain hobj hints (Nat.le_trans hlen hn2) hr (hY2 w _ Y) hF hb fun H hH hS => hsp H a ns hlen hH hS
end RS
namespace RS
open PySem PySem.Spec L2 PyProof.Rows ClX
section
variable {g : Wd} {X : Cx} {k : Nat} {C : Addr} {ps : List Str} {sp : Sp} {W : WX} {ds : List V} {p pos apos : Pos} {a b o i : Expr} {ta tb to ti : TE}
def tIxOwn (C : Addr) (sp : Sp) (ds : List V) (W : WX) (to ti : TE) : TE := fun σ H Q => to σ H fun x H1 => ti σ H1 fun y H2 => ∃ q dx fs, x = .ref q ∧ H2 q = some (.ins C dx fs) ∧ sp ([.ref q, y] ++ ds) H2 Q (fun c d H' => W c d σ H')
/-- the method that the class at C has under the name m is a def -/
def FnAtC (K : PySem.W.Frag) (C : Addr) (m : Str) : Prop := ∀ f, PySem.W.findIn K (.ref C) m = some (some (.ref f)) → PySem.W.fnIn K f = true
theorem e_ixOwn (F : Km g C "__getitem__" k ps ds sp) (fi : FnAtC g.K C "__getitem__") (hr : Rm (k + 1) X) (tk : Takes X W) (ho : PE X o to) (hi : PE X i ti)
    (hsl : ∀ x iv, subscripted i true (.ref x) iv = runValue (.builtin "lifetime.subscript" ⟨[.ref x, iv], []⟩) := by intro _ _; with_unfolding_all rfl) (at_ : At g X := by exact ⟨rfl, rfl, rfl, rfl, rfl⟩) : PE X (.Subscript o i pos) (tIxOwn C sp ds W to ti) := by
  obtain ⟨f, fd, dsV, hf, hi', hk, F, hb, rd⟩ := F
  refine ⟨fun pins s σ H Q I h => ?_⟩
  refine Subscript_ (thn (ho.run pins s σ H _ I h) fun u s1 ⟨x, H1, I1, rx, q1⟩ => thn (hi.run pins s1 σ H1 _ I1 q1) fun iv s2 ⟨y, H2, I2, ry, q, dx, fs, ex, ea, hs⟩ => ?_)
  subst ex
  cases rx
  obtain ⟨mA, J, _⟩ := ins_get I2.hok ea
  obtain ⟨od, J, _⟩ := J.look
  obtain ⟨m, hF⟩ := I2.fr
  refine PySem.W.sub_K hF I2.ok.mod.kin J (by rw [at_.K]; exact hf) (by rw [at_.K]; exact fi f hf) (by rw [at_.K]; exact hi') ?_ (hsl _ _)
  exact callB at_ F hr.here.in1 tk hb rd (vs := [.ref q, y]) (us := [.ref q, iv]) I2 (.cons rfl (.cons ry .nil)) hs
def tInOwn (C : Addr) (sp : Sp) (ds : List V) (W : WX) (n : Bool) (ta tb : TE) : TE := fun σ H Q => ta σ H fun y H1 => tb σ H1 fun x H2 => ∃ q dx fs, x = .ref q ∧ H2 q = some (.ins C dx fs) ∧
  sp ([.ref q, y] ++ ds) H2 (fun v H' => ∃ c, v = .bl c ∧ Q (.bl (n != c)) H') (fun c d H' => W c d σ H')
theorem c_inOwn (F : Km g C "__contains__" k ps ds sp) (hr : Rm k X) (tk : Takes X W) (ha : PE X a ta) (hb : PE X b tb) (at_ : At g X := by exact ⟨rfl, rfl, rfl, rfl, rfl⟩) : PC X .In a b (tInOwn C sp ds W false ta tb) := by
  obtain ⟨f, fd, dsV, hf, hi, hk, F, hbd, rd⟩ := F
  refine ⟨fun pins s σ H Q I h => ?_⟩
  refine thn (ha.run pins s σ H _ I h) fun iv s1 ⟨y, H1, I1, ry, q1⟩ => thn (hb.run pins s1 σ H1 _ I1 q1) fun u s2 ⟨x, H2, I2, rx, q, dx, fs, ex, ea, hs⟩ => ?_
  subst ex
  cases rx
  obtain ⟨mA, J, _⟩ := ins_get I2.hok ea
  obtain ⟨od, J, _⟩ := J.look
  obtain ⟨m, hF⟩ := I2.fr
  refine PySem.W.in_K hF I2.ok.mod.kin J (by rw [at_.K]; exact hf) (by rw [at_.K]; exact hi) ?_
  refine wpAny_mono (callB at_ F hr.here tk hbd rd (vs := [.ref q, y]) (us := [.ref q, iv]) I2 (.cons rfl (.cons ry .nil)) hs) ?_ fun _ _ z => z
  rintro v s' ⟨z, H', I', rz, c, rfl, hq⟩
  cases rz
  refine wpAny_truthy_bool ?_
  refine ⟨.bl c, H', I', rfl, ?_⟩
  cases c <;> exact hq
def tPropG (C : Addr) (sp : Sp) (W : WX) (ta : TE) : TE := fun σ H Q => ta σ H fun x H1 => ∃ q dx fs, x = .ref q ∧ H1 q = some (.ins C dx fs) ∧ sp [.ref q] H1 Q (fun c d H' => W c d σ H')
def tMethK (C : Addr) (m : Str) (n : Nat) (sp : Sp) (pm : List Nat) (dvs : List V) (W : WX) (ta : TE) (t : TA) : TE := fun σ H Q => ta σ H fun x H1 => ∃ q dx fs, x = .ref q ∧ H1 q = some (.ins C dx fs) ∧ fs.lookup m = none ∧
  t σ H1 fun zs H2 => zs.length = n ∧ sp (.ref q :: (pm.map fun i => zs.getD i .non) ++ dvs) H2 Q (fun c d H' => W c d σ H')
end
end RS
namespace RS
open PySem PySem.Spec L2 PyProof.Rows GenW
end RS
namespace RS
open PySem PySem.Spec L2 PyProof.Rows LamX
/-- a def of the text whose code object stands at c -/
structure DfC (K : PySem.W.Frag) (x qual : Str) (st : Stmt) (f : Addr) (fd : FuncData) (c : Addr) : Prop where
  ex : ∃ (oc : Value) (od : Option Addr) (kV doc pm : Value) (an : Option Addr) (ct : Value) (osl : Array (Option Value)),
    fd = PySem.W.fnOf x qual (defArgs st) (defBody st) (defScope st) .none kV doc pm an (.ref c) ct ∧ K.lookup f = some ⟨oc, od, .func fd, osl⟩ ∧ PySem.W.codeIn K (.ref c) qual = true
  kp : PySem.W.keepIn K (.ref f) = true
theorem DfC.ok {g : Wd} {x qual : Str} {st : Stmt} {f : Addr} {fd : FuncData} {c : Addr} {N ps : List Str} {k : Nat} {sp : Sp} (F : DfC g.K x qual st f fd c) (S : FnScope N ps (defScope st))
    (len : ∀ vs H Q E, sp vs H Q E → vs.length = ps.length)
    (hbody : ∀ (A : Around) (outer : List Env) (s : Shared) (H : Hp) (vs : List V) (Q : VK) (E : XK), Rm k (cx g N qual st f (.ref c) A outer s H E) → sp vs H Q E →
      ∃ t, PSs (cx g N qual st f (.ref c) A outer s H E) (defBody st) t ∧ t { nx := fun _ H' => Q .non H', rt := Q } (start N vs) H) : FnG g (k + 1) f fd ps sp := by
  obtain ⟨oc, od, kV, doc, pm, an, ct, osl, rfl, lk, hcd⟩ := F.ex
  refine ⟨len, fun A outer s H args us vs Q E hr hg e0 hb rv hsp => ?_⟩
  exact run_ofS (CX := L2.CX g.P g.w) lk hcd S hr e0 hb rv (len _ _ _ _ hsp) fun hr' => hbody A outer s H vs Q E ⟨hr', hg⟩ hsp
/-- what is known of the tables: T tells them all; c: the code object of the def qual, P its table -/
structure LamT (g : Wd) (T : List (Addr × Str)) (c P : Addr) (qual : Str) : Prop where
  tb : TabB g.base g.mg c P
  mem : (P, (qual ++ ".<locals>.") ++ "<lambda>") ∈ T
  uni : ∀ p ∈ T, p.1 = P → p.2 = (qual ++ ".<locals>.") ++ "<lambda>"
/-- but for the places fp and the tables all stays -/
def FrT (fp : List Addr) (H H' : Hp) : Prop := ∀ b o, b ∉ fp → (∀ ps, o ≠ .tbl ps) → H b = some o → H' b = some o
theorem FrT.refl {fp : List Addr} (H : Hp) : FrT fp H H := fun _ _ _ _ h => h
theorem FrT.trans {fp : List Addr} {H H1 H2 : Hp} (a : FrT fp H H1) (b : FrT fp H1 H2) : FrT fp H H2 := fun c o n t h => b c o n t (a c o n t h)
theorem FrT.of {fp : List Addr} {H H' : Hp} (s : Same H H') : FrT fp H H' := fun c o _ _ h => s c o h
theorem FrT.ofN {fp : List Addr} {H H' : Hp} (s : ExtN H H') : FrT fp H H' := fun c o _ t h => s c o h t
theorem FrT.sub {fp fq : List Addr} {H H' : Hp} (a : FrT fp H H') (h : ∀ c ∈ fp, c ∈ fq ∨ H c = none) : FrT fq H H' := fun c o n t e => a c o (fun z => (h c z).elim n (fun y => by rw [y] at e; cases e)) t e
/-- but for the places fp all stays -/
def Fr1 (fp : List Addr) (H H' : Hp) : Prop := ∀ b o, b ∉ fp → H b = some o → H' b = some o
theorem Fr1.refl {fp : List Addr} (H : Hp) : Fr1 fp H H := fun _ _ _ h => h
theorem Fr1.trans {fp : List Addr} {H H1 H2 : Hp} (a : Fr1 fp H H1) (b : Fr1 fp H1 H2) : Fr1 fp H H2 := fun c o n h => b c o n (a c o n h)
theorem Fr1.of {fp : List Addr} {H H' : Hp} (s : Same H H') : Fr1 fp H H' := fun c o _ h => s c o h
theorem Fr1.sub {fp fq : List Addr} {H H' : Hp} (a : Fr1 fp H H') (h : ∀ c ∈ fp, c ∈ fq ∨ H c = none) : Fr1 fq H H' := fun c o n e => a c o (fun z => (h c z).elim n (fun y => by rw [y] at e; cases e)) e
theorem Fr1.t {fp : List Addr} {H H' : Hp} (a : Fr1 fp H H') : FrT fp H H' := fun c o n _ h => a c o n h
theorem Fr1.upd {fp : List Addr} {H : Hp} {a : Addr} {o : HO} (h : a ∈ fp) : Fr1 fp H (L2.upd H a o) := fun c u n e => by rw [upd_ne (fun z : c = a => n (by rw [z]; exact h))]; exact e
/-- the tables stand where only other things change -/
theorem Tabs.fr {T : List (Addr × Str)} {fp : List Addr} {H H' : Hp} (t : Tabs T H) (n : ∀ c ∈ fp, ∀ o, H c = some o → (∀ ps, o ≠ .tbl ps) ∧ ∀ φ, o ≠ .ext φ) (f : Fr1 fp H H') : Tabs T H' := fun p hp => by
  obtain ⟨ps, h1, h2, h3⟩ := t p hp
  have k : ∀ c o, H c = some o → ((∃ ps, o = .tbl ps) ∨ ∃ φ, o = .ext φ) → H' c = some o := fun c o e z => f c o (fun m => by
    have := n c m o e
    rcases z with ⟨ps, z⟩ | ⟨φ, z⟩
    · exact this.1 ps z
    · exact this.2 φ z) e
  refine ⟨ps, k _ _ h1 (.inl ⟨_, rfl⟩), h2, fun pos cv hc => ?_⟩
  obtain ⟨c, e1, e2⟩ := h3 pos cv hc
  exact ⟨c, e1, k _ _ e2 (.inr ⟨_, rfl⟩)⟩
theorem Tabs.same {T : List (Addr × Str)} {H H' : Hp} (t : Tabs T H) (s : Same H H') : Tabs T H' := t.ext s
section
variable {g : Wd} {k : Nat} {N ps : List Str} {x qual : Str} {st : Stmt} {f c P : Addr} {A : Around} {outer : List Env} {s : Shared} {H : Hp} {E : XK} {T : List (Addr × Str)} {TT : Addr → Str → (XK → Hp → VK → Prop) → Hp → VK → Prop}
  {params : Arguments} {body : Expr} {scope : Scope} {t : XK → TE} {p lpos pos : Pos}
/-- x(lambda: body), in a def that is walked -/
theorem pe_lam (F : Told g (k + 1) x TT) (L : LamT g T c P qual) (hr : Rm (k + 2) (cx g N qual st f (.ref c) A outer s H E)) (LS : lamSB (defScope st) scope = true)
    (hbody : ∀ (A' : Around) (outer' : List Env) (s' : Shared) (H' : Hp) (E' : XK) (f' c' : Addr), Rm k (lamCx (cx g N qual st f (.ref c) A outer s H E) A' outer' s' H' E' scope f' c') → PE (lamCx (cx g N qual st f (.ref c) A outer s H E) A' outer' s' H' E' scope f' c') body (t E'))
    (hdef : defaultsOf params (cx g N qual st f (.ref c) A outer s H E).env = ([], []) := by rfl)
    (hbind : ∀ (q : Str) (cl : List (Str × Addr)) (pm cv ctv : Value), bindArgs (PySem.W.kla_fn "<lambda>" q params body scope cl pm cv ctv) ⟨[], []⟩ = pure [] := by intro _ _ _ _ _; rfl)
    (hg : Gl (cx g N qual st f (.ref c) A outer s H E) x := by rfl) (hdb : (x == ("__debug__" : Str)) = false := by decide) :
    PE (cx g N qual st f (.ref c) A outer s H E) (.Call (.Name x p) [.Lambda params body scope lpos] [] pos) (tLamG T TT ((qual ++ ".<locals>.") ++ "<lambda>") t) :=
  pe_lamG F hr L.tb rfl L.mem L.uni (lamS_by LS) hdef hbind hbody hg hdb
end
/-- what a lambda's body may raise into -/
theorem takesL {X : Cx} {A : Around} {outer : List Env} {s : Shared} {H : Hp} {E : XK} {scope : Scope} {f c' : Addr} : Takes (lamCx X A outer s H E scope f c') (fun cls d _ H' => E cls d H') := by
  intro u s' x
  exact XE.leave (X := lamCx X A outer s H E scope f c') (E := E) rfl rfl rfl (fun _ _ _ _ h => h) x
end RS
namespace RS
open PySem PySem.Spec L2 PyProof.Rows
section
variable {g : Wd} {X : Cx} {K : PySem.W.Frag} {C : Addr} {e o i f value : Expr} {ta te tv td ty tx : TE} {p pos apos cpos tpos : Pos} {k : Nat}
def tListGen (C : Addr) (m : Str) (sp : SpG) (ta : TE) : TE := fun σ H Q => ta σ H fun x H1 => ∃ a dx fs, x = .ref a ∧ H1 a = some (.ins C dx fs) ∧ fs.lookup m = none ∧ sp [.ref a] H1 (fun out H2 => ∀ p, H2 p = none → Q (.ref p) (upd H2 p (.lst out))) (fun _ _ _ => False)
end
end RS
namespace RS
open PySem PySem.Spec L2 PyProof.Rows
section
variable {X : Cx} {k : Nat}
/-- d != {} -/
def rNeD0 : R2 := fun x y H Q => ∃ a b ks, x = .ref a ∧ y = .ref b ∧ H a = some (.dK ks) ∧ H b = some (.dK []) ∧ Q (.bl (!ks.isEmpty)) H
/-- int(x): of an int, of a truth value, of a text -/
def rIntA : List V → Hp → VK → Prop := fun xs H Q => ((∃ i, xs = [.int i] ∧ Q (.int i) H) ∨ ∃ k, xs = [.bl k] ∧ Q (.int (if k then 1 else 0)) H) ∨ ∃ a n, xs = [.str a] ∧ PySem.intText? a = some n ∧ a.length ≤ 640 ∧ Q (.int n) H
theorem c_intA : CallR X (.type "int") rIntA := fun pins s σ H xs us Q I r h => h.elim (call_int1 pins s σ H xs us Q I r) (call_int_str pins s σ H xs us Q I r)
theorem intA_i {i : Int} {H : Hp} {Q : VK} : rIntA [.int i] H Q = Q (.int i) H := by
  refine propext ⟨fun h => ?_, fun q => .inl (.inl ⟨i, rfl, q⟩)⟩
  rcases h with (⟨j, e, q⟩ | ⟨k, e, q⟩) | ⟨a, n, e, _⟩
  · cases e; exact q
  · cases e
  · cases e
theorem intA_b {b : Bool} {H : Hp} {Q : VK} : rIntA [.bl b] H Q = Q (.int (if b then 1 else 0)) H := by
  refine propext ⟨fun h => ?_, fun q => .inl (.inr ⟨b, rfl, q⟩)⟩
  rcases h with (⟨j, e, q⟩ | ⟨k, e, q⟩) | ⟨a, n, e, _⟩
  · cases e
  · cases e; exact q
  · cases e
end
end RS
namespace RS
open PySem PySem.Spec L2 PyProof.Rows
section
variable {g : Wd} {X : Cx} {k : Nat} {C : Addr} {ps : List Str} {sp : Sp} {W : WX} {p pos apos : Pos} {o e : Expr} {es : List Expr} {ta : TE} {tp : TA}
def tMethP (C : Addr) (m : Str) (np n : Nat) (sp : Sp) (pm : List Nat) (dvs : List V) (W : WX) (ta : TE) (tp t : TA) : TE := fun σ H Q => ta σ H fun x H1 => ∃ q dx fs, x = .ref q ∧ H1 q = some (.ins C dx fs) ∧ fs.lookup m = none ∧
  tp σ H1 fun us H2 => t σ H2 fun zs H3 => us.length = np ∧ zs.length = n ∧ sp (.ref q :: us ++ (pm.map fun i => zs.getD i .non) ++ dvs) H3 Q (fun c d H' => W c d σ H')
end
end RS
namespace RS
open PySem PySem.Spec L2 LamX
theorem dfc_mk {K : PySem.W.Frag} {x qual : Str} {st : Stmt} {f c : Addr} {oc : Value} {od an : Option Addr} {osl : Array (Option Value)} {kV doc pm ct : Value} (l : K.lookup f = some ⟨oc, od, .func (PySem.W.fnOf x qual (defArgs st) (defBody st) (defScope st) .none kV doc pm an (.ref c) ct), osl⟩)
    (h : PySem.W.codeIn K (.ref c) qual = true) (k : PySem.W.keepIn K (.ref f) = true) : DfC K x qual st f (PySem.W.fnOf x qual (defArgs st) (defBody st) (defScope st) .none kV doc pm an (.ref c) ct) c := ⟨⟨oc, od, kV, doc, pm, an, ct, osl, rfl, l, h⟩, k⟩
theorem FnAtC.of {K : PySem.W.Frag} {C f : Addr} {m : Str} (h : PySem.W.findIn K (.ref C) m = some (some (.ref f))) (h2 : PySem.W.fnIn K f = true) : FnAtC K C m := fun f' e => by
  rw [h] at e
  cases e
  exact h2
/-- empty tables -/
theorem tabs0 {T : List (Addr × Str)} {H : Hp} (h : ∀ p ∈ T, H p.1 = some (.tbl #[])) : Tabs T H := fun p hp =>
  ⟨#[], h p hp, by simp [TriplesOk], fun pos cv e => by simp [codeAmong] at e⟩
end RS
namespace RS
open PySem PySem.Spec L2
section
variable {g : Wd} {X : Cx} {k : Nat} {C : Addr} {sp : Sp} {W : WX} {m : Str} {p pos apos : Pos} {o e : Expr} {es : List Expr} {ta : TE} {t : TA}
def tMethS (C : Addr) (m : Str) (sp : Sp) (W : WX) (ta : TE) (t : TA) : TE := fun σ H Q => ta σ H fun x H1 => ∃ a dx fs, x = .ref a ∧ H1 a = some (.ins C dx fs) ∧ fs.lookup m = none ∧
  t σ H1 fun vs H2 => sp (x :: vs) H2 Q (fun c d H' => W c d σ H')
end
end RS
namespace RS
open PySem PySem.Spec L2 PyProof.Rows LamX
/-- one parameter p of its own, else captured names and globals -/
structure LamD (p : Str) (sc scope : Scope) : Prop where
  kind : scope.kind = .function
  co : scope.isCoroutine = false
  gen : scope.isGenerator = false
  par : scope.names.lookup p = some .local
  own : ∀ y ∈ scope.names, (y.2 = .local → y.1 = p) ∧ y.2 ≠ .cell
  free : ∀ y ∈ scope.names, y.2 = .free → sc.names.lookup y.1 = some .cell ∨ sc.names.lookup y.1 = some .free
theorem LamD.has {p : Str} {X : Cx} {scope : Scope} (L : LamD p X.env.scope scope) (ok : X.Ok) : ∀ y ∈ scope.names, y.2 = .free → ∃ c, X.env.cells.lookup y.1 = some c := fun y hy e => by
  rcases L.free y hy e with k | k
  · exact ok.has _ (.inl k)
  · exact ok.has _ (.inr k)
end RS
namespace RS
open PySem PySem.Spec L2 PyProof.Rows ClX
/-- the module's name c holds the class at C, whose classmethod m does what sp says -/
def KcmS (g : Wd) (C : Addr) (m : Str) (k : Nat) (sp : Sp) : Prop := ∃ p f mc, CRead g.K C mc ∧ CMet g.K C mc m p f ∧ FnS g k f sp
section
variable {g : Wd} {X : Cx} {k : Nat} {f C q : Addr} {sp : Sp} {W : WX} {m : Str} {o e : Expr} {es : List Expr} {pos apos : Pos} {ta : TE} {t : TA} {pl : Sem Bool}
theorem call_cmS (a : At g X) (F : FnS g k f sp) (hr : Rm k X) (tk : Takes X W) {pins : List (Addr × Obj)} {σ : L2.St} {H : Hp} {s : Shared} {Q : VK} {us : List Value} {vs : List V} (I : Inv X ((q, PySem.W.methodObj (.ref f) (.ref C)) :: pins) σ H s) (r : Vals vs us)
    (h : sp (.ref C :: vs) H Q (fun c d H' => W c d σ H')) : wpAny (model X.prog X.w) X.A (call (.ref q) us) (EP X pins σ Q) X.xe s := by
  obtain ⟨P, w, K, mg, base⟩ := g
  obtain ⟨rfl, rfl, rfl, rfl, rfl⟩ := a
  refine wpAny_call (PySem.W.method_call (pin_at I) (codeAny_mono (F X.A X.stack s H (.ref C :: us) (.ref C :: vs) Q _ hr.room hr.gd I.env0 (.cons rfl r) h) fun res s' hq => ?_))
  cases res with
  | error e => exact tk e s' (XE.of_call (E := fun c d H' => W c d σ H') I (fun _ _ _ z => z) hq)
  | ok fl => cases fl with
    | ret u => exact unpinE (I.after hq)
    | _ => exact hq.elim
/-- e.m(..), e the class at C -/
def tCMethS (C : Addr) (sp : Sp) (W : WX) (ta : TE) (t : TA) : TE := fun σ H Q => ta σ H fun x H1 => x = .ref C ∧ t σ H1 fun vs H2 => sp (.ref C :: vs) H2 Q (fun c d H' => W c d σ H')
theorem pe_cmS (he : PE X o ta) (F : KcmS g C m k sp) (hr : Rm k X) (tk : Takes X W) (ha : PA X (e :: es) t)
    (hst : starEach (e :: es) X.env = (false, eval e X.env) :: starEach es X.env := by rfl) (hpl : (backTo pos (starEach es X.env)).any (·.1) = false := by rfl)
    (ht : eval (.Call (.Attribute o m apos) (e :: es) [] pos) X.env = (do
      let ov ← eval o X.env
      standAt apos.atName
      let (f, first) ← holding [ov] (getMethod ov m pl)
      callWith pos f first (backTo pos (starEach (e :: es) X.env)) (backToKw pos (keywordEach [] X.env))) := by rfl) (a : At g X := by exact ⟨rfl, rfl, rfl, rfl, rfl⟩) :
    PE X (.Call (.Attribute o m apos) (e :: es) [] pos) (tCMethS C sp W ta t) := by
  obtain ⟨p, f, mc, r, c, F⟩ := F
  rw [← a.K] at r c
  refine ⟨fun pins s σ H Q I h => ?_⟩
  refine PySem.W.methodCall_KW (pl := pl) (thn (he.run pins s σ H _ I h) fun u s1 ⟨x, H1, I1, rx, ex, q⟩ => ?_) ht
  subst ex
  obtain rfl : u = Value.ref C := rx
  refine getmethcm_ok I1 r c fun s2 I2 => ?_
  refine callwith_cm I2 (base_none I1 (Nat.le_refl _)) c.fi (thn (ha.run pos _ s2 σ H1 _ I2 q) fun us s3 ⟨vs, H2, I3, rv, q2⟩ => ⟨⟨pin_at I3, I3.kIn⟩, ?_⟩) hst hpl
  exact call_cmS a F hr tk I3 rv q2
end
end RS
namespace RS
open PySem PySem.Spec L2 PyProof.Rows ClX
end RS
namespace RS
open PySem PySem.Spec L2 PyProof.Rows ClX
end RS
namespace RS
open PySem PySem.Spec L2 PyProof.Rows
end RS
namespace RS
open PySem PySem.Spec L2 PyProof.Rows ClX
end RS
namespace RS
open PySem PySem.Spec L2 PyProof.Rows
section
variable {X : Cx} {k : Nat}
def rEqE (K : PySem.W.Frag) : R2 := fun x y H Q => ∃ a b xs ys, x = .ref a ∧ y = .ref b ∧ SqL K H a xs ∧ SqL K H b ys ∧ (xs = [] ∨ ys = []) ∧ Q (.bl (decide (xs.length = ys.length))) H
theorem op_eqE {K : PySem.W.Frag} (hr : Rm k X) (hK : X.K = K := by rfl) : OpR X (compareOp .Eq) (rEqE K) := by
  subst hK
  intro pins s σ H x y v u Q I rx ry h
  obtain ⟨a, b, xs, ys, rfl, rfl, ha, hb, he, q⟩ := h
  cases rx
  cases ry
  obtain ⟨its, r1, ⟨o1, n1, ho1, hc1, hdd1, hd1⟩, _⟩ := I.list ha
  obtain ⟨its2, r2, ⟨o2, n2, ho2, hc2, hdd2, hd2⟩, _⟩ := I.list hb
  have l1 := r1.length
  have l2 := r2.length
  have hu : X.A.units < cLine := by have := hr.room.un; omega
  by_cases hl : xs.length = ys.length
  · have z : its.toArray.size = its2.toArray.size := by simp; omega
    have zz : its.length = 0 := by
      rcases he with e | e
      · rw [← l1, e]; rfl
      · rw [← l1, hl, e]; rfl
    have := SeqAt.RcAt.lists (A := X.A) (s := s) (l := a) (b := b) (e := fun _ => true) ⟨o1, ho1, hc1, n1, hd1⟩ ⟨o2, ho2, hc2, n2, hd2⟩ z hu (fun j h1 _ => by simp [zz] at h1)
    refine this X.prog X.w X.xe _ ⟨.bl (decide (xs.length = ys.length)), H, I, ?_, q⟩
    simp [hl, zz]; exact rfl
  · have z : (its.toArray.size != its2.toArray.size) = true := by simp; omega
    have := SeqAt.RcAt.lists_lengths (A := X.A) (s := s) (l := a) (b := b) ⟨o1, ho1, hc1, n1, hd1⟩ ⟨o2, ho2, hc2, n2, hd2⟩ z hu
    refine this X.prog X.w X.xe _ ⟨.bl (decide (xs.length = ys.length)), H, I, ?_, q⟩
    simp [hl]; exact rfl
end
end RS
namespace RS
open PySem PySem.Spec L2 PyProof.Rows GenW
open Sem (wp)
/-- it looks the same, but cannot be woken -/
def dullOf : GenState → GenState
  | .suspended _ l c p fs cl => .suspended (fun _ => .unsupported "") l c p fs cl
  | x => x
def isSusp : GenState → Bool
  | .suspended .. => true
  | _ => false
/-- no generator's frame among its frames -/
def ngf : GenState → Prop
  | .suspended _ _ _ _ fs _ => splitAtGen fs = none
  | _ => True
def mend (Z : Nat → Option GenState) (G : Array GenState) : Array GenState := G.mapIdx fun i x => (Z i).getD x
theorem mend_get (Z : Nat → Option GenState) (G : Array GenState) (i : Nat) : (mend Z G)[i]? = G[i]?.map fun x => (Z i).getD x := by
  simp [mend, Array.getElem?_mapIdx]
/-- the held places are dull, the others hold no generator's frame -/
structure Held (Z : Nat → Option GenState) (G : Array GenState) : Prop where
  at_ : ∀ i z, Z i = some z → isSusp z = true ∧ G[i]? = some (dullOf z)
  free : ∀ (i : Nat) (x : GenState), Z i = none → G[i]? = some x → ngf x
theorem Held.out {Z : Nat → Option GenState} {G : Array GenState} (h : Held Z G) : Z G.size = none := by
  cases e : Z G.size with
  | none => rfl
  | some z => have := (h.at_ _ z e).2; simp at this
theorem Held.push {Z : Nat → Option GenState} {G : Array GenState} (h : Held Z G) {x : GenState} (hx : ngf x) : Held Z (G.push x) := by
  refine ⟨fun i z e => ⟨(h.at_ i z e).1, ?_⟩, fun i y e q => ?_⟩
  · rw [Array.getElem?_push, if_neg (fun w => by rw [w, h.out] at e; cases e)]
    exact (h.at_ i z e).2
  · rw [Array.getElem?_push] at q
    split at q
    · cases q; exact hx
    · exact h.free i y e q
theorem Held.set {Z : Nat → Option GenState} {G : Array GenState} (h : Held Z G) {j : Nat} {x : GenState} (hj : Z j = none) (hx : ngf x) : Held Z (G.setIfInBounds j x) := by
  refine ⟨fun i z e => ⟨(h.at_ i z e).1, ?_⟩, fun i y e q => ?_⟩
  · rw [Array.getElem?_setIfInBounds, if_neg (fun w => by rw [w, e] at hj; cases hj)]
    exact (h.at_ i z e).2
  · rw [Array.getElem?_setIfInBounds] at q
    split at q
    · split at q
      · cases q; exact hx
      · cases q
    · exact h.free i y e q
/-- the place of what is no dull one is free -/
theorem Held.no {Z : Nat → Option GenState} {G : Array GenState} (h : Held Z G) {i : Nat} {x : GenState} (e : G[i]? = some x) (n : isSusp x = false) : Z i = none ∧ (mend Z G)[i]? = some x := by
  have hz : Z i = none := by
    cases q : Z i with
    | none => rfl
    | some z =>
      obtain ⟨h1, h2⟩ := h.at_ i z q
      rw [e] at h2
      cases h2
      cases z <;> simp [isSusp, dullOf] at h1 n
  exact ⟨hz, by rw [mend_get, e, Option.map_some, hz]; rfl⟩
end RS
namespace RS
open PySem PySem.Spec L2 PyProof.Rows GenW
open Sem (wp)
end RS
namespace RS
open PySem PySem.Spec L2 PyProof.Rows GenW
open Sem (wp)
end RS
namespace RS
open PySem PySem.Spec L2 PyProof.Rows GenW
def frontH (L : Nat) (h : Heap) : Heap := { h with objs := h.objs.extract 0 L }
def tr (L : Nat) (s : Shared) : Shared := { s with heap := frontH L s.heap }
/-- the context of a generator's body, woken at s0 with the heap H0; nothing is raised out of it -/
@[reducible] def reX (X : Cx) (s0 : Shared) (H0 : Hp) : Cx := { X with s_0 := tr X.env.locals s0, H_0 := H0, xe := fun _ _ => False }
structure GKE where
  nx : Nat → L2.St → L2.St → Hp → Prop
  rt : Nat → L2.St → VK
  yl : Nat → L2.St → V → Hp → (L2.St → Hp → Prop) → Prop
  bk : Nat → L2.St → L2.St → Hp → Prop := fun _ _ _ _ => False
  ct : Nat → L2.St → L2.St → Hp → Prop := fun _ _ _ _ => False
def GKE.at (D : GKE) (i : Nat) (k : L2.St) : Ends := { nx := D.nx i k, rt := D.rt i k, bk := D.bk i k, ct := D.ct i k }
/-- what holds of the consumer where the generator is woken -/
abbrev LkR := Shared → L2.St → Hp → Prop
def LkL (X : Cx) (Lk : LkR) : LkR := fun s k H => X.env.locals ≤ s.heap.objs.size ∧ Lk s k H
def KYp (X : Cx) (Lk : LkR) (yl : Nat → L2.St → V → Hp → (L2.St → Hp → Prop) → Prop) : Protocol := fun n s₀ v s kap =>
  ∃ i k H0 x ip σ H res, n + 1 + i = sizeLine ∧ RelV x v ∧ LkL X Lk s₀ k H0 ∧ Inv (reX X s₀ H0) ip σ H s ∧ yl i k x H res ∧
    ∀ k' H' s', LkL X Lk s' k' H' → Inv (reX X s' H') ip σ H' s' → res k' H' → kap (.send .none) s'
end RS
namespace RS
open PySem PySem.Spec L2 PyProof.Rows GenW
abbrev YLk := Nat → L2.St → V → Hp → (L2.St → Hp → Prop) → Prop
abbrev SpV := L2.St → YLk → (L2.St → Hp → Prop) → Prop
def KFin (X : Cx) (Lk : LkR) (fin : L2.St → Hp → Prop) (s₀ s1 : Shared) : Prop := ∃ k H0 ip σ H', LkL X Lk s₀ k H0 ∧ Inv (reX X s₀ H0) ip σ H' s1 ∧ fin k H'
abbrev KEnd (X : Cx) (Lk : LkR) (fin : L2.St → Hp → Prop) : GenEnd := fun n s₀ r s1 => r = .ok (.ret .none) ∧ KFin X Lk fin s₀ s1
structure GCtx (P : Program) (w : World) (K : PySem.W.Frag) (mg : Str → Option Value) (base : Heap) (outer : List Env) (L a : Addr) (gn : Nat) (X : Cx) : Prop where
  P : X.prog = P
  w : X.w = w
  K : X.K = K
  mg : X.mg = mg
  base : X.base = base
  loc : X.env.locals = L
  cells : X.env.cells = []
  ex : X.ex = []
  outer : X.outer = outer
  pn : ∃ go, X.pn = [(a, go)] ∧ ∀ h : Heap, h.get? a = some go → h.IsGen a gn
abbrev SpK := List V → Hp → SpV
/-- an expression whose value is a generator that has not begun -/
abbrev TGk := L2.St → Hp → (SpV → Hp → Prop) → Prop
def tForK (tg : TGk) (gt : TG) (tb : TS) : TS := fun D σ H => tg σ H fun spv H1 => spv σ (fun _ k x H2 res => gt x k H2 fun σ2 H3 => tb { D with nx := res, ct := res, bk := D.nx } σ2 H3) D.nx
end RS
namespace RS
open PySem PySem.Spec L2 PyProof.Rows GenW
def tKM (C : Addr) (m : Str) (n : Nat) (sp : SpK) (ds : List V) (ta : TE) (t : TA) : TGk := fun σ H Q => ta σ H fun x H1 => ∃ a dx fs, x = .ref a ∧ H1 a = some (.ins C dx fs) ∧ fs.lookup m = none ∧ t σ H1 fun vs H2 => (x :: (vs ++ ds)).length = n ∧ Q (sp (x :: (vs ++ ds)) H2) H2
def tKC (n : Nat) (sp : SpK) (ds : List V) (t : TA) : TGk := fun σ H Q => t σ H fun vs H1 => (vs ++ ds).length = n ∧ Q (sp (vs ++ ds) H1) H1
end RS
namespace RS
open PySem PySem.Spec L2 PyProof.Rows ClX
/-- the names of such a def: no cells of its own, __class__ alone is free -/
structure ScopeS (N P : List Str) (sc : Scope) : Prop where
  kind : sc.kind = .function
  co : sc.isCoroutine = false
  gen : sc.isGenerator = false
  nd : N.Nodup
  pre : N.take P.length = P
  par : ∀ x ∈ P, sc.names.lookup x = some .local
  cell : ∀ y ∈ sc.names, y.2 ≠ .cell
  free : ∀ y ∈ sc.names, y.2 = .free → y.1 = "__class__"
  cls : sc.names.lookup ("__class__" : Str) = some .free
  sup : sc.names.lookup ("super" : Str) = some .globalImplicit
abbrev envS (qual : Str) (scope : Scope) (L f cda cc : Addr) : Env := PySem.W.ksEnv qual scope L f (.ref cda) cc
/-- the context of its body -/
def cxS (g : Wd) (N : List Str) (qual : Str) (st : Stmt) (f cda cc : Addr) (A : Around) (outer : List Env) (s : Shared) (H : Hp) (E : XK) : Cx where
  prog := g.P
  w := g.w
  K := g.K
  mg := g.mg
  base := g.base
  A := A.deeper (envS qual (defScope st) s.heap.objs.size f cda cc)
  N := N
  s_0 := s
  H_0 := H
  env := envS qual (defScope st) s.heap.objs.size f cda cc
  outer := outer
  stack := envS qual (defScope st) s.heap.objs.size f cda cc :: outer
  ex := []
  calm := true
  fn := fun _ => false
  pn := []
  xe := fun e s' => wpAny (model g.P g.w) (A.deeper (envS qual (defScope st) s.heap.objs.size f cda cc)) (leaving (envS qual (defScope st) s.heap.objs.size f cda cc) e) (fun _ s'' => L2.CX g.P g.w outer H s E e s'') (fun e' s'' => L2.CX g.P g.w outer H s E e' s'') s'
/-- a method of the class at D, with super() in it -/
structure DfS (P : Program) (K : PySem.W.Frag) (x qual : Str) (st : Stmt) (f : Addr) (fd : FuncData) (cda cc D : Addr) : Prop where
  ex : ∃ (oc : Value) (od : Option Addr) (dV kV doc pm : Value) (an : Option Addr) (ct : Value) (osl : Array (Option Value)),
    fd = PySem.W.ksFn x qual (defArgs st) (defBody st) (defScope st) dV kV doc pm an (.ref cda) ct cc ∧ K.lookup f = some ⟨oc, od, .func fd, osl⟩ ∧ PySem.W.codeIn K (.ref cda) qual = true
  kp : PySem.W.keepIn K (.ref f) = true
  co : ∃ ccl cdd vs ccs file tf, K.lookup cda = some ⟨ccl, cdd, .fields vs, ccs⟩ ∧ vs[2]? = some (.str file tf) ∧ ((P.main.file : Str) == file) = true
  ce : ∃ cl cld csl, K.lookup cc = some ⟨cl, cld, .cell (some (.ref D)), csl⟩
  D : (PySem.W.clsIn K D).isSome = true
  op : PySem.W.nsIn K cStatics "thirdparty.any" = some none
  nt : (P.main.scope.names.lookup ("super" : Str)).isSome = false
theorem zip_rev_lookup : ∀ {ps : List Str} {us : List Value} {i : Nat} {p : Str} {u : Value}, ps.Nodup → ps[i]? = some p → us[i]? = some u → (ps.zip us).reverse.lookup p = some u
  | [], _, i, _, _, _, h, _ => by simp at h
  | _ :: _, [], i, _, _, _, _, h => by simp at h
  | q :: ps, w :: us, 0, p, u, nd, h1, h2 => by
    cases h1; cases h2
    rw [List.zip_cons_cons, List.reverse_cons, List.lookup_append]
    have : ((ps.zip us).reverse).lookup q = none := by
      rw [List.lookup_eq_none_iff]
      intro y hy
      have := (List.of_mem_zip (List.mem_reverse.mp hy)).1
      have ne : q ≠ y.1 := fun e => (List.nodup_cons.mp nd).1 (by rw [e]; exact this)
      simpa using ne
    rw [this]
    simp
  | q :: ps, w :: us, i + 1, p, u, nd, h1, h2 => by
    rw [List.zip_cons_cons, List.reverse_cons, List.lookup_append, zip_rev_lookup (List.nodup_cons.mp nd).2 (by simpa using h1) (by simpa using h2)]
    rfl
theorem inv_startS {g : Wd} {N ps : List Str} {qual : Str} {st : Stmt} {f cda cc D : Addr} {A : Around} {outer : List Env} {s : Shared} {H : Hp} {E : XK} {us : List Value} {vs : List V} {h₁ : Heap} {tk : Nat}
    (S : ScopeS N ps (defScope st)) (hce : ∃ cl cld csl, g.K.lookup cc = some ⟨cl, cld, .cell (some (.ref D)), csl⟩) (hd : A.handled = none) (e0 : Env0 g.P g.w g.K g.mg g.base A outer s H) (hl : vs.length = ps.length) (r : Vals vs us)
    (hns : h₁.Ns s.heap.objs.size fun y => (ps.zip us).reverse.lookup y) (kp : ∀ b o, s.heap.get? b = some o → h₁.get? b = some o) :
    Inv (cxS g N qual st f cda cc A outer s H E) [] (L2.start N vs) H { s with heap := h₁, toks := tk } := by
  have hpl : ps.length ≤ N.length := by have := congrArg List.length S.pre; rw [List.length_take] at this; omega
  have noA : ∀ b : Addr, b ∉ (cxS g N qual st f cda cc A outer s H E).ex := fun b z => absurd (show b ∈ ([] : List Addr) from z) (by simp)
  obtain ⟨cl, cld, csl, hcc⟩ := hce
  have hcb := e0.mod.kin _ _ hcc
  have one : ∀ {y : Str} {c : Addr}, (cxS g N qual st f cda cc A outer s H E).env.cells.lookup y = some c → y = "__class__" ∧ c = cc := fun {y c} h => by
    have h : ([("__class__", cc)] : List (Str × Addr)).lookup y = some c := h
    simp only [List.lookup_cons, List.lookup_nil] at h
    split at h
    · rename_i e
      cases h
      exact ⟨by simpa using e, rfl⟩
    · cases h
  refine ⟨⟨e0.mod, S.kind, rfl, rfl, Nat.le_refl _, fun y z c h1 h2 => (one h1).1.trans (one h2).1.symm, fun y hy => ?_, fun y c h _ => ?_, fun _ => hd, Around.frames_deeper e0.frames, .inr ⟨rfl, rfl⟩, fun b z => absurd z (noA b), e0.bs, e0.bsz, fun b _ _ => noA b, fun b z => absurd z (noA b), e0.funs, e0.frf⟩,
    rfl, e0.bare, Un.kept kp, ⟨_, hns, fun i y v h1 h2 h3 => ?_⟩, fun y c h => ?_, e0.hok.fresh (Nat.le_refl _), fun y c h => ?_, fun p hp => absurd (show p ∈ ([] : List (Addr × Obj)) from hp) (by simp), e0.hok.kept kp, ?_⟩
  · have hy : (defScope st).names.lookup y = some .cell ∨ (defScope st).names.lookup y = some .free := hy
    rcases hy with hy | hy
    · exact absurd rfl (S.cell _ (PySem.mem_of_lookup hy))
    · have e := S.free _ (PySem.mem_of_lookup hy) rfl
      have e : y = "__class__" := e
      subst e
      exact ⟨cc, rfl⟩
  · have h : false = true := h
    cases h
  · have hi : i < vs.length := by
      unfold L2.start at h2
      by_cases hi : i < vs.length
      · exact hi
      · rw [List.getElem?_append_right (by simpa using hi)] at h2
        rw [List.getElem?_replicate] at h2
        split at h2 <;> cases h2
    have ha : vs[i]? = some v := by
      unfold L2.start at h2
      rw [List.getElem?_append_left (by simpa using hi), List.getElem?_map] at h2
      cases e : vs[i]? with
      | none => rw [e] at h2; cases h2
      | some a => rw [e] at h2; cases h2; rfl
    obtain ⟨u, hu, rv⟩ := r.get ha
    have hp : ps[i]? = some y := by
      rw [← S.pre, List.getElem?_take_of_lt (by omega)]; exact h1
    have ndP : ps.Nodup := by rw [← S.pre]; exact S.nd.sublist (List.take_sublist _ _)
    exact ⟨u, rv, .inl ⟨S.par y (List.mem_of_getElem? hp), zip_rev_lookup ndP hp hu⟩⟩
  · obtain ⟨rfl, rfl⟩ := one h
    exact ⟨_, _, kp _ _ (e0.bs _ _ hcb).1, rfl⟩
  · obtain ⟨rfl, rfl⟩ := one h
    exact (e0.bs _ _ hcb).2
  · unfold L2.start
    show _ = N.length
    rw [List.length_append, List.length_map, List.length_replicate]
    omega
structure PSAs (X : Cx) (c : Code) (st : List Stmt) (t : TS) : Prop where
  run : ∀ (pins : List (Addr × Obj)) (s : Shared) (σ : L2.St) (H : Hp) (D : Ends), Inv X pins σ H s → t D σ H → PySem.wpAt (model X.prog X.w) X.A c (execs st X.env) (SP X pins D) X.xe s
/-- such a def keeps its promise -/
theorem DfS.ok {g : Wd} {x qual : Str} {st : Stmt} {f : Addr} {fd : FuncData} {cda cc D : Addr} {N ps : List Str} {k : Nat} {sp : Sp} (F : DfS g.P g.K x qual st f fd cda cc D) (S : ScopeS N ps (defScope st)) (len : ∀ vs H Q E, sp vs H Q E → vs.length = ps.length)
    (hbody : ∀ (A : Around) (outer : List Env) (s : Shared) (H : Hp) (vs : List V) (Q : VK) (E : XK), Rm k (cxS g N qual st f cda cc A outer s H E) → sp vs H Q E →
      ∃ t, PSAs (cxS g N qual st f cda cc A outer s H E) (.func (defBody st) (envS qual (defScope st) s.heap.objs.size f cda cc)) (defBody st) t ∧ t { nx := fun _ H' => Q .non H', rt := Q } (L2.start N vs) H) : FnG g (k + 1) f fd ps sp := by
  obtain ⟨oc, od, dV, kV, doc, pm, an, ct, osl, rfl, lk, hcd⟩ := F.ex
  refine ⟨len, fun A outer s H args us vs Q E hr hg e0 hb rv hsp => ?_⟩
  have kept : ∀ b o, g.base.get? b = some o → s.heap.get? b = some o := fun b o e => (e0.bs b o e).1
  have KX := e0.mod.kin.keeps kept
  refine ks_codeAny_call_defAt (fd := PySem.W.ksFn x qual (defArgs st) (defBody st) (defScope st) dV kV doc pm an (.ref cda) ct cc) (body := defBody st) (binds := ps.zip us) hr.depth (KX _ _ lk) rfl (e0.mod.nolimit.keeps kept) (PySem.W.codeRec_of KX hcd) rfl hb S.cell (fun y hy => S.par _ (List.of_mem_zip hy).1) (fun h₁ hns hk => ?_) S.co S.gen S.kind
  obtain ⟨t, ht, hq⟩ := hbody A outer s H vs Q E ⟨hr.deeper _, hg⟩ hsp
  have J : Inv (cxS g N qual st f cda cc A outer s H E) [] (L2.start N vs) H { s with heap := h₁, toks := s.toks + (ps.zip us).length } := inv_startS S F.ce hr.hd e0 (len _ _ _ _ hsp) rv hns hk
  refine ks_wpAt_mono (ht.run [] _ _ H _ J hq) ?_ fun _ _ z => z
  rintro fl s' hs
  cases fl with
  | ret u => obtain ⟨v, σ', H', I, r, q⟩ := hs; exact ⟨v, H', I.os, I.bare, I.base, I.hok, r, q⟩
  | next => obtain ⟨σ', H', I, q⟩ := hs; exact ⟨.non, H', I.os, I.bare, I.base, I.hok, rfl, q⟩
  | brk => obtain ⟨_, _, _, q⟩ := hs; exact q.elim
  | cont => obtain ⟨_, _, _, q⟩ := hs; exact q.elim
end RS
namespace RS
open PySem PySem.Spec L2 PyProof.Rows
end RS
namespace RS
open PySem PySem.Spec L2 PyProof.Rows GenW
/-- a generator that has not begun, to be woken in a later heap -/
def GMk2 (P : Program) (w : World) (K : PySem.W.Frag) (mg : Str → Option Value) (base : Heap) (k : Nat) (outer : List Env) (s : Shared) (spv : Hp → SpV) (u : Value) (s' : Shared) : Prop :=
  ∃ (a L : Addr) (gn : Nat) (c : Code), u = .ref a ∧ s.heap.objs.size ≤ L ∧ L < s'.heap.objs.size ∧ s.heap.objs.size ≤ a ∧ s'.heap.IsGen a gn ∧ s'.gens[gn]? = some (.fresh c) ∧ s'.os = s.os ∧ AllBare s'.gens ∧ (∀ b o, s.heap.get? b = some o → s'.heap.get? b = some o) ∧
    ∀ (A : Around) (s2 : Shared) (H2 : Hp), Room k A → A.guards = some [] → A.frames = some outer → (∀ b o, s'.heap.get? b = some o → s2.heap.get? b = some o) → s2.os = s.os → Env0 P w K mg base A outer s2 H2 → H2 L = none → H2 a = none →
      ∃ X, GCtx P w K mg base outer L a gn X ∧ ∀ (Lk : LkR) (k0 : L2.St) (yl : YLk) (fin : L2.St → Hp → Prop), Lk s2 k0 H2 → spv H2 k0 yl fin → Seg (model P w) A (KEnd X Lk fin) (KYp X Lk yl) sizeLine s2 c ((model P w).den c) [] s2
structure GKn2 (P : Program) (w : World) (K : PySem.W.Frag) (mg : Str → Option Value) (base : Heap) (k : Nat) (f : Addr) (fd : FuncData) (ps : List Str) (sp : SpK) : Prop where
  run : ∀ (A : Around) (outer : List Env) (s : Shared) (H : Hp) (args : Args) (us : List Value) (vs : List V), Room k A → A.guards = some [] → Env0 P w K mg base A outer s H → BindsTo s fd args (ps.zip us) → Vals vs us → vs.length = ps.length →
    codeAny (model P w) A (.call (.ref f) args) (fun r s' => match r with | .ok (.ret u) => GMk2 P w K mg base k outer s (sp vs) u s' | _ => False) s
/-- an expression whose value is such a generator -/
abbrev TGk2 := L2.St → Hp → ((Hp → SpV) → Hp → Prop) → Prop
/-- the module holds a generator def x -/
def Kgf2 (g : Wd) (x : Str) (k : Nat) (ps : List Str) (ds : List V) (sp : SpK) : Prop :=
  ∃ f fd dsV, g.mg x = some (.ref f) ∧ PySem.W.keepIn g.K (.ref f) = true ∧ GKn2 g.P g.w g.K g.mg g.base k f fd ps sp ∧ Binds g.K fd ps dsV ∧ Vals ds dsV
def tKM2 (C : Addr) (m : Str) (n : Nat) (sp : SpK) (ds : List V) (ta : TE) (t : TA) : TGk2 := fun σ H Q => ta σ H fun x H1 => ∃ a dx fs, x = .ref a ∧ H1 a = some (.ins C dx fs) ∧ fs.lookup m = none ∧ t σ H1 fun vs H2 => (x :: (vs ++ ds)).length = n ∧ Q (sp (x :: (vs ++ ds))) H2
def tKC2 (n : Nat) (sp : SpK) (ds : List V) (t : TA) : TGk2 := fun σ H Q => t σ H fun vs H1 => (vs ++ ds).length = n ∧ Q (sp (vs ++ ds)) H1
def rmH (H : Hp) (B : Addr) : Hp := fun b => if b = B then none else H b
def YLc (g : TG) (tt : TT) (te : TE) (vs : List Nat) (σ : L2.St) (D B : Addr) : YLk := fun _ _ x Hx res => (∃ xs, Hx D = some (.lst xs)) ∧ g x (wipe σ vs) (rmH Hx B) fun σ2 H2 => wipe σ2 vs = wipe σ vs ∧ tt σ2 H2 fun b H3 =>
  if b = true then te σ2 H3 fun y H4 => H4 B = none → ∃ acc, H4 D = some (.lst acc) ∧ acc.length < sizeLine ∧ ∀ o', res (wipe σ vs) (upd (upd H4 D (.lst (acc ++ [y]))) B (.frz o' (.own B))) else (∃ acc, H3 D = some (.lst acc)) ∧ ∀ o', res (wipe σ vs) (upd H3 B (.frz o' (.own B)))
def tLcK (tk : TGk2) (g : TG) (tt : TT) (te : TE) (vs : List Nat) : TE := fun σ H Q => tk σ H fun spv H1 => ∀ D, H1 D = none → ∀ B o, H1 B = none → B ≠ D → spv (upd (upd H1 D (.lst [])) B (.frz o (.own B))) (wipe σ vs) (YLc g tt te vs σ D B) (fun _ Hx => (∃ xs, Hx D = some (.lst xs)) ∧ Q (.ref D) (rmH Hx B))
end RS
namespace RS
open PySem PySem.Spec L2 PyProof.Rows
def tMethStar (K : PySem.W.Frag) (C : Addr) (m : Str) (sp : Sp) (W : WX) (ta te : TE) : TE := fun σ H Q => ta σ H fun x H1 => ∃ a dx fs, x = .ref a ∧ H1 a = some (.ins C dx fs) ∧ fs.lookup m = none ∧
  ∀ f q, H1 q = none → te σ (upd H1 q (.met f a)) fun y H2 => ∃ b vs, y = .ref b ∧ (SqT K H2 b vs ∨ SqL K H2 b vs) ∧ H2 q = some (.met f a) ∧ sp (.ref a :: vs) H2 Q (fun c d H' => W c d σ H')
def tKCK2 (n : Nat) (sp : SpK) (pm : List Nat) (t : TA) : TGk2 := fun σ H Q => t σ H fun zs H1 => zs.length = n ∧ Q (sp (pm.map fun i => zs.getD i .non)) H1
/-- a dict that is held fast from here on -/
def tLk (t : TE) : TE := fun σ H Q => t σ H fun x H1 => ∃ d u, x = .ref d ∧ H1 d = some u ∧ Mut (some u) ∧ ∀ o, Q x (upd H1 d (.frz o u))
end RS
namespace RS
open PySem PySem.Spec L2 PyProof.Rows HT
end RS
set_option autoImplicit true
namespace RS
open PySem PySem.Spec L2
section
variable {X : Cx} {o : Expr} {to : TE}
/-- x.isdigit(), of a text -/
def tDig (to : TE) : TE := fun σ H Q => to σ H fun x H1 => ∃ a, x = .str a ∧ Q (.bl (Txt.isdigit a)) H1
end
end RS
namespace RS
open PySem PySem.Spec L2 PyProof.Rows GenW
abbrev SpX := List V → Hp → XK → Prop
/-- an expression whose value is such a generator -/
abbrev TGkX := L2.St → Hp → ((Hp → XK → Prop) → Hp → Prop) → Prop
def tKMX (C : Addr) (m : Str) (n : Nat) (sp : SpX) (ds : List V) (ta : TE) (t : TA) : TGkX := fun σ H Q => ta σ H fun x H1 => ∃ a dx fs, x = .ref a ∧ H1 a = some (.ins C dx fs) ∧ fs.lookup m = none ∧ t σ H1 fun vs H2 => (x :: (vs ++ ds)).length = n ∧ Q (sp (x :: (vs ++ ds))) H2
def tKCX (n : Nat) (sp : SpX) (ds : List V) (t : TA) : TGkX := fun σ H Q => t σ H fun vs H1 => (vs ++ ds).length = n ∧ Q (sp (vs ++ ds)) H1
def tLcX (K : PySem.W.Frag) (tk : TGkX) (W : WX) : TE := fun σ H _ => tk σ H fun spx H1 => ∀ D, H1 D = none → ∀ B o, H1 B = none → B ≠ D →
  spx (upd (upd H1 D (.lst [])) B (.frz o (.own B))) fun c d Hx => PySem.W.subIn K c (.type "StopIteration") = some false ∧ W c d σ (rmH Hx B)
end RS
namespace RS
open PySem PySem.Spec L2 PyProof.Rows
end RS
namespace RS
open PySem PySem.Spec L2 PyProof.Rows GenW
end RS
namespace RS
open PySem PySem.Spec L2 PyProof.Rows GenW
end RS
namespace RS
open PySem PySem.Spec L2 PyProof.Rows GenW
abbrev SpVY := L2.St → YLk → (L2.St → Hp → Prop) → (L2.St → XK) → Prop
abbrev SpY := List V → Hp → SpVY
abbrev KEndY (X : Cx) (Lk : LkR) (fin : L2.St → Hp → Prop) (ex : L2.St → XK) (a : Addr) (gn : Nat) : GenEnd := fun n s₀ r s1 => (r = .ok (.ret .none) ∧ KFin X Lk fin s₀ s1) ∨
  ∃ e, r = .error e ∧ ∃ k H0, LkL X Lk s₀ k H0 ∧ CX X.prog X.w X.outer H0 (tr X.env.locals s₀) (ex k) e s1 ∧ s1.heap.IsGen a gn
def GMkY (P : Program) (w : World) (K : PySem.W.Frag) (mg : Str → Option Value) (base : Heap) (k : Nat) (outer : List Env) (s : Shared) (spv : Hp → SpVY) (u : Value) (s' : Shared) : Prop :=
  ∃ (a L : Addr) (gn : Nat) (c : Code), u = .ref a ∧ s.heap.objs.size ≤ L ∧ L < s'.heap.objs.size ∧ s.heap.objs.size ≤ a ∧ s'.heap.IsGen a gn ∧ s'.gens[gn]? = some (.fresh c) ∧ s'.os = s.os ∧ AllBare s'.gens ∧ (∀ b o, s.heap.get? b = some o → s'.heap.get? b = some o) ∧
    ∀ (A : Around) (s2 : Shared) (H2 : Hp), Room k A → A.guards = some [] → A.frames = some outer → (∀ b o, s'.heap.get? b = some o → s2.heap.get? b = some o) → s2.os = s.os → Env0 P w K mg base A outer s2 H2 → H2 L = none → H2 a = none →
      ∃ X, GCtx P w K mg base outer L a gn X ∧ ∀ (Lk : LkR) (k0 : L2.St) (yl : YLk) (fin : L2.St → Hp → Prop) (ex : L2.St → XK), Lk s2 k0 H2 → spv H2 k0 yl fin ex → Seg (model P w) A (KEndY X Lk fin ex a gn) (KYp X Lk yl) sizeLine s2 c ((model P w).den c) [] s2
structure GKnY (P : Program) (w : World) (K : PySem.W.Frag) (mg : Str → Option Value) (base : Heap) (k : Nat) (f : Addr) (fd : FuncData) (ps : List Str) (sp : SpY) : Prop where
  run : ∀ (A : Around) (outer : List Env) (s : Shared) (H : Hp) (args : Args) (us : List Value) (vs : List V), Room k A → A.guards = some [] → Env0 P w K mg base A outer s H → BindsTo s fd args (ps.zip us) → Vals vs us → vs.length = ps.length →
    codeAny (model P w) A (.call (.ref f) args) (fun r s' => match r with | .ok (.ret u) => GMkY P w K mg base k outer s (sp vs) u s' | _ => False) s
end RS
namespace RS
open PySem PySem.Spec L2 PyProof.Rows GenW
end RS
namespace RS
open PySem PySem.Spec L2 PyProof.Rows GenW
/-- the module holds a generator def x that raises -/
def KgfY (g : Wd) (x : Str) (k : Nat) (ps : List Str) (ds : List V) (sp : SpY) : Prop :=
  ∃ f fd dsV, g.mg x = some (.ref f) ∧ PySem.W.keepIn g.K (.ref f) = true ∧ GKnY g.P g.w g.K g.mg g.base k f fd ps sp ∧ Binds g.K fd ps dsV ∧ Vals ds dsV
/-- it does not raise -/
def noX : L2.St → XK := fun _ _ _ _ => False
theorem GKnY.calm {P : Program} {w : World} {K : PySem.W.Frag} {mg : Str → Option Value} {base : Heap} {k : Nat} {f : Addr} {fd : FuncData} {ps : List Str} {sp : SpY} (F : GKnY P w K mg base k f fd ps sp) : GKn2 P w K mg base k f fd ps (fun vs H k0 yl fin => sp vs H k0 yl fin noX) := by
  refine ⟨fun A outer s H args us vs hr hg e0 hb r hl => codeAny_mono (F.run A outer s H args us vs hr hg e0 hb r hl) fun r s' hq => ?_⟩
  cases r with
  | error e => exact False.elim hq
  | ok fl =>
    cases fl with
    | ret u =>
      obtain ⟨a, L, gn, c, eu, hL, hL2, ha, hig, hgs, hos, hba, hkp, wake⟩ := hq
      refine ⟨a, L, gn, c, eu, hL, hL2, ha, hig, hgs, hos, hba, hkp, fun A s2 H2 h1 h2 h3 h4 h5 h6 h7 h8 => ?_⟩
      obtain ⟨X, GX, seg⟩ := wake A s2 H2 h1 h2 h3 h4 h5 h6 h7 h8
      refine ⟨X, GX, fun Lk k0 yl fin lk hs => seg_imp (fun n s₀ r t z => ?_) (fun _ _ _ _ _ _ h z => by
        obtain ⟨i, k, H0, x, ip, σ, H, res, a1, a2, a3, a4, a5, a6⟩ := z
        exact ⟨i, k, H0, x, ip, σ, H, res, a1, a2, a3, a4, a5, fun k' H' s' b1 b2 b3 => h _ _ (a6 k' H' s' b1 b2 b3)⟩) sizeLine (seg Lk k0 yl fin noX lk hs)⟩
      rcases z with z | ⟨e, _, k, H0, _, cx, _⟩
      · exact z
      · obtain ⟨_, _, _, _, _, _, _, _, _, _, _, _, z⟩ := cx
        exact z.elim
    | next => exact False.elim hq
    | brk => exact False.elim hq
    | cont => exact False.elim hq
theorem KgfY.calm {g : Wd} {x : Str} {k : Nat} {ps : List Str} {ds : List V} {sp : SpY} (h : KgfY g x k ps ds sp) : Kgf2 g x k ps ds (fun vs H k0 yl fin => sp vs H k0 yl fin noX) := by
  obtain ⟨f, fd, dsV, a, b, c, d, e⟩ := h
  exact ⟨f, fd, dsV, a, b, c.calm, d, e⟩
end RS
namespace RS
open PySem PySem.Spec L2 PyProof.Rows ClX
end RS
namespace RS
open PySem PySem.Spec L2 PyProof.Rows
end RS
namespace RS
open PySem PySem.Spec L2 PyProof.Rows ClX
end RS
namespace RS
open PySem PySem.Spec L2 PyProof.Rows GenW
end RS
namespace RS
open PySem PySem.Spec L2 PyProof.Rows
/-- what the clause wishes of an exception: it is kept, as a value -/
def wKeep1 (K : PySem.W.Frag) (c : Value) (i : Nat) (ts : Addr → Value → Option Addr → TS) (Wout : WX) (D : Ends) : WX := fun cls d σ H =>
  ∃ b, PySem.W.exmOne K cls c = some b ∧ (b = true → ∃ C, cls = .ref C ∧ ∀ a, H a = none → ts a cls d { nx := fun σ' H' => H' a = none → D.nx (σ'.set i none) (upd H' a (exv a C d)), rt := fun _ _ => False, bk := fun _ _ => False, ct := fun _ _ => False } (σ.set i (some (.ref a))) H) ∧
    (b = false → Wout cls d σ H)
section
variable {X : Cx} {x1 n : Str} {C1 : Addr} {i : Nat} {body suite : List Stmt} {b₀ : Stmt} {q1 pos pos' : Pos} {tb : WX → TS} {ts : Addr → Value → Option Addr → TS} {Wout : WX}
theorem ps_try_keep1 (hs : X.stack = X.env :: X.outer) (hf : X.env.frame = some X.env.locals) (hex : X.ex = []) (hN : X.N.Nodup) (hi : X.N[i]? = some n) (hln : X.env.kindOf n = some .local) (g1 : Names X x1 (.ref C1)) (tk : Takes X Wout)
    (hb : ∀ (W : WX) (pn : List (Addr × Obj)) (xe : Value → Shared → Prop), Takes (X.tr pn xe) W → PassesOwn (model X.prog X.w) X.A X.env xe → PSs (X.tr pn xe) body (tb W))
    (hsu : ∀ (a : Addr) (oe : Obj) (cls : Value) (d : Option Addr) (pn : List (Addr × Obj)), Zc cls d oe → (∃ vs, oe.data = .fields vs) → PSs (X.suite a ((a, oe) :: pn)) (b₀ :: suite) (ts a cls d)) :
    PS X (.Try body [.ExceptHandler (some (.Name x1 q1)) (some n) (b₀ :: suite) pos'] [] [] pos) (fun D σ H => tb (wKeep1 X.K (.ref C1) i ts Wout D) D σ H) := by
  refine ⟨fun pins s σ H D I h => ?_⟩
  have ok := I.ok
  have hfr : X.A.frames = some (X.env :: X.outer) := by rw [ok.frames, hs]
  refine wpAny_Try_except ?_
  let clause : ExceptHandler := .ExceptHandler (some (.Name x1 q1)) (some n) (b₀ :: suite) pos'
  let M := model X.prog X.w
  let xe' : Value → Shared → Prop := fun e s₁ => wpAny M X.A (noteFrame e X.env) (fun _ s₂ => wpAny M X.A (setFlight e none) (fun _ s₃ => wpAny M X.A (handleBy e X.env [clause]) (SP X pins D) X.xe s₃) X.xe s₂) X.xe s₁
  have run := (hb (wKeep1 X.K (.ref C1) i ts Wout D) (X.pn ++ pins) xe' (fun u s' xx => ?caught) PassesOwn.looking).run [] s σ H D (I.toTry _) h
  · refine wpAny_mono run (fun f s1 hsp => ?_) (fun e s1 he => he)
    cases f with
    | next =>
      obtain ⟨σ', H', J', q⟩ := hsp
      exact wpAny_execs_nil ⟨σ', H', J'.ofTry ok, q⟩
    | brk =>
      obtain ⟨σ', H', J', q⟩ := hsp
      exact ⟨σ', H', J'.ofTry ok, q⟩
    | cont =>
      obtain ⟨σ', H', J', q⟩ := hsp
      exact ⟨σ', H', J'.ofTry ok, q⟩
    | ret u =>
      obtain ⟨v, σ', H', J', r, q⟩ := hsp
      exact ⟨v, σ', H', J'.ofTry ok, r, q⟩
  case caught =>
    obtain ⟨a, B, sI, pins', σ', H', cls, d, rfl, J', nb, up, sky, na, os, ag, b, hb1, hyes, hno⟩ := xx
    have J : Inv X pins σ' H' sI := J'.ofTry ok
    have sky' : Sky B (X.env :: X.outer) a (Zc cls d) X.env.locals s'.heap := by rw [← hs]; exact sky
    have nB := sky_none sky'
    show wpAny M X.A (noteFrame (.ref a) X.env) _ _ _
    refine Sky.land Zc.steady hfr hf sky' fun h3 fl3 up3 => ?_
    have land : ∀ h, HandSPX.FlyingZ B (X.env :: X.outer) a (Zc cls d) h → s'.heap.UpToSlots h → Inv X pins σ' H' { s' with heap := h } := fun h fl u => J.landed nb fl.1 (up.trans u) os ag
    have J3 := land h3 fl3 up3
    obtain ⟨oe3, vs3, he3, hz3, hd3⟩ := fl3.there
    have nfr : a ∉ frs (X.env :: X.outer) := fun hm => by
      obtain ⟨_, o', e', hnf⟩ := fl3.2.2.1.mem hm
      rw [he3] at e'
      cases e'
      exact hnf _ hd3
    have nL : a ≠ X.env.locals := fun z => nfr (List.mem_filterMap.mpr ⟨X.env, List.mem_cons_self, by rw [hf, z]⟩)
    have nF : a ∉ X.fs := fun hm => by
      obtain ⟨e, he, q⟩ := List.mem_filterMap.mp hm
      exact nfr (List.mem_filterMap.mpr ⟨e, List.mem_cons_of_mem _ he, q⟩)
    have nI : sI.heap.get? a = none := by
      cases z : sI.heap.get? a with
      | none => rfl
      | some o =>
        have := nb a o z (by rw [hs]; exact nfr)
        rw [nB] at this; cases this
    have n0 : X.s_0.heap.get? a = none := by
      cases z : X.s_0.heap.get? a with
      | none => rfl
      | some o =>
        obtain ⟨o', z'⟩ := J.base.there a o z (by rw [hex]; simp)
        rw [nI] at z'; cases z'
    have npin : ∀ p ∈ X.pn ++ pins, p.1 ≠ a := fun p hp z => by
      have := (J.pin p hp).1
      rw [z, nI] at this; cases this
    have S3 := J3.suite he3 hd3 na nL nF
    refine wpAny_handleBy_cons (codeAny_handlers_test ?_) (by intro q; cases q)
    have LT : PySem.W.Looks M h3 (typeOf (.ref a)) cls := fun A Q E s k q => wpAny_typeOf_ref (k _ _ he3) (by rw [hz3.1]; exact q)
    have ld : ∀ {x : Str} {C : Addr} {np : Pos} {Q : Value → Shared → Prop} {E : Value → Shared → Prop}, Names X x (.ref C) → Q (.ref C) { s' with heap := h3 } → wpAny M (X.A.mark (some (.ref a))) (eval (.Name x np) X.env) Q E { s' with heap := h3 } := fun {x C np Q E} hc q => by
      obtain ⟨hg, hdbg, hm | ⟨hm, hv, hnn⟩⟩ := hc
      · exact ld_glob (X := X.suite a ((a, oe3) :: (X.pn ++ pins))) S3 hg hm q hdbg
      · exact ld_blt (X := X.suite a ((a, oe3) :: (X.pn ++ pins))) S3 hg hm hv q hnn hdbg
    refine ld g1 ?_
    refine (PySem.W.exm_one (M := M) J3.kIn LT hb1).here ?_
    have fl := fl3
    have upk := up3
    cases b with
    | true =>
      obtain ⟨C, rfl, hyes⟩ := hyes rfl
      refine codeAny_handlers_suite_as ?_
      refine HandSPX.lands_againZ fl fun h4 fl4 up4 => ?_
      have J4 := land h4 fl4 (upk.trans up4)
      obtain ⟨oe4, vs4, he4, hz4, hd4⟩ := fl4.there
      have S4 := J4.suite he4 hd4 na nL nF
      refine store_ok (X := X.suite a ((a, oe4) :: (X.pn ++ pins))) (v := .ref a) S4 hN hi (.inl hln) rfl (fun s5 S5 => ?_) (.inr hln)
      refine wpAny_mono ((hsu a oe4 (.ref C) d (X.pn ++ pins) hz4 ⟨_, hd4⟩).run [] s5 _ H' _ S5 (hyes a na)) (fun f s6 hsp => ?_) (fun _ _ z => False.elim z)
      cases f with
      | next =>
        obtain ⟨σ6, H6, S6, q6⟩ := hsp
        have p6 := S6.pin (a, oe4) (List.mem_append_left _ (List.mem_cons_self ..))
        have Jp : Inv X ((a, oe4) :: pins) σ6 H6 s6 := ⟨ok, S6.os, S6.bare, S6.base, S6.loc, S6.cell, S6.free, S6.freeC, fun p hp => by
          rcases List.mem_append.mp hp with z | z
          · exact S6.pin p (List.mem_append_left _ (List.mem_cons_of_mem _ (List.mem_append_left _ z)))
          · rcases List.mem_cons.mp z with z | z
            · rw [z]; exact p6
            · exact S6.pin p (List.mem_append_left _ (List.mem_cons_of_mem _ (List.mem_append_right _ z))), S6.hok, S6.len⟩
        refine gone_ok Jp hN hi hln fun s7 J7 => ?_
        obtain ⟨e7, n7, l7, f7, c7⟩ := J7.pin (a, oe4) (List.mem_append_right _ (List.mem_cons_self ..))
        have J8 : Inv X pins (σ6.set i none) H6 s7 := ⟨ok, J7.os, J7.bare, J7.base, J7.loc, J7.cell, J7.free, J7.freeC, fun p hp => J7.pin p ((List.mem_append.mp hp).elim (List.mem_append_left _) fun z => List.mem_append_right _ (List.mem_cons_of_mem _ z)), J7.hok, J7.len⟩
        refine ⟨_, _, track (u := exv a C d) J8 n7 n0 l7 (fun x c hc z => ?_) npin (exv_ok e7 hz4.1 hz4.2 hd4), q6 n7⟩
        obtain ⟨v, o, ho, hd⟩ := J7.cell x c hc
        rw [z, e7] at ho
        cases ho
        exact c7 v hd
      | brk =>
        obtain ⟨σ6, H6, S6, q6⟩ := hsp
        exact q6.elim
      | cont =>
        obtain ⟨σ6, H6, S6, q6⟩ := hsp
        exact q6.elim
      | ret u =>
        obtain ⟨v6, σ6, H6, S6, r6, q6⟩ := hsp
        exact q6.elim
    | false =>
      show wpAny _ X.A (handleBy (.ref a) X.env []) _ _ _
      refine wpAny_handleBy_nil ?_
      have fl' := fl
      obtain ⟨k1, k2, k3, oe, vs, T, oT, ts', he, hz, hd, h1, hr⟩ := fl'
      unfold PySem.passOn
      refine wpAny_bind (wpAny_field he hd h1 ?_)
      rw [if_neg (show ¬ ((Value.ref T == Value.none) = true) from by simp)]
      have fin : wpAny M X.A (setFlight (.ref a) X.env.frame) (fun _ s4 => wpAny M X.A (throw (.ref a) : Sem Flow) (SP X pins D) X.xe s4) X.xe { s' with heap := h3 } := by
        rw [hf]
        refine HandSPX.setFlight_upZ fl fun h4 hh4 up4 => wpAny_throw (tk _ _ ?_)
        exact ⟨a, B, sI, pins, σ', H', cls, d, rfl, J, nb, up.trans (upk.trans up4), .inr (.inr (by rw [hs]; exact hh4)), na, os, ag, hno rfl⟩
      first
        | exact wpAny_bind (wpAny_pure (wpAny_bind fin))
        | exact wpAny_bind fin
end
end RS
namespace PySem.SeqAt
open PySem PySem.MeetsSeq
end PySem.SeqAt
namespace RS
open PySem PySem.Spec L2 PyProof.Rows
end RS
namespace PySem.W
open PySem PySem.Spec PyProof.Rows PyProof.V PyProof
end PySem.W
namespace RS
open PySem PySem.Spec L2 PyProof.Rows LamX
end RS
namespace RS
open PySem PySem.Spec L2 PyProof.Rows
section
variable {X : Cx}
def rStrA : List V → Hp → VK → Prop := fun xs H Q => (∃ i, xs = [.int i] ∧ i.natAbs.log2 < 1920 ∧ Q (.str (toString i)) H) ∨ (xs = [.non] ∧ Q (.str (Str.ofString "None")) H) ∨ ∃ b : Bool, xs = [.bl b] ∧ Q (.str (Str.ofString (if b then "True" else "False" : String))) H
theorem c_strA : CallR X (.type "str") rStrA := by
  intro pins s σ H xs us Q I r h
  rcases h with ⟨i, rfl, hz, q⟩ | ⟨rfl, q⟩ | ⟨b, rfl, q⟩
  · obtain ⟨u, rfl, t, rfl⟩ := vals1 r
    exact PySem.P.str_of_int hz ⟨.str _, H, I.tok _, ⟨_, rfl⟩, q⟩
  · obtain ⟨u, rfl, r1⟩ := vals1 r
    cases r1
    exact PySem.P.str_of_none ⟨.str _, H, I.tok _, ⟨_, rfl⟩, q⟩
  · obtain ⟨u, rfl, r1⟩ := vals1 r
    cases r1
    refine PySem.P.str_of_bool ⟨.str _, H, I.tok _, ⟨_, rfl⟩, ?_⟩
    cases b <;> exact q
def rInN (K : PySem.W.Frag) (d : Addr) : R2 := fun x y H Q => ∃ (z : Str) (r : Option Value), x = .str z ∧ y = .ref d ∧ PySem.W.nsIn K d z = some r ∧ Q (.bl r.isSome) H
theorem o_inN {K : PySem.W.Frag} {w : World} {d : Addr} {es : Array DictEntry} {n : Nat} (D : KDict K w d es n) (hK : X.K = K := by rfl) (hw : X.w = w := by rfl) : OpR X (compareOp .In) (rInN K d) := by
  subst hK hw
  exact op_in_kd D
end
end RS
namespace PySem
open Sem (wp)
end PySem
namespace RS
open PySem PySem.Spec L2
end RS
set_option maxHeartbeats 2000000
namespace RS
open PySem PySem.Spec L2 PyProof.Rows GenW
end RS
namespace RS
open PySem PySem.Spec L2 PyProof.Rows
def txOf (e : Int × Value) : Str := match e.2 with
  | .str x _ => x
  | _ => Str.empty
def EnTx (w : World) (e : Int × Value) : Prop := ∃ x u, e.2 = Value.str x u ∧ e.1 = hashStr w x
/-- entries and table hold the texts l in some order -/
structure TbS (w : World) (ar : Array (Int × Value)) (tb : SetTable) (l : List Str) : Prop where
  en : ∀ e ∈ ar.toList, EnTx w e
  pm : (ar.toList.map txOf).Perm l
  nd : l.Nodup
  ft : tb.fits ar.size = true
  rs : Ris tb.place.toList
  ld : w.params.followText "set-order" = true ∨ tb.led = true
  sz : l.length < scanBound
def SetS (w : World) (hp : Heap) (a : Addr) (l : List Str) : Prop := ∃ ob ar ep tb, hp.get? a = some ob ∧ ob.ExactSet ∧ ob.data = .set ar ep tb ∧ TbS w ar tb l
section
variable {P : Program} {w : World} {A : Around} {E : Value → Shared → Prop} {sh : Shared} {a : Addr} {l : List Str} {ar : Array (Int × Value)} {tb : SetTable}
theorem SetS.at {hp hp' : Heap} (R : SetS w hp a l) (k : ∀ ob, hp.get? a = some ob → hp'.get? a = some ob) : SetS w hp' a l := by
  obtain ⟨ob, ar, ep, tb, h1, h2⟩ := R
  exact ⟨ob, ar, ep, tb, k ob h1, h2⟩
theorem TbS.len (T : TbS w ar tb l) : ar.size = l.length := by
  rw [← T.pm.length_eq, List.length_map, Array.length_toList]
theorem enS_is {e : Int × Value} (n : EnTx w e) (x : Str) : (strKind P w).is x e.2 = true ↔ txOf e = x := by
  obtain ⟨y, u, e1, _⟩ := n
  unfold txOf
  rw [e1]
  show ((y == x) = true) ↔ y = x
  exact beq_iff_eq
theorem TbS.has (T : TbS w ar tb l) (x : Str) : x ∈ l ↔ ∃ e ∈ ar.toList, (strKind P w).is x e.2 = true := by
  rw [← T.pm.mem_iff, List.mem_map]
  exact ⟨fun ⟨e, m, q⟩ => ⟨e, m, (enS_is (T.en e m) x).2 q⟩, fun ⟨e, m, q⟩ => ⟨e, m, (enS_is (T.en e m) x).1 q⟩⟩
end
end RS
namespace RS
open PySem PySem.Spec L2 PyProof.Rows
section
variable {X : Cx} {k : Nat} {pins : List (Addr × Obj)} {σ : L2.St} {H : Hp} {s : Shared}
theorem hits_dl (I : Inv X pins σ H s) {A : Around} {ls : List (Key × V)} {vb : List (Key × Value)} (rb : KV ls vb) (hu : A.in1.units + 64 < cLine) {ks : List (Key × V)} {va : List (Key × Value)} (ra : KV ks va) :
    (∀ p ∈ ks, ∃ u d e, valV ls p.1 = some u ∧ Dp X.K H p.2 d ∧ Dp X.K H u e ∧ SeqAt.shaped d = true ∧ SeqAt.shaped e = true ∧ PyData.eqv d e = true) → PySem.W.KeqHits A.in1 s vb va true := by
  unfold KV at ra
  induction ra with
  | nil => exact fun _ => .nil
  | @cons p q ps qs h t ih =>
    intro hp
    obtain ⟨h1, h2⟩ := h
    have hr := ih fun p' hm => hp p' (List.mem_cons_of_mem _ hm)
    obtain ⟨key, v⟩ := q
    have h1' : p.1 = key := h1
    have h2 : RelV p.2 v := h2
    obtain ⟨u, d, e, hv, dd, de, s1, s2, he⟩ := hp p List.mem_cons_self
    have rr : RelO (some u) (valueAt vb p.1) := by rw [← hv]; exact rb.val p.1
    obtain ⟨y, hy, ry⟩ := rr.some_of
    rw [h1'] at hy
    obtain ⟨as, r1⟩ := dd.reads I d _ _ h2
    obtain ⟨bs, r2⟩ := de.reads I e _ _ ry
    have ev := PySem.W.keq_at (A := A) r1 r2 s1 s2 hu
    rw [he] at ev
    exact .hit hy ev hr
def rNeDL (K : PySem.W.Frag) : R2 := fun x y H Q => ∃ a b ks ls, x = .ref a ∧ y = .ref b ∧ H a = some (.dK ks) ∧ H b = some (.dK ls) ∧ ks.length = ls.length ∧
  (∀ p ∈ ks, ∃ u d e, valV ls p.1 = some u ∧ Dp K H p.2 d ∧ Dp K H u e ∧ SeqAt.shaped d = true ∧ SeqAt.shaped e = true ∧ PyData.eqv d e = true) ∧ Q (.bl false) H
theorem op_neDL {K : PySem.W.Frag} (hr : Rm k X) (hK : X.K = K := by rfl) : OpR X (compareOp .NotEq) (rNeDL K) := by
  subst hK
  intro pins s σ H x y v u Q I rx ry h
  obtain ⟨a, b, ks, ls, rfl, rfl, ea, eb, hl, hp, q⟩ := h
  obtain rfl : v = Value.ref a := rx
  obtain rfl : u = Value.ref b := ry
  obtain ⟨_, ya, va, ra, da⟩ := (show ObjOk X.prog X.w H s.heap a (.dK ks) from I.hok a _ ea)
  obtain ⟨_, yb, vb, rb, db⟩ := (show ObjOk X.prog X.w H s.heap b (.dK ls) from I.hok b _ eb)
  have hu : X.A.units < cLine := by have := hr.room.un; omega
  refine PySem.W.keq_ne (knd := mixKind X.prog X.w) (r := true) ya yb da db hu (fun e => hits_dl I rb (by have := hr.room.un; show X.A.units + 1 + 64 < cLine; omega) ra hp) (fin_bl I q ?_)
  have e : (va.length == vb.length) = true := by rw [← ra.length, ← rb.length, hl]; simp
  rw [e]; rfl
end
end RS
namespace RS
open PySem PySem.Spec L2 PyProof.Rows
section
variable {g : Wd} {X : Cx} {k : Nat} {C : Addr} {ps : List Str} {ds : List V} {sp : Sp} {W : WX} {x : Str} {p pos : Pos} {a b e : Expr} {es : List Expr} {ta tb : TE} {t : TA}
/-- a + b, two instances of the class at C -/
def tAddOwn (C : Addr) (sp : Sp) (ds : List V) (W : WX) (ta tb : TE) : TE := fun σ H Q => ta σ H fun u H1 => tb σ H1 fun y H2 => ∃ q dx fs q2 dx2 fs2, u = .ref q ∧ H2 q = some (.ins C dx fs) ∧ y = .ref q2 ∧ H2 q2 = some (.ins C dx2 fs2) ∧
  sp ([V.ref q, V.ref q2] ++ ds) H2 (fun v H' => (∃ r, v = .ref r) ∧ Q v H') (fun c d H' => W c d σ H')
theorem e_addOwn (F : Km g C "__add__" k ps ds sp) (sf : PySem.W.selfFirst g.K C = true) (hr : Rm k X) (tk : Takes X W) (ha : PE X a ta) (hb : PE X b tb) (at_ : At g X := by exact ⟨rfl, rfl, rfl, rfl, rfl⟩) : PE X (.BinOp a .Add b pos) (tAddOwn C sp ds W ta tb) := by
  obtain ⟨f, fd, dsV, hf, hi, hk, F, hbd, rd⟩ := F
  refine ⟨fun pins s σ H Q I h => ?_⟩
  refine wpAny_BinOp (binT (R := fun u y H2 => ∃ q dx fs q2 dx2 fs2, u = V.ref q ∧ H2 q = some (.ins C dx fs) ∧ y = V.ref q2 ∧ H2 q2 = some (HO.ins C dx2 fs2) ∧ sp ([V.ref q, V.ref q2] ++ ds) H2 (fun v H' => (∃ r, v = .ref r) ∧ Q v H') (fun c d H' => W c d σ H')) ha hb I h fun v u s2 x y H2 I2 rx ry q => ?_)
  obtain ⟨q, dx, fs, q2, dx2, fs2, rfl, ea, rfl, eb, hs⟩ := q
  cases rx
  cases ry
  obtain ⟨mA, J, _⟩ := ins_get I2.hok ea
  obtain ⟨od, J, _⟩ := J.look
  obtain ⟨mB, J2, _⟩ := ins_get I2.hok eb
  obtain ⟨od2, J2, _⟩ := J2.look
  obtain ⟨m, hF⟩ := I2.fr
  refine PySem.W.binop_K hF I2.ok.mod.kin J J2.type (by rw [at_.K]; exact sf) (by rw [at_.K]; exact hf) (by rw [at_.K]; exact hi) (wpAny_mono (callB at_ F hr.here tk hbd rd (vs := [.ref q, .ref q2]) (us := [.ref q, .ref q2]) I2 (.cons rfl (.cons rfl .nil)) hs) ?_ fun _ _ z => z)
  rintro v s' ⟨z, H', I', rz, ⟨r, rfl⟩, hq⟩
  cases rz
  exact ⟨.ref r, H', I', rfl, hq⟩
/-- len(o), an instance of the class at C -/
def tLenOwn (C : Addr) (sp : Sp) (ds : List V) (W : WX) (t : TA) : TE := fun σ H Q => t σ H fun xs H1 => ∃ q dx fs, xs = [.ref q] ∧ H1 q = some (.ins C dx fs) ∧ sp ([.ref q] ++ ds) H1 (fun v H' => ∃ n : Int, v = .int n ∧ 0 ≤ n ∧ n < 2 ^ 63 ∧ Q v H') (fun c d H' => W c d σ H')
theorem e_lenOwn {e : Expr} {t : TA} (F : Km g C "__len__" k ps ds sp) (hr : Rm (k + 1) X) (tk : Takes X W) (hm : X.mg "len" = none) (ha : PA X [e] t) (hg : Gl X "len" := by rfl)
    (he : starEach (e :: []) X.env = (false, eval e X.env) :: starEach [] X.env := by rfl) (hpl : (backTo pos (starEach [] X.env)).any (·.1) = false := by rfl) (at_ : At g X := by exact ⟨rfl, rfl, rfl, rfl, rfl⟩) :
    PE X (.Call (.Name "len" p) [e] [] pos) (tLenOwn C sp ds W t) := by
  obtain ⟨f, fd, dsV, hf, hi, hk, F, hb, rd⟩ := F
  refine ⟨fun pins s σ H Q I h => wpAny_Call_Name_kw (ld_blt (u := .builtin "len") I hg hm (by decide +kernel) ?_ (by decide) (by decide))⟩
  refine PyProof.Rows.callWith_builtin1 (thn (ha.run pos pins s σ H _ I h) ?_) he hpl
  rintro us s1 ⟨vs, H1, I1, r1, q, dx, fs, rfl, ea, hs⟩
  obtain ⟨u, rfl, ru⟩ := vals1 r1
  cases ru
  obtain ⟨mA, J, _⟩ := ins_get I1.hok ea
  obtain ⟨od, J, _⟩ := J.look
  obtain ⟨m, hF⟩ := I1.fr
  refine PySem.W.len_K hF I1.ok.mod.kin J (by rw [at_.K]; exact hf) (by rw [at_.K]; exact hi) (wpAny_mono (callB at_ F hr.here.in1 tk hb rd (vs := [.ref q]) (us := [.ref q]) I1 (.cons rfl .nil) hs) ?_ fun _ _ z => z)
  rintro v s' ⟨z, H', I', rz, n, rfl, n0, n1, hq⟩
  obtain ⟨tk', rfl⟩ := rz
  exact ⟨⟨n0, n1⟩, .int n, H', I'.tok _, ⟨_, rfl⟩, hq⟩
def KcS (g : Wd) (x : Str) (C : Addr) (k : Nat) (sp : Sp) : Prop := g.mg x = some (.ref C) ∧ ∃ f, Mk g.K C f ∧ FnS g k f sp
theorem runS_B {B : Around} {f : Addr} (a : At g X) (F : FnS g k f sp) (hr : Rb k X B) (tk : Takes X W) {pins : List (Addr × Obj)} {σ : L2.St} {H : Hp} {s : Shared} {Q : VK} {us : List Value} {vs : List V}
    (I : Inv X pins σ H s) (r : Vals vs us) (h : sp vs H Q (fun c d H' => W c d σ H')) :
    codeAny (model X.prog X.w) B (.call (.ref f) ⟨us, []⟩) (fun res s' => match res with | .ok fl => (match fl with | .ret u => EP X pins σ Q u s' | _ => False) | .error e => X.xe e s') s := by
  obtain ⟨P, w, K, mg, base⟩ := g
  obtain ⟨rfl, rfl, rfl, rfl, rfl⟩ := a
  have e := I.env0
  have e' : Env0 X.prog X.w X.K X.mg X.base B X.stack s H := ⟨hr.fr.trans e.frames, e.mod, e.bs, e.bsz, e.funs, e.frf, e.hok, e.bare⟩
  refine codeAny_mono (F B X.stack s H us vs Q _ hr.room hr.gd e' r h) fun res s' hq => ?_
  cases res with
  | error e => exact tk e s' (XE.of_call (E := fun c d H' => W c d σ H') I (fun _ _ _ z => z) hq)
  | ok fl =>
    cases fl with
    | ret u => exact I.after hq
    | _ => exact hq.elim
theorem makeS {f : Addr} (a : At g X) (M : Mk g.K C f) (F : FnS g k f sp) (hr : Rm (k + 1) X) (tk : Takes X W) {pins : List (Addr × Obj)} {σ : L2.St} {H : Hp} {s : Shared} {Q : VK} {us : List Value} {vs : List V} (I : Inv X pins σ H s) (r : Vals vs us)
    (h : ∀ y dy, H y = none → H dy = none → dy ≠ y → sp (.ref y :: vs) (upd (upd H dy (.own y)) y (.ins C dy [])) (fun v H2 => v = .non ∧ Q (.ref y) H2) (fun c d H' => W c d σ H')) :
    wpAny (model X.prog X.w) X.A (call (.ref C) us) (EP X pins σ Q) X.xe s := by
  have hq := h (s.heap.objs.size + 1) s.heap.objs.size (I.hok.fresh (Nat.le_succ _)) (I.hok.fresh (Nat.le_refl _)) (Nat.ne_of_lt (Nat.lt_succ_self _))
  have J := Inv.made (C := C) I
  have rr : Vals (V.ref (s.heap.objs.size + 1) :: vs) (Value.ref (s.heap.objs.size + 1) :: us) := .cons rfl r
  refine wpAny_call (make_map (K := X.K) (f := f) I.kIn (by rw [a.K]; exact M.makes) (by rw [a.K]; exact M.init) (by rw [a.K]; exact beq_iff_eq.mp M.fn) (codeAny_mono (runS_B a F (hr.here.make C us []) tk J rr hq) fun res s' hz => ?_))
  cases res with
  | error e => exact hz
  | ok fl => cases fl with
    | ret u =>
      obtain ⟨v, H', I3, rv, rfl, q3⟩ := hz
      exact ⟨rv, ⟨.ref (s.heap.objs.size + 1), H', I3, rfl, q3⟩⟩
    | _ => exact hz.elim
def tMakeS (C : Addr) (sp : Sp) (W : WX) (t : TA) : TE := fun σ H Q => t σ H fun vs H1 => ∀ y dy, H1 y = none → H1 dy = none → dy ≠ y →
  sp (.ref y :: vs) (upd (upd H1 dy (.own y)) y (.ins C dy [])) (fun v H2 => v = .non ∧ Q (.ref y) H2) (fun c d H' => W c d σ H')
theorem pe_makeS (F : KcS g x C k sp) (hr : Rm (k + 1) X) (tk : Takes X W) (ha : PA X (e :: es) t) (hg : Gl X x := by rfl) (hdb : (x == ("__debug__" : Str)) = false := by decide)
    (he : starEach (e :: es) X.env = (false, eval e X.env) :: starEach es X.env := by rfl) (hpl : (backTo pos (starEach es X.env)).any (·.1) = false := by rfl) (a : At g X := by exact ⟨rfl, rfl, rfl, rfl, rfl⟩) :
    PE X (.Call (.Name x p) (e :: es) [] pos) (tMakeS C sp W t) := by
  obtain ⟨hm, f, M, F⟩ := F
  refine ⟨fun pins s σ H Q I h => wpAny_Call_Name_kw (ld_glob I hg (by rw [a.mg]; exact hm) ?_ hdb)⟩
  refine PySem.W.callWith_K (h₀ := X.base) I.ok.mod.kin (by rw [a.K]; exact M.kp) (thn (ha.run pos pins s σ H _ I h) ?_) he hpl
  rintro us s1 ⟨vs, H1, I1, r, q⟩
  exact ⟨I1.kIn, makeS a M F hr tk I1 r q⟩
theorem pe_makeS0 (F : KcS g x C k sp) (hr : Rm (k + 1) X) (tk : Takes X W) (hg : Gl X x := by rfl) (hdb : (x == ("__debug__" : Str)) = false := by decide) (a : At g X := by exact ⟨rfl, rfl, rfl, rfl, rfl⟩) :
    PE X (.Call (.Name x p) [] [] pos) (tMakeS C sp W tNil) := by
  obtain ⟨hm, f, M, F⟩ := F
  refine ⟨fun pins s σ H Q I h => wpAny_Call_Name_kw (ld_glob I hg (by rw [a.mg]; exact hm) ?_ hdb)⟩
  exact PySem.W.callWith_K0 I.kIn (by rw [a.K]; exact M.kp) (makeS a M F hr tk I (vs := []) .nil h)
/-- z( *e), z a local name that holds the class at C, whose __init__ has a star parameter -/
def tMakeStar (K : PySem.W.Frag) (C : Addr) (sp : Sp) (W : WX) (ta te : TE) : TE := fun σ H Q => ta σ H fun v H1 => v = .ref C ∧ te σ H1 fun u H2 => ∃ b vs, u = .ref b ∧ (SqT K H2 b vs ∨ SqL K H2 b vs) ∧
  ∀ y dy, H2 y = none → H2 dy = none → dy ≠ y → sp (.ref y :: vs) (upd (upd H2 dy (.own y)) y (.ins C dy [])) (fun v H3 => v = .non ∧ Q (.ref y) H3) (fun c d H' => W c d σ H')
theorem pe_makeStar {z : Str} {sp_ : Pos} {te : TE} (he : PE X (.Name z p) ta) (F : KcS g x C k sp) (hr : Rm (k + 1) X) (tk : Takes X W) (hb : PE X e te)
    (hst : starEach [.Starred e sp_] X.env = [(true, eval e X.env)] := by rfl) (a : At g X := by exact ⟨rfl, rfl, rfl, rfl, rfl⟩) :
    PE X (.Call (.Name z p) [.Starred e sp_] [] pos) (tMakeStar g.K C sp W ta te) := by
  obtain ⟨hm, f, M, F⟩ := F
  refine ⟨fun pins s σ H Q I h => wpAny_Call_Name_kw (thn (he.run pins s σ H _ I h) fun u s1 ⟨v, H1, I1, rv, ev, q⟩ => ?_)⟩
  subst ev
  obtain rfl : u = Value.ref C := rv
  refine PySem.W.callWith_S (h₀ := X.base) I.ok.mod.kin (by rw [a.K]; exact M.kp) (thn (hb.run pins s1 σ H1 _ I1 q) fun v s2 ⟨y, H2, I2, ry, b, vs, ey, hxs, q2⟩ => ?_) hst
  subst ey
  obtain rfl : v = Value.ref b := ry
  exact StX.star_any I2 (by rw [a.K]; exact hxs) fun us s3 I3 rv => ⟨I3.kIn, makeS a M F hr tk I3 rv q2⟩
/-- f(e, ..), f an expression that gives an instance of the class at C -/
def tCallOwn (C : Addr) (sp : Sp) (ds : List V) (W : WX) (tf : TE) (t : TA) : TE := fun σ H Q => tf σ H fun u H1 => ∃ q, u = V.ref q ∧ t σ H1 fun vs H2 => ∃ dx fs, H2 q = some (.ins C dx fs) ∧ sp (V.ref q :: (vs ++ ds)) H2 Q (fun c d H' => W c d σ H')
theorem e_callOwn {fe : Expr} {tf : TE} (hf : PE X fe tf) (F : Km g C "__call__" k ps ds sp) (fi : FnAtC g.K C "__call__") (hr : Rm k X) (tk : Takes X W) (ha : PA X (e :: es) t)
    (ht : eval (.Call fe (e :: es) [] pos) X.env = (do callWith pos (← eval fe X.env) [] (backTo pos (starEach (e :: es) X.env)) (backToKw pos (keywordEach [] X.env))) := by rfl)
    (he : starEach (e :: es) X.env = (false, eval e X.env) :: starEach es X.env := by rfl) (hpl : (backTo pos (starEach es X.env)).any (·.1) = false := by rfl) (at_ : At g X := by exact ⟨rfl, rfl, rfl, rfl, rfl⟩) : PE X (.Call fe (e :: es) [] pos) (tCallOwn C sp ds W tf t) := by
  obtain ⟨f, fd, dsV, hfn, hi, hk, F, hb, rd⟩ := F
  refine ⟨fun pins s σ H Q I h => ?_⟩
  refine Call_ (thn (hf.run pins s σ H _ I h) fun u s1 ⟨y, H1, I1, ry, q, ey, h1⟩ => ?_) ht
  subst ey
  obtain rfl : u = Value.ref q := ry
  refine StX.callO_with (thn (ha.run pos pins s1 σ H1 _ I1 h1) fun us s2 ⟨vs, H2, I2, r, dx, fs, ea, hs⟩ => ?_) he hpl
  obtain ⟨mA, O, _⟩ := ins_get I2.hok ea
  obtain ⟨od, J, _⟩ := O.look
  have r2 : Vals (V.ref q :: (vs ++ ds)) (Value.ref q :: (us ++ dsV)) := .cons rfl (r.append rd)
  have hl : (us ++ dsV).length + 1 = ps.length := by
    have := F.len _ _ _ _ hs
    rw [← this]
    show (us ++ dsV).length + 1 = (vs ++ ds).length + 1
    rw [← (r.append rd).length]
  have KI : g.K.In s2.heap := by rw [← at_.K]; exact I2.kIn
  refine ⟨⟨C, _, _, J, rfl⟩, wpAny_call (PySem.W.kco_code I2.kIn J rfl (by rw [at_.K]; exact hfn) (by rw [at_.K]; exact hi) (by rw [at_.K]; exact fi f hfn) (codeAny_mono (runB at_ F hr.here tk I2 (hb s2 (.ref q :: us) KI (by simpa using hl)) r2 hs) fun res s' hz => ?_))⟩
  cases res with
  | error e => exact hz
  | ok fl => cases fl with
    | ret u => exact hz
    | _ => exact hz.elim
end
end RS
namespace RS
open PySem PySem.Spec L2 PyProof.Rows
section
variable {X : Cx} {k : Nat}
def rEqT0 (K : PySem.W.Frag) : R2 := fun x y H Q => ∃ a b xs ys, x = .ref a ∧ y = .ref b ∧ SqT K H a xs ∧ SqT K H b ys ∧ (xs = [] ∨ ys = []) ∧ Q (.bl (decide (xs.length = ys.length))) H
theorem op_eqT0 {K : PySem.W.Frag} (hr : Rm k X) (hK : X.K = K := by rfl) : OpR X (compareOp .Eq) (rEqT0 K) := by
  subst hK
  intro pins s σ H x y v u Q I rx ry h
  obtain ⟨a, b, xs, ys, rfl, rfl, ha, hb, he, q⟩ := h
  cases rx
  cases ry
  obtain ⟨its, r1, p1, _⟩ := I.tuple ha
  obtain ⟨its2, r2, p2, _⟩ := I.tuple hb
  have l1 := r1.length
  have l2 := r2.length
  have hu : X.A.units < cLine := by have := hr.room.un; omega
  have zz : its.length = 0 ∨ its2.length = 0 := by
    rcases he with e | e
    · exact .inl (by rw [← l1, e]; rfl)
    · exact .inr (by rw [← l2, e]; rfl)
  have := SeqAt.RcAt.tuples (A := X.A) (s := s) (l := a) (b := b) (e := fun _ => true) p1 p2 hu (fun j h1 h2 => by simp at h1 h2; omega)
  refine this X.prog X.w X.xe _ ⟨.bl (decide (xs.length = ys.length)), H, I, ?_, q⟩
  have e1 : ((List.range (min its.toArray.size its2.toArray.size)).all fun _ => true) = true := List.all_eq_true.mpr fun _ _ => rfl
  have e2 : (its.toArray.size == its2.toArray.size) = decide (xs.length = ys.length) := by
    rw [List.size_toArray, List.size_toArray, l1, l2, Bool.eq_iff_iff]; simp
  rw [e1, e2, Bool.true_and]
  rfl
end
end RS
namespace RS
open PySem PySem.Spec L2 PyProof.Rows
section
variable {X : Cx} {k : Nat}
def strEq (e : PyData) : Value → Bool
  | .str x _ => PyData.eqv (.str x) e
  | _ => false
theorem valsStrs (e : PyData) : ∀ {ks : List Str} {its : List Value}, Vals (ks.map V.str) its → its.any (strEq e) = ks.any (fun x => PyData.eqv (.str x) e) ∧ ∀ w ∈ its, ∃ x t, x ∈ ks ∧ w = .str x t
  | [], _, h => by cases h; exact ⟨rfl, by simp⟩
  | x :: ks, _, h => by
    cases h with
    | cons r rs =>
      obtain ⟨t, rfl⟩ := r
      obtain ⟨h1, h2⟩ := valsStrs e rs
      refine ⟨by rw [List.any_cons, List.any_cons, h1]; rfl, fun w hw => ?_⟩
      rcases List.mem_cons.mp hw with q | q
      · exact ⟨x, t, List.mem_cons_self .., q⟩
      · obtain ⟨z, u, m, e⟩ := h2 w q; exact ⟨z, u, List.mem_cons_of_mem _ m, e⟩
def rInD (K : PySem.W.Frag) : R2 := fun x y H Q => ∃ (p : Addr) (ks : List Str) (e : PyData), y = .ref p ∧ SqL K H p (ks.map V.str) ∧ Dp K H x e ∧ SeqAt.shaped e = true ∧ (∀ z ∈ ks, SeqAt.shaped (.str z) = true) ∧ Q (.bl (ks.any fun z => PyData.eqv (.str z) e)) H
theorem op_inD {K : PySem.W.Frag} (hr : Rm k X) (hK : X.K = K := by rfl) : OpR X (compareOp .In) (rInD K) := by
  subst hK
  intro pins s σ H x y v u Q I rx ry h
  obtain ⟨p, ks, e, rfl, hq, he, se, sk, q⟩ := h
  cases ry
  obtain ⟨bs, rb⟩ := Dp.reads I e x v he rx
  obtain ⟨its, r, pl, hz⟩ := I.list hq
  obtain ⟨h1, h2⟩ := valsStrs e r
  refine SeqAt.in_listAt (strEq e) pl.isList (fun w hw => ?_) ⟨.bl _, H, I, rfl, ?_⟩
  · obtain ⟨z, t, mz, rfl⟩ := h2 w (by simpa using hw)
    refine SeqAt.eqAt_reads (.str z) e X.A.in1 s _ _ _ _ (Reads.str z t) rb (SeqAt.canLay_of_shaped (sk z mz)) (SeqAt.canLay_of_shaped se) ?_
    have := hr.room.un
    simp only [PyData.depth, Nat.zero_min]
    omega
  · rw [show its.toArray.any (strEq e) = its.any (strEq e) by simp, h1]
    exact q
end
end RS
namespace RS
open PySem PySem.Spec L2
section
variable {prog : Program} {w : World} {A : Around} {E : Value → Shared → Prop} {s : Shared}
theorem nextOf_key_end {it d : Addr} {i n ep : Nat} {od : Obj} {es : Array DictEntry} {Q : Value → Shared → Prop} (hh : A.handled = none) (hit : s.heap.IsKeyIter it d i n ep) (hod : s.heap.get? d = some od) (hdd : od.data = .dict es ep)
    (hsz : es.size = n) (hge : n ≤ i) (hE : ∀ h' e, Heap.ExtBut it s.heap h' → (∃ o, h'.get? e = some o ∧ o.cls = .type "StopIteration") → E (.ref e) { s with heap := h' }) :
    wpAny (model prog w) A (Builtin.SmallTypes.nextOf (.ref it)) Q E s := by
  obtain ⟨o, ho, hc, hd⟩ := id hit
  unfold Builtin.SmallTypes.nextOf
  refine wpAny_bind (wpAny_callSpecial?_slot (name := Str.ofString "__next__") hit.typeIs F.slot_dict_keyiterator_next
    (wpAny_call_entry F.slot_dict_keyiterator_next hit.typeIs F.entry_dict_keyiterator_next ?_ (F.args_dict_keyiterator_next_1 _)))
  refine wpAny_bind (wpAny_pure ?_)
  refine wpAny_bind ?_
  refine wpAny_bind ?_
  first | refine wpAny_bind (wpAny_typeNameOfWhole_keyiter hit.typeIs (wpAny_pure ?_)) | refine wpAny_bind (wpAny_typeNameOf_keyiter hit.typeIs (wpAny_pure ?_))
  refine wpAny_bind (wpAny_fieldsOf ho hd ?_)
  have hown : Builtin.Dict_items.ownsTuple "dict_keyiterator" = false := by decide
  simp only [hown, Bool.false_eq_true, if_false]
  show wpAny _ _ (if (Value.ref d == Value.none) = true then _ else _) _ _ s
  rw [if_neg (show ¬ ((Value.ref d == Value.none) = true) from Bool.false_ne_true)]
  refine wpAny_bind (wpAny_pure ?_)
  refine wpAny_bind (wpAny_dictEntries hod hdd ?_)
  rw [if_neg (by rw [hsz]; simp)]
  refine wpAny_bind (wpAny_pure ?_)
  refine wpAny_bind (wpAny_dictEpoch hod hdd ?_)
  rw [if_neg (by simp)]
  refine wpAny_pure ?_
  have hge' : es.size ≤ i := by rw [hsz]; exact hge
  simp only [show ¬ ((i : Int) < 0) from by omega, if_false, Int.toNat_natCast, Array.getElem?_eq_none hge']
  refine wpAny_bind ?_
  first | refine wpAny_bind (wpAny_typeNameOfWhole_keyiter hit.typeIs (wpAny_pure ?_)) | refine wpAny_bind (wpAny_typeNameOf_keyiter hit.typeIs (wpAny_pure ?_))
  show wpAny _ _ (setField (.ref it) 0 .none >>= _) _ _ s
  refine wpAny_bind (wpAny_setField ho hd (by simp) ?_)
  show wpAny _ _ (newExc (.type "StopIteration") [] >>= _) _ _ _
  refine wpAny_bind ?_
  simp only [newExc, newTuple]
  refine wpAny_bind (wpAny_newObj_type ?_ (by size_fits))
  refine wpAny_bind (m := firstArgMember _ _) (wpAny_of_eq (a := Value.none) (by first | rfl | (simp only [firstArgMember]; rfl)) ?_)
  refine wpAny_newObj_type ?_ (by size_fits)
  simp only [raiseNew]
  refine wpAny_bind (wpAny_handled ?_)
  first | rw [show A.in1.handled = none from hh] | rw [hh]
  refine wpAny_bind (wpAny_pure (wpAny_throw ?_))
  exact hE _ _ (((Heap.SameBut.update ..).extBut.push _).push _) ⟨_, Heap.get?_push_size _ rfl, rfl⟩
theorem draws_keys0 {prog : Program} {w : World} {A : Around} (hh : A.handled = none) (it d : Addr) (ep : Nat) (od : Obj) (es : Array DictEntry) (hdd : od.data = .dict es ep) (hsz : es.size = 0) :
    Draws prog w A it [it, d] 0 (fun _ _ => False) (fun _ h => h.IsKeyIter it d 0 0 ep ∧ h.get? d = some od) where
  live := fun _ _ st => let ⟨o, ho, _⟩ := st.1; ⟨o, ho⟩
  frame := fun _ _ _ st hk => ⟨st.1.at fun o e => hk it (by simp) o e, hk d (by simp) _ st.2⟩
  item := fun i s Q E hi => absurd hi (Nat.not_lt_zero _)
  done := fun s Q E st hE => nextOf_key_end hh st.1 st.2 hdd hsz (Nat.le_refl _) hE
end
/-- the items of the empty dict at d, locked -/
def ItE0 (d : Addr) (o : Obj) : It := ⟨fun _ _ => False, fun _ _ _ _ => False, fun i H => i = 0 ∧ H d = some (.frz o (.dK []))⟩
theorem turn_enumD {P : Program} {w : World} {K : PySem.W.Frag} {elts : List Expr} {kk : Nat} {tpos : Pos} {d : Addr} {o : Obj} {es : Array DictEntry} {ep : Nat} (e it : Addr) (hod : o.data = .dict es ep) :
    Turn P w K (.Tuple elts kk tpos) (ItE0 d o) [e, it] e (fun i h => (∃ old, IsEnum h e it ((i : Nat) : Int) old) ∧ h.IsKeyIter it d 0 0 ep ∧ e ≠ it) where
  mem := List.mem_cons_self
  obj := by
    rintro i h ⟨⟨old, he⟩, ⟨o, ho, hc, hd⟩, _⟩ b hb
    rcases List.mem_cons.mp hb with rfl | hb
    · exact ⟨_, he, fun v q => nomatch q⟩
    · obtain rfl := List.mem_singleton.mp hb
      exact ⟨o, ho, fun v q => by rw [hd] at q; cases q⟩
  keep := by
    rintro i h h' ⟨⟨old, he⟩, hit, hne⟩ k
    exact ⟨⟨old, k e (by simp) _ he⟩, hit.at fun o q => k it (by simp) o q, hne⟩
  item := by
    intro X hP hw hK hc i pins s σ H E I hf st hg
    exact hg.elim
  done := by
    intro X hP hw hK hc i pins s σ H E I hf st hg
    subst hP hw hK
    obtain ⟨⟨old, he⟩, hit, hne⟩ := st
    obtain ⟨rfl, hd⟩ := hg
    obtain ⟨hs, hgd, hx, es', ep', vs, hdt, hsz, kv, hm⟩ := I.frzK hd
    obtain ⟨rfl, rfl⟩ := dict_ep hod hdt
    obtain ⟨f0, f1, f2, f3, f4, f5⟩ := hf it (by simp)
    exact wpAny_pyNext_enum_endD (draws_keys0 (A := X.A.in1) (I.ok.hd hc) it d _ o _ hdt hsz) he ⟨hit, hgd⟩ fun h' eb => ⟨rfl, I.turned (t' := s.toks) (fun b o hb q => eb b o hb q) f0 f1 f3 f4 f5⟩
  self := fun A i s Q E st h => let ⟨⟨_, he⟩, _⟩ := st; wpAny_pyIter_enum he h
def iEnumD (ta : TA) : TI := fun σ H R => ta σ H fun vs H1 => ∃ d o, vs = [.ref d] ∧ H1 d = some (.frz o (.dK [])) ∧ R (ItE0 d o) H1
theorem begins_keys0 {d : Addr} {od : Obj} {es : Array DictEntry} {ep : Nat} (hd : (d == sysModules) = false) (hc : od.ExactDict) (hdat : od.data = .dict es ep) :
    Begins (.ref d) { cls := .type "dict_keyiterator", data := .fields #[.ref d, .int 0 0, .int es.size 0, .int ep 0] } fun h => h.get? d = some od where
  iter := fun prog w A E s Q ho h => iter_keys hd ho hc hdat h
  keeps := fun h h' x hk => hk d _ x
  free := rfl
theorem pi_enumD {X : Cx} {e : Expr} {ta : TA} {p pos tpos : Pos} {elts : List Expr} {kk : Nat} (hm : X.mg "enumerate" = none) (ha : PA X [e] ta) (hg : Gl X "enumerate" := by rfl) (hs : starEach [e] X.env = [(false, eval e X.env)] := by rfl) :
    PI X (.Tuple elts kk tpos) (.Call (.Name "enumerate" p) [e] [] pos) (iEnumD ta) := by
  refine ⟨fun pins s σ H R I h => ?_⟩
  refine PyProof.Rows.Call_ (ld_blt I hg hm PyProof.Rows.boot_enumerate (PyProof.Rows.callWith_type1 (thn (ha.run pos pins s σ H _ I h) ?_) hs rfl))
  rintro us s1 ⟨vs, H1, I1, r1, d, o, rfl, hx, q⟩
  obtain ⟨u, rfl, ru⟩ := vals1 r1
  obtain rfl : u = Value.ref d := ru
  obtain ⟨hsm, hgd, hxd, es, ep, vs, hdt, hsz, kv, hm2⟩ := I1.frzK hx
  refine call_enumB (begins_keys0 hsm hxd hdt) hgd fun h' he hi z hk => wpAny_pyIter_enum he ?_
  have n0 : es.size = 0 := hsz
  refine ⟨s1.heap.objs.size + 1, [s1.heap.objs.size + 1, s1.heap.objs.size], _, _, H1, rfl, I1.kept (t' := s1.toks) hk, turn_enumD _ _ hdt, ⟨⟨.none, he⟩, ⟨_, hi, rfl, by rw [n0]; rfl⟩, Nat.succ_ne_self _⟩, fun b hb => ?_, q⟩
  have le : s1.heap.objs.size ≤ b := by
    rcases List.mem_cons.mp hb with rfl | hb
    · exact Nat.le_succ _
    · rw [List.mem_singleton.mp hb]; exact Nat.le_refl _
  exact I1.fpOk le (I1.hok.fresh le)
end RS
namespace RS
open PySem PySem.Spec L2
section
variable {X : Cx}
theorem ps_setDc {i : Nat} {y : Str} {py : Pos} {kx vx tg iter : Expr} {ifs : List Expr} {scope : Scope} {own : List (Str × Nat)} {pos spos : Pos} {wi : TI} {g : TG} {tt : TT} {tk tv : TE} (hc : X.calm = true) (hN : X.N.Nodup) (hy : X.N[i]? = some y) (hyl : X.env.scope.names.lookup y = some .local)
    (hsw : swapsWith (.DictComp kx vx [⟨tg, iter, ifs, 0⟩] scope pos) (some (.Name y py)) spos.line X.env = pure true) (hi : PI X tg iter wi) (ok : BlkOk X.N X.env.scope scope own)
    (hg : ∀ (s : Shared) (H : Hp) (C : Addr) (cl : List (Str × Addr)) (fp : List Addr), PG (X.blk s H scope (compEnvC scope cl C X.env) fp) tg g) (ht : ∀ (s : Shared) (H : Hp) (C : Addr) (cl : List (Str × Addr)) (fp : List Addr), PTs (X.blk s H scope (compEnvC scope cl C X.env) fp) ifs tt)
    (hk : ∀ (s : Shared) (H : Hp) (C : Addr) (cl : List (Str × Addr)) (fp : List Addr), PE (X.blk s H scope (compEnvC scope cl C X.env) fp) kx tk)
    (he : ∀ (s : Shared) (H : Hp) (C : Addr) (cl : List (Str × Addr)) (fp : List Addr), PE (X.blk s H scope (compEnvC scope cl C X.env) fp) vx tv) (hs : ∀ x, foldedSetIterable iter X.env x = pure x := by intro _; rfl) :
    PS X (.Assign [.Name y py] (.DictComp kx vx [⟨tg, iter, ifs, 0⟩] scope pos) spos) (tAsg (tDc wi g tt tk tv (own.map (·.2))) (gName i)) := by
  refine ⟨fun pins s σ H D I h => ?_⟩
  rw [exec_Assign_Name_used _ _ _ _ hsw]
  refine wpAny_bind (wpAny_standAt (wpAny_bind ?_))
  show wpAny _ X.A (do let _ ← comprehension (.DictComp kx vx [⟨tg, iter, ifs, 0⟩] scope pos) scope X.env (firstIterPos [⟨tg, iter, ifs, 0⟩] pos) newDict false (eval iter X.env) (some (assign (.Name y py) X.env))) _ _ s
  have h : tDc wi g tt tk tv (own.map (·.2)) σ H (fun x H1 => gName i x σ H1 D.nx) := h
  refine wpAny_bind (thn (dc_core (Qf := fun _ s' => SP X pins D .next s') hc hN I hi ok hg ht hk he hs h fun L C s' m H' I' q hn f => ?_) fun _ s' hq => wpAny_pure (wpAny_pure hq))
  show wpAny _ _ (assign (.Name y py) X.env (.ref L)) _ _ _
  refine wpAny_assign_Name (store_ok2 (v := V.ref L) I' hN hy (.inl hyl) rfl (fun s2 I2 ⟨a, sb, ha⟩ => ?_) (.inr hyl))
  obtain ⟨f0, f1, f2, f3, f4, f5⟩ := f
  have haC : C ≠ a := by
    rcases ha with z | z
    · rw [z]; exact f1
    · exact fun e => f4 y a z e.symm
  refine ⟨m, hn.sameBut sb haC, fun h3 sb3 => ?_⟩
  exact ⟨_, H', I2.turned (t' := s2.toks) (fun b o hb e => (sb3.2 b hb).trans e) f0 f1 f3 f4 f5, q⟩
theorem sw_trueD {kx vx : Expr} {gs : List Comprehension} {scope : Scope} {pos py : Pos} {y : Str} {l : Nat} {env : Env} (hk : env.scope.kind = .function) (hy : env.scope.names.lookup y = some .local) (hl : (py.line == pos.line) = true)
    (ha : (scope.names.any fun (n, k) => n == y && (k == .local || k == .cell)) = false) : swapsWith (.DictComp kx vx gs scope pos) (some (.Name y py)) l env = pure true := by
  have ky : env.kindOf y = some .local := hy
  have hb : env.blockKind = .function := by unfold Env.blockKind; rw [hk]; rfl
  unfold swapsWith
  simp only [hb, ky, ha, Expr.pos, hl]
  rfl
end
end RS
namespace RS
open PySem PySem.Spec L2 PyProof.Rows
section
variable {X : Cx} {k : Nat} {pins : List (Addr × Obj)} {σ : L2.St} {H : Hp} {s : Shared}
def rEqDL (K : PySem.W.Frag) : R2 := fun x y H Q => ∃ a b ks ls, x = .ref a ∧ y = .ref b ∧ H a = some (.dK ks) ∧ H b = some (.dK ls) ∧ ks.length = ls.length ∧
  (∀ p ∈ ks, ∃ u d e, valV ls p.1 = some u ∧ Dp K H p.2 d ∧ Dp K H u e ∧ SeqAt.shaped d = true ∧ SeqAt.shaped e = true ∧ PyData.eqv d e = true) ∧ Q (.bl true) H
theorem op_eqDL {K : PySem.W.Frag} (hr : Rm k X) (hK : X.K = K := by rfl) : OpR X (compareOp .Eq) (rEqDL K) := by
  subst hK
  intro pins s σ H x y v u Q I rx ry h
  obtain ⟨a, b, ks, ls, rfl, rfl, ea, eb, hl, hp, q⟩ := h
  obtain rfl : v = Value.ref a := rx
  obtain rfl : u = Value.ref b := ry
  obtain ⟨_, ya, va, ra, da⟩ := (show ObjOk X.prog X.w H s.heap a (.dK ks) from I.hok a _ ea)
  obtain ⟨_, yb, vb, rb, db⟩ := (show ObjOk X.prog X.w H s.heap b (.dK ls) from I.hok b _ eb)
  have hu : X.A.units < cLine := by have := hr.room.un; omega
  refine PySem.W.keq_eq (knd := mixKind X.prog X.w) (r := true) ya yb da db hu (fun e => hits_dl I rb (by have := hr.room.un; show X.A.units + 1 + 64 < cLine; omega) ra hp) (fin_bl I q ?_)
  have e : (va.length == vb.length) = true := by rw [← ra.length, ← rb.length, hl]; simp
  rw [e]; rfl
end
end RS
namespace RS
open PySem PySem.Spec L2 PyProof.Rows
theorem toS {g : Wd} {k : Nat} {f : Addr} {fd : FuncData} {ps : List Str} {sp : Sp} (F : FnG g k f fd ps sp) (hb : Binds g.K fd ps []) : FnS g k f sp := fun A outer s H us vs Q E hr hg e0 rv hsp => by
  have hl : (us ++ []).length = ps.length := by rw [List.append_nil, ← rv.length]; exact F.len _ _ _ _ hsp
  have b := hb s us (e0.mod.kin.keeps fun b o e => (e0.bs b o e).1) hl
  rw [List.append_nil] at b
  exact F.run A outer s H ⟨us, []⟩ us vs Q E hr hg e0 b rv hsp
end RS
namespace K60
open PySem PySem.Spec L2 RS
open SX (S S_len S_cat S_tl S_inj)
open TL (numL numL_lt numL_step numL_digits numL_ne numL_inj numL_len)
open PySem.Builtin.Str (reprChar)
/-- signs of ASCII alone -/
def asc (x : Str) : Bool := x.cps.toList.all (· < 128)
def gkeyB : PyData → Bool
  | .str x => decide (x.length ≤ 8) && asc x
  | _ => false
mutual
/-- small values -/
def gB : PyData → Bool
  | .none => true
  | .bool _ => true
  | .int i => decide (i.natAbs < 10 ^ 100)
  | .str x => decide (x.length ≤ 8) && asc x
  | .list ds => decide (ds.length ≤ 16) && gAll ds
  | .tuple ds => decide (ds.length ≤ 16) && gAll ds
  | .dict D => decide (D.length ≤ 16) && gKv D
def gAll : List PyData → Bool
  | [] => true
  | d :: ds => gB d && gAll ds
def gKv : List (PyData × PyData) → Bool
  | [] => true
  | (k, d) :: r => gkeyB k && gB d && gKv r
end
theorem gAll_mem : ∀ {a : List PyData}, gAll a = true ↔ ∀ d ∈ a, gB d = true
  | [] => by simp [gAll]
  | x :: a => by simp only [gAll, Bool.and_eq_true, List.mem_cons, forall_eq_or_imp, gAll_mem (a := a)]
theorem gKv_mem : ∀ {a : List (PyData × PyData)}, gKv a = true ↔ ∀ p ∈ a, gkeyB p.1 = true ∧ gB p.2 = true
  | [] => by simp [gKv]
  | (k, x) :: a => by simp only [gKv, Bool.and_eq_true, List.mem_cons, forall_eq_or_imp, gKv_mem (a := a)]
mutual
/-- what the program takes for a value, but for its levels -/
def okB : PyData → Bool
  | .none => true
  | .bool _ => true
  | .int i => decide (i.natAbs < 10 ^ 100)
  | .str x => decide (x.length ≤ 10000)
  | .list ds => decide (ds.length ≤ 10000) && okAll ds
  | .tuple ds => decide (ds.length ≤ 10000) && okAll ds
  | .dict D => decide (D.length ≤ 10000) && okKv D
def okAll : List PyData → Bool
  | [] => true
  | d :: ds => okB d && okAll ds
def okKv : List (PyData × PyData) → Bool
  | [] => true
  | (k, d) :: r => okB k && okB d && okKv r
end
mutual
theorem ok_g : ∀ d : PyData, gB d = true → okB d = true
  | .none, _ => rfl
  | .bool _, _ => rfl
  | .int i, h => by simpa [gB, okB] using h
  | .str x, h => by
    simp only [gB, Bool.and_eq_true, decide_eq_true_eq] at h
    simp only [okB, decide_eq_true_eq]; omega
  | .list ds, h => by
    simp only [gB, Bool.and_eq_true, decide_eq_true_eq] at h
    simp only [okB, Bool.and_eq_true, decide_eq_true_eq]
    exact ⟨by omega, ok_gAll ds h.2⟩
  | .tuple ds, h => by
    simp only [gB, Bool.and_eq_true, decide_eq_true_eq] at h
    simp only [okB, Bool.and_eq_true, decide_eq_true_eq]
    exact ⟨by omega, ok_gAll ds h.2⟩
  | .dict D, h => by
    simp only [gB, Bool.and_eq_true, decide_eq_true_eq] at h
    simp only [okB, Bool.and_eq_true, decide_eq_true_eq]
    exact ⟨by omega, ok_gKv D h.2⟩
theorem ok_gAll : ∀ ds : List PyData, gAll ds = true → okAll ds = true
  | [], _ => rfl
  | d :: ds, h => by
    simp only [gAll, Bool.and_eq_true] at h
    simp only [okAll, Bool.and_eq_true]
    exact ⟨ok_g d h.1, ok_gAll ds h.2⟩
theorem ok_gKv : ∀ D : List (PyData × PyData), gKv D = true → okKv D = true
  | [], _ => rfl
  | (k, d) :: r, h => by
    simp only [gKv, Bool.and_eq_true] at h
    simp only [okKv, Bool.and_eq_true]
    refine ⟨⟨?_, ok_g d h.1.2⟩, ok_gKv r h.2⟩
    cases k with
    | str x =>
      have := h.1.1
      simp only [gkeyB, Bool.and_eq_true, decide_eq_true_eq] at this
      simp only [okB, decide_eq_true_eq]; omega
    | _ => cases h.1.1
end
theorem str_cps {x y : Str} (h : x.cps.toList = y.cps.toList) : x = y := by
  obtain ⟨a⟩ := x
  obtain ⟨b⟩ := y
  congr 1
  exact Array.toList_inj.mp h
theorem tl_app (x y : Str) : (x ++ y).cps.toList = x.cps.toList ++ y.cps.toList := by rw [Str.cps_append, Array.toList_append]
theorem sgn (s : String) (l : List Nat) (h : (Str.ofString s).cps.toList = l := by decide +kernel) : (Str.ofString s).cps.toList = l := h
theorem numL_dig (n : Nat) : ∀ c ∈ numL n, 48 ≤ c ∧ c ≤ 57 := fun c hc => by
  have := numL_digits n c hc
  simpa using this
theorem num_first (m : Nat) : ∃ c r, numL m = c :: r ∧ c ≠ 45 := by
  cases h : numL m with
  | nil => exact absurd h (numL_ne m)
  | cons c r =>
    have := numL_dig m c (by rw [h]; exact List.mem_cons_self ..)
    exact ⟨c, r, rfl, by omega⟩
def sgI (i : Int) : List Nat := if i < 0 then 45 :: numL i.natAbs else numL i.natAbs
theorem int_sign_text (i : Int) : (Str.ofString (toString i)).cps.toList = sgI i := by
  unfold sgI
  cases i with
  | ofNat m =>
    have := TL.tl_num m
    rw [if_neg (by simp)]
    exact this
  | negSucc m =>
    rw [if_pos (Int.negSucc_lt_zero m)]
    have e : toString (Int.negSucc m) = "-" ++ toString (m + 1) := rfl
    have e2 := TL.tl_num (m + 1)
    have e3 : toString (((m + 1 : Nat)) : Int) = toString (m + 1) := rfl
    rw [e, ofS_tl, String.toList_append, List.map_append, ← ofS_tl, ← ofS_tl, ← e3]
    show [45] ++ _ = 45 :: numL (m + 1)
    rw [← e2]; rfl
/-- what renders values -/
structure Rend (f : PyData → Str) : Prop where
  non : f .none = "None"
  bl : ∀ b, f (.bool b) = Str.ofString (if b then "True" else "False" : String)
  int : ∀ i, f (.int i) = Str.ofString (toString i)
  lst : ∀ ds, f (.list ds) = "[" ++ Str.join ", " (ds.map f) ++ "]"
  tup : ∀ ds, f (.tuple ds) = "(" ++ Str.join ", " (ds.map f) ++ Str.ofString (if ds.length == 1 then ",)" else ")" : String)
  dct : ∀ D, f (.dict D) = "{" ++ Str.join ", " (D.map fun p => f p.1 ++ ": " ++ f p.2) ++ "}"
  str0 : ∀ x, ∃ c t, (f (.str x)).cps.toList = c :: t ∧ (c = 34 ∨ c = 39)
  strI : ∀ {x y r r'}, asc x = true → asc y = true → (f (.str x)).cps.toList ++ r = (f (.str y)).cps.toList ++ r' → x = y ∧ r = r'
  strL : ∀ {x}, asc x = true → x.length ≤ 8 → (f (.str x)).length ≤ 105
section
variable {f : PyData → Str} (R : Rend f)
def shL (f : PyData → Str) (d : PyData) : List Nat := (f d).cps.toList
/-- items, each behind a comma -/
def tls (f : PyData → Str) : List PyData → List Nat
  | [] => []
  | d :: ds => 44 :: 32 :: (shL f d ++ tls f ds)
def kvL (f : PyData → Str) (k d : PyData) : List Nat := shL f k ++ 58 :: 32 :: shL f d
def tlK (f : PyData → Str) : List (PyData × PyData) → List Nat
  | [] => []
  | (k, d) :: D => 44 :: 32 :: (kvL f k d ++ tlK f D)
theorem join_tls : ∀ (d : PyData) (ds : List PyData), (Str.join ", " ((d :: ds).map f)).cps.toList = shL f d ++ tls f ds
  | d, [] => by simp [Str.join, tls, shL]
  | d, e :: ds => by
    have ih := join_tls e ds
    rw [List.map_cons] at ih
    rw [List.map_cons, List.map_cons]
    simp only [Str.join, tl_app]
    rw [ih]
    simp only [tls, shL, List.append_assoc, sgn ", " [44, 32]]
    rfl
theorem join_tlK : ∀ (k d : PyData) (D : List (PyData × PyData)), (Str.join ", " (((k, d) :: D).map fun p => f p.1 ++ ": " ++ f p.2)).cps.toList = kvL f k d ++ tlK f D
  | k, d, [] => by simp [Str.join, tlK, kvL, shL, tl_app, sgn ": " [58, 32]]
  | k, d, (k', e) :: D => by
    have ih := join_tlK k' e D
    rw [List.map_cons] at ih
    rw [List.map_cons, List.map_cons]
    simp only [Str.join, tl_app] at ih ⊢
    rw [ih]
    simp only [tlK, kvL, shL, List.append_assoc, sgn ", " [44, 32], sgn ": " [58, 32]]
    rfl
def clT (n : Nat) : List Nat := if n = 1 then [44, 41] else [41]
include R
theorem shL_list0 : shL f (.list []) = [91, 93] := by unfold shL; rw [R.lst]; simp only [List.map_nil]; decide +kernel
theorem shL_list (d : PyData) (ds : List PyData) : shL f (.list (d :: ds)) = 91 :: (shL f d ++ (tls f ds ++ [93])) := by
  rw [shL, R.lst, tl_app, tl_app, join_tls]
  simp [sgn "[" [91], sgn "]" [93]]
theorem shL_tup0 : shL f (.tuple []) = [40, 41] := by unfold shL; rw [R.tup]; simp only [List.map_nil]; decide +kernel
theorem shL_tup (d : PyData) (ds : List PyData) : shL f (.tuple (d :: ds)) = 40 :: (shL f d ++ (tls f ds ++ clT (ds.length + 1))) := by
  rw [shL, R.tup, tl_app, tl_app, join_tls]
  have e : (Str.ofString (if (d :: ds).length == 1 then ",)" else ")" : String)).cps.toList = clT (ds.length + 1) := by
    unfold clT
    by_cases h : ds.length + 1 = 1
    · rw [if_pos h, if_pos (by simpa using h)]; decide +kernel
    · rw [if_neg h, if_neg (by simpa using h)]; decide +kernel
  rw [e]
  simp [sgn "(" [40]]
theorem shL_dict0 : shL f (.dict []) = [123, 125] := by unfold shL; rw [R.dct]; simp only [List.map_nil]; decide +kernel
theorem shL_dict (k d : PyData) (D : List (PyData × PyData)) : shL f (.dict ((k, d) :: D)) = 123 :: (kvL f k d ++ (tlK f D ++ [125])) := by
  rw [shL, R.dct, tl_app, tl_app, join_tlK]
  simp [sgn "{" [123], sgn "}" [125]]
theorem shL_none : shL f .none = [78, 111, 110, 101] := by unfold shL; rw [R.non]; decide +kernel
theorem shL_bool (b : Bool) : shL f (.bool b) = if b then [84, 114, 117, 101] else [70, 97, 108, 115, 101] := by unfold shL; rw [R.bl]; cases b <;> decide +kernel
theorem shL_int (i : Int) : shL f (.int i) = sgI i := by unfold shL; rw [R.int]; exact int_sign_text i
omit R
def fst1 : PyData → Nat → Bool
  | .none, c => c == 78
  | .bool true, c => c == 84
  | .bool false, c => c == 70
  | .int _, c => c == 45 || (decide (48 ≤ c) && decide (c ≤ 57))
  | .str _, c => c == 34 || c == 39
  | .list _, c => c == 91
  | .tuple _, c => c == 40
  | .dict _, c => c == 123
include R
theorem head_of (d : PyData) : ∃ c t, shL f d = c :: t ∧ fst1 d c = true := by
  cases d with
  | none => exact ⟨_, _, shL_none R, rfl⟩
  | bool b => rw [shL_bool R]; cases b <;> exact ⟨_, _, rfl, rfl⟩
  | int i =>
    rw [shL_int R]
    unfold sgI
    split
    · exact ⟨_, _, rfl, by simp [fst1]⟩
    · obtain ⟨c, r, e, _⟩ := num_first i.natAbs
      rw [e]
      have := numL_dig i.natAbs c (by rw [e]; exact List.mem_cons_self ..)
      exact ⟨c, r, rfl, by simp [fst1, this]⟩
  | str x =>
    obtain ⟨c, t, e, h⟩ := R.str0 x
    exact ⟨c, t, e, by rcases h with h | h <;> simp [fst1, h]⟩
  | list ds => cases ds with
    | nil => exact ⟨_, _, shL_list0 R, rfl⟩
    | cons d ds => exact ⟨_, _, shL_list R d ds, rfl⟩
  | tuple ds => cases ds with
    | nil => exact ⟨_, _, shL_tup0 R, rfl⟩
    | cons d ds => exact ⟨_, _, shL_tup R d ds, rfl⟩
  | dict D => cases D with
    | nil => exact ⟨_, _, shL_dict0 R, rfl⟩
    | cons p D => obtain ⟨k, d⟩ := p; exact ⟨_, _, shL_dict R k d D, rfl⟩
omit R
def kindC : PyData → Nat
  | .none => 0
  | .bool true => 1
  | .bool false => 2
  | .int _ => 3
  | .str _ => 4
  | .list _ => 5
  | .tuple _ => 6
  | .dict _ => 7
theorem fst1_kind {d e : PyData} {c : Nat} (h1 : fst1 d c = true) (h2 : fst1 e c = true) : kindC d = kindC e := by
  cases d with
  | bool b => cases b <;> (cases e with
    | bool b' => cases b' <;> simp [fst1, kindC] at h1 h2 ⊢ <;> omega
    | _ => simp [fst1, kindC] at h1 h2 ⊢ <;> omega)
  | _ => cases e with
    | bool b' => cases b' <;> simp [fst1, kindC] at h1 h2 ⊢ <;> omega
    | _ => simp [fst1, kindC] at h1 h2 ⊢ <;> omega
include R
theorem same_kind {d e : PyData} {r r' : List Nat} (h : shL f d ++ r = shL f e ++ r') : kindC d = kindC e := by
  obtain ⟨c, t, e1, f1⟩ := head_of R d
  obtain ⟨c', t', e2, f2⟩ := head_of R e
  rw [e1, e2] at h
  simp only [List.cons_append, List.cons.injEq] at h
  rw [← h.1] at f2
  exact fst1_kind f1 f2
omit R
/-- what may stand behind a value -/
def Stp (r : List Nat) : Prop := ∀ c t, r = c :: t → c = 44 ∨ c = 93 ∨ c = 41 ∨ c = 125
/-- what may stand behind all items -/
def Cls' (r : List Nat) : Prop := ∃ c t, r = c :: t ∧ (c = 93 ∨ c = 41 ∨ c = 125 ∨ (c = 44 ∧ ∃ t', t = 41 :: t'))
theorem Cls'.stp {r : List Nat} (h : Cls' r) : Stp r := by
  obtain ⟨c, t, rfl, h⟩ := h
  intro c' t' e
  cases e
  rcases h with h | h | h | h
  · exact .inr (.inl h)
  · exact .inr (.inr (.inl h))
  · exact .inr (.inr (.inr h))
  · exact .inl h.1
theorem stp_tls {ds : List PyData} {r : List Nat} (h : Cls' r) : Stp (tls f ds ++ r) := by
  cases ds with
  | nil => exact h.stp
  | cons d ds => intro c t e; simp only [tls, List.cons_append, List.cons.injEq] at e; exact .inl e.1.symm
theorem stp_tlK {ds : List (PyData × PyData)} {r : List Nat} (h : Cls' r) : Stp (tlK f ds ++ r) := by
  cases ds with
  | nil => exact h.stp
  | cons d ds => obtain ⟨k, d⟩ := d; intro c t e; simp only [tlK, List.cons_append, List.cons.injEq] at e; exact .inl e.1.symm
theorem no_item {r t : List Nat} (h : Cls' r) : r ≠ 44 :: 32 :: t := fun e => by
  obtain ⟨c, t', rfl, h⟩ := h
  simp only [List.cons.injEq] at e
  obtain ⟨rfl, rfl⟩ := e
  rcases h with h | h | h | ⟨_, t', h⟩
  · cases h
  · cases h
  · cases h
  · cases h
theorem run_split {a b r r' : List Nat} (ha : ∀ c ∈ a, 48 ≤ c ∧ c ≤ 57) (hb : ∀ c ∈ b, 48 ≤ c ∧ c ≤ 57) (h : Stp r) (h' : Stp r') (e : a ++ r = b ++ r') : a = b ∧ r = r' := by
  induction a generalizing b with
  | nil => cases b with
    | nil => exact ⟨rfl, e⟩
    | cons c b =>
      have := hb c (List.mem_cons_self ..)
      have := h c _ e
      omega
  | cons c a ih => cases b with
    | nil =>
      have := ha c (List.mem_cons_self ..)
      have := h' c _ e.symm
      omega
    | cons c' b =>
      simp only [List.cons_append, List.cons.injEq] at e
      have := ih (fun x hx => ha x (List.mem_cons_of_mem _ hx)) (b := b) (fun x hx => hb x (List.mem_cons_of_mem _ hx)) e.2
      exact ⟨by rw [e.1, this.1], this.2⟩
theorem int_inj {i j : Int} {r r' : List Nat} (h : Stp r) (h' : Stp r') (e : sgI i ++ r = sgI j ++ r') : i = j ∧ r = r' := by
  unfold sgI at e
  by_cases ni : i < 0 <;> by_cases nj : j < 0
  · rw [if_pos ni, if_pos nj] at e
    simp only [List.cons_append, List.cons.injEq, true_and] at e
    have a := run_split (numL_dig _) (numL_dig _) h h' e
    have b := numL_inj a.1
    exact ⟨by omega, a.2⟩
  · exfalso
    rw [if_pos ni, if_neg nj] at e
    obtain ⟨c, t, e2, n⟩ := num_first j.natAbs
    rw [e2] at e
    simp only [List.cons_append, List.cons.injEq] at e
    exact n e.1.symm
  · exfalso
    rw [if_neg ni, if_pos nj] at e
    obtain ⟨c, t, e2, n⟩ := num_first i.natAbs
    rw [e2] at e
    simp only [List.cons_append, List.cons.injEq] at e
    exact n e.1
  · rw [if_neg ni, if_neg nj] at e
    have a := run_split (numL_dig _) (numL_dig _) h h' e
    have b := numL_inj a.1
    exact ⟨by omega, a.2⟩
theorem cls_93 (r : List Nat) : Cls' ([93] ++ r) := ⟨_, _, rfl, .inl rfl⟩
theorem cls_125 (r : List Nat) : Cls' ([125] ++ r) := ⟨_, _, rfl, .inr (.inr (.inl rfl))⟩
theorem cls_T (n : Nat) (r : List Nat) : Cls' (clT n ++ r) := by
  unfold clT
  split
  · exact ⟨_, _, rfl, .inr (.inr (.inr ⟨rfl, _, rfl⟩))⟩
  · exact ⟨_, _, rfl, .inr (.inl rfl)⟩
include R
theorem no_open {d : PyData} {r t : List Nat} {c : Nat} (h : shL f d ++ r = c :: t) (n : c = 93 ∨ c = 41 ∨ c = 125) : False := by
  obtain ⟨a, s, e, f⟩ := head_of R d
  rw [e] at h
  simp only [List.cons_append, List.cons.injEq] at h
  rw [h.1] at f
  cases d with
  | bool b => cases b <;> simp [fst1] at f <;> omega
  | _ => simp [fst1] at f <;> omega
omit R
mutual
theorem sh_inj (R : Rend f) : ∀ (d e : PyData) {r r' : List Nat}, gB d = true → gB e = true → Stp r → Stp r' → shL f d ++ r = shL f e ++ r' → d = e ∧ r = r'
  | .none, e, r, r', _, _, _, _, h => by
    have k := same_kind R h
    cases e with
    | none => exact ⟨rfl, List.append_cancel_left h⟩
    | bool b => cases b <;> cases k
    | _ => cases k
  | .bool b, e, r, r', _, _, _, _, h => by
    have k := same_kind R h
    cases e with
    | bool b' =>
      have : b = b' := by cases b <;> cases b' <;> first | rfl | cases k
      subst this
      exact ⟨rfl, List.append_cancel_left h⟩
    | _ => cases b <;> cases k
  | .int i, e, r, r', g1, g2, s1, s2, h => by
    have k := same_kind R h
    cases e with
    | int j =>
      simp only [gB, decide_eq_true_eq] at g1 g2
      rw [shL_int R, shL_int R] at h
      have := int_inj s1 s2 h
      exact ⟨by rw [this.1], this.2⟩
    | bool b => cases b <;> cases k
    | _ => cases k
  | .str x, e, r, r', g1, g2, s1, s2, h => by
    have k := same_kind R h
    cases e with
    | str y =>
      simp only [gB, Bool.and_eq_true] at g1 g2
      have := R.strI g1.2 g2.2 h
      exact ⟨by rw [this.1], this.2⟩
    | bool b => cases b <;> cases k
    | _ => cases k
  | .list ds, e, r, r', g1, g2, s1, s2, h => by
    have k := same_kind R h
    cases e with
    | list es =>
      simp only [gB, Bool.and_eq_true] at g1 g2
      cases ds with
      | nil => cases es with
        | nil => exact ⟨rfl, List.append_cancel_left h⟩
        | cons e es =>
          rw [shL_list0 R, shL_list R] at h
          simp only [List.cons_append, List.nil_append, List.append_assoc, List.cons.injEq, true_and] at h
          exact (no_open R h.symm (.inl rfl)).elim
      | cons d ds => cases es with
        | nil =>
          rw [shL_list0 R, shL_list R] at h
          simp only [List.cons_append, List.nil_append, List.append_assoc, List.cons.injEq, true_and] at h
          exact (no_open R h (.inl rfl)).elim
        | cons e es =>
          rw [shL_list R, shL_list R] at h
          simp only [List.cons_append, List.append_assoc, List.cons.injEq, true_and] at h
          simp only [gAll, Bool.and_eq_true] at g1 g2
          have a := sh_inj R d e g1.2.1 g2.2.1 (stp_tls (cls_93 r)) (stp_tls (cls_93 r')) h
          have b := tls_inj R ds es g1.2.2 g2.2.2 (cls_93 r) (cls_93 r') a.2
          exact ⟨by rw [a.1, b.1], List.append_cancel_left b.2⟩
    | bool b => cases b <;> cases k
    | _ => cases k
  | .tuple ds, e, r, r', g1, g2, s1, s2, h => by
    have k := same_kind R h
    cases e with
    | tuple es =>
      simp only [gB, Bool.and_eq_true] at g1 g2
      cases ds with
      | nil => cases es with
        | nil => exact ⟨rfl, List.append_cancel_left h⟩
        | cons e es =>
          rw [shL_tup0 R, shL_tup R] at h
          simp only [List.cons_append, List.nil_append, List.append_assoc, List.cons.injEq, true_and] at h
          exact (no_open R h.symm (.inr (.inl rfl))).elim
      | cons d ds => cases es with
        | nil =>
          rw [shL_tup0 R, shL_tup R] at h
          simp only [List.cons_append, List.nil_append, List.append_assoc, List.cons.injEq, true_and] at h
          exact (no_open R h (.inr (.inl rfl))).elim
        | cons e es =>
          rw [shL_tup R, shL_tup R] at h
          simp only [List.cons_append, List.append_assoc, List.cons.injEq, true_and] at h
          simp only [gAll, Bool.and_eq_true] at g1 g2
          have a := sh_inj R d e g1.2.1 g2.2.1 (stp_tls (cls_T _ r)) (stp_tls (cls_T _ r')) h
          have b := tls_inj R ds es g1.2.2 g2.2.2 (cls_T _ r) (cls_T _ r') a.2
          have c := b.2
          rw [b.1] at c
          exact ⟨by rw [a.1, b.1], List.append_cancel_left c⟩
    | bool b => cases b <;> cases k
    | _ => cases k
  | .dict D, e, r, r', g1, g2, s1, s2, h => by
    have k := same_kind R h
    cases e with
    | dict E =>
      simp only [gB, Bool.and_eq_true] at g1 g2
      cases D with
      | nil => cases E with
        | nil => exact ⟨rfl, List.append_cancel_left h⟩
        | cons p E =>
          obtain ⟨k', e⟩ := p
          rw [shL_dict0 R, shL_dict R] at h
          simp only [kvL, List.cons_append, List.nil_append, List.append_assoc, List.cons.injEq, true_and] at h
          exact (no_open R h.symm (.inr (.inr rfl))).elim
      | cons p D =>
        obtain ⟨k1, d⟩ := p
        cases E with
        | nil =>
          rw [shL_dict0 R, shL_dict R] at h
          simp only [kvL, List.cons_append, List.nil_append, List.append_assoc, List.cons.injEq, true_and] at h
          exact (no_open R h (.inr (.inr rfl))).elim
        | cons p E =>
          obtain ⟨k2, e⟩ := p
          rw [shL_dict R, shL_dict R] at h
          simp only [kvL, List.cons_append, List.append_assoc, List.cons.injEq, true_and] at h
          simp only [gKv, Bool.and_eq_true] at g1 g2
          cases k1 with
          | str x => cases k2 with
            | str y =>
              have g3 := g1.2.1.1
              have g4 := g2.2.1.1
              simp only [gkeyB, Bool.and_eq_true] at g3 g4
              have c := R.strI g3.2 g4.2 h
              have c2 := c.2
              simp only [List.cons.injEq, true_and] at c2
              have a := sh_inj R d e g1.2.1.2 g2.2.1.2 (stp_tlK (cls_125 r)) (stp_tlK (cls_125 r')) c2
              have b := tlK_inj R D E g1.2.2 g2.2.2 (cls_125 r) (cls_125 r') a.2
              exact ⟨by rw [a.1, b.1, c.1], List.append_cancel_left b.2⟩
            | _ => cases g2.2.1.1
          | _ => cases g1.2.1.1
    | bool b => cases b <;> cases k
    | _ => cases k
theorem tls_inj (R : Rend f) : ∀ (ds es : List PyData) {r r' : List Nat}, gAll ds = true → gAll es = true → Cls' r → Cls' r' → tls f ds ++ r = tls f es ++ r' → ds = es ∧ r = r'
  | [], [], r, r', _, _, _, _, h => ⟨rfl, h⟩
  | [], e :: es, r, r', _, _, c1, _, h => by
    simp only [tls, List.nil_append, List.cons_append] at h
    exact (no_item c1 h).elim
  | d :: ds, [], r, r', _, _, _, c2, h => by
    simp only [tls, List.nil_append, List.cons_append] at h
    exact (no_item c2 h.symm).elim
  | d :: ds, e :: es, r, r', g1, g2, c1, c2, h => by
    simp only [tls, List.cons_append, List.append_assoc, List.cons.injEq, true_and] at h
    simp only [gAll, Bool.and_eq_true] at g1 g2
    have a := sh_inj R d e g1.1 g2.1 (stp_tls c1) (stp_tls c2) h
    have b := tls_inj R ds es g1.2 g2.2 c1 c2 a.2
    exact ⟨by rw [a.1, b.1], b.2⟩
theorem tlK_inj (R : Rend f) : ∀ (D E : List (PyData × PyData)) {r r' : List Nat}, gKv D = true → gKv E = true → Cls' r → Cls' r' → tlK f D ++ r = tlK f E ++ r' → D = E ∧ r = r'
  | [], [], r, r', _, _, _, _, h => ⟨rfl, h⟩
  | [], (k, e) :: es, r, r', _, _, c1, _, h => by
    simp only [tlK, List.nil_append, List.cons_append] at h
    exact (no_item c1 h).elim
  | (k, d) :: ds, [], r, r', _, _, _, c2, h => by
    simp only [tlK, List.nil_append, List.cons_append] at h
    exact (no_item c2 h.symm).elim
  | (k1, d) :: D, (k2, e) :: E, r, r', g1, g2, c1, c2, h => by
    simp only [tlK, kvL, List.cons_append, List.append_assoc, List.cons.injEq, true_and] at h
    simp only [gKv, Bool.and_eq_true] at g1 g2
    cases k1 with
    | str x => cases k2 with
      | str y =>
        have g3 := g1.1.1
        have g4 := g2.1.1
        simp only [gkeyB, Bool.and_eq_true] at g3 g4
        have c := R.strI g3.2 g4.2 h
        have c3 := c.2
        simp only [List.cons.injEq, true_and] at c3
        have a := sh_inj R d e g1.1.2 g2.1.2 (stp_tlK c1) (stp_tlK c2) c3
        have b := tlK_inj R D E g1.2 g2.2 c1 c2 a.2
        exact ⟨by rw [a.1, b.1, c.1], b.2⟩
      | _ => cases g2.1.1
    | _ => cases g1.1.1
end
end
/-- two values are rendered alike only if they are the same -/
theorem Rend.inj {f : PyData → Str} (R : Rend f) {d e : PyData} (h1 : gB d = true) (h2 : gB e = true) (h : f d = f e) : d = e :=
  (sh_inj R d e (r := []) (r' := []) h1 h2 (fun _ _ z => by cases z) (fun _ _ z => by cases z) (by simp only [shL, h])).1
def SH : Nat → Nat
  | 0 => 105
  | n + 1 => 10 + 16 * (SH n + 120)
theorem SH_lo : ∀ n, 105 ≤ SH n
  | 0 => Nat.le_refl _
  | n + 1 => by have := SH_lo n; simp only [SH]; omega
mutual
theorem Rend.le {f : PyData → Str} (R : Rend f) : ∀ (d : PyData) (n : Nat), gB d = true → d.depth ≤ n → (f d).length ≤ SH n
  | .none, n, _, _ => by
    have := SH_lo n
    rw [R.non]
    have e : ((("None" : String) : Str)).length = 4 := by decide +kernel
    omega
  | .bool b, n, _, _ => by
    have := SH_lo n
    rw [R.bl]
    have e : (Str.ofString (if b then "True" else "False" : String)).length ≤ 5 := by cases b <;> decide +kernel
    omega
  | .int i, n, h, _ => by
    have := SH_lo n
    simp only [gB, decide_eq_true_eq] at h
    have hl := int_text_length_le10 (a := i) (k := 100) (by decide) h
    rw [R.int, ofString_length]
    omega
  | .str x, n, h, _ => by
    have := SH_lo n
    simp only [gB, Bool.and_eq_true, decide_eq_true_eq] at h
    have := R.strL h.2 h.1
    omega
  | .list ds, 0, _, hd => by simp only [PyData.depth] at hd; omega
  | .list ds, n + 1, h, hd => by
    simp only [gB, Bool.and_eq_true, decide_eq_true_eq] at h
    have hs := R.leAll ds n h.2 (by simp only [PyData.depth] at hd; omega)
    have hj := join_len_le 16 (SH n) (ds.map f) (by rw [List.length_map]; exact h.1) hs
    rw [R.lst, Str.length_append, Str.length_append]
    have e1 : ((("[" : String) : Str)).length = 1 := by decide +kernel
    have e2 : ((("]" : String) : Str)).length = 1 := by decide +kernel
    simp only [SH]; omega
  | .tuple ds, 0, _, hd => by simp only [PyData.depth] at hd; omega
  | .tuple ds, n + 1, h, hd => by
    simp only [gB, Bool.and_eq_true, decide_eq_true_eq] at h
    have hs := R.leAll ds n h.2 (by simp only [PyData.depth] at hd; omega)
    have hj := join_len_le 16 (SH n) (ds.map f) (by rw [List.length_map]; exact h.1) hs
    rw [R.tup, Str.length_append, Str.length_append]
    have e1 : ((("(" : String) : Str)).length = 1 := by decide +kernel
    have e2 : (Str.ofString (if ds.length == 1 then ",)" else ")" : String)).length ≤ 2 := by split <;> decide +kernel
    simp only [SH]; omega
  | .dict D, 0, _, hd => by simp only [PyData.depth] at hd; omega
  | .dict D, n + 1, h, hd => by
    simp only [gB, Bool.and_eq_true, decide_eq_true_eq] at h
    have hs := R.leKv D n h.2 (by simp only [PyData.depth] at hd; omega)
    have hj := join_len_le 16 (SH n + 107) (D.map fun p => f p.1 ++ ": " ++ f p.2) (by rw [List.length_map]; exact h.1) hs
    rw [R.dct, Str.length_append, Str.length_append]
    have e1 : ((("{" : String) : Str)).length = 1 := by decide +kernel
    have e2 : ((("}" : String) : Str)).length = 1 := by decide +kernel
    simp only [SH]; omega
theorem Rend.leAll {f : PyData → Str} (R : Rend f) : ∀ (ds : List PyData) (n : Nat), gAll ds = true → PyData.depthAll ds ≤ n → ∀ t ∈ ds.map f, t.length ≤ SH n
  | [], n, _, _ => by simp
  | d :: ds, n, h, hd => by
    simp only [gAll, Bool.and_eq_true] at h
    simp only [PyData.depthAll] at hd
    have h1 := R.le d n h.1 (by omega)
    have h2 := R.leAll ds n h.2 (by omega)
    intro t ht
    rw [List.map_cons] at ht
    rcases List.mem_cons.mp ht with e | e
    · rw [e]; exact h1
    · exact h2 t e
theorem Rend.leKv {f : PyData → Str} (R : Rend f) : ∀ (D : List (PyData × PyData)) (n : Nat), gKv D = true → PyData.depthKv D ≤ n → ∀ t ∈ D.map (fun p => f p.1 ++ ": " ++ f p.2), t.length ≤ SH n + 107
  | [], n, _, _ => by simp
  | (k, d) :: r, n, h, hd => by
    simp only [gKv, Bool.and_eq_true] at h
    simp only [PyData.depthKv] at hd
    have h1 := R.le d n h.1.2 (by omega)
    have h2 := R.leKv r n h.2 (by omega)
    have h0 : (f k).length ≤ 105 := by
      cases k with
      | str x =>
        have := h.1.1
        simp only [gkeyB, Bool.and_eq_true, decide_eq_true_eq] at this
        exact R.strL this.2 this.1
      | _ => cases h.1.1
    intro t ht
    rw [List.map_cons] at ht
    rcases List.mem_cons.mp ht with e | e
    · rw [e]
      show (f k ++ ": " ++ f d).length ≤ _
      rw [Str.length_append, Str.length_append]
      have e1 : (((": " : String) : Str)).length = 2 := by decide +kernel
      omega
    · exact h2 t e
end
/-- what stands behind the backslash -/
def bk (c : Nat) : Nat := if c = 110 then 10 else if c = 114 then 13 else if c = 116 then 9 else c
def hx (c : Nat) : Nat := if c < 58 then c - 48 else c - 87
def formB (q c : Nat) : Bool := match reprChar q c with
  | [a] => a == c && a != 92 && a != q
  | [a, b] => a == 92 && b != 120 && bk b == c
  | [a, b, h, l] => a == 92 && b == 120 && 16 * hx h + hx l == c
  | _ => false
theorem form_tab : ((List.range 128).all (formB 34) && (List.range 128).all (formB 39)) = true := by decide +kernel
theorem formB_of {q c : Nat} (hq : q = 34 ∨ q = 39) (hc : c < 128) : formB q c = true := by
  have h := form_tab
  simp only [Bool.and_eq_true, List.all_eq_true, List.mem_range] at h
  rcases hq with rfl | rfl
  · exact h.1 c hc
  · exact h.2 c hc
/-- a sign as repr writes it -/
theorem form {q c : Nat} (hq : q = 34 ∨ q = 39) (hc : c < 128) : (reprChar q c = [c] ∧ c ≠ 92 ∧ c ≠ q) ∨ (∃ b, reprChar q c = [92, b] ∧ b ≠ 120 ∧ bk b = c) ∨ ∃ h l, reprChar q c = [92, 120, h, l] ∧ 16 * hx h + hx l = c := by
  have f := formB_of hq hc
  unfold formB at f
  split at f
  · rename_i a e
    simp only [Bool.and_eq_true, beq_iff_eq, bne_iff_ne] at f
    obtain ⟨⟨rfl, f2⟩, f3⟩ := f
    exact .inl ⟨e, f2, f3⟩
  · rename_i a b e
    simp only [Bool.and_eq_true, beq_iff_eq, bne_iff_ne] at f
    obtain ⟨⟨rfl, f2⟩, f3⟩ := f
    exact .inr (.inl ⟨b, e, f2, f3⟩)
  · rename_i a b h l e
    simp only [Bool.and_eq_true, beq_iff_eq] at f
    obtain ⟨⟨rfl, rfl⟩, f3⟩ := f
    exact .inr (.inr ⟨h, l, e, f3⟩)
  · cases f
theorem sign_inj {q a b : Nat} (hq : q = 34 ∨ q = 39) (ha : a < 128) (hb : b < 128) {r r' : List Nat} (e : reprChar q a ++ r = reprChar q b ++ r') : a = b := by
  rcases form hq ha with ⟨e1, n1, _⟩ | ⟨x, e1, n1, b1⟩ | ⟨h, l, e1, b1⟩ <;> rcases form hq hb with ⟨e2, n2, _⟩ | ⟨y, e2, n2, b2⟩ | ⟨h', l', e2, b2⟩ <;> rw [e1, e2] at e <;> simp only [List.cons_append, List.nil_append, List.cons.injEq] at e
  · exact e.1
  · exact absurd e.1 n1
  · exact absurd e.1 n1
  · exact absurd e.1.symm n2
  · rw [← b1, ← b2, e.2.1]
  · exact absurd e.2.1 n1
  · exact absurd e.1.symm n2
  · exact absurd e.2.1.symm n2
  · rw [← b1, ← b2, e.2.2.1, e.2.2.2.1]
theorem sign_end {q a : Nat} (hq : q = 34 ∨ q = 39) (ha : a < 128) {r r' : List Nat} (e : reprChar q a ++ r = q :: r') : False := by
  have q92 : (92 : Nat) ≠ q := by rcases hq with rfl | rfl <;> decide
  rcases form hq ha with ⟨e1, _, n1⟩ | ⟨x, e1, n1, b1⟩ | ⟨h, l, e1, b1⟩ <;> rw [e1] at e <;> simp only [List.cons_append, List.nil_append, List.cons.injEq] at e
  · exact n1 e.1
  · exact q92 e.1
  · exact q92 e.1
theorem code_inj {q : Nat} (hq : q = 34 ∨ q = 39) : ∀ (x y : List Nat) {r r' : List Nat}, (∀ c ∈ x, c < 128) → (∀ c ∈ y, c < 128) → x.flatMap (reprChar q) ++ q :: r = y.flatMap (reprChar q) ++ q :: r' → x = y ∧ r = r'
  | [], [], r, r', _, _, e => by simpa using e
  | [], b :: y, r, r', _, hy, e => by
    simp only [List.flatMap_nil, List.nil_append, List.flatMap_cons, List.append_assoc] at e
    exact (sign_end hq (hy b (List.mem_cons_self ..)) e.symm).elim
  | a :: x, [], r, r', hx, _, e => by
    simp only [List.flatMap_nil, List.nil_append, List.flatMap_cons, List.append_assoc] at e
    exact (sign_end hq (hx a (List.mem_cons_self ..)) e).elim
  | a :: x, b :: y, r, r', hx, hy, e => by
    simp only [List.flatMap_cons, List.append_assoc] at e
    have ab := sign_inj hq (hx a (List.mem_cons_self ..)) (hy b (List.mem_cons_self ..)) e
    subst ab
    have := code_inj hq x y (fun c hc => hx c (List.mem_cons_of_mem _ hc)) (fun c hc => hy c (List.mem_cons_of_mem _ hc)) (List.append_cancel_left e)
    exact ⟨by rw [this.1], this.2⟩
theorem fold_repr (q : Nat) : ∀ (l : List Nat) (acc : Array Nat), (l.foldl (fun out c => out ++ (reprChar q c).toArray) acc).toList = acc.toList ++ l.flatMap (reprChar q)
  | [], acc => by simp
  | c :: l, acc => by
    rw [List.foldl_cons, fold_repr q l]
    simp
theorem repr_list (x : Str) : (reprText x).cps.toList = reprQuote x :: (x.cps.toList.flatMap (reprChar (reprQuote x)) ++ [reprQuote x]) := by
  unfold reprText
  rw [Array.toList_push, ← Array.foldl_toList, fold_repr]
  simp
theorem quote_of (x : Str) : reprQuote x = 34 ∨ reprQuote x = 39 := by unfold reprQuote; split <;> simp
theorem str_inj {x y : Str} (hx : asc x = true) (hy : asc y = true) {r r' : List Nat} (e : (reprText x).cps.toList ++ r = (reprText y).cps.toList ++ r') : x = y ∧ r = r' := by
  rw [repr_list, repr_list] at e
  simp only [List.cons_append, List.append_assoc, List.nil_append, List.cons.injEq] at e
  obtain ⟨eq, e⟩ := e
  rw [← eq] at e
  have h : ∀ z : Str, asc z = true → ∀ c ∈ z.cps.toList, c < 128 := fun z hz c hc => by simpa using List.all_eq_true.mp hz c hc
  have := code_inj (quote_of x) _ _ (h x hx) (h y hy) e
  exact ⟨str_cps this.1, this.2⟩
theorem shownAll_map : ∀ ds : List PyData, PyData.shownAll ds = ds.map PyData.shown
  | [] => by simp [PyData.shownAll]
  | d :: ds => by rw [PyData.shownAll_cons, shownAll_map ds]; rfl
theorem shownKv_map : ∀ D : List (PyData × PyData), PyData.shownKv D = D.map fun p => (p.1.shown ++ Str.ofString ": " ++ p.2.shown : Str)
  | [] => by simp [PyData.shownKv]
  | (k, d) :: D => by rw [PyData.shownKv_cons, shownKv_map D]; rfl
theorem rep_len {x : Str} {n : Nat} (h : asc x = true) (hn : x.length ≤ n) : (reprText x).length ≤ 10 * n + 2 := by
  have := StrLaws.reprText_len x fun c hc => by
    have := List.all_eq_true.mp h c hc
    have : c < 128 := by simpa using this
    omega
  omega
theorem rshown : Rend PyData.shown where
  non := by decide +kernel
  bl := fun b => by cases b <;> decide +kernel
  int := fun i => PyData.shown_int i
  lst := fun ds => by rw [PyData.shown_list, shownAll_map]
  tup := fun ds => by rw [PyData.shown_tuple, shownAll_map]
  dct := fun D => by rw [PyData.shown_dict, shownKv_map]
  str0 := fun x => by rw [PyData.shown_str, repr_list]; exact ⟨_, _, rfl, quote_of x⟩
  strI := fun hx hy h => by rw [PyData.shown_str, PyData.shown_str] at h; exact str_inj hx hy h
  strL := fun hx hl => by rw [PyData.shown_str]; have := rep_len hx hl; omega
mutual
theorem showable_g : ∀ d : PyData, gB d = true → d.showable = true
  | .none, _ => rfl
  | .bool _, _ => rfl
  | .int i, h => by
    simp only [gB, decide_eq_true_eq] at h
    simp only [PyData.showable, decide_eq_true_eq]
    have h2 : i.natAbs < 2 ^ 1920 := Nat.lt_of_lt_of_le h (by decide +kernel)
    by_cases z : i.natAbs = 0
    · rw [z]; decide
    · exact (Nat.log2_lt z).mpr h2
  | .str _, _ => by simp only [PyData.showable]
  | .list ds, h => by simp only [gB, Bool.and_eq_true] at h; simp only [PyData.showable]; exact showableAll_g ds h.2
  | .tuple ds, h => by simp only [gB, Bool.and_eq_true] at h; simp only [PyData.showable]; exact showableAll_g ds h.2
  | .dict D, h => by simp only [gB, Bool.and_eq_true] at h; simp only [PyData.showable]; exact showableKv_g D h.2
theorem showableAll_g : ∀ ds : List PyData, gAll ds = true → PyData.showableAll ds = true
  | [], _ => by simp only [PyData.showableAll]
  | d :: ds, h => by simp only [gAll, Bool.and_eq_true] at h; simp only [PyData.showableAll, Bool.and_eq_true]; exact ⟨showable_g d h.1, showableAll_g ds h.2⟩
theorem showableKv_g : ∀ D : List (PyData × PyData), gKv D = true → PyData.showableKv D = true
  | [], _ => by simp only [PyData.showableKv]
  | (k, d) :: r, h => by
    simp only [gKv, Bool.and_eq_true] at h
    simp only [PyData.showableKv, Bool.and_eq_true]
    refine ⟨⟨?_, showable_g d h.1.2⟩, showableKv_g r h.2⟩
    cases k with
    | str x => simp only [PyData.showable]
    | _ => cases h.1.1
end
/-- what repr shows of a small value: it fits -/
theorem fits {d : PyData} (h : gB d = true) (hd : d.depth ≤ 4) : d.showable = true ∧ d.depth ≤ 60 ∧ d.shown.length ≤ 16777216 := by
  refine ⟨showable_g d h, by omega, ?_⟩
  have := rshown.le d 4 h hd
  have e : SH 4 ≤ 16777216 := by decide
  omega
theorem shown_inj {d e : PyData} (h1 : gB d = true) (h2 : gB e = true) : d.shown = e.shown ↔ d = e := ⟨rshown.inj h1 h2, fun h => by rw [h]⟩
def esc (c : Nat) : List Nat := if c = 34 then [92, 34] else if c = 92 then [92, 92] else if c = 10 then [92, 110] else [c]
def sno (x : Str) : Str := S (34 :: (x.cps.toList.flatMap esc ++ [34]))
mutual
def note : PyData → Str
  | .none => "None"
  | .bool b => Str.ofString (if b then "True" else "False" : String)
  | .int i => Str.ofString (toString i)
  | .str x => sno x
  | .list ds => "[" ++ Str.join ", " (noteAll ds) ++ "]"
  | .tuple ds => "(" ++ Str.join ", " (noteAll ds) ++ Str.ofString (if ds.length == 1 then ",)" else ")" : String)
  | .dict D => "{" ++ Str.join ", " (noteKv D) ++ "}"
def noteAll : List PyData → List Str
  | [] => []
  | d :: ds => note d :: noteAll ds
def noteKv : List (PyData × PyData) → List Str
  | [] => []
  | (k, d) :: D => (note k ++ ": " ++ note d) :: noteKv D
end
theorem noteAll_map : ∀ ds : List PyData, noteAll ds = ds.map note
  | [] => by simp [noteAll]
  | d :: ds => by rw [noteAll, noteAll_map ds]; rfl
theorem noteKv_map : ∀ D : List (PyData × PyData), noteKv D = D.map fun p => note p.1 ++ ": " ++ note p.2
  | [] => by simp [noteKv]
  | (k, d) :: D => by rw [noteKv, noteKv_map D]; rfl
theorem sno_tl (x : Str) : (sno x).cps.toList = 34 :: (x.cps.toList.flatMap esc ++ [34]) := rfl
theorem esc_split : ∀ (x y : List Nat) {r r' : List Nat}, x.flatMap esc ++ 34 :: r = y.flatMap esc ++ 34 :: r' → x = y ∧ r = r'
  | [], [], r, r', e => by simpa using e
  | [], b :: y, r, r', e => by
    simp only [List.flatMap_nil, List.nil_append, List.flatMap_cons, List.append_assoc] at e
    exfalso
    unfold esc at e
    (repeat' split at e) <;> simp only [List.cons_append, List.nil_append, List.cons.injEq] at e <;> omega
  | a :: x, [], r, r', e => by
    simp only [List.flatMap_nil, List.nil_append, List.flatMap_cons, List.append_assoc] at e
    exfalso
    unfold esc at e
    (repeat' split at e) <;> simp only [List.cons_append, List.nil_append, List.cons.injEq] at e <;> omega
  | a :: x, b :: y, r, r', e => by
    simp only [List.flatMap_cons, List.append_assoc] at e
    have ab : a = b := by
      unfold esc at e
      (repeat' split at e) <;> simp only [List.cons_append, List.nil_append, List.cons.injEq] at e <;> omega
    subst ab
    have := esc_split x y (List.append_cancel_left e)
    exact ⟨by rw [this.1], this.2⟩
theorem esc_len : ∀ x : List Nat, (x.flatMap esc).length ≤ 2 * x.length
  | [] => by simp
  | a :: x => by
    have := esc_len x
    have h : (esc a).length ≤ 2 := by unfold esc; (repeat' split) <;> simp
    simp only [List.flatMap_cons, List.length_append, List.length_cons]; omega
theorem rnote : Rend note where
  non := by simp only [note]
  bl := fun b => by simp only [note]
  int := fun i => by simp only [note]
  lst := fun ds => by simp only [note]; rw [noteAll_map]
  tup := fun ds => by simp only [note]; rw [noteAll_map]
  dct := fun D => by simp only [note]; rw [noteKv_map]
  str0 := fun x => by simp only [note]; rw [sno_tl]; exact ⟨_, _, rfl, .inl rfl⟩
  strI := fun {x y r r'} hx hy h => by
    simp only [note, sno_tl, List.cons_append, List.append_assoc, List.nil_append, List.cons.injEq, true_and] at h
    have := esc_split _ _ h
    exact ⟨str_cps this.1, this.2⟩
  strL := fun {x} hx hl => by
    simp only [note]
    unfold sno
    rw [S_len]
    have := esc_len x.cps.toList
    have e : x.cps.toList.length = x.length := by simp [Str.length]
    simp only [List.length_cons, List.length_append, List.length_nil]; omega
theorem note_inj {d e : PyData} (h1 : gB d = true) (h2 : gB e = true) : note d = note e ↔ d = e := ⟨rnote.inj h1 h2, fun h => by rw [h]⟩
local macro_rules | `(tactic| walk_at "sx") => `(tactic| simp only [tRet, tRetN, tSeq, C8.tCut, tNext, tAsg, gName, gNil, gCons, gTup, gFld, tIfS, tIf, tAndV, tOrV, tNotV, tAnd, tOr, tNot, tB, tTest, tOp, tUn, tCB, tCons, tNil, tVar, tC, tChain, tDrop, RS.tCallG, RS.tMethG, tMakeG, RS.tCallK, RS.tMakeK, tEqOwn, rI, rI0, rU, add_ii, add_ss, add_rr, mul_ii, mul_si, mul_ri, RS.eq_ii, RS.eq_ss, eq_bb, eq_nn, eq_sn, eq_ns, eq_in, eq_ni, eq_bn, eq_nb, eq_is, eq_si, eq_rr, ne_ii, ne_ss, ne_bb, ne_nn, ne_sn, ne_ns, ne_in, ne_ni, ne_is, ne_si, ne_rr, in_ss, in_r, nin_ss, nin_r, len_s, len_r, RS.ix_s, RS.ix_r, sl_s, sl_r, is_eq, tyN_n, tyN_b, tyN_i, tyN_s, tru_b, tru_i, tru_n, tSl, tPart, tNoPart, tPar, tPar3, tFmtZ, tFmt, tJs, tDGet, sDPut, sFld, tFld, tTup, tLst, tNever, isB,
  L2.start, List.map_cons, List.map_nil, List.length_cons, List.length_nil, Nat.reduceAdd, Nat.reduceSub, Nat.sub_self, List.replicate_zero, List.replicate_succ, List.append_nil, List.cons_append, List.nil_append, List.getElem?_cons_zero, List.getElem?_cons_succ, List.set_cons_zero, List.set_cons_succ, Option.some.injEq, exists_eq_left, exists_eq_left', exists_and_left, V.bl.injEq, V.int.injEq, V.str.injEq, V.ref.injEq, beq_self_eq_true, Bool.true_or, Bool.or_true, Bool.false_or, Bool.or_false, Bool.and_false, Bool.false_and, Bool.true_and, Bool.and_true, Bool.not_true, Bool.not_false, Bool.false_eq_true, if_true, if_false, ite_true, ite_false, true_and, and_true, and_assoc, String.reduceBEq, String.reduceEq, reduceIte, Bool.and_self, reduceCtorEq, false_and, and_false, exists_false, or_false, false_or, exists_const, iEnumS, iStr, iList, iTup, iRng1, iEnum, tFor_eq, tLc_eq, List.cons.injEq, wipe, not_true_eq_false, not_false_eq_true, upd_same, HO.ins.injEq, HO.tup.injEq, HO.lst.injEq, ofS_eq, lk_nil, lk_cons, pu_nil, pu_cons, sizeLine_eq, Nat.reduceLT, Nat.reduceLeDiff, Nat.reduceEqDiff, Nat.le_refl, decide_true, decide_false, tPr, dget_us, dput_us, vv_nil, vv_cons, RS.pk_nil, pk_one, RS.pk_cons, inr_eq, tDisp, tPairs, tBoolOwn, rBoolOwn, tBM, rAppend, ty_list, ty_str, rEqOwn, iEnumT, RS.tCallS, tM1, tDc_eq, tLock, tLockE, iKeys, tListEnum, rUpdate, tMkX0, tMkX1, tXfv, gSub, rSetL, List.getD_cons_zero, List.getD_cons_succ, tBreak, tCMethS, ClX.tCVal, tXfa, tIxOwn, tInOwn, tPropG, tMethK, tMethP, tListGen, tDGet2, tDPop2, rNeD0, intA_i, intA_b, tRevL, sFldAug, tPm0, tPm1, tDIn, tDNotIn, tDNewK, RS.tMethS, tForK, tKM, tKC, tLcK, tKM2, tKC2, tMethStar, tKCK2, tLk, tAug, ipI, tDig, tLcX, tKMX, tKCX])
theorem lit_0 : (Str.ofString "recordshelf.errors") = SX.S [114, 101, 99, 111, 114, 100, 115, 104, 101, 108, 102, 46, 101, 114, 114, 111, 114, 115] := by decide +kernel
theorem lit_1 : (Str.ofString "recordshelf.values") = SX.S [114, 101, 99, 111, 114, 100, 115, 104, 101, 108, 102, 46, 118, 97, 108, 117, 101, 115] := by decide +kernel
theorem lit_2 : (Str.ofString "recordshelf.notation") = SX.S [114, 101, 99, 111, 114, 100, 115, 104, 101, 108, 102, 46, 110, 111, 116, 97, 116, 105, 111, 110] := by decide +kernel
theorem lit_3 : (Str.ofString "recordshelf.patches") = SX.S [114, 101, 99, 111, 114, 100, 115, 104, 101, 108, 102, 46, 112, 97, 116, 99, 104, 101, 115] := by decide +kernel
theorem lit_4 : (Str.ofString "law_recordshelf_k60_whole_patches") = SX.S [108, 97, 119, 95, 114, 101, 99, 111, 114, 100, 115, 104, 101, 108, 102, 95, 107, 54, 48, 95, 119, 104, 111, 108, 101, 95, 112, 97, 116, 99, 104, 101, 115] := by decide +kernel
theorem lit_5 : (Str.ofString "\"") = SX.S [34] := by decide +kernel
theorem lit_6 : (Str.ofString "\\") = SX.S [92] := by decide +kernel
theorem lit_7 : (Str.ofString "\n") = SX.S [10] := by decide +kernel
theorem lit_8 : (Str.ofString "\\\"") = SX.S [92, 34] := by decide +kernel
theorem lit_9 : (Str.ofString "\\\\") = SX.S [92, 92] := by decide +kernel
theorem lit_10 : (Str.ofString "\\n") = SX.S [92, 110] := by decide +kernel
theorem lit_put : (Str.ofString "put") = SX.S [112, 117, 116] := by decide +kernel
theorem lit_12 : (Str.ofString "ab \"\\\n~1,:]") = SX.S [97, 98, 32, 34, 92, 10, 126, 49, 44, 58, 93] := by decide +kernel
theorem lit_13 : (Str.ofString "0") = SX.S [48] := by decide +kernel
theorem lit_a : (Str.ofString "a") = SX.S [97] := by decide +kernel
theorem lit_b : (Str.ofString "b") = SX.S [98] := by decide +kernel
theorem lit_c : (Str.ofString "c") = SX.S [99] := by decide +kernel
theorem lit_17 : (Str.ofString "a b") = SX.S [97, 32, 98] := by decide +kernel
theorem lit_k : (Str.ofString "k") = SX.S [107] := by decide +kernel
theorem lit_z : (Str.ofString "z") = SX.S [122] := by decide +kernel
theorem lit_20 : (Str.ofString "not a value") = SX.S [110, 111, 116, 32, 97, 32, 118, 97, 108, 117, 101] := by decide +kernel
theorem lit_21 : (Str.ofString "not a number of the expected size") = SX.S [110, 111, 116, 32, 97, 32, 110, 117, 109, 98, 101, 114, 32, 111, 102, 32, 116, 104, 101, 32, 101, 120, 112, 101, 99, 116, 101, 100, 32, 115, 105, 122, 101] := by decide +kernel
theorem lit_22 : (Str.ofString "not a mapping from keys to values") = SX.S [110, 111, 116, 32, 97, 32, 109, 97, 112, 112, 105, 110, 103, 32, 102, 114, 111, 109, 32, 107, 101, 121, 115, 32, 116, 111, 32, 118, 97, 108, 117, 101, 115] := by decide +kernel
theorem lit_23 : (Str.ofString "not a valid deed") = SX.S [110, 111, 116, 32, 97, 32, 118, 97, 108, 105, 100, 32, 100, 101, 101, 100] := by decide +kernel
theorem lit_24 : (Str.ofString "larger than the limit") = SX.S [108, 97, 114, 103, 101, 114, 32, 116, 104, 97, 110, 32, 116, 104, 101, 32, 108, 105, 109, 105, 116] := by decide +kernel
theorem lit_25 : (Str.ofString "]") = SX.S [93] := by decide +kernel
theorem lit_26 : (Str.ofString "}") = SX.S [125] := by decide +kernel
theorem lit_drop : (Str.ofString "drop") = SX.S [100, 114, 111, 112] := by decide +kernel
theorem lit_28 : (Str.ofString "a patch is not iterated over") = SX.S [97, 32, 112, 97, 116, 99, 104, 32, 105, 115, 32, 110, 111, 116, 32, 105, 116, 101, 114, 97, 116, 101, 100, 32, 111, 118, 101, 114] := by decide +kernel
theorem lit_29 : (Str.ofString "") = SX.S [] := by decide +kernel
theorem lit_number : (Str.ofString "number") = SX.S [110, 117, 109, 98, 101, 114] := by decide +kernel
theorem lit_other : (Str.ofString "other") = SX.S [111, 116, 104, 101, 114] := by decide +kernel
theorem lit_32 : (Str.ofString "[") = SX.S [91] := by decide +kernel
theorem lit_33 : (Str.ofString "(") = SX.S [40] := by decide +kernel
theorem lit_34 : (Str.ofString ",)") = SX.S [44, 41] := by decide +kernel
theorem lit_35 : (Str.ofString ")") = SX.S [41] := by decide +kernel
theorem lit_36 : (Str.ofString "{") = SX.S [123] := by decide +kernel
theorem lit_37 : (Str.ofString ", ") = SX.S [44, 32] := by decide +kernel
theorem lit_38 : (Str.ofString ": ") = SX.S [58, 32] := by decide +kernel
local macro_rules | `(tactic| walk_at "lt") => `(tactic| simp only [lit_0, lit_1, lit_2, lit_3, lit_4, lit_5, lit_6, lit_7, lit_8, lit_9, lit_10, lit_put, lit_12, lit_13, lit_a, lit_b, lit_c, lit_17, lit_k, lit_z, lit_20, lit_21, lit_22, lit_23, lit_24, lit_25, lit_26, lit_drop, lit_28, lit_29, lit_number, lit_other, lit_32, lit_33, lit_34, lit_35, lit_36, lit_37, lit_38])
def top (i : Nat) : Stmt := PySem.Challenge.pw_recordshelf_k60_whole_patches.main.body.getD i (.Pass ⟨0, 0, 0, 0⟩)
abbrev s_InvalidNumber__init : Stmt := inClass (top 5) 0
abbrev s_InvalidMapping__init : Stmt := inClass (top 6) 0
abbrev s_is_key : Stmt := top 14
abbrev s_items_of : Stmt := top 15
abbrev s_is_wrong_part : Stmt := top 16
abbrev s_wrong_path : Stmt := top 17
abbrev s_check_value : Stmt := top 18
abbrev s_is_value : Stmt := top 19
abbrev s_rebuilt : Stmt := top 20
abbrev s_copied : Stmt := top 21
abbrev s_string_notation : Stmt := top 24
abbrev s_value_notation : Stmt := top 25
abbrev s_is_deed : Stmt := top 26
abbrev s_check_mappings : Stmt := top 29
abbrev s_are_alike : Stmt := top 30
abbrev s_applied : Stmt := top 31
abbrev s_kept_keys : Stmt := top 32
abbrev s_difference : Stmt := top 33
abbrev s_Ready__init : Stmt := inClass (top 34) 0
abbrev s_Patch__init : Stmt := inClass (top 35) 0
abbrev s_Patch_between : Stmt := inClass (top 35) 1
abbrev s_Patch_deeds : Stmt := inClass (top 35) 3
abbrev s_Patch__call : Stmt := inClass (top 35) 4
abbrev s_Patch__add : Stmt := inClass (top 35) 5
abbrev s_Patch__len : Stmt := inClass (top 35) 6
abbrev s_Patch__bool : Stmt := inClass (top 35) 7
abbrev s_Patch__getitem : Stmt := inClass (top 35) 8
abbrev s_Patch__contains : Stmt := inClass (top 35) 10
abbrev s_Patch__eq : Stmt := inClass (top 35) 11
abbrev s_copied_deed : Stmt := top 36
abbrev s_l_source : Stmt := top 38
abbrev s_l_pick : Stmt := top 39
abbrev s_l_string : Stmt := top 40
abbrev s_l_value : Stmt := top 41
abbrev s_l_mapping : Stmt := top 42
abbrev s_l_deeds : Stmt := top 43
abbrev s_l_done : Stmt := top 44
abbrev s_l_patch : Stmt := top 45
abbrev s_l_told : Stmt := top 46
abbrev s_l_pairs : Stmt := top 47
abbrev s_l_read_right : Stmt := top 48
abbrev s_l_right : Stmt := top 49
abbrev s_l_fresh_right : Stmt := top 50
abbrev s_law : Stmt := top 51
theorem bb_dict : bootBuiltins "dict" = some (.type "dict") := by decide +kernel
structure Txt (g : Wd) : Prop where
  b_len : g.mg "len" = none
  b_isinstance : g.mg "isinstance" = none
  b_repr : g.mg "repr" = none
  b_enumerate : g.mg "enumerate" = none
  b_range : g.mg "range" = none
  b_list : g.mg "list" = none
  b_tuple : g.mg "tuple" = none
  b_dict : g.mg "dict" = none
  b_bool : g.mg "bool" = none
  b_int : g.mg "int" = none
  b_str : g.mg "str" = none
  b_abs : g.mg "abs" = none
  b_all : g.mg "all" = none
  nd : PySem.W.nsIn g.K cStatics "sys.int_max_str_digits" = some none
  b_sorted : g.mg "sorted" = none
  b_set : g.mg "set" = none
  b_max : g.mg "max" = none
  b_min : g.mg "min" = none
  b_any : g.mg "any" = none
  c_MOST_DIGITS : Gv g "MOST_DIGITS" (.int 100)
  c_MOST_ITEMS : Gv g "MOST_ITEMS" (.int 10000)
  c_MOST_LEVELS : Gv g "MOST_LEVELS" (.int 20)
  c_MOST_KEY : Gv g "MOST_KEY" (.int 200)
  c_MOST_DEEDS : Gv g "MOST_DEEDS" (.int 1000)
theorem okAll_get : ∀ {ds : List PyData} {i : Nat} {d : PyData}, okAll ds = true → ds[i]? = some d → okB d = true
  | x :: xs, 0, d, h, e => by
    cases e
    simp only [okAll, Bool.and_eq_true] at h
    exact h.1
  | x :: xs, i + 1, d, h, e => by
    simp only [okAll, Bool.and_eq_true] at h
    exact okAll_get h.2 (by simpa using e)
  | [], _, _, _, e => by simp at e
theorem okKv_get : ∀ {D : List (PyData × PyData)} {i : Nat} {k d : PyData}, okKv D = true → D[i]? = some (k, d) → okB k = true ∧ okB d = true
  | (x, y) :: xs, 0, k, d, h, e => by
    cases e
    simp only [okKv, Bool.and_eq_true] at h
    exact h.1
  | (x, y) :: xs, i + 1, k, d, h, e => by
    simp only [okKv, Bool.and_eq_true] at h
    exact okKv_get h.2 (by simpa using e)
  | [], _, _, _, _, e => by simp at e
/-- the pairs of steps and items -/
def idx (xs : List V) : List (V × V) := (List.range xs.length).map fun j => (.int (j : Nat), xs[j]?.getD .non)
def prs (H : Hp) : V → List (V × V)
  | .ref a => match H a with
    | some (.lst xs) => idx xs
    | some (.tup xs) => idx xs
    | some (.dK kvs) => kvs.map fun kv => (kV kv.1, kv.2)
    | _ => []
  | _ => []
/-- tuples of these pairs -/
def Prd (H : Hp) (ts : List V) (ps : List (V × V)) : Prop := ts.length = ps.length ∧ ∀ (j : Nat) (s x : V), ps[j]? = some (s, x) → ∃ t : Addr, ts[j]? = some (.ref t) ∧ H t = some (.tup [s, x])
theorem Prd.snoc {H H' : Hp} {ts : List V} {ps : List (V × V)} {t : Addr} {s x : V} (h : Prd H ts ps) (sm : Same H H') (ht : H' t = some (.tup [s, x])) : Prd H' (ts ++ [.ref t]) (ps ++ [(s, x)]) := by
  refine ⟨by simp [h.1], fun j s' x' hj => ?_⟩
  by_cases lt : j < ps.length
  · rw [List.getElem?_append_left lt] at hj
    obtain ⟨t', h1, h2⟩ := h.2 j s' x' hj
    exact ⟨t', by rw [List.getElem?_append_left (by rw [h.1]; exact lt)]; exact h1, sm _ _ h2⟩
  · rw [List.getElem?_append_right (by omega)] at hj
    have e : j - ps.length = 0 := by
      cases hh : j - ps.length with
      | zero => rfl
      | succ n => rw [hh] at hj; simp at hj
    rw [e] at hj
    cases hj
    exact ⟨t, by rw [List.getElem?_append_right (by rw [h.1]; omega), h.1, e]; rfl, ht⟩
theorem Prd.tups {H H' : Hp} {ts : List V} {ps : List (V × V)} (h : Prd H ts ps) (k : ∀ t xs, H t = some (.tup xs) → H' t = some (.tup xs)) : Prd H' ts ps :=
  ⟨h.1, fun j s x hj => by obtain ⟨t, h1, h2⟩ := h.2 j s x hj; exact ⟨t, h1, k _ _ h2⟩⟩
/-- a lock taken off -/
theorem unlock {H G : Hp} {a : Addr} {od : Obj} {u : HO} (h : H a = some u) (s : Same (upd H a (.frz od u)) G) : Same H (upd G a u) := fun b o e => by
  by_cases z : b = a
  · subst z; rw [upd_same, ← e]; exact h.symm
  · rw [upd_ne z]; exact s b o (by rw [upd_ne z]; exact e)
theorem fresh_lock {H : Hp} {a b : Addr} {o : HO} (h : upd H a o b = none) : b ≠ a ∧ H b = none := by
  by_cases z : b = a
  · subst z; rw [upd_same] at h; cases h
  · rw [upd_ne z] at h; exact ⟨z, h⟩
theorem idx_get {xs : List V} {j : Nat} {s x : V} (h : (idx xs)[j]? = some (s, x)) : s = .int (j : Nat) ∧ xs[j]? = some x := by
  unfold idx at h
  by_cases lt : j < xs.length
  · simp [lt] at h
    exact ⟨h.1.symm, by simp [lt, ← h.2]⟩
  · simp [lt] at h
theorem idx_len (xs : List V) : (idx xs).length = xs.length := by simp [idx]
section
variable {g : Wd} {f : Addr} {fd : FuncData}
/-- the dict's way -/
theorem dict_pairs {H : Hp} {Q : VK} {a : Addr} {kvs : List (Key × V)} (h : H a = some (.dK kvs)) (nd : (kvs.map (·.1)).Nodup) (hz : kvs.length ≤ sizeLine) (od : Obj)
    (q : ∀ p ts H', Same H H' → H p = none → H' p = some (.lst ts) → Prd H' ts (prs H (.ref a)) → Q (.ref p) H') :
    LcB (Itk a od kvs) (gName 1) tYes (tTup (tCons (tVar 1) (tCons (tDGet (tVar 0) (tVar 1)) tNil))) [1] [some (.ref a), none] (upd H a (.frz od (.dK kvs))) fun v H' => H' a = some (.frz od (.dK kvs)) ∧ Q v (upd H' a (.dK kvs)) := by
  refine lc_invA kvs.length (fun D i acc G => Same (upd H a (.frz od (.dK kvs))) G ∧ Prd G acc ((kvs.map fun kv => (kV kv.1, kv.2)).take i)) hz (fun D hD => ⟨same_upd hD, rfl, by simp⟩) (fun D i acc G hD lt ⟨s, _⟩ => ⟨s _ _ upd_same, lt⟩) (fun D acc G hD ⟨s, _⟩ => ⟨s _ _ upd_same, Nat.le_refl _⟩) (fun D i acc G x G' K hD lt la ⟨s, pr⟩ eD yl k => ?_) (fun D acc G hD ⟨s, pr⟩ eD => ?_)
  · obtain ⟨rfl, k0, v0, hk, rfl⟩ := yl
    have ea : G' a = some (.frz od (.dK kvs)) := s _ _ upd_same
    refine ⟨rfl, ?_⟩
    walk_at "sx"
    refine ⟨v0, .inl ⟨kvs, k0, .inr ⟨od, ea⟩, rfl, (valV_at nd hk).symm⟩, fun t ht => ?_⟩
    have st := same_upd (o := HO.tup [kV k0, v0]) ht
    have Dt : t ≠ D := fun e => by rw [e, eD] at ht; cases ht
    refine k _ _ (st _ _ eD) ⟨fun b o e => ?_, ?_⟩
    · have bD : b ≠ D := fun z => by rw [z, hD] at e; cases e
      rw [upd_ne bD]
      exact st _ _ (s _ _ e)
    · have e1 : (kvs.map fun kv => (kV kv.1, kv.2)).take (i + 1) = (kvs.map fun kv => (kV kv.1, kv.2)).take i ++ [(kV k0, v0)] := by
        rw [List.take_add_one]
        simp [hk]
      rw [e1]
      exact (Prd.snoc pr st upd_same).tups fun t' xs z => by
        have n : t' ≠ D := fun e => by rw [e, st _ _ eD] at z; cases z
        rw [upd_ne n]; exact z
  · have Da := fresh_lock hD
    refine ⟨s _ _ upd_same, q D acc _ (unlock h s) Da.2 (by rw [upd_ne Da.1]; exact eD) ?_⟩
    have e1 : (kvs.map fun kv => (kV kv.1, kv.2)).take kvs.length = prs H (.ref a) := by
      simp only [prs, h]
      exact List.take_of_length_le (by simp)
    rw [← e1]
    exact pr.tups fun t xs z => by
      have ta : t ≠ a := fun e => by rw [e, s _ _ upd_same] at z; cases z
      rw [upd_ne ta]; exact z
theorem sc_items_of : FnScope ["value", "key"] ["value"] (defScope s_items_of) := ⟨rfl, rfl, rfl, by decide +kernel, rfl, by decide +kernel, by decide +kernel⟩
def sp_items : Sp := S1 fun v H Q _ => ∃ d fp, Tr H v d fp ∧ okB d = true ∧ ∀ p ts H', Same H H' → H p = none → H' p = some (.lst ts) → Prd H' ts (prs H v) → Q (.ref p) H'
theorem ok_items (F : Df g.K "items_of" "items_of" s_items_of f fd .none) (T : Txt g) : FnG g 1 f fd ["value"] sp_items := by
  refine F.ok sc_items_of (fun vs H Q E h => S1.len h) (fun cdv A outer s H vs Q E hr h => ?_)
  obtain ⟨v, rfl, d, fp, hv, hok, q⟩ := h
  refine ⟨_, (pss_cons (ps_if (pt_val (pe_callB (c_is "dict") (by rfl) T.b_isinstance bb_isinstance (pa_cons (pv 0) (pa_cons (pe_bltn (v := .ty "dict") rfl T.b_dict bb_dict rfl) pa_nil)))) (pss_one (ps_ret (pe_lock (pe_lc (own := [("key", 1)]) (tt := tYes) rfl sc_items_of.nd (pi_keys (pv 0)) (blkOk_by (own := [("key", 1)]) (N := ["value", "key"]) (sc := defScope s_items_of) (by decide +kernel)) (fun _ _ _ _ _ => (pg_name (i := 1) sc_items_of.nd rfl (.inl rfl))) (fun _ _ _ _ _ => pts_nil) (fun _ _ _ _ _ => (pe_tup (pa_cons (pv 1) (pa_cons (pe_dget (hu_of (Rm.mk hr.room hr.gd).room) (pv 0) (pv 1) (fun _ _ => rfl)) pa_nil)))))))) pss_nil)
      (pss_one (ps_ret (pe_ifExp (pt_val (pe_callB (c_isT ["list", "tuple"]) (by rfl) T.b_isinstance bb_isinstance (pa_cons (pv 0) (pa_cons (pe_tup (pa_cons (pe_bltn (v := .ty "list") rfl T.b_list bb_list rfl) (pa_cons (pe_bltn (v := .ty "tuple") rfl T.b_tuple bb_tuple rfl) pa_nil))) pa_nil)))) (pe_listEnum (K := g.K) T.b_list T.b_enumerate (pa_cons (pv 0) pa_nil)) (pe_lst pa_nil))))), ?_⟩
  walk_at "sx"
  refine ⟨_, hv.ty, ?_⟩
  cases hv with
  | @dct a kvs D fp h hs na nd =>
    rw [if_pos (by simp [kindN])]
    exact ⟨a, _, h, True.intro, fun od => ⟨a, rfl, od, .inl ⟨kvs, upd_same, dict_pairs h nd (by simp only [okB, Bool.and_eq_true, decide_eq_true_eq] at hok; rw [hs.len, sizeLine_eq]; omega) od q⟩⟩⟩
  | @lst a xs ds fp h hs na =>
    rw [if_neg (by simp [kindN])]
    intro p hp
    refine isT_new (Ts := ["list", "tuple"]) (tyN_l h) hp ⟨_, rfl, ?_⟩
    rw [if_pos (by decide)]
    have sp := same_upd (o := HO.tup (["list", "tuple"].map V.ty)) hp
    refine ⟨a, rfl, xs, .inl (SqL.of (sp _ _ h)), fun p2 ts H' s2 n2 e2 l2 k2 => q p2 _ H' (sp.trans s2) (fresh_lock n2).2 e2 ⟨by rw [List.length_map, l2]; simp [prs, h, idx_len], fun j s' x hj => ?_⟩⟩
    have hj' : (idx xs)[j]? = some (s', x) := by simpa [prs, h] using hj
    obtain ⟨rfl, hx⟩ := idx_get hj'
    obtain ⟨t, t1, _, t3⟩ := k2 j x hx
    exact ⟨t, by simp [t1], t3⟩
  | @tup a xs ds fp h hs =>
    rw [if_neg (by simp [kindN])]
    intro p hp
    refine isT_new (Ts := ["list", "tuple"]) (tyN_t h) hp ⟨_, rfl, ?_⟩
    rw [if_pos (by decide)]
    have sp := same_upd (o := HO.tup (["list", "tuple"].map V.ty)) hp
    refine ⟨a, rfl, xs, .inr (SqT.of (sp _ _ h)), fun p2 ts H' s2 n2 e2 l2 k2 => q p2 _ H' (sp.trans s2) (fresh_lock n2).2 e2 ⟨by rw [List.length_map, l2]; simp [prs, h, idx_len], fun j s' x hj => ?_⟩⟩
    have hj' : (idx xs)[j]? = some (s', x) := by simpa [prs, h] using hj
    obtain ⟨rfl, hx⟩ := idx_get hj'
    obtain ⟨t, t1, _, t3⟩ := k2 j x hx
    exact ⟨t, by simp [t1], t3⟩
  | _ =>
    rw [if_neg (by simp [kindN])]
    intro p hp
    refine isT_new (Ts := ["list", "tuple"]) rfl hp ⟨_, rfl, ?_⟩
    rw [if_neg (by decide)]
    exact fun p2 n2 => q p2 _ _ (same_new (same_upd hp) n2) (fresh_lock n2).2 upd_same ⟨rfl, fun j s' x hj => by simp [prs] at hj⟩
end
theorem len_100 {i : Int} (h : i.natAbs < 10 ^ 100) : i.natAbs.log2 < 1920 ∧ (Str.ofString (toString ((i.natAbs : Nat) : Int))).length ≤ 100 := by
  refine ⟨?_, ?_⟩
  · have h2 : i.natAbs < 2 ^ 1920 := Nat.lt_of_lt_of_le h (by decide +kernel)
    by_cases z : i.natAbs = 0
    · rw [z]; decide
    · exact (Nat.log2_lt z).mpr h2
  · rw [ofString_length]
    exact (Nat.length_repr_le_iff (by decide)).mpr h
section
variable {g : Wd} {f : Addr} {fd : FuncData}
theorem sc_is_wrong_part : FnScope ["value", "depth", "key"] ["value", "depth"] (defScope s_is_wrong_part) := ⟨rfl, rfl, rfl, by decide +kernel, rfl, by decide +kernel, by decide +kernel⟩
def sp_wrong : Sp := S2 fun v k H Q _ => ∃ d fp n, Tr H v d fp ∧ okB d = true ∧ k = .int n ∧ (0 < d.depth → n < 20) ∧ ∀ H', Same H H' → Q (.bl false) H'
theorem ok_wrong (F : Df g.K "is_wrong_part" "is_wrong_part" s_is_wrong_part f fd .none) (T : Txt g) : FnG g 1 f fd ["value", "depth"] sp_wrong := by
  refine F.ok sc_is_wrong_part (fun vs H Q E h => S2.len h) (fun cdv A outer s H vs Q E hr h => ?_)
  obtain ⟨v, _, rfl, d, fp, n, hv, hok, rfl, hn, q⟩ := h
  refine ⟨_, (pss_cons (ps_if (PW.pt (pw_or (pt_cmpR op_isN (pv 0) pe_non (nomark _)) (pw_or1 (pt_val (pe_callB (c_is "bool") (by rfl) T.b_isinstance bb_isinstance (pa_cons (pv 0) (pa_cons (pe_bltn (v := .ty "bool") rfl T.b_bool bb_bool rfl) pa_nil))))))) (pss_one (ps_ret pe_bl)) pss_nil)
      (pss_cons (ps_if (pt_val (pe_callB (c_is "int") (by rfl) T.b_isinstance bb_isinstance (pa_cons (pv 0) (pa_cons (pe_bltn (v := .ty "int") rfl T.b_int bb_int rfl) pa_nil)))) (pss_one (ps_ret (pe_cmpR op_gt (pe_callB (c_len (K := g.K)) (by rfl) T.b_len bb_len (pa_cons (pe_callTy call_str_int (by rfl) T.b_str bb_str (pa_cons (pe_callB call_abs (by rfl) T.b_abs bb_abs (pa_cons (pv 0) pa_nil)) pa_nil)) pa_nil)) (e_g T.c_MOST_DIGITS) (nomark _)))) pss_nil)
      (pss_cons (ps_if (pt_val (pe_callB (c_is "str") (by rfl) T.b_isinstance bb_isinstance (pa_cons (pv 0) (pa_cons (pe_bltn (v := .ty "str") rfl T.b_str bb_str rfl) pa_nil)))) (pss_one (ps_ret (pe_cmpR op_gt (pe_callB (c_len (K := g.K)) (by rfl) T.b_len bb_len (pa_cons (pv 0) pa_nil)) (e_g T.c_MOST_ITEMS) (nomark _)))) pss_nil)
      (pss_cons (ps_if (PW.pt (pw_or (pt_not (pt_val (pe_callB (c_isT ["list", "tuple", "dict"]) (by rfl) T.b_isinstance bb_isinstance (pa_cons (pv 0) (pa_cons (pe_tup (pa_cons (pe_bltn (v := .ty "list") rfl T.b_list bb_list rfl) (pa_cons (pe_bltn (v := .ty "tuple") rfl T.b_tuple bb_tuple rfl) (pa_cons (pe_bltn (v := .ty "dict") rfl T.b_dict bb_dict rfl) pa_nil)))) pa_nil))))) (pw_or (pt_cmpR op_ge (pv 1) (e_g T.c_MOST_LEVELS) (nomark _)) (pw_or1 (pt_cmpR op_gt (pe_callB (c_len (K := g.K)) (by rfl) T.b_len bb_len (pa_cons (pv 0) pa_nil)) (e_g T.c_MOST_ITEMS) (nomark _)))))) (pss_one (ps_ret pe_bl)) pss_nil)
      (pss_one (ps_ret (pe_and (pe_callB (c_is "dict") (by rfl) T.b_isinstance bb_isinstance (pa_cons (pv 0) (pa_cons (pe_bltn (v := .ty "dict") rfl T.b_dict bb_dict rfl) pa_nil))) (pe_one (pe_not (pe_callB (c_all (K := g.K)) (by rfl) T.b_all bb_all (pa_cons (pe_lock (pe_lc (own := [("key", 2)]) (tt := tYes) rfl sc_is_wrong_part.nd (pi_keys (pv 0)) (blkOk_by (own := [("key", 2)]) (N := ["value", "depth", "key"]) (sc := defScope s_is_wrong_part) (by decide +kernel)) (fun _ _ _ _ _ => (pg_name (i := 2) sc_is_wrong_part.nd rfl (.inl rfl))) (fun _ _ _ _ _ => pts_nil) (fun _ _ _ _ _ => (pe_and (pe_callB (c_is "str") (by rfl) T.b_isinstance bb_isinstance (pa_cons (pv 2) (pa_cons (pe_bltn (v := .ty "str") rfl T.b_str bb_str rfl) pa_nil))) (pe_one (pe_cmpR op_le (pe_callB (c_len (K := g.K)) (by rfl) T.b_len bb_len (pa_cons (pv 2) pa_nil)) (e_g T.c_MOST_ITEMS) (nomark _))))))) pa_nil))))))))))), ?_⟩
  cases hv with
  | non =>
    walk_at "sx"
    exact q _ (Same.refl _)
  | bl b =>
    walk_at "sx"
    exact q _ (Same.refl _)
  | int i =>
    walk_at "sx"
    have hi : i.natAbs < 10 ^ 100 := by simpa [okB] using hok
    have ea : ((if i < 0 then -i else i : Int)) = ((i.natAbs : Nat) : Int) := by split <;> omega
    rw [ea]
    obtain ⟨l1, l2⟩ := len_100 hi
    refine ⟨?_, by omega, ?_⟩
    · rw [Int.natAbs_natCast]
      exact l1
    · rw [decide_eq_false (by omega)]
      exact q _ (Same.refl _)
  | str x =>
    walk_at "sx"
    have hx : x.length ≤ 10000 := by simpa [okB] using hok
    refine ⟨by omega, ?_⟩
    rw [decide_eq_false (by omega)]
    exact q _ (Same.refl _)
  | @lst a xs ds fp h hs na =>
    simp only [tyN_l h, tRet, tRetN, tSeq, C8.tCut, tNext, tAsg, gName, gNil, gCons, gTup, gFld, tIfS, tIf, tAndV, tOrV, tNotV, tAnd, tOr, tNot, tB, tTest, tOp, tUn, tCB, tCons, tNil, tVar, tC, tChain, tDrop, RS.tCallG, RS.tMethG, tMakeG, RS.tCallK, RS.tMakeK, tEqOwn, rI, rI0, rU, add_ii, add_ss, add_rr, mul_ii, mul_si, mul_ri, RS.eq_ii, RS.eq_ss, eq_bb, eq_nn, eq_sn, eq_ns, eq_in, eq_ni, eq_bn, eq_nb, eq_is, eq_si, eq_rr, ne_ii, ne_ss, ne_bb, ne_nn, ne_sn, ne_ns, ne_in, ne_ni, ne_is, ne_si, ne_rr, in_ss, in_r, nin_ss, nin_r, len_s, len_r, RS.ix_s, RS.ix_r, sl_s, sl_r, is_eq, tyN_n, tyN_b, tyN_i, tyN_s, tru_b, tru_i, tru_n, tSl, tPart, tNoPart, tPar, tPar3, tFmtZ, tFmt, tJs, tDGet, sDPut, sFld, tFld, tTup, tLst, tNever, isB,
  L2.start, List.map_cons, List.map_nil, List.length_cons, List.length_nil, Nat.reduceAdd, Nat.reduceSub, Nat.sub_self, List.replicate_zero, List.replicate_succ, List.append_nil, List.cons_append, List.nil_append, List.getElem?_cons_zero, List.getElem?_cons_succ, List.set_cons_zero, List.set_cons_succ, Option.some.injEq, exists_eq_left, exists_eq_left', exists_and_left, V.bl.injEq, V.int.injEq, V.str.injEq, V.ref.injEq, beq_self_eq_true, Bool.true_or, Bool.or_true, Bool.false_or, Bool.or_false, Bool.and_false, Bool.false_and, Bool.true_and, Bool.and_true, Bool.not_true, Bool.not_false, Bool.false_eq_true, if_true, if_false, ite_true, ite_false, true_and, and_true, and_assoc, String.reduceBEq, String.reduceEq, reduceIte, Bool.and_self, reduceCtorEq, false_and, and_false, exists_false, or_false, false_or, exists_const, iEnumS, iStr, iList, iTup, iRng1, iEnum, tFor_eq, tLc_eq, List.cons.injEq, wipe, not_true_eq_false, not_false_eq_true, upd_same, HO.ins.injEq, HO.tup.injEq, HO.lst.injEq, ofS_eq, lk_nil, lk_cons, pu_nil, pu_cons, sizeLine_eq, Nat.reduceLT, Nat.reduceLeDiff, Nat.reduceEqDiff, Nat.le_refl, decide_true, decide_false, tPr, dget_us, dput_us, vv_nil, vv_cons, RS.pk_nil, pk_one, RS.pk_cons, inr_eq, tDisp, tPairs, tBoolOwn, rBoolOwn, tBM, rAppend, ty_list, ty_str, rEqOwn, iEnumT, RS.tCallS, tM1, tDc_eq, tLock, tLockE, iKeys, tListEnum, rUpdate, tMkX0, tMkX1, tXfv, gSub, rSetL, List.getD_cons_zero, List.getD_cons_succ, tBreak, tCMethS, ClX.tCVal, tXfa, tIxOwn, tInOwn, tPropG, tMethK, tMethP, tListGen, tDGet2, tDPop2, rNeD0, intA_i, intA_b, tRevL, sFldAug, tPm0, tPm1, tDIn, tDNotIn, tDNewK, RS.tMethS, tForK, tKM, tKC, tLcK, tKM2, tKC2, tMethStar, tKCK2, tLk, tAug, ipI, tDig, tLcX, tKMX, tKCX]
    intro p hp
    have hl : xs.length ≤ 10000 := by rw [hs.len]; simp only [okB, Bool.and_eq_true, decide_eq_true_eq] at hok; exact hok.1
    have hn := hn (by simp [PyData.depth])
    have sp := same_upd (o := HO.tup (["list", "tuple", "dict"].map V.ty)) hp
    refine isT_new (Ts := ["list", "tuple", "dict"]) (tyN_l h) hp ⟨_, rfl, ?_⟩
    rw [if_neg (by decide), if_neg (by simp; omega)]
    refine .inl ⟨xs, .inl (SqL.of (sp _ _ h)), ?_⟩
    rw [if_neg (by simp; omega)]
    refine ⟨_, tyN_l (sp _ _ h), ?_⟩
    rw [if_neg (by decide)]
    exact q _ sp
  | @tup a xs ds fp h hs =>
    simp only [tyN_t h, tRet, tRetN, tSeq, C8.tCut, tNext, tAsg, gName, gNil, gCons, gTup, gFld, tIfS, tIf, tAndV, tOrV, tNotV, tAnd, tOr, tNot, tB, tTest, tOp, tUn, tCB, tCons, tNil, tVar, tC, tChain, tDrop, RS.tCallG, RS.tMethG, tMakeG, RS.tCallK, RS.tMakeK, tEqOwn, rI, rI0, rU, add_ii, add_ss, add_rr, mul_ii, mul_si, mul_ri, RS.eq_ii, RS.eq_ss, eq_bb, eq_nn, eq_sn, eq_ns, eq_in, eq_ni, eq_bn, eq_nb, eq_is, eq_si, eq_rr, ne_ii, ne_ss, ne_bb, ne_nn, ne_sn, ne_ns, ne_in, ne_ni, ne_is, ne_si, ne_rr, in_ss, in_r, nin_ss, nin_r, len_s, len_r, RS.ix_s, RS.ix_r, sl_s, sl_r, is_eq, tyN_n, tyN_b, tyN_i, tyN_s, tru_b, tru_i, tru_n, tSl, tPart, tNoPart, tPar, tPar3, tFmtZ, tFmt, tJs, tDGet, sDPut, sFld, tFld, tTup, tLst, tNever, isB,
  L2.start, List.map_cons, List.map_nil, List.length_cons, List.length_nil, Nat.reduceAdd, Nat.reduceSub, Nat.sub_self, List.replicate_zero, List.replicate_succ, List.append_nil, List.cons_append, List.nil_append, List.getElem?_cons_zero, List.getElem?_cons_succ, List.set_cons_zero, List.set_cons_succ, Option.some.injEq, exists_eq_left, exists_eq_left', exists_and_left, V.bl.injEq, V.int.injEq, V.str.injEq, V.ref.injEq, beq_self_eq_true, Bool.true_or, Bool.or_true, Bool.false_or, Bool.or_false, Bool.and_false, Bool.false_and, Bool.true_and, Bool.and_true, Bool.not_true, Bool.not_false, Bool.false_eq_true, if_true, if_false, ite_true, ite_false, true_and, and_true, and_assoc, String.reduceBEq, String.reduceEq, reduceIte, Bool.and_self, reduceCtorEq, false_and, and_false, exists_false, or_false, false_or, exists_const, iEnumS, iStr, iList, iTup, iRng1, iEnum, tFor_eq, tLc_eq, List.cons.injEq, wipe, not_true_eq_false, not_false_eq_true, upd_same, HO.ins.injEq, HO.tup.injEq, HO.lst.injEq, ofS_eq, lk_nil, lk_cons, pu_nil, pu_cons, sizeLine_eq, Nat.reduceLT, Nat.reduceLeDiff, Nat.reduceEqDiff, Nat.le_refl, decide_true, decide_false, tPr, dget_us, dput_us, vv_nil, vv_cons, RS.pk_nil, pk_one, RS.pk_cons, inr_eq, tDisp, tPairs, tBoolOwn, rBoolOwn, tBM, rAppend, ty_list, ty_str, rEqOwn, iEnumT, RS.tCallS, tM1, tDc_eq, tLock, tLockE, iKeys, tListEnum, rUpdate, tMkX0, tMkX1, tXfv, gSub, rSetL, List.getD_cons_zero, List.getD_cons_succ, tBreak, tCMethS, ClX.tCVal, tXfa, tIxOwn, tInOwn, tPropG, tMethK, tMethP, tListGen, tDGet2, tDPop2, rNeD0, intA_i, intA_b, tRevL, sFldAug, tPm0, tPm1, tDIn, tDNotIn, tDNewK, RS.tMethS, tForK, tKM, tKC, tLcK, tKM2, tKC2, tMethStar, tKCK2, tLk, tAug, ipI, tDig, tLcX, tKMX, tKCX]
    intro p hp
    have hl : xs.length ≤ 10000 := by rw [hs.len]; simp only [okB, Bool.and_eq_true, decide_eq_true_eq] at hok; exact hok.1
    have hn := hn (by simp [PyData.depth])
    have sp := same_upd (o := HO.tup (["list", "tuple", "dict"].map V.ty)) hp
    refine isT_new (Ts := ["list", "tuple", "dict"]) (tyN_t h) hp ⟨_, rfl, ?_⟩
    rw [if_neg (by decide), if_neg (by simp; omega)]
    refine .inl ⟨xs, .inr (SqT.of (sp _ _ h)), ?_⟩
    rw [if_neg (by simp; omega)]
    refine ⟨_, tyN_t (sp _ _ h), ?_⟩
    rw [if_neg (by decide)]
    exact q _ sp
  | @dct a kvs D fp h hs na nd =>
    simp only [tyN_d h, tRet, tRetN, tSeq, C8.tCut, tNext, tAsg, gName, gNil, gCons, gTup, gFld, tIfS, tIf, tAndV, tOrV, tNotV, tAnd, tOr, tNot, tB, tTest, tOp, tUn, tCB, tCons, tNil, tVar, tC, tChain, tDrop, RS.tCallG, RS.tMethG, tMakeG, RS.tCallK, RS.tMakeK, tEqOwn, rI, rI0, rU, add_ii, add_ss, add_rr, mul_ii, mul_si, mul_ri, RS.eq_ii, RS.eq_ss, eq_bb, eq_nn, eq_sn, eq_ns, eq_in, eq_ni, eq_bn, eq_nb, eq_is, eq_si, eq_rr, ne_ii, ne_ss, ne_bb, ne_nn, ne_sn, ne_ns, ne_in, ne_ni, ne_is, ne_si, ne_rr, in_ss, in_r, nin_ss, nin_r, len_s, len_r, RS.ix_s, RS.ix_r, sl_s, sl_r, is_eq, tyN_n, tyN_b, tyN_i, tyN_s, tru_b, tru_i, tru_n, tSl, tPart, tNoPart, tPar, tPar3, tFmtZ, tFmt, tJs, tDGet, sDPut, sFld, tFld, tTup, tLst, tNever, isB,
  L2.start, List.map_cons, List.map_nil, List.length_cons, List.length_nil, Nat.reduceAdd, Nat.reduceSub, Nat.sub_self, List.replicate_zero, List.replicate_succ, List.append_nil, List.cons_append, List.nil_append, List.getElem?_cons_zero, List.getElem?_cons_succ, List.set_cons_zero, List.set_cons_succ, Option.some.injEq, exists_eq_left, exists_eq_left', exists_and_left, V.bl.injEq, V.int.injEq, V.str.injEq, V.ref.injEq, beq_self_eq_true, Bool.true_or, Bool.or_true, Bool.false_or, Bool.or_false, Bool.and_false, Bool.false_and, Bool.true_and, Bool.and_true, Bool.not_true, Bool.not_false, Bool.false_eq_true, if_true, if_false, ite_true, ite_false, true_and, and_true, and_assoc, String.reduceBEq, String.reduceEq, reduceIte, Bool.and_self, reduceCtorEq, false_and, and_false, exists_false, or_false, false_or, exists_const, iEnumS, iStr, iList, iTup, iRng1, iEnum, tFor_eq, tLc_eq, List.cons.injEq, wipe, not_true_eq_false, not_false_eq_true, upd_same, HO.ins.injEq, HO.tup.injEq, HO.lst.injEq, ofS_eq, lk_nil, lk_cons, pu_nil, pu_cons, sizeLine_eq, Nat.reduceLT, Nat.reduceLeDiff, Nat.reduceEqDiff, Nat.le_refl, decide_true, decide_false, tPr, dget_us, dput_us, vv_nil, vv_cons, RS.pk_nil, pk_one, RS.pk_cons, inr_eq, tDisp, tPairs, tBoolOwn, rBoolOwn, tBM, rAppend, ty_list, ty_str, rEqOwn, iEnumT, RS.tCallS, tM1, tDc_eq, tLock, tLockE, iKeys, tListEnum, rUpdate, tMkX0, tMkX1, tXfv, gSub, rSetL, List.getD_cons_zero, List.getD_cons_succ, tBreak, tCMethS, ClX.tCVal, tXfa, tIxOwn, tInOwn, tPropG, tMethK, tMethP, tListGen, tDGet2, tDPop2, rNeD0, intA_i, intA_b, tRevL, sFldAug, tPm0, tPm1, tDIn, tDNotIn, tDNewK, RS.tMethS, tForK, tKM, tKC, tLcK, tKM2, tKC2, tMethStar, tKCK2, tLk, tAug, ipI, tDig, tLcX, tKMX, tKCX]
    intro p hp
    simp only [okB, Bool.and_eq_true, decide_eq_true_eq] at hok
    have hl : kvs.length ≤ 10000 := by rw [hs.len]; exact hok.1
    have hn := hn (by simp [PyData.depth])
    have sp := same_upd (o := HO.tup (["list", "tuple", "dict"].map V.ty)) hp
    refine isT_new (Ts := ["list", "tuple", "dict"]) (tyN_d h) hp ⟨_, rfl, ?_⟩
    rw [if_neg (by decide), if_neg (by simp; omega)]
    have h2 := sp _ _ h
    generalize upd H p (HO.tup (["list", "tuple", "dict"].map V.ty)) = G at sp h2 ⊢
    refine .inr ⟨kvs, h2, ?_⟩
    rw [if_neg (by simp; omega)]
    refine ⟨_, tyN_d h2, ?_⟩
    rw [if_pos (by decide)]
    refine ⟨a, _, h2, True.intro, fun od => ⟨od, .inl ⟨kvs, upd_same, ?_⟩⟩⟩
    refine lc_all kvs.length (fun _ => .bl true) (by rw [sizeLine_eq]; omega) (fun i G' lt s => ⟨s _ _ upd_same, lt⟩) (fun G' s => ⟨s _ _ upd_same, Nat.le_refl _⟩) (fun i G' x G'' K lt s yl k => ?_) (fun L G' hL s eL => ?_)
    · obtain ⟨rfl, k0, v0, hk, rfl⟩ := yl
      obtain ⟨x, v, d, f', e1, e2, _, _⟩ := hs.get lt
      rw [hk] at e1
      cases e1
      have hx : x.length ≤ 10000 := by simpa [okB] using (okKv_get hok.2 e2).1
      refine ⟨rfl, ?_⟩
      show _
      simp only [kV, tRet, tRetN, tSeq, C8.tCut, tNext, tAsg, gName, gNil, gCons, gTup, gFld, tIfS, tIf, tAndV, tOrV, tNotV, tAnd, tOr, tNot, tB, tTest, tOp, tUn, tCB, tCons, tNil, tVar, tC, tChain, tDrop, RS.tCallG, RS.tMethG, tMakeG, RS.tCallK, RS.tMakeK, tEqOwn, rI, rI0, rU, add_ii, add_ss, add_rr, mul_ii, mul_si, mul_ri, RS.eq_ii, RS.eq_ss, eq_bb, eq_nn, eq_sn, eq_ns, eq_in, eq_ni, eq_bn, eq_nb, eq_is, eq_si, eq_rr, ne_ii, ne_ss, ne_bb, ne_nn, ne_sn, ne_ns, ne_in, ne_ni, ne_is, ne_si, ne_rr, in_ss, in_r, nin_ss, nin_r, len_s, len_r, RS.ix_s, RS.ix_r, sl_s, sl_r, is_eq, tyN_n, tyN_b, tyN_i, tyN_s, tru_b, tru_i, tru_n, tSl, tPart, tNoPart, tPar, tPar3, tFmtZ, tFmt, tJs, tDGet, sDPut, sFld, tFld, tTup, tLst, tNever, isB,
  L2.start, List.map_cons, List.map_nil, List.length_cons, List.length_nil, Nat.reduceAdd, Nat.reduceSub, Nat.sub_self, List.replicate_zero, List.replicate_succ, List.append_nil, List.cons_append, List.nil_append, List.getElem?_cons_zero, List.getElem?_cons_succ, List.set_cons_zero, List.set_cons_succ, Option.some.injEq, exists_eq_left, exists_eq_left', exists_and_left, V.bl.injEq, V.int.injEq, V.str.injEq, V.ref.injEq, beq_self_eq_true, Bool.true_or, Bool.or_true, Bool.false_or, Bool.or_false, Bool.and_false, Bool.false_and, Bool.true_and, Bool.and_true, Bool.not_true, Bool.not_false, Bool.false_eq_true, if_true, if_false, ite_true, ite_false, true_and, and_true, and_assoc, String.reduceBEq, String.reduceEq, reduceIte, Bool.and_self, reduceCtorEq, false_and, and_false, exists_false, or_false, false_or, exists_const, iEnumS, iStr, iList, iTup, iRng1, iEnum, tFor_eq, tLc_eq, List.cons.injEq, wipe, not_true_eq_false, not_false_eq_true, upd_same, HO.ins.injEq, HO.tup.injEq, HO.lst.injEq, ofS_eq, lk_nil, lk_cons, pu_nil, pu_cons, sizeLine_eq, Nat.reduceLT, Nat.reduceLeDiff, Nat.reduceEqDiff, Nat.le_refl, decide_true, decide_false, tPr, dget_us, dput_us, vv_nil, vv_cons, RS.pk_nil, pk_one, RS.pk_cons, inr_eq, tDisp, tPairs, tBoolOwn, rBoolOwn, tBM, rAppend, ty_list, ty_str, rEqOwn, iEnumT, RS.tCallS, tM1, tDc_eq, tLock, tLockE, iKeys, tListEnum, rUpdate, tMkX0, tMkX1, tXfv, gSub, rSetL, List.getD_cons_zero, List.getD_cons_succ, tBreak, tCMethS, ClX.tCVal, tXfa, tIxOwn, tInOwn, tPropG, tMethK, tMethP, tListGen, tDGet2, tDPop2, rNeD0, intA_i, intA_b, tRevL, sFldAug, tPm0, tPm1, tDIn, tDNotIn, tDNewK, RS.tMethS, tForK, tKM, tKC, tLcK, tKM2, tKC2, tMethStar, tKCK2, tLk, tAug, ipI, tDig, tLcX, tKMX, tKCX]
      refine ⟨by omega, ?_⟩
      rw [decide_eq_true (by omega)]
      exact k _ (Same.refl _)
    · refine ⟨s _ _ upd_same, L, List.replicate kvs.length true, rfl, SqL.of ?_, ?_⟩
      · rw [upd_ne (fresh_lock hL).1, eL]
        congr 2
        rw [List.map_replicate]
        exact List.ext_getElem (by simp) (by simp)
      · walk_at "sx"
        have e : (List.replicate kvs.length true).all id = true := by simp [List.all_eq_true]
        rw [e]
        exact q _ (sp.trans (unlock h2 s))
end
theorem fnG_void {g : Wd} {k : Nat} {f : Addr} {fd : FuncData} {ps : List Str} {sp : Sp} (h : ∀ vs H Q E, ¬ sp vs H Q E) : FnG g k f fd ps sp :=
  ⟨fun vs H Q E z => (h vs H Q E z).elim, fun A outer s H args us vs Q E _ _ _ _ _ z => (h vs H Q E z).elim⟩
theorem kn_rec {g : Wd} {x : Str} {f : Addr} {fd : FuncData} {ps : List Str} {c : Nat} {sp : Nat → Sp} (m : g.mg x = some (.ref f)) (kp : PySem.W.keepIn g.K (.ref f) = true) (b : Binds g.K fd ps []) (h0 : ∀ vs H Q E, ¬ sp 0 vs H Q E)
    (hs : ∀ n, Kn g x (n + c) ps [] (sp n) → FnG g (n + c + 1) f fd ps (sp (n + 1))) : ∀ n, Kn g x (n + c) ps [] (sp n)
  | 0 => ⟨f, fd, [], m, kp, fnG_void h0, b, .nil⟩
  | n + 1 => ⟨f, fd, [], m, kp, (hs n (kn_rec m kp b h0 hs n)).mono (by omega), b, .nil⟩
/-- an item's data -/
theorem prs_get {H : Hp} {v : V} {d : PyData} {fp : List Addr} (h : Tr H v d fp) (ok : okB d = true) {j : Nat} {s x : V} (e : (prs H v)[j]? = some (s, x)) : ∃ d' f', Tr H x d' f' ∧ okB d' = true ∧ d'.depth < d.depth ∧ ∀ c ∈ f', c ∈ fp := by
  cases h with
  | @lst a xs ds fp h hs na =>
    have e' : (idx xs)[j]? = some (s, x) := by simpa [prs, h] using e
    obtain ⟨rfl, hx⟩ := idx_get e'
    obtain ⟨v, d, f', e1, e2, t, sub⟩ := hs.get (List.getElem?_eq_some_iff.mp hx).1
    rw [hx] at e1
    cases e1
    simp only [okB, Bool.and_eq_true] at ok
    refine ⟨d, f', t, okAll_get ok.2 e2, ?_, fun c hc => List.mem_cons_of_mem _ (sub c hc)⟩
    have := depth_all e2
    simp only [PyData.depth]; omega
  | @tup a xs ds fp h hs =>
    have e' : (idx xs)[j]? = some (s, x) := by simpa [prs, h] using e
    obtain ⟨rfl, hx⟩ := idx_get e'
    obtain ⟨v, d, f', e1, e2, t, sub⟩ := hs.get (List.getElem?_eq_some_iff.mp hx).1
    rw [hx] at e1
    cases e1
    simp only [okB, Bool.and_eq_true] at ok
    refine ⟨d, f', t, okAll_get ok.2 e2, ?_, sub⟩
    have := depth_all e2
    simp only [PyData.depth]; omega
  | @dct a kvs D fp h hs na nd =>
    have e' : (kvs.map fun kv => (kV kv.1, kv.2))[j]? = some (s, x) := by simpa [prs, h] using e
    rw [List.getElem?_map] at e'
    cases hk : kvs[j]? with
    | none => rw [hk] at e'; cases e'
    | some kv =>
      rw [hk] at e'
      cases e'
      obtain ⟨y, v, d, f', e1, e2, t, sub⟩ := hs.get (List.getElem?_eq_some_iff.mp hk).1
      rw [hk] at e1
      cases e1
      simp only [okB, Bool.and_eq_true] at ok
      refine ⟨d, f', t, (okKv_get ok.2 e2).2, ?_, fun c hc => List.mem_cons_of_mem _ (sub c hc)⟩
      have := depth_kv e2
      simp only [PyData.depth]; omega
  | _ => simp [prs] at e
section
variable {g : Wd} {f : Addr} {fd : FuncData}
theorem sc_wrong_path : FnScope ["value", "path", "step", "item", "found"] ["value", "path"] (defScope s_wrong_path) := ⟨rfl, rfl, rfl, by decide +kernel, rfl, by decide +kernel, by decide +kernel⟩
def sp_path (n : Nat) : Sp := S2 fun v p H Q _ => ∃ d fp a ps, Tr H v d fp ∧ okB d = true ∧ p = .ref a ∧ H a = some (.tup ps) ∧ ps.length + d.depth ≤ 20 ∧ d.depth < n ∧ ∀ H', Same H H' → Q .non H'
theorem ok_path (n : Nat) (F : Df g.K "wrong_path" "wrong_path" s_wrong_path f fd .none) (T : Txt g) (F_is_wrong_part : Kn g "is_wrong_part" 1 ["value", "depth"] [] sp_wrong) (F_items_of : Kn g "items_of" 1 ["value"] [] sp_items) (F_wrong_path : Kn g "wrong_path" (n + 1) ["value", "path"] [] (sp_path n)) : FnG g (n + 2) f fd ["value", "path"] (sp_path (n + 1)) := by
  refine F.ok sc_wrong_path (fun vs H Q E h => S2.len h) (fun cdv A outer s H vs Q E hr h => ?_)
  obtain ⟨v, _, rfl, d, fp, a, ps, hv, hok, rfl, ha, hl, hn, q⟩ := h
  refine ⟨_, (pss_mid (ps_if (pt_val (pe_callG F_is_wrong_part (hr.mono (by first | decide | omega)) tkD (pa_cons (pv 0) (pa_cons (pe_callB (c_len (K := g.K)) (by rfl) T.b_len bb_len (pa_cons (pv 1) pa_nil)) pa_nil)))) (pss_one (ps_ret (pv 1))) pss_nil)
      (pss_cons (ps_for psD rfl (i_list (K := g.K) (pe_callG F_items_of (hr.mono (by first | decide | omega)) tkD (pa_cons (pv 0) pa_nil))) (g_tup (K := g.K) (n := 2) (pgs_cons (pg_name (i := 2) sc_wrong_path.nd rfl (.inl rfl)) (pgs_cons (pg_name (i := 3) sc_wrong_path.nd rfl (.inl rfl)) pgs_nil))) (pss_cons (ps_set (i := 4) sc_wrong_path.nd rfl (Or.inl rfl) (pe_callG F_wrong_path (hr.mono (by first | decide | omega)) tkD (pa_cons (pv 3) (pa_cons (pe_op (o_add (K := g.K)) (pv 1) (pe_tup (pa_cons (pv 2) pa_nil))) pa_nil))))
      (pss_one (ps_if (pt_cmpR op_notN (pv 4) pe_non (nomark _)) (pss_one (ps_ret (pv 4))) pss_nil))))
      (pss_one (ps_ret pe_non)))), ?_⟩
  refine mid_one [some v, some (.ref a), none, none, none] (fun H1 => Same H H1) ?_ fun H1 s1 => ?_
  · walk_at "sx"
    refine .inl ⟨ps, .inr (SqT.of ha), _, _, rfl, d, fp, _, hv, hok, rfl, fun z => by omega, fun H' s' => ?_⟩
    walk_at "sx"
    exact s'
  walk_at "sx"
  refine ⟨_, rfl, d, fp, hv.same s1, hok, fun L ts H2 s2 _ eL pr => ?_⟩
  walk_at "sx"
  refine ⟨⟨_, SqL.of eL⟩, ?_⟩
  have s12 := s1.trans s2
  refine for_by ts.length (fun i σ H' => (∃ v2 v3 v4, σ = [some v, some (.ref a), v2, v3, v4]) ∧ Same H2 H') ⟨⟨_, _, _, rfl⟩, Same.refl _⟩ (fun i σ H3 lt P => ⟨_, ts[i], SqL.of (P.2 _ _ eL), List.getElem?_eq_getElem lt⟩) (fun σ H3 P => ⟨_, SqL.of (P.2 _ _ eL), Nat.le_refl _⟩) (fun i σ H3 x H4 lt P yl => ?_) (fun σ H3 P => ?_)
  · obtain ⟨⟨v2, v3, v4, rfl⟩, s3⟩ := P
    obtain ⟨rfl, hx⟩ := yl
    have hx := hx _ (SqL.of (s3 _ _ eL))
    have lp : i < (prs H1 v).length := by rw [← pr.1]; exact lt
    obtain ⟨st, it, hp⟩ : ∃ st it, (prs H1 v)[i]? = some (st, it) := ⟨_, _, List.getElem?_eq_getElem lp⟩
    obtain ⟨t, ht, et⟩ := pr.2 i st it hp
    rw [ht] at hx
    obtain rfl : V.ref t = x := Option.some.inj hx
    obtain ⟨d', f', hd', ok', dl, _⟩ := prs_get (hv.same s1) hok hp
    have et3 := s3 _ _ et
    walk_at "sx"
    refine ⟨_, SqT.of et3, rfl, ?_⟩
    walk_at "sx"
    intro u hu
    have su := same_upd (o := HO.tup [st]) hu
    have a3 := su _ _ (s3 _ _ (s12 _ _ ha))
    have s23 := s2.trans s3
    have go : ∀ (b : Addr) (G : Hp), Same (upd H4 u (HO.tup [st])) G → G b = some (.tup (ps ++ [st])) → sp_path n [it, .ref b] G (fun x H1 => if (!decide (x = V.non)) = true then Q x H1 else (∃ x_1, some x = x_1) ∧ Same H2 H1) fun c d H' => E c d H' := fun b G sG hb =>
      ⟨_, _, rfl, d', f', b, _, hd'.same ((s23.trans su).trans sG), ok', rfl, hb, by simp; omega, by omega, fun H5 s5 => by show (if _ then _ else _); rw [if_neg (by simp)]; exact ⟨⟨_, rfl⟩, ((s3.trans su).trans sG).trans s5⟩⟩
    refine .inr ⟨a, u, ps, [st], rfl, rfl, SqT.of a3, SqT.of upd_same, by rw [sizeLine_eq]; simp; omega, fun e => ?_, (fun _ e => nomatch e), fun _ _ b hb => ?_⟩
    · subst e
      have := go u _ (Same.refl _) upd_same
      simpa using this
    · have := go b _ (same_upd hb) upd_same
      simpa using this
  · obtain ⟨⟨v2, v3, v4, rfl⟩, s3⟩ := P
    walk_at "sx"
    exact q _ (s12.trans s3)
end
set_option maxHeartbeats 1000000
/-- the tables of the notation -/
structure TxN (g : Wd) (AE : Addr) : Prop extends Txt g where
  c_ESCAPES : Gv g "ESCAPES" (.ref AE)
  kE : ∃ es n, KDict g.K g.w AE es n
  e34 : KDct g.K g.w AE (S [34]) (.str (S [92, 34]))
  e92 : KDct g.K g.w AE (S [92]) (.str (S [92, 92]))
  e10 : KDct g.K g.w AE (S [10]) (.str (S [92, 110]))
  eN : ∀ c : Nat, PySem.W.nsIn g.K AE (S [c]) = some none ∨ c = 34 ∨ c = 92 ∨ c = 10
theorem join_flat (bs : List (List Nat)) : Txt.join (Str.ofString "") (bs.map S) = S bs.flatten := by
  rw [show (Str.ofString "") = S [] from by decide +kernel, SX.join_S]
  congr 1
  induction bs with
  | nil => rfl
  | cons b bs ih =>
    cases bs with
    | nil => simp [TL.joinL]
    | cons c cs => simp [TL.joinL] at ih ⊢; exact ih
theorem esc1_len (c : Nat) : (esc c).length ≤ 2 := by unfold esc; split <;> (try split) <;> (try split) <;> simp
theorem flat_esc_len : ∀ l : List Nat, (l.flatMap esc).length ≤ 2 * l.length
  | [] => by simp
  | c :: l => by
    have h1 := esc1_len c
    have h2 := flat_esc_len l
    simp only [List.flatMap_cons, List.length_append, List.length_cons]; omega
theorem sum_esc : ∀ l : List Nat, ((l.map fun c => S (esc c)).map (·.length)).sum = (l.flatMap esc).length
  | [] => by simp
  | c :: l => by
    have h := sum_esc l
    simp only [List.map_cons, List.sum_cons, List.flatMap_cons, List.length_append, S_len, h]
section
variable {g : Wd} {f : Addr} {fd : FuncData} {AE : Addr}
theorem sc_string_notation : FnScope ["text", "sign"] ["text"] (defScope s_string_notation) := ⟨rfl, rfl, rfl, by decide +kernel, rfl, by decide +kernel, by decide +kernel⟩
def sp_snote : Sp := S1 fun v H Q _ => ∃ x, v = .str x ∧ x.length ≤ 10000 ∧ ∀ H', Same H H' → Q (.str (sno x)) H'
theorem ok_snote (F : Df g.K "string_notation" "string_notation" s_string_notation f fd .none) (T : TxN g AE) : FnG g 1 f fd ["text"] sp_snote := by
  refine F.ok sc_string_notation (fun vs H Q E h => S1.len h) (fun cdv A outer s H vs Q E hr h => ?_)
  obtain ⟨_, rfl, x, rfl, hx, q⟩ := h
  obtain ⟨es, n, KE⟩ := T.kE
  refine ⟨_, (pss_one (ps_ret (pe_op (o_add (K := g.K)) (pe_op (o_add (K := g.K)) pe_str (pe_join pe_str (pe_lc (own := [("sign", 1)]) (tt := tYes) rfl sc_string_notation.nd (pi_str (pv 0)) (blkOk_by (own := [("sign", 1)]) (N := ["text", "sign"]) (sc := defScope s_string_notation) (by decide +kernel)) (fun _ _ _ _ _ => (pg_name (i := 1) sc_string_notation.nd rfl (.inl rfl))) (fun _ _ _ _ _ => pts_nil) (fun _ _ _ _ _ => (pe_ifExp (pt_cmpR (o_inN KE) (pv 1) (e_g T.c_ESCAPES) (by rfl)) (pe_ix (show IxR _ (rIxD g.K g.w) from ix_kdict) (e_g T.c_ESCAPES) (pv 1) (fun _ _ => rfl)) (pv 1)))))) pe_str))), ?_⟩
  walk_at "sx"
  refine ⟨⟨_, rfl⟩, ?_⟩
  have xl : x.cps.toList.length = x.length := by simp [Str.length]
  refine lc_all x.cps.toList.length (fun i => .str (S (esc (x.cps.toList[i]?.getD 0)))) (by rw [sizeLine_eq, xl]; omega) (fun i G lt s => by simpa [Its] using lt) (fun G s => by simp [Its]) (fun i G z G' K lt s yl k => ?_) (fun L G hL s eL => ?_)
  · obtain ⟨rfl, c, hc, rfl⟩ := yl
    have hc' : x.cps.toList[i]? = some c := by simpa using hc
    rw [hc'] at k
    walk_at "sx"
    show rInN g.K AE (.str (S [c])) (.ref AE) G' _
    by_cases c34 : c = 34
    · subst c34
      obtain ⟨es', n', u, l1, l2, l3, l4⟩ := T.e34
      exact ⟨_, _, rfl, rfl, l3, _, rfl, by rw [if_pos (by simp)]; exact ⟨_, _, _, rfl, rfl, T.e34, k _ (Same.refl _)⟩⟩
    by_cases c92 : c = 92
    · subst c92
      obtain ⟨es', n', u, l1, l2, l3, l4⟩ := T.e92
      exact ⟨_, _, rfl, rfl, l3, _, rfl, by rw [if_pos (by simp)]; exact ⟨_, _, _, rfl, rfl, T.e92, k _ (Same.refl _)⟩⟩
    by_cases c10 : c = 10
    · subst c10
      obtain ⟨es', n', u, l1, l2, l3, l4⟩ := T.e10
      exact ⟨_, _, rfl, rfl, l3, _, rfl, by rw [if_pos (by simp)]; exact ⟨_, _, _, rfl, rfl, T.e10, k _ (Same.refl _)⟩⟩
    have h := (T.eN c).resolve_right (by simp [c34, c92, c10])
    refine ⟨_, _, rfl, rfl, h, _, rfl, ?_⟩
    rw [if_neg (by simp)]
    have := k G' (Same.refl _)
    simp only [Option.getD_some, esc, if_neg c34, if_neg c92, if_neg c10] at this
    exact this
  · have em : (List.range x.cps.toList.length).map (fun i => V.str (S (esc (x.cps.toList[i]?.getD 0)))) = (x.cps.toList.map fun c => S (esc c)).map V.str := by
      refine List.ext_getElem (by simp) fun i h1 h2 => ?_
      simp at h1 h2
      simp [h1]
    rw [em] at eL
    have fl := flat_esc_len x.cps.toList
    rw [xl] at fl
    have jn : Txt.join (Str.ofString "") (x.cps.toList.map fun c => S (esc c)) = S (x.cps.toList.flatMap esc) := by
      have := join_flat (x.cps.toList.map esc)
      rw [List.map_map] at this
      rw [List.flatMap_def]
      exact this
    refine ⟨L, rfl, _, .inl (SqL.of eL), ?_⟩
    have e0 : (Str.ofString "").length = 0 := by decide +kernel
    rw [jn, sum_esc, e0, Nat.mul_zero]
    have e1 : (Str.ofString "\"").length = 1 := by decide +kernel
    simp only [Str.length_append, S_len, e1]
    refine ⟨by omega, by omega, by omega, ?_⟩
    have : Str.ofString "\"" ++ S (x.cps.toList.flatMap esc) ++ Str.ofString "\"" = sno x := by
      unfold sno
      rw [show Str.ofString "\"" = S [34] from by decide +kernel, S_cat, S_cat]
      rfl
    rw [this]
    exact q _ s
end
theorem esc_tab {K : PySem.W.Frag} {w : World} {A : Addr} {h1 h2 h3 : Int} {k1 k2 k3 u1 u2 u3 : Tok} {n : Nat} (lk : K.lookup A = some ⟨.type "dict", none, .dict #[⟨h1, .str "\"" k1, .str "\\\"" u1⟩, ⟨h2, .str "\\" k2, .str "\\\\" u2⟩, ⟨h3, .str "\n" k3, .str "\\n" u3⟩] n, #[]⟩)
    (e1 : h1 = PyData.keyHash w.params "\"") (e2 : h2 = PyData.keyHash w.params "\\") (e3 : h3 = PyData.keyHash w.params "\n") (lo : (A == sysModules) = false) :
    (∃ es n, KDict K w A es n) ∧ KDct K w A (S [34]) (.str (S [92, 34])) ∧ KDct K w A (S [92]) (.str (S [92, 92])) ∧ KDct K w A (S [10]) (.str (S [92, 110])) ∧ ∀ c : Nat, PySem.W.nsIn K A (S [c]) = some none ∨ c = 34 ∨ c = 92 ∨ c = 10 := by
  have kl : PySem.W.KeysLit w.params (#[⟨h1, .str "\"" k1, .str "\\\"" u1⟩, ⟨h2, .str "\\" k2, .str "\\\\" u2⟩, ⟨h3, .str "\n" k3, .str "\\n" u3⟩] : Array DictEntry).toList := ⟨⟨_, _, rfl, e1⟩, ⟨_, _, rfl, e2⟩, ⟨_, _, rfl, e3⟩, trivial⟩
  have s1 : ("\"" : Str) = S [34] := by decide +kernel
  have s2 : ("\\" : Str) = S [92] := by decide +kernel
  have s3 : ("\n" : Str) = S [10] := by decide +kernel
  have t1 : ("\\\"" : Str) = S [92, 34] := by decide +kernel
  have t2 : ("\\\\" : Str) = S [92, 92] := by decide +kernel
  have t3 : ("\\n" : Str) = S [92, 110] := by decide +kernel
  have ns : ∀ z : Str, PySem.W.nsIn K A z = if S [34] = z then some (some (.str (S [92, 34]) u1)) else if S [92] = z then some (some (.str (S [92, 92]) u2)) else if S [10] = z then some (some (.str (S [92, 110]) u3)) else some none := fun z => by
    unfold PySem.W.nsIn
    rw [lk, s1, s2, s3, t1, t2, t3]
    simp only [List.find?_cons, List.find?_nil, Value.isStr, List.any_cons, List.any_nil]
    have tt : ∀ a : Nat, S [a] = z → (S [a] == z) = true := fun a h => beq_iff_eq.mpr h
    have ff : ∀ a : Nat, ¬ S [a] = z → (S [a] == z) = false := fun a h => by
      cases e : (S [a] == z) with
      | false => rfl
      | true => exact absurd (beq_iff_eq.mp e) h
    by_cases c1 : S [34] = z
    · rw [if_pos c1, tt 34 c1]
    · rw [if_neg c1, ff 34 c1]
      by_cases c2 : S [92] = z
      · rw [if_pos c2, tt 92 c2]
      · rw [if_neg c2, ff 92 c2]
        by_cases c3 : S [10] = z
        · rw [if_pos c3, tt 10 c3]
        · rw [if_neg c3, ff 10 c3]
          rfl
  refine ⟨⟨_, _, lk, kl, lo⟩, ⟨_, _, _, lk, kl, by rw [ns, if_pos rfl], _, rfl⟩, ⟨_, _, _, lk, kl, by rw [ns, if_neg (by decide +kernel), if_pos rfl], _, rfl⟩, ⟨_, _, _, lk, kl, by rw [ns, if_neg (by decide +kernel), if_neg (by decide +kernel), if_pos rfl], _, rfl⟩, fun c => ?_⟩
  rw [ns]
  by_cases c1 : c = 34
  · exact .inr (.inl c1)
  by_cases c2 : c = 92
  · exact .inr (.inr (.inl c2))
  by_cases c3 : c = 10
  · exact .inr (.inr (.inr c3))
  have ne : ∀ a : Nat, c ≠ a → ¬ S [a] = S [c] := fun a n e => n (by simpa using (S_inj e).symm)
  rw [if_neg (ne 34 c1), if_neg (ne 92 c2), if_neg (ne 10 c3)]
  exact .inl rfl
theorem piled_le {ts : List Str} : piled ts ≤ (Str.join ", " ts).length + 2 := by
  by_cases e : ts = []
  · subst e; exact Nat.zero_le _
  · have h := join_length_add ts e
    omega
theorem piled_eq : ∀ ts : List Str, piled ts = (ts.map (·.length)).sum + ts.length * 2
  | [] => by simp [piled]
  | t :: ts => by
    have h := piled_eq ts
    simp only [piled, List.map_cons, List.sum_cons, List.length_cons] at h ⊢
    omega
theorem le_sum : ∀ {l : List Nat} {n : Nat}, n ∈ l → n ≤ l.sum
  | x :: l, n, h => by
    rcases List.mem_cons.mp h with rfl | h
    · simp
    · have := le_sum h
      simp only [List.sum_cons]; omega
theorem len_mem {ts : List Str} {t : Str} (h : t ∈ ts) : t.length ≤ (Str.join ", " ts).length := by
  have h1 := piled_le (ts := ts)
  rw [piled_eq] at h1
  have h2 : t.length ≤ (ts.map (·.length)).sum := le_sum (List.mem_map_of_mem h)
  have h3 : 1 ≤ ts.length := List.length_pos_of_mem h
  omega
theorem joinC (xs : List Str) : Txt.join (Str.ofString ", ") xs = Str.join ", " xs := StrLaws.glued_eq_join _ _
section
variable {g : Wd} {f : Addr} {fd : FuncData} {AE : Addr}
theorem sc_value_notation : FnScope ["value", "item", "key"] ["value"] (defScope s_value_notation) := ⟨rfl, rfl, rfl, by decide +kernel, rfl, by decide +kernel, by decide +kernel⟩
def sp_vnote (n : Nat) : Sp := S1 fun v H Q _ => ∃ d fp, Tr H v d fp ∧ okB d = true ∧ d.depth < n ∧ (note d).length ≤ 1000000 ∧ ∀ H', Same H H' → Q (.str (note d)) H'
/-- the lists' and tuples' way -/
theorem note_items {n : Nat} {H H1 : Hp} {Qf : VK} {J : It} {xs : List V} {ds : List PyData} {fp : List Addr} {σ : L2.St} {W : WX} (sl : Nat) (hw : ∀ x : V, wipe ((wipe σ [sl]).set sl (some x)) [sl] = wipe σ [sl]) (hv : ∀ x : V, ((wipe σ [sl]).set sl (some x))[sl]? = some (some x)) (sm : Same H H1) (hs : TrL H xs ds fp) (ok : okAll ds = true) (hl : ds.length ≤ 10000) (hd : PyData.depthAll ds < n) (hz : (Str.join ", " (noteAll ds)).length ≤ 1000000)
    (go : ∀ i G, i < xs.length → Same H1 G → J.go i G) (stop : ∀ G, Same H1 G → J.stop xs.length G) (yl : ∀ i G x G', i < xs.length → Same H1 G → J.yld i G x G' → G' = G ∧ xs[i]? = some x)
    (q : ∀ (L : Addr) (G : Hp), Same H1 G → G L = some (.lst ((noteAll ds).map V.str)) → Qf (.ref L) G) :
    LcB J (gName sl) tYes (RS.tCallG (sp_vnote n) [] W (tCons (tVar sl) tNil)) [sl] σ H1 Qf := by
  have ln := hs.len
  refine lc_all xs.length (fun i => .str (note (ds[i]?.getD .none))) (by rw [sizeLine_eq]; omega) go stop (fun i G x G' K lt s y k => ?_) (fun L G hL s eL => ?_)
  · obtain ⟨rfl, hx⟩ := yl i G x G' lt s y
    obtain ⟨v, d, f', e1, e2, t, _⟩ := hs.get lt
    rw [hx] at e1
    cases e1
    refine ⟨hw x, x, hv x, ?_⟩
    have b1 := depth_all e2
    have b2 : (note d).length ≤ (Str.join ", " (noteAll ds)).length := len_mem (by rw [noteAll_map]; exact List.mem_map_of_mem (List.mem_of_getElem? e2))
    refine ⟨_, rfl, d, f', t.same (sm.trans s), okAll_get ok e2, by omega, by omega, fun H' s' => ?_⟩
    have := k H' s'
    rw [e2] at this
    exact this
  · have e : (List.range xs.length).map (fun i => V.str (note (ds[i]?.getD .none))) = (noteAll ds).map V.str := by
      rw [ln, noteAll_map]
      refine List.ext_getElem (by simp) fun i h1 h2 => ?_
      simp at h1 h2
      simp [h1]
    exact q L G s (by rw [eL, e])
theorem ok_vnote (n : Nat) (F : Df g.K "value_notation" "value_notation" s_value_notation f fd .none) (T : Txt g) (F_string_notation : Kn g "string_notation" 1 ["text"] [] sp_snote) (F_value_notation : Kn g "value_notation" (n + 1) ["value"] [] (sp_vnote n)) : FnG g (n + 2) f fd ["value"] (sp_vnote (n + 1)) := by
  refine F.ok sc_value_notation (fun vs H Q E h => S1.len h) (fun cdv A outer s H vs Q E hr h => ?_)
  obtain ⟨v, rfl, d, fp, hv, hok, hn, hz, q⟩ := h
  refine ⟨_, (pss_cons (ps_if (pt_val (pe_callB (c_is "str") (by rfl) T.b_isinstance bb_isinstance (pa_cons (pv 0) (pa_cons (pe_bltn (v := .ty "str") rfl T.b_str bb_str rfl) pa_nil)))) (pss_one (ps_ret (pe_callG F_string_notation (hr.mono (by first | decide | omega)) tkD (pa_cons (pv 0) pa_nil)))) pss_nil)
      (pss_cons (ps_if (pt_val (pe_callB (c_is "list") (by rfl) T.b_isinstance bb_isinstance (pa_cons (pv 0) (pa_cons (pe_bltn (v := .ty "list") rfl T.b_list bb_list rfl) pa_nil)))) (pss_one (ps_ret (pe_op (o_add (K := g.K)) (pe_op (o_add (K := g.K)) pe_str (pe_join pe_str (pe_lc (own := [("item", 1)]) (tt := tYes) rfl sc_value_notation.nd (pi_or (i_list (K := g.K) (pv 0)) (i_tup (K := g.K) (pv 0))) (blkOk_by (own := [("item", 1)]) (N := ["value", "item", "key"]) (sc := defScope s_value_notation) (by decide +kernel)) (fun _ _ _ _ _ => (pg_name (i := 1) sc_value_notation.nd rfl (.inl rfl))) (fun _ _ _ _ _ => pts_nil) (fun _ _ _ _ _ => (pe_callG F_value_notation (Rm.mono (Rm.mk hr.room hr.gd) (by first | decide | omega)) L2.takes0 (pa_cons (pv 1) pa_nil)))))) pe_str))) pss_nil)
      (pss_cons (ps_if (pt_val (pe_callB (c_is "tuple") (by rfl) T.b_isinstance bb_isinstance (pa_cons (pv 0) (pa_cons (pe_bltn (v := .ty "tuple") rfl T.b_tuple bb_tuple rfl) pa_nil)))) (pss_one (ps_ret (pe_op (o_add (K := g.K)) (pe_op (o_add (K := g.K)) pe_str (pe_join pe_str (pe_lc (own := [("item", 1)]) (tt := tYes) rfl sc_value_notation.nd (pi_or (i_list (K := g.K) (pv 0)) (i_tup (K := g.K) (pv 0))) (blkOk_by (own := [("item", 1)]) (N := ["value", "item", "key"]) (sc := defScope s_value_notation) (by decide +kernel)) (fun _ _ _ _ _ => (pg_name (i := 1) sc_value_notation.nd rfl (.inl rfl))) (fun _ _ _ _ _ => pts_nil) (fun _ _ _ _ _ => (pe_callG F_value_notation (Rm.mono (Rm.mk hr.room hr.gd) (by first | decide | omega)) L2.takes0 (pa_cons (pv 1) pa_nil)))))) (pe_ifExp (pt_cmpR (o_eq (K := g.K) hr) (pe_callB (c_len (K := g.K)) (by rfl) T.b_len bb_len (pa_cons (pv 0) pa_nil)) pe_int (nomark _)) pe_str pe_str)))) pss_nil)
      (pss_cons (ps_if (pt_val (pe_callB (c_is "dict") (by rfl) T.b_isinstance bb_isinstance (pa_cons (pv 0) (pa_cons (pe_bltn (v := .ty "dict") rfl T.b_dict bb_dict rfl) pa_nil)))) (pss_one (ps_ret (pe_op (o_add (K := g.K)) (pe_op (o_add (K := g.K)) pe_str (pe_join pe_str (pe_lock (pe_lc (own := [("key", 2)]) (tt := tYes) rfl sc_value_notation.nd (pi_keys (pv 0)) (blkOk_by (own := [("key", 2)]) (N := ["value", "item", "key"]) (sc := defScope s_value_notation) (by decide +kernel)) (fun _ _ _ _ _ => (pg_name (i := 2) sc_value_notation.nd rfl (.inl rfl))) (fun _ _ _ _ _ => pts_nil) (fun _ _ _ _ _ => (pe_op (o_add (K := g.K)) (pe_op (o_add (K := g.K)) (pe_callG F_string_notation (Rm.mono (Rm.mk hr.room hr.gd) (by first | decide | omega)) L2.takes0 (pa_cons (pv 2) pa_nil)) pe_str) (pe_callG F_value_notation (Rm.mono (Rm.mk hr.room hr.gd) (by first | decide | omega)) L2.takes0 (pa_cons (pe_dget (hu_of (Rm.mk hr.room hr.gd).room) (pv 0) (pv 2) (fun _ _ => rfl)) pa_nil)))))))) pe_str))) pss_nil)
      (pss_one (ps_ret (pe_callTy c_strA (by rfl) T.b_str bb_str (pa_cons (pv 0) pa_nil)))))))), ?_⟩
  cases hv with
  | non =>
    walk_at "sx"
    have := q H (Same.refl _)
    simp only [note] at this
    exact .inr (.inl ⟨rfl, this⟩)
  | bl b =>
    walk_at "sx"
    have := q H (Same.refl _)
    simp only [note] at this
    exact .inr (.inr ⟨b, rfl, this⟩)
  | int i =>
    walk_at "sx"
    have hi : i.natAbs < 10 ^ 100 := by simpa [okB] using hok
    have := q H (Same.refl _)
    simp only [note] at this
    exact .inl ⟨i, rfl, (len_100 hi).1, this⟩
  | str x =>
    walk_at "sx"
    have hx : x.length ≤ 10000 := by simpa [okB] using hok
    exact ⟨_, rfl, x, rfl, hx, fun H' s => by have := q H' s; simp only [note] at this; exact this⟩
  | @lst a xs ds fp h hs na =>
    simp only [tyN_l h, tRet, tRetN, tSeq, C8.tCut, tNext, tAsg, gName, gNil, gCons, gTup, gFld, tIfS, tIf, tAndV, tOrV, tNotV, tAnd, tOr, tNot, tB, tTest, tOp, tUn, tCB, tCons, tNil, tVar, tC, tChain, tDrop, RS.tCallG, RS.tMethG, tMakeG, RS.tCallK, RS.tMakeK, tEqOwn, rI, rI0, rU, add_ii, add_ss, add_rr, mul_ii, mul_si, mul_ri, RS.eq_ii, RS.eq_ss, eq_bb, eq_nn, eq_sn, eq_ns, eq_in, eq_ni, eq_bn, eq_nb, eq_is, eq_si, eq_rr, ne_ii, ne_ss, ne_bb, ne_nn, ne_sn, ne_ns, ne_in, ne_ni, ne_is, ne_si, ne_rr, in_ss, in_r, nin_ss, nin_r, len_s, len_r, RS.ix_s, RS.ix_r, sl_s, sl_r, is_eq, tyN_n, tyN_b, tyN_i, tyN_s, tru_b, tru_i, tru_n, tSl, tPart, tNoPart, tPar, tPar3, tFmtZ, tFmt, tJs, tDGet, sDPut, sFld, tFld, tTup, tLst, tNever, isB,
  L2.start, List.map_cons, List.map_nil, List.length_cons, List.length_nil, Nat.reduceAdd, Nat.reduceSub, Nat.sub_self, List.replicate_zero, List.replicate_succ, List.append_nil, List.cons_append, List.nil_append, List.getElem?_cons_zero, List.getElem?_cons_succ, List.set_cons_zero, List.set_cons_succ, Option.some.injEq, exists_eq_left, exists_eq_left', exists_and_left, V.bl.injEq, V.int.injEq, V.str.injEq, V.ref.injEq, beq_self_eq_true, Bool.true_or, Bool.or_true, Bool.false_or, Bool.or_false, Bool.and_false, Bool.false_and, Bool.true_and, Bool.and_true, Bool.not_true, Bool.not_false, Bool.false_eq_true, if_true, if_false, ite_true, ite_false, true_and, and_true, and_assoc, String.reduceBEq, String.reduceEq, reduceIte, Bool.and_self, reduceCtorEq, false_and, and_false, exists_false, or_false, false_or, exists_const, iEnumS, iStr, iList, iTup, iRng1, iEnum, tFor_eq, tLc_eq, List.cons.injEq, wipe, not_true_eq_false, not_false_eq_true, upd_same, HO.ins.injEq, HO.tup.injEq, HO.lst.injEq, ofS_eq, lk_nil, lk_cons, pu_nil, pu_cons, sizeLine_eq, Nat.reduceLT, Nat.reduceLeDiff, Nat.reduceEqDiff, Nat.le_refl, decide_true, decide_false, tPr, dget_us, dput_us, vv_nil, vv_cons, RS.pk_nil, pk_one, RS.pk_cons, inr_eq, tDisp, tPairs, tBoolOwn, rBoolOwn, tBM, rAppend, ty_list, ty_str, rEqOwn, iEnumT, RS.tCallS, tM1, tDc_eq, tLock, tLockE, iKeys, tListEnum, rUpdate, tMkX0, tMkX1, tXfv, gSub, rSetL, List.getD_cons_zero, List.getD_cons_succ, tBreak, tCMethS, ClX.tCVal, tXfa, tIxOwn, tInOwn, tPropG, tMethK, tMethP, tListGen, tDGet2, tDPop2, rNeD0, intA_i, intA_b, tRevL, sFldAug, tPm0, tPm1, tDIn, tDNotIn, tDNewK, RS.tMethS, tForK, tKM, tKC, tLcK, tKM2, tKC2, tMethStar, tKCK2, tLk, tAug, ipI, tDig, tLcX, tKMX, tKCX]
    simp only [okB, Bool.and_eq_true, decide_eq_true_eq] at hok
    simp only [note] at hz q
    simp only [Str.length_append] at hz
    have pl := piled_le (ts := noteAll ds)
    rw [piled_eq] at pl
    have e1 : (Str.ofString "[").length = 1 := by decide +kernel
    have e2 : (Str.ofString "]").length = 1 := by decide +kernel
    have e3 : (Str.ofString ", ").length = 2 := by decide +kernel
    refine ⟨⟨_, rfl⟩, .inl ⟨⟨xs, SqL.of h⟩, ?_⟩⟩
    refine note_items 1 (fun _ => rfl) (fun _ => rfl) (Same.refl _) hs hok.2 hok.1 (by simp only [PyData.depth] at hn; omega) (by omega) (fun i G lt sm => ⟨_, xs[i], SqL.of (sm _ _ h), List.getElem?_eq_getElem lt⟩) (fun G sm => ⟨_, SqL.of (sm _ _ h), Nat.le_refl _⟩) (fun i G x G' lt sm y => ⟨y.1, y.2 _ (SqL.of (sm _ _ h))⟩) (fun L G sm eL => ?_)
    refine ⟨L, rfl, noteAll ds, .inl (SqL.of eL), ?_⟩
    rw [joinC, e3]
    simp only [Str.length_append]
    exact ⟨by omega, by omega, by omega, q _ sm⟩
  | @tup a xs ds fp h hs =>
    simp only [tyN_t h, tRet, tRetN, tSeq, C8.tCut, tNext, tAsg, gName, gNil, gCons, gTup, gFld, tIfS, tIf, tAndV, tOrV, tNotV, tAnd, tOr, tNot, tB, tTest, tOp, tUn, tCB, tCons, tNil, tVar, tC, tChain, tDrop, RS.tCallG, RS.tMethG, tMakeG, RS.tCallK, RS.tMakeK, tEqOwn, rI, rI0, rU, add_ii, add_ss, add_rr, mul_ii, mul_si, mul_ri, RS.eq_ii, RS.eq_ss, eq_bb, eq_nn, eq_sn, eq_ns, eq_in, eq_ni, eq_bn, eq_nb, eq_is, eq_si, eq_rr, ne_ii, ne_ss, ne_bb, ne_nn, ne_sn, ne_ns, ne_in, ne_ni, ne_is, ne_si, ne_rr, in_ss, in_r, nin_ss, nin_r, len_s, len_r, RS.ix_s, RS.ix_r, sl_s, sl_r, is_eq, tyN_n, tyN_b, tyN_i, tyN_s, tru_b, tru_i, tru_n, tSl, tPart, tNoPart, tPar, tPar3, tFmtZ, tFmt, tJs, tDGet, sDPut, sFld, tFld, tTup, tLst, tNever, isB,
  L2.start, List.map_cons, List.map_nil, List.length_cons, List.length_nil, Nat.reduceAdd, Nat.reduceSub, Nat.sub_self, List.replicate_zero, List.replicate_succ, List.append_nil, List.cons_append, List.nil_append, List.getElem?_cons_zero, List.getElem?_cons_succ, List.set_cons_zero, List.set_cons_succ, Option.some.injEq, exists_eq_left, exists_eq_left', exists_and_left, V.bl.injEq, V.int.injEq, V.str.injEq, V.ref.injEq, beq_self_eq_true, Bool.true_or, Bool.or_true, Bool.false_or, Bool.or_false, Bool.and_false, Bool.false_and, Bool.true_and, Bool.and_true, Bool.not_true, Bool.not_false, Bool.false_eq_true, if_true, if_false, ite_true, ite_false, true_and, and_true, and_assoc, String.reduceBEq, String.reduceEq, reduceIte, Bool.and_self, reduceCtorEq, false_and, and_false, exists_false, or_false, false_or, exists_const, iEnumS, iStr, iList, iTup, iRng1, iEnum, tFor_eq, tLc_eq, List.cons.injEq, wipe, not_true_eq_false, not_false_eq_true, upd_same, HO.ins.injEq, HO.tup.injEq, HO.lst.injEq, ofS_eq, lk_nil, lk_cons, pu_nil, pu_cons, sizeLine_eq, Nat.reduceLT, Nat.reduceLeDiff, Nat.reduceEqDiff, Nat.le_refl, decide_true, decide_false, tPr, dget_us, dput_us, vv_nil, vv_cons, RS.pk_nil, pk_one, RS.pk_cons, inr_eq, tDisp, tPairs, tBoolOwn, rBoolOwn, tBM, rAppend, ty_list, ty_str, rEqOwn, iEnumT, RS.tCallS, tM1, tDc_eq, tLock, tLockE, iKeys, tListEnum, rUpdate, tMkX0, tMkX1, tXfv, gSub, rSetL, List.getD_cons_zero, List.getD_cons_succ, tBreak, tCMethS, ClX.tCVal, tXfa, tIxOwn, tInOwn, tPropG, tMethK, tMethP, tListGen, tDGet2, tDPop2, rNeD0, intA_i, intA_b, tRevL, sFldAug, tPm0, tPm1, tDIn, tDNotIn, tDNewK, RS.tMethS, tForK, tKM, tKC, tLcK, tKM2, tKC2, tMethStar, tKCK2, tLk, tAug, ipI, tDig, tLcX, tKMX, tKCX]
    simp only [okB, Bool.and_eq_true, decide_eq_true_eq] at hok
    simp only [note] at hz q
    simp only [Str.length_append] at hz
    have hl := hs.len
    have pl := piled_le (ts := noteAll ds)
    rw [piled_eq] at pl
    have e1 : (Str.ofString "(").length = 1 := by decide +kernel
    have e2 : (Str.ofString ")").length = 1 := by decide +kernel
    have e4 : (Str.ofString ",)").length = 2 := by decide +kernel
    have e3 : (Str.ofString ", ").length = 2 := by decide +kernel
    refine ⟨⟨_, rfl⟩, .inr ⟨⟨xs, SqT.of h⟩, ?_⟩⟩
    refine note_items 1 (fun _ => rfl) (fun _ => rfl) (Same.refl _) hs hok.2 hok.1 (by simp only [PyData.depth] at hn; omega) (by omega) (fun i G lt sm => ⟨_, xs[i], SqT.of (sm _ _ h), List.getElem?_eq_getElem lt⟩) (fun G sm => ⟨_, SqT.of (sm _ _ h), Nat.le_refl _⟩) (fun i G x G' lt sm y => ⟨y.1, y.2 _ (SqT.of (sm _ _ h))⟩) (fun L G sm eL => ?_)
    refine ⟨L, rfl, noteAll ds, .inl (SqL.of eL), ?_⟩
    rw [joinC, e3]
    simp only [Str.length_append]
    refine ⟨by omega, by omega, .inl ⟨xs, .inr (SqT.of (sm _ _ h)), ?_⟩⟩
    rw [hl]
    have q := q _ sm
    by_cases c1 : ds.length = 1
    · rw [if_pos (by simp [c1])]
      rw [if_pos (by simp [c1])] at q
      exact ⟨by omega, q⟩
    · rw [if_neg (by simp; omega)]
      rw [if_neg (by simp [c1])] at q
      exact ⟨by omega, q⟩
  | @dct a kvs D fp h hs na nd =>
    simp only [tyN_d h, tRet, tRetN, tSeq, C8.tCut, tNext, tAsg, gName, gNil, gCons, gTup, gFld, tIfS, tIf, tAndV, tOrV, tNotV, tAnd, tOr, tNot, tB, tTest, tOp, tUn, tCB, tCons, tNil, tVar, tC, tChain, tDrop, RS.tCallG, RS.tMethG, tMakeG, RS.tCallK, RS.tMakeK, tEqOwn, rI, rI0, rU, add_ii, add_ss, add_rr, mul_ii, mul_si, mul_ri, RS.eq_ii, RS.eq_ss, eq_bb, eq_nn, eq_sn, eq_ns, eq_in, eq_ni, eq_bn, eq_nb, eq_is, eq_si, eq_rr, ne_ii, ne_ss, ne_bb, ne_nn, ne_sn, ne_ns, ne_in, ne_ni, ne_is, ne_si, ne_rr, in_ss, in_r, nin_ss, nin_r, len_s, len_r, RS.ix_s, RS.ix_r, sl_s, sl_r, is_eq, tyN_n, tyN_b, tyN_i, tyN_s, tru_b, tru_i, tru_n, tSl, tPart, tNoPart, tPar, tPar3, tFmtZ, tFmt, tJs, tDGet, sDPut, sFld, tFld, tTup, tLst, tNever, isB,
  L2.start, List.map_cons, List.map_nil, List.length_cons, List.length_nil, Nat.reduceAdd, Nat.reduceSub, Nat.sub_self, List.replicate_zero, List.replicate_succ, List.append_nil, List.cons_append, List.nil_append, List.getElem?_cons_zero, List.getElem?_cons_succ, List.set_cons_zero, List.set_cons_succ, Option.some.injEq, exists_eq_left, exists_eq_left', exists_and_left, V.bl.injEq, V.int.injEq, V.str.injEq, V.ref.injEq, beq_self_eq_true, Bool.true_or, Bool.or_true, Bool.false_or, Bool.or_false, Bool.and_false, Bool.false_and, Bool.true_and, Bool.and_true, Bool.not_true, Bool.not_false, Bool.false_eq_true, if_true, if_false, ite_true, ite_false, true_and, and_true, and_assoc, String.reduceBEq, String.reduceEq, reduceIte, Bool.and_self, reduceCtorEq, false_and, and_false, exists_false, or_false, false_or, exists_const, iEnumS, iStr, iList, iTup, iRng1, iEnum, tFor_eq, tLc_eq, List.cons.injEq, wipe, not_true_eq_false, not_false_eq_true, upd_same, HO.ins.injEq, HO.tup.injEq, HO.lst.injEq, ofS_eq, lk_nil, lk_cons, pu_nil, pu_cons, sizeLine_eq, Nat.reduceLT, Nat.reduceLeDiff, Nat.reduceEqDiff, Nat.le_refl, decide_true, decide_false, tPr, dget_us, dput_us, vv_nil, vv_cons, RS.pk_nil, pk_one, RS.pk_cons, inr_eq, tDisp, tPairs, tBoolOwn, rBoolOwn, tBM, rAppend, ty_list, ty_str, rEqOwn, iEnumT, RS.tCallS, tM1, tDc_eq, tLock, tLockE, iKeys, tListEnum, rUpdate, tMkX0, tMkX1, tXfv, gSub, rSetL, List.getD_cons_zero, List.getD_cons_succ, tBreak, tCMethS, ClX.tCVal, tXfa, tIxOwn, tInOwn, tPropG, tMethK, tMethP, tListGen, tDGet2, tDPop2, rNeD0, intA_i, intA_b, tRevL, sFldAug, tPm0, tPm1, tDIn, tDNotIn, tDNewK, RS.tMethS, tForK, tKM, tKC, tLcK, tKM2, tKC2, tMethStar, tKCK2, tLk, tAug, ipI, tDig, tLcX, tKMX, tKCX]
    simp only [okB, Bool.and_eq_true, decide_eq_true_eq] at hok
    simp only [note] at hz q
    simp only [Str.length_append] at hz
    have hl := hs.len
    have pl := piled_le (ts := noteKv D)
    rw [piled_eq] at pl
    have e1 : (Str.ofString "{").length = 1 := by decide +kernel
    have e2 : (Str.ofString "}").length = 1 := by decide +kernel
    have e4 : (Str.ofString ": ").length = 2 := by decide +kernel
    have e3 : (Str.ofString ", ").length = 2 := by decide +kernel
    refine ⟨⟨_, rfl⟩, a, _, h, True.intro, fun od => ⟨od, .inl ⟨kvs, upd_same, ?_⟩⟩⟩
    have hlk : ∀ c o, c ≠ a → H c = some o → upd H a (.frz od (.dK kvs)) c = some o := fun c o n z => by rw [upd_ne n]; exact z
    have hs1 : TrD (upd H a (.frz od (.dK kvs))) kvs D fp := hs.but (p := a) (fun xs z => by rw [h] at z; cases z) hlk na
    refine lc_all kvs.length (fun i => .str (note ((D[i]?.getD (.none, .none)).1) ++ ": " ++ note ((D[i]?.getD (.none, .none)).2))) (by rw [sizeLine_eq]; omega) (fun i G lt sm => ⟨sm _ _ upd_same, lt⟩) (fun G sm => ⟨sm _ _ upd_same, Nat.le_refl _⟩) (fun i G x G' K lt sm y k => ?_) (fun L G hL sm eL => ?_)
    · obtain ⟨rfl, k0, v0, hk, rfl⟩ := y
      obtain ⟨x, v, d, f', e1, e2, t, _⟩ := hs1.get lt
      rw [hk] at e1
      cases e1
      have b1 := depth_kv e2
      have b3 : PyData.depthKv D < n := by simp only [PyData.depth] at hn; omega
      have b2 : (note (.str x) ++ ": " ++ note d).length ≤ (Str.join ", " (noteKv D)).length := len_mem (by rw [noteKv_map]; exact List.mem_map_of_mem (f := fun p : PyData × PyData => note p.1 ++ ": " ++ note p.2) (List.mem_of_getElem? e2))
      simp only [Str.length_append] at b2
      have ok2 := okKv_get hok.2 e2
      have hx : x.length ≤ 10000 := by simpa [okB] using ok2.1
      rw [e2] at k
      simp only [Option.getD_some, note] at k
      simp only [note] at b2
      refine ⟨rfl, ?_⟩
      simp only [kV, tRet, tRetN, tSeq, C8.tCut, tNext, tAsg, gName, gNil, gCons, gTup, gFld, tIfS, tIf, tAndV, tOrV, tNotV, tAnd, tOr, tNot, tB, tTest, tOp, tUn, tCB, tCons, tNil, tVar, tC, tChain, tDrop, RS.tCallG, RS.tMethG, tMakeG, RS.tCallK, RS.tMakeK, tEqOwn, rI, rI0, rU, add_ii, add_ss, add_rr, mul_ii, mul_si, mul_ri, RS.eq_ii, RS.eq_ss, eq_bb, eq_nn, eq_sn, eq_ns, eq_in, eq_ni, eq_bn, eq_nb, eq_is, eq_si, eq_rr, ne_ii, ne_ss, ne_bb, ne_nn, ne_sn, ne_ns, ne_in, ne_ni, ne_is, ne_si, ne_rr, in_ss, in_r, nin_ss, nin_r, len_s, len_r, RS.ix_s, RS.ix_r, sl_s, sl_r, is_eq, tyN_n, tyN_b, tyN_i, tyN_s, tru_b, tru_i, tru_n, tSl, tPart, tNoPart, tPar, tPar3, tFmtZ, tFmt, tJs, tDGet, sDPut, sFld, tFld, tTup, tLst, tNever, isB,
  L2.start, List.map_cons, List.map_nil, List.length_cons, List.length_nil, Nat.reduceAdd, Nat.reduceSub, Nat.sub_self, List.replicate_zero, List.replicate_succ, List.append_nil, List.cons_append, List.nil_append, List.getElem?_cons_zero, List.getElem?_cons_succ, List.set_cons_zero, List.set_cons_succ, Option.some.injEq, exists_eq_left, exists_eq_left', exists_and_left, V.bl.injEq, V.int.injEq, V.str.injEq, V.ref.injEq, beq_self_eq_true, Bool.true_or, Bool.or_true, Bool.false_or, Bool.or_false, Bool.and_false, Bool.false_and, Bool.true_and, Bool.and_true, Bool.not_true, Bool.not_false, Bool.false_eq_true, if_true, if_false, ite_true, ite_false, true_and, and_true, and_assoc, String.reduceBEq, String.reduceEq, reduceIte, Bool.and_self, reduceCtorEq, false_and, and_false, exists_false, or_false, false_or, exists_const, iEnumS, iStr, iList, iTup, iRng1, iEnum, tFor_eq, tLc_eq, List.cons.injEq, wipe, not_true_eq_false, not_false_eq_true, upd_same, HO.ins.injEq, HO.tup.injEq, HO.lst.injEq, ofS_eq, lk_nil, lk_cons, pu_nil, pu_cons, sizeLine_eq, Nat.reduceLT, Nat.reduceLeDiff, Nat.reduceEqDiff, Nat.le_refl, decide_true, decide_false, tPr, dget_us, dput_us, vv_nil, vv_cons, RS.pk_nil, pk_one, RS.pk_cons, inr_eq, tDisp, tPairs, tBoolOwn, rBoolOwn, tBM, rAppend, ty_list, ty_str, rEqOwn, iEnumT, RS.tCallS, tM1, tDc_eq, tLock, tLockE, iKeys, tListEnum, rUpdate, tMkX0, tMkX1, tXfv, gSub, rSetL, List.getD_cons_zero, List.getD_cons_succ, tBreak, tCMethS, ClX.tCVal, tXfa, tIxOwn, tInOwn, tPropG, tMethK, tMethP, tListGen, tDGet2, tDPop2, rNeD0, intA_i, intA_b, tRevL, sFldAug, tPm0, tPm1, tDIn, tDNotIn, tDNewK, RS.tMethS, tForK, tKM, tKC, tLcK, tKM2, tKC2, tMethStar, tKCK2, tLk, tAug, ipI, tDig, tLcX, tKMX, tKCX]
      refine ⟨_, rfl, x, rfl, hx, fun H' s' => ?_⟩
      dsimp only
      rw [add_ss]
      refine ⟨by rw [sizeLine_eq]; omega, v0, .inl ⟨kvs, .inr x, .inr ⟨od, s' _ _ (sm _ _ upd_same)⟩, rfl, (valV_at nd hk).symm⟩, _, rfl, d, f', t.same (sm.trans s'), ok2.2, by omega, by omega, fun H'' s'' => ?_⟩
      dsimp only
      rw [add_ss]
      exact ⟨by simp only [Str.length_append]; rw [sizeLine_eq]; omega, k H'' (s'.trans s'')⟩
    · have e : (List.range kvs.length).map (fun i => V.str (note ((D[i]?.getD (.none, .none)).1) ++ ": " ++ note ((D[i]?.getD (.none, .none)).2))) = (noteKv D).map V.str := by
        rw [hl, noteKv_map]
        refine List.ext_getElem (by simp) fun i h1 h2 => ?_
        simp at h1 h2
        simp [h1]
      have La := fresh_lock hL
      refine ⟨sm _ _ upd_same, L, rfl, noteKv D, .inl (SqL.of (by rw [upd_ne La.1, eL, e])), ?_⟩
      rw [joinC, e3]
      simp only [Str.length_append]
      exact ⟨by omega, by omega, by omega, q _ (unlock h sm)⟩
end
theorem TrL.snoc {H : Hp} {v : V} {d : PyData} {f2 : List Addr} (h : Tr H v d f2) : ∀ {vs : List V} {ds : List PyData} {f1 : List Addr}, TrL H vs ds f1 → TrL H (vs ++ [v]) (ds ++ [d]) (f1 ++ f2)
  | _, _, _, .nil => by simpa using TrL.cons h .nil
  | _, _, _, .cons h1 hs => by simpa [List.append_assoc] using TrL.cons h1 (TrL.snoc h hs)
theorem TrD.snoc {H : Hp} {x : Str} {v : V} {d : PyData} {f2 : List Addr} (h : Tr H v d f2) : ∀ {vs : List (Key × V)} {ds : List (PyData × PyData)} {f1 : List Addr}, TrD H vs ds f1 → TrD H (vs ++ [(.inr x, v)]) (ds ++ [(.str x, d)]) (f1 ++ f2)
  | _, _, _, .nil => by simpa using TrD.cons (x := x) h .nil
  | _, _, _, .cons h1 hs => by simpa [List.append_assoc] using TrD.cons h1 (TrD.snoc h hs)
/-- a new key is put behind -/
theorem putK_new {kvs : List (Key × V)} {k : Key} {v : V} (h : k ∉ kvs.map (·.1)) : putK kvs k v = kvs ++ [(k, v)] := by
  unfold putK
  rw [if_neg]
  intro z
  obtain ⟨p, hp, e⟩ := List.any_eq_true.mp z
  exact h (List.mem_map.mpr ⟨p, hp, by simpa using e⟩)
/-- what a copy is -/
structure Cpy (H H' : Hp) (d : PyData) (v : V) (fp : List Addr) : Prop where
  sm : Same H H'
  tr : Tr H' v d fp
  nw : ∀ c ∈ fp, H c = none
  nd : fp.Nodup
section
variable {g : Wd} {f : Addr} {fd : FuncData}
def sp_reb (n : Nat) : Sp := S1 fun v H Q _ => ∃ d fp, Tr H v d fp ∧ okB d = true ∧ d.depth < n ∧ ∀ v' fp' H', Cpy H H' d v' fp' → Q v' H'
theorem reb_items {n : Nat} {H1 : Hp} {Qf : VK} {J : It} {xs : List V} {ds : List PyData} {fp : List Addr} {x0 : Option V} (hs : TrL H1 xs ds fp) (ok : okAll ds = true) (hl : ds.length ≤ 10000) (hd : PyData.depthAll ds < n)
    (go : ∀ i G, i < xs.length → Same H1 G → J.go i G) (stop : ∀ G, Same H1 G → J.stop xs.length G) (yl : ∀ i G x G', i < xs.length → Same H1 G → J.yld i G x G' → G' = G ∧ xs[i]? = some x)
    (q : ∀ L ys fp' G, Same H1 G → H1 L = none → G L = some (.lst ys) → TrL G ys ds fp' → (∀ c ∈ fp', H1 c = none) → fp'.Nodup → L ∉ fp' → Qf (.ref L) G) :
    LcB J (gName 2) tYes (RS.tCallG (sp_reb n) [] (fun _ _ _ _ => False) (tCons (tVar 2) tNil)) [2] [x0, none, none] H1 Qf := by
  have ln := hs.len
  refine lc_invA xs.length (fun D i acc G => Same H1 G ∧ ∃ fa, TrL G acc (ds.take i) fa ∧ (∀ c ∈ fa, H1 c = none ∧ c ≠ D) ∧ fa.Nodup) (by rw [sizeLine_eq]; omega) (fun D hD => ⟨same_upd hD, [], .nil, by simp, .nil⟩) (fun D i acc G hD lt P => go i G lt P.1) (fun D acc G hD P => stop G P.1) (fun D i acc G x G' K hD lt la P eD y k => ?_) (fun D acc G hD P eD => ?_)
  · obtain ⟨sm, fa, ta, na, nd⟩ := P
    obtain ⟨rfl, hx⟩ := yl i G x G' lt sm y
    obtain ⟨v, d, f', e1, e2, t, _⟩ := hs.get lt
    rw [hx] at e1
    cases e1
    refine ⟨rfl, ?_⟩
    walk_at "sx"
    have b1 := depth_all e2
    refine ⟨_, rfl, d, f', t.same sm, okAll_get ok e2, by omega, fun v' fp' G2 C => ?_⟩
    have eD2 := C.sm _ _ eD
    have nD : ∀ ys, G2 D ≠ some (.tup ys) := fun ys z => by rw [eD2] at z; cases z
    have kD : ∀ c o, c ≠ D → G2 c = some o → upd G2 D (.lst (acc ++ [v'])) c = some o := fun c o n z => by rw [upd_ne n]; exact z
    have fD : D ∉ fp' := fun z => by rw [C.nw D z] at eD; cases eD
    refine k v' G2 eD2 ⟨fun b o z => ?_, fa ++ fp', ?_, fun c hc => ?_, ?_⟩
    · have bD : b ≠ D := fun e => by rw [e, hD] at z; cases z
      rw [upd_ne bD]; exact C.sm _ _ (sm _ _ z)
    · have e3 : ds.take (i + 1) = ds.take i ++ [d] := by rw [List.take_add_one]; simp [e2]
      rw [e3]
      exact TrL.snoc (C.tr.but nD kD fD) ((ta.same C.sm).but nD kD fun z => (na D z).2 rfl)
    · rcases List.mem_append.mp hc with h | h
      · exact na c h
      · refine ⟨?_, fun e => fD (e ▸ h)⟩
        cases e : H1 c with
        | none => rfl
        | some o => have := sm _ _ e; rw [C.nw c h] at this; cases this
    · refine List.nodup_append.mpr ⟨nd, C.nd, fun a ha b hb e => ?_⟩
      subst e
      have h2 := C.nw a hb
      rcases ta.there a ha with ⟨ys, z⟩ | ⟨ys, z⟩ <;> (rw [h2] at z; cases z)
  · obtain ⟨sm, fa, ta, na, nd⟩ := P
    rw [List.take_of_length_le (by omega)] at ta
    exact q D acc fa G sm hD eD ta (fun c hc => (na c hc).1) nd fun z => (na D z).2 rfl
theorem sc_rebuilt : FnScope ["value", "key", "item"] ["value"] (defScope s_rebuilt) := ⟨rfl, rfl, rfl, by decide +kernel, rfl, by decide +kernel, by decide +kernel⟩
theorem ok_reb (n : Nat) (F : Df g.K "rebuilt" "rebuilt" s_rebuilt f fd .none) (T : Txt g) (F_rebuilt : Kn g "rebuilt" (n + 1) ["value"] [] (sp_reb n)) : FnG g (n + 2) f fd ["value"] (sp_reb (n + 1)) := by
  refine F.ok sc_rebuilt (fun vs H Q E h => S1.len h) (fun cdv A outer s H vs Q E hr h => ?_)
  obtain ⟨v, rfl, d, fp, hv, hok, hn, q⟩ := h
  refine ⟨_, (pss_cons (ps_if (pt_val (pe_callB (c_is "dict") (by rfl) T.b_isinstance bb_isinstance (pa_cons (pv 0) (pa_cons (pe_bltn (v := .ty "dict") rfl T.b_dict bb_dict rfl) pa_nil)))) (pss_one (ps_ret (pe_lock (pe_dc (own := [("key", 1)]) (tt := tYes) rfl sc_rebuilt.nd (pi_keys (pv 0)) (blkOk_by (own := [("key", 1)]) (N := ["value", "key", "item"]) (sc := defScope s_rebuilt) (by decide +kernel)) (fun _ _ _ _ _ => (pg_name (i := 1) sc_rebuilt.nd rfl (.inl rfl))) (fun _ _ _ _ _ => pts_nil) (fun _ _ _ _ _ => (pv 1)) (fun _ _ _ _ _ => (pe_callG F_rebuilt (Rm.mono (Rm.mk hr.room hr.gd) (by first | decide | omega)) L2.takes0 (pa_cons (pe_dget (hu_of (Rm.mk hr.room hr.gd).room) (pv 0) (pv 1) (fun _ _ => rfl)) pa_nil))))))) pss_nil)
      (pss_cons (ps_if (pt_val (pe_callB (c_is "list") (by rfl) T.b_isinstance bb_isinstance (pa_cons (pv 0) (pa_cons (pe_bltn (v := .ty "list") rfl T.b_list bb_list rfl) pa_nil)))) (pss_one (ps_ret (pe_lc (own := [("item", 2)]) (tt := tYes) rfl sc_rebuilt.nd (pi_or (i_list (K := g.K) (pv 0)) (i_tup (K := g.K) (pv 0))) (blkOk_by (own := [("item", 2)]) (N := ["value", "key", "item"]) (sc := defScope s_rebuilt) (by decide +kernel)) (fun _ _ _ _ _ => (pg_name (i := 2) sc_rebuilt.nd rfl (.inl rfl))) (fun _ _ _ _ _ => pts_nil) (fun _ _ _ _ _ => (pe_callG F_rebuilt (Rm.mono (Rm.mk hr.room hr.gd) (by first | decide | omega)) L2.takes0 (pa_cons (pv 2) pa_nil)))))) pss_nil)
      (pss_one (ps_ret (pe_ifExp (pt_val (pe_callB (c_is "tuple") (by rfl) T.b_isinstance bb_isinstance (pa_cons (pv 0) (pa_cons (pe_bltn (v := .ty "tuple") rfl T.b_tuple bb_tuple rfl) pa_nil)))) (pe_callTy call_tuple_of (by rfl) T.b_tuple bb_tuple (pa_cons (pe_lc (own := [("item", 2)]) (tt := tYes) rfl sc_rebuilt.nd (pi_or (i_list (K := g.K) (pv 0)) (i_tup (K := g.K) (pv 0))) (blkOk_by (own := [("item", 2)]) (N := ["value", "key", "item"]) (sc := defScope s_rebuilt) (by decide +kernel)) (fun _ _ _ _ _ => (pg_name (i := 2) sc_rebuilt.nd rfl (.inl rfl))) (fun _ _ _ _ _ => pts_nil) (fun _ _ _ _ _ => (pe_callG F_rebuilt (Rm.mono (Rm.mk hr.room hr.gd) (by first | decide | omega)) L2.takes0 (pa_cons (pv 2) pa_nil)))) pa_nil)) (pv 0)))))), ?_⟩
  cases hv with
  | @lst a xs ds fp h hs na =>
    simp only [okB, Bool.and_eq_true, decide_eq_true_eq] at hok
    simp only [tyN_l h, tRet, tRetN, tSeq, C8.tCut, tNext, tAsg, gName, gNil, gCons, gTup, gFld, tIfS, tIf, tAndV, tOrV, tNotV, tAnd, tOr, tNot, tB, tTest, tOp, tUn, tCB, tCons, tNil, tVar, tC, tChain, tDrop, RS.tCallG, RS.tMethG, tMakeG, RS.tCallK, RS.tMakeK, tEqOwn, rI, rI0, rU, add_ii, add_ss, add_rr, mul_ii, mul_si, mul_ri, RS.eq_ii, RS.eq_ss, eq_bb, eq_nn, eq_sn, eq_ns, eq_in, eq_ni, eq_bn, eq_nb, eq_is, eq_si, eq_rr, ne_ii, ne_ss, ne_bb, ne_nn, ne_sn, ne_ns, ne_in, ne_ni, ne_is, ne_si, ne_rr, in_ss, in_r, nin_ss, nin_r, len_s, len_r, RS.ix_s, RS.ix_r, sl_s, sl_r, is_eq, tyN_n, tyN_b, tyN_i, tyN_s, tru_b, tru_i, tru_n, tSl, tPart, tNoPart, tPar, tPar3, tFmtZ, tFmt, tJs, tDGet, sDPut, sFld, tFld, tTup, tLst, tNever, isB,
  L2.start, List.map_cons, List.map_nil, List.length_cons, List.length_nil, Nat.reduceAdd, Nat.reduceSub, Nat.sub_self, List.replicate_zero, List.replicate_succ, List.append_nil, List.cons_append, List.nil_append, List.getElem?_cons_zero, List.getElem?_cons_succ, List.set_cons_zero, List.set_cons_succ, Option.some.injEq, exists_eq_left, exists_eq_left', exists_and_left, V.bl.injEq, V.int.injEq, V.str.injEq, V.ref.injEq, beq_self_eq_true, Bool.true_or, Bool.or_true, Bool.false_or, Bool.or_false, Bool.and_false, Bool.false_and, Bool.true_and, Bool.and_true, Bool.not_true, Bool.not_false, Bool.false_eq_true, if_true, if_false, ite_true, ite_false, true_and, and_true, and_assoc, String.reduceBEq, String.reduceEq, reduceIte, Bool.and_self, reduceCtorEq, false_and, and_false, exists_false, or_false, false_or, exists_const, iEnumS, iStr, iList, iTup, iRng1, iEnum, tFor_eq, tLc_eq, List.cons.injEq, wipe, not_true_eq_false, not_false_eq_true, upd_same, HO.ins.injEq, HO.tup.injEq, HO.lst.injEq, ofS_eq, lk_nil, lk_cons, pu_nil, pu_cons, sizeLine_eq, Nat.reduceLT, Nat.reduceLeDiff, Nat.reduceEqDiff, Nat.le_refl, decide_true, decide_false, tPr, dget_us, dput_us, vv_nil, vv_cons, RS.pk_nil, pk_one, RS.pk_cons, inr_eq, tDisp, tPairs, tBoolOwn, rBoolOwn, tBM, rAppend, ty_list, ty_str, rEqOwn, iEnumT, RS.tCallS, tM1, tDc_eq, tLock, tLockE, iKeys, tListEnum, rUpdate, tMkX0, tMkX1, tXfv, gSub, rSetL, List.getD_cons_zero, List.getD_cons_succ, tBreak, tCMethS, ClX.tCVal, tXfa, tIxOwn, tInOwn, tPropG, tMethK, tMethP, tListGen, tDGet2, tDPop2, rNeD0, intA_i, intA_b, tRevL, sFldAug, tPm0, tPm1, tDIn, tDNotIn, tDNewK, RS.tMethS, tForK, tKM, tKC, tLcK, tKM2, tKC2, tMethStar, tKCK2, tLk, tAug, ipI, tDig, tLcX, tKMX, tKCX]
    refine .inl ⟨⟨xs, SqL.of h⟩, ?_⟩
    refine reb_items hs hok.2 hok.1 (by simp only [PyData.depth] at hn; omega) (fun i G lt sm => ⟨_, xs[i], SqL.of (sm _ _ h), List.getElem?_eq_getElem lt⟩) (fun G sm => ⟨_, SqL.of (sm _ _ h), Nat.le_refl _⟩) (fun i G x G' lt sm y => ⟨y.1, y.2 _ (SqL.of (sm _ _ h))⟩) (fun L ys fp' G sm nL eL tl nw nd nf => ?_)
    exact q _ (L :: fp') G ⟨sm, .lst eL tl nf, fun c hc => (List.mem_cons.mp hc).elim (fun e => e ▸ nL) (nw c), List.nodup_cons.mpr ⟨nf, nd⟩⟩
  | @tup a xs ds fp h hs =>
    simp only [okB, Bool.and_eq_true, decide_eq_true_eq] at hok
    simp only [tyN_t h, tRet, tRetN, tSeq, C8.tCut, tNext, tAsg, gName, gNil, gCons, gTup, gFld, tIfS, tIf, tAndV, tOrV, tNotV, tAnd, tOr, tNot, tB, tTest, tOp, tUn, tCB, tCons, tNil, tVar, tC, tChain, tDrop, RS.tCallG, RS.tMethG, tMakeG, RS.tCallK, RS.tMakeK, tEqOwn, rI, rI0, rU, add_ii, add_ss, add_rr, mul_ii, mul_si, mul_ri, RS.eq_ii, RS.eq_ss, eq_bb, eq_nn, eq_sn, eq_ns, eq_in, eq_ni, eq_bn, eq_nb, eq_is, eq_si, eq_rr, ne_ii, ne_ss, ne_bb, ne_nn, ne_sn, ne_ns, ne_in, ne_ni, ne_is, ne_si, ne_rr, in_ss, in_r, nin_ss, nin_r, len_s, len_r, RS.ix_s, RS.ix_r, sl_s, sl_r, is_eq, tyN_n, tyN_b, tyN_i, tyN_s, tru_b, tru_i, tru_n, tSl, tPart, tNoPart, tPar, tPar3, tFmtZ, tFmt, tJs, tDGet, sDPut, sFld, tFld, tTup, tLst, tNever, isB,
  L2.start, List.map_cons, List.map_nil, List.length_cons, List.length_nil, Nat.reduceAdd, Nat.reduceSub, Nat.sub_self, List.replicate_zero, List.replicate_succ, List.append_nil, List.cons_append, List.nil_append, List.getElem?_cons_zero, List.getElem?_cons_succ, List.set_cons_zero, List.set_cons_succ, Option.some.injEq, exists_eq_left, exists_eq_left', exists_and_left, V.bl.injEq, V.int.injEq, V.str.injEq, V.ref.injEq, beq_self_eq_true, Bool.true_or, Bool.or_true, Bool.false_or, Bool.or_false, Bool.and_false, Bool.false_and, Bool.true_and, Bool.and_true, Bool.not_true, Bool.not_false, Bool.false_eq_true, if_true, if_false, ite_true, ite_false, true_and, and_true, and_assoc, String.reduceBEq, String.reduceEq, reduceIte, Bool.and_self, reduceCtorEq, false_and, and_false, exists_false, or_false, false_or, exists_const, iEnumS, iStr, iList, iTup, iRng1, iEnum, tFor_eq, tLc_eq, List.cons.injEq, wipe, not_true_eq_false, not_false_eq_true, upd_same, HO.ins.injEq, HO.tup.injEq, HO.lst.injEq, ofS_eq, lk_nil, lk_cons, pu_nil, pu_cons, sizeLine_eq, Nat.reduceLT, Nat.reduceLeDiff, Nat.reduceEqDiff, Nat.le_refl, decide_true, decide_false, tPr, dget_us, dput_us, vv_nil, vv_cons, RS.pk_nil, pk_one, RS.pk_cons, inr_eq, tDisp, tPairs, tBoolOwn, rBoolOwn, tBM, rAppend, ty_list, ty_str, rEqOwn, iEnumT, RS.tCallS, tM1, tDc_eq, tLock, tLockE, iKeys, tListEnum, rUpdate, tMkX0, tMkX1, tXfv, gSub, rSetL, List.getD_cons_zero, List.getD_cons_succ, tBreak, tCMethS, ClX.tCVal, tXfa, tIxOwn, tInOwn, tPropG, tMethK, tMethP, tListGen, tDGet2, tDPop2, rNeD0, intA_i, intA_b, tRevL, sFldAug, tPm0, tPm1, tDIn, tDNotIn, tDNewK, RS.tMethS, tForK, tKM, tKC, tLcK, tKM2, tKC2, tMethStar, tKCK2, tLk, tAug, ipI, tDig, tLcX, tKMX, tKCX]
    refine .inr ⟨⟨xs, SqT.of h⟩, ?_⟩
    refine reb_items hs hok.2 hok.1 (by simp only [PyData.depth] at hn; omega) (fun i G lt sm => ⟨_, xs[i], SqT.of (sm _ _ h), List.getElem?_eq_getElem lt⟩) (fun G sm => ⟨_, SqT.of (sm _ _ h), Nat.le_refl _⟩) (fun i G x G' lt sm y => ⟨y.1, y.2 _ (SqT.of (sm _ _ h))⟩) (fun L ys fp' G sm nL eL tl nw nd nf => ?_)
    exact ⟨L, rfl, ys, .inl ⟨SqL.of eL, fun l hl => q _ fp' _ ⟨sm.trans (same_upd hl), .tup upd_same (tl.same (same_upd hl)), nw, nd⟩⟩⟩
  | @dct a kvs D fp h hs na nd =>
    simp only [okB, Bool.and_eq_true, decide_eq_true_eq] at hok
    simp only [tyN_d h, tRet, tRetN, tSeq, C8.tCut, tNext, tAsg, gName, gNil, gCons, gTup, gFld, tIfS, tIf, tAndV, tOrV, tNotV, tAnd, tOr, tNot, tB, tTest, tOp, tUn, tCB, tCons, tNil, tVar, tC, tChain, tDrop, RS.tCallG, RS.tMethG, tMakeG, RS.tCallK, RS.tMakeK, tEqOwn, rI, rI0, rU, add_ii, add_ss, add_rr, mul_ii, mul_si, mul_ri, RS.eq_ii, RS.eq_ss, eq_bb, eq_nn, eq_sn, eq_ns, eq_in, eq_ni, eq_bn, eq_nb, eq_is, eq_si, eq_rr, ne_ii, ne_ss, ne_bb, ne_nn, ne_sn, ne_ns, ne_in, ne_ni, ne_is, ne_si, ne_rr, in_ss, in_r, nin_ss, nin_r, len_s, len_r, RS.ix_s, RS.ix_r, sl_s, sl_r, is_eq, tyN_n, tyN_b, tyN_i, tyN_s, tru_b, tru_i, tru_n, tSl, tPart, tNoPart, tPar, tPar3, tFmtZ, tFmt, tJs, tDGet, sDPut, sFld, tFld, tTup, tLst, tNever, isB,
  L2.start, List.map_cons, List.map_nil, List.length_cons, List.length_nil, Nat.reduceAdd, Nat.reduceSub, Nat.sub_self, List.replicate_zero, List.replicate_succ, List.append_nil, List.cons_append, List.nil_append, List.getElem?_cons_zero, List.getElem?_cons_succ, List.set_cons_zero, List.set_cons_succ, Option.some.injEq, exists_eq_left, exists_eq_left', exists_and_left, V.bl.injEq, V.int.injEq, V.str.injEq, V.ref.injEq, beq_self_eq_true, Bool.true_or, Bool.or_true, Bool.false_or, Bool.or_false, Bool.and_false, Bool.false_and, Bool.true_and, Bool.and_true, Bool.not_true, Bool.not_false, Bool.false_eq_true, if_true, if_false, ite_true, ite_false, true_and, and_true, and_assoc, String.reduceBEq, String.reduceEq, reduceIte, Bool.and_self, reduceCtorEq, false_and, and_false, exists_false, or_false, false_or, exists_const, iEnumS, iStr, iList, iTup, iRng1, iEnum, tFor_eq, tLc_eq, List.cons.injEq, wipe, not_true_eq_false, not_false_eq_true, upd_same, HO.ins.injEq, HO.tup.injEq, HO.lst.injEq, ofS_eq, lk_nil, lk_cons, pu_nil, pu_cons, sizeLine_eq, Nat.reduceLT, Nat.reduceLeDiff, Nat.reduceEqDiff, Nat.le_refl, decide_true, decide_false, tPr, dget_us, dput_us, vv_nil, vv_cons, RS.pk_nil, pk_one, RS.pk_cons, inr_eq, tDisp, tPairs, tBoolOwn, rBoolOwn, tBM, rAppend, ty_list, ty_str, rEqOwn, iEnumT, RS.tCallS, tM1, tDc_eq, tLock, tLockE, iKeys, tListEnum, rUpdate, tMkX0, tMkX1, tXfv, gSub, rSetL, List.getD_cons_zero, List.getD_cons_succ, tBreak, tCMethS, ClX.tCVal, tXfa, tIxOwn, tInOwn, tPropG, tMethK, tMethP, tListGen, tDGet2, tDPop2, rNeD0, intA_i, intA_b, tRevL, sFldAug, tPm0, tPm1, tDIn, tDNotIn, tDNewK, RS.tMethS, tForK, tKM, tKC, tLcK, tKM2, tKC2, tMethStar, tKCK2, tLk, tAug, ipI, tDig, tLcX, tKMX, tKCX]
    refine ⟨a, _, h, True.intro, fun od => ⟨od, .inl ⟨kvs, upd_same, ?_⟩⟩⟩
    have hlk : ∀ c o, c ≠ a → H c = some o → upd H a (.frz od (.dK kvs)) c = some o := fun c o n z => by rw [upd_ne n]; exact z
    have hs1 : TrD (upd H a (.frz od (.dK kvs))) kvs D fp := hs.but (p := a) (fun xs z => by rw [h] at z; cases z) hlk na
    have ea : upd H a (.frz od (.dK kvs)) a = some (.frz od (.dK kvs)) := upd_same
    have hu : ∀ G, Same (upd H a (.frz od (.dK kvs))) G → Same H (upd G a (.dK kvs)) := fun G sm => unlock h sm
    have hn1 : ∀ b, upd H a (.frz od (.dK kvs)) b = none → b ≠ a ∧ H b = none := fun b z => fresh_lock z
    generalize upd H a (.frz od (.dK kvs)) = H1 at hs1 ea hu hn1 ⊢
    have ln := hs.len
    refine dc_invA kvs.length (fun L i acc G => Same H1 G ∧ acc.map (·.1) = (kvs.map (·.1)).take i ∧ ∃ fa, TrD G acc (D.take i) fa ∧ (∀ c ∈ fa, H1 c = none ∧ c ≠ L) ∧ fa.Nodup) (fun L hL => ⟨same_upd hL, rfl, [], .nil, by simp, .nil⟩) (fun L i acc G hL lt P => ⟨P.1 _ _ ea, lt⟩) (fun L acc G hL P => ⟨P.1 _ _ ea, Nat.le_refl _⟩) (fun L i acc G x G' K hL lt P eL y k => ?_) (fun L acc G hL P eL => ?_)
    · obtain ⟨sm, ek, fa, ta, nfa, ndf⟩ := P
      obtain ⟨rfl, k0, v0, hk, rfl⟩ := y
      obtain ⟨x, v, d, f', e1, e2, t, _⟩ := hs1.get lt
      rw [hk] at e1
      cases e1
      refine ⟨rfl, ?_⟩
      simp only [kV, tRet, tRetN, tSeq, C8.tCut, tNext, tAsg, gName, gNil, gCons, gTup, gFld, tIfS, tIf, tAndV, tOrV, tNotV, tAnd, tOr, tNot, tB, tTest, tOp, tUn, tCB, tCons, tNil, tVar, tC, tChain, tDrop, RS.tCallG, RS.tMethG, tMakeG, RS.tCallK, RS.tMakeK, tEqOwn, rI, rI0, rU, add_ii, add_ss, add_rr, mul_ii, mul_si, mul_ri, RS.eq_ii, RS.eq_ss, eq_bb, eq_nn, eq_sn, eq_ns, eq_in, eq_ni, eq_bn, eq_nb, eq_is, eq_si, eq_rr, ne_ii, ne_ss, ne_bb, ne_nn, ne_sn, ne_ns, ne_in, ne_ni, ne_is, ne_si, ne_rr, in_ss, in_r, nin_ss, nin_r, len_s, len_r, RS.ix_s, RS.ix_r, sl_s, sl_r, is_eq, tyN_n, tyN_b, tyN_i, tyN_s, tru_b, tru_i, tru_n, tSl, tPart, tNoPart, tPar, tPar3, tFmtZ, tFmt, tJs, tDGet, sDPut, sFld, tFld, tTup, tLst, tNever, isB,
  L2.start, List.map_cons, List.map_nil, List.length_cons, List.length_nil, Nat.reduceAdd, Nat.reduceSub, Nat.sub_self, List.replicate_zero, List.replicate_succ, List.append_nil, List.cons_append, List.nil_append, List.getElem?_cons_zero, List.getElem?_cons_succ, List.set_cons_zero, List.set_cons_succ, Option.some.injEq, exists_eq_left, exists_eq_left', exists_and_left, V.bl.injEq, V.int.injEq, V.str.injEq, V.ref.injEq, beq_self_eq_true, Bool.true_or, Bool.or_true, Bool.false_or, Bool.or_false, Bool.and_false, Bool.false_and, Bool.true_and, Bool.and_true, Bool.not_true, Bool.not_false, Bool.false_eq_true, if_true, if_false, ite_true, ite_false, true_and, and_true, and_assoc, String.reduceBEq, String.reduceEq, reduceIte, Bool.and_self, reduceCtorEq, false_and, and_false, exists_false, or_false, false_or, exists_const, iEnumS, iStr, iList, iTup, iRng1, iEnum, tFor_eq, tLc_eq, List.cons.injEq, wipe, not_true_eq_false, not_false_eq_true, upd_same, HO.ins.injEq, HO.tup.injEq, HO.lst.injEq, ofS_eq, lk_nil, lk_cons, pu_nil, pu_cons, sizeLine_eq, Nat.reduceLT, Nat.reduceLeDiff, Nat.reduceEqDiff, Nat.le_refl, decide_true, decide_false, tPr, dget_us, dput_us, vv_nil, vv_cons, RS.pk_nil, pk_one, RS.pk_cons, inr_eq, tDisp, tPairs, tBoolOwn, rBoolOwn, tBM, rAppend, ty_list, ty_str, rEqOwn, iEnumT, RS.tCallS, tM1, tDc_eq, tLock, tLockE, iKeys, tListEnum, rUpdate, tMkX0, tMkX1, tXfv, gSub, rSetL, List.getD_cons_zero, List.getD_cons_succ, tBreak, tCMethS, ClX.tCVal, tXfa, tIxOwn, tInOwn, tPropG, tMethK, tMethP, tListGen, tDGet2, tDPop2, rNeD0, intA_i, intA_b, tRevL, sFldAug, tPm0, tPm1, tDIn, tDNotIn, tDNewK, RS.tMethS, tForK, tKM, tKC, tLcK, tKM2, tKC2, tMethStar, tKCK2, tLk, tAug, ipI, tDig, tLcX, tKMX, tKCX]
      have b1 := depth_kv e2
      refine ⟨v0, .inl ⟨kvs, .inr x, .inr ⟨od, sm _ _ ea⟩, rfl, (valV_at nd hk).symm⟩, _, rfl, d, f', t.same sm, (okKv_get hok.2 e2).2, by simp only [PyData.depth] at hn; omega, fun v' fp' G2 C => ?_⟩
      have eL2 := C.sm _ _ eL
      have nL : ∀ ys, G2 L ≠ some (.tup ys) := fun ys z => by rw [eL2] at z; cases z
      have fL : L ∉ fp' := fun z => by rw [C.nw L z] at eL; cases eL
      have la : acc.length = i := by have := congrArg List.length ek; simp at this; omega
      have kn : (.inr x : Key) ∉ acc.map (·.1) := fun z => by
        rw [ek] at z
        obtain ⟨j, hj, ej⟩ := List.getElem_of_mem z
        simp at hj
        have h1 : (kvs.map (·.1))[j]? = some (.inr x) := by
          simp only [List.getElem_take] at ej
          rw [List.getElem?_eq_getElem (by simp; omega), ej]
        have h2 : (kvs.map (·.1))[i]? = some (.inr x) := by rw [List.getElem?_map, hk]; rfl
        have hj' : j < (kvs.map (·.1)).length := by simp; omega
        have hi' : i < (kvs.map (·.1)).length := by simpa using lt
        have := (List.pairwise_iff_getElem.mp nd) j i hj' hi' (by omega)
        rw [List.getElem?_eq_getElem hj'] at h1
        rw [List.getElem?_eq_getElem hi'] at h2
        exact this ((Option.some.inj h1).trans (Option.some.inj h2).symm)
      have ep := putK_new (v := v') kn
      have kL : ∀ c o, c ≠ L → G2 c = some o → upd G2 L (.dK (acc ++ [(.inr x, v')])) c = some o := fun c o n z => by rw [upd_ne n]; exact z
      refine k (.inr x) v' G2 eL2 (by rw [sizeLine_eq]; omega) ?_
      rw [ep]
      refine ⟨fun b o z => ?_, ?_, fa ++ fp', ?_, fun c hc => ?_, ?_⟩
      · have bL : b ≠ L := fun e => by rw [e, hL] at z; cases z
        rw [upd_ne bL]; exact C.sm _ _ (sm _ _ z)
      · rw [List.map_append, ek, List.take_add_one]
        simp [hk]
      · have e3 : D.take (i + 1) = D.take i ++ [(.str x, d)] := by rw [List.take_add_one]; simp [e2]
        rw [e3]
        exact TrD.snoc (C.tr.but nL kL fL) ((ta.same C.sm).but nL kL fun z => (nfa L z).2 rfl)
      · rcases List.mem_append.mp hc with h | h
        · exact nfa c h
        · refine ⟨?_, fun e => fL (e ▸ h)⟩
          cases e : H1 c with
          | none => rfl
          | some o => have := sm _ _ e; rw [C.nw c h] at this; cases this
      · refine List.nodup_append.mpr ⟨ndf, C.nd, fun a' ha b hb e => ?_⟩
        subst e
        have h2 := C.nw a' hb
        rcases ta.there a' ha with ⟨ys, z⟩ | ⟨ys, z⟩ <;> (rw [h2] at z; cases z)
    · obtain ⟨sm, ek, fa, ta, nfa, ndf⟩ := P
      rw [List.take_of_length_le (by omega)] at ta
      rw [List.take_of_length_le (by simp)] at ek
      have eaG := sm _ _ ea
      have La := hn1 L hL
      have af : a ∉ fa := fun z => by have := (nfa a z).1; rw [ea] at this; cases this
      have ka : ∀ c o, c ≠ a → G c = some o → upd G a (.dK kvs) c = some o := fun c o n z => by rw [upd_ne n]; exact z
      refine ⟨eaG, q _ (L :: fa) _ ⟨hu G sm, .dct (by rw [upd_ne La.1]; exact eL) (ta.but (fun ys z => by rw [eaG] at z; cases z) ka af) (fun z => (nfa L z).2 rfl) (by rw [ek]; exact nd), fun c hc => ?_, List.nodup_cons.mpr ⟨fun z => (nfa L z).2 rfl, ndf⟩⟩⟩
      rcases List.mem_cons.mp hc with e | e
      · rw [e]; exact La.2
      · exact (hn1 c (nfa c e).1).2
  | _ =>
    walk_at "sx"
    exact q _ [] _ ⟨Same.refl _, by constructor, by simp, .nil⟩
theorem sc_check_value : FnScope ["value", "path"] ["value"] (defScope s_check_value) := ⟨rfl, rfl, rfl, by decide +kernel, rfl, by decide +kernel, by decide +kernel⟩
def sp_check : Sp := S1 fun v H Q _ => ∃ d fp, Tr H v d fp ∧ okB d = true ∧ d.depth < 8 ∧ ∀ H', Same H H' → Q .non H'
theorem ok_check (F : Df g.K "check_value" "check_value" s_check_value f fd .none) (T : Txt g) (F_wrong_path : Kn g "wrong_path" 9 ["value", "path"] [] (sp_path 8)) : FnG g 10 f fd ["value"] sp_check := by
  refine F.ok sc_check_value (fun vs H Q E h => S1.len h) (fun cdv A outer s H vs Q E hr h => ?_)
  obtain ⟨v, rfl, d, fp, hv, hok, hn, q⟩ := h
  refine ⟨_, (pss_cons (ps_set (i := 1) sc_check_value.nd rfl (Or.inl rfl) (pe_callG F_wrong_path (hr.mono (by first | decide | omega)) tkD (pa_cons (pv 0) (pa_cons (pe_tup pa_nil) pa_nil))))
      (pss_one (ps_if (pt_cmpR op_notN (pv 1) pe_non (nomark _)) (pss_one ps_never) pss_nil))), ?_⟩
  walk_at "sx"
  intro p hp
  have sp := same_upd (o := HO.tup []) hp
  refine ⟨_, _, rfl, d, fp, p, [], hv.same sp, hok, rfl, upd_same, by simp; omega, hn, fun H' s' => ?_⟩
  walk_at "sx"
  exact q _ (sp.trans s')
theorem sc_copied : FnScope ["value"] ["value"] (defScope s_copied) := ⟨rfl, rfl, rfl, by decide +kernel, rfl, by decide +kernel, by decide +kernel⟩
def sp_copied : Sp := S1 fun v H Q _ => ∃ d fp, Tr H v d fp ∧ okB d = true ∧ d.depth < 8 ∧ ∀ v' fp' H', Cpy H H' d v' fp' → Q v' H'
theorem ok_copied (F : Df g.K "copied" "copied" s_copied f fd .none) (T : Txt g) (F_check_value : Kn g "check_value" 10 ["value"] [] sp_check) (F_rebuilt : Kn g "rebuilt" 9 ["value"] [] (sp_reb 8)) : FnG g 11 f fd ["value"] sp_copied := by
  refine F.ok sc_copied (fun vs H Q E h => S1.len h) (fun cdv A outer s H vs Q E hr h => ?_)
  obtain ⟨v, rfl, d, fp, hv, hok, hn, q⟩ := h
  refine ⟨_, (pss_cons (ps_expr (pe_callG F_check_value (hr.mono (by first | decide | omega)) tkD (pa_cons (pv 0) pa_nil)))
      (pss_one (ps_ret (pe_callG F_rebuilt (hr.mono (by first | decide | omega)) tkD (pa_cons (pv 0) pa_nil))))), ?_⟩
  walk_at "sx"
  refine ⟨_, rfl, d, fp, hv, hok, hn, fun H1 s1 => ?_⟩
  walk_at "sx"
  refine ⟨_, rfl, d, fp, hv.same s1, hok, hn, fun v' fp' H2 C => q v' fp' H2 ⟨s1.trans C.sm, C.tr, fun c hc => ?_, C.nd⟩⟩
  cases e : H c with
  | none => rfl
  | some o => have := s1 _ _ e; rw [C.nw c hc] at this; cases this
theorem sc_is_value : FnScope ["value"] ["value"] (defScope s_is_value) := ⟨rfl, rfl, rfl, by decide +kernel, rfl, by decide +kernel, by decide +kernel⟩
def sp_isv : Sp := S1 fun v H Q _ => ∃ d fp, Tr H v d fp ∧ okB d = true ∧ d.depth < 8 ∧ ∀ H', Same H H' → Q (.bl true) H'
theorem ok_isv (F : Df g.K "is_value" "is_value" s_is_value f fd .none) (T : Txt g) (F_wrong_path : Kn g "wrong_path" 9 ["value", "path"] [] (sp_path 8)) : FnG g 10 f fd ["value"] sp_isv := by
  refine F.ok sc_is_value (fun vs H Q E h => S1.len h) (fun cdv A outer s H vs Q E hr h => ?_)
  obtain ⟨v, rfl, d, fp, hv, hok, hn, q⟩ := h
  refine ⟨_, (pss_one (ps_ret (pe_cmpR op_isN (pe_callG F_wrong_path (hr.mono (by first | decide | omega)) tkD (pa_cons (pv 0) (pa_cons (pe_tup pa_nil) pa_nil))) pe_non (nomark _)))), ?_⟩
  walk_at "sx"
  intro p hp
  have sp := same_upd (o := HO.tup []) hp
  refine ⟨_, _, rfl, d, fp, p, [], hv.same sp, hok, rfl, upd_same, by simp; omega, hn, fun H' s' => ?_⟩
  walk_at "sx"
  exact q _ (sp.trans s')
theorem sc_is_key : FnScope ["value"] ["value"] (defScope s_is_key) := ⟨rfl, rfl, rfl, by decide +kernel, rfl, by decide +kernel, by decide +kernel⟩
def sp_iskey : Sp := S1 fun v H Q _ => ∃ x, v = .str x ∧ x.length ≤ 200 ∧ 1 ≤ x.length ∧ Q (.bl true) H
theorem ok_iskey (F : Df g.K "is_key" "is_key" s_is_key f fd .none) (T : Txt g) : FnG g 1 f fd ["value"] sp_iskey := by
  refine F.ok sc_is_key (fun vs H Q E h => S1.len h) (fun cdv A outer s H vs Q E hr h => ?_)
  obtain ⟨_, rfl, x, rfl, h1, h2, q⟩ := h
  refine ⟨_, (pss_one (ps_ret (pe_and (pe_callB (c_is "str") (by rfl) T.b_isinstance bb_isinstance (pa_cons (pv 0) (pa_cons (pe_bltn (v := .ty "str") rfl T.b_str bb_str rfl) pa_nil))) (pe_one (pe_chain op_le op_le pe_int (pe_callB (c_len (K := g.K)) (by rfl) T.b_len bb_len (pa_cons (pv 0) pa_nil)) (e_g T.c_MOST_KEY)))))), ?_⟩
  walk_at "sx"
  refine ⟨by omega, ?_⟩
  rw [if_pos (by simp; omega)]
  have e : decide (((x.length : Nat) : Int) ≤ 200) = true := by simp; omega
  rw [e]
  exact q
end
/-- a mapping in the heap -/
structure MapAt (H : Hp) (v : V) (D : List (PyData × PyData)) (fp : List Addr) : Prop where
  tr : Tr H v (.dict D) fp
  ok : okB (.dict D) = true
  dep : (PyData.dict D).depth < 7
  key : ∀ p ∈ D, ∃ x : Str, p.1 = .str x ∧ 1 ≤ x.length ∧ x.length ≤ 200
  small : (note (.dict D)).length ≤ 1000000
theorem MapAt.same {H H' : Hp} {v : V} {D : List (PyData × PyData)} {fp : List Addr} (h : MapAt H v D fp) (s : Same H H') : MapAt H' v D fp := ⟨h.tr.same s, h.ok, h.dep, h.key, h.small⟩
theorem paired_len {α β : Type} {F : α → β → Prop} : ∀ {xs : List α} {ys : List β}, Paired F xs ys → xs.length = ys.length
  | _, _, .nil => rfl
  | _, _, .cons h hs => by simp [paired_len hs]
theorem paired_at {α β : Type} {F : α → β → Prop} : ∀ {xs : List α} {ys : List β}, Paired F xs ys → ∀ (i : Nat) (x : α), xs[i]? = some x → ∃ y, F x y
  | _, _, .cons h hs, 0, x, e => by cases e; exact ⟨_, h⟩
  | _, _, .cons h hs, i + 1, x, e => paired_at hs i x (by simpa using e)
  | _, _, .nil, _, _, e => by simp at e
section
variable {g : Wd} {f : Addr} {fd : FuncData} {CI : Addr}
theorem sc_are_alike : FnScope ["one", "other"] ["one", "other"] (defScope s_are_alike) := ⟨rfl, rfl, rfl, by decide +kernel, rfl, by decide +kernel, by decide +kernel⟩
def sp_alike : Sp := S2 fun v u H Q _ => ∃ d fd e fe, Tr H v d fd ∧ Tr H u e fe ∧ okB d = true ∧ okB e = true ∧ d.depth < 8 ∧ e.depth < 8 ∧ (note d).length ≤ 1000000 ∧ (note e).length ≤ 1000000 ∧ ∀ H', Same H H' → Q (.bl (decide (note d = note e))) H'
theorem ok_alike (F : Df g.K "are_alike" "are_alike" s_are_alike f fd .none) (T : Txt g) (F_value_notation : Kn g "value_notation" 9 ["value"] [] (sp_vnote 8)) : FnG g 10 f fd ["one", "other"] sp_alike := by
  refine F.ok sc_are_alike (fun vs H Q E h => S2.len h) (fun cdv A outer s H vs Q E hr h => ?_)
  obtain ⟨_, _, rfl, d, f1, e, f2, h1, h2, o1, o2, d1, d2, l1, l2, q⟩ := h
  refine ⟨_, (pss_one (ps_ret (pe_cmpR (o_eq (K := g.K) hr) (pe_callG F_value_notation (hr.mono (by first | decide | omega)) tkD (pa_cons (pv 0) pa_nil)) (pe_callG F_value_notation (hr.mono (by first | decide | omega)) tkD (pa_cons (pv 1) pa_nil)) (nomark _)))), ?_⟩
  walk_at "sx"
  refine ⟨_, rfl, d, f1, h1, o1, d1, l1, fun H1 s1 => ?_⟩
  refine ⟨_, rfl, e, f2, h2.same s1, o2, d2, l2, fun H2 s2 => ?_⟩
  dsimp only
  rw [RS.eq_ss]
  exact q _ (s1.trans s2)
theorem sc_check_mappings : FnScope ["mappings", "mapping", "key"] ["mappings"] (defScope s_check_mappings) := ⟨rfl, rfl, rfl, by decide +kernel, rfl, by decide +kernel, by decide +kernel⟩
def sp_cmaps : Sp := S1 fun q H Q _ => ∃ a vs Ds, q = .ref a ∧ H a = some (.tup vs) ∧ Paired (fun v D => ∃ fp, MapAt H v D fp) vs Ds ∧ Ds.length ≤ 5 ∧ ∀ H', Same H H' → Q .non H'
theorem ok_cmaps (F : Df g.K "check_mappings" "check_mappings" s_check_mappings f fd .none) (hbS : ∀ us rest : List Value, us.length = ([] : List Str).length → bindArgs fd ⟨us ++ rest, []⟩ = (newTuple rest >>= fun t => pure (([] : List Str).zip us ++ [(("mappings" : Str), t)]))) (T : Txt g) (F_is_key : Kn g "is_key" 1 ["value"] [] sp_iskey) (F_is_value : Kn g "is_value" 10 ["value"] [] sp_isv)
    (X_InvalidMapping : XK1 g "InvalidMapping" CI "given") (RI : PySem.W.subIn g.K (.ref CI) (.type "BaseException") = some true ∧ PySem.W.typeIn g.K (.ref CI) = some (.type "type")) : FnS g 12 f (spS 0 sp_cmaps) := by
  refine F.okS (ps := []) (pv := "mappings") sc_check_mappings hbS (fun cdv A outer s H vs Q E hr h => ?_)
  obtain ⟨_, rfl, a, vs, Ds, rfl, ha, pr, dl, q⟩ := h
  have R_InvalidMapping := raises_own (X := cx g ["mappings", "mapping", "key"] "check_mappings" s_check_mappings f cdv A outer s H E) RI.1 RI.2
  refine ⟨_, (pss_one (ps_for psD rfl (i_tup (K := g.K) (pv 0)) (pg_name (i := 1) sc_check_mappings.nd rfl (.inr rfl)) (pss_one (ps_if (PW.pt (pw_or (pt_not (pt_val (pe_callB (c_is "dict") (by rfl) T.b_isinstance bb_isinstance (pa_cons (pv 1) (pa_cons (pe_bltn (v := .ty "dict") rfl T.b_dict bb_dict rfl) pa_nil))))) (pw_or1 (pt_not (pt_val (pe_callB (c_all (K := g.K)) (by rfl) T.b_all bb_all (pa_cons (pe_lock (pe_lc (own := [("key", 2)]) (tt := tYes) rfl sc_check_mappings.nd (pi_keys (pv 1)) (blkOk_by (own := [("key", 2)]) (N := ["mappings", "mapping", "key"]) (sc := defScope s_check_mappings) (by decide +kernel)) (fun _ _ _ _ _ => (pg_name (i := 2) sc_check_mappings.nd rfl (.inl rfl))) (fun _ _ _ _ _ => pts_nil) (fun _ _ _ _ _ => (pe_and (pe_callG F_is_key (Rm.mono (Rm.mk hr.room hr.gd) (by first | decide | omega)) L2.takes0 (pa_cons (pv 2) pa_nil)) (pe_one (pe_callG F_is_value (Rm.mono (Rm.mk hr.room hr.gd) (by first | decide | omega)) L2.takes0 (pa_cons (pe_dget (hu_of (Rm.mk hr.room hr.gd).room) (pv 1) (pv 2) (fun _ _ => rfl)) pa_nil))))))) pa_nil))))))) (pss_one (ps_raise rfl tkD (pmk_x1 X_InvalidMapping R_InvalidMapping (hr.mono (by first | decide | omega)) (pa_cons (pv 1) pa_nil)))) pss_nil)))), ?_⟩
  walk_at "sx"
  have ln : vs.length = Ds.length := paired_len pr
  refine ⟨⟨_, SqT.of ha⟩, ?_⟩
  refine for_by vs.length (fun i σ X => (∃ v1, σ = [some (.ref a), v1, none]) ∧ Same H X) ⟨⟨_, rfl⟩, Same.refl _⟩ (fun i σ X lt P => ⟨_, vs[i], SqT.of (P.2 _ _ ha), by simp [lt]⟩) (fun σ X P => ⟨_, SqT.of (P.2 _ _ ha), Nat.le_refl _⟩) (fun i σ X z X' lt P yl => ?_) (fun σ X P => q _ P.2)
  obtain ⟨⟨v1, rfl⟩, sX⟩ := P
  obtain ⟨rfl, hx⟩ := yl
  have hx := hx _ (SqT.of (sX _ _ ha))
  obtain ⟨D, fp, hm⟩ := paired_at pr i z hx
  have hm := hm.same sX
  obtain ⟨tr, ok, dep, key, small⟩ := hm
  cases tr with
  | @dct b kvs _ fp h hs na nd =>
    simp only [okB, Bool.and_eq_true, decide_eq_true_eq] at ok
    have hl : kvs.length ≤ 10000 := by rw [hs.len]; exact ok.1
    have hd : PyData.depthKv D < 7 := by simp only [PyData.depth] at dep; omega
    walk_at "sx"
    refine ⟨_, tyN_d h, ?_⟩
    rw [if_neg (by decide)]
    refine ⟨b, _, h, True.intro, fun od => ⟨od, .inl ⟨kvs, upd_same, ?_⟩⟩⟩
    have hs1 : TrD (upd X' b (.frz od (.dK kvs))) kvs D fp := hs.but (p := b) (fun xs z => by rw [h] at z; cases z) (fun c o n z => by rw [upd_ne n]; exact z) na
    refine lc_all kvs.length (fun _ => .bl true) (by rw [sizeLine_eq]; omega) (fun i G' lt s => ⟨s _ _ upd_same, lt⟩) (fun G' s => ⟨s _ _ upd_same, Nat.le_refl _⟩) (fun i G' x G'' K lt s yl k => ?_) (fun L G' hL s eL => ?_)
    · obtain ⟨rfl, k0, v0, hk, rfl⟩ := yl
      obtain ⟨x, v, d, f', e1, e2, t, _⟩ := hs1.get lt
      rw [hk] at e1
      cases e1
      obtain ⟨x', ex, k1, k2⟩ := key _ (List.mem_of_getElem? e2)
      cases ex
      have b1 := depth_kv e2
      refine ⟨rfl, ?_⟩
      simp only [kV, tRet, tRetN, tSeq, C8.tCut, tNext, tAsg, gName, gNil, gCons, gTup, gFld, tIfS, tIf, tAndV, tOrV, tNotV, tAnd, tOr, tNot, tB, tTest, tOp, tUn, tCB, tCons, tNil, tVar, tC, tChain, tDrop, RS.tCallG, RS.tMethG, tMakeG, RS.tCallK, RS.tMakeK, tEqOwn, rI, rI0, rU, add_ii, add_ss, add_rr, mul_ii, mul_si, mul_ri, RS.eq_ii, RS.eq_ss, eq_bb, eq_nn, eq_sn, eq_ns, eq_in, eq_ni, eq_bn, eq_nb, eq_is, eq_si, eq_rr, ne_ii, ne_ss, ne_bb, ne_nn, ne_sn, ne_ns, ne_in, ne_ni, ne_is, ne_si, ne_rr, in_ss, in_r, nin_ss, nin_r, len_s, len_r, RS.ix_s, RS.ix_r, sl_s, sl_r, is_eq, tyN_n, tyN_b, tyN_i, tyN_s, tru_b, tru_i, tru_n, tSl, tPart, tNoPart, tPar, tPar3, tFmtZ, tFmt, tJs, tDGet, sDPut, sFld, tFld, tTup, tLst, tNever, isB,
  L2.start, List.map_cons, List.map_nil, List.length_cons, List.length_nil, Nat.reduceAdd, Nat.reduceSub, Nat.sub_self, List.replicate_zero, List.replicate_succ, List.append_nil, List.cons_append, List.nil_append, List.getElem?_cons_zero, List.getElem?_cons_succ, List.set_cons_zero, List.set_cons_succ, Option.some.injEq, exists_eq_left, exists_eq_left', exists_and_left, V.bl.injEq, V.int.injEq, V.str.injEq, V.ref.injEq, beq_self_eq_true, Bool.true_or, Bool.or_true, Bool.false_or, Bool.or_false, Bool.and_false, Bool.false_and, Bool.true_and, Bool.and_true, Bool.not_true, Bool.not_false, Bool.false_eq_true, if_true, if_false, ite_true, ite_false, true_and, and_true, and_assoc, String.reduceBEq, String.reduceEq, reduceIte, Bool.and_self, reduceCtorEq, false_and, and_false, exists_false, or_false, false_or, exists_const, iEnumS, iStr, iList, iTup, iRng1, iEnum, tFor_eq, tLc_eq, List.cons.injEq, wipe, not_true_eq_false, not_false_eq_true, upd_same, HO.ins.injEq, HO.tup.injEq, HO.lst.injEq, ofS_eq, lk_nil, lk_cons, pu_nil, pu_cons, sizeLine_eq, Nat.reduceLT, Nat.reduceLeDiff, Nat.reduceEqDiff, Nat.le_refl, decide_true, decide_false, tPr, dget_us, dput_us, vv_nil, vv_cons, RS.pk_nil, pk_one, RS.pk_cons, inr_eq, tDisp, tPairs, tBoolOwn, rBoolOwn, tBM, rAppend, ty_list, ty_str, rEqOwn, iEnumT, RS.tCallS, tM1, tDc_eq, tLock, tLockE, iKeys, tListEnum, rUpdate, tMkX0, tMkX1, tXfv, gSub, rSetL, List.getD_cons_zero, List.getD_cons_succ, tBreak, tCMethS, ClX.tCVal, tXfa, tIxOwn, tInOwn, tPropG, tMethK, tMethP, tListGen, tDGet2, tDPop2, rNeD0, intA_i, intA_b, tRevL, sFldAug, tPm0, tPm1, tDIn, tDNotIn, tDNewK, RS.tMethS, tForK, tKM, tKC, tLcK, tKM2, tKC2, tMethStar, tKCK2, tLk, tAug, ipI, tDig, tLcX, tKMX, tKCX]
      refine ⟨_, rfl, x, rfl, k2, k1, _, rfl, ?_⟩
      rw [if_pos rfl]
      refine ⟨v0, .inl ⟨kvs, .inr x, .inr ⟨od, s _ _ upd_same⟩, rfl, (valV_at nd hk).symm⟩, _, rfl, d, f', t.same s, (okKv_get ok.2 e2).2, by omega, fun H' s' => k _ s'⟩
    · refine ⟨s _ _ upd_same, L, List.replicate kvs.length true, rfl, SqL.of ?_, ?_⟩
      · rw [upd_ne (fresh_lock hL).1, eL]
        congr 2
        rw [List.map_replicate]
        exact List.ext_getElem (by simp) (by simp)
      · have e : (List.replicate kvs.length true).all id = true := by simp [List.all_eq_true]
        rw [e]
        refine ⟨_, rfl, ?_⟩
        rw [if_neg (by simp)]
        exact ⟨⟨_, rfl⟩, sX.trans (unlock h s)⟩
end
/-- the value at a key -/
def look (D : List (PyData × PyData)) (x : Str) : Option PyData := match D with
  | [] => none
  | (.str y, d) :: r => if x = y then some d else look r x
  | _ :: r => look r x
theorem dget_x {H : Hp} {a : Addr} {kvs : List (Key × V)} {x : Str} (h : Rd H a (.dK kvs)) : DGet H a (.str x) (valV kvs (.inr x)) := .inl ⟨kvs, .inr x, h, rfl, rfl⟩
/-- a mapping in the heap, locked or not -/
structure MapR (H : Hp) (v : V) (D : List (PyData × PyData)) (fp : List Addr) : Prop where
  ex : ∃ a kvs, v = .ref a ∧ Rd H a (.dK kvs) ∧ TrD H kvs D fp ∧ (kvs.map (·.1)).Nodup
  ok : okB (.dict D) = true
  dep : (PyData.dict D).depth < 7
  key : ∀ p ∈ D, ∃ x : Str, p.1 = .str x ∧ 1 ≤ x.length ∧ x.length ≤ 200
  small : (note (.dict D)).length ≤ 1000000
theorem MapR.same {H H' : Hp} {v : V} {D : List (PyData × PyData)} {fp : List Addr} (h : MapR H v D fp) (s : Same H H') : MapR H' v D fp := by
  obtain ⟨⟨a, kvs, e, r, t, nd⟩, ok, dep, key, small⟩ := h
  exact ⟨⟨a, kvs, e, r.imp (s _ _) fun ⟨od, z⟩ => ⟨od, s _ _ z⟩, t.same s, nd⟩, ok, dep, key, small⟩
/-- the keys -/
def keysOf : List (PyData × PyData) → List Str
  | [] => []
  | (.str x, _) :: r => x :: keysOf r
  | _ :: r => keysOf r
def addK (ks : List Str) (x : Str) : List Str := if x ∈ ks then ks else ks ++ [x]
theorem trD_keys {H : Hp} : ∀ {kvs : List (Key × V)} {D : List (PyData × PyData)} {fp : List Addr}, TrD H kvs D fp → kvs.map (·.1) = (keysOf D).map Sum.inr
  | _, _, _, .nil => rfl
  | _, _, _, .cons h hs => by simp only [List.map_cons, keysOf]; rw [trD_keys hs]
theorem putK_keys {kvs : List (Key × V)} {ks : List Str} {x : Str} {v : V} (h : kvs.map (·.1) = ks.map Sum.inr) : (putK kvs (.inr x) v).map (·.1) = (addK ks x).map Sum.inr := by
  have e : (kvs.any fun kv => decide (kv.1 = .inr x)) = decide (x ∈ ks) := by
    rw [show (kvs.any fun kv => decide (kv.1 = .inr x)) = (kvs.map (·.1)).any fun k => decide (k = .inr x) from by rw [List.any_map]; rfl, h]
    rw [Bool.eq_iff_iff]
    simp
  unfold putK addK
  by_cases hx : x ∈ ks
  · rw [if_pos (by rw [e]; simp [hx]), if_pos hx, List.map_map, ← h]
    refine List.map_congr_left fun p _ => ?_
    simp only [Function.comp]
    split <;> rfl
  · rw [if_neg (by rw [e]; simp [hx]), if_neg hx, List.map_append, List.map_append, h]; rfl
inductive Dd where
  | put (x : Str) (d : PyData)
  | drop (x : Str)
def isK (k : PyData) (x : Str) : Bool := match k with
  | .str y => decide (y = x)
  | _ => false
def putD : List (PyData × PyData) → Str → PyData → List (PyData × PyData)
  | [], x, d => [(.str x, d)]
  | p :: r, x, d => if isK p.1 x = true then (.str x, d) :: r else p :: putD r x d
def dropD (D : List (PyData × PyData)) (x : Str) : List (PyData × PyData) := D.filter fun p => !isK p.1 x
def apD (D : List (PyData × PyData)) : Dd → List (PyData × PyData)
  | .put x d => putD D x d
  | .drop x => dropD D x
def apDs (D : List (PyData × PyData)) (ds : List Dd) : List (PyData × PyData) := ds.foldl apD D
theorem valV_mem {kvs : List (Key × V)} {k : Key} {u : V} (h : valV kvs k = some u) : k ∈ kvs.map (·.1) := by
  unfold valV at h
  cases e : kvs.find? (fun kv => decide (kv.1 = k)) with
  | none => rw [e] at h; cases h
  | some p =>
    have h1 := List.find?_some e
    exact List.mem_map.mpr ⟨p, List.mem_of_find?_eq_some e, by simpa using h1⟩
theorem trD_put {H : Hp} {x : Str} {v : V} {d : PyData} {f : List Addr} (t : Tr H v d f) : ∀ {kvs : List (Key × V)} {D : List (PyData × PyData)} {fp : List Addr}, TrD H kvs D fp → (kvs.map (·.1)).Nodup → ∃ fp', TrD H (putK kvs (.inr x) v) (putD D x d) fp' ∧ ∀ c ∈ fp', c ∈ fp ∨ c ∈ f
  | _, _, _, .nil, _ => ⟨_, .cons t .nil, fun c hc => .inr (by simpa using hc)⟩
  | _, _, _, .cons (x := y) (kvs := r) (f1 := f1) h hs, nd => by
    have nd' := List.nodup_cons.mp nd
    have hr : valV r (.inr y) = none := by
      cases e : valV r (.inr y) with
      | none => rfl
      | some u => exact absurd (valV_mem e) nd'.1
    rw [RS.pk_cons (hr := hr)]
    by_cases e : y = x
    · subst e
      rw [if_pos rfl, putD, if_pos (by simp [isK])]
      exact ⟨_, .cons t hs, fun c hc => (List.mem_append.mp hc).elim .inr fun z => .inl (List.mem_append_right _ z)⟩
    · have e2 : ¬ (.inr y : Key) = .inr x := fun z => e (Sum.inr.inj z)
      rw [if_neg e2, putD, if_neg (by simp [isK, e])]
      obtain ⟨fp', t', k⟩ := trD_put t hs nd'.2
      refine ⟨_, .cons h t', fun c hc => ?_⟩
      rcases List.mem_append.mp hc with z | z
      · exact .inl (List.mem_append_left _ z)
      · exact (k c z).imp (List.mem_append_right _) id
theorem trD_drop {H : Hp} {x : Str} : ∀ {kvs : List (Key × V)} {D : List (PyData × PyData)} {fp : List Addr}, TrD H kvs D fp → ∃ fp', TrD H (kvs.filter fun p => decide (p.1 ≠ .inr x)) (dropD D x) fp' ∧ ∀ c ∈ fp', c ∈ fp
  | _, _, _, .nil => ⟨_, .nil, fun c hc => hc⟩
  | _, _, _, .cons (x := y) (f1 := f1) h hs => by
    obtain ⟨fp', t', k⟩ := trD_drop (x := x) hs
    by_cases e : y = x
    · subst e
      refine ⟨fp', ?_, fun c hc => List.mem_append_right _ (k c hc)⟩
      rw [List.filter_cons, if_neg (by simp), dropD, List.filter_cons, if_neg (by simp [isK])]
      exact t'
    · refine ⟨f1 ++ fp', ?_, fun c hc => ?_⟩
      · rw [List.filter_cons, if_pos (by simp [e]), dropD, List.filter_cons, if_pos (by simp [isK, e])]
        exact .cons h t'
      · rcases List.mem_append.mp hc with z | z
        · exact List.mem_append_left _ z
        · exact List.mem_append_right _ (k c z)
theorem nd_put {kvs : List (Key × V)} {ks : List Str} {x : Str} {v : V} (e : kvs.map (·.1) = ks.map Sum.inr) (nd : (kvs.map (·.1)).Nodup) : ((putK kvs (.inr x) v).map (·.1)).Nodup := by
  rw [putK_keys e]
  rw [e] at nd
  have n2 : ks.Nodup := (List.pairwise_map.mp nd).imp fun h e => h (by rw [e])
  have n3 : (addK ks x).Nodup := by
    unfold addK
    split
    · exact n2
    · rename_i h
      exact List.nodup_append.mpr ⟨n2, by simp, fun a ha b hb e => h (by simp only [List.mem_singleton] at hb; subst hb; subst e; exact ha)⟩
  exact List.pairwise_map.mpr (n3.imp fun h e => h (Sum.inr.inj e))
theorem dc_invB {J : It} {g : TG} {tt : TT} {tk tv : TE} {vs : List Nat} {σ : L2.St} {H1 : Hp} {Qf : VK} (n : Nat) (Pv : Addr → Nat → List (Key × V) → Hp → Prop)
    (h0 : ∀ D, H1 D = none → Pv D 0 [] (upd H1 D (.dK []))) (hgo : ∀ D i acc H, H1 D = none → i < n → Pv D i acc H → J.go i H) (hst : ∀ D acc H, H1 D = none → Pv D n acc H → J.stop n H)
    (hs : ∀ D i acc H x H' (K : V → V → Hp → Prop) (N : Hp → Prop), H1 D = none → i < n → Pv D i acc H → H D = some (.dK acc) → J.yld i H x H' → (∀ k z H5, H5 D = some (.dK acc) → acc.length < sizeLine → Pv D (i + 1) (putK acc k z) (upd H5 D (.dK (putK acc k z))) → K (kV k) z H5) →
      (∀ H5, H5 D = some (.dK acc) → Pv D (i + 1) acc H5 → N H5) → g x (wipe σ vs) H' fun σ2 H2 => wipe σ2 vs = wipe σ vs ∧ tt σ2 H2 fun b H3 => if b = true then tk σ2 H3 (fun y H4 => tv σ2 H4 fun z H5 => K y z H5) else N H3)
    (hd : ∀ D acc H, H1 D = none → Pv D n acc H → H D = some (.dK acc) → Qf (.ref D) H) : DcB J g tt tk tv vs σ H1 Qf := by
  intro D hD
  let W : Nat → Hp → Prop := fun i H => ∃ acc, Pv D i acc H ∧ H D = some (.dK acc)
  refine ⟨fun i m H => m = n - i ∧ i ≤ n ∧ W i H, ⟨n, by omega, Nat.zero_le _, [], h0 D hD, upd_same⟩, ?_⟩
  rintro i m H ⟨rfl, hi, acc, pv, eD⟩
  by_cases lt : i < n
  · exact .inr ⟨hgo D i acc H hD lt pv, W (i + 1), fun H' w => ⟨n - (i + 1), by omega, rfl, lt, w⟩, fun x H' y =>
      hs D i acc H x H' _ (W (i + 1)) hD lt pv eD y (fun k z H5 e5 l5 p5 => ⟨acc, k, rfl, e5, l5, _, p5, upd_same⟩) fun H5 e5 p5 => ⟨acc, p5, e5⟩⟩
  · have e : i = n := by omega
    subst e
    exact .inl ⟨hst D acc H hD pv, hd D acc H hD pv eD⟩
theorem pairedO {α β : Type} {F : α → β → Prop} : ∀ {xs : List α} {ys : List β}, Paired F xs ys → ∀ {i : Nat} {x : α}, xs[i]? = some x → ∃ y, ys[i]? = some y ∧ F x y
  | _, _, .cons h hs, 0, x, e => by cases e; exact ⟨_, rfl, h⟩
  | _, _, .cons h hs, i + 1, x, e => by obtain ⟨y, a, b⟩ := pairedO hs (i := i) (by simpa using e); exact ⟨y, by simpa using a, b⟩
  | _, _, .nil, _, _, e => by simp at e
/-- a deed in the heap -/
def DdAt (H : Hp) (v : V) : Dd → Prop
  | .put x d => ∃ t w f, v = .ref t ∧ H t = some (.tup [.str "put", .str x, w]) ∧ Tr H w d f ∧ okB d = true ∧ d.depth < 8
  | .drop x => ∃ t, v = .ref t ∧ H t = some (.tup [.str "drop", .str x])
theorem DdAt.same {H H' : Hp} {v : V} {dd : Dd} (h : DdAt H v dd) (s : Same H H') : DdAt H' v dd := by
  cases dd with
  | put x d => obtain ⟨t, w, f, a, b, c, e⟩ := h; exact ⟨t, w, f, a, s _ _ b, c.same s, e⟩
  | drop x => obtain ⟨t, a, b⟩ := h; exact ⟨t, a, s _ _ b⟩
section
variable {g : Wd} {f : Addr} {fd : FuncData} {CX : Addr}
theorem sc_applied : FnScope ["mapping", "deeds", "found", "deed", "key"] ["mapping", "deeds"] (defScope s_applied) := ⟨rfl, rfl, rfl, by decide +kernel, rfl, by decide +kernel, by decide +kernel⟩
def sp_applied : Sp := S2 fun m v H Q _ => ∃ D fp a vs dds, Tr H m (.dict D) fp ∧ okB (.dict D) = true ∧ (PyData.dict D).depth < 8 ∧ v = .ref a ∧ H a = some (.tup vs) ∧ Paired (DdAt H) vs dds ∧ D.length + dds.length ≤ 10000 ∧
  ∀ r G fr, Same H G → Tr G (.ref r) (.dict (apDs D dds)) fr → (∀ c ∈ fr, H c = none) → Q (.ref r) G
theorem ok_applied (F : Df g.K "applied" "applied" s_applied f fd .none) (T : Txt g) (F_copied : Kn g "copied" 11 ["value"] [] sp_copied) : FnG g 12 f fd ["mapping", "deeds"] sp_applied := by
  refine F.ok sc_applied (fun vs H Q E h => S2.len h) (fun cdv A outer s H vs Q E hr h => ?_)
  obtain ⟨m, v, rfl, D, fp, a, vs, dds, tr, ok, dep, rfl, ha, pr, ln, q⟩ := h
  refine ⟨_, (pss_cons (ps_set (i := 2) sc_applied.nd rfl (Or.inr rfl) (pe_lock (pe_dc (own := [("key", 4)]) (tt := tYes) rfl sc_applied.nd (pi_keys (pv 0)) (blkOk_by (own := [("key", 4)]) (N := ["mapping", "deeds", "found", "deed", "key"]) (sc := defScope s_applied) (by decide +kernel)) (fun _ _ _ _ _ => (pg_name (i := 4) sc_applied.nd rfl (.inl rfl))) (fun _ _ _ _ _ => pts_nil) (fun _ _ _ _ _ => (pv 4)) (fun _ _ _ _ _ => (pe_callG F_copied (Rm.mono (Rm.mk hr.room hr.gd) (by first | decide | omega)) L2.takes0 (pa_cons (pe_dget (hu_of (Rm.mk hr.room hr.gd).room) (pv 0) (pv 4) (fun _ _ => rfl)) pa_nil))))))
      (pss_cons (ps_for psD rfl (i_tup (K := g.K) (pv 1)) (pg_name (i := 3) sc_applied.nd rfl (.inr rfl)) (pss_one (ps_if (pt_cmpR (o_eq (K := g.K) hr) (pe_ix (o_ix (K := g.K)) (pv 3) pe_int (fun _ _ => rfl)) pe_str (nomark _)) (pss_one (ps_dput (hu_of hr.room) (pv 2) (pe_ix (o_ix (K := g.K)) (pv 3) pe_int (fun _ _ => rfl)) (pe_callG F_copied (hr.mono (by first | decide | omega)) tkD (pa_cons (pe_ix (o_ix (K := g.K)) (pv 3) pe_int (fun _ _ => rfl)) pa_nil)) rfl)) (pss_one (ps_set (i := 2) sc_applied.nd rfl (Or.inr rfl) (pe_lock (pe_dc (own := [("key", 4)]) rfl sc_applied.nd (pi_keys (pv 2)) (blkOk_by (own := [("key", 4)]) (N := ["mapping", "deeds", "found", "deed", "key"]) (sc := defScope s_applied) (by decide +kernel)) (fun _ _ _ _ _ => (pg_name (i := 4) sc_applied.nd rfl (.inl rfl))) (fun _ _ _ _ _ => (pts_one (pt_cmpR (o_ne (K := g.K) (Rm.mk hr.room hr.gd)) (pv 4) (pe_ix (o_ix (K := g.K)) (pv 3) pe_int (fun _ _ => rfl)) (nomark _)))) (fun _ _ _ _ _ => (pv 4)) (fun _ _ _ _ _ => (pe_dget (hu_of (Rm.mk hr.room hr.gd).room) (pv 2) (pv 4) (fun _ _ => rfl))))))))))
      (pss_one (ps_ret (pv 2))))), ?_⟩
  walk_at "sx"
  cases tr with
  | @dct m kvs _ fp h hs na nd =>
  simp only [okB, Bool.and_eq_true, decide_eq_true_eq] at ok
  refine ⟨m, _, h, True.intro, fun od => ⟨m, rfl, od, .inl ⟨kvs, upd_same, ?_⟩⟩⟩
  have hlk : ∀ c o, c ≠ m → H c = some o → upd H m (.frz od (.dK kvs)) c = some o := fun c o n z => by rw [upd_ne n]; exact z
  have hs1 : TrD (upd H m (.frz od (.dK kvs))) kvs D fp := hs.but (p := m) (fun xs z => by rw [h] at z; cases z) hlk na
  have ea : upd H m (.frz od (.dK kvs)) m = some (.frz od (.dK kvs)) := upd_same
  have hu : ∀ G, Same (upd H m (.frz od (.dK kvs))) G → Same H (upd G m (.dK kvs)) := fun G sm => unlock h sm
  have hn1 : ∀ b, upd H m (.frz od (.dK kvs)) b = none → b ≠ m ∧ H b = none := fun b z => fresh_lock z
  generalize upd H m (.frz od (.dK kvs)) = H1 at hs1 ea hu hn1 ⊢
  have ll := hs.len
  refine dc_invA kvs.length (fun L i acc G => Same H1 G ∧ acc.map (·.1) = (kvs.map (·.1)).take i ∧ ∃ fa, TrD G acc (D.take i) fa ∧ (∀ c ∈ fa, H1 c = none ∧ c ≠ L)) (fun L hL => ⟨same_upd hL, rfl, [], .nil, by simp⟩) (fun L i acc G hL lt P => ⟨P.1 _ _ ea, lt⟩) (fun L acc G hL P => ⟨P.1 _ _ ea, Nat.le_refl _⟩) (fun L i acc G x G' K hL lt P eL y k => ?_) (fun L acc G hL P eL => ?_)
  · obtain ⟨sm, ek, fa, ta, nfa⟩ := P
    obtain ⟨rfl, k0, v0, hk, rfl⟩ := y
    obtain ⟨x, v, d, f', e1, e2, t, _⟩ := hs1.get lt
    rw [hk] at e1
    cases e1
    refine ⟨rfl, ?_⟩
    simp only [kV, tRet, tRetN, tSeq, C8.tCut, tNext, tAsg, gName, gNil, gCons, gTup, gFld, tIfS, tIf, tAndV, tOrV, tNotV, tAnd, tOr, tNot, tB, tTest, tOp, tUn, tCB, tCons, tNil, tVar, tC, tChain, tDrop, RS.tCallG, RS.tMethG, tMakeG, RS.tCallK, RS.tMakeK, tEqOwn, rI, rI0, rU, add_ii, add_ss, add_rr, mul_ii, mul_si, mul_ri, RS.eq_ii, RS.eq_ss, eq_bb, eq_nn, eq_sn, eq_ns, eq_in, eq_ni, eq_bn, eq_nb, eq_is, eq_si, eq_rr, ne_ii, ne_ss, ne_bb, ne_nn, ne_sn, ne_ns, ne_in, ne_ni, ne_is, ne_si, ne_rr, in_ss, in_r, nin_ss, nin_r, len_s, len_r, RS.ix_s, RS.ix_r, sl_s, sl_r, is_eq, tyN_n, tyN_b, tyN_i, tyN_s, tru_b, tru_i, tru_n, tSl, tPart, tNoPart, tPar, tPar3, tFmtZ, tFmt, tJs, tDGet, sDPut, sFld, tFld, tTup, tLst, tNever, isB,
  L2.start, List.map_cons, List.map_nil, List.length_cons, List.length_nil, Nat.reduceAdd, Nat.reduceSub, Nat.sub_self, List.replicate_zero, List.replicate_succ, List.append_nil, List.cons_append, List.nil_append, List.getElem?_cons_zero, List.getElem?_cons_succ, List.set_cons_zero, List.set_cons_succ, Option.some.injEq, exists_eq_left, exists_eq_left', exists_and_left, V.bl.injEq, V.int.injEq, V.str.injEq, V.ref.injEq, beq_self_eq_true, Bool.true_or, Bool.or_true, Bool.false_or, Bool.or_false, Bool.and_false, Bool.false_and, Bool.true_and, Bool.and_true, Bool.not_true, Bool.not_false, Bool.false_eq_true, if_true, if_false, ite_true, ite_false, true_and, and_true, and_assoc, String.reduceBEq, String.reduceEq, reduceIte, Bool.and_self, reduceCtorEq, false_and, and_false, exists_false, or_false, false_or, exists_const, iEnumS, iStr, iList, iTup, iRng1, iEnum, tFor_eq, tLc_eq, List.cons.injEq, wipe, not_true_eq_false, not_false_eq_true, upd_same, HO.ins.injEq, HO.tup.injEq, HO.lst.injEq, ofS_eq, lk_nil, lk_cons, pu_nil, pu_cons, sizeLine_eq, Nat.reduceLT, Nat.reduceLeDiff, Nat.reduceEqDiff, Nat.le_refl, decide_true, decide_false, tPr, dget_us, dput_us, vv_nil, vv_cons, RS.pk_nil, pk_one, RS.pk_cons, inr_eq, tDisp, tPairs, tBoolOwn, rBoolOwn, tBM, rAppend, ty_list, ty_str, rEqOwn, iEnumT, RS.tCallS, tM1, tDc_eq, tLock, tLockE, iKeys, tListEnum, rUpdate, tMkX0, tMkX1, tXfv, gSub, rSetL, List.getD_cons_zero, List.getD_cons_succ, tBreak, tCMethS, ClX.tCVal, tXfa, tIxOwn, tInOwn, tPropG, tMethK, tMethP, tListGen, tDGet2, tDPop2, rNeD0, intA_i, intA_b, tRevL, sFldAug, tPm0, tPm1, tDIn, tDNotIn, tDNewK, RS.tMethS, tForK, tKM, tKC, tLcK, tKM2, tKC2, tMethStar, tKCK2, tLk, tAug, ipI, tDig, tLcX, tKMX, tKCX]
    have b1 := depth_kv e2
    refine ⟨v0, .inl ⟨kvs, .inr x, .inr ⟨od, sm _ _ ea⟩, rfl, (valV_at nd hk).symm⟩, _, rfl, d, f', t.same sm, (okKv_get ok.2 e2).2, by simp only [PyData.depth] at dep; omega, fun v' fp' G2 C => ?_⟩
    have eL2 := C.sm _ _ eL
    have nL : ∀ ys, G2 L ≠ some (.tup ys) := fun ys z => by rw [eL2] at z; cases z
    have fL : L ∉ fp' := fun z => by rw [C.nw L z] at eL; cases eL
    have la : acc.length = i := by have := congrArg List.length ek; simp at this; omega
    have kn : (.inr x : Key) ∉ acc.map (·.1) := fun z => by
      rw [ek] at z
      obtain ⟨j, hj, ej⟩ := List.getElem_of_mem z
      simp at hj
      have h1 : (kvs.map (·.1))[j]? = some (.inr x) := by
        simp only [List.getElem_take] at ej
        rw [List.getElem?_eq_getElem (by simp; omega), ej]
      have h2 : (kvs.map (·.1))[i]? = some (.inr x) := by rw [List.getElem?_map, hk]; rfl
      have hj' : j < (kvs.map (·.1)).length := by simp; omega
      have hi' : i < (kvs.map (·.1)).length := by simpa using lt
      have := (List.pairwise_iff_getElem.mp nd) j i hj' hi' (by omega)
      rw [List.getElem?_eq_getElem hj'] at h1
      rw [List.getElem?_eq_getElem hi'] at h2
      exact this ((Option.some.inj h1).trans (Option.some.inj h2).symm)
    have ep := putK_new (v := v') kn
    have kL : ∀ c o, c ≠ L → G2 c = some o → upd G2 L (.dK (acc ++ [(.inr x, v')])) c = some o := fun c o n z => by rw [upd_ne n]; exact z
    refine k (.inr x) v' G2 eL2 (by rw [sizeLine_eq]; omega) ?_
    rw [ep]
    refine ⟨fun b o z => ?_, ?_, fa ++ fp', ?_, fun c hc => ?_⟩
    · have bL : b ≠ L := fun e => by rw [e, hL] at z; cases z
      rw [upd_ne bL]; exact C.sm _ _ (sm _ _ z)
    · rw [List.map_append, ek, List.take_add_one]
      simp [hk]
    · have e3 : D.take (i + 1) = D.take i ++ [(.str x, d)] := by rw [List.take_add_one]; simp [e2]
      rw [e3]
      exact TrD.snoc (C.tr.but nL kL fL) ((ta.same C.sm).but nL kL fun z => (nfa L z).2 rfl)
    · rcases List.mem_append.mp hc with h | h
      · exact nfa c h
      · refine ⟨?_, fun e => fL (e ▸ h)⟩
        cases e : H1 c with
        | none => rfl
        | some o => have := sm _ _ e; rw [C.nw c h] at this; cases this
  · obtain ⟨sm, ek, fa, ta, nfa⟩ := P
    rw [List.take_of_length_le (by omega)] at ta
    rw [List.take_of_length_le (by simp)] at ek
    have eaG := sm _ _ ea
    have La := hn1 L hL
    have af : m ∉ fa := fun z => by have := (nfa m z).1; rw [ea] at this; cases this
    have ka : ∀ c o, c ≠ m → G c = some o → upd G m (.dK kvs) c = some o := fun c o n z => by rw [upd_ne n]; exact z
    have sG := hu G sm
    have tG : TrD (upd G m (.dK kvs)) acc D fa := ta.but (fun ys z => by rw [eaG] at z; cases z) ka af
    have eL' : upd G m (.dK kvs) L = some (.dK acc) := by rw [upd_ne La.1]; exact eL
    have fr : ∀ c ∈ fa, H c = none := fun c hc => (hn1 c (nfa c hc).1).2
    have Lf : L ∉ fa := fun z => (nfa L z).2 rfl
    have nda : (acc.map (·.1)).Nodup := by rw [ek]; exact nd
    refine ⟨eaG, ?_⟩
    generalize upd G m (.dK kvs) = G0 at sG tG eL' ⊢
    refine ⟨⟨_, SqT.of (sG _ _ ha)⟩, ?_⟩
    have lpr := paired_len pr
    refine for_by vs.length (fun i σ X => (∃ r w3 w4, σ = [some (.ref m), some (.ref a), some (.ref r), w3, w4] ∧ Same H X ∧ H r = none ∧ ∃ ac fc, X r = some (.dK ac) ∧ TrD X ac (apDs D (dds.take i)) fc ∧ (∀ c ∈ fc, H c = none) ∧ r ∉ fc ∧ (ac.map (·.1)).Nodup ∧ ac.length ≤ D.length + i))
      ⟨L, _, _, rfl, sG, La.2, acc, fa, eL', tG, fr, Lf, nda, by rw [tG.len]; simp⟩ (fun i σ X lt P => ?_) (fun σ X P => ?_) (fun i σ X x X' lt P yl => ?_) (fun σ X P => ?_)
    · obtain ⟨r, w3, w4, rfl, sX, _⟩ := P
      exact ⟨_, vs[i], SqT.of (sX _ _ ha), by simp [lt]⟩
    · obtain ⟨r, w3, w4, rfl, sX, _⟩ := P
      exact ⟨_, SqT.of (sX _ _ ha), Nat.le_refl _⟩
    · obtain ⟨r, w3, w4, rfl, sX, hr0, ac, fc, er, tX, ff, rf, ndc, lc⟩ := P
      obtain ⟨rfl, hx⟩ := yl
      have hx := hx _ (SqT.of (sX _ _ ha))
      obtain ⟨dd, e2, hdd⟩ := pairedO pr hx
      have hdd := hdd.same sX
      have etk : apDs D (dds.take (i + 1)) = apD (apDs D (dds.take i)) dd := by
        rw [List.take_add_one, e2, apDs, apDs, List.foldl_append]; rfl
      rw [etk]
      generalize apDs D (dds.take i) = D1 at tX ⊢
      cases dd with
      | put z d =>
        obtain ⟨t, w, f', rfl, et, tw, okd, dd8⟩ := hdd
        walk_at "sx"
        refine ⟨_, .inr (SqT.of et), _, rfl, ?_⟩
        rw [RS.eq_ss]
        refine ⟨_, rfl, ?_⟩
        rw [if_pos (by simp)]
        refine ⟨_, .inr (SqT.of et), w, rfl, ?_⟩
        refine ⟨_, rfl, d, f', tw, okd, dd8, fun v' fp' G2 C => ?_⟩
        refine ⟨_, .inr (SqT.of (C.sm _ _ et)), .str z, rfl, ?_⟩
        have er2 := C.sm _ _ er
        have lz : ac.length < sizeLine := by rw [sizeLine_eq]; omega
        obtain ⟨fc', t', kf⟩ := trD_put (x := z) C.tr (tX.same C.sm) ndc
        have rf' : r ∉ fc' := fun c => (kf r c).elim rf fun c => by have := C.nw r c; rw [er] at this; cases this
        have sH : Same H (upd G2 r (.dK (putK ac (.inr z) v'))) := fun b o e => by
          have nb : b ≠ r := fun q => by rw [q, hr0] at e; cases e
          rw [upd_ne nb]; exact C.sm _ _ (sX _ _ e)
        refine ⟨_, DPut.k (k := .inr z) er2 lz, sH, hr0, _, upd_same, fc', t'.but (p := r) (fun ys e => by rw [er2] at e; cases e) (fun c o n e => by rw [upd_ne n]; exact e) rf', fun c hc => ?_, rf', nd_put (trD_keys tX) ndc, by have := length_putK ac (.inr z) v'; omega⟩
        rcases kf c hc with e | e
        · exact ff c e
        · cases e3 : H c with
          | none => rfl
          | some o => have := sX _ _ e3; rw [C.nw c e] at this; cases this
      | drop z =>
        obtain ⟨t, rfl, et⟩ := hdd
        walk_at "sx"
        refine ⟨_, .inr (SqT.of et), _, rfl, ?_⟩
        rw [RS.eq_ss]
        refine ⟨_, rfl, ?_⟩
        rw [if_neg (by decide +kernel)]
        refine ⟨r, _, er, True.intro, fun od => ⟨od, .inl ⟨ac, upd_same, ?_⟩⟩⟩
        have ea : upd X' r (.frz od (.dK ac)) r = some (.frz od (.dK ac)) := upd_same
        have hu : ∀ G, Same (upd X' r (.frz od (.dK ac))) G → Same X' (upd G r (.dK ac)) := fun G sm => unlock er sm
        have hn1 : ∀ b, upd X' r (.frz od (.dK ac)) b = none → b ≠ r ∧ X' b = none := fun b z => fresh_lock z
        have et2 : upd X' r (.frz od (.dK ac)) t = some (HO.tup [V.str (Str.ofString "drop"), V.str z]) := by
          rw [upd_ne (fun q => by rw [q, er] at et; cases et)]; exact et
        generalize upd X' r (.frz od (.dK ac)) = H2 at ea hu hn1 et2 ⊢
        refine dc_invB ac.length (fun L j acc G => Same H2 G ∧ acc = (ac.take j).filter fun p => decide (p.1 ≠ .inr z)) (fun L hL => ⟨same_upd hL, rfl⟩) (fun L j acc G hL lt P => ⟨P.1 _ _ ea, lt⟩) (fun L acc G hL P => ⟨P.1 _ _ ea, Nat.le_refl _⟩) (fun L j acc G x G' K N hL lt P eL y k kn => ?_) (fun L acc G hL P eL => ?_)
        · obtain ⟨sm, ek⟩ := P
          obtain ⟨rfl, k0, v0, hk, rfl⟩ := y
          obtain ⟨x, v, d, f', e1, _, _, _⟩ := tX.get lt
          rw [hk] at e1
          cases e1
          have tk : (ac.take (j + 1)).filter (fun p => decide (p.1 ≠ .inr z)) = acc ++ if x = z then [] else [(.inr x, v0)] := by
            rw [List.take_add_one, hk, List.filter_append, ← ek]
            congr 1
            by_cases e : x = z <;> simp [e]
          refine ⟨rfl, ?_⟩
          simp only [kV, tRet, tRetN, tSeq, C8.tCut, tNext, tAsg, gName, gNil, gCons, gTup, gFld, tIfS, tIf, tAndV, tOrV, tNotV, tAnd, tOr, tNot, tB, tTest, tOp, tUn, tCB, tCons, tNil, tVar, tC, tChain, tDrop, RS.tCallG, RS.tMethG, tMakeG, RS.tCallK, RS.tMakeK, tEqOwn, rI, rI0, rU, add_ii, add_ss, add_rr, mul_ii, mul_si, mul_ri, RS.eq_ii, RS.eq_ss, eq_bb, eq_nn, eq_sn, eq_ns, eq_in, eq_ni, eq_bn, eq_nb, eq_is, eq_si, eq_rr, ne_ii, ne_ss, ne_bb, ne_nn, ne_sn, ne_ns, ne_in, ne_ni, ne_is, ne_si, ne_rr, in_ss, in_r, nin_ss, nin_r, len_s, len_r, RS.ix_s, RS.ix_r, sl_s, sl_r, is_eq, tyN_n, tyN_b, tyN_i, tyN_s, tru_b, tru_i, tru_n, tSl, tPart, tNoPart, tPar, tPar3, tFmtZ, tFmt, tJs, tDGet, sDPut, sFld, tFld, tTup, tLst, tNever, isB,
  L2.start, List.map_cons, List.map_nil, List.length_cons, List.length_nil, Nat.reduceAdd, Nat.reduceSub, Nat.sub_self, List.replicate_zero, List.replicate_succ, List.append_nil, List.cons_append, List.nil_append, List.getElem?_cons_zero, List.getElem?_cons_succ, List.set_cons_zero, List.set_cons_succ, Option.some.injEq, exists_eq_left, exists_eq_left', exists_and_left, V.bl.injEq, V.int.injEq, V.str.injEq, V.ref.injEq, beq_self_eq_true, Bool.true_or, Bool.or_true, Bool.false_or, Bool.or_false, Bool.and_false, Bool.false_and, Bool.true_and, Bool.and_true, Bool.not_true, Bool.not_false, Bool.false_eq_true, if_true, if_false, ite_true, ite_false, true_and, and_true, and_assoc, String.reduceBEq, String.reduceEq, reduceIte, Bool.and_self, reduceCtorEq, false_and, and_false, exists_false, or_false, false_or, exists_const, iEnumS, iStr, iList, iTup, iRng1, iEnum, tFor_eq, tLc_eq, List.cons.injEq, wipe, not_true_eq_false, not_false_eq_true, upd_same, HO.ins.injEq, HO.tup.injEq, HO.lst.injEq, ofS_eq, lk_nil, lk_cons, pu_nil, pu_cons, sizeLine_eq, Nat.reduceLT, Nat.reduceLeDiff, Nat.reduceEqDiff, Nat.le_refl, decide_true, decide_false, tPr, dget_us, dput_us, vv_nil, vv_cons, RS.pk_nil, pk_one, RS.pk_cons, inr_eq, tDisp, tPairs, tBoolOwn, rBoolOwn, tBM, rAppend, ty_list, ty_str, rEqOwn, iEnumT, RS.tCallS, tM1, tDc_eq, tLock, tLockE, iKeys, tListEnum, rUpdate, tMkX0, tMkX1, tXfv, gSub, rSetL, List.getD_cons_zero, List.getD_cons_succ, tBreak, tCMethS, ClX.tCVal, tXfa, tIxOwn, tInOwn, tPropG, tMethK, tMethP, tListGen, tDGet2, tDPop2, rNeD0, intA_i, intA_b, tRevL, sFldAug, tPm0, tPm1, tDIn, tDNotIn, tDNewK, RS.tMethS, tForK, tKM, tKC, tLcK, tKM2, tKC2, tMethStar, tKCK2, tLk, tAug, ipI, tDig, tLcX, tKMX, tKCX]
          refine ⟨_, .inr (SqT.of (sm _ _ et2)), _, rfl, ?_⟩
          rw [RS.ne_ss]
          refine ⟨_, rfl, ?_⟩
          by_cases e : x = z
          · rw [if_neg (by simp [e])]
            exact kn G' eL ⟨sm, by rw [tk, if_pos e, List.append_nil]⟩
          · rw [if_pos (by simp [e])]
            refine ⟨v0, .inl ⟨ac, .inr x, .inr ⟨od, sm _ _ ea⟩, rfl, (valV_at ndc hk).symm⟩, ?_⟩
            have nk : (.inr x : Key) ∉ acc.map (·.1) := fun q => by
              obtain ⟨pr, hp, e5⟩ := List.mem_map.mp q
              rw [ek] at hp
              obtain ⟨j', hj, ej⟩ := List.getElem_of_mem (List.mem_filter.mp hp).1
              rw [List.length_take] at hj
              have hj' : j' < (ac.map (·.1)).length := by rw [List.length_map]; omega
              have hi' : j < (ac.map (·.1)).length := by rw [List.length_map]; exact lt
              have z1 := (List.pairwise_iff_getElem.mp ndc) j' j hj' hi' (by omega)
              have h2 : (ac.map (·.1))[j]? = some (.inr x) := by rw [List.getElem?_map, hk]; rfl
              rw [List.getElem?_eq_getElem hi'] at h2
              have h1 : (ac.map (·.1))[j'] = .inr x := by
                rw [List.getElem_take] at ej
                rw [List.getElem_map, ej]; exact e5
              exact z1 (h1.trans (Option.some.inj h2).symm)
            have ep := putK_new (v := v0) nk
            have lac : acc.length ≤ ac.length := by
              rw [ek]
              have a1 := List.length_filter_le (fun p : Key × V => decide (p.1 ≠ .inr z)) (ac.take j)
              rw [List.length_take] at a1
              omega
            refine k (.inr x) v0 G' eL (by rw [sizeLine_eq]; omega) ?_
            rw [ep]
            refine ⟨fun b o q => ?_, by rw [tk, if_neg e]⟩
            have bL : b ≠ L := fun e6 => by rw [e6, hL] at q; cases q
            rw [upd_ne bL]; exact sm _ _ q
        · obtain ⟨sm, ek⟩ := P
          rw [List.take_of_length_le (Nat.le_refl _)] at ek
          subst ek
          obtain ⟨fc', t', kf⟩ := trD_drop (x := z) tX
          have eaG := sm _ _ ea
          have La := hn1 L hL
          have sG := hu G sm
          have nL0 : H L = none := by
            cases e3 : H L with
            | none => rfl
            | some o => have := sX _ _ e3; rw [La.2] at this; cases this
          refine ⟨eaG, L, rfl, sX.trans sG, nL0, _, by rw [upd_ne La.1]; exact eL, fc', t'.same sG, fun c hc => ff c (kf c hc), fun hc => ?_, List.Pairwise.sublist (List.Sublist.map _ List.filter_sublist) ndc, ?_⟩
          · rcases tX.there L (kf L hc) with ⟨_, e⟩ | ⟨_, e⟩ <;> (rw [La.2] at e; cases e)
          · have := List.length_filter_le (fun p : Key × V => decide (p.1 ≠ .inr z)) ac
            omega
    · obtain ⟨r, w3, w4, rfl, sX, hr0, ac, fc, er, tX, ff, rf, ndc, lc⟩ := P
      rw [List.take_of_length_le (by omega)] at tX
      walk_at "sx"
      exact q r X (r :: fc) sX (.dct er tX rf ndc) fun c hc => (List.mem_cons.mp hc).elim (fun e => e ▸ hr0) (ff c)
end
theorem paired_snoc {α β : Type} {F : α → β → Prop} {x : α} {y : β} (h : F x y) : ∀ {xs : List α} {ys : List β}, Paired F xs ys → Paired F (xs ++ [x]) (ys ++ [y])
  | _, _, .nil => .cons h .nil
  | _, _, .cons a b => .cons a (paired_snoc h b)
theorem paired_imp {α β : Type} {F G : α → β → Prop} (k : ∀ x y, F x y → G x y) : ∀ {xs : List α} {ys : List β}, Paired F xs ys → Paired G xs ys
  | _, _, .nil => .nil
  | _, _, .cons a b => .cons (k _ _ a) (paired_imp k b)
/-- a deed whose value stood in G already -/
def DdG (G X : Hp) (v : V) : Dd → Prop
  | .put x d => ∃ t w f, v = .ref t ∧ X t = some (.tup [.str "put", .str x, w]) ∧ Tr G w d f ∧ okB d = true ∧ d.depth < 8
  | .drop x => ∃ t, v = .ref t ∧ X t = some (.tup [.str "drop", .str x])
theorem DdG.keep {G X Y : Hp} (k : ∀ c xs, X c = some (.tup xs) → Y c = some (.tup xs)) {v : V} {dd : Dd} (h : DdG G X v dd) : DdG G Y v dd := by
  cases dd with
  | put x d => obtain ⟨t, w, f, a, b, c⟩ := h; exact ⟨t, w, f, a, k _ _ b, c⟩
  | drop x => obtain ⟨t, a, b⟩ := h; exact ⟨t, a, k _ _ b⟩
theorem DdG.at {G X : Hp} (s : Same G X) {v : V} {dd : Dd} (h : DdG G X v dd) : DdAt X v dd := by
  cases dd with
  | put x d => obtain ⟨t, w, f, a, b, c, e⟩ := h; exact ⟨t, w, f, a, b, c.same s, e⟩
  | drop x => exact h
section
variable {g : Wd} {f : Addr} {fd : FuncData}
theorem sc_l_pick : FnScope ["_law_source_here", "_law_amount", "_law_place", "_law_choice"] ["_law_source_here", "_law_amount"] (defScope s_l_pick) := ⟨rfl, rfl, rfl, by decide +kernel, rfl, by decide +kernel, by decide +kernel⟩
/-- the source at a -/
def Src (H : Hp) (a : Addr) : Prop := ∃ x y : Int, 0 ≤ x ∧ 0 ≤ y ∧ H a = some (.lst [.int x, .int y])
def sp_pick : Sp := S2 fun s n H Q _ => ∃ a m, s = .ref a ∧ Src H a ∧ n = .int m ∧ 0 < m ∧ m < 2 ^ 64 ∧ ∀ x y c : Int, 0 ≤ x → 0 ≤ y → 0 ≤ c → c < m → Q (.int c) (upd H a (.lst [.int x, .int y]))
theorem ok_pick (F : Df g.K "_law_pick" "_law_pick" s_l_pick f fd .none) (T : Txt g) : FnG g 1 f fd ["_law_source_here", "_law_amount"] sp_pick := by
  refine F.ok sc_l_pick (fun vs H Q E h => S2.len h) (fun cdv A outer s H vs Q E hr h => ?_)
  obtain ⟨_, _, rfl, a, m, rfl, ⟨x, y, x0, y0, ha⟩, rfl, m0, m1, q⟩ := h
  refine ⟨_, (pss_cons (ps_set (i := 2) sc_l_pick.nd rfl (Or.inl rfl) (pe_callTy c_intA (by rfl) T.b_int bb_int (pa_cons (pe_cmpR (o_eq (K := g.K) hr) (pe_ix (o_ix (K := g.K)) (pv 0) pe_int (fun _ _ => rfl)) pe_int (nomark _)) pa_nil)))
      (pss_cons (ps_set (i := 3) sc_l_pick.nd rfl (Or.inl rfl) (pe_op op_mod (pe_ix (o_ix (K := g.K)) (pv 0) (pv 2) (fun _ _ => rfl)) (pv 1)))
      (pss_cons (ps_asg ((pe_op op_fdivW (pe_ix (o_ix (K := g.K)) (pv 0) (pv 2) (fun _ _ => rfl)) (pv 1))) (pg_sub (pv 0) (pv 2) set_list))
      (pss_one (ps_ret (pv 3)))))), ?_⟩
  walk_at "sx"
  refine ⟨_, .inl (SqL.of ha), .int x, rfl, ?_⟩
  rw [RS.eq_ii, intA_b]
  have cd : ∀ i, CDivW i m := fun i => ⟨m0, by
    have h2 : m.natAbs < 2 ^ 64 := by omega
    rcases Nat.eq_zero_or_pos m.natAbs with z | z
    · omega
    · have := (Nat.log2_lt (by omega)).mpr h2
      omega⟩
  by_cases e : x = 0
  · rw [if_pos (by simp [e]), RS.ix_r]
    refine ⟨_, .inl (SqL.of ha), .int y, rfl, y, rfl, m0, ?_⟩
    rw [RS.ix_r]
    refine ⟨_, .inl (SqL.of ha), .int y, rfl, y, rfl, cd _, _, 1, rfl, ha, 1, rfl, ?_⟩
    exact q x (y / m) _ x0 (Int.ediv_nonneg y0 (by omega)) (Int.emod_nonneg _ (by omega)) (Int.emod_lt_of_pos _ m0)
  · rw [if_neg (by simp [e]), RS.ix_r]
    refine ⟨_, .inl (SqL.of ha), .int x, rfl, x, rfl, m0, ?_⟩
    rw [RS.ix_r]
    refine ⟨_, .inl (SqL.of ha), .int x, rfl, x, rfl, cd _, _, 0, rfl, ha, 0, rfl, ?_⟩
    exact q (x / m) y _ (Int.ediv_nonneg x0 (by omega)) y0 (Int.emod_nonneg _ (by omega)) (Int.emod_lt_of_pos _ m0)
theorem sc_l_source : FnScope ["_law_script", "_law_k", "_law_cell", "_law_mixed", "_law_step", "_law_more"] ["_law_script", "_law_k"] (defScope s_l_source) := ⟨rfl, rfl, rfl, by decide +kernel, rfl, by decide +kernel, by decide +kernel⟩
def sp_source (K : PySem.W.Frag) : Sp := S2 fun s k H Q _ => ∃ a vs n, s = .ref a ∧ SqL K H a vs ∧ (∀ v ∈ vs, ∃ i, v = .int i) ∧ k = .int (n : Nat) ∧ ∀ r H', Same H H' → H r = none → Src H' r → Q (.ref r) H'
theorem ok_source (F : Df g.K "_law_source" "_law_source" s_l_source f fd .none) (T : Txt g) : FnG g 1 f fd ["_law_script", "_law_k"] (sp_source g.K) := by
  refine F.ok sc_l_source (fun vs H Q E h => S2.len h) (fun cdv A outer s H vs Q E hr h => ?_)
  obtain ⟨_, _, rfl, a, vs, n, rfl, ha, iv, rfl, q⟩ := h
  refine ⟨_, (pss_cons (ps_set (i := 2) sc_l_source.nd rfl (Or.inl rfl) (pe_ifExp (pt_cmpR op_lt (pv 1) (pe_callB (c_len (K := g.K)) (by rfl) T.b_len bb_len (pa_cons (pv 0) pa_nil)) (nomark _)) (pe_op op_mod (pe_ix (o_ix (K := g.K)) (pv 0) (pv 1) (fun _ _ => rfl)) (pe_op o_mul pe_int (pe_op op_pow pe_int pe_int))) pe_int))
      (pss_cons (ps_set (i := 3) sc_l_source.nd rfl (Or.inl rfl) pe_int)
      (pss_cons (ps_for psD rfl (pi_range1 rfl T.b_range (pa_cons pe_int pa_nil)) (pg_name (i := 4) sc_l_source.nd rfl (.inl rfl)) (pss_cons (ps_set (i := 5) sc_l_source.nd rfl (Or.inl rfl) (pe_op op_mod (pe_op (o_add (K := g.K)) (pe_op (o_add (K := g.K)) (pe_op o_mul (pv 2) pe_int) (pe_op o_mul pe_int (pe_op (o_add (K := g.K)) (pv 1) (pe_op o_mul pe_int (pv 4))))) pe_int) pe_int))
      (pss_one (ps_set (i := 3) sc_l_source.nd rfl (Or.inl rfl) (pe_op (o_add (K := g.K)) (pe_op o_mul (pv 3) pe_int) (pe_op op_mod (pe_op (o_add (K := g.K)) (pe_op op_pow (pv 5) pe_int) (pe_op o_mul (pv 4) (pv 5))) pe_int))))))
      (pss_one (ps_ret (pe_lst (pa_cons (pe_op o_mul (pv 2) (pe_callTy c_intA (by rfl) T.b_int bb_int (pa_cons (pe_cmpR op_ge (pv 2) (pe_op op_pow pe_int pe_int) (nomark _)) pa_nil))) (pa_cons (pv 3) pa_nil)))))))), ?_⟩
  walk_at "sx"
  have main : ∀ c : Int, 0 ≤ c → c < 2 * 10 ^ 60 → ForB (Itr 0 (Int.toNat 70)) (gName 4)
      (tSeq (tAsg (tOp (rI (fun x j => 0 < j) fun i j => V.int (i % j)) (tOp (RS.rAdd g.K) (tOp (RS.rAdd g.K) (tOp rMul (tVar 2) (tC (V.int 48271))) (tOp rMul (tC (V.int 7919)) (tOp (RS.rAdd g.K) (tVar 1) (tOp rMul (tC (V.int 64)) (tVar 4))))) (tC (V.int 12345))) (tC (V.int 2147483647))) (gName 5))
        (tAsg (tOp (RS.rAdd g.K) (tOp rMul (tVar 3) (tC (V.int 2147483629))) (tOp (rI (fun x j => 0 < j) fun i j => V.int (i % j)) (tOp (RS.rAdd g.K) (tOp (rI CPow fun i j => V.int (i ^ j.toNat)) (tVar 5) (tC (V.int 5))) (tOp rMul (tVar 4) (tVar 5))) (tC (V.int 2147483629)))) (gName 3)))
      { nx := tRet (tLst (tCons (tOp rMul (tVar 2) (tCB rIntA (tCons (tOp (rI0 fun i j => V.bl (decide (j ≤ i))) (tVar 2) (tOp (rI CPow fun i j => V.int (i ^ j.toNat)) (tC (V.int 10)) (tC (V.int 18)))) tNil))) (tCons (tVar 3) tNil))) { nx := fun x H' => Q V.non H', rt := Q }, rt := Q }
      [some (V.ref a), some (V.int ↑n), some (V.int c), some (V.int 0), none, none] H := by
    intro c c0 c1
    refine for_by 70 (fun i σ G => G = H ∧ ∃ x : Int, ∃ z y, 0 ≤ x ∧ σ = [some (.ref a), some (.int (n : Nat)), some (.int c), some (.int x), z, y]) ⟨rfl, 0, _, _, Int.le_refl _, rfl⟩ (fun i σ G lt P => lt) (fun σ G P => Nat.le_refl _) (fun i σ G x G' lt P yl => ?_) (fun σ G P => ?_)
    · obtain ⟨rfl, x, z, y, x0, rfl⟩ := P
      obtain ⟨rfl, rfl⟩ := yl
      walk_at "sx"
      generalize hr2 : (c * 48271 + 7919 * (↑n + 64 * (0 + ↑i)) + 12345) % 2147483647 = r
      have r0 : 0 ≤ r := by rw [← hr2]; exact Int.emod_nonneg _ (by decide)
      have r1 : r < 2147483647 := by rw [← hr2]; exact Int.emod_lt_of_pos _ (by decide)
      refine ⟨.inr ⟨by decide, by decide⟩, .inl ⟨by decide, by decide⟩, .inl ⟨by decide, by decide⟩, by decide, .inr ⟨by decide, by decide⟩, ⟨by decide, by decide, by omega⟩, .inl ⟨by omega, by omega⟩, by decide, _, ?_, rfl, _, rfl⟩
      exact Int.add_nonneg (Int.mul_nonneg x0 (by decide)) (Int.emod_nonneg _ (by decide))
    · obtain ⟨rfl, x, z, y, x0, rfl⟩ := P
      walk_at "sx"
      refine ⟨⟨by decide, by decide, by decide⟩, .inr (by split <;> decide), fun p hp => q p _ (same_upd hp) hp ⟨_, _, Int.mul_nonneg c0 (by split <;> decide), x0, upd_same⟩⟩
  refine .inl ⟨vs, .inl ha, ?_⟩
  by_cases l : n < vs.length
  · rw [if_pos (by simp; omega)]
    obtain ⟨i, hi⟩ := iv vs[n] (List.getElem_mem l)
    refine ⟨_, .inl ha, vs[n], by unfold atI ixN; rw [if_pos (by omega), if_pos (by omega)]; simp [l], ⟨by decide, by decide, by decide⟩, .inl ⟨by decide, by decide⟩, i, hi, by decide, by decide, by decide, ?_⟩
    exact main _ (Int.emod_nonneg _ (by decide)) (Int.emod_lt_of_pos i (b := 2 * 10 ^ 60) (by decide))
  · rw [if_neg (by simp; omega)]
    exact ⟨by decide, by decide, main 0 (by decide) (by decide)⟩
end
/-- a source was drawn from: nothing else changed -/
structure Dr (a : Addr) (H G : Hp) : Prop where
  ot : ∀ c o, c ≠ a → H c = some o → G c = some o
  src : Src G a
theorem Dr.refl {a : Addr} {H : Hp} (h : Src H a) : Dr a H H := ⟨fun _ _ _ e => e, h⟩
theorem Dr.trans {a : Addr} {H G X : Hp} (h : Dr a H G) (k : Dr a G X) : Dr a H X := ⟨fun c o n e => k.ot c o n (h.ot c o n e), k.src⟩
theorem Dr.pick {a : Addr} {H : Hp} {x y : Int} (hx : 0 ≤ x) (hy : 0 ≤ y) : Dr a H (upd H a (.lst [.int x, .int y])) := ⟨fun c o n e => by rw [upd_ne n]; exact e, ⟨x, y, hx, hy, upd_same⟩⟩
theorem Dr.laid {a p : Addr} {H G : Hp} {o : HO} (h : Dr a H G) (hp : G p = none) : Dr a H (upd G p o) := by
  obtain ⟨x, y, x0, y0, e⟩ := h.src
  have np : a ≠ p := fun z => by rw [z, hp] at e; cases e
  exact ⟨fun c u n q => by
    have q2 := h.ot c u n q
    have nc : c ≠ p := fun z => by rw [z, hp] at q2; cases q2
    rw [upd_ne nc]; exact q2, ⟨x, y, x0, y0, by rw [upd_ne np]; exact e⟩⟩
theorem Dr.grow {a D : Addr} {H H2 G : Hp} {o : HO} (h : Dr a H G) (h2 : Dr a H H2) (hD : H2 D = none) : Dr a H (upd G D o) := by
  obtain ⟨x, y, x0, y0, e⟩ := h.src
  obtain ⟨_, _, _, _, e2⟩ := h2.src
  have nD : a ≠ D := fun z => by rw [z, hD] at e2; cases e2
  refine ⟨fun c u n q => ?_, x, y, x0, y0, by rw [upd_ne nD]; exact e⟩
  have nc : c ≠ D := fun z => by
    have := h2.ot c u n q
    rw [z, hD] at this; cases this
  rw [upd_ne nc]; exact h.ot c u n q
theorem ones_len : ∀ l : List Nat, (List.map (fun x : Str => x.length) (l.map fun c => S [c])).sum = l.length
  | [] => rfl
  | c :: r => by
    rw [List.map_cons, List.map_cons, List.sum_cons, ones_len r, S_len]; simp only [List.length_cons, List.length_nil]; omega
theorem ones_flat : ∀ l : List Nat, (l.map fun c => [c]).flatten = l
  | [] => rfl
  | c :: r => by simp only [List.map_cons, List.flatten_cons, ones_flat r, List.singleton_append]
def signsL : List Nat := [97, 98, 32, 34, 92, 10, 126, 49, 44, 58, 93]
section
variable {g : Wd} {f : Addr} {fd : FuncData}
theorem sc_l_string : FnScope ["_law_source_here", "_law_signs", "_law_many", "_law_turn"] ["_law_source_here"] (defScope s_l_string) := ⟨rfl, rfl, rfl, by decide +kernel, rfl, by decide +kernel, by decide +kernel⟩
def sp_string : Sp := S1 fun s H Q _ => ∃ a, s = .ref a ∧ Src H a ∧ ∀ (l : List Nat) G, l.length ≤ 5 → (∀ c ∈ l, c ∈ signsL) → Dr a H G → Q (.str (S l)) G
theorem ok_string (F : Df g.K "_law_string" "_law_string" s_l_string f fd .none) (T : Txt g) (F_l_pick : Kn g "_law_pick" 1 ["_law_source_here", "_law_amount"] [] sp_pick) : FnG g 2 f fd ["_law_source_here"] sp_string := by
  refine F.ok sc_l_string (fun vs H Q E h => S1.len h) (fun cdv A outer s H vs Q E hr h => ?_)
  obtain ⟨_, rfl, a, rfl, ha, q⟩ := h
  refine ⟨_, (pss_cons (ps_asg (pe_tup (pa_cons pe_str (pa_cons (pe_callG F_l_pick (hr.mono (by first | decide | omega)) tkD (pa_cons (pv 0) (pa_cons pe_int pa_nil))) pa_nil))) (g_tup (K := g.K) (n := 2) (pgs_cons (pg_name (i := 1) sc_l_string.nd rfl (.inr rfl)) (pgs_cons (pg_name (i := 2) sc_l_string.nd rfl (.inl rfl)) pgs_nil))))
      (pss_one (ps_ret (pe_join pe_str (pe_lc (own := [("_law_turn", 3)]) (tt := tYes) rfl sc_l_string.nd (pi_range1 rfl T.b_range (pa_cons (pv 2) pa_nil)) (blkOk_by (own := [("_law_turn", 3)]) (N := ["_law_source_here", "_law_signs", "_law_many", "_law_turn"]) (sc := defScope s_l_string) (by decide +kernel)) (fun _ _ _ _ _ => (pg_name (i := 3) sc_l_string.nd rfl (.inl rfl))) (fun _ _ _ _ _ => pts_nil) (fun _ _ _ _ _ => (pe_ix (o_ix (K := g.K)) (pv 1) (pe_callG F_l_pick (Rm.mono (Rm.mk hr.room hr.gd) (by first | decide | omega)) L2.takes0 (pa_cons (pv 0) (pa_cons pe_int pa_nil))) (fun _ _ => rfl)))))))), ?_⟩
  walk_at "sx"
  refine ⟨_, _, rfl, a, 6, rfl, ha, rfl, by decide, by decide, fun x y m x0 y0 m0 m1 => ?_⟩
  have d1 : Dr a H (upd H a (.lst [.int x, .int y])) := .pick x0 y0
  generalize upd H a (.lst [.int x, .int y]) = H1 at d1 ⊢
  dsimp only
  intro p hp
  have d2 : Dr a H (upd H1 p (.tup [.str "ab \"\\\n~1,:]", .int m])) := d1.laid hp
  have eT : upd H1 p (.tup [.str "ab \"\\\n~1,:]", .int m]) p = some (.tup [.str "ab \"\\\n~1,:]", .int m]) := upd_same
  generalize upd H1 p (.tup [.str "ab \"\\\n~1,:]", .int m]) = H2 at d2 eT ⊢
  refine ⟨_, SqT.of eT, rfl, _, _, rfl, _, _, rfl, rfl, ⟨_, rfl⟩, m, rfl, by omega, by omega, ?_⟩
  refine lc_invA m.toNat (fun D i acc G => Dr a H G ∧ ∃ l : List Nat, acc = (l.map fun c => S [c]).map V.str ∧ l.length = i ∧ ∀ c ∈ l, c ∈ signsL) (by rw [sizeLine_eq]; omega) (fun D hD => ⟨d2.laid hD, [], rfl, rfl, by simp⟩) (fun D i acc G hD lt P => lt) (fun D acc G hD P => Nat.le_refl _) (fun D i acc G x G' K hD lt la P eD y k => ?_) (fun D acc G hD P eD => ?_)
  · obtain ⟨d3, l, rfl, rfl, hl⟩ := P
    obtain ⟨rfl, rfl⟩ := y
    refine ⟨rfl, ?_⟩
    walk_at "sx"
    refine ⟨_, _, rfl, a, 11, rfl, d3.src, rfl, by decide, by decide, fun x y c x0 y0 c0 c1 => ?_⟩
    dsimp only
    have d4 : Dr a H (upd G' a (.lst [.int x, .int y])) := d3.trans (.pick x0 y0)
    have nD : D ≠ a := fun z => by
      obtain ⟨_, _, _, _, e2⟩ := d2.src
      rw [← z, hD] at e2; cases e2
    have eD4 : upd G' a (.lst [.int x, .int y]) D = some (.lst ((l.map fun c => S [c]).map V.str)) := by rw [upd_ne nD]; exact eD
    generalize upd G' a (.lst [.int x, .int y]) = G4 at d4 eD4 ⊢
    rw [show Str.ofString "ab \"\\\n~1,:]" = S signsL from by decide +kernel, RS.ix_s]
    obtain ⟨j, rfl⟩ := Int.eq_ofNat_of_zero_le c0
    have hj : j < signsL.length := by simp only [signsL, List.length_cons, List.length_nil]; omega
    refine ⟨by rw [S_len, sizeLine_eq]; decide, signsL[j], ?_, ?_⟩
    · show atI signsL (j : Int) = _
      unfold atI ixN
      rw [if_pos (by omega), if_pos (by omega)]
      simp [hj]
    · refine k (.str (S [signsL[j]])) _ eD4 ⟨d4.grow d2 hD, l ++ [signsL[j]], by simp, by simp, fun c hc => ?_⟩
      rcases List.mem_append.mp hc with h | h
      · exact hl c h
      · rw [List.mem_singleton] at h
        rw [h]; exact List.getElem_mem hj
  · obtain ⟨d3, l, rfl, hl1, hl⟩ := P
    walk_at "sx"
    refine ⟨_, .inl (SqL.of eD), by rw [ones_len, List.length_map]; rw [show (Str.ofString "").length = 0 from by decide +kernel]; omega, ?_⟩
    rw [show (l.map fun c => S [c]) = (l.map fun c => [c]).map S from by rw [List.map_map]; rfl, join_flat, ones_flat]
    exact q l G (by omega) hl d3
end
/-- a drawn value with up to n levels -/
structure VOk (n : Nat) (d : PyData) : Prop where
  ok : gB d = true
  dep : d.depth ≤ n
theorem vok_none (n : Nat) : VOk n .none := ⟨rfl, Nat.zero_le _⟩
theorem vok_bool (n : Nat) (b : Bool) : VOk n (.bool b) := ⟨rfl, Nat.zero_le _⟩
theorem vok_int (n : Nat) {i : Int} (h : i.natAbs < 10 ^ 18) : VOk n (.int i) := ⟨by simp only [gB, decide_eq_true_eq]; omega, Nat.zero_le _⟩
theorem signs_lt {c : Nat} (h : c ∈ signsL) : c < 128 := (by decide : ∀ c ∈ signsL, c < 128) c h
theorem vok_str (n : Nat) {l : List Nat} (h : l.length ≤ 5) (hs : ∀ c ∈ l, c ∈ signsL) : VOk n (.str (S l)) := ⟨by
  simp only [gB, Bool.and_eq_true, decide_eq_true_eq, S_len]
  refine ⟨by omega, ?_⟩
  unfold asc
  show l.all (fun x => decide (x < 128)) = true
  rw [List.all_eq_true]
  exact fun c hc => by simpa using signs_lt (hs c hc), Nat.zero_le _⟩
theorem depthAll_le {n : Nat} : ∀ {ds : List PyData}, (∀ d ∈ ds, d.depth ≤ n) → PyData.depthAll ds ≤ n
  | [], _ => Nat.zero_le _
  | d :: ds, h => by
    have h1 := h d (List.mem_cons_self ..)
    have h2 := depthAll_le (n := n) fun e he => h e (List.mem_cons_of_mem _ he)
    simp only [PyData.depthAll]; omega
theorem depthKv_le {n : Nat} : ∀ {D : List (PyData × PyData)}, (∀ p ∈ D, p.2.depth ≤ n ∧ p.1.depth ≤ n) → PyData.depthKv D ≤ n
  | [], _ => Nat.zero_le _
  | (k, d) :: D, h => by
    have h1 := h (k, d) (List.mem_cons_self ..)
    have h2 := depthKv_le (n := n) fun e he => h e (List.mem_cons_of_mem _ he)
    simp only at h1
    simp only [PyData.depthKv]; omega
theorem vok_list {n : Nat} {ds : List PyData} (h : ∀ d ∈ ds, VOk n d) (l : ds.length ≤ 16) : VOk (n + 1) (.list ds) := ⟨by
  simp only [gB, Bool.and_eq_true, decide_eq_true_eq]
  exact ⟨l, gAll_mem.mpr fun d hd => (h d hd).ok⟩, by
  have := depthAll_le fun d hd => (h d hd).dep
  simp only [PyData.depth]; omega⟩
theorem vok_tuple {n : Nat} {ds : List PyData} (h : ∀ d ∈ ds, VOk n d) (l : ds.length ≤ 16) : VOk (n + 1) (.tuple ds) := ⟨by
  simp only [gB, Bool.and_eq_true, decide_eq_true_eq]
  exact ⟨l, gAll_mem.mpr fun d hd => (h d hd).ok⟩, by
  have := depthAll_le fun d hd => (h d hd).dep
  simp only [PyData.depth]; omega⟩
theorem gkey_str {k : PyData} (h : gkeyB k = true) : ∃ x, k = .str x := by
  cases k with
  | str x => exact ⟨x, rfl⟩
  | _ => cases h
theorem vok_dict {n : Nat} {D : List (PyData × PyData)} (h : ∀ p ∈ D, gkeyB p.1 = true ∧ VOk n p.2) (l : D.length ≤ 16) : VOk (n + 1) (.dict D) := ⟨by
  simp only [gB, Bool.and_eq_true, decide_eq_true_eq]
  exact ⟨l, gKv_mem.mpr fun d hd => ⟨(h d hd).1, (h d hd).2.ok⟩⟩, by
  have := depthKv_le (n := n) fun p hp => ⟨(h p hp).2.dep, by
    obtain ⟨x, e⟩ := gkey_str (h p hp).1
    rw [e]; exact Nat.zero_le _⟩
  simp only [PyData.depth]; omega⟩
/-- pairs put one behind the other -/
def mrgD (D : List (PyData × PyData)) : List (PyData × PyData) → List (PyData × PyData)
  | [] => D
  | (.str x, d) :: r => mrgD (putD D x d) r
  | _ :: r => mrgD D r
theorem putD_mem {x : Str} {d : PyData} {p : PyData × PyData} : ∀ {D : List (PyData × PyData)}, p ∈ putD D x d → p ∈ D ∨ p = (.str x, d)
  | [], h => .inr (by simpa [putD] using h)
  | q :: r, h => by
    unfold putD at h
    split at h
    · rcases List.mem_cons.mp h with e | e
      · exact .inr e
      · exact .inl (List.mem_cons_of_mem _ e)
    · rcases List.mem_cons.mp h with e | e
      · exact .inl (by rw [e]; exact List.mem_cons_self ..)
      · exact (putD_mem e).imp (List.mem_cons_of_mem _) id
theorem putD_len (x : Str) (d : PyData) : ∀ D : List (PyData × PyData), (putD D x d).length ≤ D.length + 1
  | [] => by simp [putD]
  | q :: r => by
    unfold putD
    split
    · simp
    · have := putD_len x d r
      simp only [List.length_cons]; omega
theorem mrgD_mem {p : PyData × PyData} : ∀ {M D : List (PyData × PyData)}, p ∈ mrgD D M → p ∈ D ∨ p ∈ M
  | [], D, h => .inl h
  | (k, d) :: r, D, h => by
    cases k with
    | str x => exact (mrgD_mem (D := putD D x d) h).elim (fun e => (putD_mem e).imp id fun z => by rw [z]; exact List.mem_cons_self ..) fun e => .inr (List.mem_cons_of_mem _ e)
    | _ => exact (mrgD_mem (M := r) (D := D) h).imp id (List.mem_cons_of_mem _)
theorem mrgD_len : ∀ (M D : List (PyData × PyData)), (mrgD D M).length ≤ D.length + M.length
  | [], D => Nat.le_refl _
  | (k, d) :: r, D => by
    cases k with
    | str x =>
      have h1 := mrgD_len r (putD D x d)
      have h2 := putD_len x d D
      show (mrgD (putD D x d) r).length ≤ _
      simp only [List.length_cons]; omega
    | _ =>
      have h1 := mrgD_len r D
      show (mrgD D r).length ≤ _
      simp only [List.length_cons]; omega
theorem trD_merge {H : Hp} : ∀ {more : List (Key × V)} {M : List (PyData × PyData)} {f2 : List Addr}, TrD H more M f2 → ∀ {kvs : List (Key × V)} {D : List (PyData × PyData)} {fp : List Addr}, TrD H kvs D fp → (kvs.map (·.1)).Nodup →
    ∃ fp', TrD H (mergeK kvs more) (mrgD D M) fp' ∧ (∀ c ∈ fp', c ∈ fp ∨ c ∈ f2) ∧ ((mergeK kvs more).map (·.1)).Nodup
  | _, _, _, .nil, _, _, _, t, nd => ⟨_, t, fun c hc => .inl hc, nd⟩
  | _, _, _, .cons (x := x) (v := v) (d := d) h hs, kvs, D, fp, t, nd => by
    obtain ⟨f1, t1, k1⟩ := trD_put (x := x) h t nd
    obtain ⟨f3, t3, k3, n3⟩ := trD_merge hs t1 (nd_put (trD_keys t) nd)
    exact ⟨f3, t3, fun c hc => (k3 c hc).elim (fun e => (k1 c e).imp id (List.mem_append_left _)) fun e => .inr (List.mem_append_right _ e), n3⟩
theorem Dr.fresh {a c : Addr} {H G : Hp} (h : Dr a H G) (n : G c = none) : H c = none ∧ c ≠ a := by
  obtain ⟨x, y, _, _, e⟩ := h.src
  have nc : c ≠ a := fun z => by rw [z, e] at n; cases n
  cases q : H c with
  | none => exact ⟨rfl, nc⟩
  | some o => have := h.ot c o nc q; rw [n] at this; cases this
theorem Dr.tr {a : Addr} {H G X : Hp} (h : Dr a H G) (k : Dr a G X) {v : V} {d : PyData} {fp : List Addr} (t : Tr G v d fp) (n : a ∉ fp) : Tr X v d fp := by
  obtain ⟨x, y, _, _, e⟩ := h.src
  exact t.but (p := a) (fun xs z => by rw [e] at z; cases z) (fun c o nc q => k.ot c o nc q) n
theorem Dr.trL {a : Addr} {H G X : Hp} (h : Dr a H G) (k : Dr a G X) {v : List V} {d : List PyData} {fp : List Addr} (t : TrL G v d fp) (n : a ∉ fp) : TrL X v d fp := by
  obtain ⟨x, y, _, _, e⟩ := h.src
  exact t.but (p := a) (fun xs z => by rw [e] at z; cases z) (fun c o nc q => k.ot c o nc q) n
theorem Dr.trD {a : Addr} {H G X : Hp} (h : Dr a H G) (k : Dr a G X) {v : List (Key × V)} {d : List (PyData × PyData)} {fp : List Addr} (t : TrD G v d fp) (n : a ∉ fp) : TrD X v d fp := by
  obtain ⟨x, y, _, _, e⟩ := h.src
  exact t.but (p := a) (fun xs z => by rw [e] at z; cases z) (fun c o nc q => k.ot c o nc q) n
theorem Dr.no {a : Addr} {H G : Hp} (h : Dr a H G) {fp : List Addr} (n : ∀ c ∈ fp, G c = none) : a ∉ fp := fun z => (h.fresh (n a z)).2 rfl
section
variable {g : Wd} {f : Addr} {fd : FuncData}
theorem sc_l_value : FnScope ["_law_source_here", "_law_depth", "_law_way", "_law_number", "_law_items", "_law_turn", "_law_item"] ["_law_source_here", "_law_depth"] (defScope s_l_value) := ⟨rfl, rfl, rfl, by decide +kernel, rfl, by decide +kernel, by decide +kernel⟩
/-- m - 1 is the depth that is asked for -/
def sp_value (m : Nat) : Sp := S2 fun s k H Q _ => ∃ a n, m = n + 1 ∧ s = .ref a ∧ Src H a ∧ k = .int (n : Nat) ∧ ∀ v d fp G, Dr a H G → Tr G v d fp → (∀ c ∈ fp, H c = none) → VOk n d → Q v G
theorem ok_value (n : Nat) (F : Df g.K "_law_value" "_law_value" s_l_value f fd .none) (T : Txt g) (F_l_pick : Kn g "_law_pick" 1 ["_law_source_here", "_law_amount"] [] sp_pick) (F_l_string : Kn g "_law_string" 2 ["_law_source_here"] [] sp_string)
    (F_l_value : Kn g "_law_value" (n + 3) ["_law_source_here", "_law_depth"] [] (sp_value n)) : FnG g (n + 4) f fd ["_law_source_here", "_law_depth"] (sp_value (n + 1)) := by
  refine F.ok sc_l_value (fun vs H Q E h => S2.len h) (fun cdv A outer s H vs Q E hr h => ?_)
  obtain ⟨_, _, rfl, a, m, hn, rfl, ha, rfl, q⟩ := h
  obtain rfl : n = m := by omega
  refine ⟨_, (pss_cons (ps_set (i := 2) sc_l_value.nd rfl (Or.inl rfl) (pe_ifExp (pt_cmpR op_gt (pv 1) pe_int (nomark _)) (pe_callG F_l_pick (hr.mono (by first | decide | omega)) tkD (pa_cons (pv 0) (pa_cons pe_int pa_nil))) (pe_callG F_l_pick (hr.mono (by first | decide | omega)) tkD (pa_cons (pv 0) (pa_cons pe_int pa_nil)))))
      (pss_cons (ps_if (pt_cmpR op_lt (pv 2) pe_int (nomark _)) (pss_one (ps_ret (pe_ix (o_ix (K := g.K)) (pe_lst (pa_cons pe_non (pa_cons pe_bl (pa_cons pe_bl pa_nil)))) (pe_callG F_l_pick (hr.mono (by first | decide | omega)) tkD (pa_cons (pv 0) (pa_cons pe_int pa_nil))) (fun _ _ => rfl)))) pss_nil)
      (pss_cons (ps_if (pt_cmpR op_lt (pv 2) pe_int (nomark _)) (pss_cons (ps_set (i := 3) sc_l_value.nd rfl (Or.inl rfl) (pe_callG F_l_pick (hr.mono (by first | decide | omega)) tkD (pa_cons (pv 0) (pa_cons (pe_ix (o_ix (K := g.K)) (pe_lst (pa_cons pe_int (pa_cons pe_int (pa_cons pe_int pa_nil)))) (pe_callG F_l_pick (hr.mono (by first | decide | omega)) tkD (pa_cons (pv 0) (pa_cons pe_int pa_nil))) (fun _ _ => rfl)) pa_nil))))
      (pss_one (ps_ret (pe_ifExp (pt_cmpR (o_eq (K := g.K) hr) (pe_callG F_l_pick (hr.mono (by first | decide | omega)) tkD (pa_cons (pv 0) (pa_cons pe_int pa_nil))) pe_int (nomark _)) (pv 3) (pe_op op_sub pe_int (pv 3)))))) pss_nil)
      (pss_cons (ps_if (pt_cmpR (o_eq (K := g.K) hr) (pv 2) pe_int (nomark _)) (pss_one (ps_ret (pe_callG F_l_string (hr.mono (by first | decide | omega)) tkD (pa_cons (pv 0) pa_nil)))) pss_nil)
      (pss_cons (ps_setLc (i := 4) (own := [("_law_turn", 5)]) (tt := tYes) rfl sc_l_value.nd rfl rfl (sw_true rfl rfl rfl (by decide +kernel)) (pi_range1 rfl T.b_range (pa_cons (pe_callG F_l_pick (hr.mono (by first | decide | omega)) tkD (pa_cons (pv 0) (pa_cons pe_int pa_nil))) pa_nil)) (blkOk_by (own := [("_law_turn", 5)]) (N := ["_law_source_here", "_law_depth", "_law_way", "_law_number", "_law_items", "_law_turn", "_law_item"]) (sc := defScope s_l_value) (by decide +kernel)) (fun _ _ _ _ _ => (pg_name (i := 5) sc_l_value.nd rfl (.inl rfl))) (fun _ _ _ _ _ => pts_nil) (fun _ _ _ _ _ => (pe_callG F_l_value (Rm.mono (Rm.mk hr.room hr.gd) (by first | decide | omega)) L2.takes0 (pa_cons (pv 0) (pa_cons (pe_op op_sub (pv 1) pe_int) pa_nil)))))
      (pss_cons (ps_if (pt_cmpR op_lt (pv 2) pe_int (nomark _)) (pss_one (ps_ret (pe_ifExp (pt_cmpR (o_eq (K := g.K) hr) (pv 2) pe_int (nomark _)) (pv 4) (pe_callTy call_tuple_of (by rfl) T.b_tuple bb_tuple (pa_cons (pv 4) pa_nil))))) pss_nil)
      (pss_one (ps_ret (pe_callTy (call_dictP rfl) (by rfl) T.b_dict bb_dict (pa_cons (pe_lc (own := [("_law_item", 6)]) (tt := tYes) rfl sc_l_value.nd (i_list (K := g.K) (pv 4)) (blkOk_by (own := [("_law_item", 6)]) (N := ["_law_source_here", "_law_depth", "_law_way", "_law_number", "_law_items", "_law_turn", "_law_item"]) (sc := defScope s_l_value) (by decide +kernel)) (fun _ _ _ _ _ => (pg_name (i := 6) sc_l_value.nd rfl (.inl rfl))) (fun _ _ _ _ _ => pts_nil) (fun _ _ _ _ _ => (pe_tup (pa_cons (pe_callG F_l_string (Rm.mono (Rm.mk hr.room hr.gd) (by first | decide | omega)) L2.takes0 (pa_cons (pv 0) pa_nil)) (pa_cons (pv 6) pa_nil))))) pa_nil)))))))))), ?_⟩
  walk_at "sx"
  have two : ∀ {K : VK} {X : XK}, (∀ x y w : Int, 0 ≤ x → 0 ≤ y → 0 ≤ w → w < 9 → (n = 0 → w < 5) → K (.int w) (upd H a (.lst [.int x, .int y]))) → if decide ((0 : Int) < n) = true then sp_pick [V.ref a, V.int 9] H K X else sp_pick [V.ref a, V.int 5] H K X := by
    intro K X h
    split
    · rename_i e
      exact ⟨_, _, rfl, a, 9, rfl, ha, rfl, by decide, by decide, fun x y w x0 y0 w0 w1 => h x y w x0 y0 w0 w1 fun z => by simp [z] at e⟩
    · rename_i e
      exact ⟨_, _, rfl, a, 5, rfl, ha, rfl, by decide, by decide, fun x y w x0 y0 w0 w1 => h x y w x0 y0 w0 (by omega) fun z => w1⟩
  refine two fun x y w x0 y0 w0 w1 w5 => ?_
  have d1 : Dr a H (upd H a (.lst [.int x, .int y])) := .pick x0 y0
  generalize upd H a (.lst [.int x, .int y]) = H1 at d1 ⊢
  have pa : ∀ {p}, H1 p = none → p ≠ a := fun hp z => by
    obtain ⟨_, _, _, _, e⟩ := d1.src
    rw [← z, hp] at e; cases e
  refine ⟨w, rfl, ?_⟩
  by_cases c1 : w < 2
  · rw [if_pos (by simp [c1])]
    intro p hp
    have d2 : Dr a H (upd H1 p (.lst [.non, .bl true, .bl false])) := d1.laid hp
    have ep : upd H1 p (.lst [.non, .bl true, .bl false]) p = some (.lst [.non, .bl true, .bl false]) := upd_same
    generalize upd H1 p (.lst [.non, .bl true, .bl false]) = H2 at d2 ep ⊢
    refine ⟨_, _, rfl, a, 3, rfl, d2.src, rfl, by decide, by decide, fun x y c x0 y0 c0 c1 => ?_⟩
    dsimp only
    have d3 : Dr a H (upd H2 a (.lst [.int x, .int y])) := d2.trans (.pick x0 y0)
    have ep3 : upd H2 a (.lst [.int x, .int y]) p = some (.lst [.non, .bl true, .bl false]) := by rw [upd_ne (pa hp)]; exact ep
    generalize upd H2 a (.lst [.int x, .int y]) = H3 at d3 ep3 ⊢
    rw [RS.ix_r]
    obtain rfl | rfl | rfl : c = 0 ∨ c = 1 ∨ c = 2 := by omega
    · exact ⟨_, .inl (SqL.of ep3), _, rfl, q _ _ [] _ d3 .non (by simp) (vok_none n)⟩
    · exact ⟨_, .inl (SqL.of ep3), _, rfl, q _ _ [] _ d3 (.bl true) (by simp) (vok_bool n true)⟩
    · exact ⟨_, .inl (SqL.of ep3), _, rfl, q _ _ [] _ d3 (.bl false) (by simp) (vok_bool n false)⟩
  rw [if_neg (by simp; omega)]
  refine ⟨w, rfl, ?_⟩
  by_cases c2 : w < 4
  · rw [if_pos (by simp [c2])]
    intro p hp
    have d2 : Dr a H (upd H1 p (.lst [.int 2, .int 1000, .int 1000000000000000000])) := d1.laid hp
    have ep : upd H1 p (.lst [.int 2, .int 1000, .int 1000000000000000000]) p = some (.lst [.int 2, .int 1000, .int 1000000000000000000]) := upd_same
    generalize upd H1 p (.lst [.int 2, .int 1000, .int 1000000000000000000]) = H2 at d2 ep ⊢
    refine ⟨_, _, rfl, a, 3, rfl, d2.src, rfl, by decide, by decide, fun x y c x0 y0 c0 c1 => ?_⟩
    dsimp only
    have d3 : Dr a H (upd H2 a (.lst [.int x, .int y])) := d2.trans (.pick x0 y0)
    have ep3 : upd H2 a (.lst [.int x, .int y]) p = some (.lst [.int 2, .int 1000, .int 1000000000000000000]) := by rw [upd_ne (pa hp)]; exact ep
    generalize upd H2 a (.lst [.int x, .int y]) = H3 at d3 ep3 ⊢
    rw [RS.ix_r]
    have go : ∀ m : Int, 0 < m → m ≤ 10 ^ 18 → sp_pick [V.ref a, .int m] H3 (fun x H1 => sp_pick [V.ref a, V.int 2] H1 (fun x_1 H1 => rEqU g.K x_1 (V.int 0) H1 fun x_2 H' => ∃ k, x_2 = V.bl k ∧ if k = true then Q x H' else ∃ x_3, x = V.int x_3 ∧ Q (V.int (0 - x_3)) H') fun c d H' => E c d H') (fun c d H' => E c d H') := by
      intro m m0 m1
      refine ⟨_, _, rfl, a, m, rfl, d3.src, rfl, m0, by omega, fun x y v x0 y0 v0 v1 => ?_⟩
      have d4 : Dr a H (upd H3 a (.lst [.int x, .int y])) := d3.trans (.pick x0 y0)
      generalize upd H3 a (.lst [.int x, .int y]) = H4 at d4 ⊢
      refine ⟨_, _, rfl, a, 2, rfl, d4.src, rfl, by decide, by decide, fun x y u x0 y0 u0 u1 => ?_⟩
      have d5 : Dr a H (upd H4 a (.lst [.int x, .int y])) := d4.trans (.pick x0 y0)
      generalize upd H4 a (.lst [.int x, .int y]) = H5 at d5 ⊢
      dsimp only
      rw [RS.eq_ii]
      refine ⟨_, rfl, ?_⟩
      by_cases e : u = 0
      · rw [if_pos (by simp [e])]
        exact q _ _ [] _ d5 (.int v) (by simp) (vok_int n (by omega))
      · rw [if_neg (by simp [e])]
        exact ⟨v, rfl, q _ _ [] _ d5 (.int (0 - v)) (by simp) (vok_int n (by omega))⟩
    obtain rfl | rfl | rfl : c = 0 ∨ c = 1 ∨ c = 2 := by omega
    · exact ⟨_, .inl (SqL.of ep3), _, rfl, go 2 (by decide) (by decide)⟩
    · exact ⟨_, .inl (SqL.of ep3), _, rfl, go 1000 (by decide) (by decide)⟩
    · exact ⟨_, .inl (SqL.of ep3), _, rfl, go 1000000000000000000 (by decide) (by decide)⟩
  rw [if_neg (by simp; omega), RS.eq_ii]
  refine ⟨_, rfl, ?_⟩
  by_cases c4 : w = 4
  · rw [if_pos (by simp [c4])]
    exact ⟨_, rfl, a, rfl, d1.src, fun l G hl hs dG => q _ _ [] _ (d1.trans dG) (.str _) (by simp) (vok_str n hl hs)⟩
  rw [if_neg (by simp [c4])]
  obtain ⟨n, rfl⟩ : ∃ m, n = m + 1 := ⟨n - 1, by omega⟩
  refine ⟨_, _, rfl, a, 4, rfl, d1.src, rfl, by decide, by decide, fun x y m x0 y0 m0 m1 => ?_⟩
  have d2 : Dr a H (upd H1 a (.lst [.int x, .int y])) := d1.trans (.pick x0 y0)
  generalize upd H1 a (.lst [.int x, .int y]) = H2 at d2 ⊢
  refine ⟨m, rfl, by omega, by omega, ?_⟩
  refine lc_invA m.toNat (fun D i acc X => Dr a H X ∧ ∃ ds fa, TrL X acc ds fa ∧ (∀ c ∈ fa, H c = none ∧ c ≠ D ∧ c ≠ a) ∧ ds.length = i ∧ ∀ d ∈ ds, VOk n d) (by rw [sizeLine_eq]; omega) (fun D hD => ⟨d2.laid hD, [], [], .nil, by simp, rfl, by simp⟩) (fun D i acc X hD lt P => lt) (fun D acc X hD P => Nat.le_refl _) (fun D i acc X x X' K hD lt la P eD yl k => ?_) (fun D acc X hD P eD => ?_)
  · obtain ⟨dX, ds, fa, ta, na, rfl, ok⟩ := P
    obtain ⟨rfl, rfl⟩ := yl
    refine ⟨rfl, ?_⟩
    walk_at "sx"
    have Da := (d2.fresh hD).2
    refine ⟨_, _, rfl, a, n, rfl, rfl, dX.src, by congr 1; omega, fun v d fp G2 dG tv nf vk => ?_⟩
    have af : a ∉ fp := dX.no nf
    have eD2 := dG.ot D _ Da eD
    have fD : D ∉ fp := fun z => by have := nf D z; rw [eD] at this; cases this
    have nD : ∀ ys, G2 D ≠ some (.tup ys) := fun ys z => by rw [eD2] at z; cases z
    have kD : ∀ c o, c ≠ D → G2 c = some o → upd G2 D (.lst (acc ++ [v])) c = some o := fun c o n z => by rw [upd_ne n]; exact z
    refine k v G2 eD2 ⟨(dX.trans dG).grow d2 hD, ds ++ [d], fa ++ fp, TrL.snoc (tv.but nD kD fD) ((dX.trL dG ta fun z => (na a z).2.2 rfl).but nD kD fun z => (na D z).2.1 rfl), fun c hc => ?_, by simp, fun e he => ?_⟩
    · rcases List.mem_append.mp hc with z | z
      · exact na c z
      · exact ⟨(dX.fresh (nf c z)).1, fun e => fD (e ▸ z), fun e => af (e ▸ z)⟩
    · rcases List.mem_append.mp he with z | z
      · exact ok e z
      · rw [List.mem_singleton.mp z]; exact vk
  obtain ⟨dX, ds, fa, ta, na, hl, ok⟩ := P
  have Dn := d2.fresh hD
  have fa1 : ∀ c ∈ D :: fa, H c = none := fun c hc => (List.mem_cons.mp hc).elim (fun e => e ▸ Dn.1) fun e => (na c e).1
  refine ⟨w, rfl, ?_⟩
  by_cases c7 : w < 7
  · rw [if_pos (by simp [c7]), RS.eq_ii]
    refine ⟨_, rfl, ?_⟩
    by_cases c5 : w = 5
    · rw [if_pos (by simp [c5])]
      exact q _ _ _ _ dX (.lst eD ta fun z => (na D z).2.1 rfl) fa1 (vok_list ok (by omega))
    · rw [if_neg (by simp [c5])]
      exact ⟨D, rfl, acc, .inl ⟨SqL.of eD, fun l hl2 => q _ _ _ _ (dX.laid hl2) (.tup upd_same (ta.same (same_upd hl2))) (fun c hc => (na c hc).1) (vok_tuple ok (by omega))⟩⟩
  rw [if_neg (by simp [c7])]
  refine ⟨D, rfl, ⟨_, SqL.of eD⟩, ?_⟩
  have ll := ta.len
  refine lc_invA acc.length (fun B i bs Y => Dr a H Y ∧ Dr a X Y ∧ ∃ ps kvs M fm, bs = ps.map V.ref ∧ Paired (fun p kv => Y p = some (.tup [kV kv.1, kv.2])) ps kvs ∧ TrD Y kvs M fm ∧ M.length = i ∧ (∀ c ∈ fm, c ∈ fa) ∧ ∀ p ∈ M, gkeyB p.1 = true ∧ VOk n p.2) (by rw [sizeLine_eq]; omega) (fun B hB => ⟨dX.laid hB, (Dr.refl dX.src).laid hB, [], [], [], [], rfl, .nil, .nil, rfl, by simp, by simp⟩)
    (fun B i bs Y hB lt P => ⟨_, acc[i], SqL.of (P.2.1.ot D _ Dn.2 eD), by simp [lt]⟩) (fun B bs Y hB P => ⟨_, SqL.of (P.2.1.ot D _ Dn.2 eD), Nat.le_refl _⟩) (fun B i bs Y x Y' K hB lt la P eB yl k => ?_) (fun B bs Y hB P eB => ?_)
  · obtain ⟨dY, dXY, ps, kvs, M, fm, rfl, pr, tm, rfl, sub, okM⟩ := P
    obtain ⟨rfl, hx⟩ := yl
    have hx := hx _ (SqL.of (dXY.ot D _ Dn.2 eD))
    obtain ⟨v, d, f', e1, e2, tv, sf⟩ := ta.get lt
    rw [hx] at e1
    cases e1
    refine ⟨rfl, ?_⟩
    walk_at "sx"
    have Ba := (dX.fresh hB).2
    have afa : a ∉ fa := fun z => (na a z).2.2 rfl
    have Bfa : B ∉ fa := fun z => by
      rcases ta.there B z with ⟨ys, e⟩ | ⟨ys, e⟩ <;> (rw [hB] at e; cases e)
    refine ⟨_, rfl, a, rfl, dY.src, fun l G hl hs dG p hp => ?_⟩
    have eB2 := dG.ot B _ Ba eB
    have pB : p ≠ B := fun z => by rw [z, eB2] at hp; cases hp
    have dYp : Dr a Y' (upd G p (.tup [.str (S l), x])) := dG.laid hp
    have keep : ∀ c xs, Y' c = some (.tup xs) → upd (upd G p (.tup [.str (S l), x])) B (.lst (ps.map V.ref ++ [.ref p])) c = some (.tup xs) := fun c xs e => by
      have n1 : c ≠ B := fun z => by rw [z, eB] at e; cases e
      have n2 : c ≠ a := fun z => by
        obtain ⟨_, _, _, _, e3⟩ := dY.src
        rw [z, e3] at e; cases e
      rw [upd_ne n1]
      exact dYp.ot c _ n2 e
    have nB : ∀ ys, upd G p (.tup [.str (S l), x]) B ≠ some (.tup ys) := fun ys z => by rw [upd_ne pB.symm, eB2] at z; cases z
    have kB : ∀ c o, c ≠ B → upd G p (.tup [.str (S l), x]) c = some o → upd (upd G p (.tup [.str (S l), x])) B (.lst (ps.map V.ref ++ [.ref p])) c = some o := fun c o n z => by rw [upd_ne n]; exact z
    refine k (.ref p) _ (by rw [upd_ne pB.symm]; exact eB2) ⟨(dY.trans dYp).grow dX hB, (dXY.trans dYp).grow (Dr.refl dX.src) hB, ps ++ [p], kvs ++ [(.inr (S l), x)], M ++ [(.str (S l), d)], fm ++ f', by simp, paired_snoc (by rw [upd_ne pB]; exact upd_same) (paired_imp (fun _ _ z => keep _ _ z) pr), ?_, by simp, fun c hc => ?_, fun e he => ?_⟩
    · refine TrD.snoc ?_ ?_
      · exact (dX.tr (dXY.trans dYp) tv fun z => afa (sf a z)).but nB kB fun z => Bfa (sf B z)
      · exact (dY.trD dYp tm fun z => afa (sub a z)).but nB kB fun z => Bfa (sub B z)
    · exact (List.mem_append.mp hc).elim (sub c) (sf c)
    · rcases List.mem_append.mp he with z | z
      · exact okM e z
      · rw [List.mem_singleton.mp z]
        exact ⟨(vok_str 0 hl hs).ok, ok d (List.mem_of_getElem? e2)⟩
  · obtain ⟨dY, dXY, ps, kvs, M, fm, rfl, pr, tm, hM, sub, okM⟩ := P
    obtain ⟨fp', tf, sf, ndf⟩ := trD_merge tm .nil (by simp)
    refine ⟨B, rfl, ps, SqL.of eB, kvs, paired_imp (fun _ _ z => SqT.of z) pr, fun p hp => ?_⟩
    have fsub : ∀ c ∈ fp', c ∈ fa := fun c hc => (sf c hc).elim (fun z => by simp at z) (sub c)
    have lM := mrgD_len M []
    simp only [List.length_nil] at lM
    refine q _ _ (p :: fp') _ (dY.laid hp) (.dct upd_same (tf.same (same_upd hp)) (fun z => ?_) ndf) (fun c hc => ?_) (vok_dict (fun e he => okM e ((mrgD_mem he).elim (fun z => by simp at z) id)) (by omega))
    · rcases tf.there p z with ⟨ys, e⟩ | ⟨ys, e⟩ <;> (rw [hp] at e; cases e)
    · rcases List.mem_cons.mp hc with e | e
      · rw [e]; exact (dY.fresh hp).1
      · exact (na c (fsub c e)).1
end
def keys6 : List Str := ["a", "b", "c", "a b", "\n", "k"]
theorem keys6_ok : ∀ k ∈ keys6, (decide (k.length ≤ 8) && asc k) = true ∧ 1 ≤ k.length := by decide +kernel
/-- a drawn mapping -/
structure GD (D : List (PyData × PyData)) : Prop where
  val : ∀ p ∈ D, VOk 1 p.2
  key : ∀ p ∈ D, ∃ x ∈ keys6, p.1 = .str x
  nd : (keysOf D).Nodup
theorem keysOf_len2 : ∀ {D : List (PyData × PyData)}, (∀ p ∈ D, ∃ x ∈ keys6, p.1 = .str x) → (keysOf D).length = D.length ∧ ∀ y ∈ keysOf D, y ∈ keys6
  | [], _ => ⟨rfl, by simp [keysOf]⟩
  | (k, d) :: r, h => by
    obtain ⟨x, hx, e⟩ := h (k, d) (List.mem_cons_self ..)
    simp only at e
    subst e
    obtain ⟨h1, h2⟩ := keysOf_len2 (D := r) fun p hp => h p (List.mem_cons_of_mem _ hp)
    simp only [keysOf]
    refine ⟨by simp [h1], fun y hy => ?_⟩
    rcases List.mem_cons.mp hy with e | e
    · rw [e]; exact hx
    · exact h2 y e
theorem GD.len {D : List (PyData × PyData)} (h : GD D) : D.length ≤ 6 := by
  obtain ⟨h1, h2⟩ := keysOf_len2 h.key
  have := h.nd.length_le_of_subset (l₂ := keys6) h2
  rw [h1] at this
  exact this
theorem GD.vok {D : List (PyData × PyData)} (h : GD D) : VOk 2 (.dict D) := vok_dict (fun p hp => by
  obtain ⟨x, hx, e⟩ := h.key p hp
  rw [e]
  exact ⟨(keys6_ok x hx).1, h.val p hp⟩) (by have := h.len; omega)
theorem GD.map {D : List (PyData × PyData)} (g : GD D) {H : Hp} {v : V} {fp : List Addr} (t : Tr H v (.dict D) fp) : MapAt H v D fp := ⟨t, ok_g _ g.vok.ok, by have := g.vok.dep; omega, fun p hp => by
  obtain ⟨x, hx, e⟩ := g.key p hp
  have k := keys6_ok x hx
  simp only [Bool.and_eq_true, decide_eq_true_eq] at k
  exact ⟨x, e, k.2, by omega⟩, by
  have := rnote.le _ 2 g.vok.ok g.vok.dep
  have e : SH 2 ≤ 1000000 := by decide
  omega⟩
theorem addK_cons (y x : Str) (ks : List Str) : addK (y :: ks) x = if x = y then y :: ks else y :: addK ks x := by
  unfold addK
  by_cases q : x = y
  · rw [if_pos q, if_pos (by rw [q]; exact List.mem_cons_self ..)]
  · rw [if_neg q]
    by_cases m : x ∈ ks
    · rw [if_pos m, if_pos (List.mem_cons_of_mem _ m)]
    · rw [if_neg m, if_neg (by simp [q, m])]; rfl
theorem keysOf_put (x : Str) (d : PyData) : ∀ D : List (PyData × PyData), keysOf (putD D x d) = addK (keysOf D) x
  | [] => rfl
  | (k, e) :: r => by
    have ih := keysOf_put x d r
    unfold putD
    cases k with
    | str y =>
      by_cases q : y = x
      · subst q
        rw [if_pos (by simp [isK])]
        exact ((addK_cons y y (keysOf r)).trans (if_pos rfl)).symm
      · rw [if_neg (by simp [isK, q])]
        exact (congrArg (y :: ·) ih).trans ((addK_cons y x (keysOf r)).trans (if_neg fun z => q z.symm)).symm
    | _ => simp only [isK, Bool.false_eq_true, if_false, keysOf, ih]
theorem keysOf_drop (x : Str) : ∀ D : List (PyData × PyData), keysOf (dropD D x) = (keysOf D).filter fun y => decide (y ≠ x)
  | [] => rfl
  | (k, e) :: r => by
    have ih := keysOf_drop x r
    unfold dropD at ih ⊢
    cases k with
    | str y =>
      by_cases q : y = x
      · subst q
        rw [List.filter_cons, if_neg (by simp [isK]), ih]
        simp only [keysOf]
        rw [List.filter_cons, if_neg (by simp)]
      · rw [List.filter_cons, if_pos (by simp [isK, q])]
        simp only [keysOf]
        rw [ih, List.filter_cons, if_pos (by simp [q])]
    | _ =>
      rw [List.filter_cons, if_pos (by simp [isK])]
      simp only [keysOf]
      exact ih
theorem addK_nd {ks : List Str} {x : Str} (h : ks.Nodup) : (addK ks x).Nodup := by
  unfold addK
  split
  · exact h
  · rename_i n
    exact List.nodup_append.mpr ⟨h, by simp, fun a ha b hb e => n (by simp only [List.mem_singleton] at hb; subst hb; subst e; exact ha)⟩
theorem gd_nil : GD [] := ⟨by simp, by simp, by simp [keysOf]⟩
theorem GD.put {D : List (PyData × PyData)} (h : GD D) {x : Str} {d : PyData} (hx : x ∈ keys6) (hd : VOk 1 d) : GD (putD D x d) :=
  ⟨fun p hp => (putD_mem hp).elim (h.val p) fun e => by rw [e]; exact hd, fun p hp => (putD_mem hp).elim (h.key p) fun e => ⟨x, hx, by rw [e]⟩, by rw [keysOf_put]; exact addK_nd h.nd⟩
theorem GD.drop {D : List (PyData × PyData)} (h : GD D) (x : Str) : GD (dropD D x) :=
  ⟨fun p hp => h.val p (List.mem_filter.mp hp).1, fun p hp => h.key p (List.mem_filter.mp hp).1, by rw [keysOf_drop]; exact h.nd.sublist List.filter_sublist⟩
def DdW : Dd → Prop
  | .put x d => x ∈ keys6 ∧ VOk 1 d
  | .drop _ => True
theorem GD.aps : ∀ {dds : List Dd} {D : List (PyData × PyData)}, GD D → (∀ dd ∈ dds, DdW dd) → GD (apDs D dds)
  | [], _, h, _ => h
  | dd :: r, D, h, w => by
    show GD (apDs (apD D dd) r)
    refine GD.aps ?_ fun e he => w e (List.mem_cons_of_mem _ he)
    have wd := w dd (List.mem_cons_self ..)
    cases dd with
    | put x d => exact h.put wd.1 wd.2
    | drop x => exact h.drop x
section
variable {g : Wd} {f : Addr} {fd : FuncData}
theorem sc_l_mapping : FnScope ["_law_source_here", "_law_most", "_law_left", "_law_found", "_law_turn"] ["_law_source_here", "_law_most"] (defScope s_l_mapping) := ⟨rfl, rfl, rfl, by decide +kernel, rfl, by decide +kernel, by decide +kernel⟩
def sp_mapping : Sp := S2 fun s k H Q _ => ∃ a m, s = .ref a ∧ Src H a ∧ k = .int (m : Nat) ∧ m ≤ 6 ∧ ∀ r D fp G, Dr a H G → Tr G (.ref r) (.dict D) fp → (∀ c ∈ fp, H c = none) → GD D → D.length ≤ m → Q (.ref r) G
theorem ok_mapping (F : Df g.K "_law_mapping" "_law_mapping" s_l_mapping f fd .none) (T : Txt g) (F_l_pick : Kn g "_law_pick" 1 ["_law_source_here", "_law_amount"] [] sp_pick)
    (F_l_value : Kn g "_law_value" 5 ["_law_source_here", "_law_depth"] [] (sp_value 2)) : FnG g 6 f fd ["_law_source_here", "_law_most"] sp_mapping := by
  refine F.ok sc_l_mapping (fun vs H Q E h => S2.len h) (fun cdv A outer s H vs Q E hr h => ?_)
  obtain ⟨_, _, rfl, a, m, rfl, ha, rfl, m5, q⟩ := h
  refine ⟨_, (pss_cons (ps_par (i := 2) (j := 3) (by rfl) sc_l_mapping.nd rfl rfl (by decide) rfl rfl (pa_cons (pe_lst (pa_cons pe_str (pa_cons pe_str (pa_cons pe_str (pa_cons pe_str (pa_cons pe_str (pa_cons pe_str pa_nil))))))) (pa_cons pe_dnewK pa_nil)) (by rfl))
      (pss_cons (ps_for psD rfl (pi_range1 rfl T.b_range (pa_cons (pe_callG F_l_pick (hr.mono (by first | decide | omega)) tkD (pa_cons (pv 0) (pa_cons (pe_op (o_add (K := g.K)) (pv 1) pe_int) pa_nil))) pa_nil)) (pg_name (i := 4) sc_l_mapping.nd rfl (.inl rfl)) (pss_one (ps_asg (pe_callG F_l_value (hr.mono (by first | decide | omega)) tkD (pa_cons (pv 0) (pa_cons pe_int pa_nil))) (pg_sub (pv 3) (e_bm (K := g.K) PySem.F.plainAttrs_list PySem.F.slot_list_pop PySem.F.type_list_pop mt_popAt (pv 2) (pa_cons (pe_callG F_l_pick (hr.mono (by first | decide | omega)) tkD (pa_cons (pv 0) (pa_cons (pe_callB (c_len (K := g.K)) (by rfl) T.b_len bb_len (pa_cons (pv 2) pa_nil)) pa_nil))) pa_nil)) (set_dict (hu_of hr.room))))))
      (pss_one (ps_ret (pv 3))))), ?_⟩
  walk_at "sx"
  intro L hL B hB
  have LB : L ≠ B := fun z => by rw [← z, upd_same] at hB; cases hB
  have hB0 : H B = none := by rw [upd_ne LB.symm] at hB; exact hB
  have eL : upd (upd H L (.lst (keys6.map V.str))) B (.dK []) L = some (.lst (keys6.map V.str)) := by rw [upd_ne LB]; exact upd_same
  have eB : upd (upd H L (.lst (keys6.map V.str))) B (.dK []) B = some (.dK []) := upd_same
  have d0 : Dr a H (upd (upd H L (.lst (keys6.map V.str))) B (.dK [])) := ((Dr.refl ha).laid hL).laid hB
  change sp_pick [V.ref a, V.int (m + 1)] (upd (upd H L (.lst (keys6.map V.str))) B (.dK [])) _ _
  generalize upd (upd H L (.lst (keys6.map V.str))) B (.dK []) = H0 at eL eB d0 ⊢
  have La := ((Dr.refl ha).fresh hL).2
  have Ba := ((Dr.refl ha).fresh hB0).2
  refine ⟨_, _, rfl, a, m + 1, rfl, d0.src, rfl, by omega, by omega, fun x y n x0 y0 n0 n1 => ⟨n, rfl, by omega, by omega, ?_⟩⟩
  have d1 : Dr a H (upd H0 a (.lst [.int x, .int y])) := d0.trans (.pick x0 y0)
  have eL1 : upd H0 a (.lst [.int x, .int y]) L = some (.lst (keys6.map V.str)) := by rw [upd_ne La]; exact eL
  have eB1 : upd H0 a (.lst [.int x, .int y]) B = some (.dK []) := by rw [upd_ne Ba]; exact eB
  generalize upd H0 a (.lst [.int x, .int y]) = H1 at d1 eL1 eB1 ⊢
  refine for_by n.toNat (fun i σ X => (∃ z, σ = [some (.ref a), some (.int (m : Nat)), some (.ref L), some (.ref B), z]) ∧ Dr a H X ∧ ∃ ks kvs D fa, X L = some (.lst (ks.map V.str)) ∧ ks.length + i = 6 ∧ (∀ k ∈ ks, k ∈ keys6) ∧ X B = some (.dK kvs) ∧ TrD X kvs D fa ∧ (kvs.map (·.1)).Nodup ∧ (∀ c ∈ fa, H c = none ∧ c ≠ L ∧ c ≠ B ∧ c ≠ a) ∧ GD D ∧ D.length ≤ i)
    ⟨⟨_, rfl⟩, d1, keys6, [], [], [], eL1, rfl, fun k hk => hk, eB1, .nil, by simp, by simp, gd_nil, Nat.le_refl _⟩ (fun i σ X lt P => lt) (fun σ X P => Nat.le_refl _) (fun i σ X z X' lt P yl => ?_) (fun σ X P => ?_)
  · obtain ⟨⟨z, rfl⟩, dX, ks, kvs, D, fa, eL, lk, hk, eB, tD, nd, nf, gD, lD⟩ := P
    obtain ⟨rfl, rfl⟩ := yl
    walk_at "sx"
    refine ⟨_, _, rfl, a, 1, rfl, rfl, dX.src, rfl, fun v d fp G2 dG tv nfv vk => ?_⟩
    have eL2 := dG.ot L _ La eL
    have eB2 := dG.ot B _ Ba eB
    have av : a ∉ fp := dX.no nfv
    have afa : a ∉ fa := fun z => (nf a z).2.2.2 rfl
    have tD2 := dX.trD dG tD afa
    refine ⟨⟨_, SqL.of eL2⟩, .inl ⟨_, .inl (SqL.of eL2), ?_⟩⟩
    rw [List.length_map]
    refine ⟨_, _, rfl, a, (ks.length : Nat), rfl, dG.src, rfl, by omega, by omega, fun x y c x0 y0 c0 c1 => ?_⟩
    have dP : Dr a G2 (upd G2 a (.lst [.int x, .int y])) := .pick x0 y0
    have tD3 := dG.trD dP tD2 afa
    have tv3 := dG.tr dP tv av
    have d3 := (dX.trans dG).trans dP
    have eL3 := dP.ot L _ La eL2
    have eB3 := dP.ot B _ Ba eB2
    generalize upd G2 a (.lst [.int x, .int y]) = G3 at dP tD3 tv3 d3 eL3 eB3 ⊢
    obtain ⟨j, rfl⟩ := Int.eq_ofNat_of_zero_le c0
    have hj : j < ks.length := by omega
    refine ⟨L, ks.map V.str, (j : Nat), j, .str ks[j], rfl, rfl, eL3, by omega, by omega, ?_, by rw [List.getElem?_map, List.getElem?_eq_getElem hj]; rfl, ?_⟩
    · unfold seqIndex?
      rw [List.length_map]
      simp
      omega
    have kj := hk _ (List.getElem_mem hj)
    have er : (ks.map V.str).eraseIdx j = (ks.eraseIdx j).map V.str := by
      rw [List.eraseIdx_eq_take_drop_succ, List.eraseIdx_eq_take_drop_succ, List.map_append, List.map_take, List.map_drop]
    rw [er]
    have dz := trD_put (x := ks[j]) tv3 tD3 nd
    obtain ⟨fc, t', kf⟩ := dz
    have lD2 := putD_len ks[j] d D
    have ac := tD.len
    have fB : ∀ c ∈ fc, H c = none ∧ c ≠ L ∧ c ≠ B ∧ c ≠ a := fun c hc => (kf c hc).elim (nf c) fun z => by
      have h1 := nfv c z
      exact ⟨(dX.fresh h1).1, fun e => (by rw [e, eL] at h1; cases h1), fun e => (by rw [e, eB] at h1; cases h1), fun e => av (e ▸ z)⟩
    have k1 : ∀ c o, c ≠ L → G3 c = some o → upd G3 L (.lst ((ks.eraseIdx j).map V.str)) c = some o := fun c o n z => by rw [upd_ne n]; exact z
    have eB4 : upd G3 L (.lst ((ks.eraseIdx j).map V.str)) B = some (.dK kvs) := by rw [upd_ne LB.symm]; exact eB3
    refine ⟨B, _, rfl, DPut.k (k := .inr ks[j]) eB4 (by rw [sizeLine_eq]; omega), ⟨_, rfl⟩, (d3.grow (Dr.refl ha) hL).grow (Dr.refl ha) hB0, ks.eraseIdx j, by rw [upd_ne LB]; exact upd_same, by rw [List.length_eraseIdx]; simp [hj]; omega, fun k m => hk k (List.mem_of_mem_eraseIdx m), _, upd_same, putD D ks[j] d, fc, ?_, nd_put (trD_keys tD) nd, fB, gD.put kj vk, by omega⟩
    refine (t'.but (p := L) (fun ys z => by rw [eL3] at z; cases z) k1 fun z => (fB L z).2.1 rfl).but (p := B) (fun ys z => by rw [eB4] at z; cases z) (fun c o n z => by rw [upd_ne n]; exact z) fun z => (fB B z).2.2.1 rfl
  · obtain ⟨⟨z, rfl⟩, dX, ks, kvs, D, fa, eL, lk, hk, eB, tD, nd, nf, gD, lD⟩ := P
    walk_at "sx"
    exact q B D (B :: fa) X dX (.dct eB tD (fun z => (nf B z).2.2.1 rfl) nd) (fun c hc => (List.mem_cons.mp hc).elim (fun e => e ▸ hB0) fun e => (nf c e).1) gD (by omega)
end
/-- a deed whose value's places are such as N tells -/
def DdF (N : Addr → Prop) (X : Hp) (v : V) : Dd → Prop
  | .put x d => ∃ t w f, v = .ref t ∧ X t = some (.tup [.str "put", .str x, w]) ∧ Tr X w d f ∧ ∀ c ∈ f, N c
  | .drop x => ∃ t, v = .ref t ∧ X t = some (.tup [.str "drop", .str x])
theorem DdF.at {N : Addr → Prop} {X : Hp} {v : V} {dd : Dd} (h : DdF N X v dd) (k : DdW dd) : DdAt X v dd := by
  cases dd with
  | put x d => obtain ⟨t, w, f, a, b, c, _⟩ := h; exact ⟨t, w, f, a, b, c, ok_g _ k.2.ok, by have := k.2.dep; omega⟩
  | drop x => exact h
theorem DdF.keep {N : Addr → Prop} {X Y : Hp} {S : Addr → Prop} (hS : ∀ c, S c → ∀ xs, X c ≠ some (.tup xs)) (hk : ∀ c o, ¬ S c → X c = some o → Y c = some o) (nS : ∀ c, N c → ¬ S c) {v : V} {dd : Dd} (h : DdF N X v dd) : DdF N Y v dd := by
  cases dd with
  | put x d => obtain ⟨t, w, f, a, b, c, n⟩ := h; exact ⟨t, w, f, a, hk _ _ (fun z => hS _ z _ b) b, c.keep hS hk fun e he => nS e (n e he), n⟩
  | drop x => obtain ⟨t, a, b⟩ := h; exact ⟨t, a, hk _ _ (fun z => hS _ z _ b) b⟩
theorem DdF.imp {N M : Addr → Prop} (k : ∀ c, N c → M c) {X : Hp} {v : V} {dd : Dd} (h : DdF N X v dd) : DdF M X v dd := by
  cases dd with
  | put x d => obtain ⟨t, w, f, a, b, c, n⟩ := h; exact ⟨t, w, f, a, b, c, fun e he => k e (n e he)⟩
  | drop x => exact h
theorem DdF.dr {N : Addr → Prop} {a : Addr} {H X Y : Hp} (h1 : Dr a H X) (h2 : Dr a X Y) (nS : ∀ c, N c → c ≠ a) {v : V} {dd : Dd} (h : DdF N X v dd) : DdF N Y v dd := by
  obtain ⟨_, _, _, _, e⟩ := h1.src
  exact h.keep (S := fun c => c = a) (fun c z xs q => by rw [z, e] at q; cases q) (fun c o n q => h2.ot c o n q) nS
theorem DdF.grow {N : Addr → Prop} {X : Hp} {L : Addr} {ac : List V} {o : HO} (eL : X L = some (.lst ac)) (nS : ∀ c, N c → c ≠ L) {v : V} {dd : Dd} (h : DdF N X v dd) : DdF N (upd X L o) v dd :=
  h.keep (S := fun c => c = L) (fun c z xs q => by rw [z, eL] at q; cases q) (fun c o n q => by rw [upd_ne n]; exact q) nS
theorem DdF.same {N : Addr → Prop} {X Y : Hp} (s : Same X Y) {v : V} {dd : Dd} (h : DdF N X v dd) : DdF N Y v dd :=
  h.keep (S := fun c => False) (fun c z => z.elim) (fun c o _ q => s c o q) (fun _ _ z => z)
/-- as DdW, the key of a drop too -/
def DdV : Dd → Prop
  | .put x d => x ∈ keys6 ∧ VOk 1 d
  | .drop x => x ∈ keys6
theorem DdV.w {dd : Dd} (h : DdV dd) : DdW dd := by
  cases dd with
  | put x d => exact h
  | drop x => exact True.intro
section
variable {g : Wd} {f : Addr} {fd : FuncData}
theorem sc_l_deeds : FnScope ["_law_source_here", "_law_most", "_law_found", "_law_turn", "_law_key"] ["_law_source_here", "_law_most"] (defScope s_l_deeds) := ⟨rfl, rfl, rfl, by decide +kernel, rfl, by decide +kernel, by decide +kernel⟩
def sp_deeds : Sp := S2 fun s k H Q _ => ∃ a m, s = .ref a ∧ Src H a ∧ k = .int (m : Nat) ∧ m ≤ 8 ∧ ∀ r vs dds G, Dr a H G → H r = none → G r = some (.lst vs) → Paired (DdF (fun c => H c = none) G) vs dds → (∀ dd ∈ dds, DdV dd) → dds.length ≤ m → Q (.ref r) G
theorem ok_deeds (F : Df g.K "_law_deeds" "_law_deeds" s_l_deeds f fd .none) (T : Txt g) (F_l_pick : Kn g "_law_pick" 1 ["_law_source_here", "_law_amount"] [] sp_pick)
    (F_l_value : Kn g "_law_value" 5 ["_law_source_here", "_law_depth"] [] (sp_value 2)) : FnG g 6 f fd ["_law_source_here", "_law_most"] sp_deeds := by
  refine F.ok sc_l_deeds (fun vs H Q E h => S2.len h) (fun cdv A outer s H vs Q E hr h => ?_)
  obtain ⟨_, _, rfl, a, m, rfl, ha, rfl, m5, q⟩ := h
  refine ⟨_, (pss_cons (ps_set (i := 2) sc_l_deeds.nd rfl (Or.inl rfl) (pe_lst pa_nil))
      (pss_cons (ps_for psD rfl (pi_range1 rfl T.b_range (pa_cons (pe_callG F_l_pick (hr.mono (by first | decide | omega)) tkD (pa_cons (pv 0) (pa_cons (pe_op (o_add (K := g.K)) (pv 1) pe_int) pa_nil))) pa_nil)) (pg_name (i := 3) sc_l_deeds.nd rfl (.inl rfl)) (pss_cons (ps_set (i := 4) sc_l_deeds.nd rfl (Or.inl rfl) (pe_ix (o_ix (K := g.K)) (pe_lst (pa_cons pe_str (pa_cons pe_str (pa_cons pe_str (pa_cons pe_str (pa_cons pe_str (pa_cons pe_str pa_nil))))))) (pe_callG F_l_pick (hr.mono (by first | decide | omega)) tkD (pa_cons (pv 0) (pa_cons pe_int pa_nil))) (fun _ _ => rfl)))
      (pss_one (ps_expr (e_bm (K := g.K) PySem.F.plainAttrs_list PySem.F.slot_list_append PySem.F.type_list_append mt_append (pv 2) (pa_cons (pe_ifExp (pt_cmpR op_gt (pe_callG F_l_pick (hr.mono (by first | decide | omega)) tkD (pa_cons (pv 0) (pa_cons pe_int pa_nil))) pe_int (nomark _)) (pe_tup (pa_cons pe_str (pa_cons (pv 4) (pa_cons (pe_callG F_l_value (hr.mono (by first | decide | omega)) tkD (pa_cons (pv 0) (pa_cons pe_int pa_nil))) pa_nil)))) (pe_tup (pa_cons pe_str (pa_cons (pv 4) pa_nil)))) pa_nil))))))
      (pss_one (ps_ret (pv 2))))), ?_⟩
  walk_at "sx"
  intro L hL
  have d0 : Dr a H (upd H L (.lst [])) := (Dr.refl ha).laid hL
  have eL : upd H L (.lst []) L = some (.lst []) := upd_same
  generalize upd H L (.lst []) = H0 at d0 eL ⊢
  have La := ((Dr.refl ha).fresh hL).2
  refine ⟨_, _, rfl, a, m + 1, rfl, d0.src, rfl, by omega, by omega, fun x y n x0 y0 n0 n1 => ⟨n, rfl, by omega, by omega, ?_⟩⟩
  have d1 : Dr a H (upd H0 a (.lst [.int x, .int y])) := d0.trans (.pick x0 y0)
  have eL1 : upd H0 a (.lst [.int x, .int y]) L = some (.lst []) := by rw [upd_ne La]; exact eL
  generalize upd H0 a (.lst [.int x, .int y]) = H1 at d1 eL1 ⊢
  refine for_by n.toNat (fun i σ X => (∃ y z, σ = [some (.ref a), some (.int (m : Nat)), some (.ref L), y, z]) ∧ Dr a H X ∧ ∃ vs dds, X L = some (.lst vs) ∧ Paired (DdF (fun c => H c = none ∧ c ≠ L) X) vs dds ∧ (∀ dd ∈ dds, DdV dd) ∧ dds.length = i)
    ⟨⟨_, _, rfl⟩, d1, [], [], eL1, .nil, by simp, rfl⟩ (fun i σ X lt P => lt) (fun σ X P => Nat.le_refl _) (fun i σ X z X' lt P yl => ?_) (fun σ X P => ?_)
  · obtain ⟨⟨y, z, rfl⟩, dX, vs, dds, eL, pr, okd, rfl⟩ := P
    obtain ⟨rfl, rfl⟩ := yl
    walk_at "sx"
    intro p hp
    change sp_pick [V.ref a, V.int 6] (upd X' p (.lst (keys6.map V.str))) _ _
    have d2 : Dr a H (upd X' p (.lst (keys6.map V.str))) := dX.laid hp
    have ep : upd X' p (.lst (keys6.map V.str)) p = some (.lst (keys6.map V.str)) := upd_same
    have pL : p ≠ L := fun z => by rw [z, eL] at hp; cases hp
    have eL2 : upd X' p (.lst (keys6.map V.str)) L = some (.lst vs) := by rw [upd_ne pL.symm]; exact eL
    have N1 : ∀ c, (H c = none ∧ c ≠ L) → c ≠ a := fun c n => ((Dr.refl ha).fresh n.1).2
    have pr2 := paired_imp (fun _ _ z => DdF.same (same_upd (o := HO.lst (keys6.map V.str)) hp) z) pr
    generalize upd X' p (.lst (keys6.map V.str)) = X2 at d2 ep eL2 pr2 ⊢
    have pa : p ≠ a := (dX.fresh hp).2
    refine ⟨_, _, rfl, a, 6, rfl, d2.src, rfl, by decide, by decide, fun x y c x0 y0 c0 c1 => ?_⟩
    have dP : Dr a X2 (upd X2 a (.lst [.int x, .int y])) := .pick x0 y0
    have ep3 := dP.ot p _ pa ep
    have eL3 := dP.ot L _ La eL2
    have pr3 := paired_imp (fun _ _ z => DdF.dr d2 dP N1 z) pr2
    have d3 := d2.trans dP
    generalize upd X2 a (.lst [.int x, .int y]) = X3 at ep3 eL3 pr3 d3 ⊢
    dsimp only
    rw [RS.ix_r]
    obtain ⟨j, rfl⟩ := Int.eq_ofNat_of_zero_le c0
    have hj : j < keys6.length := by show j < 6; omega
    have k6 : (keys6.map V.str).length = 6 := rfl
    have kok := List.getElem_mem hj
    refine ⟨_, .inl (SqL.of ep3), .str keys6[j], ?_, ?_⟩
    · unfold atI ixN
      rw [if_pos (by omega), if_pos (by omega)]
      simp [hj]
    generalize keys6[j] = key at kok ⊢
    refine ⟨⟨_, SqL.of eL3⟩, ?_⟩
    refine ⟨_, _, rfl, a, 3, rfl, d3.src, rfl, by decide, by decide, fun x y c x0 y0 c0 c1 => ?_⟩
    have dP : Dr a X3 (upd X3 a (.lst [.int x, .int y])) := .pick x0 y0
    have eL4 := dP.ot L _ La eL3
    have pr4 := paired_imp (fun _ _ z => DdF.dr d3 dP N1 z) pr3
    have d4 := d3.trans dP
    generalize upd X3 a (.lst [.int x, .int y]) = X4 at eL4 pr4 d4 ⊢
    refine ⟨c, rfl, ?_⟩
    have lv := paired_len pr4
    by_cases e : 0 < c
    · rw [if_pos (by simp [e])]
      refine ⟨_, _, rfl, a, 1, rfl, rfl, d4.src, rfl, fun v d fp G2 dG tv nfv vk t ht => ?_⟩
      have eL5 := dG.ot L _ La eL4
      have tL : t ≠ L := fun z => by rw [z, eL5] at ht; cases ht
      have eL6 : upd G2 t (.tup [.str "put", .str key, v]) L = some (.lst vs) := by rw [upd_ne tL.symm]; exact eL5
      have nf2 : ∀ c ∈ fp, H c = none ∧ c ≠ L := fun c hc => ⟨(d4.fresh (nfv c hc)).1, fun e => by have := nfv c hc; rw [e, eL4] at this; cases this⟩
      have new : DdF (fun c => H c = none ∧ c ≠ L) (upd G2 t (.tup [.str "put", .str key, v])) (.ref t) (.put key d) := ⟨t, v, fp, rfl, upd_same, tv.same (same_upd ht), nf2⟩
      refine ⟨vs, eL6, by omega, ⟨_, rfl⟩, ((d4.trans dG).laid ht).grow (Dr.refl ha) hL, dds ++ [.put key d], paired_snoc (new.grow eL6 fun c n => n.2) (paired_imp (fun _ _ z => ((z.dr d4 dG N1).same (same_upd ht)).grow eL6 fun c n => n.2) pr4), fun dd hd => ?_, by simp⟩
      rcases List.mem_append.mp hd with z | z
      · exact okd dd z
      · rw [List.mem_singleton.mp z]; exact ⟨kok, vk⟩
    · rw [if_neg (by simp [e])]
      intro t ht
      have tL : t ≠ L := fun z => by rw [z, eL4] at ht; cases ht
      have eL6 : upd X4 t (.tup [.str "drop", .str key]) L = some (.lst vs) := by rw [upd_ne tL.symm]; exact eL4
      have new : DdF (fun c => H c = none ∧ c ≠ L) (upd X4 t (.tup [.str "drop", .str key])) (.ref t) (.drop key) := ⟨t, rfl, upd_same⟩
      refine ⟨vs, eL6, by omega, ⟨_, rfl⟩, (d4.laid ht).grow (Dr.refl ha) hL, dds ++ [.drop key], paired_snoc (new.grow eL6 fun c n => n.2) (paired_imp (fun _ _ z => (z.same (same_upd ht)).grow eL6 fun c n => n.2) pr4), fun dd hd => ?_, by simp⟩
      rcases List.mem_append.mp hd with z | z
      · exact okd dd z
      · rw [List.mem_singleton.mp z]; exact kok
  · obtain ⟨⟨y, z, rfl⟩, dX, vs, dds, eL, pr, okd, hl⟩ := P
    walk_at "sx"
    exact q L vs dds X dX hL eL (paired_imp (fun _ _ z => z.imp fun c e => e.1) pr) okd (by omega)
end
section
variable {g : Wd} {f : Addr} {fd : FuncData}
/-- a list of pairs, each a list of its own -/
structure PrsAt (H G : Hp) (r : Addr) (kvs : List (Key × V)) : Prop where
  ex : ∃ ps : List Addr, G r = some (.lst (ps.map V.ref)) ∧ Paired (fun p kv => G p = some (.lst [kV kv.1, kv.2]) ∧ H p = none ∧ p ≠ r) ps kvs
  nr : H r = none
theorem PrsAt.same {H G X : Hp} {r : Addr} {kvs : List (Key × V)} (h : PrsAt H G r kvs) (s : Same G X) : PrsAt H X r kvs := by
  obtain ⟨⟨ps, e, pr⟩, n⟩ := h
  exact ⟨⟨ps, s _ _ e, paired_imp (fun _ _ z => ⟨s _ _ z.1, z.2⟩) pr⟩, n⟩
theorem paired_at2 {α β : Type} {F : α → β → Prop} : ∀ {xs : List α} {ys : List β}, Paired F xs ys → ∀ {i : Nat} {y : β}, ys[i]? = some y → ∃ x, xs[i]? = some x ∧ F x y
  | _, _, .cons h hs, 0, y, e => by cases e; exact ⟨_, rfl, h⟩
  | _, _, .cons h hs, i + 1, y, e => by obtain ⟨x, a, b⟩ := paired_at2 hs (i := i) (by simpa using e); exact ⟨x, by simpa using a, b⟩
  | _, _, .nil, _, _, e => by simp at e
theorem paired_set {α β : Type} {F : α → β → Prop} {x : α} {y : β} (h : F x y) : ∀ {xs : List α} {ys : List β}, Paired F xs ys → ∀ (i : Nat), Paired F (xs.set i x) (ys.set i y)
  | _, _, .nil, _ => .nil
  | _, _, .cons a b, 0 => .cons h b
  | _, _, .cons a b, i + 1 => .cons a (paired_set h b i)
theorem paired_take {α β : Type} {F : α → β → Prop} : ∀ {xs : List α} {ys : List β}, Paired F xs ys → ∀ (i : Nat), Paired F (xs.take i) (ys.take i)
  | _, _, .nil, i => by simpa using Paired.nil
  | _, _, .cons a b, 0 => .nil
  | _, _, .cons a b, i + 1 => .cons a (paired_take b i)
/-- the places of a key -/
def hits (kvs : List (Key × V)) (x : Str) (i : Nat) : List Nat := (List.range i).filter fun n => decide ((kvs[n]?).map (·.1) = some (.inr x))
theorem hits_succ (kvs : List (Key × V)) (x : Str) (i : Nat) : hits kvs x (i + 1) = hits kvs x i ++ if (kvs[i]?).map (·.1) = some (.inr x) then [i] else [] := by
  unfold hits
  rw [List.range_succ, List.filter_append]
  congr 1
  by_cases e : (kvs[i]?).map (·.1) = some (.inr x) <;> simp [e]
theorem hits_none {kvs : List (Key × V)} {x : Str} (h : hits kvs x kvs.length = []) : (.inr x : Key) ∉ kvs.map (·.1) := fun z => by
  obtain ⟨n, hn, e⟩ := List.getElem_of_mem z
  have hn2 : n < kvs.length := by simpa using hn
  have m : n ∈ hits kvs x kvs.length := by
    unfold hits
    rw [List.mem_filter]
    refine ⟨List.mem_range.mpr hn2, ?_⟩
    rw [decide_eq_true_eq, List.getElem?_eq_getElem hn2]
    simpa using e
  rw [h] at m; cases m
theorem hits_some {kvs : List (Key × V)} {x : Str} {j : Nat} {r : List Nat} (h : hits kvs x kvs.length = j :: r) : ∃ v, kvs[j]? = some (.inr x, v) := by
  have m : j ∈ hits kvs x kvs.length := by rw [h]; exact List.mem_cons_self ..
  unfold hits at m
  rw [List.mem_filter, decide_eq_true_eq] at m
  cases e : kvs[j]? with
  | none => rw [e] at m; simp at m
  | some p =>
    rw [e] at m
    obtain ⟨k, v⟩ := p
    have := m.2
    simp only [Option.map_some, Option.some.injEq] at this
    exact ⟨v, by rw [this]⟩
theorem putK_set : ∀ {kvs : List (Key × V)} {j : Nat} {k : Key} {u v : V}, (kvs.map (·.1)).Nodup → kvs[j]? = some (k, u) → putK kvs k v = kvs.set j (k, v)
  | [], _, _, _, _, _, e => by simp at e
  | (k', u') :: r, 0, k, u, v, nd, e => by
    simp only [List.getElem?_cons_zero, Option.some.injEq, Prod.mk.injEq] at e
    obtain ⟨rfl, rfl⟩ := e
    have nd' := List.nodup_cons.mp nd
    have hr : valV r k' = none := by
      cases e : valV r k' with
      | none => rfl
      | some u => exact absurd (valV_mem e) nd'.1
    rw [RS.pk_cons (hr := hr), if_pos rfl]; rfl
  | (k', u') :: r, j + 1, k, u, v, nd, e => by
    have nd' := List.nodup_cons.mp nd
    have e' : r[j]? = some (k, u) := by simpa using e
    have hr : valV r k' = none := by
      cases e : valV r k' with
      | none => rfl
      | some u => exact absurd (valV_mem e) nd'.1
    have ne : ¬ k' = k := fun z => nd'.1 (by rw [z]; exact List.mem_map.mpr ⟨_, List.mem_of_getElem? e', rfl⟩)
    rw [RS.pk_cons (hr := hr), if_neg ne, putK_set nd'.2 e']; rfl
def sp_done : Sp := S2 fun m v H Q _ => ∃ D fp a vs dds, ∃ N : Addr → Prop, Tr H m (.dict D) fp ∧ (∀ c ∈ fp, m ≠ .ref c → N c) ∧ v = .ref a ∧ H a = some (.lst vs) ∧ Paired (DdF N H) vs dds ∧ D.length + dds.length ≤ 100 ∧
  ∀ r kvs fr G, Same H G → PrsAt H G r kvs → TrD H kvs (apDs D dds) fr → (∀ c ∈ fr, N c) → (kvs.map (·.1)).Nodup → kvs.length ≤ D.length + dds.length → Q (.ref r) G
theorem sc_l_done : FnScope ["_law_mapping_here", "_law_deeds_here", "_law_found", "_law_deed", "_law_places", "_law_key", "_law_n", "_law_pair"] ["_law_mapping_here", "_law_deeds_here"] (defScope s_l_done) := ⟨rfl, rfl, rfl, by decide +kernel, rfl, by decide +kernel, by decide +kernel⟩
theorem ok_done (F : Df g.K "_law_done" "_law_done" s_l_done f fd .none) (T : Txt g) : FnG g 1 f fd ["_law_mapping_here", "_law_deeds_here"] sp_done := by
  refine F.ok sc_l_done (fun vs H Q E h => S2.len h) (fun cdv A outer s H vs Q E hr h => ?_)
  obtain ⟨_, _, rfl, D, fp, a, vs, dds, N, tr, nfp, rfl, ha, pr, ln, q⟩ := h
  refine ⟨_, (pss_cons (ps_set (i := 2) sc_l_done.nd rfl (Or.inr rfl) (pe_lock (pe_lc (own := [("_law_key", 5)]) (tt := tYes) rfl sc_l_done.nd (pi_keys (pv 0)) (blkOk_by (own := [("_law_key", 5)]) (N := ["_law_mapping_here", "_law_deeds_here", "_law_found", "_law_deed", "_law_places", "_law_key", "_law_n", "_law_pair"]) (sc := defScope s_l_done) (by decide +kernel)) (fun _ _ _ _ _ => (pg_name (i := 5) sc_l_done.nd rfl (.inl rfl))) (fun _ _ _ _ _ => pts_nil) (fun _ _ _ _ _ => (pe_lst (pa_cons (pv 5) (pa_cons (pe_dget (hu_of (Rm.mk hr.room hr.gd).room) (pv 0) (pv 5) (fun _ _ => rfl)) pa_nil)))))))
      (pss_cons (ps_for psD rfl (i_list (K := g.K) (pv 1)) (pg_name (i := 3) sc_l_done.nd rfl (.inr rfl)) (pss_cons (ps_setLc (i := 4) (own := [("_law_n", 6)]) rfl sc_l_done.nd rfl rfl (sw_true rfl rfl rfl (by decide +kernel)) (pi_range1 rfl T.b_range (pa_cons (pe_callB (c_len (K := g.K)) (by rfl) T.b_len bb_len (pa_cons (pv 2) pa_nil)) pa_nil)) (blkOk_by (own := [("_law_n", 6)]) (N := ["_law_mapping_here", "_law_deeds_here", "_law_found", "_law_deed", "_law_places", "_law_key", "_law_n", "_law_pair"]) (sc := defScope s_l_done) (by decide +kernel)) (fun _ _ _ _ _ => (pg_name (i := 6) sc_l_done.nd rfl (.inl rfl))) (fun _ _ _ _ _ => (pts_one (pt_cmpR (o_eq (K := g.K) (Rm.mk hr.room hr.gd)) (pe_ix (o_ix (K := g.K)) (pe_ix (o_ix (K := g.K)) (pv 2) (pv 6) (fun _ _ => rfl)) pe_int (fun _ _ => rfl)) (pe_ix (o_ix (K := g.K)) (pv 3) pe_int (fun _ _ => rfl)) (nomark _)))) (fun _ _ _ _ _ => (pv 6)))
      (pss_one (ps_if (pt_cmpR (o_eq (K := g.K) hr) (pe_ix (o_ix (K := g.K)) (pv 3) pe_int (fun _ _ => rfl)) pe_str (nomark _)) (pss_one (ps_set (i := 2) sc_l_done.nd rfl (Or.inr rfl) (pe_lc (own := [("_law_pair", 7)]) rfl sc_l_done.nd (i_list (K := g.K) (pv 2)) (blkOk_by (own := [("_law_pair", 7)]) (N := ["_law_mapping_here", "_law_deeds_here", "_law_found", "_law_deed", "_law_places", "_law_key", "_law_n", "_law_pair"]) (sc := defScope s_l_done) (by decide +kernel)) (fun _ _ _ _ _ => (pg_name (i := 7) sc_l_done.nd rfl (.inl rfl))) (fun _ _ _ _ _ => (pts_one (pt_cmpR (o_ne (K := g.K) (Rm.mk hr.room hr.gd)) (pe_ix (o_ix (K := g.K)) (pv 7) pe_int (fun _ _ => rfl)) (pe_ix (o_ix (K := g.K)) (pv 3) pe_int (fun _ _ => rfl)) (nomark _)))) (fun _ _ _ _ _ => (pv 7))))) (pss_one (ps_if (pt_cmpR (o_eq (K := g.K) hr) (pv 4) (pe_lst pa_nil) (nomark _)) (pss_one (ps_expr (e_bm (K := g.K) PySem.F.plainAttrs_list PySem.F.slot_list_append PySem.F.type_list_append mt_append (pv 2) (pa_cons (pe_lst (pa_cons (pe_ix (o_ix (K := g.K)) (pv 3) pe_int (fun _ _ => rfl)) (pa_cons (pe_ix (o_ix (K := g.K)) (pv 3) pe_int (fun _ _ => rfl)) pa_nil))) pa_nil)))) (pss_one (ps_asg (pe_lst (pa_cons (pe_ix (o_ix (K := g.K)) (pv 3) pe_int (fun _ _ => rfl)) (pa_cons (pe_ix (o_ix (K := g.K)) (pv 3) pe_int (fun _ _ => rfl)) pa_nil))) (pg_sub (pv 2) (pe_ix (o_ix (K := g.K)) (pv 4) pe_int (fun _ _ => rfl)) set_list)))))))))
      (pss_one (ps_ret (pv 2))))), ?_⟩
  walk_at "sx"
  cases tr with
  | @dct m kvs _ fp h hs na nd =>
  refine ⟨m, _, h, True.intro, fun od => ⟨m, rfl, od, .inl ⟨kvs, upd_same, ?_⟩⟩⟩
  have ea : upd H m (.frz od (.dK kvs)) m = some (.frz od (.dK kvs)) := upd_same
  have hu : ∀ G, Same (upd H m (.frz od (.dK kvs))) G → Same H (upd G m (.dK kvs)) := fun G sm => unlock h sm
  have hn1 : ∀ b, upd H m (.frz od (.dK kvs)) b = none → b ≠ m ∧ H b = none := fun b z => fresh_lock z
  generalize upd H m (.frz od (.dK kvs)) = H1 at ea hu hn1 ⊢
  have ll := hs.len
  refine lc_invA kvs.length (fun L i acc X => Same H1 X ∧ ∃ ps, acc = ps.map V.ref ∧ Paired (fun p kv => X p = some (.lst [kV kv.1, kv.2]) ∧ H p = none ∧ p ≠ L) ps (kvs.take i)) (by rw [sizeLine_eq]; omega) (fun L hL => ⟨same_upd hL, [], rfl, .nil⟩) (fun L i acc X hL lt P => ⟨P.1 _ _ ea, lt⟩) (fun L acc X hL P => ⟨P.1 _ _ ea, Nat.le_refl _⟩) (fun L i acc X x X' K hL lt la P eL y k => ?_) (fun L acc X hL P eL => ?_)
  · obtain ⟨sm, ps, rfl, pr1⟩ := P
    obtain ⟨rfl, k0, v0, hk, rfl⟩ := y
    obtain ⟨x, v, d, f', e1, e2, t, _⟩ := hs.get lt
    rw [hk] at e1
    cases e1
    refine ⟨rfl, ?_⟩
    simp only [kV, tRet, tRetN, tSeq, C8.tCut, tNext, tAsg, gName, gNil, gCons, gTup, gFld, tIfS, tIf, tAndV, tOrV, tNotV, tAnd, tOr, tNot, tB, tTest, tOp, tUn, tCB, tCons, tNil, tVar, tC, tChain, tDrop, RS.tCallG, RS.tMethG, tMakeG, RS.tCallK, RS.tMakeK, tEqOwn, rI, rI0, rU, add_ii, add_ss, add_rr, mul_ii, mul_si, mul_ri, RS.eq_ii, RS.eq_ss, eq_bb, eq_nn, eq_sn, eq_ns, eq_in, eq_ni, eq_bn, eq_nb, eq_is, eq_si, eq_rr, ne_ii, ne_ss, ne_bb, ne_nn, ne_sn, ne_ns, ne_in, ne_ni, ne_is, ne_si, ne_rr, in_ss, in_r, nin_ss, nin_r, len_s, len_r, RS.ix_s, RS.ix_r, sl_s, sl_r, is_eq, tyN_n, tyN_b, tyN_i, tyN_s, tru_b, tru_i, tru_n, tSl, tPart, tNoPart, tPar, tPar3, tFmtZ, tFmt, tJs, tDGet, sDPut, sFld, tFld, tTup, tLst, tNever, isB,
  L2.start, List.map_cons, List.map_nil, List.length_cons, List.length_nil, Nat.reduceAdd, Nat.reduceSub, Nat.sub_self, List.replicate_zero, List.replicate_succ, List.append_nil, List.cons_append, List.nil_append, List.getElem?_cons_zero, List.getElem?_cons_succ, List.set_cons_zero, List.set_cons_succ, Option.some.injEq, exists_eq_left, exists_eq_left', exists_and_left, V.bl.injEq, V.int.injEq, V.str.injEq, V.ref.injEq, beq_self_eq_true, Bool.true_or, Bool.or_true, Bool.false_or, Bool.or_false, Bool.and_false, Bool.false_and, Bool.true_and, Bool.and_true, Bool.not_true, Bool.not_false, Bool.false_eq_true, if_true, if_false, ite_true, ite_false, true_and, and_true, and_assoc, String.reduceBEq, String.reduceEq, reduceIte, Bool.and_self, reduceCtorEq, false_and, and_false, exists_false, or_false, false_or, exists_const, iEnumS, iStr, iList, iTup, iRng1, iEnum, tFor_eq, tLc_eq, List.cons.injEq, wipe, not_true_eq_false, not_false_eq_true, upd_same, HO.ins.injEq, HO.tup.injEq, HO.lst.injEq, ofS_eq, lk_nil, lk_cons, pu_nil, pu_cons, sizeLine_eq, Nat.reduceLT, Nat.reduceLeDiff, Nat.reduceEqDiff, Nat.le_refl, decide_true, decide_false, tPr, dget_us, dput_us, vv_nil, vv_cons, RS.pk_nil, pk_one, RS.pk_cons, inr_eq, tDisp, tPairs, tBoolOwn, rBoolOwn, tBM, rAppend, ty_list, ty_str, rEqOwn, iEnumT, RS.tCallS, tM1, tDc_eq, tLock, tLockE, iKeys, tListEnum, rUpdate, tMkX0, tMkX1, tXfv, gSub, rSetL, List.getD_cons_zero, List.getD_cons_succ, tBreak, tCMethS, ClX.tCVal, tXfa, tIxOwn, tInOwn, tPropG, tMethK, tMethP, tListGen, tDGet2, tDPop2, rNeD0, intA_i, intA_b, tRevL, sFldAug, tPm0, tPm1, tDIn, tDNotIn, tDNewK, RS.tMethS, tForK, tKM, tKC, tLcK, tKM2, tKC2, tMethStar, tKCK2, tLk, tAug, ipI, tDig, tLcX, tKMX, tKCX]
    refine ⟨v0, .inl ⟨kvs, .inr x, .inr ⟨od, sm _ _ ea⟩, rfl, (valV_at nd hk).symm⟩, fun p hp => ?_⟩
    have pL : p ≠ L := fun z => by rw [z, eL] at hp; cases hp
    have p1 : H1 p = none := by
      cases e : H1 p with
      | none => rfl
      | some o => have := sm _ _ e; rw [hp] at this; cases this
    have tk : kvs.take (i + 1) = kvs.take i ++ [(.inr x, v0)] := by rw [List.take_add_one]; simp [hk]
    refine k (.ref p) _ (by rw [upd_ne pL.symm]; exact eL) ⟨fun b o e => ?_, ps ++ [p], by simp, ?_⟩
    · have bL : b ≠ L := fun z => by rw [z, hL] at e; cases e
      rw [upd_ne bL]; exact same_upd hp _ _ (sm _ _ e)
    · rw [tk]
      refine paired_snoc ⟨by rw [upd_ne pL]; exact upd_same, (hn1 p p1).2, pL⟩ (paired_imp (fun a _ z => ⟨?_, z.2⟩) pr1)
      rw [upd_ne z.2.2]; exact same_upd hp _ _ z.1
  obtain ⟨sm, ps, rfl, pr1⟩ := P
  rw [List.take_of_length_le (by omega)] at pr1
  have Ln := hn1 L hL
  have sG := hu X sm
  refine ⟨sm _ _ ea, ?_⟩
  have P0 : PrsAt H (upd X m (.dK kvs)) L kvs := ⟨⟨ps, by rw [upd_ne Ln.1]; exact eL, paired_imp (fun a _ z => ⟨by rw [upd_ne (fun q => by rw [q, h] at z; cases z.2.1)]; exact z.1, z.2⟩) pr1⟩, Ln.2⟩
  generalize upd X m (.dK kvs) = G0 at sG P0 ⊢
  refine ⟨⟨_, SqL.of (sG _ _ ha)⟩, ?_⟩
  have lpr := paired_len pr
  refine for_by vs.length (fun i σ X => (∃ r y3 y4, σ = [some (.ref m), some (.ref a), some (.ref r), y3, y4, none, none, none] ∧ Same H X ∧ ∃ kv f, PrsAt H X r kv ∧ TrD H kv (apDs D (dds.take i)) f ∧ (∀ c ∈ f, N c) ∧ (kv.map (·.1)).Nodup ∧ kv.length ≤ D.length + i))
    ⟨L, _, _, rfl, sG, kvs, fp, P0, hs, fun c hc => nfp c (List.mem_cons_of_mem _ hc) fun z => na (by cases z; exact hc), nd, by omega⟩ (fun i σ X lt P => ?_) (fun σ X P => ?_) (fun i σ X z X' lt P yl => ?_) (fun σ X P => ?_)
  · obtain ⟨r, y3, y4, rfl, sX, _⟩ := P
    exact ⟨_, vs[i], SqL.of (sX _ _ ha), by simp [lt]⟩
  · obtain ⟨r, y3, y4, rfl, sX, _⟩ := P
    exact ⟨_, SqL.of (sX _ _ ha), Nat.le_refl _⟩
  · obtain ⟨r, y3, y4, rfl, sX, kv, f1, ⟨⟨ps, er, pr2⟩, nr⟩, tk, nk, ndk, lk⟩ := P
    obtain ⟨rfl, hx⟩ := yl
    have hx := hx _ (SqL.of (sX _ _ ha))
    obtain ⟨dd, e2, hdd⟩ := pairedO pr hx
    have etk : apDs D (dds.take (i + 1)) = apD (apDs D (dds.take i)) dd := by
      rw [List.take_add_one, e2, apDs, apDs, List.foldl_append]; rfl
    rw [etk]
    generalize apDs D (dds.take i) = D1 at tk ⊢
    have lps := paired_len pr2
    have lkv := tk.len
    obtain ⟨t, x, zt, ht1⟩ : ∃ t x, z = .ref t ∧ ∃ us, X' t = some (.tup us) ∧ us[1]? = some (.str x) ∧ (match dd with | .put y _ => y | .drop y => y) = x := by
      cases dd with
      | put y d => obtain ⟨t, w, f', rfl, et, _⟩ := hdd; exact ⟨t, y, rfl, _, sX _ _ et, rfl, rfl⟩
      | drop y => obtain ⟨t, rfl, et⟩ := hdd; exact ⟨t, y, rfl, _, sX _ _ et, rfl, rfl⟩
    obtain ⟨us, et, e1, ex⟩ := ht1
    subst zt
    walk_at "sx"
    refine .inl ⟨_, .inl (SqL.of er), by rw [List.length_map]; omega, by rw [List.length_map]; omega, ?_⟩
    have at1 : ∀ {us : List V} {v : V}, us[1]? = some v → atI us 1 = some v := by
      intro us v e
      have l := (List.getElem?_eq_some_iff.mp e).1
      unfold atI ixN
      rw [if_pos (by omega), if_pos (by omega)]
      exact e
    refine lc_inv ps.length (fun L i acc X => Same X' X ∧ acc = (hits kv x i).map fun n => V.int (n : Nat)) (by rw [sizeLine_eq]; omega) (fun L hL => ⟨same_upd hL, rfl⟩) (fun L j acc X hL lt P => by show j < _; simp; omega) (fun L acc X hL P => by show _ ≤ _; simp) (fun L j acc X z X2 K K0 hL lt la P eL yl k k0 => ?_) (fun L acc X hL P eL => ?_)
    · obtain ⟨sX2, rfl⟩ := P
      obtain ⟨rfl, rfl⟩ := yl
      have ltk : j < kv.length := by omega
      obtain ⟨y, v, d, f', g1, g2, tv, _⟩ := tk.get ltk
      obtain ⟨p, gp, ep, _⟩ := paired_at2 pr2 g1
      refine ⟨rfl, ?_⟩
      walk_at "sx"
      refine ⟨_, .inl (SqL.of (sX2 _ _ er)), .ref p, ?_, ?_⟩
      · unfold atI ixN
        rw [if_pos (by omega), if_pos (by rw [List.length_map]; omega)]
        simp [gp]
      rw [RS.ix_r]
      refine ⟨_, .inl (SqL.of (sX2 _ _ ep)), .str y, rfl, us, .inr (SqT.of (sX2 _ _ et)), .str x, at1 e1, ?_⟩
      rw [RS.eq_ss]
      have hk : (kv[j]?).map (·.1) = some (.inr y) := by rw [g1]; rfl
      refine ⟨_, rfl, ?_⟩
      by_cases e : y = x
      · rw [if_pos (by simp [e])]
        refine k _ _ eL ⟨fun b o q => ?_, by rw [hits_succ, hk, if_pos (by rw [e])]; simp⟩
        have bL : b ≠ L := fun e => by rw [e, hL] at q; cases q
        rw [upd_ne bL]; exact sX2 _ _ q
      · rw [if_neg (by simp [e])]
        exact k0 _ eL ⟨sX2, by rw [hits_succ, hk, if_neg (fun q => e (Sum.inr.inj (Option.some.inj q))), List.append_nil]⟩
    obtain ⟨sX2, rfl⟩ := P
    have sH := sX.trans sX2
    have er2 := sX2 _ _ er
    have et2 := sX2 _ _ et
    have pr3 := paired_imp (F := fun (p : Addr) (kv : Key × V) => X' p = some (.lst [kV kv.1, kv.2]) ∧ H p = none ∧ p ≠ r) (G := fun (p : Addr) (kv : Key × V) => X p = some (.lst [kV kv.1, kv.2]) ∧ H p = none ∧ p ≠ r) (fun _ _ z => ⟨sX2 _ _ z.1, z.2⟩) pr2
    rw [lps] at eL
    cases dd with
    | drop y =>
      obtain ⟨t2, zt, et3⟩ := hdd
      cases zt
      simp only at ex
      subst ex
      have et4 := sH _ _ et3
      refine ⟨_, .inr (SqT.of et4), .str "drop", rfl, ?_⟩
      rw [RS.eq_ss]
      refine ⟨_, rfl, ?_⟩
      rw [if_pos (by simp)]
      refine ⟨⟨_, SqL.of er2⟩, ?_⟩
      refine lc_inv ps.length (fun B j acc Y => Same X Y ∧ ∃ qs, acc = qs.map V.ref ∧ Paired (fun p kv => Y p = some (.lst [kV kv.1, kv.2]) ∧ H p = none ∧ p ≠ B) qs ((kv.take j).filter fun p => decide (p.1 ≠ .inr y))) (by rw [sizeLine_eq]; omega) (fun B hB => ⟨same_upd hB, [], rfl, .nil⟩) (fun B j acc Y hB lt P => ⟨_, .ref ps[j], SqL.of (P.1 _ _ er2), by simp [lt]⟩) (fun B acc Y hB P => ⟨_, SqL.of (P.1 _ _ er2), by simp⟩) (fun B j acc Y z Y2 K K0 hB lt la P eB yl k k0 => ?_) (fun B acc Y hB P eB => ?_)
      · obtain ⟨sY, qs, rfl, prq⟩ := P
        obtain ⟨rfl, hz⟩ := yl
        have hz := hz _ (SqL.of (sY _ _ er2))
        have ltk : j < kv.length := by omega
        obtain ⟨u, v, d, f', g1, g2, tv, _⟩ := tk.get ltk
        obtain ⟨p, gp, ep, hp0, _⟩ := paired_at2 pr3 g1
        have zp : z = .ref p := by
          rw [List.getElem?_map, gp] at hz
          exact (Option.some.inj hz).symm
        subst zp
        have pB : p ≠ B := fun e => by rw [e, hB] at ep; cases ep
        refine ⟨rfl, ?_⟩
        walk_at "sx"
        refine ⟨_, .inl (SqL.of (sY _ _ ep)), .str u, rfl, _, .inr (SqT.of (sY _ _ et4)), .str y, rfl, ?_⟩
        rw [RS.ne_ss]
        refine ⟨_, rfl, ?_⟩
        have tk1 : kv.take (j + 1) = kv.take j ++ [(.inr u, v)] := by rw [List.take_add_one]; simp [g1]
        by_cases e : u = y
        · rw [if_neg (by simp [e])]
          refine k0 _ eB ⟨sY, qs, rfl, ?_⟩
          rw [tk1, List.filter_append]
          simpa [e] using prq
        · rw [if_pos (by simp [e])]
          refine k _ _ eB ⟨fun b o q => ?_, qs ++ [p], by simp, ?_⟩
          · have bB : b ≠ B := fun e => by rw [e, hB] at q; cases q
            rw [upd_ne bB]; exact sY _ _ q
          · rw [tk1, List.filter_append]
            have f1 : ([(Sum.inr u, v)] : List (Key × V)).filter (fun p => decide (p.1 ≠ .inr y)) = [(Sum.inr u, v)] := by simp [e]
            rw [f1]
            exact paired_snoc ⟨by rw [upd_ne pB]; exact sY _ _ ep, hp0, pB⟩ (paired_imp (fun _ _ z => ⟨by rw [upd_ne z.2.2]; exact z.1, z.2⟩) prq)
      · obtain ⟨sY, qs, rfl, prq⟩ := P
        rw [List.take_of_length_le (by omega)] at prq
        obtain ⟨f2, t2, kf⟩ := trD_drop (x := y) tk
        have hB0 : H B = none := by
          cases e : H B with
          | none => rfl
          | some o => have := sH _ _ e; rw [hB] at this; cases this
        exact ⟨B, rfl, sH.trans sY, _, ⟨⟨qs, eB, prq⟩, hB0⟩, f2, t2, fun c hc => nk c (kf c hc), ndk.sublist (List.filter_sublist.map _), Nat.le_trans (List.length_filter_le _ _) (by omega)⟩
    | put y d =>
      obtain ⟨t2, w, f', zt, et3, tw, nw⟩ := hdd
      cases zt
      simp only at ex
      subst ex
      have et4 := sH _ _ et3
      refine ⟨_, .inr (SqT.of et4), .str "put", rfl, ?_⟩
      rw [RS.eq_ss]
      refine ⟨_, rfl, ?_⟩
      rw [if_neg (by decide +kernel)]
      intro e0 he0
      have s0 := same_upd (o := HO.lst []) he0
      have em : ((hits kv y kv.length).map fun n => V.int (n : Nat)) = ((hits kv y kv.length).map fun n => ((n : Nat) : Int)).map V.int := by rw [List.map_map]; rfl
      refine ⟨_, _, .lst (SqL.of (by rw [← em]; exact s0 _ _ eL)) (dp_ints _), .lst (SqL.of upd_same) .nil, shaped_ints _, rfl, ?_⟩
      rw [eqv_nil]
      refine ⟨_, rfl, ?_⟩
      have er3 := s0 _ _ er2
      have et5 := s0 _ _ et4
      have eL3 := s0 _ _ eL
      have sH3 := sH.trans s0
      have pr4 := paired_imp (F := fun (p : Addr) (kv : Key × V) => X p = some (.lst [kV kv.1, kv.2]) ∧ H p = none ∧ p ≠ r) (G := fun (p : Addr) (kv : Key × V) => upd X e0 (.lst []) p = some (.lst [kV kv.1, kv.2]) ∧ H p = none ∧ p ≠ r) (fun _ _ z => ⟨s0 _ _ z.1, z.2⟩) pr3
      generalize upd X e0 (.lst []) = X3 at er3 et5 eL3 sH3 pr4 ⊢
      have fin : ∀ p, X3 p = none → H p = none ∧ p ≠ r ∧ upd X3 p (.lst [.str y, w]) r = some (.lst (ps.map V.ref)) ∧ Same H (upd X3 p (.lst [.str y, w])) := fun p hp => by
        have pr : p ≠ r := fun z => by rw [z, er3] at hp; cases hp
        refine ⟨?_, pr, by rw [upd_ne pr.symm]; exact er3, sH3.trans (same_upd hp)⟩
        cases e : H p with
        | none => rfl
        | some o => have := sH3 _ _ e; rw [hp] at this; cases this
      obtain ⟨f2, t2, kf⟩ := trD_put (x := y) tw tk ndk
      have nf2 : ∀ c ∈ f2, N c := fun c hc => (kf c hc).elim (nk c) (nw c)
      have n2 := nd_put (x := y) (v := w) (trD_keys tk) ndk
      have grow : ∀ {G : Hp} {o : HO}, Same H G → G r = some (.lst (ps.map V.ref)) → Same H (upd G r o) := fun sG _ b o e => by
        have br : b ≠ r := fun z => by rw [z, nr] at e; cases e
        rw [upd_ne br]; exact sG _ _ e
      cases hh : hits kv y kv.length with
      | nil =>
        rw [hh] at eL3
        rw [if_pos (by simp [hh])]
        refine ⟨⟨_, SqL.of er3⟩, _, .inr (SqT.of et5), .str y, rfl, _, .inr (SqT.of et5), w, rfl, fun p hp => ?_⟩
        obtain ⟨p1, p2, p3, p4⟩ := fin p hp
        refine ⟨_, p3, by rw [List.length_map]; omega, grow p4 p3, putK kv (.inr y) w, ⟨⟨ps ++ [p], by rw [upd_same]; simp, ?_⟩, nr⟩, f2, t2, nf2, n2, by have := length_putK kv (.inr y) w; omega⟩
        rw [putK_new (hits_none hh)]
        refine paired_snoc ⟨by rw [upd_ne p2]; exact upd_same, p1, p2⟩ (paired_imp (fun a _ z => ⟨?_, z.2⟩) pr4)
        rw [upd_ne z.2.2]; exact same_upd hp _ _ z.1
      | cons j js =>
        obtain ⟨u, hj⟩ := hits_some hh
        rw [if_neg (by simp [hh])]
        refine ⟨_, .inr (SqT.of et5), .str y, rfl, _, .inr (SqT.of et5), w, rfl, fun p hp => ?_⟩
        obtain ⟨p1, p2, p3, p4⟩ := fin p hp
        have jl : j < kv.length := (List.getElem?_eq_some_iff.mp hj).1
        rw [RS.ix_r]
        refine ⟨_, .inl (SqL.of (same_upd hp _ _ eL3)), .int (j : Nat), by rw [hh]; unfold atI ixN; simp, ?_⟩
        refine ⟨ps.map V.ref, (j : Nat), rfl, p3, j, ?_, grow p4 p3, putK kv (.inr y) w, ⟨⟨ps.set j p, by rw [upd_same, List.map_set], ?_⟩, nr⟩, f2, t2, nf2, n2, by have := length_putK kv (.inr y) w; omega⟩
        · unfold ixN
          rw [if_pos (by omega), if_pos (by rw [List.length_map]; omega)]
          simp
        · rw [putK_set ndk hj]
          refine paired_set ⟨by rw [upd_ne p2]; exact upd_same, p1, p2⟩ (paired_imp (fun a _ z => ⟨?_, z.2⟩) pr4) j
          rw [upd_ne z.2.2]; exact same_upd hp _ _ z.1
  · obtain ⟨r, y3, y4, rfl, sX, kv, f1, P1, tk, nk, ndk, lk⟩ := P
    rw [List.take_of_length_le (by omega)] at tk
    walk_at "sx"
    exact q r kv f1 X sX P1 tk nk ndk (by omega)
end
theorem DdW.key {x : Str} {d : PyData} (h : DdW (.put x d)) : x.length ≤ 200 ∧ 1 ≤ x.length := by
  have k := keys6_ok x h.1
  simp only [Bool.and_eq_true, decide_eq_true_eq] at k
  exact ⟨by omega, k.2⟩
theorem key_len {x : Str} (h : x ∈ keys6) : x.length ≤ 200 ∧ 1 ≤ x.length := by
  have k := keys6_ok x h
  simp only [Bool.and_eq_true, decide_eq_true_eq] at k
  exact ⟨by omega, k.2⟩
section
variable {g : Wd} {f : Addr} {fd : FuncData}
theorem sc_is_deed : FnScope ["deed"] ["deed"] (defScope s_is_deed) := ⟨rfl, rfl, rfl, by decide +kernel, rfl, by decide +kernel, by decide +kernel⟩
def sp_isd : Sp := S1 fun v H Q _ => ∃ dd N, DdF N H v dd ∧ DdV dd ∧ ∀ H', Same H H' → Q (.bl true) H'
theorem ok_isd (F : Df g.K "is_deed" "is_deed" s_is_deed f fd .none) (T : Txt g) (F_is_key : Kn g "is_key" 1 ["value"] [] sp_iskey) (F_is_value : Kn g "is_value" 10 ["value"] [] sp_isv) : FnG g 11 f fd ["deed"] sp_isd := by
  refine F.ok sc_is_deed (fun vs H Q E h => S1.len h) (fun cdv A outer s H vs Q E hr h => ?_)
  obtain ⟨_, rfl, dd, N, hd, hv, q⟩ := h
  refine ⟨_, (pss_cons (ps_if (PW.pt (pw_or (pt_not (pt_val (pe_callB (c_is "tuple") (by rfl) T.b_isinstance bb_isinstance (pa_cons (pv 0) (pa_cons (pe_bltn (v := .ty "tuple") rfl T.b_tuple bb_tuple rfl) pa_nil))))) (pw_or (pt_cmpR (op_eqT0 (K := g.K) hr) (pv 0) (pe_tup pa_nil) (nomark _)) (pw_or1 (pt_not (pt_val (pe_callB (c_is "str") (by rfl) T.b_isinstance bb_isinstance (pa_cons (pe_ix (o_ix (K := g.K)) (pv 0) pe_int (fun _ _ => rfl)) (pa_cons (pe_bltn (v := .ty "str") rfl T.b_str bb_str rfl) pa_nil))))))))) (pss_one (ps_ret pe_bl)) pss_nil)
      (pss_cons (ps_if (pt_cmpR (o_eq (K := g.K) hr) (pe_ix (o_ix (K := g.K)) (pv 0) pe_int (fun _ _ => rfl)) pe_str (nomark _)) (pss_one (ps_ret (pe_and (pe_cmpR (o_eq (K := g.K) hr) (pe_callB (c_len (K := g.K)) (by rfl) T.b_len bb_len (pa_cons (pv 0) pa_nil)) pe_int (nomark _)) (pe_and (pe_callG F_is_key (hr.mono (by first | decide | omega)) tkD (pa_cons (pe_ix (o_ix (K := g.K)) (pv 0) pe_int (fun _ _ => rfl)) pa_nil)) (pe_one (pe_callG F_is_value (hr.mono (by first | decide | omega)) tkD (pa_cons (pe_ix (o_ix (K := g.K)) (pv 0) pe_int (fun _ _ => rfl)) pa_nil))))))) pss_nil)
      (pss_one (ps_ret (pe_and (pe_cmpR (o_eq (K := g.K) hr) (pe_ix (o_ix (K := g.K)) (pv 0) pe_int (fun _ _ => rfl)) pe_str (nomark _)) (pe_and (pe_cmpR (o_eq (K := g.K) hr) (pe_callB (c_len (K := g.K)) (by rfl) T.b_len bb_len (pa_cons (pv 0) pa_nil)) pe_int (nomark _)) (pe_one (pe_callG F_is_key (hr.mono (by first | decide | omega)) tkD (pa_cons (pe_ix (o_ix (K := g.K)) (pv 0) pe_int (fun _ _ => rfl)) pa_nil))))))))), ?_⟩
  cases dd with
  | put x d =>
    obtain ⟨t, w, fw, rfl, et, tw, _⟩ := hd
    simp only [tyN_t et, tRet, tRetN, tSeq, C8.tCut, tNext, tAsg, gName, gNil, gCons, gTup, gFld, tIfS, tIf, tAndV, tOrV, tNotV, tAnd, tOr, tNot, tB, tTest, tOp, tUn, tCB, tCons, tNil, tVar, tC, tChain, tDrop, RS.tCallG, RS.tMethG, tMakeG, RS.tCallK, RS.tMakeK, tEqOwn, rI, rI0, rU, add_ii, add_ss, add_rr, mul_ii, mul_si, mul_ri, RS.eq_ii, RS.eq_ss, eq_bb, eq_nn, eq_sn, eq_ns, eq_in, eq_ni, eq_bn, eq_nb, eq_is, eq_si, eq_rr, ne_ii, ne_ss, ne_bb, ne_nn, ne_sn, ne_ns, ne_in, ne_ni, ne_is, ne_si, ne_rr, in_ss, in_r, nin_ss, nin_r, len_s, len_r, RS.ix_s, RS.ix_r, sl_s, sl_r, is_eq, tyN_n, tyN_b, tyN_i, tyN_s, tru_b, tru_i, tru_n, tSl, tPart, tNoPart, tPar, tPar3, tFmtZ, tFmt, tJs, tDGet, sDPut, sFld, tFld, tTup, tLst, tNever, isB,
  L2.start, List.map_cons, List.map_nil, List.length_cons, List.length_nil, Nat.reduceAdd, Nat.reduceSub, Nat.sub_self, List.replicate_zero, List.replicate_succ, List.append_nil, List.cons_append, List.nil_append, List.getElem?_cons_zero, List.getElem?_cons_succ, List.set_cons_zero, List.set_cons_succ, Option.some.injEq, exists_eq_left, exists_eq_left', exists_and_left, V.bl.injEq, V.int.injEq, V.str.injEq, V.ref.injEq, beq_self_eq_true, Bool.true_or, Bool.or_true, Bool.false_or, Bool.or_false, Bool.and_false, Bool.false_and, Bool.true_and, Bool.and_true, Bool.not_true, Bool.not_false, Bool.false_eq_true, if_true, if_false, ite_true, ite_false, true_and, and_true, and_assoc, String.reduceBEq, String.reduceEq, reduceIte, Bool.and_self, reduceCtorEq, false_and, and_false, exists_false, or_false, false_or, exists_const, iEnumS, iStr, iList, iTup, iRng1, iEnum, tFor_eq, tLc_eq, List.cons.injEq, wipe, not_true_eq_false, not_false_eq_true, upd_same, HO.ins.injEq, HO.tup.injEq, HO.lst.injEq, ofS_eq, lk_nil, lk_cons, pu_nil, pu_cons, sizeLine_eq, Nat.reduceLT, Nat.reduceLeDiff, Nat.reduceEqDiff, Nat.le_refl, decide_true, decide_false, tPr, dget_us, dput_us, vv_nil, vv_cons, RS.pk_nil, pk_one, RS.pk_cons, inr_eq, tDisp, tPairs, tBoolOwn, rBoolOwn, tBM, rAppend, ty_list, ty_str, rEqOwn, iEnumT, RS.tCallS, tM1, tDc_eq, tLock, tLockE, iKeys, tListEnum, rUpdate, tMkX0, tMkX1, tXfv, gSub, rSetL, List.getD_cons_zero, List.getD_cons_succ, tBreak, tCMethS, ClX.tCVal, tXfa, tIxOwn, tInOwn, tPropG, tMethK, tMethP, tListGen, tDGet2, tDPop2, rNeD0, intA_i, intA_b, tRevL, sFldAug, tPm0, tPm1, tDIn, tDNotIn, tDNewK, RS.tMethS, tForK, tKM, tKC, tLcK, tKM2, tKC2, tMethStar, tKCK2, tLk, tAug, ipI, tDig, tLcX, tKMX, tKCX]
    intro p hp
    have s1 := same_upd (o := HO.tup []) hp
    refine ⟨t, p, _, _, rfl, rfl, SqT.of (s1 _ _ et), SqT.of upd_same, .inr rfl, _, rfl, ?_⟩
    have et1 := s1 _ _ et
    have tw1 := tw.same s1
    generalize upd H p (.tup []) = H1 at s1 et1 tw1 ⊢
    rw [if_neg (by simp)]
    refine ⟨_, .inr (SqT.of et1), .str "put", rfl, "str", rfl, ?_⟩
    rw [if_neg (by decide)]
    refine ⟨_, .inr (SqT.of et1), .str "put", rfl, ?_⟩
    rw [RS.eq_ss]
    refine ⟨_, rfl, ?_⟩
    rw [if_pos (by simp)]
    refine .inl ⟨_, .inr (SqT.of et1), ?_⟩
    rw [if_pos (by simp)]
    refine ⟨_, .inr (SqT.of et1), .str x, rfl, ?_⟩
    have kl := key_len hv.1
    refine ⟨_, rfl, x, rfl, kl.1, kl.2, _, rfl, ?_⟩
    rw [if_pos rfl]
    refine ⟨_, .inr (SqT.of et1), w, rfl, ?_⟩
    exact ⟨_, rfl, d, fw, tw1, ok_g _ hv.2.ok, by have := hv.2.dep; omega, fun H' s2 => q _ (s1.trans s2)⟩
  | drop x =>
    obtain ⟨t, rfl, et⟩ := hd
    simp only [tyN_t et, tRet, tRetN, tSeq, C8.tCut, tNext, tAsg, gName, gNil, gCons, gTup, gFld, tIfS, tIf, tAndV, tOrV, tNotV, tAnd, tOr, tNot, tB, tTest, tOp, tUn, tCB, tCons, tNil, tVar, tC, tChain, tDrop, RS.tCallG, RS.tMethG, tMakeG, RS.tCallK, RS.tMakeK, tEqOwn, rI, rI0, rU, add_ii, add_ss, add_rr, mul_ii, mul_si, mul_ri, RS.eq_ii, RS.eq_ss, eq_bb, eq_nn, eq_sn, eq_ns, eq_in, eq_ni, eq_bn, eq_nb, eq_is, eq_si, eq_rr, ne_ii, ne_ss, ne_bb, ne_nn, ne_sn, ne_ns, ne_in, ne_ni, ne_is, ne_si, ne_rr, in_ss, in_r, nin_ss, nin_r, len_s, len_r, RS.ix_s, RS.ix_r, sl_s, sl_r, is_eq, tyN_n, tyN_b, tyN_i, tyN_s, tru_b, tru_i, tru_n, tSl, tPart, tNoPart, tPar, tPar3, tFmtZ, tFmt, tJs, tDGet, sDPut, sFld, tFld, tTup, tLst, tNever, isB,
  L2.start, List.map_cons, List.map_nil, List.length_cons, List.length_nil, Nat.reduceAdd, Nat.reduceSub, Nat.sub_self, List.replicate_zero, List.replicate_succ, List.append_nil, List.cons_append, List.nil_append, List.getElem?_cons_zero, List.getElem?_cons_succ, List.set_cons_zero, List.set_cons_succ, Option.some.injEq, exists_eq_left, exists_eq_left', exists_and_left, V.bl.injEq, V.int.injEq, V.str.injEq, V.ref.injEq, beq_self_eq_true, Bool.true_or, Bool.or_true, Bool.false_or, Bool.or_false, Bool.and_false, Bool.false_and, Bool.true_and, Bool.and_true, Bool.not_true, Bool.not_false, Bool.false_eq_true, if_true, if_false, ite_true, ite_false, true_and, and_true, and_assoc, String.reduceBEq, String.reduceEq, reduceIte, Bool.and_self, reduceCtorEq, false_and, and_false, exists_false, or_false, false_or, exists_const, iEnumS, iStr, iList, iTup, iRng1, iEnum, tFor_eq, tLc_eq, List.cons.injEq, wipe, not_true_eq_false, not_false_eq_true, upd_same, HO.ins.injEq, HO.tup.injEq, HO.lst.injEq, ofS_eq, lk_nil, lk_cons, pu_nil, pu_cons, sizeLine_eq, Nat.reduceLT, Nat.reduceLeDiff, Nat.reduceEqDiff, Nat.le_refl, decide_true, decide_false, tPr, dget_us, dput_us, vv_nil, vv_cons, RS.pk_nil, pk_one, RS.pk_cons, inr_eq, tDisp, tPairs, tBoolOwn, rBoolOwn, tBM, rAppend, ty_list, ty_str, rEqOwn, iEnumT, RS.tCallS, tM1, tDc_eq, tLock, tLockE, iKeys, tListEnum, rUpdate, tMkX0, tMkX1, tXfv, gSub, rSetL, List.getD_cons_zero, List.getD_cons_succ, tBreak, tCMethS, ClX.tCVal, tXfa, tIxOwn, tInOwn, tPropG, tMethK, tMethP, tListGen, tDGet2, tDPop2, rNeD0, intA_i, intA_b, tRevL, sFldAug, tPm0, tPm1, tDIn, tDNotIn, tDNewK, RS.tMethS, tForK, tKM, tKC, tLcK, tKM2, tKC2, tMethStar, tKCK2, tLk, tAug, ipI, tDig, tLcX, tKMX, tKCX]
    intro p hp
    have s1 := same_upd (o := HO.tup []) hp
    refine ⟨t, p, _, _, rfl, rfl, SqT.of (s1 _ _ et), SqT.of upd_same, .inr rfl, _, rfl, ?_⟩
    have et1 := s1 _ _ et
    generalize upd H p (.tup []) = H1 at s1 et1 ⊢
    rw [if_neg (by simp)]
    refine ⟨_, .inr (SqT.of et1), .str "drop", rfl, "str", rfl, ?_⟩
    rw [if_neg (by decide)]
    refine ⟨_, .inr (SqT.of et1), .str "drop", rfl, ?_⟩
    rw [RS.eq_ss]
    refine ⟨_, rfl, ?_⟩
    rw [if_neg (by decide +kernel)]
    refine ⟨_, .inr (SqT.of et1), .str "drop", rfl, ?_⟩
    rw [RS.eq_ss]
    refine ⟨_, rfl, ?_⟩
    rw [if_pos (by simp)]
    refine .inl ⟨_, .inr (SqT.of et1), ?_⟩
    rw [if_pos (by simp)]
    refine ⟨_, .inr (SqT.of et1), .str x, rfl, ?_⟩
    have kl := key_len hv
    exact ⟨_, rfl, x, rfl, kl.1, kl.2, q _ s1⟩
theorem sc_copied_deed : FnScope ["deed"] ["deed"] (defScope s_copied_deed) := ⟨rfl, rfl, rfl, by decide +kernel, rfl, by decide +kernel, by decide +kernel⟩
def sp_cdeed : Sp := S1 fun v H Q _ => ∃ dd N, DdF N H v dd ∧ DdV dd ∧ ∀ v' G, Same H G → DdF (fun c => H c = none) G v' dd → Q v' G
theorem ok_cdeed (F : Df g.K "copied_deed" "copied_deed" s_copied_deed f fd .none) (T : Txt g) (F_copied : Kn g "copied" 11 ["value"] [] sp_copied) : FnG g 12 f fd ["deed"] sp_cdeed := by
  refine F.ok sc_copied_deed (fun vs H Q E h => S1.len h) (fun cdv A outer s H vs Q E hr h => ?_)
  obtain ⟨_, rfl, dd, N, hd, hv, q⟩ := h
  refine ⟨_, (pss_one (ps_ret (pe_ifExp (pt_cmpR (o_eq (K := g.K) hr) (pe_ix (o_ix (K := g.K)) (pv 0) pe_int (fun _ _ => rfl)) pe_str (nomark _)) (pe_tup (pa_cons (pe_ix (o_ix (K := g.K)) (pv 0) pe_int (fun _ _ => rfl)) (pa_cons (pe_ix (o_ix (K := g.K)) (pv 0) pe_int (fun _ _ => rfl)) (pa_cons (pe_callG F_copied (hr.mono (by first | decide | omega)) tkD (pa_cons (pe_ix (o_ix (K := g.K)) (pv 0) pe_int (fun _ _ => rfl)) pa_nil)) pa_nil)))) (pv 0)))), ?_⟩
  cases dd with
  | put x d =>
    obtain ⟨t, w, fw, rfl, et, tw, _⟩ := hd
    walk_at "sx"
    have el := SqT.of (K := g.K) et
    refine ⟨_, .inr el, .str "put", rfl, ?_⟩
    rw [RS.eq_ss]
    refine ⟨_, rfl, ?_⟩
    rw [if_pos (by simp)]
    refine ⟨_, .inr el, .str "put", rfl, _, .inr el, .str x, rfl, _, .inr el, w, rfl, ?_⟩
    refine ⟨_, rfl, d, fw, tw, ok_g _ hv.2.ok, by have := hv.2.dep; omega, fun v' fp' G C l hl => ?_⟩
    exact q _ _ (C.sm.trans (same_upd hl)) ⟨l, v', fp', rfl, upd_same, C.tr.same (same_upd hl), C.nw⟩
  | drop x =>
    obtain ⟨t, rfl, et⟩ := hd
    walk_at "sx"
    have el := SqT.of (K := g.K) et
    refine ⟨_, .inr el, .str "drop", rfl, ?_⟩
    rw [RS.eq_ss]
    refine ⟨_, rfl, ?_⟩
    rw [if_neg (by decide +kernel)]
    exact q _ _ (Same.refl _) ⟨t, rfl, et⟩
end
theorem none_of {X Y : Hp} (s : Same X Y) {c : Addr} (h : Y c = none) : X c = none := by
  cases e : X c with
  | none => rfl
  | some o => have := s _ _ e; rw [h] at this; cases this
section
variable {g : Wd} {f : Addr} {fd : FuncData} {CP CR CD CT : Addr}
theorem sc_Ready__init : FnScope ["self", "row"] ["self", "row"] (defScope s_Ready__init) := ⟨rfl, rfl, rfl, by decide +kernel, rfl, by decide +kernel, by decide +kernel⟩
def sp_rinit (CR : Addr) : Sp := S2 fun s v H Q _ => ∃ y dy, s = .ref y ∧ H y = some (.ins CR dy []) ∧ Q .non (upd H y (.ins CR dy [("row", v)]))
theorem ok_rinit (F : Df g.K "__init__" "Ready.__init__" s_Ready__init f fd .none) (T : Txt g) (CL_Ready : Cls g.K CR) (n1 : NoAttr g.K CR "row") : FnG g 1 f fd ["self", "row"] (sp_rinit CR) := by
  refine F.ok sc_Ready__init (fun vs H Q E h => S2.len h) (fun cdv A outer s H vs Q E hr h => ?_)
  obtain ⟨_, v, rfl, y, dy, rfl, hy, q⟩ := h
  refine ⟨_, (pss_one (s_fld (K := g.K) (pv 0) (pv 1))), ?_⟩
  walk_at "sx"
  exact ⟨_, _, _, hy, CL_Ready, n1, by simp, q⟩
theorem sc_Patch__init : FnScope ["self", "deeds", "index", "deed"] ["self", "deeds"] (defScope s_Patch__init) := ⟨rfl, rfl, rfl, by decide +kernel, rfl, by decide +kernel, by decide +kernel⟩
def sp_pinit (CP CR : Addr) : Sp := S2 fun s q H Q _ => ∃ y dy t vs, s = .ref y ∧ H y = some (.ins CP dy []) ∧ q = .ref t ∧ H t = some (.tup vs) ∧
  ((∃ r dr row, vs = [.ref r] ∧ H r = some (.ins CR dr [("row", row)]) ∧ Q .non (upd H y (.ins CP dy [("own_deeds", row)]))) ∨
   (∃ dds N, Paired (DdF N H) vs dds ∧ (∀ dd ∈ dds, DdV dd) ∧ dds.length ≤ 100 ∧ ∀ G row ws, (∀ c o, c ≠ y → H c = some o → G c = some o) → H row = none → G row = some (.tup ws) → Paired (DdF (fun c => H c = none) G) ws dds → G y = some (.ins CP dy [("own_deeds", .ref row)]) → Q .non G))
theorem ok_pinit (F : Df g.K "__init__" "Patch.__init__" s_Patch__init f fd .none) (hbS : ∀ us rest : List Value, us.length = (["self"] : List Str).length → bindArgs fd ⟨us ++ rest, []⟩ = (newTuple rest >>= fun t => pure ((["self"] : List Str).zip us ++ [(("deeds" : Str), t)]))) (T : Txt g)
    (CL_Patch : Cls g.K CP) (CL_Ready : Cls g.K CR) (IR : C8.InsC g.K CR) (KRR : PySem.W.kitOne g.K (.ref CR) (.ref CR) = some true) (KRT : PySem.W.kitOne g.K (.type "tuple") (.ref CR) = some false) (n1 : NoAttr g.K CP "own_deeds") (n2 : NoAttr g.K CR "row") (V_Ready : Gv g "Ready" (.ref CR)) (F_is_deed : Kn g "is_deed" 11 ["deed"] [] sp_isd) (F_copied_deed : Kn g "copied_deed" 12 ["deed"] [] sp_cdeed) : FnS g 14 f (spS 1 (sp_pinit CP CR)) := by
  refine F.okS (ps := ["self"]) (pv := "deeds") sc_Patch__init hbS (fun cdv A outer s H vs Q E hr h => ?_)
  obtain ⟨_, _, rfl, y, dy, t, vs, rfl, hy, rfl, ht, h⟩ := h
  refine ⟨_, (pss_cons (ps_if (PW.pt (pw_and (pt_cmpR (o_eq (K := g.K) hr) (pe_callB (c_len (K := g.K)) (by rfl) T.b_len bb_len (pa_cons (pv 1) pa_nil)) pe_int (nomark _)) (pw_and1 (pt_val (pe_callB (c_isi (K := g.K)) (by rfl) T.b_isinstance bb_isinstance (pa_cons (pe_ix (o_ix (K := g.K)) (pv 1) pe_int (fun _ _ => rfl)) (pa_cons (e_g V_Ready) pa_nil))))))) (pss_cons (s_fld (K := g.K) (pv 0) (e_fld (K := g.K) (pe_ix (o_ix (K := g.K)) (pv 1) pe_int (fun _ _ => rfl))))
      (pss_one ps_retN)) pss_nil)
      (pss_cons (ps_for psD rfl (pi_enumT (K := g.K) T.b_enumerate (pa_cons (pv 1) pa_nil)) (g_tup (K := g.K) (n := 2) (pgs_cons (pg_name (i := 2) sc_Patch__init.nd rfl (.inl rfl)) (pgs_cons (pg_name (i := 3) sc_Patch__init.nd rfl (.inl rfl)) pgs_nil))) (pss_one (ps_if (pt_not (pt_val (pe_callG F_is_deed (hr.mono (by first | decide | omega)) tkD (pa_cons (pv 3) pa_nil)))) (pss_one ps_never) pss_nil)))
      (pss_cons (ps_if (pt_cmpR op_gt (pe_callB (c_len (K := g.K)) (by rfl) T.b_len bb_len (pa_cons (pv 1) pa_nil)) (e_g T.c_MOST_DEEDS) (nomark _)) (pss_one ps_never) pss_nil)
      (pss_one (s_fld (K := g.K) (pv 0) (pe_callTy call_tuple_of (by rfl) T.b_tuple bb_tuple (pa_cons (pe_lc (own := [("deed", 3)]) (tt := tYes) rfl sc_Patch__init.nd (i_tup (K := g.K) (pv 1)) (blkOk_by (own := [("deed", 3)]) (N := ["self", "deeds", "index", "deed"]) (sc := defScope s_Patch__init) (by decide +kernel)) (fun _ _ _ _ _ => (pg_name (i := 3) sc_Patch__init.nd rfl (.inl rfl))) (fun _ _ _ _ _ => pts_nil) (fun _ _ _ _ _ => (pe_callG F_copied_deed (Rm.mono (Rm.mk hr.room hr.gd) (by first | decide | omega)) L2.takes0 (pa_cons (pv 3) pa_nil)))) pa_nil))))))), ?_⟩
  walk_at "sx"
  obtain ⟨r, dr, row, rfl, er, q⟩ | ⟨dds, N, pr, okd, ln, q⟩ := h
  · refine .inl ⟨_, .inr (SqT.of ht), ?_⟩
    rw [if_pos (by simp)]
    refine ⟨_, .inr (SqT.of ht), .ref r, rfl, isi_ins IR er KRR ⟨true, rfl, ?_⟩⟩
    rw [if_pos rfl]
    refine ⟨_, .inr (SqT.of ht), .ref r, rfl, r, rfl, CR, dr, _, er, CL_Ready, n2, row, by simp [lk_cons], CP, dy, [], hy, CL_Patch, n1, by simp, q⟩
  · refine .inl ⟨_, .inr (SqT.of ht), ?_⟩
    have lv := paired_len pr
    by_cases e : vs.length = 1
    rw [if_pos (by simp [e])]
    obtain ⟨v, ev⟩ : ∃ v, vs = [v] := List.length_eq_one_iff.mp e
    obtain ⟨dd, e2, hdd⟩ := pairedO pr (i := 0) (x := v) (by rw [ev]; rfl)
    have hv : ∃ a us, v = .ref a ∧ H a = some (.tup us) := by
      cases dd with
      | put y d => obtain ⟨t, w, f', rfl, et, _⟩ := hdd; exact ⟨t, _, rfl, et⟩
      | drop y => obtain ⟨t, rfl, et⟩ := hdd; exact ⟨t, _, rfl, et⟩
    obtain ⟨a, us, rfl, ea⟩ := hv
    refine ⟨_, .inr (SqT.of ht), .ref a, by rw [ev]; rfl, isi_of (t := "tuple") (tyN_t ea) KRT ⟨false, rfl, ?_⟩⟩
    rw [if_neg (by simp)]
    rotate_left
    rw [if_neg (by simp; omega)]
    all_goals refine ⟨_, SqT.of ht, ?_⟩
    all_goals (
      refine for_by vs.length (fun i σ X => (∃ y3 y4, σ = [some (.ref y), some (.ref t), y3, y4]) ∧ Same H X) ⟨⟨_, _, rfl⟩, Same.refl _⟩ (fun i σ X lt P => ⟨_, vs[i], SqT.of (P.2 _ _ ht), by simp [lt]⟩) (fun σ X P => ⟨_, SqT.of (P.2 _ _ ht), rfl⟩) (fun i σ X z X' lt P yl => ?_) (fun σ X P => ?_)
      · obtain ⟨⟨y3, y4, rfl⟩, sX⟩ := P
        obtain ⟨T', x, rfl, hT', rfl, hx⟩ := yl
        have hx := hx _ (SqT.of (sX _ _ ht))
        obtain ⟨dd, e2, hdd⟩ := pairedO pr hx
        have s2 := sX.trans (same_upd (o := HO.tup [.int (i : Nat), x]) hT')
        have eT : upd X T' (.tup [.int (i : Nat), x]) T' = some (.tup [.int (i : Nat), x]) := upd_same
        generalize upd X T' (.tup [.int (i : Nat), x]) = X2 at s2 eT ⊢
        walk_at "sx"
        have okx := okd dd (List.mem_of_getElem? e2)
        exact ⟨_, SqT.of eT, rfl, _, _, rfl, _, _, rfl, rfl, _, rfl, dd, N, hdd.same s2, okx, fun H' s3 => ⟨_, rfl, by rw [if_neg (by simp)]; exact ⟨⟨_, rfl⟩, s2.trans s3⟩⟩⟩
      · obtain ⟨⟨y3, y4, rfl⟩, sX⟩ := P
        walk_at "sx"
        refine .inl ⟨_, .inr (SqT.of (sX _ _ ht)), ?_⟩
        rw [if_neg (by simp; omega)]
        refine ⟨⟨_, SqT.of (sX _ _ ht)⟩, ?_⟩
        refine lc_inv vs.length (fun L i acc Y => Same X Y ∧ Paired (DdF (fun c => H c = none ∧ c ≠ L) Y) acc (dds.take i)) (by rw [sizeLine_eq]; omega) (fun L hL => ⟨same_upd hL, .nil⟩) (fun L j acc Y hL lt P => ⟨_, vs[j], SqT.of (P.1 _ _ (sX _ _ ht)), by simp [lt]⟩) (fun L acc Y hL P => ⟨_, SqT.of (P.1 _ _ (sX _ _ ht)), Nat.le_refl _⟩) (fun L j acc Y z Y2 K K0 hL lt la P eL yl k k0 => ?_) (fun L acc Y hL P eL => ?_)
        · obtain ⟨sY, prw⟩ := P
          obtain ⟨rfl, hz⟩ := yl
          have hz := hz _ (SqT.of (sY _ _ (sX _ _ ht)))
          obtain ⟨dd, e2, hdd⟩ := pairedO pr hz
          have okx := okd dd (List.mem_of_getElem? e2)
          have sXY := sX.trans sY
          refine ⟨rfl, ?_⟩
          walk_at "sx"
          unfold tYes; dsimp only
          rw [if_pos rfl]
          refine ⟨_, rfl, dd, N, hdd.same sXY, okx, fun v' G sG dG => ?_⟩
          have eL1 := sG _ _ eL
          have Hn : ∀ c, Y2 c = none → H c = none ∧ c ≠ L := fun c hc => ⟨none_of sXY hc, fun e => by rw [e, eL] at hc; cases hc⟩
          refine k v' G eL1 ⟨fun b o q => ?_, ?_⟩
          · have bL : b ≠ L := fun e => by rw [e, hL] at q; cases q
            rw [upd_ne bL]; exact sG _ _ (sY _ _ q)
          · rw [List.take_add_one, e2]
            exact paired_snoc ((dG.imp Hn).grow eL1 fun c n => n.2) (paired_imp (fun _ _ z => (z.same sG).grow eL1 fun c n => n.2) prw)
        · obtain ⟨sY, prw⟩ := P
          rw [List.take_of_length_le (by omega)] at prw
          have sXY := sX.trans sY
          refine ⟨L, rfl, acc, .inl ⟨SqL.of eL, fun l hl => ?_⟩⟩
          have s3 := same_upd (o := HO.tup acc) hl
          have el : upd Y l (.tup acc) l = some (.tup acc) := upd_same
          have pr3 := paired_imp (fun _ _ z => DdF.same s3 z) prw
          have hl0 := none_of sXY hl
          have ly : l ≠ y := fun e => by rw [e, hy] at hl0; cases hl0
          have sH := sXY.trans s3
          generalize upd Y l (.tup acc) = Z at s3 el pr3 sH ⊢
          have ey := sH _ _ hy
          refine ⟨CP, dy, [], ey, CL_Patch, n1, by simp, q _ l acc (fun c o ne e => by rw [upd_ne ne]; exact sH _ _ e) hl0 (by rw [upd_ne ly]; exact el) (paired_imp (fun _ _ z => ?_) pr3) upd_same⟩
          exact (z.imp (M := fun c => H c = none) fun c n => n.1).keep (S := fun c => c = y) (fun c z xs q => by rw [z, ey] at q; cases q) (fun c o n q => by rw [upd_ne n]; exact q) (fun c n e => by rw [e, hy] at n; cases n))
end
/-- a patch in the heap; N tells the places of its values -/
structure PatF (CP : Addr) (N : Addr → Prop) (H : Hp) (p : V) (dds : List Dd) : Prop where
  ex : ∃ q dx row ws, p = .ref q ∧ H q = some (.ins CP dx [("own_deeds", .ref row)]) ∧ H row = some (.tup ws) ∧ Paired (DdF N H) ws dds
  ok : ∀ dd ∈ dds, DdV dd
  len : dds.length ≤ 16
theorem lk1 {v : V} : List.lookup ("own_deeds" : Str) [("own_deeds", v)] = some v := by rw [lk_cons, if_pos rfl]
theorem paired_mem {α β : Type} {F G : α → β → Prop} : ∀ {xs : List α} {ys : List β}, Paired F xs ys → (∀ x y, y ∈ ys → F x y → G x y) → Paired G xs ys
  | _, _, .nil, _ => .nil
  | _, _, .cons h hs, k => .cons (k _ _ (List.mem_cons_self ..) h) (paired_mem hs fun x y m => k x y (List.mem_cons_of_mem _ m))
theorem same_over {H X : Hp} {p : Addr} {o : HO} (s : Same H X) (n : H p = none) : Same H (upd X p o) := fun b u e => by
  rw [upd_ne (fun z => by rw [z, n] at e; cases e)]; exact s b u e
theorem paired_app {α β : Type} {F : α → β → Prop} {us : List α} {es : List β} (k : Paired F us es) : ∀ {xs : List α} {ys : List β}, Paired F xs ys → Paired F (xs ++ us) (ys ++ es)
  | _, _, .nil => k
  | _, _, .cons h hs => .cons h (paired_app k hs)
section
variable {g : Wd} {f : Addr} {fd : FuncData} {CP CR CN : Addr}
theorem sc_Patch_deeds : FnScope ["self", "deed"] ["self"] (defScope s_Patch_deeds) := ⟨rfl, rfl, rfl, by decide +kernel, rfl, by decide +kernel, by decide +kernel⟩
def sp_pdeeds (CP : Addr) : Sp := S1 fun s H Q _ => ∃ N dds, PatF CP N H s dds ∧ ∀ r ws G, Same H G → G r = some (.tup ws) → Paired (DdF (fun c => H c = none) G) ws dds → Q (.ref r) G
theorem ok_pdeeds (F : Df g.K "deeds" "Patch.deeds" s_Patch_deeds f fd .none) (T : Txt g) (CL_Patch : Cls g.K CP) (n1 : NoAttr g.K CP "own_deeds") (F_copied_deed : Kn g "copied_deed" 12 ["deed"] [] sp_cdeed) : FnG g 13 f fd ["self"] (sp_pdeeds CP) := by
  refine F.ok sc_Patch_deeds (fun vs H Q E h => S1.len h) (fun cdv A outer s H vs Q E hr h => ?_)
  obtain ⟨_, rfl, N, dds, ⟨⟨y, dy, row, vs, rfl, hy, ht, pr⟩, okd, ln⟩, q⟩ := h
  refine ⟨_, (pss_one (ps_ret (pe_callTy call_tuple_of (by rfl) T.b_tuple bb_tuple (pa_cons (pe_lc (own := [("deed", 1)]) (tt := tYes) rfl sc_Patch_deeds.nd (i_tup (K := g.K) (e_fld (K := g.K) (pv 0))) (blkOk_by (own := [("deed", 1)]) (N := ["self", "deed"]) (sc := defScope s_Patch_deeds) (by decide +kernel)) (fun _ _ _ _ _ => (pg_name (i := 1) sc_Patch_deeds.nd rfl (.inl rfl))) (fun _ _ _ _ _ => pts_nil) (fun _ _ _ _ _ => (pe_callG F_copied_deed (Rm.mono (Rm.mk hr.room hr.gd) (by first | decide | omega)) L2.takes0 (pa_cons (pv 1) pa_nil)))) pa_nil)))), ?_⟩
  walk_at "sx"
  refine ⟨_, _, _, hy, CL_Patch, n1, _, lk1, row, rfl, ⟨_, SqT.of ht⟩, ?_⟩
  have lv := paired_len pr
  refine lc_inv vs.length (fun L i acc Y => Same H Y ∧ Paired (DdF (fun c => H c = none ∧ c ≠ L) Y) acc (dds.take i)) (by rw [sizeLine_eq]; omega) (fun L hL => ⟨same_upd hL, .nil⟩) (fun L j acc Y hL lt P => ⟨_, vs[j], SqT.of (P.1 _ _ ht), by simp [lt]⟩) (fun L acc Y hL P => ⟨_, SqT.of (P.1 _ _ ht), Nat.le_refl _⟩) (fun L j acc Y z Y2 K K0 hL lt la P eL yl k k0 => ?_) (fun L acc Y hL P eL => ?_)
  · obtain ⟨sXY, prw⟩ := P
    obtain ⟨rfl, hz⟩ := yl
    have hz := hz _ (SqT.of (sXY _ _ ht))
    obtain ⟨dd, e2, hdd⟩ := pairedO pr hz
    have okx := okd dd (List.mem_of_getElem? e2)
    refine ⟨rfl, ?_⟩
    walk_at "sx"
    unfold tYes; dsimp only
    rw [if_pos rfl]
    refine ⟨_, rfl, dd, N, hdd.same sXY, okx, fun v' G sG dG => ?_⟩
    have eL1 := sG _ _ eL
    have Hn : ∀ c, Y2 c = none → H c = none ∧ c ≠ L := fun c hc => ⟨none_of sXY hc, fun e => by rw [e, eL] at hc; cases hc⟩
    refine k v' G eL1 ⟨fun b o q => ?_, ?_⟩
    · have bL : b ≠ L := fun e => by rw [e, hL] at q; cases q
      rw [upd_ne bL]; exact sG _ _ (sXY _ _ q)
    · rw [List.take_add_one, e2]
      exact paired_snoc ((dG.imp Hn).grow eL1 fun c n => n.2) (paired_imp (fun _ _ z => (z.same sG).grow eL1 fun c n => n.2) prw)
  · obtain ⟨sXY, prw⟩ := P
    rw [List.take_of_length_le (by omega)] at prw
    refine ⟨L, rfl, acc, .inl ⟨SqL.of eL, fun l hl => ?_⟩⟩
    have s3 := same_upd (o := HO.tup acc) hl
    exact q l acc _ (sXY.trans s3) upd_same (paired_imp (fun _ _ z => (DdF.same s3 z).imp fun c n => n.1) prw)
theorem sc_Patch__call : FnScope ["self", "mapping"] ["self", "mapping"] (defScope s_Patch__call) := ⟨rfl, rfl, rfl, by decide +kernel, rfl, by decide +kernel, by decide +kernel⟩
def sp_pcall (CP : Addr) : Sp := S2 fun s m H Q _ => ∃ N dds D fp, PatF CP N H s dds ∧ MapAt H m D fp ∧ D.length ≤ 100 ∧ ∀ r G fr, Same H G → Tr G (.ref r) (.dict (apDs D dds)) fr → (∀ c ∈ fr, H c = none) → Q (.ref r) G
theorem ok_pcall (F : Df g.K "__call__" "Patch.__call__" s_Patch__call f fd .none) (T : Txt g) (CL_Patch : Cls g.K CP) (n1 : NoAttr g.K CP "own_deeds") (F_check_mappings : KnS g "check_mappings" 12 (spS 0 sp_cmaps)) (F_applied : Kn g "applied" 12 ["mapping", "deeds"] [] sp_applied) : FnG g 13 f fd ["self", "mapping"] (sp_pcall CP) := by
  refine F.ok sc_Patch__call (fun vs H Q E h => S2.len h) (fun cdv A outer s H vs Q E hr h => ?_)
  obtain ⟨_, m, rfl, N, dds, D, fp, ⟨⟨y, dy, row, vs, rfl, hy, ht, pr⟩, okd, ln⟩, hm, dl, q⟩ := h
  refine ⟨_, (pss_cons (ps_expr (pe_callS F_check_mappings (hr.mono (by first | decide | omega)) tkD (pa_cons (pv 1) pa_nil)))
      (pss_one (ps_ret (pe_callG F_applied (hr.mono (by first | decide | omega)) tkD (pa_cons (pv 1) (pa_cons (e_fld (K := g.K) (pv 0)) pa_nil)))))), ?_⟩
  walk_at "sx"
  refine ⟨[], [m], rfl, rfl, by rw [sizeLine_eq]; simp, fun p hp => ?_⟩
  have s1 := same_upd (o := HO.tup [m]) hp
  refine ⟨_, rfl, p, _, [D], rfl, upd_same, .cons ⟨fp, hm.same s1⟩ .nil, by simp, fun H1 s2 => ?_⟩
  have s12 := s1.trans s2
  refine ⟨_, _, _, s12 _ _ hy, CL_Patch, n1, _, lk1, ?_⟩
  exact ⟨_, _, rfl, D, fp, row, vs, dds, hm.tr.same s12, hm.ok, by have := hm.dep; omega, rfl, s12 _ _ ht, paired_mem pr fun v dd m z => (z.same s12).at (okd dd m).w, by omega, fun r G fr sG tG nG => q r G fr (s12.trans sG) tG fun c hc => none_of s12 (nG c hc)⟩
theorem sc_Patch__add : FnScope ["self", "other"] ["self", "other"] (defScope s_Patch__add) := ⟨rfl, rfl, rfl, by decide +kernel, rfl, by decide +kernel, by decide +kernel⟩
def sp_padd (CP : Addr) : Sp := S2 fun s m H Q _ => ∃ N dds es, PatF CP N H s dds ∧ PatF CP N H m es ∧ dds.length + es.length ≤ 16 ∧ ∀ r G, Same H G → H r = none → PatF CP N G (.ref r) (dds ++ es) → Q (.ref r) G
theorem ok_padd (F : Df g.K "__add__" "Patch.__add__" s_Patch__add f fd .none) (T : Txt g) (CL_Patch : Cls g.K CP) (n1 : NoAttr g.K CP "own_deeds") (V_Patch : Gv g "Patch" (.ref CP)) (IP : C8.InsC g.K CP) (KPP : PySem.W.kitOne g.K (.ref CP) (.ref CP) = some true)
    (F_Ready : Kc g "Ready" CR 1 ["self", "row"] [] (sp_rinit CR)) (F_Patch : KcS g "Patch" CP 14 (spS 1 (sp_pinit CP CR))) : FnG g 16 f fd ["self", "other"] (sp_padd CP) := by
  refine F.ok sc_Patch__add (fun vs H Q E h => S2.len h) (fun cdv A outer s H vs Q E hr h => ?_)
  obtain ⟨_, _, rfl, N, dds, es, ⟨⟨y, dy, row, vs, rfl, hy, ht, pr⟩, okd, ln⟩, ⟨⟨y2, dy2, row2, vs2, rfl, hy2, ht2, pr2⟩, okd2, ln2⟩, l16, q⟩ := h
  refine ⟨_, (pss_cons (ps_if (pt_not (pt_val (pe_callB (c_isi (K := g.K)) (by rfl) T.b_isinstance bb_isinstance (pa_cons (pv 1) (pa_cons (e_g V_Patch) pa_nil))))) (pss_one ps_never) pss_nil)
      (pss_cons (ps_if (pt_cmpR op_gt (pe_op (o_add (K := g.K)) (pe_callB (c_len (K := g.K)) (by rfl) T.b_len bb_len (pa_cons (e_fld (K := g.K) (pv 0)) pa_nil)) (pe_callB (c_len (K := g.K)) (by rfl) T.b_len bb_len (pa_cons (e_fld (K := g.K) (pv 1)) pa_nil))) (e_g T.c_MOST_DEEDS) (nomark _)) (pss_one ps_never) pss_nil)
      (pss_one (ps_ret (RS.pe_makeS F_Patch (hr.mono (by first | decide | omega)) tkD (pa_cons (pe_makeG F_Ready (hr.mono (by first | decide | omega)) tkD (pa_cons (pe_op (o_add (K := g.K)) (e_fld (K := g.K) (pv 0)) (e_fld (K := g.K) (pv 1))) pa_nil)) pa_nil)))))), ?_⟩
  walk_at "sx"
  refine isi_ins IP hy2 KPP ⟨true, rfl, ?_⟩
  rw [if_neg (by simp)]
  refine ⟨_, _, _, hy, CL_Patch, n1, _, lk1, ?_⟩
  rw [len_r]
  refine .inl ⟨_, .inr (SqT.of ht), _, _, _, hy2, CL_Patch, n1, _, lk1, ?_⟩
  rw [len_r]
  refine .inl ⟨_, .inr (SqT.of ht2), ?_⟩
  have lv := paired_len pr
  have lv2 := paired_len pr2
  rw [RS.add_ii]
  refine ⟨_, rfl, ?_⟩
  rw [if_neg (by simp; omega)]
  simp only [tMakeS, tRet, tRetN, tSeq, C8.tCut, tNext, tAsg, gName, gNil, gCons, gTup, gFld, tIfS, tIf, tAndV, tOrV, tNotV, tAnd, tOr, tNot, tB, tTest, tOp, tUn, tCB, tCons, tNil, tVar, tC, tChain, tDrop, RS.tCallG, RS.tMethG, tMakeG, RS.tCallK, RS.tMakeK, tEqOwn, rI, rI0, rU, add_ii, add_ss, add_rr, mul_ii, mul_si, mul_ri, RS.eq_ii, RS.eq_ss, eq_bb, eq_nn, eq_sn, eq_ns, eq_in, eq_ni, eq_bn, eq_nb, eq_is, eq_si, eq_rr, ne_ii, ne_ss, ne_bb, ne_nn, ne_sn, ne_ns, ne_in, ne_ni, ne_is, ne_si, ne_rr, in_ss, in_r, nin_ss, nin_r, len_s, len_r, RS.ix_s, RS.ix_r, sl_s, sl_r, is_eq, tyN_n, tyN_b, tyN_i, tyN_s, tru_b, tru_i, tru_n, tSl, tPart, tNoPart, tPar, tPar3, tFmtZ, tFmt, tJs, tDGet, sDPut, sFld, tFld, tTup, tLst, tNever, isB,
  L2.start, List.map_cons, List.map_nil, List.length_cons, List.length_nil, Nat.reduceAdd, Nat.reduceSub, Nat.sub_self, List.replicate_zero, List.replicate_succ, List.append_nil, List.cons_append, List.nil_append, List.getElem?_cons_zero, List.getElem?_cons_succ, List.set_cons_zero, List.set_cons_succ, Option.some.injEq, exists_eq_left, exists_eq_left', exists_and_left, V.bl.injEq, V.int.injEq, V.str.injEq, V.ref.injEq, beq_self_eq_true, Bool.true_or, Bool.or_true, Bool.false_or, Bool.or_false, Bool.and_false, Bool.false_and, Bool.true_and, Bool.and_true, Bool.not_true, Bool.not_false, Bool.false_eq_true, if_true, if_false, ite_true, ite_false, true_and, and_true, and_assoc, String.reduceBEq, String.reduceEq, reduceIte, Bool.and_self, reduceCtorEq, false_and, and_false, exists_false, or_false, false_or, exists_const, iEnumS, iStr, iList, iTup, iRng1, iEnum, tFor_eq, tLc_eq, List.cons.injEq, wipe, not_true_eq_false, not_false_eq_true, upd_same, HO.ins.injEq, HO.tup.injEq, HO.lst.injEq, ofS_eq, lk_nil, lk_cons, pu_nil, pu_cons, sizeLine_eq, Nat.reduceLT, Nat.reduceLeDiff, Nat.reduceEqDiff, Nat.le_refl, decide_true, decide_false, tPr, dget_us, dput_us, vv_nil, vv_cons, RS.pk_nil, pk_one, RS.pk_cons, inr_eq, tDisp, tPairs, tBoolOwn, rBoolOwn, tBM, rAppend, ty_list, ty_str, rEqOwn, iEnumT, RS.tCallS, tM1, tDc_eq, tLock, tLockE, iKeys, tListEnum, rUpdate, tMkX0, tMkX1, tXfv, gSub, rSetL, List.getD_cons_zero, List.getD_cons_succ, tBreak, tCMethS, ClX.tCVal, tXfa, tIxOwn, tInOwn, tPropG, tMethK, tMethP, tListGen, tDGet2, tDPop2, rNeD0, intA_i, intA_b, tRevL, sFldAug, tPm0, tPm1, tDIn, tDNotIn, tDNewK, RS.tMethS, tForK, tKM, tKC, tLcK, tKM2, tKC2, tMethStar, tKCK2, tLk, tAug, ipI, tDig, tLcX, tKMX, tKCX]
  refine ⟨_, _, _, hy, CL_Patch, n1, _, lk1, _, _, _, hy2, CL_Patch, n1, _, lk1, ?_⟩
  rw [add_rr]
  have fin : ∀ R H', Same H H' → H' R = some (.tup (vs ++ vs2)) → ∀ (y dy : Addr), H' y = none → H' dy = none → dy ≠ y → sp_rinit CR [V.ref y, .ref R] (upd (upd H' dy (HO.own y)) y (HO.ins CR dy []))
      (fun v H2 => v = V.non ∧ ∀ (y_1 dy : Addr), H2 y_1 = none → H2 dy = none → dy ≠ y_1 → spS 1 (sp_pinit CP CR) [V.ref y_1, V.ref y] (upd (upd H2 dy (HO.own y_1)) y_1 (HO.ins CP dy [])) (fun v H2 => v = V.non ∧ Q (V.ref y_1) H2) fun c d H' => E c d H') fun c d H' => E c d H' := by
    intro R H' sH eR a da ha hda ne
    refine ⟨_, _, rfl, a, da, rfl, upd_same, rfl, fun b db hb hdb neb => ?_⟩
    have ea : upd (upd (upd H' da (.own a)) a (.ins CR da [])) a (.ins CR da [("row", .ref R)]) a = some (.ins CR da [("row", .ref R)]) := upd_same
    have sX : Same H' (upd (upd (upd H' da (.own a)) a (.ins CR da [])) a (.ins CR da [("row", .ref R)])) := same_over (same_over (same_over (Same.refl _) hda) ha) ha
    generalize upd (upd (upd H' da (.own a)) a (.ins CR da [])) a (.ins CR da [("row", .ref R)]) = X1 at ea sX hb hdb ⊢
    have eb : upd (upd X1 db (.own b)) b (.ins CP db []) b = some (.ins CP db []) := upd_same
    have sY : Same X1 (upd (upd X1 db (.own b)) b (.ins CP db [])) := same_over (same_over (Same.refl _) hdb) hb
    generalize upd (upd X1 db (.own b)) b (.ins CP db []) = Y at eb sY ⊢
    refine ⟨[.ref b], [.ref a], rfl, rfl, by rw [sizeLine_eq]; simp, fun p hp => ?_⟩
    have sZ := same_upd (o := HO.tup [.ref a]) hp
    have ez : upd Y p (.tup [.ref a]) p = some (.tup [.ref a]) := upd_same
    generalize upd Y p (.tup [.ref a]) = Z at sZ ez ⊢
    refine ⟨_, _, rfl, b, db, p, [.ref a], rfl, sZ _ _ eb, rfl, ez, .inl ⟨a, da, .ref R, rfl, sZ _ _ (sY _ _ ea), rfl, ?_⟩⟩
    have sA := sH.trans sX
    have hb0 : H b = none := none_of sA hb
    have sF : Same H (upd Z b (.ins CP db [("own_deeds", .ref R)])) := same_over (sA.trans (sY.trans sZ)) hb0
    have bR : R ≠ b := fun e => by rw [← e, sX _ _ eR] at hb; cases hb
    refine q b _ sF hb0 ⟨⟨b, db, R, vs ++ vs2, rfl, upd_same, by rw [upd_ne bR]; exact sZ _ _ (sY _ _ (sX _ _ eR)), paired_app (paired_imp (fun _ _ z => DdF.same sF z) pr2) (paired_imp (fun _ _ z => DdF.same sF z) pr)⟩, fun dd hd => (List.mem_append.mp hd).elim (okd dd) (okd2 dd), by rw [List.length_append]; exact l16⟩
  refine .inr ⟨row, row2, vs, vs2, rfl, rfl, SqT.of ht, SqT.of ht2, by rw [sizeLine_eq]; omega, fun e => ?_, fun ne e => ?_, fun ne ne2 p hp => ?_⟩
  · exact fin row2 H (Same.refl _) (by rw [e]; exact ht2)
  · exact fin row H (Same.refl _) (by rw [e, List.append_nil]; exact ht)
  · exact fin p _ (same_upd hp) upd_same
theorem sc_Patch__len : FnScope ["self"] ["self"] (defScope s_Patch__len) := ⟨rfl, rfl, rfl, by decide +kernel, rfl, by decide +kernel, by decide +kernel⟩
def sp_plen (CP : Addr) : Sp := S1 fun s H Q _ => ∃ N dds, PatF CP N H s dds ∧ Q (.int (dds.length : Nat)) H
theorem ok_plen (F : Df g.K "__len__" "Patch.__len__" s_Patch__len f fd .none) (T : Txt g) (CL_Patch : Cls g.K CP) (n1 : NoAttr g.K CP "own_deeds") : FnG g 1 f fd ["self"] (sp_plen CP) := by
  refine F.ok sc_Patch__len (fun vs H Q E h => S1.len h) (fun cdv A outer s H vs Q E hr h => ?_)
  obtain ⟨_, rfl, N, dds, ⟨⟨y, dy, row, vs, rfl, hy, ht, pr⟩, okd, ln⟩, q⟩ := h
  refine ⟨_, (pss_one (ps_ret (pe_callB (c_len (K := g.K)) (by rfl) T.b_len bb_len (pa_cons (e_fld (K := g.K) (pv 0)) pa_nil)))), ?_⟩
  walk_at "sx"
  refine ⟨_, _, _, hy, CL_Patch, n1, _, lk1, ?_⟩
  rw [len_r]
  have lv := paired_len pr
  exact .inl ⟨_, .inr (SqT.of ht), by rw [lv]; exact q⟩
theorem sc_Patch__bool : FnScope ["self"] ["self"] (defScope s_Patch__bool) := ⟨rfl, rfl, rfl, by decide +kernel, rfl, by decide +kernel, by decide +kernel⟩
def sp_pbool (CP : Addr) : Sp := S1 fun s H Q _ => ∃ N dds, PatF CP N H s dds ∧ Q (.bl (decide (dds ≠ []))) H
theorem ok_pbool (F : Df g.K "__bool__" "Patch.__bool__" s_Patch__bool f fd .none) (T : Txt g) (CL_Patch : Cls g.K CP) (n1 : NoAttr g.K CP "own_deeds") : FnG g 1 f fd ["self"] (sp_pbool CP) := by
  refine F.ok sc_Patch__bool (fun vs H Q E h => S1.len h) (fun cdv A outer s H vs Q E hr h => ?_)
  obtain ⟨_, rfl, N, dds, ⟨⟨y, dy, row, vs, rfl, hy, ht, pr⟩, okd, ln⟩, q⟩ := h
  refine ⟨_, (pss_one (ps_ret (pe_cmpR op_gt (pe_callB (c_len (K := g.K)) (by rfl) T.b_len bb_len (pa_cons (e_fld (K := g.K) (pv 0)) pa_nil)) pe_int (nomark _)))), ?_⟩
  walk_at "sx"
  refine ⟨_, _, _, hy, CL_Patch, n1, _, lk1, ?_⟩
  rw [len_r]
  have lv := paired_len pr
  refine .inl ⟨_, .inr (SqT.of ht), _, rfl, ?_⟩
  rw [lv]
  have e : decide ((0 : Int) < (dds.length : Nat)) = decide (dds ≠ []) := by cases dds <;> simp
  rw [e]; exact q
end
/-- a deed's key -/
def ddK : Dd → Str
  | .put x _ => x
  | .drop x => x
/-- a deed as data -/
def ddD : Dd → PyData
  | .put x d => .tuple [.str "put", .str x, d]
  | .drop x => .tuple [.str "drop", .str x]
theorem ddD_inj {a b : Dd} (h : ddD a = ddD b) : a = b := by
  cases a <;> cases b <;> simp [ddD] at h <;> simp [h]
theorem hu64 {X : Cx} {k : Nat} (hr : Rm k X) : X.A.units + 64 < cLine := by have := hr.room.un; omega
theorem o_eqD {X : Cx} {k : Nat} {K : PySem.W.Frag} (hr : Rm k X) (hK : X.K = K := by rfl) : OpR X (compareOp .Eq) (rEqD K) := by
  subst hK; exact op_eqD (hu64 hr)
theorem atI_nat2 {xs : List V} {i : Nat} {v : V} (h : xs[i]? = some v) : atI xs (i : Nat) = some v := by
  have l := (List.getElem?_eq_some_iff.mp h).1
  unfold atI ixN
  rw [if_pos (by omega), if_pos (by omega)]
  simpa using h
theorem rows_inj : ∀ {a b : List Dd}, a.map ddD = b.map ddD → a = b
  | [], [], _ => rfl
  | [], _ :: _, h => by simp at h
  | _ :: _, [], h => by simp at h
  | x :: a, y :: b, h => by
    simp only [List.map_cons, List.cons.injEq] at h
    rw [ddD_inj h.1, rows_inj h.2]
theorem key_vok (n : Nat) {x : Str} (h : x ∈ keys6) : VOk n (.str x) := ⟨by simpa [gB] using (keys6_ok x h).1, Nat.zero_le _⟩
theorem key_shaped {x : Str} (h : x ∈ keys6) : SeqAt.shaped (.str x) = true := (by decide +kernel : ∀ x ∈ keys6, SeqAt.shaped (.str x) = true) x h
theorem DdV.vok {dd : Dd} (h : DdV dd) : VOk 2 (ddD dd) := by
  cases dd with
  | put x d =>
    refine vok_tuple (fun e he => ?_) (by simp)
    simp only [List.mem_cons, List.not_mem_nil, or_false] at he
    rcases he with rfl | rfl | rfl
    · exact ⟨by decide +kernel, Nat.zero_le _⟩
    · exact key_vok 1 h.1
    · exact h.2
  | drop x =>
    refine vok_tuple (fun e he => ?_) (by simp)
    simp only [List.mem_cons, List.not_mem_nil, or_false] at he
    rcases he with rfl | rfl
    · exact ⟨by decide +kernel, Nat.zero_le _⟩
    · exact key_vok 1 h
theorem rows_ok {dds : List Dd} (h : ∀ dd ∈ dds, DdV dd) (l : dds.length ≤ 16) : VOk 3 (.tuple (dds.map ddD)) := vok_tuple (fun d hd => by
  obtain ⟨dd, m, rfl⟩ := List.mem_map.mp hd
  exact (h dd m).vok) (by simpa using l)
theorem DdF.tr {N : Addr → Prop} {H : Hp} {v : V} {dd : Dd} (h : DdF N H v dd) : ∃ fp, Tr H v (ddD dd) fp ∧ ∀ c ∈ fp, N c := by
  cases dd with
  | put x d =>
    obtain ⟨t, w, f, rfl, et, tw, n⟩ := h
    exact ⟨_, .tup et (.cons (.str _) (.cons (.str x) (.cons tw .nil))), fun c hc => n c (by simpa using hc)⟩
  | drop x =>
    obtain ⟨t, rfl, et⟩ := h
    exact ⟨_, .tup et (.cons (.str _) (.cons (.str x) .nil)), fun c hc => by simp at hc⟩
theorem rows_tr {N : Addr → Prop} {H : Hp} : ∀ {ws : List V} {dds : List Dd}, Paired (DdF N H) ws dds → ∃ fp, TrL H ws (dds.map ddD) fp ∧ ∀ c ∈ fp, N c
  | _, _, .nil => ⟨_, .nil, by simp⟩
  | _, _, .cons h hs => by
    obtain ⟨f1, t1, n1⟩ := h.tr
    obtain ⟨f2, t2, n2⟩ := rows_tr hs
    exact ⟨_, .cons t1 t2, fun c hc => (List.mem_append.mp hc).elim (n1 c) (n2 c)⟩
section
variable {g : Wd} {f : Addr} {fd : FuncData} {CP CR CN : Addr}
theorem sc_Patch__getitem : FnScope ["self", "at"] ["self", "at"] (defScope s_Patch__getitem) := ⟨rfl, rfl, rfl, by decide +kernel, rfl, by decide +kernel, by decide +kernel⟩
/-- no number within n -/
def NotI (H : Hp) (n : Nat) (v : V) : Prop := (∃ t, tyN v H = some t ∧ t ≠ "int") ∨ ∃ i : Int, v = .int i ∧ ¬ (0 ≤ i ∧ i < n)
def sp_pget (CP CN : Addr) : Sp := S2 fun s v H Q E => ∃ N dds, PatF CP N H s dds ∧
  ((∃ i : Nat, v = .int (i : Nat) ∧ ∃ dd, dds[i]? = some dd ∧ ∀ v' G, Same H G → DdF (fun c => H c = none) G v' dd → Q v' G) ∨
   (NotI H dds.length v ∧ ∀ dd, H dd = none → E (.ref CN) (some dd) (upd H dd (.xd [("given", v)]))))
theorem ok_pget (F : Df g.K "__getitem__" "Patch.__getitem__" s_Patch__getitem f fd .none) (T : Txt g) (CL_Patch : Cls g.K CP) (n1 : NoAttr g.K CP "own_deeds") (F_copied_deed : Kn g "copied_deed" 12 ["deed"] [] sp_cdeed)
    (X_InvalidNumber : XK1 g "InvalidNumber" CN "given") (RI : PySem.W.subIn g.K (.ref CN) (.type "BaseException") = some true ∧ PySem.W.typeIn g.K (.ref CN) = some (.type "type")) : FnG g 13 f fd ["self", "at"] (sp_pget CP CN) := by
  refine F.ok sc_Patch__getitem (fun vs H Q E h => S2.len h) (fun cdv A outer s H vs Q E hr h => ?_)
  obtain ⟨_, v, rfl, N, dds, ⟨⟨y, dy, row, vs, rfl, hy, ht, pr⟩, okd, ln⟩, h⟩ := h
  have R_InvalidNumber := raises_own (X := cx g ["self", "at"] "Patch.__getitem__" s_Patch__getitem f cdv A outer s H E) RI.1 RI.2
  refine ⟨_, (pss_cons (ps_if (PW.pt (pw_or (pt_not (pt_val (pe_callB (c_is "int") (by rfl) T.b_isinstance bb_isinstance (pa_cons (pv 1) (pa_cons (pe_bltn (v := .ty "int") rfl T.b_int bb_int rfl) pa_nil))))) (pw_or (pt_val (pe_callB (c_is "bool") (by rfl) T.b_isinstance bb_isinstance (pa_cons (pv 1) (pa_cons (pe_bltn (v := .ty "bool") rfl T.b_bool bb_bool rfl) pa_nil)))) (pw_or1 (pt_not (pt_chain op_le op_lt pe_int (pv 1) (pe_callB (c_len (K := g.K)) (by rfl) T.b_len bb_len (pa_cons (e_fld (K := g.K) (pv 0)) pa_nil)))))))) (pss_one (ps_raise rfl tkD (pmk_x1 X_InvalidNumber R_InvalidNumber (hr.mono (by first | decide | omega)) (pa_cons (pv 1) pa_nil)))) pss_nil)
      (pss_one (ps_ret (pe_callG F_copied_deed (hr.mono (by first | decide | omega)) tkD (pa_cons (pe_ix (o_ix (K := g.K)) (e_fld (K := g.K) (pv 0)) (pv 1) (fun _ _ => rfl)) pa_nil))))), ?_⟩
  walk_at "sx"
  have lv := paired_len pr
  rcases h with ⟨i, rfl, dd, e, q⟩ | ⟨ni, q⟩
  · have li : i < dds.length := (List.getElem?_eq_some_iff.mp e).1
    obtain ⟨z, ez, hz⟩ := paired_at2 pr e
    refine ⟨_, rfl, ?_⟩
    rw [if_neg (by decide)]
    refine ⟨_, rfl, ?_⟩
    rw [if_neg (by decide)]
    refine ⟨_, rfl, ?_⟩
    rw [if_pos (by simp)]
    refine ⟨_, _, _, hy, CL_Patch, n1, _, lk1, ?_⟩
    rw [len_r]
    refine .inl ⟨_, .inr (SqT.of ht), _, rfl, _, rfl, ?_⟩
    rw [if_neg (by simp; omega)]
    refine ⟨_, _, _, hy, CL_Patch, n1, _, lk1, ?_⟩
    rw [RS.ix_r]
    exact ⟨_, .inr (SqT.of ht), z, atI_nat2 ez, _, rfl, dd, N, hz, okd dd (List.mem_of_getElem? e), q⟩
  · rcases ni with ⟨t, et, nt⟩ | ⟨i, rfl, ni⟩
    · refine ⟨t, et, ?_⟩
      by_cases tb : t = "bool"
      · subst tb
        rw [if_neg (by decide)]
        refine ⟨_, et, ?_⟩
        rw [if_pos (by decide)]
        exact q
      · rw [if_pos (by simp [nt, tb])]
        exact q
    · refine ⟨_, rfl, ?_⟩
      rw [if_neg (by decide)]
      refine ⟨_, rfl, ?_⟩
      rw [if_neg (by decide)]
      refine ⟨_, rfl, ?_⟩
      by_cases i0 : 0 ≤ i
      · rw [if_pos (by simpa using i0)]
        refine ⟨_, _, _, hy, CL_Patch, n1, _, lk1, ?_⟩
        rw [len_r]
        refine .inl ⟨_, .inr (SqT.of ht), _, rfl, _, rfl, ?_⟩
        rw [if_pos (by simp; omega)]
        exact q
      · rw [if_neg (by simpa using i0)]
        exact q
theorem sc_Patch__contains : FnScope ["self", "x", "deed"] ["self", "x"] (defScope s_Patch__contains) := ⟨rfl, rfl, rfl, by decide +kernel, rfl, by decide +kernel, by decide +kernel⟩
def sp_phas (CP : Addr) (K : PySem.W.Frag) : Sp := S2 fun s x H Q _ => ∃ N dds e, PatF CP N H s dds ∧ (∀ Y, Same H Y → Dp K Y x e) ∧ SeqAt.shaped e = true ∧ ∀ Y, Same H Y → Q (.bl ((dds.map ddK).any fun z => PyData.eqv (.str z) e)) Y
theorem ok_phas (F : Df g.K "__contains__" "Patch.__contains__" s_Patch__contains f fd .none) (T : Txt g) (CL_Patch : Cls g.K CP) (n1 : NoAttr g.K CP "own_deeds") : FnG g 1 f fd ["self", "x"] (sp_phas CP g.K) := by
  refine F.ok sc_Patch__contains (fun vs H Q E h => S2.len h) (fun cdv A outer s H vs Q E hr h => ?_)
  obtain ⟨_, x, rfl, N, dds, e, ⟨⟨y, dy, row, vs, rfl, hy, ht, pr⟩, okd, ln⟩, hx, se, q⟩ := h
  refine ⟨_, (pss_one (ps_ret (pe_callB (c_any (K := g.K)) (by rfl) T.b_any bb_any (pa_cons (pe_lc (own := [("deed", 2)]) (tt := tYes) rfl sc_Patch__contains.nd (i_tup (K := g.K) (e_fld (K := g.K) (pv 0))) (blkOk_by (own := [("deed", 2)]) (N := ["self", "x", "deed"]) (sc := defScope s_Patch__contains) (by decide +kernel)) (fun _ _ _ _ _ => (pg_name (i := 2) sc_Patch__contains.nd rfl (.inl rfl))) (fun _ _ _ _ _ => pts_nil) (fun _ _ _ _ _ => (pe_cmpR (o_eqD (K := g.K) (Rm.mk hr.room hr.gd)) (pe_ix (o_ix (K := g.K)) (pv 2) pe_int (fun _ _ => rfl)) (pv 1) (nomark _)))) pa_nil)))), ?_⟩
  walk_at "sx"
  refine ⟨_, _, _, hy, CL_Patch, n1, _, lk1, row, rfl, ⟨_, SqT.of ht⟩, ?_⟩
  have lv := paired_len pr
  refine lc_inv vs.length (fun L i acc Y => Same H Y ∧ acc = ((dds.take i).map ddK).map fun z => V.bl (PyData.eqv (.str z) e)) (by rw [sizeLine_eq]; omega) (fun L hL => ⟨same_upd hL, rfl⟩) (fun L j acc Y hL lt P => ⟨_, vs[j], SqT.of (P.1 _ _ ht), by simp [lt]⟩) (fun L acc Y hL P => ⟨_, SqT.of (P.1 _ _ ht), Nat.le_refl _⟩) (fun L j acc Y z Y2 K K0 hL lt la P eL yl k k0 => ?_) (fun L acc Y hL P eL => ?_)
  · obtain ⟨sXY, rfl⟩ := P
    obtain ⟨rfl, hz⟩ := yl
    have hz := hz _ (SqT.of (sXY _ _ ht))
    obtain ⟨dd, e2, hdd⟩ := pairedO pr hz
    have hdd := hdd.same sXY
    have okx := okd dd (List.mem_of_getElem? e2)
    have ht2 : ∃ t us, z = .ref t ∧ Y2 t = some (.tup us) ∧ us[1]? = some (.str (ddK dd)) ∧ ddK dd ∈ keys6 := by
      cases dd with
      | put y d => obtain ⟨t, w, f', rfl, et, _⟩ := hdd; exact ⟨t, _, rfl, et, rfl, okx.1⟩
      | drop y => obtain ⟨t, rfl, et⟩ := hdd; exact ⟨t, _, rfl, et, rfl, okx⟩
    obtain ⟨t, us, rfl, et, e1, kk⟩ := ht2
    refine ⟨rfl, ?_⟩
    walk_at "sx"
    unfold tYes; dsimp only
    rw [if_pos rfl]
    refine ⟨_, .inr (SqT.of et), _, atI_nat2 (i := 1) e1, .str (ddK dd), e, .str _, hx _ sXY, key_shaped kk, se, ?_⟩
    refine k _ _ eL ⟨fun b o q => ?_, ?_⟩
    · have bL : b ≠ L := fun e => by rw [e, hL] at q; cases q
      rw [upd_ne bL]; exact sXY _ _ q
    · rw [List.take_add_one, e2]; simp
  · obtain ⟨sXY, rfl⟩ := P
    rw [List.take_of_length_le (by omega)] at eL
    refine ⟨L, (dds.map ddK).map fun z => PyData.eqv (.str z) e, rfl, SqL.of (by rw [eL]; simp [Function.comp_def]), ?_⟩
    have ea : ((dds.map ddK).map fun z => PyData.eqv (.str z) e).any id = (dds.map ddK).any fun z => PyData.eqv (.str z) e := by rw [List.any_map]; rfl
    rw [ea]
    exact q _ sXY
theorem sc_Patch__eq : FnScope ["self", "other"] ["self", "other"] (defScope s_Patch__eq) := ⟨rfl, rfl, rfl, by decide +kernel, rfl, by decide +kernel, by decide +kernel⟩
def sp_peq (CP : Addr) : Sp := S2 fun s m H Q _ => ∃ N dds, PatF CP N H s dds ∧
  ((∃ M es, PatF CP M H m es ∧ ∀ H' b, Same H H' → (b = true ↔ dds = es) → Q (.bl b) H') ∨ (tyN m H = some "list" ∧ Q (.bl false) H))
theorem ok_peq (F : Df g.K "__eq__" "Patch.__eq__" s_Patch__eq f fd .none) (T : Txt g) (CL_Patch : Cls g.K CP) (n1 : NoAttr g.K CP "own_deeds") (V_Patch : Gv g "Patch" (.ref CP)) (IP : C8.InsC g.K CP) (KPP : PySem.W.kitOne g.K (.ref CP) (.ref CP) = some true) (KPL : PySem.W.kitOne g.K (.type "list") (.ref CP) = some false)
    (F_are_alike : Kn g "are_alike" 10 ["one", "other"] [] sp_alike) : FnG g 11 f fd ["self", "other"] (sp_peq CP) := by
  refine F.ok sc_Patch__eq (fun vs H Q E h => S2.len h) (fun cdv A outer s H vs Q E hr h => ?_)
  obtain ⟨_, m, rfl, N, dds, ⟨⟨y, dy, row, vs, rfl, hy, ht, pr⟩, okd, ln⟩, h⟩ := h
  refine ⟨_, (pss_one (ps_ret (pe_and (pe_callB (c_isi (K := g.K)) (by rfl) T.b_isinstance bb_isinstance (pa_cons (pv 1) (pa_cons (e_g V_Patch) pa_nil))) (pe_one (pe_callG F_are_alike (hr.mono (by first | decide | omega)) tkD (pa_cons (e_fld (K := g.K) (pv 0)) (pa_cons (e_fld (K := g.K) (pv 1)) pa_nil))))))), ?_⟩
  walk_at "sx"
  rcases h with ⟨M, es, ⟨⟨y2, dy2, row2, vs2, rfl, hy2, ht2, pr2⟩, okd2, ln2⟩, q⟩ | ⟨tl, q⟩
  · refine isi_ins IP hy2 KPP ⟨true, rfl, ?_⟩
    rw [if_pos rfl]
    refine ⟨_, _, _, hy, CL_Patch, n1, _, lk1, _, rfl, _, _, _, hy2, CL_Patch, n1, _, lk1, ?_⟩
    obtain ⟨fp, t1, _⟩ := rows_tr pr
    obtain ⟨fp2, t2, _⟩ := rows_tr pr2
    have o1 := rows_ok okd ln
    have o2 := rows_ok okd2 ln2
    have l1 := rnote.le _ 3 o1.ok o1.dep
    have l2 := rnote.le _ 3 o2.ok o2.dep
    have e3 : SH 3 ≤ 1000000 := by decide
    refine ⟨_, _, rfl, _, fp, _, fp2, .tup ht t1, .tup ht2 t2, ok_g _ o1.ok, ok_g _ o2.ok, by have := o1.dep; omega, by have := o2.dep; omega, by omega, by omega, fun H' s1 => q _ _ s1 ?_⟩
    rw [decide_eq_true_eq, note_inj o1.ok o2.ok]
    exact ⟨fun h => rows_inj (PyData.tuple.inj h), fun h => by rw [h]⟩
  · exact isi_of tl KPL ⟨false, rfl, by rw [if_neg (by simp)]; exact q⟩
end
section
variable {g : Wd} {f : Addr} {fd : FuncData} {CP CR CN : Addr}
/-- the deeds that put all pairs -/
def putsOf (E : List (PyData × PyData)) : List Dd := E.map fun p => match p.1 with | .str x => .put x p.2 | _ => .drop ""
theorem sc_kept_keys : FnScope ["one", "other", "places", "found", "last", "key", "place"] ["one", "other"] (defScope s_kept_keys) := ⟨rfl, rfl, rfl, by decide +kernel, rfl, by decide +kernel, by decide +kernel⟩
def sp_kept : Sp := S2 fun a b H Q _ => ∃ p q kvs, a = .ref p ∧ H p = some (.dK []) ∧ b = .ref q ∧ H q = some (.dK kvs) ∧ p ≠ q ∧ kvs.length ≤ 100 ∧ (∀ (i : Nat) (k : Key) (v : V), kvs[i]? = some (k, v) → ∃ x : Str, k = Sum.inr x) ∧ ∀ r G, Same H G → H r = none → G r = some (.lst []) → Q (.ref r) G
theorem ok_kept (F : Df g.K "kept_keys" "kept_keys" s_kept_keys f fd .none) (T : Txt g) : FnG g 1 f fd ["one", "other"] sp_kept := by
  refine F.ok sc_kept_keys (fun vs H Q E h => S2.len h) (fun cdv A outer s H vs Q E hr h => ?_)
  obtain ⟨_, _, rfl, p, q, kvs, rfl, hp, rfl, hq, npq, lk, kst, qq⟩ := h
  refine ⟨_, (pss_cons (ps_lock (RS.ps_setDc (i := 2) (own := [("place", 6), ("key", 5)]) (tt := tYes) rfl sc_kept_keys.nd rfl rfl (RS.sw_trueD rfl rfl rfl (by decide +kernel)) (pi_enumD T.b_enumerate (pa_cons (pv 0) pa_nil)) (blkOk_by (own := [("place", 6), ("key", 5)]) (N := ["one", "other", "places", "found", "last", "key", "place"]) (sc := defScope s_kept_keys) (by decide +kernel)) (fun _ _ _ _ _ => (g_tup (K := g.K) (n := 2) (pgs_cons (pg_name (i := 6) sc_kept_keys.nd rfl (.inl rfl)) (pgs_cons (pg_name (i := 5) sc_kept_keys.nd rfl (.inl rfl)) pgs_nil)))) (fun _ _ _ _ _ => pts_nil) (fun _ _ _ _ _ => (pv 5)) (fun _ _ _ _ _ => (pv 6))))
      (pss_cons (ps_par (i := 3) (j := 4) (by rfl) sc_kept_keys.nd rfl rfl (by decide) rfl rfl (pa_cons (pe_lst pa_nil) (pa_cons (pe_un un_neg pe_int) pa_nil)) (by rfl))
      (pss_cons (ps_lock (ps_for psD rfl (pi_keys (pv 1)) (pg_name (i := 5) sc_kept_keys.nd rfl (.inl rfl)) (pss_cons (ps_if (PW.pt (pw_or (pt_cmp (pc_dnotin (hu_of hr.room) (pv 5) (pv 2)) (by rfl)) (pw_or1 (pt_cmpR op_lt (pe_dget (hu_of hr.room) (pv 2) (pv 5) (fun _ _ => rfl)) (pv 4) (nomark _))))) (pss_one (ps_ret (pv 3))) pss_nil)
      (pss_cons (ps_expr (e_bm (K := g.K) PySem.F.plainAttrs_list PySem.F.slot_list_append PySem.F.type_list_append mt_append (pv 3) (pa_cons (pv 5) pa_nil)))
      (pss_one (ps_set (i := 4) sc_kept_keys.nd rfl (Or.inl rfl) (pe_dget (hu_of hr.room) (pv 2) (pv 5) (fun _ _ => rfl))))))))
      (pss_one (ps_ret (pv 3)))))), ?_⟩
  walk_at "sx"
  refine ⟨p, _, hp, True.intro, fun od => ?_⟩
  simp only [iEnumD, tRet, tRetN, tSeq, C8.tCut, tNext, tAsg, gName, gNil, gCons, gTup, gFld, tIfS, tIf, tAndV, tOrV, tNotV, tAnd, tOr, tNot, tB, tTest, tOp, tUn, tCB, tCons, tNil, tVar, tC, tChain, tDrop, RS.tCallG, RS.tMethG, tMakeG, RS.tCallK, RS.tMakeK, tEqOwn, rI, rI0, rU, add_ii, add_ss, add_rr, mul_ii, mul_si, mul_ri, RS.eq_ii, RS.eq_ss, eq_bb, eq_nn, eq_sn, eq_ns, eq_in, eq_ni, eq_bn, eq_nb, eq_is, eq_si, eq_rr, ne_ii, ne_ss, ne_bb, ne_nn, ne_sn, ne_ns, ne_in, ne_ni, ne_is, ne_si, ne_rr, in_ss, in_r, nin_ss, nin_r, len_s, len_r, RS.ix_s, RS.ix_r, sl_s, sl_r, is_eq, tyN_n, tyN_b, tyN_i, tyN_s, tru_b, tru_i, tru_n, tSl, tPart, tNoPart, tPar, tPar3, tFmtZ, tFmt, tJs, tDGet, sDPut, sFld, tFld, tTup, tLst, tNever, isB,
  L2.start, List.map_cons, List.map_nil, List.length_cons, List.length_nil, Nat.reduceAdd, Nat.reduceSub, Nat.sub_self, List.replicate_zero, List.replicate_succ, List.append_nil, List.cons_append, List.nil_append, List.getElem?_cons_zero, List.getElem?_cons_succ, List.set_cons_zero, List.set_cons_succ, Option.some.injEq, exists_eq_left, exists_eq_left', exists_and_left, V.bl.injEq, V.int.injEq, V.str.injEq, V.ref.injEq, beq_self_eq_true, Bool.true_or, Bool.or_true, Bool.false_or, Bool.or_false, Bool.and_false, Bool.false_and, Bool.true_and, Bool.and_true, Bool.not_true, Bool.not_false, Bool.false_eq_true, if_true, if_false, ite_true, ite_false, true_and, and_true, and_assoc, String.reduceBEq, String.reduceEq, reduceIte, Bool.and_self, reduceCtorEq, false_and, and_false, exists_false, or_false, false_or, exists_const, iEnumS, iStr, iList, iTup, iRng1, iEnum, tFor_eq, tLc_eq, List.cons.injEq, wipe, not_true_eq_false, not_false_eq_true, upd_same, HO.ins.injEq, HO.tup.injEq, HO.lst.injEq, ofS_eq, lk_nil, lk_cons, pu_nil, pu_cons, sizeLine_eq, Nat.reduceLT, Nat.reduceLeDiff, Nat.reduceEqDiff, Nat.le_refl, decide_true, decide_false, tPr, dget_us, dput_us, vv_nil, vv_cons, RS.pk_nil, pk_one, RS.pk_cons, inr_eq, tDisp, tPairs, tBoolOwn, rBoolOwn, tBM, rAppend, ty_list, ty_str, rEqOwn, iEnumT, RS.tCallS, tM1, tDc_eq, tLock, tLockE, iKeys, tListEnum, rUpdate, tMkX0, tMkX1, tXfv, gSub, rSetL, List.getD_cons_zero, List.getD_cons_succ, tBreak, tCMethS, ClX.tCVal, tXfa, tIxOwn, tInOwn, tPropG, tMethK, tMethP, tListGen, tDGet2, tDPop2, rNeD0, intA_i, intA_b, tRevL, sFldAug, tPm0, tPm1, tDIn, tDNotIn, tDNewK, RS.tMethS, tForK, tKM, tKC, tLcK, tKM2, tKC2, tMethStar, tKCK2, tLk, tAug, ipI, tDig, tLcX, tKMX, tKCX]
  have ea : upd H p (.frz od (.dK [])) p = some (.frz od (.dK [])) := upd_same
  have hu : ∀ G, Same (upd H p (.frz od (.dK []))) G → Same H (upd G p (.dK [])) := fun G sm => unlock hp sm
  have hn1 : ∀ b, upd H p (.frz od (.dK [])) b = none → b ≠ p ∧ H b = none := fun b z => fresh_lock z
  refine ⟨od, rfl, ?_⟩
  generalize upd H p (.frz od (.dK [])) = H1 at ea hu hn1 ⊢
  refine dc_invA 0 (fun L i acc G => Same H1 G ∧ acc = []) (fun L hL => ⟨same_upd hL, rfl⟩) (fun L i acc G hL lt => absurd lt (Nat.not_lt_zero _)) (fun L acc G hL P => ⟨rfl, P.1 _ _ ea⟩) (fun L i acc G x G' K hL lt => absurd lt (Nat.not_lt_zero _)) (fun L acc G hL P eL => ?_)
  obtain ⟨sm, rfl⟩ := P
  have La := hn1 L hL
  have sG := hu G sm
  refine ⟨sm _ _ ea, fun r hr => ?_⟩
  have eL0 : upd G p (.dK []) L = some (.dK []) := by rw [upd_ne La.1]; exact eL
  generalize upd G p (.dK []) = G0 at sG eL0 hr ⊢
  have s1 := sG.trans (same_upd (o := HO.lst []) hr)
  have er : upd G0 r (.lst []) r = some (.lst []) := upd_same
  have eL1 := same_upd (o := HO.lst []) hr _ _ eL0
  have hr0 := none_of sG hr
  generalize upd G0 r (.lst []) = G1 at s1 er eL1 ⊢
  have hq1 := s1 _ _ hq
  refine ⟨q, _, hq1, True.intro, fun od2 => ⟨od2, .inl ⟨kvs, upd_same, ?_⟩⟩⟩
  have eq2 : upd G1 q (.frz od2 (.dK kvs)) q = some (.frz od2 (.dK kvs)) := upd_same
  have hu2 : Same G1 (upd (upd G1 q (.frz od2 (.dK kvs))) q (.dK kvs)) := unlock hq1 (Same.refl _)
  have Lq : L ≠ q := fun z => by rw [z, hq] at La; cases La.2
  have eL2 : upd G1 q (.frz od2 (.dK kvs)) L = some (.dK []) := by rw [upd_ne Lq]; exact eL1
  generalize upd G1 q (.frz od2 (.dK kvs)) = G2 at eq2 hu2 eL2 ⊢
  have fin := qq r _ (s1.trans hu2) hr0 (hu2 _ _ er)
  refine for_by kvs.length (fun i σ X => σ = [some (.ref p), some (.ref q), some (.ref L), some (.ref r), some (.int (-1)), none, none] ∧ X = G2) ⟨rfl, rfl⟩ (fun i σ X lt P => ?_) (fun σ X P => ?_) (fun i σ X z X' lt P yl => ?_) (fun σ X P => ?_)
  · obtain ⟨rfl, rfl⟩ := P
    exact ⟨eq2, lt⟩
  · obtain ⟨rfl, rfl⟩ := P
    exact ⟨eq2, Nat.le_refl _⟩
  · obtain ⟨rfl, rfl⟩ := P
    obtain ⟨rfl, k0, v0, hk, rfl⟩ := yl
    obtain ⟨x, rfl⟩ := kst _ _ _ hk
    simp only [kV, tRet, tRetN, tSeq, C8.tCut, tNext, tAsg, gName, gNil, gCons, gTup, gFld, tIfS, tIf, tAndV, tOrV, tNotV, tAnd, tOr, tNot, tB, tTest, tOp, tUn, tCB, tCons, tNil, tVar, tC, tChain, tDrop, RS.tCallG, RS.tMethG, tMakeG, RS.tCallK, RS.tMakeK, tEqOwn, rI, rI0, rU, add_ii, add_ss, add_rr, mul_ii, mul_si, mul_ri, RS.eq_ii, RS.eq_ss, eq_bb, eq_nn, eq_sn, eq_ns, eq_in, eq_ni, eq_bn, eq_nb, eq_is, eq_si, eq_rr, ne_ii, ne_ss, ne_bb, ne_nn, ne_sn, ne_ns, ne_in, ne_ni, ne_is, ne_si, ne_rr, in_ss, in_r, nin_ss, nin_r, len_s, len_r, RS.ix_s, RS.ix_r, sl_s, sl_r, is_eq, tyN_n, tyN_b, tyN_i, tyN_s, tru_b, tru_i, tru_n, tSl, tPart, tNoPart, tPar, tPar3, tFmtZ, tFmt, tJs, tDGet, sDPut, sFld, tFld, tTup, tLst, tNever, isB,
  L2.start, List.map_cons, List.map_nil, List.length_cons, List.length_nil, Nat.reduceAdd, Nat.reduceSub, Nat.sub_self, List.replicate_zero, List.replicate_succ, List.append_nil, List.cons_append, List.nil_append, List.getElem?_cons_zero, List.getElem?_cons_succ, List.set_cons_zero, List.set_cons_succ, Option.some.injEq, exists_eq_left, exists_eq_left', exists_and_left, V.bl.injEq, V.int.injEq, V.str.injEq, V.ref.injEq, beq_self_eq_true, Bool.true_or, Bool.or_true, Bool.false_or, Bool.or_false, Bool.and_false, Bool.false_and, Bool.true_and, Bool.and_true, Bool.not_true, Bool.not_false, Bool.false_eq_true, if_true, if_false, ite_true, ite_false, true_and, and_true, and_assoc, String.reduceBEq, String.reduceEq, reduceIte, Bool.and_self, reduceCtorEq, false_and, and_false, exists_false, or_false, false_or, exists_const, iEnumS, iStr, iList, iTup, iRng1, iEnum, tFor_eq, tLc_eq, List.cons.injEq, wipe, not_true_eq_false, not_false_eq_true, upd_same, HO.ins.injEq, HO.tup.injEq, HO.lst.injEq, ofS_eq, lk_nil, lk_cons, pu_nil, pu_cons, sizeLine_eq, Nat.reduceLT, Nat.reduceLeDiff, Nat.reduceEqDiff, Nat.le_refl, decide_true, decide_false, tPr, dget_us, dput_us, vv_nil, vv_cons, RS.pk_nil, pk_one, RS.pk_cons, inr_eq, tDisp, tPairs, tBoolOwn, rBoolOwn, tBM, rAppend, ty_list, ty_str, rEqOwn, iEnumT, RS.tCallS, tM1, tDc_eq, tLock, tLockE, iKeys, tListEnum, rUpdate, tMkX0, tMkX1, tXfv, gSub, rSetL, List.getD_cons_zero, List.getD_cons_succ, tBreak, tCMethS, ClX.tCVal, tXfa, tIxOwn, tInOwn, tPropG, tMethK, tMethP, tListGen, tDGet2, tDPop2, rNeD0, intA_i, intA_b, tRevL, sFldAug, tPm0, tPm1, tDIn, tDNotIn, tDNewK, RS.tMethS, tForK, tKM, tKC, tLcK, tKM2, tKC2, tMethStar, tKCK2, tLk, tAug, ipI, tDig, tLcX, tKMX, tKCX]
    refine ⟨none, dget_x (kvs := []) (.inl eL2), ?_⟩
    rw [if_pos (by rfl)]
    exact ⟨eq2, fin⟩
  · obtain ⟨rfl, rfl⟩ := P
    exact ⟨eq2, _, rfl, fin⟩
theorem sc_difference : FnScope ["one", "other", "kept", "found", "key"] ["one", "other"] (defScope s_difference) := ⟨rfl, rfl, rfl, by decide +kernel, rfl, by decide +kernel, by decide +kernel⟩
def sp_diff0 : Sp := S2 fun a b H Q _ => ∃ p q kvs E fp, a = .ref p ∧ H p = some (.dK []) ∧ b = .ref q ∧ H q = some (.dK kvs) ∧ TrD H kvs E fp ∧ (kvs.map (·.1)).Nodup ∧ okB (.dict E) = true ∧ (PyData.dict E).depth < 8 ∧ p ≠ q ∧ E.length ≤ 100 ∧ (∀ c ∈ fp, c ≠ p ∧ c ≠ q) ∧
  ∀ r vs G, Same H G → H r = none → G r = some (.lst vs) → Paired (DdF (fun c => H c = none) G) vs (putsOf E) → Q (.ref r) G
theorem ok_diff (F : Df g.K "difference" "difference" s_difference f fd .none) (T : Txt g) (F_kept_keys : Kn g "kept_keys" 1 ["one", "other"] [] sp_kept) (F_are_alike : Kn g "are_alike" 10 ["one", "other"] [] sp_alike) (F_copied : Kn g "copied" 11 ["value"] [] sp_copied) : FnG g 12 f fd ["one", "other"] sp_diff0 := by
  refine F.ok sc_difference (fun vs H Q E h => S2.len h) (fun cdv A outer s H vs Q E hr h => ?_)
  obtain ⟨_, _, rfl, p, q, kvs, E2, fp, rfl, hp, rfl, hq, tr, nd, ok, dep, npq, lk, nfp, qq⟩ := h
  refine ⟨_, (pss_cons (ps_set (i := 2) sc_difference.nd rfl (Or.inr rfl) (pe_dc (own := [("key", 4)]) (tt := tYes) rfl sc_difference.nd (i_list (K := g.K) (pe_callG F_kept_keys (hr.mono (by first | decide | omega)) tkD (pa_cons (pv 0) (pa_cons (pv 1) pa_nil)))) (blkOk_by (own := [("key", 4)]) (N := ["one", "other", "kept", "found", "key"]) (sc := defScope s_difference) (by decide +kernel)) (fun _ _ _ _ _ => (pg_name (i := 4) sc_difference.nd rfl (.inl rfl))) (fun _ _ _ _ _ => pts_nil) (fun _ _ _ _ _ => (pv 4)) (fun _ _ _ _ _ => pe_bl)))
      (pss_cons (ps_lock (ps_setLc (i := 3) (own := [("key", 4)]) rfl sc_difference.nd rfl rfl (sw_true rfl rfl rfl (by decide +kernel)) (pi_keys (pv 0)) (blkOk_by (own := [("key", 4)]) (N := ["one", "other", "kept", "found", "key"]) (sc := defScope s_difference) (by decide +kernel)) (fun _ _ _ _ _ => (pg_name (i := 4) sc_difference.nd rfl (.inl rfl))) (fun _ _ _ _ _ => (pts_one (pt_cmp (pc_dnotin (hu_of (Rm.mk hr.room hr.gd).room) (pv 4) (pv 2)) (by rfl)))) (fun _ _ _ _ _ => (pe_tup (pa_cons pe_str (pa_cons (pv 4) pa_nil))))))
      (pss_cons (ps_lock (ps_for psD rfl (pi_keys (pv 1)) (pg_name (i := 4) sc_difference.nd rfl (.inl rfl)) (pss_one (ps_if (PW.pt (pw_or (pt_cmp (pc_dnotin (hu_of hr.room) (pv 4) (pv 2)) (by rfl)) (pw_or1 (pt_not (pt_val (pe_callG F_are_alike (hr.mono (by first | decide | omega)) tkD (pa_cons (pe_dget (hu_of hr.room) (pv 0) (pv 4) (fun _ _ => rfl)) (pa_cons (pe_dget (hu_of hr.room) (pv 1) (pv 4) (fun _ _ => rfl)) pa_nil)))))))) (pss_one (ps_expr (e_bm (K := g.K) PySem.F.plainAttrs_list PySem.F.slot_list_append PySem.F.type_list_append mt_append (pv 3) (pa_cons (pe_tup (pa_cons pe_str (pa_cons (pv 4) (pa_cons (pe_callG F_copied (hr.mono (by first | decide | omega)) tkD (pa_cons (pe_dget (hu_of hr.room) (pv 1) (pv 4) (fun _ _ => rfl)) pa_nil)) pa_nil)))) pa_nil)))) pss_nil))))
      (pss_one (ps_ret (pv 3)))))), ?_⟩
  walk_at "sx"
  have ll := tr.len
  refine ⟨_, _, rfl, p, q, kvs, rfl, hp, rfl, hq, npq, by omega, fun i k v e => ?_, fun r G sG hr er => ⟨r, rfl, ⟨_, SqL.of er⟩, ?_⟩⟩
  · obtain ⟨x, v', d, f', e1, _⟩ := tr.get (List.getElem?_eq_some_iff.mp e).1
    rw [e] at e1; cases e1; exact ⟨x, rfl⟩
  refine dc_invA 0 (fun L i acc G' => Same G G' ∧ acc = []) (fun L hL => ⟨same_upd hL, rfl⟩) (fun L i acc G hL lt => absurd lt (Nat.not_lt_zero _)) (fun L acc G' hL P => ⟨_, SqL.of (P.1 _ _ er), Nat.le_refl _⟩) (fun L i acc G x G' K hL lt => absurd lt (Nat.not_lt_zero _)) (fun L acc G' hL P eL => ?_)
  obtain ⟨sm, rfl⟩ := P
  have s1 := sG.trans sm
  have hL0 := none_of sG hL
  have hp1 := s1 _ _ hp
  have tr1 := tr.same s1
  refine ⟨p, _, hp1, True.intro, fun od => ⟨od, .inl ⟨[], upd_same, ?_⟩⟩⟩
  have ea : upd G' p (.frz od (.dK [])) p = some (.frz od (.dK [])) := upd_same
  have hu : ∀ G, Same (upd G' p (.frz od (.dK []))) G → Same G' (upd G p (.dK [])) := fun G sm => unlock hp1 sm
  have hn1 : ∀ b, upd G' p (.frz od (.dK [])) b = none → b ≠ p ∧ G' b = none := fun b z => fresh_lock z
  generalize upd G' p (.frz od (.dK [])) = H1 at ea hu hn1 ⊢
  refine lc_inv 0 (fun B i acc X => Same H1 X ∧ acc = []) (by rw [sizeLine_eq]; omega) (fun B hB => ⟨same_upd hB, rfl⟩) (fun B i acc X hB lt => absurd lt (Nat.not_lt_zero _)) (fun B acc X hB P => ⟨P.1 _ _ ea, Nat.le_refl _⟩) (fun B i acc X x X' K K0 hB lt => absurd lt (Nat.not_lt_zero _)) (fun B acc X hB P eB => ?_)
  obtain ⟨sX, rfl⟩ := P
  have Ba := hn1 B hB
  have sX2 := hu X sX
  have eB2 : upd X p (.dK []) B = some (.lst []) := by rw [upd_ne Ba.1]; exact eB
  refine ⟨sX _ _ ea, ?_⟩
  generalize upd X p (.dK []) = G2 at sX2 eB2 ⊢
  have s2 := s1.trans sX2
  have hB0 := none_of s1 Ba.2
  have hq2 := s2 _ _ hq
  have eL2 := sX2 _ _ eL
  have Lq : L ≠ q := fun z => by rw [z, hq] at hL0; cases hL0
  have Bq : B ≠ q := fun z => by rw [z, hq] at hB0; cases hB0
  have LB : L ≠ B := fun z => by have := Ba.2; rw [← z, eL] at this; cases this
  have tr2 := tr.same s2
  have Bfp : B ∉ fp := fun z => by rcases tr.there B z with ⟨_, e⟩ | ⟨_, e⟩ <;> (rw [hB0] at e; cases e)
  refine ⟨q, _, hq2, True.intro, fun od2 => ⟨od2, .inl ⟨kvs, upd_same, ?_⟩⟩⟩
  have eq2 : upd G2 q (.frz od2 (.dK kvs)) q = some (.frz od2 (.dK kvs)) := upd_same
  have eL3 : upd G2 q (.frz od2 (.dK kvs)) L = some (.dK []) := by rw [upd_ne Lq]; exact eL2
  have eB3 : upd G2 q (.frz od2 (.dK kvs)) B = some (.lst []) := by rw [upd_ne Bq]; exact eB2
  have tr3 : TrD (upd G2 q (.frz od2 (.dK kvs))) kvs E2 fp := tr2.but (p := q) (fun ys z => by rw [hq2] at z; cases z) (fun c o n z => by rw [upd_ne n]; exact z) fun z => (nfp q z).2 rfl
  have s3 : ∀ c o, c ≠ q → H c = some o → upd G2 q (.frz od2 (.dK kvs)) c = some o := fun c o n e => by rw [upd_ne n]; exact s2 _ _ e
  have n3 : ∀ c, upd G2 q (.frz od2 (.dK kvs)) c = none → H c = none := fun c e => by
    cases z : H c with
    | none => rfl
    | some o =>
      by_cases cq : c = q
      · rw [cq, eq2] at e; cases e
      · rw [s3 c o cq z] at e; cases e
  generalize upd G2 q (.frz od2 (.dK kvs)) = G3 at eq2 eL3 eB3 tr3 s3 n3 ⊢
  simp only [okB, Bool.and_eq_true, decide_eq_true_eq] at ok
  refine for_by kvs.length (fun i σ X => (∃ y, σ = [some (.ref p), some (.ref q), some (.ref L), some (.ref B), y]) ∧ (∀ c o, c ≠ B → G3 c = some o → X c = some o) ∧ ∃ acc, X B = some (.lst acc) ∧ acc.length = i ∧ Paired (DdF (fun c => H c = none ∧ c ≠ B ∧ c ≠ q) X) acc ((putsOf E2).take i))
    ⟨⟨_, rfl⟩, fun _ _ _ e => e, [], eB3, rfl, .nil⟩ (fun i σ X lt P => ?_) (fun σ X P => ?_) (fun i σ X z X' lt P yl => ?_) (fun σ X P => ?_)
  · obtain ⟨⟨y, rfl⟩, sX, _⟩ := P
    exact ⟨sX _ _ Bq.symm eq2, lt⟩
  · obtain ⟨⟨y, rfl⟩, sX, _⟩ := P
    exact ⟨sX _ _ Bq.symm eq2, Nat.le_refl _⟩
  · obtain ⟨⟨y, rfl⟩, sX, acc, eB4, rfl, pr⟩ := P
    obtain ⟨rfl, k0, v0, hk, rfl⟩ := yl
    obtain ⟨x, v, d, f', e1, e2, t, nf⟩ := tr3.get lt
    rw [hk] at e1
    cases e1
    simp only [kV, tRet, tRetN, tSeq, C8.tCut, tNext, tAsg, gName, gNil, gCons, gTup, gFld, tIfS, tIf, tAndV, tOrV, tNotV, tAnd, tOr, tNot, tB, tTest, tOp, tUn, tCB, tCons, tNil, tVar, tC, tChain, tDrop, RS.tCallG, RS.tMethG, tMakeG, RS.tCallK, RS.tMakeK, tEqOwn, rI, rI0, rU, add_ii, add_ss, add_rr, mul_ii, mul_si, mul_ri, RS.eq_ii, RS.eq_ss, eq_bb, eq_nn, eq_sn, eq_ns, eq_in, eq_ni, eq_bn, eq_nb, eq_is, eq_si, eq_rr, ne_ii, ne_ss, ne_bb, ne_nn, ne_sn, ne_ns, ne_in, ne_ni, ne_is, ne_si, ne_rr, in_ss, in_r, nin_ss, nin_r, len_s, len_r, RS.ix_s, RS.ix_r, sl_s, sl_r, is_eq, tyN_n, tyN_b, tyN_i, tyN_s, tru_b, tru_i, tru_n, tSl, tPart, tNoPart, tPar, tPar3, tFmtZ, tFmt, tJs, tDGet, sDPut, sFld, tFld, tTup, tLst, tNever, isB,
  L2.start, List.map_cons, List.map_nil, List.length_cons, List.length_nil, Nat.reduceAdd, Nat.reduceSub, Nat.sub_self, List.replicate_zero, List.replicate_succ, List.append_nil, List.cons_append, List.nil_append, List.getElem?_cons_zero, List.getElem?_cons_succ, List.set_cons_zero, List.set_cons_succ, Option.some.injEq, exists_eq_left, exists_eq_left', exists_and_left, V.bl.injEq, V.int.injEq, V.str.injEq, V.ref.injEq, beq_self_eq_true, Bool.true_or, Bool.or_true, Bool.false_or, Bool.or_false, Bool.and_false, Bool.false_and, Bool.true_and, Bool.and_true, Bool.not_true, Bool.not_false, Bool.false_eq_true, if_true, if_false, ite_true, ite_false, true_and, and_true, and_assoc, String.reduceBEq, String.reduceEq, reduceIte, Bool.and_self, reduceCtorEq, false_and, and_false, exists_false, or_false, false_or, exists_const, iEnumS, iStr, iList, iTup, iRng1, iEnum, tFor_eq, tLc_eq, List.cons.injEq, wipe, not_true_eq_false, not_false_eq_true, upd_same, HO.ins.injEq, HO.tup.injEq, HO.lst.injEq, ofS_eq, lk_nil, lk_cons, pu_nil, pu_cons, sizeLine_eq, Nat.reduceLT, Nat.reduceLeDiff, Nat.reduceEqDiff, Nat.le_refl, decide_true, decide_false, tPr, dget_us, dput_us, vv_nil, vv_cons, RS.pk_nil, pk_one, RS.pk_cons, inr_eq, tDisp, tPairs, tBoolOwn, rBoolOwn, tBM, rAppend, ty_list, ty_str, rEqOwn, iEnumT, RS.tCallS, tM1, tDc_eq, tLock, tLockE, iKeys, tListEnum, rUpdate, tMkX0, tMkX1, tXfv, gSub, rSetL, List.getD_cons_zero, List.getD_cons_succ, tBreak, tCMethS, ClX.tCVal, tXfa, tIxOwn, tInOwn, tPropG, tMethK, tMethP, tListGen, tDGet2, tDPop2, rNeD0, intA_i, intA_b, tRevL, sFldAug, tPm0, tPm1, tDIn, tDNotIn, tDNewK, RS.tMethS, tForK, tKM, tKC, tLcK, tKM2, tKC2, tMethStar, tKCK2, tLk, tAug, ipI, tDig, tLcX, tKMX, tKCX]
    have b1 := depth_kv e2
    have t4 : Tr X' v0 d f' := t.keep (S := fun c => c = B) (fun c z xs q => by rw [z, eB3] at q; cases q) (fun c o n e => sX c o n e) (fun c hc e => Bfp (e ▸ nf c hc))
    have nX : ∀ c, X' c = none → H c = none ∧ c ≠ B ∧ c ≠ q := fun c hc => by
      have cB : c ≠ B := fun z => by rw [z, eB4] at hc; cases hc
      refine ⟨n3 c ?_, cB, fun z => by rw [z, sX _ _ Bq.symm eq2] at hc; cases hc⟩
      cases z : G3 c with
      | none => rfl
      | some o => rw [sX c o cB z] at hc; cases hc
    refine ⟨none, dget_x (kvs := []) (.inl (sX _ _ LB eL3)), ?_⟩
    rw [if_pos (by rfl)]
    refine ⟨⟨_, SqL.of eB4⟩, v0, .inl ⟨kvs, .inr x, .inr ⟨od2, sX _ _ Bq.symm eq2⟩, rfl, (valV_at nd hk).symm⟩, _, rfl, d, f', t4, (okKv_get ok.2 e2).2, by simp only [PyData.depth] at dep; omega, fun v' fp' G5 C t ht => ?_⟩
    have eB5 := C.sm _ _ eB4
    have tB : t ≠ B := fun z => by rw [z, eB5] at ht; cases ht
    have eB6 : upd G5 t (.tup [.str "put", .str x, v']) B = some (.lst acc) := by rw [upd_ne tB.symm]; exact eB5
    refine ⟨acc, eB6, by omega, ⟨_, rfl⟩, fun c o n e => by rw [upd_ne n]; exact same_upd ht _ _ (C.sm _ _ (sX c o n e)), by simp, ?_⟩
    have tk : (putsOf E2).take (acc.length + 1) = (putsOf E2).take acc.length ++ [.put x d] := by
      rw [List.take_add_one]; simp [putsOf, e2]
    rw [tk]
    have new : DdF (fun c => H c = none ∧ c ≠ B ∧ c ≠ q) (upd G5 t (.tup [.str "put", .str x, v'])) (.ref t) (.put x d) := ⟨t, v', fp', rfl, upd_same, C.tr.same (same_upd ht), fun c hc => nX c (C.nw c hc)⟩
    exact paired_snoc (new.grow eB6 fun c n => n.2.1) (paired_imp (fun _ _ z => ((DdF.same C.sm z).same (same_upd ht)).grow eB6 fun c n => n.2.1) pr)
  · obtain ⟨⟨y, rfl⟩, sX, acc, eB4, hacc, pr⟩ := P
    rw [List.take_of_length_le (by simp [putsOf]; omega)] at pr
    have eqX := sX _ _ Bq.symm eq2
    refine ⟨eqX, _, rfl, qq B acc _ (fun c o e => ?_) hB0 (by rw [upd_ne Bq]; exact eB4) (paired_imp (fun _ _ z => DdF.imp (fun c n => n.1) (DdF.keep (S := fun c => c = q) (fun c z xs e => by rw [z, eqX] at e; cases e) (fun c o n e => by rw [upd_ne n]; exact e) (fun c n => n.2.2) z)) pr)⟩
    by_cases cq : c = q
    · rw [cq, upd_same, ← hq, ← cq]; exact e
    · rw [upd_ne cq]
      exact sX c o (fun z => by rw [z, hB0] at e; cases e) (s3 c o cq e)
theorem sc_Patch_between : FnScope ["cls", "one", "other", "found"] ["cls", "one", "other"] (defScope s_Patch_between) := ⟨rfl, rfl, rfl, by decide +kernel, rfl, by decide +kernel, by decide +kernel⟩
def sp_btw (CP : Addr) : Sp := S3 fun c a b H Q _ => c = .ref CP ∧ ∃ p q kvs E fp, a = .ref p ∧ H p = some (.dK []) ∧ b = .ref q ∧ H q = some (.dK kvs) ∧ TrD H kvs E fp ∧ (kvs.map (·.1)).Nodup ∧ MapAt H b E (q :: fp) ∧ p ≠ q ∧ (∀ c ∈ fp, c ≠ p ∧ c ≠ q) ∧ (∀ dd ∈ putsOf E, DdV dd) ∧ E.length ≤ 16 ∧
  ∀ r G, Same H G → H r = none → PatF CP (fun c => H c = none) G (.ref r) (putsOf E) → Q (.ref r) G
theorem ok_btw (F : Df g.K "between" "Patch.between" s_Patch_between f fd .none) (T : Txt g) (F_check_mappings : KnS g "check_mappings" 12 (spS 0 sp_cmaps)) (F_difference : Kn g "difference" 12 ["one", "other"] [] sp_diff0) (F_Patch : KcS g "Patch" CP 14 (spS 1 (sp_pinit CP CR))) : FnG g 16 f fd ["cls", "one", "other"] (sp_btw CP) := by
  refine F.ok sc_Patch_between (fun vs H Q E h => S3.len h) (fun cdv A outer s H vs Q E hr h => ?_)
  obtain ⟨_, _, _, rfl, rfl, p, q, kvs, E2, fp, rfl, hp, rfl, hq, tr, nd, hm, npq, nfp, okd, le, qq⟩ := h
  refine ⟨_, (pss_cons (ps_expr (pe_callS F_check_mappings (hr.mono (by first | decide | omega)) tkD (pa_cons (pv 1) (pa_cons (pv 2) pa_nil))))
      (pss_cons (ps_set (i := 3) sc_Patch_between.nd rfl (Or.inl rfl) (pe_callG F_difference (hr.mono (by first | decide | omega)) tkD (pa_cons (pv 1) (pa_cons (pv 2) pa_nil))))
      (pss_one (ps_ret (pe_makeStar (pv 0) F_Patch (hr.mono (by first | decide | omega)) tkD (pv 3)))))), ?_⟩
  simp only [tMakeStar, tRet, tRetN, tSeq, C8.tCut, tNext, tAsg, gName, gNil, gCons, gTup, gFld, tIfS, tIf, tAndV, tOrV, tNotV, tAnd, tOr, tNot, tB, tTest, tOp, tUn, tCB, tCons, tNil, tVar, tC, tChain, tDrop, RS.tCallG, RS.tMethG, tMakeG, RS.tCallK, RS.tMakeK, tEqOwn, rI, rI0, rU, add_ii, add_ss, add_rr, mul_ii, mul_si, mul_ri, RS.eq_ii, RS.eq_ss, eq_bb, eq_nn, eq_sn, eq_ns, eq_in, eq_ni, eq_bn, eq_nb, eq_is, eq_si, eq_rr, ne_ii, ne_ss, ne_bb, ne_nn, ne_sn, ne_ns, ne_in, ne_ni, ne_is, ne_si, ne_rr, in_ss, in_r, nin_ss, nin_r, len_s, len_r, RS.ix_s, RS.ix_r, sl_s, sl_r, is_eq, tyN_n, tyN_b, tyN_i, tyN_s, tru_b, tru_i, tru_n, tSl, tPart, tNoPart, tPar, tPar3, tFmtZ, tFmt, tJs, tDGet, sDPut, sFld, tFld, tTup, tLst, tNever, isB,
  L2.start, List.map_cons, List.map_nil, List.length_cons, List.length_nil, Nat.reduceAdd, Nat.reduceSub, Nat.sub_self, List.replicate_zero, List.replicate_succ, List.append_nil, List.cons_append, List.nil_append, List.getElem?_cons_zero, List.getElem?_cons_succ, List.set_cons_zero, List.set_cons_succ, Option.some.injEq, exists_eq_left, exists_eq_left', exists_and_left, V.bl.injEq, V.int.injEq, V.str.injEq, V.ref.injEq, beq_self_eq_true, Bool.true_or, Bool.or_true, Bool.false_or, Bool.or_false, Bool.and_false, Bool.false_and, Bool.true_and, Bool.and_true, Bool.not_true, Bool.not_false, Bool.false_eq_true, if_true, if_false, ite_true, ite_false, true_and, and_true, and_assoc, String.reduceBEq, String.reduceEq, reduceIte, Bool.and_self, reduceCtorEq, false_and, and_false, exists_false, or_false, false_or, exists_const, iEnumS, iStr, iList, iTup, iRng1, iEnum, tFor_eq, tLc_eq, List.cons.injEq, wipe, not_true_eq_false, not_false_eq_true, upd_same, HO.ins.injEq, HO.tup.injEq, HO.lst.injEq, ofS_eq, lk_nil, lk_cons, pu_nil, pu_cons, sizeLine_eq, Nat.reduceLT, Nat.reduceLeDiff, Nat.reduceEqDiff, Nat.le_refl, decide_true, decide_false, tPr, dget_us, dput_us, vv_nil, vv_cons, RS.pk_nil, pk_one, RS.pk_cons, inr_eq, tDisp, tPairs, tBoolOwn, rBoolOwn, tBM, rAppend, ty_list, ty_str, rEqOwn, iEnumT, RS.tCallS, tM1, tDc_eq, tLock, tLockE, iKeys, tListEnum, rUpdate, tMkX0, tMkX1, tXfv, gSub, rSetL, List.getD_cons_zero, List.getD_cons_succ, tBreak, tCMethS, ClX.tCVal, tXfa, tIxOwn, tInOwn, tPropG, tMethK, tMethP, tListGen, tDGet2, tDPop2, rNeD0, intA_i, intA_b, tRevL, sFldAug, tPm0, tPm1, tDIn, tDNotIn, tDNewK, RS.tMethS, tForK, tKM, tKC, tLcK, tKM2, tKC2, tMethStar, tKCK2, tLk, tAug, ipI, tDig, tLcX, tKMX, tKCX]
  refine ⟨[], [.ref p, .ref q], rfl, rfl, by rw [sizeLine_eq]; simp, fun t ht => ?_⟩
  have s1 := same_upd (o := HO.tup [.ref p, .ref q]) ht
  have h0 : MapAt H (.ref p) [] [p] := ⟨.dct hp .nil (by simp) (by simp), by decide, by decide, by simp, by decide +kernel⟩
  refine ⟨_, rfl, t, _, [[], E2], rfl, upd_same, .cons ⟨_, h0.same s1⟩ (.cons ⟨_, hm.same s1⟩ .nil), by simp, fun H1 s2 => ?_⟩
  have s12 := s1.trans s2
  refine ⟨_, _, rfl, p, q, kvs, E2, fp, rfl, s12 _ _ hp, rfl, s12 _ _ hq, tr.same s12, nd, hm.ok, by have := hm.dep; omega, npq, by omega, nfp, fun r vs G sG hr er pr => ?_⟩
  dsimp only
  refine ⟨r, rfl, vs, .inr (SqL.of er), fun b db hb hdb nb => ?_⟩
  have sH := s12.trans sG
  have hb0 := none_of sH hb
  have lp : (putsOf E2).length = E2.length := by simp [putsOf]
  have lv := paired_len pr
  have eb : upd (upd G db (.own b)) b (.ins CP db []) b = some (.ins CP db []) := upd_same
  have sY : Same G (upd (upd G db (.own b)) b (.ins CP db [])) := same_over (same_over (Same.refl _) hdb) hb
  generalize upd (upd G db (.own b)) b (.ins CP db []) = Y at eb sY ⊢
  refine ⟨[.ref b], vs, rfl, rfl, by rw [sizeLine_eq]; omega, fun t2 ht2 => ?_⟩
  have sZ := same_upd (o := HO.tup vs) ht2
  have ez : upd Y t2 (.tup vs) t2 = some (.tup vs) := upd_same
  generalize upd Y t2 (.tup vs) = Z at sZ ez ⊢
  have sF := sH.trans (sY.trans sZ)
  refine ⟨_, _, rfl, b, db, t2, vs, rfl, sZ _ _ eb, rfl, ez, .inr ⟨putsOf E2, fun c => H1 c = none, paired_imp (fun _ _ z => DdF.same (sY.trans sZ) z) pr, okd, by omega, fun G' row ws hk hrow erow prw eb' => ⟨rfl, qq b G' (fun c o e => hk c o (fun z => by rw [z, hb0] at e; cases e) (sF _ _ e)) hb0 ⟨⟨b, db, row, ws, rfl, eb', erow, paired_imp (fun _ _ z => DdF.imp (fun c n => none_of sF n) z) prw⟩, okd, by omega⟩⟩⟩⟩
end
section
variable {g : Wd} {f : Addr} {fd : FuncData} {CP CR CN : Addr}
theorem PatF.same {N : Addr → Prop} {H G : Hp} {p : V} {dds : List Dd} (h : PatF CP N H p dds) (s : Same H G) : PatF CP N G p dds := by
  obtain ⟨⟨q, dx, row, ws, e, e1, e2, pr⟩, ok, l⟩ := h
  exact ⟨⟨q, dx, row, ws, e, s _ _ e1, s _ _ e2, paired_imp (fun _ _ z => DdF.same s z) pr⟩, ok, l⟩
theorem PatF.imp {N M : Addr → Prop} {H : Hp} {p : V} {dds : List Dd} (h : PatF CP N H p dds) (k : ∀ c, N c → M c) : PatF CP M H p dds := by
  obtain ⟨⟨q, dx, row, ws, e, e1, e2, pr⟩, ok, l⟩ := h
  exact ⟨⟨q, dx, row, ws, e, e1, e2, paired_imp (fun _ _ z => DdF.imp k z) pr⟩, ok, l⟩
theorem paired_drop {α β : Type} {F : α → β → Prop} : ∀ {xs : List α} {ys : List β}, Paired F xs ys → ∀ (i : Nat), Paired F (xs.drop i) (ys.drop i)
  | _, _, .nil, i => by simpa using Paired.nil
  | _, _, .cons a b, 0 => .cons a b
  | _, _, .cons a b, i + 1 => paired_drop b i
theorem mk_patchA {H : Hp} {N : Addr → Prop} {ws : List V} {es : List Dd} {Q : Addr → Hp → Prop} {E : XK} (pr : Paired (DdF N H) ws es) (okd : ∀ dd ∈ es, DdV dd) (l16 : es.length ≤ 16) (q : ∀ r G, Same H G → H r = none → PatF CP (fun c => H c = none) G (.ref r) es → Q r G) :
    ∀ y dy, H y = none → H dy = none → dy ≠ y → spS 1 (sp_pinit CP CR) (V.ref y :: ws) (upd (upd H dy (.own y)) y (.ins CP dy [])) (fun v H2 => v = V.non ∧ Q y H2) E := by
  intro b db hb hdb nb
  have lv := paired_len pr
  have eb : upd (upd H db (.own b)) b (.ins CP db []) b = some (.ins CP db []) := upd_same
  have sY : Same H (upd (upd H db (.own b)) b (.ins CP db [])) := same_over (same_over (Same.refl _) hdb) hb
  generalize upd (upd H db (.own b)) b (.ins CP db []) = Y at eb sY ⊢
  refine ⟨[.ref b], ws, rfl, rfl, by rw [sizeLine_eq]; omega, fun t2 ht2 => ?_⟩
  have sZ := same_upd (o := HO.tup ws) ht2
  have ez : upd Y t2 (.tup ws) t2 = some (.tup ws) := upd_same
  generalize upd Y t2 (.tup ws) = Z at sZ ez ⊢
  have sF := sY.trans sZ
  refine ⟨_, _, rfl, b, db, t2, ws, rfl, sZ _ _ eb, rfl, ez, .inr ⟨es, N, paired_imp (fun _ _ z => DdF.same sF z) pr, okd, by omega, fun G' row ws hk hrow erow prw eb' => ⟨rfl, q b G' (fun c o e => hk c o (fun z => by rw [z, hb] at e; cases e) (sF _ _ e)) hb ⟨⟨b, db, row, ws, rfl, eb', erow, paired_imp (fun _ _ z => DdF.imp (fun c n => none_of sF n) z) prw⟩, okd, by omega⟩⟩⟩⟩
theorem mk_patch {H : Hp} {N : Addr → Prop} {ws : List V} {es : List Dd} {Q : VK} {E : XK} (pr : Paired (DdF N H) ws es) (okd : ∀ dd ∈ es, DdV dd) (l16 : es.length ≤ 16) (q : ∀ r G, Same H G → H r = none → PatF CP (fun c => H c = none) G (.ref r) es → Q (.ref r) G) :
    ∀ y dy, H y = none → H dy = none → dy ≠ y → spS 1 (sp_pinit CP CR) (V.ref y :: ws) (upd (upd H dy (.own y)) y (.ins CP dy [])) (fun v H2 => v = V.non ∧ Q (.ref y) H2) E := mk_patchA (Q := fun r => Q (.ref r)) pr okd l16 q
theorem sc_l_patch : FnScope ["_law_deeds_here"] ["_law_deeds_here"] (defScope s_l_patch) := ⟨rfl, rfl, rfl, by decide +kernel, rfl, by decide +kernel, by decide +kernel⟩
def sp_lpatch (CP : Addr) (n : Nat) : Sp := S1 fun v H Q _ => ∃ a vs dds N, v = .ref a ∧ H a = some (.lst vs) ∧ Paired (DdF N H) vs dds ∧ (∀ dd ∈ dds, DdV dd) ∧ 0 < n ∧ dds.length ≤ 3 * n ∧ dds.length ≤ 16 ∧
  ∀ r G, Same H G → H r = none → PatF CP (fun c => H c = none) G (.ref r) dds → Q (.ref r) G
theorem ok_lpatch (n : Nat) (F : Df g.K "_law_patch" "_law_patch" s_l_patch f fd .none) (T : Txt g) (F_Patch : KcS g "Patch" CP 14 (spS 1 (sp_pinit CP CR))) (M_Patch__add : Km g CP "__add__" 16 ["self", "other"] [] (sp_padd CP)) (SF_Patch : PySem.W.selfFirst g.K CP = true)
    (F_l_patch : Kn g "_law_patch" (n + 17) ["_law_deeds_here"] [] (sp_lpatch CP n)) : FnG g (n + 18) f fd ["_law_deeds_here"] (sp_lpatch CP (n + 1)) := by
  refine F.ok sc_l_patch (fun vs H Q E h => S1.len h) (fun cdv A outer s H vs Q E hr h => ?_)
  obtain ⟨_, rfl, a, vs, dds, N, rfl, ha, pr, okd, n0, l3, l16, q⟩ := h
  refine ⟨_, (pss_cons (ps_if (pt_cmpR op_lt (pe_callB (c_len (K := g.K)) (by rfl) T.b_len bb_len (pa_cons (pv 0) pa_nil)) pe_int (nomark _)) (pss_one (ps_ret (pe_ifExp (pt_cmpR (op_eqE (K := g.K) hr) (pv 0) (pe_lst pa_nil) (nomark _)) (RS.pe_makeS0 F_Patch (hr.mono (by first | decide | omega)) tkD) (RS.pe_makeS F_Patch (hr.mono (by first | decide | omega)) tkD (pa_cons (pe_ix (o_ix (K := g.K)) (pv 0) pe_int (fun _ _ => rfl)) pa_nil))))) pss_nil)
      (pss_cons (ps_if (pt_cmpR op_gt (pe_callB (c_len (K := g.K)) (by rfl) T.b_len bb_len (pa_cons (pv 0) pa_nil)) pe_int (nomark _)) (pss_one (ps_ret (e_addOwn M_Patch__add SF_Patch (hr.mono (by first | decide | omega)) tkD (pe_callG F_l_patch (hr.mono (by first | decide | omega)) tkD (pa_cons (pe_slice (o_sl (K := g.K)) (pv 0) po_none (po_some pe_int)) pa_nil)) (pe_callG F_l_patch (hr.mono (by first | decide | omega)) tkD (pa_cons (pe_slice (o_sl (K := g.K)) (pv 0) (po_some pe_int) po_none) pa_nil))))) pss_nil)
      (pss_one (ps_ret (pe_ifExp (pt_cmpR (o_eq (K := g.K) hr) (pe_callB (c_len (K := g.K)) (by rfl) T.b_len bb_len (pa_cons (pv 0) pa_nil)) pe_int (nomark _)) (RS.pe_makeS F_Patch (hr.mono (by first | decide | omega)) tkD (pa_cons (pe_ix (o_ix (K := g.K)) (pv 0) pe_int (fun _ _ => rfl)) (pa_cons (pe_ix (o_ix (K := g.K)) (pv 0) pe_int (fun _ _ => rfl)) pa_nil))) (RS.pe_makeS F_Patch (hr.mono (by first | decide | omega)) tkD (pa_cons (pe_ix (o_ix (K := g.K)) (pv 0) pe_int (fun _ _ => rfl)) (pa_cons (pe_ix (o_ix (K := g.K)) (pv 0) pe_int (fun _ _ => rfl)) (pa_cons (pe_ix (o_ix (K := g.K)) (pv 0) pe_int (fun _ _ => rfl)) pa_nil))))))))), ?_⟩
  simp only [tMakeS, tAddOwn, tRet, tRetN, tSeq, C8.tCut, tNext, tAsg, gName, gNil, gCons, gTup, gFld, tIfS, tIf, tAndV, tOrV, tNotV, tAnd, tOr, tNot, tB, tTest, tOp, tUn, tCB, tCons, tNil, tVar, tC, tChain, tDrop, RS.tCallG, RS.tMethG, tMakeG, RS.tCallK, RS.tMakeK, tEqOwn, rI, rI0, rU, add_ii, add_ss, add_rr, mul_ii, mul_si, mul_ri, RS.eq_ii, RS.eq_ss, eq_bb, eq_nn, eq_sn, eq_ns, eq_in, eq_ni, eq_bn, eq_nb, eq_is, eq_si, eq_rr, ne_ii, ne_ss, ne_bb, ne_nn, ne_sn, ne_ns, ne_in, ne_ni, ne_is, ne_si, ne_rr, in_ss, in_r, nin_ss, nin_r, len_s, len_r, RS.ix_s, RS.ix_r, sl_s, sl_r, is_eq, tyN_n, tyN_b, tyN_i, tyN_s, tru_b, tru_i, tru_n, tSl, tPart, tNoPart, tPar, tPar3, tFmtZ, tFmt, tJs, tDGet, sDPut, sFld, tFld, tTup, tLst, tNever, isB,
  L2.start, List.map_cons, List.map_nil, List.length_cons, List.length_nil, Nat.reduceAdd, Nat.reduceSub, Nat.sub_self, List.replicate_zero, List.replicate_succ, List.append_nil, List.cons_append, List.nil_append, List.getElem?_cons_zero, List.getElem?_cons_succ, List.set_cons_zero, List.set_cons_succ, Option.some.injEq, exists_eq_left, exists_eq_left', exists_and_left, V.bl.injEq, V.int.injEq, V.str.injEq, V.ref.injEq, beq_self_eq_true, Bool.true_or, Bool.or_true, Bool.false_or, Bool.or_false, Bool.and_false, Bool.false_and, Bool.true_and, Bool.and_true, Bool.not_true, Bool.not_false, Bool.false_eq_true, if_true, if_false, ite_true, ite_false, true_and, and_true, and_assoc, String.reduceBEq, String.reduceEq, reduceIte, Bool.and_self, reduceCtorEq, false_and, and_false, exists_false, or_false, false_or, exists_const, iEnumS, iStr, iList, iTup, iRng1, iEnum, tFor_eq, tLc_eq, List.cons.injEq, wipe, not_true_eq_false, not_false_eq_true, upd_same, HO.ins.injEq, HO.tup.injEq, HO.lst.injEq, ofS_eq, lk_nil, lk_cons, pu_nil, pu_cons, sizeLine_eq, Nat.reduceLT, Nat.reduceLeDiff, Nat.reduceEqDiff, Nat.le_refl, decide_true, decide_false, tPr, dget_us, dput_us, vv_nil, vv_cons, RS.pk_nil, pk_one, RS.pk_cons, inr_eq, tDisp, tPairs, tBoolOwn, rBoolOwn, tBM, rAppend, ty_list, ty_str, rEqOwn, iEnumT, RS.tCallS, tM1, tDc_eq, tLock, tLockE, iKeys, tListEnum, rUpdate, tMkX0, tMkX1, tXfv, gSub, rSetL, List.getD_cons_zero, List.getD_cons_succ, tBreak, tCMethS, ClX.tCVal, tXfa, tIxOwn, tInOwn, tPropG, tMethK, tMethP, tListGen, tDGet2, tDPop2, rNeD0, intA_i, intA_b, tRevL, sFldAug, tPm0, tPm1, tDIn, tDNotIn, tDNewK, RS.tMethS, tForK, tKM, tKC, tLcK, tKM2, tKC2, tMethStar, tKCK2, tLk, tAug, ipI, tDig, tLcX, tKMX, tKCX]
  have lv := paired_len pr
  refine .inl ⟨vs, .inl (SqL.of ha), ?_⟩
  by_cases l2 : vs.length < 2
  · rw [if_pos (by simp; omega)]
    intro p hp
    have s1 := same_upd (o := HO.lst []) hp
    refine ⟨a, p, vs, [], rfl, rfl, SqL.of (s1 _ _ ha), SqL.of upd_same, .inr rfl, _, rfl, ?_⟩
    have ha1 := s1 _ _ ha
    have pr1 := paired_imp (fun _ _ z => DdF.same s1 z) pr
    have q1 : ∀ r G, Same (upd H p (.lst [])) G → upd H p (.lst []) r = none → PatF CP (fun c => upd H p (.lst []) c = none) G (.ref r) dds → Q (.ref r) G := fun r G sG hr P => q r G (s1.trans sG) (none_of s1 hr) (P.imp fun c n => none_of s1 n)
    generalize upd H p (.lst []) = H1 at s1 ha1 pr1 q1 ⊢
    cases pr1 with
    | nil =>
      rw [if_pos (by rfl)]
      exact mk_patch (N := N) .nil okd l16 q1
    | cons h hs =>
      cases hs with
      | nil =>
        rw [if_neg (by simp)]
        exact ⟨_, .inl (SqL.of ha1), _, rfl, mk_patch (.cons h .nil) okd l16 q1⟩
      | cons h2 hs => simp at l2; omega
  rw [if_neg (by simp; omega)]
  refine .inl ⟨vs, .inl (SqL.of ha), ?_⟩
  by_cases l4 : 3 < vs.length
  · rw [if_pos (by simp; omega)]
    refine .inl ⟨a, vs, rfl, SqL.of ha, fun p hp => ?_⟩
    have s1 := same_upd (o := HO.lst (cutV vs none (some 3))) hp
    have ep : upd H p (.lst (cutV vs none (some 3))) p = some (.lst (cutV vs none (some 3))) := upd_same
    generalize upd H p (.lst (cutV vs none (some 3))) = H1 at s1 ep ⊢
    rw [cutV_to vs (by decide)] at ep
    have pr1 := paired_imp (fun _ _ z => DdF.same s1 z) pr
    refine ⟨_, rfl, p, _, dds.take 3, N, rfl, ep, paired_take pr1 3, fun dd hd => okd dd (List.mem_of_mem_take hd), by omega, by rw [List.length_take]; omega, by rw [List.length_take]; omega, fun r G sG hr P => ?_⟩
    have sH := s1.trans sG
    refine .inl ⟨a, vs, rfl, SqL.of (sH _ _ ha), fun p2 hp2 => ?_⟩
    have s2 := same_upd (o := HO.lst (cutV vs (some 3) none)) hp2
    have ep2 : upd G p2 (.lst (cutV vs (some 3) none)) p2 = some (.lst (cutV vs (some 3) none)) := upd_same
    generalize upd G p2 (.lst (cutV vs (some 3) none)) = G1 at s2 ep2 ⊢
    rw [cutV_from vs (by decide)] at ep2
    have sH2 := sH.trans s2
    have pr2 := paired_imp (fun _ _ z => DdF.same sH2 z) pr
    refine ⟨_, rfl, p2, _, dds.drop 3, N, rfl, ep2, paired_drop pr2 3, fun dd hd => okd dd (List.mem_of_mem_drop hd), by omega, by rw [List.length_drop]; omega, by rw [List.length_drop]; omega, fun r2 G2 sG2 hr2 P2 => ?_⟩
    have sH3 := sH2.trans sG2
    have P1 := (P.imp (M := fun c => H c = none) fun c n => none_of s1 n).same (s2.trans sG2)
    have P2 := P2.imp (M := fun c => H c = none) fun c n => none_of sH2 n
    obtain ⟨⟨_, dx, row, ws, z, e1, _⟩, _, _⟩ := id P1
    cases z
    obtain ⟨⟨_, dx2, row2, ws2, z, e2, _⟩, _, _⟩ := id P2
    cases z
    refine ⟨r, rfl, _, _, e1, r2, rfl, _, _, e2, _, _, rfl, _, dds.take 3, dds.drop 3, P1, P2, by rw [List.length_take, List.length_drop]; omega, fun r3 G3 sG3 hr3 P3 => ⟨⟨_, rfl⟩, ?_⟩⟩
    rw [List.take_append_drop] at P3
    exact q r3 G3 (sH3.trans sG3) (none_of sH3 hr3) P3
  rw [if_neg (by simp; omega)]
  refine .inl ⟨vs, .inl (SqL.of ha), ?_⟩
  match vs, ha, pr, l2, l4 with
  | [], _, _, l2, _ => exact absurd (by simp) l2
  | [_], _, _, l2, _ => exact absurd (by simp) l2
  | [x, y], ha, pr, _, _ =>
    rw [if_pos (by simp)]
    exact ⟨_, .inl (SqL.of ha), _, rfl, _, .inl (SqL.of ha), _, rfl, mk_patch pr okd l16 q⟩
  | [x, y, z], ha, pr, _, _ =>
    rw [if_neg (by simp)]
    exact ⟨_, .inl (SqL.of ha), _, rfl, _, .inl (SqL.of ha), _, rfl, _, .inl (SqL.of ha), _, rfl, mk_patch pr okd l16 q⟩
  | _ :: _ :: _ :: _ :: _, _, _, _, l4 => exact absurd (by simp only [List.length_cons]; omega) l4
end
open PySem PySem.Spec L2 RS LamX
section
variable {g : Wd} {fa : Addr} {fd : FuncData} {CN CE : Addr}
/-- the action raises InvalidNumber, and the number is told -/
def TTn (CN : Addr) : Addr → Str → (XK → Hp → VK → Prop) → Hp → VK → Prop := fun c' q tl H Q =>
  ∀ (H0 : Hp) (E : XK) (K : VK), Same H H0 → (∀ cls d H', (cls = .ref CN ∧ ∃ dd v, d = some dd ∧ XdAt H' dd [("given", v)] ∧ ∀ p H'', Same H' H'' → H'' p = some (.tup [.str "number", v]) → Q (.ref p) H'') → E cls d H') → tl E H0 K
theorem sc_l_told : FnScope ["_law_action", "_law_caught", "_law_result", "error"] ["_law_action"] (defScope s_l_told) := ⟨rfl, rfl, rfl, by decide +kernel, rfl, by decide +kernel, by decide +kernel⟩
theorem ok_told (F : Df g.K "_law_told" "_law_told" s_l_told fa fd .none) (T : Txt g) (hmg : g.mg "_law_told" = some (.ref fa)) (hb : Binds g.K fd ["_law_action"] [])
    (V_ShelfError : g.mg "ShelfError" = some (.ref CE)) (V_InvalidNumber : Gv g "InvalidNumber" (.ref CN)) (XC : ExcC g.K CN) (XFC : XfC g.K CN) (XFN : PySem.W.findIn g.K (.ref CN) "given" = some none)
    (KNN : PySem.W.kitOne g.K (.ref CN) (.ref CN) = some true) (EX : PySem.W.exmOne g.K (.ref CN) (.ref CE) = some true) : Told g 15 "_law_told" (TTn CN) := by
  refine ⟨s_l_told, fa, fd, "_law_action", ["_law_action", "_law_caught", "_law_result", "error"], hmg, F, hb, sc_l_told, rfl, .inl rfl, by decide, by decide, fun cdv A outer s H Q f c' q tl hr act hc h => ?_⟩
  have N_ShelfError : Names (cx g ["_law_action", "_law_caught", "_law_result", "error"] "_law_told" s_l_told fa cdv A outer s H fun _ _ _ => False) "ShelfError" (.ref CE) := ⟨rfl, by decide, .inl V_ShelfError⟩
  refine ⟨_, (pss_cons (ps_asg (pe_tup (pa_cons pe_non (pa_cons pe_non pa_nil))) (g_tup (K := g.K) (n := 2) (pgs_cons (pg_name (i := 1) sc_l_told.nd rfl (.inl rfl)) (pgs_cons (pg_name (i := 2) sc_l_told.nd rfl (.inl rfl)) pgs_nil))))
      (pss_cons (ps_try_keep1 (i := 3) rfl rfl rfl sc_l_told.nd rfl rfl N_ShelfError tkD (fun W pn xe tk1 po1 => (pss_one (ps_set (i := 2) sc_l_told.nd rfl (Or.inl rfl) (act _ _ _ _ _ tk1)))) (fun a oe cls d pn hz hf => (pss_one (ps_set (i := 1) sc_l_told.nd rfl (Or.inl rfl) (pv 3)))))
      (pss_cons (ps_if (pt_cmpR op_isN (pv 1) pe_non (nomark _)) (pss_one (ps_ret (pe_lst (pa_cons (pv 2) pa_nil)))) pss_nil)
      (pss_one (ps_ret (pe_ifExp (pt_val (pe_callB (c_isW (K := g.K)) (by rfl) T.b_isinstance bb_isinstance (pa_cons (pv 1) (pa_cons (e_g V_InvalidNumber) pa_nil)))) (pe_tup (pa_cons pe_str (pa_cons (pe_xfa (g := g) (pv 1)) pa_nil))) (pe_tup (pa_cons pe_str pa_nil)))))))), ?_⟩
  walk_at "sx"
  intro p hp
  have s1 := same_upd (o := HO.tup [.non, .non]) hp
  refine ⟨_, SqT.of upd_same, rfl, _, _, rfl, _, _, rfl, rfl, s1 _ _ hc, h _ _ _ s1 (fun cls d H' hx => ?_)⟩
  obtain ⟨rfl, dd, v, rfl, hx, k⟩ := hx
  refine ⟨true, EX, fun _ => ⟨CN, rfl, fun a ha => ?_⟩, fun z => by cases z⟩
  walk_at "sx"
  intro ha2
  have s2 := same_upd (o := exv a CN (some dd)) ha
  refine ⟨a, CN, some dd, _, _, true, rfl, XC, .own CN, upd_same, fun d e => by cases e; exact ⟨_, hx.same s2⟩, KNN, true, rfl, ?_⟩
  rw [if_pos rfl]
  exact ⟨CN, dd, upd_same, _, hx.same s2, v, by rw [lk_cons, if_pos rfl], XFC, XFN, fun p hp => k p _ (s2.trans (same_upd hp)) upd_same⟩
end
theorem tr_frT {H G : Hp} {v : V} {d : PyData} {fp : List Addr} (t : Tr H v d fp) (f : FrT [] H G) : Tr G v d fp :=
  t.keep (S := fun c => ∃ ps, H c = some (.tbl ps)) (fun c ⟨ps, z⟩ xs q => by rw [z] at q; cases q) (fun c o n e => f c o (by simp) (fun ps z => n ⟨ps, by rw [e, z]⟩) e) (fun c hc ⟨ps, z⟩ => by rcases t.there c hc with ⟨_, e⟩ | ⟨_, e⟩ <;> (rw [z] at e; cases e))
theorem ddF_frT {N : Addr → Prop} {H G : Hp} (f : FrT [] H G) {v : V} {dd : Dd} (h : DdF N H v dd) : DdF N G v dd := by
  cases dd with
  | put x d => obtain ⟨t, w, fp, a, b, c, n⟩ := h; exact ⟨t, w, fp, a, f _ _ (by simp) (fun ps z => by cases z) b, tr_frT c f, n⟩
  | drop x => obtain ⟨t, a, b⟩ := h; exact ⟨t, a, f _ _ (by simp) (fun ps z => by cases z) b⟩
theorem PatF.frT {CP : Addr} {N : Addr → Prop} {H G : Hp} {p : V} {dds : List Dd} (h : PatF CP N H p dds) (f : FrT [] H G) : PatF CP N G p dds := by
  obtain ⟨⟨q, dx, row, ws, e, e1, e2, pr⟩, ok, l⟩ := h
  exact ⟨⟨q, dx, row, ws, e, f _ _ (by simp) (fun ps z => by cases z) e1, f _ _ (by simp) (fun ps z => by cases z) e2, paired_imp (fun _ _ z => ddF_frT f z) pr⟩, ok, l⟩
theorem ddK_mem {dd : Dd} (h : DdV dd) : ddK dd ∈ keys6 := by cases dd with | put x d => exact h.1 | drop x => exact h
theorem lkd {v : V} : List.lookup ("deeds" : Str) [("own_deeds", v)] = none := by rw [lk_cons, if_neg (by decide +kernel)]; rfl
theorem dp_rows {K : PySem.W.Frag} {N : Addr → Prop} {H : Hp} {ws : List V} {dds : List Dd} (pr : Paired (DdF N H) ws dds) : DpXs K H ws (dds.map ddD) := by
  obtain ⟨fp, t, _⟩ := rows_tr pr
  exact t.dp
section
variable {g : Wd} {fa : Addr} {fd : FuncData} {CP CR CN c P : Addr} {TS : List (Addr × Str)}
theorem sc_l_read_right : FnScope ["_law_patch_here", "_law_deeds_here", "_law_odd", "_law_used", "_law_some", "_law_n", "_law_deed", "_law_one"] ["_law_patch_here", "_law_deeds_here"] (defScope s_l_read_right) := ⟨rfl, rfl, rfl, by decide +kernel, rfl, by decide +kernel, by decide +kernel⟩
def sp_readr (CP : Addr) (TS : List (Addr × Str)) : Sp := S2 fun p v H Q _ => ∃ N dds a vs M, PatF CP N H p dds ∧ v = .ref a ∧ H a = some (.lst vs) ∧ Paired (DdF M H) vs dds ∧ Tabs TS H ∧ ∀ G, FrT [] H G → Tabs TS G → Q (.bl true) G
theorem ok_readr (F : DfC g.K "_law_read_right" "_law_read_right" s_l_read_right fa fd c) (T : Txt g) (SM : SmB g.base) (CL_Patch : Cls g.K CP) (TOLD : Told g 15 "_law_told" (TTn CN)) (L_l_read_right : LamT g TS c P "_law_read_right")
    (M_Patch__len : Km g CP "__len__" 1 ["self"] [] (sp_plen CP)) (M_Patch__bool : Km g CP "__bool__" 1 ["self"] [] (sp_pbool CP)) (M_Patch_deeds : Km g CP "deeds" 13 ["self"] [] (sp_pdeeds CP)) (M_Patch__getitem : Km g CP "__getitem__" 13 ["self", "at"] [] (sp_pget CP CN)) (FI_Patch__getitem : FnAtC g.K CP "__getitem__")
    (M_Patch__contains : Km g CP "__contains__" 1 ["self", "x"] [] (sp_phas CP g.K)) : FnG g 17 fa fd ["_law_patch_here", "_law_deeds_here"] (sp_readr CP TS) := by
  refine F.ok sc_l_read_right (fun vs H Q E h => S2.len h) (fun A outer s H vs Q E hr h => ?_)
  obtain ⟨_, _, rfl, N, dds, a, vs, M, hP, rfl, ha, pr, tb, q⟩ := h
  obtain ⟨⟨y, dy, row, ws, rfl, hy, hw, prp⟩, okd, ln⟩ := id hP
  have lv := paired_len pr
  have lw := paired_len prp
  have okT := rows_ok okd ln
  have fT := fits okT.ok (by have := okT.dep; omega)
  refine ⟨_, (pss_mid (ps_if (PW.pt (pw_or (pt_cmpR (o_ne (K := g.K) hr) (e_lenOwn M_Patch__len (hr.mono (by first | decide | omega)) tkD T.b_len (pa_cons (pv 0) pa_nil)) (pe_callB (c_len (K := g.K)) (by rfl) T.b_len bb_len (pa_cons (pv 1) pa_nil)) (nomark _)) (pw_or (pt_cmpR (o_ne (K := g.K) hr) (e_boolOwn M_Patch__bool (hr.mono (by first | decide | omega)) tkD T.b_bool (pa_cons (pv 0) pa_nil)) (pe_cmpR (op_neE (K := g.K) hr) (pv 1) (pe_lst pa_nil) (nomark _)) (nomark _)) (pw_or1 (pt_cmpR (o_ne (K := g.K) hr) (pe_callB (c_reprV (K := g.K) (base := g.base) SM hr) (by rfl) T.b_repr bb_repr (pa_cons (pe_methG0 (pv 0) CL_Patch M_Patch_deeds (hr.mono (by first | decide | omega)) tkD) pa_nil)) (pe_callB (c_reprV (K := g.K) (base := g.base) SM hr) (by rfl) T.b_repr bb_repr (pa_cons (pe_callTy call_tuple_of (by rfl) T.b_tuple bb_tuple (pa_cons (pv 1) pa_nil)) pa_nil)) (nomark _)))))) (pss_one (ps_ret pe_bl)) pss_nil)
      (pss_mid (ps_if (pt_cmpR (o_ne (K := g.K) hr) (pe_lc (own := [("_law_n", 5)]) rfl sc_l_read_right.nd (pi_range1 rfl T.b_range (pa_cons (pe_callB (c_len (K := g.K)) (by rfl) T.b_len bb_len (pa_cons (pv 1) pa_nil)) pa_nil)) (blkOk_by (own := [("_law_n", 5)]) (N := ["_law_patch_here", "_law_deeds_here", "_law_odd", "_law_used", "_law_some", "_law_n", "_law_deed", "_law_one"]) (sc := defScope s_l_read_right) (by decide +kernel)) (fun _ _ _ _ _ => (pg_name (i := 5) sc_l_read_right.nd rfl (.inl rfl))) (fun _ _ _ _ _ => (pts_one (pt_cmpR (o_ne (K := g.K) (Rm.mk hr.room hr.gd)) (pe_callB (c_reprV (K := g.K) (base := g.base) SM (Rm.mk hr.room hr.gd)) (by rfl) T.b_repr bb_repr (pa_cons (e_ixOwn M_Patch__getitem FI_Patch__getitem (Rm.mono (Rm.mk hr.room hr.gd) (by first | decide | omega)) L2.takes0 (pv 0) (pv 5)) pa_nil)) (pe_callB (c_reprV (K := g.K) (base := g.base) SM (Rm.mk hr.room hr.gd)) (by rfl) T.b_repr bb_repr (pa_cons (pe_ix (o_ix (K := g.K)) (pv 1) (pv 5) (fun _ _ => rfl)) pa_nil)) (nomark _)))) (fun _ _ _ _ _ => (pv 5))) (pe_lst pa_nil) (nomark _)) (pss_one (ps_ret pe_bl)) pss_nil)
      (pss_mid (ps_for psD rfl (i_tup (K := g.K) (pe_tup (pa_cons (pe_callB (c_len (K := g.K)) (by rfl) T.b_len bb_len (pa_cons (pv 1) pa_nil)) (pa_cons (pe_op op_sub pe_int pe_int) (pa_cons pe_non (pa_cons pe_bl (pa_cons pe_str (pa_cons (pe_tup (pa_cons pe_int pa_nil)) pa_nil)))))))) (pg_name (i := 2) sc_l_read_right.nd rfl (.inr rfl)) (pss_one (ps_if (pt_cmpR (o_ne (K := g.K) hr) (pe_callB (c_reprV (K := g.K) (base := g.base) SM hr) (by rfl) T.b_repr bb_repr (pa_cons (pe_lam TOLD L_l_read_right (hr.mono (by first | decide | omega)) (by decide +kernel) (fun _ _ _ _ _ _ _ hr => (e_ixOwn M_Patch__getitem FI_Patch__getitem (Rm.mono (Rm.mk hr.room hr.gd) (by first | decide | omega)) takesL (pv 0) (pv 2)))) pa_nil)) (pe_callB (c_reprV (K := g.K) (base := g.base) SM hr) (by rfl) T.b_repr bb_repr (pa_cons (pe_tup (pa_cons pe_str (pa_cons (pv 2) pa_nil))) pa_nil)) (nomark _)) (pss_one (ps_ret pe_bl)) pss_nil)))
      (pss_mid (ps_set (i := 3) sc_l_read_right.nd rfl (Or.inr rfl) (pe_lc (own := [("_law_deed", 6)]) (tt := tYes) rfl sc_l_read_right.nd (i_list (K := g.K) (pv 1)) (blkOk_by (own := [("_law_deed", 6)]) (N := ["_law_patch_here", "_law_deeds_here", "_law_odd", "_law_used", "_law_some", "_law_n", "_law_deed", "_law_one"]) (sc := defScope s_l_read_right) (by decide +kernel)) (fun _ _ _ _ _ => (pg_name (i := 6) sc_l_read_right.nd rfl (.inl rfl))) (fun _ _ _ _ _ => pts_nil) (fun _ _ _ _ _ => (pe_ix (o_ix (K := g.K)) (pv 6) pe_int (fun _ _ => rfl)))))
      (pss_mid (ps_set (i := 4) sc_l_read_right.nd rfl (Or.inl rfl) (pe_lst (pa_cons pe_str (pa_cons pe_str (pa_cons pe_str (pa_cons pe_str (pa_cons pe_str (pa_cons pe_str (pa_cons pe_str (pa_cons pe_str (pa_cons pe_non (pa_cons pe_int (pa_cons (pe_lst (pa_cons pe_str pa_nil)) pa_nil)))))))))))))
      (pss_one (ps_ret (pe_cmpR (o_eq (K := g.K) hr) (pe_lc (own := [("_law_one", 7)]) rfl sc_l_read_right.nd (i_list (K := g.K) (pv 4)) (blkOk_by (own := [("_law_one", 7)]) (N := ["_law_patch_here", "_law_deeds_here", "_law_odd", "_law_used", "_law_some", "_law_n", "_law_deed", "_law_one"]) (sc := defScope s_l_read_right) (by decide +kernel)) (fun _ _ _ _ _ => (pg_name (i := 7) sc_l_read_right.nd rfl (.inl rfl))) (fun _ _ _ _ _ => (pts_one (pt_cmpR (o_ne (K := g.K) (Rm.mk hr.room hr.gd)) (pe_cmp (c_inOwn M_Patch__contains (Rm.mono (Rm.mk hr.room hr.gd) (by first | decide | omega)) L2.takes0 (pv 7) (pv 0)) (by rfl)) (pe_cmpR (op_inD (K := g.K) (Rm.mk hr.room hr.gd)) (pv 7) (pv 3) (by rfl)) (nomark _)))) (fun _ _ _ _ _ => (pv 7))) (pe_lst pa_nil) (nomark _))))))))), ?_⟩
  refine mid_one [some (.ref y), some (.ref a), none, none, none, none, none, none] (fun G => Same H G) ?_ ?_
  · simp only [tLenOwn, tRet, tRetN, tSeq, C8.tCut, tNext, tAsg, gName, gNil, gCons, gTup, gFld, tIfS, tIf, tAndV, tOrV, tNotV, tAnd, tOr, tNot, tB, tTest, tOp, tUn, tCB, tCons, tNil, tVar, tC, tChain, tDrop, RS.tCallG, RS.tMethG, tMakeG, RS.tCallK, RS.tMakeK, tEqOwn, rI, rI0, rU, add_ii, add_ss, add_rr, mul_ii, mul_si, mul_ri, RS.eq_ii, RS.eq_ss, eq_bb, eq_nn, eq_sn, eq_ns, eq_in, eq_ni, eq_bn, eq_nb, eq_is, eq_si, eq_rr, ne_ii, ne_ss, ne_bb, ne_nn, ne_sn, ne_ns, ne_in, ne_ni, ne_is, ne_si, ne_rr, in_ss, in_r, nin_ss, nin_r, len_s, len_r, RS.ix_s, RS.ix_r, sl_s, sl_r, is_eq, tyN_n, tyN_b, tyN_i, tyN_s, tru_b, tru_i, tru_n, tSl, tPart, tNoPart, tPar, tPar3, tFmtZ, tFmt, tJs, tDGet, sDPut, sFld, tFld, tTup, tLst, tNever, isB,
  L2.start, List.map_cons, List.map_nil, List.length_cons, List.length_nil, Nat.reduceAdd, Nat.reduceSub, Nat.sub_self, List.replicate_zero, List.replicate_succ, List.append_nil, List.cons_append, List.nil_append, List.getElem?_cons_zero, List.getElem?_cons_succ, List.set_cons_zero, List.set_cons_succ, Option.some.injEq, exists_eq_left, exists_eq_left', exists_and_left, V.bl.injEq, V.int.injEq, V.str.injEq, V.ref.injEq, beq_self_eq_true, Bool.true_or, Bool.or_true, Bool.false_or, Bool.or_false, Bool.and_false, Bool.false_and, Bool.true_and, Bool.and_true, Bool.not_true, Bool.not_false, Bool.false_eq_true, if_true, if_false, ite_true, ite_false, true_and, and_true, and_assoc, String.reduceBEq, String.reduceEq, reduceIte, Bool.and_self, reduceCtorEq, false_and, and_false, exists_false, or_false, false_or, exists_const, iEnumS, iStr, iList, iTup, iRng1, iEnum, tFor_eq, tLc_eq, List.cons.injEq, wipe, not_true_eq_false, not_false_eq_true, upd_same, HO.ins.injEq, HO.tup.injEq, HO.lst.injEq, ofS_eq, lk_nil, lk_cons, pu_nil, pu_cons, sizeLine_eq, Nat.reduceLT, Nat.reduceLeDiff, Nat.reduceEqDiff, Nat.le_refl, decide_true, decide_false, tPr, dget_us, dput_us, vv_nil, vv_cons, RS.pk_nil, pk_one, RS.pk_cons, inr_eq, tDisp, tPairs, tBoolOwn, rBoolOwn, tBM, rAppend, ty_list, ty_str, rEqOwn, iEnumT, RS.tCallS, tM1, tDc_eq, tLock, tLockE, iKeys, tListEnum, rUpdate, tMkX0, tMkX1, tXfv, gSub, rSetL, List.getD_cons_zero, List.getD_cons_succ, tBreak, tCMethS, ClX.tCVal, tXfa, tIxOwn, tInOwn, tPropG, tMethK, tMethP, tListGen, tDGet2, tDPop2, rNeD0, intA_i, intA_b, tRevL, sFldAug, tPm0, tPm1, tDIn, tDNotIn, tDNewK, RS.tMethS, tForK, tKM, tKC, tLcK, tKM2, tKC2, tMethStar, tKCK2, tLk, tAug, ipI, tDig, tLcX, tKMX, tKCX]
    refine ⟨dy, _, hy, _, rfl, N, dds, hP, _, rfl, by omega, by omega, .inl ⟨vs, .inl (SqL.of ha), ?_⟩⟩
    rw [RS.ne_ii]
    refine ⟨_, rfl, ?_⟩
    rw [if_neg (by simp [lv])]
    refine ⟨dy, _, hy, _, rfl, N, dds, hP, _, rfl, fun p1 hp1 => ?_⟩
    have s1 := same_upd (o := HO.lst []) hp1
    refine ⟨a, p1, vs, [], rfl, rfl, SqL.of (s1 _ _ ha), SqL.of upd_same, .inr rfl, ?_⟩
    generalize upd H p1 (.lst []) = H1 at s1 ⊢
    rw [RS.ne_bb]
    refine ⟨_, rfl, ?_⟩
    rw [if_neg (by
      have e : decide (dds ≠ []) = decide (vs.length ≠ ([] : List V).length) := by rw [lv]; cases dds <;> simp
      rw [e]; simp)]
    refine ⟨dy, _, s1 _ _ hy, lkd, _, rfl, N, dds, hP.same s1, fun r ws2 G sG er pr3 => ?_⟩
    refine ⟨_, _, rfl, .tup (SqT.of er) (dp_rows pr3), fT.1, fT.2.1, fT.2.2, vs, .inl ⟨SqL.of (sG _ _ (s1 _ _ ha)), fun l hl => ?_⟩⟩
    have s2 := s1.trans (sG.trans (same_upd (o := HO.tup vs) hl))
    refine ⟨_, _, rfl, .tup (SqT.of upd_same) (dp_rows (paired_imp (fun _ _ z => DdF.same s2 z) pr)), fT.1, fT.2.1, fT.2.2, ?_⟩
    dsimp only
    rw [RS.ne_ss]
    refine ⟨_, rfl, ?_⟩
    rw [if_neg (by simp)]
    exact s2
  intro G1 s1
  refine mid_one [some (.ref y), some (.ref a), none, none, none, none, none, none] (fun G => Same H G) ?_ ?_
  · walk_at "sx"
    refine .inl ⟨vs, .inl (SqL.of (s1 _ _ ha)), by omega, by omega, ?_⟩
    rw [Int.toNat_natCast]
    refine lc_inv vs.length (fun L i acc X => Same G1 X ∧ acc = []) (by rw [sizeLine_eq]; omega) (fun L hL => ⟨same_upd hL, rfl⟩) (fun L j acc X hL lt P => lt) (fun L acc X hL P => Nat.le_refl _) (fun L j acc X z X2 K K0 hL lt la P eL yl k k0 => ?_) (fun L acc X hL P eL => ?_)
    · obtain ⟨sX, rfl⟩ := P
      obtain ⟨rfl, rfl⟩ := yl
      have sH := s1.trans sX
      refine ⟨rfl, ?_⟩
      simp only [tIxOwn, tRet, tRetN, tSeq, C8.tCut, tNext, tAsg, gName, gNil, gCons, gTup, gFld, tIfS, tIf, tAndV, tOrV, tNotV, tAnd, tOr, tNot, tB, tTest, tOp, tUn, tCB, tCons, tNil, tVar, tC, tChain, tDrop, RS.tCallG, RS.tMethG, tMakeG, RS.tCallK, RS.tMakeK, tEqOwn, rI, rI0, rU, add_ii, add_ss, add_rr, mul_ii, mul_si, mul_ri, RS.eq_ii, RS.eq_ss, eq_bb, eq_nn, eq_sn, eq_ns, eq_in, eq_ni, eq_bn, eq_nb, eq_is, eq_si, eq_rr, ne_ii, ne_ss, ne_bb, ne_nn, ne_sn, ne_ns, ne_in, ne_ni, ne_is, ne_si, ne_rr, in_ss, in_r, nin_ss, nin_r, len_s, len_r, RS.ix_s, RS.ix_r, sl_s, sl_r, is_eq, tyN_n, tyN_b, tyN_i, tyN_s, tru_b, tru_i, tru_n, tSl, tPart, tNoPart, tPar, tPar3, tFmtZ, tFmt, tJs, tDGet, sDPut, sFld, tFld, tTup, tLst, tNever, isB,
  L2.start, List.map_cons, List.map_nil, List.length_cons, List.length_nil, Nat.reduceAdd, Nat.reduceSub, Nat.sub_self, List.replicate_zero, List.replicate_succ, List.append_nil, List.cons_append, List.nil_append, List.getElem?_cons_zero, List.getElem?_cons_succ, List.set_cons_zero, List.set_cons_succ, Option.some.injEq, exists_eq_left, exists_eq_left', exists_and_left, V.bl.injEq, V.int.injEq, V.str.injEq, V.ref.injEq, beq_self_eq_true, Bool.true_or, Bool.or_true, Bool.false_or, Bool.or_false, Bool.and_false, Bool.false_and, Bool.true_and, Bool.and_true, Bool.not_true, Bool.not_false, Bool.false_eq_true, if_true, if_false, ite_true, ite_false, true_and, and_true, and_assoc, String.reduceBEq, String.reduceEq, reduceIte, Bool.and_self, reduceCtorEq, false_and, and_false, exists_false, or_false, false_or, exists_const, iEnumS, iStr, iList, iTup, iRng1, iEnum, tFor_eq, tLc_eq, List.cons.injEq, wipe, not_true_eq_false, not_false_eq_true, upd_same, HO.ins.injEq, HO.tup.injEq, HO.lst.injEq, ofS_eq, lk_nil, lk_cons, pu_nil, pu_cons, sizeLine_eq, Nat.reduceLT, Nat.reduceLeDiff, Nat.reduceEqDiff, Nat.le_refl, decide_true, decide_false, tPr, dget_us, dput_us, vv_nil, vv_cons, RS.pk_nil, pk_one, RS.pk_cons, inr_eq, tDisp, tPairs, tBoolOwn, rBoolOwn, tBM, rAppend, ty_list, ty_str, rEqOwn, iEnumT, RS.tCallS, tM1, tDc_eq, tLock, tLockE, iKeys, tListEnum, rUpdate, tMkX0, tMkX1, tXfv, gSub, rSetL, List.getD_cons_zero, List.getD_cons_succ, tBreak, tCMethS, ClX.tCVal, tXfa, tIxOwn, tInOwn, tPropG, tMethK, tMethP, tListGen, tDGet2, tDPop2, rNeD0, intA_i, intA_b, tRevL, sFldAug, tPm0, tPm1, tDIn, tDNotIn, tDNewK, RS.tMethS, tForK, tKM, tKC, tLcK, tKM2, tKC2, tMethStar, tKCK2, tLk, tAug, ipI, tDig, tLcX, tKMX, tKCX]
      have e2 := List.getElem?_eq_getElem (l := dds) (by omega : j < dds.length)
      have e3 := List.getElem?_eq_getElem (l := vs) (by omega : j < vs.length)
      generalize dds[j] = dd at e2
      have okx := okd dd (List.mem_of_getElem? e2)
      have fx := fits okx.vok.ok (by have := okx.vok.dep; omega)
      obtain ⟨dd', e4, hdd⟩ := pairedO pr e3
      rw [e2] at e4
      cases e4
      refine ⟨dy, _, sH _ _ hy, _, _, rfl, N, dds, hP.same sH, .inl ⟨j, by simp, dd, e2, fun v' G sG dG => ?_⟩⟩
      obtain ⟨fp1, tr1, _⟩ := dG.tr
      have sHG := sH.trans sG
      obtain ⟨fp2, tr2, _⟩ := (hdd.same sHG).tr
      refine ⟨_, _, rfl, tr1.dp, fx.1, fx.2.1, fx.2.2, vs, .inl (SqL.of (sHG _ _ ha)), vs[j], by rw [show (0 : Int) + (j : Nat) = (j : Nat) from by omega]; exact atI_nat2 e3, _, _, rfl, tr2.dp, fx.1, fx.2.1, fx.2.2, ?_⟩
      dsimp only
      rw [RS.ne_ss]
      refine ⟨_, rfl, ?_⟩
      rw [if_neg (by simp)]
      exact k0 G (sG _ _ eL) ⟨sX.trans sG, rfl⟩
    · obtain ⟨sX, rfl⟩ := P
      intro p hp
      have s2 := same_upd (o := HO.lst []) hp
      rw [RS.ne_rr]
      refine ⟨_, _, .lst (SqL.of (s2 _ _ eL)) .nil, .lst (SqL.of upd_same) .nil, rfl, rfl, _, rfl, ?_⟩
      rw [if_neg (by decide)]
      exact s1.trans (sX.trans s2)
  intro G2 s2
  refine mid_at (fun σ G => ∃ z, σ = [some (.ref y), some (.ref a), z, none, none, none, none, none] ∧ FrT [] H G ∧ Tabs TS G) ?_ ?_
  · walk_at "sx"
    refine .inl ⟨vs, .inl (SqL.of (s2 _ _ ha)), fun p1 hp1 p2 hp2 => ⟨⟨_, sq_new⟩, ?_⟩⟩
    have s3 := same_upd (o := HO.tup [.int 0]) hp1
    have e1 : upd G2 p1 (.tup [.int 0]) p1 = some (.tup [.int 0]) := upd_same
    generalize upd G2 p1 (.tup [.int 0]) = J1 at s3 e1 hp2 ⊢
    have s4 := same_upd (o := HO.tup [V.int ↑vs.length, V.int (0 - 1), V.non, V.bl true, V.str (Str.ofString "0"), V.ref p1]) hp2
    have e2 : upd J1 p2 (.tup [V.int ↑vs.length, V.int (0 - 1), V.non, V.bl true, V.str (Str.ofString "0"), V.ref p1]) p2 = some (.tup [V.int ↑vs.length, V.int (0 - 1), V.non, V.bl true, V.str (Str.ofString "0"), V.ref p1]) := upd_same
    have e1 := s4 _ _ e1
    have sH := s2.trans (s3.trans s4)
    generalize upd J1 p2 (.tup [V.int ↑vs.length, V.int (0 - 1), V.non, V.bl true, V.str (Str.ofString "0"), V.ref p1]) = J2 at e1 e2 sH ⊢
    have item : ∀ i, i < 6 → ∃ z dz, [V.int ↑vs.length, V.int (0 - 1), V.non, V.bl true, V.str (Str.ofString "0"), V.ref p1][i]? = some z ∧ VOk 1 dz ∧ ∀ X, X p1 = some (.tup [.int 0]) → NotI X dds.length z ∧ DpX g.K X z dz := by
      intro i hi
      match i, hi with
      | 0, _ => exact ⟨_, .int (vs.length : Nat), rfl, vok_int 1 (by omega), fun X _ => ⟨.inr ⟨_, rfl, by omega⟩, .int _⟩⟩
      | 1, _ => exact ⟨_, .int (0 - 1), rfl, vok_int 1 (by omega), fun X _ => ⟨.inr ⟨_, rfl, by omega⟩, .int _⟩⟩
      | 2, _ => exact ⟨_, .none, rfl, vok_none 1, fun X _ => ⟨.inl ⟨_, rfl, by decide⟩, .non⟩⟩
      | 3, _ => exact ⟨_, .bool true, rfl, vok_bool 1 _, fun X _ => ⟨.inl ⟨_, rfl, by decide⟩, .bl _⟩⟩
      | 4, _ => exact ⟨_, .str "0", rfl, ⟨by decide +kernel, Nat.zero_le _⟩, fun X _ => ⟨.inl ⟨_, rfl, by decide⟩, .str _⟩⟩
      | 5, _ => exact ⟨_, .tuple [.int 0], rfl, ⟨by decide +kernel, by decide⟩, fun X hX => ⟨.inl ⟨_, tyN_t hX, by decide⟩, .tup (SqT.of hX) (.cons (.int 0) .nil)⟩⟩
    refine for_by 6 (fun i σ X => (∃ z, σ = [some (.ref y), some (.ref a), z, none, none, none, none, none]) ∧ FrT [] H X ∧ Tabs TS X ∧ X p2 = some (.tup [V.int ↑vs.length, V.int (0 - 1), V.non, V.bl true, V.str (Str.ofString "0"), V.ref p1]) ∧ X p1 = some (.tup [.int 0]))
      ⟨⟨_, rfl⟩, FrT.of sH, RS.Tabs.same tb sH, e2, e1⟩ (fun i σ X lt P => ?_) (fun σ X P => ?_) (fun i σ X z X' lt P yl => ?_) (fun σ X P => ?_)
    · obtain ⟨_, _, _, ep, _⟩ := P
      obtain ⟨z, dz, ez, _⟩ := item i lt
      exact ⟨_, z, SqT.of ep, ez⟩
    · obtain ⟨_, _, _, ep, _⟩ := P
      exact ⟨_, SqT.of ep, Nat.le_refl _⟩
    · obtain ⟨⟨z0, rfl⟩, fX, tX, ep2, ep1⟩ := P
      obtain ⟨rfl, hz⟩ := yl
      obtain ⟨z', dz, ez, vz, kz⟩ := item i lt
      have ez' := hz _ (SqT.of ep2)
      rw [ez] at ez'
      cases ez'
      simp only [tLamG, tRet, tRetN, tSeq, C8.tCut, tNext, tAsg, gName, gNil, gCons, gTup, gFld, tIfS, tIf, tAndV, tOrV, tNotV, tAnd, tOr, tNot, tB, tTest, tOp, tUn, tCB, tCons, tNil, tVar, tC, tChain, tDrop, RS.tCallG, RS.tMethG, tMakeG, RS.tCallK, RS.tMakeK, tEqOwn, rI, rI0, rU, add_ii, add_ss, add_rr, mul_ii, mul_si, mul_ri, RS.eq_ii, RS.eq_ss, eq_bb, eq_nn, eq_sn, eq_ns, eq_in, eq_ni, eq_bn, eq_nb, eq_is, eq_si, eq_rr, ne_ii, ne_ss, ne_bb, ne_nn, ne_sn, ne_ns, ne_in, ne_ni, ne_is, ne_si, ne_rr, in_ss, in_r, nin_ss, nin_r, len_s, len_r, RS.ix_s, RS.ix_r, sl_s, sl_r, is_eq, tyN_n, tyN_b, tyN_i, tyN_s, tru_b, tru_i, tru_n, tSl, tPart, tNoPart, tPar, tPar3, tFmtZ, tFmt, tJs, tDGet, sDPut, sFld, tFld, tTup, tLst, tNever, isB,
  L2.start, List.map_cons, List.map_nil, List.length_cons, List.length_nil, Nat.reduceAdd, Nat.reduceSub, Nat.sub_self, List.replicate_zero, List.replicate_succ, List.append_nil, List.cons_append, List.nil_append, List.getElem?_cons_zero, List.getElem?_cons_succ, List.set_cons_zero, List.set_cons_succ, Option.some.injEq, exists_eq_left, exists_eq_left', exists_and_left, V.bl.injEq, V.int.injEq, V.str.injEq, V.ref.injEq, beq_self_eq_true, Bool.true_or, Bool.or_true, Bool.false_or, Bool.or_false, Bool.and_false, Bool.false_and, Bool.true_and, Bool.and_true, Bool.not_true, Bool.not_false, Bool.false_eq_true, if_true, if_false, ite_true, ite_false, true_and, and_true, and_assoc, String.reduceBEq, String.reduceEq, reduceIte, Bool.and_self, reduceCtorEq, false_and, and_false, exists_false, or_false, false_or, exists_const, iEnumS, iStr, iList, iTup, iRng1, iEnum, tFor_eq, tLc_eq, List.cons.injEq, wipe, not_true_eq_false, not_false_eq_true, upd_same, HO.ins.injEq, HO.tup.injEq, HO.lst.injEq, ofS_eq, lk_nil, lk_cons, pu_nil, pu_cons, sizeLine_eq, Nat.reduceLT, Nat.reduceLeDiff, Nat.reduceEqDiff, Nat.le_refl, decide_true, decide_false, tPr, dget_us, dput_us, vv_nil, vv_cons, RS.pk_nil, pk_one, RS.pk_cons, inr_eq, tDisp, tPairs, tBoolOwn, rBoolOwn, tBM, rAppend, ty_list, ty_str, rEqOwn, iEnumT, RS.tCallS, tM1, tDc_eq, tLock, tLockE, iKeys, tListEnum, rUpdate, tMkX0, tMkX1, tXfv, gSub, rSetL, List.getD_cons_zero, List.getD_cons_succ, tBreak, tCMethS, ClX.tCVal, tXfa, tIxOwn, tInOwn, tPropG, tMethK, tMethP, tListGen, tDGet2, tDPop2, rNeD0, intA_i, intA_b, tRevL, sFldAug, tPm0, tPm1, tDIn, tDNotIn, tDNewK, RS.tMethS, tForK, tKM, tKC, tLcK, tKM2, tKC2, tMethStar, tKCK2, tLk, tAug, ipI, tDig, tLcX, tKMX, tKCX]
      refine ⟨tX, fun c' H1 eN T1 hc => ?_⟩
      have f1 := fX.trans (FrT.ofN eN)
      have g2 := FrT.ofN (fp := []) eN p2 _ (by simp) (fun ps z => by cases z) ep2
      have g1 := FrT.ofN (fp := []) eN p1 _ (by simp) (fun ps z => by cases z) ep1
      intro H0 E' K' s0 hE
      have P0 := (hP.frT f1).same s0
      refine ⟨dy, _, s0 _ _ (f1 y _ (by simp) (fun ps z => by cases z) hy), _, _, rfl, N, dds, P0, .inr ⟨(kz _ (s0 _ _ g1)).1, fun dd hdd => hE _ _ _ ⟨rfl, dd, z, rfl, .inl upd_same, fun p H'' sH2 ep => ?_⟩⟩⟩
      have sT := s0.trans ((same_upd hdd).trans sH2)
      have k2 := kz _ (sT _ _ g1)
      have vT : VOk 2 (.tuple [.str "number", dz]) := vok_tuple (fun e he => by
        simp only [List.mem_cons, List.not_mem_nil, or_false] at he
        rcases he with rfl | rfl
        · exact ⟨by decide +kernel, Nat.zero_le _⟩
        · exact vz) (by simp)
      have ft := fits vT.ok (by have := vT.dep; omega)
      refine ⟨_, _, rfl, .tup (SqT.of ep) (.cons (.str _) (.cons k2.2 .nil)), ft.1, ft.2.1, ft.2.2, fun p3 hp3 => ?_⟩
      have s5 := same_upd (o := HO.tup [.str "number", z]) hp3
      have k3 := kz _ (s5 _ _ (sT _ _ g1))
      refine ⟨_, _, rfl, .tup (SqT.of upd_same) (.cons (.str _) (.cons k3.2 .nil)), ft.1, ft.2.1, ft.2.2, ?_⟩
      dsimp only
      rw [RS.ne_ss]
      refine ⟨_, rfl, ?_⟩
      rw [if_neg (by simp)]
      have sV := sT.trans s5
      exact ⟨⟨_, rfl⟩, f1.trans (FrT.of sV), RS.Tabs.same T1 sV, sV _ _ g2, sV _ _ g1⟩
    · obtain ⟨⟨z0, rfl⟩, fX, tX, ep2, ep1⟩ := P
      exact ⟨_, rfl, fX, tX⟩
  rintro _ G3 ⟨z, rfl, f3, t3⟩
  refine mid_at (fun σ G => ∃ L, σ = [some (.ref y), some (.ref a), z, some (.ref L), none, none, none, none] ∧ FrT [] H G ∧ Tabs TS G ∧ G L = some (.lst ((dds.map ddK).map V.str))) ?_ ?_
  · walk_at "sx"
    have ha3 := f3 _ _ (by simp) (fun ps z => by cases z) ha
    have pr3 := paired_imp (fun _ _ z => ddF_frT f3 z) pr
    refine ⟨⟨_, SqL.of ha3⟩, ?_⟩
    refine lc_inv vs.length (fun L i acc X => Same G3 X ∧ acc = ((dds.take i).map ddK).map V.str) (by rw [sizeLine_eq]; omega) (fun L hL => ⟨same_upd hL, rfl⟩) (fun L j acc X hL lt P => ⟨_, vs[j], SqL.of (P.1 _ _ ha3), by simp [lt]⟩) (fun L acc X hL P => ⟨_, SqL.of (P.1 _ _ ha3), Nat.le_refl _⟩) (fun L j acc X z X2 K K0 hL lt la P eL yl k k0 => ?_) (fun L acc X hL P eL => ?_)
    · obtain ⟨sX, rfl⟩ := P
      obtain ⟨rfl, hz⟩ := yl
      have hz := hz _ (SqL.of (sX _ _ ha3))
      obtain ⟨dd, e2, hdd⟩ := pairedO pr3 hz
      have hdd := hdd.same sX
      have ht2 : ∃ t us, z = .ref t ∧ X2 t = some (.tup us) ∧ us[1]? = some (.str (ddK dd)) := by
        cases dd with
        | put y d => obtain ⟨t, w, f', rfl, et, _⟩ := hdd; exact ⟨t, _, rfl, et, rfl⟩
        | drop y => obtain ⟨t, rfl, et⟩ := hdd; exact ⟨t, _, rfl, et, rfl⟩
      obtain ⟨t, us, rfl, et, e1⟩ := ht2
      refine ⟨rfl, ?_⟩
      walk_at "sx"
      unfold tYes; dsimp only
      rw [if_pos rfl]
      refine ⟨_, .inr (SqT.of et), _, atI_nat2 (i := 1) e1, ?_⟩
      refine k _ _ eL ⟨fun b o q => ?_, ?_⟩
      · have bL : b ≠ L := fun e => by rw [e, hL] at q; cases q
        rw [upd_ne bL]; exact sX _ _ q
      · rw [List.take_add_one, e2]; simp
    · obtain ⟨sX, rfl⟩ := P
      rw [List.take_of_length_le (by omega)] at eL
      exact ⟨L, rfl, f3.trans (FrT.of sX), RS.Tabs.same t3 sX, eL⟩
  rintro _ G4 ⟨L, rfl, f4, t4, eL⟩
  refine mid_at (fun σ G => ∃ B p3, σ = [some (.ref y), some (.ref a), z, some (.ref L), some (.ref B), none, none, none] ∧ Same G4 G ∧ G p3 = some (.lst [.str "a"]) ∧ G B = some (.lst [.str "a", .str "b", .str "c", .str "a b", .str "\n", .str "k", .str "put", .str "z", .non, .int 5, .ref p3])) ?_ ?_
  · walk_at "sx"
    intro p3 h3 B hB
    have s5 := same_upd (o := HO.lst [V.str "a"]) h3
    have e3 : upd G4 p3 (.lst [.str "a"]) p3 = some (.lst [.str "a"]) := upd_same
    exact ⟨s5.trans (same_upd hB), p3, same_upd hB _ _ e3, by simp⟩
  rintro _ G5 ⟨B, p3, rfl, s5, e3, eB⟩
  have item : ∀ i, i < 11 → ∃ z dz, [V.str "a", .str "b", .str "c", .str "a b", .str "\n", .str "k", .str "put", .str "z", .non, .int 5, .ref p3][i]? = some z ∧ SeqAt.shaped dz = true ∧ ∀ X, X p3 = some (.lst [.str "a"]) → Dp g.K X z dz := by
    intro i hi
    match i, hi with
    | 0, _ => exact ⟨_, _, rfl, by decide +kernel, fun _ _ => .str _⟩
    | 1, _ => exact ⟨_, _, rfl, by decide +kernel, fun _ _ => .str _⟩
    | 2, _ => exact ⟨_, _, rfl, by decide +kernel, fun _ _ => .str _⟩
    | 3, _ => exact ⟨_, _, rfl, by decide +kernel, fun _ _ => .str _⟩
    | 4, _ => exact ⟨_, _, rfl, by decide +kernel, fun _ _ => .str _⟩
    | 5, _ => exact ⟨_, _, rfl, by decide +kernel, fun _ _ => .str _⟩
    | 6, _ => exact ⟨_, _, rfl, by decide +kernel, fun _ _ => .str _⟩
    | 7, _ => exact ⟨_, _, rfl, by decide +kernel, fun _ _ => .str _⟩
    | 8, _ => exact ⟨_, _, rfl, by decide +kernel, fun _ _ => .non⟩
    | 9, _ => exact ⟨_, _, rfl, by decide +kernel, fun _ _ => .int _⟩
    | 10, _ => exact ⟨_, .list [.str "a"], rfl, by decide +kernel, fun X hX => .lst (SqL.of hX) (.cons (.str _) .nil)⟩
  have f5 := f4.trans (FrT.of s5)
  have hP5 := hP.frT f5
  have hy5 := f5 _ _ (by simp) (fun ps z => by cases z) hy
  have eL5 := s5 _ _ eL
  have t5 := RS.Tabs.same t4 s5
  walk_at "sx"
  refine ⟨⟨_, SqL.of eB⟩, ?_⟩
  refine lc_inv 11 (fun L i acc X => Same G5 X ∧ acc = []) (by rw [sizeLine_eq]; omega) (fun L hL => ⟨same_upd hL, rfl⟩) (fun L j acc X hL lt P => ?_) (fun L acc X hL P => ⟨_, SqL.of (P.1 _ _ eB), Nat.le_refl _⟩) (fun W j acc X z X2 K K0 hW lt la P eW yl k k0 => ?_) (fun W acc X hW P eW => ?_)
  · obtain ⟨z, dz, ez, _⟩ := item j lt
    exact ⟨_, z, SqL.of (P.1 _ _ eB), ez⟩
  · obtain ⟨sX, rfl⟩ := P
    obtain ⟨rfl, hz⟩ := yl
    obtain ⟨z', dz, ez, sz, kz⟩ := item j lt
    have ez' := hz _ (SqL.of (sX _ _ eB))
    rw [ez] at ez'
    cases ez'
    refine ⟨rfl, ?_⟩
    simp only [tInOwn, tRet, tRetN, tSeq, C8.tCut, tNext, tAsg, gName, gNil, gCons, gTup, gFld, tIfS, tIf, tAndV, tOrV, tNotV, tAnd, tOr, tNot, tB, tTest, tOp, tUn, tCB, tCons, tNil, tVar, tC, tChain, tDrop, RS.tCallG, RS.tMethG, tMakeG, RS.tCallK, RS.tMakeK, tEqOwn, rI, rI0, rU, add_ii, add_ss, add_rr, mul_ii, mul_si, mul_ri, RS.eq_ii, RS.eq_ss, eq_bb, eq_nn, eq_sn, eq_ns, eq_in, eq_ni, eq_bn, eq_nb, eq_is, eq_si, eq_rr, ne_ii, ne_ss, ne_bb, ne_nn, ne_sn, ne_ns, ne_in, ne_ni, ne_is, ne_si, ne_rr, in_ss, in_r, nin_ss, nin_r, len_s, len_r, RS.ix_s, RS.ix_r, sl_s, sl_r, is_eq, tyN_n, tyN_b, tyN_i, tyN_s, tru_b, tru_i, tru_n, tSl, tPart, tNoPart, tPar, tPar3, tFmtZ, tFmt, tJs, tDGet, sDPut, sFld, tFld, tTup, tLst, tNever, isB,
  L2.start, List.map_cons, List.map_nil, List.length_cons, List.length_nil, Nat.reduceAdd, Nat.reduceSub, Nat.sub_self, List.replicate_zero, List.replicate_succ, List.append_nil, List.cons_append, List.nil_append, List.getElem?_cons_zero, List.getElem?_cons_succ, List.set_cons_zero, List.set_cons_succ, Option.some.injEq, exists_eq_left, exists_eq_left', exists_and_left, V.bl.injEq, V.int.injEq, V.str.injEq, V.ref.injEq, beq_self_eq_true, Bool.true_or, Bool.or_true, Bool.false_or, Bool.or_false, Bool.and_false, Bool.false_and, Bool.true_and, Bool.and_true, Bool.not_true, Bool.not_false, Bool.false_eq_true, if_true, if_false, ite_true, ite_false, true_and, and_true, and_assoc, String.reduceBEq, String.reduceEq, reduceIte, Bool.and_self, reduceCtorEq, false_and, and_false, exists_false, or_false, false_or, exists_const, iEnumS, iStr, iList, iTup, iRng1, iEnum, tFor_eq, tLc_eq, List.cons.injEq, wipe, not_true_eq_false, not_false_eq_true, upd_same, HO.ins.injEq, HO.tup.injEq, HO.lst.injEq, ofS_eq, lk_nil, lk_cons, pu_nil, pu_cons, sizeLine_eq, Nat.reduceLT, Nat.reduceLeDiff, Nat.reduceEqDiff, Nat.le_refl, decide_true, decide_false, tPr, dget_us, dput_us, vv_nil, vv_cons, RS.pk_nil, pk_one, RS.pk_cons, inr_eq, tDisp, tPairs, tBoolOwn, rBoolOwn, tBM, rAppend, ty_list, ty_str, rEqOwn, iEnumT, RS.tCallS, tM1, tDc_eq, tLock, tLockE, iKeys, tListEnum, rUpdate, tMkX0, tMkX1, tXfv, gSub, rSetL, List.getD_cons_zero, List.getD_cons_succ, tBreak, tCMethS, ClX.tCVal, tXfa, tIxOwn, tInOwn, tPropG, tMethK, tMethP, tListGen, tDGet2, tDPop2, rNeD0, intA_i, intA_b, tRevL, sFldAug, tPm0, tPm1, tDIn, tDNotIn, tDNewK, RS.tMethS, tForK, tKM, tKC, tLcK, tKM2, tKC2, tMethStar, tKCK2, tLk, tAug, ipI, tDig, tLcX, tKMX, tKCX]
    refine ⟨dy, _, sX _ _ hy5, _, _, rfl, N, dds, dz, hP5.same sX, fun Y sY => kz Y (sY _ _ (sX _ _ e3)), sz, fun Y sY => ⟨_, rfl, ?_⟩⟩
    refine ⟨L, dds.map ddK, dz, rfl, SqL.of (sY _ _ (sX _ _ eL5)), kz Y (sY _ _ (sX _ _ e3)), sz, fun x hx => ?_, ?_⟩
    · obtain ⟨dd, m, rfl⟩ := List.mem_map.mp hx
      exact key_shaped (ddK_mem (okd dd m))
    dsimp only
    rw [RS.ne_bb]
    refine ⟨_, rfl, ?_⟩
    rw [if_neg (by simp)]
    exact k0 Y (sY _ _ eW) ⟨sX.trans sY, rfl⟩
  · obtain ⟨sX, rfl⟩ := P
    intro p hp
    have s6 := same_upd (o := HO.lst []) hp
    rw [RS.eq_rr]
    exact ⟨_, _, .lst (SqL.of (s6 _ _ eW)) .nil, .lst (SqL.of upd_same) .nil, rfl, rfl, q _ (f5.trans (FrT.of (sX.trans s6))) (RS.Tabs.same t5 (sX.trans s6))⟩
end
theorem trD_frT {H G : Hp} {kvs : List (Key × V)} {d : List (PyData × PyData)} {fp : List Addr} (t : TrD H kvs d fp) (f : FrT [] H G) : TrD G kvs d fp :=
  t.keep (S := fun c => ∃ ps, H c = some (.tbl ps)) (fun c ⟨ps, z⟩ xs q => by rw [z] at q; cases q) (fun c o n e => f c o (by simp) (fun ps z => n ⟨ps, by rw [e, z]⟩) e) (fun c hc ⟨ps, z⟩ => by rcases t.there c hc with ⟨_, e⟩ | ⟨_, e⟩ <;> (rw [z] at e; cases e))
theorem prs_dpx {K : PySem.W.Frag} {H G : Hp} {r : Addr} : ∀ {ps : List Addr} {kvs : List (Key × V)} {D : List (PyData × PyData)} {fr : List Addr}, Paired (fun p kv => G p = some (.lst [kV kv.1, kv.2]) ∧ H p = none ∧ p ≠ r) ps kvs → TrD G kvs D fr →
    DpXs K G (ps.map V.ref) (D.map fun p => PyData.list [p.1, p.2])
  | _, _, _, _, .nil, .nil => .nil
  | _, _, _, _, .cons a b, .cons h hs => .cons (.lst (SqL.of a.1) (.cons (.str _) (.cons h.dp .nil))) (prs_dpx b hs)
/-- the pairs of a mapping, as data -/
def prsD (D : List (PyData × PyData)) : PyData := .list (D.map fun p => PyData.list [p.1, p.2])
theorem prsAt_dpx {K : PySem.W.Frag} {H G Y : Hp} {r : Addr} {kvs : List (Key × V)} {D : List (PyData × PyData)} {fr : List Addr} (P : PrsAt H G r kvs) (t : TrD G kvs D fr) (f : FrT [] G Y) : DpX K Y (.ref r) (prsD D) := by
  obtain ⟨⟨ps, e, pr⟩, _⟩ := P
  exact .lst (SqL.of (f _ _ (by simp) (fun ps z => by cases z) e)) (prs_dpx (H := H) (r := r) (paired_imp (fun _ _ z => ⟨f _ _ (by simp) (fun ps z => by cases z) z.1, z.2⟩) pr) (trD_frT t f))
theorem vok_key {n : Nat} {x : Str} (h : x ∈ keys6) : VOk n (.str x) := ⟨(keys6_ok x h).1, Nat.zero_le _⟩
theorem vok_prs {D : List (PyData × PyData)} (h : GD D) : VOk 3 (prsD D) := vok_list (fun d hd => by
  obtain ⟨p, hp, rfl⟩ := List.mem_map.mp hd
  obtain ⟨x, hx, e⟩ := h.key p hp
  refine vok_list (fun d hd => ?_) (by simp)
  simp only [List.mem_cons, List.not_mem_nil, or_false] at hd
  rcases hd with rfl | rfl
  · rw [e]; exact vok_key hx
  · exact h.val p hp) (by have := h.len; rw [List.length_map]; omega)
theorem fit_prs {D : List (PyData × PyData)} (h : GD D) : (prsD D).showable = true ∧ (prsD D).depth ≤ 60 ∧ (prsD D).shown.length ≤ 16777216 := fits (vok_prs h).ok (by have := (vok_prs h).dep; omega)
def Tru : Addr → Prop := fun _ => True
/-- what a turn of the law has drawn -/
structure WS (X : Hp) (l1 l2 : Addr) (m : V) (vs1 vs2 : List V) (d1 d2 : List Dd) (D : List (PyData × PyData)) (fp : List Addr) : Prop where
  h1 : X l1 = some (.lst vs1)
  r1 : Paired (DdF Tru X) vs1 d1
  o1 : ∀ dd ∈ d1, DdV dd
  n1 : d1.length ≤ 8
  h2 : X l2 = some (.lst vs2)
  r2 : Paired (DdF Tru X) vs2 d2
  o2 : ∀ dd ∈ d2, DdV dd
  n2 : d2.length ≤ 4
  m : Tr X m (.dict D) fp
  gd : GD D
theorem WS.frT {X Y : Hp} {l1 l2 : Addr} {m : V} {vs1 vs2 : List V} {d1 d2 : List Dd} {D : List (PyData × PyData)} {fp : List Addr} (h : WS X l1 l2 m vs1 vs2 d1 d2 D fp) (f : FrT [] X Y) : WS Y l1 l2 m vs1 vs2 d1 d2 D fp :=
  ⟨f _ _ (by simp) (fun ps z => by cases z) h.h1, paired_imp (fun _ _ z => ddF_frT f z) h.r1, h.o1, h.n1, f _ _ (by simp) (fun ps z => by cases z) h.h2, paired_imp (fun _ _ z => ddF_frT f z) h.r2, h.o2, h.n2, tr_frT h.m f, h.gd⟩
theorem WS.same {X Y : Hp} {l1 l2 : Addr} {m : V} {vs1 vs2 : List V} {d1 d2 : List Dd} {D : List (PyData × PyData)} {fp : List Addr} (h : WS X l1 l2 m vs1 vs2 d1 d2 D fp) (s : Same X Y) : WS Y l1 l2 m vs1 vs2 d1 d2 D fp := h.frT (FrT.of s)
theorem rows_okL {dds : List Dd} (h : ∀ dd ∈ dds, DdV dd) (l : dds.length ≤ 16) : VOk 3 (.list (dds.map ddD)) := vok_list (fun d hd => by
  obtain ⟨dd, m, rfl⟩ := List.mem_map.mp hd
  exact (h dd m).vok) (by simpa using l)
theorem apDs_app (D : List (PyData × PyData)) (a b : List Dd) : apDs D (a ++ b) = apDs (apDs D a) b := by unfold apDs; rw [List.foldl_append]
section
variable {g : Wd} {fa : Addr} {fd : FuncData} {CP CR CN c P : Addr} {TS : List (Addr × Str)}
theorem sc_l_pairs : FnScope ["_law_mapping_here", "_law_key"] ["_law_mapping_here"] (defScope s_l_pairs) := ⟨rfl, rfl, rfl, by decide +kernel, rfl, by decide +kernel, by decide +kernel⟩
def sp_pairs : Sp := S1 fun m H Q _ => ∃ D fp, Tr H m (.dict D) fp ∧ D.length ≤ 100 ∧ ∀ r kvs fr G, Same H G → PrsAt H G r kvs → TrD G kvs D fr → Q (.ref r) G
theorem ok_pairs (F : Df g.K "_law_pairs" "_law_pairs" s_l_pairs fa fd .none) (T : Txt g) : FnG g 1 fa fd ["_law_mapping_here"] sp_pairs := by
  refine F.ok sc_l_pairs (fun vs H Q E h => S1.len h) (fun cdv A outer s H vs Q E hr h => ?_)
  obtain ⟨_, rfl, D, fp, tr, dl, q⟩ := h
  refine ⟨_, (pss_one (ps_ret (pe_lock (pe_lc (own := [("_law_key", 1)]) (tt := tYes) rfl sc_l_pairs.nd (pi_keys (pv 0)) (blkOk_by (own := [("_law_key", 1)]) (N := ["_law_mapping_here", "_law_key"]) (sc := defScope s_l_pairs) (by decide +kernel)) (fun _ _ _ _ _ => (pg_name (i := 1) sc_l_pairs.nd rfl (.inl rfl))) (fun _ _ _ _ _ => pts_nil) (fun _ _ _ _ _ => (pe_lst (pa_cons (pv 1) (pa_cons (pe_dget (hu_of (Rm.mk hr.room hr.gd).room) (pv 0) (pv 1) (fun _ _ => rfl)) pa_nil)))))))), ?_⟩
  walk_at "sx"
  cases tr with
  | @dct m kvs _ fp h hs na nd =>
  refine ⟨m, _, h, True.intro, fun od => ⟨m, rfl, od, .inl ⟨kvs, upd_same, ?_⟩⟩⟩
  have ea : upd H m (.frz od (.dK kvs)) m = some (.frz od (.dK kvs)) := upd_same
  have hu : ∀ G, Same (upd H m (.frz od (.dK kvs))) G → Same H (upd G m (.dK kvs)) := fun G sm => unlock h sm
  have hn1 : ∀ b, upd H m (.frz od (.dK kvs)) b = none → b ≠ m ∧ H b = none := fun b z => fresh_lock z
  generalize upd H m (.frz od (.dK kvs)) = J1 at ea hu hn1 ⊢
  have ll := hs.len
  refine lc_invA kvs.length (fun L i acc X => Same J1 X ∧ ∃ ps, acc = ps.map V.ref ∧ Paired (fun p kv => X p = some (.lst [kV kv.1, kv.2]) ∧ H p = none ∧ p ≠ L) ps (kvs.take i)) (by rw [sizeLine_eq]; omega) (fun L hL => ⟨same_upd hL, [], rfl, .nil⟩) (fun L i acc X hL lt P => ⟨P.1 _ _ ea, lt⟩) (fun L acc X hL P => ⟨P.1 _ _ ea, Nat.le_refl _⟩) (fun L i acc X x X' K hL lt la P eL y k => ?_) (fun L acc X hL P eL => ?_)
  · obtain ⟨sm, ps, rfl, pr1⟩ := P
    obtain ⟨rfl, k0, v0, hk, rfl⟩ := y
    obtain ⟨x, v, d, f', e1, e2, t, _⟩ := hs.get lt
    rw [hk] at e1
    cases e1
    refine ⟨rfl, ?_⟩
    simp only [kV, tRet, tRetN, tSeq, C8.tCut, tNext, tAsg, gName, gNil, gCons, gTup, gFld, tIfS, tIf, tAndV, tOrV, tNotV, tAnd, tOr, tNot, tB, tTest, tOp, tUn, tCB, tCons, tNil, tVar, tC, tChain, tDrop, RS.tCallG, RS.tMethG, tMakeG, RS.tCallK, RS.tMakeK, tEqOwn, rI, rI0, rU, add_ii, add_ss, add_rr, mul_ii, mul_si, mul_ri, RS.eq_ii, RS.eq_ss, eq_bb, eq_nn, eq_sn, eq_ns, eq_in, eq_ni, eq_bn, eq_nb, eq_is, eq_si, eq_rr, ne_ii, ne_ss, ne_bb, ne_nn, ne_sn, ne_ns, ne_in, ne_ni, ne_is, ne_si, ne_rr, in_ss, in_r, nin_ss, nin_r, len_s, len_r, RS.ix_s, RS.ix_r, sl_s, sl_r, is_eq, tyN_n, tyN_b, tyN_i, tyN_s, tru_b, tru_i, tru_n, tSl, tPart, tNoPart, tPar, tPar3, tFmtZ, tFmt, tJs, tDGet, sDPut, sFld, tFld, tTup, tLst, tNever, isB,
  L2.start, List.map_cons, List.map_nil, List.length_cons, List.length_nil, Nat.reduceAdd, Nat.reduceSub, Nat.sub_self, List.replicate_zero, List.replicate_succ, List.append_nil, List.cons_append, List.nil_append, List.getElem?_cons_zero, List.getElem?_cons_succ, List.set_cons_zero, List.set_cons_succ, Option.some.injEq, exists_eq_left, exists_eq_left', exists_and_left, V.bl.injEq, V.int.injEq, V.str.injEq, V.ref.injEq, beq_self_eq_true, Bool.true_or, Bool.or_true, Bool.false_or, Bool.or_false, Bool.and_false, Bool.false_and, Bool.true_and, Bool.and_true, Bool.not_true, Bool.not_false, Bool.false_eq_true, if_true, if_false, ite_true, ite_false, true_and, and_true, and_assoc, String.reduceBEq, String.reduceEq, reduceIte, Bool.and_self, reduceCtorEq, false_and, and_false, exists_false, or_false, false_or, exists_const, iEnumS, iStr, iList, iTup, iRng1, iEnum, tFor_eq, tLc_eq, List.cons.injEq, wipe, not_true_eq_false, not_false_eq_true, upd_same, HO.ins.injEq, HO.tup.injEq, HO.lst.injEq, ofS_eq, lk_nil, lk_cons, pu_nil, pu_cons, sizeLine_eq, Nat.reduceLT, Nat.reduceLeDiff, Nat.reduceEqDiff, Nat.le_refl, decide_true, decide_false, tPr, dget_us, dput_us, vv_nil, vv_cons, RS.pk_nil, pk_one, RS.pk_cons, inr_eq, tDisp, tPairs, tBoolOwn, rBoolOwn, tBM, rAppend, ty_list, ty_str, rEqOwn, iEnumT, RS.tCallS, tM1, tDc_eq, tLock, tLockE, iKeys, tListEnum, rUpdate, tMkX0, tMkX1, tXfv, gSub, rSetL, List.getD_cons_zero, List.getD_cons_succ, tBreak, tCMethS, ClX.tCVal, tXfa, tIxOwn, tInOwn, tPropG, tMethK, tMethP, tListGen, tDGet2, tDPop2, rNeD0, intA_i, intA_b, tRevL, sFldAug, tPm0, tPm1, tDIn, tDNotIn, tDNewK, RS.tMethS, tForK, tKM, tKC, tLcK, tKM2, tKC2, tMethStar, tKCK2, tLk, tAug, ipI, tDig, tLcX, tKMX, tKCX]
    refine ⟨v0, .inl ⟨kvs, .inr x, .inr ⟨od, sm _ _ ea⟩, rfl, (valV_at nd hk).symm⟩, fun p hp => ?_⟩
    have pL : p ≠ L := fun z => by rw [z, eL] at hp; cases hp
    have p1 := none_of sm hp
    have tk : kvs.take (i + 1) = kvs.take i ++ [(.inr x, v0)] := by rw [List.take_add_one]; simp [hk]
    refine k (.ref p) _ (by rw [upd_ne pL.symm]; exact eL) ⟨fun b o e => ?_, ps ++ [p], by simp, ?_⟩
    · have bL : b ≠ L := fun z => by rw [z, hL] at e; cases e
      rw [upd_ne bL]; exact same_upd hp _ _ (sm _ _ e)
    · rw [tk]
      refine paired_snoc ⟨by rw [upd_ne pL]; exact upd_same, (hn1 p p1).2, pL⟩ (paired_imp (fun a _ z => ⟨?_, z.2⟩) pr1)
      rw [upd_ne z.2.2]; exact same_upd hp _ _ z.1
  obtain ⟨sm, ps, rfl, pr1⟩ := P
  rw [List.take_of_length_le (by omega)] at pr1
  have Ln := hn1 L hL
  have sG := hu X sm
  refine ⟨sm _ _ ea, ?_⟩
  exact q L kvs fp _ sG ⟨⟨ps, by rw [upd_ne Ln.1]; exact eL, paired_imp (fun a _ z => ⟨by rw [upd_ne (fun q => by rw [q, h] at z; cases z.2.1)]; exact z.1, z.2⟩) pr1⟩, Ln.2⟩ (hs.same sG)
theorem sc_l_right : FnScope ["_law_source_here", "_law_first", "_law_second", "_law_mapping_here", "_law_one", "_law_other", "_law_kept", "_law_both", "_law_due"] ["_law_source_here"] (defScope s_l_right) := ⟨rfl, rfl, rfl, by decide +kernel, rfl, by decide +kernel, by decide +kernel⟩
def sp_right (TS : List (Addr × Str)) : Sp := S1 fun s H Q _ => ∃ a, s = .ref a ∧ Src H a ∧ Tabs TS H ∧ ∀ G, FrT [a] H G → Tabs TS G → Q (.bl true) G
theorem ok_right (F : Df g.K "_law_right" "_law_right" s_l_right fa fd .none) (T : Txt g) (SM : SmB g.base) (CL_Patch : Cls g.K CP) (IP : C8.InsC g.K CP) (PL_Patch : Plain g CP) (SF_Patch : PySem.W.selfFirst g.K CP = true)
    (F_l_deeds : Kn g "_law_deeds" 6 ["_law_source_here", "_law_most"] [] sp_deeds) (F_l_mapping : Kn g "_law_mapping" 6 ["_law_source_here", "_law_most"] [] sp_mapping) (F_l_patch : Kn g "_law_patch" 21 ["_law_deeds_here"] [] (sp_lpatch CP 4))
    (F_l_pairs : Kn g "_law_pairs" 1 ["_law_mapping_here"] [] sp_pairs) (F_l_done : Kn g "_law_done" 1 ["_law_mapping_here", "_law_deeds_here"] [] sp_done) (F_l_read_right : Kn g "_law_read_right" 17 ["_law_patch_here", "_law_deeds_here"] [] (sp_readr CP TS))
    (F_Patch : KcS g "Patch" CP 14 (spS 1 (sp_pinit CP CR))) (M_Patch__call : Km g CP "__call__" 13 ["self", "mapping"] [] (sp_pcall CP)) (FI_Patch__call : FnAtC g.K CP "__call__")
    (M_Patch__add : Km g CP "__add__" 16 ["self", "other"] [] (sp_padd CP)) (M_Patch__eq : Km g CP "__eq__" 11 ["self", "other"] [] (sp_peq CP)) : FnG g 22 fa fd ["_law_source_here"] (sp_right TS) := by
  refine F.ok sc_l_right (fun vs H Q E h => S1.len h) (fun cdv A outer s H vs Q E hr h => ?_)
  obtain ⟨_, rfl, a, rfl, ha, tb, q⟩ := h
  refine ⟨_, (pss_mid (ps_par3 (i := 1) (j := 2) (l := 3) (by rfl) sc_l_right.nd rfl rfl rfl (by decide) (by decide) (by decide) rfl rfl rfl (pa_cons (pe_callG F_l_deeds (hr.mono (by first | decide | omega)) tkD (pa_cons (pv 0) (pa_cons pe_int pa_nil))) (pa_cons (pe_callG F_l_deeds (hr.mono (by first | decide | omega)) tkD (pa_cons (pv 0) (pa_cons pe_int pa_nil))) (pa_cons (pe_callG F_l_mapping (hr.mono (by first | decide | omega)) tkD (pa_cons (pv 0) (pa_cons pe_int pa_nil))) pa_nil))) (by rfl))
      (pss_mid (ps_par3 (i := 4) (j := 5) (l := 6) (by rfl) sc_l_right.nd rfl rfl rfl (by decide) (by decide) (by decide) rfl rfl rfl (pa_cons (pe_callG F_l_patch (hr.mono (by first | decide | omega)) tkD (pa_cons (pv 1) pa_nil)) (pa_cons (pe_callG F_l_patch (hr.mono (by first | decide | omega)) tkD (pa_cons (pv 2) pa_nil)) (pa_cons (pe_callB (c_reprV (K := g.K) (base := g.base) SM hr) (by rfl) T.b_repr bb_repr (pa_cons (pv 3) pa_nil)) pa_nil))) (by rfl))
      (pss_mid (ps_if (PW.pt (pw_or (pt_cmpR (o_ne (K := g.K) hr) (pe_callB (c_reprV (K := g.K) (base := g.base) SM hr) (by rfl) T.b_repr bb_repr (pa_cons (pe_callG F_l_pairs (hr.mono (by first | decide | omega)) tkD (pa_cons (e_callOwn (pv 4) M_Patch__call FI_Patch__call (hr.mono (by first | decide | omega)) tkD (pa_cons (pv 3) pa_nil)) pa_nil)) pa_nil)) (pe_callB (c_reprV (K := g.K) (base := g.base) SM hr) (by rfl) T.b_repr bb_repr (pa_cons (pe_callG F_l_done (hr.mono (by first | decide | omega)) tkD (pa_cons (pv 3) (pa_cons (pv 1) pa_nil))) pa_nil)) (nomark _)) (pw_or1 (pt_cmpR (o_ne (K := g.K) hr) (pe_callB (c_reprV (K := g.K) (base := g.base) SM hr) (by rfl) T.b_repr bb_repr (pa_cons (pv 3) pa_nil)) (pv 6) (nomark _))))) (pss_one (ps_ret pe_bl)) pss_nil)
      (pss_mid (ps_par (i := 7) (j := 8) (by rfl) sc_l_right.nd rfl rfl (by decide) rfl rfl (pa_cons (e_addOwn M_Patch__add SF_Patch (hr.mono (by first | decide | omega)) tkD (pv 4) (pv 5)) (pa_cons (pe_callG F_l_done (hr.mono (by first | decide | omega)) tkD (pa_cons (pv 3) (pa_cons (pe_op (o_add (K := g.K)) (pv 1) (pv 2)) pa_nil))) pa_nil)) (by rfl))
      (pss_mid (ps_if (PW.pt (pw_or (pt_cmpR (o_ne (K := g.K) hr) (pe_callB (c_reprV (K := g.K) (base := g.base) SM hr) (by rfl) T.b_repr bb_repr (pa_cons (pe_callG F_l_pairs (hr.mono (by first | decide | omega)) tkD (pa_cons (e_callOwn (pv 7) M_Patch__call FI_Patch__call (hr.mono (by first | decide | omega)) tkD (pa_cons (pv 3) pa_nil)) pa_nil)) pa_nil)) (pe_callB (c_reprV (K := g.K) (base := g.base) SM hr) (by rfl) T.b_repr bb_repr (pa_cons (pv 8) pa_nil)) (nomark _)) (pw_or1 (pt_cmpR (o_ne (K := g.K) hr) (pe_callB (c_reprV (K := g.K) (base := g.base) SM hr) (by rfl) T.b_repr bb_repr (pa_cons (pe_callG F_l_pairs (hr.mono (by first | decide | omega)) tkD (pa_cons (e_callOwn (pv 5) M_Patch__call FI_Patch__call (hr.mono (by first | decide | omega)) tkD (pa_cons (e_callOwn (pv 4) M_Patch__call FI_Patch__call (hr.mono (by first | decide | omega)) tkD (pa_cons (pv 3) pa_nil)) pa_nil)) pa_nil)) pa_nil)) (pe_callB (c_reprV (K := g.K) (base := g.base) SM hr) (by rfl) T.b_repr bb_repr (pa_cons (pv 8) pa_nil)) (nomark _))))) (pss_one (ps_ret pe_bl)) pss_nil)
      (pss_mid (ps_if (PW.pt (pw_or (pt_not (pt_val (pe_callG F_l_read_right (hr.mono (by first | decide | omega)) tkD (pa_cons (pv 4) (pa_cons (pv 1) pa_nil))))) (pw_or1 (pt_not (pt_val (pe_callG F_l_read_right (hr.mono (by first | decide | omega)) tkD (pa_cons (pv 7) (pa_cons (pe_op (o_add (K := g.K)) (pv 1) (pv 2)) pa_nil)))))))) (pss_one (ps_ret pe_bl)) pss_nil)
      (pss_mid (ps_if (PW.pt (pw_or (t_neOwn M_Patch__eq PL_Patch (hr.mono (by first | decide | omega)) tkD (pv 7) (pe_callG F_l_patch (hr.mono (by first | decide | omega)) tkD (pa_cons (pe_op (o_add (K := g.K)) (pv 1) (pv 2)) pa_nil))) (pw_or (pt_cmpR (o_ne (K := g.K) hr) (e_eqOwn M_Patch__eq (hr.mono (by first | decide | omega)) tkD (pv 4) (pv 5)) (pe_cmpR (o_eq (K := g.K) hr) (pe_callB (c_reprV (K := g.K) (base := g.base) SM hr) (by rfl) T.b_repr bb_repr (pa_cons (pv 1) pa_nil)) (pe_callB (c_reprV (K := g.K) (base := g.base) SM hr) (by rfl) T.b_repr bb_repr (pa_cons (pv 2) pa_nil)) (nomark _)) (nomark _)) (pw_or1 (t_eqOwn M_Patch__eq (hr.mono (by first | decide | omega)) tkD (pv 4) (pv 1)))))) (pss_one (ps_ret pe_bl)) pss_nil)
      (pss_one (ps_ret (pe_and (e_eqOwn M_Patch__eq (hr.mono (by first | decide | omega)) tkD (pv 7) (e_addOwn M_Patch__add SF_Patch (hr.mono (by first | decide | omega)) tkD (pv 4) (pv 5))) (pe_one (pe_cmpR (o_eq (K := g.K) hr) (pe_callB (c_reprV (K := g.K) (base := g.base) SM hr) (by rfl) T.b_repr bb_repr (pa_cons (pe_callG F_l_pairs (hr.mono (by first | decide | omega)) tkD (pa_cons (e_callOwn (RS.pe_makeS0 F_Patch (hr.mono (by first | decide | omega)) tkD) M_Patch__call FI_Patch__call (hr.mono (by first | decide | omega)) tkD (pa_cons (pv 3) pa_nil)) pa_nil)) pa_nil)) (pe_callB (c_reprV (K := g.K) (base := g.base) SM hr) (by rfl) T.b_repr bb_repr (pa_cons (pe_callG F_l_pairs (hr.mono (by first | decide | omega)) tkD (pa_cons (pv 3) pa_nil)) pa_nil)) (nomark _))))))))))))), ?_⟩
  refine mid_at (fun σ G => ∃ l1 l2 m vs1 vs2 d1 d2 D fp, σ = [some (.ref a), some (.ref l1), some (.ref l2), some m, none, none, none, none, none] ∧ WS G l1 l2 m vs1 vs2 d1 d2 D fp ∧ FrT [a] H G ∧ Tabs TS G) ?_ ?_
  · walk_at "sx"
    refine ⟨_, _, rfl, a, 8, rfl, ha, rfl, by decide, fun r1 vs1 d1 G1 dr1 hr1 e1 pr1 ok1 n1 => ?_⟩
    refine ⟨_, _, rfl, a, 4, rfl, dr1.src, rfl, by decide, fun r2 vs2 d2 G2 dr2 hr2 e2 pr2 ok2 n2 => ?_⟩
    refine ⟨_, _, rfl, a, 6, rfl, dr2.src, rfl, by decide, fun r3 D fp G3 dr3 tr nf gd dl => ?_⟩
    have d3 := dr1.trans (dr2.trans dr3)
    have ra : r1 ≠ a := ((Dr.refl ha).fresh hr1).2
    have rb : r2 ≠ a := ((Dr.refl dr1.src).fresh hr2).2
    refine ⟨r1, rfl, r2, rfl, vs1, vs2, d1, d2, D, fp, ⟨dr3.ot _ _ ra (dr2.ot _ _ ra e1), paired_imp (fun _ _ z => ((z.dr dr1 (dr2.trans dr3) fun c n => ((Dr.refl ha).fresh n).2)).imp fun _ _ => trivial) pr1, ok1, n1, dr3.ot _ _ rb e2, paired_imp (fun _ _ z => ((z.dr dr2 dr3 fun c n => ((Dr.refl dr1.src).fresh n).2)).imp fun _ _ => trivial) pr2, ok2, n2, tr, gd⟩, ?_⟩
    have fr : Fr1 [a] H G3 := fun b o nb e => d3.ot b o (by simpa using nb) e
    obtain ⟨_, _, _, _, es⟩ := id ha
    exact ⟨fr.t, RS.Tabs.fr tb (fun c hc o e => by
      rw [List.mem_singleton.mp hc, es] at e
      cases e
      exact ⟨(fun _ z => by cases z), (fun _ z => by cases z)⟩) fr⟩
  rintro _ G1 ⟨l1, l2, m, vs1, vs2, d1, d2, D, fp, rfl, W1, f1, t1⟩
  have hd : GD (apDs D d1) := W1.gd.aps fun dd h => (W1.o1 dd h).w
  have hd2 : GD (apDs (apDs D d1) d2) := hd.aps fun dd h => (W1.o2 dd h).w
  have n1 := W1.n1
  have n2 := W1.n2
  have v2 := W1.gd.vok
  have ftD := fits v2.ok (by have := v2.dep; omega)
  refine mid_at (fun σ G => ∃ p1 p2, σ = [some (.ref a), some (.ref l1), some (.ref l2), some m, some (.ref p1), some (.ref p2), some (.str (PyData.dict D).shown), none, none] ∧ Same G1 G ∧ PatF CP Tru G (.ref p1) d1 ∧ PatF CP Tru G (.ref p2) d2) ?_ ?_
  · walk_at "sx"
    refine ⟨_, rfl, l1, vs1, d1, Tru, rfl, W1.h1, W1.r1, W1.o1, by decide, by omega, by omega, fun p1 Ga sa ha P1 => ?_⟩
    have W2 := W1.same sa
    refine ⟨_, rfl, l2, vs2, d2, Tru, rfl, W2.h2, W2.r2, W2.o2, by decide, by omega, by omega, fun p2 Gb sb hb P2 => ?_⟩
    refine ⟨_, _, rfl, (W2.same sb).m.dp, ftD.1, ftD.2.1, ftD.2.2, ?_⟩
    exact ⟨p1, rfl, p2, rfl, rfl, sa.trans sb, (P1.imp fun _ _ => trivial).same sb, P2.imp fun _ _ => trivial⟩
  rintro _ G2 ⟨p1, p2, rfl, s2, P1, P2⟩
  have W2 := W1.same s2
  have t2 := RS.Tabs.same t1 s2
  have f2 := f1.trans (FrT.of s2)
  have fit1 := fit_prs hd
  have fit2 := fit_prs hd2
  have fit0 := fit_prs W1.gd
  have ex1 := P1.ex
  have ex2 := P2.ex
  obtain ⟨_, dx1, row1, ws1, z, ey1, _⟩ := ex1
  cases z
  obtain ⟨_, dx2, row2, ws2, z, ey2, _⟩ := ex2
  cases z
  refine mid_one [some (.ref a), some (.ref l1), some (.ref l2), some m, some (.ref p1), some (.ref p2), some (.str (PyData.dict D).shown), none, none] (fun G => Same G2 G) ?_ ?_
  · simp only [tCallOwn, tRet, tRetN, tSeq, C8.tCut, tNext, tAsg, gName, gNil, gCons, gTup, gFld, tIfS, tIf, tAndV, tOrV, tNotV, tAnd, tOr, tNot, tB, tTest, tOp, tUn, tCB, tCons, tNil, tVar, tC, tChain, tDrop, RS.tCallG, RS.tMethG, tMakeG, RS.tCallK, RS.tMakeK, tEqOwn, rI, rI0, rU, add_ii, add_ss, add_rr, mul_ii, mul_si, mul_ri, RS.eq_ii, RS.eq_ss, eq_bb, eq_nn, eq_sn, eq_ns, eq_in, eq_ni, eq_bn, eq_nb, eq_is, eq_si, eq_rr, ne_ii, ne_ss, ne_bb, ne_nn, ne_sn, ne_ns, ne_in, ne_ni, ne_is, ne_si, ne_rr, in_ss, in_r, nin_ss, nin_r, len_s, len_r, RS.ix_s, RS.ix_r, sl_s, sl_r, is_eq, tyN_n, tyN_b, tyN_i, tyN_s, tru_b, tru_i, tru_n, tSl, tPart, tNoPart, tPar, tPar3, tFmtZ, tFmt, tJs, tDGet, sDPut, sFld, tFld, tTup, tLst, tNever, isB,
  L2.start, List.map_cons, List.map_nil, List.length_cons, List.length_nil, Nat.reduceAdd, Nat.reduceSub, Nat.sub_self, List.replicate_zero, List.replicate_succ, List.append_nil, List.cons_append, List.nil_append, List.getElem?_cons_zero, List.getElem?_cons_succ, List.set_cons_zero, List.set_cons_succ, Option.some.injEq, exists_eq_left, exists_eq_left', exists_and_left, V.bl.injEq, V.int.injEq, V.str.injEq, V.ref.injEq, beq_self_eq_true, Bool.true_or, Bool.or_true, Bool.false_or, Bool.or_false, Bool.and_false, Bool.false_and, Bool.true_and, Bool.and_true, Bool.not_true, Bool.not_false, Bool.false_eq_true, if_true, if_false, ite_true, ite_false, true_and, and_true, and_assoc, String.reduceBEq, String.reduceEq, reduceIte, Bool.and_self, reduceCtorEq, false_and, and_false, exists_false, or_false, false_or, exists_const, iEnumS, iStr, iList, iTup, iRng1, iEnum, tFor_eq, tLc_eq, List.cons.injEq, wipe, not_true_eq_false, not_false_eq_true, upd_same, HO.ins.injEq, HO.tup.injEq, HO.lst.injEq, ofS_eq, lk_nil, lk_cons, pu_nil, pu_cons, sizeLine_eq, Nat.reduceLT, Nat.reduceLeDiff, Nat.reduceEqDiff, Nat.le_refl, decide_true, decide_false, tPr, dget_us, dput_us, vv_nil, vv_cons, RS.pk_nil, pk_one, RS.pk_cons, inr_eq, tDisp, tPairs, tBoolOwn, rBoolOwn, tBM, rAppend, ty_list, ty_str, rEqOwn, iEnumT, RS.tCallS, tM1, tDc_eq, tLock, tLockE, iKeys, tListEnum, rUpdate, tMkX0, tMkX1, tXfv, gSub, rSetL, List.getD_cons_zero, List.getD_cons_succ, tBreak, tCMethS, ClX.tCVal, tXfa, tIxOwn, tInOwn, tPropG, tMethK, tMethP, tListGen, tDGet2, tDPop2, rNeD0, intA_i, intA_b, tRevL, sFldAug, tPm0, tPm1, tDIn, tDNotIn, tDNewK, RS.tMethS, tForK, tKM, tKC, tLcK, tKM2, tKC2, tMethStar, tKCK2, tLk, tAug, ipI, tDig, tLcX, tKMX, tKCX]
    refine ⟨dx1, _, ey1, _, _, rfl, Tru, d1, D, fp, P1, W2.gd.map W2.m, by have := W2.gd.len; omega, fun r Ga fr sa ta na => ?_⟩
    refine ⟨_, rfl, apDs D d1, fr, ta, by have := hd.len; omega, fun r2 kvs2 fr2 Gb sb Pb tb2 => ?_⟩
    refine ⟨_, _, rfl, prsAt_dpx Pb tb2 (FrT.refl _), fit1.1, fit1.2.1, fit1.2.2, ?_⟩
    have sab := sa.trans sb
    have W3 := W2.same sab
    refine ⟨_, _, rfl, D, fp, l1, vs1, d1, Tru, W3.m, fun _ _ _ => trivial, rfl, W3.h1, W3.r1, by have := W2.gd.len; omega, fun r3 kvs3 fr3 Gc sc Pc tc _ _ _ => ?_⟩
    refine ⟨_, _, rfl, prsAt_dpx Pc (tc.same sc) (FrT.refl _), fit1.1, fit1.2.1, fit1.2.2, ?_⟩
    dsimp only
    rw [RS.ne_ss]
    refine ⟨_, rfl, ?_⟩
    rw [if_neg (by simp)]
    refine ⟨_, _, rfl, (W3.same sc).m.dp, ftD.1, ftD.2.1, ftD.2.2, ?_⟩
    dsimp only
    rw [RS.ne_ss]
    refine ⟨_, rfl, ?_⟩
    rw [if_neg (by simp)]
    exact sab.trans sc
  intro G3 s3
  have W3 := W2.same s3
  have t3 := RS.Tabs.same t2 s3
  have f3 := f2.trans (FrT.of s3)
  have P1 := P1.same s3
  have P2 := P2.same s3
  have ey1 := s3 _ _ ey1
  have ey2 := s3 _ _ ey2
  refine mid_at (fun σ G => ∃ p3 u, σ = [some (.ref a), some (.ref l1), some (.ref l2), some m, some (.ref p1), some (.ref p2), some (.str (PyData.dict D).shown), some (.ref p3), some u] ∧ Same G3 G ∧ PatF CP Tru G (.ref p3) (d1 ++ d2) ∧ ∀ Y, FrT [] G Y → DpX g.K Y u (prsD (apDs (apDs D d1) d2))) ?_ ?_
  · simp only [tAddOwn, tRet, tRetN, tSeq, C8.tCut, tNext, tAsg, gName, gNil, gCons, gTup, gFld, tIfS, tIf, tAndV, tOrV, tNotV, tAnd, tOr, tNot, tB, tTest, tOp, tUn, tCB, tCons, tNil, tVar, tC, tChain, tDrop, RS.tCallG, RS.tMethG, tMakeG, RS.tCallK, RS.tMakeK, tEqOwn, rI, rI0, rU, add_ii, add_ss, add_rr, mul_ii, mul_si, mul_ri, RS.eq_ii, RS.eq_ss, eq_bb, eq_nn, eq_sn, eq_ns, eq_in, eq_ni, eq_bn, eq_nb, eq_is, eq_si, eq_rr, ne_ii, ne_ss, ne_bb, ne_nn, ne_sn, ne_ns, ne_in, ne_ni, ne_is, ne_si, ne_rr, in_ss, in_r, nin_ss, nin_r, len_s, len_r, RS.ix_s, RS.ix_r, sl_s, sl_r, is_eq, tyN_n, tyN_b, tyN_i, tyN_s, tru_b, tru_i, tru_n, tSl, tPart, tNoPart, tPar, tPar3, tFmtZ, tFmt, tJs, tDGet, sDPut, sFld, tFld, tTup, tLst, tNever, isB,
  L2.start, List.map_cons, List.map_nil, List.length_cons, List.length_nil, Nat.reduceAdd, Nat.reduceSub, Nat.sub_self, List.replicate_zero, List.replicate_succ, List.append_nil, List.cons_append, List.nil_append, List.getElem?_cons_zero, List.getElem?_cons_succ, List.set_cons_zero, List.set_cons_succ, Option.some.injEq, exists_eq_left, exists_eq_left', exists_and_left, V.bl.injEq, V.int.injEq, V.str.injEq, V.ref.injEq, beq_self_eq_true, Bool.true_or, Bool.or_true, Bool.false_or, Bool.or_false, Bool.and_false, Bool.false_and, Bool.true_and, Bool.and_true, Bool.not_true, Bool.not_false, Bool.false_eq_true, if_true, if_false, ite_true, ite_false, true_and, and_true, and_assoc, String.reduceBEq, String.reduceEq, reduceIte, Bool.and_self, reduceCtorEq, false_and, and_false, exists_false, or_false, false_or, exists_const, iEnumS, iStr, iList, iTup, iRng1, iEnum, tFor_eq, tLc_eq, List.cons.injEq, wipe, not_true_eq_false, not_false_eq_true, upd_same, HO.ins.injEq, HO.tup.injEq, HO.lst.injEq, ofS_eq, lk_nil, lk_cons, pu_nil, pu_cons, sizeLine_eq, Nat.reduceLT, Nat.reduceLeDiff, Nat.reduceEqDiff, Nat.le_refl, decide_true, decide_false, tPr, dget_us, dput_us, vv_nil, vv_cons, RS.pk_nil, pk_one, RS.pk_cons, inr_eq, tDisp, tPairs, tBoolOwn, rBoolOwn, tBM, rAppend, ty_list, ty_str, rEqOwn, iEnumT, RS.tCallS, tM1, tDc_eq, tLock, tLockE, iKeys, tListEnum, rUpdate, tMkX0, tMkX1, tXfv, gSub, rSetL, List.getD_cons_zero, List.getD_cons_succ, tBreak, tCMethS, ClX.tCVal, tXfa, tIxOwn, tInOwn, tPropG, tMethK, tMethP, tListGen, tDGet2, tDPop2, rNeD0, intA_i, intA_b, tRevL, sFldAug, tPm0, tPm1, tDIn, tDNotIn, tDNewK, RS.tMethS, tForK, tKM, tKC, tLcK, tKM2, tKC2, tMethStar, tKCK2, tLk, tAug, ipI, tDig, tLcX, tKMX, tKCX]
    refine ⟨dx1, _, ey1, dx2, _, ey2, _, _, rfl, Tru, d1, d2, P1, P2, by omega, fun p3 Ga sa ha P3 => ⟨⟨_, rfl⟩, ?_⟩⟩
    have W4 := W3.same sa
    refine .inl ⟨l1, l2, vs1, vs2, rfl, rfl, W4.h1, W4.h2, by have := paired_len W4.r1; have := paired_len W4.r2; rw [sizeLine_eq]; omega, fun p hp => ?_⟩
    have sb := same_upd (o := HO.lst (vs1 ++ vs2)) hp
    have W5 := W4.same sb
    refine ⟨_, _, rfl, D, fp, p, vs1 ++ vs2, d1 ++ d2, Tru, W5.m, fun _ _ _ => trivial, rfl, upd_same, paired_app W5.r2 W5.r1, by have := W5.gd.len; rw [List.length_append]; omega, fun r3 kvs3 fr3 Gc sc Pc tc _ _ _ => ?_⟩
    rw [apDs_app] at tc
    have sbc := sb.trans sc
    exact ⟨p3, rfl, sa.trans sbc, P3.same sbc, fun Y f => prsAt_dpx Pc (tc.same sc) f⟩
  rintro _ G4 ⟨p3, u, rfl, s4, P3, du⟩
  have W4 := W3.same s4
  have t4 := RS.Tabs.same t3 s4
  have f4 := f3.trans (FrT.of s4)
  have P1 := P1.same s4
  have P2 := P2.same s4
  have ey1 := s4 _ _ ey1
  have ey2 := s4 _ _ ey2
  obtain ⟨_, dx3, row3, ws3, z, ey3, _⟩ := id P3.ex
  cases z
  refine mid_one ([some (.ref a), some (.ref l1), some (.ref l2), some m, some (.ref p1), some (.ref p2), some (.str (PyData.dict D).shown), some (.ref p3), some u]) (fun G => Same G4 G) ?_ ?_
  · simp only [tCallOwn, tRet, tRetN, tSeq, C8.tCut, tNext, tAsg, gName, gNil, gCons, gTup, gFld, tIfS, tIf, tAndV, tOrV, tNotV, tAnd, tOr, tNot, tB, tTest, tOp, tUn, tCB, tCons, tNil, tVar, tC, tChain, tDrop, RS.tCallG, RS.tMethG, tMakeG, RS.tCallK, RS.tMakeK, tEqOwn, rI, rI0, rU, add_ii, add_ss, add_rr, mul_ii, mul_si, mul_ri, RS.eq_ii, RS.eq_ss, eq_bb, eq_nn, eq_sn, eq_ns, eq_in, eq_ni, eq_bn, eq_nb, eq_is, eq_si, eq_rr, ne_ii, ne_ss, ne_bb, ne_nn, ne_sn, ne_ns, ne_in, ne_ni, ne_is, ne_si, ne_rr, in_ss, in_r, nin_ss, nin_r, len_s, len_r, RS.ix_s, RS.ix_r, sl_s, sl_r, is_eq, tyN_n, tyN_b, tyN_i, tyN_s, tru_b, tru_i, tru_n, tSl, tPart, tNoPart, tPar, tPar3, tFmtZ, tFmt, tJs, tDGet, sDPut, sFld, tFld, tTup, tLst, tNever, isB,
  L2.start, List.map_cons, List.map_nil, List.length_cons, List.length_nil, Nat.reduceAdd, Nat.reduceSub, Nat.sub_self, List.replicate_zero, List.replicate_succ, List.append_nil, List.cons_append, List.nil_append, List.getElem?_cons_zero, List.getElem?_cons_succ, List.set_cons_zero, List.set_cons_succ, Option.some.injEq, exists_eq_left, exists_eq_left', exists_and_left, V.bl.injEq, V.int.injEq, V.str.injEq, V.ref.injEq, beq_self_eq_true, Bool.true_or, Bool.or_true, Bool.false_or, Bool.or_false, Bool.and_false, Bool.false_and, Bool.true_and, Bool.and_true, Bool.not_true, Bool.not_false, Bool.false_eq_true, if_true, if_false, ite_true, ite_false, true_and, and_true, and_assoc, String.reduceBEq, String.reduceEq, reduceIte, Bool.and_self, reduceCtorEq, false_and, and_false, exists_false, or_false, false_or, exists_const, iEnumS, iStr, iList, iTup, iRng1, iEnum, tFor_eq, tLc_eq, List.cons.injEq, wipe, not_true_eq_false, not_false_eq_true, upd_same, HO.ins.injEq, HO.tup.injEq, HO.lst.injEq, ofS_eq, lk_nil, lk_cons, pu_nil, pu_cons, sizeLine_eq, Nat.reduceLT, Nat.reduceLeDiff, Nat.reduceEqDiff, Nat.le_refl, decide_true, decide_false, tPr, dget_us, dput_us, vv_nil, vv_cons, RS.pk_nil, pk_one, RS.pk_cons, inr_eq, tDisp, tPairs, tBoolOwn, rBoolOwn, tBM, rAppend, ty_list, ty_str, rEqOwn, iEnumT, RS.tCallS, tM1, tDc_eq, tLock, tLockE, iKeys, tListEnum, rUpdate, tMkX0, tMkX1, tXfv, gSub, rSetL, List.getD_cons_zero, List.getD_cons_succ, tBreak, tCMethS, ClX.tCVal, tXfa, tIxOwn, tInOwn, tPropG, tMethK, tMethP, tListGen, tDGet2, tDPop2, rNeD0, intA_i, intA_b, tRevL, sFldAug, tPm0, tPm1, tDIn, tDNotIn, tDNewK, RS.tMethS, tForK, tKM, tKC, tLcK, tKM2, tKC2, tMethStar, tKCK2, tLk, tAug, ipI, tDig, tLcX, tKMX, tKCX]
    refine ⟨dx3, _, ey3, _, _, rfl, Tru, d1 ++ d2, D, fp, P3, W4.gd.map W4.m, by have := W4.gd.len; omega, fun r Ga fr sa ta na => ?_⟩
    rw [apDs_app] at ta
    refine ⟨_, rfl, _, fr, ta, by have := hd2.len; omega, fun r2 kvs2 fr2 Gb sb Pb tb2 => ?_⟩
    have sab := sa.trans sb
    refine ⟨_, _, rfl, prsAt_dpx Pb tb2 (FrT.refl _), fit2.1, fit2.2.1, fit2.2.2, ?_⟩
    refine ⟨_, _, rfl, du _ (FrT.of sab), fit2.1, fit2.2.1, fit2.2.2, ?_⟩
    dsimp only
    rw [RS.ne_ss]
    refine ⟨_, rfl, ?_⟩
    rw [if_neg (by simp)]
    refine ⟨dx1, _, sab _ _ ey1, _, _, rfl, Tru, d1, D, fp, P1.same sab, W4.gd.map (W4.same sab).m, by have := W4.gd.len; omega, fun r3 Gc fr3 sc tc nc => ?_⟩
    have sabc := sab.trans sc
    refine ⟨dx2, _, sabc _ _ ey2, _, _, rfl, Tru, d2, _, fr3, P2.same sabc, hd.map tc, by have := hd.len; omega, fun r4 Gd fr4 sd td nd => ?_⟩
    refine ⟨_, rfl, _, fr4, td, by have := hd2.len; omega, fun r5 kvs5 fr5 Ge se Pe te => ?_⟩
    have s_ := sabc.trans (sd.trans se)
    refine ⟨_, _, rfl, prsAt_dpx Pe te (FrT.refl _), fit2.1, fit2.2.1, fit2.2.2, ?_⟩
    refine ⟨_, _, rfl, du _ (FrT.of s_), fit2.1, fit2.2.1, fit2.2.2, ?_⟩
    dsimp only
    rw [RS.ne_ss]
    refine ⟨_, rfl, ?_⟩
    rw [if_neg (by simp)]
    exact s_
  intro G5 s5
  have W5 := W4.same s5
  have t5 := RS.Tabs.same t4 s5
  have f5 := f4.trans (FrT.of s5)
  have P1 := P1.same s5
  have P2 := P2.same s5
  have P3 := P3.same s5
  have ey1 := s5 _ _ ey1
  have ey2 := s5 _ _ ey2
  have ey3 := s5 _ _ ey3
  refine mid_one ([some (.ref a), some (.ref l1), some (.ref l2), some m, some (.ref p1), some (.ref p2), some (.str (PyData.dict D).shown), some (.ref p3), some u]) (fun G => FrT [] G5 G ∧ Tabs TS G) ?_ ?_
  · walk_at "sx"
    refine ⟨_, _, rfl, Tru, d1, l1, vs1, Tru, P1, rfl, W5.h1, W5.r1, t5, fun Ga fga tga => ⟨_, rfl, ?_⟩⟩
    rw [if_neg (by simp)]
    have Wa := W5.frT fga
    refine .inl ⟨l1, l2, vs1, vs2, rfl, rfl, Wa.h1, Wa.h2, by have := paired_len Wa.r1; have := paired_len Wa.r2; rw [sizeLine_eq]; omega, fun p hp => ?_⟩
    have sb := same_upd (o := HO.lst (vs1 ++ vs2)) hp
    have Wb := Wa.same sb
    refine ⟨_, _, rfl, Tru, d1 ++ d2, p, _, Tru, (P3.frT fga).same sb, rfl, upd_same, paired_app Wb.r2 Wb.r1, RS.Tabs.same tga sb, fun Gb fgb tgb => ⟨_, rfl, ?_⟩⟩
    rw [if_neg (by simp)]
    exact ⟨(fga.trans (FrT.of sb)).trans fgb, tgb⟩
  rintro G6 ⟨f6, t6⟩
  have W6 := W5.frT f6
  have P1 := P1.frT f6
  have P2 := P2.frT f6
  have P3 := P3.frT f6
  have ey1 := f6 _ _ (by simp) (fun ps z => by cases z) ey1
  have ey2 := f6 _ _ (by simp) (fun ps z => by cases z) ey2
  have ey3 := f6 _ _ (by simp) (fun ps z => by cases z) ey3
  have f6 := f5.trans (f6.sub (fq := [a]) (fun c hc => by cases hc))
  refine mid_one ([some (.ref a), some (.ref l1), some (.ref l2), some m, some (.ref p1), some (.ref p2), some (.str (PyData.dict D).shown), some (.ref p3), some u]) (fun G => Same G6 G) ?_ ?_
  · simp only [tEqOwn, rEqOwn, tRet, tRetN, tSeq, C8.tCut, tNext, tAsg, gName, gNil, gCons, gTup, gFld, tIfS, tIf, tAndV, tOrV, tNotV, tAnd, tOr, tNot, tB, tTest, tOp, tUn, tCB, tCons, tNil, tVar, tC, tChain, tDrop, RS.tCallG, RS.tMethG, tMakeG, RS.tCallK, RS.tMakeK, tEqOwn, rI, rI0, rU, add_ii, add_ss, add_rr, mul_ii, mul_si, mul_ri, RS.eq_ii, RS.eq_ss, eq_bb, eq_nn, eq_sn, eq_ns, eq_in, eq_ni, eq_bn, eq_nb, eq_is, eq_si, eq_rr, ne_ii, ne_ss, ne_bb, ne_nn, ne_sn, ne_ns, ne_in, ne_ni, ne_is, ne_si, ne_rr, in_ss, in_r, nin_ss, nin_r, len_s, len_r, RS.ix_s, RS.ix_r, sl_s, sl_r, is_eq, tyN_n, tyN_b, tyN_i, tyN_s, tru_b, tru_i, tru_n, tSl, tPart, tNoPart, tPar, tPar3, tFmtZ, tFmt, tJs, tDGet, sDPut, sFld, tFld, tTup, tLst, tNever, isB,
  L2.start, List.map_cons, List.map_nil, List.length_cons, List.length_nil, Nat.reduceAdd, Nat.reduceSub, Nat.sub_self, List.replicate_zero, List.replicate_succ, List.append_nil, List.cons_append, List.nil_append, List.getElem?_cons_zero, List.getElem?_cons_succ, List.set_cons_zero, List.set_cons_succ, Option.some.injEq, exists_eq_left, exists_eq_left', exists_and_left, V.bl.injEq, V.int.injEq, V.str.injEq, V.ref.injEq, beq_self_eq_true, Bool.true_or, Bool.or_true, Bool.false_or, Bool.or_false, Bool.and_false, Bool.false_and, Bool.true_and, Bool.and_true, Bool.not_true, Bool.not_false, Bool.false_eq_true, if_true, if_false, ite_true, ite_false, true_and, and_true, and_assoc, String.reduceBEq, String.reduceEq, reduceIte, Bool.and_self, reduceCtorEq, false_and, and_false, exists_false, or_false, false_or, exists_const, iEnumS, iStr, iList, iTup, iRng1, iEnum, tFor_eq, tLc_eq, List.cons.injEq, wipe, not_true_eq_false, not_false_eq_true, upd_same, HO.ins.injEq, HO.tup.injEq, HO.lst.injEq, ofS_eq, lk_nil, lk_cons, pu_nil, pu_cons, sizeLine_eq, Nat.reduceLT, Nat.reduceLeDiff, Nat.reduceEqDiff, Nat.le_refl, decide_true, decide_false, tPr, dget_us, dput_us, vv_nil, vv_cons, RS.pk_nil, pk_one, RS.pk_cons, inr_eq, tDisp, tPairs, tBoolOwn, rBoolOwn, tBM, rAppend, ty_list, ty_str, rEqOwn, iEnumT, RS.tCallS, tM1, tDc_eq, tLock, tLockE, iKeys, tListEnum, rUpdate, tMkX0, tMkX1, tXfv, gSub, rSetL, List.getD_cons_zero, List.getD_cons_succ, tBreak, tCMethS, ClX.tCVal, tXfa, tIxOwn, tInOwn, tPropG, tMethK, tMethP, tListGen, tDGet2, tDPop2, rNeD0, intA_i, intA_b, tRevL, sFldAug, tPm0, tPm1, tDIn, tDNotIn, tDNewK, RS.tMethS, tForK, tKM, tKC, tLcK, tKM2, tKC2, tMethStar, tKCK2, tLk, tAug, ipI, tDig, tLcX, tKMX, tKCX]
    refine .inl ⟨l1, l2, vs1, vs2, rfl, rfl, W6.h1, W6.h2, by have := paired_len W6.r1; have := paired_len W6.r2; rw [sizeLine_eq]; omega, fun p hp => ?_⟩
    have sb := same_upd (o := HO.lst (vs1 ++ vs2)) hp
    have Wb := W6.same sb
    refine ⟨_, rfl, p, _, d1 ++ d2, Tru, rfl, upd_same, paired_app Wb.r2 Wb.r1, fun dd hd => (List.mem_append.mp hd).elim (W6.o1 dd) (W6.o2 dd), by decide, by rw [List.length_append]; omega, by rw [List.length_append]; omega, fun r Ga sa ha Pr => ?_⟩
    have s1 := sb.trans sa
    obtain ⟨_, dxr, rowr, wsr, z, eyr, _⟩ := id Pr.ex
    cases z
    refine ⟨dx3, _, s1 _ _ ey3, .inr ⟨r, _, _, rfl, eyr⟩, _, _, rfl, Tru, d1 ++ d2, P3.same s1, .inl ⟨_, d1 ++ d2, Pr, fun Gb b sgb hb => ⟨b, rfl, ?_⟩⟩⟩
    rw [if_neg (by simp [hb.mpr rfl])]
    have s2 := s1.trans sgb
    refine ⟨dx1, _, s2 _ _ ey1, .inr ⟨p2, _, _, rfl, s2 _ _ ey2⟩, _, _, rfl, Tru, d1, P1.same s2, .inl ⟨Tru, d2, P2.same s2, fun Gc b2 sgc hb2 => ⟨b2, rfl, ?_⟩⟩⟩
    have s3 := s2.trans sgc
    have W3 := W6.same s3
    have v1 := rows_okL W6.o1 (by omega)
    have v2 := rows_okL W6.o2 (by omega)
    have g1 := fits v1.ok (by have := v1.dep; omega)
    have g2 := fits v2.ok (by have := v2.dep; omega)
    refine ⟨_, _, rfl, .lst (SqL.of W3.h1) (dp_rows W3.r1), g1.1, g1.2.1, g1.2.2, ?_⟩
    refine ⟨_, _, rfl, .lst (SqL.of W3.h2) (dp_rows W3.r2), g2.1, g2.2.1, g2.2.2, ?_⟩
    dsimp only
    rw [RS.eq_ss, RS.ne_bb]
    refine ⟨_, rfl, ?_⟩
    have eb : b2 = decide ((PyData.list (d1.map ddD)).shown = (PyData.list (d2.map ddD)).shown) := by
      rw [Bool.eq_iff_iff, decide_eq_true_iff, hb2, shown_inj v1.ok v2.ok]
      exact ⟨fun h => by rw [h], fun h => rows_inj (PyData.list.inj h)⟩
    rw [if_neg (by simp [eb])]
    refine ⟨dx1, _, s3 _ _ ey1, .inl ⟨_, tyN_l W3.h1⟩, _, _, rfl, Tru, d1, P1.same s3, .inr ⟨tyN_l W3.h1, false, rfl, ?_⟩⟩
    rw [if_neg (by simp)]
    exact s3
  intro G7 s7
  have W7 := W6.same s7
  have t7 := RS.Tabs.same t6 s7
  have f7 := f6.trans (FrT.of s7)
  have P1 := P1.same s7
  have P2 := P2.same s7
  have P3 := P3.same s7
  have ey1 := s7 _ _ ey1
  have ey2 := s7 _ _ ey2
  have ey3 := s7 _ _ ey3
  simp only [tEqOwn, rEqOwn, tAddOwn, tCallOwn, tMakeS, tRet, tRetN, tSeq, C8.tCut, tNext, tAsg, gName, gNil, gCons, gTup, gFld, tIfS, tIf, tAndV, tOrV, tNotV, tAnd, tOr, tNot, tB, tTest, tOp, tUn, tCB, tCons, tNil, tVar, tC, tChain, tDrop, RS.tCallG, RS.tMethG, tMakeG, RS.tCallK, RS.tMakeK, tEqOwn, rI, rI0, rU, add_ii, add_ss, add_rr, mul_ii, mul_si, mul_ri, RS.eq_ii, RS.eq_ss, eq_bb, eq_nn, eq_sn, eq_ns, eq_in, eq_ni, eq_bn, eq_nb, eq_is, eq_si, eq_rr, ne_ii, ne_ss, ne_bb, ne_nn, ne_sn, ne_ns, ne_in, ne_ni, ne_is, ne_si, ne_rr, in_ss, in_r, nin_ss, nin_r, len_s, len_r, RS.ix_s, RS.ix_r, sl_s, sl_r, is_eq, tyN_n, tyN_b, tyN_i, tyN_s, tru_b, tru_i, tru_n, tSl, tPart, tNoPart, tPar, tPar3, tFmtZ, tFmt, tJs, tDGet, sDPut, sFld, tFld, tTup, tLst, tNever, isB,
  L2.start, List.map_cons, List.map_nil, List.length_cons, List.length_nil, Nat.reduceAdd, Nat.reduceSub, Nat.sub_self, List.replicate_zero, List.replicate_succ, List.append_nil, List.cons_append, List.nil_append, List.getElem?_cons_zero, List.getElem?_cons_succ, List.set_cons_zero, List.set_cons_succ, Option.some.injEq, exists_eq_left, exists_eq_left', exists_and_left, V.bl.injEq, V.int.injEq, V.str.injEq, V.ref.injEq, beq_self_eq_true, Bool.true_or, Bool.or_true, Bool.false_or, Bool.or_false, Bool.and_false, Bool.false_and, Bool.true_and, Bool.and_true, Bool.not_true, Bool.not_false, Bool.false_eq_true, if_true, if_false, ite_true, ite_false, true_and, and_true, and_assoc, String.reduceBEq, String.reduceEq, reduceIte, Bool.and_self, reduceCtorEq, false_and, and_false, exists_false, or_false, false_or, exists_const, iEnumS, iStr, iList, iTup, iRng1, iEnum, tFor_eq, tLc_eq, List.cons.injEq, wipe, not_true_eq_false, not_false_eq_true, upd_same, HO.ins.injEq, HO.tup.injEq, HO.lst.injEq, ofS_eq, lk_nil, lk_cons, pu_nil, pu_cons, sizeLine_eq, Nat.reduceLT, Nat.reduceLeDiff, Nat.reduceEqDiff, Nat.le_refl, decide_true, decide_false, tPr, dget_us, dput_us, vv_nil, vv_cons, RS.pk_nil, pk_one, RS.pk_cons, inr_eq, tDisp, tPairs, tBoolOwn, rBoolOwn, tBM, rAppend, ty_list, ty_str, rEqOwn, iEnumT, RS.tCallS, tM1, tDc_eq, tLock, tLockE, iKeys, tListEnum, rUpdate, tMkX0, tMkX1, tXfv, gSub, rSetL, List.getD_cons_zero, List.getD_cons_succ, tBreak, tCMethS, ClX.tCVal, tXfa, tIxOwn, tInOwn, tPropG, tMethK, tMethP, tListGen, tDGet2, tDPop2, rNeD0, intA_i, intA_b, tRevL, sFldAug, tPm0, tPm1, tDIn, tDNotIn, tDNewK, RS.tMethS, tForK, tKM, tKC, tLcK, tKM2, tKC2, tMethStar, tKCK2, tLk, tAug, ipI, tDig, tLcX, tKMX, tKCX]
  refine ⟨dx1, _, ey1, dx2, _, ey2, _, _, rfl, Tru, d1, d2, P1, P2, by omega, fun r Ga sa ha Pr => ⟨⟨_, rfl⟩, ?_⟩⟩
  obtain ⟨_, dxr, rowr, wsr, z, eyr, _⟩ := id Pr.ex
  cases z
  refine ⟨dx3, _, sa _ _ ey3, .inr ⟨r, _, _, rfl, eyr⟩, _, _, rfl, Tru, d1 ++ d2, P3.same sa, .inl ⟨_, d1 ++ d2, Pr, fun Gb b sgb hb => ⟨b, rfl, ?_⟩⟩⟩
  rw [if_pos (hb.mpr rfl)]
  have s2 := sa.trans sgb
  refine mk_patchA (N := Tru) .nil (by simp) (by simp) fun y Gc sc hy Py => ?_
  obtain ⟨_, dxy, rowy, wsy, z, eyy, _⟩ := id Py.ex
  cases z
  have s3 := s2.trans sc
  have W3 := W7.same s3
  refine ⟨dxy, _, eyy, _, _, rfl, _, [], D, fp, Py, W7.gd.map W3.m, by have := W7.gd.len; omega, fun r4 Gd fr4 sd td nd => ?_⟩
  refine ⟨_, rfl, D, fr4, td, by have := W7.gd.len; omega, fun r5 kvs5 fr5 Ge se Pe te => ?_⟩
  have s5 := s3.trans (sd.trans se)
  refine ⟨_, _, rfl, prsAt_dpx Pe te (FrT.refl _), fit0.1, fit0.2.1, fit0.2.2, ?_⟩
  refine ⟨_, rfl, D, fp, (W7.same s5).m, by have := W7.gd.len; omega, fun r6 kvs6 fr6 Gf sf Pf tf => ?_⟩
  refine ⟨_, _, rfl, prsAt_dpx Pf tf (FrT.refl _), fit0.1, fit0.2.1, fit0.2.2, ?_⟩
  dsimp only
  rw [RS.eq_ss]
  have sF := s5.trans sf
  rw [decide_eq_true (rfl : (prsD D).shown = (prsD D).shown)]
  exact q _ (f7.trans (FrT.of sF)) (RS.Tabs.same t7 sF)
end
def one1 : Dd := .put "b" (.list [.int 1])
theorem one1_ok : DdV one1 := ⟨by decide +kernel, by decide +kernel, by decide⟩
/-- the patch of one deed at p, its value at w -/
def OneP (CP : Addr) (G : Hp) (p w : Addr) : Prop := ∃ dp row t, G p = some (.ins CP dp [("own_deeds", .ref row)]) ∧ G row = some (.tup [.ref t]) ∧ G t = some (.tup [.str "put", .str "b", .ref w]) ∧ G w = some (.lst [.int 1])
theorem OneP.of {CP : Addr} {N : Addr → Prop} {G : Hp} {p : Addr} (h : PatF CP N G (.ref p) [one1]) : ∃ w, OneP CP G p w ∧ N w := by
  obtain ⟨⟨_, dp, row, ws, z, e1, e2, pr⟩, _, _⟩ := h
  cases z
  cases pr with
  | cons a b =>
    cases b
    obtain ⟨t, w, f, rfl, et, tw, n⟩ := a
    cases tw with
    | @lst w xs _ fp hw hs na =>
      cases hs with
      | cons c d =>
        cases d
        cases c
        exact ⟨w, ⟨dp, row, t, e1, e2, et, hw⟩, n w (by simp)⟩
theorem OneP.pat {CP : Addr} {G : Hp} {p w : Addr} (h : OneP CP G p w) : PatF CP (fun c => c = w) G (.ref p) [one1] := by
  obtain ⟨dp, row, t, e1, e2, e3, e4⟩ := h
  exact ⟨⟨p, dp, row, _, rfl, e1, e2, .cons ⟨t, _, _, rfl, e3, .lst e4 (.cons (.int 1) .nil) (by simp), fun c hc => by simpa using hc⟩ .nil⟩, fun dd hd => by rw [List.mem_singleton.mp hd]; exact one1_ok, by simp⟩
theorem OneP.same {CP : Addr} {G X : Hp} {p w : Addr} (h : OneP CP G p w) (s : Same G X) : OneP CP X p w := by
  obtain ⟨dp, row, t, e1, e2, e3, e4⟩ := h
  exact ⟨dp, row, t, s _ _ e1, s _ _ e2, s _ _ e3, s _ _ e4⟩
theorem OneP.upd {CP : Addr} {G : Hp} {p w q : Addr} {xs : List V} {o : HO} (h : OneP CP G p w) (hq : G q = some (.lst xs)) (n : q ≠ w) : OneP CP (upd G q o) p w := by
  obtain ⟨dp, row, t, e1, e2, e3, e4⟩ := h
  refine ⟨dp, row, t, ?_, ?_, ?_, ?_⟩
  · rw [upd_ne (fun z => by rw [z, hq] at e1; cases e1)]; exact e1
  · rw [upd_ne (fun z => by rw [z, hq] at e2; cases e2)]; exact e2
  · rw [upd_ne (fun z => by rw [z, hq] at e3; cases e3)]; exact e3
  · rw [upd_ne n.symm]; exact e4
theorem merge_a (u : V) : mergeK [] [((.inr "a" : Key), u)] = [(.inr "a", u)] := by kernel_rfl
theorem merge_b (u : V) : mergeK [] [((.inr "b" : Key), u)] = [(.inr "b", u)] := by kernel_rfl
theorem merge_ab (u v : V) : mergeK [] [((.inr "a" : Key), u), (.inr "b", v)] = [(.inr "a", u), (.inr "b", v)] := by kernel_rfl
theorem val_ab (u v : V) : valV [((.inr "a" : Key), u), (.inr "b", v)] (.inr "b") = some v := by
  rw [vv_cons, if_neg (by decide +kernel), vv_cons, if_pos rfl]
theorem disp1 {X : Hp} {p p1 : Addr} {o kd : HO} (hp : X p = none) (hp1 : upd X p (.dK []) p1 = none) : p1 ≠ p ∧ X p1 = none ∧ upd (upd X p (.dK [])) p1 o p = some (.dK []) ∧ Same X (upd (upd (upd X p (.dK [])) p1 o) p kd) ∧ upd (upd (upd X p (.dK [])) p1 o) p kd p = some kd ∧ upd (upd (upd X p (.dK [])) p1 o) p kd p1 = some o := by
  have c1 : p1 ≠ p := fun z => by rw [z, upd_same] at hp1; cases hp1
  have w1 : X p1 = none := by rw [upd_ne c1] at hp1; exact hp1
  exact ⟨c1, w1, by rw [upd_ne c1.symm]; exact upd_same, same_over (same_over (same_over (Same.refl _) hp) w1) hp, upd_same, by rw [upd_ne c1]; exact upd_same⟩
theorem eqv_intsL : ∀ ns : List Int, PyData.eqvAll (ns.map PyData.int) (ns.map PyData.int) = true
  | [] => rfl
  | b :: bs => by
    have h := eqv_intsL bs
    simp [PyData.eqvAll, PyData.eqv, h]
theorem eq_vals {K : PySem.W.Frag} {H : Hp} {ks ls : List (Key × V)}
    (hv : ∀ p ∈ ks, ∃ l m, ∃ ns : List Int, p.2 = .ref l ∧ valV ls p.1 = some (.ref m) ∧ H l = some (.lst (ns.map V.int)) ∧ H m = some (.lst (ns.map V.int))) :
    ∀ p ∈ ks, ∃ u d e, valV ls p.1 = some u ∧ Dp K H p.2 d ∧ Dp K H u e ∧ SeqAt.shaped d = true ∧ SeqAt.shaped e = true ∧ PyData.eqv d e = true := fun p hp => by
  obtain ⟨l, m, ns, e1, e2, e3, e4⟩ := hv p hp
  exact ⟨.ref m, .list (ns.map PyData.int), .list (ns.map PyData.int), e2, by rw [e1]; exact .lst (SqL.of e3) (dp_ints ns), .lst (SqL.of e4) (dp_ints ns), shaped_ints ns, shaped_ints ns, by simp only [PyData.eqv]; exact eqv_intsL ns⟩
theorem ty_lst {K : PySem.W.Frag} {H : Hp} {l : Addr} {xs : List V} (h : H l = some (.lst xs)) : tyV K "list" (.ref l) H := by
  simpa [tyV] using ⟨_, SqL.of h⟩
theorem inv_l {G : Hp} {v : V} {i : Int} {f : List Addr} (t : Tr G v (.list [.int i]) f) : ∃ x, v = .ref x ∧ G x = some (.lst [.int i]) ∧ x ∈ f := by
  cases t with
  | @lst x xs _ fp hw hs na =>
    cases hs with
    | cons c d => cases d; cases c; exact ⟨x, rfl, hw, List.mem_cons_self ..⟩
theorem inv_b {G : Hp} {r : Addr} {f : List Addr} (t : Tr G (.ref r) (.dict [(.str "b", .list [.int 1])]) f) : ∃ x, G r = some (.dK [(.inr "b", .ref x)]) ∧ G x = some (.lst [.int 1]) ∧ x ∈ f := by
  cases t with
  | dct h hs na nd =>
    cases hs with
    | cons a b =>
      cases b
      obtain ⟨x, rfl, e, m⟩ := inv_l a
      exact ⟨x, h, e, by simp [m]⟩
theorem inv_ab {G : Hp} {r : Addr} {f : List Addr} (t : Tr G (.ref r) (.dict [(.str "a", .list [.int 5]), (.str "b", .list [.int 1])]) f) : ∃ x y, G r = some (.dK [(.inr "a", .ref x), (.inr "b", .ref y)]) ∧ G x = some (.lst [.int 5]) ∧ G y = some (.lst [.int 1]) ∧ x ∈ f ∧ y ∈ f := by
  cases t with
  | dct h hs na nd =>
    cases hs with
    | cons a b =>
      cases b with
      | cons c d =>
        cases d
        obtain ⟨x, rfl, e, m⟩ := inv_l a
        obtain ⟨y, rfl, e2, m2⟩ := inv_l c
        exact ⟨x, y, h, e, e2, by simp [m], by simp [m2]⟩
theorem gd_one {x : Str} (hx : x ∈ keys6) {d : PyData} (hd : VOk 1 d) : GD [(.str x, d)] := gd_nil.put hx hd
theorem vok_l {i : Int} (h : i.natAbs < 10 ^ 18) : VOk 1 (.list [.int i]) := vok_list (n := 0) (fun d hd => by rw [List.mem_singleton.mp hd]; exact vok_int 0 h) (by simp)
theorem ap_b : apDs [] [one1] = [(.str "b", .list [.int 1])] := by rfl
theorem ap_ab : apDs [(.str "a", .list [.int 5])] [one1] = [(.str "a", .list [.int 5]), (.str "b", .list [.int 1])] := by kernel_rfl
theorem tr_one {G : Hp} {a l : Addr} {x : Str} {i : Int} (h : G a = some (.dK [(.inr x, .ref l)])) (hl : G l = some (.lst [.int i])) : Tr G (.ref a) (.dict [(.str x, .list [.int i])]) [a, l] :=
  .dct h (.cons (f1 := [l]) (.lst hl (.cons (.int i) .nil) (by simp)) .nil) (fun z => by
    have e := List.mem_singleton.mp (by simpa using z)
    rw [e, hl] at h; cases h) (by simp)
theorem PatF.nil {CP : Addr} {N M : Addr → Prop} {H : Hp} {p : V} (h : PatF CP N H p []) : PatF CP M H p [] := by
  obtain ⟨⟨q, dx, row, ws, e, e1, e2, pr⟩, ok, l⟩ := h
  cases pr
  exact ⟨⟨q, dx, row, _, e, e1, e2, .nil⟩, ok, l⟩
theorem disp2 {X : Hp} {p p1 p2 : Addr} {o o2 kd : HO} (hp : X p = none) (hp1 : upd X p (.dK []) p1 = none) (hp2 : upd (upd X p (.dK [])) p1 o p2 = none) : upd (upd (upd X p (.dK [])) p1 o) p2 o2 p = some (.dK []) ∧ Same X (upd (upd (upd (upd X p (.dK [])) p1 o) p2 o2) p kd) ∧ upd (upd (upd (upd X p (.dK [])) p1 o) p2 o2) p kd p = some kd ∧
    upd (upd (upd (upd X p (.dK [])) p1 o) p2 o2) p kd p1 = some o ∧ upd (upd (upd (upd X p (.dK [])) p1 o) p2 o2) p kd p2 = some o2 := by
  have c1 : p1 ≠ p := fun z => by rw [z, upd_same] at hp1; cases hp1
  have w1 : X p1 = none := by rw [upd_ne c1] at hp1; exact hp1
  have c2 : p2 ≠ p1 := fun z => by rw [z, upd_same] at hp2; cases hp2
  have c3 : p2 ≠ p := fun z => by rw [z, upd_ne c1.symm, upd_same] at hp2; cases hp2
  have w2 : X p2 = none := by rw [upd_ne c2, upd_ne c3] at hp2; exact hp2
  exact ⟨by rw [upd_ne c3.symm, upd_ne c1.symm]; exact upd_same, same_over (same_over (same_over (same_over (Same.refl _) hp) w1) w2) hp, upd_same, by rw [upd_ne c1, upd_ne c2.symm]; exact upd_same, by rw [upd_ne c3]; exact upd_same⟩
theorem val_aa (u v : V) : valV [((.inr "a" : Key), u), (.inr "b", v)] (.inr "a") = some u := by rw [vv_cons, if_pos rfl]
section
variable {g : Wd} {fa : Addr} {fd : FuncData} {CP CR CN : Addr}
theorem sc_l_fresh_right : FnScope ["_law_value_here", "_law_mapping_here", "_law_patch_here", "_law_near", "_law_told_here", "_law_longer"] [] (defScope s_l_fresh_right) := ⟨rfl, rfl, rfl, by decide +kernel, rfl, by decide +kernel, by decide +kernel⟩
def sp_fresh : Sp := S0 fun H Q _ => ∀ G, Same H G → Q (.bl true) G
theorem ok_fresh (F : Df g.K "_law_fresh_right" "_law_fresh_right" s_l_fresh_right fa fd .none) (T : Txt g) (CL_Patch : Cls g.K CP) (V_Patch : Gv g "Patch" (.ref CP)) (PL_Patch : Plain g CP) (SF_Patch : PySem.W.selfFirst g.K CP = true)
    (F_Patch : KcS g "Patch" CP 14 (spS 1 (sp_pinit CP CR))) (CM_Patch_between : KcmS g CP "between" 16 (sp_btw CP)) (M_Patch__call : Km g CP "__call__" 13 ["self", "mapping"] [] (sp_pcall CP)) (FI_Patch__call : FnAtC g.K CP "__call__")
    (M_Patch__add : Km g CP "__add__" 16 ["self", "other"] [] (sp_padd CP)) (M_Patch__eq : Km g CP "__eq__" 11 ["self", "other"] [] (sp_peq CP)) (M_Patch_deeds : Km g CP "deeds" 13 ["self"] [] (sp_pdeeds CP))
    (M_Patch__getitem : Km g CP "__getitem__" 13 ["self", "at"] [] (sp_pget CP CN)) (FI_Patch__getitem : FnAtC g.K CP "__getitem__") : FnG g 18 fa fd [] sp_fresh := by
  refine F.ok sc_l_fresh_right (fun vs H Q E h => S0.len h) (fun cdv A outer s H vs Q E hr h => ?_)
  obtain ⟨rfl, q⟩ := h
  refine ⟨_, (pss_mid (ps_par (i := 0) (j := 1) (by rfl) sc_l_fresh_right.nd rfl rfl (by decide) rfl rfl (pa_cons (pe_lst (pa_cons pe_int pa_nil)) (pa_cons (pe_disp (pps_cons pe_str (pe_lst (pa_cons pe_int pa_nil)) pps_nil) (by rfl) (by rfl) (fun z => by cases z) (by decide)) pa_nil)) (by rfl))
      (pss_mid (ps_par (i := 2) (j := 3) (by rfl) sc_l_fresh_right.nd rfl rfl (by decide) rfl rfl (pa_cons (RS.pe_makeS F_Patch (hr.mono (by first | decide | omega)) tkD (pa_cons (pe_tup (pa_cons pe_str (pa_cons pe_str (pa_cons (pv 0) pa_nil)))) pa_nil)) (pa_cons (pe_cmS (e_g V_Patch) CM_Patch_between (hr.mono (by first | decide | omega)) tkD (pa_cons pe_dnewK (pa_cons (pe_disp (pps_cons pe_str (pv 0) pps_nil) (by rfl) (by rfl) (fun z => by cases z) (by decide)) pa_nil))) pa_nil)) (by rfl))
      (pss_mid (ps_expr (e_bm (K := g.K) PySem.F.plainAttrs_list PySem.F.slot_list_append PySem.F.type_list_append mt_append (pv 0) (pa_cons pe_int pa_nil)))
      (pss_mid (ps_if (PW.pt (pw_or (t_neOwn M_Patch__eq PL_Patch (hr.mono (by first | decide | omega)) tkD (pv 3) (pv 2)) (pw_or1 (pt_cmpR (op_neDL (K := g.K) hr) (e_callOwn (pv 3) M_Patch__call FI_Patch__call (hr.mono (by first | decide | omega)) tkD (pa_cons pe_dnewK pa_nil)) (pe_disp (pps_cons pe_str (pe_lst (pa_cons pe_int pa_nil)) pps_nil) (by rfl) (by rfl) (fun z => by cases z) (by decide)) (nomark _))))) (pss_one (ps_ret pe_bl)) pss_nil)
      (pss_mid (ps_set (i := 4) sc_l_fresh_right.nd rfl (Or.inl rfl) (e_callOwn (pv 2) M_Patch__call FI_Patch__call (hr.mono (by first | decide | omega)) tkD (pa_cons (pv 1) pa_nil)))
      (pss_mid (ps_expr (e_bm (K := g.K) PySem.F.plainAttrs_list PySem.F.slot_list_append PySem.F.type_list_append mt_append (pe_dget (hu_of hr.room) (pv 4) pe_str (fun _ _ => rfl)) (pa_cons pe_int pa_nil)))
      (pss_mid (ps_expr (e_bm (K := g.K) PySem.F.plainAttrs_list PySem.F.slot_list_append PySem.F.type_list_append mt_append (pe_dget (hu_of hr.room) (pv 4) pe_str (fun _ _ => rfl)) (pa_cons pe_int pa_nil)))
      (pss_mid (ps_expr (e_bm (K := g.K) PySem.F.plainAttrs_list PySem.F.slot_list_append PySem.F.type_list_append mt_append (pe_ix (o_ix (K := g.K)) (e_ixOwn M_Patch__getitem FI_Patch__getitem (hr.mono (by first | decide | omega)) tkD (pv 2) pe_int) pe_int (fun _ _ => rfl)) (pa_cons pe_int pa_nil)))
      (pss_mid (ps_expr (e_bm (K := g.K) PySem.F.plainAttrs_list PySem.F.slot_list_append PySem.F.type_list_append mt_append (pe_ix (o_ix (K := g.K)) (pe_ix (o_ix (K := g.K)) (pe_methG0 (pv 2) CL_Patch M_Patch_deeds (hr.mono (by first | decide | omega)) tkD) pe_int (fun _ _ => rfl)) pe_int (fun _ _ => rfl)) (pa_cons pe_int pa_nil)))
      (pss_mid (ps_set (i := 5) sc_l_fresh_right.nd rfl (Or.inl rfl) (e_addOwn M_Patch__add SF_Patch (hr.mono (by first | decide | omega)) tkD (pv 2) (RS.pe_makeS0 F_Patch (hr.mono (by first | decide | omega)) tkD)))
      (pss_one (ps_ret (pe_and (pe_cmpR (op_eqDL (K := g.K) hr) (pv 1) (pe_disp (pps_cons pe_str (pe_lst (pa_cons pe_int pa_nil)) pps_nil) (by rfl) (by rfl) (fun z => by cases z) (by decide)) (nomark _)) (pe_and (pe_cmpR (op_eqDL (K := g.K) hr) (e_callOwn (pv 2) M_Patch__call FI_Patch__call (hr.mono (by first | decide | omega)) tkD (pa_cons (pv 1) pa_nil)) (pe_disp (pps_cons pe_str (pe_lst (pa_cons pe_int pa_nil)) (pps_cons pe_str (pe_lst (pa_cons pe_int pa_nil)) pps_nil)) (by rfl) (by rfl) (fun z => by cases z) (by decide)) (nomark _)) (pe_one (pe_cmpR (o_eq (K := g.K) hr) (e_ixOwn M_Patch__getitem FI_Patch__getitem (hr.mono (by first | decide | omega)) tkD (pv 5) pe_int) (pe_tup (pa_cons pe_str (pa_cons pe_str (pa_cons (pe_lst (pa_cons pe_int pa_nil)) pa_nil)))) (nomark _))))))))))))))))), ?_⟩
  refine mid_at (fun σ G => ∃ l1 ma l5, σ = [some (.ref l1), some (.ref ma), none, none, none, none] ∧ Same H G ∧ H l1 = none ∧ G l1 = some (.lst [.int 1]) ∧ G ma = some (.dK [(.inr "a", .ref l5)]) ∧ G l5 = some (.lst [.int 5]) ∧ l1 ≠ l5) ?_ ?_
  · walk_at "sx"
    intro l1 h1 ma hm l5 h5
    have s0 := same_upd (o := HO.lst [.int 1]) h1
    have e0 : upd H l1 (.lst [.int 1]) l1 = some (.lst [.int 1]) := upd_same
    generalize upd H l1 (.lst [.int 1]) = X at s0 e0 hm h5 ⊢
    have D := disp1 (o := HO.lst [.int 5]) (kd := HO.dK [(.inr "a", .ref l5)]) hm h5
    refine ⟨D.2.2.1, [(.inr "a", .ref l5)], rfl, by simp, ?_⟩
    rw [merge_a]
    exact ⟨s0.trans D.2.2.2.1, h1, D.2.2.2.1 _ _ e0, l5, rfl, D.2.2.2.2.2, fun z => by have := D.2.1; rw [← z, e0] at this; cases this⟩
  rintro _ G1 ⟨l1, ma, l5, rfl, s1, n1, e1, em, e5, n15⟩
  refine mid_at (fun σ G => ∃ p n w1 w2, σ = [some (.ref l1), some (.ref ma), some (.ref p), some (.ref n), none, none] ∧ Same G1 G ∧ OneP CP G p w1 ∧ OneP CP G n w2 ∧ G1 w1 = none ∧ G1 w2 = none) ?_ ?_
  · simp only [tMakeS, tCMethS, tRet, tRetN, tSeq, C8.tCut, tNext, tAsg, gName, gNil, gCons, gTup, gFld, tIfS, tIf, tAndV, tOrV, tNotV, tAnd, tOr, tNot, tB, tTest, tOp, tUn, tCB, tCons, tNil, tVar, tC, tChain, tDrop, RS.tCallG, RS.tMethG, tMakeG, RS.tCallK, RS.tMakeK, tEqOwn, rI, rI0, rU, add_ii, add_ss, add_rr, mul_ii, mul_si, mul_ri, RS.eq_ii, RS.eq_ss, eq_bb, eq_nn, eq_sn, eq_ns, eq_in, eq_ni, eq_bn, eq_nb, eq_is, eq_si, eq_rr, ne_ii, ne_ss, ne_bb, ne_nn, ne_sn, ne_ns, ne_in, ne_ni, ne_is, ne_si, ne_rr, in_ss, in_r, nin_ss, nin_r, len_s, len_r, RS.ix_s, RS.ix_r, sl_s, sl_r, is_eq, tyN_n, tyN_b, tyN_i, tyN_s, tru_b, tru_i, tru_n, tSl, tPart, tNoPart, tPar, tPar3, tFmtZ, tFmt, tJs, tDGet, sDPut, sFld, tFld, tTup, tLst, tNever, isB,
  L2.start, List.map_cons, List.map_nil, List.length_cons, List.length_nil, Nat.reduceAdd, Nat.reduceSub, Nat.sub_self, List.replicate_zero, List.replicate_succ, List.append_nil, List.cons_append, List.nil_append, List.getElem?_cons_zero, List.getElem?_cons_succ, List.set_cons_zero, List.set_cons_succ, Option.some.injEq, exists_eq_left, exists_eq_left', exists_and_left, V.bl.injEq, V.int.injEq, V.str.injEq, V.ref.injEq, beq_self_eq_true, Bool.true_or, Bool.or_true, Bool.false_or, Bool.or_false, Bool.and_false, Bool.false_and, Bool.true_and, Bool.and_true, Bool.not_true, Bool.not_false, Bool.false_eq_true, if_true, if_false, ite_true, ite_false, true_and, and_true, and_assoc, String.reduceBEq, String.reduceEq, reduceIte, Bool.and_self, reduceCtorEq, false_and, and_false, exists_false, or_false, false_or, exists_const, iEnumS, iStr, iList, iTup, iRng1, iEnum, tFor_eq, tLc_eq, List.cons.injEq, wipe, not_true_eq_false, not_false_eq_true, upd_same, HO.ins.injEq, HO.tup.injEq, HO.lst.injEq, ofS_eq, lk_nil, lk_cons, pu_nil, pu_cons, sizeLine_eq, Nat.reduceLT, Nat.reduceLeDiff, Nat.reduceEqDiff, Nat.le_refl, decide_true, decide_false, tPr, dget_us, dput_us, vv_nil, vv_cons, RS.pk_nil, pk_one, RS.pk_cons, inr_eq, tDisp, tPairs, tBoolOwn, rBoolOwn, tBM, rAppend, ty_list, ty_str, rEqOwn, iEnumT, RS.tCallS, tM1, tDc_eq, tLock, tLockE, iKeys, tListEnum, rUpdate, tMkX0, tMkX1, tXfv, gSub, rSetL, List.getD_cons_zero, List.getD_cons_succ, tBreak, tCMethS, ClX.tCVal, tXfa, tIxOwn, tInOwn, tPropG, tMethK, tMethP, tListGen, tDGet2, tDPop2, rNeD0, intA_i, intA_b, tRevL, sFldAug, tPm0, tPm1, tDIn, tDNotIn, tDNewK, RS.tMethS, tForK, tKM, tKC, tLcK, tKM2, tKC2, tMethStar, tKCK2, tLk, tAug, ipI, tDig, tLcX, tKMX, tKCX]
    intro t ht
    have st := same_upd (o := HO.tup [.str "put", .str "b", .ref l1]) ht
    have et : upd G1 t (.tup [.str "put", .str "b", .ref l1]) t = some (.tup [.str "put", .str "b", .ref l1]) := upd_same
    generalize upd G1 t (.tup [.str "put", .str "b", .ref l1]) = X at st et ⊢
    have e1X := st _ _ e1
    refine mk_patchA (N := fun c => c = l1) (es := [one1]) (.cons ⟨t, _, _, rfl, et, .lst e1X (.cons (.int 1) .nil) (by simp), fun c hc => by simpa using hc⟩ .nil) (fun dd hd => by rw [List.mem_singleton.mp hd]; exact one1_ok) (by simp) fun y G sG hy Py => ?_
    obtain ⟨w1, Q1, nw1⟩ := OneP.of Py
    intro p0 hp0 q0 hq0
    refine ⟨[(.inr "b", .ref l1)], rfl, by simp, ?_⟩
    rw [merge_b]
    have c1 : q0 ≠ p0 := fun z => by rw [z, upd_same] at hq0; cases hq0
    have w0 : G q0 = none := by rw [upd_ne c1] at hq0; exact hq0
    have sK : Same G (upd (upd (upd G p0 (.dK [])) q0 (.dK [])) q0 (.dK [(.inr "b", .ref l1)])) := same_over (same_over (same_over (Same.refl _) hp0) w0) w0
    have k1 : upd (upd (upd G p0 (.dK [])) q0 (.dK [])) q0 (.dK [(.inr "b", .ref l1)]) p0 = some (.dK []) := by rw [upd_ne c1.symm, upd_ne c1.symm]; exact upd_same
    have k2 : upd (upd (upd G p0 (.dK [])) q0 (.dK [])) q0 (.dK [(.inr "b", .ref l1)]) q0 = some (.dK [(.inr "b", .ref l1)]) := upd_same
    generalize upd (upd (upd G p0 (.dK [])) q0 (.dK [])) q0 (.dK [(.inr "b", .ref l1)]) = Y at sK k1 k2 ⊢
    have sY := sG.trans sK
    have e1Y := sY _ _ e1X
    refine ⟨_, _, _, rfl, rfl, p0, q0, _, [(.str "b", .list [.int 1])], [l1], rfl, k1, rfl, k2, .cons (f1 := [l1]) (.lst e1Y (.cons (.int 1) .nil) (by simp)) .nil, by simp, (gd_one (by decide +kernel) (vok_l (by decide))).map (tr_one k2 e1Y), c1.symm, fun c hc => ?_, fun dd hd => ?_, by simp, fun r Z sZ hr Pr => ?_⟩
    · rw [List.mem_singleton.mp hc]
      exact ⟨fun z => (by rw [z, k1] at e1Y; cases e1Y), fun z => (by rw [z, k2] at e1Y; cases e1Y)⟩
    · have e : putsOf [(.str "b", .list [.int 1])] = [one1] := rfl
      rw [e] at hd
      rw [List.mem_singleton.mp hd]; exact one1_ok
    · obtain ⟨w2, Q2, nw2⟩ := OneP.of Pr
      exact ⟨r, rfl, st.trans (sY.trans sZ), w1, Q1.same (sK.trans sZ), w2, Q2, none_of st nw1, none_of st (none_of sY nw2)⟩
  rintro _ G2 ⟨p, n, w1, w2, rfl, s2, P1, P2, nw1, nw2⟩
  have d1 : ∀ {c : Addr} {o : HO}, G1 c = some o → w1 ≠ c ∧ w2 ≠ c := fun h => ⟨fun z => (by rw [← z, nw1] at h; cases h), fun z => (by rw [← z, nw2] at h; cases h)⟩
  refine mid_one [some (.ref l1), some (.ref ma), some (.ref p), some (.ref n), none, none] (fun G => G = upd G2 l1 (.lst [.int 1, .int 2])) ?_ ?_
  · walk_at "sx"
    exact ⟨⟨_, SqL.of (s2 _ _ e1)⟩, _, s2 _ _ e1, by decide, rfl⟩
  rintro G3 eG3
  have P1 : OneP CP G3 p w1 := by rw [eG3]; exact P1.upd (s2 _ _ e1) (d1 e1).1.symm
  have P2 : OneP CP G3 n w2 := by rw [eG3]; exact P2.upd (s2 _ _ e1) (d1 e1).2.symm
  have k3 : ∀ {c : Addr} {o : HO}, c ≠ l1 → G1 c = some o → G3 c = some o := fun {c o} m h => by rw [eG3, upd_ne m]; exact s2 _ _ h
  have em := k3 (fun z => by rw [z, e1] at em; cases em) em
  have e5 := k3 n15.symm e5
  have s3 : Same H G3 := by rw [eG3]; exact same_over (s1.trans s2) n1
  clear eG3 d1 k3 nw1 nw2
  refine mid_one [some (.ref l1), some (.ref ma), some (.ref p), some (.ref n), none, none] (fun G => Same G3 G) ?_ ?_
  · simp only [tEqOwn, rEqOwn, tCallOwn, tRet, tRetN, tSeq, C8.tCut, tNext, tAsg, gName, gNil, gCons, gTup, gFld, tIfS, tIf, tAndV, tOrV, tNotV, tAnd, tOr, tNot, tB, tTest, tOp, tUn, tCB, tCons, tNil, tVar, tC, tChain, tDrop, RS.tCallG, RS.tMethG, tMakeG, RS.tCallK, RS.tMakeK, tEqOwn, rI, rI0, rU, add_ii, add_ss, add_rr, mul_ii, mul_si, mul_ri, RS.eq_ii, RS.eq_ss, eq_bb, eq_nn, eq_sn, eq_ns, eq_in, eq_ni, eq_bn, eq_nb, eq_is, eq_si, eq_rr, ne_ii, ne_ss, ne_bb, ne_nn, ne_sn, ne_ns, ne_in, ne_ni, ne_is, ne_si, ne_rr, in_ss, in_r, nin_ss, nin_r, len_s, len_r, RS.ix_s, RS.ix_r, sl_s, sl_r, is_eq, tyN_n, tyN_b, tyN_i, tyN_s, tru_b, tru_i, tru_n, tSl, tPart, tNoPart, tPar, tPar3, tFmtZ, tFmt, tJs, tDGet, sDPut, sFld, tFld, tTup, tLst, tNever, isB,
  L2.start, List.map_cons, List.map_nil, List.length_cons, List.length_nil, Nat.reduceAdd, Nat.reduceSub, Nat.sub_self, List.replicate_zero, List.replicate_succ, List.append_nil, List.cons_append, List.nil_append, List.getElem?_cons_zero, List.getElem?_cons_succ, List.set_cons_zero, List.set_cons_succ, Option.some.injEq, exists_eq_left, exists_eq_left', exists_and_left, V.bl.injEq, V.int.injEq, V.str.injEq, V.ref.injEq, beq_self_eq_true, Bool.true_or, Bool.or_true, Bool.false_or, Bool.or_false, Bool.and_false, Bool.false_and, Bool.true_and, Bool.and_true, Bool.not_true, Bool.not_false, Bool.false_eq_true, if_true, if_false, ite_true, ite_false, true_and, and_true, and_assoc, String.reduceBEq, String.reduceEq, reduceIte, Bool.and_self, reduceCtorEq, false_and, and_false, exists_false, or_false, false_or, exists_const, iEnumS, iStr, iList, iTup, iRng1, iEnum, tFor_eq, tLc_eq, List.cons.injEq, wipe, not_true_eq_false, not_false_eq_true, upd_same, HO.ins.injEq, HO.tup.injEq, HO.lst.injEq, ofS_eq, lk_nil, lk_cons, pu_nil, pu_cons, sizeLine_eq, Nat.reduceLT, Nat.reduceLeDiff, Nat.reduceEqDiff, Nat.le_refl, decide_true, decide_false, tPr, dget_us, dput_us, vv_nil, vv_cons, RS.pk_nil, pk_one, RS.pk_cons, inr_eq, tDisp, tPairs, tBoolOwn, rBoolOwn, tBM, rAppend, ty_list, ty_str, rEqOwn, iEnumT, RS.tCallS, tM1, tDc_eq, tLock, tLockE, iKeys, tListEnum, rUpdate, tMkX0, tMkX1, tXfv, gSub, rSetL, List.getD_cons_zero, List.getD_cons_succ, tBreak, tCMethS, ClX.tCVal, tXfa, tIxOwn, tInOwn, tPropG, tMethK, tMethP, tListGen, tDGet2, tDPop2, rNeD0, intA_i, intA_b, tRevL, sFldAug, tPm0, tPm1, tDIn, tDNotIn, tDNewK, RS.tMethS, tForK, tKM, tKC, tLcK, tKM2, tKC2, tMethStar, tKCK2, tLk, tAug, ipI, tDig, tLcX, tKMX, tKCX]
    obtain ⟨dp, row, t, ep, _⟩ := id P1
    obtain ⟨dn, rown, tn, en, _⟩ := id P2
    refine ⟨dn, _, en, .inr ⟨p, _, _, rfl, ep⟩, _, _, rfl, _, [one1], P2.pat, .inl ⟨_, [one1], P1.pat, fun Ga b sa hb => ⟨b, rfl, ?_⟩⟩⟩
    rw [if_neg (by simp [hb.mpr rfl])]
    intro c hc
    have sc := sa.trans (same_upd (o := HO.dK []) hc)
    refine ⟨dn, _, sc _ _ en, _, _, rfl, _, [one1], [], [c], (P2.same sc).pat, gd_nil.map (.dct upd_same .nil (by simp) (by simp)), by simp, fun r Gb fr sb tb nb => ?_⟩
    rw [ap_b] at tb
    obtain ⟨x, hx1, hx2, _⟩ := inv_b tb
    intro c2 hc2 c3 hc3
    have D := disp1 (o := HO.lst [.int 1]) (kd := HO.dK [(.inr "b", .ref c3)]) hc2 hc3
    refine ⟨D.2.2.1, [(.inr "b", .ref c3)], rfl, by simp, ?_⟩
    rw [merge_b]
    refine ⟨r, c2, _, _, rfl, rfl, D.2.2.2.1 _ _ hx1, D.2.2.2.2.1, rfl, eq_vals (fun q hq => ?_), _, rfl, ?_⟩
    · rw [List.mem_singleton.mp hq]
      exact ⟨x, c3, [1], rfl, by rw [vv_cons, if_pos rfl], D.2.2.2.1 _ _ hx2, D.2.2.2.2.2⟩
    · rw [if_neg (by simp)]
      exact sc.trans (sb.trans D.2.2.2.1)
  rintro G4 s4
  have P1 := P1.same s4
  have em := s4 _ _ em
  have e5 := s4 _ _ e5
  have s3 := s3.trans s4
  refine mid_at (fun σ G => ∃ r x5 x1, σ = [some (.ref l1), some (.ref ma), some (.ref p), some (.ref n), some (.ref r), none] ∧ Same G4 G ∧ G r = some (.dK [(.inr "a", .ref x5), (.inr "b", .ref x1)]) ∧ G x5 = some (.lst [.int 5]) ∧ G x1 = some (.lst [.int 1]) ∧ x5 ≠ x1 ∧ G4 x5 = none ∧ G4 x1 = none) ?_ ?_
  · simp only [tCallOwn, tRet, tRetN, tSeq, C8.tCut, tNext, tAsg, gName, gNil, gCons, gTup, gFld, tIfS, tIf, tAndV, tOrV, tNotV, tAnd, tOr, tNot, tB, tTest, tOp, tUn, tCB, tCons, tNil, tVar, tC, tChain, tDrop, RS.tCallG, RS.tMethG, tMakeG, RS.tCallK, RS.tMakeK, tEqOwn, rI, rI0, rU, add_ii, add_ss, add_rr, mul_ii, mul_si, mul_ri, RS.eq_ii, RS.eq_ss, eq_bb, eq_nn, eq_sn, eq_ns, eq_in, eq_ni, eq_bn, eq_nb, eq_is, eq_si, eq_rr, ne_ii, ne_ss, ne_bb, ne_nn, ne_sn, ne_ns, ne_in, ne_ni, ne_is, ne_si, ne_rr, in_ss, in_r, nin_ss, nin_r, len_s, len_r, RS.ix_s, RS.ix_r, sl_s, sl_r, is_eq, tyN_n, tyN_b, tyN_i, tyN_s, tru_b, tru_i, tru_n, tSl, tPart, tNoPart, tPar, tPar3, tFmtZ, tFmt, tJs, tDGet, sDPut, sFld, tFld, tTup, tLst, tNever, isB,
  L2.start, List.map_cons, List.map_nil, List.length_cons, List.length_nil, Nat.reduceAdd, Nat.reduceSub, Nat.sub_self, List.replicate_zero, List.replicate_succ, List.append_nil, List.cons_append, List.nil_append, List.getElem?_cons_zero, List.getElem?_cons_succ, List.set_cons_zero, List.set_cons_succ, Option.some.injEq, exists_eq_left, exists_eq_left', exists_and_left, V.bl.injEq, V.int.injEq, V.str.injEq, V.ref.injEq, beq_self_eq_true, Bool.true_or, Bool.or_true, Bool.false_or, Bool.or_false, Bool.and_false, Bool.false_and, Bool.true_and, Bool.and_true, Bool.not_true, Bool.not_false, Bool.false_eq_true, if_true, if_false, ite_true, ite_false, true_and, and_true, and_assoc, String.reduceBEq, String.reduceEq, reduceIte, Bool.and_self, reduceCtorEq, false_and, and_false, exists_false, or_false, false_or, exists_const, iEnumS, iStr, iList, iTup, iRng1, iEnum, tFor_eq, tLc_eq, List.cons.injEq, wipe, not_true_eq_false, not_false_eq_true, upd_same, HO.ins.injEq, HO.tup.injEq, HO.lst.injEq, ofS_eq, lk_nil, lk_cons, pu_nil, pu_cons, sizeLine_eq, Nat.reduceLT, Nat.reduceLeDiff, Nat.reduceEqDiff, Nat.le_refl, decide_true, decide_false, tPr, dget_us, dput_us, vv_nil, vv_cons, RS.pk_nil, pk_one, RS.pk_cons, inr_eq, tDisp, tPairs, tBoolOwn, rBoolOwn, tBM, rAppend, ty_list, ty_str, rEqOwn, iEnumT, RS.tCallS, tM1, tDc_eq, tLock, tLockE, iKeys, tListEnum, rUpdate, tMkX0, tMkX1, tXfv, gSub, rSetL, List.getD_cons_zero, List.getD_cons_succ, tBreak, tCMethS, ClX.tCVal, tXfa, tIxOwn, tInOwn, tPropG, tMethK, tMethP, tListGen, tDGet2, tDPop2, rNeD0, intA_i, intA_b, tRevL, sFldAug, tPm0, tPm1, tDIn, tDNotIn, tDNewK, RS.tMethS, tForK, tKM, tKC, tLcK, tKM2, tKC2, tMethStar, tKCK2, tLk, tAug, ipI, tDig, tLcX, tKMX, tKCX]
    obtain ⟨dp, row, t, ep, _⟩ := id P1
    refine ⟨dp, _, ep, _, _, rfl, _, [one1], [(.str "a", .list [.int 5])], _, P1.pat, (gd_one (by decide +kernel) (vok_l (by decide))).map (tr_one em e5), by simp, fun r Ga fr sa ta na => ⟨r, rfl, sa, ?_⟩⟩
    rw [ap_ab] at ta
    obtain ⟨x, y, h1, h2, h3, h4, h5⟩ := inv_ab ta
    exact ⟨x, y, h1, h2, h3, fun z => (by rw [z, h3] at h2; cases h2), na _ h4, na _ h5⟩
  rintro _ G5 ⟨r, x5, x1, rfl, s5, er, ex5, ex1, n51, m5, m1⟩
  have o4 : ∀ {c : Addr} {o : HO}, G4 c = some o → c ≠ x5 ∧ c ≠ x1 := fun h => ⟨fun z => (by rw [z, m5] at h; cases h), fun z => (by rw [z, m1] at h; cases h)⟩
  have ew : G4 w1 = some (.lst [.int 1]) := by obtain ⟨_, _, _, _, _, _, e⟩ := P1; exact e
  refine mid_one [some (.ref l1), some (.ref ma), some (.ref p), some (.ref n), some (.ref r), none] (fun G => G = upd G5 x1 (.lst [.int 1, .int 3])) ?_ ?_
  · walk_at "sx"
    have dg : DGet G5 r (.str "b") (some (.ref x1)) := by
      have := dget_x (x := "b") (.inl er)
      rwa [val_ab] at this
    exact ⟨.ref x1, dg, ty_lst ex1, x1, rfl, _, ex1, by decide, rfl⟩
  intro G6 eG6
  have P1 : OneP CP G6 p w1 := by rw [eG6]; exact (P1.same s5).upd ex1 (o4 ew).2.symm
  have k6 : ∀ {c : Addr} {o : HO}, c ≠ x1 → G5 c = some o → G6 c = some o := fun {c o} m h => by rw [eG6, upd_ne m]; exact h
  have em' := k6 (o4 em).2 (s5 _ _ em)
  have e5' := k6 (o4 e5).2 (s5 _ _ e5)
  have er := k6 (fun z => by rw [z, ex1] at er; cases er) er
  have ex5 := k6 n51 ex5
  have s6 : Same H G6 := by rw [eG6]; exact same_over (s3.trans s5) (none_of s3 m1)
  refine mid_one [some (.ref l1), some (.ref ma), some (.ref p), some (.ref n), some (.ref r), none] (fun G => G = upd G6 x5 (.lst [.int 5, .int 6])) ?_ ?_
  · walk_at "sx"
    have dg : DGet G6 r (.str "a") (some (.ref x5)) := by
      have := dget_x (x := "a") (.inl er)
      rwa [vv_cons, if_pos rfl] at this
    exact ⟨.ref x5, dg, ty_lst ex5, x5, rfl, _, ex5, by decide, rfl⟩
  intro G7 eG7
  have P1 : OneP CP G7 p w1 := by rw [eG7]; exact P1.upd ex5 (o4 ew).1.symm
  have k7 : ∀ {c : Addr} {o : HO}, c ≠ x5 → G6 c = some o → G7 c = some o := fun {c o} m h => by rw [eG7, upd_ne m]; exact h
  have em := k7 (o4 em).1 em'
  have e5 := k7 (o4 e5).1 e5'
  have s7 : Same H G7 := by rw [eG7]; exact same_over s6 (none_of s3 m5)
  clear eG7 k7 eG6 k6 o4 em' e5'
  obtain ⟨dp, row, t, ep, _⟩ := id P1
  refine mid_one [some (.ref l1), some (.ref ma), some (.ref p), some (.ref n), some (.ref r), none] (fun G => Same G7 G) ?_ ?_
  · simp only [tIxOwn, tRet, tRetN, tSeq, C8.tCut, tNext, tAsg, gName, gNil, gCons, gTup, gFld, tIfS, tIf, tAndV, tOrV, tNotV, tAnd, tOr, tNot, tB, tTest, tOp, tUn, tCB, tCons, tNil, tVar, tC, tChain, tDrop, RS.tCallG, RS.tMethG, tMakeG, RS.tCallK, RS.tMakeK, tEqOwn, rI, rI0, rU, add_ii, add_ss, add_rr, mul_ii, mul_si, mul_ri, RS.eq_ii, RS.eq_ss, eq_bb, eq_nn, eq_sn, eq_ns, eq_in, eq_ni, eq_bn, eq_nb, eq_is, eq_si, eq_rr, ne_ii, ne_ss, ne_bb, ne_nn, ne_sn, ne_ns, ne_in, ne_ni, ne_is, ne_si, ne_rr, in_ss, in_r, nin_ss, nin_r, len_s, len_r, RS.ix_s, RS.ix_r, sl_s, sl_r, is_eq, tyN_n, tyN_b, tyN_i, tyN_s, tru_b, tru_i, tru_n, tSl, tPart, tNoPart, tPar, tPar3, tFmtZ, tFmt, tJs, tDGet, sDPut, sFld, tFld, tTup, tLst, tNever, isB,
  L2.start, List.map_cons, List.map_nil, List.length_cons, List.length_nil, Nat.reduceAdd, Nat.reduceSub, Nat.sub_self, List.replicate_zero, List.replicate_succ, List.append_nil, List.cons_append, List.nil_append, List.getElem?_cons_zero, List.getElem?_cons_succ, List.set_cons_zero, List.set_cons_succ, Option.some.injEq, exists_eq_left, exists_eq_left', exists_and_left, V.bl.injEq, V.int.injEq, V.str.injEq, V.ref.injEq, beq_self_eq_true, Bool.true_or, Bool.or_true, Bool.false_or, Bool.or_false, Bool.and_false, Bool.false_and, Bool.true_and, Bool.and_true, Bool.not_true, Bool.not_false, Bool.false_eq_true, if_true, if_false, ite_true, ite_false, true_and, and_true, and_assoc, String.reduceBEq, String.reduceEq, reduceIte, Bool.and_self, reduceCtorEq, false_and, and_false, exists_false, or_false, false_or, exists_const, iEnumS, iStr, iList, iTup, iRng1, iEnum, tFor_eq, tLc_eq, List.cons.injEq, wipe, not_true_eq_false, not_false_eq_true, upd_same, HO.ins.injEq, HO.tup.injEq, HO.lst.injEq, ofS_eq, lk_nil, lk_cons, pu_nil, pu_cons, sizeLine_eq, Nat.reduceLT, Nat.reduceLeDiff, Nat.reduceEqDiff, Nat.le_refl, decide_true, decide_false, tPr, dget_us, dput_us, vv_nil, vv_cons, RS.pk_nil, pk_one, RS.pk_cons, inr_eq, tDisp, tPairs, tBoolOwn, rBoolOwn, tBM, rAppend, ty_list, ty_str, rEqOwn, iEnumT, RS.tCallS, tM1, tDc_eq, tLock, tLockE, iKeys, tListEnum, rUpdate, tMkX0, tMkX1, tXfv, gSub, rSetL, List.getD_cons_zero, List.getD_cons_succ, tBreak, tCMethS, ClX.tCVal, tXfa, tIxOwn, tInOwn, tPropG, tMethK, tMethP, tListGen, tDGet2, tDPop2, rNeD0, intA_i, intA_b, tRevL, sFldAug, tPm0, tPm1, tDIn, tDNotIn, tDNewK, RS.tMethS, tForK, tKM, tKC, tLcK, tKM2, tKC2, tMethStar, tKCK2, tLk, tAug, ipI, tDig, tLcX, tKMX, tKCX]
    refine ⟨dp, _, ep, _, _, rfl, _, [one1], P1.pat, .inl ⟨0, rfl, one1, rfl, fun v' G sG dG => ?_⟩⟩
    obtain ⟨tt, w, f, rfl, et, tw, nf⟩ := dG
    obtain ⟨x, rfl, ex, mx⟩ := inv_l tw
    rw [RS.ix_r]
    exact ⟨_, .inr (SqT.of et), .ref x, rfl, ty_lst ex, x, rfl, _, ex, by decide, same_over sG (nf x mx)⟩
  intro G8 s8
  have P1 := P1.same s8
  have em := s8 _ _ em
  have e5 := s8 _ _ e5
  have ep := s8 _ _ ep
  have s7 := s7.trans s8
  refine mid_one [some (.ref l1), some (.ref ma), some (.ref p), some (.ref n), some (.ref r), none] (fun G => Same G8 G) ?_ ?_
  · walk_at "sx"
    refine ⟨dp, _, ep, lkd, _, rfl, _, [one1], P1.pat, fun r ws G sG er pr => ?_⟩
    cases pr with
    | cons dG hs =>
      cases hs
      obtain ⟨tt, w, f, rfl, et, tw, nf⟩ := dG
      obtain ⟨x, rfl, ex, mx⟩ := inv_l tw
      rw [RS.ix_r]
      refine ⟨_, .inr (SqT.of er), .ref tt, rfl, ?_⟩
      rw [RS.ix_r]
      exact ⟨_, .inr (SqT.of et), .ref x, rfl, ty_lst ex, x, rfl, _, ex, by decide, same_over sG (nf x mx)⟩
  intro G9 s9
  have P1 := P1.same s9
  have em := s9 _ _ em
  have e5 := s9 _ _ e5
  have ep := s9 _ _ ep
  have s7 := s7.trans s9
  refine mid_at (fun σ G => ∃ l, σ = [some (.ref l1), some (.ref ma), some (.ref p), some (.ref n), some (.ref r), some (.ref l)] ∧ Same G9 G ∧ PatF CP (fun c => c = w1) G (.ref l) [one1]) ?_ ?_
  · simp only [tAddOwn, tMakeS, tRet, tRetN, tSeq, C8.tCut, tNext, tAsg, gName, gNil, gCons, gTup, gFld, tIfS, tIf, tAndV, tOrV, tNotV, tAnd, tOr, tNot, tB, tTest, tOp, tUn, tCB, tCons, tNil, tVar, tC, tChain, tDrop, RS.tCallG, RS.tMethG, tMakeG, RS.tCallK, RS.tMakeK, tEqOwn, rI, rI0, rU, add_ii, add_ss, add_rr, mul_ii, mul_si, mul_ri, RS.eq_ii, RS.eq_ss, eq_bb, eq_nn, eq_sn, eq_ns, eq_in, eq_ni, eq_bn, eq_nb, eq_is, eq_si, eq_rr, ne_ii, ne_ss, ne_bb, ne_nn, ne_sn, ne_ns, ne_in, ne_ni, ne_is, ne_si, ne_rr, in_ss, in_r, nin_ss, nin_r, len_s, len_r, RS.ix_s, RS.ix_r, sl_s, sl_r, is_eq, tyN_n, tyN_b, tyN_i, tyN_s, tru_b, tru_i, tru_n, tSl, tPart, tNoPart, tPar, tPar3, tFmtZ, tFmt, tJs, tDGet, sDPut, sFld, tFld, tTup, tLst, tNever, isB,
  L2.start, List.map_cons, List.map_nil, List.length_cons, List.length_nil, Nat.reduceAdd, Nat.reduceSub, Nat.sub_self, List.replicate_zero, List.replicate_succ, List.append_nil, List.cons_append, List.nil_append, List.getElem?_cons_zero, List.getElem?_cons_succ, List.set_cons_zero, List.set_cons_succ, Option.some.injEq, exists_eq_left, exists_eq_left', exists_and_left, V.bl.injEq, V.int.injEq, V.str.injEq, V.ref.injEq, beq_self_eq_true, Bool.true_or, Bool.or_true, Bool.false_or, Bool.or_false, Bool.and_false, Bool.false_and, Bool.true_and, Bool.and_true, Bool.not_true, Bool.not_false, Bool.false_eq_true, if_true, if_false, ite_true, ite_false, true_and, and_true, and_assoc, String.reduceBEq, String.reduceEq, reduceIte, Bool.and_self, reduceCtorEq, false_and, and_false, exists_false, or_false, false_or, exists_const, iEnumS, iStr, iList, iTup, iRng1, iEnum, tFor_eq, tLc_eq, List.cons.injEq, wipe, not_true_eq_false, not_false_eq_true, upd_same, HO.ins.injEq, HO.tup.injEq, HO.lst.injEq, ofS_eq, lk_nil, lk_cons, pu_nil, pu_cons, sizeLine_eq, Nat.reduceLT, Nat.reduceLeDiff, Nat.reduceEqDiff, Nat.le_refl, decide_true, decide_false, tPr, dget_us, dput_us, vv_nil, vv_cons, RS.pk_nil, pk_one, RS.pk_cons, inr_eq, tDisp, tPairs, tBoolOwn, rBoolOwn, tBM, rAppend, ty_list, ty_str, rEqOwn, iEnumT, RS.tCallS, tM1, tDc_eq, tLock, tLockE, iKeys, tListEnum, rUpdate, tMkX0, tMkX1, tXfv, gSub, rSetL, List.getD_cons_zero, List.getD_cons_succ, tBreak, tCMethS, ClX.tCVal, tXfa, tIxOwn, tInOwn, tPropG, tMethK, tMethP, tListGen, tDGet2, tDPop2, rNeD0, intA_i, intA_b, tRevL, sFldAug, tPm0, tPm1, tDIn, tDNotIn, tDNewK, RS.tMethS, tForK, tKM, tKC, tLcK, tKM2, tKC2, tMethStar, tKCK2, tLk, tAug, ipI, tDig, tLcX, tKMX, tKCX]
    refine mk_patchA (N := Tru) .nil (by simp) (by simp) fun y Ga sa hy Py => ?_
    obtain ⟨_, dxy, rowy, wsy, z, eyy, _⟩ := id Py.ex
    cases z
    exact ⟨dp, _, sa _ _ ep, dxy, _, eyy, _, _, rfl, _, [one1], [], (P1.same sa).pat, Py.nil, by simp, fun r Gb sb hr Pr => ⟨⟨_, rfl⟩, r, rfl, sa.trans sb, Pr⟩⟩
  rintro _ GA ⟨l, rfl, sA, PL⟩
  have P1 := P1.same sA
  have em := sA _ _ em
  have e5 := sA _ _ e5
  have ep := sA _ _ ep
  have s7 := s7.trans sA
  simp only [tCallOwn, tIxOwn, tRet, tRetN, tSeq, C8.tCut, tNext, tAsg, gName, gNil, gCons, gTup, gFld, tIfS, tIf, tAndV, tOrV, tNotV, tAnd, tOr, tNot, tB, tTest, tOp, tUn, tCB, tCons, tNil, tVar, tC, tChain, tDrop, RS.tCallG, RS.tMethG, tMakeG, RS.tCallK, RS.tMakeK, tEqOwn, rI, rI0, rU, add_ii, add_ss, add_rr, mul_ii, mul_si, mul_ri, RS.eq_ii, RS.eq_ss, eq_bb, eq_nn, eq_sn, eq_ns, eq_in, eq_ni, eq_bn, eq_nb, eq_is, eq_si, eq_rr, ne_ii, ne_ss, ne_bb, ne_nn, ne_sn, ne_ns, ne_in, ne_ni, ne_is, ne_si, ne_rr, in_ss, in_r, nin_ss, nin_r, len_s, len_r, RS.ix_s, RS.ix_r, sl_s, sl_r, is_eq, tyN_n, tyN_b, tyN_i, tyN_s, tru_b, tru_i, tru_n, tSl, tPart, tNoPart, tPar, tPar3, tFmtZ, tFmt, tJs, tDGet, sDPut, sFld, tFld, tTup, tLst, tNever, isB,
  L2.start, List.map_cons, List.map_nil, List.length_cons, List.length_nil, Nat.reduceAdd, Nat.reduceSub, Nat.sub_self, List.replicate_zero, List.replicate_succ, List.append_nil, List.cons_append, List.nil_append, List.getElem?_cons_zero, List.getElem?_cons_succ, List.set_cons_zero, List.set_cons_succ, Option.some.injEq, exists_eq_left, exists_eq_left', exists_and_left, V.bl.injEq, V.int.injEq, V.str.injEq, V.ref.injEq, beq_self_eq_true, Bool.true_or, Bool.or_true, Bool.false_or, Bool.or_false, Bool.and_false, Bool.false_and, Bool.true_and, Bool.and_true, Bool.not_true, Bool.not_false, Bool.false_eq_true, if_true, if_false, ite_true, ite_false, true_and, and_true, and_assoc, String.reduceBEq, String.reduceEq, reduceIte, Bool.and_self, reduceCtorEq, false_and, and_false, exists_false, or_false, false_or, exists_const, iEnumS, iStr, iList, iTup, iRng1, iEnum, tFor_eq, tLc_eq, List.cons.injEq, wipe, not_true_eq_false, not_false_eq_true, upd_same, HO.ins.injEq, HO.tup.injEq, HO.lst.injEq, ofS_eq, lk_nil, lk_cons, pu_nil, pu_cons, sizeLine_eq, Nat.reduceLT, Nat.reduceLeDiff, Nat.reduceEqDiff, Nat.le_refl, decide_true, decide_false, tPr, dget_us, dput_us, vv_nil, vv_cons, RS.pk_nil, pk_one, RS.pk_cons, inr_eq, tDisp, tPairs, tBoolOwn, rBoolOwn, tBM, rAppend, ty_list, ty_str, rEqOwn, iEnumT, RS.tCallS, tM1, tDc_eq, tLock, tLockE, iKeys, tListEnum, rUpdate, tMkX0, tMkX1, tXfv, gSub, rSetL, List.getD_cons_zero, List.getD_cons_succ, tBreak, tCMethS, ClX.tCVal, tXfa, tIxOwn, tInOwn, tPropG, tMethK, tMethP, tListGen, tDGet2, tDPop2, rNeD0, intA_i, intA_b, tRevL, sFldAug, tPm0, tPm1, tDIn, tDNotIn, tDNewK, RS.tMethS, tForK, tKM, tKC, tLcK, tKM2, tKC2, tMethStar, tKCK2, tLk, tAug, ipI, tDig, tLcX, tKMX, tKCX]
  intro c1 hc1 c2 hc2
  have D := disp1 (o := HO.lst [.int 5]) (kd := HO.dK [(.inr "a", .ref c2)]) hc1 hc2
  refine ⟨D.2.2.1, [(.inr "a", .ref c2)], rfl, by simp, ?_⟩
  rw [merge_a]
  refine ⟨ma, c1, _, _, rfl, rfl, D.2.2.2.1 _ _ em, D.2.2.2.2.1, rfl, eq_vals (fun q hq => ?_), true, rfl, ?_⟩
  · rw [List.mem_singleton.mp hq]
    exact ⟨l5, c2, [5], rfl, by rw [vv_cons, if_pos rfl], D.2.2.2.1 _ _ e5, D.2.2.2.2.2⟩
  rw [if_pos rfl]
  have sB := D.2.2.2.1
  generalize upd (upd (upd GA c1 (.dK [])) c2 (.lst [.int 5])) c1 (.dK [(.inr "a", .ref c2)]) = GB at sB ⊢
  refine ⟨dp, _, sB _ _ ep, _, _, rfl, _, [one1], [(.str "a", .list [.int 5])], _, (P1.same sB).pat, (gd_one (by decide +kernel) (vok_l (by decide))).map (tr_one (sB _ _ em) (sB _ _ e5)), by simp, fun r2 GC fr sC tC nC => ?_⟩
  rw [ap_ab] at tC
  obtain ⟨x, y, h1, h2, h3, _, _⟩ := inv_ab tC
  intro c3 hc3 c4 hc4 c5 hc5
  have D2 := disp2 (o := HO.lst [.int 5]) (o2 := HO.lst [.int 1]) (kd := HO.dK [(.inr "a", .ref c4), (.inr "b", .ref c5)]) hc3 hc4 hc5
  refine ⟨D2.1, [(.inr "a", .ref c4), (.inr "b", .ref c5)], rfl, by simp, ?_⟩
  rw [merge_ab]
  refine ⟨r2, c3, _, _, rfl, rfl, D2.2.1 _ _ h1, D2.2.2.1, rfl, eq_vals (fun q hq => ?_), true, rfl, ?_⟩
  · simp only [List.mem_cons, List.not_mem_nil, or_false] at hq
    rcases hq with rfl | rfl
    · exact ⟨x, c4, [5], rfl, val_aa _ _, D2.2.1 _ _ h2, D2.2.2.2.1⟩
    · exact ⟨y, c5, [1], rfl, val_ab _ _, D2.2.1 _ _ h3, D2.2.2.2.2⟩
  rw [if_pos rfl]
  have sD := sB.trans (sC.trans D2.2.1)
  generalize upd (upd (upd (upd GC c3 (.dK [])) c4 (.lst [.int 5])) c5 (.lst [.int 1])) c3 (.dK [(.inr "a", .ref c4), (.inr "b", .ref c5)]) = GD at sD ⊢
  obtain ⟨_, dxl, rowl, wsl, z, ell, _⟩ := id PL.ex
  cases z
  refine ⟨dxl, _, sD _ _ ell, _, _, rfl, _, [one1], PL.same sD, .inl ⟨0, rfl, one1, rfl, fun v' GE sE dG => ?_⟩⟩
  obtain ⟨tt, w, f, rfl, et, tw, nf⟩ := dG
  obtain ⟨x2, rfl, ex2, _⟩ := inv_l tw
  intro c6 hc6 c7 hc7
  have s8 := (same_upd (o := HO.lst [.int 1]) hc6).trans (same_upd (o := HO.tup [.str "put", .str "b", .ref c6]) hc7)
  have e6 : upd (upd GE c6 (.lst [.int 1])) c7 (.tup [.str "put", .str "b", .ref c6]) c6 = some (.lst [.int 1]) := same_upd hc7 _ _ upd_same
  rw [RS.eq_rr]
  refine ⟨.tuple [.str "put", .str "b", .list [.int 1]], .tuple [.str "put", .str "b", .list [.int 1]], .tup (SqT.of (s8 _ _ et)) (.cons (.str _) (.cons (.str _) (.cons (.lst (SqL.of (s8 _ _ ex2)) (.cons (.int 1) .nil)) .nil))), .tup (SqT.of upd_same) (.cons (.str _) (.cons (.str _) (.cons (.lst (SqL.of e6) (.cons (.int 1) .nil)) .nil))), by decide +kernel, by decide +kernel, ?_⟩
  have ev : PyData.eqv (.tuple [.str "put", .str "b", .list [.int 1]]) (.tuple [.str "put", .str "b", .list [.int 1]]) = true := by simp [PyData.eqv, PyData.eqvAll]
  rw [ev]
  exact q _ (s7.trans (sD.trans (sE.trans s8)))
end
theorem sq_step {K : PySem.W.Frag} {X X1 G : Hp} {a r : Addr} {xs : List V} (h : SqL K X a xs) (s : Same X X1) (hr : X r = none) (f : FrT [r] X1 G) : SqL K G a xs := by
  rcases h with (h | ⟨o, h⟩) | h
  · exact .inl (.inl (f _ _ (by simpa using fun z => by rw [z, hr] at h; cases h) (fun ps z => by cases z) (s _ _ h)))
  · exact .inl (.inr ⟨o, f _ _ (by simpa using fun z => by rw [z, hr] at h; cases h) (fun ps z => by cases z) (s _ _ h)⟩)
  · exact .inr h
section
variable {g : Wd} {fa : Addr} {fd : FuncData} {CP CR CN : Addr} {TS : List (Addr × Str)}
theorem sc_law : FnScope ["_law_script", "_law_k"] ["_law_script"] (defScope s_law) := ⟨rfl, rfl, rfl, by decide +kernel, rfl, by decide +kernel, by decide +kernel⟩
def sp_law (K : PySem.W.Frag) (TS : List (Addr × Str)) : Sp := S1 fun v H Q _ => ∃ (a : Addr) (ns : List Int), v = .ref a ∧ SqL K H a (ns.map V.int) ∧ ns.length ≤ 63 ∧ Tabs TS H ∧ ∀ G, Q (.bl true) G
theorem ok_law (F : Df g.K "law" "law" s_law fa fd .none) (T : Txt g) (CL_Patch : Cls g.K CP) (F_Patch : KcS g "Patch" CP 14 (spS 1 (sp_pinit CP CR))) (M_Patch__eq : Km g CP "__eq__" 11 ["self", "other"] [] (sp_peq CP))
    (F_l_fresh_right : Kn g "_law_fresh_right" 18 [] [] sp_fresh) (F_l_right : Kn g "_law_right" 22 ["_law_source_here"] [] (sp_right TS)) (F_l_source : Kn g "_law_source" 1 ["_law_script", "_law_k"] [] (sp_source g.K)) : FnG g 23 fa fd ["_law_script"] (sp_law g.K TS) := by
  refine F.ok sc_law (fun vs H Q E h => S1.len h) (fun cdv A outer s H vs Q E hr h => ?_)
  obtain ⟨_, rfl, a, ns, rfl, hl, hz, tb, q⟩ := h
  refine ⟨_, (pss_cons (ps_if (PW.pt (pw_or (pt_not (pt_val (pe_callG0 F_l_fresh_right (hr.mono (by first | decide | omega)) tkD))) (pw_or1 (t_eqOwn M_Patch__eq (hr.mono (by first | decide | omega)) tkD (RS.pe_makeS F_Patch (hr.mono (by first | decide | omega)) tkD (pa_cons (pe_tup (pa_cons pe_str (pa_cons pe_str (pa_cons pe_int pa_nil)))) pa_nil)) (RS.pe_makeS F_Patch (hr.mono (by first | decide | omega)) tkD (pa_cons (pe_tup (pa_cons pe_str (pa_cons pe_str (pa_cons pe_bl pa_nil)))) pa_nil)))))) (pss_one (ps_ret pe_bl)) pss_nil)
      (pss_cons (ps_for psD rfl (pi_range1 rfl T.b_range (pa_cons (pe_callB (call_max2 rfl) (by rfl) T.b_max (by decide +kernel) (pa_cons pe_int (pa_cons (pe_callB (call_min2 rfl) (by rfl) T.b_min (by decide +kernel) (pa_cons (pe_callB (c_len (K := g.K)) (by rfl) T.b_len bb_len (pa_cons (pv 0) pa_nil)) (pa_cons pe_int pa_nil))) pa_nil))) pa_nil)) (pg_name (i := 1) sc_law.nd rfl (.inl rfl)) (pss_one (ps_if (pt_not (pt_val (pe_callG F_l_right (hr.mono (by first | decide | omega)) tkD (pa_cons (pe_callG F_l_source (hr.mono (by first | decide | omega)) tkD (pa_cons (pv 0) (pa_cons (pv 1) pa_nil))) pa_nil)))) (pss_one (ps_ret pe_bl)) pss_nil)))
      (pss_one (ps_ret pe_bl)))), ?_⟩
  simp only [tEqOwn, rEqOwn, tMakeS, tRet, tRetN, tSeq, C8.tCut, tNext, tAsg, gName, gNil, gCons, gTup, gFld, tIfS, tIf, tAndV, tOrV, tNotV, tAnd, tOr, tNot, tB, tTest, tOp, tUn, tCB, tCons, tNil, tVar, tC, tChain, tDrop, RS.tCallG, RS.tMethG, tMakeG, RS.tCallK, RS.tMakeK, tEqOwn, rI, rI0, rU, add_ii, add_ss, add_rr, mul_ii, mul_si, mul_ri, RS.eq_ii, RS.eq_ss, eq_bb, eq_nn, eq_sn, eq_ns, eq_in, eq_ni, eq_bn, eq_nb, eq_is, eq_si, eq_rr, ne_ii, ne_ss, ne_bb, ne_nn, ne_sn, ne_ns, ne_in, ne_ni, ne_is, ne_si, ne_rr, in_ss, in_r, nin_ss, nin_r, len_s, len_r, RS.ix_s, RS.ix_r, sl_s, sl_r, is_eq, tyN_n, tyN_b, tyN_i, tyN_s, tru_b, tru_i, tru_n, tSl, tPart, tNoPart, tPar, tPar3, tFmtZ, tFmt, tJs, tDGet, sDPut, sFld, tFld, tTup, tLst, tNever, isB,
  L2.start, List.map_cons, List.map_nil, List.length_cons, List.length_nil, Nat.reduceAdd, Nat.reduceSub, Nat.sub_self, List.replicate_zero, List.replicate_succ, List.append_nil, List.cons_append, List.nil_append, List.getElem?_cons_zero, List.getElem?_cons_succ, List.set_cons_zero, List.set_cons_succ, Option.some.injEq, exists_eq_left, exists_eq_left', exists_and_left, V.bl.injEq, V.int.injEq, V.str.injEq, V.ref.injEq, beq_self_eq_true, Bool.true_or, Bool.or_true, Bool.false_or, Bool.or_false, Bool.and_false, Bool.false_and, Bool.true_and, Bool.and_true, Bool.not_true, Bool.not_false, Bool.false_eq_true, if_true, if_false, ite_true, ite_false, true_and, and_true, and_assoc, String.reduceBEq, String.reduceEq, reduceIte, Bool.and_self, reduceCtorEq, false_and, and_false, exists_false, or_false, false_or, exists_const, iEnumS, iStr, iList, iTup, iRng1, iEnum, tFor_eq, tLc_eq, List.cons.injEq, wipe, not_true_eq_false, not_false_eq_true, upd_same, HO.ins.injEq, HO.tup.injEq, HO.lst.injEq, ofS_eq, lk_nil, lk_cons, pu_nil, pu_cons, sizeLine_eq, Nat.reduceLT, Nat.reduceLeDiff, Nat.reduceEqDiff, Nat.le_refl, decide_true, decide_false, tPr, dget_us, dput_us, vv_nil, vv_cons, RS.pk_nil, pk_one, RS.pk_cons, inr_eq, tDisp, tPairs, tBoolOwn, rBoolOwn, tBM, rAppend, ty_list, ty_str, rEqOwn, iEnumT, RS.tCallS, tM1, tDc_eq, tLock, tLockE, iKeys, tListEnum, rUpdate, tMkX0, tMkX1, tXfv, gSub, rSetL, List.getD_cons_zero, List.getD_cons_succ, tBreak, tCMethS, ClX.tCVal, tXfa, tIxOwn, tInOwn, tPropG, tMethK, tMethP, tListGen, tDGet2, tDPop2, rNeD0, intA_i, intA_b, tRevL, sFldAug, tPm0, tPm1, tDIn, tDNotIn, tDNewK, RS.tMethS, tForK, tKM, tKC, tLcK, tKM2, tKC2, tMethStar, tKCK2, tLk, tAug, ipI, tDig, tLcX, tKMX, tKCX]
  refine ⟨rfl, fun G0 s0 => ⟨true, rfl, ?_⟩⟩
  rw [if_neg (by simp)]
  intro p hp
  have s1 := same_upd (o := HO.tup [.str "put", .str "a", .int 1]) hp
  have e1 : upd G0 p (.tup [.str "put", .str "a", .int 1]) p = some (.tup [.str "put", .str "a", .int 1]) := upd_same
  generalize upd G0 p (.tup [.str "put", .str "a", .int 1]) = X at s1 e1 ⊢
  refine mk_patchA (N := Tru) (es := [.put "a" (.int 1)]) (.cons ⟨p, _, [], rfl, e1, .int 1, by simp⟩ .nil) (fun dd hd => by rw [List.mem_singleton.mp hd]; exact ⟨by decide +kernel, vok_int 1 (by decide)⟩) (by simp) fun y G1 sG hy Py => ?_
  intro p2 hp2
  have s2 := same_upd (o := HO.tup [.str "put", .str "a", .bl true]) hp2
  have e2 : upd G1 p2 (.tup [.str "put", .str "a", .bl true]) p2 = some (.tup [.str "put", .str "a", .bl true]) := upd_same
  generalize upd G1 p2 (.tup [.str "put", .str "a", .bl true]) = X2 at s2 e2 ⊢
  refine mk_patchA (N := Tru) (es := [.put "a" (.bool true)]) (.cons ⟨p2, _, [], rfl, e2, .bl true, by simp⟩ .nil) (fun dd hd => by rw [List.mem_singleton.mp hd]; exact ⟨by decide +kernel, vok_bool 1 _⟩) (by simp) fun y2 G2 sG2 hy2 Py2 => ?_
  have s3 := s2.trans sG2
  obtain ⟨_, dx, row, ws, z, ey, _⟩ := id Py.ex
  cases z
  obtain ⟨_, dx2, row2, ws2, z, ey2, _⟩ := id Py2.ex
  cases z
  refine ⟨dx, _, s3 _ _ ey, .inr ⟨y2, _, _, rfl, ey2⟩, _, _, rfl, _, _, Py.same s3, .inl ⟨_, _, Py2, fun G3 b s4 hb => ⟨b, rfl, ?_⟩⟩⟩
  rw [if_neg (fun z => by have := hb.mp z; simp at this)]
  have sF := s0.trans (s1.trans (sG.trans (s3.trans s4)))
  refine .inl ⟨_, .inl (sq_same hl sF), ?_⟩
  rw [List.length_map]
  refine ⟨by split <;> (try split) <;> omega, by split <;> (try split) <;> omega, ?_⟩
  refine for_by _ (fun i σ X => (∃ v, σ = [some (.ref a), v]) ∧ SqL g.K X a (ns.map V.int) ∧ Tabs TS X) ⟨⟨_, rfl⟩, sq_same hl sF, RS.Tabs.same tb sF⟩ (fun i σ X lt P => lt) (fun σ X P => Nat.le_refl _) (fun i σ X z X' lt P yl => ?_) (fun σ X P => q X)
  obtain ⟨⟨v, rfl⟩, hX, tX⟩ := P
  obtain ⟨rfl, rfl⟩ := yl
  walk_at "sx"
  refine ⟨_, _, rfl, a, _, i, rfl, hX, fun v hv => ?_, by congr 1; omega, fun r X1 s1 hr hsrc => ?_⟩
  · obtain ⟨n, _, e⟩ := List.mem_map.mp hv
    exact ⟨n, e.symm⟩
  refine ⟨_, rfl, r, rfl, hsrc, RS.Tabs.same tX s1, fun G5 f5 t5 => ⟨_, rfl, ?_⟩⟩
  rw [if_neg (by simp)]
  exact ⟨⟨_, rfl⟩, sq_step hX s1 hr f5, t5⟩
end
open PySem PySem.Spec PyProof.Rows L2 RS LamX
theorem xst_InvalidMapping : XSt1 "InvalidMapping.__init__" s_InvalidMapping__init "given" "given" where
  bd := ⟨_, _, _, _, _, _, _, _, _, _, _, _, rfl, fun L fI cda cc => ⟨rfl, rfl, rfl, ⟨_, rfl⟩, rfl⟩⟩
  ar := ⟨_, rfl, rfl⟩
  ks := rfl
  kc := rfl
  ka := rfl
  kx := rfl
  kd := rfl
  co := rfl
  ge := rfl
  ce := by decide +kernel
  bi := fun oc kV doc pm an cdv ct cc u v => rfl
  ne := by decide
  dbg := by decide
theorem xst_InvalidNumber : XSt1 "InvalidNumber.__init__" s_InvalidNumber__init "given" "given" where
  bd := ⟨_, _, _, _, _, _, _, _, _, _, _, _, rfl, fun L fI cda cc => ⟨rfl, rfl, rfl, ⟨_, rfl⟩, rfl⟩⟩
  ar := ⟨_, rfl, rfl⟩
  ks := rfl
  kc := rfl
  ka := rfl
  kx := rfl
  kd := rfl
  co := rfl
  ge := rfl
  ce := by decide +kernel
  bi := fun oc kV doc pm an cdv ct cc u v => rfl
  ne := by decide
  dbg := by decide
theorem all_mk {l : PySem.W.OpenLaw} {w : World} {K : PySem.W.Frag} {h : Heap} {mg : Str → Option Value} {fa : Addr} {q : Program}
    {C_InvalidMapping fI_InvalidMapping cda_InvalidMapping cc_InvalidMapping : Addr} {oc_InvalidMapping kV_InvalidMapping doc_InvalidMapping pm_InvalidMapping ct_InvalidMapping ccl_InvalidMapping cl_InvalidMapping : Value} {od_InvalidMapping an_InvalidMapping cdd_InvalidMapping cld_InvalidMapping : Option Addr} {osl_InvalidMapping ccs_InvalidMapping csl_InvalidMapping : Array (Option Value)} {vs_InvalidMapping : Array Value} {file_InvalidMapping : Str} {tf_InvalidMapping : Tok}
    {C_InvalidNumber fI_InvalidNumber cda_InvalidNumber cc_InvalidNumber : Addr} {oc_InvalidNumber kV_InvalidNumber doc_InvalidNumber pm_InvalidNumber ct_InvalidNumber ccl_InvalidNumber cl_InvalidNumber : Value} {od_InvalidNumber an_InvalidNumber cdd_InvalidNumber cld_InvalidNumber : Option Addr} {osl_InvalidNumber ccs_InvalidNumber csl_InvalidNumber : Array (Option Value)} {vs_InvalidNumber : Array Value} {file_InvalidNumber : Str} {tf_InvalidNumber : Tok}
    {C_ShelfError : Addr}
    {C_Patch : Addr}
    {C_Ready : Addr}
    {f_items_of : Addr} {od_items_of an_items_of : Option Addr} {sl_items_of : Array (Option Value)} {oc_items_of kV_items_of dc_items_of pm_items_of cd_items_of ct_items_of : Value}
    {f_is_wrong_part : Addr} {od_is_wrong_part an_is_wrong_part : Option Addr} {sl_is_wrong_part : Array (Option Value)} {oc_is_wrong_part kV_is_wrong_part dc_is_wrong_part pm_is_wrong_part cd_is_wrong_part ct_is_wrong_part : Value}
    {f_string_notation : Addr} {od_string_notation an_string_notation : Option Addr} {sl_string_notation : Array (Option Value)} {oc_string_notation kV_string_notation dc_string_notation pm_string_notation cd_string_notation ct_string_notation : Value}
    {f_check_value : Addr} {od_check_value an_check_value : Option Addr} {sl_check_value : Array (Option Value)} {oc_check_value kV_check_value dc_check_value pm_check_value cd_check_value ct_check_value : Value}
    {f_copied : Addr} {od_copied an_copied : Option Addr} {sl_copied : Array (Option Value)} {oc_copied kV_copied dc_copied pm_copied cd_copied ct_copied : Value}
    {f_is_value : Addr} {od_is_value an_is_value : Option Addr} {sl_is_value : Array (Option Value)} {oc_is_value kV_is_value dc_is_value pm_is_value cd_is_value ct_is_value : Value}
    {f_is_key : Addr} {od_is_key an_is_key : Option Addr} {sl_is_key : Array (Option Value)} {oc_is_key kV_is_key dc_is_key pm_is_key cd_is_key ct_is_key : Value}
    {f_are_alike : Addr} {od_are_alike an_are_alike : Option Addr} {sl_are_alike : Array (Option Value)} {oc_are_alike kV_are_alike dc_are_alike pm_are_alike cd_are_alike ct_are_alike : Value}
    {f_check_mappings : Addr} {od_check_mappings an_check_mappings : Option Addr} {sl_check_mappings : Array (Option Value)} {oc_check_mappings kV_check_mappings dc_check_mappings pm_check_mappings cd_check_mappings ct_check_mappings : Value}
    {f_applied : Addr} {od_applied an_applied : Option Addr} {sl_applied : Array (Option Value)} {oc_applied kV_applied dc_applied pm_applied cd_applied ct_applied : Value}
    {f_l_pick : Addr} {od_l_pick an_l_pick : Option Addr} {sl_l_pick : Array (Option Value)} {oc_l_pick kV_l_pick dc_l_pick pm_l_pick cd_l_pick ct_l_pick : Value}
    {f_l_source : Addr} {od_l_source an_l_source : Option Addr} {sl_l_source : Array (Option Value)} {oc_l_source kV_l_source dc_l_source pm_l_source cd_l_source ct_l_source : Value}
    {f_l_string : Addr} {od_l_string an_l_string : Option Addr} {sl_l_string : Array (Option Value)} {oc_l_string kV_l_string dc_l_string pm_l_string cd_l_string ct_l_string : Value}
    {f_l_mapping : Addr} {od_l_mapping an_l_mapping : Option Addr} {sl_l_mapping : Array (Option Value)} {oc_l_mapping kV_l_mapping dc_l_mapping pm_l_mapping cd_l_mapping ct_l_mapping : Value}
    {f_l_deeds : Addr} {od_l_deeds an_l_deeds : Option Addr} {sl_l_deeds : Array (Option Value)} {oc_l_deeds kV_l_deeds dc_l_deeds pm_l_deeds cd_l_deeds ct_l_deeds : Value}
    {f_l_done : Addr} {od_l_done an_l_done : Option Addr} {sl_l_done : Array (Option Value)} {oc_l_done kV_l_done dc_l_done pm_l_done cd_l_done ct_l_done : Value}
    {f_is_deed : Addr} {od_is_deed an_is_deed : Option Addr} {sl_is_deed : Array (Option Value)} {oc_is_deed kV_is_deed dc_is_deed pm_is_deed cd_is_deed ct_is_deed : Value}
    {f_copied_deed : Addr} {od_copied_deed an_copied_deed : Option Addr} {sl_copied_deed : Array (Option Value)} {oc_copied_deed kV_copied_deed dc_copied_deed pm_copied_deed cd_copied_deed ct_copied_deed : Value}
    {f_Ready__init : Addr} {od_Ready__init an_Ready__init : Option Addr} {sl_Ready__init : Array (Option Value)} {oc_Ready__init kV_Ready__init dc_Ready__init pm_Ready__init cd_Ready__init ct_Ready__init : Value}
    {f_Patch__init : Addr} {od_Patch__init an_Patch__init : Option Addr} {sl_Patch__init : Array (Option Value)} {oc_Patch__init kV_Patch__init dc_Patch__init pm_Patch__init cd_Patch__init ct_Patch__init : Value}
    {f_Patch_deeds : Addr} {od_Patch_deeds an_Patch_deeds : Option Addr} {sl_Patch_deeds : Array (Option Value)} {oc_Patch_deeds kV_Patch_deeds dc_Patch_deeds pm_Patch_deeds cd_Patch_deeds ct_Patch_deeds : Value}
    {f_Patch__call : Addr} {od_Patch__call an_Patch__call : Option Addr} {sl_Patch__call : Array (Option Value)} {oc_Patch__call kV_Patch__call dc_Patch__call pm_Patch__call cd_Patch__call ct_Patch__call : Value}
    {f_Patch__add : Addr} {od_Patch__add an_Patch__add : Option Addr} {sl_Patch__add : Array (Option Value)} {oc_Patch__add kV_Patch__add dc_Patch__add pm_Patch__add cd_Patch__add ct_Patch__add : Value}
    {f_Patch__len : Addr} {od_Patch__len an_Patch__len : Option Addr} {sl_Patch__len : Array (Option Value)} {oc_Patch__len kV_Patch__len dc_Patch__len pm_Patch__len cd_Patch__len ct_Patch__len : Value}
    {f_Patch__bool : Addr} {od_Patch__bool an_Patch__bool : Option Addr} {sl_Patch__bool : Array (Option Value)} {oc_Patch__bool kV_Patch__bool dc_Patch__bool pm_Patch__bool cd_Patch__bool ct_Patch__bool : Value}
    {f_Patch__getitem : Addr} {od_Patch__getitem an_Patch__getitem : Option Addr} {sl_Patch__getitem : Array (Option Value)} {oc_Patch__getitem kV_Patch__getitem dc_Patch__getitem pm_Patch__getitem cd_Patch__getitem ct_Patch__getitem : Value}
    {f_Patch__contains : Addr} {od_Patch__contains an_Patch__contains : Option Addr} {sl_Patch__contains : Array (Option Value)} {oc_Patch__contains kV_Patch__contains dc_Patch__contains pm_Patch__contains cd_Patch__contains ct_Patch__contains : Value}
    {f_Patch__eq : Addr} {od_Patch__eq an_Patch__eq : Option Addr} {sl_Patch__eq : Array (Option Value)} {oc_Patch__eq kV_Patch__eq dc_Patch__eq pm_Patch__eq cd_Patch__eq ct_Patch__eq : Value}
    {f_kept_keys : Addr} {od_kept_keys an_kept_keys : Option Addr} {sl_kept_keys : Array (Option Value)} {oc_kept_keys kV_kept_keys dc_kept_keys pm_kept_keys cd_kept_keys ct_kept_keys : Value}
    {f_difference : Addr} {od_difference an_difference : Option Addr} {sl_difference : Array (Option Value)} {oc_difference kV_difference dc_difference pm_difference cd_difference ct_difference : Value}
    {p_Patch_between f_Patch_between : Addr} {re_Patch_between : List Value} {od_Patch_between an_Patch_between : Option Addr} {sl_Patch_between : Array (Option Value)} {oc_Patch_between kV_Patch_between dc_Patch_between pm_Patch_between cd_Patch_between ct_Patch_between : Value}
    {f_l_told : Addr} {od_l_told an_l_told : Option Addr} {sl_l_told : Array (Option Value)} {oc_l_told kV_l_told dc_l_told pm_l_told cd_l_told ct_l_told : Value}
    {f_l_read_right c_o_l_read_right P_l_read_right : Addr} {oo_l_read_right : Value} {ov_l_read_right : Array Value} {odd_l_read_right : Option Addr} {oss_l_read_right : Array (Option Value)} {od_l_read_right an_l_read_right : Option Addr} {sl_l_read_right : Array (Option Value)} {oc_l_read_right kV_l_read_right dc_l_read_right pm_l_read_right ct_l_read_right : Value}
    {f_l_pairs : Addr} {od_l_pairs an_l_pairs : Option Addr} {sl_l_pairs : Array (Option Value)} {oc_l_pairs kV_l_pairs dc_l_pairs pm_l_pairs cd_l_pairs ct_l_pairs : Value}
    {f_l_right : Addr} {od_l_right an_l_right : Option Addr} {sl_l_right : Array (Option Value)} {oc_l_right kV_l_right dc_l_right pm_l_right cd_l_right ct_l_right : Value}
    {f_l_fresh_right : Addr} {od_l_fresh_right an_l_fresh_right : Option Addr} {sl_l_fresh_right : Array (Option Value)} {oc_l_fresh_right kV_l_fresh_right dc_l_fresh_right pm_l_fresh_right cd_l_fresh_right ct_l_fresh_right : Value}
    {f_law : Addr} {od_law an_law : Option Addr} {sl_law : Array (Option Value)} {oc_law kV_law dc_law pm_law cd_law ct_law : Value}
    {f_wrong_path : Addr} {od_wrong_path an_wrong_path : Option Addr} {sl_wrong_path : Array (Option Value)} {oc_wrong_path kV_wrong_path dc_wrong_path pm_wrong_path cd_wrong_path ct_wrong_path : Value}
    {f_rebuilt : Addr} {od_rebuilt an_rebuilt : Option Addr} {sl_rebuilt : Array (Option Value)} {oc_rebuilt kV_rebuilt dc_rebuilt pm_rebuilt cd_rebuilt ct_rebuilt : Value}
    {f_value_notation : Addr} {od_value_notation an_value_notation : Option Addr} {sl_value_notation : Array (Option Value)} {oc_value_notation kV_value_notation dc_value_notation pm_value_notation cd_value_notation ct_value_notation : Value}
    {f_l_value : Addr} {od_l_value an_l_value : Option Addr} {sl_l_value : Array (Option Value)} {oc_l_value kV_l_value dc_l_value pm_l_value cd_l_value ct_l_value : Value}
    {f_l_patch : Addr} {od_l_patch an_l_patch : Option Addr} {sl_l_patch : Array (Option Value)} {oc_l_patch kV_l_patch dc_l_patch pm_l_patch cd_l_patch ct_l_patch : Value}
    {t_MOST_DIGITS : Tok}
    {t_MOST_ITEMS : Tok}
    {t_MOST_LEVELS : Tok}
    {t_MOST_KEY : Tok}
    {t_MOST_DEEDS : Tok}
    {A_ESC : Addr} {h1_ESC h2_ESC h3_ESC : Int} {k1_ESC k2_ESC k3_ESC u1_ESC u2_ESC u3_ESC : Tok} {n_ESC : Nat} (X : K.In h) (G : h.Ns mainGlobals mg) (hfa : mg "law" = some (.ref fa)) (TF : TabF q K h)
    (b_super : PySem.W.nsIn K mainGlobals "super" = some none)
    (xa : XA l.prog K)
    (aC_InvalidMapping : PySem.W.nsIn K mainGlobals "InvalidMapping" = some (some (.ref C_InvalidMapping)))
    (in_InvalidMapping : PySem.W.findIn K (.ref C_InvalidMapping) "__init__" = some (some (.ref fI_InvalidMapping)))
    (l_InvalidMapping : K.lookup fI_InvalidMapping = some ⟨oc_InvalidMapping, od_InvalidMapping, .func (PySem.W.ksFn "__init__" "InvalidMapping.__init__" (defArgs s_InvalidMapping__init) (defBody s_InvalidMapping__init) (defScope s_InvalidMapping__init) .none kV_InvalidMapping doc_InvalidMapping pm_InvalidMapping an_InvalidMapping (.ref cda_InvalidMapping) ct_InvalidMapping cc_InvalidMapping), osl_InvalidMapping⟩)
    (co_InvalidMapping : K.lookup cda_InvalidMapping = some ⟨ccl_InvalidMapping, cdd_InvalidMapping, .fields vs_InvalidMapping, ccs_InvalidMapping⟩)
    (fi_InvalidMapping : vs_InvalidMapping[2]? = some (.str file_InvalidMapping tf_InvalidMapping))
    (fe_InvalidMapping : ((l.prog.main.file : Str) == file_InvalidMapping) = true)
    (ce_InvalidMapping : K.lookup cc_InvalidMapping = some ⟨cl_InvalidMapping, cld_InvalidMapping, .cell (some (.ref C_InvalidMapping)), csl_InvalidMapping⟩)
    (xb_InvalidMapping : XB K C_InvalidMapping fI_InvalidMapping cda_InvalidMapping "InvalidMapping.__init__" "ValueError" "ValueError.__new__" "ValueError.__init__" [.type "ValueError", .type "Exception", .type "BaseException", .type "object"])
    (nf_InvalidMapping : PySem.W.findIn K (.ref C_InvalidMapping) "given" = some none)
    (aC_InvalidNumber : PySem.W.nsIn K mainGlobals "InvalidNumber" = some (some (.ref C_InvalidNumber)))
    (in_InvalidNumber : PySem.W.findIn K (.ref C_InvalidNumber) "__init__" = some (some (.ref fI_InvalidNumber)))
    (l_InvalidNumber : K.lookup fI_InvalidNumber = some ⟨oc_InvalidNumber, od_InvalidNumber, .func (PySem.W.ksFn "__init__" "InvalidNumber.__init__" (defArgs s_InvalidNumber__init) (defBody s_InvalidNumber__init) (defScope s_InvalidNumber__init) .none kV_InvalidNumber doc_InvalidNumber pm_InvalidNumber an_InvalidNumber (.ref cda_InvalidNumber) ct_InvalidNumber cc_InvalidNumber), osl_InvalidNumber⟩)
    (co_InvalidNumber : K.lookup cda_InvalidNumber = some ⟨ccl_InvalidNumber, cdd_InvalidNumber, .fields vs_InvalidNumber, ccs_InvalidNumber⟩)
    (fi_InvalidNumber : vs_InvalidNumber[2]? = some (.str file_InvalidNumber tf_InvalidNumber))
    (fe_InvalidNumber : ((l.prog.main.file : Str) == file_InvalidNumber) = true)
    (ce_InvalidNumber : K.lookup cc_InvalidNumber = some ⟨cl_InvalidNumber, cld_InvalidNumber, .cell (some (.ref C_InvalidNumber)), csl_InvalidNumber⟩)
    (xb_InvalidNumber : XB K C_InvalidNumber fI_InvalidNumber cda_InvalidNumber "InvalidNumber.__init__" "ValueError" "ValueError.__new__" "ValueError.__init__" [.type "ValueError", .type "Exception", .type "BaseException", .type "object"])
    (nf_InvalidNumber : PySem.W.findIn K (.ref C_InvalidNumber) "given" = some none)
    (tyX_InvalidMapping : PySem.W.typeIn K (.ref C_InvalidMapping) = some (.type "type"))
    (tyX_InvalidNumber : PySem.W.typeIn K (.ref C_InvalidNumber) = some (.type "type"))
    (aC_ShelfError : PySem.W.nsIn K mainGlobals "ShelfError" = some (some (.ref C_ShelfError)))
    (aC_Patch : PySem.W.nsIn K mainGlobals "Patch" = some (some (.ref C_Patch)))
    (pg_Patch : PySem.W.plainGet K C_Patch Str.empty = true)
    (hd_Patch : PySem.W.hasDictIn K C_Patch = true)
    (po_Patch : PySem.W.plainOver K C_Patch = true)
    (sa_Patch : PySem.W.findIn K (.ref C_Patch) "__setattr__" = some (some (.builtin "object.__setattr__")))
    (kc_Patch : PySem.W.keepIn K (.ref C_Patch) = true)
    (mk_Patch : PySem.W.makesIn K C_Patch = true)
    (ha_Patch : PySem.W.findIn K (.ref C_Patch) "__class__" = some (some (.builtin "object.__class__")))
    (hn_Patch : PySem.W.specialIn K (.builtin "object.__class__") "__get__" = some (some (.builtin "getset_descriptor.__get__")))
    (ht_Patch : PySem.W.takesIn K (.builtin "object.__class__") = some true)
    (hm_Patch : PySem.W.mroIn K C_Patch (.type "object") = some true)
    (ty_Patch : PySem.W.typeIn K (.ref C_Patch) = some (.type "type"))
    (aC_Ready : PySem.W.nsIn K mainGlobals "Ready" = some (some (.ref C_Ready)))
    (pg_Ready : PySem.W.plainGet K C_Ready Str.empty = true)
    (hd_Ready : PySem.W.hasDictIn K C_Ready = true)
    (po_Ready : PySem.W.plainOver K C_Ready = true)
    (sa_Ready : PySem.W.findIn K (.ref C_Ready) "__setattr__" = some (some (.builtin "object.__setattr__")))
    (kc_Ready : PySem.W.keepIn K (.ref C_Ready) = true)
    (mk_Ready : PySem.W.makesIn K C_Ready = true)
    (ha_Ready : PySem.W.findIn K (.ref C_Ready) "__class__" = some (some (.builtin "object.__class__")))
    (hn_Ready : PySem.W.specialIn K (.builtin "object.__class__") "__get__" = some (some (.builtin "getset_descriptor.__get__")))
    (ht_Ready : PySem.W.takesIn K (.builtin "object.__class__") = some true)
    (hm_Ready : PySem.W.mroIn K C_Ready (.type "object") = some true)
    (ty_Ready : PySem.W.typeIn K (.ref C_Ready) = some (.type "type"))
    (na_Patch_own_deeds : PySem.W.findIn K (.ref C_Patch) "own_deeds" = some none)
    (na_Ready_row : PySem.W.findIn K (.ref C_Ready) "row" = some none)
    (a_items_of : PySem.W.nsIn K mainGlobals "items_of" = some (some (.ref f_items_of)))
    (l_items_of : K.lookup f_items_of = some ⟨oc_items_of, od_items_of, .func (PySem.W.fnOf "items_of" "items_of" (defArgs s_items_of) (defBody s_items_of) (defScope s_items_of) .none kV_items_of dc_items_of pm_items_of an_items_of cd_items_of ct_items_of), sl_items_of⟩)
    (c_items_of : PySem.W.codeIn K cd_items_of "items_of" = true)
    (k_items_of : PySem.W.keepIn K (.ref f_items_of) = true)
    (a_is_wrong_part : PySem.W.nsIn K mainGlobals "is_wrong_part" = some (some (.ref f_is_wrong_part)))
    (l_is_wrong_part : K.lookup f_is_wrong_part = some ⟨oc_is_wrong_part, od_is_wrong_part, .func (PySem.W.fnOf "is_wrong_part" "is_wrong_part" (defArgs s_is_wrong_part) (defBody s_is_wrong_part) (defScope s_is_wrong_part) .none kV_is_wrong_part dc_is_wrong_part pm_is_wrong_part an_is_wrong_part cd_is_wrong_part ct_is_wrong_part), sl_is_wrong_part⟩)
    (c_is_wrong_part : PySem.W.codeIn K cd_is_wrong_part "is_wrong_part" = true)
    (k_is_wrong_part : PySem.W.keepIn K (.ref f_is_wrong_part) = true)
    (a_string_notation : PySem.W.nsIn K mainGlobals "string_notation" = some (some (.ref f_string_notation)))
    (l_string_notation : K.lookup f_string_notation = some ⟨oc_string_notation, od_string_notation, .func (PySem.W.fnOf "string_notation" "string_notation" (defArgs s_string_notation) (defBody s_string_notation) (defScope s_string_notation) .none kV_string_notation dc_string_notation pm_string_notation an_string_notation cd_string_notation ct_string_notation), sl_string_notation⟩)
    (c_string_notation : PySem.W.codeIn K cd_string_notation "string_notation" = true)
    (k_string_notation : PySem.W.keepIn K (.ref f_string_notation) = true)
    (a_check_value : PySem.W.nsIn K mainGlobals "check_value" = some (some (.ref f_check_value)))
    (l_check_value : K.lookup f_check_value = some ⟨oc_check_value, od_check_value, .func (PySem.W.fnOf "check_value" "check_value" (defArgs s_check_value) (defBody s_check_value) (defScope s_check_value) .none kV_check_value dc_check_value pm_check_value an_check_value cd_check_value ct_check_value), sl_check_value⟩)
    (c_check_value : PySem.W.codeIn K cd_check_value "check_value" = true)
    (k_check_value : PySem.W.keepIn K (.ref f_check_value) = true)
    (a_copied : PySem.W.nsIn K mainGlobals "copied" = some (some (.ref f_copied)))
    (l_copied : K.lookup f_copied = some ⟨oc_copied, od_copied, .func (PySem.W.fnOf "copied" "copied" (defArgs s_copied) (defBody s_copied) (defScope s_copied) .none kV_copied dc_copied pm_copied an_copied cd_copied ct_copied), sl_copied⟩)
    (c_copied : PySem.W.codeIn K cd_copied "copied" = true)
    (k_copied : PySem.W.keepIn K (.ref f_copied) = true)
    (a_is_value : PySem.W.nsIn K mainGlobals "is_value" = some (some (.ref f_is_value)))
    (l_is_value : K.lookup f_is_value = some ⟨oc_is_value, od_is_value, .func (PySem.W.fnOf "is_value" "is_value" (defArgs s_is_value) (defBody s_is_value) (defScope s_is_value) .none kV_is_value dc_is_value pm_is_value an_is_value cd_is_value ct_is_value), sl_is_value⟩)
    (c_is_value : PySem.W.codeIn K cd_is_value "is_value" = true)
    (k_is_value : PySem.W.keepIn K (.ref f_is_value) = true)
    (a_is_key : PySem.W.nsIn K mainGlobals "is_key" = some (some (.ref f_is_key)))
    (l_is_key : K.lookup f_is_key = some ⟨oc_is_key, od_is_key, .func (PySem.W.fnOf "is_key" "is_key" (defArgs s_is_key) (defBody s_is_key) (defScope s_is_key) .none kV_is_key dc_is_key pm_is_key an_is_key cd_is_key ct_is_key), sl_is_key⟩)
    (c_is_key : PySem.W.codeIn K cd_is_key "is_key" = true)
    (k_is_key : PySem.W.keepIn K (.ref f_is_key) = true)
    (a_are_alike : PySem.W.nsIn K mainGlobals "are_alike" = some (some (.ref f_are_alike)))
    (l_are_alike : K.lookup f_are_alike = some ⟨oc_are_alike, od_are_alike, .func (PySem.W.fnOf "are_alike" "are_alike" (defArgs s_are_alike) (defBody s_are_alike) (defScope s_are_alike) .none kV_are_alike dc_are_alike pm_are_alike an_are_alike cd_are_alike ct_are_alike), sl_are_alike⟩)
    (c_are_alike : PySem.W.codeIn K cd_are_alike "are_alike" = true)
    (k_are_alike : PySem.W.keepIn K (.ref f_are_alike) = true)
    (a_check_mappings : PySem.W.nsIn K mainGlobals "check_mappings" = some (some (.ref f_check_mappings)))
    (l_check_mappings : K.lookup f_check_mappings = some ⟨oc_check_mappings, od_check_mappings, .func (PySem.W.fnOf "check_mappings" "check_mappings" (defArgs s_check_mappings) (defBody s_check_mappings) (defScope s_check_mappings) .none kV_check_mappings dc_check_mappings pm_check_mappings an_check_mappings cd_check_mappings ct_check_mappings), sl_check_mappings⟩)
    (c_check_mappings : PySem.W.codeIn K cd_check_mappings "check_mappings" = true)
    (k_check_mappings : PySem.W.keepIn K (.ref f_check_mappings) = true)
    (a_applied : PySem.W.nsIn K mainGlobals "applied" = some (some (.ref f_applied)))
    (l_applied : K.lookup f_applied = some ⟨oc_applied, od_applied, .func (PySem.W.fnOf "applied" "applied" (defArgs s_applied) (defBody s_applied) (defScope s_applied) .none kV_applied dc_applied pm_applied an_applied cd_applied ct_applied), sl_applied⟩)
    (c_applied : PySem.W.codeIn K cd_applied "applied" = true)
    (k_applied : PySem.W.keepIn K (.ref f_applied) = true)
    (a_l_pick : PySem.W.nsIn K mainGlobals "_law_pick" = some (some (.ref f_l_pick)))
    (l_l_pick : K.lookup f_l_pick = some ⟨oc_l_pick, od_l_pick, .func (PySem.W.fnOf "_law_pick" "_law_pick" (defArgs s_l_pick) (defBody s_l_pick) (defScope s_l_pick) .none kV_l_pick dc_l_pick pm_l_pick an_l_pick cd_l_pick ct_l_pick), sl_l_pick⟩)
    (c_l_pick : PySem.W.codeIn K cd_l_pick "_law_pick" = true)
    (k_l_pick : PySem.W.keepIn K (.ref f_l_pick) = true)
    (a_l_source : PySem.W.nsIn K mainGlobals "_law_source" = some (some (.ref f_l_source)))
    (l_l_source : K.lookup f_l_source = some ⟨oc_l_source, od_l_source, .func (PySem.W.fnOf "_law_source" "_law_source" (defArgs s_l_source) (defBody s_l_source) (defScope s_l_source) .none kV_l_source dc_l_source pm_l_source an_l_source cd_l_source ct_l_source), sl_l_source⟩)
    (c_l_source : PySem.W.codeIn K cd_l_source "_law_source" = true)
    (k_l_source : PySem.W.keepIn K (.ref f_l_source) = true)
    (a_l_string : PySem.W.nsIn K mainGlobals "_law_string" = some (some (.ref f_l_string)))
    (l_l_string : K.lookup f_l_string = some ⟨oc_l_string, od_l_string, .func (PySem.W.fnOf "_law_string" "_law_string" (defArgs s_l_string) (defBody s_l_string) (defScope s_l_string) .none kV_l_string dc_l_string pm_l_string an_l_string cd_l_string ct_l_string), sl_l_string⟩)
    (c_l_string : PySem.W.codeIn K cd_l_string "_law_string" = true)
    (k_l_string : PySem.W.keepIn K (.ref f_l_string) = true)
    (a_l_mapping : PySem.W.nsIn K mainGlobals "_law_mapping" = some (some (.ref f_l_mapping)))
    (l_l_mapping : K.lookup f_l_mapping = some ⟨oc_l_mapping, od_l_mapping, .func (PySem.W.fnOf "_law_mapping" "_law_mapping" (defArgs s_l_mapping) (defBody s_l_mapping) (defScope s_l_mapping) .none kV_l_mapping dc_l_mapping pm_l_mapping an_l_mapping cd_l_mapping ct_l_mapping), sl_l_mapping⟩)
    (c_l_mapping : PySem.W.codeIn K cd_l_mapping "_law_mapping" = true)
    (k_l_mapping : PySem.W.keepIn K (.ref f_l_mapping) = true)
    (a_l_deeds : PySem.W.nsIn K mainGlobals "_law_deeds" = some (some (.ref f_l_deeds)))
    (l_l_deeds : K.lookup f_l_deeds = some ⟨oc_l_deeds, od_l_deeds, .func (PySem.W.fnOf "_law_deeds" "_law_deeds" (defArgs s_l_deeds) (defBody s_l_deeds) (defScope s_l_deeds) .none kV_l_deeds dc_l_deeds pm_l_deeds an_l_deeds cd_l_deeds ct_l_deeds), sl_l_deeds⟩)
    (c_l_deeds : PySem.W.codeIn K cd_l_deeds "_law_deeds" = true)
    (k_l_deeds : PySem.W.keepIn K (.ref f_l_deeds) = true)
    (a_l_done : PySem.W.nsIn K mainGlobals "_law_done" = some (some (.ref f_l_done)))
    (l_l_done : K.lookup f_l_done = some ⟨oc_l_done, od_l_done, .func (PySem.W.fnOf "_law_done" "_law_done" (defArgs s_l_done) (defBody s_l_done) (defScope s_l_done) .none kV_l_done dc_l_done pm_l_done an_l_done cd_l_done ct_l_done), sl_l_done⟩)
    (c_l_done : PySem.W.codeIn K cd_l_done "_law_done" = true)
    (k_l_done : PySem.W.keepIn K (.ref f_l_done) = true)
    (a_is_deed : PySem.W.nsIn K mainGlobals "is_deed" = some (some (.ref f_is_deed)))
    (l_is_deed : K.lookup f_is_deed = some ⟨oc_is_deed, od_is_deed, .func (PySem.W.fnOf "is_deed" "is_deed" (defArgs s_is_deed) (defBody s_is_deed) (defScope s_is_deed) .none kV_is_deed dc_is_deed pm_is_deed an_is_deed cd_is_deed ct_is_deed), sl_is_deed⟩)
    (c_is_deed : PySem.W.codeIn K cd_is_deed "is_deed" = true)
    (k_is_deed : PySem.W.keepIn K (.ref f_is_deed) = true)
    (a_copied_deed : PySem.W.nsIn K mainGlobals "copied_deed" = some (some (.ref f_copied_deed)))
    (l_copied_deed : K.lookup f_copied_deed = some ⟨oc_copied_deed, od_copied_deed, .func (PySem.W.fnOf "copied_deed" "copied_deed" (defArgs s_copied_deed) (defBody s_copied_deed) (defScope s_copied_deed) .none kV_copied_deed dc_copied_deed pm_copied_deed an_copied_deed cd_copied_deed ct_copied_deed), sl_copied_deed⟩)
    (c_copied_deed : PySem.W.codeIn K cd_copied_deed "copied_deed" = true)
    (k_copied_deed : PySem.W.keepIn K (.ref f_copied_deed) = true)
    (a_Ready__init : PySem.W.findIn K (.ref C_Ready) "__init__" = some (some (.ref f_Ready__init)))
    (i_Ready__init : PySem.W.isFn K (.ref f_Ready__init) = true)
    (l_Ready__init : K.lookup f_Ready__init = some ⟨oc_Ready__init, od_Ready__init, .func (PySem.W.fnOf "__init__" "Ready.__init__" (defArgs s_Ready__init) (defBody s_Ready__init) (defScope s_Ready__init) .none kV_Ready__init dc_Ready__init pm_Ready__init an_Ready__init cd_Ready__init ct_Ready__init), sl_Ready__init⟩)
    (c_Ready__init : PySem.W.codeIn K cd_Ready__init "Ready.__init__" = true)
    (k_Ready__init : PySem.W.keepIn K (.ref f_Ready__init) = true)
    (a_Patch__init : PySem.W.findIn K (.ref C_Patch) "__init__" = some (some (.ref f_Patch__init)))
    (i_Patch__init : PySem.W.isFn K (.ref f_Patch__init) = true)
    (l_Patch__init : K.lookup f_Patch__init = some ⟨oc_Patch__init, od_Patch__init, .func (PySem.W.fnOf "__init__" "Patch.__init__" (defArgs s_Patch__init) (defBody s_Patch__init) (defScope s_Patch__init) .none kV_Patch__init dc_Patch__init pm_Patch__init an_Patch__init cd_Patch__init ct_Patch__init), sl_Patch__init⟩)
    (c_Patch__init : PySem.W.codeIn K cd_Patch__init "Patch.__init__" = true)
    (k_Patch__init : PySem.W.keepIn K (.ref f_Patch__init) = true)
    (a_Patch_deeds : PySem.W.findIn K (.ref C_Patch) "deeds" = some (some (.ref f_Patch_deeds)))
    (i_Patch_deeds : PySem.W.isFn K (.ref f_Patch_deeds) = true)
    (l_Patch_deeds : K.lookup f_Patch_deeds = some ⟨oc_Patch_deeds, od_Patch_deeds, .func (PySem.W.fnOf "deeds" "Patch.deeds" (defArgs s_Patch_deeds) (defBody s_Patch_deeds) (defScope s_Patch_deeds) .none kV_Patch_deeds dc_Patch_deeds pm_Patch_deeds an_Patch_deeds cd_Patch_deeds ct_Patch_deeds), sl_Patch_deeds⟩)
    (c_Patch_deeds : PySem.W.codeIn K cd_Patch_deeds "Patch.deeds" = true)
    (k_Patch_deeds : PySem.W.keepIn K (.ref f_Patch_deeds) = true)
    (a_Patch__call : PySem.W.findIn K (.ref C_Patch) "__call__" = some (some (.ref f_Patch__call)))
    (i_Patch__call : PySem.W.isFn K (.ref f_Patch__call) = true)
    (l_Patch__call : K.lookup f_Patch__call = some ⟨oc_Patch__call, od_Patch__call, .func (PySem.W.fnOf "__call__" "Patch.__call__" (defArgs s_Patch__call) (defBody s_Patch__call) (defScope s_Patch__call) .none kV_Patch__call dc_Patch__call pm_Patch__call an_Patch__call cd_Patch__call ct_Patch__call), sl_Patch__call⟩)
    (c_Patch__call : PySem.W.codeIn K cd_Patch__call "Patch.__call__" = true)
    (k_Patch__call : PySem.W.keepIn K (.ref f_Patch__call) = true)
    (a_Patch__add : PySem.W.findIn K (.ref C_Patch) "__add__" = some (some (.ref f_Patch__add)))
    (i_Patch__add : PySem.W.isFn K (.ref f_Patch__add) = true)
    (l_Patch__add : K.lookup f_Patch__add = some ⟨oc_Patch__add, od_Patch__add, .func (PySem.W.fnOf "__add__" "Patch.__add__" (defArgs s_Patch__add) (defBody s_Patch__add) (defScope s_Patch__add) .none kV_Patch__add dc_Patch__add pm_Patch__add an_Patch__add cd_Patch__add ct_Patch__add), sl_Patch__add⟩)
    (c_Patch__add : PySem.W.codeIn K cd_Patch__add "Patch.__add__" = true)
    (k_Patch__add : PySem.W.keepIn K (.ref f_Patch__add) = true)
    (a_Patch__len : PySem.W.findIn K (.ref C_Patch) "__len__" = some (some (.ref f_Patch__len)))
    (i_Patch__len : PySem.W.isFn K (.ref f_Patch__len) = true)
    (l_Patch__len : K.lookup f_Patch__len = some ⟨oc_Patch__len, od_Patch__len, .func (PySem.W.fnOf "__len__" "Patch.__len__" (defArgs s_Patch__len) (defBody s_Patch__len) (defScope s_Patch__len) .none kV_Patch__len dc_Patch__len pm_Patch__len an_Patch__len cd_Patch__len ct_Patch__len), sl_Patch__len⟩)
    (c_Patch__len : PySem.W.codeIn K cd_Patch__len "Patch.__len__" = true)
    (k_Patch__len : PySem.W.keepIn K (.ref f_Patch__len) = true)
    (a_Patch__bool : PySem.W.findIn K (.ref C_Patch) "__bool__" = some (some (.ref f_Patch__bool)))
    (i_Patch__bool : PySem.W.isFn K (.ref f_Patch__bool) = true)
    (l_Patch__bool : K.lookup f_Patch__bool = some ⟨oc_Patch__bool, od_Patch__bool, .func (PySem.W.fnOf "__bool__" "Patch.__bool__" (defArgs s_Patch__bool) (defBody s_Patch__bool) (defScope s_Patch__bool) .none kV_Patch__bool dc_Patch__bool pm_Patch__bool an_Patch__bool cd_Patch__bool ct_Patch__bool), sl_Patch__bool⟩)
    (c_Patch__bool : PySem.W.codeIn K cd_Patch__bool "Patch.__bool__" = true)
    (k_Patch__bool : PySem.W.keepIn K (.ref f_Patch__bool) = true)
    (a_Patch__getitem : PySem.W.findIn K (.ref C_Patch) "__getitem__" = some (some (.ref f_Patch__getitem)))
    (i_Patch__getitem : PySem.W.isFn K (.ref f_Patch__getitem) = true)
    (l_Patch__getitem : K.lookup f_Patch__getitem = some ⟨oc_Patch__getitem, od_Patch__getitem, .func (PySem.W.fnOf "__getitem__" "Patch.__getitem__" (defArgs s_Patch__getitem) (defBody s_Patch__getitem) (defScope s_Patch__getitem) .none kV_Patch__getitem dc_Patch__getitem pm_Patch__getitem an_Patch__getitem cd_Patch__getitem ct_Patch__getitem), sl_Patch__getitem⟩)
    (c_Patch__getitem : PySem.W.codeIn K cd_Patch__getitem "Patch.__getitem__" = true)
    (k_Patch__getitem : PySem.W.keepIn K (.ref f_Patch__getitem) = true)
    (a_Patch__contains : PySem.W.findIn K (.ref C_Patch) "__contains__" = some (some (.ref f_Patch__contains)))
    (i_Patch__contains : PySem.W.isFn K (.ref f_Patch__contains) = true)
    (l_Patch__contains : K.lookup f_Patch__contains = some ⟨oc_Patch__contains, od_Patch__contains, .func (PySem.W.fnOf "__contains__" "Patch.__contains__" (defArgs s_Patch__contains) (defBody s_Patch__contains) (defScope s_Patch__contains) .none kV_Patch__contains dc_Patch__contains pm_Patch__contains an_Patch__contains cd_Patch__contains ct_Patch__contains), sl_Patch__contains⟩)
    (c_Patch__contains : PySem.W.codeIn K cd_Patch__contains "Patch.__contains__" = true)
    (k_Patch__contains : PySem.W.keepIn K (.ref f_Patch__contains) = true)
    (a_Patch__eq : PySem.W.findIn K (.ref C_Patch) "__eq__" = some (some (.ref f_Patch__eq)))
    (i_Patch__eq : PySem.W.isFn K (.ref f_Patch__eq) = true)
    (l_Patch__eq : K.lookup f_Patch__eq = some ⟨oc_Patch__eq, od_Patch__eq, .func (PySem.W.fnOf "__eq__" "Patch.__eq__" (defArgs s_Patch__eq) (defBody s_Patch__eq) (defScope s_Patch__eq) .none kV_Patch__eq dc_Patch__eq pm_Patch__eq an_Patch__eq cd_Patch__eq ct_Patch__eq), sl_Patch__eq⟩)
    (c_Patch__eq : PySem.W.codeIn K cd_Patch__eq "Patch.__eq__" = true)
    (k_Patch__eq : PySem.W.keepIn K (.ref f_Patch__eq) = true)
    (a_kept_keys : PySem.W.nsIn K mainGlobals "kept_keys" = some (some (.ref f_kept_keys)))
    (l_kept_keys : K.lookup f_kept_keys = some ⟨oc_kept_keys, od_kept_keys, .func (PySem.W.fnOf "kept_keys" "kept_keys" (defArgs s_kept_keys) (defBody s_kept_keys) (defScope s_kept_keys) .none kV_kept_keys dc_kept_keys pm_kept_keys an_kept_keys cd_kept_keys ct_kept_keys), sl_kept_keys⟩)
    (c_kept_keys : PySem.W.codeIn K cd_kept_keys "kept_keys" = true)
    (k_kept_keys : PySem.W.keepIn K (.ref f_kept_keys) = true)
    (a_difference : PySem.W.nsIn K mainGlobals "difference" = some (some (.ref f_difference)))
    (l_difference : K.lookup f_difference = some ⟨oc_difference, od_difference, .func (PySem.W.fnOf "difference" "difference" (defArgs s_difference) (defBody s_difference) (defScope s_difference) .none kV_difference dc_difference pm_difference an_difference cd_difference ct_difference), sl_difference⟩)
    (c_difference : PySem.W.codeIn K cd_difference "difference" = true)
    (k_difference : PySem.W.keepIn K (.ref f_difference) = true)
    (at_Patch_between : PySem.W.findCls K (.ref C_Patch) (.type "type") "between" = some (.get (.builtin "classmethod.__get__") (.ref p_Patch_between) .none (.ref C_Patch)))
    (rc_Patch_between : PySem.W.recIn K p_Patch_between "classmethod" = some (.ref f_Patch_between :: re_Patch_between))
    (fi_Patch_between : PySem.W.fnIn K f_Patch_between = true)
    (l_Patch_between : K.lookup f_Patch_between = some ⟨oc_Patch_between, od_Patch_between, .func (PySem.W.fnOf "between" "Patch.between" (defArgs s_Patch_between) (defBody s_Patch_between) (defScope s_Patch_between) .none kV_Patch_between dc_Patch_between pm_Patch_between an_Patch_between cd_Patch_between ct_Patch_between), sl_Patch_between⟩)
    (c_Patch_between : PySem.W.codeIn K cd_Patch_between "Patch.between" = true)
    (k_Patch_between : PySem.W.keepIn K (.ref f_Patch_between) = true)
    (a_l_told : PySem.W.nsIn K mainGlobals "_law_told" = some (some (.ref f_l_told)))
    (l_l_told : K.lookup f_l_told = some ⟨oc_l_told, od_l_told, .func (PySem.W.fnOf "_law_told" "_law_told" (defArgs s_l_told) (defBody s_l_told) (defScope s_l_told) .none kV_l_told dc_l_told pm_l_told an_l_told cd_l_told ct_l_told), sl_l_told⟩)
    (c_l_told : PySem.W.codeIn K cd_l_told "_law_told" = true)
    (k_l_told : PySem.W.keepIn K (.ref f_l_told) = true)
    (a_l_read_right : PySem.W.nsIn K mainGlobals "_law_read_right" = some (some (.ref f_l_read_right)))
    (l_l_read_right : K.lookup f_l_read_right = some ⟨oc_l_read_right, od_l_read_right, .func (PySem.W.fnOf "_law_read_right" "_law_read_right" (defArgs s_l_read_right) (defBody s_l_read_right) (defScope s_l_read_right) .none kV_l_read_right dc_l_read_right pm_l_read_right an_l_read_right (.ref c_o_l_read_right) ct_l_read_right), sl_l_read_right⟩)
    (c_l_read_right : PySem.W.codeIn K (.ref c_o_l_read_right) "_law_read_right" = true)
    (k_l_read_right : PySem.W.keepIn K (.ref f_l_read_right) = true)
    (co_l_read_right : K.lookup c_o_l_read_right = some ⟨oo_l_read_right, odd_l_read_right, .fields ov_l_read_right, oss_l_read_right⟩)
    (ov_l_read_right : (ov_l_read_right[11]? : Option Value) = some (.ref P_l_read_right))
    (ti_l_read_right : PySem.W.tabIn K "_law_read_right" = some (c_o_l_read_right, P_l_read_right))
    (tn_l_read_right : K.lookup P_l_read_right = none)
    (rs_l_read_right : ((recsOf q).find? (fun e => e.name == ("_law_read_right" : Str))).isSome = true)
    (a_l_pairs : PySem.W.nsIn K mainGlobals "_law_pairs" = some (some (.ref f_l_pairs)))
    (l_l_pairs : K.lookup f_l_pairs = some ⟨oc_l_pairs, od_l_pairs, .func (PySem.W.fnOf "_law_pairs" "_law_pairs" (defArgs s_l_pairs) (defBody s_l_pairs) (defScope s_l_pairs) .none kV_l_pairs dc_l_pairs pm_l_pairs an_l_pairs cd_l_pairs ct_l_pairs), sl_l_pairs⟩)
    (c_l_pairs : PySem.W.codeIn K cd_l_pairs "_law_pairs" = true)
    (k_l_pairs : PySem.W.keepIn K (.ref f_l_pairs) = true)
    (a_l_right : PySem.W.nsIn K mainGlobals "_law_right" = some (some (.ref f_l_right)))
    (l_l_right : K.lookup f_l_right = some ⟨oc_l_right, od_l_right, .func (PySem.W.fnOf "_law_right" "_law_right" (defArgs s_l_right) (defBody s_l_right) (defScope s_l_right) .none kV_l_right dc_l_right pm_l_right an_l_right cd_l_right ct_l_right), sl_l_right⟩)
    (c_l_right : PySem.W.codeIn K cd_l_right "_law_right" = true)
    (k_l_right : PySem.W.keepIn K (.ref f_l_right) = true)
    (a_l_fresh_right : PySem.W.nsIn K mainGlobals "_law_fresh_right" = some (some (.ref f_l_fresh_right)))
    (l_l_fresh_right : K.lookup f_l_fresh_right = some ⟨oc_l_fresh_right, od_l_fresh_right, .func (PySem.W.fnOf "_law_fresh_right" "_law_fresh_right" (defArgs s_l_fresh_right) (defBody s_l_fresh_right) (defScope s_l_fresh_right) .none kV_l_fresh_right dc_l_fresh_right pm_l_fresh_right an_l_fresh_right cd_l_fresh_right ct_l_fresh_right), sl_l_fresh_right⟩)
    (c_l_fresh_right : PySem.W.codeIn K cd_l_fresh_right "_law_fresh_right" = true)
    (k_l_fresh_right : PySem.W.keepIn K (.ref f_l_fresh_right) = true)
    (a_law : PySem.W.nsIn K mainGlobals "law" = some (some (.ref f_law)))
    (l_law : K.lookup f_law = some ⟨oc_law, od_law, .func (PySem.W.fnOf "law" "law" (defArgs s_law) (defBody s_law) (defScope s_law) .none kV_law dc_law pm_law an_law cd_law ct_law), sl_law⟩)
    (c_law : PySem.W.codeIn K cd_law "law" = true)
    (k_law : PySem.W.keepIn K (.ref f_law) = true)
    (a_wrong_path : PySem.W.nsIn K mainGlobals "wrong_path" = some (some (.ref f_wrong_path)))
    (l_wrong_path : K.lookup f_wrong_path = some ⟨oc_wrong_path, od_wrong_path, .func (PySem.W.fnOf "wrong_path" "wrong_path" (defArgs s_wrong_path) (defBody s_wrong_path) (defScope s_wrong_path) .none kV_wrong_path dc_wrong_path pm_wrong_path an_wrong_path cd_wrong_path ct_wrong_path), sl_wrong_path⟩)
    (c_wrong_path : PySem.W.codeIn K cd_wrong_path "wrong_path" = true)
    (k_wrong_path : PySem.W.keepIn K (.ref f_wrong_path) = true)
    (a_rebuilt : PySem.W.nsIn K mainGlobals "rebuilt" = some (some (.ref f_rebuilt)))
    (l_rebuilt : K.lookup f_rebuilt = some ⟨oc_rebuilt, od_rebuilt, .func (PySem.W.fnOf "rebuilt" "rebuilt" (defArgs s_rebuilt) (defBody s_rebuilt) (defScope s_rebuilt) .none kV_rebuilt dc_rebuilt pm_rebuilt an_rebuilt cd_rebuilt ct_rebuilt), sl_rebuilt⟩)
    (c_rebuilt : PySem.W.codeIn K cd_rebuilt "rebuilt" = true)
    (k_rebuilt : PySem.W.keepIn K (.ref f_rebuilt) = true)
    (a_value_notation : PySem.W.nsIn K mainGlobals "value_notation" = some (some (.ref f_value_notation)))
    (l_value_notation : K.lookup f_value_notation = some ⟨oc_value_notation, od_value_notation, .func (PySem.W.fnOf "value_notation" "value_notation" (defArgs s_value_notation) (defBody s_value_notation) (defScope s_value_notation) .none kV_value_notation dc_value_notation pm_value_notation an_value_notation cd_value_notation ct_value_notation), sl_value_notation⟩)
    (c_value_notation : PySem.W.codeIn K cd_value_notation "value_notation" = true)
    (k_value_notation : PySem.W.keepIn K (.ref f_value_notation) = true)
    (a_l_value : PySem.W.nsIn K mainGlobals "_law_value" = some (some (.ref f_l_value)))
    (l_l_value : K.lookup f_l_value = some ⟨oc_l_value, od_l_value, .func (PySem.W.fnOf "_law_value" "_law_value" (defArgs s_l_value) (defBody s_l_value) (defScope s_l_value) .none kV_l_value dc_l_value pm_l_value an_l_value cd_l_value ct_l_value), sl_l_value⟩)
    (c_l_value : PySem.W.codeIn K cd_l_value "_law_value" = true)
    (k_l_value : PySem.W.keepIn K (.ref f_l_value) = true)
    (a_l_patch : PySem.W.nsIn K mainGlobals "_law_patch" = some (some (.ref f_l_patch)))
    (l_l_patch : K.lookup f_l_patch = some ⟨oc_l_patch, od_l_patch, .func (PySem.W.fnOf "_law_patch" "_law_patch" (defArgs s_l_patch) (defBody s_l_patch) (defScope s_l_patch) .none kV_l_patch dc_l_patch pm_l_patch an_l_patch cd_l_patch ct_l_patch), sl_l_patch⟩)
    (c_l_patch : PySem.W.codeIn K cd_l_patch "_law_patch" = true)
    (k_l_patch : PySem.W.keepIn K (.ref f_l_patch) = true)
    (b_len : PySem.W.nsIn K mainGlobals "len" = some none)
    (b_isinstance : PySem.W.nsIn K mainGlobals "isinstance" = some none)
    (b_repr : PySem.W.nsIn K mainGlobals "repr" = some none)
    (b_enumerate : PySem.W.nsIn K mainGlobals "enumerate" = some none)
    (b_range : PySem.W.nsIn K mainGlobals "range" = some none)
    (b_list : PySem.W.nsIn K mainGlobals "list" = some none)
    (b_tuple : PySem.W.nsIn K mainGlobals "tuple" = some none)
    (b_dict : PySem.W.nsIn K mainGlobals "dict" = some none)
    (b_bool : PySem.W.nsIn K mainGlobals "bool" = some none)
    (b_int : PySem.W.nsIn K mainGlobals "int" = some none)
    (b_str : PySem.W.nsIn K mainGlobals "str" = some none)
    (b_abs : PySem.W.nsIn K mainGlobals "abs" = some none)
    (b_all : PySem.W.nsIn K mainGlobals "all" = some none)
    (b_any : PySem.W.nsIn K mainGlobals "any" = some none)
    (b_sorted : PySem.W.nsIn K mainGlobals "sorted" = some none)
    (b_set : PySem.W.nsIn K mainGlobals "set" = some none)
    (b_max : PySem.W.nsIn K mainGlobals "max" = some none)
    (b_min : PySem.W.nsIn K mainGlobals "min" = some none)
    (v_MOST_DIGITS : PySem.W.nsIn K mainGlobals "MOST_DIGITS" = some (some (.int 100 t_MOST_DIGITS)))
    (v_MOST_ITEMS : PySem.W.nsIn K mainGlobals "MOST_ITEMS" = some (some (.int 10000 t_MOST_ITEMS)))
    (v_MOST_LEVELS : PySem.W.nsIn K mainGlobals "MOST_LEVELS" = some (some (.int 20 t_MOST_LEVELS)))
    (v_MOST_KEY : PySem.W.nsIn K mainGlobals "MOST_KEY" = some (some (.int 200 t_MOST_KEY)))
    (v_MOST_DEEDS : PySem.W.nsIn K mainGlobals "MOST_DEEDS" = some (some (.int 1000 t_MOST_DEEDS)))
    (nd : PySem.W.nsIn K cStatics "sys.int_max_str_digits" = some none)
    (v_ESCAPES : PySem.W.nsIn K mainGlobals "ESCAPES" = some (some (.ref A_ESC)))
    (lk_ESC : K.lookup A_ESC = some ⟨.type "dict", none, .dict #[⟨h1_ESC, .str "\"" k1_ESC, .str "\\\"" u1_ESC⟩, ⟨h2_ESC, .str "\\" k2_ESC, .str "\\\\" u2_ESC⟩, ⟨h3_ESC, .str "\n" k3_ESC, .str "\\n" u3_ESC⟩] n_ESC, #[]⟩)
    (e1_ESC : h1_ESC = PySem.PyData.keyHash w.params "\"")
    (e2_ESC : h2_ESC = PySem.PyData.keyHash w.params "\\")
    (e3_ESC : h3_ESC = PySem.PyData.keyHash w.params "\n")
    (lo_ESC : (A_ESC == sysModules) = false)
    (sfP : PySem.W.selfFirst K C_Patch = true)
    (neP : PySem.W.findIn K (.ref C_Patch) "__ne__" = some (some (.builtin "object.__ne__")))
    (rdP : PySem.W.readsIn K C_Patch (.type "type") = true)
    (gaP : PySem.W.specialIn K (.ref C_Patch) "__getattribute__" = some (some (.builtin "type.__getattribute__")))
    (kRR : PySem.W.kitOne K (.ref C_Ready) (.ref C_Ready) = some true)
    (kRT : PySem.W.kitOne K (.type "tuple") (.ref C_Ready) = some false)
    (kPP : PySem.W.kitOne K (.ref C_Patch) (.ref C_Patch) = some true)
    (kPL : PySem.W.kitOne K (.type "list") (.ref C_Patch) = some false)
    (kNN : PySem.W.kitOne K (.ref C_InvalidNumber) (.ref C_InvalidNumber) = some true)
    (exN : PySem.W.exmOne K (.ref C_InvalidNumber) (.ref C_ShelfError) = some true) :
    LawTs l w K 23 63 "_law_script" mg fa h := by
  have e := hfa.symm.trans (PySem.W.mg_of X G a_law)
  cases e
  have D_items_of := df_mk (st := s_items_of) l_items_of c_items_of k_items_of
  have b_items_of : Binds K (PySem.W.fnOf "items_of" "items_of" (defArgs s_items_of) (defBody s_items_of) (defScope s_items_of) .none kV_items_of dc_items_of pm_items_of an_items_of cd_items_of ct_items_of) ["value"] [] := Binds.all fun us hl => match us, hl with | [_], _ => rfl
  have D_is_wrong_part := df_mk (st := s_is_wrong_part) l_is_wrong_part c_is_wrong_part k_is_wrong_part
  have b_is_wrong_part : Binds K (PySem.W.fnOf "is_wrong_part" "is_wrong_part" (defArgs s_is_wrong_part) (defBody s_is_wrong_part) (defScope s_is_wrong_part) .none kV_is_wrong_part dc_is_wrong_part pm_is_wrong_part an_is_wrong_part cd_is_wrong_part ct_is_wrong_part) ["value", "depth"] [] := Binds.all fun us hl => match us, hl with | [_, _], _ => rfl
  have D_string_notation := df_mk (st := s_string_notation) l_string_notation c_string_notation k_string_notation
  have b_string_notation : Binds K (PySem.W.fnOf "string_notation" "string_notation" (defArgs s_string_notation) (defBody s_string_notation) (defScope s_string_notation) .none kV_string_notation dc_string_notation pm_string_notation an_string_notation cd_string_notation ct_string_notation) ["text"] [] := Binds.all fun us hl => match us, hl with | [_], _ => rfl
  have D_check_value := df_mk (st := s_check_value) l_check_value c_check_value k_check_value
  have b_check_value : Binds K (PySem.W.fnOf "check_value" "check_value" (defArgs s_check_value) (defBody s_check_value) (defScope s_check_value) .none kV_check_value dc_check_value pm_check_value an_check_value cd_check_value ct_check_value) ["value"] [] := Binds.all fun us hl => match us, hl with | [_], _ => rfl
  have D_copied := df_mk (st := s_copied) l_copied c_copied k_copied
  have b_copied : Binds K (PySem.W.fnOf "copied" "copied" (defArgs s_copied) (defBody s_copied) (defScope s_copied) .none kV_copied dc_copied pm_copied an_copied cd_copied ct_copied) ["value"] [] := Binds.all fun us hl => match us, hl with | [_], _ => rfl
  have D_is_value := df_mk (st := s_is_value) l_is_value c_is_value k_is_value
  have b_is_value : Binds K (PySem.W.fnOf "is_value" "is_value" (defArgs s_is_value) (defBody s_is_value) (defScope s_is_value) .none kV_is_value dc_is_value pm_is_value an_is_value cd_is_value ct_is_value) ["value"] [] := Binds.all fun us hl => match us, hl with | [_], _ => rfl
  have D_is_key := df_mk (st := s_is_key) l_is_key c_is_key k_is_key
  have b_is_key : Binds K (PySem.W.fnOf "is_key" "is_key" (defArgs s_is_key) (defBody s_is_key) (defScope s_is_key) .none kV_is_key dc_is_key pm_is_key an_is_key cd_is_key ct_is_key) ["value"] [] := Binds.all fun us hl => match us, hl with | [_], _ => rfl
  have D_are_alike := df_mk (st := s_are_alike) l_are_alike c_are_alike k_are_alike
  have b_are_alike : Binds K (PySem.W.fnOf "are_alike" "are_alike" (defArgs s_are_alike) (defBody s_are_alike) (defScope s_are_alike) .none kV_are_alike dc_are_alike pm_are_alike an_are_alike cd_are_alike ct_are_alike) ["one", "other"] [] := Binds.all fun us hl => match us, hl with | [_, _], _ => rfl
  have D_check_mappings := df_mk (st := s_check_mappings) l_check_mappings c_check_mappings k_check_mappings
  have D_applied := df_mk (st := s_applied) l_applied c_applied k_applied
  have b_applied : Binds K (PySem.W.fnOf "applied" "applied" (defArgs s_applied) (defBody s_applied) (defScope s_applied) .none kV_applied dc_applied pm_applied an_applied cd_applied ct_applied) ["mapping", "deeds"] [] := Binds.all fun us hl => match us, hl with | [_, _], _ => rfl
  have D_l_pick := df_mk (st := s_l_pick) l_l_pick c_l_pick k_l_pick
  have b_l_pick : Binds K (PySem.W.fnOf "_law_pick" "_law_pick" (defArgs s_l_pick) (defBody s_l_pick) (defScope s_l_pick) .none kV_l_pick dc_l_pick pm_l_pick an_l_pick cd_l_pick ct_l_pick) ["_law_source_here", "_law_amount"] [] := Binds.all fun us hl => match us, hl with | [_, _], _ => rfl
  have D_l_source := df_mk (st := s_l_source) l_l_source c_l_source k_l_source
  have b_l_source : Binds K (PySem.W.fnOf "_law_source" "_law_source" (defArgs s_l_source) (defBody s_l_source) (defScope s_l_source) .none kV_l_source dc_l_source pm_l_source an_l_source cd_l_source ct_l_source) ["_law_script", "_law_k"] [] := Binds.all fun us hl => match us, hl with | [_, _], _ => rfl
  have D_l_string := df_mk (st := s_l_string) l_l_string c_l_string k_l_string
  have b_l_string : Binds K (PySem.W.fnOf "_law_string" "_law_string" (defArgs s_l_string) (defBody s_l_string) (defScope s_l_string) .none kV_l_string dc_l_string pm_l_string an_l_string cd_l_string ct_l_string) ["_law_source_here"] [] := Binds.all fun us hl => match us, hl with | [_], _ => rfl
  have D_l_mapping := df_mk (st := s_l_mapping) l_l_mapping c_l_mapping k_l_mapping
  have b_l_mapping : Binds K (PySem.W.fnOf "_law_mapping" "_law_mapping" (defArgs s_l_mapping) (defBody s_l_mapping) (defScope s_l_mapping) .none kV_l_mapping dc_l_mapping pm_l_mapping an_l_mapping cd_l_mapping ct_l_mapping) ["_law_source_here", "_law_most"] [] := Binds.all fun us hl => match us, hl with | [_, _], _ => rfl
  have D_l_deeds := df_mk (st := s_l_deeds) l_l_deeds c_l_deeds k_l_deeds
  have b_l_deeds : Binds K (PySem.W.fnOf "_law_deeds" "_law_deeds" (defArgs s_l_deeds) (defBody s_l_deeds) (defScope s_l_deeds) .none kV_l_deeds dc_l_deeds pm_l_deeds an_l_deeds cd_l_deeds ct_l_deeds) ["_law_source_here", "_law_most"] [] := Binds.all fun us hl => match us, hl with | [_, _], _ => rfl
  have D_l_done := df_mk (st := s_l_done) l_l_done c_l_done k_l_done
  have b_l_done : Binds K (PySem.W.fnOf "_law_done" "_law_done" (defArgs s_l_done) (defBody s_l_done) (defScope s_l_done) .none kV_l_done dc_l_done pm_l_done an_l_done cd_l_done ct_l_done) ["_law_mapping_here", "_law_deeds_here"] [] := Binds.all fun us hl => match us, hl with | [_, _], _ => rfl
  have D_is_deed := df_mk (st := s_is_deed) l_is_deed c_is_deed k_is_deed
  have b_is_deed : Binds K (PySem.W.fnOf "is_deed" "is_deed" (defArgs s_is_deed) (defBody s_is_deed) (defScope s_is_deed) .none kV_is_deed dc_is_deed pm_is_deed an_is_deed cd_is_deed ct_is_deed) ["deed"] [] := Binds.all fun us hl => match us, hl with | [_], _ => rfl
  have D_copied_deed := df_mk (st := s_copied_deed) l_copied_deed c_copied_deed k_copied_deed
  have b_copied_deed : Binds K (PySem.W.fnOf "copied_deed" "copied_deed" (defArgs s_copied_deed) (defBody s_copied_deed) (defScope s_copied_deed) .none kV_copied_deed dc_copied_deed pm_copied_deed an_copied_deed cd_copied_deed ct_copied_deed) ["deed"] [] := Binds.all fun us hl => match us, hl with | [_], _ => rfl
  have D_Ready__init := df_mk (st := s_Ready__init) l_Ready__init c_Ready__init k_Ready__init
  have b_Ready__init : Binds K (PySem.W.fnOf "__init__" "Ready.__init__" (defArgs s_Ready__init) (defBody s_Ready__init) (defScope s_Ready__init) .none kV_Ready__init dc_Ready__init pm_Ready__init an_Ready__init cd_Ready__init ct_Ready__init) ["self", "row"] [] := Binds.all fun us hl => match us, hl with | [_, _], _ => rfl
  have D_Patch__init := df_mk (st := s_Patch__init) l_Patch__init c_Patch__init k_Patch__init
  have D_Patch_deeds := df_mk (st := s_Patch_deeds) l_Patch_deeds c_Patch_deeds k_Patch_deeds
  have b_Patch_deeds : Binds K (PySem.W.fnOf "deeds" "Patch.deeds" (defArgs s_Patch_deeds) (defBody s_Patch_deeds) (defScope s_Patch_deeds) .none kV_Patch_deeds dc_Patch_deeds pm_Patch_deeds an_Patch_deeds cd_Patch_deeds ct_Patch_deeds) ["self"] [] := Binds.all fun us hl => match us, hl with | [_], _ => rfl
  have D_Patch__call := df_mk (st := s_Patch__call) l_Patch__call c_Patch__call k_Patch__call
  have b_Patch__call : Binds K (PySem.W.fnOf "__call__" "Patch.__call__" (defArgs s_Patch__call) (defBody s_Patch__call) (defScope s_Patch__call) .none kV_Patch__call dc_Patch__call pm_Patch__call an_Patch__call cd_Patch__call ct_Patch__call) ["self", "mapping"] [] := Binds.all fun us hl => match us, hl with | [_, _], _ => rfl
  have D_Patch__add := df_mk (st := s_Patch__add) l_Patch__add c_Patch__add k_Patch__add
  have b_Patch__add : Binds K (PySem.W.fnOf "__add__" "Patch.__add__" (defArgs s_Patch__add) (defBody s_Patch__add) (defScope s_Patch__add) .none kV_Patch__add dc_Patch__add pm_Patch__add an_Patch__add cd_Patch__add ct_Patch__add) ["self", "other"] [] := Binds.all fun us hl => match us, hl with | [_, _], _ => rfl
  have D_Patch__len := df_mk (st := s_Patch__len) l_Patch__len c_Patch__len k_Patch__len
  have b_Patch__len : Binds K (PySem.W.fnOf "__len__" "Patch.__len__" (defArgs s_Patch__len) (defBody s_Patch__len) (defScope s_Patch__len) .none kV_Patch__len dc_Patch__len pm_Patch__len an_Patch__len cd_Patch__len ct_Patch__len) ["self"] [] := Binds.all fun us hl => match us, hl with | [_], _ => rfl
  have D_Patch__bool := df_mk (st := s_Patch__bool) l_Patch__bool c_Patch__bool k_Patch__bool
  have b_Patch__bool : Binds K (PySem.W.fnOf "__bool__" "Patch.__bool__" (defArgs s_Patch__bool) (defBody s_Patch__bool) (defScope s_Patch__bool) .none kV_Patch__bool dc_Patch__bool pm_Patch__bool an_Patch__bool cd_Patch__bool ct_Patch__bool) ["self"] [] := Binds.all fun us hl => match us, hl with | [_], _ => rfl
  have D_Patch__getitem := df_mk (st := s_Patch__getitem) l_Patch__getitem c_Patch__getitem k_Patch__getitem
  have b_Patch__getitem : Binds K (PySem.W.fnOf "__getitem__" "Patch.__getitem__" (defArgs s_Patch__getitem) (defBody s_Patch__getitem) (defScope s_Patch__getitem) .none kV_Patch__getitem dc_Patch__getitem pm_Patch__getitem an_Patch__getitem cd_Patch__getitem ct_Patch__getitem) ["self", "at"] [] := Binds.all fun us hl => match us, hl with | [_, _], _ => rfl
  have D_Patch__contains := df_mk (st := s_Patch__contains) l_Patch__contains c_Patch__contains k_Patch__contains
  have b_Patch__contains : Binds K (PySem.W.fnOf "__contains__" "Patch.__contains__" (defArgs s_Patch__contains) (defBody s_Patch__contains) (defScope s_Patch__contains) .none kV_Patch__contains dc_Patch__contains pm_Patch__contains an_Patch__contains cd_Patch__contains ct_Patch__contains) ["self", "x"] [] := Binds.all fun us hl => match us, hl with | [_, _], _ => rfl
  have D_Patch__eq := df_mk (st := s_Patch__eq) l_Patch__eq c_Patch__eq k_Patch__eq
  have b_Patch__eq : Binds K (PySem.W.fnOf "__eq__" "Patch.__eq__" (defArgs s_Patch__eq) (defBody s_Patch__eq) (defScope s_Patch__eq) .none kV_Patch__eq dc_Patch__eq pm_Patch__eq an_Patch__eq cd_Patch__eq ct_Patch__eq) ["self", "other"] [] := Binds.all fun us hl => match us, hl with | [_, _], _ => rfl
  have D_kept_keys := df_mk (st := s_kept_keys) l_kept_keys c_kept_keys k_kept_keys
  have b_kept_keys : Binds K (PySem.W.fnOf "kept_keys" "kept_keys" (defArgs s_kept_keys) (defBody s_kept_keys) (defScope s_kept_keys) .none kV_kept_keys dc_kept_keys pm_kept_keys an_kept_keys cd_kept_keys ct_kept_keys) ["one", "other"] [] := Binds.all fun us hl => match us, hl with | [_, _], _ => rfl
  have D_difference := df_mk (st := s_difference) l_difference c_difference k_difference
  have b_difference : Binds K (PySem.W.fnOf "difference" "difference" (defArgs s_difference) (defBody s_difference) (defScope s_difference) .none kV_difference dc_difference pm_difference an_difference cd_difference ct_difference) ["one", "other"] [] := Binds.all fun us hl => match us, hl with | [_, _], _ => rfl
  have D_Patch_between := df_mk (st := s_Patch_between) l_Patch_between c_Patch_between k_Patch_between
  have b_Patch_between : Binds K (PySem.W.fnOf "between" "Patch.between" (defArgs s_Patch_between) (defBody s_Patch_between) (defScope s_Patch_between) .none kV_Patch_between dc_Patch_between pm_Patch_between an_Patch_between cd_Patch_between ct_Patch_between) ["cls", "one", "other"] [] := Binds.all fun us hl => match us, hl with | [_, _, _], _ => rfl
  have D_l_told := df_mk (st := s_l_told) l_l_told c_l_told k_l_told
  have b_l_told : Binds K (PySem.W.fnOf "_law_told" "_law_told" (defArgs s_l_told) (defBody s_l_told) (defScope s_l_told) .none kV_l_told dc_l_told pm_l_told an_l_told cd_l_told ct_l_told) ["_law_action"] [] := Binds.all fun us hl => match us, hl with | [_], _ => rfl
  have D_l_read_right := dfc_mk (st := s_l_read_right) l_l_read_right c_l_read_right k_l_read_right
  obtain ⟨d_l_read_right, hd_l_read_right⟩ := Option.isSome_iff_exists.mp rs_l_read_right
  have tf_l_read_right := TF _ _ _ _ hd_l_read_right ti_l_read_right
  have b_l_read_right : Binds K (PySem.W.fnOf "_law_read_right" "_law_read_right" (defArgs s_l_read_right) (defBody s_l_read_right) (defScope s_l_read_right) .none kV_l_read_right dc_l_read_right pm_l_read_right an_l_read_right (.ref c_o_l_read_right) ct_l_read_right) ["_law_patch_here", "_law_deeds_here"] [] := Binds.all fun us hl => match us, hl with | [_, _], _ => rfl
  have D_l_pairs := df_mk (st := s_l_pairs) l_l_pairs c_l_pairs k_l_pairs
  have b_l_pairs : Binds K (PySem.W.fnOf "_law_pairs" "_law_pairs" (defArgs s_l_pairs) (defBody s_l_pairs) (defScope s_l_pairs) .none kV_l_pairs dc_l_pairs pm_l_pairs an_l_pairs cd_l_pairs ct_l_pairs) ["_law_mapping_here"] [] := Binds.all fun us hl => match us, hl with | [_], _ => rfl
  have D_l_right := df_mk (st := s_l_right) l_l_right c_l_right k_l_right
  have b_l_right : Binds K (PySem.W.fnOf "_law_right" "_law_right" (defArgs s_l_right) (defBody s_l_right) (defScope s_l_right) .none kV_l_right dc_l_right pm_l_right an_l_right cd_l_right ct_l_right) ["_law_source_here"] [] := Binds.all fun us hl => match us, hl with | [_], _ => rfl
  have D_l_fresh_right := df_mk (st := s_l_fresh_right) l_l_fresh_right c_l_fresh_right k_l_fresh_right
  have b_l_fresh_right : Binds K (PySem.W.fnOf "_law_fresh_right" "_law_fresh_right" (defArgs s_l_fresh_right) (defBody s_l_fresh_right) (defScope s_l_fresh_right) .none kV_l_fresh_right dc_l_fresh_right pm_l_fresh_right an_l_fresh_right cd_l_fresh_right ct_l_fresh_right) [] [] := Binds.all fun us hl => match us, hl with | [], _ => rfl
  have D_law := df_mk (st := s_law) l_law c_law k_law
  have b_law : Binds K (PySem.W.fnOf "law" "law" (defArgs s_law) (defBody s_law) (defScope s_law) .none kV_law dc_law pm_law an_law cd_law ct_law) ["_law_script"] [] := Binds.all fun us hl => match us, hl with | [_], _ => rfl
  have D_wrong_path := df_mk (st := s_wrong_path) l_wrong_path c_wrong_path k_wrong_path
  have b_wrong_path : Binds K (PySem.W.fnOf "wrong_path" "wrong_path" (defArgs s_wrong_path) (defBody s_wrong_path) (defScope s_wrong_path) .none kV_wrong_path dc_wrong_path pm_wrong_path an_wrong_path cd_wrong_path ct_wrong_path) ["value", "path"] [] := Binds.all fun us hl => match us, hl with | [_, _], _ => rfl
  have D_rebuilt := df_mk (st := s_rebuilt) l_rebuilt c_rebuilt k_rebuilt
  have b_rebuilt : Binds K (PySem.W.fnOf "rebuilt" "rebuilt" (defArgs s_rebuilt) (defBody s_rebuilt) (defScope s_rebuilt) .none kV_rebuilt dc_rebuilt pm_rebuilt an_rebuilt cd_rebuilt ct_rebuilt) ["value"] [] := Binds.all fun us hl => match us, hl with | [_], _ => rfl
  have D_value_notation := df_mk (st := s_value_notation) l_value_notation c_value_notation k_value_notation
  have b_value_notation : Binds K (PySem.W.fnOf "value_notation" "value_notation" (defArgs s_value_notation) (defBody s_value_notation) (defScope s_value_notation) .none kV_value_notation dc_value_notation pm_value_notation an_value_notation cd_value_notation ct_value_notation) ["value"] [] := Binds.all fun us hl => match us, hl with | [_], _ => rfl
  have D_l_value := df_mk (st := s_l_value) l_l_value c_l_value k_l_value
  have b_l_value : Binds K (PySem.W.fnOf "_law_value" "_law_value" (defArgs s_l_value) (defBody s_l_value) (defScope s_l_value) .none kV_l_value dc_l_value pm_l_value an_l_value cd_l_value ct_l_value) ["_law_source_here", "_law_depth"] [] := Binds.all fun us hl => match us, hl with | [_, _], _ => rfl
  have D_l_patch := df_mk (st := s_l_patch) l_l_patch c_l_patch k_l_patch
  have b_l_patch : Binds K (PySem.W.fnOf "_law_patch" "_law_patch" (defArgs s_l_patch) (defBody s_l_patch) (defScope s_l_patch) .none kV_l_patch dc_l_patch pm_l_patch an_l_patch cd_l_patch ct_l_patch) ["_law_deeds_here"] [] := Binds.all fun us hl => match us, hl with | [_], _ => rfl
  refine ⟨PySem.W.fnOf "law" "law" (defArgs s_law) (defBody s_law) (defScope s_law) .none kV_law dc_law pm_law an_law cd_law ct_law, [(c_o_l_read_right, P_l_read_right)], (sp_law K [(P_l_read_right, ("_law_read_right" ++ ".<locals>.") ++ "<lambda>")]), (List.forall_mem_cons.mpr ⟨tf_l_read_right.2, (fun _ h => nomatch h)⟩), (List.forall_mem_cons.mpr ⟨tn_l_read_right, (fun _ h => nomatch h)⟩), (List.forall_mem_cons.mpr ⟨tf_l_read_right.1, (fun _ h => nomatch h)⟩), fun s v => .of_eq rfl, fun H a ns hl hc hS => ⟨_, rfl, a, ns, rfl, hS, by omega, (tabs0 (List.forall_mem_cons.mpr ⟨(hc (c_o_l_read_right, P_l_read_right) (by simp)), (fun _ h => nomatch h)⟩)), fun _ => rfl⟩, fun base KB GB SM TBs => ?_⟩
  have TB_l_read_right : TabB base mg c_o_l_read_right P_l_read_right := TBs (c_o_l_read_right, P_l_read_right) (by simp)
  have L_l_read_right : LamT ⟨l.prog, w, K, mg, base⟩ [(P_l_read_right, ("_law_read_right" ++ ".<locals>.") ++ "<lambda>")] c_o_l_read_right P_l_read_right "_law_read_right" := ⟨TB_l_read_right, by simp, (List.forall_mem_cons.mpr ⟨fun _ => rfl, (fun _ h => nomatch h)⟩)⟩
  have T : Txt ⟨l.prog, w, K, mg, base⟩ := { b_len := PySem.W.mg_none_of X G b_len, b_isinstance := PySem.W.mg_none_of X G b_isinstance, b_repr := PySem.W.mg_none_of X G b_repr, b_enumerate := PySem.W.mg_none_of X G b_enumerate, b_range := PySem.W.mg_none_of X G b_range, b_list := PySem.W.mg_none_of X G b_list, b_tuple := PySem.W.mg_none_of X G b_tuple, b_dict := PySem.W.mg_none_of X G b_dict, b_bool := PySem.W.mg_none_of X G b_bool, b_int := PySem.W.mg_none_of X G b_int, b_str := PySem.W.mg_none_of X G b_str, b_abs := PySem.W.mg_none_of X G b_abs, b_all := PySem.W.mg_none_of X G b_all, b_any := PySem.W.mg_none_of X G b_any, b_sorted := PySem.W.mg_none_of X G b_sorted, b_set := PySem.W.mg_none_of X G b_set, b_max := PySem.W.mg_none_of X G b_max, b_min := PySem.W.mg_none_of X G b_min, nd := nd, c_MOST_DIGITS := ⟨_, PySem.W.mg_of X G v_MOST_DIGITS, _, rfl⟩, c_MOST_ITEMS := ⟨_, PySem.W.mg_of X G v_MOST_ITEMS, _, rfl⟩, c_MOST_LEVELS := ⟨_, PySem.W.mg_of X G v_MOST_LEVELS, _, rfl⟩, c_MOST_KEY := ⟨_, PySem.W.mg_of X G v_MOST_KEY, _, rfl⟩, c_MOST_DEEDS := ⟨_, PySem.W.mg_of X G v_MOST_DEEDS, _, rfl⟩ }
  have X_InvalidMapping : XK1 ⟨l.prog, w, K, mg, base⟩ "InvalidMapping" C_InvalidMapping "given" := ⟨PySem.W.mg_of X G aC_InvalidMapping, PySem.W.mg_none_of X G b_super, xb_InvalidMapping.kp, xb_InvalidMapping.hd, xb_InvalidMapping.sa, nf_InvalidMapping, _, _, _, _, _, _, _, _, _, _, xc_mk PySem.F.excBase_ValueError PySem.W.kxs_ValueError PySem.F.store_ValueError xa xb_InvalidMapping in_InvalidMapping l_InvalidMapping co_InvalidMapping fi_InvalidMapping fe_InvalidMapping ce_InvalidMapping, xst_InvalidMapping⟩
  have RE_InvalidMapping : PySem.W.subIn K (.ref C_InvalidMapping) (.type "BaseException") = some true ∧ PySem.W.typeIn K (.ref C_InvalidMapping) = some (.type "type") := ⟨xb_InvalidMapping.hs, tyX_InvalidMapping⟩
  have X_InvalidNumber : XK1 ⟨l.prog, w, K, mg, base⟩ "InvalidNumber" C_InvalidNumber "given" := ⟨PySem.W.mg_of X G aC_InvalidNumber, PySem.W.mg_none_of X G b_super, xb_InvalidNumber.kp, xb_InvalidNumber.hd, xb_InvalidNumber.sa, nf_InvalidNumber, _, _, _, _, _, _, _, _, _, _, xc_mk PySem.F.excBase_ValueError PySem.W.kxs_ValueError PySem.F.store_ValueError xa xb_InvalidNumber in_InvalidNumber l_InvalidNumber co_InvalidNumber fi_InvalidNumber fe_InvalidNumber ce_InvalidNumber, xst_InvalidNumber⟩
  have RE_InvalidNumber : PySem.W.subIn K (.ref C_InvalidNumber) (.type "BaseException") = some true ∧ PySem.W.typeIn K (.ref C_InvalidNumber) = some (.type "type") := ⟨xb_InvalidNumber.hs, tyX_InvalidNumber⟩
  have CL_Patch : Cls K C_Patch := ⟨pg_Patch, hd_Patch, po_Patch, sa_Patch⟩
  have CL_Ready : Cls K C_Ready := ⟨pg_Ready, hd_Ready, po_Ready, sa_Ready⟩
  have V_ShelfError : Gv ⟨l.prog, w, K, mg, base⟩ "ShelfError" (.ref C_ShelfError) := ⟨_, PySem.W.mg_of X G aC_ShelfError, rfl⟩
  have V_InvalidMapping : Gv ⟨l.prog, w, K, mg, base⟩ "InvalidMapping" (.ref C_InvalidMapping) := ⟨_, PySem.W.mg_of X G aC_InvalidMapping, rfl⟩
  have V_InvalidNumber : Gv ⟨l.prog, w, K, mg, base⟩ "InvalidNumber" (.ref C_InvalidNumber) := ⟨_, PySem.W.mg_of X G aC_InvalidNumber, rfl⟩
  have V_Patch : Gv ⟨l.prog, w, K, mg, base⟩ "Patch" (.ref C_Patch) := ⟨_, PySem.W.mg_of X G aC_Patch, rfl⟩
  have V_Ready : Gv ⟨l.prog, w, K, mg, base⟩ "Ready" (.ref C_Ready) := ⟨_, PySem.W.mg_of X G aC_Ready, rfl⟩
  obtain ⟨kE, e34, e92, e10, eN⟩ := esc_tab (w := w) lk_ESC e1_ESC e2_ESC e3_ESC lo_ESC
  have TN : TxN ⟨l.prog, w, K, mg, base⟩ A_ESC := { toTxt := T, c_ESCAPES := ⟨_, PySem.W.mg_of X G v_ESCAPES, rfl⟩, kE := kE, e34 := e34, e92 := e92, e10 := e10, eN := eN }
  have IS_Patch : C8.InsC K C_Patch := ⟨CL_Patch, ha_Patch, hn_Patch, ht_Patch, hm_Patch, kPP⟩
  have IS_Ready : C8.InsC K C_Ready := ⟨CL_Ready, ha_Ready, hn_Ready, ht_Ready, hm_Ready, kRR⟩
  have O_items := ok_items (g := ⟨l.prog, w, K, mg, base⟩)  D_items_of T
  have O_wrong := ok_wrong (g := ⟨l.prog, w, K, mg, base⟩)  D_is_wrong_part T
  have O_snote := ok_snote (g := ⟨l.prog, w, K, mg, base⟩)  D_string_notation TN
  have F_is_wrong_part : Kn ⟨l.prog, w, K, mg, base⟩ "is_wrong_part" 1 ["value", "depth"] [] sp_wrong := ⟨_, _, [], PySem.W.mg_of X G a_is_wrong_part, k_is_wrong_part, (O_wrong.mono (by decide)), b_is_wrong_part, .nil⟩
  have F_items_of : Kn ⟨l.prog, w, K, mg, base⟩ "items_of" 1 ["value"] [] sp_items := ⟨_, _, [], PySem.W.mg_of X G a_items_of, k_items_of, (O_items.mono (by decide)), b_items_of, .nil⟩
  have R_wrong_path : ∀ n, Kn ⟨l.prog, w, K, mg, base⟩ "wrong_path" (n + 1) ["value", "path"] [] (sp_path n) := kn_rec (g := ⟨l.prog, w, K, mg, base⟩) (PySem.W.mg_of X G a_wrong_path) k_wrong_path b_wrong_path (fun vs H Q E z => by obtain ⟨v, u, _, d, fp, a, ps, _, _, _, _, _, h, _⟩ := z; exact absurd h (Nat.not_lt_zero _)) fun n F => ok_path n D_wrong_path T F_is_wrong_part F_items_of F
  have F_wrong_path : Kn ⟨l.prog, w, K, mg, base⟩ "wrong_path" 9 ["value", "path"] [] (sp_path 8) := R_wrong_path 8
  have O_check := ok_check (g := ⟨l.prog, w, K, mg, base⟩)  D_check_value T F_wrong_path
  have R_rebuilt : ∀ n, Kn ⟨l.prog, w, K, mg, base⟩ "rebuilt" (n + 1) ["value"] [] (sp_reb n) := kn_rec (g := ⟨l.prog, w, K, mg, base⟩) (PySem.W.mg_of X G a_rebuilt) k_rebuilt b_rebuilt (fun vs H Q E z => by obtain ⟨v, _, d, fp, _, _, h, _⟩ := z; exact absurd h (Nat.not_lt_zero _)) fun n F => ok_reb n D_rebuilt T F
  have F_rebuilt : Kn ⟨l.prog, w, K, mg, base⟩ "rebuilt" 9 ["value"] [] (sp_reb 8) := R_rebuilt 8
  have F_check_value : Kn ⟨l.prog, w, K, mg, base⟩ "check_value" 10 ["value"] [] sp_check := ⟨_, _, [], PySem.W.mg_of X G a_check_value, k_check_value, (O_check.mono (by decide)), b_check_value, .nil⟩
  have O_copied := ok_copied (g := ⟨l.prog, w, K, mg, base⟩)  D_copied T F_check_value F_rebuilt
  have O_isv := ok_isv (g := ⟨l.prog, w, K, mg, base⟩)  D_is_value T F_wrong_path
  have O_iskey := ok_iskey (g := ⟨l.prog, w, K, mg, base⟩)  D_is_key T
  have F_string_notation : Kn ⟨l.prog, w, K, mg, base⟩ "string_notation" 1 ["text"] [] sp_snote := ⟨_, _, [], PySem.W.mg_of X G a_string_notation, k_string_notation, (O_snote.mono (by decide)), b_string_notation, .nil⟩
  have R_value_notation : ∀ n, Kn ⟨l.prog, w, K, mg, base⟩ "value_notation" (n + 1) ["value"] [] (sp_vnote n) := kn_rec (g := ⟨l.prog, w, K, mg, base⟩) (PySem.W.mg_of X G a_value_notation) k_value_notation b_value_notation (fun vs H Q E z => by obtain ⟨v, _, d, fp, _, _, h, _⟩ := z; exact absurd h (Nat.not_lt_zero _)) fun n F => ok_vnote n D_value_notation T F_string_notation F
  have F_value_notation : Kn ⟨l.prog, w, K, mg, base⟩ "value_notation" 9 ["value"] [] (sp_vnote 8) := R_value_notation 8
  have O_alike := ok_alike (g := ⟨l.prog, w, K, mg, base⟩)  D_are_alike T F_value_notation
  have F_is_key : Kn ⟨l.prog, w, K, mg, base⟩ "is_key" 1 ["value"] [] sp_iskey := ⟨_, _, [], PySem.W.mg_of X G a_is_key, k_is_key, (O_iskey.mono (by decide)), b_is_key, .nil⟩
  have F_is_value : Kn ⟨l.prog, w, K, mg, base⟩ "is_value" 10 ["value"] [] sp_isv := ⟨_, _, [], PySem.W.mg_of X G a_is_value, k_is_value, (O_isv.mono (by decide)), b_is_value, .nil⟩
  have O_cmaps := ok_cmaps (g := ⟨l.prog, w, K, mg, base⟩)  D_check_mappings (fun us rest hl => match us, rest, hl with | [], [], _ => rfl | [], _ :: _, _ => rfl) T F_is_key F_is_value X_InvalidMapping RE_InvalidMapping
  have F_copied : Kn ⟨l.prog, w, K, mg, base⟩ "copied" 11 ["value"] [] sp_copied := ⟨_, _, [], PySem.W.mg_of X G a_copied, k_copied, (O_copied.mono (by decide)), b_copied, .nil⟩
  have O_applied := ok_applied (g := ⟨l.prog, w, K, mg, base⟩)  D_applied T F_copied
  have O_pick := ok_pick (g := ⟨l.prog, w, K, mg, base⟩)  D_l_pick T
  have O_source := ok_source (g := ⟨l.prog, w, K, mg, base⟩)  D_l_source T
  have F_l_pick : Kn ⟨l.prog, w, K, mg, base⟩ "_law_pick" 1 ["_law_source_here", "_law_amount"] [] sp_pick := ⟨_, _, [], PySem.W.mg_of X G a_l_pick, k_l_pick, (O_pick.mono (by decide)), b_l_pick, .nil⟩
  have O_string := ok_string (g := ⟨l.prog, w, K, mg, base⟩)  D_l_string T F_l_pick
  have F_l_string : Kn ⟨l.prog, w, K, mg, base⟩ "_law_string" 2 ["_law_source_here"] [] sp_string := ⟨_, _, [], PySem.W.mg_of X G a_l_string, k_l_string, (O_string.mono (by decide)), b_l_string, .nil⟩
  have R_l_value : ∀ n, Kn ⟨l.prog, w, K, mg, base⟩ "_law_value" (n + 3) ["_law_source_here", "_law_depth"] [] (sp_value n) := kn_rec (g := ⟨l.prog, w, K, mg, base⟩) (PySem.W.mg_of X G a_l_value) k_l_value b_l_value (fun vs H Q E z => by obtain ⟨v, u, _, a, n, h, _⟩ := z; exact absurd h (by omega)) fun n F => ok_value n D_l_value T F_l_pick F_l_string F
  have F_l_value : Kn ⟨l.prog, w, K, mg, base⟩ "_law_value" 5 ["_law_source_here", "_law_depth"] [] (sp_value 2) := R_l_value 2
  have O_mapping := ok_mapping (g := ⟨l.prog, w, K, mg, base⟩)  D_l_mapping T F_l_pick F_l_value
  have O_deeds := ok_deeds (g := ⟨l.prog, w, K, mg, base⟩)  D_l_deeds T F_l_pick F_l_value
  have O_done := ok_done (g := ⟨l.prog, w, K, mg, base⟩)  D_l_done T
  have O_isd := ok_isd (g := ⟨l.prog, w, K, mg, base⟩)  D_is_deed T F_is_key F_is_value
  have O_cdeed := ok_cdeed (g := ⟨l.prog, w, K, mg, base⟩)  D_copied_deed T F_copied
  have O_rinit := ok_rinit (g := ⟨l.prog, w, K, mg, base⟩)  D_Ready__init T CL_Ready na_Ready_row
  have F_is_deed : Kn ⟨l.prog, w, K, mg, base⟩ "is_deed" 11 ["deed"] [] sp_isd := ⟨_, _, [], PySem.W.mg_of X G a_is_deed, k_is_deed, (O_isd.mono (by decide)), b_is_deed, .nil⟩
  have F_copied_deed : Kn ⟨l.prog, w, K, mg, base⟩ "copied_deed" 12 ["deed"] [] sp_cdeed := ⟨_, _, [], PySem.W.mg_of X G a_copied_deed, k_copied_deed, (O_cdeed.mono (by decide)), b_copied_deed, .nil⟩
  have O_pinit := ok_pinit (g := ⟨l.prog, w, K, mg, base⟩)  D_Patch__init (fun us rest hl => match us, rest, hl with | [_], [], _ => rfl | [_], _ :: _, _ => rfl) T CL_Patch CL_Ready IS_Ready kRR kRT na_Patch_own_deeds na_Ready_row V_Ready F_is_deed F_copied_deed
  have O_pdeeds := ok_pdeeds (g := ⟨l.prog, w, K, mg, base⟩)  D_Patch_deeds T CL_Patch na_Patch_own_deeds F_copied_deed
  have F_check_mappings : KnS ⟨l.prog, w, K, mg, base⟩ "check_mappings" 12 (spS 0 sp_cmaps) := ⟨_, PySem.W.mg_of X G a_check_mappings, k_check_mappings, O_cmaps⟩
  have F_applied : Kn ⟨l.prog, w, K, mg, base⟩ "applied" 12 ["mapping", "deeds"] [] sp_applied := ⟨_, _, [], PySem.W.mg_of X G a_applied, k_applied, (O_applied.mono (by decide)), b_applied, .nil⟩
  have O_pcall := ok_pcall (g := ⟨l.prog, w, K, mg, base⟩)  D_Patch__call T CL_Patch na_Patch_own_deeds F_check_mappings F_applied
  have F_Ready : Kc ⟨l.prog, w, K, mg, base⟩ "Ready" C_Ready 1 ["self", "row"] [] (sp_rinit C_Ready) := ⟨PySem.W.mg_of X G aC_Ready, _, _, [], ⟨mk_Ready, a_Ready__init, i_Ready__init, kc_Ready⟩, (O_rinit.mono (by decide)), b_Ready__init, .nil⟩
  have F_Patch : KcS ⟨l.prog, w, K, mg, base⟩ "Patch" C_Patch 14 (spS 1 (sp_pinit C_Patch C_Ready)) := ⟨PySem.W.mg_of X G aC_Patch, _, ⟨mk_Patch, a_Patch__init, i_Patch__init, kc_Patch⟩, O_pinit⟩
  have O_padd := ok_padd (g := ⟨l.prog, w, K, mg, base⟩)  D_Patch__add T CL_Patch na_Patch_own_deeds V_Patch IS_Patch kPP F_Ready F_Patch
  have O_plen := ok_plen (g := ⟨l.prog, w, K, mg, base⟩)  D_Patch__len T CL_Patch na_Patch_own_deeds
  have O_pbool := ok_pbool (g := ⟨l.prog, w, K, mg, base⟩)  D_Patch__bool T CL_Patch na_Patch_own_deeds
  have O_pget := ok_pget (g := ⟨l.prog, w, K, mg, base⟩)  D_Patch__getitem T CL_Patch na_Patch_own_deeds F_copied_deed X_InvalidNumber RE_InvalidNumber
  have O_phas := ok_phas (g := ⟨l.prog, w, K, mg, base⟩)  D_Patch__contains T CL_Patch na_Patch_own_deeds
  have F_are_alike : Kn ⟨l.prog, w, K, mg, base⟩ "are_alike" 10 ["one", "other"] [] sp_alike := ⟨_, _, [], PySem.W.mg_of X G a_are_alike, k_are_alike, (O_alike.mono (by decide)), b_are_alike, .nil⟩
  have O_peq := ok_peq (g := ⟨l.prog, w, K, mg, base⟩)  D_Patch__eq T CL_Patch na_Patch_own_deeds V_Patch IS_Patch kPP kPL F_are_alike
  have O_kept := ok_kept (g := ⟨l.prog, w, K, mg, base⟩)  D_kept_keys T
  have F_kept_keys : Kn ⟨l.prog, w, K, mg, base⟩ "kept_keys" 1 ["one", "other"] [] sp_kept := ⟨_, _, [], PySem.W.mg_of X G a_kept_keys, k_kept_keys, (O_kept.mono (by decide)), b_kept_keys, .nil⟩
  have O_diff := ok_diff (g := ⟨l.prog, w, K, mg, base⟩)  D_difference T F_kept_keys F_are_alike F_copied
  have F_difference : Kn ⟨l.prog, w, K, mg, base⟩ "difference" 12 ["one", "other"] [] sp_diff0 := ⟨_, _, [], PySem.W.mg_of X G a_difference, k_difference, (O_diff.mono (by decide)), b_difference, .nil⟩
  have O_btw := ok_btw (g := ⟨l.prog, w, K, mg, base⟩)  D_Patch_between T F_check_mappings F_difference F_Patch
  have TOLD : Told ⟨l.prog, w, K, mg, base⟩ 15 "_law_told" (TTn C_InvalidNumber) := ok_told (g := ⟨l.prog, w, K, mg, base⟩) D_l_told T (PySem.W.mg_of X G a_l_told) b_l_told (PySem.W.mg_of X G aC_ShelfError) V_InvalidNumber (xb_InvalidNumber.exc xa) xb_InvalidNumber.xf nf_InvalidNumber kNN exN
  have M_Patch__len : Km ⟨l.prog, w, K, mg, base⟩ C_Patch "__len__" 1 ["self"] [] (sp_plen C_Patch) := ⟨_, _, [], a_Patch__len, i_Patch__len, k_Patch__len, (O_plen.mono (by decide)), b_Patch__len, .nil⟩
  have M_Patch__bool : Km ⟨l.prog, w, K, mg, base⟩ C_Patch "__bool__" 1 ["self"] [] (sp_pbool C_Patch) := ⟨_, _, [], a_Patch__bool, i_Patch__bool, k_Patch__bool, (O_pbool.mono (by decide)), b_Patch__bool, .nil⟩
  have M_Patch_deeds : Km ⟨l.prog, w, K, mg, base⟩ C_Patch "deeds" 13 ["self"] [] (sp_pdeeds C_Patch) := ⟨_, _, [], a_Patch_deeds, i_Patch_deeds, k_Patch_deeds, (O_pdeeds.mono (by decide)), b_Patch_deeds, .nil⟩
  have M_Patch__getitem : Km ⟨l.prog, w, K, mg, base⟩ C_Patch "__getitem__" 13 ["self", "at"] [] (sp_pget C_Patch C_InvalidNumber) := ⟨_, _, [], a_Patch__getitem, i_Patch__getitem, k_Patch__getitem, (O_pget.mono (by decide)), b_Patch__getitem, .nil⟩
  have FI_Patch__getitem : FnAtC K C_Patch "__getitem__" := FnAtC.of a_Patch__getitem (by unfold PySem.W.fnIn; rw [l_Patch__getitem])
  have M_Patch__contains : Km ⟨l.prog, w, K, mg, base⟩ C_Patch "__contains__" 1 ["self", "x"] [] (sp_phas C_Patch K) := ⟨_, _, [], a_Patch__contains, i_Patch__contains, k_Patch__contains, (O_phas.mono (by decide)), b_Patch__contains, .nil⟩
  have O_readr := ok_readr (g := ⟨l.prog, w, K, mg, base⟩) (TS := [(P_l_read_right, ("_law_read_right" ++ ".<locals>.") ++ "<lambda>")])  D_l_read_right T SM CL_Patch TOLD L_l_read_right M_Patch__len M_Patch__bool M_Patch_deeds M_Patch__getitem FI_Patch__getitem M_Patch__contains
  have O_pairs := ok_pairs (g := ⟨l.prog, w, K, mg, base⟩)  D_l_pairs T
  have M_Patch__add : Km ⟨l.prog, w, K, mg, base⟩ C_Patch "__add__" 16 ["self", "other"] [] (sp_padd C_Patch) := ⟨_, _, [], a_Patch__add, i_Patch__add, k_Patch__add, (O_padd.mono (by decide)), b_Patch__add, .nil⟩
  have R_l_patch : ∀ n, Kn ⟨l.prog, w, K, mg, base⟩ "_law_patch" (n + 17) ["_law_deeds_here"] [] ((sp_lpatch C_Patch) n) := kn_rec (g := ⟨l.prog, w, K, mg, base⟩) (PySem.W.mg_of X G a_l_patch) k_l_patch b_l_patch (fun vs H Q E z => by obtain ⟨v, _, a, us, dds, N, _, _, _, _, h, _⟩ := z; exact absurd h (Nat.lt_irrefl _)) fun n F => ok_lpatch n D_l_patch T F_Patch M_Patch__add sfP F
  have F_l_patch : Kn ⟨l.prog, w, K, mg, base⟩ "_law_patch" 21 ["_law_deeds_here"] [] ((sp_lpatch C_Patch) 4) := R_l_patch 4
  have F_l_deeds : Kn ⟨l.prog, w, K, mg, base⟩ "_law_deeds" 6 ["_law_source_here", "_law_most"] [] sp_deeds := ⟨_, _, [], PySem.W.mg_of X G a_l_deeds, k_l_deeds, (O_deeds.mono (by decide)), b_l_deeds, .nil⟩
  have F_l_mapping : Kn ⟨l.prog, w, K, mg, base⟩ "_law_mapping" 6 ["_law_source_here", "_law_most"] [] sp_mapping := ⟨_, _, [], PySem.W.mg_of X G a_l_mapping, k_l_mapping, (O_mapping.mono (by decide)), b_l_mapping, .nil⟩
  have F_l_pairs : Kn ⟨l.prog, w, K, mg, base⟩ "_law_pairs" 1 ["_law_mapping_here"] [] sp_pairs := ⟨_, _, [], PySem.W.mg_of X G a_l_pairs, k_l_pairs, (O_pairs.mono (by decide)), b_l_pairs, .nil⟩
  have F_l_done : Kn ⟨l.prog, w, K, mg, base⟩ "_law_done" 1 ["_law_mapping_here", "_law_deeds_here"] [] sp_done := ⟨_, _, [], PySem.W.mg_of X G a_l_done, k_l_done, (O_done.mono (by decide)), b_l_done, .nil⟩
  have F_l_read_right : Kn ⟨l.prog, w, K, mg, base⟩ "_law_read_right" 17 ["_law_patch_here", "_law_deeds_here"] [] (sp_readr C_Patch [(P_l_read_right, ("_law_read_right" ++ ".<locals>.") ++ "<lambda>")]) := ⟨_, _, [], PySem.W.mg_of X G a_l_read_right, k_l_read_right, (O_readr.mono (by decide)), b_l_read_right, .nil⟩
  have M_Patch__call : Km ⟨l.prog, w, K, mg, base⟩ C_Patch "__call__" 13 ["self", "mapping"] [] (sp_pcall C_Patch) := ⟨_, _, [], a_Patch__call, i_Patch__call, k_Patch__call, (O_pcall.mono (by decide)), b_Patch__call, .nil⟩
  have FI_Patch__call : FnAtC K C_Patch "__call__" := FnAtC.of a_Patch__call (by unfold PySem.W.fnIn; rw [l_Patch__call])
  have M_Patch__eq : Km ⟨l.prog, w, K, mg, base⟩ C_Patch "__eq__" 11 ["self", "other"] [] (sp_peq C_Patch) := ⟨_, _, [], a_Patch__eq, i_Patch__eq, k_Patch__eq, (O_peq.mono (by decide)), b_Patch__eq, .nil⟩
  have O_right := ok_right (g := ⟨l.prog, w, K, mg, base⟩) (TS := [(P_l_read_right, ("_law_read_right" ++ ".<locals>.") ++ "<lambda>")])  D_l_right T SM CL_Patch IS_Patch ⟨neP, hm_Patch⟩ sfP F_l_deeds F_l_mapping F_l_patch F_l_pairs F_l_done F_l_read_right F_Patch M_Patch__call FI_Patch__call M_Patch__add M_Patch__eq
  have CM_Patch_between : KcmS ⟨l.prog, w, K, mg, base⟩ C_Patch "between" 16 (sp_btw C_Patch) := ⟨p_Patch_between, f_Patch_between, .type "type", ⟨rdP, gaP⟩, ⟨at_Patch_between, ⟨_, rc_Patch_between⟩, fi_Patch_between⟩, toS (O_btw.mono (by decide)) b_Patch_between⟩
  have O_fresh := ok_fresh (g := ⟨l.prog, w, K, mg, base⟩)  D_l_fresh_right T CL_Patch V_Patch ⟨neP, hm_Patch⟩ sfP F_Patch CM_Patch_between M_Patch__call FI_Patch__call M_Patch__add M_Patch__eq M_Patch_deeds M_Patch__getitem FI_Patch__getitem
  have F_l_fresh_right : Kn ⟨l.prog, w, K, mg, base⟩ "_law_fresh_right" 18 [] [] sp_fresh := ⟨_, _, [], PySem.W.mg_of X G a_l_fresh_right, k_l_fresh_right, (O_fresh.mono (by decide)), b_l_fresh_right, .nil⟩
  have F_l_right : Kn ⟨l.prog, w, K, mg, base⟩ "_law_right" 22 ["_law_source_here"] [] (sp_right [(P_l_read_right, ("_law_read_right" ++ ".<locals>.") ++ "<lambda>")]) := ⟨_, _, [], PySem.W.mg_of X G a_l_right, k_l_right, (O_right.mono (by decide)), b_l_right, .nil⟩
  have F_l_source : Kn ⟨l.prog, w, K, mg, base⟩ "_law_source" 1 ["_law_script", "_law_k"] [] (sp_source K) := ⟨_, _, [], PySem.W.mg_of X G a_l_source, k_l_source, (O_source.mono (by decide)), b_l_source, .nil⟩
  exact ok_law (g := ⟨l.prog, w, K, mg, base⟩) (TS := [(P_l_read_right, ("_law_read_right" ++ ".<locals>.") ++ "<lambda>")]) D_law T CL_Patch F_Patch M_Patch__eq F_l_fresh_right F_l_right F_l_source
end K60
open PySem PySem.W PyProof.Rows
local macro_rules | `(tactic| o_head ($f:ident $k $a $e $t)) => `(tactic| o_head (RS.smHook ($f $k $a $e $t)))
set_option maxRecDepth 100000 in
set_option maxHeartbeats 0 in
theorem PySem.Challenge.cw_recordshelf_k60_whole_patches_holds : PySem.Challenge.rw_recordshelf_k60_whole_patches.Holds := by
  w_on; o_law; k_head; (case hw => w_witness2)
  k_fill
  refine RS.walkT (l := PySem.Challenge.rw_recordshelf_k60_whole_patches) (n := 63) (k := 23) (x := "_law_script") rfl (by decide) rfl ⟨rfl, by decide, by decide⟩ (fun w h Y => PySem.W.km_in_of Y.1) (fun w h Y => Y.2) ?F
  case F =>
    intro w mg fa h Y KX G hmg TF
    refine' K60.all_mk (l := PySem.Challenge.rw_recordshelf_k60_whole_patches) KX G hmg TF ?b_super ?xa ?aC_InvalidMapping ?in_InvalidMapping ?l_InvalidMapping ?co_InvalidMapping ?fi_InvalidMapping ?fe_InvalidMapping ?ce_InvalidMapping ?xb_InvalidMapping ?nf_InvalidMapping ?aC_InvalidNumber ?in_InvalidNumber ?l_InvalidNumber ?co_InvalidNumber ?fi_InvalidNumber ?fe_InvalidNumber ?ce_InvalidNumber ?xb_InvalidNumber ?nf_InvalidNumber ?tyX_InvalidMapping ?tyX_InvalidNumber ?aC_ShelfError ?aC_Patch ?pg_Patch ?hd_Patch ?po_Patch ?sa_Patch ?kc_Patch ?mk_Patch ?ha_Patch ?hn_Patch ?ht_Patch ?hm_Patch ?ty_Patch ?aC_Ready ?pg_Ready ?hd_Ready ?po_Ready ?sa_Ready ?kc_Ready ?mk_Ready ?ha_Ready ?hn_Ready ?ht_Ready ?hm_Ready ?ty_Ready ?na_Patch_own_deeds ?na_Ready_row ?a_items_of ?l_items_of ?c_items_of ?k_items_of ?a_is_wrong_part ?l_is_wrong_part ?c_is_wrong_part ?k_is_wrong_part ?a_string_notation ?l_string_notation ?c_string_notation ?k_string_notation ?a_check_value ?l_check_value ?c_check_value ?k_check_value ?a_copied ?l_copied ?c_copied ?k_copied ?a_is_value ?l_is_value ?c_is_value ?k_is_value ?a_is_key ?l_is_key ?c_is_key ?k_is_key ?a_are_alike ?l_are_alike ?c_are_alike ?k_are_alike ?a_check_mappings ?l_check_mappings ?c_check_mappings ?k_check_mappings ?a_applied ?l_applied ?c_applied ?k_applied ?a_l_pick ?l_l_pick ?c_l_pick ?k_l_pick ?a_l_source ?l_l_source ?c_l_source ?k_l_source ?a_l_string ?l_l_string ?c_l_string ?k_l_string ?a_l_mapping ?l_l_mapping ?c_l_mapping ?k_l_mapping ?a_l_deeds ?l_l_deeds ?c_l_deeds ?k_l_deeds ?a_l_done ?l_l_done ?c_l_done ?k_l_done ?a_is_deed ?l_is_deed ?c_is_deed ?k_is_deed ?a_copied_deed ?l_copied_deed ?c_copied_deed ?k_copied_deed ?a_Ready__init ?i_Ready__init ?l_Ready__init ?c_Ready__init ?k_Ready__init ?a_Patch__init ?i_Patch__init ?l_Patch__init ?c_Patch__init ?k_Patch__init ?a_Patch_deeds ?i_Patch_deeds ?l_Patch_deeds ?c_Patch_deeds ?k_Patch_deeds ?a_Patch__call ?i_Patch__call ?l_Patch__call ?c_Patch__call ?k_Patch__call ?a_Patch__add ?i_Patch__add ?l_Patch__add ?c_Patch__add ?k_Patch__add ?a_Patch__len ?i_Patch__len ?l_Patch__len ?c_Patch__len ?k_Patch__len ?a_Patch__bool ?i_Patch__bool ?l_Patch__bool ?c_Patch__bool ?k_Patch__bool ?a_Patch__getitem ?i_Patch__getitem ?l_Patch__getitem ?c_Patch__getitem ?k_Patch__getitem ?a_Patch__contains ?i_Patch__contains ?l_Patch__contains ?c_Patch__contains ?k_Patch__contains ?a_Patch__eq ?i_Patch__eq ?l_Patch__eq ?c_Patch__eq ?k_Patch__eq ?a_kept_keys ?l_kept_keys ?c_kept_keys ?k_kept_keys ?a_difference ?l_difference ?c_difference ?k_difference ?at_Patch_between ?rc_Patch_between ?fi_Patch_between ?l_Patch_between ?c_Patch_between ?k_Patch_between ?a_l_told ?l_l_told ?c_l_told ?k_l_told ?a_l_read_right ?l_l_read_right ?c_l_read_right ?k_l_read_right ?co_l_read_right ?ov_l_read_right ?ti_l_read_right ?tn_l_read_right ?rs_l_read_right ?a_l_pairs ?l_l_pairs ?c_l_pairs ?k_l_pairs ?a_l_right ?l_l_right ?c_l_right ?k_l_right ?a_l_fresh_right ?l_l_fresh_right ?c_l_fresh_right ?k_l_fresh_right ?a_law ?l_law ?c_law ?k_law ?a_wrong_path ?l_wrong_path ?c_wrong_path ?k_wrong_path ?a_rebuilt ?l_rebuilt ?c_rebuilt ?k_rebuilt ?a_value_notation ?l_value_notation ?c_value_notation ?k_value_notation ?a_l_value ?l_l_value ?c_l_value ?k_l_value ?a_l_patch ?l_l_patch ?c_l_patch ?k_l_patch ?b_len ?b_isinstance ?b_repr ?b_enumerate ?b_range ?b_list ?b_tuple ?b_dict ?b_bool ?b_int ?b_str ?b_abs ?b_all ?b_any ?b_sorted ?b_set ?b_max ?b_min ?v_MOST_DIGITS ?v_MOST_ITEMS ?v_MOST_LEVELS ?v_MOST_KEY ?v_MOST_DEEDS ?nd ?v_ESCAPES ?lk_ESC ?e1_ESC ?e2_ESC ?e3_ESC ?lo_ESC ?sfP ?neP ?rdP ?gaP ?kRR ?kRT ?kPP ?kPL ?kNN ?exN
    (case b_super => k_is)
    (case xa => exact ⟨by kernel_rfl, by kernel_rfl, by kernel_rfl, by kernel_rfl⟩)
    (case aC_InvalidMapping => k_is)
    (case in_InvalidMapping => k_is)
    (case l_InvalidMapping => k_is)
    (case co_InvalidMapping => k_is)
    (case fi_InvalidMapping => exact rfl)
    (case fe_InvalidMapping => kernel_rfl)
    (case ce_InvalidMapping => k_is)
    (case xb_InvalidMapping => exact ⟨by kernel_rfl, by kernel_rfl, by kernel_rfl, by kernel_rfl, by kernel_rfl, by kernel_rfl, by kernel_rfl, by kernel_rfl, by kernel_rfl, by kernel_rfl, by kernel_rfl, by kernel_rfl, by kernel_rfl, by kernel_rfl, by kernel_rfl⟩)
    (case nf_InvalidMapping => kernel_rfl)
    (case aC_InvalidNumber => k_is)
    (case in_InvalidNumber => k_is)
    (case l_InvalidNumber => k_is)
    (case co_InvalidNumber => k_is)
    (case fi_InvalidNumber => exact rfl)
    (case fe_InvalidNumber => kernel_rfl)
    (case ce_InvalidNumber => k_is)
    (case xb_InvalidNumber => exact ⟨by kernel_rfl, by kernel_rfl, by kernel_rfl, by kernel_rfl, by kernel_rfl, by kernel_rfl, by kernel_rfl, by kernel_rfl, by kernel_rfl, by kernel_rfl, by kernel_rfl, by kernel_rfl, by kernel_rfl, by kernel_rfl, by kernel_rfl⟩)
    (case nf_InvalidNumber => kernel_rfl)
    (case tyX_InvalidMapping => kernel_rfl)
    (case tyX_InvalidNumber => kernel_rfl)
    (case aC_ShelfError => k_is)
    (case aC_Patch => k_is)
    (case pg_Patch => k_is)
    (case hd_Patch => k_is)
    (case po_Patch => k_is)
    (case sa_Patch => k_is)
    (case kc_Patch => k_is)
    (case mk_Patch => k_is)
    (case ha_Patch => k_is)
    (case hn_Patch => k_is)
    (case ht_Patch => k_is)
    (case hm_Patch => k_is)
    (case ty_Patch => k_is)
    (case aC_Ready => k_is)
    (case pg_Ready => k_is)
    (case hd_Ready => k_is)
    (case po_Ready => k_is)
    (case sa_Ready => k_is)
    (case kc_Ready => k_is)
    (case mk_Ready => k_is)
    (case ha_Ready => k_is)
    (case hn_Ready => k_is)
    (case ht_Ready => k_is)
    (case hm_Ready => k_is)
    (case ty_Ready => k_is)
    (case na_Patch_own_deeds => k_is)
    (case na_Ready_row => k_is)
    (case a_items_of => k_is)
    (case l_items_of => k_is)
    (case c_items_of => k_is)
    (case k_items_of => k_is)
    (case a_is_wrong_part => k_is)
    (case l_is_wrong_part => k_is)
    (case c_is_wrong_part => k_is)
    (case k_is_wrong_part => k_is)
    (case a_string_notation => k_is)
    (case l_string_notation => k_is)
    (case c_string_notation => k_is)
    (case k_string_notation => k_is)
    (case a_check_value => k_is)
    (case l_check_value => k_is)
    (case c_check_value => k_is)
    (case k_check_value => k_is)
    (case a_copied => k_is)
    (case l_copied => k_is)
    (case c_copied => k_is)
    (case k_copied => k_is)
    (case a_is_value => k_is)
    (case l_is_value => k_is)
    (case c_is_value => k_is)
    (case k_is_value => k_is)
    (case a_is_key => k_is)
    (case l_is_key => k_is)
    (case c_is_key => k_is)
    (case k_is_key => k_is)
    (case a_are_alike => k_is)
    (case l_are_alike => k_is)
    (case c_are_alike => k_is)
    (case k_are_alike => k_is)
    (case a_check_mappings => k_is)
    (case l_check_mappings => k_is)
    (case c_check_mappings => k_is)
    (case k_check_mappings => k_is)
    (case a_applied => k_is)
    (case l_applied => k_is)
    (case c_applied => k_is)
    (case k_applied => k_is)
    (case a_l_pick => k_is)
    (case l_l_pick => k_is)
    (case c_l_pick => k_is)
    (case k_l_pick => k_is)
    (case a_l_source => k_is)
    (case l_l_source => k_is)
    (case c_l_source => k_is)
    (case k_l_source => k_is)
    (case a_l_string => k_is)
    (case l_l_string => k_is)
    (case c_l_string => k_is)
    (case k_l_string => k_is)
    (case a_l_mapping => k_is)
    (case l_l_mapping => k_is)
    (case c_l_mapping => k_is)
    (case k_l_mapping => k_is)
    (case a_l_deeds => k_is)
    (case l_l_deeds => k_is)
    (case c_l_deeds => k_is)
    (case k_l_deeds => k_is)
    (case a_l_done => k_is)
    (case l_l_done => k_is)
    (case c_l_done => k_is)
    (case k_l_done => k_is)
    (case a_is_deed => k_is)
    (case l_is_deed => k_is)
    (case c_is_deed => k_is)
    (case k_is_deed => k_is)
    (case a_copied_deed => k_is)
    (case l_copied_deed => k_is)
    (case c_copied_deed => k_is)
    (case k_copied_deed => k_is)
    (case a_Ready__init => k_is)
    (case i_Ready__init => k_is)
    (case l_Ready__init => k_is)
    (case c_Ready__init => k_is)
    (case k_Ready__init => k_is)
    (case a_Patch__init => k_is)
    (case i_Patch__init => k_is)
    (case l_Patch__init => k_is)
    (case c_Patch__init => k_is)
    (case k_Patch__init => k_is)
    (case a_Patch_deeds => k_is)
    (case i_Patch_deeds => k_is)
    (case l_Patch_deeds => k_is)
    (case c_Patch_deeds => k_is)
    (case k_Patch_deeds => k_is)
    (case a_Patch__call => k_is)
    (case i_Patch__call => k_is)
    (case l_Patch__call => k_is)
    (case c_Patch__call => k_is)
    (case k_Patch__call => k_is)
    (case a_Patch__add => k_is)
    (case i_Patch__add => k_is)
    (case l_Patch__add => k_is)
    (case c_Patch__add => k_is)
    (case k_Patch__add => k_is)
    (case a_Patch__len => k_is)
    (case i_Patch__len => k_is)
    (case l_Patch__len => k_is)
    (case c_Patch__len => k_is)
    (case k_Patch__len => k_is)
    (case a_Patch__bool => k_is)
    (case i_Patch__bool => k_is)
    (case l_Patch__bool => k_is)
    (case c_Patch__bool => k_is)
    (case k_Patch__bool => k_is)
    (case a_Patch__getitem => k_is)
    (case i_Patch__getitem => k_is)
    (case l_Patch__getitem => k_is)
    (case c_Patch__getitem => k_is)
    (case k_Patch__getitem => k_is)
    (case a_Patch__contains => k_is)
    (case i_Patch__contains => k_is)
    (case l_Patch__contains => k_is)
    (case c_Patch__contains => k_is)
    (case k_Patch__contains => k_is)
    (case a_Patch__eq => k_is)
    (case i_Patch__eq => k_is)
    (case l_Patch__eq => k_is)
    (case c_Patch__eq => k_is)
    (case k_Patch__eq => k_is)
    (case a_kept_keys => k_is)
    (case l_kept_keys => k_is)
    (case c_kept_keys => k_is)
    (case k_kept_keys => k_is)
    (case a_difference => k_is)
    (case l_difference => k_is)
    (case c_difference => k_is)
    (case k_difference => k_is)
    (case at_Patch_between => exact rfl)
    (case rc_Patch_between => k_is)
    (case fi_Patch_between => k_is)
    (case l_Patch_between => k_is)
    (case c_Patch_between => k_is)
    (case k_Patch_between => k_is)
    (case a_l_told => k_is)
    (case l_l_told => k_is)
    (case c_l_told => k_is)
    (case k_l_told => k_is)
    (case a_l_read_right => k_is)
    (case l_l_read_right => k_is)
    (case c_l_read_right => k_is)
    (case k_l_read_right => k_is)
    (case co_l_read_right => k_is)
    (case ov_l_read_right => exact rfl)
    (case ti_l_read_right => kernel_rfl)
    (case tn_l_read_right => kernel_rfl)
    (case rs_l_read_right => kernel_rfl)
    (case a_l_pairs => k_is)
    (case l_l_pairs => k_is)
    (case c_l_pairs => k_is)
    (case k_l_pairs => k_is)
    (case a_l_right => k_is)
    (case l_l_right => k_is)
    (case c_l_right => k_is)
    (case k_l_right => k_is)
    (case a_l_fresh_right => k_is)
    (case l_l_fresh_right => k_is)
    (case c_l_fresh_right => k_is)
    (case k_l_fresh_right => k_is)
    (case a_law => k_is)
    (case l_law => k_is)
    (case c_law => k_is)
    (case k_law => k_is)
    (case a_wrong_path => k_is)
    (case l_wrong_path => k_is)
    (case c_wrong_path => k_is)
    (case k_wrong_path => k_is)
    (case a_rebuilt => k_is)
    (case l_rebuilt => k_is)
    (case c_rebuilt => k_is)
    (case k_rebuilt => k_is)
    (case a_value_notation => k_is)
    (case l_value_notation => k_is)
    (case c_value_notation => k_is)
    (case k_value_notation => k_is)
    (case a_l_value => k_is)
    (case l_l_value => k_is)
    (case c_l_value => k_is)
    (case k_l_value => k_is)
    (case a_l_patch => k_is)
    (case l_l_patch => k_is)
    (case c_l_patch => k_is)
    (case k_l_patch => k_is)
    (case b_len => k_is)
    (case b_isinstance => k_is)
    (case b_repr => k_is)
    (case b_enumerate => k_is)
    (case b_range => k_is)
    (case b_list => k_is)
    (case b_tuple => k_is)
    (case b_dict => k_is)
    (case b_bool => k_is)
    (case b_int => k_is)
    (case b_str => k_is)
    (case b_abs => k_is)
    (case b_all => k_is)
    (case b_any => k_is)
    (case b_sorted => k_is)
    (case b_set => k_is)
    (case b_max => k_is)
    (case b_min => k_is)
    (case v_MOST_DIGITS => k_is)
    (case v_MOST_ITEMS => k_is)
    (case v_MOST_LEVELS => k_is)
    (case v_MOST_KEY => k_is)
    (case v_MOST_DEEDS => k_is)
    (case nd => k_is)
    (case v_ESCAPES => k_is)
    (case lk_ESC => k_is)
    (case e1_ESC => exact rfl)
    (case e2_ESC => exact rfl)
    (case e3_ESC => exact rfl)
    (case lo_ESC => exact rfl)
    (case sfP => kernel_rfl)
    (case neP => k_is)
    (case rdP => kernel_rfl)
    (case gaP => kernel_rfl)
    (case kRR => kernel_rfl)
    (case kRT => kernel_rfl)
    (case kPP => kernel_rfl)
    (case kPL => kernel_rfl)
    (case kNN => kernel_rfl)
    (case exN => kernel_rfl)
