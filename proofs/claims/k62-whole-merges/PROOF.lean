import PyProof.Rows.All
import Wide.All
import OpenK.AllK
import Wide.FinOn
import HandS.ForMost
import HandS.Exc
import HandS.WordsExc
import HandS.Flow
import HandS.IsInst
import HandS.FStr
import HandS.TupAny
import HandS.Style
import PyProof.ReprRoads
import KE.GoesMore
import PyProof.FString3
import PyProof.Rows.StrIntSpec
import KE.KFmtOwn
import PyProof.StrBlock2
import HandS.Property
import HandS.Text
import PyProof.Rows.Range3
import PyProof.Conv_bool
import HandS.Small
import PyProof.InstEq
import HandS.EndBits
import HandS.Codes
import PyProof.ReprLen
import HandS.Dict
import KE.KExcSuper
import HandS.ExcInit
import HandS.ExcField
import HandS.ExcIs
import PyProof.RowDictHeap
import PyProof.Rows.SeqMore
import PyProof.FitsInt
import KE.KExcInit
import HandS.DictComp
import HandS.Wide
import PyProof.NeKinds
import KE.KDictZip
import KE.GoesEnum
import HandS.Star
import HandS.ExcValue
import PyProof.RulesMatch
import KE.KTryMore
import HandS.Lambda
import HandS.EndTab
import HandS.ClsMeth
import HandS.GenList
import HandS.SortInts
import HandS.Defaults
import HandS.DeepEq
import KE.KDflt
import KE.KSuper
import HandS.More
import KE.KRevSl
import HandS.TryMany
import HandS.Deep
import HandS.DictEq
import PyProof.EqKinds
import PyProof.FactsAll.dict_1
import PyProof.FactsAll.subtypes_4
import PyProof.DictUpdate
import HandS.GenYield
import HandS.DictSub
import HandS.Set
import HandS.SetFor
import HandS.Strs
import PyProof.StrLawsRepr
import PyProof.PureStr
import PyProof.Rows.StrMeet
import KE.KExcLine
import PySem.Challenge.RW_recordshelf_k62_whole_merges
set_option Elab.async false
set_option linter.all false
set_option maxRecDepth 100000
set_option maxHeartbeats 4000000
namespace RS
open PySem PySem.Spec L2
/-- what a law's text is, as it stands behind its top -/
structure Wd where
  P : Program
  w : World
  K : PySem.W.Frag
  mg : Str → Option Value
  base : Heap
/-- a def that keeps its promise wherever no repr is under way -/
structure FnG (g : Wd) (k : Nat) (f : Addr) (fd : FuncData) (ps : List Str) (sp : Sp) : Prop where
  len : ∀ vs H Q E, sp vs H Q E → vs.length = ps.length
  run : ∀ (A : Around) (outer : List Env) (s : Shared) (H : Hp) (args : Args) (us : List Value) (vs : List V) (Q : VK) (E : XK),
    Room k A → A.guards = some [] → Env0 g.P g.w g.K g.mg g.base A outer s H → BindsTo s fd args (ps.zip us) → Vals vs us → sp vs H Q E →
      codeAny (model g.P g.w) A (.call (.ref f) args) (CR (L2.CX g.P g.w) outer g.P g.w H s Q E) s
theorem FnG.mono {g : Wd} {j k : Nat} {f : Addr} {fd : FuncData} {ps : List Str} {sp : Sp} (F : FnG g j f fd ps sp) (h : j ≤ k) : FnG g k f fd ps sp :=
  ⟨F.len, fun A outer s H args us vs Q E hr => F.run A outer s H args us vs Q E (hr.mono h)⟩
theorem FnG.imp {g : Wd} {k : Nat} {f : Addr} {fd : FuncData} {ps : List Str} {sp sp' : Sp} (F : FnG g k f fd ps sp) (h : ∀ vs H Q E, sp' vs H Q E → sp vs H Q E) : FnG g k f fd ps sp' :=
  ⟨fun vs H Q E q => F.len vs H Q E (h _ _ _ _ q), fun A outer s H args us vs Q E hr hg he hb hv hs => F.run A outer s H args us vs Q E hr hg he hb hv (h _ _ _ _ hs)⟩
/-- a def of the text, with the value of its defaults -/
structure Df (K : PySem.W.Frag) (x qual : Str) (st : Stmt) (f : Addr) (fd : FuncData) (dV : Value) : Prop where
  ex : ∃ (oc : Value) (od : Option Addr) (kV doc pm : Value) (an : Option Addr) (cdv ct : Value) (osl : Array (Option Value)),
    fd = PySem.W.fnOf x qual (defArgs st) (defBody st) (defScope st) dV kV doc pm an cdv ct ∧ K.lookup f = some ⟨oc, od, .func fd, osl⟩ ∧ PySem.W.codeIn K cdv qual = true
  kp : PySem.W.keepIn K (.ref f) = true
/-- the context of its body -/
abbrev cx (g : Wd) (N : List Str) (qual : Str) (st : Stmt) (f : Addr) (cdv : Value) (A : Around) (outer : List Env) (s : Shared) (H : Hp) (E : XK) : Cx :=
  cxOf (L2.CX g.P g.w) g.P g.w g.K g.mg g.base N qual (defScope st) f cdv A outer s H E
/-- what a body may lean on: room, and no repr under way -/
structure Rm (k : Nat) (X : Cx) : Prop where
  room : Room k X.A
  gd : X.A.guards = some []
theorem Rm.mono {j k : Nat} {X : Cx} (r : Rm k X) (h : j ≤ k) : Rm j X := ⟨r.room.mono h, r.gd⟩
theorem Df.ok {g : Wd} {x qual : Str} {st : Stmt} {f : Addr} {fd : FuncData} {dV : Value} {N ps : List Str} {k : Nat} {sp : Sp} (F : Df g.K x qual st f fd dV) (S : FnScope N ps (defScope st))
    (len : ∀ vs H Q E, sp vs H Q E → vs.length = ps.length)
    (hbody : ∀ (cdv : Value) (A : Around) (outer : List Env) (s : Shared) (H : Hp) (vs : List V) (Q : VK) (E : XK), Rm k (cx g N qual st f cdv A outer s H E) → sp vs H Q E →
      ∃ t, PSs (cx g N qual st f cdv A outer s H E) (defBody st) t ∧ t { nx := fun _ H' => Q .non H', rt := Q } (start N vs) H) : FnG g (k + 1) f fd ps sp := by
  obtain ⟨oc, od, kV, doc, pm, an, cdv, ct, osl, rfl, lk, hcd⟩ := F.ex
  refine ⟨len, fun A outer s H args us vs Q E hr hg e0 hb rv hsp => ?_⟩
  have kept : ∀ b o, g.base.get? b = some o → s.heap.get? b = some o := fun b o e => (e0.bs b o e).1
  have KX := e0.mod.kin.keeps kept
  have par : ∀ y ∈ ps.zip us, (defScope st).names.lookup y.1 = some .local ∨ ((defScope st).names.lookup y.1 = some .cell ∧ ((cellsFrom (s.heap.objs.size + 1) (defScope st).names []).lookup y.1).isSome = true) := by
    rintro ⟨n, v⟩ hy
    exact (S.par n (List.of_mem_zip hy).1).imp id fun q => ⟨q, PySem.W.cellsFrom_some _ _ _ (.inl q)⟩
  refine codeAny_call_function hr.depth (KX _ _ lk) rfl S.co S.gen rfl (PySem.W.codeRec_of KX hcd) (hb _ _ _ _ (wpAny_newFunctionEnv_cells S.kind par ?_))
  rintro env rfl s1 ic
  refine ⟨(e0.mod.nolimit.keeps kept).keeps ic.toInCall.keep, codeAny_func ?_⟩
  obtain ⟨t, ht, hq⟩ := hbody cdv A outer s H vs Q E ⟨hr.deeper _, hg⟩ hsp
  have J := inv_start (CX := L2.CX g.P g.w) (E := E) (qual := qual) (f := f) (cd := cdv) S hr.hd e0 (len _ _ _ _ hsp) rv ic
  refine wpAny_mono (ht.run [] s1 _ H _ J hq) ?_ fun _ _ z => z
  rintro fl s' hs
  cases fl with
  | ret u => obtain ⟨v, σ', H', I, r, q⟩ := hs; exact ⟨v, H', I.os, I.bare, I.base, I.hok, r, q⟩
  | next => obtain ⟨σ', H', I, q⟩ := hs; exact ⟨.non, H', I.os, I.bare, I.base, I.hok, rfl, q⟩
  | brk => obtain ⟨_, _, _, q⟩ := hs; exact q.elim
  | cont => obtain ⟨_, _, _, q⟩ := hs; exact q.elim
/-- X stands in the world g -/
structure At (g : Wd) (X : Cx) : Prop where
  P : X.prog = g.P
  w : X.w = g.w
  K : X.K = g.K
  mg : X.mg = g.mg
  base : X.base = g.base
section
variable {g : Wd} {X : Cx} {k : Nat} {f : Addr} {fd : FuncData} {ps : List Str} {sp : Sp} {W : WX}
/-- the callee runs, its arguments bound somehow -/
theorem runG (a : At g X) (F : FnG g k f fd ps sp) (hr : Rm k X) (tk : Takes X W) {pins : List (Addr × Obj)} {σ : St} {H : Hp} {s : Shared} {Q : VK} {args : Args} {us : List Value} {vs : List V}
    (I : Inv X pins σ H s) (hb : BindsTo s fd args (ps.zip us)) (r : Vals vs us) (h : sp vs H Q (fun c d H' => W c d σ H')) :
    codeAny (model X.prog X.w) X.A (.call (.ref f) args) (fun res s' => match res with | .ok fl => (match fl with | .ret u => EP X pins σ Q u s' | _ => False) | .error e => X.xe e s') s := by
  obtain ⟨P, w, K, mg, base⟩ := g
  obtain ⟨rfl, rfl, rfl, rfl, rfl⟩ := a
  refine codeAny_mono (F.run X.A X.stack s H args us vs Q _ hr.room hr.gd I.env0 hb r h) fun res s' hq => ?_
  cases res with
  | error e => exact tk e s' (XE.of_call (E := fun c d H' => W c d σ H') I (fun _ _ _ z => z) hq)
  | ok fl =>
    cases fl with
    | ret u => exact I.after hq
    | _ => exact hq.elim
end
end RS
namespace RS
open PySem PySem.Spec L2
def S0 (g : Hp → VK → XK → Prop) : Sp := fun vs H Q E => vs = [] ∧ g H Q E
def S1 (g : V → Hp → VK → XK → Prop) : Sp := fun vs H Q E => ∃ a, vs = [a] ∧ g a H Q E
def S2 (g : V → V → Hp → VK → XK → Prop) : Sp := fun vs H Q E => ∃ a b, vs = [a, b] ∧ g a b H Q E
def S3 (g : V → V → V → Hp → VK → XK → Prop) : Sp := fun vs H Q E => ∃ a b c, vs = [a, b, c] ∧ g a b c H Q E
def S4 (g : V → V → V → V → Hp → VK → XK → Prop) : Sp := fun vs H Q E => ∃ a b c d, vs = [a, b, c, d] ∧ g a b c d H Q E
def S5 (g : V → V → V → V → V → Hp → VK → XK → Prop) : Sp := fun vs H Q E => ∃ a b c d e, vs = [a, b, c, d, e] ∧ g a b c d e H Q E
theorem S0.len {g} {vs : List V} {H Q E} (h : S0 g vs H Q E) : vs.length = 0 := by obtain ⟨rfl, _⟩ := h; rfl
theorem S1.len {g} {vs : List V} {H Q E} (h : S1 g vs H Q E) : vs.length = 1 := by obtain ⟨_, rfl, _⟩ := h; rfl
theorem S2.len {g} {vs : List V} {H Q E} (h : S2 g vs H Q E) : vs.length = 2 := by obtain ⟨_, _, rfl, _⟩ := h; rfl
theorem S3.len {g} {vs : List V} {H Q E} (h : S3 g vs H Q E) : vs.length = 3 := by obtain ⟨_, _, _, rfl, _⟩ := h; rfl
theorem S4.len {g} {vs : List V} {H Q E} (h : S4 g vs H Q E) : vs.length = 4 := by obtain ⟨_, _, _, _, rfl, _⟩ := h; rfl
theorem S5.len {g} {vs : List V} {H Q E} (h : S5 g vs H Q E) : vs.length = 5 := by obtain ⟨_, _, _, _, _, rfl, _⟩ := h; rfl
/-- what the module's name x holds is worth v -/
def Gv (g : Wd) (x : Str) (v : V) : Prop := ∃ u, g.mg x = some u ∧ RelV v u
/-- the module's name x holds a def that keeps sp; ds: its defaults that fill up -/
def Kn (g : Wd) (x : Str) (k : Nat) (ps : List Str) (ds : List V) (sp : Sp) : Prop :=
  ∃ f fd dsV, g.mg x = some (.ref f) ∧ PySem.W.keepIn g.K (.ref f) = true ∧ FnG g k f fd ps sp ∧ Binds g.K fd ps dsV ∧ Vals ds dsV
section
variable {g : Wd} {X : Cx} {k : Nat} {f : Addr} {fd : FuncData} {ps : List Str} {sp : Sp} {W : WX} {ds : List V} {x : Str} {p pos : Pos} {e : Expr} {es : List Expr} {t : TA}
theorem e_g {v : V} (h : Gv g x v) (hg : Gl X x := by rfl) (hd : (x == ("__debug__" : Str)) = false := by decide) (a : At g X := by exact ⟨rfl, rfl, rfl, rfl, rfl⟩) : PE X (.Name x pos) (tC v) := by
  obtain ⟨u, hm, r⟩ := h
  exact pe_glob hg (by rw [a.mg]; exact hm) r hd
def tCallG (sp : Sp) (ds : List V) (W : WX) (t : TA) : TE := fun σ H Q => t σ H fun vs H1 => sp (vs ++ ds) H1 Q (fun c d H' => W c d σ H')
/-- the call itself, the arguments at hand -/
theorem callG {dsV : List Value} (a : At g X) (F : FnG g k f fd ps sp) (hr : Rm k X) (tk : Takes X W) (hb : Binds g.K fd ps dsV) (rd : Vals ds dsV) {pins : List (Addr × Obj)} {σ : L2.St} {H : Hp} {s : Shared} {Q : VK} {us : List Value} {vs : List V}
    (I : Inv X pins σ H s) (r : Vals vs us) (h : sp (vs ++ ds) H Q (fun c d H' => W c d σ H')) : wpAny (model X.prog X.w) X.A (call (.ref f) us) (EP X pins σ Q) X.xe s := by
  have r2 := Vals.append r rd
  have hl : (us ++ dsV).length = ps.length := by rw [← r2.length]; exact F.len _ _ _ _ h
  have KI : g.K.In s.heap := by rw [← a.K]; exact I.kIn
  refine wpAny_call (codeAny_mono (runG a F hr tk I (hb s us KI hl) r2 h) fun res s' hq => ?_)
  cases res with
  | error e => exact hq
  | ok fl => cases fl with
    | ret u => exact hq
    | _ => exact hq.elim
theorem pe_callG (F : Kn g x k ps ds sp) (hr : Rm k X) (tk : Takes X W) (ha : PA X (e :: es) t) (hg : Gl X x := by rfl) (hdb : (x == ("__debug__" : Str)) = false := by decide)
    (he : starEach (e :: es) X.env = (false, eval e X.env) :: starEach es X.env := by rfl) (hpl : (backTo pos (starEach es X.env)).any (·.1) = false := by rfl) (a : At g X := by exact ⟨rfl, rfl, rfl, rfl, rfl⟩) :
    PE X (.Call (.Name x p) (e :: es) [] pos) (tCallG sp ds W t) := by
  obtain ⟨f, fd, dsV, hm, hk, F, hb, rd⟩ := F
  refine ⟨fun pins s σ H Q I h => wpAny_Call_Name_kw (ld_glob I hg (by rw [a.mg]; exact hm) ?_ hdb)⟩
  refine PySem.W.callWith_K (h₀ := X.base) I.ok.mod.kin (by rw [a.K]; exact hk) (thn (ha.run pos pins s σ H _ I h) ?_) he hpl
  rintro us s1 ⟨vs, H1, I1, r, q⟩
  exact ⟨I1.kIn, callG a F hr tk hb rd I1 r q⟩
end
section
variable {X : Cx} {k : Nat}
def rRepr (K : PySem.W.Frag) : List V → Hp → VK → Prop := fun xs H Q => ∃ a d, xs = [.ref a] ∧ Dp K H (.ref a) d ∧ d.showable = true ∧ d.depth ≤ 60 ∧ d.shown.length ≤ sizeLine ∧ Q (.str d.shown) H
end
end RS
namespace RS
open PySem PySem.Spec L2
/-- the signs of x, each with its index in a new pair -/
def ItEs (x : Str) : It :=
  ⟨fun i _ => i < x.cps.size, fun i H v H' => ∃ T c, v = .ref T ∧ H T = none ∧ H' = upd H T (.tup [.int (i : Nat), .str ⟨#[c]⟩]) ∧ x.cps[i]? = some c, fun i _ => i = x.cps.size⟩
def iEnumS (ta : TA) : TI := fun σ H R => ta σ H fun vs H1 => ∃ x, vs = [.str x] ∧ R (ItEs x) H1
/-- i with zeros in front, W signs at least -/
def padZ (W : Nat) (i : Int) : Str := ⟨(List.replicate (W - (Nat.toDigits 10 i.natAbs).length) 48).toArray⟩ ++ Str.ofString (toString i)
section
variable {X : Cx} {e spec : Expr} {te : TE} {pos : Pos} {sp : Str}
def tFmtZ (W : Nat) (te : TE) : TE := fun σ H Q => te σ H fun x H1 => ∃ i : Int, x = .int i ∧ 0 ≤ i ∧ i < 10 ^ 12 ∧ Q (.str (padZ W i)) H1
end
end RS
namespace RS
open PySem PySem.Spec L2
section
variable {X : Cx}
def rAdd (K : PySem.W.Frag) : R2 := fun x y H Q => match x, y with
  | .int i, .int j => Q (.int (i + j)) H
  | .str a, .str b => a.length + b.length ≤ sizeLine ∧ Q (.str (a ++ b)) H
  | .ref p, .ref q => rCat (.ref p) (.ref q) H Q ∨ rCatA K (.ref p) (.ref q) H Q
  | _, _ => False
theorem o_add {K : PySem.W.Frag} (hK : X.K = K := by rfl) : OpR X (binaryOp .Add) (rAdd K) := by
  subst hK
  intro pins s σ H x y v u Q I rx ry h
  cases x <;> cases y <;> first
    | exact (show False from h).elim
    | exact op_add pins s σ H _ _ v u Q I rx ry ⟨_, _, rfl, rfl, h⟩
    | exact op_add_str pins s σ H _ _ v u Q I rx ry ⟨_, _, rfl, rfl, h.1, h.2⟩
    | exact (show _ ∨ _ from h).elim (op_cat pins s σ H _ _ v u Q I rx ry) (op_catA pins s σ H _ _ v u Q I rx ry)
/-- a, n times -/
def repS (a : Str) (n : Nat) : Str := ⟨(List.replicate n a.cps.toList).flatten.toArray⟩
theorem foldl_app (a : Array Nat) : ∀ (n : Nat) (acc : Array Nat), (List.replicate n a).foldl (· ++ ·) acc = acc ++ (List.replicate n a.toList).flatten.toArray
  | 0, acc => by simp
  | n + 1, acc => by
    rw [List.replicate_succ, List.foldl_cons, foldl_app a n (acc ++ a), List.replicate_succ, List.flatten_cons]
    apply Array.ext'
    simp [Array.toList_append, List.append_assoc]
theorem txt_mul (a : Str) (n : Int) : Txt.mul a n = repS a n.toNat := by
  unfold Txt.mul repS
  by_cases h1 : n < 1
  · rw [if_pos h1]
    have e : n.toNat = 0 := by omega
    rw [e]
    rfl
  · rw [if_neg h1]
    have e : ({ cps := (List.replicate n.toNat a.cps).foldl (· ++ ·) #[] } : Str) = { cps := (List.replicate n.toNat a.cps.toList).flatten.toArray } := by
      rw [foldl_app]
      congr 1
      apply Array.ext'
      simp
    split
    · rename_i c
      rcases Bool.or_eq_true_iff.mp c with c | c
      · have : n = 1 := by simpa using c
        subst this
        obtain ⟨l⟩ := a
        simp
      · have : a.cps.size = 0 := by simpa [Str.length] using c
        obtain ⟨⟨l⟩⟩ := a
        have : l = [] := by simpa using this
        subst this
        simp
    · exact e
def rMul : R2 := fun x y H Q => match x, y with
  | .int i, .int j => CMul i j ∧ Q (.int (i * j)) H
  | .str a, .int n => n < 2 ^ 31 ∧ -(2 ^ 31) < n ∧ a.length * n.toNat ≤ sizeLine ∧ Q (.str (repS a n.toNat)) H
  | .ref p, .int n => rRep (.ref p) (.int n) H Q
  | _, _ => False
theorem o_mul : OpR X (binaryOp .Mult) rMul := by
  intro pins s σ H x y v u Q I rx ry h
  cases x <;> cases y <;> first
    | exact (show False from h).elim
    | exact op_mul pins s σ H _ _ v u Q I rx ry ⟨_, _, rfl, rfl, h.1, h.2⟩
    | exact op_rep pins s σ H _ _ v u Q I rx ry h
    | skip
  rename_i a n
  obtain ⟨t, rfl⟩ := rx
  obtain ⟨t', rfl⟩ := ry
  obtain ⟨h1, h2, h3, q⟩ := h
  have hs : sizeLine = 16777216 := sizeLine_eq
  refine SB.mul (x := a) (n := n) ⟨?_, fun hn hc => ?_, fun hn hc => ?_⟩ fun t' k => ?_
  · rw [decide_eq_false (by omega), decide_eq_false (by omega)]; rfl
  · have h4 : (a.length : Int) * n ≤ 16777216 := by
      have : ((a.length * n.toNat : Nat) : Int) ≤ 16777216 := by omega
      rw [Int.natCast_mul] at this
      have e : ((n.toNat : Nat) : Int) = n := by omega
      rw [e] at this
      exact this
    have h5 : (a.length : Int) ≤ a.length * n := by
      have e : (a.length : Int) * 1 ≤ a.length * n := Int.mul_le_mul_of_nonneg_left (by omega) (by omega)
      omega
    have h6 : (4294967296 : Int) ≤ (2 ^ 63 - 1) / n := by
      rw [Int.le_ediv_iff_mul_le (by omega)]
      omega
    omega
  · unfold Builtin.Str.tooLong
    simp
    omega
  · rw [txt_mul]
    exact ⟨.str _, H, I.tok k, ⟨t', rfl⟩, q⟩
def rEqU (K : PySem.W.Frag) : R2 := fun x y H Q => match x, y with
  | .ref a, .ref b => rEqD K (.ref a) (.ref b) H Q
  | x, y => rEq x y H Q
theorem o_eq {K : PySem.W.Frag} {k : Nat} (hr : Rm k X) (hK : X.K = K := by rfl) : OpR X (compareOp .Eq) (rEqU K) := by
  subst hK
  intro pins s σ H x y v u Q I rx ry h
  cases x <;> cases y <;> first
    | exact op_eqD hr.room.units pins s σ H _ _ v u Q I rx ry h
    | exact op_eq pins s σ H _ _ v u Q I rx ry h
def rNeU (K : PySem.W.Frag) : R2 := fun x y H Q => match x, y with
  | .ref a, .ref b => rNeD K (.ref a) (.ref b) H Q
  | x, y => rNe x y H Q
theorem o_ne {K : PySem.W.Frag} {k : Nat} (hr : Rm k X) (hK : X.K = K := by rfl) : OpR X (compareOp .NotEq) (rNeU K) := by
  subst hK
  intro pins s σ H x y v u Q I rx ry h
  cases x <;> cases y <;> first
    | exact op_neD hr.room.units pins s σ H _ _ v u Q I rx ry h
    | exact op_ne pins s σ H _ _ v u Q I rx ry h
def hasS (z y : Str) : Bool := !(Builtin.Str.occurrences y z 0 y.length 1).isEmpty
def rInU (K : PySem.W.Frag) : R2 := fun x y H Q => match x, y with
  | .str z, .str y => Q (.bl (hasS z y)) H
  | x, .ref p => rIn K false x (.ref p) H Q
  | _, _ => False
def rNinU (K : PySem.W.Frag) : R2 := fun x y H Q => match x, y with
  | .str z, .str y => Q (.bl (!hasS z y)) H
  | x, .ref p => rIn K true x (.ref p) H Q
  | _, _ => False
def rLen (K : PySem.W.Frag) : List V → Hp → VK → Prop := fun xs H Q => match xs with
  | [.str y] => y.length ≤ sizeLine ∧ Q (.int y.length) H
  | [.ref p] => (∃ xs, (SqL K H p xs ∨ SqT K H p xs) ∧ Q (.int xs.length) H) ∨ ∃ kvs, H p = some (.dK kvs) ∧ Q (.int kvs.length) H
  | _ => False
theorem c_len {K : PySem.W.Frag} (hK : X.K = K := by rfl) : CallR X (.builtin "len") (rLen K) := by
  subst hK
  intro pins s σ H xs us Q I r h
  cases xs with
  | nil => exact (show False from h).elim
  | cons x xs =>
    cases xs with
    | cons y ys => cases x <;> exact (show False from h).elim
    | nil =>
      cases x with
      | str y => exact call_len pins s σ H _ us Q I r ⟨_, y.length, rfl, ⟨h.1, rfl⟩, h.2⟩
      | ref p =>
        rcases (show _ ∨ _ from h) with ⟨xs, hx | hx, q⟩ | ⟨kvs, hk, q⟩
        · exact call_len pins s σ H _ us Q I r ⟨_, xs.length, rfl, .inl ⟨xs, hx, rfl⟩, q⟩
        · exact call_len pins s σ H _ us Q I r ⟨_, xs.length, rfl, .inr ⟨xs, hx, rfl⟩, q⟩
        · exact call_lenD pins s σ H _ us Q I r ⟨p, kvs, rfl, hk, q⟩
      | _ => exact (show False from h).elim
/-- the name of a value's built-in type -/
def tyN (x : V) (H : Hp) : Option String := match x with
  | .non => some "NoneType"
  | .bl _ => some "bool"
  | .int _ => some "int"
  | .str _ => some "str"
  | .ref a => match H a with
    | some (.lst _) => some "list"
    | some (.tup _) => some "tuple"
    | some (.dK _) => some "dict"
    | some (.frz _ (.lst _)) => some "list"
    | some (.frz _ (.dK _)) => some "dict"
    | _ => none
  | _ => none
def isB (t T : String) : Bool := t == T || (t == "bool" && T == "int")
theorem kitB_tab : ∀ t ∈ ["NoneType", "bool", "int", "str", "list", "tuple", "dict"], ∀ T ∈ ["bool", "int", "str", "list", "tuple", "dict", "float"], kitB t T = some (isB t T) := by decide +kernel
theorem tyN_tyX {K : PySem.W.Frag} {H : Hp} {x : V} {t : String} (h : tyN x H = some t) : TyX K H x (.type t) ∧ t ∈ ["NoneType", "bool", "int", "str", "list", "tuple", "dict"] := by
  cases x with
  | non => cases h; exact ⟨.base .non, by simp⟩
  | bl b => cases h; exact ⟨.base (.bl b), by simp⟩
  | int i => cases h; exact ⟨.base (.int i), by simp⟩
  | str y => cases h; exact ⟨.base (.str y), by simp⟩
  | ref a =>
    unfold tyN at h
    simp only at h
    split at h <;> first | (cases h; done) | skip
    · rename_i e; cases h; exact ⟨.base (.lst e), by simp⟩
    · rename_i e; cases h; exact ⟨.base (.tup e), by simp⟩
    · rename_i e; cases h; exact ⟨.base (.dK e), by simp⟩
    · rename_i e; cases h; exact ⟨.base (.frz e), by simp⟩
    · rename_i e; cases h; exact ⟨.fDict e, by simp⟩
  | _ => cases h
def rIs (T : String) : List V → Hp → VK → Prop := fun xs H Q => match xs with
  | [x, .ty T'] => T' = T ∧ ∃ t, tyN x H = some t ∧ Q (.bl (isB t T)) H
  | _ => False
theorem c_is (T : String) (hT : T ∈ ["bool", "int", "str", "list", "tuple", "dict", "float"] := by decide) : CallR X (.builtin "isinstance") (rIs T) := by
  intro pins s σ H xs us Q I r h
  unfold rIs at h
  split at h
  · obtain ⟨rfl, t, ht, q⟩ := h
    obtain ⟨ty, m⟩ := tyN_tyX (K := X.K) ht
    exact call_isi pins s σ H _ us Q I r ⟨_, _, _, _, _, rfl, .ty _, ty, kit_ty (kitB_tab _ m _ hT), q⟩
  · exact h.elim
end
end RS
namespace RS
open PySem PySem.Spec L2
/-- another surrounding of the same frames -/
structure Rb (k : Nat) (X : Cx) (B : Around) : Prop where
  room : Room k B
  gd : B.guards = some []
  fr : B.frames = X.A.frames
theorem Rm.here {k : Nat} {X : Cx} (r : Rm k X) : Rb k X X.A := ⟨r.room, r.gd, rfl⟩
theorem Rb.in1 {k : Nat} {X : Cx} {B : Around} (r : Rb (k + 1) X B) : Rb k X B.in1 := ⟨r.room.in1, r.gd, r.fr⟩
theorem Rb.mono {j k : Nat} {X : Cx} {B : Around} (r : Rb k X B) (h : j ≤ k) : Rb j X B := ⟨r.room.mono h, r.gd, r.fr⟩
theorem Rb.make {k : Nat} {X : Cx} {B : Around} (r : Rb (k + 1) X B) (C : Addr) (us : List Value) (kw : List (Str × Value)) : Rb k X (B.under (.builtin "type.__call__" ⟨.ref C :: us, kw⟩)) := by
  refine ⟨r.room.make C us kw, ?_, ?_⟩
  · have g : (Code.builtin "type.__call__" ⟨.ref C :: us, kw⟩).isGuard = false := by show guardIds.contains "type.__call__" = false; decide +kernel
    simp [Around.under, Code.guards, g, pushGuards, r.gd]
  · have e : (B.under (.builtin "type.__call__" ⟨.ref C :: us, kw⟩)).frames = B.frames := by
      first | rfl | simp [Around.under, Code.envs, Code.isFrame, pushEnvs]
    rw [e]; exact r.fr
section
variable {g : Wd} {X : Cx} {k : Nat} {f C : Addr} {fd : FuncData} {ps : List Str} {sp : Sp} {W : WX}
variable {m : Str} {ds : List V} {o e : Expr} {es : List Expr} {ta : TE} {t : TA} {p pos apos : Pos}
def tMethG (C : Addr) (m : Str) (sp : Sp) (ds : List V) (W : WX) (ta : TE) (t : TA) : TE := fun σ H Q => ta σ H fun x H1 => ∃ a dx fs, x = .ref a ∧ H1 a = some (.ins C dx fs) ∧ fs.lookup m = none ∧
  t σ H1 fun vs H2 => sp (x :: (vs ++ ds)) H2 Q (fun c d H' => W c d σ H')
def tMakeG (C : Addr) (sp : Sp) (ds : List V) (W : WX) (t : TA) : TE := fun σ H Q => t σ H fun vs H1 => ∀ y dy, H1 y = none → H1 dy = none → dy ≠ y →
  sp (.ref y :: (vs ++ ds)) (upd (upd H1 dy (.own y)) y (.ins C dy [])) (fun v H2 => v = .non ∧ Q (.ref y) H2) (fun c d H' => W c d σ H')
variable {x : Str}
end
end RS
namespace RS
open PySem PySem.Spec L2
section
variable {g : Wd} {X : Cx} {k : Nat} {f C : Addr} {fd : FuncData} {ps ks : List Str} {sp : Sp} {W : WX} {ds : List V} {x : Str} {p pos : Pos} {kws : List Keyword} {tk' : TA} {pm : List Nat}
def tCallK (n : Nat) (sp : Sp) (pm : List Nat) (W : WX) (t : TA) : TE := fun σ H Q => t σ H fun zs H1 => zs.length = n ∧ sp (pm.map fun i => zs.getD i .non) H1 Q (fun c d H' => W c d σ H')
def tMakeK (n : Nat) (C : Addr) (sp : Sp) (pm : List Nat) (W : WX) (t : TA) : TE := fun σ H Q => t σ H fun zs H1 => zs.length = n ∧ ∀ y dy, H1 y = none → H1 dy = none → dy ≠ y →
  sp (.ref y :: pm.map fun i => zs.getD i .non) (upd (upd H1 dy (.own y)) y (.ins C dy [])) (fun v H2 => v = .non ∧ Q (.ref y) H2) (fun c d H' => W c d σ H')
def gFld (K : PySem.W.Frag) (ta : TE) (f : Str) : TG := fun v σ H Q => ta σ H fun x H1 => ∃ a C dx fs, x = .ref a ∧ H1 a = some (.ins C dx fs) ∧ Cls K C ∧ NoAttr K C f ∧ fs.length < 1000 ∧ Q σ (upd H1 a (.ins C dx (putF f v fs)))
/-- what may stand on the other side: a plain thing, or an instance of the same class -/
def Oth (C : Addr) (H : Hp) (y : V) : Prop := (∃ t, tyN y H = some t) ∨ ∃ b dx fs, y = .ref b ∧ H b = some (.ins C dx fs)
def rEqOwn (C : Addr) (sp : Sp) (ds : List V) (W : WX) (neg : Bool) : L2.St → R2 := fun σ x y H Q => ∃ a dx fs, x = .ref a ∧ H a = some (.ins C dx fs) ∧ Oth C H y ∧
  sp ([x, y] ++ ds) H (fun v H' => ∃ b, v = .bl b ∧ Q (.bl (if neg then !b else b)) H') (fun c d H' => W c d σ H')
end
section
variable {g : Wd} {X : Cx} {k : Nat} {C : Addr} {ps : List Str} {sp : Sp} {W : WX} {ds : List V} {p pos : Pos} {a b : Expr} {ta tb : TE}
def tEqOwn (C : Addr) (sp : Sp) (ds : List V) (W : WX) (neg : Bool) (ta tb : TE) : TE := fun σ H Q => ta σ H fun x H1 => tb σ H1 fun y H2 => rEqOwn C sp ds W neg σ x y H2 Q
end
end RS
namespace RS
open PySem PySem.Spec L2
section
variable {g : Wd} {X : Cx} {k : Nat} {C : Addr} {ps : List Str} {sp : Sp} {W : WX} {ds : List V} {p pos : Pos} {a b : Expr} {ta tb : TE}
def rBoolOwn (C : Addr) (sp : Sp) (ds : List V) (W : WX) : L2.St → List V → Hp → VK → Prop := fun σ xs H Q => ∃ q dx fs, xs = [.ref q] ∧ H q = some (.ins C dx fs) ∧
  sp ([.ref q] ++ ds) H (fun v H' => ∃ b, v = .bl b ∧ Q (.bl b) H') (fun c d H' => W c d σ H')
def tBoolOwn (C : Addr) (sp : Sp) (ds : List V) (W : WX) (ta : TA) : TE := fun σ H Q => ta σ H fun xs H1 => rBoolOwn C sp ds W σ xs H1 Q
end
end RS
namespace RS
open PySem PySem.Spec PyProof.Rows L2
end RS
namespace RS
open PySem PySem.Spec L2
/-- in a def's body: what is raised goes on to the caller -/
theorem tkD {g : Wd} {N : List Str} {qual : Str} {st : Stmt} {f : Addr} {cdv : Value} {A : Around} {outer : List Env} {s : Shared} {H : Hp} {E : XK} : Takes (cx g N qual st f cdv A outer s H E) (fun c d _ H' => E c d H') := takes_of rfl rfl rfl rfl
theorem psD {g : Wd} {N : List Str} {qual : Str} {st : Stmt} {f : Addr} {cdv : Value} {A : Around} {outer : List Env} {s : Shared} {H : Hp} {E : XK} :
    PassesOwn (model (cx g N qual st f cdv A outer s H E).prog (cx g N qual st f cdv A outer s H E).w) (cx g N qual st f cdv A outer s H E).A (cx g N qual st f cdv A outer s H E).env (cx g N qual st f cdv A outer s H E).xe := passes_of rfl
theorem bb_len : bootBuiltins "len" = some (.builtin "len") := by decide +kernel
theorem bb_isinstance : bootBuiltins "isinstance" = some (.builtin "isinstance") := by decide +kernel
theorem bb_abs : bootBuiltins "abs" = some (.builtin "abs") := by decide +kernel
theorem bb_repr : bootBuiltins "repr" = some (.builtin "repr") := by decide +kernel
theorem bb_all : bootBuiltins "all" = some (.builtin "all") := by decide +kernel
theorem bb_sorted : bootBuiltins "sorted" = some (.builtin "sorted") := by decide +kernel
theorem bb_str : bootBuiltins "str" = some (.type "str") := by decide +kernel
theorem bb_int : bootBuiltins "int" = some (.type "int") := by decide +kernel
theorem bb_list : bootBuiltins "list" = some (.type "list") := by decide +kernel
theorem bb_tuple : bootBuiltins "tuple" = some (.type "tuple") := by decide +kernel
theorem bb_bool : bootBuiltins "bool" = some (.type "bool") := by decide +kernel
section
variable {X : Cx}
def rIxU (K : PySem.W.Frag) : R2 := fun x y H Q => match x, y with
  | .str z, .int i => z.length ≤ sizeLine ∧ ∃ c, atI z.cps.toList i = some c ∧ Q (.str ⟨#[c]⟩) H
  | .ref p, .int i => ∃ xs, (SqL K H p xs ∨ SqT K H p xs) ∧ ∃ v, atI xs i = some v ∧ Q v H
  | _, _ => False
theorem o_ix {K : PySem.W.Frag} (hK : X.K = K := by rfl) : IxR X (rIxU K) := by
  subst hK
  intro ve se pins s σ H x y v u Q I rx ry h hsub
  cases x <;> cases y <;> first
    | exact (show False from h).elim
    | (obtain ⟨h1, c, h2, q⟩ := h; exact ix_str ve se pins s σ H _ _ v u Q I rx ry ⟨_, _, c, rfl, rfl, h1, h2, q⟩ hsub)
    | skip
  obtain ⟨xs, hx | hx, w, h2, q⟩ := h
  · exact ix_list ve se pins s σ H _ _ v u Q I rx ry ⟨_, xs, _, w, rfl, rfl, hx, h2, q⟩ hsub
  · exact ix_tup ve se pins s σ H _ _ v u Q I rx ry ⟨_, xs, _, w, rfl, rfl, hx, h2, q⟩ hsub
def rSlU (K : PySem.W.Frag) : V → Option Int → Option Int → Hp → VK → Prop := fun x lo hi H Q => match x with
  | .str z => z.length ≤ sizeLine ∧ Q (.str (cutS z lo hi)) H
  | .ref p => rSlL K (.ref p) lo hi H Q ∨ rSlA K (.ref p) lo hi H Q
  | _ => False
variable {K : PySem.W.Frag} {p pos tpos : Pos} {e o : Expr} {es : List Expr} {ta te : TE} {t : TA}
theorem c_all (hK : X.K = K := by rfl) (hc : X.calm = true := by rfl) : CallR X (.builtin "all") (rAll K) := by subst hK; exact cr_all hc
theorem g_tup {k : Nat} {t : TGs} {n : Nat} (h : PGs X es t) (hc : X.calm = true := by rfl) (hn : (assignEach es X.env).length = n := by rfl) (hst : (assignEach es X.env).findIdx? (·.1) = none := by rfl) (hK : X.K = K := by rfl) :
    PG X (.Tuple es k pos) (gTup K n t) := by subst hK; exact pg_tup hc h hn hst
theorem e_bm {T id : String} {name : Str} {apos cpos : Pos} {to : TE} {r : V → List V → Hp → VK → Prop} (pa : PlainAttrs T) (slot : Slot T name id) (hty : typeOf (.builtin id) = pure (.type "method_descriptor")) (hm : MtR X id r) (ho : PE X o to) (ha : PA X (e :: es) t)
    (hbase : attributeBase o name X.env (eval o X.env) = eval o X.env := by rfl)
    (hfew : ((backTo cpos (starEach (e :: es) X.env)).all (fun x => !x.1) && (backToKw cpos (keywordEach [] X.env)).all (fun x => x.1.isSome)
      && decide ((e :: es).length + ([] : List Keyword).length + (if ([] : List Keyword).isEmpty then 0 else 1) < 30)) = true := by rfl)
    (hline : (apos.endLine == cpos.line) = true := by rfl) (hs : starEach (e :: es) X.env = (false, eval e X.env) :: starEach es X.env := by rfl) (hplain : (backTo cpos (starEach es X.env)).any (·.1) = false := by rfl) (hK : X.K = K := by rfl) :
    PE X (.Call (.Attribute o name apos) (e :: es) [] cpos) (tBM K T r to t) := by subst hK; exact pe_bm pa slot hty hm ho ha hbase hfew hline hs hplain
theorem i_list {tg : Expr} (hl : PE X e te) (hK : X.K = K := by rfl) : PI X tg e (iList K te) := by subst hK; exact pi_list hl
theorem i_tup {tg : Expr} (hl : PE X e te) (hK : X.K = K := by rfl) : PI X tg e (iTup K te) := by subst hK; exact pi_tup hl
end
end RS
namespace RS
open PySem PySem.Spec L2
theorem same_new {H H1 : Hp} {p : Addr} {o : HO} (h : Same H H1) (n : H1 p = none) : Same H (upd H1 p o) := fun b u e => by
  rw [upd_ne (ne_of_none (h b u e) n)]; exact h b u e
theorem same_upd {H : Hp} {p : Addr} {o : HO} (n : H p = none) : Same H (L2.upd H p o) := same_new (Same.refl H) n
def ForB (J : It) (g : TG) (tb : TS) (D : Ends) (σ : L2.St) (H : Hp) : Prop := ∃ W : Nat → Nat → L2.St → Hp → Prop, (∃ m, W 0 m σ H) ∧ ∀ i m σ H, W i m σ H →
  (J.stop i H ∧ D.nx σ H) ∨ (J.go i H ∧ ∃ N : L2.St → Hp → Prop, (∀ σ' H', N σ' H' → ∃ m', m' < m ∧ W (i + 1) m' σ' H') ∧ ∀ x H', J.yld i H x H' → g x σ H' fun σ2 H2 => tb { D with nx := N, ct := N, bk := D.nx } σ2 H2)
theorem tFor_eq (wi : TI) (g : TG) (tb : TS) (D : Ends) (σ : L2.St) (H : Hp) : tFor wi g tb D σ H = wi σ H fun J H1 => ForB J g tb D σ H1 := rfl
def LcB (J : It) (g : TG) (tt : TT) (te : TE) (vs : List Nat) (σ : L2.St) (H1 : Hp) (Q : VK) : Prop := ∀ D, H1 D = none → ∃ W : Nat → Nat → Hp → Prop, (∃ m, W 0 m (upd H1 D (.lst []))) ∧ ∀ i m H, W i m H →
  (J.stop i H ∧ Q (.ref D) H) ∨ (J.go i H ∧ ∃ Nx : Hp → Prop, (∀ H', Nx H' → ∃ m', m' < m ∧ W (i + 1) m' H') ∧ ∀ x H', J.yld i H x H' → g x (wipe σ vs) H' fun σ2 H2 => wipe σ2 vs = wipe σ vs ∧ tt σ2 H2 fun b H3 =>
    if b = true then te σ2 H3 fun y H4 => ∃ acc, H4 D = some (.lst acc) ∧ acc.length < sizeLine ∧ Nx (upd H4 D (.lst (acc ++ [y]))) else Nx H3)
theorem tLc_eq (wi : TI) (g : TG) (tt : TT) (te : TE) (vs : List Nat) (σ : L2.St) (H : Hp) (Q : VK) : tLc wi g tt te vs σ H Q = wi σ H fun J H1 => LcB J g tt te vs σ H1 Q := rfl
theorem for_by {J : It} {g : TG} {tb : TS} {D : Ends} {σ : L2.St} {H : Hp} (n : Nat) (Pv : Nat → L2.St → Hp → Prop) (h0 : Pv 0 σ H) (hgo : ∀ i σ H, i < n → Pv i σ H → J.go i H) (hst : ∀ σ H, Pv n σ H → J.stop n H)
    (hs : ∀ i σ H x H', i < n → Pv i σ H → J.yld i H x H' → g x σ H' fun σ2 H2 => tb { D with nx := Pv (i + 1), ct := Pv (i + 1), bk := D.nx } σ2 H2) (hd : ∀ σ H, Pv n σ H → D.nx σ H) :
    ForB J g tb D σ H := by
  refine ⟨fun i m σ H => m = n - i ∧ i ≤ n ∧ Pv i σ H, ⟨n, by omega, Nat.zero_le _, h0⟩, ?_⟩
  rintro i m σ H ⟨rfl, hi, p⟩
  by_cases lt : i < n
  · exact .inr ⟨hgo i σ H lt p, Pv (i + 1), fun σ' H' p' => ⟨n - (i + 1), by omega, rfl, lt, p'⟩, fun x H' y => hs i σ H x H' lt p y⟩
  · have e : i = n := by omega
    subst e
    exact .inl ⟨hst σ H p, hd σ H p⟩
theorem lc_kept {J : It} {g : TG} {tt : TT} {te : TE} {vs : List Nat} {σ : L2.St} {H1 : Hp} {Qf : VK} (n : Nat) (kept : Nat → Option V) (hn : n ≤ sizeLine)
    (hgo : ∀ i H, i < n → Same H1 H → J.go i H) (hst : ∀ H, Same H1 H → J.stop n H)
    (hs : ∀ i H x H' (K : VK) (K0 : Hp → Prop), i < n → Same H1 H → J.yld i H x H' → (∀ v H4, kept i = some v → Same H H4 → K v H4) → (kept i = none → ∀ H4, Same H H4 → K0 H4) →
      g x (wipe σ vs) H' fun σ2 H2 => wipe σ2 vs = wipe σ vs ∧ tt σ2 H2 fun b H3 => if b = true then te σ2 H3 K else K0 H3)
    (hd : ∀ D H, H1 D = none → Same H1 H → H D = some (.lst ((List.range n).filterMap kept)) → Qf (.ref D) H) :
    LcB J g tt te vs σ H1 Qf := by
  intro D hD
  have len : ∀ i, ((List.range i).filterMap kept).length ≤ i := fun i => Nat.le_trans (List.length_filterMap_le _ _) (by rw [List.length_range]; exact Nat.le_refl _)
  have succ : ∀ i, (List.range (i + 1)).filterMap kept = (List.range i).filterMap kept ++ (match kept i with | some v => [v] | none => []) := fun i => by
    rw [List.range_succ, List.filterMap_append]
    cases e : kept i <;> simp [List.filterMap_cons, e]
  let Pv : Nat → Hp → Prop := fun i H => Same H1 H ∧ H D = some (.lst ((List.range i).filterMap kept))
  have store : ∀ i H4 v, Same H1 H4 → H4 D = some (.lst ((List.range i).filterMap kept)) → kept i = some v → Pv (i + 1) (upd H4 D (.lst ((List.range i).filterMap kept ++ [v]))) := fun i H4 v s e k =>
    ⟨fun b o q => by rw [upd_ne (ne_of_none q hD)]; exact s b o q, by rw [upd_same, succ, k]⟩
  refine ⟨fun i m H => m = n - i ∧ i ≤ n ∧ Pv i H, ⟨n, by omega, Nat.zero_le _, fun b o q => by rw [upd_ne (ne_of_none q hD)]; exact q, upd_same⟩, ?_⟩
  rintro i m H ⟨rfl, hi, s, eD⟩
  by_cases lt : i < n
  · refine .inr ⟨hgo i H lt s, Pv (i + 1), fun H' p' => ⟨n - (i + 1), by omega, rfl, lt, p'⟩, fun x H' y => ?_⟩
    refine hs i H x H' _ (Pv (i + 1)) lt s y (fun v H4 k s4 => ⟨_, s4 D _ eD, by have := len i; omega, store i H4 v (s.trans s4) (s4 D _ eD) k⟩) fun k H4 s4 => ⟨s.trans s4, ?_⟩
    rw [succ, k, s4 D _ eD, List.append_nil]
  · have e : i = n := by omega
    subst e
    exact .inl ⟨hst H s, hd D H hD s eD⟩
/-- .. where all are kept -/
theorem lc_all {J : It} {g : TG} {te : TE} {vs : List Nat} {σ : L2.St} {H1 : Hp} {Qf : VK} (n : Nat) (val : Nat → V) (hn : n ≤ sizeLine)
    (hgo : ∀ i H, i < n → Same H1 H → J.go i H) (hst : ∀ H, Same H1 H → J.stop n H)
    (hs : ∀ i H x H' (K : VK), i < n → Same H1 H → J.yld i H x H' → (∀ H4, Same H H4 → K (val i) H4) →
      g x (wipe σ vs) H' fun σ2 H2 => wipe σ2 vs = wipe σ vs ∧ te σ2 H2 K)
    (hd : ∀ D H, H1 D = none → Same H1 H → H D = some (.lst ((List.range n).map val)) → Qf (.ref D) H) :
    LcB J g tYes te vs σ H1 Qf := by
  refine lc_kept n (fun i => some (val i)) hn hgo hst (fun i H x H' K K0 lt s y k _ => ?_) (fun D H h1 h2 h3 => hd D H h1 h2 ?_)
  · have e : (fun (σ2 : L2.St) (H2 : Hp) => wipe σ2 vs = wipe σ vs ∧ tYes σ2 H2 fun b H3 => if b = true then te σ2 H3 K else K0 H3) = fun σ2 H2 => wipe σ2 vs = wipe σ vs ∧ te σ2 H2 K := by
      funext σ2 H2
      simp only [tYes, if_true]
    rw [e]
    exact hs i H x H' K lt s y fun H4 s4 => k _ H4 rfl s4
  · rw [h3]
    congr 2
    rw [show (fun i => some (val i)) = some ∘ val from rfl, ← List.filterMap_eq_map]
end RS
namespace RS
open PySem PySem.Spec L2
section
variable {K : PySem.W.Frag} {H : Hp} {Q : VK} {i j : Int} {a b z : Str} {p q : Addr} {c d : Bool} {x : V}
theorem add_ii : rAdd K (.int i) (.int j) H Q = Q (.int (i + j)) H := rfl
theorem add_ss : rAdd K (.str a) (.str b) H Q = (a.length + b.length ≤ sizeLine ∧ Q (.str (a ++ b)) H) := rfl
theorem add_rr : rAdd K (.ref p) (.ref q) H Q = (rCat (.ref p) (.ref q) H Q ∨ rCatA K (.ref p) (.ref q) H Q) := rfl
theorem mul_ii : rMul (.int i) (.int j) H Q = (CMul i j ∧ Q (.int (i * j)) H) := rfl
theorem mul_si : rMul (.str a) (.int i) H Q = (i < 2 ^ 31 ∧ -(2 ^ 31) < i ∧ a.length * i.toNat ≤ sizeLine ∧ Q (.str (repS a i.toNat)) H) := rfl
theorem mul_ri : rMul (.ref p) (.int i) H Q = rRep (.ref p) (.int i) H Q := rfl
theorem eq_of {x y : V} {k : Bool} (h : scal x y = true) (e : decide (x = y) = k) : rEq x y H Q = Q (.bl k) H := by
  unfold rEq; rw [h, e]; simp
theorem ne_of' {x y : V} {k : Bool} (h : scal x y = true) (e : decide (x = y) = k) : rNe x y H Q = Q (.bl (!k)) H := by
  unfold rNe; rw [h, e]; simp
theorem eq_ii : rEqU K (.int i) (.int j) H Q = Q (.bl (decide (i = j))) H := eq_of rfl (by simp)
theorem eq_ss : rEqU K (.str a) (.str b) H Q = Q (.bl (decide (a = b))) H := eq_of rfl (by simp)
theorem eq_bb : rEqU K (.bl c) (.bl d) H Q = Q (.bl (decide (c = d))) H := eq_of rfl (by simp)
theorem eq_nn : rEqU K .non .non H Q = Q (.bl true) H := eq_of rfl (by simp)
theorem eq_sn : rEqU K (.str a) .non H Q = Q (.bl false) H := eq_of rfl (by simp)
theorem eq_ns : rEqU K .non (.str a) H Q = Q (.bl false) H := eq_of rfl (by simp)
theorem eq_in : rEqU K (.int i) .non H Q = Q (.bl false) H := eq_of rfl (by simp)
theorem eq_ni : rEqU K .non (.int i) H Q = Q (.bl false) H := eq_of rfl (by simp)
theorem eq_bn : rEqU K (.bl c) .non H Q = Q (.bl false) H := eq_of rfl (by simp)
theorem eq_nb : rEqU K .non (.bl c) H Q = Q (.bl false) H := eq_of rfl (by simp)
theorem eq_is : rEqU K (.int i) (.str a) H Q = Q (.bl false) H := eq_of rfl (by simp)
theorem eq_si : rEqU K (.str a) (.int i) H Q = Q (.bl false) H := eq_of rfl (by simp)
theorem eq_rr : rEqU K (.ref p) (.ref q) H Q = rEqD K (.ref p) (.ref q) H Q := rfl
theorem ne_ii : rNeU K (.int i) (.int j) H Q = Q (.bl (!decide (i = j))) H := ne_of' rfl (by simp)
theorem ne_ss : rNeU K (.str a) (.str b) H Q = Q (.bl (!decide (a = b))) H := ne_of' rfl (by simp)
theorem ne_bb : rNeU K (.bl c) (.bl d) H Q = Q (.bl (!decide (c = d))) H := ne_of' rfl (by simp)
theorem ne_nn : rNeU K .non .non H Q = Q (.bl false) H := ne_of' (k := true) rfl (by simp)
theorem ne_sn : rNeU K (.str a) .non H Q = Q (.bl true) H := ne_of' (k := false) rfl (by simp)
theorem ne_ns : rNeU K .non (.str a) H Q = Q (.bl true) H := ne_of' (k := false) rfl (by simp)
theorem ne_in : rNeU K (.int i) .non H Q = Q (.bl true) H := ne_of' (k := false) rfl (by simp)
theorem ne_ni : rNeU K .non (.int i) H Q = Q (.bl true) H := ne_of' (k := false) rfl (by simp)
theorem ne_is : rNeU K (.int i) (.str a) H Q = Q (.bl true) H := ne_of' (k := false) rfl (by simp)
theorem ne_si : rNeU K (.str a) (.int i) H Q = Q (.bl true) H := ne_of' (k := false) rfl (by simp)
theorem ne_rr : rNeU K (.ref p) (.ref q) H Q = rNeD K (.ref p) (.ref q) H Q := rfl
theorem in_ss : rInU K (.str a) (.str b) H Q = Q (.bl (hasS a b)) H := rfl
theorem in_r : rInU K x (.ref p) H Q = ∃ xs, (SqL K H p xs ∨ SqT K H p xs) ∧ flatV x = true ∧ xs.all flatV = true ∧ Q (.bl (inV x xs)) H := by
  cases x <;> simp [rInU, rIn]
theorem nin_ss : rNinU K (.str a) (.str b) H Q = Q (.bl (!hasS a b)) H := rfl
theorem nin_r : rNinU K x (.ref p) H Q = ∃ xs, (SqL K H p xs ∨ SqT K H p xs) ∧ flatV x = true ∧ xs.all flatV = true ∧ Q (.bl (!inV x xs)) H := by
  cases x <;> simp [rNinU, rIn]
theorem len_s : rLen K [.str a] H Q = (a.length ≤ sizeLine ∧ Q (.int a.length) H) := rfl
theorem len_r : rLen K [.ref p] H Q = ((∃ xs, (SqL K H p xs ∨ SqT K H p xs) ∧ Q (.int xs.length) H) ∨ ∃ kvs, H p = some (.dK kvs) ∧ Q (.int kvs.length) H) := rfl
theorem ix_s : rIxU K (.str a) (.int i) H Q = (a.length ≤ sizeLine ∧ ∃ c, atI a.cps.toList i = some c ∧ Q (.str ⟨#[c]⟩) H) := rfl
theorem ix_r : rIxU K (.ref p) (.int i) H Q = ∃ xs, (SqL K H p xs ∨ SqT K H p xs) ∧ ∃ v, atI xs i = some v ∧ Q v H := rfl
theorem sl_s {lo hi : Option Int} : rSlU K (.str a) lo hi H Q = (a.length ≤ sizeLine ∧ Q (.str (cutS a lo hi)) H) := rfl
theorem sl_r {lo hi : Option Int} : rSlU K (.ref p) lo hi H Q = (rSlL K (.ref p) lo hi H Q ∨ rSlA K (.ref p) lo hi H Q) := rfl
theorem is_eq {T T' : String} : rIs T [x, .ty T'] H Q = (T' = T ∧ ∃ t, tyN x H = some t ∧ Q (.bl (isB t T)) H) := rfl
theorem tyN_n : tyN .non H = some "NoneType" := rfl
theorem tyN_b : tyN (.bl c) H = some "bool" := rfl
theorem tyN_i : tyN (.int i) H = some "int" := rfl
theorem tyN_s : tyN (.str a) H = some "str" := rfl
theorem tru_b {k : Bool} : TruV K (.bl c) H k = (k = c) := rfl
theorem tru_i {k : Bool} : TruV K (.int i) H k = (k = (i != 0)) := rfl
theorem tru_n {k : Bool} : TruV K .non H k = (k = false) := rfl
end
end RS
namespace RS
open PySem PySem.Spec L2
open SX (S S_len S_cat S_tl S_inj)
theorem ofS_tl (a : String) : (Str.ofString a).cps.toList = a.toList.map Char.toNat := PyProof.Rows.signs_ofString a
theorem ofS_eq {a b : String} : (Str.ofString a = Str.ofString b) = (a = b) := by
  refine propext ⟨fun h => ?_, fun h => by rw [h]⟩
  have e : a.toList.map Char.toNat = b.toList.map Char.toNat := by rw [← ofS_tl, ← ofS_tl, h]
  have inj : ∀ l m : List Char, l.map Char.toNat = m.map Char.toNat → l = m := by
    intro l
    induction l with
    | nil => intro m h; cases m with | nil => rfl | cons => simp at h
    | cons c l ih =>
      intro m h
      cases m with
      | nil => simp at h
      | cons d m =>
        simp only [List.map_cons, List.cons.injEq] at h
        rw [ih m h.2, show c = d from Char.toNat_inj.mp h.1]
  exact String.toList_inj.mp (inj _ _ e)
theorem lk_nil {a : Str} : List.lookup a ([] : List (Str × V)) = none := rfl
theorem lk_cons {a k : Str} {v : V} {es : List (Str × V)} : List.lookup a ((k, v) :: es) = if a = k then some v else List.lookup a es := by
  rw [List.lookup_cons]
  by_cases h : a = k
  · subst h; simp
  · rw [if_neg h, beq_eq_false_iff_ne.mpr h]
theorem pu_nil {f : Str} {v : V} : putF f v [] = [(f, v)] := rfl
theorem pu_cons {f k : Str} {v x : V} {r : List (Str × V)} : putF f v ((k, x) :: r) = if k = f then (k, v) :: r else (k, x) :: putF f v r := rfl
/-- repr of what is small -/
theorem repr_by {K : PySem.W.Frag} {H : Hp} {Q : VK} {a : Addr} (d : PyData) (h : Dp K H (.ref a) d) (h1 : d.showable = true) (h2 : d.depth ≤ 60) (h3 : d.leavesShort 13 = true) (h4 : d.weight ≤ 2 ^ 20) (q : Q (.str d.shown) H) : rRepr K [.ref a] H Q :=
  ⟨a, d, rfl, h, h1, h2, PyData.shown_fits (by decide) (by decide) h3 h4, q⟩
end RS
namespace RS
open PySem PySem.Spec L2
def tPr (C : Addr) (f : Str) (ta : TE) : TE := fun σ H Q => ta σ H fun x H1 => ∃ a dx fs v, x = .ref a ∧ H1 a = some (.ins C dx fs) ∧ fs.lookup f = some v ∧ Q v H1
end RS
namespace RS
open PySem PySem.Spec L2
theorem dget_of {H : Hp} {a : Addr} {kvs : List (Key × V)} {k : Key} {o : Option V} (e : H a = some (.dK kvs)) : DGet H a (kV k) o = (valV kvs k = o) := by
  refine propext ⟨?_, fun h => .inl ⟨kvs, k, .inl e, rfl, h.symm⟩⟩
  rintro (⟨kvs', k', h, ek, rfl⟩ | ⟨kvs', k', b, h, ek, _⟩)
  · have : k' = k := by cases k <;> cases k' <;> simp_all [kV]
    subst this
    rcases h with h | ⟨o, h⟩
    · rw [e] at h; cases h; rfl
    · rw [e] at h; cases h
  · cases k <;> cases ek
theorem dget_s {H : Hp} {a : Addr} {kvs : List (Key × V)} {k : Str} {o : Option V} (e : H a = some (.dK kvs)) : DGet H a (.str k) o = (valV kvs (.inr k) = o) := dget_of (k := .inr k) e
theorem dget_us {H : Hp} {a : Addr} {kvs : List (Key × V)} {k : Str} {o : Option V} : DGet (upd H a (.dK kvs)) a (.str k) o = (valV kvs (.inr k) = o) := dget_s upd_same
theorem dput_of {H : Hp} {a : Addr} {kvs : List (Key × V)} {k : Key} {v : V} {P : Hp → Prop} (e : H a = some (.dK kvs)) : (∃ H4, DPut H a (kV k) v H4 ∧ P H4) = (kvs.length < sizeLine ∧ P (upd H a (.dK (putK kvs k v)))) := by
  refine propext ⟨?_, fun h => ⟨_, .k e h.1, h.2⟩⟩
  rintro ⟨H4, (⟨kvs', k', h, ek, hl, rfl⟩ | ⟨kvs', k', b, h, ek, _⟩), q⟩
  · have : k' = k := by cases k <;> cases k' <;> simp_all [kV]
    subst this
    rw [e] at h; cases h
    exact ⟨hl, q⟩
  · cases k <;> cases ek
theorem dput_s {H : Hp} {a : Addr} {kvs : List (Key × V)} {k : Str} {v : V} {P : Hp → Prop} (e : H a = some (.dK kvs)) : (∃ H4, DPut H a (.str k) v H4 ∧ P H4) = (kvs.length < sizeLine ∧ P (upd H a (.dK (putK kvs (.inr k) v)))) := dput_of (k := .inr k) e
theorem dput_us {H : Hp} {a : Addr} {kvs : List (Key × V)} {k : Str} {v : V} {P : Hp → Prop} : (∃ H4, DPut (upd H a (.dK kvs)) a (.str k) v H4 ∧ P H4) = (kvs.length < sizeLine ∧ P (upd (upd H a (.dK kvs)) a (.dK (putK kvs (.inr k) v)))) := dput_s upd_same
theorem vv_nil {k : Key} : valV ([] : List (Key × V)) k = none := rfl
theorem vv_cons {p k : Key} {v : V} {r : List (Key × V)} : valV ((p, v) :: r) k = if p = k then some v else valV r k := by
  by_cases h : p = k
  · rw [valV_pos (p := (p, v)) h, if_pos h]
  · rw [valV_neg (p := (p, v)) h, if_neg h]
theorem pk_nil {k : Key} {v : V} : putK ([] : List (Key × V)) k v = [(k, v)] := rfl
theorem pk_cons {p k : Key} {v x : V} {r : List (Key × V)} (hr : valV r p = none := by first | rfl | decide) : putK ((p, x) :: r) k v = if p = k then (p, v) :: r else (p, x) :: putK r k v := by
  unfold putK
  by_cases h : p = k
  · subst h
    rw [if_pos rfl, if_pos (by simp)]
    simp only [List.map_cons, if_true]
    congr 1
    have : ∀ q ∈ r, q.1 ≠ p := fun q hq e => by
      have := valV_any p r
      rw [hr] at this
      have t : (r.any fun kv => decide (kv.1 = p)) = true := List.any_eq_true.mpr ⟨q, hq, by simp [e]⟩
      rw [this] at t; cases t
    have e : r.map (fun kv => if kv.1 = p then (kv.1, v) else kv) = r.map id := List.map_congr_left fun q hq => by simp [this q hq]
    rw [e, List.map_id]
  · rw [if_neg h]
    by_cases c : (r.any fun kv => decide (kv.1 = k)) = true
    · rw [if_pos (by simp [c]), if_pos c]
      simp [h]
    · rw [if_neg (by simp [c, h]), if_neg c]; rfl
theorem pk_one {p k : Key} {v x : V} : putK [(p, x)] k v = if p = k then [(p, v)] else [(p, x), (k, v)] := pk_cons (hr := rfl)
theorem inr_eq {a b : Str} : ((.inr a : Key) = .inr b) = (a = b) := by simp
end RS
namespace RS
open PySem PySem.Spec L2
def Leaf (d : PyData) : Prop := match d with
  | .none => True
  | .bool _ => True
  | .int i => i.natAbs < 10 ^ 12
  | .str x => (∀ c ∈ x.cps.toList, c < 16 ^ 8) ∧ x.length ≤ 10000
  | _ => False
theorem log2_small {n : Nat} (h : n < 10 ^ 12) : n.log2 ≤ 40 := by
  rcases Nat.eq_zero_or_pos n with rfl | h0
  · simp
  · have : n.log2 < 41 := (Nat.log2_lt (by omega)).mpr (show n < 2 ^ 41 by omega)
    omega
theorem Leaf.all {d : PyData} (h : Leaf d) : d.showable = true ∧ d.leavesShort 13 = true ∧ d.weight ≤ 10000 ∧ d.depth ≤ 1 := by
  cases d with
  | none => exact ⟨rfl, rfl, by decide, by decide⟩
  | bool b => exact ⟨rfl, rfl, by simp [PyData.weight], by simp [PyData.depth]⟩
  | int i =>
    have h : i.natAbs < 10 ^ 12 := h
    have l := log2_small h
    refine ⟨?_, ?_, ?_, by simp [PyData.depth]⟩
    · simp only [PyData.showable, decide_eq_true_eq]; omega
    · simp only [PyData.leavesShort, decide_eq_true_eq]; exact PyData.shown_int_le h
    · simp only [PyData.weight]; split <;> omega
  | str x =>
    refine ⟨rfl, ?_, ?_, by simp [PyData.depth]⟩
    · simp only [PyData.leavesShort, List.all_eq_true, decide_eq_true_eq]; exact h.1
    · simp only [PyData.weight]; exact h.2
  | list _ => exact h.elim
  | tuple _ => exact h.elim
  | dict _ => exact h.elim
theorem leafs_all : ∀ {ds : List PyData}, (∀ d ∈ ds, Leaf d) → PyData.showableAll ds = true ∧ PyData.leavesShortAll 13 ds = true ∧ PyData.weightAll ds ≤ 10001 * ds.length ∧ PyData.depthAll ds ≤ 1
  | [], _ => ⟨rfl, rfl, by simp [PyData.weightAll], by simp [PyData.depthAll]⟩
  | d :: ds, h => by
    have a := (h d List.mem_cons_self).all
    have b := leafs_all (ds := ds) fun x hx => h x (List.mem_cons_of_mem _ hx)
    refine ⟨?_, ?_, ?_, ?_⟩
    · simp [PyData.showableAll, a.1, b.1]
    · simp [PyData.leavesShortAll, a.2.1, b.2.1]
    · simp only [PyData.weightAll, List.length_cons]; omega
    · simp only [PyData.depthAll]; omega
theorem repr_list {K : PySem.W.Frag} {H : Hp} {Q : VK} {a : Addr} {xs : List V} {ds : List PyData} (h : SqL K H a xs) (hd : DpAll K H xs ds) (hl : ∀ d ∈ ds, Leaf d) (n : ds.length ≤ 100) (q : Q (.str (PyData.list ds).shown) H) : rRepr K [.ref a] H Q := by
  obtain ⟨a1, a2, a3, a4⟩ := leafs_all hl
  refine repr_by (.list ds) (.lst h hd) ?_ ?_ ?_ ?_ q
  · simpa only [PyData.showable] using a1
  · simp only [PyData.depth]; omega
  · simpa only [PyData.leavesShort] using a2
  · simp only [PyData.weight]; omega
end RS
namespace RS
open PySem PySem.Spec L2
theorem sq_same {K : PySem.W.Frag} {H H' : Hp} {a : Addr} {xs : List V} (h : SqL K H a xs) (s : Same H H') : SqL K H' a xs := by
  rcases h with (h | ⟨o, h⟩) | h
  · exact .inl (.inl (s _ _ h))
  · exact .inl (.inr ⟨o, s _ _ h⟩)
  · exact .inr h
theorem dp_ints {K : PySem.W.Frag} {H : Hp} : ∀ ns : List Int, DpAll K H (ns.map V.int) (ns.map PyData.int)
  | [] => .nil
  | n :: ns => .cons (.int n) (dp_ints ns)
theorem lay_ints : ∀ ns : List Int, PyData.canLayAll0 (ns.map PyData.int) = true ∧ PyData.depthAll (ns.map PyData.int) = 0
  | [] => ⟨rfl, rfl⟩
  | n :: ns => by
    have h := lay_ints ns
    simp [PyData.canLayAll0, PyData.canLay0, PyData.depthAll, PyData.depth, h]
theorem shaped_ints (ns : List Int) : SeqAt.shaped (.list (ns.map PyData.int)) = true := by
  have h := lay_ints ns
  simp [SeqAt.shaped, PyData.canLay0, PyData.depth, h]
theorem eqv_nil (ns : List Int) : PyData.eqv (.list (ns.map PyData.int)) (.list []) = ns.isEmpty := by
  cases ns <;> rfl
theorem ty_list {K : PySem.W.Frag} {p : Addr} {H : Hp} : tyV K "list" (.ref p) H = ∃ xs, SqL K H p xs := by simp [tyV]
theorem ty_str {K : PySem.W.Frag} {x : Str} {H : Hp} : tyV K "str" (.str x) H = True := by simp [tyV]
/-- a statement, then the rest, with a word between them that the simp set leaves alone -/
def tMid (t u : TS) : TS := fun D σ H => ∃ Mid : L2.St → Hp → Prop, t { D with nx := Mid } σ H ∧ ∀ σ' H', Mid σ' H' → u D σ' H'
theorem pss_mid {X : Cx} {st : Stmt} {rest : List Stmt} {t u : TS} (h1 : PS X st t) (h2 : PSs X rest u) : PSs X (st :: rest) (tMid t u) := C8.pss_cut h1 h2
theorem mid_at {t u : TS} {D : Ends} {σ : L2.St} {H : Hp} (Mid : L2.St → Hp → Prop) (h1 : t { D with nx := Mid } σ H) (h2 : ∀ σ' H', Mid σ' H' → u D σ' H') : tMid t u D σ H := ⟨Mid, h1, h2⟩
/-- .. where one state alone is left -/
theorem mid_one {t u : TS} {D : Ends} {σ : L2.St} {H : Hp} (σ1 : L2.St) (R : Hp → Prop) (h1 : t { D with nx := fun σ' H' => σ' = σ1 ∧ R H' } σ H) (h2 : ∀ H', R H' → u D σ1 H') : tMid t u D σ H :=
  ⟨_, h1, fun _ _ ⟨e, r⟩ => by subst e; exact h2 _ r⟩
end RS
namespace RS
open PySem PySem.Spec PySem.W PySem.Calls PyProof.Rows
/-- what the text says of an own exception class C: its __init__ at fI is one that says super().__init__(..) -/
structure XC (P : Program) (K : Frag) (C fI cda cc : Addr) (qual : Str) (st : Stmt) (B newId initId : String) (bmB : List Value) : Prop where
  FB : ExcBaseFacts B newId initId bmB
  KF : KxsFacts B initId
  SF : StoreFacts B bmB "object.__setattr__" "object"
  q : excInitIn K C bmB newId = true
  ov : excOver K C bmB = true
  sup : ks_superIn K C C "__init__" = some (some (.builtin initId))
  sub : subIn K (.ref C) (.type B) = some true
  ini : findIn K (.ref C) "__init__" = some (some (.ref fI))
  fn : typeIn K (.ref fI) = some (.type "function")
  lk : ∃ oc od kV doc pm an ct osl, K.lookup fI = some ⟨oc, od, .func (ksFn "__init__" qual (L2.defArgs st) (L2.defBody st) (L2.defScope st) .none kV doc pm an (.ref cda) ct cc), osl⟩
  cd : codeIn K (.ref cda) qual = true
  co : ∃ ccl cdd vs ccs file tf, K.lookup cda = some ⟨ccl, cdd, .fields vs, ccs⟩ ∧ vs[2]? = some (.str file tf) ∧ ((P.main.file : Str) == file) = true
  ce : ∃ cl cld csl, K.lookup cc = some ⟨cl, cld, .cell (some (.ref C)), csl⟩
  me : mroIn K C (.ref C) = some true
  op : nsIn K cStatics "thirdparty.any" = some none
  nt : (P.main.scope.names.lookup ("super" : Str)).isSome = false
section
variable {prog : Program} {w : World} {A : Around} {E : Value → Shared → Prop} {h : Heap} {g : Array GenState} {d : Drawn} {t : Nat} {os : OsState} {K : Frag} {C fI cda cc e u t0 : Addr} {B newId initId : String} {bmB : List Value} {qual : Str} {st : Stmt}
/-- the bound __init__, called: the args are laid anew -/
theorem call_mw {rest : List Value} {Q : Value → Shared → Prop} (KX : K.In h) (FB : ExcBaseFacts B newId initId bmB) (q : excInitIn K C bmB newId = true) (hu : h.get? u = some (kxs_mw initId e)) (he : h.get? e = some (HandSPX.excO C t0)) (hz : rest.length ≤ sizeLine)
    (hq : ∀ h' t1, (∀ b o, b ≠ e → h.get? b = some o → h'.get? b = some o) → h'.get? e = some (HandSPX.excO C t1) → Q .none ⟨h', g, d, t, os⟩) :
    wpAny (model prog w) A (call (.ref u) rest) Q E ⟨h, g, d, t, os⟩ := by
  obtain ⟨nm, N', qn, bs, bm, hdct, sn, sub, ab, col, dd, k0, k1, k2, k3, k5, hC, hT⟩ := excInit_of KX q
  refine wpAny_call (codeAny_of_tree ?_)
  show wpAny _ A.in1 (callAny (.ref u) ⟨rest, []⟩) _ _ _
  simp only [callAny]
  refine wpAny_bind (wpAny_load hu ?_)
  have m1 : (Value.type "method-wrapper" == Value.type "method" || Value.type "method-wrapper" == Value.type "builtin_function_or_method" || Value.type "method-wrapper" == Value.type "method-wrapper") = true := by decide
  simp only [kxs_mw, m1, if_true]
  refine KFB.if_so (by decide) ?_
  refine wpAny_bind (check_bound_init FB.toExcCallFacts hC he rfl ?_)
  refine wpAny_bind (wpAny_pure (wpAny_pure ?_))
  refine ⟨plainId_quiet FB.init.plain _, codeAny_builtin FB.initEntry ?_⟩
  exact exc_init_tree (cls := .ref C) (t0 := t0) (dv := none) (c2 := .none) (c3 := .none) (b4 := .bool false) he hz fun h' k e' t' => hq h' _ k e'
end
end RS
namespace RS
open PySem PySem.Spec PySem.W PySem.Calls PyProof.Rows
section
variable {prog : Program} {w : World} {A : Around} {E : Value → Shared → Prop} {h : Heap} {g : Array GenState} {d : Drawn} {t : Nat} {os : OsState} {K : Frag} {C fI cda cc e t0 L : Addr} {B newId initId : String} {bmB : List Value} {qual : Str} {st : Stmt} {mg mb m : Str → Option Value}
/-- super().__init__('..') in the own __init__ -/
theorem sup_init {body : List Stmt} {ar : Arg} {msg : Str} {j : _} {pc p0 p1 p2 p3 p4 : Pos} {Q : Flow → Shared → Prop} (X : XC prog K C fI cda cc qual st B newId initId bmB) (KX : K.In h) (hns : h.Ns L m) (hp : ((L2.defArgs st).posonlyargs ++ (L2.defArgs st).args).head? = some ar) (hv : m ar.arg = some (.ref e))
    (he : h.get? e = some (HandSPX.excO C t0)) (hg : h.Ns mainGlobals mg) (hm : mg "super" = none) (hb : h.Ns builtinsNs mb) (bb : ∀ x : Str, x ≠ "__name__" → mb x = bootBuiltins x)
    (hks : (L2.defScope st).names.lookup ("super" : Str) = some .globalImplicit) (hkc : (L2.defScope st).names.lookup ("__class__" : Str) = some .free) (hka : (L2.defScope st).names.lookup ar.arg = some .local) (hk : (L2.defScope st).kind = .function)
    {pl : Sem Bool} (hi : interactive (ksEnv qual (L2.defScope st) L fI (.ref cda) cc) = false) (hsw : swapsWith (.Call (.Attribute (.Call (.Name "super" p0) [] [] p1) "__init__" p2) [.Constant (.str msg) j pc] [] p3) none p4.line (ksEnv qual (L2.defScope st) L fI (.ref cda) cc) = pure false)
    (hst : starEach [.Constant (.str msg) j pc] (ksEnv qual (L2.defScope st) L fI (.ref cda) cc) = [(false, eval (.Constant (.str msg) j pc) (ksEnv qual (L2.defScope st) L fI (.ref cda) cc))])
    (hev : eval (.Call (.Attribute (.Call (.Name "super" p0) [] [] p1) "__init__" p2) [.Constant (.str msg) j pc] [] p3) (ksEnv qual (L2.defScope st) L fI (.ref cda) cc) = (do
      let ov ← attributeBase (.Call (.Name "super" p0) [] [] p1) "__init__" (ksEnv qual (L2.defScope st) L fI (.ref cda) cc) (eval (.Call (.Name "super" p0) [] [] p1) (ksEnv qual (L2.defScope st) L fI (.ref cda) cc))
      standAt p2.atName
      let (f, first) ← holding [ov] (getMethod ov "__init__" pl)
      callWith p3 f first (backTo p3 (starEach [.Constant (.str msg) j pc] (ksEnv qual (L2.defScope st) L fI (.ref cda) cc))) []))
    (hq : ∀ h' t1 tk, (∀ b o, b ≠ e → h.get? b = some o → h'.get? b = some o) → h'.get? e = some (HandSPX.excO C t1) → Q .next ⟨h', g, d, tk, os⟩) :
    _root_.PySem.wpAt (model prog w) A (.func body (ksEnv qual (L2.defScope st) L fI (.ref cda) cc)) (exec (.Expr (.Call (.Attribute (.Call (.Name "super" p0) [] [] p1) "__init__" p2) [.Constant (.str msg) j pc] [] p3) p4) (ksEnv qual (L2.defScope st) L fI (.ref cda) cc)) Q E ⟨h, g, d, t, os⟩ := by
  obtain ⟨oc, od, kV, doc, pm, an, ct, osl, lk⟩ := X.lk
  obtain ⟨ccl, cdd, vs, ccs, file, tf, lc, hvs, hfile⟩ := X.co
  obtain ⟨cl, cld, csl, lce⟩ := X.ce
  obtain ⟨nm, N', qn, bs, bm, hdct, sn, sub, ab, col, dd, k0, k1, k2, k3, k5, hC, hT⟩ := excInit_of KX X.q
  refine ks_wpAt_Expr_any (ks_wpAt_MethodCall (pl := pl) ?_ hev) hi hsw
  refine ks_wpAt_super_base (env := ksEnv qual (L2.defScope st) L fI (.ref cda) cc) hks hkc (by decide) rfl (KX _ _ lk) rfl hp rfl (KX _ _ lc) rfl hvs hfile X.nt ?_
  refine ks_loadName_global hk hks (loadGlobal_builtin (env := ksEnv qual (L2.defScope st) L fI (.ref cda) cc) hg hm hb ((bb _ (by decide +kernel)).trans (by decide +kernel)) ⟨rfl, ?_⟩)
  refine wpAny_loadName_free hk hkc rfl ⟨_, KX _ _ lce, rfl⟩ ?_
  refine wpAny_loadName_local hk hka hns hv ?_
  refine ks_wpAny_isType_cls hC rfl ⟨rfl, ?_⟩
  refine ks_wpAny_call_super hC rfl he rfl (fun c z => nomatch z) (looks_mroIn KX X.me) (fun h1 hso k1 => ?_)
  have KX1 : K.In h1 := fun b o z => k1 b o (KX b o z)
  have he1 := k1 _ _ he
  have I1 : InstAt h1 e (HandSPX.excO C t0) C none := ⟨he1, rfl, rfl, trivial⟩
  have hI : Looks (model prog w) h1 (isInstance (.ref e) (.type B)) true := I1.type.andThen (looks_subIn KX1 X.sub)
  have sup := X.sup
  cases hc : clsIn K C with
  | none => unfold ks_superIn at sup; rw [hc] at sup; cases sup
  | some cd =>
    unfold ks_superIn at sup
    rw [hc] at sup
    refine kxs_getMethod X.KF hso (looks_opaque KX1 X.op) (l₀ := cd.mro) (fun A Q E s k q => wpAny_bind ((looks_clsIn KX1 hc) A _ E s k (wpAny_pure q))) rfl KX1 sup hI (ks_ne KX1 I1 hc) (by decide) ?_
    have k2 : ∀ b o, h1.get? b = some o → (h1.push (kxs_mw initId e)).get? b = some o := fun b o z => Heap.get?_push_of_some _ z
    have hu : (h1.push (kxs_mw initId e)).get? h1.objs.size = some (kxs_mw initId e) := Heap.get?_push_at rfl rfl
    rw [hst]
    refine kxs_callWith (i := initId) (x := e) rfl ?_
    show wpAny (model prog w) A (evalArgs (.ref h1.objs.size) true ((false, eval (.Constant (.str msg) j pc) _) :: backTo p3 []) []) _ E _
    refine evalArgs_plain (spliced_cons (Calls.Constant_str ?_))
    refine spliced_nil ⟨hu, ?_⟩
    refine call_mw (t0 := t0) (fun b o z => k2 b o (KX1 b o z)) X.FB X.q hu (k2 _ _ he1) (by rw [sizeLine_eq]; simp) fun h' t1 k3 e3 => ?_
    exact hq h' t1 _ (fun b o hb z => k3 b o hb (k2 b o (k1 b o z))) e3
end
end RS
namespace RS
open PySem PySem.Spec PySem.W PySem.Calls PyProof.Rows Builtin Builtin.ObjectAttr
section
variable {prog : Program} {w : World} {A : Around} {E : Value → Shared → Prop} {R : Result → Shared → Prop} {hp : Heap} {g : Array GenState} {d : Drawn} {t : Nat} {os : OsState} {K : Frag} {C x : Addr} {B : String} {bmB : List Value}
/-- self.name = v on an exception that has no dict yet, over any built-in base -/
theorem osa_newX {name : Str} {tk : Tok} {v : Value} {fv : Array Value} {cd : ClassData} (SF : StoreFacts B bmB "object.__setattr__" "object") (KX : K.In hp) (hx : hp.get? x = some { cls := .ref C, data := .fields fv }) (hcd : clsIn K C = some cd) (hh : cd.hasDict = true) (ov : excOver K C bmB = true)
    (ha : findIn K (.ref C) name = some none)
    (hq : ∀ h' tk' dx, (∀ b o, b ≠ x → hp.get? b = some o → h'.get? b = some o) → hp.objs.size ≤ dx → dx ≠ x → h'.get? x = some { cls := .ref C, dict := some dx, data := .fields fv } →
      h'.Ns1 dx (fun y => if y = name then some v else none) → R (.ok (.ret .none)) ⟨h', g, d, tk', os⟩) :
    codeAny (model prog w) A (.call (.builtin "object.__setattr__") ⟨[.ref x, .str name tk, v], []⟩) R ⟨hp, g, d, t, os⟩ := by
  have I : InstAt hp x { cls := .ref C, data := .fields fv } C none := ⟨hx, rfl, rfl, trivial⟩
  have hxs : x ≠ hp.objs.size := Nat.ne_of_lt (Heap.lt_size hx)
  have ht : takerIn K C name = some none := L2.NoAttr.taker ha
  have hcls : Looks (model prog w) hp (classData C) cd := looks_clsIn KX hcd
  refine osa_openX (s := ⟨hp, g, d, t, os⟩) SF KX I ov ht fun b => ?_
  show wpAny _ _ (storeInOwnDict (.ref x) (.ref C) (.str name tk) name v b) _ _ _
  cases cd with | mk nm bs mro ns qn hd sn sb ab col del =>
  simp only at hh
  subst hh
  unfold storeInOwnDict
  unfold ownDictForStores
  repeat (first | with_reducible refine HandSPX.store_in_new ?_ ?_ | with_reducible refine wpAny_loadPart_at hx ?_ | with_reducible refine hcls.at ?_ | wp_step)
  · refine ⟨_, #[], _, (Heap.get?_update_ne _ _ _ _ hxs.symm).trans (Heap.get?_push_at rfl rfl), rfl, ?_, fun _ => rfl⟩
    exact fun z hz => absurd hz (by simp)
  · intro h2 tk2 hn2 same
    have up2 : ∀ b o, hp.get? b = some o → (hp.push { cls := .type "dict", data := .dict #[] }).get? b = some o := fun b o z => Heap.get?_push_of_some _ z
    refine hq h2 tk2 hp.objs.size (fun b o hb z => ?_) (Nat.le_refl _) hxs.symm ((same.2 x hxs).trans (Heap.get?_update_self _ (up2 _ _ hx) rfl)) hn2
    exact (same.2 b (Nat.ne_of_lt (Heap.lt_size z))).trans ((Heap.get?_update_ne _ _ _ _ hb).trans (up2 _ _ z))
end
end RS
namespace RS
open PySem PySem.Spec PySem.W PySem.Calls PyProof.Rows
/-- the form of such an __init__: super().__init__(msg), then self.f = x -/
structure XSt1 (qual : Str) (st : Stmt) (x f : Str) : Prop where
  bd : ∃ p0 p1 p2 p3 p4 p5 p6 p7 p8 pc msg, ∃ j : Nat, L2.defBody st = [.Expr (.Call (.Attribute (.Call (.Name "super" p0) [] [] p1) "__init__" p2) [.Constant (.str msg) j pc] [] p3) p4, .Assign [.Attribute (.Name "self" p5) f p6] (.Name x p7) p8] ∧
    ∀ (L fI cda cc : Addr), interactive (ksEnv qual (L2.defScope st) L fI (.ref cda) cc) = false ∧
      swapsWith (.Call (.Attribute (.Call (.Name "super" p0) [] [] p1) "__init__" p2) [.Constant (.str msg) j pc] [] p3) none p4.line (ksEnv qual (L2.defScope st) L fI (.ref cda) cc) = pure false ∧
      starEach [.Constant (.str msg) j pc] (ksEnv qual (L2.defScope st) L fI (.ref cda) cc) = [(false, eval (.Constant (.str msg) j pc) (ksEnv qual (L2.defScope st) L fI (.ref cda) cc))] ∧
      (∃ pl, eval (.Call (.Attribute (.Call (.Name "super" p0) [] [] p1) "__init__" p2) [.Constant (.str msg) j pc] [] p3) (ksEnv qual (L2.defScope st) L fI (.ref cda) cc) = (do
        let ov ← attributeBase (.Call (.Name "super" p0) [] [] p1) "__init__" (ksEnv qual (L2.defScope st) L fI (.ref cda) cc) (eval (.Call (.Name "super" p0) [] [] p1) (ksEnv qual (L2.defScope st) L fI (.ref cda) cc))
        standAt p2.atName
        let (f, first) ← holding [ov] (getMethod ov "__init__" pl)
        callWith p3 f first (backTo p3 (starEach [.Constant (.str msg) j pc] (ksEnv qual (L2.defScope st) L fI (.ref cda) cc))) [])) ∧
      swapsWith (.Name x p7) (some (.Attribute (.Name "self" p5) f p6)) p8.line (ksEnv qual (L2.defScope st) L fI (.ref cda) cc) = pure false
  ar : ∃ ar, ((L2.defArgs st).posonlyargs ++ (L2.defArgs st).args).head? = some ar ∧ ar.arg = "self"
  ks : (L2.defScope st).names.lookup ("super" : Str) = some .globalImplicit
  kc : (L2.defScope st).names.lookup ("__class__" : Str) = some .free
  ka : (L2.defScope st).names.lookup ("self" : Str) = some .local
  kx : (L2.defScope st).names.lookup x = some .local
  kd : (L2.defScope st).kind = .function
  co : (L2.defScope st).isCoroutine = false
  ge : (L2.defScope st).isGenerator = false
  ce : ∀ y ∈ (L2.defScope st).names, y.2 ≠ .cell
  bi : ∀ (oc : Value) (kV doc pm : Value) (an : Option Addr) (cdv ct : Value) (cc : Addr) (u v : Value), bindArgs (ksFn "__init__" qual (L2.defArgs st) (L2.defBody st) (L2.defScope st) .none kV doc pm an cdv ct cc) ⟨[u, v], []⟩ = pure ([("self", u), (x, v)] : List (Str × Value))
  ne : ¬ ("self" : Str) = x
  dbg : (x == ("__debug__" : Str)) = false
section
variable {prog : Program} {w : World} {A : Around} {R : Result → Shared → Prop} {h : Heap} {g : Array GenState} {d : Drawn} {t : Nat} {os : OsState} {K : Frag} {C fI cda cc e t0 : Addr} {B newId initId : String} {bmB : List Value} {qual x f : Str} {st : Stmt} {mg mb : Str → Option Value}
theorem xinit1 {v : Value} (X : XC prog K C fI cda cc qual st B newId initId bmB) (Y : XSt1 qual st x f) (hd : hasDictIn K C = true) (sa : findIn K (.ref C) "__setattr__" = some (some (.builtin "object.__setattr__"))) (nf : findIn K (.ref C) f = some none)
    (KX : K.In h) (ke : K.lookup e = none) (hroom : A.depth < recursionLimit) (hlim : h.NoLimit) (he : h.get? e = some (HandSPX.excO C t0)) (hg : h.Ns mainGlobals mg) (hm : mg "super" = none) (hb : h.Ns builtinsNs mb) (bb : ∀ x : Str, x ≠ "__name__" → mb x = bootBuiltins x)
    (hq : ∀ h' t1 dx tk, (∀ b o, b ≠ e → h.get? b = some o → h'.get? b = some o) → h.objs.size ≤ dx → dx ≠ e → h'.get? e = some { cls := .ref C, dict := some dx, data := .fields #[.ref t1, .none, .none, .none, .bool false, .none] } →
      h'.Ns1 dx (fun y => if y = f then some v else none) → R (.ok (.ret .none)) ⟨h', g, d, tk, os⟩) :
    codeAny (model prog w) A (.call (.ref fI) ⟨[.ref e, v], []⟩) R ⟨h, g, d, t, os⟩ := by
  obtain ⟨oc, od, kV, doc, pm, an, ct, osl, lk⟩ := X.lk
  obtain ⟨p0, p1, p2, p3, p4, p5, p6, p7, p8, pc, msg, j, hbd, hform⟩ := Y.bd
  obtain ⟨ar, har, harg⟩ := Y.ar
  obtain ⟨cd, hc, hh⟩ := any_some hd
  refine ks_codeAny_call_defAt (s := ⟨h, g, d, t, os⟩) (body := L2.defBody st) (binds := ([("self", .ref e), (x, v)] : List (Str × Value))) hroom (KX _ _ lk) rfl hlim (codeRec_of KX X.cd) rfl (.of_eq (Y.bi oc kV doc pm an _ ct cc _ _)) Y.ce (fun y hy => ?_) (fun h1 hns k1 => ?_) Y.co Y.ge Y.kd
  · simp only [List.mem_cons, List.not_mem_nil, or_false] at hy
    rcases hy with rfl | rfl
    · exact Y.ka
    · exact Y.kx
  obtain ⟨hi, hsw, hst, ⟨pl, hev⟩, hsw2⟩ := hform h.objs.size fI cda cc
  have KX1 : K.In h1 := fun b o z => k1 b o (KX b o z)
  have lt_e : e < h.objs.size := Heap.lt_size he
  rw [hbd]
  refine ks_wpAt_execs_cons ?_
  have hv1 : (fun y => ([("self", Value.ref e), (x, v)] : List (Str × Value)).reverse.lookup y) ar.arg = some (.ref e) := by
    rw [harg]
    show List.lookup ("self" : Str) ([(x, v), ("self", Value.ref e)] : List (Str × Value)) = _
    rw [List.lookup_cons, beq_eq_false_iff_ne.mpr Y.ne]
    rfl
  have hv2 : (fun y => ([("self", Value.ref e), (x, v)] : List (Str × Value)).reverse.lookup y) x = some v := by
    show List.lookup x ([(x, v), ("self", Value.ref e)] : List (Str × Value)) = _
    rw [List.lookup_cons, beq_self_eq_true]
  refine sup_init X KX1 hns har hv1 (k1 _ _ he) (hg.keeps k1) hm (hb.keeps k1) bb Y.ks Y.kc (by rw [harg]; exact Y.ka) Y.kd (pl := pl) hi hsw hst hev fun h2 t1 tk k2 e2 => ?_
  have hns2 : h2.Ns h.objs.size (fun y => ([("self", Value.ref e), (x, v)] : List (Str × Value)).reverse.lookup y) := by
    obtain ⟨oL, es, ep, hL, r⟩ := hns
    exact ⟨oL, es, ep, k2 _ _ (Nat.ne_of_gt lt_e) hL, r⟩
  refine ks_wpAt_execs_cons (ks_wpAt_Assign_Attr ?_ hsw2)
  have KX2 : K.In h2 := fun b o z => k2 b o (fun y => by rw [y, ke] at z; cases z) (KX1 b o z)
  refine wpAt_of_wpAny (wpAny_Name (wpAny_loadName_local Y.kd Y.kx hns2 hv2 ?_) Y.dbg)
  refine wpAny_Name (wpAny_loadName_local Y.kd Y.ka hns2 (by rw [harg] at hv1; exact hv1) ?_)
  refine set_plain (s := ⟨h2, g, d, tk, os⟩) (ox := HandSPX.excO C t1) (od := none) KX2 ⟨e2, rfl, rfl, trivial⟩ sa ?_
  refine osa_newX X.SF KX2 e2 hc hh X.ov nf fun h3 tk3 dx k3 ldx nex e3 n3 => ?_
  have sz : h.objs.size < h2.objs.size := by
    obtain ⟨oL, es, ep, hL, r⟩ := hns2
    exact Heap.lt_size hL
  refine wpAt_of_wpAny (wpAny_execs_nil ?_)
  exact hq h3 t1 dx _ (fun b o hb z => k3 b o hb (k2 b o hb (k1 b o z))) (Nat.le_trans (Nat.le_of_lt sz) ldx) nex e3 n3
end
end RS
namespace RS
open PySem PySem.Spec PySem.W PySem.Calls PyProof.Rows
end RS
namespace RS
open PySem PySem.Spec L2
/-- at e: an exception of the class at C, its dict at d -/
def exv (e C : Addr) (d : Option Addr) : HO := .ext fun h => ∃ oe vs, h.get? e = some oe ∧ oe.cls = .ref C ∧ oe.dict = d ∧ oe.data = .fields vs
theorem exv_ok {P : Program} {w : World} {H : Hp} {h : Heap} {e C : Addr} {d : Option Addr} {oe : Obj} {vs : Array Value} (he : h.get? e = some oe) (h1 : oe.cls = .ref C) (h2 : oe.dict = d) (h3 : oe.data = .fields vs) : ObjOk P w H h e (exv e C d) :=
  ⟨⟨oe, vs, he, h1, h2, h3⟩, ⟨_, he⟩, fun g1 g2 z k => by
    obtain ⟨o2, v2, q, r⟩ := z
    exact ⟨o2, v2, k _ q, r⟩⟩
theorem exv_at {P : Program} {w : World} {H : Hp} {h : Heap} {e C : Addr} {d : Option Addr} (hok : HOk P w H h) (he : H e = some (exv e C d)) : ∃ oe vs, h.get? e = some oe ∧ oe.cls = .ref C ∧ oe.dict = d ∧ oe.data = .fields vs := by
  have x : ObjOk P w H h e (.ext fun h => ∃ oe vs, h.get? e = some oe ∧ oe.cls = .ref C ∧ oe.dict = d ∧ oe.data = .fields vs) := hok e _ he
  exact x.1
/-- two new objects, both tracked from now on -/
theorem inv_two {X : Cx} {pins : List (Addr × Obj)} {σ : L2.St} {H : Hp} {s : Shared} {h' : Heap} {a b : Addr} {o u : HO} {t' : Nat} (I : Inv X pins σ H s) (k : ∀ c z, s.heap.get? c = some z → h'.get? c = some z) (ha : s.heap.get? a = none) (hb : s.heap.get? b = none) (na : H a = none) (nb : H b = none) (ab : a ≠ b)
    (oa : ObjOk X.prog X.w (upd (upd H b u) a o) h' a o) (ob : ObjOk X.prog X.w (upd (upd H b u) a o) h' b u) : Inv X pins σ (upd (upd H b u) a o) { s with heap := h', toks := t' } := by
  have nA : ∀ {c : Addr} {z : Obj}, s.heap.get? c = some z → c ≠ a := fun q y => by rw [y, ha] at q; cases q
  have nB : ∀ {c : Addr} {z : Obj}, s.heap.get? c = some z → c ≠ b := fun q y => by rw [y, hb] at q; cases q
  have sm : ∀ {c : Addr} {z : HO}, H c = some z → upd (upd H b u) a o c = some z := fun q => by rw [upd_ne (ne_of_none q na), upd_ne (ne_of_none q nb)]; exact q
  have U : Un X.fs [] H (upd (upd H b u) a o) s.heap h' := {
    keep := fun c z q _ _ _ => k c z q
    slot := fun c z q _ _ _ => ⟨z.slots, k c z q⟩
    free := fun c z q n _ => by rw [upd_ne (nA q), upd_ne (nB q)]; exact n
    there := fun c z q _ => ⟨z, k c z q⟩
    tups := fun c xs q => sm q
    frzs := fun c z v q => sm q
    tbls := fun c ps q => ⟨#[], by rw [sm q]; simp⟩ }
  refine I.un (t' := t') U fun c z q => ?_
  by_cases hc : c = a
  · subst hc
    rw [upd_same] at q
    cases q
    exact oa
  · rw [upd_ne hc] at q
    by_cases hd : c = b
    · subst hd
      rw [upd_same] at q
      cases q
      exact ob
    · rw [upd_ne hd] at q
      exact (I.hok c z q).stay (fun y v _ w' => k y v w') (fun y hy => sm hy) (fun y xs hy => sm hy)
end RS
namespace RS
open PySem PySem.Spec L2 PySem.W
/-- the class x at C: C(v) is a new exception whose field f is v -/
def XK1 (g : Wd) (x : Str) (C : Addr) (f : Str) : Prop := g.mg x = some (.ref C) ∧ g.mg "super" = none ∧ keepIn g.K (.ref C) = true ∧ hasDictIn g.K C = true ∧ findIn g.K (.ref C) "__setattr__" = some (some (.builtin "object.__setattr__")) ∧ findIn g.K (.ref C) f = some none ∧
  ∃ fI cda cc qual st B newId initId bmB xp, XC g.P g.K C fI cda cc qual st B newId initId bmB ∧ XSt1 qual st xp f
section
variable {g : Wd} {X : Cx} {C : Addr} {x f : Str} {e : Expr} {t : TA} {p pos : Pos}
def tMkX1 (C : Addr) (f : Str) (t : TA) : TE := fun σ H Q => t σ H fun vs H1 => ∃ v, vs = [v] ∧ ∀ y dy, H1 y = none → H1 dy = none → y ≠ dy → Q (.ref y) (upd (upd H1 dy (exd dy [(f, v)])) y (exv y C (some dy)))
end
end RS
namespace RS
open PySem PySem.Spec L2 PySem.W
section
variable {g : Wd} {X : Cx} {C : Addr} {x f : Str} {e o : Expr} {t : TA} {ta : TE} {p pos : Pos}
def tMkX0 (C : Addr) : TE := fun σ H Q => ∀ y, H y = none → Q (.ref y) (upd H y (exv y C none))
def tXfv (K : Frag) (C : Addr) (f : Str) (ta : TE) : TE := fun σ H Q => ta σ H fun x H1 => ∃ a dd fs v, x = .ref a ∧ H1 a = some (exv a C (some dd)) ∧ H1 dd = some (exd dd fs) ∧ fs.lookup f = some v ∧ Q v H1
end
end RS
namespace RS
open PySem PySem.Spec PySem.W PySem.Calls PyProof.Rows
end RS
namespace RS
open PySem PySem.Spec L2
end RS
namespace RS
open PySem PySem.Spec L2
def keyD : Key → PyData
  | .inl i => .int i
  | .inr x => .str x
mutual
/-- v stands for the data d -/
inductive DpX (K : PySem.W.Frag) (H : Hp) : V → PyData → Prop
  | non : DpX K H .non .none
  | bl (b : Bool) : DpX K H (.bl b) (.bool b)
  | int (i : Int) : DpX K H (.int i) (.int i)
  | str (x : Str) : DpX K H (.str x) (.str x)
  | lst {a : Addr} {xs : List V} {ds : List PyData} (h : SqL K H a xs) (hs : DpXs K H xs ds) : DpX K H (.ref a) (.list ds)
  | tup {a : Addr} {xs : List V} {ds : List PyData} (h : SqT K H a xs) (hs : DpXs K H xs ds) : DpX K H (.ref a) (.tuple ds)
  | dct {a : Addr} {kvs : List (Key × V)} {D : List (PyData × PyData)} (h : H a = some (.dK kvs)) (hs : DpXd K H kvs D) : DpX K H (.ref a) (.dict D)
inductive DpXs (K : PySem.W.Frag) (H : Hp) : List V → List PyData → Prop
  | nil : DpXs K H [] []
  | cons {v : V} {vs : List V} {d : PyData} {ds : List PyData} (h : DpX K H v d) (hs : DpXs K H vs ds) : DpXs K H (v :: vs) (d :: ds)
inductive DpXd (K : PySem.W.Frag) (H : Hp) : List (Key × V) → List (PyData × PyData) → Prop
  | nil : DpXd K H [] []
  | cons {k : Key} {v : V} {kvs : List (Key × V)} {d : PyData} {D : List (PyData × PyData)} (h : DpX K H v d) (hs : DpXd K H kvs D) : DpXd K H ((k, v) :: kvs) ((keyD k, d) :: D)
end
/-- sys.modules stands in the base, a dict -/
def SmB (base : Heap) : Prop := ∃ o es n, base.get? sysModules = some o ∧ o.data = .dict es n
theorem SmB.ne {X : Cx} {pins : List (Addr × Obj)} {σ : L2.St} {H : Hp} {s : Shared} {a : Addr} {its : Array Value} {n : Nat} {o : Obj} (I : Inv X pins σ H s) (sm : SmB X.base) (h : s.heap.get? a = some o) (hd : o.data = .seq its n) : sysModules ≠ a := fun z => by
  obtain ⟨o2, es, k, e, d⟩ := sm
  have e2 := (I.bs _ _ e).1
  rw [z, h] at e2
  cases e2
  rw [hd] at d
  cases d
section
variable {X : Cx} {pins : List (Addr × Obj)} {σ : L2.St} {H : Hp} {s : Shared}
theorem key_reads {h : Heap} (k : Key) (key : Value) (e : (mixKind X.prog X.w).is k key = true) : Reads h key (keyD k) [] := by
  rcases keyIs_shape e with ⟨i, t, rfl, rfl⟩ | ⟨x, t, rfl, rfl⟩
  · exact Reads.int i t
  · exact Reads.str x t
mutual
theorem DpX.reads (I : Inv X pins σ H s) (sm : SmB X.base) : ∀ {d : PyData} {v : V} {u : Value}, DpX X.K H v d → RelV v u → ∃ as, Reads s.heap u d as ∧ sysModules ∉ as
  | _, _, _, .non, r => by cases r; exact ⟨_, Reads.none, by simp⟩
  | _, _, _, .bl b, r => by cases r; exact ⟨_, Reads.bool b, by simp⟩
  | _, _, _, .int i, r => by obtain ⟨t, rfl⟩ := r; exact ⟨_, Reads.int i t, by simp⟩
  | _, _, _, .str x, r => by obtain ⟨t, rfl⟩ := r; exact ⟨_, Reads.str x t, by simp⟩
  | _, _, _, .lst hs ha, r => by
    cases r
    obtain ⟨its, rv, ⟨o, n, ho, hc, _, hd⟩, _⟩ := I.list hs
    obtain ⟨as, hr, na⟩ := DpXs.reads I sm ha rv
    refine ⟨_, Reads.list ho hc hd hr, fun z => ?_⟩
    rcases List.mem_cons.mp z with z | z
    · exact SmB.ne I sm ho hd z
    · exact na z
  | _, _, _, .tup hs ha, r => by
    cases r
    obtain ⟨its, rv, ⟨o, ho, hc, n, hd⟩, _⟩ := I.tuple hs
    obtain ⟨as, hr, na⟩ := DpXs.reads I sm ha rv
    exact ⟨_, Reads.tuple ho hc hd hr, na⟩
  | _, _, _, .dct hs ha, r => by
    cases r
    obtain ⟨_, ns, vs, kv, dd⟩ := dk_of I.hok hs
    obtain ⟨bs, hp, nb⟩ := DpXd.reads I sm ha kv
    refine ⟨_, PyProof.V.reads_dictOf (enc := keyD) (fun k key e => key_reads (X := X) k key e) dd hp, fun z => ?_⟩
    rcases List.mem_cons.mp z with z | z
    · rw [z] at ns; simp at ns
    · exact nb z
theorem DpXs.reads (I : Inv X pins σ H s) (sm : SmB X.base) : ∀ {ds : List PyData} {vs : List V} {us : List Value}, DpXs X.K H vs ds → Vals vs us → ∃ as, ReadsAll s.heap us ds as ∧ sysModules ∉ as
  | _, _, _, .nil, r => by cases r; exact ⟨_, ReadsAll.nil, by simp⟩
  | _, _, _, .cons h1 h2, r => by
    cases r with
    | cons r1 r2 =>
      obtain ⟨as, q1, n1⟩ := DpX.reads I sm h1 r1
      obtain ⟨bs, q2, n2⟩ := DpXs.reads I sm h2 r2
      exact ⟨_, ReadsAll.cons q1 q2, fun z => (List.mem_append.mp z).elim n1 n2⟩
theorem DpXd.reads (I : Inv X pins σ H s) (sm : SmB X.base) : ∀ {D : List (PyData × PyData)} {kvs : List (Key × V)} {vs : List (Key × Value)}, DpXd X.K H kvs D → KV kvs vs → ∃ bs, PyProof.V.PairsRead s.heap keyD vs D bs ∧ sysModules ∉ bs
  | _, _, _, .nil, r => by cases r; exact ⟨_, PyProof.V.PairsRead.nil, by simp⟩
  | _, _, _, .cons h1 h2, r => by
    cases r with
    | @cons _ q _ _ r1 r2 =>
      obtain ⟨k', v'⟩ := q
      obtain ⟨e1, e2⟩ := r1
      simp only at e1 e2
      subst e1
      obtain ⟨as, q1, n1⟩ := DpX.reads I sm h1 e2
      obtain ⟨bs, q2, n2⟩ := DpXd.reads I sm h2 r2
      exact ⟨_, PyProof.V.PairsRead.cons q1 q2, fun z => (List.mem_append.mp z).elim n1 n2⟩
end
end
end RS
namespace RS
open PySem PySem.Spec L2
section
variable {X : Cx} {k : Nat}
def rReprX (K : PySem.W.Frag) : List V → Hp → VK → Prop := fun xs H Q => ∃ a d, xs = [.ref a] ∧ DpX K H (.ref a) d ∧ d.showable = true ∧ d.depth ≤ 60 ∧ d.shown.length ≤ sizeLine ∧ Q (.str d.shown) H
theorem c_reprX {K : PySem.W.Frag} {base : Heap} (sm : SmB base) (hr : Rm k X) (hK : X.K = K := by rfl) (hB : X.base = base := by rfl) : CallR X (.builtin "repr") (rReprX K) := by
  subst hK
  subst hB
  intro pins s σ H xs us Q I r h
  obtain ⟨a, d, rfl, hd, hs, hz, hl, q⟩ := h
  obtain ⟨u, rfl, ru⟩ := vals1 r
  cases ru
  obtain ⟨as, rd, na⟩ := DpX.reads I sm hd rfl
  refine repr_of_reads' (h₀ := s.heap) rd hs (fun _ => na) hr.gd (by have := hr.room.un; omega) (fun _ _ e => e) (fun h' u tk kp => ?_) hl
  exact ⟨.str _, H, I.kept kp, ⟨_, rfl⟩, q⟩
end
end RS
namespace RS
open PySem PySem.Spec L2
theorem sqT_same {K : PySem.W.Frag} {H H' : Hp} {a : Addr} {xs : List V} (h : SqT K H a xs) (s : Same H H') : SqT K H' a xs := by
  rcases h with (h | ⟨o, h⟩) | h
  · exact .inl (.inl (s _ _ h))
  · exact .inl (.inr ⟨o, s _ _ h⟩)
  · exact .inr h
mutual
theorem DpX.same {K : PySem.W.Frag} {H H' : Hp} (s : Same H H') : ∀ {v : V} {d : PyData}, DpX K H v d → DpX K H' v d
  | _, _, .non => .non
  | _, _, .bl b => .bl b
  | _, _, .int i => .int i
  | _, _, .str x => .str x
  | _, _, .lst h hs => .lst (sq_same h s) (hs.same s)
  | _, _, .tup h hs => .tup (sqT_same h s) (hs.same s)
  | _, _, .dct h hs => .dct (s _ _ h) (hs.same s)
theorem DpXs.same {K : PySem.W.Frag} {H H' : Hp} (s : Same H H') : ∀ {vs : List V} {ds : List PyData}, DpXs K H vs ds → DpXs K H' vs ds
  | _, _, .nil => .nil
  | _, _, .cons h hs => .cons (h.same s) (hs.same s)
theorem DpXd.same {K : PySem.W.Frag} {H H' : Hp} (s : Same H H') : ∀ {kvs : List (Key × V)} {D : List (PyData × PyData)}, DpXd K H kvs D → DpXd K H' kvs D
  | _, _, .nil => .nil
  | _, _, .cons h hs => .cons (h.same s) (hs.same s)
end
end RS
namespace RS
open PySem PySem.Spec L2
end RS
namespace RS
open PySem PySem.Spec L2 PyProof.Rows
end RS
namespace RS
open PySem PySem.Spec L2
theorem join_len_le (n b : Nat) : ∀ ts : List Str, ts.length ≤ n → (∀ t ∈ ts, t.length ≤ b) → (Str.join ", " ts).length ≤ n * (b + 2) := by
  intro ts hn hb
  by_cases e : ts = []
  · subst e; exact Nat.le_trans (by decide) (Nat.zero_le _)
  · have h := join_length_add ts e
    have hp : piled ts ≤ ts.length * (b + 2) := by
      clear h e hn
      induction ts with
      | nil => simp [piled]
      | cons t ts ih =>
        have h1 := hb t (List.mem_cons_self ..)
        have h2 := ih fun x hx => hb x (List.mem_cons_of_mem _ hx)
        simp only [piled, List.map_cons, List.sum_cons, List.length_cons] at h2 ⊢
        rw [Nat.add_mul]
        omega
    have : ts.length * (b + 2) ≤ n * (b + 2) := Nat.mul_le_mul_right _ hn
    omega
end RS
namespace RS
open PySem PySem.Spec PySem.W L2
/-- what the kernel tells of an own exception class -/
structure XB (K : Frag) (C fI cda : Addr) (qual : Str) (B newId initId : String) (bmB : List Value) : Prop where
  q : excInitIn K C bmB newId = true
  ov : excOver K C bmB = true
  sup : ks_superIn K C C "__init__" = some (some (.builtin initId))
  sub : subIn K (.ref C) (.type B) = some true
  fn : typeIn K (.ref fI) = some (.type "function")
  cd : codeIn K (.ref cda) qual = true
  me : mroIn K C (.ref C) = some true
  kp : keepIn K (.ref C) = true
  hd : hasDictIn K C = true
  sa : findIn K (.ref C) "__setattr__" = some (some (.builtin "object.__setattr__"))
  hg : findIn K (.ref C) "__getattribute__" = some (some (.builtin "BaseException.__getattribute__"))
  hk : findIn K (.ref C) "__getattr__" = some none
  hs : subIn K (.ref C) (.type "BaseException") = some true
  ha : findIn K (.ref C) "__class__" = some (some (.builtin "object.__class__"))
  hm : mroIn K C (.type "object") = some true
/-- what is common -/
structure XA (P : Program) (K : Frag) : Prop where
  op : nsIn K cStatics "thirdparty.any" = some none
  nt : (P.main.scope.names.lookup ("super" : Str)).isSome = false
  hn : specialIn K (.builtin "object.__class__") "__get__" = some (some (.builtin "getset_descriptor.__get__"))
  ht : takesIn K (.builtin "object.__class__") = some true
section
variable {P : Program} {K : Frag} {C fI cda cc : Addr} {qual : Str} {st : Stmt} {B newId initId : String} {bmB : List Value}
  {oc kV doc pm ct ccl cl : Value} {od an cdd cld : Option Addr} {osl ccs csl : Array (Option Value)} {vs : Array Value} {file : Str} {tf : Tok}
theorem xc_mk (FB : ExcBaseFacts B newId initId bmB) (KF : KxsFacts B initId) (SF : StoreFacts B bmB "object.__setattr__" "object") (A : XA P K) (b : XB K C fI cda qual B newId initId bmB) (ini : findIn K (.ref C) "__init__" = some (some (.ref fI)))
    (l : K.lookup fI = some ⟨oc, od, .func (ksFn "__init__" qual (L2.defArgs st) (L2.defBody st) (L2.defScope st) .none kV doc pm an (.ref cda) ct cc), osl⟩)
    (co : K.lookup cda = some ⟨ccl, cdd, .fields vs, ccs⟩) (fi : vs[2]? = some (.str file tf)) (fe : ((P.main.file : Str) == file) = true) (ce : K.lookup cc = some ⟨cl, cld, .cell (some (.ref C)), csl⟩) :
    XC P K C fI cda cc qual st B newId initId bmB :=
  ⟨FB, KF, SF, b.q, b.ov, b.sup, b.sub, ini, b.fn, ⟨_, _, _, _, _, _, _, _, l⟩, b.cd, ⟨_, _, _, _, _, _, co, fi, fe⟩, ⟨_, _, _, ce⟩, b.me, A.op, A.nt⟩
theorem XB.xf (b : XB K C fI cda qual B newId initId bmB) : XfC K C := ⟨b.hg, b.hk, b.hs, b.hd⟩
end
theorem df_mk {K : PySem.W.Frag} {x qual : Str} {st : Stmt} {f : Addr} {oc : Value} {od an : Option Addr} {osl : Array (Option Value)} {dV kV doc pm cdv ct : Value} (l : K.lookup f = some ⟨oc, od, .func (PySem.W.fnOf x qual (defArgs st) (defBody st) (defScope st) dV kV doc pm an cdv ct), osl⟩)
    (c : PySem.W.codeIn K cdv qual = true) (k : PySem.W.keepIn K (.ref f) = true) : Df K x qual st f (PySem.W.fnOf x qual (defArgs st) (defBody st) (defScope st) dV kV doc pm an cdv ct) dV := ⟨⟨oc, od, kV, doc, pm, an, cdv, ct, osl, rfl, l, c⟩, k⟩
end RS
namespace RS
open PySem PySem.Spec PyProof.Rows L2
/-- whether sys.modules is a dict -/
def smOk (h : Heap) : Bool := match h.get? sysModules with
  | some ⟨_, _, .dict _ _, _⟩ => true
  | _ => false
theorem smB_of {h : Heap} (e : smOk h = true) : SmB h := by
  unfold smOk at e
  split at e
  · rename_i c d es n sl q
    exact ⟨_, es, n, q, rfl⟩
  · cases e
/-- a hook that tells of sys.modules too -/
def smHook (k : PySem.W.Hook) : PySem.W.Hook :=
  ⟨k.α × Bool, fun s => (k.obs s, smOk s.heap), fun w => (k.val w, true), fun w h => k.says w h ∧ SmB h, fun w s e => ⟨k.of w s (Prod.mk.inj e).1, smB_of (Prod.mk.inj e).2⟩,
    fun w h h' x kp => ⟨k.keeps w h h' x.1 kp, by obtain ⟨o, es, n, e, d⟩ := x.2; exact ⟨o, es, n, kp _ _ e, d⟩⟩⟩
end RS
namespace RS
open PySem PySem.Spec L2 PyProof.Rows
section
variable {X : Cx} {k : Nat}
def rReprV (K : PySem.W.Frag) : List V → Hp → VK → Prop := fun xs H Q => ∃ v d, xs = [v] ∧ DpX K H v d ∧ d.showable = true ∧ d.depth ≤ 60 ∧ d.shown.length ≤ sizeLine ∧ Q (.str d.shown) H
theorem c_reprV {K : PySem.W.Frag} {base : Heap} (sm : SmB base) (hr : Rm k X) (hK : X.K = K := by rfl) (hB : X.base = base := by rfl) : CallR X (.builtin "repr") (rReprV K) := by
  subst hK
  subst hB
  intro pins s σ H xs us Q I r h
  obtain ⟨v, d, rfl, hd, hs, hz, hl, q⟩ := h
  obtain ⟨u, rfl, ru⟩ := vals1 r
  cases hd with
  | non =>
    cases ru
    rw [PyData.shown_none] at q
    exact PySem.P.repr_of_none ⟨.str _, H, I.tok _, ⟨_, rfl⟩, q⟩
  | bl b =>
    cases ru
    rw [PyData.shown_bool] at q
    exact PySem.P.repr_of_bool ⟨.str _, H, I.tok _, ⟨_, rfl⟩, q⟩
  | int i =>
    obtain ⟨t, rfl⟩ := ru
    rw [PyData.shown_int] at q
    have hb : i.natAbs.log2 < 1920 := by simpa [PyData.showable] using hs
    exact PySem.P.repr_of_int hb ⟨.str _, H, I.tok _, ⟨_, rfl⟩, q⟩
  | str x =>
    obtain ⟨t, rfl⟩ := ru
    rw [PyData.shown_str] at q hl
    exact PySem.P.repr_of_str ⟨.str _, H, I.tok _, ⟨_, rfl⟩, q⟩ hl
  | @lst a xs ds h1 h2 => exact c_reprX (base := X.base) sm hr rfl rfl pins s σ H _ _ Q I r ⟨a, _, rfl, .lst h1 h2, hs, hz, hl, q⟩
  | @tup a xs ds h1 h2 => exact c_reprX (base := X.base) sm hr rfl rfl pins s σ H _ _ Q I r ⟨a, _, rfl, .tup h1 h2, hs, hz, hl, q⟩
  | @dct a kvs D h1 h2 => exact c_reprX (base := X.base) sm hr rfl rfl pins s σ H _ _ Q I r ⟨a, _, rfl, .dct h1 h2, hs, hz, hl, q⟩
def rNeE (K : PySem.W.Frag) : R2 := fun x y H Q => ∃ a b xs ys, x = .ref a ∧ y = .ref b ∧ SqL K H a xs ∧ SqL K H b ys ∧ (xs = [] ∨ ys = []) ∧ Q (.bl (decide (xs.length ≠ ys.length))) H
theorem op_neE {K : PySem.W.Frag} (hr : Rm k X) (hK : X.K = K := by rfl) : OpR X (compareOp .NotEq) (rNeE K) := by
  subst hK
  intro pins s σ H x y v u Q I rx ry h
  obtain ⟨a, b, xs, ys, rfl, rfl, ha, hb, he, q⟩ := h
  cases rx
  cases ry
  obtain ⟨its, r1, ⟨o1, n1, ho1, hc1, hdd1, hd1⟩, _⟩ := I.list ha
  obtain ⟨its2, r2, ⟨o2, n2, ho2, hc2, hdd2, hd2⟩, _⟩ := I.list hb
  have l1 := r1.length
  have l2 := r2.length
  have hu : X.A.units < cLine := by have := hr.room.un; omega
  by_cases hl : xs.length = ys.length
  · have z : its.toArray.size = its2.toArray.size := by simp; omega
    have zz : its.length = 0 := by
      rcases he with e | e
      · rw [← l1, e]; rfl
      · rw [← l1, hl, e]; rfl
    have := SeqAt.RcNeAt.lists (A := X.A) (s := s) (l := a) (b := b) (e := fun _ => true) ⟨o1, ho1, hc1, n1, hd1⟩ ⟨o2, ho2, hc2, n2, hd2⟩ z hu (fun j h1 _ => by simp [zz] at h1)
    refine this X.prog X.w X.xe _ ⟨.bl (decide (xs.length ≠ ys.length)), H, I, ?_, q⟩
    simp [hl, zz]; exact rfl
  · have z : (its.toArray.size != its2.toArray.size) = true := by simp; omega
    have := SeqAt.RcNeAt.lists_lengths (A := X.A) (s := s) (l := a) (b := b) ⟨o1, ho1, hc1, n1, hd1⟩ ⟨o2, ho2, hc2, n2, hd2⟩ z hu
    refine this X.prog X.w X.xe _ ⟨.bl (decide (xs.length ≠ ys.length)), H, I, ?_, q⟩
    simp [hl]; exact rfl
end
end RS
namespace RS
open PySem PySem.Spec
/-- an iterator whose turns give out no token -/
structure Dr (prog : Program) (w : World) (A : Around) (it : Addr) (fp : List Addr) (n : Nat) (P : Nat → Value → Prop) (St : Nat → Heap → Prop) : Prop where
  fr : ∀ i h h', St i h → (∀ b ∈ fp, ∀ o, h.get? b = some o → h'.get? b = some o) → St i h'
  nx : ∀ i (s : Shared) (Q : Value → Shared → Prop) (E : Value → Shared → Prop), i < n → St i s.heap → (∀ x h', P i x → St (i + 1) h' → Heap.SameBut it s.heap h' → Q x { s with heap := h' }) → wpAny (model prog w) A (Builtin.SmallTypes.nextOf (.ref it)) Q E s
  dn : ∀ (s : Shared) (Q : Value → Shared → Prop) (E : Value → Shared → Prop), St n s.heap → (∀ h' e, Heap.ExtBut it s.heap h' → (∃ o, h'.get? e = some o ∧ o.cls = .type "StopIteration") → E (.ref e) { s with heap := h' }) → wpAny (model prog w) A (Builtin.SmallTypes.nextOf (.ref it)) Q E s
section
variable {prog : Program} {w : World} {A : Around} {E : Value → Shared → Prop} {s : Shared}
theorem dr_list (hh : A.handled = none) (it l : Addr) (ne : l ≠ it) (xs : Array Value) : Dr prog w A it [it, l] xs.size (fun i v => xs[i]? = some v) (fun i h => h.IsListIter it l i ∧ h.IsList l xs) :=
  ⟨fun _ _ _ z k => ⟨z.1.at fun o e => k it (by simp) o e, z.2.at fun o e => k l (by simp) o e⟩,
   fun i s Q E lt z k => wpAny_nextOf_list_item z.1 z.2 (x := xs[i]) (by simp [lt]) fun h' a b => k _ h' (by simp [lt]) ⟨a, z.2.extBut b.extBut ne⟩ b,
   fun s Q E z k => wpAny_nextOf_list_end hh z.1 z.2 (by simp) k⟩
theorem dr_tup (hh : A.handled = none) (it l : Addr) (ne : l ≠ it) (xs : Array Value) : Dr prog w A it [it, l] xs.size (fun i v => xs[i]? = some v) (fun i h => h.IsTupleIter it l i ∧ h.IsTuple l xs) :=
  ⟨fun _ _ _ z k => ⟨z.1.at fun o e => k it (by simp) o e, z.2.at fun o e => k l (by simp) o e⟩,
   fun i s Q E lt z k => wpAny_nextOf_tuple_item z.1 z.2 (x := xs[i]) (by simp [lt]) fun h' a b => k _ h' (by simp [lt]) ⟨a, z.2.extBut b.extBut ne⟩ b,
   fun s Q E z k => wpAny_nextOf_tuple_end hh z.1 z.2 (by simp) k⟩
/-- an enumerate's record -/
abbrev enO (f0 f1 : Value) (it : Addr) (c : Int) (old : Value) : Obj := { cls := .type "enumerate", dict := none, data := .fields #[f0, f1, .ref it, rawInt c, .none, old], slots := #[] }
abbrev tupO (c : Int) (t : Tok) (x : Value) : Obj := { cls := .type "tuple", data := .seq #[.int c t, x] }
/-- its state: no tuple is out, or one is out and held -/
def EnS (h : Heap) (e it : Addr) (c : Int) : Prop := (∃ old, h.get? e = some (enO .none (.bool false) it c old)) ∨ ∃ (old : Value) (T : Addr) (f : Bool) (o : Obj), h.get? e = some (enO (rawInt T) (.bool f) it c old) ∧ h.get? T = some o ∧ T ≠ e ∧ T ≠ it ∧ o.cls = .type "tuple"
theorem en_next {e it : Addr} {fp : List Addr} {n i : Nat} {P : Nat → Value → Prop} {St : Nat → Heap → Prop} {Q : Value → Shared → Prop} (D : Dr prog w A it fp n P St) (he : EnS s.heap e it i) (hst : St i s.heap) (lt : i < n) (ne : e ≠ it) (nf : e ∉ fp) (hi : it < s.heap.objs.size)
    (k : ∀ x h', P i x → EnS h' e it (i + 1 : Nat) → St (i + 1) h' → h'.get? s.heap.objs.size = some (tupO i s.toks x) → h'.objs.size = s.heap.objs.size + 1 → (∀ b o, b ≠ e → b ≠ it → s.heap.get? b = some o → h'.get? b = some o) → Q (.ref s.heap.objs.size) { s with heap := h', toks := s.toks + 1 }) :
    wpAny (model prog w) A (Builtin.«enumerate.__next__» ⟨[.ref e], []⟩) (fun r z => ∃ v, r = .done (.ret v) ∧ Q v z) E s := by
  obtain ⟨H, gs, dr, tk, os⟩ := s
  have ec : ((i + 1 : Nat) : Int) = (i : Int) + 1 := by omega
  obtain ⟨f0, f1, old, hE⟩ : ∃ f0 f1 old, H.get? e = some (enO f0 f1 it i old) := by
    rcases he with ⟨old, z⟩ | ⟨old, T, f, o, z, _⟩
    · exact ⟨_, _, _, z⟩
    · exact ⟨_, _, _, z⟩
  have le : e < H.objs.size := Heap.lt_size hE
  unfold Builtin.«enumerate.__next__»
  refine wpAny_bind (wpAny_of_eq (a := ((Value.ref e : Value), ([] : List Value))) (by rfl) ?_)
  refine wpAny_bind (wpAny_field hE rfl (x := .ref it) rfl ?_)
  refine wpAny_bind (D.nx i ⟨H, gs, dr, tk, os⟩ _ _ lt hst fun x H1 px st1 m1 => ?_)
  have E1 : H1.get? e = some (enO f0 f1 it i old) := (m1.2 e ne).trans hE
  refine wpAny_bind (wpAny_field E1 rfl (x := rawInt i) rfl ?_)
  refine wpAny_bind (wpAny_field E1 rfl (x := .none) rfl ?_)
  show wpAny _ _ ((mkInt (i : Int)) >>= _) _ _ ⟨H1, gs, dr, tk, os⟩
  refine wpAny_bind (wpAny_mkInt ?_)
  refine wpAny_bind (wpAny_setField_rec (s := ⟨H1, gs, dr, tk + 1, os⟩) E1 (by simp) fun H2 E2 m2 => ?_)
  have E2' : H2.get? e = some (enO f0 f1 it ((i : Int) + 1) old) := E2
  refine wpAny_bind (wpAny_setField_rec (s := ⟨H2, gs, dr, tk + 1, os⟩) E2' (by simp) fun H3 E3 m3 => ?_)
  have E3' : H3.get? e = some (enO f0 f1 it ((i : Int) + 1) old) := E3
  have m2' : Heap.SameBut e H1 H2 := m2
  have m3' : Heap.SameBut e H2 H3 := m3
  have m1' : Heap.SameBut it H H1 := m1
  have z3 : H3.objs.size = H.objs.size := by rw [m3'.1, m2'.1, m1'.1]
  refine wpAny_bind (wpAny_newTuple ?_)
  have keep4 : ∀ b o, b ≠ e → b ≠ it → H.get? b = some o → (H3.push (tupO i tk x)).get? b = some o := fun b o x1 x2 z => Heap.get?_push_of_some _ (m3'.extBut b o x1 (m2'.extBut b o x1 (m1'.extBut b o x2 z)))
  have E4 : (H3.push (tupO i tk x)).get? e = some (enO f0 f1 it ((i : Int) + 1) old) := Heap.get?_push_of_some _ E3'
  have T4 : (H3.push (tupO i tk x)).get? H.objs.size = some (tupO i tk x) := by rw [← z3]; exact Heap.get?_push_size _ rfl
  have st4 : St (i + 1) (H3.push (tupO i tk x)) := D.fr _ _ _ st1 fun b hb o z => by
    have x1 : b ≠ e := fun q => nf (q ▸ hb)
    exact Heap.get?_push_of_some _ (m3'.extBut b o x1 (m2'.extBut b o x1 z))
  have z4 : (H3.push (tupO i tk x)).objs.size = H.objs.size + 1 := by rw [Heap.size_push, z3]
  have keepT : ∀ T o, T ≠ e → T ≠ it → H.get? T = some o → (H3.push (tupO i tk x)).get? T = some o := keep4
  show wpAny _ _ (Builtin.SmallTypes.ownedTupleIsFree (.ref e) >>= _) _ _ ⟨H3.push (tupO i tk x), gs, dr, tk + 1, os⟩
  rw [z3]
  generalize H3.push (tupO i tk x) = H4 at keep4 E4 T4 st4 z4 keepT ⊢
  have nT : H.objs.size ≠ e := Nat.ne_of_gt le
  have nI : H.objs.size ≠ it := Nat.ne_of_gt hi
  rcases he with ⟨old', z⟩ | ⟨old', T, f, oT, z, hT, n1, n2, ct⟩
  · have q : enO f0 f1 it i old = enO .none (.bool false) it i old' := Option.some.inj (hE.symm.trans z)
    have qq := congrArg (fun o : Obj => match o.data with | .fields vs => vs.toList | _ => []) q
    simp only [List.cons.injEq] at qq
    have q0 : f0 = .none := qq.1
    have q1 : f1 = .bool false := qq.2.1
    subst q0 q1
    refine wpAny_bind ?_
    unfold Builtin.SmallTypes.ownedTupleIsFree
    refine wpAny_bind (wpAny_field E4 rfl (x := .none) rfl (wpAny_pure ?_))
    simp only [if_true]
    refine wpAny_bind (wpAny_rule ?_)
    refine wpAny_bind (wpAny_field E4 rfl (x := old) rfl ?_)
    refine wpAny_bind (wpAny_setField_rec E4 (by simp) fun H5 E5 m5 => ?_)
    have E5' : H5.get? e = some (enO .none (.bool false) it ((i : Int) + 1) x) := E5
    have m5' : Heap.SameBut e H4 H5 := m5
    refine wpAny_bind ?_
    unfold Builtin.SmallTypes.ownedTupleHandOut
    refine wpAny_bind (wpAny_setField_rec E5' (by simp) fun H6 E6 m6 => ?_)
    have m6' : Heap.SameBut e H5 H6 := m6
    refine wpAny_setField_rec E6 (by simp) fun H7 E7 m7 => ?_
    have m7' : Heap.SameBut e H6 H7 := m7
    have E7' : H7.get? e = some (enO (rawInt H.objs.size) (.bool false) it ((i + 1 : Nat) : Int) x) := by rw [ec]; exact E7
    have kk : ∀ b o, b ≠ e → H4.get? b = some o → H7.get? b = some o := fun b o x1 z => m7'.extBut b o x1 (m6'.extBut b o x1 (m5'.extBut b o x1 z))
    refine wpAny_bind (wpAny_letGo (wpAny_pure ⟨_, rfl, k x H7 px (.inr ⟨x, H.objs.size, false, _, E7', kk _ _ nT T4, nT, nI, rfl⟩) (D.fr _ _ _ st4 fun b hb o z => kk b o (fun q => nf (q ▸ hb)) z) (kk _ _ nT T4) ?_ fun b o x1 x2 z => kk b o x1 (keep4 b o x1 x2 z)⟩))
    show H7.objs.size = H.objs.size + 1
    rw [m7'.1, m6'.1, m5'.1, z4]
  · have q : enO f0 f1 it i old = enO (rawInt T) (.bool f) it i old' := Option.some.inj (hE.symm.trans z)
    have qq := congrArg (fun o : Obj => match o.data with | .fields vs => vs.toList | _ => []) q
    simp only [List.cons.injEq] at qq
    have q0 : f0 = rawInt T := qq.1
    have q1 : f1 = .bool f := qq.2.1
    subst q0 q1
    refine wpAny_bind (wpAny_tupleHeld_enum (s := ⟨H4, gs, dr, tk + 1, os⟩) E4 (keepT T oT n1 n2 hT) fun H5 E5 m5 => ?_)
    have m5' : Heap.SameBut e H4 H5 := m5
    simp only [Bool.false_eq_true, if_false]
    have kk : ∀ b o, b ≠ e → H4.get? b = some o → H5.get? b = some o := fun b o x1 z => m5'.extBut b o x1 z
    refine wpAny_pure ⟨_, rfl, k x H5 px (.inr ⟨old, T, true, oT, by rw [ec]; exact E5, kk _ _ n1 (keepT T oT n1 n2 hT), n1, n2, ct⟩) (D.fr _ _ _ st4 fun b hb o z => kk b o (fun q => nf (q ▸ hb)) z) (kk _ _ nT T4) ?_ fun b o x1 x2 z => kk b o x1 (keep4 b o x1 x2 z)⟩
    show H5.objs.size = H.objs.size + 1
    rw [m5'.1, z4]
end
end RS
namespace RS
open PySem PySem.Spec
section
variable {prog : Program} {w : World} {A : Around} {E : Value → Shared → Prop} {s : Shared} {e it : Addr} {fp : List Addr} {n i : Nat} {P : Nat → Value → Prop} {St : Nat → Heap → Prop}
theorem EnS.ty {h : Heap} {c : Int} (x : EnS h e it c) : ∃ o, h.get? e = some o ∧ o.cls = .type "enumerate" := by
  rcases x with ⟨old, z⟩ | ⟨old, T, f, o, z, _⟩
  · exact ⟨_, z, rfl⟩
  · exact ⟨_, z, rfl⟩
theorem en_item {Q : Option Value → Shared → Prop} (D : Dr prog w A.in1 it fp n P St) (he : EnS s.heap e it i) (hst : St i s.heap) (lt : i < n) (ne : e ≠ it) (nf : e ∉ fp) (hi : it < s.heap.objs.size)
    (k : ∀ x h', P i x → EnS h' e it (i + 1 : Nat) → St (i + 1) h' → h'.get? s.heap.objs.size = some (tupO i s.toks x) → h'.objs.size = s.heap.objs.size + 1 → (∀ b o, b ≠ e → b ≠ it → s.heap.get? b = some o → h'.get? b = some o) → Q (some (.ref s.heap.objs.size)) { s with heap := h', toks := s.toks + 1 }) :
    wpAny (model prog w) A (pyNext (.ref e)) Q E s := by
  have ty : s.TypeIs (.ref e) "enumerate" := he.ty
  unfold pyNext
  refine wpAny_bind (wpAny_attempt (wpAny_callSpecial?_slot (name := ("__next__" : Str)) ty F.slot_enumerate_next (wpAny_call_entry F.slot_enumerate_next ty F.entry_enumerate_next ?_ (F.args_enumerate_next_1 _))))
  exact en_next D he hst lt ne nf hi fun x h' a b c d f g => wpAny_pure (k x h' a b c d f g)
theorem en_end {Q : Option Value → Shared → Prop} {c : Int} (D : Dr prog w A.in1 it fp n P St) (he : EnS s.heap e it c) (hst : St n s.heap) (k : ∀ h', Heap.ExtBut it s.heap h' → Q none { s with heap := h' }) : wpAny (model prog w) A (pyNext (.ref e)) Q E s := by
  have ty : s.TypeIs (.ref e) "enumerate" := he.ty
  obtain ⟨f0, f1, old, hE⟩ : ∃ f0 f1 old, s.heap.get? e = some (enO f0 f1 it c old) := by
    rcases he with ⟨old, z⟩ | ⟨old, T, f, o, z, _⟩
    · exact ⟨_, _, _, z⟩
    · exact ⟨_, _, _, z⟩
  unfold pyNext
  refine wpAny_bind (wpAny_attempt (wpAny_callSpecial?_slot (name := ("__next__" : Str)) ty F.slot_enumerate_next (wpAny_call_entry F.slot_enumerate_next ty F.entry_enumerate_next ?_ (F.args_enumerate_next_1 _))))
  unfold Builtin.«enumerate.__next__»
  refine wpAny_bind (wpAny_of_eq (a := ((Value.ref e : Value), ([] : List Value))) (by rfl) ?_)
  refine wpAny_bind (wpAny_field hE rfl (x := .ref it) rfl ?_)
  refine wpAny_bind (D.dn s _ _ hst fun h' x eb hx => ?_)
  obtain ⟨o, ho, hc⟩ := hx
  exact wpAny_bind (wpAny_isInstance (T := "StopIteration") (b := true) ⟨o, ho, hc⟩ isSubtype_stop (wpAny_pure (k _ eb)))
abbrev lstO (acc : Array Value) (c : Nat) : Obj := { cls := .type "list", dict := none, data := .seq acc c, slots := #[] }
/-- the tuples laid so far -/
def Laid (P : Nat → Value → Prop) (b0 m : Nat) (h : Heap) : Prop := ∀ j, j < m → ∃ t x, h.get? (b0 + j) = some (tupO j t x) ∧ P j x
def refsR (b0 m : Nat) : List Value := (List.range m).map fun j => .ref (b0 + j)
theorem refsR_succ (b0 m : Nat) : refsR b0 (m + 1) = refsR b0 m ++ [.ref (b0 + m)] := by simp [refsR, List.range_succ]
theorem en_loop {R : Result → Shared → Prop} {S : Addr} {b0 : Nat} {h₁ : Heap} {res : Value} (D : Dr prog w A.in1.in1 it fp n P St) (ne : e ≠ it) (nf : e ∉ fp) (Sf : S ∉ fp) (Se : S ≠ e) (Si : S ≠ it) (hn : n ≤ sizeLine) (lS : S < b0) (li : it < b0) (le : e < b0)
    (hR : ∀ h' tk c, (∀ b o, b ≠ S → b ≠ e → b ≠ it → h₁.get? b = some o → h'.get? b = some o) → h'.get? S = some (lstO (refsR b0 n).toArray c) → Laid P b0 n h' → R (.ok (.ret res)) { s with heap := h', toks := tk }) :
    ∀ (k i : Nat) (h : Heap) (tk c : Nat), n - i = k → i ≤ n → EnS h e it i → St i h → h.objs.size = b0 + i → (∀ b o, b ≠ S → b ≠ e → b ≠ it → h₁.get? b = some o → h.get? b = some o) → h.get? S = some (lstO (refsR b0 i).toArray c) → Laid P b0 i h →
      codeAny (model prog w) A (.builtin "list.extend.loop" ⟨[.ref S, .ref e, res], []⟩) R { s with heap := h, toks := tk } := by
  have nS : ∀ j : Nat, (b0 + j : Nat) ≠ S := fun j => Nat.ne_of_gt (Nat.lt_of_lt_of_le lS (Nat.le_add_right _ _))
  have nE : ∀ j : Nat, (b0 + j : Nat) ≠ e := fun j => Nat.ne_of_gt (Nat.lt_of_lt_of_le le (Nat.le_add_right _ _))
  have nI : ∀ j : Nat, (b0 + j : Nat) ≠ it := fun j => Nat.ne_of_gt (Nat.lt_of_lt_of_le li (Nat.le_add_right _ _))
  intro k
  induction k with
  | zero =>
    intro i h tk c hk hi he st sz kp hS la
    have : i = n := by omega
    subst this
    refine codeAny_builtin PySem.F.entry_extend_loop ?_
    rw [Around.under_plainId PySem.F.plain_extend_loop _]
    unfold Builtin.«list.extend.loop»
    refine wpAny_bind (en_end (s := { s with heap := h, toks := tk }) D he st fun h' eb => wpAny_pure (hR h' tk c (fun b o x1 x2 x3 z => eb b o x3 (kp b o x1 x2 x3 z)) (eb S _ Si hS) fun j hj => ?_))
    obtain ⟨t, x, z, p⟩ := la j hj
    exact ⟨t, x, eb _ _ (nI j) z, p⟩
  | succ k ih =>
    intro i h tk c hk hi he st sz kp hS la
    have lt : i < n := by omega
    refine codeAny_builtin PySem.F.entry_extend_loop ?_
    rw [Around.under_plainId PySem.F.plain_extend_loop _]
    unfold Builtin.«list.extend.loop»
    refine wpAny_bind (en_item (s := { s with heap := h, toks := tk }) D he st lt ne nf (by show it < h.objs.size; rw [sz]; exact Nat.lt_of_lt_of_le li (Nat.le_add_right _ _)) fun x h' px he' st' T' z' k' => ?_)
    have T2 : h'.get? (b0 + i) = some (tupO i tk x) := by rw [← sz]; exact T'
    have z2 : h'.objs.size = b0 + i + 1 := by rw [z']; show h.objs.size + 1 = _; rw [sz]
    have S2 := k' S _ Se Si hS
    have up : Heap.SameBut S h' (h'.update S (Obj.mapSeq (·.push (.ref (b0 + i))))) := Heap.SameBut.update ..
    have S3 := Heap.get?_update_self (Obj.mapSeq (·.push (Value.ref (b0 + i)))) S2 rfl
    have szr : (refsR b0 i).toArray.size = i := by simp [refsR]
    show wpAny _ A.in1 (updateSeq S (·.push (.ref h.objs.size)) >>= fun _ => _) _ _ _
    rw [sz]
    refine wpAny_bind (wpAny_updateSeq S2 rfl (wpAny_pure ⟨plainId_quiet PySem.F.plain_extend_loop _, ih (i + 1) _ _ (if ((refsR b0 i).toArray.push (Value.ref (b0 + i))).size == (refsR b0 i).toArray.size then c else c + 1) (by omega) lt ?_ ?_ ?_ ?_ ?_ ?_⟩) (by rw [szr]; omega) (by show ((refsR b0 i).toArray.push _).size ≤ sizeLine + 1; rw [Array.size_push, szr]; omega))
    · rcases he' with ⟨old, z⟩ | ⟨old, T, f, o, z, y1, y2, y3, y4⟩
      · exact .inl ⟨old, up.extBut _ _ (Ne.symm Se) z⟩
      · refine .inr ⟨old, T, f, o, up.extBut _ _ (Ne.symm Se) z, up.extBut _ _ (fun q => ?_) y1, y2, y3, y4⟩
        rw [q, S2] at y1
        cases y1
        exact absurd y4 (by show ¬ Value.type "list" = Value.type "tuple"; decide)
    · exact D.fr _ _ _ st' fun b hb o z => up.extBut _ _ (fun q => Sf (q ▸ hb)) z
    · rw [up.1, z2]; omega
    · exact fun b o x1 x2 x3 z => up.extBut b o x1 (k' b o x2 x3 (kp b o x1 x2 x3 z))
    · have : (refsR b0 (i + 1)).toArray = (refsR b0 i).toArray.push (.ref (b0 + i)) := by rw [refsR_succ]; simp
      rw [this]; exact S3
    · intro j hj
      by_cases q : j = i
      · subst q
        exact ⟨tk, x, up.extBut _ _ (nS _) T2, px⟩
      · obtain ⟨t, y, z, p⟩ := la j (by omega)
        exact ⟨t, y, up.extBut _ _ (nS _) (k' _ _ (nE _) (nI _) z), p⟩
end
end RS
namespace RS
open PySem PySem.Spec
abbrev en0 (it : Addr) : Obj := { cls := .type "enumerate", data := .fields #[.none, .bool false, .ref it, rawInt 0, .none, .none] }
theorem enew_meets {v : Value} {o : Obj} {H : Heap → Prop} (B : Begins v o H) :
    Meets (Builtin.«enumerate.__new__» ⟨[.type "enumerate", v], []⟩) (fun _ R s => H s.heap ∧ R (.ok (.ret (.ref (s.heap.push o).objs.size))) { s with heap := (s.heap.push o).push (en0 s.heap.objs.size) }) :=
  .of_wp fun prog w A R s h => by
    obtain ⟨hp, g, d, tk, os⟩ := s
    obtain ⟨h1, h⟩ := h
    have sub := sub_enumerate
    have go : ∀ {A' : Around} {E : Value → Shared → Prop} {Q : Value → Shared → Prop}, Q (.ref hp.objs.size) ⟨hp.push o, g, d, tk, os⟩ → wpAny (model prog w) A' (pyIter v) Q E ⟨hp, g, d, tk, os⟩ := fun q => B.iter prog w _ _ ⟨hp, g, d, tk, os⟩ _ h1 q
    wp_walk using go
    refine wpAny_stack_any fun st => wpAny_pure ?_
    split
    · rename_i c _ _ _ _ _
      cases (c == Value.type "enumerate")
      · wp_walk using go
        exact ⟨_, rfl, h⟩
      · wp_walk using go
        exact ⟨_, rfl, h⟩
    · wp_walk using go
      exact ⟨_, rfl, h⟩
section
variable {prog : Program} {w : World} {A : Around} {E : Value → Shared → Prop} {s : Shared}
theorem call_enumB {v : Value} {o : Obj} {H : Heap → Prop} {Q : Value → Shared → Prop} (B : Begins v o H) (h1 : H s.heap)
    (k : ∀ h', h'.get? (s.heap.objs.size + 1) = some (enO .none (.bool false) s.heap.objs.size (0 : Nat) .none) → h'.get? s.heap.objs.size = some o → h'.objs.size = s.heap.objs.size + 2 → (∀ b o, s.heap.get? b = some o → h'.get? b = some o) → Q (.ref (s.heap.objs.size + 1)) { s with heap := h' }) :
    wpAny (model prog w) A (call (.type "enumerate") [v]) Q E s := by
  refine callType_new F.called_enumerate (by decide) (F.typeCall_enumerate_1 _) (F.newCall_enumerate_1 _) (fun obj => F.args_object_init_2 obj _) F.entry_enumerate_new (enew_meets B) ⟨h1, ?_⟩
  have z : (s.heap.push o).objs.size = s.heap.objs.size + 1 := Heap.size_push ..
  show _ ∧ _
  rw [z]
  have he : ((s.heap.push o).push (en0 s.heap.objs.size)).get? (s.heap.objs.size + 1) = some (en0 s.heap.objs.size) := by
    have y := Heap.get?_push_size (s.heap.push o) (o := en0 s.heap.objs.size) rfl
    rw [z] at y
    exact y
  exact ⟨⟨_, he, rfl⟩, k _ he (Heap.get?_push_of_some _ (Heap.get?_push_size _ B.free)) (by rw [Heap.size_push, z]) fun b o x => Heap.get?_push_of_some _ (Heap.get?_push_of_some _ x)⟩
theorem en_no_len : typeLookup (.type "enumerate") "__len__" = pure none := am_miss_of_fast (by decide +kernel)
theorem en_no_hint : typeLookup (.type "enumerate") "__length_hint__" = pure none := am_miss_of_fast (by decide +kernel)
variable {e it : Addr} {fp : List Addr} {n : Nat} {P : Nat → Value → Prop} {St : Nat → Heap → Prop}
/-- list(e), e an enumerate that has not begun -/
theorem list_enum {Q : Value → Shared → Prop} (D : Dr prog w A.in1.in1.in1 it fp n P St) {old0 : Value} (he0 : s.heap.get? e = some (enO .none (.bool false) it (0 : Nat) old0)) (st : St 0 s.heap) (ne : e ≠ it) (nf : e ∉ fp) (hn : n ≤ sizeLine) (li : it < s.heap.objs.size) (lf : ∀ b ∈ fp, b < s.heap.objs.size)
    (k : ∀ h' tk c, (∀ b o, b ≠ e → b ≠ it → s.heap.get? b = some o → h'.get? b = some o) → h'.get? s.heap.objs.size = some (lstO (refsR (s.heap.objs.size + 1) n).toArray c) → Laid P (s.heap.objs.size + 1) n h' → Q (.ref s.heap.objs.size) { s with heap := h', toks := tk }) :
    wpAny (model prog w) A (call (.type "list") [.ref e]) Q E s := by
  have he : EnS s.heap e it (0 : Nat) := .inl ⟨_, he0⟩
  have le : e < s.heap.objs.size := Heap.lt_size he0
  refine callType_codes (Q₁ := fun obj z => obj = .ref s.heap.objs.size ∧ z = { s with heap := s.heap.push { cls := .type "list", data := .seq #[] } }) F.called_list (F.typeCall_list_1 _) F.entry_list_init (code_list_new _ ⟨rfl, rfl⟩) fun obj z hz => ?_
  obtain ⟨rfl, rfl⟩ := hz
  have hS : (s.heap.push (lstO #[] 0)).get? s.heap.objs.size = some (lstO #[] 0) := Heap.get?_push_size _ rfl
  have Se : s.heap.objs.size ≠ e := Nat.ne_of_gt le
  have Si : s.heap.objs.size ≠ it := Nat.ne_of_gt li
  have Sf : s.heap.objs.size ∉ fp := fun hm => Nat.lt_irrefl _ (lf _ hm)
  refine ⟨⟨_, hS, rfl⟩, F.args_list_init_2 _ _, ?_⟩
  have kp : ∀ (h : Heap), Heap.SameBut s.heap.objs.size (s.heap.push (lstO #[] 0)) h → EnS h e it (0 : Nat) ∧ St 0 h ∧ h.objs.size = s.heap.objs.size + 1 + 0 ∧ ∀ b o, b ≠ s.heap.objs.size → b ≠ e → b ≠ it → s.heap.get? b = some o → h.get? b = some o := fun h m => by
    have kk : ∀ b o, b ≠ s.heap.objs.size → s.heap.get? b = some o → h.get? b = some o := fun b o x z => m.extBut b o x (Heap.get?_push_of_some _ z)
    refine ⟨?_, D.fr _ _ _ st fun b hb o z => kk b o (fun q => Sf (q ▸ hb)) z, by rw [m.1, Heap.size_push], fun b o x _ _ z => kk b o x z⟩
    rcases he with ⟨old, z⟩ | ⟨old, T, f, o, z, y1, y2, y3, y4⟩
    · exact .inl ⟨old, kk _ _ (Ne.symm Se) z⟩
    · exact .inr ⟨old, T, f, o, kk _ _ (Ne.symm Se) z, kk _ _ (Nat.ne_of_lt (Heap.lt_size y1)) y1, y2, y3, y4⟩
  show wpAny _ A.in1.in1 (do let old ← Builtin.List.listItems (.ref s.heap.objs.size); Builtin.List.listUpdate (.ref s.heap.objs.size) (fun _ => #[]); letGo old.toList.reverse; Builtin.List.listExtendWith (.ref s.heap.objs.size) (.ref e) .none) _ _ _
  refine wpAny_bind ?_
  unfold Builtin.List.listItems
  refine wpAny_bind (wpAny_seqItems hS rfl (wpAny_pure ?_))
  show wpAny _ _ (updateSeq s.heap.objs.size (fun _ => #[]) >>= fun _ => _) _ _ _
  refine wpAny_bind (wpAny_updateSeq hS rfl ?_)
  have hS2 := Heap.get?_update_self (Obj.mapSeq (fun _ => (#[] : Array Value))) hS rfl
  refine wpAny_bind (wpAny_letGo ?_)
  unfold Builtin.List.listExtendWith
  obtain ⟨e2, s2, z2, k2⟩ := kp _ (Heap.SameBut.update ..)
  have ty2 := e2.ty
  refine wpAny_bind (wpAny_typeOf ty2 ?_)
  have h1 : Builtin.List.listSameRef (.ref s.heap.objs.size) (.ref e) = false := by simp [Builtin.List.listSameRef, Se]
  have h2 : (Value.type "enumerate" == Value.type "list") = false := by decide
  have h3 : (Value.type "enumerate" == Value.type "tuple") = false := by decide
  simp only [h1, h2, h3, Bool.or_false, Bool.false_eq_true, if_false]
  have e3 : ((s.heap.push (lstO #[] 0)).update s.heap.objs.size (Obj.mapSeq (fun _ => (#[] : Array Value)))).get? e = some (enO .none (.bool false) it (0 : Nat) old0) := (Heap.get?_update_other _ _ Se).trans (Heap.get?_push_of_some _ he0)
  refine wpAny_bind (wpAny_pyIter_enum e3 ?_)
  refine wpAny_bind (wpAny_holding ?_)
  unfold Builtin.List.listLengthHint
  refine wpAny_bind (wpAny_specialOf ty2 en_no_len ?_)
  show wpAny _ _ (specialOf (Value.ref e) (Str.ofString "__length_hint__") >>= _) _ _ _
  refine wpAny_bind (wpAny_specialOf ty2 en_no_hint ?_)
  refine wpAny_pure ?_
  rw [if_pos (by rfl)]
  refine wpAny_bind (wpAny_rule ?_)
  show wpAny _ _ ((updateSeq s.heap.objs.size (·.push .none) >>= fun _ => updateSeq s.heap.objs.size (·.pop)) >>= fun _ => _) _ _ _
  refine wpAny_bind (wpAny_bind (wpAny_updateSeq hS2 rfl ?_))
  have hS3 := Heap.get?_update_self (Obj.mapSeq (·.push Value.none)) hS2 rfl
  refine wpAny_updateSeq (hz := by seq_fits) hS3 rfl ?_
  have hS4 := Heap.get?_update_self (Obj.mapSeq (·.pop)) hS3 rfl
  refine wpAny_pure ⟨plainId_quiet PySem.F.plain_extend_loop _, ?_⟩
  have m : Heap.SameBut s.heap.objs.size (s.heap.push (lstO #[] 0)) ((((s.heap.push (lstO #[] 0)).update s.heap.objs.size (Obj.mapSeq (fun _ => (#[] : Array Value)))).update s.heap.objs.size (Obj.mapSeq (·.push Value.none))).update s.heap.objs.size (Obj.mapSeq (·.pop))) := by
    have a1 : Heap.SameBut s.heap.objs.size _ _ := Heap.SameBut.update (h := s.heap.push (lstO #[] 0)) (a := s.heap.objs.size) (f := Obj.mapSeq (fun _ => (#[] : Array Value)))
    have a2 : Heap.SameBut s.heap.objs.size _ _ := Heap.SameBut.update (h := (s.heap.push (lstO #[] 0)).update s.heap.objs.size (Obj.mapSeq (fun _ => (#[] : Array Value)))) (a := s.heap.objs.size) (f := Obj.mapSeq (·.push Value.none))
    have a3 : Heap.SameBut s.heap.objs.size _ _ := Heap.SameBut.update (h := ((s.heap.push (lstO #[] 0)).update s.heap.objs.size (Obj.mapSeq (fun _ => (#[] : Array Value)))).update s.heap.objs.size (Obj.mapSeq (·.push Value.none))) (a := s.heap.objs.size) (f := Obj.mapSeq (·.pop))
    exact ⟨a3.1.trans (a2.1.trans a1.1), fun b hb => (a3.2 b hb).trans ((a2.2 b hb).trans (a1.2 b hb))⟩
  obtain ⟨e5, s5, z5, k5⟩ := kp _ m
  exact en_loop (s := s) (h₁ := s.heap) (A := A.in1) D ne nf Sf Se Si hn (Nat.lt_succ_self _) (Nat.lt_succ_of_lt li) (Nat.lt_succ_of_lt le) (fun h' tk c y1 y2 y3 => ⟨rfl, k h' tk c (fun b o x1 x2 z => y1 b o (Nat.ne_of_lt (Heap.lt_size z)) x1 x2 z) y2 y3⟩) n 0 _ s.toks _ (Nat.sub_zero _) (Nat.zero_le _) e5 s5 z5 k5 hS4 fun j hj => absurd hj (Nat.not_lt_zero _)
end
end RS
namespace RS
open PySem PySem.Spec L2 PyProof.Rows
/-- the list at S and the pairs behind it, tracked -/
def enH (H : Hp) (S : Addr) (b0 : Nat) (xs : List V) : Hp := fun b =>
  if b = S then some (.lst ((List.range xs.length).map fun j => V.ref (b0 + j)))
  else if b0 ≤ b then (match xs[b - b0]? with | some x => some (.tup [.int ((b - b0 : Nat) : Int), x]) | none => H b) else H b
theorem enH_S {H : Hp} {S : Addr} {b0 : Nat} {xs : List V} : enH H S b0 xs S = some (.lst ((List.range xs.length).map fun j => V.ref (b0 + j))) := by simp [enH]
theorem enH_at {H : Hp} {S : Addr} {b0 : Nat} {xs : List V} {j : Nat} {x : V} (hS : S < b0) (h : xs[j]? = some x) : enH H S b0 xs (b0 + j) = some (.tup [.int (j : Nat), x]) := by
  unfold enH
  rw [if_neg (Nat.ne_of_gt (Nat.lt_of_lt_of_le hS (Nat.le_add_right _ _))), if_pos (Nat.le_add_right _ _)]
  have e : b0 + j - b0 = j := by omega
  rw [e, h]
theorem enH_lo {H : Hp} {S : Addr} {b0 : Nat} {xs : List V} {b : Addr} (h1 : b ≠ S) (h2 : b < b0) : enH H S b0 xs b = H b := by
  unfold enH
  rw [if_neg h1, if_neg (Nat.not_le.mpr h2)]
/-- list(enumerate(x)) -/
def tListEnum (K : PySem.W.Frag) (ta : TA) : TE := fun σ H Q => ta σ H fun vs H1 => ∃ a xs, vs = [.ref a] ∧ (SqL K H1 a xs ∨ SqT K H1 a xs) ∧
  ∀ (p : Addr) (ts : List Addr) (H' : Hp), Same H1 H' → H1 p = none → H' p = some (.lst (ts.map V.ref)) → ts.length = xs.length → (∀ (j : Nat) (x : V), xs[j]? = some x → ∃ t, ts[j]? = some t ∧ H1 t = none ∧ H' t = some (.tup [.int (j : Nat), x])) → Q (.ref p) H'
section
variable {X : Cx} {K : PySem.W.Frag} {e : Expr} {ta : TA} {p p2 pos pos2 : Pos}
theorem en_laid {pins : List (Addr × Obj)} {σ : L2.St} {H : Hp} {s : Shared} {Q : VK} {h' : Heap} {tk c : Nat} {xs : List V} {its : List Value} {q : Nat} (I : Inv X pins σ H s) (r : Vals xs its) (hz : xs.length ≤ sizeLine) (lo : s.heap.objs.size ≤ q)
    (kp : ∀ b o, s.heap.get? b = some o → h'.get? b = some o) (hS : h'.get? q = some (lstO (refsR (q + 1) its.toArray.size).toArray c)) (la : Laid (fun i v => its.toArray[i]? = some v) (q + 1) its.toArray.size h')
    (k : ∀ (p : Addr) (ts : List Addr) (H' : Hp), Same H H' → H p = none → H' p = some (.lst (ts.map V.ref)) → ts.length = xs.length → (∀ (j : Nat) (x : V), xs[j]? = some x → ∃ t, ts[j]? = some t ∧ H t = none ∧ H' t = some (.tup [.int (j : Nat), x])) → Q (.ref p) H') :
    EP X pins σ Q (.ref q) { s with heap := h', toks := tk } := by
  have ln := r.length
  have fr : ∀ b : Nat, s.heap.objs.size ≤ b → H b = none := fun b hb => I.hok.fresh hb
  have lt : ∀ b o, H b = some o → b < q := fun b o z => by
    rcases Nat.lt_or_ge b s.heap.objs.size with y | y
    · exact Nat.lt_of_lt_of_le y lo
    · rw [fr b y] at z; cases z
  have ltH : ∀ b o, s.heap.get? b = some o → b < q := fun b o z => Nat.lt_of_lt_of_le (Heap.lt_size z) lo
  have sm : Same H (enH H q (q + 1) xs) := fun b o z => by rw [enH_lo (Nat.ne_of_lt (lt b o z)) (Nat.lt_succ_of_lt (lt b o z))]; exact z
  have szits : its.toArray.size = xs.length := by simp; omega
  have J : Inv X pins σ (enH H q (q + 1) xs) { s with heap := h', toks := tk } := by
    have U : Un X.fs [] H (enH H q (q + 1) xs) s.heap h' := {
      keep := fun b o z _ _ _ => kp b o z
      slot := fun b o z _ _ _ => ⟨o.slots, kp b o z⟩
      free := fun b o z n _ => by rw [enH_lo (Nat.ne_of_lt (ltH b o z)) (Nat.lt_succ_of_lt (ltH b o z))]; exact n
      there := fun b o z _ => ⟨o, kp b o z⟩
      tups := fun b ys z => sm _ _ z
      frzs := fun b o v z => sm _ _ z
      tbls := fun b ps z => ⟨#[], by rw [sm _ _ z]; simp⟩ }
    refine I.un (t' := tk) U fun b z hb => ?_
    by_cases h1 : b = q
    · subst h1
      rw [enH_S] at hb
      cases hb
      refine ⟨by rw [List.length_map, List.length_range]; exact hz, refsR (b + 1) its.toArray.size, c, ?_, hS⟩
      rw [szits]
      show Vals _ ((List.range xs.length).map _)
      generalize List.range xs.length = l
      induction l with
      | nil => exact .nil
      | cons a l ih => exact .cons rfl ih
    · by_cases h2 : q + 1 ≤ b
      · obtain ⟨j, rfl⟩ : ∃ j, b = q + 1 + j := ⟨b - (q + 1), (Nat.add_sub_cancel' h2).symm⟩
        cases hx : xs[j]? with
        | none =>
          unfold enH at hb
          rw [if_neg h1, if_pos h2] at hb
          have ej : q + 1 + j - (q + 1) = j := by omega
          rw [ej, hx] at hb
          rw [fr _ (by omega)] at hb
          cases hb
        | some x =>
          rw [enH_at (Nat.lt_succ_self _) hx] at hb
          cases hb
          have jl : j < xs.length := (List.getElem?_eq_some_iff.mp hx).1
          obtain ⟨t, u, hT, pu⟩ := la j (by rw [szits]; exact jl)
          obtain ⟨u', hu', ru⟩ := r.get hx
          have : u = u' := by simp only [List.getElem?_toArray] at pu; rw [hu'] at pu; exact (Option.some.inj pu).symm
          subst this
          exact ⟨by show 2 ≤ sizeLine; decide, [.int (j : Nat) t, u], .cons ⟨_, rfl⟩ (.cons ru .nil), ⟨_, hT, rfl, _, rfl⟩⟩
      · rw [enH_lo h1 (Nat.lt_of_not_le h2)] at hb
        exact (I.hok b z hb).stay (fun y v _ w' => kp y v w') (fun y hy => sm _ _ hy) fun y ys hy => sm _ _ hy
  refine ⟨.ref q, _, J, rfl, k q ((List.range xs.length).map fun j => q + 1 + j) _ sm (fr q lo) ?_ (by simp) fun j x hx => ?_⟩
  · rw [enH_S, List.map_map]; rfl
  · have jl : j < xs.length := (List.getElem?_eq_some_iff.mp hx).1
    exact ⟨q + 1 + j, by simp [jl], fr _ (by omega), enH_at (Nat.lt_succ_self _) hx⟩
theorem pe_listEnum (hm : X.mg "list" = none) (hm2 : X.mg "enumerate" = none) (ha : PA X [e] ta) (hc : X.calm = true := by rfl) (hg : Gl X "list" := by rfl) (hg2 : Gl X "enumerate" := by rfl) (hs2 : starEach [e] X.env = [(false, eval e X.env)] := by rfl)
    (hs : starEach [.Call (.Name "enumerate" p2) [e] [] pos2] X.env = (false, eval (.Call (.Name "enumerate" p2) [e] [] pos2) X.env) :: starEach [] X.env := by rfl) (hK : X.K = K := by rfl) :
    PE X (.Call (.Name "list" p) [.Call (.Name "enumerate" p2) [e] [] pos2] [] pos) (tListEnum K ta) := by
  subst hK
  refine ⟨fun pins s σ H Q I hq => ?_⟩
  refine wpAny_Call_Name_kw (ld_blt I hg hm bb_list ?_)
  refine PyProof.Rows.callWith_type1 ?_ hs rfl
  rw [hs]
  refine Calls.spliced_cons ?_
  refine Call_ (ld_blt I hg2 hm2 boot_enumerate (PyProof.Rows.callWith_type1 (thn (ha.run pos2 pins s σ H _ I hq) fun us s1 ⟨vs, H1, I1, r1, q1⟩ => ?_) hs2 rfl))
  obtain ⟨a, xs, rfl, hx, k⟩ := q1
  obtain ⟨u, rfl, ru⟩ := vals1 r1
  cases ru
  rcases hx with hx | hx
  · obtain ⟨its, rv, pl, hz⟩ := I1.list hx
    have hl := pl.isList
    have la : a < s1.heap.objs.size := by obtain ⟨o, z, _⟩ := hl; exact Heap.lt_size z
    refine call_enumB (begins_list a its.toArray) hl fun h' he hi z kp => Calls.spliced_nil ?_
    have al : a ≠ s1.heap.objs.size := Nat.ne_of_lt la
    refine list_enum (s := { s1 with heap := h' }) (dr_list (A := X.A.in1.in1.in1) (I.ok.hd hc) s1.heap.objs.size a al its.toArray) he ⟨⟨_, hi, rfl, rfl⟩, hl.at fun o x => kp _ _ x⟩ (Nat.succ_ne_self _) ?_ (by simp; have := rv.length; omega) ?_ ?_ fun h'' tk c kp2 hS la2 => ?_
    · simp only [List.mem_cons, List.not_mem_nil, or_false, not_or]
      exact ⟨Nat.succ_ne_self _, Nat.ne_of_gt (Nat.lt_succ_of_lt la)⟩
    · show s1.heap.objs.size < h'.objs.size; rw [z]; omega
    · intro b hb
      simp only [List.mem_cons, List.not_mem_nil, or_false] at hb
      show b < h'.objs.size
      rw [z]
      rcases hb with rfl | rfl
      · exact Nat.lt_succ_of_lt (Nat.lt_succ_self _)
      · exact Nat.lt_succ_of_lt (Nat.lt_succ_of_lt la)
    · have z' : h'.objs.size = s1.heap.objs.size + 2 := z
      exact en_laid (s := s1) (h' := h'') (tk := tk) (c := c) (q := h'.objs.size) I1 rv hz (by rw [z']; omega) (fun b o y => kp2 b o (Nat.ne_of_lt (Nat.lt_succ_of_lt (Heap.lt_size y))) (Nat.ne_of_lt (Heap.lt_size y)) (kp b o y)) hS la2 k
  · obtain ⟨its, rv, pl, hz⟩ := I1.tuple hx
    have hl : s1.heap.IsTuple a its.toArray := pl
    have la : a < s1.heap.objs.size := by obtain ⟨o, z, _⟩ := hl; exact Heap.lt_size z
    refine call_enumB (begins_tuple a its.toArray) hl fun h' he hi z kp => Calls.spliced_nil ?_
    have al : a ≠ s1.heap.objs.size := Nat.ne_of_lt la
    refine list_enum (s := { s1 with heap := h' }) (dr_tup (A := X.A.in1.in1.in1) (I.ok.hd hc) s1.heap.objs.size a al its.toArray) he ⟨⟨_, hi, rfl, rfl⟩, hl.at fun o x => kp _ _ x⟩ (Nat.succ_ne_self _) ?_ (by simp; have := rv.length; omega) ?_ ?_ fun h'' tk c kp2 hS la2 => ?_
    · simp only [List.mem_cons, List.not_mem_nil, or_false, not_or]
      exact ⟨Nat.succ_ne_self _, Nat.ne_of_gt (Nat.lt_succ_of_lt la)⟩
    · show s1.heap.objs.size < h'.objs.size; rw [z]; omega
    · intro b hb
      simp only [List.mem_cons, List.not_mem_nil, or_false] at hb
      show b < h'.objs.size
      rw [z]
      rcases hb with rfl | rfl
      · exact Nat.lt_succ_of_lt (Nat.lt_succ_self _)
      · exact Nat.lt_succ_of_lt (Nat.lt_succ_of_lt la)
    · have z' : h'.objs.size = s1.heap.objs.size + 2 := z
      exact en_laid (s := s1) (h' := h'') (tk := tk) (c := c) (q := h'.objs.size) I1 rv hz (by rw [z']; omega) (fun b o y => kp2 b o (Nat.ne_of_lt (Nat.lt_succ_of_lt (Heap.lt_size y))) (Nat.ne_of_lt (Heap.lt_size y)) (kp b o y)) hS la2 k
end
end RS
namespace RS
open PySem PySem.Spec L2
mutual
inductive Tr (H : Hp) : V → PyData → List Addr → Prop
  | non : Tr H .non .none []
  | bl (b : Bool) : Tr H (.bl b) (.bool b) []
  | int (i : Int) : Tr H (.int i) (.int i) []
  | str (x : Str) : Tr H (.str x) (.str x) []
  | lst {a : Addr} {xs : List V} {ds : List PyData} {fp : List Addr} (h : H a = some (.lst xs)) (hs : TrL H xs ds fp) (na : a ∉ fp) : Tr H (.ref a) (.list ds) (a :: fp)
  | tup {a : Addr} {xs : List V} {ds : List PyData} {fp : List Addr} (h : H a = some (.tup xs)) (hs : TrL H xs ds fp) : Tr H (.ref a) (.tuple ds) fp
  | dct {a : Addr} {kvs : List (Key × V)} {D : List (PyData × PyData)} {fp : List Addr} (h : H a = some (.dK kvs)) (hs : TrD H kvs D fp) (na : a ∉ fp) (nd : (kvs.map (·.1)).Nodup) : Tr H (.ref a) (.dict D) (a :: fp)
inductive TrL (H : Hp) : List V → List PyData → List Addr → Prop
  | nil : TrL H [] [] []
  | cons {v : V} {vs : List V} {d : PyData} {ds : List PyData} {f1 f2 : List Addr} (h : Tr H v d f1) (hs : TrL H vs ds f2) : TrL H (v :: vs) (d :: ds) (f1 ++ f2)
inductive TrD (H : Hp) : List (Key × V) → List (PyData × PyData) → List Addr → Prop
  | nil : TrD H [] [] []
  | cons {x : Str} {v : V} {kvs : List (Key × V)} {d : PyData} {D : List (PyData × PyData)} {f1 f2 : List Addr} (h : Tr H v d f1) (hs : TrD H kvs D f2) : TrD H ((.inr x, v) :: kvs) ((.str x, d) :: D) (f1 ++ f2)
end
mutual
theorem Tr.keep {H H' : Hp} {S : Addr → Prop} (hS : ∀ c, S c → ∀ xs, H c ≠ some (.tup xs)) (hk : ∀ c o, ¬ S c → H c = some o → H' c = some o) : ∀ {v : V} {d : PyData} {fp : List Addr}, Tr H v d fp → (∀ c ∈ fp, ¬ S c) → Tr H' v d fp
  | _, _, _, .non, _ => .non
  | _, _, _, .bl b, _ => .bl b
  | _, _, _, .int i, _ => .int i
  | _, _, _, .str x, _ => .str x
  | _, _, _, .lst h hs na, f => .lst (hk _ _ (f _ (List.mem_cons_self ..)) h) (hs.keep hS hk fun c hc => f c (List.mem_cons_of_mem _ hc)) na
  | _, _, _, .tup h hs, f => .tup (hk _ _ (fun z => hS _ z _ h) h) (hs.keep hS hk f)
  | _, _, _, .dct h hs na nd, f => .dct (hk _ _ (f _ (List.mem_cons_self ..)) h) (hs.keep hS hk fun c hc => f c (List.mem_cons_of_mem _ hc)) na nd
theorem TrL.keep {H H' : Hp} {S : Addr → Prop} (hS : ∀ c, S c → ∀ xs, H c ≠ some (.tup xs)) (hk : ∀ c o, ¬ S c → H c = some o → H' c = some o) : ∀ {vs : List V} {ds : List PyData} {fp : List Addr}, TrL H vs ds fp → (∀ c ∈ fp, ¬ S c) → TrL H' vs ds fp
  | _, _, _, .nil, _ => .nil
  | _, _, _, .cons h hs, f => .cons (h.keep hS hk fun c hc => f c (List.mem_append_left _ hc)) (hs.keep hS hk fun c hc => f c (List.mem_append_right _ hc))
theorem TrD.keep {H H' : Hp} {S : Addr → Prop} (hS : ∀ c, S c → ∀ xs, H c ≠ some (.tup xs)) (hk : ∀ c o, ¬ S c → H c = some o → H' c = some o) : ∀ {kvs : List (Key × V)} {D : List (PyData × PyData)} {fp : List Addr}, TrD H kvs D fp → (∀ c ∈ fp, ¬ S c) → TrD H' kvs D fp
  | _, _, _, .nil, _ => .nil
  | _, _, _, .cons h hs, f => .cons (h.keep hS hk fun c hc => f c (List.mem_append_left _ hc)) (hs.keep hS hk fun c hc => f c (List.mem_append_right _ hc))
end
theorem Tr.same {H H' : Hp} (s : Same H H') {v : V} {d : PyData} {fp : List Addr} (h : Tr H v d fp) : Tr H' v d fp := h.keep (S := fun _ => False) (fun _ z => z.elim) (fun c o _ z => s c o z) fun _ _ z => z
theorem TrL.same {H H' : Hp} (s : Same H H') {v : List V} {d : List PyData} {fp : List Addr} (h : TrL H v d fp) : TrL H' v d fp := h.keep (S := fun _ => False) (fun _ z => z.elim) (fun c o _ z => s c o z) fun _ _ z => z
theorem TrD.same {H H' : Hp} (s : Same H H') {v : List (Key × V)} {d : List (PyData × PyData)} {fp : List Addr} (h : TrD H v d fp) : TrD H' v d fp := h.keep (S := fun _ => False) (fun _ z => z.elim) (fun c o _ z => s c o z) fun _ _ z => z
/-- one place alone changes -/
theorem keep_one {H H' : Hp} {p : Addr} (n : ∀ xs, H p ≠ some (.tup xs)) (k : ∀ c o, c ≠ p → H c = some o → H' c = some o) : (∀ c, c = p → ∀ xs, H c ≠ some (.tup xs)) ∧ ∀ c o, ¬ c = p → H c = some o → H' c = some o := ⟨fun c e => by subst e; exact n, k⟩
theorem Tr.but {H H' : Hp} {p : Addr} {v : V} {d : PyData} {fp : List Addr} (h : Tr H v d fp) (n : ∀ xs, H p ≠ some (.tup xs)) (k : ∀ c o, c ≠ p → H c = some o → H' c = some o) (np : p ∉ fp) : Tr H' v d fp :=
  h.keep (S := fun c => c = p) (keep_one n k).1 k fun c hc e => np (e ▸ hc)
theorem TrL.but {H H' : Hp} {p : Addr} {v : List V} {d : List PyData} {fp : List Addr} (h : TrL H v d fp) (n : ∀ xs, H p ≠ some (.tup xs)) (k : ∀ c o, c ≠ p → H c = some o → H' c = some o) (np : p ∉ fp) : TrL H' v d fp :=
  h.keep (S := fun c => c = p) (keep_one n k).1 k fun c hc e => np (e ▸ hc)
theorem TrD.but {H H' : Hp} {p : Addr} {v : List (Key × V)} {d : List (PyData × PyData)} {fp : List Addr} (h : TrD H v d fp) (n : ∀ xs, H p ≠ some (.tup xs)) (k : ∀ c o, c ≠ p → H c = some o → H' c = some o) (np : p ∉ fp) : TrD H' v d fp :=
  h.keep (S := fun c => c = p) (keep_one n k).1 k fun c hc e => np (e ▸ hc)
mutual
theorem Tr.there {H : Hp} : ∀ {v : V} {d : PyData} {fp : List Addr}, Tr H v d fp → ∀ c ∈ fp, (∃ xs, H c = some (.lst xs)) ∨ ∃ kvs, H c = some (.dK kvs)
  | _, _, _, .non, _, h => by cases h
  | _, _, _, .bl _, _, h => by cases h
  | _, _, _, .int _, _, h => by cases h
  | _, _, _, .str _, _, h => by cases h
  | _, _, _, .lst h hs _, c, m => (List.mem_cons.mp m).elim (fun e => .inl ⟨_, e ▸ h⟩) (hs.there c)
  | _, _, _, .tup h hs, c, m => hs.there c m
  | _, _, _, .dct h hs _ _, c, m => (List.mem_cons.mp m).elim (fun e => .inr ⟨_, e ▸ h⟩) (hs.there c)
theorem TrL.there {H : Hp} : ∀ {vs : List V} {ds : List PyData} {fp : List Addr}, TrL H vs ds fp → ∀ c ∈ fp, (∃ xs, H c = some (.lst xs)) ∨ ∃ kvs, H c = some (.dK kvs)
  | _, _, _, .nil, _, h => by cases h
  | _, _, _, .cons h hs, c, m => (List.mem_append.mp m).elim (h.there c) (hs.there c)
theorem TrD.there {H : Hp} : ∀ {kvs : List (Key × V)} {D : List (PyData × PyData)} {fp : List Addr}, TrD H kvs D fp → ∀ c ∈ fp, (∃ xs, H c = some (.lst xs)) ∨ ∃ kvs, H c = some (.dK kvs)
  | _, _, _, .nil, _, h => by cases h
  | _, _, _, .cons h hs, c, m => (List.mem_append.mp m).elim (h.there c) (hs.there c)
end
mutual
theorem Tr.dp {K : PySem.W.Frag} {H : Hp} : ∀ {v : V} {d : PyData} {fp : List Addr}, Tr H v d fp → DpX K H v d
  | _, _, _, .non => .non
  | _, _, _, .bl b => .bl b
  | _, _, _, .int i => .int i
  | _, _, _, .str x => .str x
  | _, _, _, .lst h hs _ => .lst (SqL.of h) hs.dp
  | _, _, _, .tup h hs => .tup (SqT.of h) hs.dp
  | _, _, _, .dct h hs _ _ => .dct h hs.dp
theorem TrL.dp {K : PySem.W.Frag} {H : Hp} : ∀ {vs : List V} {ds : List PyData} {fp : List Addr}, TrL H vs ds fp → DpXs K H vs ds
  | _, _, _, .nil => .nil
  | _, _, _, .cons h hs => .cons h.dp hs.dp
theorem TrD.dp {K : PySem.W.Frag} {H : Hp} : ∀ {kvs : List (Key × V)} {D : List (PyData × PyData)} {fp : List Addr}, TrD H kvs D fp → DpXd K H kvs D
  | _, _, _, .nil => .nil
  | _, _, _, .cons h hs => .cons (k := .inr _) h.dp hs.dp
end
theorem TrL.len {H : Hp} : ∀ {vs : List V} {ds : List PyData} {fp : List Addr}, TrL H vs ds fp → vs.length = ds.length
  | _, _, _, .nil => rfl
  | _, _, _, .cons _ hs => by simp [hs.len]
theorem TrD.len {H : Hp} : ∀ {vs : List (Key × V)} {ds : List (PyData × PyData)} {fp : List Addr}, TrD H vs ds fp → vs.length = ds.length
  | _, _, _, .nil => rfl
  | _, _, _, .cons _ hs => by simp [hs.len]
theorem TrL.get {H : Hp} : ∀ {vs : List V} {ds : List PyData} {fp : List Addr}, TrL H vs ds fp → ∀ {i : Nat}, i < vs.length → ∃ v d f, vs[i]? = some v ∧ ds[i]? = some d ∧ Tr H v d f ∧ ∀ c ∈ f, c ∈ fp
  | _, _, _, .cons h _, 0, _ => ⟨_, _, _, rfl, rfl, h, fun c hc => List.mem_append_left _ hc⟩
  | _, _, _, .cons _ hs, i + 1, l => by
    obtain ⟨v, d, f, h1, h2, h3, h4⟩ := hs.get (i := i) (by simpa using l)
    exact ⟨v, d, f, by simpa using h1, by simpa using h2, h3, fun c hc => List.mem_append_right _ (h4 c hc)⟩
theorem TrD.get {H : Hp} : ∀ {vs : List (Key × V)} {ds : List (PyData × PyData)} {fp : List Addr}, TrD H vs ds fp → ∀ {i : Nat}, i < vs.length → ∃ x v d f, vs[i]? = some (.inr x, v) ∧ ds[i]? = some (.str x, d) ∧ Tr H v d f ∧ ∀ c ∈ f, c ∈ fp
  | _, _, _, .cons h _, 0, _ => ⟨_, _, _, _, rfl, rfl, h, fun c hc => List.mem_append_left _ hc⟩
  | _, _, _, .cons _ hs, i + 1, l => by
    obtain ⟨x, v, d, f, h1, h2, h3, h4⟩ := hs.get (i := i) (by simpa using l)
    exact ⟨x, v, d, f, by simpa using h1, by simpa using h2, h3, fun c hc => List.mem_append_right _ (h4 c hc)⟩
/-- a key's own value -/
theorem valV_at : ∀ {kvs : List (Key × V)} {i : Nat} {k : Key} {v : V}, (kvs.map (·.1)).Nodup → kvs[i]? = some (k, v) → valV kvs k = some v
  | (k', v') :: r, 0, k, v, nd, h => by
    cases h
    rw [vv_cons, if_pos rfl]
  | (k', v') :: r, i + 1, k, v, nd, h => by
    have h' : r[i]? = some (k, v) := by simpa using h
    have nd' := List.nodup_cons.mp nd
    have ne : k' ≠ k := fun e => nd'.1 (by
      have := List.mem_of_getElem? h'
      rw [e]
      exact List.mem_map.mpr ⟨_, this, rfl⟩)
    rw [vv_cons, if_neg ne]
    exact valV_at nd'.2 h'
  | [], _, _, _, _, h => by simp at h
theorem depth_all {ds : List PyData} : ∀ {d : PyData} {i : Nat}, ds[i]? = some d → d.depth ≤ PyData.depthAll ds := by
  induction ds with
  | nil => intro d i h; simp at h
  | cons x xs ih =>
    intro d i h
    cases i with
    | zero => cases h; simp only [PyData.depthAll]; omega
    | succ i => have := ih (by simpa using h); simp only [PyData.depthAll]; omega
theorem depth_kv {D : List (PyData × PyData)} : ∀ {k d : PyData} {i : Nat}, D[i]? = some (k, d) → d.depth ≤ PyData.depthKv D := by
  induction D with
  | nil => intro k d i h; simp at h
  | cons x xs ih =>
    obtain ⟨x1, x2⟩ := x
    intro k d i h
    cases i with
    | zero => cases h; simp only [PyData.depthKv]; omega
    | succ i => have := ih (by simpa using h); simp only [PyData.depthKv]; omega
end RS
namespace RS
open PySem PySem.Spec L2
section
variable {X : Cx}
def rIsT (Ts : List String) : List V → Hp → VK → Prop := fun xs H Q => match xs with
  | [x, .ref tp] => H tp = some (.tup (Ts.map V.ty)) ∧ ∃ t, tyN x H = some t ∧ Q (.bl (Ts.any (isB t))) H
  | _ => False
theorem clsV_tys : ∀ Ts : List String, Paired ClsV (Ts.map V.ty) (Ts.map Value.type)
  | [] => .nil
  | T :: Ts => .cons (.ty T) (clsV_tys Ts)
theorem kitAny_tys {K : PySem.W.Frag} {t : String} (m : t ∈ ["NoneType", "bool", "int", "str", "list", "tuple", "dict"]) : ∀ {Ts : List String}, (∀ T ∈ Ts, T ∈ ["bool", "int", "str", "list", "tuple", "dict", "float"]) → PySem.W.kitAny K (.type t) (Ts.map Value.type) = some (Ts.any (isB t))
  | [], _ => rfl
  | T :: Ts, h => by
    have e1 : PySem.W.kitOne K (.type t) (.type T) = some (isB t T) := kit_ty (kitB_tab t m T (h T (List.mem_cons_self ..)))
    have e2 := kitAny_tys (K := K) m fun T' hT => h T' (List.mem_cons_of_mem _ hT)
    show PySem.W.kitAny K (.type t) (.type T :: Ts.map Value.type) = _
    unfold PySem.W.kitAny
    rw [e1]
    cases hb : isB t T with
    | true => simp [hb]
    | false => simp only [List.any_cons, hb, Bool.false_or]; exact e2
theorem c_isT (Ts : List String) (hT : ∀ T ∈ Ts, T ∈ ["bool", "int", "str", "list", "tuple", "dict", "float"] := by decide) : CallR X (.builtin "isinstance") (rIsT Ts) := by
  intro pins s σ H xs us Q I r h
  unfold rIsT at h
  split at h
  · obtain ⟨h1, t, ht, q⟩ := h
    obtain ⟨ty, m⟩ := tyN_tyX (K := X.K) ht
    exact call_isiT pins s σ H _ us Q I r ⟨_, _, _, _, _, _, rfl, h1, clsV_tys Ts, ty, kitAny_tys m hT, q⟩
  · exact h.elim
theorem pi_or {tg e : Expr} {w1 w2 : TI} (h1 : PI X tg e w1) (h2 : PI X tg e w2) : PI X tg e (fun σ H R => w1 σ H R ∨ w2 σ H R) :=
  ⟨fun pins s σ H R I h => h.elim (h1.run pins s σ H R I) (h2.run pins s σ H R I)⟩
end
def kindN : PyData → String
  | .none => "NoneType"
  | .bool _ => "bool"
  | .int _ => "int"
  | .str _ => "str"
  | .list _ => "list"
  | .tuple _ => "tuple"
  | .dict _ => "dict"
theorem tyN_l {H : Hp} {a : Addr} {xs : List V} (h : H a = some (.lst xs)) : tyN (.ref a) H = some "list" := by simp [tyN, h]
theorem tyN_t {H : Hp} {a : Addr} {xs : List V} (h : H a = some (.tup xs)) : tyN (.ref a) H = some "tuple" := by simp [tyN, h]
theorem tyN_d {H : Hp} {a : Addr} {xs : List (Key × V)} (h : H a = some (.dK xs)) : tyN (.ref a) H = some "dict" := by simp [tyN, h]
theorem Tr.ty {H : Hp} {v : V} {d : PyData} {fp : List Addr} (h : Tr H v d fp) : tyN v H = some (kindN d) := by
  cases h with
  | non => rfl
  | bl b => rfl
  | int i => rfl
  | str x => rfl
  | lst h _ _ => exact tyN_l h
  | tup h _ => exact tyN_t h
  | dct h _ _ _ => exact tyN_d h
/-- a tree's value is no new place -/
theorem Tr.ne {H : Hp} {a p : Addr} {d : PyData} {fp : List Addr} (h : Tr H (.ref a) d fp) (n : H p = none) : a ≠ p := fun e => by
  cases h with
  | lst h _ _ => rw [e, n] at h; cases h
  | tup h _ => rw [e, n] at h; cases h
  | dct h _ _ _ => rw [e, n] at h; cases h
theorem tyN_same {H H' : Hp} {v : V} {t : String} (s : Same H H') (h : tyN v H = some t) : tyN v H' = some t := by
  cases v with
  | ref a =>
    unfold tyN at h ⊢
    simp only at h ⊢
    split at h <;> first | (cases h; done) | skip
    all_goals (rename_i e; rw [s _ _ e]; exact h)
  | _ => exact h
/-- isinstance(v, (..)): the tuple is laid -/
theorem isT_new {Ts : List String} {H : Hp} {v : V} {t : String} {p : Addr} {Q : VK} (ht : tyN v H = some t) (n : H p = none) (q : Q (.bl (Ts.any (isB t))) (upd H p (.tup (Ts.map V.ty)))) : rIsT Ts [v, .ref p] (upd H p (.tup (Ts.map V.ty))) Q :=
  ⟨upd_same, t, tyN_same (same_upd n) ht, q⟩
theorem lc_inv {J : It} {g : TG} {tt : TT} {te : TE} {vs : List Nat} {σ : L2.St} {H1 : Hp} {Qf : VK} (n : Nat) (Pv : Addr → Nat → List V → Hp → Prop) (hn : n ≤ sizeLine)
    (h0 : ∀ D, H1 D = none → Pv D 0 [] (upd H1 D (.lst []))) (hgo : ∀ D i acc H, H1 D = none → i < n → Pv D i acc H → J.go i H) (hst : ∀ D acc H, H1 D = none → Pv D n acc H → J.stop n H)
    (hs : ∀ D i acc H x H' (K : VK) (K0 : Hp → Prop), H1 D = none → i < n → acc.length ≤ i → Pv D i acc H → H D = some (.lst acc) → J.yld i H x H' → (∀ y H4, H4 D = some (.lst acc) → Pv D (i + 1) (acc ++ [y]) (upd H4 D (.lst (acc ++ [y]))) → K y H4) → (∀ H4, H4 D = some (.lst acc) → Pv D (i + 1) acc H4 → K0 H4) →
      g x (wipe σ vs) H' fun σ2 H2 => wipe σ2 vs = wipe σ vs ∧ tt σ2 H2 fun b H3 => if b = true then te σ2 H3 K else K0 H3)
    (hd : ∀ D acc H, H1 D = none → Pv D n acc H → H D = some (.lst acc) → Qf (.ref D) H) : LcB J g tt te vs σ H1 Qf := by
  intro D hD
  let W : Nat → Hp → Prop := fun i H => ∃ acc, acc.length ≤ i ∧ Pv D i acc H ∧ H D = some (.lst acc)
  refine ⟨fun i m H => m = n - i ∧ i ≤ n ∧ W i H, ⟨n, by omega, Nat.zero_le _, [], Nat.le_refl _, h0 D hD, upd_same⟩, ?_⟩
  rintro i m H ⟨rfl, hi, acc, la, pv, eD⟩
  by_cases lt : i < n
  · refine .inr ⟨hgo D i acc H hD lt pv, W (i + 1), fun H' w => ⟨n - (i + 1), by omega, rfl, lt, w⟩, fun x H' y => ?_⟩
    refine hs D i acc H x H' _ (W (i + 1)) hD lt la pv eD y (fun v H4 e4 p4 => ⟨acc, e4, by omega, acc ++ [v], by simp; omega, p4, upd_same⟩) fun H4 e4 p4 => ⟨acc, by omega, p4, e4⟩
  · have e : i = n := by omega
    subst e
    exact .inl ⟨hst D acc H hD pv, hd D acc H hD pv eD⟩
/-- .. where all are kept -/
theorem lc_invA {J : It} {g : TG} {te : TE} {vs : List Nat} {σ : L2.St} {H1 : Hp} {Qf : VK} (n : Nat) (Pv : Addr → Nat → List V → Hp → Prop) (hn : n ≤ sizeLine)
    (h0 : ∀ D, H1 D = none → Pv D 0 [] (upd H1 D (.lst []))) (hgo : ∀ D i acc H, H1 D = none → i < n → Pv D i acc H → J.go i H) (hst : ∀ D acc H, H1 D = none → Pv D n acc H → J.stop n H)
    (hs : ∀ D i acc H x H' (K : VK), H1 D = none → i < n → acc.length ≤ i → Pv D i acc H → H D = some (.lst acc) → J.yld i H x H' → (∀ y H4, H4 D = some (.lst acc) → Pv D (i + 1) (acc ++ [y]) (upd H4 D (.lst (acc ++ [y]))) → K y H4) →
      g x (wipe σ vs) H' fun σ2 H2 => wipe σ2 vs = wipe σ vs ∧ te σ2 H2 K)
    (hd : ∀ D acc H, H1 D = none → Pv D n acc H → H D = some (.lst acc) → Qf (.ref D) H) : LcB J g tYes te vs σ H1 Qf := by
  refine lc_inv n Pv hn h0 hgo hst (fun D i acc H x H' K K0 hD lt la pv eD y k _ => ?_) hd
  have e : (fun (σ2 : L2.St) (H2 : Hp) => wipe σ2 vs = wipe σ vs ∧ tYes σ2 H2 fun b H3 => if b = true then te σ2 H3 K else K0 H3) = fun σ2 H2 => wipe σ2 vs = wipe σ vs ∧ te σ2 H2 K := by
    funext σ2 H2
    simp only [tYes, if_true]
  rw [e]
  exact hs D i acc H x H' K hD lt la pv eD y k
def DcB (J : It) (g : TG) (tt : TT) (tk tv : TE) (vs : List Nat) (σ : L2.St) (H1 : Hp) (Q : VK) : Prop := ∀ D, H1 D = none → ∃ W : Nat → Nat → Hp → Prop, (∃ m, W 0 m (upd H1 D (.dK []))) ∧ ∀ i m H, W i m H →
  (J.stop i H ∧ Q (.ref D) H) ∨ (J.go i H ∧ ∃ Nx : Hp → Prop, (∀ H', Nx H' → ∃ m', m' < m ∧ W (i + 1) m' H') ∧ ∀ x H', J.yld i H x H' → g x (wipe σ vs) H' fun σ2 H2 => wipe σ2 vs = wipe σ vs ∧ tt σ2 H2 fun b H3 =>
    if b = true then tk σ2 H3 fun y H4 => tv σ2 H4 fun z H5 => ∃ kvs k, y = kV k ∧ H5 D = some (.dK kvs) ∧ kvs.length < sizeLine ∧ Nx (upd H5 D (.dK (putK kvs k z))) else Nx H3)
theorem tDc_eq (wi : TI) (g : TG) (tt : TT) (tk tv : TE) (vs : List Nat) (σ : L2.St) (H : Hp) (Q : VK) : tDc wi g tt tk tv vs σ H Q = wi σ H fun J H1 => DcB J g tt tk tv vs σ H1 Q := rfl
theorem dc_invA {J : It} {g : TG} {tk tv : TE} {vs : List Nat} {σ : L2.St} {H1 : Hp} {Qf : VK} (n : Nat) (Pv : Addr → Nat → List (Key × V) → Hp → Prop)
    (h0 : ∀ D, H1 D = none → Pv D 0 [] (upd H1 D (.dK []))) (hgo : ∀ D i acc H, H1 D = none → i < n → Pv D i acc H → J.go i H) (hst : ∀ D acc H, H1 D = none → Pv D n acc H → J.stop n H)
    (hs : ∀ D i acc H x H' (K : V → V → Hp → Prop), H1 D = none → i < n → Pv D i acc H → H D = some (.dK acc) → J.yld i H x H' → (∀ k z H5, H5 D = some (.dK acc) → acc.length < sizeLine → Pv D (i + 1) (putK acc k z) (upd H5 D (.dK (putK acc k z))) → K (kV k) z H5) →
      g x (wipe σ vs) H' fun σ2 H2 => wipe σ2 vs = wipe σ vs ∧ tk σ2 H2 fun y H4 => tv σ2 H4 fun z H5 => K y z H5)
    (hd : ∀ D acc H, H1 D = none → Pv D n acc H → H D = some (.dK acc) → Qf (.ref D) H) : DcB J g tYes tk tv vs σ H1 Qf := by
  intro D hD
  let W : Nat → Hp → Prop := fun i H => ∃ acc, Pv D i acc H ∧ H D = some (.dK acc)
  refine ⟨fun i m H => m = n - i ∧ i ≤ n ∧ W i H, ⟨n, by omega, Nat.zero_le _, [], h0 D hD, upd_same⟩, ?_⟩
  rintro i m H ⟨rfl, hi, acc, pv, eD⟩
  by_cases lt : i < n
  · refine .inr ⟨hgo D i acc H hD lt pv, W (i + 1), fun H' w => ⟨n - (i + 1), by omega, rfl, lt, w⟩, fun x H' y => ?_⟩
    have e : (fun (σ2 : L2.St) (H2 : Hp) => wipe σ2 vs = wipe σ vs ∧ tYes σ2 H2 fun b H3 => if b = true then tk σ2 H3 (fun y H4 => tv σ2 H4 fun z H5 => ∃ kvs k, y = kV k ∧ H5 D = some (.dK kvs) ∧ kvs.length < sizeLine ∧ W (i + 1) (upd H5 D (.dK (putK kvs k z)))) else W (i + 1) H3) =
        fun σ2 H2 => wipe σ2 vs = wipe σ vs ∧ tk σ2 H2 (fun y H4 => tv σ2 H4 fun z H5 => ∃ kvs k, y = kV k ∧ H5 D = some (.dK kvs) ∧ kvs.length < sizeLine ∧ W (i + 1) (upd H5 D (.dK (putK kvs k z)))) := by
      funext σ2 H2
      simp only [tYes, if_true]
    rw [e]
    exact hs D i acc H x H' _ hD lt pv eD y fun k z H5 e5 l5 p5 => ⟨acc, k, rfl, e5, l5, _, p5, upd_same⟩
  · have e : i = n := by omega
    subst e
    exact .inl ⟨hst D acc H hD pv, hd D acc H hD pv eD⟩
end RS
namespace RS
open PySem PySem.Spec L2
section
variable {X : Cx}
/-- d.update(another dict) -/
def rUpdate : V → List V → Hp → VK → Prop := fun x xs H Q => ∃ d o kvs more, x = .ref d ∧ xs = [.ref o] ∧ d ≠ o ∧ H d = some (.dK kvs) ∧ H o = some (.dK more) ∧ kvs.length + more.length ≤ sizeLine ∧ Q .non (upd H d (.dK (mergeK kvs more)))
end
end RS
namespace RS
open PySem PySem.Spec L2
/-- a def that takes any number of arguments -/
def FnS (g : Wd) (k : Nat) (f : Addr) (sp : Sp) : Prop :=
  ∀ (A : Around) (outer : List Env) (s : Shared) (H : Hp) (us : List Value) (vs : List V) (Q : VK) (E : XK), Room k A → A.guards = some [] → Env0 g.P g.w g.K g.mg g.base A outer s H → Vals vs us → sp vs H Q E → codeAny (model g.P g.w) A (.call (.ref f) ⟨us, []⟩) (CR (L2.CX g.P g.w) outer g.P g.w H s Q E) s
theorem FnS.mono {g : Wd} {j k : Nat} {f : Addr} {sp : Sp} (F : FnS g j f sp) (h : j ≤ k) : FnS g k f sp := fun A outer s H us vs Q E hr => F A outer s H us vs Q E (hr.mono h)
/-- the module's name x holds such a def -/
def KnS (g : Wd) (x : Str) (k : Nat) (sp : Sp) : Prop := ∃ f, g.mg x = some (.ref f) ∧ PySem.W.keepIn g.K (.ref f) = true ∧ FnS g k f sp
def spS (n : Nat) (sp : Sp) : Sp := fun vs H Q E => ∃ ws rest, vs = ws ++ rest ∧ ws.length = n ∧ rest.length ≤ sizeLine ∧ ∀ p, H p = none → sp (ws ++ [V.ref p]) (upd H p (.tup rest)) Q E
theorem Df.okS {g : Wd} {x qual pv : Str} {st : Stmt} {f : Addr} {fd : FuncData} {dV : Value} {N ps : List Str} {k : Nat} {sp : Sp} (F : Df g.K x qual st f fd dV) (S : FnScope N (ps ++ [pv]) (defScope st))
    (hb : ∀ us rest : List Value, us.length = ps.length → bindArgs fd ⟨us ++ rest, []⟩ = (newTuple rest >>= fun t => pure (ps.zip us ++ [(pv, t)])))
    (hbody : ∀ (cdv : Value) (A : Around) (outer : List Env) (s : Shared) (H : Hp) (vs : List V) (Q : VK) (E : XK), Rm k (cx g N qual st f cdv A outer s H E) → sp vs H Q E →
      ∃ t, PSs (cx g N qual st f cdv A outer s H E) (defBody st) t ∧ t { nx := fun _ H' => Q .non H', rt := Q } (start N vs) H) : FnS g (k + 1) f (spS ps.length sp) := by
  obtain ⟨oc, od, kV, doc, pm, an, cdv, ct, osl, rfl, lk, hcd⟩ := F.ex
  intro A outer s H us vs Q E hr hg e0 r hsp
  obtain ⟨ws, rest, rfl, hl, hz, hq⟩ := hsp
  obtain ⟨u1, u2, rfl, r1, r2⟩ := StX.vals_split r
  have nH : H s.heap.objs.size = none := e0.hok.fresh (Nat.le_refl _)
  have l1 : u1.length = ps.length := by rw [← r1.length]; exact hl
  have l2 : u2.length ≤ sizeLine := by rw [← r2.length]; exact hz
  refine StX.run_bnd lk hcd S hr e0 (G := fun ys G => ∃ p, H p = none ∧ ys = ws ++ [V.ref p] ∧ G = upd H p (.tup rest)) (fun A' Ex Q' k => ?_) fun s2 G ys z hr2 => ?_
  · rw [hb u1 u2 l1]
    refine wpAny_bind (wpAny_newTuple (wpAny_pure ?_) l2)
    have new : ObjOk g.P g.w (upd H s.heap.objs.size (.tup rest)) (s.heap.push { cls := .type "tuple", data := .seq u2.toArray }) s.heap.objs.size (.tup rest) := ⟨hz, u2, r2, ⟨_, Heap.get?_push_size _ rfl, rfl, _, rfl⟩⟩
    have U := StX.un_laid (fs := frs outer) (s := s) (o := { cls := .type "tuple", data := .seq u2.toArray }) (u := .tup rest) nH
    have y := k _ _ (ws ++ [V.ref s.heap.objs.size]) (u1 ++ [Value.ref s.heap.objs.size]) (StX.env0_laid e0 new) U rfl (fun e s' => StX.cxUp outer s H _ _ E e s' U (fun b o q => Heap.get?_push_of_some _ q) rfl) (r1.append (.cons rfl .nil)) (by simp [hl]) ⟨_, nH, rfl, rfl⟩
    rw [List.zip_append l1.symm] at y
    exact y
  · obtain ⟨p, hp, rfl, rfl⟩ := z
    exact hbody cdv A outer s2 _ _ Q E ⟨hr2, hg⟩ (hq p hp)
section
variable {g : Wd} {X : Cx} {k : Nat} {f : Addr} {sp : Sp} {W : WX} {x : Str} {p pos : Pos} {e : Expr} {es : List Expr} {t : TA}
theorem callS (a : At g X) (F : FnS g k f sp) (hr : Rm k X) (tk : Takes X W) {pins : List (Addr × Obj)} {σ : L2.St} {H : Hp} {s : Shared} {Q : VK} {us : List Value} {vs : List V} (I : Inv X pins σ H s) (r : Vals vs us) (h : sp vs H Q (fun c d H' => W c d σ H')) :
    wpAny (model X.prog X.w) X.A (call (.ref f) us) (EP X pins σ Q) X.xe s := by
  obtain ⟨P, w, K, mg, base⟩ := g
  obtain ⟨rfl, rfl, rfl, rfl, rfl⟩ := a
  refine wpAny_call (codeAny_mono (F X.A X.stack s H us vs Q _ hr.room hr.gd I.env0 r h) fun res s' hq => ?_)
  cases res with
  | error e => exact tk e s' (XE.of_call (E := fun c d H' => W c d σ H') I (fun _ _ _ z => z) hq)
  | ok fl => cases fl with
    | ret u => exact I.after hq
    | _ => exact hq.elim
def tCallS (sp : Sp) (W : WX) (t : TA) : TE := fun σ H Q => t σ H fun vs H1 => sp vs H1 Q (fun c d H' => W c d σ H')
theorem pe_callS (F : KnS g x k sp) (hr : Rm k X) (tk : Takes X W) (ha : PA X (e :: es) t) (hg : Gl X x := by rfl) (hdb : (x == ("__debug__" : Str)) = false := by decide)
    (he : starEach (e :: es) X.env = (false, eval e X.env) :: starEach es X.env := by rfl) (hpl : (backTo pos (starEach es X.env)).any (·.1) = false := by rfl) (a : At g X := by exact ⟨rfl, rfl, rfl, rfl, rfl⟩) :
    PE X (.Call (.Name x p) (e :: es) [] pos) (tCallS sp W t) := by
  obtain ⟨f, hm, hk, F⟩ := F
  refine ⟨fun pins s σ H Q I h => wpAny_Call_Name_kw (ld_glob I hg (by rw [a.mg]; exact hm) ?_ hdb)⟩
  refine PySem.W.callWith_K (h₀ := X.base) I.ok.mod.kin (by rw [a.K]; exact hk) (thn (ha.run pos pins s σ H _ I h) ?_) he hpl
  rintro us s1 ⟨vs, H1, I1, r, q⟩
  exact ⟨I1.kIn, callS a F hr tk I1 r q⟩
end
end RS
namespace RS
open PySem PySem.Spec L2
/-- the items of the tuple at a, each with its index in a new pair -/
def ItEt (K : PySem.W.Frag) (a : Addr) : It :=
  ⟨fun i H => ∃ (xs : List V) (x : V), SqT K H a xs ∧ xs[i]? = some x, fun i H v H' => ∃ T x, v = .ref T ∧ H T = none ∧ H' = upd H T (.tup [.int (i : Nat), x]) ∧ ∀ xs, SqT K H a xs → xs[i]? = some x, fun i H => ∃ xs : List V, SqT K H a xs ∧ xs.length = i⟩
def iEnumT (K : PySem.W.Frag) (ta : TA) : TI := fun σ H R => ta σ H fun vs H1 => ∃ a xs, vs = [.ref a] ∧ SqT K H1 a xs ∧ R (ItEt K a) H1
end RS
namespace RS
open PySem PySem.Spec L2 PySem.W
section
variable {g : Wd} {X : Cx} {C : Addr} {x f : Str} {e : Expr} {t : TA} {p pos : Pos}
def tPm1 (C : Addr) (f : Str) (t : TA) : L2.St → Hp → XK → Prop := fun σ H Q => t σ H fun vs H1 => ∃ v, vs = [v] ∧ ∀ dy, H1 dy = none → Q (.ref C) (some dy) (upd H1 dy (.xd [(f, v)]))
theorem pmk_x1 (F : XK1 g x C f) (R : Raises X (.ref C)) (hr : Rm 2 X) (ha : PA X [e] t) (hg : Gl X x := by rfl) (hdb : (x == ("__debug__" : Str)) = false := by decide)
    (he : starEach [e] X.env = (false, eval e X.env) :: starEach [] X.env := by rfl) (hpl : (backTo pos (starEach [] X.env)).any (·.1) = false := by rfl) (a : At g X := by exact ⟨rfl, rfl, rfl, rfl, rfl⟩) :
    PMk X (.Call (.Name x p) [e] [] pos) (tPm1 C f t) := by
  obtain ⟨hm, ms, kp, hd, sa, nf, fI, cda, cc, qual, st, B, newId, initId, bmB, xp, XX, Y⟩ := F
  intro pins s σ H Q I h
  refine wpAny_Call_Name_kw (ld_glob I hg (by rw [a.mg]; exact hm) ?_ hdb)
  refine PySem.W.callWith_K (h₀ := X.base) I.ok.mod.kin (by rw [a.K]; exact kp) (thn (ha.run pos pins s σ H _ I h) ?_) he hpl
  rintro us s1 ⟨vs, H1, I1, r, v, rfl, q⟩
  obtain ⟨u, rfl, ru⟩ := vals1 r
  refine ⟨I1.kIn, ?_⟩
  have KI := I1.kIn
  rw [a.K] at KI
  obtain ⟨nm, N', qn, bs, bm, hdct, sn, sub, ab, col, dd, k0, k1, k2, k3, k5, hC, hT⟩ := excInit_of KI XX.q
  obtain ⟨oc, od, kV, doc, pm, an, ct, osl, lk⟩ := XX.lk
  have hfn : oc = .type "function" := by
    have z := XX.fn
    unfold typeIn at z
    simp only [lk] at z
    simpa using z
  have hglob : s1.heap.Ns mainGlobals g.mg := by rw [← a.mg]; exact I1.mod.glob.keeps I1.bk
  obtain ⟨mb, hblt, bb⟩ := I1.mod.blt
  have hblt2 := hblt.keeps I1.bk
  have hlim := I1.nolimit
  have bare := I1.bare
  obtain ⟨hp, gg, dr, tt, oo⟩ := s1
  have up : ∀ b o, hp.get? b = some o → ((hp.push (kdv_tup [u])).push (HandSPX.excO C hp.objs.size)).get? b = some o := fun b o z => Heap.get?_push_of_some _ (Heap.get?_push_of_some _ z)
  have hget : ((hp.push (kdv_tup [u])).push (HandSPX.excO C hp.objs.size)).get? (hp.objs.size + 1) = some (HandSPX.excO C hp.objs.size) := by heap_get
  refine wpAny_call (HandSPX.call_own XX.FB hT hC (looks_findIn KI XX.ini) (fun self => exc_bind (KI _ _ lk) hfn self) (by rw [sizeLine_eq]; simp) ?_)
  rw [a.P]
  refine xinit1 XX Y hd sa nf (fun b o z => up b o (KI b o z)) ?_ (hr.here.make C [u] []).room.depth (hlim.keeps up) hget (hglob.keeps up) ms (hblt2.keeps up) bb fun h' t1 dx tk k ldx nex e' n' => ⟨rfl, ?_⟩
  · cases z : g.K.lookup (hp.objs.size + 1) with
    | none => rfl
    | some o => exact absurd (Heap.lt_size (KI _ _ z)) (by show ¬ hp.objs.size + 1 < hp.objs.size; omega)
  have old : ∀ {b : Addr} {o : Obj}, hp.get? b = some o → b ≠ hp.objs.size + 1 := fun {b o} z y => by
    have := Heap.lt_size z
    rw [y] at this
    exact absurd this (by show ¬ hp.objs.size + 1 < hp.objs.size; omega)
  have k' : ∀ b o, hp.get? b = some o → h'.get? b = some o := fun b o z => k b o (old z) (up b o z)
  have ld2 : hp.objs.size + 2 ≤ dx := by
    have e2 : ((hp.push (kdv_tup ([] ++ [u]))).push (HandSPX.excO C hp.objs.size)).objs.size = hp.objs.size + 2 := by simp [Heap.size_push]
    rw [e2] at ldx
    exact ldx
  have n2 : hp.get? dx = none := by
    cases z : hp.get? dx with
    | none => rfl
    | some o => exact absurd (Heap.lt_size z) (by show ¬ dx < hp.objs.size; omega)
  have f1 : H1 (hp.objs.size + 1) = none := I1.hok.fresh (Nat.le_succ _)
  have f2 : H1 dx = none := I1.hok.fresh (by show hp.objs.size ≤ dx; omega)
  obtain ⟨G, g1, g2⟩ := restrict h' fun b => decide (b ≠ hp.objs.size + 1)
  have gk : ∀ b, b ≠ hp.objs.size + 1 → G.get? b = h'.get? b := fun b hb => g1 b (decide_eq_true hb)
  have ge : G.get? (hp.objs.size + 1) = none := g2 _ (by simp)
  have J := Inv.laidN (t' := tk) (a := dx) (o := HO.xd [(f, v)]) (h' := G) I1 (fun b o z => by rw [gk b (old z)]; exact k' b o z) n2 f2 ⟨_, n'.at fun o y => (gk dx nex).trans y, relO_put (fs := []) ru fun _ => True.intro⟩
  refine ⟨hp.objs.size + 1, _, _, _, _, .ref C, some dx, rfl, J, fun b o z => ?_, ge, e', ⟨rfl, rfl⟩, rfl, rfl, ?_, rfl, bare, R, q dx f2⟩
  · by_cases hb : b = hp.objs.size + 1
    · rw [hb] at z
      have z' : G.get? (hp.objs.size + 1) = some o := z
      rw [ge] at z'; cases z'
    · exact (gk b hb).symm.trans z
  · rw [upd_ne (Ne.symm nex)]; exact f1
end
end RS
namespace RS
open PySem PySem.Spec L2 PyProof.Rows
/-- a pattern that binds nothing, over a text -/
structure PPt (X : Cx) (p : Pattern) (m : Str → Bool) : Prop where
  run : ∀ (pins : List (Addr × Obj)) (s : Shared) (σ : L2.St) (H : Hp) (x : Str) (tk : Tok) (Q : Option (List (Str × Value)) → Shared → Prop), Inv X pins σ H s → (∀ s', Inv X pins σ H s' → Q (if m x = true then some [] else none) s') → wpAny (model X.prog X.w) X.A (matchPattern p X.env (.str x tk)) Q X.xe s
section
variable {X : Cx} {e : Expr} {te : TE} {pos : Pos} {p : Pattern} {ps : List Pattern} {m : Str → Bool} {body : List Stmt} {cs : List MatchCase} {tb : TS} {t : V → TS}
/-- some patterns that bind nothing -/
structure PPs (X : Cx) (ps : List Pattern) (m : Str → Bool) : Prop where
  run : ∀ (pins : List (Addr × Obj)) (s : Shared) (σ : L2.St) (H : Hp) (x : Str) (tk : Tok) (Q : Option (List (Str × Value)) → Shared → Prop), Inv X pins σ H s → (∀ s', Inv X pins σ H s' → Q (if m x = true then some [] else none) s') → wpAny (model X.prog X.w) X.A (matchFirst ps X.env (.str x tk)) Q X.xe s
theorem pps_nil : PPs X [] (fun _ => false) := ⟨fun pins s σ H x tk Q I h => wpAny_matchFirst_nil (h s I)⟩
theorem pps_cons {m' : Str → Bool} (hp : PPt X p m) (hs : PPs X ps m') : PPs X (p :: ps) (fun x => m x || m' x) := by
  refine ⟨fun pins s σ H x tk Q I h => ?_⟩
  refine wpAny_matchFirst_cons (hp.run pins s σ H x tk _ I fun s1 I1 => ?_)
  cases hm : m x with
  | true =>
    have := h s1 I1
    simp only [hm, Bool.true_or, if_true] at this
    exact this
  | false =>
    refine hs.run pins s1 σ H x tk Q I1 fun s2 I2 => ?_
    have := h s2 I2
    simpa only [hm, Bool.false_or] using this
end
end RS
namespace RS
open PySem PySem.Spec L2 PyProof.Rows
end RS
namespace RS
open PySem PySem.Spec L2 PyProof.Rows
/-- an object that came to be behind the entry is known from now on -/
theorem track {X : Cx} {pins : List (Addr × Obj)} {σ : L2.St} {H : Hp} {s : Shared} {a : Addr} {u : HO} (I : Inv X pins σ H s) (na : H a = none) (n0 : X.s_0.heap.get? a = none) (nL : a ≠ X.env.locals)
    (nc : ∀ x c, X.env.cells.lookup x = some c → c ≠ a) (np : ∀ p ∈ X.pn ++ pins, p.1 ≠ a) (ok : ObjOk X.prog X.w (upd H a u) s.heap a u) : Inv X pins σ (upd H a u) s where
  ok := I.ok
  os := I.os
  bare := I.bare
  base := {
    keep := I.base.keep
    slot := I.base.slot
    free := fun b o q n hx => by rw [upd_ne (fun z => by rw [z, n0] at q; cases q)]; exact I.base.free b o q n hx
    there := I.base.there
    tups := fun b xs q => by
      have z := I.base.tups b xs q
      rw [upd_ne (ne_of_none z na)]; exact z
    frzs := fun b o v q => by
      have z := I.base.frzs b o v q
      rw [upd_ne (ne_of_none z na)]; exact z
    tbls := fun b ps q => by
      obtain ⟨m, z⟩ := I.base.tbls b ps q
      exact ⟨m, by rw [upd_ne (ne_of_none z na)]; exact z⟩ }
  loc := I.loc
  cell := I.cell
  free := by rw [upd_ne (Ne.symm nL)]; exact I.free
  freeC := fun x c q => by rw [upd_ne (nc x c q)]; exact I.freeC x c q
  pin := fun p hp => by
    obtain ⟨e1, e2, e3⟩ := I.pin p hp
    exact ⟨e1, by rw [upd_ne (np p hp)]; exact e2, e3⟩
  hok := fun b o q => by
    by_cases hb : b = a
    · subst hb
      rw [upd_same] at q
      cases q
      exact ok
    · rw [upd_ne hb] at q
      exact (I.hok b o q).stay (fun _ _ _ z => z) (fun y hy => by rw [upd_ne (ne_of_none hy na)]; exact hy) (fun y xs hy => by rw [upd_ne (ne_of_none hy na)]; exact hy)
  len := I.len
theorem sky_none {B : Heap} {l : List Env} {a L : Addr} {Z : Obj → Prop} {h : Heap} (x : Sky B l a Z L h) : B.get? a = none := by
  rcases x with x | x | x
  · exact x.2.1
  · exact x.2.1
  · exact x.2.1
end RS
namespace RS
open PySem PySem.Spec L2 PyProof.Rows LamX
end RS
namespace RS
open PySem PySem.Spec L2 PySem.W
/-- the fields of an exception, however they are known -/
def XdAt (H : Hp) (dd : Addr) (fs : List (Str × V)) : Prop := H dd = some (.xd fs) ∨ H dd = some (exd dd fs)
theorem XdAt.same {H H' : Hp} {dd : Addr} {fs : List (Str × V)} (h : XdAt H dd fs) (s : Same H H') : XdAt H' dd fs := h.imp (s _ _) (s _ _)
theorem XdAt.at {P : Program} {w : World} {H : Hp} {h : Heap} {dd : Addr} {fs : List (Str × V)} (hok : HOk P w H h) (e : XdAt H dd fs) : ∃ mA, h.Ns1 dd mA ∧ ∀ f, RelO (fs.lookup f) (mA f) := by
  rcases e with e | e
  · have x : ObjOk P w H h dd (.xd fs) := hok dd _ e
    exact x
  · exact exd_at hok e
section
variable {g : Wd} {X : Cx} {C : Addr} {x f : Str} {e o : Expr} {t : TA} {ta : TE} {p pos : Pos}
def tXfa (K : Frag) (f : Str) (ta : TE) : TE := fun σ H Q => ta σ H fun x H1 => ∃ a C dd fs v, x = .ref a ∧ H1 a = some (exv a C (some dd)) ∧ XdAt H1 dd fs ∧ fs.lookup f = some v ∧ XfC K C ∧ findIn K (.ref C) f = some none ∧ Q v H1
theorem pe_xfa (he : PE X e ta) (hb : attributeBase e f X.env (eval e X.env) = eval e X.env := by rfl) (at_ : At g X := by exact ⟨rfl, rfl, rfl, rfl, rfl⟩) : PE X (.Attribute e f pos) (tXfa g.K f ta) := by
  refine ⟨fun pins s σ H Q I h => ?_⟩
  refine attr_of hb (thn (he.run pins s σ H _ I h) fun u s1 hh => ?_)
  obtain ⟨x, H1, I1, rx, a, C, dd, fs, v, rfl, ea, ed, l, T, hno, q⟩ := hh
  obtain rfl : u = Value.ref a := rx
  obtain ⟨oe, vs, hoe, c1, c2, c3⟩ := exv_at I1.hok ea
  obtain ⟨mA, hns, hr⟩ := ed.at I1.hok
  obtain ⟨od, ho, hl⟩ := lookIn_ns hns
  obtain ⟨u, hu, ru⟩ := RelO.some_of (v := v) (o := mA f) (by rw [← l]; exact hr f)
  have J : InstAt s1.heap a oe C (some od) := ⟨hoe, c1, by unfold notCls; rw [c3] <;> rfl, by rw [c2]; exact ho⟩
  have KI := I1.kIn
  rw [at_.K] at KI
  exact HandSPX.exc_get KI J T.ga T.gg T.exC (findObj_own T.hdC hno rfl (by rw [hl, hu])) (handed_of ru) ⟨v, H1, I1.tok _, ru, q⟩
/-- raise C() -/
def tPm0 (C : Addr) : L2.St → Hp → XK → Prop := fun σ H Q => Q (.ref C) none H
end
end RS
namespace RS
open PySem PySem.Spec PyProof.Rows L2 LamX
/-- nothing but the script and the tables is tracked -/
def OnlyT (cs : List (Addr × Addr)) (H : Hp) : Prop := ∀ b, H b = none ∨ b ∈ cs.map (·.2) ∨ ∃ o xs, H b = some (.frz o (.lst xs))
theorem lawT {P : Program} {w : World} {K : PySem.W.Frag} {mg mb : Str → Option Value} {k : Nat} {fa a : Addr} {cs : List (Addr × Addr)} {fd : FuncData} {x : Str} {sp : Sp} {s₁ : Shared} {vs : List Value} {ns : List Int}
    (KX : K.In s₁.heap) (gl : s₁.heap.Ns mainGlobals mg) (bl : s₁.heap.Ns builtinsNs mb) (bb : ∀ x : Str, x ≠ "__name__" → mb x = bootBuiltins x) (lim : s₁.heap.NoLimit) (ge : s₁.gens = #[])
    (tab : ∀ p ∈ cs, s₁.heap.get? p.2 = some { cls := .none, data := .fields #[] }) (tabN : ∀ p ∈ cs, K.lookup p.2 = none) (cod : ∀ p ∈ cs, PySem.W.CodeHd s₁.heap p.1 p.2)
    (bmd : ∃ (bm : Addr) (ob : Obj), mg "__builtins__" = some (.ref bm) ∧ bm ≠ builtinsNs ∧ s₁.heap.get? bm = some ob ∧ ob.cls = .type "module" ∧ ob.dict = some builtinsNs ∧ ob.data = .plain)
    (ha : s₁.heap.get? a = some { cls := .type "list", data := .seq vs.toArray }) (hi : IntsAre vs ns) (hl : ns.length ≤ sizeLine) (hr : Room k callerA) (sm : SmB s₁.heap)
    (F : ∀ base : Heap, K.In base → base.Ns mainGlobals mg → SmB base → (∀ p ∈ cs, TabB base mg p.1 p.2) → FnG ⟨P, w, K, mg, base⟩ k fa fd [x] sp) (bd : ∀ (s : Shared) (u : Value), BindsTo s fd ⟨[u], []⟩ [(x, u)])
    (hsp : ∀ H : Hp, (∀ p ∈ cs, H p.2 = some (.tbl #[])) → SqL K H a (ns.map V.int) → sp [.ref a] H (fun v _ => v = .bl true) fun _ _ _ => False) :
    codeAny (model P w) callerA (.call (.ref fa) ⟨[.ref a], []⟩) (fun r s' => r = .ok (.ret (.bool true)) ∧ OldK s₁.heap s'.heap ∧ s'.os = s₁.os ∧ AllBare s'.gens) s₁ := by
  have rv := vals_ints hi
  have tabM : ∀ b, b ∈ cs.map (·.2) → s₁.heap.get? b = some { cls := .none, data := .fields #[] } := fun b hb => by
    obtain ⟨p, hp, rfl⟩ := List.mem_map.mp hb
    exact tab p hp
  have mem : ∀ p ∈ cs, p.2 ∈ cs.map (·.2) := fun p hp => List.mem_map.mpr ⟨p, hp, rfl⟩
  have ncs : a ∉ cs.map (·.2) := fun z => by
    have q := tabM a z
    rw [ha] at q
    have z' : Data.seq vs.toArray _ = Data.fields #[] := congrArg Obj.data (Option.some.inj q)
    cases z'
  have go : ∀ H : Hp, (∀ p ∈ cs, H p.2 = some (.tbl #[])) → OnlyT cs H → SqL K H a (ns.map V.int) → HOk P w H s₁.heap → (∀ b, H b ≠ none → b = a ∨ b ∈ cs.map (·.2)) → (H a ≠ none → K.lookup a = none) →
      codeAny (model P w) callerA (.call (.ref fa) ⟨[.ref a], []⟩) (fun r s' => r = .ok (.ret (.bool true)) ∧ OldK s₁.heap s'.heap ∧ s'.os = s₁.os ∧ AllBare s'.gens) s₁ := by
    intro H hH hO hS hok hA hK
    have free : ∀ {b : Addr} {o : Obj}, s₁.heap.get? b = some o → (∀ v n, o.data ≠ .seq v n) → o.data ≠ .fields #[] → H b = none := by
      intro b o e n1 n2
      cases q : H b with
      | none => rfl
      | some u =>
        rcases hA b (by rw [q]; simp) with rfl | z
        · rw [ha] at e
          cases e
          exact absurd rfl (n1 _ _)
        · rw [tabM b z] at e
          cases e
          exact absurd rfl n2
    have freeD : ∀ {b : Addr} {o : Obj} {es : Array DictEntry} {n : Nat}, s₁.heap.get? b = some o → o.data = .dict es n → H b = none := fun e d =>
      free e (fun v m z => by rw [d] at z; cases z) (fun z => by rw [d] at z; cases z)
    have ns1 : ∀ {b : Addr} {m : Str → Option Value}, s₁.heap.Ns b m → (hidT s₁.heap H).Ns b m := by
      rintro b m ⟨o, es, ep, e, d, r⟩
      exact ⟨o, es, ep, hidT_get e (freeD e d), d, r⟩
    have K1 : K.In (hidT s₁.heap H) := by
      intro b o e
      refine hidT_get (KX b o e) ?_
      cases q : H b with
      | none => rfl
      | some u =>
        rcases hA b (by rw [q]; simp) with rfl | z
        · rw [hK (by rw [q]; simp)] at e
          cases e
        · obtain ⟨p, hp, rfl⟩ := List.mem_map.mp z
          rw [tabN p hp] at e
          cases e
    have md : Mod K mg (hidT s₁.heap H) := by
      obtain ⟨mc, l1, l2⟩ := lim
      exact ⟨K1, ns1 gl, ⟨mb, ns1 bl, bb⟩, mc, ns1 l1, l2⟩
    have TB : ∀ p ∈ cs, TabB (hidT s₁.heap H) mg p.1 p.2 := by
      intro p hp
      refine ⟨?_, ?_, fun z => ?_⟩
      · obtain ⟨o, us, file, tf, flags, tg, inF, text, tt, e1, r1, r2, r3, rest⟩ := cod p hp
        refine ⟨o, us, file, tf, flags, tg, inF, text, tt, hidT_get e1 (free e1 (fun v n z => by rw [r2] at z; cases z) fun z => ?_), r1, r2, r3, rest⟩
        rw [r2] at z
        cases z
        simp at r3
      · obtain ⟨bm, ob, b1, b2, b3, b4, b5, b6⟩ := bmd
        refine ⟨bm, ob, b1, b2, fun z => ?_, fun z => ?_, hidT_get b3 (free b3 (fun v n y => by rw [b6] at y; cases y) fun y => by rw [b6] at y; cases y), b4, b5, b6⟩
        · obtain ⟨o, es, ep, e, d, _⟩ := gl
          rw [z, e] at b3
          cases b3
          rw [d] at b6; cases b6
        · rw [z, tab p hp] at b3
          cases b3
          cases b6
      · obtain ⟨o, es, ep, e, d, _⟩ := gl
        rw [z, tab p hp] at e
        cases e
        cases d
    have e0 : Env0 P w K mg (hidT s₁.heap H) callerA [] s₁ H :=
      { frames := rfl, mod := md, bs := fun b o e => of_hidT e, bsz := Nat.le_of_eq (hidT_size _ _), funs := trivial, frf := fun b hb => (nomatch hb), hok := hok, bare := .of_eq ge }
    have sm1 : SmB (hidT s₁.heap H) := by
      obtain ⟨o, es, n, e, d⟩ := sm
      exact ⟨o, es, n, hidT_get e (freeD e d), d⟩
    refine codeAny_mono ((F _ K1 (ns1 gl) sm1 TB).run callerA [] s₁ H ⟨[.ref a], []⟩ [.ref a] [.ref a] _ _ hr rfl e0 (bd s₁ (.ref a)) (.cons rfl .nil) (hsp H hH hS)) ?_
    rintro r s' h
    cases r with
    | error e =>
      obtain ⟨_, _, _, _, _, _, _, _, _, _, _, _, z⟩ := h
      exact z.elim
    | ok fl => cases fl with
      | ret u =>
        obtain ⟨v, H', os, bare, un, hok', r', q⟩ := h
        obtain rfl : v = .bl true := q
        obtain rfl : u = Value.bool true := r'
        have kept : ∀ b o, b ∉ cs.map (·.2) → s₁.heap.get? b = some o → s'.heap.get? b = some o := fun b o nb e => by
          rcases hO b with z | z | ⟨ob, xs, z⟩
          · exact un.keep b o e z (fun y => (nomatch y)) (fun y => (nomatch y))
          · exact absurd z nb
          · have z2 := un.frzs b ob _ z
            have e1 := (hok b _ z).1
            rw [e] at e1
            cases e1
            exact (hok' b _ z2).1
        have grown : ∀ p ∈ cs, ∃ more : Array Value, s'.heap.get? p.2 = some { cls := .none, data := .fields more } := fun p hp => by
          obtain ⟨more, z⟩ := un.tbls p.2 #[] (hH p hp)
          exact ⟨_, hok' p.2 _ z⟩
        refine ⟨rfl, ⟨fun b o e => ?_, fun b o e => ?_⟩, os, bare⟩
        · by_cases hb : b ∈ cs.map (·.2)
          · obtain ⟨p, hp, rfl⟩ := List.mem_map.mp hb
            obtain ⟨more, hm⟩ := grown p hp
            rw [tab p hp] at e
            cases e
            refine .inr (.inl ⟨((cod p hp).tab (tab p hp)).isCodeTable, rfl, #[], more, rfl, ?_⟩)
            rw [Array.empty_append]; exact hm
          · exact .inl (kept b o hb e)
        · by_cases hb : b ∈ cs.map (·.2)
          · obtain ⟨p, hp, rfl⟩ := List.mem_map.mp hb
            obtain ⟨more, hm⟩ := grown p hp
            exact ⟨_, hm⟩
          · exact ⟨o, kept b o hb e⟩
      | _ => exact h.elim
  let Ht : Hp := fun b => if b ∈ cs.map (·.2) then some (.tbl #[]) else none
  have ht1 : ∀ b, b ∈ cs.map (·.2) → Ht b = some (.tbl #[]) := fun b hb => if_pos hb
  have ht0 : ∀ b, b ∉ cs.map (·.2) → Ht b = none := fun b hb => if_neg hb
  have htok : HOk P w Ht s₁.heap := fun b u z => by
    by_cases hb : b ∈ cs.map (·.2)
    · rw [ht1 b hb] at z
      cases z
      exact tabM b hb
    · rw [ht0 b hb] at z; cases z
  cases hk : K.lookup a with
  | some o =>
    have e := KX a o hk
    rw [ha] at e
    cases e
    refine go Ht (fun p hp => ht1 _ (mem p hp)) (fun b => ?_) (.inr ⟨_, vs.toArray, _, hk, rfl, rfl, rfl, by rw [List.size_toArray, hi.length]; exact hl, by simpa using rv⟩) htok (fun b z => ?_) fun z => absurd (ht0 a ncs) z
    · by_cases hb : b ∈ cs.map (·.2)
      · exact .inr (.inl hb)
      · exact .inl (ht0 b hb)
    · by_cases hb : b ∈ cs.map (·.2)
      · exact .inr hb
      · exact absurd (ht0 b hb) z
  | none =>
    have hta := ht0 a ncs
    refine go (upd Ht a (.frz { cls := .type "list", data := .seq vs.toArray } (.lst (ns.map V.int)))) (fun p hp => ?_) (fun b => ?_) (.inl (.inr ⟨_, upd_same⟩)) (fun b u z => ?_) (fun b z => ?_) fun _ => hk
    · rw [upd_ne (fun y : p.2 = a => ncs (by rw [← y]; exact mem p hp))]; exact ht1 _ (mem p hp)
    · by_cases hb : b = a
      · subst hb; exact .inr (.inr ⟨_, _, upd_same⟩)
      · rw [upd_ne hb]
        by_cases hc : b ∈ cs.map (·.2)
        · exact .inr (.inl hc)
        · exact .inl (ht0 b hc)
    · by_cases hb : b = a
      · subst hb
        rw [upd_same] at z
        cases z
        exact ⟨ha, by rw [List.length_map]; exact hl, vs, _, rv, ha⟩
      · rw [upd_ne hb] at z
        exact (htok b u z).stay (fun _ _ _ q => q) (fun y hy => by rw [upd_ne (ne_of_none hy hta)]; exact hy) (fun y xs hy => by rw [upd_ne (ne_of_none hy hta)]; exact hy)
    · by_cases hb : b = a
      · exact .inl hb
      · rw [upd_ne hb] at z
        by_cases hc : b ∈ cs.map (·.2)
        · exact .inr hc
        · exact absurd (ht0 b hc) z
/-- what the facts of the top give: the law's def with the tables of its makers of lambdas -/
def LawTs (l : PySem.W.OpenLaw) (w : World) (K : PySem.W.Frag) (k n : Nat) (x : Str) (mg : Str → Option Value) (fa : Addr) (h : Heap) : Prop :=
  ∃ (fd : FuncData) (cs : List (Addr × Addr)) (sp : Sp), (∀ p ∈ cs, h.get? p.2 = some { cls := .none, data := .fields #[] }) ∧ (∀ p ∈ cs, K.lookup p.2 = none) ∧ (∀ p ∈ cs, PySem.W.CodeHd h p.1 p.2) ∧ (∀ (s : Shared) (u : Value), BindsTo s fd ⟨[u], []⟩ [(x, u)]) ∧
    (∀ (H : Hp) (a : Addr) (ns : List Int), ns.length ≤ n → (∀ p ∈ cs, H p.2 = some (.tbl #[])) → SqL K H a (ns.map V.int) → sp [.ref a] H (fun v _ => v = .bl true) fun _ _ _ => False) ∧
    ∀ base : Heap, K.In base → base.Ns mainGlobals mg → SmB base → (∀ p ∈ cs, TabB base mg p.1 p.2) → FnG ⟨l.prog, w, K, mg, base⟩ k fa fd [x] sp
/-- the tables of the defs, by their names -/
def TabF (q : Program) (K : PySem.W.Frag) (h : Heap) : Prop := ∀ (x : Str) (d : DefRec) (c P : Addr), (recsOf q).find? (fun e => e.name == x) = some d → PySem.W.tabIn K x = some (c, P) → PySem.W.CodeHd h c P ∧ h.get? P = some { cls := .none, data := .fields #[] }
theorem walkT {l : PySem.W.OpenLaw} {n k : Nat} {q : Program} {loose : List Str} {XP : (Str → Option Value) → Heap → Prop} {YP : World → Heap → Prop} {d : DefRec} {K : Params → PySem.W.Frag} {x : Str}
    (hn : l.most = some n) (hn2 : n ≤ sizeLine) (hdf : d.params.defaults = []) (hr : Room k callerA)
    (hY : ∀ (w : World) (h : Heap), YP w h → (K w.params).In h) (hY2 : ∀ (w : World) (h : Heap), YP w h → SmB h)
    (F : ∀ (w : World) (mg : Str → Option Value) (fa : Addr) (h : Heap), YP w h → (K w.params).In h → h.Ns mainGlobals mg → mg d.name = some (.ref fa) → TabF q (K w.params) h → LawTs l w (K w.params) k n x mg fa h) :
    PySem.W.WalkO q loose XP YP l.row.toRowW d [] (fun f vs => PySem.call f vs) := by
  refine Att.attach_callB hn hdf fun w s₀ s₁ mg mb fa o pm cd doc a vs ns G Y ho hd hcd hmg hobj hints hlen hbits hg => ?_
  obtain ⟨fd, cs, sp, t1, t2, t3, hb, hsp, hF⟩ := F w mg fa _ Y (hY w _ Y) G.T.g hmg fun x d c P h1 h2 => PySem.W.tab_of G.T (hY w _ Y) h1 h2
  exact lawT (hY w _ Y) G.T.g G.T.b G.T.builtins G.T.nolimit hg t1 t2 t3 G.T.bmain hobj hints (Nat.le_trans hlen hn2) hr (hY2 w _ Y) hF hb fun H hH hS => hsp H a ns hlen hH hS
end RS
namespace RS
open PySem PySem.Spec L2 PyProof.Rows ClX
section
variable {g : Wd} {X : Cx} {k : Nat} {C : Addr} {ps : List Str} {sp : Sp} {W : WX} {ds : List V} {p pos apos : Pos} {a b o i : Expr} {ta tb to ti : TE}
def tIxOwn (C : Addr) (sp : Sp) (ds : List V) (W : WX) (to ti : TE) : TE := fun σ H Q => to σ H fun x H1 => ti σ H1 fun y H2 => ∃ q dx fs, x = .ref q ∧ H2 q = some (.ins C dx fs) ∧ sp ([.ref q, y] ++ ds) H2 Q (fun c d H' => W c d σ H')
/-- the method that the class at C has under the name m is a def -/
def FnAtC (K : PySem.W.Frag) (C : Addr) (m : Str) : Prop := ∀ f, PySem.W.findIn K (.ref C) m = some (some (.ref f)) → PySem.W.fnIn K f = true
def tInOwn (C : Addr) (sp : Sp) (ds : List V) (W : WX) (n : Bool) (ta tb : TE) : TE := fun σ H Q => ta σ H fun y H1 => tb σ H1 fun x H2 => ∃ q dx fs, x = .ref q ∧ H2 q = some (.ins C dx fs) ∧
  sp ([.ref q, y] ++ ds) H2 (fun v H' => ∃ c, v = .bl c ∧ Q (.bl (n != c)) H') (fun c d H' => W c d σ H')
def tPropG (C : Addr) (sp : Sp) (W : WX) (ta : TE) : TE := fun σ H Q => ta σ H fun x H1 => ∃ q dx fs, x = .ref q ∧ H1 q = some (.ins C dx fs) ∧ sp [.ref q] H1 Q (fun c d H' => W c d σ H')
def tMethK (C : Addr) (m : Str) (n : Nat) (sp : Sp) (pm : List Nat) (dvs : List V) (W : WX) (ta : TE) (t : TA) : TE := fun σ H Q => ta σ H fun x H1 => ∃ q dx fs, x = .ref q ∧ H1 q = some (.ins C dx fs) ∧ fs.lookup m = none ∧
  t σ H1 fun zs H2 => zs.length = n ∧ sp (.ref q :: (pm.map fun i => zs.getD i .non) ++ dvs) H2 Q (fun c d H' => W c d σ H')
end
end RS
namespace RS
open PySem PySem.Spec L2 PyProof.Rows GenW
end RS
namespace RS
open PySem PySem.Spec L2 PyProof.Rows LamX
/-- a def of the text whose code object stands at c -/
structure DfC (K : PySem.W.Frag) (x qual : Str) (st : Stmt) (f : Addr) (fd : FuncData) (c : Addr) : Prop where
  ex : ∃ (oc : Value) (od : Option Addr) (kV doc pm : Value) (an : Option Addr) (ct : Value) (osl : Array (Option Value)),
    fd = PySem.W.fnOf x qual (defArgs st) (defBody st) (defScope st) .none kV doc pm an (.ref c) ct ∧ K.lookup f = some ⟨oc, od, .func fd, osl⟩ ∧ PySem.W.codeIn K (.ref c) qual = true
  kp : PySem.W.keepIn K (.ref f) = true
theorem DfC.ok {g : Wd} {x qual : Str} {st : Stmt} {f : Addr} {fd : FuncData} {c : Addr} {N ps : List Str} {k : Nat} {sp : Sp} (F : DfC g.K x qual st f fd c) (S : FnScope N ps (defScope st))
    (len : ∀ vs H Q E, sp vs H Q E → vs.length = ps.length)
    (hbody : ∀ (A : Around) (outer : List Env) (s : Shared) (H : Hp) (vs : List V) (Q : VK) (E : XK), Rm k (cx g N qual st f (.ref c) A outer s H E) → sp vs H Q E →
      ∃ t, PSs (cx g N qual st f (.ref c) A outer s H E) (defBody st) t ∧ t { nx := fun _ H' => Q .non H', rt := Q } (start N vs) H) : FnG g (k + 1) f fd ps sp := by
  obtain ⟨oc, od, kV, doc, pm, an, ct, osl, rfl, lk, hcd⟩ := F.ex
  refine ⟨len, fun A outer s H args us vs Q E hr hg e0 hb rv hsp => ?_⟩
  exact run_ofS (CX := L2.CX g.P g.w) lk hcd S hr e0 hb rv (len _ _ _ _ hsp) fun hr' => hbody A outer s H vs Q E ⟨hr', hg⟩ hsp
/-- but for the places fp and the tables all stays -/
def FrT (fp : List Addr) (H H' : Hp) : Prop := ∀ b o, b ∉ fp → (∀ ps, o ≠ .tbl ps) → H b = some o → H' b = some o
theorem FrT.refl {fp : List Addr} (H : Hp) : FrT fp H H := fun _ _ _ _ h => h
theorem FrT.trans {fp : List Addr} {H H1 H2 : Hp} (a : FrT fp H H1) (b : FrT fp H1 H2) : FrT fp H H2 := fun c o n t h => b c o n t (a c o n t h)
theorem FrT.of {fp : List Addr} {H H' : Hp} (s : Same H H') : FrT fp H H' := fun c o _ _ h => s c o h
theorem FrT.sub {fp fq : List Addr} {H H' : Hp} (a : FrT fp H H') (h : ∀ c ∈ fp, c ∈ fq ∨ H c = none) : FrT fq H H' := fun c o n t e => a c o (fun z => (h c z).elim n (fun y => by rw [y] at e; cases e)) t e
/-- but for the places fp all stays -/
def Fr1 (fp : List Addr) (H H' : Hp) : Prop := ∀ b o, b ∉ fp → H b = some o → H' b = some o
theorem Fr1.refl {fp : List Addr} (H : Hp) : Fr1 fp H H := fun _ _ _ h => h
theorem Fr1.trans {fp : List Addr} {H H1 H2 : Hp} (a : Fr1 fp H H1) (b : Fr1 fp H1 H2) : Fr1 fp H H2 := fun c o n h => b c o n (a c o n h)
theorem Fr1.of {fp : List Addr} {H H' : Hp} (s : Same H H') : Fr1 fp H H' := fun c o _ h => s c o h
theorem Fr1.sub {fp fq : List Addr} {H H' : Hp} (a : Fr1 fp H H') (h : ∀ c ∈ fp, c ∈ fq ∨ H c = none) : Fr1 fq H H' := fun c o n e => a c o (fun z => (h c z).elim n (fun y => by rw [y] at e; cases e)) e
theorem Fr1.upd {fp : List Addr} {H : Hp} {a : Addr} {o : HO} (h : a ∈ fp) : Fr1 fp H (L2.upd H a o) := fun c u n e => by rw [upd_ne (fun z : c = a => n (by rw [z]; exact h))]; exact e
/-- the tables stand where only other things change -/
theorem Tabs.fr {T : List (Addr × Str)} {fp : List Addr} {H H' : Hp} (t : Tabs T H) (n : ∀ c ∈ fp, ∀ o, H c = some o → (∀ ps, o ≠ .tbl ps) ∧ ∀ φ, o ≠ .ext φ) (f : Fr1 fp H H') : Tabs T H' := fun p hp => by
  obtain ⟨ps, h1, h2, h3⟩ := t p hp
  have k : ∀ c o, H c = some o → ((∃ ps, o = .tbl ps) ∨ ∃ φ, o = .ext φ) → H' c = some o := fun c o e z => f c o (fun m => by
    have := n c m o e
    rcases z with ⟨ps, z⟩ | ⟨φ, z⟩
    · exact this.1 ps z
    · exact this.2 φ z) e
  refine ⟨ps, k _ _ h1 (.inl ⟨_, rfl⟩), h2, fun pos cv hc => ?_⟩
  obtain ⟨c, e1, e2⟩ := h3 pos cv hc
  exact ⟨c, e1, k _ _ e2 (.inr ⟨_, rfl⟩)⟩
theorem Tabs.same {T : List (Addr × Str)} {H H' : Hp} (t : Tabs T H) (s : Same H H') : Tabs T H' := t.ext s
end RS
namespace RS
open PySem PySem.Spec L2 PyProof.Rows
section
variable {g : Wd} {X : Cx} {K : PySem.W.Frag} {C : Addr} {e o i f value : Expr} {ta te tv td ty tx : TE} {p pos apos cpos tpos : Pos} {k : Nat}
def tListGen (C : Addr) (m : Str) (sp : SpG) (ta : TE) : TE := fun σ H Q => ta σ H fun x H1 => ∃ a dx fs, x = .ref a ∧ H1 a = some (.ins C dx fs) ∧ fs.lookup m = none ∧ sp [.ref a] H1 (fun out H2 => ∀ p, H2 p = none → Q (.ref p) (upd H2 p (.lst out))) (fun _ _ _ => False)
end
end RS
namespace RS
open PySem PySem.Spec L2 PyProof.Rows
section
variable {X : Cx} {k : Nat}
/-- d != {} -/
def rNeD0 : R2 := fun x y H Q => ∃ a b ks, x = .ref a ∧ y = .ref b ∧ H a = some (.dK ks) ∧ H b = some (.dK []) ∧ Q (.bl (!ks.isEmpty)) H
theorem op_neD0 (hr : Rm k X) : OpR X (compareOp .NotEq) rNeD0 := by
  intro pins s σ H x y v u Q I rx ry h
  obtain ⟨a, b, ks, rfl, rfl, ea, eb, q⟩ := h
  obtain rfl : v = Value.ref a := rx
  obtain rfl : u = Value.ref b := ry
  obtain ⟨_, ya, va, ra, da⟩ := (show ObjOk X.prog X.w H s.heap a (.dK ks) from I.hok a _ ea)
  obtain ⟨_, yb, vb, rb, db⟩ := (show ObjOk X.prog X.w H s.heap b (.dK []) from I.hok b _ eb)
  have l1 := ra.length
  have l2 := rb.length
  have hu : X.A.units < cLine := by have := hr.room.un; omega
  have vb0 : vb = [] := List.eq_nil_of_length_eq_zero (by simpa using l2.symm)
  subst vb0
  refine PySem.W.keq_ne (knd := mixKind X.prog X.w) (r := true) ya yb da db hu (fun e => ?_) (fin_bl I q ?_)
  · have va0 : va = [] := List.eq_nil_of_length_eq_zero (by simpa using e)
    subst va0
    exact PySem.W.KeqHits.nil
  · have e : (va.length == ([] : List (Key × Value)).length) = ks.isEmpty := by
      rw [← l1]; cases ks <;> simp
    rw [e, Bool.and_true]
/-- int(x): of an int, of a truth value, of a text -/
def rIntA : List V → Hp → VK → Prop := fun xs H Q => ((∃ i, xs = [.int i] ∧ Q (.int i) H) ∨ ∃ k, xs = [.bl k] ∧ Q (.int (if k then 1 else 0)) H) ∨ ∃ a n, xs = [.str a] ∧ PySem.intText? a = some n ∧ a.length ≤ 640 ∧ Q (.int n) H
theorem c_intA : CallR X (.type "int") rIntA := fun pins s σ H xs us Q I r h => h.elim (call_int1 pins s σ H xs us Q I r) (call_int_str pins s σ H xs us Q I r)
theorem intA_i {i : Int} {H : Hp} {Q : VK} : rIntA [.int i] H Q = Q (.int i) H := by
  refine propext ⟨fun h => ?_, fun q => .inl (.inl ⟨i, rfl, q⟩)⟩
  rcases h with (⟨j, e, q⟩ | ⟨k, e, q⟩) | ⟨a, n, e, _⟩
  · cases e; exact q
  · cases e
  · cases e
theorem intA_b {b : Bool} {H : Hp} {Q : VK} : rIntA [.bl b] H Q = Q (.int (if b then 1 else 0)) H := by
  refine propext ⟨fun h => ?_, fun q => .inl (.inr ⟨b, rfl, q⟩)⟩
  rcases h with (⟨j, e, q⟩ | ⟨k, e, q⟩) | ⟨a, n, e, _⟩
  · cases e
  · cases e; exact q
  · cases e
end
end RS
namespace RS
open PySem PySem.Spec L2 PyProof.Rows
section
variable {g : Wd} {X : Cx} {k : Nat} {C : Addr} {ps : List Str} {sp : Sp} {W : WX} {p pos apos : Pos} {o e : Expr} {es : List Expr} {ta : TE} {tp : TA}
def tMethP (C : Addr) (m : Str) (np n : Nat) (sp : Sp) (pm : List Nat) (dvs : List V) (W : WX) (ta : TE) (tp t : TA) : TE := fun σ H Q => ta σ H fun x H1 => ∃ q dx fs, x = .ref q ∧ H1 q = some (.ins C dx fs) ∧ fs.lookup m = none ∧
  tp σ H1 fun us H2 => t σ H2 fun zs H3 => us.length = np ∧ zs.length = n ∧ sp (.ref q :: us ++ (pm.map fun i => zs.getD i .non) ++ dvs) H3 Q (fun c d H' => W c d σ H')
end
end RS
namespace RS
open PySem PySem.Spec L2 LamX
theorem FnAtC.of {K : PySem.W.Frag} {C f : Addr} {m : Str} (h : PySem.W.findIn K (.ref C) m = some (some (.ref f))) (h2 : PySem.W.fnIn K f = true) : FnAtC K C m := fun f' e => by
  rw [h] at e
  cases e
  exact h2
end RS
namespace RS
open PySem PySem.Spec L2
section
variable {g : Wd} {X : Cx} {k : Nat} {C : Addr} {sp : Sp} {W : WX} {m : Str} {p pos apos : Pos} {o e : Expr} {es : List Expr} {ta : TE} {t : TA}
def tMethS (C : Addr) (m : Str) (sp : Sp) (W : WX) (ta : TE) (t : TA) : TE := fun σ H Q => ta σ H fun x H1 => ∃ a dx fs, x = .ref a ∧ H1 a = some (.ins C dx fs) ∧ fs.lookup m = none ∧
  t σ H1 fun vs H2 => sp (x :: vs) H2 Q (fun c d H' => W c d σ H')
end
end RS
namespace RS
open PySem PySem.Spec L2 PyProof.Rows LamX
/-- one parameter p of its own, else captured names and globals -/
structure LamD (p : Str) (sc scope : Scope) : Prop where
  kind : scope.kind = .function
  co : scope.isCoroutine = false
  gen : scope.isGenerator = false
  par : scope.names.lookup p = some .local
  own : ∀ y ∈ scope.names, (y.2 = .local → y.1 = p) ∧ y.2 ≠ .cell
  free : ∀ y ∈ scope.names, y.2 = .free → sc.names.lookup y.1 = some .cell ∨ sc.names.lookup y.1 = some .free
theorem LamD.has {p : Str} {X : Cx} {scope : Scope} (L : LamD p X.env.scope scope) (ok : X.Ok) : ∀ y ∈ scope.names, y.2 = .free → ∃ c, X.env.cells.lookup y.1 = some c := fun y hy e => by
  rcases L.free y hy e with k | k
  · exact ok.has _ (.inl k)
  · exact ok.has _ (.inr k)
end RS
namespace RS
open PySem PySem.Spec L2 PyProof.Rows ClX
section
variable {g : Wd} {X : Cx} {k : Nat} {f C q : Addr} {sp : Sp} {W : WX} {m : Str} {o e : Expr} {es : List Expr} {pos apos : Pos} {ta : TE} {t : TA} {pl : Sem Bool}
/-- e.m(..), e the class at C -/
def tCMethS (C : Addr) (sp : Sp) (W : WX) (ta : TE) (t : TA) : TE := fun σ H Q => ta σ H fun x H1 => x = .ref C ∧ t σ H1 fun vs H2 => sp (.ref C :: vs) H2 Q (fun c d H' => W c d σ H')
end
end RS
namespace RS
open PySem PySem.Spec L2 PyProof.Rows ClX
end RS
namespace RS
open PySem PySem.Spec L2 PyProof.Rows ClX
end RS
namespace RS
open PySem PySem.Spec L2 PyProof.Rows
end RS
namespace RS
open PySem PySem.Spec L2 PyProof.Rows ClX
end RS
namespace RS
open PySem PySem.Spec L2 PyProof.Rows GenW
open Sem (wp)
/-- it looks the same, but cannot be woken -/
def dullOf : GenState → GenState
  | .suspended _ l c p fs cl => .suspended (fun _ => .unsupported "") l c p fs cl
  | x => x
def isSusp : GenState → Bool
  | .suspended .. => true
  | _ => false
/-- no generator's frame among its frames -/
def ngf : GenState → Prop
  | .suspended _ _ _ _ fs _ => splitAtGen fs = none
  | _ => True
def ngfE : End → Prop
  | .susp _ _ _ _ _ _ fs => splitAtGen fs = none
  | .ret _ => True
theorem ngf_state {e : End} (h : ngfE e) : ngf e.genState := by
  cases e with
  | ret r => trivial
  | susp v g l k c p fs => exact h
theorem dull_seen (x : GenState) : (dullOf x).seen = x.seen := by cases x <;> rfl
theorem dull_bare (x : GenState) : (dullOf x).bare = x.bare := by cases x <;> rfl
theorem split_cons {F : Frame} {fs : List Frame} (h : splitAtGen (F :: fs) = none) : splitAtGen fs = none ∧ ∀ g k l c p, F ≠ .gen g k l c p := by
  cases F with
  | gen g k l c p => cases h
  | ret k h' g l c p kp =>
    refine ⟨?_, fun _ _ _ _ _ z => by cases z⟩
    have h : (splitAtGen fs).map (fun (fs', b, r) => (Frame.ret k h' g l c p kp :: fs', b, r)) = none := h
    cases e : splitAtGen fs with
    | none => rfl
    | some x => rw [e] at h; cases h
theorem split_ret {fs : List Frame} {k h g l c p kp} (e : splitAtGen fs = none) : splitAtGen (.ret k h g l c p kp :: fs) = none := by
  show (splitAtGen fs).map _ = none
  rw [e]; rfl
theorem split_app : ∀ {fs gs : List Frame}, splitAtGen fs = none → splitAtGen gs = none → splitAtGen (fs ++ gs) = none
  | [], _, _, h => h
  | .gen .. :: _, _, h, _ => by cases h
  | .ret .. :: fs, gs, h, h2 => split_ret (split_app (split_cons h).1 h2)
/-- what is stuck ends nowhere -/
theorem no_unsup {M : Model} {wh : String} {Γ : PySem.Ctx} {p : Pos} {t : Sem PySem.Fin} {fs : List Frame} {s s' : Shared} {e : End} (r : Runs M Γ p t fs s e s') : t ≠ .unsupported wh := by
  induction r <;> first | (intro z; cases z; done) | assumption
def mend (Z : Nat → Option GenState) (G : Array GenState) : Array GenState := G.mapIdx fun i x => (Z i).getD x
theorem mend_size (Z : Nat → Option GenState) (G : Array GenState) : (mend Z G).size = G.size := by simp [mend]
theorem mend_get (Z : Nat → Option GenState) (G : Array GenState) (i : Nat) : (mend Z G)[i]? = G[i]?.map fun x => (Z i).getD x := by
  simp [mend, Array.getElem?_mapIdx]
theorem arr_ext {G G' : Array GenState} (h : ∀ i : Nat, G[i]? = G'[i]?) : G = G' := Array.ext_getElem? h
theorem mend_push {Z : Nat → Option GenState} {G : Array GenState} {x : GenState} (h : Z G.size = none) : mend Z (G.push x) = (mend Z G).push x := by
  refine arr_ext fun i => ?_
  rw [mend_get, Array.getElem?_push, Array.getElem?_push, mend_size, mend_get]
  by_cases e : i = G.size
  · rw [if_pos e, if_pos e, e, Option.map_some, h]; rfl
  · rw [if_neg e, if_neg e]
theorem mend_set {Z : Nat → Option GenState} {G : Array GenState} {i : Nat} {x : GenState} (h : Z i = none) : mend Z (G.setIfInBounds i x) = (mend Z G).setIfInBounds i x := by
  refine arr_ext fun j => ?_
  rw [mend_get, Array.getElem?_setIfInBounds, Array.getElem?_setIfInBounds, mend_size, mend_get]
  by_cases e : i = j
  · rw [if_pos e, if_pos e]
    subst e
    by_cases l : i < G.size
    · simp [l, h]
    · simp [l]
  · rw [if_neg e, if_neg e]
/-- the held places are dull, the others hold no generator's frame -/
structure Held (Z : Nat → Option GenState) (G : Array GenState) : Prop where
  at_ : ∀ i z, Z i = some z → isSusp z = true ∧ G[i]? = some (dullOf z)
  free : ∀ (i : Nat) (x : GenState), Z i = none → G[i]? = some x → ngf x
theorem Held.out {Z : Nat → Option GenState} {G : Array GenState} (h : Held Z G) : Z G.size = none := by
  cases e : Z G.size with
  | none => rfl
  | some z => have := (h.at_ _ z e).2; simp at this
theorem Held.push {Z : Nat → Option GenState} {G : Array GenState} (h : Held Z G) {x : GenState} (hx : ngf x) : Held Z (G.push x) := by
  refine ⟨fun i z e => ⟨(h.at_ i z e).1, ?_⟩, fun i y e q => ?_⟩
  · rw [Array.getElem?_push, if_neg (fun w => by rw [w, h.out] at e; cases e)]
    exact (h.at_ i z e).2
  · rw [Array.getElem?_push] at q
    split at q
    · cases q; exact hx
    · exact h.free i y e q
theorem Held.set {Z : Nat → Option GenState} {G : Array GenState} (h : Held Z G) {j : Nat} {x : GenState} (hj : Z j = none) (hx : ngf x) : Held Z (G.setIfInBounds j x) := by
  refine ⟨fun i z e => ⟨(h.at_ i z e).1, ?_⟩, fun i y e q => ?_⟩
  · rw [Array.getElem?_setIfInBounds, if_neg (fun w => by rw [w, e] at hj; cases hj)]
    exact (h.at_ i z e).2
  · rw [Array.getElem?_setIfInBounds] at q
    split at q
    · split at q
      · cases q; exact hx
      · cases q
    · exact h.free i y e q
def mendS (Z : Nat → Option GenState) (s : Shared) : Shared := { s with gens := mend Z s.gens }
theorem mendS_set {Z : Nat → Option GenState} {s : Shared} {i : Nat} {x : GenState} (h : Z i = none) : mendS Z (s.setGen i x) = (mendS Z s).setGen i x := by
  show ({ s with gens := _ } : Shared) = { s with gens := _ }
  congr 1
  exact mend_set h
/-- the place of what is no dull one is free -/
theorem Held.no {Z : Nat → Option GenState} {G : Array GenState} (h : Held Z G) {i : Nat} {x : GenState} (e : G[i]? = some x) (n : isSusp x = false) : Z i = none ∧ (mend Z G)[i]? = some x := by
  have hz : Z i = none := by
    cases q : Z i with
    | none => rfl
    | some z =>
      obtain ⟨h1, h2⟩ := h.at_ i z q
      rw [e] at h2
      cases h2
      cases z <;> simp [isSusp, dullOf] at h1 n
  exact ⟨hz, by rw [mend_get, e, Option.map_some, hz]; rfl⟩
theorem Held.seen {Z : Nat → Option GenState} {G : Array GenState} (h : Held Z G) {i : Nat} {x : GenState} (e : G[i]? = some x) : ∃ x', (mend Z G)[i]? = some x' ∧ x'.seen = x.seen := by
  refine ⟨(Z i).getD x, by rw [mend_get, e]; rfl, ?_⟩
  cases q : Z i with
  | none => rfl
  | some z =>
    have := (h.at_ i z q).2
    rw [e] at this
    cases this
    exact (dull_seen z).symm
theorem mendS_push {Z : Nat → Option GenState} {s : Shared} {x : GenState} (h : Z s.gens.size = none) : mendS Z { s with gens := s.gens.push x } = { mendS Z s with gens := (mendS Z s).gens.push x } := by
  show ({ s with gens := _ } : Shared) = { s with gens := _ }
  congr 1
  exact mend_push h
/-- THE REPLAY -/
theorem replay {M : Model} {Z : Nat → Option GenState} {Γ : PySem.Ctx} {p : Pos} {t : Sem PySem.Fin} {fs : List Frame} {s s' : Shared} {e : End} (r : Runs M Γ p t fs s e s') :
    splitAtGen fs = none → Held Z s.gens → Held Z s'.gens ∧ ngfE e ∧ Runs M Γ p t fs (mendS Z s) e (mendS Z s') := by
  induction r with
  | done => exact fun _ h => ⟨h, trivial, .done⟩
  | raise => exact fun _ h => ⟨h, trivial, .raise⟩
  | again q _ ih => exact fun f h => ⟨(ih f h).1, (ih f h).2.1, .again q (ih f h).2.2⟩
  | rule _ ih => exact fun f h => ⟨(ih f h).1, (ih f h).2.1, .rule (ih f h).2.2⟩
  | «at» _ ih => exact fun f h => ⟨(ih f h).1, (ih f h).2.1, .at (ih f h).2.2⟩
  | load e _ ih => exact fun f h => ⟨(ih f h).1, (ih f h).2.1, .load e (ih f h).2.2⟩
  | update e _ ih => exact fun f h => ⟨(ih f h).1, (ih f h).2.1, .update e (ih f h).2.2⟩
  | loadIfAlive _ ih => exact fun f h => ⟨(ih f h).1, (ih f h).2.1, .loadIfAlive (ih f h).2.2⟩
  | point _ ih => exact fun f h => ⟨(ih f h).1, (ih f h).2.1, .point (ih f h).2.2⟩
  | alloc _ ih => exact fun f h => ⟨(ih f h).1, (ih f h).2.1, .alloc (ih f h).2.2⟩
  | fresh _ ih => exact fun f h => ⟨(ih f h).1, (ih f h).2.1, .fresh (ih f h).2.2⟩
  | ask _ ih => exact fun f h => ⟨(ih f h).1, (ih f h).2.1, .ask (ih f h).2.2⟩
  | choose q _ ih => exact fun f h => ⟨(ih f h).1, (ih f h).2.1, .choose q (ih f h).2.2⟩
  | os _ ih => exact fun f h => ⟨(ih f h).1, (ih f h).2.1, .os (ih f h).2.2⟩
  | handled _ ih => exact fun f h => ⟨(ih f h).1, (ih f h).2.1, .handled (ih f h).2.2⟩
  | stack _ ih => exact fun f h => ⟨(ih f h).1, (ih f h).2.1, .stack (ih f h).2.2⟩
  | thread _ ih => exact fun f h => ⟨(ih f h).1, (ih f h).2.1, .thread (ih f h).2.2⟩
  | genState e1 _ ih =>
    intro f h
    obtain ⟨st', hm, es⟩ := h.seen e1
    refine ⟨(ih f h).1, (ih f h).2.1, .genState hm ?_⟩
    rw [es]
    exact (ih f h).2.2
  | newGen _ ih =>
    intro f h
    obtain ⟨a, b, q⟩ := ih f (h.push trivial)
    refine ⟨a, b, .newGen ?_⟩
    rw [mendS_push h.out] at q
    rw [show (mendS Z _).gens.size = _ from mend_size _ _]
    exact q
  | call _ _ ih1 ih2 =>
    intro f h
    obtain ⟨a1, _, q1⟩ := ih1 rfl h
    obtain ⟨a2, b2, q2⟩ := ih2 f a1
    exact ⟨a2, b2, .call q1 q2⟩
  | callSusp _ ih =>
    intro f h
    obtain ⟨a, b, q⟩ := ih rfl h
    exact ⟨a, split_app b (split_ret rfl), .callSusp q⟩
  | yield => exact fun _ h => ⟨h, rfl, .yield⟩
  | @resumeFresh Γ p g l k s c e₁ s₁ e s' e1 _ hq _ ih1 ih2 =>
    intro f h
    obtain ⟨hz, hm⟩ := h.no e1 rfl
    obtain ⟨a1, b1, q1⟩ := ih1 rfl (h.set hz trivial)
    obtain ⟨a2, b2, q2⟩ := ih2 f (a1.set hz (ngf_state b1))
    rw [mendS_set hz] at q1 q2
    exact ⟨a2, b2, .resumeFresh hm q1 hq q2⟩
  | @resumeSuspended Γ p g rr l k s k₀ l₀ c₀ p₀ fs cl e₁ s₁ e s' e1 r1 hq _ ih1 ih2 =>
    intro f h
    cases hz : Z g with
    | some z =>
      obtain ⟨h1, h2⟩ := h.at_ g z hz
      rw [e1] at h2
      cases z with
      | suspended k' l' c' p' fs' cl' =>
        have h3 := Option.some.inj h2
        injection h3 with h4
        rw [h4] at r1
        exact absurd rfl (no_unsup (wh := "") r1)
      | _ => simp [isSusp] at h1
    | none =>
      have hm : (mend Z s.gens)[g]? = some (.suspended k₀ l₀ c₀ p₀ fs cl) := by rw [mend_get, e1, Option.map_some, hz]; rfl
      obtain ⟨a1, b1, q1⟩ := ih1 (h.free g _ hz e1) (h.set hz trivial)
      obtain ⟨a2, b2, q2⟩ := ih2 f (a1.set hz (ngf_state b1))
      rw [mendS_set hz] at q1 q2
      exact ⟨a2, b2, .resumeSuspended hm q1 hq q2⟩
  | resumeJustStarted e1 hv _ ih =>
    intro f h
    obtain ⟨hz, hm⟩ := h.no e1 rfl
    exact ⟨(ih f h).1, (ih f h).2.1, .resumeJustStarted hm hv (ih f h).2.2⟩
  | resumeThrowFresh e1 _ ih =>
    intro f h
    obtain ⟨hz, hm⟩ := h.no e1 rfl
    obtain ⟨a, b, q⟩ := ih f (h.set hz trivial)
    rw [mendS_set hz] at q
    exact ⟨a, b, .resumeThrowFresh hm q⟩
  | resumeRunning e1 _ ih =>
    intro f h
    obtain ⟨hz, hm⟩ := h.no e1 rfl
    exact ⟨(ih f h).1, (ih f h).2.1, .resumeRunning hm (ih f h).2.2⟩
  | resumeFinished e1 _ ih =>
    intro f h
    obtain ⟨hz, hm⟩ := h.no e1 rfl
    exact ⟨(ih f h).1, (ih f h).2.1, .resumeFinished hm (ih f h).2.2⟩
  | segRet _ _ ih1 ih2 =>
    intro f h
    obtain ⟨a1, _, q1⟩ := ih1 rfl h
    obtain ⟨a2, b2, q2⟩ := ih2 (split_cons f).1 a1
    exact ⟨a2, b2, .segRet q1 q2⟩
  | segGen _ _ _ _ => intro f; cases f
  | segSuspOut f1 _ ih =>
    intro f h
    obtain ⟨a, b, q⟩ := ih rfl h
    exact ⟨a, split_app b f, .segSuspOut f1 q⟩
  | segSuspGen f1 _ _ _ _ _ => intro f; rw [f] at f1; cases f1
theorem wakes_mend {M : Model} {Z : Nat → Option GenState} {Γ : PySem.Ctx} {p : Pos} {g : Nat} {r : Resume} {s s' : Shared} {res : GenResult} (h : Held Z s.gens) (w : Wakes M Γ p g r s res s') :
    Held Z s'.gens ∧ Wakes M Γ p g r (mendS Z s) res (mendS Z s') := by
  cases e : s.gens[g]? with
  | none => unfold Wakes at w; rw [e] at w; exact w.elim
  | some x =>
    unfold Wakes at w ⊢
    rw [e] at w
    cases x with
    | fresh c =>
      obtain ⟨hz, hm⟩ := h.no e rfl
      rw [show (mendS Z s).gens[g]? = _ from hm]
      cases r with
      | throw x =>
        obtain ⟨w1, w2⟩ := w
        subst w2
        exact ⟨h.set hz trivial, w1, mendS_set hz⟩
      | send v =>
        cases v with
        | none =>
          obtain ⟨e1, s1, r1, q1, w1, w2⟩ := w
          subst w2
          obtain ⟨a, b, c1⟩ := replay r1 rfl (h.set hz trivial)
          rw [mendS_set hz] at c1
          exact ⟨a.set hz (ngf_state b), e1, _, c1, q1, w1, mendS_set hz⟩
        | _ => obtain ⟨w1, w2⟩ := w; subst w2; exact ⟨h, w1, rfl⟩
    | suspended k₀ l₀ c₀ p₀ fs cl =>
      obtain ⟨e1, s1, r1, q1, w1, w2⟩ := w
      cases hz : Z g with
      | some z =>
        obtain ⟨h1, h2⟩ := h.at_ g z hz
        rw [e] at h2
        cases z with
        | suspended k' l' c' p' fs' cl' =>
          have h3 := Option.some.inj h2
          injection h3 with h4
          rw [h4] at r1
          exact absurd rfl (no_unsup (wh := "") r1)
        | _ => simp [isSusp] at h1
      | none =>
        have hm : (mend Z s.gens)[g]? = some (.suspended k₀ l₀ c₀ p₀ fs cl) := by rw [mend_get, e, Option.map_some, hz]; rfl
        rw [show (mendS Z s).gens[g]? = _ from hm]
        obtain ⟨a, b, c1⟩ := replay r1 (h.free g _ hz e) (h.set hz trivial)
        rw [mendS_set hz] at c1
        subst w2
        exact ⟨a.set hz (ngf_state b), e1, _, c1, q1, w1, mendS_set hz⟩
    | running =>
      obtain ⟨hz, hm⟩ := h.no e rfl
      rw [show (mendS Z s).gens[g]? = _ from hm]
      obtain ⟨w1, w2⟩ := w
      subst w2
      exact ⟨h, w1, rfl⟩
    | finished =>
      obtain ⟨hz, hm⟩ := h.no e rfl
      rw [show (mendS Z s).gens[g]? = _ from hm]
      obtain ⟨w1, w2⟩ := w
      subst w2
      exact ⟨h, w1, rfl⟩
/-- what holds behind the dull run holds, mended -/
def Mended {α : Type} (Z : Nat → Option GenState) (Q : α → Pos → Shared → Prop) : α → Pos → Shared → Prop := fun a p s' => ∃ s1, Held Z s1.gens ∧ s' = mendS Z s1 ∧ Q a p s1
theorem wp_mend {α : Type} (M : Model) (Γ : PySem.Ctx) (Z : Nat → Option GenState) (t : Sem α) : ∀ (Q : α → Pos → Shared → Prop) (E : Value → Pos → Shared → Prop) (p : Pos) (s : Shared), Held Z s.gens → wp M Γ t Q E p s → wp M Γ t (Mended Z Q) (Mended Z E) p (mendS Z s) := by
  induction t with
  | pure a => intro Q E p s hn h; exact ⟨s, hn, rfl, h⟩
  | raise e => intro Q E p s hn h; exact ⟨s, hn, rfl, h⟩
  | unsupported _ => intro Q E p s _ h; exact h
  | finish _ => intro Q E p s _ h; exact h
  | rule _ k ih => intro Q E p s hn h; exact ih () Q E p s hn h
  | «at» p' k ih => intro Q E p s hn h; exact ih () Q E p' s hn h
  | load a _ k ih => intro Q E p s hn h; obtain ⟨o, ho, h⟩ := h; exact ⟨o, ho, ih o Q E p s hn h⟩
  | update a _ f k ih => intro Q E p s hn h; exact ⟨h.1, ih () Q E p { s with heap := s.heap.update a f } hn h.2⟩
  | loadIfAlive a k ih => intro Q E p s hn h; exact ih _ Q E p s hn h
  | point _ k ih => intro Q E p s hn h; exact ih () Q E p s hn h
  | register _ _ => intro Q E p s _ h; exact h
  | alloc o k ih => intro Q E p s hn h; exact ih _ Q E p { s with heap := s.heap.push o } hn h
  | fresh k ih => intro Q E p s hn h; exact ih _ Q E p { s with toks := s.toks + 1 } hn h
  | ask k ih => intro Q E p s hn h; exact ih _ Q E p s hn h
  | choose src m k ih => intro Q E p s hn h; exact ⟨h.1, ih _ Q E p { s with drawn := s.drawn.bump src } hn h.2⟩
  | os q _ k ih => intro Q E p s hn h; exact ih _ Q E p { s with os := (Os.step s.os q).1 } hn h
  | call c hd _ _ k ih =>
    intro Q E p s hn h
    obtain ⟨r, s', hr, h⟩ := h
    obtain ⟨a, _, q⟩ := replay hr rfl hn
    exact ⟨r, mendS Z s', q, ih r Q E p s' a h⟩
  | handled own k ih => intro Q E p s hn h; exact ih _ Q E p s hn h
  | genState g k ih =>
    intro Q E p s hn h
    obtain ⟨st, hs, h⟩ := h
    obtain ⟨st', hm, es⟩ := hn.seen hs
    exact ⟨st', hm, by rw [es]; exact ih _ Q E p s hn h⟩
  | newGen c k ih =>
    intro Q E p s hn h
    have q := ih _ Q E p _ (hn.push (x := .fresh c) trivial) h
    rw [mendS_push hn.out] at q
    show wp M Γ (k (mendS Z s).gens.size) _ _ p _
    rw [show (mendS Z s).gens.size = s.gens.size from mend_size _ _]
    exact q
  | resume g r _ k ih =>
    intro Q E p s hn h
    obtain ⟨res, s', hw, h⟩ := h
    obtain ⟨a, q⟩ := wakes_mend hn hw
    exact ⟨res, mendS Z s', q, ih res Q E p s' a h⟩
  | yield _ _ _ _ => intro Q E p s _ h; exact h
  | stack k ih => intro Q E p s hn h; exact ih _ Q E p s hn h
  | fork _ _ => intro Q E p s _ h; exact h
  | thread k ih => intro Q E p s hn h; exact ih _ Q E p s hn h
  | await _ _ _ _ _ => intro Q E p s _ h; exact h
/-- the places to be held: g's, and those that hold a generator's frame -/
def Zof (G : Array GenState) (g : Nat) : Nat → Option GenState := fun i => match G[i]? with
  | some (.suspended k l c p fs cl) => if i = g ∨ (splitAtGen fs).isSome then some (.suspended k l c p fs cl) else none
  | _ => none
def dullG (G : Array GenState) (g : Nat) : Array GenState := G.mapIdx fun i x => if (Zof G g i).isSome then dullOf x else x
theorem dullG_get (G : Array GenState) (g i : Nat) : (dullG G g)[i]? = G[i]?.map fun x => if (Zof G g i).isSome then dullOf x else x := by
  simp [dullG, Array.getElem?_mapIdx]
theorem zof_some {G : Array GenState} {g i : Nat} {z : GenState} (h : Zof G g i = some z) : isSusp z = true ∧ G[i]? = some z := by
  unfold Zof at h
  split at h
  · rename_i e
    split at h
    · cases h; exact ⟨rfl, e⟩
    · cases h
  · cases h
theorem zof_none {G : Array GenState} {g i : Nat} {x : GenState} (h : Zof G g i = none) (e : G[i]? = some x) : ngf x := by
  unfold Zof at h
  rw [e] at h
  cases x with
  | suspended k l c p fs cl =>
    simp only at h
    split at h
    · cases h
    · rename_i n
      show splitAtGen fs = none
      cases q : splitAtGen fs with
      | none => rfl
      | some y => exact absurd (.inr (by rw [q]; rfl)) n
  | _ => trivial
theorem held_dull (G : Array GenState) (g : Nat) : Held (Zof G g) (dullG G g) := by
  refine ⟨fun i z h => ?_, fun i x h e => ?_⟩
  · obtain ⟨h1, h2⟩ := zof_some h
    exact ⟨h1, by rw [dullG_get, h2, Option.map_some, h]; rfl⟩
  · rw [dullG_get] at e
    cases q : G[i]? with
    | none => rw [q] at e; cases e
    | some y =>
      rw [q, Option.map_some, h] at e
      cases e
      exact zof_none h q
theorem mend_dull (G : Array GenState) (g : Nat) : mend (Zof G g) (dullG G g) = G := by
  refine arr_ext fun i => ?_
  rw [mend_get, dullG_get]
  cases q : G[i]? with
  | none => rfl
  | some y =>
    rw [Option.map_some, Option.map_some]
    cases z : Zof G g i with
    | none => rfl
    | some w =>
      have := (zof_some z).2
      rw [q] at this
      cases this
      rfl
theorem bare_iff {G : Array GenState} : AllBare G ↔ ∀ (i : Nat) (x : GenState), G[i]? = some x → x.bare = true := by
  refine ⟨fun h i x e => h x (Array.mem_of_getElem? e), fun h x m => ?_⟩
  obtain ⟨i, hi, e⟩ := Array.mem_iff_getElem.mp m
  exact h i x (by rw [Array.getElem?_eq_getElem hi, e])
theorem bare_dull {G : Array GenState} {g : Nat} (h : AllBare G) : AllBare (dullG G g) := bare_iff.mpr fun i x e => by
  rw [dullG_get] at e
  cases q : G[i]? with
  | none => rw [q] at e; cases e
  | some y =>
    rw [q, Option.map_some] at e
    have hy := bare_iff.mp h i y q
    cases e
    split
    · rw [dull_bare]; exact hy
    · exact hy
theorem bare_mend {G G1 : Array GenState} {g : Nat} (h : AllBare G) (h1 : AllBare G1) : AllBare (mend (Zof G g) G1) := bare_iff.mpr fun i x e => by
  rw [mend_get] at e
  cases q : G1[i]? with
  | none => rw [q] at e; cases e
  | some y =>
    rw [q, Option.map_some] at e
    cases e
    cases z : Zof G g i with
    | none => exact bare_iff.mp h1 i y q
    | some w => exact bare_iff.mp h i w (zof_some z).2
/-- A SLEEPER IS KEPT: what is proved wherever the table is bare leaves g's place as it is -/
theorem asleep {α : Type} {M : Model} {A : Around} {t : Sem α} {Q : α → Shared → Prop} {E : Value → Shared → Prop} {s : Shared} {g : Nat} {gs : GenState} (hg : s.gens[g]? = some gs) (hs : isSusp gs = true) (hb : AllBare s.gens)
    (h : ∀ G, AllBare G → wpAny M A t Q E { s with gens := G }) :
    wpAny M A t (fun a s' => s'.gens[g]? = some gs ∧ ∃ G, Q a { s' with gens := G } ∧ (AllBare G → AllBare s'.gens)) (fun e s' => s'.gens[g]? = some gs ∧ ∃ G, E e { s' with gens := G } ∧ (AllBare G → AllBare s'.gens)) s := by
  intro Γ p hΓ
  have hz : Zof s.gens g g = some gs := by
    unfold Zof
    rw [hg]
    cases gs with
    | suspended k l c p fs cl => exact if_pos (.inl rfl)
    | _ => simp [isSusp] at hs
  have w := wp_mend M Γ (Zof s.gens g) t _ _ p { s with gens := dullG s.gens g } (held_dull s.gens g) (h _ (bare_dull hb) Γ p hΓ)
  have es : mendS (Zof s.gens g) { s with gens := dullG s.gens g } = s := by
    show ({ s with gens := mend (Zof s.gens g) (dullG s.gens g) } : Shared) = s
    rw [mend_dull]
  rw [es] at w
  have fin : ∀ {β : Type} {R : β → Shared → Prop} {b : β} {p' : Pos} {s' : Shared}, Mended (Zof s.gens g) (fun a _ s' => R a s') b p' s' → s'.gens[g]? = some gs ∧ ∃ G, R b { s' with gens := G } ∧ (AllBare G → AllBare s'.gens) := by
    rintro β R b p' s' ⟨s1, h1, rfl, q⟩
    refine ⟨?_, s1.gens, q, fun hb1 => bare_mend hb hb1⟩
    show (mend _ s1.gens)[g]? = _
    rw [mend_get, (h1.at_ g gs hz).2, Option.map_some, hz]
    rfl
  exact Sem.wp_mono M Γ t (fun a p' s' q => fin q) (fun e p' s' q => fin q) p s w
end RS
namespace RS
open PySem PySem.Spec L2 PyProof.Rows GenW
open Sem (wp)
theorem runs_one {M : Model} {Γ : PySem.Ctx} {p : Pos} {t : Sem PySem.Fin} {fs : List Frame} {s s' : Shared} {e : End} (r : Runs M Γ p t fs s e s') :
    ∀ {e2 : End} {s2 : Shared}, Runs M Γ p t fs s e2 s2 → e2 = e ∧ s2 = s' := by
  induction r with
  | done => intro e2 s2 q; cases q; exact ⟨rfl, rfl⟩
  | raise => intro e2 s2 q; cases q; exact ⟨rfl, rfl⟩
  | again _ _ ih => intro e2 s2 q; cases q with | again _ q => exact ih q
  | rule _ ih => intro e2 s2 q; cases q with | rule q => exact ih q
  | «at» _ ih => intro e2 s2 q; cases q with | «at» q => exact ih q
  | load e _ ih => intro e2 s2 q; cases q with | load e' q => rw [e] at e'; cases e'; exact ih q
  | update _ _ ih => intro e2 s2 q; cases q with | update _ q => exact ih q
  | loadIfAlive _ ih => intro e2 s2 q; cases q with | loadIfAlive q => exact ih q
  | point _ ih => intro e2 s2 q; cases q with | point q => exact ih q
  | alloc _ ih => intro e2 s2 q; cases q with | alloc q => exact ih q
  | fresh _ ih => intro e2 s2 q; cases q with | fresh q => exact ih q
  | ask _ ih => intro e2 s2 q; cases q with | ask q => exact ih q
  | choose _ _ ih => intro e2 s2 q; cases q with | choose _ q => exact ih q
  | os _ ih => intro e2 s2 q; cases q with | os q => exact ih q
  | handled _ ih => intro e2 s2 q; cases q with | handled q => exact ih q
  | genState e _ ih => intro e2 s2 q; cases q with | genState e' q => rw [e] at e'; cases e'; exact ih q
  | stack _ ih => intro e2 s2 q; cases q with | stack q => exact ih q
  | thread _ ih => intro e2 s2 q; cases q with | thread q => exact ih q
  | newGen _ ih => intro e2 s2 q; cases q with | newGen q => exact ih q
  | call _ _ ih1 ih2 =>
    intro e2 s2 q
    cases q with
    | call q1 q2 => obtain ⟨a, b⟩ := ih1 q1; cases a; subst b; exact ih2 q2
    | callSusp q1 => cases (ih1 q1).1
  | callSusp _ ih =>
    intro e2 s2 q
    cases q with
    | call q1 q2 => cases (ih q1).1
    | callSusp q1 => obtain ⟨a, b⟩ := ih q1; cases a; exact ⟨rfl, b⟩
  | yield => intro e2 s2 q; cases q; exact ⟨rfl, rfl⟩
  | resumeFresh e1 _ _ _ ih1 ih2 =>
    intro e2 s2 q
    cases q with
    | resumeFresh e1' q1 _ q2 => rw [e1] at e1'; cases e1'; obtain ⟨a, b⟩ := ih1 q1; cases a; subst b; exact ih2 q2
    | resumeSuspended e1' => rw [e1] at e1'; cases e1'
    | resumeJustStarted e1' hv => exact absurd rfl hv
    | resumeRunning e1' => rw [e1] at e1'; cases e1'
    | resumeFinished e1' => rw [e1] at e1'; cases e1'
  | resumeSuspended e1 _ _ _ ih1 ih2 =>
    intro e2 s2 q
    cases q with
    | resumeFresh e1' => rw [e1] at e1'; cases e1'
    | resumeSuspended e1' q1 _ q2 => rw [e1] at e1'; cases e1'; obtain ⟨a, b⟩ := ih1 q1; cases a; subst b; exact ih2 q2
    | resumeJustStarted e1' => rw [e1] at e1'; cases e1'
    | resumeThrowFresh e1' => rw [e1] at e1'; cases e1'
    | resumeRunning e1' => rw [e1] at e1'; cases e1'
    | resumeFinished e1' => rw [e1] at e1'; cases e1'
  | resumeJustStarted e1 hv _ ih =>
    intro e2 s2 q
    cases q with
    | resumeFresh e1' => exact absurd rfl hv
    | resumeSuspended e1' => rw [e1] at e1'; cases e1'
    | resumeJustStarted _ _ q => exact ih q
    | resumeRunning e1' => rw [e1] at e1'; cases e1'
    | resumeFinished e1' => rw [e1] at e1'; cases e1'
  | resumeThrowFresh e1 _ ih =>
    intro e2 s2 q
    cases q with
    | resumeSuspended e1' => rw [e1] at e1'; cases e1'
    | resumeThrowFresh _ q => exact ih q
    | resumeRunning e1' => rw [e1] at e1'; cases e1'
    | resumeFinished e1' => rw [e1] at e1'; cases e1'
  | resumeRunning e1 _ ih =>
    intro e2 s2 q
    cases q with
    | resumeFresh e1' => rw [e1] at e1'; cases e1'
    | resumeSuspended e1' => rw [e1] at e1'; cases e1'
    | resumeJustStarted e1' => rw [e1] at e1'; cases e1'
    | resumeThrowFresh e1' => rw [e1] at e1'; cases e1'
    | resumeRunning _ q => exact ih q
    | resumeFinished e1' => rw [e1] at e1'; cases e1'
  | resumeFinished e1 _ ih =>
    intro e2 s2 q
    cases q with
    | resumeFresh e1' => rw [e1] at e1'; cases e1'
    | resumeSuspended e1' => rw [e1] at e1'; cases e1'
    | resumeJustStarted e1' => rw [e1] at e1'; cases e1'
    | resumeThrowFresh e1' => rw [e1] at e1'; cases e1'
    | resumeRunning e1' => rw [e1] at e1'; cases e1'
    | resumeFinished _ q => exact ih q
  | segRet _ _ ih1 ih2 =>
    intro e2 s2 q
    cases q with
    | segRet q1 q2 => obtain ⟨a, b⟩ := ih1 q1; cases a; subst b; exact ih2 q2
    | segSuspOut _ q1 => cases (ih1 q1).1
    | segSuspGen _ q1 => cases (ih1 q1).1
  | segGen _ _ ih1 ih2 =>
    intro e2 s2 q
    cases q with
    | segGen q1 q2 => obtain ⟨a, b⟩ := ih1 q1; cases a; subst b; exact ih2 q2
    | segSuspOut _ q1 => cases (ih1 q1).1
    | segSuspGen _ q1 => cases (ih1 q1).1
  | segSuspOut f1 _ ih =>
    intro e2 s2 q
    cases q with
    | segRet q1 _ => cases (ih q1).1
    | segGen q1 _ => cases (ih q1).1
    | segSuspOut _ q1 => obtain ⟨a, b⟩ := ih q1; cases a; exact ⟨rfl, b⟩
    | segSuspGen f2 _ _ _ => rw [f1] at f2; cases f2
  | segSuspGen f1 _ _ _ ih1 ih2 =>
    intro e2 s2 q
    cases q with
    | segRet q1 _ => cases (ih1 q1).1
    | segGen q1 _ => cases (ih1 q1).1
    | segSuspOut f2 _ => rw [f1] at f2; cases f2
    | segSuspGen f2 q1 _ q2 => rw [f1] at f2; cases f2; obtain ⟨a, b⟩ := ih1 q1; cases a; subst b; exact ih2 q2
theorem wakes_one {M : Model} {Γ : PySem.Ctx} {p : Pos} {g : Nat} {r : Resume} {s s1 s2 : Shared} {a b : GenResult} (w : Wakes M Γ p g r s a s1) (w2 : Wakes M Γ p g r s b s2) : b = a ∧ s2 = s1 := by
  unfold Wakes at w w2
  cases e : s.gens[g]? with
  | none => rw [e] at w; exact w.elim
  | some x =>
    rw [e] at w w2
    cases x with
    | fresh c =>
      cases r with
      | throw y => exact ⟨w2.1.trans w.1.symm, w2.2.trans w.2.symm⟩
      | send v =>
        cases v with
        | none =>
          obtain ⟨e1, t1, r1, _, x1, y1⟩ := w
          obtain ⟨e2, t2, r2, _, x2, y2⟩ := w2
          obtain ⟨z1, z2⟩ := runs_one r1 r2
          subst z1 z2
          exact ⟨x2.trans x1.symm, y2.trans y1.symm⟩
        | _ => exact ⟨w2.1.trans w.1.symm, w2.2.trans w.2.symm⟩
    | suspended k l c p fs cl =>
      obtain ⟨e1, t1, r1, _, x1, y1⟩ := w
      obtain ⟨e2, t2, r2, _, x2, y2⟩ := w2
      obtain ⟨z1, z2⟩ := runs_one r1 r2
      subst z1 z2
      exact ⟨x2.trans x1.symm, y2.trans y1.symm⟩
    | running => exact ⟨w2.1.trans w.1.symm, w2.2.trans w.2.symm⟩
    | finished => exact ⟨w2.1.trans w.1.symm, w2.2.trans w.2.symm⟩
theorem wp_both {α : Type} (M : Model) (Γ : PySem.Ctx) (t : Sem α) : ∀ (Q Q' : α → Pos → Shared → Prop) (E E' : Value → Pos → Shared → Prop) (p : Pos) (s : Shared), wp M Γ t Q E p s → wp M Γ t Q' E' p s →
    wp M Γ t (fun a p s => Q a p s ∧ Q' a p s) (fun e p s => E e p s ∧ E' e p s) p s := by
  induction t with
  | pure a => exact fun _ _ _ _ _ _ h h' => ⟨h, h'⟩
  | raise e => exact fun _ _ _ _ _ _ h h' => ⟨h, h'⟩
  | unsupported _ => exact fun _ _ _ _ _ _ h _ => h
  | finish _ => exact fun _ _ _ _ _ _ h _ => h
  | rule _ k ih => exact fun _ _ _ _ _ _ h h' => ih () _ _ _ _ _ _ h h'
  | «at» p' k ih => exact fun _ _ _ _ _ _ h h' => ih () _ _ _ _ p' _ h h'
  | load a _ k ih =>
    rintro _ _ _ _ _ _ ⟨o, ho, h⟩ ⟨o', ho', h'⟩
    rw [ho] at ho'
    cases ho'
    exact ⟨o, ho, ih o _ _ _ _ _ _ h h'⟩
  | update a _ f k ih => exact fun _ _ _ _ _ _ h h' => ⟨h.1, ih () _ _ _ _ _ _ h.2 h'.2⟩
  | loadIfAlive a k ih => exact fun _ _ _ _ _ _ h h' => ih _ _ _ _ _ _ _ h h'
  | point _ k ih => exact fun _ _ _ _ _ _ h h' => ih () _ _ _ _ _ _ h h'
  | register _ _ => exact fun _ _ _ _ _ _ h _ => h
  | alloc o k ih => exact fun _ _ _ _ _ _ h h' => ih _ _ _ _ _ _ _ h h'
  | fresh k ih => exact fun _ _ _ _ _ _ h h' => ih _ _ _ _ _ _ _ h h'
  | ask k ih => exact fun _ _ _ _ _ _ h h' => ih _ _ _ _ _ _ _ h h'
  | choose src m k ih => exact fun _ _ _ _ _ _ h h' => ⟨h.1, ih _ _ _ _ _ _ _ h.2 h'.2⟩
  | os q _ k ih => exact fun _ _ _ _ _ _ h h' => ih _ _ _ _ _ _ _ h h'
  | call c hd _ _ k ih =>
    rintro _ _ _ _ _ _ ⟨r, s', hr, h⟩ ⟨r2, s2, hr2, h'⟩
    obtain ⟨a, b⟩ := runs_one hr hr2
    cases a
    subst b
    exact ⟨r, _, hr, ih r _ _ _ _ _ _ h h'⟩
  | handled own k ih => exact fun _ _ _ _ _ _ h h' => ih _ _ _ _ _ _ _ h h'
  | genState g k ih =>
    rintro _ _ _ _ _ _ ⟨st, hs, h⟩ ⟨st', hs', h'⟩
    rw [hs] at hs'
    cases hs'
    exact ⟨st, hs, ih _ _ _ _ _ _ _ h h'⟩
  | newGen c k ih => exact fun _ _ _ _ _ _ h h' => ih _ _ _ _ _ _ _ h h'
  | resume g r _ k ih =>
    rintro _ _ _ _ _ _ ⟨res, s', hw, h⟩ ⟨res', s2, hw', h'⟩
    obtain ⟨a, b⟩ := wakes_one hw hw'
    subst a b
    exact ⟨_, _, hw, ih _ _ _ _ _ _ _ h h'⟩
  | yield _ _ _ _ => exact fun _ _ _ _ _ _ h _ => h
  | stack k ih => exact fun _ _ _ _ _ _ h h' => ih _ _ _ _ _ _ _ h h'
  | fork _ _ => exact fun _ _ _ _ _ _ h _ => h
  | thread k ih => exact fun _ _ _ _ _ _ h h' => ih _ _ _ _ _ _ _ h h'
  | await _ _ _ _ _ => exact fun _ _ _ _ _ _ h _ => h
theorem wpAny_both {α : Type} {M : Model} {A : Around} {t : Sem α} {Q Q' : α → Shared → Prop} {E E' : Value → Shared → Prop} {s : Shared} (h : wpAny M A t Q E s) (h' : wpAny M A t Q' E' s) :
    wpAny M A t (fun a s => Q a s ∧ Q' a s) (fun e s => E e s ∧ E' e s) s := fun Γ p hΓ => wp_both M Γ t _ _ _ _ p s (h Γ p hΓ) (h' Γ p hΓ)
/-- what is proved wherever the table is bare holds here, and the sleeper is kept -/
theorem kept_asleep {α : Type} {M : Model} {A : Around} {t : Sem α} {Q Q' : α → Shared → Prop} {E E' : Value → Shared → Prop} {s : Shared} {g : Nat} {gs : GenState} (hg : s.gens[g]? = some gs) (hs : isSusp gs = true) (hb : AllBare s.gens)
    (h : wpAny M A t Q E s) (h' : ∀ G, AllBare G → wpAny M A t Q' E' { s with gens := G }) : wpAny M A t (fun a s' => Q a s' ∧ s'.gens[g]? = some gs) E s :=
  wpAny_mono (wpAny_both h (asleep hg hs hb h')) (fun _ _ q => ⟨q.1, q.2.1⟩) fun _ _ q => q.1
end RS
namespace RS
open PySem PySem.Spec L2 PyProof.Rows GenW
open Sem (wp)
section
variable {M : Model} {A : Around} {R : GenEnd} {Y : Protocol} {n g : Nat} {E : Value → Shared → Prop} {s : Shared} {gs : GenState} {r : Resume}
/-- what is asleep goes on by its protocol -/
abbrev Kap (M : Model) (A : Around) (R : GenEnd) (Y : Protocol) (n : Nat) (gs : GenState) : Resume → Shared → Prop := fun r' s'' => match n with
  | 0 => False
  | m + 1 => gs.Goes M A R Y m r' s''
theorem wpAny_wakeS {l : List Value} {α : Type} {k : GenResult → Sem α} {Q : α → Shared → Prop} (hg : s.gens[g]? = some gs) (hgo : gs.Goes M A R Y n r (s.setGen g .running))
    (hR : ∀ x s₁, R n (s.setGen g .running) x s₁ → wpAny M A (k (End.ret x).result) Q E (s₁.setGen g .finished))
    (hY : ∀ v s₁ gs', gs'.bare = true → isSusp gs' = true → Y (n - 1) (s.setGen g .running) v s₁ (Kap M A R Y n gs') → wpAny M A (k (.yielded v)) Q E (s₁.setGen g gs')) :
    wpAny M A (.resume g r l k) Q E s := by
  intro Γ p hΓ
  rw [Sem.wp_resume]
  have go : ∀ e s1, SegEnd R Y n (Seg.next M A R Y n) (s.setGen g .running) e s1 → e.quiet = true ∧ wp M Γ (k e.result) (fun a _ s' => Q a s') (fun e _ s' => E e s') p (s1.setGen g e.genState) := by
    intro e s1 he
    cases e with
    | ret x => exact ⟨rfl, hR x s1 he Γ p hΓ⟩
    | susp v b l0 k0 c0 p0 fs0 =>
      refine ⟨he.1, hY v s1 _ (End.bare_of_quiet he.1) rfl ?_ Γ p hΓ⟩
      cases n with
      | zero => exact he.2
      | succ m => exact he.2
  have fin : ∀ c p1 t fs e s1, Runs M (Γ.wake c p) p1 t fs (s.setGen g .running) e s1 → SegEnd R Y n (Seg.next M A R Y n) (s.setGen g .running) e s1 →
      (Runs M (Γ.wake c p) p1 t fs (s.setGen g .running) e s1 → Wakes M Γ p g r s e.result (s1.setGen g e.genState)) → ∃ res s', Wakes M Γ p g r s res s' ∧ wp M Γ (k res) (fun a _ s' => Q a s') (fun e _ s' => E e s') p s' :=
    fun c p1 t fs e s1 hr he hw => ⟨_, _, hw hr, (go e s1 he).2⟩
  cases gs with
  | running => exact hgo.elim
  | finished => exact hgo.elim
  | fresh c =>
    obtain ⟨er, hs⟩ := hgo
    subst er
    obtain ⟨e, s1, hr, he⟩ := seg_iff.mp hs (Γ.wake c p) p rfl (hΓ.wake c p)
    refine fin c _ _ _ e s1 hr he fun hr => ?_
    unfold Wakes
    rw [hg]
    exact ⟨e, s1, hr, (go e s1 he).1, rfl, rfl⟩
  | suspended k0 l0 c0 p0 fs0 cl =>
    obtain ⟨e, s1, hr, he⟩ := seg_iff.mp hgo (Γ.wake c0 p) p0 rfl (hΓ.wake c0 p)
    refine fin c0 _ _ _ e s1 hr he fun hr => ?_
    unfold Wakes
    rw [hg]
    exact ⟨e, s1, hr, (go e s1 he).1, rfl, rfl⟩
end
section
variable {P : Program} {w : World} {A : Around} {E : Value → Shared → Prop} {s : Shared}
/-- next(g), of a generator that raises nothing -/
theorem nextS {a : Addr} {g n : Nat} {gs : GenState} {F : Nat → Shared → Shared → Prop} {Y : Protocol} {Q : Option Value → Shared → Prop} (hh : A.handled = none) (hl : s.heap.NoLimit) (hroom : A.depth < recursionLimit)
    (hg : s.heap.IsGen a g) (hgs : s.gens[g]? = some gs) (hgo : gs.Goes (model P w) A.in1 (fun n s₀ r s₁ => r = .ok (.ret .none) ∧ F n s₀ s₁) Y n (.send .none) (s.setGen g .running))
    (hY : ∀ v s₁ gs', gs'.bare = true → isSusp gs' = true → Y (n - 1) (s.setGen g .running) v s₁ (Kap (model P w) A.in1 (fun n s₀ r s₁ => r = .ok (.ret .none) ∧ F n s₀ s₁) Y n gs') → Q (some v) (s₁.setGen g gs'))
    (hP : ∀ s₁, F n (s.setGen g .running) s₁ → ∀ h', (∀ b o, s₁.heap.get? b = some o → h'.get? b = some o) → Q none { s₁.setGen g .finished with heap := h' }) :
    wpAny (model P w) A (pyNext (.ref a)) Q E s := by
  unfold pyNext
  refine wpAny_bind (wpAny_attempt ?_)
  refine wpAny_callSpecial?_slot (name := Str.ofString "__next__") hg.typeIs slot_gen_next ?_
  refine wpAny_call_entry slot_gen_next hg.typeIs entry_gen_next ?_ (args_gen_next _)
  show wpAny _ A.in1 (Builtin.Generator.genWake (.ref a) (.send .none)) _ _ s
  unfold Builtin.Generator.genWake
  refine wpAny_bind (wpAny_holding ?_)
  refine wpAny_genNumber hg (wpAny_bind ?_)
  refine wpAny_genState hgs ?_
  cases gs with
  | running => exact hgo.elim
  | finished => exact hgo.elim
  | _ =>
    refine wpAny_bind (wpAny_roomToWake hl hroom ?_)
    show wpAny _ A.in1 (Sem.resume g (.send .none) [] _) _ _ s
    refine wpAny_wakeS hgs hgo (fun x s1 hx => ?_) fun v s1 gs' hb hsu hv => wpAny_pure ⟨v, rfl, wpAny_pure (hY v s1 gs' hb hsu hv)⟩
    obtain ⟨hr, hp⟩ := hx
    subst hr
    show wpAny _ A.in1 (newExc (.type "StopIteration") [] >>= _) _ _ _
    refine wpAny_bind ?_
    simp only [newExc, newTuple]
    refine wpAny_bind (wpAny_newObj_type ?_ (by size_fits))
    refine wpAny_bind (m := firstArgMember _ _) (wpAny_of_eq (a := Value.none) (by first | rfl | (simp only [firstArgMember]; rfl)) (wpAny_newObj_type ?_ (by size_fits)))
    simp only [raiseNew]
    refine wpAny_bind (wpAny_bind (wpAny_handled ?_))
    rw [show A.in1.handled = none from hh]
    refine wpAny_throw (wpAny_bind ?_)
    refine wpAny_isInstance (T := "StopIteration") (b := true) ⟨_, Heap.get?_push_size _ rfl, rfl⟩ isSubtype_stop ?_
    exact wpAny_pure (hP s1 hp _ fun b o hb => Heap.get?_push_of_some _ (Heap.get?_push_of_some _ hb))
end
end RS
namespace RS
open PySem PySem.Spec L2 PyProof.Rows GenW
def frontH (L : Nat) (h : Heap) : Heap := { h with objs := h.objs.extract 0 L }
theorem ext_get {α : Type} (xs : Array α) {L b : Nat} (lt : b < L) : (xs.extract 0 L)[b]? = xs[b]? := by
  rw [Array.getElem?_extract]
  by_cases z : b < xs.size
  · rw [if_pos (by omega), Nat.zero_add]
  · rw [if_neg (by omega), Array.getElem?_eq_none (by omega)]
theorem front_get {L : Nat} {h : Heap} {b : Addr} (lt : b < L) : (frontH L h).get? b = h.get? b := by
  unfold frontH Heap.get?
  simp only [ext_get h.objs (show (b : Nat) < L from lt)]
theorem ext_size {α : Type} (xs : Array α) (L : Nat) : (xs.extract 0 L).size = min L xs.size := by simp
theorem front_some {L : Nat} {h : Heap} {b : Addr} {o : Obj} (e : (frontH L h).get? b = some o) : b < L ∧ h.get? b = some o := by
  have lt : (b : Nat) < (h.objs.extract 0 L).size := Heap.lt_size e
  rw [ext_size] at lt
  have l3 : b < L := Nat.lt_of_lt_of_le lt (Nat.min_le_left _ _)
  exact ⟨l3, by rw [← front_get l3]; exact e⟩
theorem front_size {L : Nat} {h : Heap} (l : L ≤ h.objs.size) : (frontH L h).objs.size = L := (ext_size _ _).trans (Nat.min_eq_left l)
theorem front_le {L : Nat} {h : Heap} : (frontH L h).objs.size ≤ L := Nat.le_trans (Nat.le_of_eq (ext_size _ _)) (Nat.min_le_left _ _)
def tr (L : Nat) (s : Shared) : Shared := { s with heap := frontH L s.heap }
/-- the context of a generator's body, woken at s0 with the heap H0; nothing is raised out of it -/
@[reducible] def reX (X : Cx) (s0 : Shared) (H0 : Hp) : Cx := { X with s_0 := tr X.env.locals s0, H_0 := H0, xe := fun _ _ => False }
structure GKE where
  nx : Nat → L2.St → L2.St → Hp → Prop
  rt : Nat → L2.St → VK
  yl : Nat → L2.St → V → Hp → (L2.St → Hp → Prop) → Prop
  bk : Nat → L2.St → L2.St → Hp → Prop := fun _ _ _ _ => False
  ct : Nat → L2.St → L2.St → Hp → Prop := fun _ _ _ _ => False
/-- how many are out, the consumer's slots, its own slots, the heap -/
abbrev TK := GKE → Nat → L2.St → L2.St → Hp → Prop
def GKE.at (D : GKE) (i : Nat) (k : L2.St) : Ends := { nx := D.nx i k, rt := D.rt i k, bk := D.bk i k, ct := D.ct i k }
/-- what holds of the consumer where the generator is woken -/
abbrev LkR := Shared → L2.St → Hp → Prop
def LkL (X : Cx) (Lk : LkR) : LkR := fun s k H => X.env.locals ≤ s.heap.objs.size ∧ Lk s k H
def KSP (X : Cx) (ip : List (Addr × Obj)) (D : GKE) (i : Nat) (k : L2.St) (H0 : Hp) (s₀ : Shared) (f : Flow) (s : Shared) : Prop := match f with
  | .next => ∃ σ H, Inv (reX X s₀ H0) ip σ H s ∧ D.nx i k σ H
  | .brk => ∃ σ H, Inv (reX X s₀ H0) ip σ H s ∧ D.bk i k σ H
  | .cont => ∃ σ H, Inv (reX X s₀ H0) ip σ H s ∧ D.ct i k σ H
  | .ret u => ∃ v σ H, Inv (reX X s₀ H0) ip σ H s ∧ RelV v u ∧ D.rt i k v H
theorem ksp_of {X : Cx} {ip : List (Addr × Obj)} {D : GKE} {i : Nat} {k : L2.St} {H0 : Hp} {s₀ s : Shared} {f : Flow} (h : SP (reX X s₀ H0) ip (D.at i k) f s) : KSP X ip D i k H0 s₀ f s := by
  cases f <;> exact h
def KYp (X : Cx) (Lk : LkR) (yl : Nat → L2.St → V → Hp → (L2.St → Hp → Prop) → Prop) : Protocol := fun n s₀ v s kap =>
  ∃ i k H0 x ip σ H res, n + 1 + i = sizeLine ∧ RelV x v ∧ LkL X Lk s₀ k H0 ∧ Inv (reX X s₀ H0) ip σ H s ∧ yl i k x H res ∧
    ∀ k' H' s', LkL X Lk s' k' H' → Inv (reX X s' H') ip σ H' s' → res k' H' → kap (.send .none) s'
/-- where the generator's code stands -/
structure GKc (X : Cx) (A : Around) (c : Code) (fs : List Frame) (gd : Bool → Bool) : Prop where
  over : A.over c fs = X.A
  split : splitAtGen fs = none
  guard : fs.any Frame.guarded = false
  gd : gd false = false
/-- what follows -/
def GKk (X : Cx) (Lk : LkR) (ip : List (Addr × Obj)) (A : Around) (R : GenEnd) (c : Code) (fs : List Frame) (K : Flow → Sem PySem.Fin) (D : GKE) : Prop :=
  ∀ (n i : Nat) (k : L2.St) (H0 : Hp) (s₀ s : Shared) (f : Flow), n + i = sizeLine → LkL X Lk s₀ k H0 → KSP X ip D i k H0 s₀ f s → Seg (model X.prog X.w) A R (KYp X Lk D.yl) n s₀ c (K f) fs s
structure GK (X : Cx) (st : Stmt) (t : TK) : Prop where
  run : ∀ (Lk : LkR) (A : Around) (ip : List (Addr × Obj)) (R : GenEnd) (n i : Nat) (k : L2.St) (H0 : Hp) (s₀ : Shared) (c : Code) (fs : List Frame) (K : Flow → Sem PySem.Fin) (J : Value → Sem PySem.Fin) (gd : Bool → Bool) (lv : List Value → List Value) (s : Shared) (σ : L2.St) (H : Hp) (D : GKE),
    GKc X A c fs gd → n + i = sizeLine → LkL X Lk s₀ k H0 → GKk X Lk ip A R c fs K D → Inv (reX X s₀ H0) ip σ H s → t D i k σ H → Seg (model X.prog X.w) A R (KYp X Lk D.yl) n s₀ c ((exec st X.env).wrap K J gd lv) fs s
structure GKs (X : Cx) (st : List Stmt) (t : TK) : Prop where
  run : ∀ (Lk : LkR) (A : Around) (ip : List (Addr × Obj)) (R : GenEnd) (n i : Nat) (k : L2.St) (H0 : Hp) (s₀ : Shared) (c : Code) (fs : List Frame) (K : Flow → Sem PySem.Fin) (J : Value → Sem PySem.Fin) (gd : Bool → Bool) (lv : List Value → List Value) (s : Shared) (σ : L2.St) (H : Hp) (D : GKE),
    GKc X A c fs gd → n + i = sizeLine → LkL X Lk s₀ k H0 → GKk X Lk ip A R c fs K D → Inv (reX X s₀ H0) ip σ H s → t D i k σ H → Seg (model X.prog X.w) A R (KYp X Lk D.yl) n s₀ c ((execs st X.env).wrap K J gd lv) fs s
section
variable {X : Cx} {st : Stmt} {rest : List Stmt}
def tKPlain (t : TS) : TK := fun D i k σ H => t (D.at i k) σ H
theorem gk_ps {t : TS} (h : ∀ s0 H0, PS (reX X s0 H0) st t) : GK X st (tKPlain t) := by
  refine ⟨fun Lk A ip R n i k H0 s₀ c fs K J gd lv s σ H D g hn lk kk I ht => seg_wrap ?_⟩
  rw [g.over]
  exact wpAny_mono ((h s₀ H0).run ip s σ H (D.at i k) I ht) (fun f s' hs => kk n i k H0 s₀ s' f hn lk (ksp_of hs)) fun _ _ z => z.elim
def tK0 : TK := fun D i k σ H => D.nx i k σ H
theorem gks_nil : GKs X [] tK0 := ⟨fun Lk A ip R n i k H0 s₀ c fs K J gd lv s σ H D g hn lk kk I ht => seg_execs_nil (kk n i k H0 s₀ s .next hn lk ⟨σ, H, I, ht⟩)⟩
def tKThen (t u : TK) : TK := fun D i k σ H => t { D with nx := fun i' k' σ' H' => u D i' k' σ' H' } i k σ H
theorem gks_cons {t u : TK} (a : GK X st t) (b : GKs X rest u) : GKs X (st :: rest) (tKThen t u) := by
  refine ⟨fun Lk A ip R n i k H0 s₀ c fs K J gd lv s σ H D g hn lk kk I ht => seg_execs_cons ?_⟩
  refine a.run Lk A ip R n i k H0 s₀ c fs _ J gd lv s σ H { D with nx := fun i' k' σ' H' => u D i' k' σ' H' } g hn lk (fun n' i' k' H0' s₀' s' f hn' lk' hs => ?_) I ht
  cases f with
  | next =>
    obtain ⟨σ', H', I', q⟩ := hs
    exact b.run Lk A ip R n' i' k' H0' s₀' c fs K J gd lv s' σ' H' D g hn' lk' kk I' q
  | brk => exact kk n' i' k' H0' s₀' s' .brk hn' lk' hs
  | cont => exact kk n' i' k' H0' s₀' s' .cont hn' lk' hs
  | ret u => exact kk n' i' k' H0' s₀' s' (.ret u) hn' lk' hs
theorem fpOk_re {X : Cx} {ip : List (Addr × Obj)} {s0 s1 : Shared} {H0 H1 H : Hp} {b : Addr} (l0 : X.env.locals ≤ s0.heap.objs.size) (h : FpOk (reX X s0 H0) ip H b) : FpOk (reX X s1 H1) ip H b := by
  obtain ⟨a0, a1, a2, a3, a4, a5⟩ := h
  refine ⟨a0, a1, a2, a3.imp id fun z => ?_, a4, a5⟩
  have z1 : (frontH X.env.locals s0.heap).objs.size ≤ b := z
  rw [front_size l0] at z1
  have z2 : (frontH X.env.locals s1.heap).objs.size ≤ X.env.locals := front_le
  exact Nat.le_trans z2 z1
end
end RS
namespace RS
open PySem PySem.Spec L2 PyProof.Rows GenW
/-- the generator's own things stand as they did, all else is as its consumer knows it: its context, begun anew -/
theorem rebase {X : Cx} {a : Shared} {b : Hp} {xe : Value → Shared → Prop} {ip : List (Addr × Obj)} {σ : L2.St} {H1 H4 : Hp} {s1 s4 : Shared} {A : Around} {oL : Obj} (I : Inv { X with s_0 := a, H_0 := b, xe := xe } ip σ H1 s1) (hc : X.env.cells = []) (hx : X.ex = [])
    (e0 : Env0 X.prog X.w X.K X.mg X.base A X.outer s4 H4) (hb : X.base.objs.size ≤ X.env.locals) (hL : s1.heap.get? X.env.locals = some oL) (hL4 : s4.heap.get? X.env.locals = some oL) (nL : H4 X.env.locals = none) (fr : ∀ c ∈ frs X.outer, c < X.env.locals)
    (hp : ∀ p ∈ X.pn ++ ip, s4.heap.get? p.1 = some p.2 ∧ H4 p.1 = none) : Inv (reX X s4 H4) ip σ H4 s4 := by
  have le : X.env.locals ≤ s4.heap.objs.size := Nat.le_of_lt (Heap.lt_size hL4)
  have noc : ∀ {x : Str} {c : Addr}, X.env.cells.lookup x = some c → False := fun {x c} e => by rw [hc] at e; cases e
  have exm : ∀ {c : Addr}, c ∈ X.ex → False := fun {c} m => by rw [hx] at m; cases m
  refine ⟨⟨e0.mod, I.ok.kind, I.ok.glob, I.ok.blt, front_le, I.ok.inj, I.ok.has, fun x c _ e => (noc e).elim, I.ok.hd, I.ok.frames, I.ok.stk, fun c m => (exm m).elim, fun c o e => ?_, ?_, fun c o e m => exm m, fun c m => (exm m).elim, ?_, e0.frf⟩,
    rfl, e0.bare, Un.kept fun c o e => (front_some e).2, ?_, fun x c e => (noc e).elim, nL, fun x c e => (noc e).elim, fun p hm => ?_, e0.hok, I.len⟩
  · have lt : c < X.env.locals := Nat.lt_of_lt_of_le (Heap.lt_size e) hb
    exact ⟨(front_get lt).trans (e0.bs c o e).1, (e0.bs c o e).2⟩
  · show X.base.objs.size ≤ (frontH X.env.locals s4.heap).objs.size
    rw [front_size le]; exact hb
  · have go : ∀ l : List Env, (∀ c ∈ frs l, c < X.env.locals) → s4.heap.FunFrames X.base l → (frontH X.env.locals s4.heap).FunFrames X.base l := by
      intro l
      induction l with
      | nil => exact fun _ _ => trivial
      | cons env rest ih =>
        intro hf h
        obtain ⟨hk, ⟨L, o, ef, hn, ho, hd⟩, hr⟩ := h
        have mem : ∀ c ∈ frs rest, c ∈ frs (env :: rest) := fun c m => by
          show c ∈ List.filterMap _ (env :: rest)
          rw [List.filterMap_cons, ef]
          exact List.mem_cons_of_mem _ m
        have mL : L ∈ frs (env :: rest) := by
          show L ∈ List.filterMap _ (env :: rest)
          rw [List.filterMap_cons, ef]
          exact List.mem_cons_self ..
        exact ⟨hk, ⟨L, o, ef, hn, (front_get (hf L mL)).trans ho, hd⟩, ih (fun c m => hf c (mem c m)) hr⟩
    exact go _ fr e0.funs
  · obtain ⟨m, hn, hl⟩ := I.loc
    refine ⟨m, hn.at' fun o e => ?_, fun j x v h1 h2 h3 => ?_⟩
    · have e : s1.heap.get? X.env.locals = some o := e
      rw [hL] at e
      cases e
      exact hL4
    · obtain ⟨u, r, q⟩ := hl j x v h1 h2 h3
      refine ⟨u, r, q.imp id fun ⟨k, c, e, z⟩ => (noc e).elim⟩
  · obtain ⟨h1, h2⟩ := hp p hm
    obtain ⟨_, _, h3, h4, h5⟩ := I.pin p hm
    exact ⟨h1, h2, h3, h4, h5⟩
/-- the consumer, behind a stretch of the generator -/
theorem backY {Y X : Cx} {pins ip : List (Addr × Obj)} {k σ : L2.St} {H0 H : Hp} {s0 s : Shared} (IY : Inv Y pins k H0 s0) (IX : Inv (reX X s0 H0) ip σ H s) (ho : X.outer = Y.stack) (eP : X.prog = Y.prog) (ew : X.w = Y.w) (hx : X.ex = [])
    (l0 : Y.s_0.heap.objs.size ≤ X.env.locals) (l1 : Y.env.locals < X.env.locals) (l2 : ∀ x c, Y.env.cells.lookup x = some c → c < X.env.locals) (l3 : ∀ p ∈ Y.pn ++ pins, p.1 < X.env.locals) : Inv Y pins k H s := by
  have fsE : (reX X s0 H0).fs = frs Y.stack := by show frs X.outer = _; rw [ho]
  have U := IX.base
  have mem : ∀ {b : Addr} {o : Obj}, s0.heap.get? b = some o → b ∉ (List.range (s0.heap.objs.size - X.env.locals)).map (· + X.env.locals) → (frontH X.env.locals s0.heap).get? b = some o := fun {b o} e n => by
    by_cases lt : b < X.env.locals
    · rw [front_get lt]; exact e
    · refine absurd (List.mem_map.mpr ⟨b - X.env.locals, List.mem_range.mpr ?_, ?_⟩) n
      · have := Heap.lt_size e
        exact Nat.sub_lt_sub_right (Nat.le_of_not_lt lt) this
      · exact Nat.sub_add_cancel (Nat.le_of_not_lt lt)
  have nx : ∀ {b : Addr}, b ∉ (reX X s0 H0).ex := fun {b} m => by
    have m : b ∈ X.ex := m
    rw [hx] at m; cases m
  refine IY.call' (ch := (List.range (s0.heap.objs.size - X.env.locals)).map (· + X.env.locals)) IX.os ⟨fun b o e n hf hm => ?_, fun b o e n hf hm => ?_, fun b o e n hm => ?_, fun b o e hm => ?_, U.tups, U.frzs, U.tbls⟩ ?_ IX.bare fun b hm => ?_
  · exact U.keep b o (mem e hm) n (by rw [fsE]; exact hf) nx
  · exact U.slot b o (mem e hm) n (by rw [fsE]; exact hf) nx
  · exact U.free b o (mem e hm) n nx
  · exact U.there b o (mem e hm) nx
  · have := IX.hok
    have : HOk X.prog X.w H s.heap := this
    rw [eP, ew] at this; exact this
  · obtain ⟨j, _, rfl⟩ := List.mem_map.mp hm
    have ge : X.env.locals ≤ j + X.env.locals := Nat.le_add_left _ _
    exact ⟨.inr (Nat.le_trans l0 ge), fun z => absurd (Nat.lt_of_lt_of_le l1 ge) (by rw [z]; exact Nat.lt_irrefl _), fun x c e z => absurd (Nat.lt_of_lt_of_le (l2 x c e) ge) (by rw [z]; exact Nat.lt_irrefl _),
      fun p hp z => absurd (Nat.lt_of_lt_of_le (l3 p hp) ge) (by rw [z]; exact Nat.lt_irrefl _)⟩
/-- another table of generators -/
theorem inv_gens {X : Cx} {pins : List (Addr × Obj)} {σ : L2.St} {H : Hp} {s : Shared} (I : Inv X pins σ H s) {G : Array GenState} (h : AllBare G) : Inv X pins σ H { s with gens := G } :=
  ⟨I.ok, I.os, h, I.base, I.loc, I.cell, I.free, I.freeC, I.pin, I.hok, I.len⟩
abbrev YLk := Nat → L2.St → V → Hp → (L2.St → Hp → Prop) → Prop
abbrev SpV := L2.St → YLk → (L2.St → Hp → Prop) → Prop
def KFin (X : Cx) (Lk : LkR) (fin : L2.St → Hp → Prop) (s₀ s1 : Shared) : Prop := ∃ k H0 ip σ H', LkL X Lk s₀ k H0 ∧ Inv (reX X s₀ H0) ip σ H' s1 ∧ fin k H'
abbrev KEnd (X : Cx) (Lk : LkR) (fin : L2.St → Hp → Prop) : GenEnd := fun n s₀ r s1 => r = .ok (.ret .none) ∧ KFin X Lk fin s₀ s1
structure GCtx (P : Program) (w : World) (K : PySem.W.Frag) (mg : Str → Option Value) (base : Heap) (outer : List Env) (L a : Addr) (gn : Nat) (X : Cx) : Prop where
  P : X.prog = P
  w : X.w = w
  K : X.K = K
  mg : X.mg = mg
  base : X.base = base
  loc : X.env.locals = L
  cells : X.env.cells = []
  ex : X.ex = []
  outer : X.outer = outer
  pn : ∃ go, X.pn = [(a, go)] ∧ ∀ h : Heap, h.get? a = some go → h.IsGen a gn
def GMk (P : Program) (w : World) (K : PySem.W.Frag) (mg : Str → Option Value) (base : Heap) (k : Nat) (outer : List Env) (s : Shared) (H : Hp) (spv : SpV) (u : Value) (s' : Shared) : Prop :=
  ∃ (a L : Addr) (gn : Nat) (c : Code), u = .ref a ∧ s.heap.objs.size ≤ L ∧ s'.heap.IsGen a gn ∧ s'.gens[gn]? = some (.fresh c) ∧ s'.os = s.os ∧ AllBare s'.gens ∧ (∀ b o, s.heap.get? b = some o → s'.heap.get? b = some o) ∧
    ∀ (A : Around) (s2 : Shared), Room k A → A.guards = some [] → A.frames = some outer → (∀ b o, s'.heap.get? b = some o → s2.heap.get? b = some o) → s2.os = s.os → AllBare s2.gens →
      ∃ X, GCtx P w K mg base outer L a gn X ∧ ∀ (Lk : LkR) (k0 : L2.St) (yl : YLk) (fin : L2.St → Hp → Prop), Lk s2 k0 H → spv k0 yl fin → Seg (model P w) A (KEnd X Lk fin) (KYp X Lk yl) sizeLine s2 c ((model P w).den c) [] s2
abbrev SpK := List V → Hp → SpV
structure GKn (P : Program) (w : World) (K : PySem.W.Frag) (mg : Str → Option Value) (base : Heap) (k : Nat) (f : Addr) (fd : FuncData) (ps : List Str) (sp : SpK) : Prop where
  run : ∀ (A : Around) (outer : List Env) (s : Shared) (H : Hp) (args : Args) (us : List Value) (vs : List V), Room k A → A.guards = some [] → Env0 P w K mg base A outer s H → BindsTo s fd args (ps.zip us) → Vals vs us → vs.length = ps.length →
    codeAny (model P w) A (.call (.ref f) args) (fun r s' => match r with | .ok (.ret u) => GMk P w K mg base k outer s H (sp vs H) u s' | _ => False) s
theorem cells_none : ∀ {names : List (Str × NameKind)} {n : Nat} {acc : List (Str × Addr)}, (∀ y ∈ names, y.2 ≠ .cell) → cellsFrom n names acc = acc
  | [], _, _, _ => rfl
  | (x, kd) :: r, n, acc, h => by
    have h1 := h (x, kd) (List.mem_cons_self ..)
    unfold cellsFrom
    rw [if_neg (by simpa using h1)]
    exact cells_none fun y m => h y (List.mem_cons_of_mem _ m)
/-- a generator def, by its body -/
theorem gkn_of {g : Wd} {k : Nat} {f : Addr} {name qual : Str} {st : Stmt} {fd : FuncData} {dV : Value} {N ps : List Str} {sp : SpK} (F : Df g.K name qual st f fd dV) (S : GScope N ps (defScope st)) (nc : ∀ y ∈ (defScope st).names, y.2 ≠ .cell)
    (hbody : ∀ (cdv : Value) (A : Around) (outer : List Env) (s : Shared) (H : Hp) (vs : List V) (pn : List (Addr × Obj)), Rm k (gcxOf g.P g.w g.K g.mg g.base N qual (defScope st) f cdv A outer s H (fun _ _ _ => False) pn) →
      ∃ t, GKs (gcxOf g.P g.w g.K g.mg g.base N qual (defScope st) f cdv A outer s H (fun _ _ _ => False) pn) (defBody st) t ∧ ∀ k0 yl fin, sp vs H k0 yl fin → t { nx := fun _ k' _ H' => fin k' H', rt := fun _ k' v H' => v = .non ∧ fin k' H', yl := yl } 0 k0 (start N vs) H) :
    GKn g.P g.w g.K g.mg g.base (k + 1) f fd ps sp := by
  obtain ⟨oc, od, kV, doc, pm, an, cdv, ct, osl, rfl, lk, hcd⟩ := F.ex
  refine ⟨fun A outer s H args us vs hr hg e0 hb r hl => ?_⟩
  have kept : ∀ b o, g.base.get? b = some o → s.heap.get? b = some o := fun b o e => (e0.bs b o e).1
  have KX : g.K.In s.heap := e0.mod.kin.keeps kept
  have lim : s.heap.NoLimit := e0.mod.nolimit.keeps kept
  have hkind : ∀ y ∈ ps.zip us, (defScope st).names.lookup y.1 = some .local ∨ ((defScope st).names.lookup y.1 = some .cell ∧ ((cellsFrom (s.heap.objs.size + 1) (defScope st).names []).lookup y.1).isSome = true) := fun ⟨n, v⟩ hy =>
    (S.par n (List.of_mem_zip hy).1).imp id fun q => ⟨q, PySem.W.cellsFrom_some _ _ _ (.inl q)⟩
  refine codeAny_call_generator hr.depth (KX _ _ lk) rfl S.co S.gen rfl (PySem.W.codeRec_of KX hcd) (hb _ _ _ _ ?_)
  refine wpAny_newFunctionEnv_cells S.kind hkind ?_
  rintro env rfl s1 x
  refine ⟨lim.keeps x.toInCall.keep, ?_⟩
  obtain ⟨h1, tk, es1, hk1⟩ := x.done
  have kp1 : ∀ b o, s.heap.get? b = some o → s1.heap.get? b = some o := x.toInCall.keep
  have lt1 : s.heap.objs.size < s1.heap.objs.size := x.toInCall.ns.lt
  have main : ∀ (go : Obj) (nm qn : Value) (tk2 : Nat), go.cls = .type "generator" → go.data = .fields #[.int s1.gens.size 0, nm, qn] → go.slots = #[] → (∀ h : Heap, (h.push go).get? h.objs.size = some go) →
      GMk g.P g.w g.K g.mg g.base (k + 1) outer s H (sp vs H) (.ref s1.heap.objs.size) { s1 with gens := s1.gens.push (.fresh (.func (defBody st) (envOfC qual (defScope st) s.heap.objs.size f cdv))), toks := tk2, heap := s1.heap.push go } := by
    intro go nm qn tk2 hgc hgd hgs hgp
    have hgen : ∀ h : Heap, h.get? s1.heap.objs.size = some go → h.IsGen s1.heap.objs.size s1.gens.size := fun h e => ⟨go, nm, qn, e, hgc, hgd, hgs⟩
    refine ⟨s1.heap.objs.size, s.heap.objs.size, s1.gens.size, _, rfl, Nat.le_refl _, hgen _ (hgp _), Array.getElem?_push_size .., by rw [es1], AllBare.push (by rw [es1]; exact e0.bare) rfl, fun b o e => Heap.get?_push_of_some _ (kp1 b o e), ?_⟩
    intro Aw s2 hrw hgw hfr hk2 hos hba
    have e0w : Env0 g.P g.w g.K g.mg g.base Aw outer s H := ⟨hfr, e0.mod, e0.bs, e0.bsz, e0.funs, e0.frf, e0.hok, e0.bare⟩
    have kp2 : ∀ b o, s1.heap.get? b = some o → s2.heap.get? b = some o := fun b o e => hk2 b o (Heap.get?_push_of_some _ e)
    have kp : ∀ b o, s.heap.get? b = some o → s2.heap.get? b = some o := fun b o e => kp2 b o (kp1 b o e)
    have e2 : Env0 g.P g.w g.K g.mg g.base Aw outer s2 H := by
      refine ⟨hfr, e0.mod, fun b o e => ⟨kp b o (e0.bs b o e).1, (e0.bs b o e).2⟩, Nat.le_trans e0.bsz ?_, e0.funs.of_keeps fun b o e _ => ⟨o, kp b o e, rfl⟩, e0.frf, e0.hok.kept kp, hba⟩
      have z : s1.heap.objs.size < s2.heap.objs.size := Heap.lt_size (hk2 _ _ (hgp s1.heap))
      exact Nat.le_of_lt (Nat.lt_trans lt1 z)
    obtain ⟨t, ht, hq⟩ := hbody cdv Aw outer s H vs [(s1.heap.objs.size, go)] ⟨hrw.deeper _, hgw⟩
    have I1 : Inv (gcxOf g.P g.w g.K g.mg g.base N qual (defScope st) f cdv Aw outer s H (fun _ _ _ => False) []) [] (start N vs) H s1 := inv_startG S hrw.hd e0w hl r x
    have hcl : (gcxOf g.P g.w g.K g.mg g.base N qual (defScope st) f cdv Aw outer s H (fun _ _ _ => False) [(s1.heap.objs.size, go)]).env.cells = [] := cells_none nc
    have frl : ∀ c ∈ frs outer, c < s.heap.objs.size := fun c m => by
      obtain ⟨_, o, ho, _⟩ := e0.funs.mem m
      exact Heap.lt_size ho
    have hgs2 : s2.heap.get? s1.heap.objs.size = some go := hk2 _ _ (hgp s1.heap)
    have Hgo : H s1.heap.objs.size = none := I1.hok.fresh (Nat.le_refl _)
    have I1' : Inv (gcxOf g.P g.w g.K g.mg g.base N qual (defScope st) f cdv Aw outer s H (fun _ _ _ => False) [(s1.heap.objs.size, go)]) [] (start N vs) H { s1 with heap := s1.heap.push go } := by
      have I2 := I1.kept (t' := s1.toks) (h' := s1.heap.push go) fun b o e => Heap.get?_push_of_some _ e
      refine Inv.pinnedG I2 fun p hp => ?_
      rw [List.mem_singleton.mp (show p ∈ [(s1.heap.objs.size, go)] from by simpa using hp)]
      exact ⟨hgp _, Hgo, Nat.ne_of_gt lt1, I1.nofs (Nat.le_refl _), fun v q => by rw [hgd] at q; cases q⟩
    obtain ⟨m1, hns, _⟩ := I1.loc
    obtain ⟨oL, es, ep, hoL, hdL, _⟩ := hns
    have I3 := rebase (X := gcxOf g.P g.w g.K g.mg g.base N qual (defScope st) f cdv Aw outer s H (fun _ _ _ => False) [(s1.heap.objs.size, go)]) (A := Aw) (oL := oL) (s4 := s2) (H4 := H) I1' hcl rfl e2 e0.bsz (Heap.get?_push_of_some _ hoL) (kp2 _ _ hoL) I1.free frl
      fun p hp => by
        have z : p ∈ [(s1.heap.objs.size, go)] ++ ([] : List (Addr × Obj)) := hp
        rw [List.append_nil] at z
        rw [List.mem_singleton.mp z]
        exact ⟨hgs2, Hgo⟩
    refine ⟨_, ⟨rfl, rfl, rfl, rfl, rfl, rfl, hcl, rfl, rfl, go, rfl, hgen⟩, fun Lk k0 yl fin hlk hsp => seg_func ?_⟩
    have lkl : LkL (gcxOf g.P g.w g.K g.mg g.base N qual (defScope st) f cdv Aw outer s H (fun _ _ _ => False) [(s1.heap.objs.size, go)]) Lk s2 k0 H := ⟨Nat.le_of_lt (Heap.lt_size (kp2 _ _ hoL)), hlk⟩
    refine ht.run Lk Aw [] _ sizeLine 0 k0 H s2 _ [] _ _ id id s2 (start N vs) H _ ⟨over_func, rfl, rfl, rfl⟩ rfl lkl (fun n i k' H0 s₀ s' fl hn lk' hs => ?_) I3 (hq k0 yl fin hsp)
    cases fl with
    | next =>
      obtain ⟨σ', H', hI, hQ⟩ := hs
      exact seg_end (.ok (.ret .none)) ⟨rfl, k', H0, [], σ', H', lk', hI, hQ⟩
    | brk => obtain ⟨_, _, _, q⟩ := hs; exact q.elim
    | cont => obtain ⟨_, _, _, q⟩ := hs; exact q.elim
    | ret u =>
      obtain ⟨v, σ', H', hI, rv, ev, hQ⟩ := hs
      subst ev
      have eu : u = Value.none := rv
      subst eu
      exact seg_end (.ok (.ret .none)) ⟨rfl, k', H0, [], σ', H', lk', hI, hQ⟩
  exact main _ _ _ _ rfl rfl rfl fun h => Heap.get?_push_size _ rfl
/-- an expression whose value is a generator that has not begun -/
abbrev TGk := L2.St → Hp → (SpV → Hp → Prop) → Prop
structure PK (X : Cx) (k : Nat) (e : Expr) (tg : TGk) : Prop where
  run : ∀ (pins : List (Addr × Obj)) (s : Shared) (σ : L2.St) (H : Hp) (Q : SpV → Hp → Prop), Inv X pins σ H s → tg σ H Q → wpAny (model X.prog X.w) X.A (eval e X.env)
    (fun u s' => ∃ H1 sc spv, Inv X pins σ H1 sc ∧ GMk X.prog X.w X.K X.mg X.base k X.stack sc H1 spv u s' ∧ Q spv H1) X.xe s
def tForK (tg : TGk) (gt : TG) (tb : TS) : TS := fun D σ H => tg σ H fun spv H1 => spv σ (fun _ k x H2 res => gt x k H2 fun σ2 H3 => tb { D with nx := res, ct := res, bk := D.nx } σ2 H3) D.nx
/-- for x in g: body -/
theorem ps_forK {Y : Cx} {k : Nat} {tg iter : Expr} {body : List Stmt} {pos : Pos} {tk : TGk} {gt : TG} {tb : TS} (hp : PassesOwn (model Y.prog Y.w) Y.A Y.env Y.xe) (hr : Rm (k + 1) Y) (he : PK Y k iter tk) (hg : PG Y tg gt) (hb : PSs Y body tb)
    (hs : ∀ x, foldedSetIterable iter Y.env x = pure x := by intro _; rfl) (hst : Y.stack = Y.env :: Y.outer := by rfl) (hfr : Y.env.frame = some Y.env.locals := by rfl) : PS Y (.For tg iter body [] pos) (tForK tk gt tb) := by
  refine ⟨fun pins s σ H D I h => ?_⟩
  refine wpAny_For (thn (he.run pins s σ H _ I h) fun u s' hu => ?_) hs
  obtain ⟨H1, sc, spv, Isc, ⟨a, L, gn, c, rfl, hL, hig, hgs, hos, hba, hkp, wake⟩, hq⟩ := hu
  refine wpAny_pyIter_gen hig ?_
  have szg : ∀ {s : Shared} {x : GenState} {y : GenState}, s.gens[gn]? = some x → gn < s.gens.size := fun {s x y} e => (Array.getElem?_eq_some_iff.mp e).1
  have gsz : gn < s'.gens.size := (Array.getElem?_eq_some_iff.mp hgs).1
  have Is' : Inv Y pins σ H1 s' := Isc.call' (ch := []) hos (Un.kept hkp) (Isc.hok.kept hkp) hba fun b z => by simp at z
  have bareR : ∀ {s : Shared} {x : GenState}, AllBare s.gens → x.bare = true → AllBare (s.setGen gn x).gens := fun h hx => allBare_setGen h hx
  have r1 : Room k Y.A.in1 := ⟨hr.room.hd, by have := hr.room.dp; show Y.A.depth + 3 * k + 5 < _; omega, by have := hr.room.un; show Y.A.units + 1 + 16 * k + 200 < _; omega⟩
  obtain ⟨X, GX, seg⟩ := wake Y.A.in1 (s'.setGen gn .running) r1 hr.gd Isc.ok.frames (fun b o e => e) hos (bareR hba rfl)
  have eL : X.env.locals = L := GX.loc
  let YL : YLk := fun _ k x H2 res => gt x k H2 fun σ2 H3 => tb { D with nx := res, ct := res, bk := D.nx } σ2 H3
  let Lk : LkR := fun s k H => Inv Y pins k H s
  have S0 := seg Lk σ YL D.nx (inv_gens Is' (bareR hba rfl)) hq
  -- what is older than the generator
  have l0 : Y.s_0.heap.objs.size ≤ X.env.locals := by rw [eL]; exact Nat.le_trans Isc.sz hL
  have l1 : Y.env.locals < X.env.locals := by rw [eL]; exact Nat.lt_of_lt_of_le Isc.lt hL
  have l2 : ∀ x c, Y.env.cells.lookup x = some c → c < X.env.locals := fun x c e => by
    obtain ⟨v, o, ho, _⟩ := Isc.cell x c e
    rw [eL]; exact Nat.lt_of_lt_of_le (Heap.lt_size ho) hL
  have l3 : ∀ p ∈ Y.pn ++ pins, p.1 < X.env.locals := fun p m => by
    rw [eL]; exact Nat.lt_of_lt_of_le (Heap.lt_size (Isc.pin p m).1) hL
  have lb : X.base.objs.size ≤ X.env.locals := by rw [GX.base]; exact Nat.le_trans Isc.ok.bsz l0
  have frl : ∀ c ∈ frs X.outer, c < X.env.locals := fun c m => by
    rw [GX.outer] at m
    obtain ⟨_, o, ho, _⟩ := Isc.stack.mem m
    rw [eL]; exact Nat.lt_of_lt_of_le (Heap.lt_size ho) hL
  have mF : Y.env.locals ∈ frs X.outer ∧ ∀ b, b ∈ Y.fs → b ∈ frs X.outer := by
    rw [GX.outer, hst]
    have e : frs (Y.env :: Y.outer) = Y.env.locals :: frs Y.outer := by
      show List.filterMap _ (Y.env :: Y.outer) = _
      rw [List.filterMap_cons, hfr]
      rfl
    rw [e]
    exact ⟨List.mem_cons_self .., fun b m => List.mem_cons_of_mem _ m⟩
  refine codeAny_forLoop_any (fun m s1 => ∃ gs, s1.gens[gn]? = some gs ∧ gs.Goes (model Y.prog Y.w) Y.A.in1 (KEnd X Lk D.nx) (KYp X (Lk) YL) m (.send .none) (s1.setGen gn .running) ∧ s1.heap.IsGen a gn ∧ s1.heap.NoLimit) ?_ sizeLine
    ⟨.fresh c, hgs, ⟨rfl, S0⟩, hig, Is'.nolimit⟩
  rintro m s1 ⟨gs, hg1, hgo, hig1, hl1⟩
  have sz1 : gn < s1.gens.size := (Array.getElem?_eq_some_iff.mp hg1).1
  refine wpAny_passesOwn hp (wpAny_gsz (n := gn + 1) sz1 ?_)
  refine nextS (F := fun _ s₀ s1 => KFin X Lk D.nx s₀ s1) hr.room.hd hl1 (by have := hr.room.dp; omega) hig1 hg1 hgo (fun v s2 gs' hbg hsu hv => ?_) fun s2 hf h' hk => ?_
  · intro hsz
    obtain ⟨i, k', H0, x, ip, σg, Hx, res, hn, rv, ⟨lL, Ik⟩, Ig, hy, hkap⟩ := hv
    have Ik : Inv Y pins k' H0 (s1.setGen gn .running) := Ik
    have Iy : Inv Y pins k' Hx s2 := backY Ik Ig GX.outer GX.P GX.w GX.ex l0 l1 l2 l3
    have sz2 : gn < s2.gens.size := by
      have : (s2.setGen gn gs').gens.size = s2.gens.size := setGen_size _ _ _
      have z : gn + 1 ≤ (s2.setGen gn gs').gens.size := hsz
      omega
    have b5 : AllBare (s2.setGen gn gs').gens := bareR Iy.bare hbg
    have g5 : (s2.setGen gn gs').gens[gn]? = some gs' := setGen_at sz2
    obtain ⟨go, epn, hgen⟩ := GX.pn
    obtain ⟨mg, hns, _⟩ := Ig.loc
    obtain ⟨oL, es, ep, hoL, hdL, _⟩ := hns
    have hoL : s2.heap.get? X.env.locals = some oL := hoL
    have gpin : ∀ p ∈ X.pn ++ ip, s2.heap.get? p.1 = some p.2 ∧ Hx p.1 = none ∧ p.1 ≠ X.env.locals ∧ p.1 ∉ frs X.outer ∧ ∀ v, p.2.data ≠ .cell v := fun p hm => Ig.pin p hm
    have pge : ∀ {b : Addr}, b ∉ frs X.outer → b ≠ Y.env.locals ∧ b ∉ Y.fs := fun n => ⟨fun z => n (by rw [z]; exact mF.1), fun z => n (mF.2 _ z)⟩
    have nL : X.env.locals ∉ frs X.outer := fun z => absurd (frl _ z) (Nat.lt_irrefl _)
    have HL : Hx X.env.locals = none := Ig.free
    have Ip : Inv Y (pins ++ ((X.env.locals, oL) :: (X.pn ++ ip))) k' Hx (s2.setGen gn gs') := (inv_gens Iy b5).pins_of fun p hp => by
      rcases List.mem_append.mp hp with z | z
      · exact Iy.pin p (List.mem_append_right _ z)
      · rcases List.mem_cons.mp z with z | z
        · rw [z]
          exact ⟨hoL, HL, (pge nL).1, (pge nL).2, fun v q => by rw [hdL] at q; cases q⟩
        · obtain ⟨h1, h2, h3, h4, h5⟩ := gpin p z
          exact ⟨h1, h2, (pge h4).1, (pge h4).2, h5⟩
    have pinned : ∀ {σ7 : L2.St} {H7 : Hp} {s7 : Shared}, Inv Y (pins ++ ((X.env.locals, oL) :: (X.pn ++ ip))) σ7 H7 s7 → (s7.heap.get? X.env.locals = some oL ∧ H7 X.env.locals = none) ∧ ∀ p ∈ X.pn ++ ip, s7.heap.get? p.1 = some p.2 ∧ H7 p.1 = none := fun {σ7 H7 s7} I7 =>
      ⟨⟨(I7.pin (X.env.locals, oL) (List.mem_append_right _ (List.mem_append_right _ (List.mem_cons_self ..)))).1, (I7.pin (X.env.locals, oL) (List.mem_append_right _ (List.mem_append_right _ (List.mem_cons_self ..)))).2.1⟩,
        fun p hp => ⟨(I7.pin p (List.mem_append_right _ (List.mem_append_right _ (List.mem_cons_of_mem _ hp)))).1, (I7.pin p (List.mem_append_right _ (List.mem_append_right _ (List.mem_cons_of_mem _ hp)))).2.1⟩⟩
    have mgo : (a, go) ∈ X.pn ++ ip := by rw [epn]; exact List.mem_append_left _ (List.mem_singleton.mpr rfl)
    obtain ⟨og, nm, qn, hog, hcg, hdg, hsg⟩ := hgen (s2.setGen gn gs').heap (gpin _ mgo).1
    refine go_of hog hcg hdg (by decide) ?_
    refine wpAny_passesOwn hp (thn (kept_asleep g5 hsu b5 (hg.run _ (s2.setGen gn gs') k' Hx x v _ Ip rv hy) fun G hG => hg.run _ { s2.setGen gn gs' with gens := G } k' Hx x v _ (inv_gens Ip hG) rv hy) fun _ s6 q => ?_)
    obtain ⟨⟨σ6, H6, I6, q6⟩, g6⟩ := q
    refine wpAny_passesOwn hp (thn (kept_asleep g6 hsu I6.bare (hb.run _ s6 σ6 H6 _ I6 q6) fun G hG => hb.run _ { s6 with gens := G } σ6 H6 _ (inv_gens I6 hG) q6) fun f s7 q => ?_)
    obtain ⟨q7, g7⟩ := q
    have less : ∀ {σ7 : L2.St} {H7 : Hp}, Inv Y (pins ++ ((X.env.locals, oL) :: (X.pn ++ ip))) σ7 H7 s7 → Inv Y pins σ7 H7 s7 := fun I7 => I7.pins_of fun p hp => I7.pin p (List.mem_append_right _ (List.mem_append_left _ hp))
    have again : ∀ {σ7 : L2.St} {H7 : Hp}, Inv Y (pins ++ ((X.env.locals, oL) :: (X.pn ++ ip))) σ7 H7 s7 → res σ7 H7 → ∃ m', m' < m ∧ ∃ gs, s7.gens[gn]? = some gs ∧ gs.Goes (model Y.prog Y.w) Y.A.in1 (KEnd X Lk D.nx) (KYp X Lk YL) m' (.send .none) (s7.setGen gn .running) ∧ s7.heap.IsGen a gn ∧ s7.heap.NoLimit := fun {σ7 H7} I7 r7 => by
      have b7 : AllBare (s7.setGen gn .running).gens := bareR I7.bare rfl
      obtain ⟨⟨p1, p2⟩, p3⟩ := pinned I7
      have J7 : Inv Y pins σ7 H7 (s7.setGen gn .running) := inv_gens (less I7) b7
      have e7 : Env0 X.prog X.w X.K X.mg X.base Y.A X.outer (s7.setGen gn .running) H7 := by
        rw [GX.P, GX.w, GX.K, GX.mg, GX.base, GX.outer]
        exact J7.env0
      have B7 : Inv (reX X (s7.setGen gn .running) H7) ip σg H7 (s7.setGen gn .running) := rebase Ig GX.cells GX.ex e7 lb hoL p1 p2 frl p3
      have z := hkap σ7 H7 (s7.setGen gn .running) ⟨Nat.le_of_lt (Heap.lt_size p1), J7⟩ B7 r7
      cases m with
      | zero => exact z.elim
      | succ m' => exact ⟨m', Nat.lt_succ_self _, gs', g7, z, hgen _ (p3 _ mgo).1, I7.nolimit⟩
    cases f with
    | next => obtain ⟨σ7, H7, I7, n7⟩ := q7; exact again I7 n7
    | cont => obtain ⟨σ7, H7, I7, n7⟩ := q7; exact again I7 n7
    | brk => obtain ⟨σ7, H7, I7, n7⟩ := q7; exact ⟨σ7, H7, less I7, n7⟩
    | ret w => obtain ⟨x7, σ7, H7, I7, r7, n7⟩ := q7; exact ⟨x7, σ7, H7, less I7, r7, n7⟩
  · intro _
    obtain ⟨k', H0, ip, σg, H', ⟨lL, Ik⟩, Ig, hfin⟩ := hf
    have Ik : Inv Y pins k' H0 (s1.setGen gn .running) := Ik
    have Iy : Inv Y pins k' H' s2 := backY Ik Ig GX.outer GX.P GX.w GX.ex l0 l1 l2 l3
    have I2 := (inv_gens Iy (G := (s2.setGen gn .finished).gens) (bareR Iy.bare rfl)).kept (t' := s2.toks) (h' := h') hk
    exact wpAny_execs_nil ⟨k', H', I2, hfin⟩
end RS
namespace RS
open PySem PySem.Spec L2 PyProof.Rows GenW
/-- the module holds a generator def x -/
def Kgf (g : Wd) (x : Str) (k : Nat) (ps : List Str) (ds : List V) (sp : SpK) : Prop :=
  ∃ f fd dsV, g.mg x = some (.ref f) ∧ PySem.W.keepIn g.K (.ref f) = true ∧ GKn g.P g.w g.K g.mg g.base k f fd ps sp ∧ Binds g.K fd ps dsV ∧ Vals ds dsV
def tKM (C : Addr) (m : Str) (n : Nat) (sp : SpK) (ds : List V) (ta : TE) (t : TA) : TGk := fun σ H Q => ta σ H fun x H1 => ∃ a dx fs, x = .ref a ∧ H1 a = some (.ins C dx fs) ∧ fs.lookup m = none ∧ t σ H1 fun vs H2 => (x :: (vs ++ ds)).length = n ∧ Q (sp (x :: (vs ++ ds)) H2) H2
def tKC (n : Nat) (sp : SpK) (ds : List V) (t : TA) : TGk := fun σ H Q => t σ H fun vs H1 => (vs ++ ds).length = n ∧ Q (sp (vs ++ ds) H1) H1
section
variable {g : Wd} {X : Cx} {C : Addr} {m x : Str} {k : Nat} {ps : List Str} {ds : List V} {sp : SpK} {o e : Expr} {es : List Expr} {ta : TE} {t : TA} {p apos pos : Pos}
theorem run_gkn {f : Addr} {fd : FuncData} {dsV : List Value} (F : GKn X.prog X.w X.K X.mg X.base k f fd ps sp) (hr : Rm k X) (hb : Binds X.K fd ps dsV) (hd : Vals ds dsV) {pins : List (Addr × Obj)} {σ : L2.St} {H : Hp} {s : Shared} {Q : SpV → Hp → Prop} {us : List Value} {vs : List V} {E1 : Value → Shared → Prop}
    (I : Inv X pins σ H s) (r : Vals vs us) (hl : (vs ++ ds).length = ps.length) (h : Q (sp (vs ++ ds) H) H) :
    wpAny (model X.prog X.w) X.A (call (.ref f) us) (fun u s' => ∃ H1 sc spv, Inv X pins σ H1 sc ∧ GMk X.prog X.w X.K X.mg X.base k X.stack sc H1 spv u s' ∧ Q spv H1) E1 s := by
  have r2 : Vals (vs ++ ds) (us ++ dsV) := r.append hd
  have hl2 : (us ++ dsV).length = ps.length := by rw [← r2.length]; exact hl
  refine wpAny_call (codeAny_mono (F.run X.A X.stack s H ⟨us, []⟩ (us ++ dsV) (vs ++ ds) hr.room hr.gd I.env0 (hb s us I.kIn hl2) r2 hl) fun r s' hq => ?_)
  cases r with
  | error e => exact False.elim hq
  | ok fl =>
    cases fl with
    | ret u => exact ⟨H, s, _, I, hq, h⟩
    | next => exact False.elim hq
    | brk => exact False.elim hq
    | cont => exact False.elim hq
theorem pk_call (F : Kgf g x k ps ds sp) (hr : Rm k X) (ha : PA X (e :: es) t) (hg : Gl X x := by rfl) (hdb : (x == ("__debug__" : Str)) = false := by decide)
    (he : starEach (e :: es) X.env = (false, eval e X.env) :: starEach es X.env := by rfl) (hpl : (backTo pos (starEach es X.env)).any (·.1) = false := by rfl) (at_ : At g X := by exact ⟨rfl, rfl, rfl, rfl, rfl⟩) :
    PK X k (.Call (.Name x p) (e :: es) [] pos) (tKC ps.length sp ds t) := by
  obtain ⟨f, fd, dsV, hm, hk, F, hb, rd⟩ := F
  obtain ⟨P, w, K, mg, base⟩ := g
  obtain ⟨rfl, rfl, rfl, rfl, rfl⟩ := at_
  refine ⟨fun pins s σ H Q I h => wpAny_Call_Name_kw (ld_glob I hg hm ?_ hdb)⟩
  refine PySem.W.callWith_K (h₀ := X.base) I.ok.mod.kin hk (thn (ha.run pos pins s σ H _ I h) ?_) he hpl
  rintro us s1 ⟨vs, H1, I1, r, hl, q⟩
  exact ⟨I1.kIn, run_gkn F hr hb rd I1 r hl q⟩
end
end RS
namespace RS
open PySem PySem.Spec L2 PyProof.Rows ClX
/-- the names of such a def: no cells of its own, __class__ alone is free -/
structure ScopeS (N P : List Str) (sc : Scope) : Prop where
  kind : sc.kind = .function
  co : sc.isCoroutine = false
  gen : sc.isGenerator = false
  nd : N.Nodup
  pre : N.take P.length = P
  par : ∀ x ∈ P, sc.names.lookup x = some .local
  cell : ∀ y ∈ sc.names, y.2 ≠ .cell
  free : ∀ y ∈ sc.names, y.2 = .free → y.1 = "__class__"
  cls : sc.names.lookup ("__class__" : Str) = some .free
  sup : sc.names.lookup ("super" : Str) = some .globalImplicit
abbrev envS (qual : Str) (scope : Scope) (L f cda cc : Addr) : Env := PySem.W.ksEnv qual scope L f (.ref cda) cc
/-- the context of its body -/
def cxS (g : Wd) (N : List Str) (qual : Str) (st : Stmt) (f cda cc : Addr) (A : Around) (outer : List Env) (s : Shared) (H : Hp) (E : XK) : Cx where
  prog := g.P
  w := g.w
  K := g.K
  mg := g.mg
  base := g.base
  A := A.deeper (envS qual (defScope st) s.heap.objs.size f cda cc)
  N := N
  s_0 := s
  H_0 := H
  env := envS qual (defScope st) s.heap.objs.size f cda cc
  outer := outer
  stack := envS qual (defScope st) s.heap.objs.size f cda cc :: outer
  ex := []
  calm := true
  fn := fun _ => false
  pn := []
  xe := fun e s' => wpAny (model g.P g.w) (A.deeper (envS qual (defScope st) s.heap.objs.size f cda cc)) (leaving (envS qual (defScope st) s.heap.objs.size f cda cc) e) (fun _ s'' => L2.CX g.P g.w outer H s E e s'') (fun e' s'' => L2.CX g.P g.w outer H s E e' s'') s'
/-- a method of the class at D, with super() in it -/
structure DfS (P : Program) (K : PySem.W.Frag) (x qual : Str) (st : Stmt) (f : Addr) (fd : FuncData) (cda cc D : Addr) : Prop where
  ex : ∃ (oc : Value) (od : Option Addr) (dV kV doc pm : Value) (an : Option Addr) (ct : Value) (osl : Array (Option Value)),
    fd = PySem.W.ksFn x qual (defArgs st) (defBody st) (defScope st) dV kV doc pm an (.ref cda) ct cc ∧ K.lookup f = some ⟨oc, od, .func fd, osl⟩ ∧ PySem.W.codeIn K (.ref cda) qual = true
  kp : PySem.W.keepIn K (.ref f) = true
  co : ∃ ccl cdd vs ccs file tf, K.lookup cda = some ⟨ccl, cdd, .fields vs, ccs⟩ ∧ vs[2]? = some (.str file tf) ∧ ((P.main.file : Str) == file) = true
  ce : ∃ cl cld csl, K.lookup cc = some ⟨cl, cld, .cell (some (.ref D)), csl⟩
  D : (PySem.W.clsIn K D).isSome = true
  op : PySem.W.nsIn K cStatics "thirdparty.any" = some none
  nt : (P.main.scope.names.lookup ("super" : Str)).isSome = false
theorem zip_rev_lookup : ∀ {ps : List Str} {us : List Value} {i : Nat} {p : Str} {u : Value}, ps.Nodup → ps[i]? = some p → us[i]? = some u → (ps.zip us).reverse.lookup p = some u
  | [], _, i, _, _, _, h, _ => by simp at h
  | _ :: _, [], i, _, _, _, _, h => by simp at h
  | q :: ps, w :: us, 0, p, u, nd, h1, h2 => by
    cases h1; cases h2
    rw [List.zip_cons_cons, List.reverse_cons, List.lookup_append]
    have : ((ps.zip us).reverse).lookup q = none := by
      rw [List.lookup_eq_none_iff]
      intro y hy
      have := (List.of_mem_zip (List.mem_reverse.mp hy)).1
      have ne : q ≠ y.1 := fun e => (List.nodup_cons.mp nd).1 (by rw [e]; exact this)
      simpa using ne
    rw [this]
    simp
  | q :: ps, w :: us, i + 1, p, u, nd, h1, h2 => by
    rw [List.zip_cons_cons, List.reverse_cons, List.lookup_append, zip_rev_lookup (List.nodup_cons.mp nd).2 (by simpa using h1) (by simpa using h2)]
    rfl
theorem inv_startS {g : Wd} {N ps : List Str} {qual : Str} {st : Stmt} {f cda cc D : Addr} {A : Around} {outer : List Env} {s : Shared} {H : Hp} {E : XK} {us : List Value} {vs : List V} {h₁ : Heap} {tk : Nat}
    (S : ScopeS N ps (defScope st)) (hce : ∃ cl cld csl, g.K.lookup cc = some ⟨cl, cld, .cell (some (.ref D)), csl⟩) (hd : A.handled = none) (e0 : Env0 g.P g.w g.K g.mg g.base A outer s H) (hl : vs.length = ps.length) (r : Vals vs us)
    (hns : h₁.Ns s.heap.objs.size fun y => (ps.zip us).reverse.lookup y) (kp : ∀ b o, s.heap.get? b = some o → h₁.get? b = some o) :
    Inv (cxS g N qual st f cda cc A outer s H E) [] (L2.start N vs) H { s with heap := h₁, toks := tk } := by
  have hpl : ps.length ≤ N.length := by have := congrArg List.length S.pre; rw [List.length_take] at this; omega
  have noA : ∀ b : Addr, b ∉ (cxS g N qual st f cda cc A outer s H E).ex := fun b z => absurd (show b ∈ ([] : List Addr) from z) (by simp)
  obtain ⟨cl, cld, csl, hcc⟩ := hce
  have hcb := e0.mod.kin _ _ hcc
  have one : ∀ {y : Str} {c : Addr}, (cxS g N qual st f cda cc A outer s H E).env.cells.lookup y = some c → y = "__class__" ∧ c = cc := fun {y c} h => by
    have h : ([("__class__", cc)] : List (Str × Addr)).lookup y = some c := h
    simp only [List.lookup_cons, List.lookup_nil] at h
    split at h
    · rename_i e
      cases h
      exact ⟨by simpa using e, rfl⟩
    · cases h
  refine ⟨⟨e0.mod, S.kind, rfl, rfl, Nat.le_refl _, fun y z c h1 h2 => (one h1).1.trans (one h2).1.symm, fun y hy => ?_, fun y c h _ => ?_, fun _ => hd, Around.frames_deeper e0.frames, .inr ⟨rfl, rfl⟩, fun b z => absurd z (noA b), e0.bs, e0.bsz, fun b _ _ => noA b, fun b z => absurd z (noA b), e0.funs, e0.frf⟩,
    rfl, e0.bare, Un.kept kp, ⟨_, hns, fun i y v h1 h2 h3 => ?_⟩, fun y c h => ?_, e0.hok.fresh (Nat.le_refl _), fun y c h => ?_, fun p hp => absurd (show p ∈ ([] : List (Addr × Obj)) from hp) (by simp), e0.hok.kept kp, ?_⟩
  · have hy : (defScope st).names.lookup y = some .cell ∨ (defScope st).names.lookup y = some .free := hy
    rcases hy with hy | hy
    · exact absurd rfl (S.cell _ (PySem.mem_of_lookup hy))
    · have e := S.free _ (PySem.mem_of_lookup hy) rfl
      have e : y = "__class__" := e
      subst e
      exact ⟨cc, rfl⟩
  · have h : false = true := h
    cases h
  · have hi : i < vs.length := by
      unfold L2.start at h2
      by_cases hi : i < vs.length
      · exact hi
      · rw [List.getElem?_append_right (by simpa using hi)] at h2
        rw [List.getElem?_replicate] at h2
        split at h2 <;> cases h2
    have ha : vs[i]? = some v := by
      unfold L2.start at h2
      rw [List.getElem?_append_left (by simpa using hi), List.getElem?_map] at h2
      cases e : vs[i]? with
      | none => rw [e] at h2; cases h2
      | some a => rw [e] at h2; cases h2; rfl
    obtain ⟨u, hu, rv⟩ := r.get ha
    have hp : ps[i]? = some y := by
      rw [← S.pre, List.getElem?_take_of_lt (by omega)]; exact h1
    have ndP : ps.Nodup := by rw [← S.pre]; exact S.nd.sublist (List.take_sublist _ _)
    exact ⟨u, rv, .inl ⟨S.par y (List.mem_of_getElem? hp), zip_rev_lookup ndP hp hu⟩⟩
  · obtain ⟨rfl, rfl⟩ := one h
    exact ⟨_, _, kp _ _ (e0.bs _ _ hcb).1, rfl⟩
  · obtain ⟨rfl, rfl⟩ := one h
    exact (e0.bs _ _ hcb).2
  · unfold L2.start
    show _ = N.length
    rw [List.length_append, List.length_map, List.length_replicate]
    omega
structure PSAs (X : Cx) (c : Code) (st : List Stmt) (t : TS) : Prop where
  run : ∀ (pins : List (Addr × Obj)) (s : Shared) (σ : L2.St) (H : Hp) (D : Ends), Inv X pins σ H s → t D σ H → PySem.wpAt (model X.prog X.w) X.A c (execs st X.env) (SP X pins D) X.xe s
/-- such a def keeps its promise -/
theorem DfS.ok {g : Wd} {x qual : Str} {st : Stmt} {f : Addr} {fd : FuncData} {cda cc D : Addr} {N ps : List Str} {k : Nat} {sp : Sp} (F : DfS g.P g.K x qual st f fd cda cc D) (S : ScopeS N ps (defScope st)) (len : ∀ vs H Q E, sp vs H Q E → vs.length = ps.length)
    (hbody : ∀ (A : Around) (outer : List Env) (s : Shared) (H : Hp) (vs : List V) (Q : VK) (E : XK), Rm k (cxS g N qual st f cda cc A outer s H E) → sp vs H Q E →
      ∃ t, PSAs (cxS g N qual st f cda cc A outer s H E) (.func (defBody st) (envS qual (defScope st) s.heap.objs.size f cda cc)) (defBody st) t ∧ t { nx := fun _ H' => Q .non H', rt := Q } (L2.start N vs) H) : FnG g (k + 1) f fd ps sp := by
  obtain ⟨oc, od, dV, kV, doc, pm, an, ct, osl, rfl, lk, hcd⟩ := F.ex
  refine ⟨len, fun A outer s H args us vs Q E hr hg e0 hb rv hsp => ?_⟩
  have kept : ∀ b o, g.base.get? b = some o → s.heap.get? b = some o := fun b o e => (e0.bs b o e).1
  have KX := e0.mod.kin.keeps kept
  refine ks_codeAny_call_defAt (fd := PySem.W.ksFn x qual (defArgs st) (defBody st) (defScope st) dV kV doc pm an (.ref cda) ct cc) (body := defBody st) (binds := ps.zip us) hr.depth (KX _ _ lk) rfl (e0.mod.nolimit.keeps kept) (PySem.W.codeRec_of KX hcd) rfl hb S.cell (fun y hy => S.par _ (List.of_mem_zip hy).1) (fun h₁ hns hk => ?_) S.co S.gen S.kind
  obtain ⟨t, ht, hq⟩ := hbody A outer s H vs Q E ⟨hr.deeper _, hg⟩ hsp
  have J : Inv (cxS g N qual st f cda cc A outer s H E) [] (L2.start N vs) H { s with heap := h₁, toks := s.toks + (ps.zip us).length } := inv_startS S F.ce hr.hd e0 (len _ _ _ _ hsp) rv hns hk
  refine ks_wpAt_mono (ht.run [] _ _ H _ J hq) ?_ fun _ _ z => z
  rintro fl s' hs
  cases fl with
  | ret u => obtain ⟨v, σ', H', I, r, q⟩ := hs; exact ⟨v, H', I.os, I.bare, I.base, I.hok, r, q⟩
  | next => obtain ⟨σ', H', I, q⟩ := hs; exact ⟨.non, H', I.os, I.bare, I.base, I.hok, rfl, q⟩
  | brk => obtain ⟨_, _, _, q⟩ := hs; exact q.elim
  | cont => obtain ⟨_, _, _, q⟩ := hs; exact q.elim
end RS
namespace RS
open PySem PySem.Spec L2 PyProof.Rows
end RS
namespace RS
open PySem PySem.Spec L2 PyProof.Rows GenW
/-- a generator that has not begun, to be woken in a later heap -/
def GMk2 (P : Program) (w : World) (K : PySem.W.Frag) (mg : Str → Option Value) (base : Heap) (k : Nat) (outer : List Env) (s : Shared) (spv : Hp → SpV) (u : Value) (s' : Shared) : Prop :=
  ∃ (a L : Addr) (gn : Nat) (c : Code), u = .ref a ∧ s.heap.objs.size ≤ L ∧ L < s'.heap.objs.size ∧ s.heap.objs.size ≤ a ∧ s'.heap.IsGen a gn ∧ s'.gens[gn]? = some (.fresh c) ∧ s'.os = s.os ∧ AllBare s'.gens ∧ (∀ b o, s.heap.get? b = some o → s'.heap.get? b = some o) ∧
    ∀ (A : Around) (s2 : Shared) (H2 : Hp), Room k A → A.guards = some [] → A.frames = some outer → (∀ b o, s'.heap.get? b = some o → s2.heap.get? b = some o) → s2.os = s.os → Env0 P w K mg base A outer s2 H2 → H2 L = none → H2 a = none →
      ∃ X, GCtx P w K mg base outer L a gn X ∧ ∀ (Lk : LkR) (k0 : L2.St) (yl : YLk) (fin : L2.St → Hp → Prop), Lk s2 k0 H2 → spv H2 k0 yl fin → Seg (model P w) A (KEnd X Lk fin) (KYp X Lk yl) sizeLine s2 c ((model P w).den c) [] s2
structure GKn2 (P : Program) (w : World) (K : PySem.W.Frag) (mg : Str → Option Value) (base : Heap) (k : Nat) (f : Addr) (fd : FuncData) (ps : List Str) (sp : SpK) : Prop where
  run : ∀ (A : Around) (outer : List Env) (s : Shared) (H : Hp) (args : Args) (us : List Value) (vs : List V), Room k A → A.guards = some [] → Env0 P w K mg base A outer s H → BindsTo s fd args (ps.zip us) → Vals vs us → vs.length = ps.length →
    codeAny (model P w) A (.call (.ref f) args) (fun r s' => match r with | .ok (.ret u) => GMk2 P w K mg base k outer s (sp vs) u s' | _ => False) s
/-- an expression whose value is such a generator -/
abbrev TGk2 := L2.St → Hp → ((Hp → SpV) → Hp → Prop) → Prop
/-- the module holds a generator def x -/
def Kgf2 (g : Wd) (x : Str) (k : Nat) (ps : List Str) (ds : List V) (sp : SpK) : Prop :=
  ∃ f fd dsV, g.mg x = some (.ref f) ∧ PySem.W.keepIn g.K (.ref f) = true ∧ GKn2 g.P g.w g.K g.mg g.base k f fd ps sp ∧ Binds g.K fd ps dsV ∧ Vals ds dsV
def tKM2 (C : Addr) (m : Str) (n : Nat) (sp : SpK) (ds : List V) (ta : TE) (t : TA) : TGk2 := fun σ H Q => ta σ H fun x H1 => ∃ a dx fs, x = .ref a ∧ H1 a = some (.ins C dx fs) ∧ fs.lookup m = none ∧ t σ H1 fun vs H2 => (x :: (vs ++ ds)).length = n ∧ Q (sp (x :: (vs ++ ds))) H2
def tKC2 (n : Nat) (sp : SpK) (ds : List V) (t : TA) : TGk2 := fun σ H Q => t σ H fun vs H1 => (vs ++ ds).length = n ∧ Q (sp (vs ++ ds)) H1
def rmH (H : Hp) (B : Addr) : Hp := fun b => if b = B then none else H b
def YLc (g : TG) (tt : TT) (te : TE) (vs : List Nat) (σ : L2.St) (D B : Addr) : YLk := fun _ _ x Hx res => (∃ xs, Hx D = some (.lst xs)) ∧ g x (wipe σ vs) (rmH Hx B) fun σ2 H2 => wipe σ2 vs = wipe σ vs ∧ tt σ2 H2 fun b H3 =>
  if b = true then te σ2 H3 fun y H4 => H4 B = none → ∃ acc, H4 D = some (.lst acc) ∧ acc.length < sizeLine ∧ ∀ o', res (wipe σ vs) (upd (upd H4 D (.lst (acc ++ [y]))) B (.frz o' (.own B))) else (∃ acc, H3 D = some (.lst acc)) ∧ ∀ o', res (wipe σ vs) (upd H3 B (.frz o' (.own B)))
def tLcK (tk : TGk2) (g : TG) (tt : TT) (te : TE) (vs : List Nat) : TE := fun σ H Q => tk σ H fun spv H1 => ∀ D, H1 D = none → ∀ B o, H1 B = none → B ≠ D → spv (upd (upd H1 D (.lst [])) B (.frz o (.own B))) (wipe σ vs) (YLc g tt te vs σ D B) (fun _ Hx => (∃ xs, Hx D = some (.lst xs)) ∧ Q (.ref D) (rmH Hx B))
end RS
namespace RS
open PySem PySem.Spec L2 PyProof.Rows
def tMethStar (K : PySem.W.Frag) (C : Addr) (m : Str) (sp : Sp) (W : WX) (ta te : TE) : TE := fun σ H Q => ta σ H fun x H1 => ∃ a dx fs, x = .ref a ∧ H1 a = some (.ins C dx fs) ∧ fs.lookup m = none ∧
  ∀ f q, H1 q = none → te σ (upd H1 q (.met f a)) fun y H2 => ∃ b vs, y = .ref b ∧ (SqT K H2 b vs ∨ SqL K H2 b vs) ∧ H2 q = some (.met f a) ∧ sp (.ref a :: vs) H2 Q (fun c d H' => W c d σ H')
def tKCK2 (n : Nat) (sp : SpK) (pm : List Nat) (t : TA) : TGk2 := fun σ H Q => t σ H fun zs H1 => zs.length = n ∧ Q (sp (pm.map fun i => zs.getD i .non)) H1
/-- a dict that is held fast from here on -/
def tLk (t : TE) : TE := fun σ H Q => t σ H fun x H1 => ∃ d u, x = .ref d ∧ H1 d = some u ∧ Mut (some u) ∧ ∀ o, Q x (upd H1 d (.frz o u))
end RS
namespace RS
open PySem PySem.Spec L2 PyProof.Rows HT
end RS
set_option autoImplicit true
namespace RS
open PySem PySem.Spec L2
section
variable {X : Cx} {o : Expr} {to : TE}
/-- x.isdigit(), of a text -/
def tDig (to : TE) : TE := fun σ H Q => to σ H fun x H1 => ∃ a, x = .str a ∧ Q (.bl (Txt.isdigit a)) H1
end
end RS
namespace RS
open PySem PySem.Spec L2 PyProof.Rows GenW
abbrev SpX := List V → Hp → XK → Prop
/-- an expression whose value is such a generator -/
abbrev TGkX := L2.St → Hp → ((Hp → XK → Prop) → Hp → Prop) → Prop
def tKMX (C : Addr) (m : Str) (n : Nat) (sp : SpX) (ds : List V) (ta : TE) (t : TA) : TGkX := fun σ H Q => ta σ H fun x H1 => ∃ a dx fs, x = .ref a ∧ H1 a = some (.ins C dx fs) ∧ fs.lookup m = none ∧ t σ H1 fun vs H2 => (x :: (vs ++ ds)).length = n ∧ Q (sp (x :: (vs ++ ds))) H2
def tKCX (n : Nat) (sp : SpX) (ds : List V) (t : TA) : TGkX := fun σ H Q => t σ H fun vs H1 => (vs ++ ds).length = n ∧ Q (sp (vs ++ ds)) H1
def tLcX (K : PySem.W.Frag) (tk : TGkX) (W : WX) : TE := fun σ H _ => tk σ H fun spx H1 => ∀ D, H1 D = none → ∀ B o, H1 B = none → B ≠ D →
  spx (upd (upd H1 D (.lst [])) B (.frz o (.own B))) fun c d Hx => PySem.W.subIn K c (.type "StopIteration") = some false ∧ W c d σ (rmH Hx B)
end RS
namespace RS
open PySem PySem.Spec L2 PyProof.Rows
end RS
namespace RS
open PySem PySem.Spec L2 PyProof.Rows GenW
end RS
namespace RS
open PySem PySem.Spec L2 PyProof.Rows GenW
end RS
namespace RS
open PySem PySem.Spec L2 PyProof.Rows GenW
abbrev SpVY := L2.St → YLk → (L2.St → Hp → Prop) → (L2.St → XK) → Prop
abbrev SpY := List V → Hp → SpVY
abbrev KEndY (X : Cx) (Lk : LkR) (fin : L2.St → Hp → Prop) (ex : L2.St → XK) (a : Addr) (gn : Nat) : GenEnd := fun n s₀ r s1 => (r = .ok (.ret .none) ∧ KFin X Lk fin s₀ s1) ∨
  ∃ e, r = .error e ∧ ∃ k H0, LkL X Lk s₀ k H0 ∧ CX X.prog X.w X.outer H0 (tr X.env.locals s₀) (ex k) e s1 ∧ s1.heap.IsGen a gn
def GMkY (P : Program) (w : World) (K : PySem.W.Frag) (mg : Str → Option Value) (base : Heap) (k : Nat) (outer : List Env) (s : Shared) (spv : Hp → SpVY) (u : Value) (s' : Shared) : Prop :=
  ∃ (a L : Addr) (gn : Nat) (c : Code), u = .ref a ∧ s.heap.objs.size ≤ L ∧ L < s'.heap.objs.size ∧ s.heap.objs.size ≤ a ∧ s'.heap.IsGen a gn ∧ s'.gens[gn]? = some (.fresh c) ∧ s'.os = s.os ∧ AllBare s'.gens ∧ (∀ b o, s.heap.get? b = some o → s'.heap.get? b = some o) ∧
    ∀ (A : Around) (s2 : Shared) (H2 : Hp), Room k A → A.guards = some [] → A.frames = some outer → (∀ b o, s'.heap.get? b = some o → s2.heap.get? b = some o) → s2.os = s.os → Env0 P w K mg base A outer s2 H2 → H2 L = none → H2 a = none →
      ∃ X, GCtx P w K mg base outer L a gn X ∧ ∀ (Lk : LkR) (k0 : L2.St) (yl : YLk) (fin : L2.St → Hp → Prop) (ex : L2.St → XK), Lk s2 k0 H2 → spv H2 k0 yl fin ex → Seg (model P w) A (KEndY X Lk fin ex a gn) (KYp X Lk yl) sizeLine s2 c ((model P w).den c) [] s2
structure GKnY (P : Program) (w : World) (K : PySem.W.Frag) (mg : Str → Option Value) (base : Heap) (k : Nat) (f : Addr) (fd : FuncData) (ps : List Str) (sp : SpY) : Prop where
  run : ∀ (A : Around) (outer : List Env) (s : Shared) (H : Hp) (args : Args) (us : List Value) (vs : List V), Room k A → A.guards = some [] → Env0 P w K mg base A outer s H → BindsTo s fd args (ps.zip us) → Vals vs us → vs.length = ps.length →
    codeAny (model P w) A (.call (.ref f) args) (fun r s' => match r with | .ok (.ret u) => GMkY P w K mg base k outer s (sp vs) u s' | _ => False) s
end RS
namespace RS
open PySem PySem.Spec L2 PyProof.Rows GenW
end RS
namespace RS
open PySem PySem.Spec L2 PyProof.Rows GenW
/-- the module holds a generator def x that raises -/
def KgfY (g : Wd) (x : Str) (k : Nat) (ps : List Str) (ds : List V) (sp : SpY) : Prop :=
  ∃ f fd dsV, g.mg x = some (.ref f) ∧ PySem.W.keepIn g.K (.ref f) = true ∧ GKnY g.P g.w g.K g.mg g.base k f fd ps sp ∧ Binds g.K fd ps dsV ∧ Vals ds dsV
/-- it does not raise -/
def noX : L2.St → XK := fun _ _ _ _ => False
theorem GKnY.calm {P : Program} {w : World} {K : PySem.W.Frag} {mg : Str → Option Value} {base : Heap} {k : Nat} {f : Addr} {fd : FuncData} {ps : List Str} {sp : SpY} (F : GKnY P w K mg base k f fd ps sp) : GKn2 P w K mg base k f fd ps (fun vs H k0 yl fin => sp vs H k0 yl fin noX) := by
  refine ⟨fun A outer s H args us vs hr hg e0 hb r hl => codeAny_mono (F.run A outer s H args us vs hr hg e0 hb r hl) fun r s' hq => ?_⟩
  cases r with
  | error e => exact False.elim hq
  | ok fl =>
    cases fl with
    | ret u =>
      obtain ⟨a, L, gn, c, eu, hL, hL2, ha, hig, hgs, hos, hba, hkp, wake⟩ := hq
      refine ⟨a, L, gn, c, eu, hL, hL2, ha, hig, hgs, hos, hba, hkp, fun A s2 H2 h1 h2 h3 h4 h5 h6 h7 h8 => ?_⟩
      obtain ⟨X, GX, seg⟩ := wake A s2 H2 h1 h2 h3 h4 h5 h6 h7 h8
      refine ⟨X, GX, fun Lk k0 yl fin lk hs => seg_imp (fun n s₀ r t z => ?_) (fun _ _ _ _ _ _ h z => by
        obtain ⟨i, k, H0, x, ip, σ, H, res, a1, a2, a3, a4, a5, a6⟩ := z
        exact ⟨i, k, H0, x, ip, σ, H, res, a1, a2, a3, a4, a5, fun k' H' s' b1 b2 b3 => h _ _ (a6 k' H' s' b1 b2 b3)⟩) sizeLine (seg Lk k0 yl fin noX lk hs)⟩
      rcases z with z | ⟨e, _, k, H0, _, cx, _⟩
      · exact z
      · obtain ⟨_, _, _, _, _, _, _, _, _, _, _, _, z⟩ := cx
        exact z.elim
    | next => exact False.elim hq
    | brk => exact False.elim hq
    | cont => exact False.elim hq
theorem KgfY.calm {g : Wd} {x : Str} {k : Nat} {ps : List Str} {ds : List V} {sp : SpY} (h : KgfY g x k ps ds sp) : Kgf2 g x k ps ds (fun vs H k0 yl fin => sp vs H k0 yl fin noX) := by
  obtain ⟨f, fd, dsV, a, b, c, d, e⟩ := h
  exact ⟨f, fd, dsV, a, b, c.calm, d, e⟩
end RS
namespace RS
open PySem PySem.Spec L2 PyProof.Rows ClX
end RS
namespace RS
open PySem PySem.Spec L2 PyProof.Rows
end RS
namespace RS
open PySem PySem.Spec L2 PyProof.Rows ClX
end RS
namespace RS
open PySem PySem.Spec L2 PyProof.Rows GenW
end RS
namespace RS
open PySem PySem.Spec L2 PyProof.Rows
/-- what the clause wishes of an exception: it is kept, as a value -/
def wKeep1 (K : PySem.W.Frag) (c : Value) (i : Nat) (ts : Addr → Value → Option Addr → TS) (Wout : WX) (D : Ends) : WX := fun cls d σ H =>
  ∃ b, PySem.W.exmOne K cls c = some b ∧ (b = true → ∃ C, cls = .ref C ∧ ∀ a, H a = none → ts a cls d { nx := fun σ' H' => H' a = none → D.nx (σ'.set i none) (upd H' a (exv a C d)), rt := fun _ _ => False, bk := fun _ _ => False, ct := fun _ _ => False } (σ.set i (some (.ref a))) H) ∧
    (b = false → Wout cls d σ H)
section
variable {X : Cx} {x1 n : Str} {C1 : Addr} {i : Nat} {body suite : List Stmt} {b₀ : Stmt} {q1 pos pos' : Pos} {tb : WX → TS} {ts : Addr → Value → Option Addr → TS} {Wout : WX}
theorem ps_try_keep1 (hs : X.stack = X.env :: X.outer) (hf : X.env.frame = some X.env.locals) (hex : X.ex = []) (hN : X.N.Nodup) (hi : X.N[i]? = some n) (hln : X.env.kindOf n = some .local) (g1 : Names X x1 (.ref C1)) (tk : Takes X Wout)
    (hb : ∀ (W : WX) (pn : List (Addr × Obj)) (xe : Value → Shared → Prop), Takes (X.tr pn xe) W → PassesOwn (model X.prog X.w) X.A X.env xe → PSs (X.tr pn xe) body (tb W))
    (hsu : ∀ (a : Addr) (oe : Obj) (cls : Value) (d : Option Addr) (pn : List (Addr × Obj)), Zc cls d oe → (∃ vs, oe.data = .fields vs) → PSs (X.suite a ((a, oe) :: pn)) (b₀ :: suite) (ts a cls d)) :
    PS X (.Try body [.ExceptHandler (some (.Name x1 q1)) (some n) (b₀ :: suite) pos'] [] [] pos) (fun D σ H => tb (wKeep1 X.K (.ref C1) i ts Wout D) D σ H) := by
  refine ⟨fun pins s σ H D I h => ?_⟩
  have ok := I.ok
  have hfr : X.A.frames = some (X.env :: X.outer) := by rw [ok.frames, hs]
  refine wpAny_Try_except ?_
  let clause : ExceptHandler := .ExceptHandler (some (.Name x1 q1)) (some n) (b₀ :: suite) pos'
  let M := model X.prog X.w
  let xe' : Value → Shared → Prop := fun e s₁ => wpAny M X.A (noteFrame e X.env) (fun _ s₂ => wpAny M X.A (setFlight e none) (fun _ s₃ => wpAny M X.A (handleBy e X.env [clause]) (SP X pins D) X.xe s₃) X.xe s₂) X.xe s₁
  have run := (hb (wKeep1 X.K (.ref C1) i ts Wout D) (X.pn ++ pins) xe' (fun u s' xx => ?caught) PassesOwn.looking).run [] s σ H D (I.toTry _) h
  · refine wpAny_mono run (fun f s1 hsp => ?_) (fun e s1 he => he)
    cases f with
    | next =>
      obtain ⟨σ', H', J', q⟩ := hsp
      exact wpAny_execs_nil ⟨σ', H', J'.ofTry ok, q⟩
    | brk =>
      obtain ⟨σ', H', J', q⟩ := hsp
      exact ⟨σ', H', J'.ofTry ok, q⟩
    | cont =>
      obtain ⟨σ', H', J', q⟩ := hsp
      exact ⟨σ', H', J'.ofTry ok, q⟩
    | ret u =>
      obtain ⟨v, σ', H', J', r, q⟩ := hsp
      exact ⟨v, σ', H', J'.ofTry ok, r, q⟩
  case caught =>
    obtain ⟨a, B, sI, pins', σ', H', cls, d, rfl, J', nb, up, sky, na, os, ag, b, hb1, hyes, hno⟩ := xx
    have J : Inv X pins σ' H' sI := J'.ofTry ok
    have sky' : Sky B (X.env :: X.outer) a (Zc cls d) X.env.locals s'.heap := by rw [← hs]; exact sky
    have nB := sky_none sky'
    show wpAny M X.A (noteFrame (.ref a) X.env) _ _ _
    refine Sky.land Zc.steady hfr hf sky' fun h3 fl3 up3 => ?_
    have land : ∀ h, HandSPX.FlyingZ B (X.env :: X.outer) a (Zc cls d) h → s'.heap.UpToSlots h → Inv X pins σ' H' { s' with heap := h } := fun h fl u => J.landed nb fl.1 (up.trans u) os ag
    have J3 := land h3 fl3 up3
    obtain ⟨oe3, vs3, he3, hz3, hd3⟩ := fl3.there
    have nfr : a ∉ frs (X.env :: X.outer) := fun hm => by
      obtain ⟨_, o', e', hnf⟩ := fl3.2.2.1.mem hm
      rw [he3] at e'
      cases e'
      exact hnf _ hd3
    have nL : a ≠ X.env.locals := fun z => nfr (List.mem_filterMap.mpr ⟨X.env, List.mem_cons_self, by rw [hf, z]⟩)
    have nF : a ∉ X.fs := fun hm => by
      obtain ⟨e, he, q⟩ := List.mem_filterMap.mp hm
      exact nfr (List.mem_filterMap.mpr ⟨e, List.mem_cons_of_mem _ he, q⟩)
    have nI : sI.heap.get? a = none := by
      cases z : sI.heap.get? a with
      | none => rfl
      | some o =>
        have := nb a o z (by rw [hs]; exact nfr)
        rw [nB] at this; cases this
    have n0 : X.s_0.heap.get? a = none := by
      cases z : X.s_0.heap.get? a with
      | none => rfl
      | some o =>
        obtain ⟨o', z'⟩ := J.base.there a o z (by rw [hex]; simp)
        rw [nI] at z'; cases z'
    have npin : ∀ p ∈ X.pn ++ pins, p.1 ≠ a := fun p hp z => by
      have := (J.pin p hp).1
      rw [z, nI] at this; cases this
    have S3 := J3.suite he3 hd3 na nL nF
    refine wpAny_handleBy_cons (codeAny_handlers_test ?_) (by intro q; cases q)
    have LT : PySem.W.Looks M h3 (typeOf (.ref a)) cls := fun A Q E s k q => wpAny_typeOf_ref (k _ _ he3) (by rw [hz3.1]; exact q)
    have ld : ∀ {x : Str} {C : Addr} {np : Pos} {Q : Value → Shared → Prop} {E : Value → Shared → Prop}, Names X x (.ref C) → Q (.ref C) { s' with heap := h3 } → wpAny M (X.A.mark (some (.ref a))) (eval (.Name x np) X.env) Q E { s' with heap := h3 } := fun {x C np Q E} hc q => by
      obtain ⟨hg, hdbg, hm | ⟨hm, hv, hnn⟩⟩ := hc
      · exact ld_glob (X := X.suite a ((a, oe3) :: (X.pn ++ pins))) S3 hg hm q hdbg
      · exact ld_blt (X := X.suite a ((a, oe3) :: (X.pn ++ pins))) S3 hg hm hv q hnn hdbg
    refine ld g1 ?_
    refine (PySem.W.exm_one (M := M) J3.kIn LT hb1).here ?_
    have fl := fl3
    have upk := up3
    cases b with
    | true =>
      obtain ⟨C, rfl, hyes⟩ := hyes rfl
      refine codeAny_handlers_suite_as ?_
      refine HandSPX.lands_againZ fl fun h4 fl4 up4 => ?_
      have J4 := land h4 fl4 (upk.trans up4)
      obtain ⟨oe4, vs4, he4, hz4, hd4⟩ := fl4.there
      have S4 := J4.suite he4 hd4 na nL nF
      refine store_ok (X := X.suite a ((a, oe4) :: (X.pn ++ pins))) (v := .ref a) S4 hN hi (.inl hln) rfl (fun s5 S5 => ?_) (.inr hln)
      refine wpAny_mono ((hsu a oe4 (.ref C) d (X.pn ++ pins) hz4 ⟨_, hd4⟩).run [] s5 _ H' _ S5 (hyes a na)) (fun f s6 hsp => ?_) (fun _ _ z => False.elim z)
      cases f with
      | next =>
        obtain ⟨σ6, H6, S6, q6⟩ := hsp
        have p6 := S6.pin (a, oe4) (List.mem_append_left _ (List.mem_cons_self ..))
        have Jp : Inv X ((a, oe4) :: pins) σ6 H6 s6 := ⟨ok, S6.os, S6.bare, S6.base, S6.loc, S6.cell, S6.free, S6.freeC, fun p hp => by
          rcases List.mem_append.mp hp with z | z
          · exact S6.pin p (List.mem_append_left _ (List.mem_cons_of_mem _ (List.mem_append_left _ z)))
          · rcases List.mem_cons.mp z with z | z
            · rw [z]; exact p6
            · exact S6.pin p (List.mem_append_left _ (List.mem_cons_of_mem _ (List.mem_append_right _ z))), S6.hok, S6.len⟩
        refine gone_ok Jp hN hi hln fun s7 J7 => ?_
        obtain ⟨e7, n7, l7, f7, c7⟩ := J7.pin (a, oe4) (List.mem_append_right _ (List.mem_cons_self ..))
        have J8 : Inv X pins (σ6.set i none) H6 s7 := ⟨ok, J7.os, J7.bare, J7.base, J7.loc, J7.cell, J7.free, J7.freeC, fun p hp => J7.pin p ((List.mem_append.mp hp).elim (List.mem_append_left _) fun z => List.mem_append_right _ (List.mem_cons_of_mem _ z)), J7.hok, J7.len⟩
        refine ⟨_, _, track (u := exv a C d) J8 n7 n0 l7 (fun x c hc z => ?_) npin (exv_ok e7 hz4.1 hz4.2 hd4), q6 n7⟩
        obtain ⟨v, o, ho, hd⟩ := J7.cell x c hc
        rw [z, e7] at ho
        cases ho
        exact c7 v hd
      | brk =>
        obtain ⟨σ6, H6, S6, q6⟩ := hsp
        exact q6.elim
      | cont =>
        obtain ⟨σ6, H6, S6, q6⟩ := hsp
        exact q6.elim
      | ret u =>
        obtain ⟨v6, σ6, H6, S6, r6, q6⟩ := hsp
        exact q6.elim
    | false =>
      show wpAny _ X.A (handleBy (.ref a) X.env []) _ _ _
      refine wpAny_handleBy_nil ?_
      have fl' := fl
      obtain ⟨k1, k2, k3, oe, vs, T, oT, ts', he, hz, hd, h1, hr⟩ := fl'
      unfold PySem.passOn
      refine wpAny_bind (wpAny_field he hd h1 ?_)
      rw [if_neg (show ¬ ((Value.ref T == Value.none) = true) from by simp)]
      have fin : wpAny M X.A (setFlight (.ref a) X.env.frame) (fun _ s4 => wpAny M X.A (throw (.ref a) : Sem Flow) (SP X pins D) X.xe s4) X.xe { s' with heap := h3 } := by
        rw [hf]
        refine HandSPX.setFlight_upZ fl fun h4 hh4 up4 => wpAny_throw (tk _ _ ?_)
        exact ⟨a, B, sI, pins, σ', H', cls, d, rfl, J, nb, up.trans (upk.trans up4), .inr (.inr (by rw [hs]; exact hh4)), na, os, ag, hno rfl⟩
      first
        | exact wpAny_bind (wpAny_pure (wpAny_bind fin))
        | exact wpAny_bind fin
end
end RS
namespace PySem.SeqAt
open PySem PySem.MeetsSeq
end PySem.SeqAt
namespace RS
open PySem PySem.Spec L2 PyProof.Rows
end RS
namespace PySem.W
open PySem PySem.Spec PyProof.Rows PyProof.V PyProof
end PySem.W
namespace RS
open PySem PySem.Spec L2 PyProof.Rows LamX
end RS
namespace RS
open PySem PySem.Spec L2 PyProof.Rows
section
variable {X : Cx}
def rStrA : List V → Hp → VK → Prop := fun xs H Q => (∃ i, xs = [.int i] ∧ i.natAbs.log2 < 1920 ∧ Q (.str (toString i)) H) ∨ (xs = [.non] ∧ Q (.str (Str.ofString "None")) H) ∨ ∃ b : Bool, xs = [.bl b] ∧ Q (.str (Str.ofString (if b then "True" else "False" : String))) H
theorem c_strA : CallR X (.type "str") rStrA := by
  intro pins s σ H xs us Q I r h
  rcases h with ⟨i, rfl, hz, q⟩ | ⟨rfl, q⟩ | ⟨b, rfl, q⟩
  · obtain ⟨u, rfl, t, rfl⟩ := vals1 r
    exact PySem.P.str_of_int hz ⟨.str _, H, I.tok _, ⟨_, rfl⟩, q⟩
  · obtain ⟨u, rfl, r1⟩ := vals1 r
    cases r1
    exact PySem.P.str_of_none ⟨.str _, H, I.tok _, ⟨_, rfl⟩, q⟩
  · obtain ⟨u, rfl, r1⟩ := vals1 r
    cases r1
    refine PySem.P.str_of_bool ⟨.str _, H, I.tok _, ⟨_, rfl⟩, ?_⟩
    cases b <;> exact q
def rInN (K : PySem.W.Frag) (d : Addr) : R2 := fun x y H Q => ∃ (z : Str) (r : Option Value), x = .str z ∧ y = .ref d ∧ PySem.W.nsIn K d z = some r ∧ Q (.bl r.isSome) H
theorem o_inN {K : PySem.W.Frag} {w : World} {d : Addr} {es : Array DictEntry} {n : Nat} (D : KDict K w d es n) (hK : X.K = K := by rfl) (hw : X.w = w := by rfl) : OpR X (compareOp .In) (rInN K d) := by
  subst hK hw
  exact op_in_kd D
end
end RS
namespace PySem
open Sem (wp)
section
variable {prog : Program} {w : World} {K : Type} [DecidableEq K] {knd : KeyKind prog w K} {A : Around} {E : Value → Shared → Prop} {s : Shared}
theorem wpAny_dictPut_pairs {d : Addr} {kvs : List (K × Value)} {k : K} {key v : Value} {Q : Unit → Shared → Prop} (hkey : knd.is k key = true) (hm : s.heap.DictOf knd d kvs)
    (hQ : ∀ h', h'.DictOf knd d (stored kvs k v) → Heap.SameBut d s.heap h' → Q () { s with heap := h' })
    (hsz : kvs.length ≤ sizeLine := by size_fits) :
    wpAny (model prog w) A (dictPut d (knd.hash k) key v) Q E s := by
  obtain ⟨o, es, ep, ho, hc, hd, hk, hp, hn⟩ := hm
  have hes : es.size ≤ sizeLine := by have e1 := hp.length; have e2 : es.toList.length = es.size := by simp
                                      omega
  unfold dictPut
  refine wpAny_bind (wpAny_dictFind_of hkey ho hd hk ?_)
  have hidx : (es.findIdx? fun e => knd.is k e.key) = kvs.findIdx? fun kv => decide (kv.1 = k) := by
    rw [← hp.findIdx k]; obtain ⟨l⟩ := es; simp
  cases hi : es.findIdx? fun e => knd.is k e.key with
  | some i =>
    refine wpAny_updateDict ho hd (hQ _ ⟨_, _, ep, Heap.get?_update_self _ ho (Obj.isFreed_of_dict (Obj.data_mapDict hd _)),
      hc.mapDict _, Obj.data_mapDict hd _, hk.modify _ _, ?_, ?_⟩ (Heap.SameBut.update ..))
    · rw [stored, if_pos (any_of_findIdx_some (hidx ▸ hi))]
      have hl : (es.toList.findIdx? fun e => knd.is k e.key) = some i := by rw [← hi]; obtain ⟨l⟩ := es; simp
      have := hp.modify hn hl v
      obtain ⟨l⟩ := es
      simpa using this
    · rw [stored, if_pos (any_of_findIdx_some (hidx ▸ hi)), keys_map_store]; exact hn
  | none =>
    have hnot : k ∉ kvs.map (·.1) := not_mem_of_findIdx_none (hidx ▸ hi)
    have hany : ¬ (kvs.any fun kv => decide (kv.1 = k)) = true := by
      rw [List.any_eq_true]; rintro ⟨kv, hkv, he⟩
      exact hnot (List.mem_map.mpr ⟨kv, hkv, of_decide_eq_true he⟩)
    refine wpAny_updateDictKeys (hz := hes) ho hd (hQ _ ⟨_, _, ep + 1, Heap.get?_update_self _ ho (Obj.isFreed_of_dict (Obj.data_mapDictKeys hd _)),
      hc.mapDictKeys _, Obj.data_mapDictKeys hd _, hk.push hkey _, ?_, ?_⟩ (Heap.SameBut.update ..))
    · rw [stored, if_neg hany]
      have := hp.append hkey (knd.hash k) v
      obtain ⟨l⟩ := es
      simpa using this
    · rw [stored, if_neg hany, List.map_append, List.nodup_append]
      refine ⟨hn, by simp, ?_⟩
      intro a ha b hb
      simp only [List.map_cons, List.map_nil, List.mem_singleton] at hb
      subst hb
      exact fun e => hnot (e ▸ ha)
/-- a dict merged into another one -/
theorem wpAny_mergeMapping {d o : Addr} {kvs more : List (K × Value)} {Q : Unit → Shared → Prop} (nr : ∀ (k : K) (a : Addr), knd.is k (.ref a) = false) (hdo : d ≠ o) (hoS : (o == sysModules) = false)
    (hd : s.heap.DictOf knd d kvs) (ho : s.heap.DictOf knd o more)
    (hQ : ∀ h', h'.DictOf knd d (merged kvs more) → h'.DictOf knd o more → Heap.SameBut d s.heap h' → Q () { s with heap := h' })
    (hsz : kvs.length + more.length ≤ sizeLine := by size_fits) :
    wpAny (model prog w) A (mergeMapping d (.ref o) false) Q E s := by
  obtain ⟨od, esd, epd, hod, hcd, hdd, hkd, hpd, hnd⟩ := id hd
  obtain ⟨oo, eso, epo, hoo, hco, hdo', hko, hpo, hno⟩ := id ho
  have hlen : more.length = eso.size := by rw [← hpo.length]; simp
  unfold mergeMapping
  refine wpAny_bind (wpAny_isInstance ho.typeIs (U := "dict") (b := true) isSubtype_dict_dict ?_)
  simp only [if_true]
  refine wpAny_bind (wpAny_specialOf ho.typeIs F.slot_dict_iter.lookup ?_)
  simp only [beq_self_eq_true, hoS, Bool.false_eq_true, if_false]
  refine wpAny_bind (wpAny_pure ?_)
  dsimp only
  rw [if_neg (by rw [hoS]; exact Bool.false_ne_true)]
  have loop : wpAny (model prog w) A (do
      let l ← dictEntries o
      let epoch ← dictEpoch o
      forIn (List.range l.size) PUnit.unit fun i (_ : PUnit) => (do
          let l' ← dictEntries o
          match l'[i]? with
            | some e => do
              holding [e.key, e.val] (dictPut d e.hash e.key e.val)
              let ep' ← dictEpoch o
              if (ep' != epoch) = true then do
                  (unsupported "dict.changed-during-merge" : Sem PUnit)
                  pure (ForInStep.yield PUnit.unit)
                else pure (ForInStep.yield PUnit.unit)
            | _ => do
              (unsupported "dict.changed-during-merge" : Sem PUnit)
              pure (ForInStep.yield PUnit.unit) : Sem (ForInStep PUnit))
      pure ()) Q E s := by
    refine wpAny_bind (wpAny_dictEntries hoo hdo' ?_)
    refine wpAny_bind (wpAny_dictEpoch hoo hdo' ?_)
    refine wpAny_bind ?_
    rw [List.range_eq_range']
    refine wpAny_forIn_list _
      (fun rest _ s' => ∃ h' i, s' = { s with heap := h' } ∧ rest = List.range' i (eso.size - i) ∧ i ≤ eso.size ∧ h'.DictOf knd d (merged kvs (more.take i)) ∧ h'.get? o = some oo ∧ Heap.SameBut d s.heap h')
      _ ?_ ?_ _ _ ⟨s.heap, 0, rfl, by simp, Nat.zero_le _, by simpa [merged] using hd, hoo, Heap.SameBut.refl _ _⟩
    · rintro x rest b s' ⟨h', i, rfl, hr, hi, hd', hoo', hs'⟩
      have hlt : i < eso.size := by
        rcases Nat.lt_or_ge i eso.size with h | h
        · exact h
        · rw [Nat.sub_eq_zero_of_le h] at hr; simp at hr
      obtain ⟨rfl, hrest⟩ : x = i ∧ rest = List.range' (i + 1) (eso.size - (i + 1)) := by
        have e : eso.size - i = (eso.size - (i + 1)) + 1 := by omega
        rw [e, List.range'_succ] at hr
        injection hr with h1 h2
        exact ⟨h1, h2⟩
      refine wpAny_bind (wpAny_dictEntries hoo' hdo' ?_)
      rw [Array.getElem?_eq_getElem hlt]
      obtain ⟨kv, hkv⟩ : ∃ kv, more[x]? = some kv := ⟨more[x]'(by rw [hlen]; exact hlt), List.getElem?_eq_getElem _⟩
      obtain ⟨k, v⟩ := kv
      obtain ⟨hkey, hval⟩ := hpo.get? (e := eso[x]) (by simp [hlt]) hkv
      obtain ⟨k', hkey', hhash⟩ := hko eso[x] (Array.getElem_mem hlt)
      obtain rfl : k' = k := knd.inj _ _ _ hkey' hkey
      show wpAny _ _ (holding [eso[x].key, eso[x].val] (dictPut d eso[x].hash eso[x].key eso[x].val) >>= _) _ _ _
      rw [hhash, hval]
      have hmx : (merged kvs (more.take x)).length ≤ sizeLine := by
        have e1 := merged_length_le kvs (more.take x)
        have e2 : (more.take x).length ≤ more.length := by rw [List.length_take]; omega
        omega
      refine wpAny_bind (wpAny_holding (wpAny_dictPut_pairs (hsz := hmx) hkey hd' fun h'' hd'' hs'' => ?_))
      have hoo'' : h''.get? o = some oo := (hs''.2 o (Ne.symm hdo)).trans hoo'
      refine wpAny_bind (wpAny_dictEpoch hoo'' hdo' ?_)
      rw [if_neg (by simp)]
      exact wpAny_pure ⟨h'', x + 1, rfl, hrest, hlt, by rw [merged_take_succ kvs more x (k', v) hkv]; exact hd'', hoo'', hs'.trans hs''⟩
    · rintro b s' ⟨h', i, rfl, hr, hi, hd', hoo', hs'⟩
      have hin : i = eso.size := by
        rcases Nat.lt_or_ge i eso.size with h | h
        · have e : eso.size - i = (eso.size - (i + 1)) + 1 := by omega
          rw [e, List.range'_succ] at hr; exact nomatch hr
        · exact Nat.le_antisymm hi h
      refine wpAny_pure (hQ h' ?_ ⟨oo, eso, epo, hoo', hco, hdo', hko, hpo, hno⟩ hs')
      rw [hin, ← hlen, List.take_length] at hd'; exact hd'
  refine wpAny_bind (wpAny_dictEntries hod hdd ?_)
  split
  · refine wpAny_bind (wpAny_dictEntries hoo hdo' ?_)
    refine wpAny_bind ?_
    rw [← Array.forIn_toList]
    refine wpAny_forIn_list _ (fun rest _ s' => s' = s ∧ ∀ e ∈ rest, ∃ k : K, knd.is k e.key = true) _ ?_ ?_ _ _ ⟨rfl, fun e he => (hko e (Array.mem_toList_iff.mp he)).imp fun k hk => hk.1⟩
    · rintro e rest b s' ⟨rfl, he⟩
      obtain ⟨k, hk⟩ := he e List.mem_cons_self
      have hn : ∀ a, e.key ≠ .ref a := fun a ha => by rw [ha, nr] at hk; exact nomatch hk
      split
      · rename_i a ha; exact absurd ha (hn a)
      · exact wpAny_pure ⟨rfl, fun e' he' => he e' (List.mem_cons_of_mem _ he')⟩
    · rintro b s' ⟨rfl, -⟩
      exact loop
  · exact loop
end
end PySem
namespace RS
open PySem PySem.Spec L2
def tMerges (p : Addr) : List TE → L2.St → Hp → (Hp → Prop) → Prop
  | [], _, H, Q => Q H
  | t :: ts, σ, H, Q => t σ H fun x H1 => ∃ o kvs more, x = .ref o ∧ p ≠ o ∧ H1 p = some (.dK kvs) ∧ H1 o = some (.dK more) ∧ kvs.length + more.length ≤ sizeLine ∧ tMerges p ts σ (upd H1 p (.dK (mergeK kvs more))) Q
def tDStar (ts : List TE) : TE := fun σ H Q => ∀ p, H p = none → tMerges p ts σ (upd H p (.dK [])) fun H' => Q (.ref p) H'
theorem mix_noref {P : Program} {w : World} (k : Key) (a : Addr) : (mixKind P w).is k (.ref a) = false := by
  cases k <;> rfl
section
variable {X : Cx}
theorem d_merge {pins s σ H d o kvs more} {E : Value → Shared → Prop} (I : Inv X pins σ H s) (ne : d ≠ o) (hd : H d = some (.dK kvs)) (ho : H o = some (.dK more)) (hz : kvs.length + more.length ≤ sizeLine) :
    wpAny (model X.prog X.w) X.A (mergeMapping d (.ref o) false) (fun _ s' => Inv X pins σ (upd H d (.dK (mergeK kvs more))) s') E s := by
  obtain ⟨z1, n1, vs, rel, dd⟩ := dk_of I.hok hd
  obtain ⟨z2, n2, ws, rel2, dd2⟩ := dk_of I.hok ho
  refine wpAny_mergeMapping (knd := mixKind X.prog X.w) mix_noref ne n2 dd dd2 (fun h' dd' _ hs => ?_) (by rw [← rel.length, ← rel2.length]; exact hz)
  have he : ∃ q, h'.get? d = some q := let ⟨q, _, _, hq, _⟩ := dd'; ⟨q, hq⟩
  exact d_write (t' := s.toks) I (by rw [hd]; exact True.intro) hs he (dk_new (Nat.le_trans (length_mergeK more kvs) hz) n1 (rel2.merge rel) dd')
theorem pe_dstar3 {a b c : Expr} {ta tb tc : TE} {pos : Pos} (ha : PE X a ta) (hb : PE X b tb) (hc : PE X c tc) : PE X (.Dict [none, none, none] [a, b, c] pos) (tDStar [ta, tb, tc]) := by
  refine ⟨fun pins s σ H Q I h => ?_⟩
  rw [arm_eval_Dict]
  simp only [evalEachOpt, evalEach, evalOpt, List.map_cons, List.map_nil, List.zip_cons_cons, List.zip_nil_right]
  unfold dictDisplay
  refine wpAny_bind (wpAny_standAt ?_)
  dsimp only
  refine wpAny_bind ?_
  rw [List.forIn_cons]
  refine wpAny_bind ?_
  dsimp only
  refine wpAny_bind ?_
  rw [if_pos List.isEmpty_nil]
  refine wpAny_pure ?_
  dsimp only
  refine wpAny_bind (wpAny_alloc ?_)
  have I0 : Inv X pins σ (upd H s.heap.objs.size (.dK [])) { s with heap := s.heap.push { cls := .type "dict", data := .dict #[] } } := I.laid (a := s.heap.objs.size) (o := .dK []) (t' := s.toks) (fun _ _ q => Heap.get?_push_of_some _ q) (Nat.le_refl _) (dk_empty s.heap I.big)
  have h0 := h _ (I.hok.fresh (Nat.le_refl _))
  generalize hp : s.heap.objs.size = p at I0 h0 ⊢
  refine wpAny_bind (wpAny_holding (wpAny_bind (thn (ha.run pins _ σ _ _ I0 h0) fun u _ ⟨x, H1, I1, rx, o, kvs, more, ex, ne, e1, e2, hz, q1⟩ => ?_)))
  subst ex
  obtain rfl : u = Value.ref o := rx
  refine wpAny_bind (wpAny_standAt (wpAny_pure ?_))
  refine wpAny_bind ?_
  refine wpAny_onRaise (wpAny_tryCatch (wpAny_onRaise (wpAny_holding ?_)))
  refine thn (d_merge I1 ne e1 e2 hz) fun _ s2 I2 => ?_
  refine wpAny_pure ?_
  dsimp only
  rw [List.forIn_cons]
  refine wpAny_bind ?_
  dsimp only
  refine wpAny_bind ?_
  rw [if_pos List.isEmpty_nil]
  refine wpAny_pure ?_
  dsimp only
  refine wpAny_bind (wpAny_pure ?_)
  refine wpAny_bind (wpAny_holding (wpAny_bind (thn (hb.run pins _ σ _ _ I2 q1) fun u _ ⟨x, H1, I1, rx, o, kvs, more, ex, ne, e1, e2, hz, q1⟩ => ?_)))
  subst ex
  obtain rfl : u = Value.ref o := rx
  refine wpAny_bind (wpAny_standAt (wpAny_pure ?_))
  refine wpAny_bind ?_
  refine wpAny_onRaise (wpAny_tryCatch (wpAny_onRaise (wpAny_holding ?_)))
  refine thn (d_merge I1 ne e1 e2 hz) fun _ s2 I2 => ?_
  refine wpAny_pure ?_
  dsimp only
  rw [List.forIn_cons]
  refine wpAny_bind ?_
  dsimp only
  refine wpAny_bind ?_
  rw [if_pos List.isEmpty_nil]
  refine wpAny_pure ?_
  dsimp only
  refine wpAny_bind (wpAny_pure ?_)
  refine wpAny_bind (wpAny_holding (wpAny_bind (thn (hc.run pins _ σ _ _ I2 q1) fun u _ ⟨x, H1, I1, rx, o, kvs, more, ex, ne, e1, e2, hz, q1⟩ => ?_)))
  subst ex
  obtain rfl : u = Value.ref o := rx
  refine wpAny_bind (wpAny_standAt (wpAny_pure ?_))
  refine wpAny_bind ?_
  refine wpAny_onRaise (wpAny_tryCatch (wpAny_onRaise (wpAny_holding ?_)))
  refine thn (d_merge I1 ne e1 e2 hz) fun _ s2 I2 => ?_
  refine wpAny_pure ?_
  dsimp only
  rw [List.forIn_nil]
  refine wpAny_pure ?_
  dsimp only
  refine wpAny_bind ?_
  rw [if_pos List.isEmpty_nil]
  refine wpAny_pure (wpAny_pure ⟨.ref p, _, I2, rfl, q1⟩)
end
end RS
set_option maxHeartbeats 2000000
namespace RS
open PySem PySem.Spec L2 PyProof.Rows GenW
section
variable {prog : Program} {w : World} {A : Around} {E : Value → Shared → Prop} {s : Shared}
theorem sp_item {it l : Addr} {i : Nat} {items : Array Value} {x : Value} {Q : Option Value → Shared → Prop} (ho : s.heap.get? it = some (GNX.itObj l i)) (hl : s.heap.IsList l items) (hx : items[i]? = some x)
    (hQ : ∀ h', h'.get? it = some (GNX.itObj l (i + 1)) → Heap.SameBut it s.heap h' → Q (some x) { s with heap := h' }) : wpAny (model prog w) A (callSpecial? (.ref it) "__next__") Q E s :=
  wpAny_callSpecial?_slot (name := Str.ofString "__next__") (DSub.iter_of ho).typeIs slot_listiter_next
    (wpAny_call_entry slot_listiter_next (DSub.iter_of ho).typeIs entry_listiter_next (GNX.next_item ho hl hx fun h' e sb => hQ h' e sb) (args_listiter_next _))
theorem sp_end {it l : Addr} {i : Nat} {items : Array Value} {Q : Option Value → Shared → Prop} (hh : A.handled = none) (ho : s.heap.get? it = some (GNX.itObj l i)) (hl : s.heap.IsList l items) (hx : items[i]? = none)
    (hE : ∀ e h', StopX e h' → Heap.ExtBut it s.heap h' → E e { s with heap := h' }) : wpAny (model prog w) A (callSpecial? (.ref it) "__next__") Q E s := by
  have hit := DSub.iter_of ho
  obtain ⟨ol, hol, _, nl, hdl⟩ := hl
  refine wpAny_callSpecial?_slot (name := Str.ofString "__next__") hit.typeIs slot_listiter_next (wpAny_call_entry slot_listiter_next hit.typeIs entry_listiter_next ?_ (args_listiter_next _))
  show wpAny _ _ (field (.ref it) 0 >>= _) _ _ s
  refine wpAny_bind (wpAny_field ho rfl (x := .ref l) rfl ?_)
  show wpAny _ _ (if (Value.ref l == Value.none) = true then _ else _) _ _ s
  rw [if_neg (show ¬ ((Value.ref l == Value.none) = true) from Bool.false_ne_true)]
  show wpAny _ _ (field (.ref it) 1 >>= _) _ _ s
  refine wpAny_bind (wpAny_field ho rfl (x := .int i 0) rfl ?_)
  show wpAny _ _ (seqItems? (.ref l) >>= _) _ _ s
  refine wpAny_bind (wpAny_seqItems hol hdl ?_)
  simp only [Int.toNat_natCast, hx]
  refine wpAny_bind (wpAny_rule (wpAny_bind (wpAny_setField ho rfl (by simp) ?_)))
  show wpAny _ _ (newExc (.type "StopIteration") [] >>= _) _ _ _
  refine wpAny_bind ?_
  simp only [newExc, newTuple]
  refine wpAny_bind (wpAny_newObj_type ?_ (by size_fits))
  refine wpAny_bind (m := firstArgMember _ _) (wpAny_of_eq (a := Value.none) (by first | rfl | (simp only [firstArgMember]; rfl)) ?_)
  refine wpAny_newObj_type ?_ (by size_fits)
  simp only [raiseNew]
  refine wpAny_bind (wpAny_handled ?_)
  first | rw [show A.in1.handled = none from hh] | rw [hh]
  refine wpAny_bind (wpAny_pure (wpAny_throw ?_))
  refine hE _ _ ⟨_, _, _, rfl, Heap.get?_push_size _ rfl, rfl, rfl, ?_⟩ (((Heap.SameBut.update ..).extBut.push _).push _)
  first
    | rfl
    | (rw [Array.getElem?_append_left (by decide)]; rfl)
    | kernel_rfl
end
theorem close_lst : typeLookup (.type "list_iterator") "close" = pure none := by rw [typeLookup_type, builtinLookup_eq_fast]; kernel_rfl
section
variable {X : Cx}
/-- yield from a list that stays as it is -/
def tKFrom (te : TE) : TK := fun D i k σ H => te σ H fun x H1 => ∃ a xs, x = .ref a ∧ H1 a = some (.lst xs) ∧ ∃ W : Nat → Nat → L2.St → Hp → Prop, W 0 i k H1 ∧ ∀ j i k H, W j i k H →
  H a = some (.lst xs) ∧ (j = xs.length → D.nx i k σ H) ∧ ∀ x, xs[j]? = some x → i < sizeLine ∧ D.yl i k x H fun k' H2 => W (j + 1) (i + 1) k' H2
theorem gk_from {e : Expr} {yp pos : Pos} {te : TE} (hcalm : X.calm = true) (he : ∀ s0 H0, PE (reX X s0 H0) e te) (hc : X.A.handled = none) (hi : interactive X.env = false := by rfl) : GK X (.Expr (.YieldFrom e yp) pos) (tKFrom te) := by
  refine ⟨fun Lk A ip R n i k H0 s₀ c fs K J gd lv s σ H D g hn lk kk I ht => ?_⟩
  rw [exec_Expr X.env _ pos hi rfl]
  show Seg _ _ _ _ n s₀ c (.at pos fun _ => ((eval e X.env >>= fun v => (standAt yp >>= fun _ => yieldFrom X.env v)) >>= fun x => dropValue (.YieldFrom e yp) pos x).wrap K J gd lv) fs s
  refine seg_at ?_
  refine segw_bind2 ?_
  rw [g.over]
  refine wpAny_mono ((he s₀ H0).run ip s σ H _ I ht) (fun v s1 hv => ?_) fun _ _ z => z.elim
  obtain ⟨x, H1, I1, r1, a, xs, ex, ha, W, w0, turn⟩ := hv
  subst ex
  obtain rfl : v = Value.ref a := r1
  obtain ⟨its, rv, p, hz⟩ := I1.list (SqL.of ha)
  refine seg_at ?_
  show Seg _ _ _ _ n s₀ c ((yieldFrom X.env (.ref a)).wrap (fun b => (dropValue (.YieldFrom e yp) pos b).wrap K J gd lv) J gd lv) fs s1
  unfold yieldFrom
  refine seg_bind_wrap (wpAny_typeOf p.isList.typeIs ?_)
  rw [if_neg (by decide)]
  refine seg_bind_wrap (wpAny_holding ?_)
  rw [g.over]
  refine wpAny_pyIter_list p.isList ?_
  refine seg_call fun p => ?_
  generalize hit : s1.heap.objs.size = it
  have sz1 : ∀ b o, s1.heap.get? b = some o → (s1.heap.push (GNX.itObj a 0)).get? b = some o := fun b o e => Heap.get?_push_of_some _ e
  have I2 : L2.Inv (reX X s₀ H0) ip σ H1 { s1 with heap := s1.heap.push (GNX.itObj a 0) } := I1.kept (t' := s1.toks) sz1
  have f2 : FpOk (reX X s₀ H0) ip H1 it := by rw [← hit]; exact I1.fpOk (Nat.le_refl _) (I1.hok.fresh (Nat.le_refl _))
  have st2 : (s1.heap.push (GNX.itObj a 0)).get? it = some (GNX.itObj a 0) := by rw [← hit]; exact Heap.get?_push_size _ rfl
  have stat : ∀ {H' : Hp} {s0 : Shared} {H0' : Hp}, H' it = none → FpOk (reX X s0 H0') ip H' it := fun {H' s0 H0'} hn => ⟨hn, (fpOk_re (s1 := s0) (H1 := H0') lk.1 f2).2⟩
  generalize hfr : (Frame.ret _ none (gd false) (lv []) c p [] :: fs : List Frame) = fs1
  have hov : (A.over (.builtin "proto.yield_from" ⟨[.ref it, .bool false, .none], []⟩) fs1).handled = none := by
    rw [← hfr]
    show (A.over c fs).handled = none
    rw [g.over]; exact hc
  have hsp : splitAtGen fs1 = none := by
    rw [← hfr]
    show (splitAtGen fs).map _ = none
    rw [g.split]; rfl
  have hgd : fs1.any Frame.guarded = false := by
    rw [← hfr]
    show (gd false || fs.any Frame.guarded) = false
    rw [g.gd, g.guard]; rfl
  have hlast : ∀ (n i : Nat) (k : L2.St) (H0 : Hp) (s₀ s : Shared) (H : Hp), n + i = sizeLine → LkL X Lk s₀ k H0 → L2.Inv (reX X s₀ H0) ip σ H s → D.nx i k σ H →
      Seg (model X.prog X.w) A R (KYp X Lk D.yl) n s₀ (.builtin "proto.yield_from" ⟨[.ref it, .bool false, .none], []⟩) (.pure (.done (.ret .none))) fs1 s := fun n i k H0 s₀ s H hn lk I q => by
    rw [← hfr]
    exact seg_leaf (.ok (.ret .none)) (kk n i k H0 s₀ s .next hn lk ⟨σ, H, I, q⟩)
  have loop : ∀ (r j n i : Nat) (k : L2.St) (H0 : Hp) (s₀ s : Shared) (H : Hp), j + r = xs.length → n + i = sizeLine → LkL X Lk s₀ k H0 → W j i k H → L2.Inv (reX X s₀ H0) ip σ H s → s.heap.get? it = some (GNX.itObj a j) → H it = none →
      Seg (model X.prog X.w) A R (KYp X Lk D.yl) n s₀ (.builtin "proto.yield_from" ⟨[.ref it, .bool false, .none], []⟩) ((model X.prog X.w).den (.builtin "proto.yield_from" ⟨[.ref it, .bool false, .none], []⟩)) fs1 s := by
    intro r
    induction r with
    | zero =>
      intro j n i k H0 s₀ s H hj hn lk w I hst hH
      obtain ⟨ha', q1, _⟩ := turn j i k H w
      obtain ⟨its', rv', p', hz'⟩ := I.list (SqL.of ha')
      obtain ⟨_, g1, g2, g3, g4, g5⟩ := stat (s0 := s₀) (H0' := H0) hH
      rw [den_yf]
      unfold Builtin.«proto.yield_from»
      try dsimp only
      refine seg_bind (wpAny_pure ?_)
      try dsimp only
      refine seg_bind (wpAny_attempt (wpAny_holding ?_))
      rw [if_neg Bool.false_ne_true, if_pos (show (Value.none == Value.none) = true from rfl)]
      refine wpAny_bind (wpAny_rule (wpAny_bind ?_))
      have hl := rv'.length
      refine sp_end hov hst p'.isList (by simp; omega) fun e h' hS hk => ?_
      obtain ⟨b, o, vs, rfl, hoa, hcls, hdat, h5⟩ := hS
      try dsimp only
      refine seg_bind (wpAny_endsTurn hoa hcls ?_)
      try dsimp only
      rw [if_pos rfl]
      first
        | refine seg_bind (wpAny_rule ?_)
        | (rw [if_neg Bool.false_ne_true]; refine seg_bind (wpAny_rule ?_))
        | (rw [if_neg Bool.false_ne_true]; refine seg_bind (wpAny_pure ?_); refine seg_bind (wpAny_rule ?_))
      refine seg_bind (wpAny_field hoa hdat h5 ?_)
      exact hlast n i k H0 s₀ _ H hn lk (I.turned (t' := s.toks) (it := it) (fun b o hb e => hk b o hb e) hH g1 g3 g4 g5) (q1 (by omega))
    | succ r ih =>
      intro j n i k H0 s₀ s H hj hn lk w I hst hH
      obtain ⟨ha', _, q2⟩ := turn j i k H w
      obtain ⟨its', rv', p', hz'⟩ := I.list (SqL.of ha')
      obtain ⟨_, g1, g2, g3, g4, g5⟩ := stat (s0 := s₀) (H0' := H0) hH
      have hjl : j < xs.length := by omega
      obtain ⟨x, hx⟩ : ∃ x, xs[j]? = some x := ⟨xs[j], List.getElem?_eq_getElem hjl⟩
      obtain ⟨hil, hyl⟩ := q2 x hx
      obtain ⟨u, hu, ru⟩ := rv'.get hx
      obtain ⟨n, rfl⟩ : ∃ m, n = m + 1 := ⟨n - 1, by omega⟩
      rw [den_yf]
      unfold Builtin.«proto.yield_from»
      try dsimp only
      refine seg_bind (wpAny_pure ?_)
      try dsimp only
      refine seg_bind (wpAny_attempt (wpAny_holding ?_))
      rw [if_neg Bool.false_ne_true, if_pos (show (Value.none == Value.none) = true from rfl)]
      refine wpAny_bind (wpAny_rule (wpAny_bind ?_))
      refine sp_item hst p'.isList (x := u) (by simpa using hu) fun h' hst' hs => ?_
      have I' : L2.Inv (reX X s₀ H0) ip σ H { s with heap := h' } := I.turned (t' := s.toks) (it := it) (fun b o hb e => (hs.2 b hb).trans e) hH g1 g3 g4 g5
      refine wpAny_pure ?_
      try dsimp only
      refine seg_bind (wpAny_typeOf (T := "list_iterator") ⟨_, hst', rfl⟩ ?_)
      try dsimp only
      first
        | (refine seg_bind (wpAny_of_eq close_lst ?_); refine seg_bind (wpAny_pure ?_))
        | refine seg_bind (wpAny_bind (wpAny_of_eq close_lst (wpAny_pure ?_)))
        | refine seg_bind (wpAny_of_eq close_lst ?_)
      try dsimp only
      refine seg_bind (wpAny_sleptOver hst' rfl (by decide) ?_)
      refine seg_yield hsp rfl hgd ?_
      have Ip := I'.pinned (fp := [it]) (fun b hb => by obtain rfl : b = it := by simpa using hb
                                                        exact stat hH) (fun b hb => by obtain rfl : b = it := by simpa using hb
                                                                                       exact ⟨_, hst', fun v z => by cases z⟩)
      refine ⟨i, k, H0, x, ip ++ pinsAt [it] h', σ, H, _, by omega, ru, lk, Ip, hyl, fun k' H' s'' lk' I'' hres => ?_⟩
      obtain ⟨z1, z2, _⟩ := I''.pin (it, GNX.itObj a (j + 1)) (List.mem_append_right _ (List.mem_append_right _ (mem_pinsAt (List.mem_singleton.mpr rfl) hst')))
      show Seg _ _ _ _ n s'' _ (Builtin.Generator.sleptOver (.ref it) false >>= fun _ => _) fs1 s''
      refine seg_bind (wpAny_sleptOver z1 rfl (by decide) ?_)
      try dsimp only
      refine seg_bind (wpAny_pure ?_)
      exact seg_again (plainId_quiet plain_yf _) (ih (j + 1) n (i + 1) k' H' s'' s'' H' (by omega) (by omega) lk' hres I''.unpinned z1 z2)
  exact loop xs.length 0 n i k H0 s₀ _ H1 (Nat.zero_add _) hn lk w0 I2 st2 f2.1
end
end RS
namespace RS
open PySem PySem.Spec L2 PyProof.Rows
def txOf (e : Int × Value) : Str := match e.2 with
  | .str x _ => x
  | _ => Str.empty
def EnTx (w : World) (e : Int × Value) : Prop := ∃ x u, e.2 = Value.str x u ∧ e.1 = hashStr w x
def putS (l : List Str) (x : Str) : List Str := if x ∈ l then l else l ++ [x]
/-- entries and table hold the texts l in some order -/
structure TbS (w : World) (ar : Array (Int × Value)) (tb : SetTable) (l : List Str) : Prop where
  en : ∀ e ∈ ar.toList, EnTx w e
  pm : (ar.toList.map txOf).Perm l
  nd : l.Nodup
  ft : tb.fits ar.size = true
  rs : Ris tb.place.toList
  ld : w.params.followText "set-order" = true ∨ tb.led = true
  sz : l.length < scanBound
def SetS (w : World) (hp : Heap) (a : Addr) (l : List Str) : Prop := ∃ ob ar ep tb, hp.get? a = some ob ∧ ob.ExactSet ∧ ob.data = .set ar ep tb ∧ TbS w ar tb l
section
variable {P : Program} {w : World} {A : Around} {E : Value → Shared → Prop} {sh : Shared} {a : Addr} {l : List Str} {ar : Array (Int × Value)} {tb : SetTable}
theorem SetS.at {hp hp' : Heap} (R : SetS w hp a l) (k : ∀ ob, hp.get? a = some ob → hp'.get? a = some ob) : SetS w hp' a l := by
  obtain ⟨ob, ar, ep, tb, h1, h2⟩ := R
  exact ⟨ob, ar, ep, tb, k ob h1, h2⟩
theorem TbS.len (T : TbS w ar tb l) : ar.size = l.length := by
  rw [← T.pm.length_eq, List.length_map, Array.length_toList]
theorem TbS.els (T : TbS w ar tb l) : ElemsOf (strKind P w) ar.toList := fun e m => by
  obtain ⟨x, u, e1, e2⟩ := T.en e m
  exact ⟨⟨x, by rw [e1]; exact strKind_is P w x u, e2⟩, by rw [e1] <;> rfl⟩
theorem enS_is {e : Int × Value} (n : EnTx w e) (x : Str) : (strKind P w).is x e.2 = true ↔ txOf e = x := by
  obtain ⟨y, u, e1, _⟩ := n
  unfold txOf
  rw [e1]
  show ((y == x) = true) ↔ y = x
  exact beq_iff_eq
theorem TbS.has (T : TbS w ar tb l) (x : Str) : x ∈ l ↔ ∃ e ∈ ar.toList, (strKind P w).is x e.2 = true := by
  rw [← T.pm.mem_iff, List.mem_map]
  exact ⟨fun ⟨e, m, q⟩ => ⟨e, m, (enS_is (T.en e m) x).2 q⟩, fun ⟨e, m, q⟩ => ⟨e, m, (enS_is (T.en e m) x).1 q⟩⟩
theorem setS_lay {gw : Bool → Sem Unit} (hg : ∀ (b : Bool) (z : Shared) (Q' : Unit → Shared → Prop), Q' () z → wpAny (model P w) A (gw b) Q' E z)
    {ob : Obj} {ar0 : Array (Int × Value)} {ep : Nat} {tb0 : SetTable} (ho : sh.heap.get? a = some ob) (hx : ob.ExactSet) (hd : ob.data = .set ar0 ep tb0) (T : TbS w ar tb l) {dm : Bool} {R : Option Bool → Shared → Prop}
    (hR : ∀ hp, Heap.SameBut a sh.heap hp → SetS w hp a l → R (some true) { sh with heap := hp }) :
    wpAny (model P w) A (do
        storeSet a ar tb
        if (!dm && tb.tooFull) = true then do
            gw (relayAll tb ar (SetTable.grown ar.size)).2.2
            storeSet a (relayAll tb ar (SetTable.grown ar.size)).1 (relayAll tb ar (SetTable.grown ar.size)).2.1
            pure (some true)
          else pure (some true)) R E sh := by
  have sz := T.sz
  have ln := T.len
  refine wpAny_bind (wpAny_storeSet_of ho hd ?_ (fits_of_scanBound (by rw [ln]; exact sz)))
  have o1 := store_at (es' := ar) (t' := tb) ho hd
  have k1 := Heap.SameBut.update sh.heap a (Obj.putSet ar tb)
  split
  · have p := relayAll_perm tb ar (SetTable.grown ar.size)
    have f3 := relayAll_fits tb ar (SetTable.grown ar.size)
    have r3 := relayAll_ris tb ar (SetTable.grown ar.size)
    have l3 := relayAll_led tb ar (SetTable.grown ar.size)
    generalize relayAll tb ar (SetTable.grown ar.size) = Y at p f3 r3 l3 ⊢
    obtain ⟨ar2, tb3, gv⟩ := Y
    dsimp only at p f3 r3 l3 ⊢
    have z2 : ar2.size = ar.size := by rw [← Array.length_toList, p.length_eq, Array.length_toList]
    refine wpAny_bind (hg _ _ _ ?_)
    refine wpAny_bind (wpAny_storeSet_of o1 rfl ?_ (fits_of_scanBound (by rw [z2, ln]; exact sz)))
    have o2 := store_at (es' := ar2) (t' := tb3) o1 rfl
    exact wpAny_pure (hR _ (k1.trans (Heap.SameBut.update _ a _)) ⟨_, ar2, _, tb3, o2, hx, rfl, fun e m => T.en e (p.mem_iff.mp m), (p.map txOf).trans T.pm, T.nd, f3, r3, T.ld.imp id fun q => by rw [l3]; exact q, sz⟩)
  · exact wpAny_pure (hR _ k1 ⟨_, ar, _, tb, o1, hx, rfl, T⟩)
theorem setS_add {x : Str} {u : Tok} {Q : Bool → Shared → Prop} (R : SetS w sh.heap a l) (rm : l.length + 1 < scanBound)
    (hQ : ∀ b hp, Heap.SameBut a sh.heap hp → SetS w hp a (putS l x) → Q b { sh with heap := hp }) :
    wpAny (model P w) A (setAddHashed a (.str x u) ((strKind P w).hash x)) Q E sh := by
  obtain ⟨ob, ar, ep, tb, ho, hx, hd, T⟩ := R
  have ky : (strKind P w).is x (.str x u) = true := strKind_is P w x u
  have sc : (Value.str x u).scannable = true := rfl
  have el : ElemsOf (strKind P w) ar.toList := T.els
  have ft := T.ft
  unfold setAddHashed setAddHashedIn
  refine wpAny_holding (wpAny_bind (wpAny_setState_of ho hd ft ?_))
  dsimp only
  rw [byScan_of sc (by rw [T.len]; exact T.sz) el]
  simp only [↓reduceIte]
  unfold setAddByScan
  refine wpAny_bind ?_
  refine wpAny_bind (wpAny_rule ?_)
  refine wpAny_bind (wpAny_setScan_of ky ho hd ft el ?_)
  cases hf : List.findIdx? (fun e => (strKind P w).is x e.2) ar.toList with
  | some j =>
    dsimp only
    obtain ⟨lj, pj, _⟩ := List.findIdx?_eq_some_iff_getElem.mp hf
    have hm : x ∈ l := (T.has (P := P) x).2 ⟨ar.toList[j], List.getElem_mem lj, pj⟩
    refine wpAny_pure (wpAny_pure (hQ _ _ (Heap.SameBut.refl a sh.heap) ?_))
    unfold putS
    rw [if_pos hm]
    exact ⟨ob, ar, ep, tb, ho, hx, hd, T⟩
  | none =>
    dsimp only
    have hm : x ∉ l := fun z => by
      obtain ⟨e, m, q⟩ := (T.has (P := P) x).1 z
      have c := List.findIdx?_eq_none_iff.mp hf e m
      rw [q] at c
      cases c
    have gv : ∀ (b : Bool) {z : Shared} {Q' : Unit → Shared → Prop}, Q' () z → wpAny (model P w) A (match b with | true => rule "set.scan.the-table-gave-way" | false => pure ()) Q' E z :=
      fun b z Q' q => by cases b <;> first | exact wpAny_pure q | exact wpAny_rule q
    have p := layNew_perm tb ar ((strKind P w).hash x) (.str x u)
    have f1 := layNew_fits tb ar ((strKind P w).hash x) (.str x u)
    have r1 := layNew_ris tb ar ((strKind P w).hash x) (.str x u) T.rs
    have l1 := layNew_led tb ar ((strKind P w).hash x) (.str x u)
    generalize layNew tb ar ((strKind P w).hash x) (.str x u) = Y at p f1 r1 l1 ⊢
    obtain ⟨ar1, tb1, dm, gave⟩ := Y
    dsimp only at p f1 r1 l1 ⊢
    rw [Array.toList_push] at p
    have e2 : putS l x = l ++ [x] := if_neg hm
    have T1 : ∀ tb', tb'.fits ar1.size = true → Ris tb'.place.toList → (w.params.followText "set-order" = true ∨ tb'.led = true) → TbS w ar1 tb' (putS l x) := fun tb' a1 a2 a3 => by
      rw [e2]
      refine ⟨fun e m => ?_, ?_, ?_, a1, a2, a3, by rw [List.length_append, List.length_singleton]; exact rm⟩
      · rcases List.mem_append.mp (p.mem_iff.mp m) with z | z
        · exact T.en e z
        · rw [List.mem_singleton.mp z]; exact ⟨x, u, rfl, rfl⟩
      · have q := p.map txOf
        rw [List.map_append] at q
        exact q.trans (T.pm.append (List.Perm.refl _))
      · exact List.nodup_append.mpr ⟨T.nd, by simp, fun c hc d hd e => hm (by simp only [List.mem_singleton] at hd; subst hd; subst e; exact hc)⟩
    have ld1 : w.params.followText "set-order" = true ∨ tb1.led = true := T.ld.imp id fun q => by rw [l1]; exact q
    refine wpAny_bind (gv _ ?_)
    split
    · refine wpAny_bind ?_
      rw [hashByValue_scannable 8 sc]
      refine wpAny_pure ?_
      refine setS_lay (l := putS l x) ?_ ho hx hd (T1 _ ?_ ?_ ?_) ?_
      · intro b z Q' q; cases b <;> first | exact wpAny_pure q | exact wpAny_rule q
      · first | (split <;> first | exact f1 | exact SetTable.fits_plain_off f1) | exact f1
      · first | (split <;> exact r1) | exact r1
      · first | (split <;> exact ld1) | exact ld1
      · intro hp sb r; dsimp only; exact wpAny_pure (hQ _ hp sb r)
    · refine wpAny_bind (wpAny_pure ?_)
      simp only [↓reduceIte]
      refine setS_lay (l := putS l x) ?_ ho hx hd (T1 _ f1 r1 ld1) ?_
      · intro b z Q' q; cases b <;> first | exact wpAny_pure q | exact wpAny_rule q
      · intro hp sb r; dsimp only; exact wpAny_pure (hQ _ hp sb r)
/-- the set that set() makes first -/
def emptyS (w : World) : Obj := { cls := .type "set", dict := none, data := .set #[] 0 (.fresh 0 0 (!w.params.followText "set-order")) }
theorem setS_new {hp : Heap} (ho : hp.get? a = some (emptyS w)) : SetS w hp a [] :=
  ⟨_, #[], 0, _, ho, ⟨rfl, rfl, rfl⟩, rfl, fun e m => by simp at m, .refl _, .nil, by rfl, .nil, by
    show _ ∨ (!w.params.followText "set-order") = true
    cases w.params.followText "set-order" <;> simp, by show 0 < scanBound; decide⟩
theorem bb_set : bootBuiltins "set" = some (.type "set") := by decide +kernel
theorem putS_len (l : List Str) (x : Str) : (putS l x).length ≤ l.length + 1 := by unfold putS; split <;> simp
theorem foldS_len : ∀ (xs l : List Str), (xs.foldl putS l).length ≤ l.length + xs.length
  | [], l => Nat.le_refl _
  | x :: xs, l => by
    have h1 := foldS_len xs (putS l x)
    have h2 := putS_len l x
    simp only [List.foldl_cons, List.length_cons]; omega
theorem set_texts {I : Addr} {fp wr : List Addr} {G : Array GenState → Array GenState → Prop} {n : Nat} {Pv : Nat → Value → Prop} {St : Nat → Shared → Prop} {R : Result → Shared → Prop}
    (W : WalksS P w A.in1 I fp wr G n Pv St) (S : Addr) (nf : S ∉ fp) (xs : List Str) (hn : n = xs.length) (hb : xs.length + 1 < scanBound) (hv : ∀ i v, Pv i v → ∃ x u, xs[i]? = some x ∧ v = .str x u) :
    ∀ (k i : Nat) (z : Shared), n - i = k → i ≤ n → St i z → SetS w z.heap S ((xs.take i).foldl putS []) → (∀ z', Moved (S :: wr) G z z' → SetS w z'.heap S (xs.foldl putS []) → R (.ok (.ret .none)) z') →
      codeAny (model P w) A (.builtin "set.update.loop" ⟨[.ref S, .ref I], []⟩) R z := by
  have nw : S ∉ wr := fun q => nf (W.sub _ q)
  have sub : ∀ b ∈ wr, b ∈ S :: wr := fun b q => List.mem_cons_of_mem _ q
  intro k
  induction k with
  | zero =>
    intro i z hk hi st hS hR
    obtain rfl : i = n := by omega
    refine codeAny_builtin F.entry_set_update_loop ?_
    rw [Around.under_plainId F.plain_set_update_loop _]
    show wpAny _ A.in1 (pyNext (.ref I) >>= _) _ _ z
    refine wpAny_bind (W.done z _ _ st fun z' mv => ?_)
    show wpAny _ A.in1 (ret Value.none) _ _ z'
    rw [List.take_of_length_le (by omega)] at hS
    exact wpAny_pure (hR z' (mv.mono sub) (hS.at fun o e => mv.heap S o nw e))
  | succ k ih =>
    intro i z hk hi st hS hR
    have lt : i < n := by omega
    refine codeAny_builtin F.entry_set_update_loop ?_
    rw [Around.under_plainId F.plain_set_update_loop _]
    show wpAny _ A.in1 (pyNext (.ref I) >>= _) _ _ z
    refine wpAny_bind (W.item i z _ _ lt st fun v z' hP st' mv => ?_)
    obtain ⟨x, u, hx, rfl⟩ := hv i v hP
    have hS' : SetS w z'.heap S ((xs.take i).foldl putS []) := hS.at fun o e => mv.heap S o nw e
    have fl := foldS_len (xs.take i) []
    have fl2 := List.length_take_le i xs
    show wpAny _ A.in1 (holding [Value.str x u] (setAdd S (.str x u)) >>= _) _ _ z'
    refine wpAny_bind (wpAny_holding ?_)
    unfold setAdd
    refine wpAny_holding ?_
    refine wpAny_bind ((strKind P w).pyHash (k := x) (strKind_is _ _ _ _) ?_)
    refine setS_add (sh := { z' with toks := z'.toks + 1 }) hS' (by simp only [List.length_nil] at fl; omega) fun b hp sb hS2 => ?_
    have hS3 : SetS w hp S ((xs.take (i + 1)).foldl putS []) := by
      rw [List.take_add_one, hx, List.foldl_append]; exact hS2
    refine wpAny_pure ⟨plainId_quiet F.plain_set_update_loop _, ih (i + 1) _ (by omega) lt (W.frame _ z' _ _ st' (Nat.le_succ _) fun b q o e => ?_) hS3 fun z2 mv2 hS4 => ?_⟩
    · rw [sb.2 b (fun h : b = S => nf (by rw [← h]; exact q))]; exact e
    · refine hR z2 (Moved.trans W.gtrans ((mv.mono sub).then_heap (Nat.le_succ _) fun b o q e => ?_) mv2) hS4
      rw [sb.2 b (fun h : b = S => q (by rw [h]; exact List.mem_cons_self))]; exact e
theorem strs_get : ∀ {us : List Value} {xs : List Str}, StrsAre us xs → ∀ (i : Nat) (v : Value), us[i]? = some v → ∃ x u, xs[i]? = some x ∧ v = .str x u
  | _, _, .nil, i, v, h => by simp at h
  | _, _, .cons x u r, 0, v, h => by simp at h; exact ⟨x, u, rfl, h.symm⟩
  | _, _, .cons x u r, i + 1, v, h => strs_get r i v (by simpa using h)
theorem strs_len : ∀ {us : List Value} {xs : List Str}, StrsAre us xs → us.length = xs.length
  | _, _, .nil => rfl
  | _, _, .cons x u r => by simp [strs_len r]
/-- set(l), a list of texts -/
theorem call_setS {q : Addr} {its : Array Value} (xs : List Str) {Q : Value → Shared → Prop} (hh : A.handled = none) (hl : sh.heap.IsList q its) (hit : StrsAre its.toList xs) (hb : xs.length + 1 < scanBound)
    (h : ∀ (hp : Heap) (tk : Nat), SetS w hp sh.heap.objs.size (xs.foldl putS []) → (∀ b o, sh.heap.get? b = some o → hp.get? b = some o) → Q (.ref sh.heap.objs.size) { sh with heap := hp, toks := tk }) :
    wpAny (model P w) A (call (.type "set") [.ref q]) Q E sh := by
  have isz : its.size = xs.length := by
    have z := strs_len hit
    rw [Array.length_toList] at z
    exact z
  obtain ⟨c, tl, hmro⟩ := F.called_set.mro
  have made := F.called_set.made
  have sub := F.called_set.sub
  refine wpAny_call (codeAny_of_tree ?_)
  show wpAny _ _ (callAny (.type "set") _) _ _ _
  refine wpAny_pure ⟨Code.quiet_builtin _ (by decide +kernel), codeAny_builtin F.entry_type_call ?_⟩
  rw [Around.under_plain (weight_type_call_type "set" [.ref q] []) rfl]
  have n1 := F.called_set.notType
  have n2 := F.called_set.canCreate
  have n3 := F.typeCall_set_1 (.ref q)
  repeat (any_goals (first | assumption | wp_step))
  refine codeAny_mono (code_set_led1 (.ref q) (E := E) (Q₁ := fun ob z => ob = .ref sh.heap.objs.size ∧ z = { sh with heap := sh.heap.push (emptyS w) }) ⟨rfl, rfl⟩) fun r z hr => ?_
  cases r with
  | error e => exact hr
  | ok fl =>
    cases fl with
    | ret ob =>
      obtain ⟨rfl, rfl⟩ := hr
      have hS : (sh.heap.push (emptyS w)).get? sh.heap.objs.size = some (emptyS w) := Heap.get?_push_size _ rfl
      have hT : Shared.TypeIs { sh with heap := sh.heap.push (emptyS w) } (.ref sh.heap.objs.size) "set" := ⟨_, hS, rfl⟩
      have li := F.called_set.init.lookup
      have bi := F.called_set.init.bind (.ref sh.heap.objs.size)
      repeat (any_goals (first | assumption | wp_step))
      refine codeAny_mono (codeAny_call_builtin (R := wants (fun r z2 => r = .none ∧ ∃ hp tk, z2 = { sh with heap := hp, toks := tk } ∧ SetS w hp sh.heap.objs.size (xs.foldl putS []) ∧ (∀ b o, sh.heap.get? b = some o → hp.get? b = some o)) E)
        F.called_set.init.plain F.entry_set_init (check_set_init_1 hT ?_)) fun r2 z2 hr2 => ?_
      · obtain ⟨ol, hol, hcl, nl, hdl⟩ := hl
        obtain ⟨ocls, odict, odata, oslots⟩ := ol
        simp only at hcl hdl
        subst hcl; subst hdl
        have hol2 : (sh.heap.push (emptyS w)).get? q = some { cls := .type "list", dict := odict, data := .seq its nl, slots := oslots } := Heap.get?_push_of_some _ hol
        have m1 := F.sub_list_set
        have m2 := F.sub_list_frozenset
        have m3 : (Value.type "list" == Value.type "dict") = false := by decide
        have hl1 : (sh.heap.push (emptyS w)).IsList q its := ⟨_, hol2, rfl, nl, rfl⟩
        unfold Builtin.«set.__init__» noKeywords Builtin.Frozenset.updateFrom
        generalize hPI : pyIter = PI
        wp_walk
        subst hPI
        refine wpAny_pyIter_list hl1 ?_
        refine wpAny_bind (wpAny_runValue ?_)
        have qS : q < sh.heap.objs.size := Heap.lt_size hol
        have hh3 : A.in1.in1.in1.handled = none := by simp [hh]
        have nI : q ≠ (sh.heap.push (emptyS w)).objs.size := by
          rw [Heap.size_push]; exact Nat.ne_of_lt (Nat.lt_succ_of_lt qS)
        have nf : sh.heap.objs.size ∉ [(sh.heap.push (emptyS w)).objs.size, q] := by
          rw [Heap.size_push]; simp only [List.mem_cons, List.mem_singleton, List.not_mem_nil, or_false, not_or]
          exact ⟨Nat.ne_of_lt (Nat.lt_succ_self _), Nat.ne_of_gt qS⟩
        refine set_texts ((Walks.list hh3 _ q nI its).toS) sh.heap.objs.size nf xs isz hb (fun i v e => strs_get hit i v (by rw [Array.getElem?_toList]; exact e)) (its.size - 0) 0 _ (by omega) (Nat.zero_le _)
          ⟨⟨_, Heap.get?_push_size _ rfl, rfl, rfl⟩, (hl1.push _)⟩ (setS_new (Heap.get?_push_of_some _ hS)) ?_
        intro z' mv hS'
        obtain ⟨hp, g2, d2, tk, os2⟩ := z'
        have eg : g2 = sh.gens := mv.gens
        have ed : d2 = sh.drawn := mv.drawn
        have eo : os2 = sh.os := mv.os
        subst eg; subst ed; subst eo
        show wpAny _ _ _ _ _ _
        refine wpAny_pure ?_
        show wpAny _ _ (ret Value.none) _ _ _
        refine wpAny_pure ⟨rfl, hp, tk, rfl, hS', fun b o e => ?_⟩
        have b0 : b < sh.heap.objs.size := Heap.lt_size e
        have b1 : b ≠ sh.heap.objs.size := Nat.ne_of_lt b0
        have b2 : b ≠ (sh.heap.push (emptyS w)).objs.size := by
          rw [Heap.size_push]; exact Nat.ne_of_lt (Nat.lt_succ_of_lt b0)
        exact mv.heap b o (by simp only [List.mem_cons, List.mem_singleton, List.not_mem_nil, or_false, not_or]; exact ⟨b1, b2⟩) (Heap.get?_push_of_some _ (Heap.get?_push_of_some _ e))
      · cases r2 with
        | error e => exact hr2
        | ok fl2 =>
          cases fl2 with
          | ret r =>
            obtain ⟨rfl, hp, tk, rfl, hS', hk'⟩ := hr2
            repeat (any_goals (first | assumption | wp_step))
            exact h _ _ hS' hk'
          | _ => exact hr2.elim
    | _ => exact hr.elim
theorem strs_of : ∀ (us : List Value), (∀ v ∈ us, ∃ x u, v = Value.str x u) → ∃ xs, StrsAre us xs ∧ xs = us.map fun v => txOf (0, v)
  | [], _ => ⟨[], .nil, rfl⟩
  | v :: us, h => by
    obtain ⟨x, u, rfl⟩ := h v (List.mem_cons_self ..)
    obtain ⟨xs, r, e⟩ := strs_of us fun y m => h y (List.mem_cons_of_mem _ m)
    exact ⟨x :: xs, .cons x u r, by rw [e]; rfl⟩
end
section
variable {X : Cx}
/-- the set of texts at a -/
def SetSO (w : World) (a : Addr) (l : List Str) : HO := .ext fun h => SetS w h a l
theorem setSO_new {w : World} {P : Program} {H : Hp} {h : Heap} {a : Addr} {l : List Str} (R : SetS w h a l) : ObjOk P w H h a (SetSO w a l) := by
  have ⟨o, _, _, _, ho, _⟩ := R
  exact ⟨R, ⟨o, ho⟩, fun h1 h2 p k => SetS.at p k⟩
theorem setSO_get {pins : List (Addr × Obj)} {σ : L2.St} {H : Hp} {s : Shared} {a : Addr} {l : List Str} (I : Inv X pins σ H s) (ha : H a = some (SetSO X.w a l)) : SetS X.w s.heap a l := (I.hok a _ ha).1
/-- set(xs) of a list of texts -/
def rSetS (w : World) (K : PySem.W.Frag) : List V → Hp → VK → Prop := fun vs H Q => ∃ (a : Addr) (xs : List Str), vs = [.ref a] ∧ SqL K H a (xs.map V.str) ∧ xs.length < 1000 ∧ ∀ p, H p = none → Q (.ref p) (upd H p (SetSO w p (xs.foldl putS [])))
theorem c_setS (hc : X.calm = true) : CallR X (.type "set") (rSetS X.w X.K) := by
  intro pins s σ H vs us Q I r h
  obtain ⟨a, xs, rfl, ha, ln, q⟩ := h
  rw [Vals.ref1 r]
  obtain ⟨its, rv, pl, hz⟩ := I.list ha
  refine call_setS xs (I.ok.hd hc) pl.isList (by simpa using strsAre_of rv) (by show _ < 4096; omega) fun hp tk hS hk => ?_
  exact ⟨.ref _, upd H s.heap.objs.size (SetSO X.w s.heap.objs.size (xs.foldl putS [])), I.laid (t' := tk) hk (Nat.le_refl _) (setSO_new hS), rfl, q _ (I.hok.fresh (Nat.le_refl _))⟩
/-- sorted(s) of a set of fewer than 64 texts -/
def rSortS (w : World) : List V → Hp → VK → Prop := fun vs H Q => ∃ (a : Addr) (l : List Str), vs = [.ref a] ∧ H a = some (SetSO w a l) ∧ l.length < 64 ∧ ∀ ys p, ys.Perm l → sortedS ys = true → H p = none → Q (.ref p) (upd H p (.lst (ys.map V.str)))
theorem c_sortS (hc : X.calm = true) : CallR X (.builtin "sorted") (rSortS X.w) := by
  intro pins s σ H vs us Q I r h
  obtain ⟨a, l, rfl, ha, h64, q⟩ := h
  obtain ⟨ob, ar, ep, tb, ho, hx, hd, T⟩ := setSO_get I ha
  rw [Vals.ref1 r]
  refine Calls.call_function_entry PyProof.Rows.kind_sorted PyProof.Rows.plain_sorted PyProof.Rows.entry_sorted (PyProof.Rows.args_sorted1 _) ?_
  unfold Builtin.«sorted»
  refine wpAny_bind (m := checkCount "sorted" 1 1 _) (wpAny_pure ?_)
  refine wpAny_bind (collect_set (A := X.A.in1) (I.ok.hd hc) ⟨ob, ho, hx.1, hd⟩ T.ft (by rw [T.len]; exact T.sz) T.rs T.ld fun s1 out k1 z1 g1 o1 pm => ?_)
  obtain ⟨xs, hS, ex⟩ := strs_of out fun v m => by
    obtain ⟨e, he, z⟩ := List.mem_map.mp (pm.mem_iff.mp m)
    obtain ⟨x, u, e1, _⟩ := T.en e he
    exact ⟨x, u, by rw [← z]; exact e1⟩
  have px : xs.Perm l := by
    rw [ex]
    refine (pm.map fun v => txOf (0, v)).trans ?_
    rw [List.map_map]
    exact T.pm
  have hol : out.length = l.length := by rw [← px.length_eq, ex, List.length_map]
  refine wpAny_bind (wpAny_newList ?_ (by rw [hol, sizeLine_eq]; omega))
  have hoL : (s1.heap.push (seqObj "list" out.toArray 0)).get? s1.heap.objs.size = some (seqObj "list" out.toArray 0) := Heap.get?_push_size _ rfl
  refine wpAny_bind (wpAny_holding (wpAny_call_entry PyProof.Rows.slot_list_sort ⟨_, hoL, rfl⟩ PyProof.Rows.entry_list_sort
    (list_sort_treeK strKind_oneLt (s := { s1 with heap := s1.heap.push (seqObj "list" out.toArray 0) }) hoL hS.keysOf (fun v₁ v₂ rest e => keyKind_strs (by rw [← e]; exact hS)) (by rw [hol]; exact h64) fun st' hp hs => ⟨_, rfl, ?_⟩)
    (PyProof.Rows.args_list_sort _)))
  obtain ⟨ys, a1, a2, a3⟩ := sorted_out_str hS hp hs
  obtain ⟨c', hc'⟩ := PyProof.Rows.sortedHeap_at (vs := out) (out := (arrOf st').map (·.2)) hoL
  have hlen : (ys.map V.str).length ≤ sizeLine := by
    rw [List.length_map, a2.length_eq, px.length_eq, sizeLine_eq]; omega
  have nH : H s1.heap.objs.size = none := I.hok.fresh z1
  have kk : ∀ b u, s.heap.get? b = some u → (sortedHeap (s1.heap.push (seqObj "list" out.toArray 0)) s1.heap.objs.size out ((arrOf st').map (·.2))).get? b = some u := fun b u e => by
    have e1 := k1 b u e
    have lt := Heap.lt_size e1
    rw [PyProof.Rows.sortedHeap_old (Nat.ne_of_lt lt) (by rw [size_push']; exact Nat.lt_succ_of_lt lt)]
    exact Heap.get?_push_of_some _ e1
  refine wpAny_pure ⟨_, rfl, .ref s1.heap.objs.size, upd H s1.heap.objs.size (.lst (ys.map V.str)), ?_, rfl, q ys _ (a2.trans px) a3 nH⟩
  have J : Inv X pins σ (upd H s1.heap.objs.size (.lst (ys.map V.str))) { s with heap := sortedHeap (s1.heap.push (seqObj "list" out.toArray 0)) s1.heap.objs.size out ((arrOf st').map (·.2)), gens := s1.gens, drawn := s1.drawn, toks := s1.toks } :=
    I.call (ch := []) (Un.laid kk z1 nH) (I.hok.laid kk z1 ⟨hlen, ((arrOf st').map (·.2)).toList, c', vals_of_strs a1, by rw [Array.toArray_toList]; exact hc'⟩) (by rw [g1]; exact I.bare) (fun _ z => nomatch z)
  cases s1
  cases s
  cases o1
  exact J
end
end RS
namespace RS
open PySem PySem.Spec L2 PyProof.Rows
section
variable {X : Cx} {k : Nat} {pins : List (Addr × Obj)} {σ : L2.St} {H : Hp} {s : Shared}
theorem hits_dl (I : Inv X pins σ H s) {A : Around} {ls : List (Key × V)} {vb : List (Key × Value)} (rb : KV ls vb) (hu : A.in1.units + 64 < cLine) {ks : List (Key × V)} {va : List (Key × Value)} (ra : KV ks va) :
    (∀ p ∈ ks, ∃ u d e, valV ls p.1 = some u ∧ Dp X.K H p.2 d ∧ Dp X.K H u e ∧ SeqAt.shaped d = true ∧ SeqAt.shaped e = true ∧ PyData.eqv d e = true) → PySem.W.KeqHits A.in1 s vb va true := by
  unfold KV at ra
  induction ra with
  | nil => exact fun _ => .nil
  | @cons p q ps qs h t ih =>
    intro hp
    obtain ⟨h1, h2⟩ := h
    have hr := ih fun p' hm => hp p' (List.mem_cons_of_mem _ hm)
    obtain ⟨key, v⟩ := q
    have h1' : p.1 = key := h1
    have h2 : RelV p.2 v := h2
    obtain ⟨u, d, e, hv, dd, de, s1, s2, he⟩ := hp p List.mem_cons_self
    have rr : RelO (some u) (valueAt vb p.1) := by rw [← hv]; exact rb.val p.1
    obtain ⟨y, hy, ry⟩ := rr.some_of
    rw [h1'] at hy
    obtain ⟨as, r1⟩ := dd.reads I d _ _ h2
    obtain ⟨bs, r2⟩ := de.reads I e _ _ ry
    have ev := PySem.W.keq_at (A := A) r1 r2 s1 s2 hu
    rw [he] at ev
    exact .hit hy ev hr
def rNeDL (K : PySem.W.Frag) : R2 := fun x y H Q => ∃ a b ks ls, x = .ref a ∧ y = .ref b ∧ H a = some (.dK ks) ∧ H b = some (.dK ls) ∧ ks.length = ls.length ∧
  (∀ p ∈ ks, ∃ u d e, valV ls p.1 = some u ∧ Dp K H p.2 d ∧ Dp K H u e ∧ SeqAt.shaped d = true ∧ SeqAt.shaped e = true ∧ PyData.eqv d e = true) ∧ Q (.bl false) H
theorem op_neDL {K : PySem.W.Frag} (hr : Rm k X) (hK : X.K = K := by rfl) : OpR X (compareOp .NotEq) (rNeDL K) := by
  subst hK
  intro pins s σ H x y v u Q I rx ry h
  obtain ⟨a, b, ks, ls, rfl, rfl, ea, eb, hl, hp, q⟩ := h
  obtain rfl : v = Value.ref a := rx
  obtain rfl : u = Value.ref b := ry
  obtain ⟨_, ya, va, ra, da⟩ := (show ObjOk X.prog X.w H s.heap a (.dK ks) from I.hok a _ ea)
  obtain ⟨_, yb, vb, rb, db⟩ := (show ObjOk X.prog X.w H s.heap b (.dK ls) from I.hok b _ eb)
  have hu : X.A.units < cLine := by have := hr.room.un; omega
  refine PySem.W.keq_ne (knd := mixKind X.prog X.w) (r := true) ya yb da db hu (fun e => hits_dl I rb (by have := hr.room.un; show X.A.units + 1 + 64 < cLine; omega) ra hp) (fin_bl I q ?_)
  have e : (va.length == vb.length) = true := by rw [← ra.length, ← rb.length, hl]; simp
  rw [e]; rfl
end
end RS
namespace K62
open PySem PySem.Spec L2 RS
open SX (S S_len S_cat S_tl S_inj)
open TL (numL numL_lt numL_step numL_digits numL_ne numL_inj numL_len)
open PySem.Builtin.Str (reprChar)
/-- signs of ASCII alone -/
def asc (x : Str) : Bool := x.cps.toList.all (· < 128)
def gkeyB : PyData → Bool
  | .str x => decide (x.length ≤ 8) && asc x
  | _ => false
mutual
/-- small values -/
def gB : PyData → Bool
  | .none => true
  | .bool _ => true
  | .int i => decide (i.natAbs < 10 ^ 100)
  | .str x => decide (x.length ≤ 8) && asc x
  | .list ds => decide (ds.length ≤ 16) && gAll ds
  | .tuple ds => decide (ds.length ≤ 16) && gAll ds
  | .dict D => decide (D.length ≤ 16) && gKv D
def gAll : List PyData → Bool
  | [] => true
  | d :: ds => gB d && gAll ds
def gKv : List (PyData × PyData) → Bool
  | [] => true
  | (k, d) :: r => gkeyB k && gB d && gKv r
end
theorem gAll_mem : ∀ {a : List PyData}, gAll a = true ↔ ∀ d ∈ a, gB d = true
  | [] => by simp [gAll]
  | x :: a => by simp only [gAll, Bool.and_eq_true, List.mem_cons, forall_eq_or_imp, gAll_mem (a := a)]
theorem gKv_mem : ∀ {a : List (PyData × PyData)}, gKv a = true ↔ ∀ p ∈ a, gkeyB p.1 = true ∧ gB p.2 = true
  | [] => by simp [gKv]
  | (k, x) :: a => by simp only [gKv, Bool.and_eq_true, List.mem_cons, forall_eq_or_imp, gKv_mem (a := a)]
mutual
/-- what the program takes for a value, but for its levels -/
def okB : PyData → Bool
  | .none => true
  | .bool _ => true
  | .int i => decide (i.natAbs < 10 ^ 100)
  | .str x => decide (x.length ≤ 10000)
  | .list ds => decide (ds.length ≤ 10000) && okAll ds
  | .tuple ds => decide (ds.length ≤ 10000) && okAll ds
  | .dict D => decide (D.length ≤ 10000) && okKv D
def okAll : List PyData → Bool
  | [] => true
  | d :: ds => okB d && okAll ds
def okKv : List (PyData × PyData) → Bool
  | [] => true
  | (k, d) :: r => okB k && okB d && okKv r
end
mutual
theorem ok_g : ∀ d : PyData, gB d = true → okB d = true
  | .none, _ => rfl
  | .bool _, _ => rfl
  | .int i, h => by simpa [gB, okB] using h
  | .str x, h => by
    simp only [gB, Bool.and_eq_true, decide_eq_true_eq] at h
    simp only [okB, decide_eq_true_eq]; omega
  | .list ds, h => by
    simp only [gB, Bool.and_eq_true, decide_eq_true_eq] at h
    simp only [okB, Bool.and_eq_true, decide_eq_true_eq]
    exact ⟨by omega, ok_gAll ds h.2⟩
  | .tuple ds, h => by
    simp only [gB, Bool.and_eq_true, decide_eq_true_eq] at h
    simp only [okB, Bool.and_eq_true, decide_eq_true_eq]
    exact ⟨by omega, ok_gAll ds h.2⟩
  | .dict D, h => by
    simp only [gB, Bool.and_eq_true, decide_eq_true_eq] at h
    simp only [okB, Bool.and_eq_true, decide_eq_true_eq]
    exact ⟨by omega, ok_gKv D h.2⟩
theorem ok_gAll : ∀ ds : List PyData, gAll ds = true → okAll ds = true
  | [], _ => rfl
  | d :: ds, h => by
    simp only [gAll, Bool.and_eq_true] at h
    simp only [okAll, Bool.and_eq_true]
    exact ⟨ok_g d h.1, ok_gAll ds h.2⟩
theorem ok_gKv : ∀ D : List (PyData × PyData), gKv D = true → okKv D = true
  | [], _ => rfl
  | (k, d) :: r, h => by
    simp only [gKv, Bool.and_eq_true] at h
    simp only [okKv, Bool.and_eq_true]
    refine ⟨⟨?_, ok_g d h.1.2⟩, ok_gKv r h.2⟩
    cases k with
    | str x =>
      have := h.1.1
      simp only [gkeyB, Bool.and_eq_true, decide_eq_true_eq] at this
      simp only [okB, decide_eq_true_eq]; omega
    | _ => cases h.1.1
end
theorem str_cps {x y : Str} (h : x.cps.toList = y.cps.toList) : x = y := by
  obtain ⟨a⟩ := x
  obtain ⟨b⟩ := y
  congr 1
  exact Array.toList_inj.mp h
theorem tl_app (x y : Str) : (x ++ y).cps.toList = x.cps.toList ++ y.cps.toList := by rw [Str.cps_append, Array.toList_append]
theorem sgn (s : String) (l : List Nat) (h : (Str.ofString s).cps.toList = l := by decide +kernel) : (Str.ofString s).cps.toList = l := h
theorem numL_dig (n : Nat) : ∀ c ∈ numL n, 48 ≤ c ∧ c ≤ 57 := fun c hc => by
  have := numL_digits n c hc
  simpa using this
theorem num_first (m : Nat) : ∃ c r, numL m = c :: r ∧ c ≠ 45 := by
  cases h : numL m with
  | nil => exact absurd h (numL_ne m)
  | cons c r =>
    have := numL_dig m c (by rw [h]; exact List.mem_cons_self ..)
    exact ⟨c, r, rfl, by omega⟩
def sgI (i : Int) : List Nat := if i < 0 then 45 :: numL i.natAbs else numL i.natAbs
theorem int_sign_text (i : Int) : (Str.ofString (toString i)).cps.toList = sgI i := by
  unfold sgI
  cases i with
  | ofNat m =>
    have := TL.tl_num m
    rw [if_neg (by simp)]
    exact this
  | negSucc m =>
    rw [if_pos (Int.negSucc_lt_zero m)]
    have e : toString (Int.negSucc m) = "-" ++ toString (m + 1) := rfl
    have e2 := TL.tl_num (m + 1)
    have e3 : toString (((m + 1 : Nat)) : Int) = toString (m + 1) := rfl
    rw [e, ofS_tl, String.toList_append, List.map_append, ← ofS_tl, ← ofS_tl, ← e3]
    show [45] ++ _ = 45 :: numL (m + 1)
    rw [← e2]; rfl
/-- what renders values -/
structure Rend (f : PyData → Str) : Prop where
  non : f .none = "None"
  bl : ∀ b, f (.bool b) = Str.ofString (if b then "True" else "False" : String)
  int : ∀ i, f (.int i) = Str.ofString (toString i)
  lst : ∀ ds, f (.list ds) = "[" ++ Str.join ", " (ds.map f) ++ "]"
  tup : ∀ ds, f (.tuple ds) = "(" ++ Str.join ", " (ds.map f) ++ Str.ofString (if ds.length == 1 then ",)" else ")" : String)
  dct : ∀ D, f (.dict D) = "{" ++ Str.join ", " (D.map fun p => f p.1 ++ ": " ++ f p.2) ++ "}"
  str0 : ∀ x, ∃ c t, (f (.str x)).cps.toList = c :: t ∧ (c = 34 ∨ c = 39)
  strI : ∀ {x y r r'}, asc x = true → asc y = true → (f (.str x)).cps.toList ++ r = (f (.str y)).cps.toList ++ r' → x = y ∧ r = r'
  strL : ∀ {x}, asc x = true → x.length ≤ 8 → (f (.str x)).length ≤ 105
section
variable {f : PyData → Str} (R : Rend f)
def shL (f : PyData → Str) (d : PyData) : List Nat := (f d).cps.toList
/-- items, each behind a comma -/
def tls (f : PyData → Str) : List PyData → List Nat
  | [] => []
  | d :: ds => 44 :: 32 :: (shL f d ++ tls f ds)
def kvL (f : PyData → Str) (k d : PyData) : List Nat := shL f k ++ 58 :: 32 :: shL f d
def tlK (f : PyData → Str) : List (PyData × PyData) → List Nat
  | [] => []
  | (k, d) :: D => 44 :: 32 :: (kvL f k d ++ tlK f D)
theorem join_tls : ∀ (d : PyData) (ds : List PyData), (Str.join ", " ((d :: ds).map f)).cps.toList = shL f d ++ tls f ds
  | d, [] => by simp [Str.join, tls, shL]
  | d, e :: ds => by
    have ih := join_tls e ds
    rw [List.map_cons] at ih
    rw [List.map_cons, List.map_cons]
    simp only [Str.join, tl_app]
    rw [ih]
    simp only [tls, shL, List.append_assoc, sgn ", " [44, 32]]
    rfl
theorem join_tlK : ∀ (k d : PyData) (D : List (PyData × PyData)), (Str.join ", " (((k, d) :: D).map fun p => f p.1 ++ ": " ++ f p.2)).cps.toList = kvL f k d ++ tlK f D
  | k, d, [] => by simp [Str.join, tlK, kvL, shL, tl_app, sgn ": " [58, 32]]
  | k, d, (k', e) :: D => by
    have ih := join_tlK k' e D
    rw [List.map_cons] at ih
    rw [List.map_cons, List.map_cons]
    simp only [Str.join, tl_app] at ih ⊢
    rw [ih]
    simp only [tlK, kvL, shL, List.append_assoc, sgn ", " [44, 32], sgn ": " [58, 32]]
    rfl
def clT (n : Nat) : List Nat := if n = 1 then [44, 41] else [41]
include R
theorem shL_list0 : shL f (.list []) = [91, 93] := by unfold shL; rw [R.lst]; simp only [List.map_nil]; decide +kernel
theorem shL_list (d : PyData) (ds : List PyData) : shL f (.list (d :: ds)) = 91 :: (shL f d ++ (tls f ds ++ [93])) := by
  rw [shL, R.lst, tl_app, tl_app, join_tls]
  simp [sgn "[" [91], sgn "]" [93]]
theorem shL_tup0 : shL f (.tuple []) = [40, 41] := by unfold shL; rw [R.tup]; simp only [List.map_nil]; decide +kernel
theorem shL_tup (d : PyData) (ds : List PyData) : shL f (.tuple (d :: ds)) = 40 :: (shL f d ++ (tls f ds ++ clT (ds.length + 1))) := by
  rw [shL, R.tup, tl_app, tl_app, join_tls]
  have e : (Str.ofString (if (d :: ds).length == 1 then ",)" else ")" : String)).cps.toList = clT (ds.length + 1) := by
    unfold clT
    by_cases h : ds.length + 1 = 1
    · rw [if_pos h, if_pos (by simpa using h)]; decide +kernel
    · rw [if_neg h, if_neg (by simpa using h)]; decide +kernel
  rw [e]
  simp [sgn "(" [40]]
theorem shL_dict0 : shL f (.dict []) = [123, 125] := by unfold shL; rw [R.dct]; simp only [List.map_nil]; decide +kernel
theorem shL_dict (k d : PyData) (D : List (PyData × PyData)) : shL f (.dict ((k, d) :: D)) = 123 :: (kvL f k d ++ (tlK f D ++ [125])) := by
  rw [shL, R.dct, tl_app, tl_app, join_tlK]
  simp [sgn "{" [123], sgn "}" [125]]
theorem shL_none : shL f .none = [78, 111, 110, 101] := by unfold shL; rw [R.non]; decide +kernel
theorem shL_bool (b : Bool) : shL f (.bool b) = if b then [84, 114, 117, 101] else [70, 97, 108, 115, 101] := by unfold shL; rw [R.bl]; cases b <;> decide +kernel
theorem shL_int (i : Int) : shL f (.int i) = sgI i := by unfold shL; rw [R.int]; exact int_sign_text i
omit R
def fst1 : PyData → Nat → Bool
  | .none, c => c == 78
  | .bool true, c => c == 84
  | .bool false, c => c == 70
  | .int _, c => c == 45 || (decide (48 ≤ c) && decide (c ≤ 57))
  | .str _, c => c == 34 || c == 39
  | .list _, c => c == 91
  | .tuple _, c => c == 40
  | .dict _, c => c == 123
include R
theorem head_of (d : PyData) : ∃ c t, shL f d = c :: t ∧ fst1 d c = true := by
  cases d with
  | none => exact ⟨_, _, shL_none R, rfl⟩
  | bool b => rw [shL_bool R]; cases b <;> exact ⟨_, _, rfl, rfl⟩
  | int i =>
    rw [shL_int R]
    unfold sgI
    split
    · exact ⟨_, _, rfl, by simp [fst1]⟩
    · obtain ⟨c, r, e, _⟩ := num_first i.natAbs
      rw [e]
      have := numL_dig i.natAbs c (by rw [e]; exact List.mem_cons_self ..)
      exact ⟨c, r, rfl, by simp [fst1, this]⟩
  | str x =>
    obtain ⟨c, t, e, h⟩ := R.str0 x
    exact ⟨c, t, e, by rcases h with h | h <;> simp [fst1, h]⟩
  | list ds => cases ds with
    | nil => exact ⟨_, _, shL_list0 R, rfl⟩
    | cons d ds => exact ⟨_, _, shL_list R d ds, rfl⟩
  | tuple ds => cases ds with
    | nil => exact ⟨_, _, shL_tup0 R, rfl⟩
    | cons d ds => exact ⟨_, _, shL_tup R d ds, rfl⟩
  | dict D => cases D with
    | nil => exact ⟨_, _, shL_dict0 R, rfl⟩
    | cons p D => obtain ⟨k, d⟩ := p; exact ⟨_, _, shL_dict R k d D, rfl⟩
omit R
def kindC : PyData → Nat
  | .none => 0
  | .bool true => 1
  | .bool false => 2
  | .int _ => 3
  | .str _ => 4
  | .list _ => 5
  | .tuple _ => 6
  | .dict _ => 7
theorem fst1_kind {d e : PyData} {c : Nat} (h1 : fst1 d c = true) (h2 : fst1 e c = true) : kindC d = kindC e := by
  cases d with
  | bool b => cases b <;> (cases e with
    | bool b' => cases b' <;> simp [fst1, kindC] at h1 h2 ⊢ <;> omega
    | _ => simp [fst1, kindC] at h1 h2 ⊢ <;> omega)
  | _ => cases e with
    | bool b' => cases b' <;> simp [fst1, kindC] at h1 h2 ⊢ <;> omega
    | _ => simp [fst1, kindC] at h1 h2 ⊢ <;> omega
include R
theorem same_kind {d e : PyData} {r r' : List Nat} (h : shL f d ++ r = shL f e ++ r') : kindC d = kindC e := by
  obtain ⟨c, t, e1, f1⟩ := head_of R d
  obtain ⟨c', t', e2, f2⟩ := head_of R e
  rw [e1, e2] at h
  simp only [List.cons_append, List.cons.injEq] at h
  rw [← h.1] at f2
  exact fst1_kind f1 f2
omit R
/-- what may stand behind a value -/
def Stp (r : List Nat) : Prop := ∀ c t, r = c :: t → c = 44 ∨ c = 93 ∨ c = 41 ∨ c = 125
/-- what may stand behind all items -/
def Cls' (r : List Nat) : Prop := ∃ c t, r = c :: t ∧ (c = 93 ∨ c = 41 ∨ c = 125 ∨ (c = 44 ∧ ∃ t', t = 41 :: t'))
theorem Cls'.stp {r : List Nat} (h : Cls' r) : Stp r := by
  obtain ⟨c, t, rfl, h⟩ := h
  intro c' t' e
  cases e
  rcases h with h | h | h | h
  · exact .inr (.inl h)
  · exact .inr (.inr (.inl h))
  · exact .inr (.inr (.inr h))
  · exact .inl h.1
theorem stp_tls {ds : List PyData} {r : List Nat} (h : Cls' r) : Stp (tls f ds ++ r) := by
  cases ds with
  | nil => exact h.stp
  | cons d ds => intro c t e; simp only [tls, List.cons_append, List.cons.injEq] at e; exact .inl e.1.symm
theorem stp_tlK {ds : List (PyData × PyData)} {r : List Nat} (h : Cls' r) : Stp (tlK f ds ++ r) := by
  cases ds with
  | nil => exact h.stp
  | cons d ds => obtain ⟨k, d⟩ := d; intro c t e; simp only [tlK, List.cons_append, List.cons.injEq] at e; exact .inl e.1.symm
theorem no_item {r t : List Nat} (h : Cls' r) : r ≠ 44 :: 32 :: t := fun e => by
  obtain ⟨c, t', rfl, h⟩ := h
  simp only [List.cons.injEq] at e
  obtain ⟨rfl, rfl⟩ := e
  rcases h with h | h | h | ⟨_, t', h⟩
  · cases h
  · cases h
  · cases h
  · cases h
theorem run_split {a b r r' : List Nat} (ha : ∀ c ∈ a, 48 ≤ c ∧ c ≤ 57) (hb : ∀ c ∈ b, 48 ≤ c ∧ c ≤ 57) (h : Stp r) (h' : Stp r') (e : a ++ r = b ++ r') : a = b ∧ r = r' := by
  induction a generalizing b with
  | nil => cases b with
    | nil => exact ⟨rfl, e⟩
    | cons c b =>
      have := hb c (List.mem_cons_self ..)
      have := h c _ e
      omega
  | cons c a ih => cases b with
    | nil =>
      have := ha c (List.mem_cons_self ..)
      have := h' c _ e.symm
      omega
    | cons c' b =>
      simp only [List.cons_append, List.cons.injEq] at e
      have := ih (fun x hx => ha x (List.mem_cons_of_mem _ hx)) (b := b) (fun x hx => hb x (List.mem_cons_of_mem _ hx)) e.2
      exact ⟨by rw [e.1, this.1], this.2⟩
theorem int_inj {i j : Int} {r r' : List Nat} (h : Stp r) (h' : Stp r') (e : sgI i ++ r = sgI j ++ r') : i = j ∧ r = r' := by
  unfold sgI at e
  by_cases ni : i < 0 <;> by_cases nj : j < 0
  · rw [if_pos ni, if_pos nj] at e
    simp only [List.cons_append, List.cons.injEq, true_and] at e
    have a := run_split (numL_dig _) (numL_dig _) h h' e
    have b := numL_inj a.1
    exact ⟨by omega, a.2⟩
  · exfalso
    rw [if_pos ni, if_neg nj] at e
    obtain ⟨c, t, e2, n⟩ := num_first j.natAbs
    rw [e2] at e
    simp only [List.cons_append, List.cons.injEq] at e
    exact n e.1.symm
  · exfalso
    rw [if_neg ni, if_pos nj] at e
    obtain ⟨c, t, e2, n⟩ := num_first i.natAbs
    rw [e2] at e
    simp only [List.cons_append, List.cons.injEq] at e
    exact n e.1
  · rw [if_neg ni, if_neg nj] at e
    have a := run_split (numL_dig _) (numL_dig _) h h' e
    have b := numL_inj a.1
    exact ⟨by omega, a.2⟩
theorem cls_93 (r : List Nat) : Cls' ([93] ++ r) := ⟨_, _, rfl, .inl rfl⟩
theorem cls_125 (r : List Nat) : Cls' ([125] ++ r) := ⟨_, _, rfl, .inr (.inr (.inl rfl))⟩
theorem cls_T (n : Nat) (r : List Nat) : Cls' (clT n ++ r) := by
  unfold clT
  split
  · exact ⟨_, _, rfl, .inr (.inr (.inr ⟨rfl, _, rfl⟩))⟩
  · exact ⟨_, _, rfl, .inr (.inl rfl)⟩
include R
theorem no_open {d : PyData} {r t : List Nat} {c : Nat} (h : shL f d ++ r = c :: t) (n : c = 93 ∨ c = 41 ∨ c = 125) : False := by
  obtain ⟨a, s, e, f⟩ := head_of R d
  rw [e] at h
  simp only [List.cons_append, List.cons.injEq] at h
  rw [h.1] at f
  cases d with
  | bool b => cases b <;> simp [fst1] at f <;> omega
  | _ => simp [fst1] at f <;> omega
omit R
mutual
theorem sh_inj (R : Rend f) : ∀ (d e : PyData) {r r' : List Nat}, gB d = true → gB e = true → Stp r → Stp r' → shL f d ++ r = shL f e ++ r' → d = e ∧ r = r'
  | .none, e, r, r', _, _, _, _, h => by
    have k := same_kind R h
    cases e with
    | none => exact ⟨rfl, List.append_cancel_left h⟩
    | bool b => cases b <;> cases k
    | _ => cases k
  | .bool b, e, r, r', _, _, _, _, h => by
    have k := same_kind R h
    cases e with
    | bool b' =>
      have : b = b' := by cases b <;> cases b' <;> first | rfl | cases k
      subst this
      exact ⟨rfl, List.append_cancel_left h⟩
    | _ => cases b <;> cases k
  | .int i, e, r, r', g1, g2, s1, s2, h => by
    have k := same_kind R h
    cases e with
    | int j =>
      simp only [gB, decide_eq_true_eq] at g1 g2
      rw [shL_int R, shL_int R] at h
      have := int_inj s1 s2 h
      exact ⟨by rw [this.1], this.2⟩
    | bool b => cases b <;> cases k
    | _ => cases k
  | .str x, e, r, r', g1, g2, s1, s2, h => by
    have k := same_kind R h
    cases e with
    | str y =>
      simp only [gB, Bool.and_eq_true] at g1 g2
      have := R.strI g1.2 g2.2 h
      exact ⟨by rw [this.1], this.2⟩
    | bool b => cases b <;> cases k
    | _ => cases k
  | .list ds, e, r, r', g1, g2, s1, s2, h => by
    have k := same_kind R h
    cases e with
    | list es =>
      simp only [gB, Bool.and_eq_true] at g1 g2
      cases ds with
      | nil => cases es with
        | nil => exact ⟨rfl, List.append_cancel_left h⟩
        | cons e es =>
          rw [shL_list0 R, shL_list R] at h
          simp only [List.cons_append, List.nil_append, List.append_assoc, List.cons.injEq, true_and] at h
          exact (no_open R h.symm (.inl rfl)).elim
      | cons d ds => cases es with
        | nil =>
          rw [shL_list0 R, shL_list R] at h
          simp only [List.cons_append, List.nil_append, List.append_assoc, List.cons.injEq, true_and] at h
          exact (no_open R h (.inl rfl)).elim
        | cons e es =>
          rw [shL_list R, shL_list R] at h
          simp only [List.cons_append, List.append_assoc, List.cons.injEq, true_and] at h
          simp only [gAll, Bool.and_eq_true] at g1 g2
          have a := sh_inj R d e g1.2.1 g2.2.1 (stp_tls (cls_93 r)) (stp_tls (cls_93 r')) h
          have b := tls_inj R ds es g1.2.2 g2.2.2 (cls_93 r) (cls_93 r') a.2
          exact ⟨by rw [a.1, b.1], List.append_cancel_left b.2⟩
    | bool b => cases b <;> cases k
    | _ => cases k
  | .tuple ds, e, r, r', g1, g2, s1, s2, h => by
    have k := same_kind R h
    cases e with
    | tuple es =>
      simp only [gB, Bool.and_eq_true] at g1 g2
      cases ds with
      | nil => cases es with
        | nil => exact ⟨rfl, List.append_cancel_left h⟩
        | cons e es =>
          rw [shL_tup0 R, shL_tup R] at h
          simp only [List.cons_append, List.nil_append, List.append_assoc, List.cons.injEq, true_and] at h
          exact (no_open R h.symm (.inr (.inl rfl))).elim
      | cons d ds => cases es with
        | nil =>
          rw [shL_tup0 R, shL_tup R] at h
          simp only [List.cons_append, List.nil_append, List.append_assoc, List.cons.injEq, true_and] at h
          exact (no_open R h (.inr (.inl rfl))).elim
        | cons e es =>
          rw [shL_tup R, shL_tup R] at h
          simp only [List.cons_append, List.append_assoc, List.cons.injEq, true_and] at h
          simp only [gAll, Bool.and_eq_true] at g1 g2
          have a := sh_inj R d e g1.2.1 g2.2.1 (stp_tls (cls_T _ r)) (stp_tls (cls_T _ r')) h
          have b := tls_inj R ds es g1.2.2 g2.2.2 (cls_T _ r) (cls_T _ r') a.2
          have c := b.2
          rw [b.1] at c
          exact ⟨by rw [a.1, b.1], List.append_cancel_left c⟩
    | bool b => cases b <;> cases k
    | _ => cases k
  | .dict D, e, r, r', g1, g2, s1, s2, h => by
    have k := same_kind R h
    cases e with
    | dict E =>
      simp only [gB, Bool.and_eq_true] at g1 g2
      cases D with
      | nil => cases E with
        | nil => exact ⟨rfl, List.append_cancel_left h⟩
        | cons p E =>
          obtain ⟨k', e⟩ := p
          rw [shL_dict0 R, shL_dict R] at h
          simp only [kvL, List.cons_append, List.nil_append, List.append_assoc, List.cons.injEq, true_and] at h
          exact (no_open R h.symm (.inr (.inr rfl))).elim
      | cons p D =>
        obtain ⟨k1, d⟩ := p
        cases E with
        | nil =>
          rw [shL_dict0 R, shL_dict R] at h
          simp only [kvL, List.cons_append, List.nil_append, List.append_assoc, List.cons.injEq, true_and] at h
          exact (no_open R h (.inr (.inr rfl))).elim
        | cons p E =>
          obtain ⟨k2, e⟩ := p
          rw [shL_dict R, shL_dict R] at h
          simp only [kvL, List.cons_append, List.append_assoc, List.cons.injEq, true_and] at h
          simp only [gKv, Bool.and_eq_true] at g1 g2
          cases k1 with
          | str x => cases k2 with
            | str y =>
              have g3 := g1.2.1.1
              have g4 := g2.2.1.1
              simp only [gkeyB, Bool.and_eq_true] at g3 g4
              have c := R.strI g3.2 g4.2 h
              have c2 := c.2
              simp only [List.cons.injEq, true_and] at c2
              have a := sh_inj R d e g1.2.1.2 g2.2.1.2 (stp_tlK (cls_125 r)) (stp_tlK (cls_125 r')) c2
              have b := tlK_inj R D E g1.2.2 g2.2.2 (cls_125 r) (cls_125 r') a.2
              exact ⟨by rw [a.1, b.1, c.1], List.append_cancel_left b.2⟩
            | _ => cases g2.2.1.1
          | _ => cases g1.2.1.1
    | bool b => cases b <;> cases k
    | _ => cases k
theorem tls_inj (R : Rend f) : ∀ (ds es : List PyData) {r r' : List Nat}, gAll ds = true → gAll es = true → Cls' r → Cls' r' → tls f ds ++ r = tls f es ++ r' → ds = es ∧ r = r'
  | [], [], r, r', _, _, _, _, h => ⟨rfl, h⟩
  | [], e :: es, r, r', _, _, c1, _, h => by
    simp only [tls, List.nil_append, List.cons_append] at h
    exact (no_item c1 h).elim
  | d :: ds, [], r, r', _, _, _, c2, h => by
    simp only [tls, List.nil_append, List.cons_append] at h
    exact (no_item c2 h.symm).elim
  | d :: ds, e :: es, r, r', g1, g2, c1, c2, h => by
    simp only [tls, List.cons_append, List.append_assoc, List.cons.injEq, true_and] at h
    simp only [gAll, Bool.and_eq_true] at g1 g2
    have a := sh_inj R d e g1.1 g2.1 (stp_tls c1) (stp_tls c2) h
    have b := tls_inj R ds es g1.2 g2.2 c1 c2 a.2
    exact ⟨by rw [a.1, b.1], b.2⟩
theorem tlK_inj (R : Rend f) : ∀ (D E : List (PyData × PyData)) {r r' : List Nat}, gKv D = true → gKv E = true → Cls' r → Cls' r' → tlK f D ++ r = tlK f E ++ r' → D = E ∧ r = r'
  | [], [], r, r', _, _, _, _, h => ⟨rfl, h⟩
  | [], (k, e) :: es, r, r', _, _, c1, _, h => by
    simp only [tlK, List.nil_append, List.cons_append] at h
    exact (no_item c1 h).elim
  | (k, d) :: ds, [], r, r', _, _, _, c2, h => by
    simp only [tlK, List.nil_append, List.cons_append] at h
    exact (no_item c2 h.symm).elim
  | (k1, d) :: D, (k2, e) :: E, r, r', g1, g2, c1, c2, h => by
    simp only [tlK, kvL, List.cons_append, List.append_assoc, List.cons.injEq, true_and] at h
    simp only [gKv, Bool.and_eq_true] at g1 g2
    cases k1 with
    | str x => cases k2 with
      | str y =>
        have g3 := g1.1.1
        have g4 := g2.1.1
        simp only [gkeyB, Bool.and_eq_true] at g3 g4
        have c := R.strI g3.2 g4.2 h
        have c3 := c.2
        simp only [List.cons.injEq, true_and] at c3
        have a := sh_inj R d e g1.1.2 g2.1.2 (stp_tlK c1) (stp_tlK c2) c3
        have b := tlK_inj R D E g1.2 g2.2 c1 c2 a.2
        exact ⟨by rw [a.1, b.1, c.1], b.2⟩
      | _ => cases g2.1.1
    | _ => cases g1.1.1
end
end
/-- two values are rendered alike only if they are the same -/
theorem Rend.inj {f : PyData → Str} (R : Rend f) {d e : PyData} (h1 : gB d = true) (h2 : gB e = true) (h : f d = f e) : d = e :=
  (sh_inj R d e (r := []) (r' := []) h1 h2 (fun _ _ z => by cases z) (fun _ _ z => by cases z) (by simp only [shL, h])).1
def SH : Nat → Nat
  | 0 => 105
  | n + 1 => 10 + 16 * (SH n + 120)
theorem SH_lo : ∀ n, 105 ≤ SH n
  | 0 => Nat.le_refl _
  | n + 1 => by have := SH_lo n; simp only [SH]; omega
mutual
theorem Rend.le {f : PyData → Str} (R : Rend f) : ∀ (d : PyData) (n : Nat), gB d = true → d.depth ≤ n → (f d).length ≤ SH n
  | .none, n, _, _ => by
    have := SH_lo n
    rw [R.non]
    have e : ((("None" : String) : Str)).length = 4 := by decide +kernel
    omega
  | .bool b, n, _, _ => by
    have := SH_lo n
    rw [R.bl]
    have e : (Str.ofString (if b then "True" else "False" : String)).length ≤ 5 := by cases b <;> decide +kernel
    omega
  | .int i, n, h, _ => by
    have := SH_lo n
    simp only [gB, decide_eq_true_eq] at h
    have hl := int_text_length_le10 (a := i) (k := 100) (by decide) h
    rw [R.int, ofString_length]
    omega
  | .str x, n, h, _ => by
    have := SH_lo n
    simp only [gB, Bool.and_eq_true, decide_eq_true_eq] at h
    have := R.strL h.2 h.1
    omega
  | .list ds, 0, _, hd => by simp only [PyData.depth] at hd; omega
  | .list ds, n + 1, h, hd => by
    simp only [gB, Bool.and_eq_true, decide_eq_true_eq] at h
    have hs := R.leAll ds n h.2 (by simp only [PyData.depth] at hd; omega)
    have hj := join_len_le 16 (SH n) (ds.map f) (by rw [List.length_map]; exact h.1) hs
    rw [R.lst, Str.length_append, Str.length_append]
    have e1 : ((("[" : String) : Str)).length = 1 := by decide +kernel
    have e2 : ((("]" : String) : Str)).length = 1 := by decide +kernel
    simp only [SH]; omega
  | .tuple ds, 0, _, hd => by simp only [PyData.depth] at hd; omega
  | .tuple ds, n + 1, h, hd => by
    simp only [gB, Bool.and_eq_true, decide_eq_true_eq] at h
    have hs := R.leAll ds n h.2 (by simp only [PyData.depth] at hd; omega)
    have hj := join_len_le 16 (SH n) (ds.map f) (by rw [List.length_map]; exact h.1) hs
    rw [R.tup, Str.length_append, Str.length_append]
    have e1 : ((("(" : String) : Str)).length = 1 := by decide +kernel
    have e2 : (Str.ofString (if ds.length == 1 then ",)" else ")" : String)).length ≤ 2 := by split <;> decide +kernel
    simp only [SH]; omega
  | .dict D, 0, _, hd => by simp only [PyData.depth] at hd; omega
  | .dict D, n + 1, h, hd => by
    simp only [gB, Bool.and_eq_true, decide_eq_true_eq] at h
    have hs := R.leKv D n h.2 (by simp only [PyData.depth] at hd; omega)
    have hj := join_len_le 16 (SH n + 107) (D.map fun p => f p.1 ++ ": " ++ f p.2) (by rw [List.length_map]; exact h.1) hs
    rw [R.dct, Str.length_append, Str.length_append]
    have e1 : ((("{" : String) : Str)).length = 1 := by decide +kernel
    have e2 : ((("}" : String) : Str)).length = 1 := by decide +kernel
    simp only [SH]; omega
theorem Rend.leAll {f : PyData → Str} (R : Rend f) : ∀ (ds : List PyData) (n : Nat), gAll ds = true → PyData.depthAll ds ≤ n → ∀ t ∈ ds.map f, t.length ≤ SH n
  | [], n, _, _ => by simp
  | d :: ds, n, h, hd => by
    simp only [gAll, Bool.and_eq_true] at h
    simp only [PyData.depthAll] at hd
    have h1 := R.le d n h.1 (by omega)
    have h2 := R.leAll ds n h.2 (by omega)
    intro t ht
    rw [List.map_cons] at ht
    rcases List.mem_cons.mp ht with e | e
    · rw [e]; exact h1
    · exact h2 t e
theorem Rend.leKv {f : PyData → Str} (R : Rend f) : ∀ (D : List (PyData × PyData)) (n : Nat), gKv D = true → PyData.depthKv D ≤ n → ∀ t ∈ D.map (fun p => f p.1 ++ ": " ++ f p.2), t.length ≤ SH n + 107
  | [], n, _, _ => by simp
  | (k, d) :: r, n, h, hd => by
    simp only [gKv, Bool.and_eq_true] at h
    simp only [PyData.depthKv] at hd
    have h1 := R.le d n h.1.2 (by omega)
    have h2 := R.leKv r n h.2 (by omega)
    have h0 : (f k).length ≤ 105 := by
      cases k with
      | str x =>
        have := h.1.1
        simp only [gkeyB, Bool.and_eq_true, decide_eq_true_eq] at this
        exact R.strL this.2 this.1
      | _ => cases h.1.1
    intro t ht
    rw [List.map_cons] at ht
    rcases List.mem_cons.mp ht with e | e
    · rw [e]
      show (f k ++ ": " ++ f d).length ≤ _
      rw [Str.length_append, Str.length_append]
      have e1 : (((": " : String) : Str)).length = 2 := by decide +kernel
      omega
    · exact h2 t e
end
/-- what stands behind the backslash -/
def bk (c : Nat) : Nat := if c = 110 then 10 else if c = 114 then 13 else if c = 116 then 9 else c
def hx (c : Nat) : Nat := if c < 58 then c - 48 else c - 87
def formB (q c : Nat) : Bool := match reprChar q c with
  | [a] => a == c && a != 92 && a != q
  | [a, b] => a == 92 && b != 120 && bk b == c
  | [a, b, h, l] => a == 92 && b == 120 && 16 * hx h + hx l == c
  | _ => false
theorem form_tab : ((List.range 128).all (formB 34) && (List.range 128).all (formB 39)) = true := by decide +kernel
theorem formB_of {q c : Nat} (hq : q = 34 ∨ q = 39) (hc : c < 128) : formB q c = true := by
  have h := form_tab
  simp only [Bool.and_eq_true, List.all_eq_true, List.mem_range] at h
  rcases hq with rfl | rfl
  · exact h.1 c hc
  · exact h.2 c hc
/-- a sign as repr writes it -/
theorem form {q c : Nat} (hq : q = 34 ∨ q = 39) (hc : c < 128) : (reprChar q c = [c] ∧ c ≠ 92 ∧ c ≠ q) ∨ (∃ b, reprChar q c = [92, b] ∧ b ≠ 120 ∧ bk b = c) ∨ ∃ h l, reprChar q c = [92, 120, h, l] ∧ 16 * hx h + hx l = c := by
  have f := formB_of hq hc
  unfold formB at f
  split at f
  · rename_i a e
    simp only [Bool.and_eq_true, beq_iff_eq, bne_iff_ne] at f
    obtain ⟨⟨rfl, f2⟩, f3⟩ := f
    exact .inl ⟨e, f2, f3⟩
  · rename_i a b e
    simp only [Bool.and_eq_true, beq_iff_eq, bne_iff_ne] at f
    obtain ⟨⟨rfl, f2⟩, f3⟩ := f
    exact .inr (.inl ⟨b, e, f2, f3⟩)
  · rename_i a b h l e
    simp only [Bool.and_eq_true, beq_iff_eq] at f
    obtain ⟨⟨rfl, rfl⟩, f3⟩ := f
    exact .inr (.inr ⟨h, l, e, f3⟩)
  · cases f
theorem sign_inj {q a b : Nat} (hq : q = 34 ∨ q = 39) (ha : a < 128) (hb : b < 128) {r r' : List Nat} (e : reprChar q a ++ r = reprChar q b ++ r') : a = b := by
  rcases form hq ha with ⟨e1, n1, _⟩ | ⟨x, e1, n1, b1⟩ | ⟨h, l, e1, b1⟩ <;> rcases form hq hb with ⟨e2, n2, _⟩ | ⟨y, e2, n2, b2⟩ | ⟨h', l', e2, b2⟩ <;> rw [e1, e2] at e <;> simp only [List.cons_append, List.nil_append, List.cons.injEq] at e
  · exact e.1
  · exact absurd e.1 n1
  · exact absurd e.1 n1
  · exact absurd e.1.symm n2
  · rw [← b1, ← b2, e.2.1]
  · exact absurd e.2.1 n1
  · exact absurd e.1.symm n2
  · exact absurd e.2.1.symm n2
  · rw [← b1, ← b2, e.2.2.1, e.2.2.2.1]
theorem sign_end {q a : Nat} (hq : q = 34 ∨ q = 39) (ha : a < 128) {r r' : List Nat} (e : reprChar q a ++ r = q :: r') : False := by
  have q92 : (92 : Nat) ≠ q := by rcases hq with rfl | rfl <;> decide
  rcases form hq ha with ⟨e1, _, n1⟩ | ⟨x, e1, n1, b1⟩ | ⟨h, l, e1, b1⟩ <;> rw [e1] at e <;> simp only [List.cons_append, List.nil_append, List.cons.injEq] at e
  · exact n1 e.1
  · exact q92 e.1
  · exact q92 e.1
theorem code_inj {q : Nat} (hq : q = 34 ∨ q = 39) : ∀ (x y : List Nat) {r r' : List Nat}, (∀ c ∈ x, c < 128) → (∀ c ∈ y, c < 128) → x.flatMap (reprChar q) ++ q :: r = y.flatMap (reprChar q) ++ q :: r' → x = y ∧ r = r'
  | [], [], r, r', _, _, e => by simpa using e
  | [], b :: y, r, r', _, hy, e => by
    simp only [List.flatMap_nil, List.nil_append, List.flatMap_cons, List.append_assoc] at e
    exact (sign_end hq (hy b (List.mem_cons_self ..)) e.symm).elim
  | a :: x, [], r, r', hx, _, e => by
    simp only [List.flatMap_nil, List.nil_append, List.flatMap_cons, List.append_assoc] at e
    exact (sign_end hq (hx a (List.mem_cons_self ..)) e).elim
  | a :: x, b :: y, r, r', hx, hy, e => by
    simp only [List.flatMap_cons, List.append_assoc] at e
    have ab := sign_inj hq (hx a (List.mem_cons_self ..)) (hy b (List.mem_cons_self ..)) e
    subst ab
    have := code_inj hq x y (fun c hc => hx c (List.mem_cons_of_mem _ hc)) (fun c hc => hy c (List.mem_cons_of_mem _ hc)) (List.append_cancel_left e)
    exact ⟨by rw [this.1], this.2⟩
theorem fold_repr (q : Nat) : ∀ (l : List Nat) (acc : Array Nat), (l.foldl (fun out c => out ++ (reprChar q c).toArray) acc).toList = acc.toList ++ l.flatMap (reprChar q)
  | [], acc => by simp
  | c :: l, acc => by
    rw [List.foldl_cons, fold_repr q l]
    simp
theorem repr_list (x : Str) : (reprText x).cps.toList = reprQuote x :: (x.cps.toList.flatMap (reprChar (reprQuote x)) ++ [reprQuote x]) := by
  unfold reprText
  rw [Array.toList_push, ← Array.foldl_toList, fold_repr]
  simp
theorem quote_of (x : Str) : reprQuote x = 34 ∨ reprQuote x = 39 := by unfold reprQuote; split <;> simp
theorem str_inj {x y : Str} (hx : asc x = true) (hy : asc y = true) {r r' : List Nat} (e : (reprText x).cps.toList ++ r = (reprText y).cps.toList ++ r') : x = y ∧ r = r' := by
  rw [repr_list, repr_list] at e
  simp only [List.cons_append, List.append_assoc, List.nil_append, List.cons.injEq] at e
  obtain ⟨eq, e⟩ := e
  rw [← eq] at e
  have h : ∀ z : Str, asc z = true → ∀ c ∈ z.cps.toList, c < 128 := fun z hz c hc => by simpa using List.all_eq_true.mp hz c hc
  have := code_inj (quote_of x) _ _ (h x hx) (h y hy) e
  exact ⟨str_cps this.1, this.2⟩
theorem shownAll_map : ∀ ds : List PyData, PyData.shownAll ds = ds.map PyData.shown
  | [] => by simp [PyData.shownAll]
  | d :: ds => by rw [PyData.shownAll_cons, shownAll_map ds]; rfl
theorem shownKv_map : ∀ D : List (PyData × PyData), PyData.shownKv D = D.map fun p => (p.1.shown ++ Str.ofString ": " ++ p.2.shown : Str)
  | [] => by simp [PyData.shownKv]
  | (k, d) :: D => by rw [PyData.shownKv_cons, shownKv_map D]; rfl
theorem rep_len {x : Str} {n : Nat} (h : asc x = true) (hn : x.length ≤ n) : (reprText x).length ≤ 10 * n + 2 := by
  have := StrLaws.reprText_len x fun c hc => by
    have := List.all_eq_true.mp h c hc
    have : c < 128 := by simpa using this
    omega
  omega
theorem rshown : Rend PyData.shown where
  non := by decide +kernel
  bl := fun b => by cases b <;> decide +kernel
  int := fun i => PyData.shown_int i
  lst := fun ds => by rw [PyData.shown_list, shownAll_map]
  tup := fun ds => by rw [PyData.shown_tuple, shownAll_map]
  dct := fun D => by rw [PyData.shown_dict, shownKv_map]
  str0 := fun x => by rw [PyData.shown_str, repr_list]; exact ⟨_, _, rfl, quote_of x⟩
  strI := fun hx hy h => by rw [PyData.shown_str, PyData.shown_str] at h; exact str_inj hx hy h
  strL := fun hx hl => by rw [PyData.shown_str]; have := rep_len hx hl; omega
mutual
theorem showable_g : ∀ d : PyData, gB d = true → d.showable = true
  | .none, _ => rfl
  | .bool _, _ => rfl
  | .int i, h => by
    simp only [gB, decide_eq_true_eq] at h
    simp only [PyData.showable, decide_eq_true_eq]
    have h2 : i.natAbs < 2 ^ 1920 := Nat.lt_of_lt_of_le h (by decide +kernel)
    by_cases z : i.natAbs = 0
    · rw [z]; decide
    · exact (Nat.log2_lt z).mpr h2
  | .str _, _ => by simp only [PyData.showable]
  | .list ds, h => by simp only [gB, Bool.and_eq_true] at h; simp only [PyData.showable]; exact showableAll_g ds h.2
  | .tuple ds, h => by simp only [gB, Bool.and_eq_true] at h; simp only [PyData.showable]; exact showableAll_g ds h.2
  | .dict D, h => by simp only [gB, Bool.and_eq_true] at h; simp only [PyData.showable]; exact showableKv_g D h.2
theorem showableAll_g : ∀ ds : List PyData, gAll ds = true → PyData.showableAll ds = true
  | [], _ => by simp only [PyData.showableAll]
  | d :: ds, h => by simp only [gAll, Bool.and_eq_true] at h; simp only [PyData.showableAll, Bool.and_eq_true]; exact ⟨showable_g d h.1, showableAll_g ds h.2⟩
theorem showableKv_g : ∀ D : List (PyData × PyData), gKv D = true → PyData.showableKv D = true
  | [], _ => by simp only [PyData.showableKv]
  | (k, d) :: r, h => by
    simp only [gKv, Bool.and_eq_true] at h
    simp only [PyData.showableKv, Bool.and_eq_true]
    refine ⟨⟨?_, showable_g d h.1.2⟩, showableKv_g r h.2⟩
    cases k with
    | str x => simp only [PyData.showable]
    | _ => cases h.1.1
end
/-- what repr shows of a small value: it fits -/
theorem fits {d : PyData} (h : gB d = true) (hd : d.depth ≤ 4) : d.showable = true ∧ d.depth ≤ 60 ∧ d.shown.length ≤ 16777216 := by
  refine ⟨showable_g d h, by omega, ?_⟩
  have := rshown.le d 4 h hd
  have e : SH 4 ≤ 16777216 := by decide
  omega
theorem shown_inj {d e : PyData} (h1 : gB d = true) (h2 : gB e = true) : d.shown = e.shown ↔ d = e := ⟨rshown.inj h1 h2, fun h => by rw [h]⟩
def esc (c : Nat) : List Nat := if c = 34 then [92, 34] else if c = 92 then [92, 92] else if c = 10 then [92, 110] else [c]
def sno (x : Str) : Str := S (34 :: (x.cps.toList.flatMap esc ++ [34]))
mutual
def note : PyData → Str
  | .none => "None"
  | .bool b => Str.ofString (if b then "True" else "False" : String)
  | .int i => Str.ofString (toString i)
  | .str x => sno x
  | .list ds => "[" ++ Str.join ", " (noteAll ds) ++ "]"
  | .tuple ds => "(" ++ Str.join ", " (noteAll ds) ++ Str.ofString (if ds.length == 1 then ",)" else ")" : String)
  | .dict D => "{" ++ Str.join ", " (noteKv D) ++ "}"
def noteAll : List PyData → List Str
  | [] => []
  | d :: ds => note d :: noteAll ds
def noteKv : List (PyData × PyData) → List Str
  | [] => []
  | (k, d) :: D => (note k ++ ": " ++ note d) :: noteKv D
end
theorem noteAll_map : ∀ ds : List PyData, noteAll ds = ds.map note
  | [] => by simp [noteAll]
  | d :: ds => by rw [noteAll, noteAll_map ds]; rfl
theorem noteKv_map : ∀ D : List (PyData × PyData), noteKv D = D.map fun p => note p.1 ++ ": " ++ note p.2
  | [] => by simp [noteKv]
  | (k, d) :: D => by rw [noteKv, noteKv_map D]; rfl
theorem sno_tl (x : Str) : (sno x).cps.toList = 34 :: (x.cps.toList.flatMap esc ++ [34]) := rfl
theorem esc_split : ∀ (x y : List Nat) {r r' : List Nat}, x.flatMap esc ++ 34 :: r = y.flatMap esc ++ 34 :: r' → x = y ∧ r = r'
  | [], [], r, r', e => by simpa using e
  | [], b :: y, r, r', e => by
    simp only [List.flatMap_nil, List.nil_append, List.flatMap_cons, List.append_assoc] at e
    exfalso
    unfold esc at e
    (repeat' split at e) <;> simp only [List.cons_append, List.nil_append, List.cons.injEq] at e <;> omega
  | a :: x, [], r, r', e => by
    simp only [List.flatMap_nil, List.nil_append, List.flatMap_cons, List.append_assoc] at e
    exfalso
    unfold esc at e
    (repeat' split at e) <;> simp only [List.cons_append, List.nil_append, List.cons.injEq] at e <;> omega
  | a :: x, b :: y, r, r', e => by
    simp only [List.flatMap_cons, List.append_assoc] at e
    have ab : a = b := by
      unfold esc at e
      (repeat' split at e) <;> simp only [List.cons_append, List.nil_append, List.cons.injEq] at e <;> omega
    subst ab
    have := esc_split x y (List.append_cancel_left e)
    exact ⟨by rw [this.1], this.2⟩
theorem esc_len : ∀ x : List Nat, (x.flatMap esc).length ≤ 2 * x.length
  | [] => by simp
  | a :: x => by
    have := esc_len x
    have h : (esc a).length ≤ 2 := by unfold esc; (repeat' split) <;> simp
    simp only [List.flatMap_cons, List.length_append, List.length_cons]; omega
theorem rnote : Rend note where
  non := by simp only [note]
  bl := fun b => by simp only [note]
  int := fun i => by simp only [note]
  lst := fun ds => by simp only [note]; rw [noteAll_map]
  tup := fun ds => by simp only [note]; rw [noteAll_map]
  dct := fun D => by simp only [note]; rw [noteKv_map]
  str0 := fun x => by simp only [note]; rw [sno_tl]; exact ⟨_, _, rfl, .inl rfl⟩
  strI := fun {x y r r'} hx hy h => by
    simp only [note, sno_tl, List.cons_append, List.append_assoc, List.nil_append, List.cons.injEq, true_and] at h
    have := esc_split _ _ h
    exact ⟨str_cps this.1, this.2⟩
  strL := fun {x} hx hl => by
    simp only [note]
    unfold sno
    rw [S_len]
    have := esc_len x.cps.toList
    have e : x.cps.toList.length = x.length := by simp [Str.length]
    simp only [List.length_cons, List.length_append, List.length_nil]; omega
theorem note_inj {d e : PyData} (h1 : gB d = true) (h2 : gB e = true) : note d = note e ↔ d = e := ⟨rnote.inj h1 h2, fun h => by rw [h]⟩
local macro_rules | `(tactic| walk_at "sx") => `(tactic| simp only [tRet, tRetN, tSeq, C8.tCut, tNext, tAsg, gName, gNil, gCons, gTup, gFld, tIfS, tIf, tAndV, tOrV, tNotV, tAnd, tOr, tNot, tB, tTest, tOp, tUn, tCB, tCons, tNil, tVar, tC, tChain, tDrop, RS.tCallG, RS.tMethG, tMakeG, RS.tCallK, RS.tMakeK, tEqOwn, rI, rI0, rU, add_ii, add_ss, add_rr, mul_ii, mul_si, mul_ri, RS.eq_ii, RS.eq_ss, eq_bb, eq_nn, eq_sn, eq_ns, eq_in, eq_ni, eq_bn, eq_nb, eq_is, eq_si, eq_rr, ne_ii, ne_ss, ne_bb, ne_nn, ne_sn, ne_ns, ne_in, ne_ni, ne_is, ne_si, ne_rr, in_ss, in_r, nin_ss, nin_r, len_s, len_r, RS.ix_s, RS.ix_r, sl_s, sl_r, is_eq, tyN_n, tyN_b, tyN_i, tyN_s, tru_b, tru_i, tru_n, tSl, tPart, tNoPart, tPar, tPar3, tFmtZ, tFmt, tJs, tDGet, sDPut, sFld, tFld, tTup, tLst, tNever, isB,
  L2.start, List.map_cons, List.map_nil, List.length_cons, List.length_nil, Nat.reduceAdd, Nat.reduceSub, Nat.sub_self, List.replicate_zero, List.replicate_succ, List.append_nil, List.cons_append, List.nil_append, List.getElem?_cons_zero, List.getElem?_cons_succ, List.set_cons_zero, List.set_cons_succ, Option.some.injEq, exists_eq_left, exists_eq_left', exists_and_left, V.bl.injEq, V.int.injEq, V.str.injEq, V.ref.injEq, beq_self_eq_true, Bool.true_or, Bool.or_true, Bool.false_or, Bool.or_false, Bool.and_false, Bool.false_and, Bool.true_and, Bool.and_true, Bool.not_true, Bool.not_false, Bool.false_eq_true, if_true, if_false, ite_true, ite_false, true_and, and_true, and_assoc, String.reduceBEq, String.reduceEq, reduceIte, Bool.and_self, reduceCtorEq, false_and, and_false, exists_false, or_false, false_or, exists_const, iEnumS, iStr, iList, iTup, iRng1, iEnum, tFor_eq, tLc_eq, List.cons.injEq, wipe, not_true_eq_false, not_false_eq_true, upd_same, HO.ins.injEq, HO.tup.injEq, HO.lst.injEq, ofS_eq, lk_nil, lk_cons, pu_nil, pu_cons, sizeLine_eq, Nat.reduceLT, Nat.reduceLeDiff, Nat.reduceEqDiff, Nat.le_refl, decide_true, decide_false, tPr, dget_us, dput_us, vv_nil, vv_cons, RS.pk_nil, pk_one, RS.pk_cons, inr_eq, tDisp, tPairs, tBoolOwn, rBoolOwn, tBM, rAppend, ty_list, ty_str, rEqOwn, iEnumT, RS.tCallS, tM1, tDc_eq, tLock, tLockE, iKeys, tListEnum, rUpdate, tMkX0, tMkX1, tXfv, gSub, rSetL, List.getD_cons_zero, List.getD_cons_succ, tBreak, tCMethS, ClX.tCVal, tXfa, tIxOwn, tInOwn, tPropG, tMethK, tMethP, tListGen, tDGet2, tDPop2, rNeD0, intA_i, intA_b, tRevL, sFldAug, tPm0, tPm1, tDIn, tDNotIn, tDNewK, RS.tMethS, tForK, tKM, tKC, tLcK, tKM2, tKC2, tMethStar, tKCK2, tLk, tAug, ipI, tDig, tLcX, tKMX, tKCX])
theorem lit_0 : (Str.ofString "recordshelf.errors") = SX.S [114, 101, 99, 111, 114, 100, 115, 104, 101, 108, 102, 46, 101, 114, 114, 111, 114, 115] := by decide +kernel
theorem lit_1 : (Str.ofString "recordshelf.values") = SX.S [114, 101, 99, 111, 114, 100, 115, 104, 101, 108, 102, 46, 118, 97, 108, 117, 101, 115] := by decide +kernel
theorem lit_2 : (Str.ofString "recordshelf.notation") = SX.S [114, 101, 99, 111, 114, 100, 115, 104, 101, 108, 102, 46, 110, 111, 116, 97, 116, 105, 111, 110] := by decide +kernel
theorem lit_3 : (Str.ofString "recordshelf.patches") = SX.S [114, 101, 99, 111, 114, 100, 115, 104, 101, 108, 102, 46, 112, 97, 116, 99, 104, 101, 115] := by decide +kernel
theorem lit_4 : (Str.ofString "law_recordshelf_k62_whole_merges") = SX.S [108, 97, 119, 95, 114, 101, 99, 111, 114, 100, 115, 104, 101, 108, 102, 95, 107, 54, 50, 95, 119, 104, 111, 108, 101, 95, 109, 101, 114, 103, 101, 115] := by decide +kernel
theorem lit_5 : (Str.ofString "\"") = SX.S [34] := by decide +kernel
theorem lit_6 : (Str.ofString "\\") = SX.S [92] := by decide +kernel
theorem lit_7 : (Str.ofString "\n") = SX.S [10] := by decide +kernel
theorem lit_8 : (Str.ofString "\\\"") = SX.S [92, 34] := by decide +kernel
theorem lit_9 : (Str.ofString "\\\\") = SX.S [92, 92] := by decide +kernel
theorem lit_10 : (Str.ofString "\\n") = SX.S [92, 110] := by decide +kernel
theorem lit_11 : (Str.ofString "ab \"\\\n~1,:]") = SX.S [97, 98, 32, 34, 92, 10, 126, 49, 44, 58, 93] := by decide +kernel
theorem lit_12 : (Str.ofString "") = SX.S [] := by decide +kernel
theorem lit_13 : (Str.ofString "not a value") = SX.S [110, 111, 116, 32, 97, 32, 118, 97, 108, 117, 101] := by decide +kernel
theorem lit_14 : (Str.ofString "not a mapping from keys to values") = SX.S [110, 111, 116, 32, 97, 32, 109, 97, 112, 112, 105, 110, 103, 32, 102, 114, 111, 109, 32, 107, 101, 121, 115, 32, 116, 111, 32, 118, 97, 108, 117, 101, 115] := by decide +kernel
theorem lit_15 : (Str.ofString "two changes do not agree") = SX.S [116, 119, 111, 32, 99, 104, 97, 110, 103, 101, 115, 32, 100, 111, 32, 110, 111, 116, 32, 97, 103, 114, 101, 101] := by decide +kernel
theorem lit_16 : (Str.ofString "]") = SX.S [93] := by decide +kernel
theorem lit_17 : (Str.ofString "}") = SX.S [125] := by decide +kernel
theorem lit_put : (Str.ofString "put") = SX.S [112, 117, 116] := by decide +kernel
theorem lit_drop : (Str.ofString "drop") = SX.S [100, 114, 111, 112] := by decide +kernel
theorem lit_a : (Str.ofString "a") = SX.S [97] := by decide +kernel
theorem lit_b : (Str.ofString "b") = SX.S [98] := by decide +kernel
theorem lit_c : (Str.ofString "c") = SX.S [99] := by decide +kernel
theorem lit_23 : (Str.ofString "a b") = SX.S [97, 32, 98] := by decide +kernel
theorem lit_k : (Str.ofString "k") = SX.S [107] := by decide +kernel
theorem lit_25 : (Str.ofString "[") = SX.S [91] := by decide +kernel
theorem lit_26 : (Str.ofString "(") = SX.S [40] := by decide +kernel
theorem lit_27 : (Str.ofString ",)") = SX.S [44, 41] := by decide +kernel
theorem lit_28 : (Str.ofString ")") = SX.S [41] := by decide +kernel
theorem lit_29 : (Str.ofString "{") = SX.S [123] := by decide +kernel
theorem lit_30 : (Str.ofString ", ") = SX.S [44, 32] := by decide +kernel
theorem lit_31 : (Str.ofString ": ") = SX.S [58, 32] := by decide +kernel
local macro_rules | `(tactic| walk_at "lt") => `(tactic| simp only [lit_0, lit_1, lit_2, lit_3, lit_4, lit_5, lit_6, lit_7, lit_8, lit_9, lit_10, lit_11, lit_12, lit_13, lit_14, lit_15, lit_16, lit_17, lit_put, lit_drop, lit_a, lit_b, lit_c, lit_23, lit_k, lit_25, lit_26, lit_27, lit_28, lit_29, lit_30, lit_31])
def top (i : Nat) : Stmt := PySem.Challenge.pw_recordshelf_k62_whole_merges.main.body.getD i (.Pass ⟨0, 0, 0, 0⟩)
abbrev s_InvalidMapping__init : Stmt := inClass (top 4) 0
abbrev s_Conflict__init : Stmt := inClass (top 5) 0
abbrev s_is_key : Stmt := top 11
abbrev s_items_of : Stmt := top 12
abbrev s_is_wrong_part : Stmt := top 13
abbrev s_wrong_path : Stmt := top 14
abbrev s_check_value : Stmt := top 15
abbrev s_is_value : Stmt := top 16
abbrev s_rebuilt : Stmt := top 17
abbrev s_copied : Stmt := top 18
abbrev s_string_notation : Stmt := top 21
abbrev s_value_notation : Stmt := top 22
abbrev s_check_mappings : Stmt := top 24
abbrev s_are_alike : Stmt := top 25
abbrev s_are_same : Stmt := top 26
abbrev s_applied : Stmt := top 27
abbrev s_has_changed : Stmt := top 28
abbrev s_are_one_change : Stmt := top 29
abbrev s_all_conflicts : Stmt := top 30
abbrev s_conflicts : Stmt := top 31
abbrev s_merged : Stmt := top 32
abbrev s_l_source : Stmt := top 34
abbrev s_l_pick : Stmt := top 35
abbrev s_l_string : Stmt := top 36
abbrev s_l_value : Stmt := top 37
abbrev s_l_mapping : Stmt := top 38
abbrev s_l_deeds : Stmt := top 39
abbrev s_l_done : Stmt := top 40
abbrev s_l_at : Stmt := top 41
abbrev s_l_conflicts : Stmt := top 42
abbrev s_l_merged : Stmt := top 43
abbrev s_l_told : Stmt := top 44
abbrev s_l_listed : Stmt := top 45
abbrev s_l_right : Stmt := top 46
abbrev s_law : Stmt := top 47
theorem bb_dict : bootBuiltins "dict" = some (.type "dict") := by decide +kernel
structure Txt (g : Wd) : Prop where
  b_len : g.mg "len" = none
  b_isinstance : g.mg "isinstance" = none
  b_repr : g.mg "repr" = none
  b_enumerate : g.mg "enumerate" = none
  b_range : g.mg "range" = none
  b_list : g.mg "list" = none
  b_tuple : g.mg "tuple" = none
  b_dict : g.mg "dict" = none
  b_bool : g.mg "bool" = none
  b_int : g.mg "int" = none
  b_str : g.mg "str" = none
  b_abs : g.mg "abs" = none
  b_all : g.mg "all" = none
  nd : PySem.W.nsIn g.K cStatics "sys.int_max_str_digits" = some none
  b_sorted : g.mg "sorted" = none
  b_set : g.mg "set" = none
  b_max : g.mg "max" = none
  b_min : g.mg "min" = none
  c_MOST_DIGITS : Gv g "MOST_DIGITS" (.int 100)
  c_MOST_ITEMS : Gv g "MOST_ITEMS" (.int 10000)
  c_MOST_LEVELS : Gv g "MOST_LEVELS" (.int 20)
  c_MOST_KEY : Gv g "MOST_KEY" (.int 200)
theorem okAll_get : ∀ {ds : List PyData} {i : Nat} {d : PyData}, okAll ds = true → ds[i]? = some d → okB d = true
  | x :: xs, 0, d, h, e => by
    cases e
    simp only [okAll, Bool.and_eq_true] at h
    exact h.1
  | x :: xs, i + 1, d, h, e => by
    simp only [okAll, Bool.and_eq_true] at h
    exact okAll_get h.2 (by simpa using e)
  | [], _, _, _, e => by simp at e
theorem okKv_get : ∀ {D : List (PyData × PyData)} {i : Nat} {k d : PyData}, okKv D = true → D[i]? = some (k, d) → okB k = true ∧ okB d = true
  | (x, y) :: xs, 0, k, d, h, e => by
    cases e
    simp only [okKv, Bool.and_eq_true] at h
    exact h.1
  | (x, y) :: xs, i + 1, k, d, h, e => by
    simp only [okKv, Bool.and_eq_true] at h
    exact okKv_get h.2 (by simpa using e)
  | [], _, _, _, _, e => by simp at e
/-- the pairs of steps and items -/
def idx (xs : List V) : List (V × V) := (List.range xs.length).map fun j => (.int (j : Nat), xs[j]?.getD .non)
def prs (H : Hp) : V → List (V × V)
  | .ref a => match H a with
    | some (.lst xs) => idx xs
    | some (.tup xs) => idx xs
    | some (.dK kvs) => kvs.map fun kv => (kV kv.1, kv.2)
    | _ => []
  | _ => []
/-- tuples of these pairs -/
def Prd (H : Hp) (ts : List V) (ps : List (V × V)) : Prop := ts.length = ps.length ∧ ∀ (j : Nat) (s x : V), ps[j]? = some (s, x) → ∃ t : Addr, ts[j]? = some (.ref t) ∧ H t = some (.tup [s, x])
theorem Prd.snoc {H H' : Hp} {ts : List V} {ps : List (V × V)} {t : Addr} {s x : V} (h : Prd H ts ps) (sm : Same H H') (ht : H' t = some (.tup [s, x])) : Prd H' (ts ++ [.ref t]) (ps ++ [(s, x)]) := by
  refine ⟨by simp [h.1], fun j s' x' hj => ?_⟩
  by_cases lt : j < ps.length
  · rw [List.getElem?_append_left lt] at hj
    obtain ⟨t', h1, h2⟩ := h.2 j s' x' hj
    exact ⟨t', by rw [List.getElem?_append_left (by rw [h.1]; exact lt)]; exact h1, sm _ _ h2⟩
  · rw [List.getElem?_append_right (by omega)] at hj
    have e : j - ps.length = 0 := by
      cases hh : j - ps.length with
      | zero => rfl
      | succ n => rw [hh] at hj; simp at hj
    rw [e] at hj
    cases hj
    exact ⟨t, by rw [List.getElem?_append_right (by rw [h.1]; omega), h.1, e]; rfl, ht⟩
theorem Prd.tups {H H' : Hp} {ts : List V} {ps : List (V × V)} (h : Prd H ts ps) (k : ∀ t xs, H t = some (.tup xs) → H' t = some (.tup xs)) : Prd H' ts ps :=
  ⟨h.1, fun j s x hj => by obtain ⟨t, h1, h2⟩ := h.2 j s x hj; exact ⟨t, h1, k _ _ h2⟩⟩
/-- a lock taken off -/
theorem unlock {H G : Hp} {a : Addr} {od : Obj} {u : HO} (h : H a = some u) (s : Same (upd H a (.frz od u)) G) : Same H (upd G a u) := fun b o e => by
  by_cases z : b = a
  · subst z; rw [upd_same, ← e]; exact h.symm
  · rw [upd_ne z]; exact s b o (by rw [upd_ne z]; exact e)
theorem fresh_lock {H : Hp} {a b : Addr} {o : HO} (h : upd H a o b = none) : b ≠ a ∧ H b = none := by
  by_cases z : b = a
  · subst z; rw [upd_same] at h; cases h
  · rw [upd_ne z] at h; exact ⟨z, h⟩
theorem idx_get {xs : List V} {j : Nat} {s x : V} (h : (idx xs)[j]? = some (s, x)) : s = .int (j : Nat) ∧ xs[j]? = some x := by
  unfold idx at h
  by_cases lt : j < xs.length
  · simp [lt] at h
    exact ⟨h.1.symm, by simp [lt, ← h.2]⟩
  · simp [lt] at h
theorem idx_len (xs : List V) : (idx xs).length = xs.length := by simp [idx]
section
variable {g : Wd} {f : Addr} {fd : FuncData}
/-- the dict's way -/
theorem dict_pairs {H : Hp} {Q : VK} {a : Addr} {kvs : List (Key × V)} (h : H a = some (.dK kvs)) (nd : (kvs.map (·.1)).Nodup) (hz : kvs.length ≤ sizeLine) (od : Obj)
    (q : ∀ p ts H', Same H H' → H p = none → H' p = some (.lst ts) → Prd H' ts (prs H (.ref a)) → Q (.ref p) H') :
    LcB (Itk a od kvs) (gName 1) tYes (tTup (tCons (tVar 1) (tCons (tDGet (tVar 0) (tVar 1)) tNil))) [1] [some (.ref a), none] (upd H a (.frz od (.dK kvs))) fun v H' => H' a = some (.frz od (.dK kvs)) ∧ Q v (upd H' a (.dK kvs)) := by
  refine lc_invA kvs.length (fun D i acc G => Same (upd H a (.frz od (.dK kvs))) G ∧ Prd G acc ((kvs.map fun kv => (kV kv.1, kv.2)).take i)) hz (fun D hD => ⟨same_upd hD, rfl, by simp⟩) (fun D i acc G hD lt ⟨s, _⟩ => ⟨s _ _ upd_same, lt⟩) (fun D acc G hD ⟨s, _⟩ => ⟨s _ _ upd_same, Nat.le_refl _⟩) (fun D i acc G x G' K hD lt la ⟨s, pr⟩ eD yl k => ?_) (fun D acc G hD ⟨s, pr⟩ eD => ?_)
  · obtain ⟨rfl, k0, v0, hk, rfl⟩ := yl
    have ea : G' a = some (.frz od (.dK kvs)) := s _ _ upd_same
    refine ⟨rfl, ?_⟩
    walk_at "sx"
    refine ⟨v0, .inl ⟨kvs, k0, .inr ⟨od, ea⟩, rfl, (valV_at nd hk).symm⟩, fun t ht => ?_⟩
    have st := same_upd (o := HO.tup [kV k0, v0]) ht
    have Dt : t ≠ D := fun e => by rw [e, eD] at ht; cases ht
    refine k _ _ (st _ _ eD) ⟨fun b o e => ?_, ?_⟩
    · have bD : b ≠ D := fun z => by rw [z, hD] at e; cases e
      rw [upd_ne bD]
      exact st _ _ (s _ _ e)
    · have e1 : (kvs.map fun kv => (kV kv.1, kv.2)).take (i + 1) = (kvs.map fun kv => (kV kv.1, kv.2)).take i ++ [(kV k0, v0)] := by
        rw [List.take_add_one]
        simp [hk]
      rw [e1]
      exact (Prd.snoc pr st upd_same).tups fun t' xs z => by
        have n : t' ≠ D := fun e => by rw [e, st _ _ eD] at z; cases z
        rw [upd_ne n]; exact z
  · have Da := fresh_lock hD
    refine ⟨s _ _ upd_same, q D acc _ (unlock h s) Da.2 (by rw [upd_ne Da.1]; exact eD) ?_⟩
    have e1 : (kvs.map fun kv => (kV kv.1, kv.2)).take kvs.length = prs H (.ref a) := by
      simp only [prs, h]
      exact List.take_of_length_le (by simp)
    rw [← e1]
    exact pr.tups fun t xs z => by
      have ta : t ≠ a := fun e => by rw [e, s _ _ upd_same] at z; cases z
      rw [upd_ne ta]; exact z
theorem sc_items_of : FnScope ["value", "key"] ["value"] (defScope s_items_of) := ⟨rfl, rfl, rfl, by decide +kernel, rfl, by decide +kernel, by decide +kernel⟩
def sp_items : Sp := S1 fun v H Q _ => ∃ d fp, Tr H v d fp ∧ okB d = true ∧ ∀ p ts H', Same H H' → H p = none → H' p = some (.lst ts) → Prd H' ts (prs H v) → Q (.ref p) H'
theorem ok_items (F : Df g.K "items_of" "items_of" s_items_of f fd .none) (T : Txt g) : FnG g 1 f fd ["value"] sp_items := by
  refine F.ok sc_items_of (fun vs H Q E h => S1.len h) (fun cdv A outer s H vs Q E hr h => ?_)
  obtain ⟨v, rfl, d, fp, hv, hok, q⟩ := h
  refine ⟨_, (pss_cons (ps_if (pt_val (pe_callB (c_is "dict") (by rfl) T.b_isinstance bb_isinstance (pa_cons (pv 0) (pa_cons (pe_bltn (v := .ty "dict") rfl T.b_dict bb_dict rfl) pa_nil)))) (pss_one (ps_ret (pe_lock (pe_lc (own := [("key", 1)]) (tt := tYes) rfl sc_items_of.nd (pi_keys (pv 0)) (blkOk_by (own := [("key", 1)]) (N := ["value", "key"]) (sc := defScope s_items_of) (by decide +kernel)) (fun _ _ _ _ _ => (pg_name (i := 1) sc_items_of.nd rfl (.inl rfl))) (fun _ _ _ _ _ => pts_nil) (fun _ _ _ _ _ => (pe_tup (pa_cons (pv 1) (pa_cons (pe_dget (hu_of (Rm.mk hr.room hr.gd).room) (pv 0) (pv 1) (fun _ _ => rfl)) pa_nil)))))))) pss_nil)
      (pss_one (ps_ret (pe_ifExp (pt_val (pe_callB (c_isT ["list", "tuple"]) (by rfl) T.b_isinstance bb_isinstance (pa_cons (pv 0) (pa_cons (pe_tup (pa_cons (pe_bltn (v := .ty "list") rfl T.b_list bb_list rfl) (pa_cons (pe_bltn (v := .ty "tuple") rfl T.b_tuple bb_tuple rfl) pa_nil))) pa_nil)))) (pe_listEnum (K := g.K) T.b_list T.b_enumerate (pa_cons (pv 0) pa_nil)) (pe_lst pa_nil))))), ?_⟩
  walk_at "sx"
  refine ⟨_, hv.ty, ?_⟩
  cases hv with
  | @dct a kvs D fp h hs na nd =>
    rw [if_pos (by simp [kindN])]
    exact ⟨a, _, h, True.intro, fun od => ⟨a, rfl, od, .inl ⟨kvs, upd_same, dict_pairs h nd (by simp only [okB, Bool.and_eq_true, decide_eq_true_eq] at hok; rw [hs.len, sizeLine_eq]; omega) od q⟩⟩⟩
  | @lst a xs ds fp h hs na =>
    rw [if_neg (by simp [kindN])]
    intro p hp
    refine isT_new (Ts := ["list", "tuple"]) (tyN_l h) hp ⟨_, rfl, ?_⟩
    rw [if_pos (by decide)]
    have sp := same_upd (o := HO.tup (["list", "tuple"].map V.ty)) hp
    refine ⟨a, rfl, xs, .inl (SqL.of (sp _ _ h)), fun p2 ts H' s2 n2 e2 l2 k2 => q p2 _ H' (sp.trans s2) (fresh_lock n2).2 e2 ⟨by rw [List.length_map, l2]; simp [prs, h, idx_len], fun j s' x hj => ?_⟩⟩
    have hj' : (idx xs)[j]? = some (s', x) := by simpa [prs, h] using hj
    obtain ⟨rfl, hx⟩ := idx_get hj'
    obtain ⟨t, t1, _, t3⟩ := k2 j x hx
    exact ⟨t, by simp [t1], t3⟩
  | @tup a xs ds fp h hs =>
    rw [if_neg (by simp [kindN])]
    intro p hp
    refine isT_new (Ts := ["list", "tuple"]) (tyN_t h) hp ⟨_, rfl, ?_⟩
    rw [if_pos (by decide)]
    have sp := same_upd (o := HO.tup (["list", "tuple"].map V.ty)) hp
    refine ⟨a, rfl, xs, .inr (SqT.of (sp _ _ h)), fun p2 ts H' s2 n2 e2 l2 k2 => q p2 _ H' (sp.trans s2) (fresh_lock n2).2 e2 ⟨by rw [List.length_map, l2]; simp [prs, h, idx_len], fun j s' x hj => ?_⟩⟩
    have hj' : (idx xs)[j]? = some (s', x) := by simpa [prs, h] using hj
    obtain ⟨rfl, hx⟩ := idx_get hj'
    obtain ⟨t, t1, _, t3⟩ := k2 j x hx
    exact ⟨t, by simp [t1], t3⟩
  | _ =>
    rw [if_neg (by simp [kindN])]
    intro p hp
    refine isT_new (Ts := ["list", "tuple"]) rfl hp ⟨_, rfl, ?_⟩
    rw [if_neg (by decide)]
    exact fun p2 n2 => q p2 _ _ (same_new (same_upd hp) n2) (fresh_lock n2).2 upd_same ⟨rfl, fun j s' x hj => by simp [prs] at hj⟩
end
theorem len_100 {i : Int} (h : i.natAbs < 10 ^ 100) : i.natAbs.log2 < 1920 ∧ (Str.ofString (toString ((i.natAbs : Nat) : Int))).length ≤ 100 := by
  refine ⟨?_, ?_⟩
  · have h2 : i.natAbs < 2 ^ 1920 := Nat.lt_of_lt_of_le h (by decide +kernel)
    by_cases z : i.natAbs = 0
    · rw [z]; decide
    · exact (Nat.log2_lt z).mpr h2
  · rw [ofString_length]
    exact (Nat.length_repr_le_iff (by decide)).mpr h
section
variable {g : Wd} {f : Addr} {fd : FuncData}
theorem sc_is_wrong_part : FnScope ["value", "depth", "key"] ["value", "depth"] (defScope s_is_wrong_part) := ⟨rfl, rfl, rfl, by decide +kernel, rfl, by decide +kernel, by decide +kernel⟩
def sp_wrong : Sp := S2 fun v k H Q _ => ∃ d fp n, Tr H v d fp ∧ okB d = true ∧ k = .int n ∧ (0 < d.depth → n < 20) ∧ ∀ H', Same H H' → Q (.bl false) H'
theorem ok_wrong (F : Df g.K "is_wrong_part" "is_wrong_part" s_is_wrong_part f fd .none) (T : Txt g) : FnG g 1 f fd ["value", "depth"] sp_wrong := by
  refine F.ok sc_is_wrong_part (fun vs H Q E h => S2.len h) (fun cdv A outer s H vs Q E hr h => ?_)
  obtain ⟨v, _, rfl, d, fp, n, hv, hok, rfl, hn, q⟩ := h
  refine ⟨_, (pss_cons (ps_if (PW.pt (pw_or (pt_cmpR op_isN (pv 0) pe_non (nomark _)) (pw_or1 (pt_val (pe_callB (c_is "bool") (by rfl) T.b_isinstance bb_isinstance (pa_cons (pv 0) (pa_cons (pe_bltn (v := .ty "bool") rfl T.b_bool bb_bool rfl) pa_nil))))))) (pss_one (ps_ret pe_bl)) pss_nil)
      (pss_cons (ps_if (pt_val (pe_callB (c_is "int") (by rfl) T.b_isinstance bb_isinstance (pa_cons (pv 0) (pa_cons (pe_bltn (v := .ty "int") rfl T.b_int bb_int rfl) pa_nil)))) (pss_one (ps_ret (pe_cmpR op_gt (pe_callB (c_len (K := g.K)) (by rfl) T.b_len bb_len (pa_cons (pe_callTy call_str_int (by rfl) T.b_str bb_str (pa_cons (pe_callB call_abs (by rfl) T.b_abs bb_abs (pa_cons (pv 0) pa_nil)) pa_nil)) pa_nil)) (e_g T.c_MOST_DIGITS) (nomark _)))) pss_nil)
      (pss_cons (ps_if (pt_val (pe_callB (c_is "str") (by rfl) T.b_isinstance bb_isinstance (pa_cons (pv 0) (pa_cons (pe_bltn (v := .ty "str") rfl T.b_str bb_str rfl) pa_nil)))) (pss_one (ps_ret (pe_cmpR op_gt (pe_callB (c_len (K := g.K)) (by rfl) T.b_len bb_len (pa_cons (pv 0) pa_nil)) (e_g T.c_MOST_ITEMS) (nomark _)))) pss_nil)
      (pss_cons (ps_if (PW.pt (pw_or (pt_not (pt_val (pe_callB (c_isT ["list", "tuple", "dict"]) (by rfl) T.b_isinstance bb_isinstance (pa_cons (pv 0) (pa_cons (pe_tup (pa_cons (pe_bltn (v := .ty "list") rfl T.b_list bb_list rfl) (pa_cons (pe_bltn (v := .ty "tuple") rfl T.b_tuple bb_tuple rfl) (pa_cons (pe_bltn (v := .ty "dict") rfl T.b_dict bb_dict rfl) pa_nil)))) pa_nil))))) (pw_or (pt_cmpR op_ge (pv 1) (e_g T.c_MOST_LEVELS) (nomark _)) (pw_or1 (pt_cmpR op_gt (pe_callB (c_len (K := g.K)) (by rfl) T.b_len bb_len (pa_cons (pv 0) pa_nil)) (e_g T.c_MOST_ITEMS) (nomark _)))))) (pss_one (ps_ret pe_bl)) pss_nil)
      (pss_one (ps_ret (pe_and (pe_callB (c_is "dict") (by rfl) T.b_isinstance bb_isinstance (pa_cons (pv 0) (pa_cons (pe_bltn (v := .ty "dict") rfl T.b_dict bb_dict rfl) pa_nil))) (pe_one (pe_not (pe_callB (c_all (K := g.K)) (by rfl) T.b_all bb_all (pa_cons (pe_lock (pe_lc (own := [("key", 2)]) (tt := tYes) rfl sc_is_wrong_part.nd (pi_keys (pv 0)) (blkOk_by (own := [("key", 2)]) (N := ["value", "depth", "key"]) (sc := defScope s_is_wrong_part) (by decide +kernel)) (fun _ _ _ _ _ => (pg_name (i := 2) sc_is_wrong_part.nd rfl (.inl rfl))) (fun _ _ _ _ _ => pts_nil) (fun _ _ _ _ _ => (pe_and (pe_callB (c_is "str") (by rfl) T.b_isinstance bb_isinstance (pa_cons (pv 2) (pa_cons (pe_bltn (v := .ty "str") rfl T.b_str bb_str rfl) pa_nil))) (pe_one (pe_cmpR op_le (pe_callB (c_len (K := g.K)) (by rfl) T.b_len bb_len (pa_cons (pv 2) pa_nil)) (e_g T.c_MOST_ITEMS) (nomark _))))))) pa_nil))))))))))), ?_⟩
  cases hv with
  | non =>
    walk_at "sx"
    exact q _ (Same.refl _)
  | bl b =>
    walk_at "sx"
    exact q _ (Same.refl _)
  | int i =>
    walk_at "sx"
    have hi : i.natAbs < 10 ^ 100 := by simpa [okB] using hok
    have ea : ((if i < 0 then -i else i : Int)) = ((i.natAbs : Nat) : Int) := by split <;> omega
    rw [ea]
    obtain ⟨l1, l2⟩ := len_100 hi
    refine ⟨?_, by omega, ?_⟩
    · rw [Int.natAbs_natCast]
      exact l1
    · rw [decide_eq_false (by omega)]
      exact q _ (Same.refl _)
  | str x =>
    walk_at "sx"
    have hx : x.length ≤ 10000 := by simpa [okB] using hok
    refine ⟨by omega, ?_⟩
    rw [decide_eq_false (by omega)]
    exact q _ (Same.refl _)
  | @lst a xs ds fp h hs na =>
    simp only [tyN_l h, tRet, tRetN, tSeq, C8.tCut, tNext, tAsg, gName, gNil, gCons, gTup, gFld, tIfS, tIf, tAndV, tOrV, tNotV, tAnd, tOr, tNot, tB, tTest, tOp, tUn, tCB, tCons, tNil, tVar, tC, tChain, tDrop, RS.tCallG, RS.tMethG, tMakeG, RS.tCallK, RS.tMakeK, tEqOwn, rI, rI0, rU, add_ii, add_ss, add_rr, mul_ii, mul_si, mul_ri, RS.eq_ii, RS.eq_ss, eq_bb, eq_nn, eq_sn, eq_ns, eq_in, eq_ni, eq_bn, eq_nb, eq_is, eq_si, eq_rr, ne_ii, ne_ss, ne_bb, ne_nn, ne_sn, ne_ns, ne_in, ne_ni, ne_is, ne_si, ne_rr, in_ss, in_r, nin_ss, nin_r, len_s, len_r, RS.ix_s, RS.ix_r, sl_s, sl_r, is_eq, tyN_n, tyN_b, tyN_i, tyN_s, tru_b, tru_i, tru_n, tSl, tPart, tNoPart, tPar, tPar3, tFmtZ, tFmt, tJs, tDGet, sDPut, sFld, tFld, tTup, tLst, tNever, isB,
  L2.start, List.map_cons, List.map_nil, List.length_cons, List.length_nil, Nat.reduceAdd, Nat.reduceSub, Nat.sub_self, List.replicate_zero, List.replicate_succ, List.append_nil, List.cons_append, List.nil_append, List.getElem?_cons_zero, List.getElem?_cons_succ, List.set_cons_zero, List.set_cons_succ, Option.some.injEq, exists_eq_left, exists_eq_left', exists_and_left, V.bl.injEq, V.int.injEq, V.str.injEq, V.ref.injEq, beq_self_eq_true, Bool.true_or, Bool.or_true, Bool.false_or, Bool.or_false, Bool.and_false, Bool.false_and, Bool.true_and, Bool.and_true, Bool.not_true, Bool.not_false, Bool.false_eq_true, if_true, if_false, ite_true, ite_false, true_and, and_true, and_assoc, String.reduceBEq, String.reduceEq, reduceIte, Bool.and_self, reduceCtorEq, false_and, and_false, exists_false, or_false, false_or, exists_const, iEnumS, iStr, iList, iTup, iRng1, iEnum, tFor_eq, tLc_eq, List.cons.injEq, wipe, not_true_eq_false, not_false_eq_true, upd_same, HO.ins.injEq, HO.tup.injEq, HO.lst.injEq, ofS_eq, lk_nil, lk_cons, pu_nil, pu_cons, sizeLine_eq, Nat.reduceLT, Nat.reduceLeDiff, Nat.reduceEqDiff, Nat.le_refl, decide_true, decide_false, tPr, dget_us, dput_us, vv_nil, vv_cons, RS.pk_nil, pk_one, RS.pk_cons, inr_eq, tDisp, tPairs, tBoolOwn, rBoolOwn, tBM, rAppend, ty_list, ty_str, rEqOwn, iEnumT, RS.tCallS, tM1, tDc_eq, tLock, tLockE, iKeys, tListEnum, rUpdate, tMkX0, tMkX1, tXfv, gSub, rSetL, List.getD_cons_zero, List.getD_cons_succ, tBreak, tCMethS, ClX.tCVal, tXfa, tIxOwn, tInOwn, tPropG, tMethK, tMethP, tListGen, tDGet2, tDPop2, rNeD0, intA_i, intA_b, tRevL, sFldAug, tPm0, tPm1, tDIn, tDNotIn, tDNewK, RS.tMethS, tForK, tKM, tKC, tLcK, tKM2, tKC2, tMethStar, tKCK2, tLk, tAug, ipI, tDig, tLcX, tKMX, tKCX]
    intro p hp
    have hl : xs.length ≤ 10000 := by rw [hs.len]; simp only [okB, Bool.and_eq_true, decide_eq_true_eq] at hok; exact hok.1
    have hn := hn (by simp [PyData.depth])
    have sp := same_upd (o := HO.tup (["list", "tuple", "dict"].map V.ty)) hp
    refine isT_new (Ts := ["list", "tuple", "dict"]) (tyN_l h) hp ⟨_, rfl, ?_⟩
    rw [if_neg (by decide), if_neg (by simp; omega)]
    refine .inl ⟨xs, .inl (SqL.of (sp _ _ h)), ?_⟩
    rw [if_neg (by simp; omega)]
    refine ⟨_, tyN_l (sp _ _ h), ?_⟩
    rw [if_neg (by decide)]
    exact q _ sp
  | @tup a xs ds fp h hs =>
    simp only [tyN_t h, tRet, tRetN, tSeq, C8.tCut, tNext, tAsg, gName, gNil, gCons, gTup, gFld, tIfS, tIf, tAndV, tOrV, tNotV, tAnd, tOr, tNot, tB, tTest, tOp, tUn, tCB, tCons, tNil, tVar, tC, tChain, tDrop, RS.tCallG, RS.tMethG, tMakeG, RS.tCallK, RS.tMakeK, tEqOwn, rI, rI0, rU, add_ii, add_ss, add_rr, mul_ii, mul_si, mul_ri, RS.eq_ii, RS.eq_ss, eq_bb, eq_nn, eq_sn, eq_ns, eq_in, eq_ni, eq_bn, eq_nb, eq_is, eq_si, eq_rr, ne_ii, ne_ss, ne_bb, ne_nn, ne_sn, ne_ns, ne_in, ne_ni, ne_is, ne_si, ne_rr, in_ss, in_r, nin_ss, nin_r, len_s, len_r, RS.ix_s, RS.ix_r, sl_s, sl_r, is_eq, tyN_n, tyN_b, tyN_i, tyN_s, tru_b, tru_i, tru_n, tSl, tPart, tNoPart, tPar, tPar3, tFmtZ, tFmt, tJs, tDGet, sDPut, sFld, tFld, tTup, tLst, tNever, isB,
  L2.start, List.map_cons, List.map_nil, List.length_cons, List.length_nil, Nat.reduceAdd, Nat.reduceSub, Nat.sub_self, List.replicate_zero, List.replicate_succ, List.append_nil, List.cons_append, List.nil_append, List.getElem?_cons_zero, List.getElem?_cons_succ, List.set_cons_zero, List.set_cons_succ, Option.some.injEq, exists_eq_left, exists_eq_left', exists_and_left, V.bl.injEq, V.int.injEq, V.str.injEq, V.ref.injEq, beq_self_eq_true, Bool.true_or, Bool.or_true, Bool.false_or, Bool.or_false, Bool.and_false, Bool.false_and, Bool.true_and, Bool.and_true, Bool.not_true, Bool.not_false, Bool.false_eq_true, if_true, if_false, ite_true, ite_false, true_and, and_true, and_assoc, String.reduceBEq, String.reduceEq, reduceIte, Bool.and_self, reduceCtorEq, false_and, and_false, exists_false, or_false, false_or, exists_const, iEnumS, iStr, iList, iTup, iRng1, iEnum, tFor_eq, tLc_eq, List.cons.injEq, wipe, not_true_eq_false, not_false_eq_true, upd_same, HO.ins.injEq, HO.tup.injEq, HO.lst.injEq, ofS_eq, lk_nil, lk_cons, pu_nil, pu_cons, sizeLine_eq, Nat.reduceLT, Nat.reduceLeDiff, Nat.reduceEqDiff, Nat.le_refl, decide_true, decide_false, tPr, dget_us, dput_us, vv_nil, vv_cons, RS.pk_nil, pk_one, RS.pk_cons, inr_eq, tDisp, tPairs, tBoolOwn, rBoolOwn, tBM, rAppend, ty_list, ty_str, rEqOwn, iEnumT, RS.tCallS, tM1, tDc_eq, tLock, tLockE, iKeys, tListEnum, rUpdate, tMkX0, tMkX1, tXfv, gSub, rSetL, List.getD_cons_zero, List.getD_cons_succ, tBreak, tCMethS, ClX.tCVal, tXfa, tIxOwn, tInOwn, tPropG, tMethK, tMethP, tListGen, tDGet2, tDPop2, rNeD0, intA_i, intA_b, tRevL, sFldAug, tPm0, tPm1, tDIn, tDNotIn, tDNewK, RS.tMethS, tForK, tKM, tKC, tLcK, tKM2, tKC2, tMethStar, tKCK2, tLk, tAug, ipI, tDig, tLcX, tKMX, tKCX]
    intro p hp
    have hl : xs.length ≤ 10000 := by rw [hs.len]; simp only [okB, Bool.and_eq_true, decide_eq_true_eq] at hok; exact hok.1
    have hn := hn (by simp [PyData.depth])
    have sp := same_upd (o := HO.tup (["list", "tuple", "dict"].map V.ty)) hp
    refine isT_new (Ts := ["list", "tuple", "dict"]) (tyN_t h) hp ⟨_, rfl, ?_⟩
    rw [if_neg (by decide), if_neg (by simp; omega)]
    refine .inl ⟨xs, .inr (SqT.of (sp _ _ h)), ?_⟩
    rw [if_neg (by simp; omega)]
    refine ⟨_, tyN_t (sp _ _ h), ?_⟩
    rw [if_neg (by decide)]
    exact q _ sp
  | @dct a kvs D fp h hs na nd =>
    simp only [tyN_d h, tRet, tRetN, tSeq, C8.tCut, tNext, tAsg, gName, gNil, gCons, gTup, gFld, tIfS, tIf, tAndV, tOrV, tNotV, tAnd, tOr, tNot, tB, tTest, tOp, tUn, tCB, tCons, tNil, tVar, tC, tChain, tDrop, RS.tCallG, RS.tMethG, tMakeG, RS.tCallK, RS.tMakeK, tEqOwn, rI, rI0, rU, add_ii, add_ss, add_rr, mul_ii, mul_si, mul_ri, RS.eq_ii, RS.eq_ss, eq_bb, eq_nn, eq_sn, eq_ns, eq_in, eq_ni, eq_bn, eq_nb, eq_is, eq_si, eq_rr, ne_ii, ne_ss, ne_bb, ne_nn, ne_sn, ne_ns, ne_in, ne_ni, ne_is, ne_si, ne_rr, in_ss, in_r, nin_ss, nin_r, len_s, len_r, RS.ix_s, RS.ix_r, sl_s, sl_r, is_eq, tyN_n, tyN_b, tyN_i, tyN_s, tru_b, tru_i, tru_n, tSl, tPart, tNoPart, tPar, tPar3, tFmtZ, tFmt, tJs, tDGet, sDPut, sFld, tFld, tTup, tLst, tNever, isB,
  L2.start, List.map_cons, List.map_nil, List.length_cons, List.length_nil, Nat.reduceAdd, Nat.reduceSub, Nat.sub_self, List.replicate_zero, List.replicate_succ, List.append_nil, List.cons_append, List.nil_append, List.getElem?_cons_zero, List.getElem?_cons_succ, List.set_cons_zero, List.set_cons_succ, Option.some.injEq, exists_eq_left, exists_eq_left', exists_and_left, V.bl.injEq, V.int.injEq, V.str.injEq, V.ref.injEq, beq_self_eq_true, Bool.true_or, Bool.or_true, Bool.false_or, Bool.or_false, Bool.and_false, Bool.false_and, Bool.true_and, Bool.and_true, Bool.not_true, Bool.not_false, Bool.false_eq_true, if_true, if_false, ite_true, ite_false, true_and, and_true, and_assoc, String.reduceBEq, String.reduceEq, reduceIte, Bool.and_self, reduceCtorEq, false_and, and_false, exists_false, or_false, false_or, exists_const, iEnumS, iStr, iList, iTup, iRng1, iEnum, tFor_eq, tLc_eq, List.cons.injEq, wipe, not_true_eq_false, not_false_eq_true, upd_same, HO.ins.injEq, HO.tup.injEq, HO.lst.injEq, ofS_eq, lk_nil, lk_cons, pu_nil, pu_cons, sizeLine_eq, Nat.reduceLT, Nat.reduceLeDiff, Nat.reduceEqDiff, Nat.le_refl, decide_true, decide_false, tPr, dget_us, dput_us, vv_nil, vv_cons, RS.pk_nil, pk_one, RS.pk_cons, inr_eq, tDisp, tPairs, tBoolOwn, rBoolOwn, tBM, rAppend, ty_list, ty_str, rEqOwn, iEnumT, RS.tCallS, tM1, tDc_eq, tLock, tLockE, iKeys, tListEnum, rUpdate, tMkX0, tMkX1, tXfv, gSub, rSetL, List.getD_cons_zero, List.getD_cons_succ, tBreak, tCMethS, ClX.tCVal, tXfa, tIxOwn, tInOwn, tPropG, tMethK, tMethP, tListGen, tDGet2, tDPop2, rNeD0, intA_i, intA_b, tRevL, sFldAug, tPm0, tPm1, tDIn, tDNotIn, tDNewK, RS.tMethS, tForK, tKM, tKC, tLcK, tKM2, tKC2, tMethStar, tKCK2, tLk, tAug, ipI, tDig, tLcX, tKMX, tKCX]
    intro p hp
    simp only [okB, Bool.and_eq_true, decide_eq_true_eq] at hok
    have hl : kvs.length ≤ 10000 := by rw [hs.len]; exact hok.1
    have hn := hn (by simp [PyData.depth])
    have sp := same_upd (o := HO.tup (["list", "tuple", "dict"].map V.ty)) hp
    refine isT_new (Ts := ["list", "tuple", "dict"]) (tyN_d h) hp ⟨_, rfl, ?_⟩
    rw [if_neg (by decide), if_neg (by simp; omega)]
    have h2 := sp _ _ h
    generalize upd H p (HO.tup (["list", "tuple", "dict"].map V.ty)) = G at sp h2 ⊢
    refine .inr ⟨kvs, h2, ?_⟩
    rw [if_neg (by simp; omega)]
    refine ⟨_, tyN_d h2, ?_⟩
    rw [if_pos (by decide)]
    refine ⟨a, _, h2, True.intro, fun od => ⟨od, .inl ⟨kvs, upd_same, ?_⟩⟩⟩
    refine lc_all kvs.length (fun _ => .bl true) (by rw [sizeLine_eq]; omega) (fun i G' lt s => ⟨s _ _ upd_same, lt⟩) (fun G' s => ⟨s _ _ upd_same, Nat.le_refl _⟩) (fun i G' x G'' K lt s yl k => ?_) (fun L G' hL s eL => ?_)
    · obtain ⟨rfl, k0, v0, hk, rfl⟩ := yl
      obtain ⟨x, v, d, f', e1, e2, _, _⟩ := hs.get lt
      rw [hk] at e1
      cases e1
      have hx : x.length ≤ 10000 := by simpa [okB] using (okKv_get hok.2 e2).1
      refine ⟨rfl, ?_⟩
      show _
      simp only [kV, tRet, tRetN, tSeq, C8.tCut, tNext, tAsg, gName, gNil, gCons, gTup, gFld, tIfS, tIf, tAndV, tOrV, tNotV, tAnd, tOr, tNot, tB, tTest, tOp, tUn, tCB, tCons, tNil, tVar, tC, tChain, tDrop, RS.tCallG, RS.tMethG, tMakeG, RS.tCallK, RS.tMakeK, tEqOwn, rI, rI0, rU, add_ii, add_ss, add_rr, mul_ii, mul_si, mul_ri, RS.eq_ii, RS.eq_ss, eq_bb, eq_nn, eq_sn, eq_ns, eq_in, eq_ni, eq_bn, eq_nb, eq_is, eq_si, eq_rr, ne_ii, ne_ss, ne_bb, ne_nn, ne_sn, ne_ns, ne_in, ne_ni, ne_is, ne_si, ne_rr, in_ss, in_r, nin_ss, nin_r, len_s, len_r, RS.ix_s, RS.ix_r, sl_s, sl_r, is_eq, tyN_n, tyN_b, tyN_i, tyN_s, tru_b, tru_i, tru_n, tSl, tPart, tNoPart, tPar, tPar3, tFmtZ, tFmt, tJs, tDGet, sDPut, sFld, tFld, tTup, tLst, tNever, isB,
  L2.start, List.map_cons, List.map_nil, List.length_cons, List.length_nil, Nat.reduceAdd, Nat.reduceSub, Nat.sub_self, List.replicate_zero, List.replicate_succ, List.append_nil, List.cons_append, List.nil_append, List.getElem?_cons_zero, List.getElem?_cons_succ, List.set_cons_zero, List.set_cons_succ, Option.some.injEq, exists_eq_left, exists_eq_left', exists_and_left, V.bl.injEq, V.int.injEq, V.str.injEq, V.ref.injEq, beq_self_eq_true, Bool.true_or, Bool.or_true, Bool.false_or, Bool.or_false, Bool.and_false, Bool.false_and, Bool.true_and, Bool.and_true, Bool.not_true, Bool.not_false, Bool.false_eq_true, if_true, if_false, ite_true, ite_false, true_and, and_true, and_assoc, String.reduceBEq, String.reduceEq, reduceIte, Bool.and_self, reduceCtorEq, false_and, and_false, exists_false, or_false, false_or, exists_const, iEnumS, iStr, iList, iTup, iRng1, iEnum, tFor_eq, tLc_eq, List.cons.injEq, wipe, not_true_eq_false, not_false_eq_true, upd_same, HO.ins.injEq, HO.tup.injEq, HO.lst.injEq, ofS_eq, lk_nil, lk_cons, pu_nil, pu_cons, sizeLine_eq, Nat.reduceLT, Nat.reduceLeDiff, Nat.reduceEqDiff, Nat.le_refl, decide_true, decide_false, tPr, dget_us, dput_us, vv_nil, vv_cons, RS.pk_nil, pk_one, RS.pk_cons, inr_eq, tDisp, tPairs, tBoolOwn, rBoolOwn, tBM, rAppend, ty_list, ty_str, rEqOwn, iEnumT, RS.tCallS, tM1, tDc_eq, tLock, tLockE, iKeys, tListEnum, rUpdate, tMkX0, tMkX1, tXfv, gSub, rSetL, List.getD_cons_zero, List.getD_cons_succ, tBreak, tCMethS, ClX.tCVal, tXfa, tIxOwn, tInOwn, tPropG, tMethK, tMethP, tListGen, tDGet2, tDPop2, rNeD0, intA_i, intA_b, tRevL, sFldAug, tPm0, tPm1, tDIn, tDNotIn, tDNewK, RS.tMethS, tForK, tKM, tKC, tLcK, tKM2, tKC2, tMethStar, tKCK2, tLk, tAug, ipI, tDig, tLcX, tKMX, tKCX]
      refine ⟨by omega, ?_⟩
      rw [decide_eq_true (by omega)]
      exact k _ (Same.refl _)
    · refine ⟨s _ _ upd_same, L, List.replicate kvs.length true, rfl, SqL.of ?_, ?_⟩
      · rw [upd_ne (fresh_lock hL).1, eL]
        congr 2
        rw [List.map_replicate]
        exact List.ext_getElem (by simp) (by simp)
      · walk_at "sx"
        have e : (List.replicate kvs.length true).all id = true := by simp [List.all_eq_true]
        rw [e]
        exact q _ (sp.trans (unlock h2 s))
end
theorem fnG_void {g : Wd} {k : Nat} {f : Addr} {fd : FuncData} {ps : List Str} {sp : Sp} (h : ∀ vs H Q E, ¬ sp vs H Q E) : FnG g k f fd ps sp :=
  ⟨fun vs H Q E z => (h vs H Q E z).elim, fun A outer s H args us vs Q E _ _ _ _ _ z => (h vs H Q E z).elim⟩
theorem kn_rec {g : Wd} {x : Str} {f : Addr} {fd : FuncData} {ps : List Str} {c : Nat} {sp : Nat → Sp} (m : g.mg x = some (.ref f)) (kp : PySem.W.keepIn g.K (.ref f) = true) (b : Binds g.K fd ps []) (h0 : ∀ vs H Q E, ¬ sp 0 vs H Q E)
    (hs : ∀ n, Kn g x (n + c) ps [] (sp n) → FnG g (n + c + 1) f fd ps (sp (n + 1))) : ∀ n, Kn g x (n + c) ps [] (sp n)
  | 0 => ⟨f, fd, [], m, kp, fnG_void h0, b, .nil⟩
  | n + 1 => ⟨f, fd, [], m, kp, (hs n (kn_rec m kp b h0 hs n)).mono (by omega), b, .nil⟩
/-- an item's data -/
theorem prs_get {H : Hp} {v : V} {d : PyData} {fp : List Addr} (h : Tr H v d fp) (ok : okB d = true) {j : Nat} {s x : V} (e : (prs H v)[j]? = some (s, x)) : ∃ d' f', Tr H x d' f' ∧ okB d' = true ∧ d'.depth < d.depth ∧ ∀ c ∈ f', c ∈ fp := by
  cases h with
  | @lst a xs ds fp h hs na =>
    have e' : (idx xs)[j]? = some (s, x) := by simpa [prs, h] using e
    obtain ⟨rfl, hx⟩ := idx_get e'
    obtain ⟨v, d, f', e1, e2, t, sub⟩ := hs.get (List.getElem?_eq_some_iff.mp hx).1
    rw [hx] at e1
    cases e1
    simp only [okB, Bool.and_eq_true] at ok
    refine ⟨d, f', t, okAll_get ok.2 e2, ?_, fun c hc => List.mem_cons_of_mem _ (sub c hc)⟩
    have := depth_all e2
    simp only [PyData.depth]; omega
  | @tup a xs ds fp h hs =>
    have e' : (idx xs)[j]? = some (s, x) := by simpa [prs, h] using e
    obtain ⟨rfl, hx⟩ := idx_get e'
    obtain ⟨v, d, f', e1, e2, t, sub⟩ := hs.get (List.getElem?_eq_some_iff.mp hx).1
    rw [hx] at e1
    cases e1
    simp only [okB, Bool.and_eq_true] at ok
    refine ⟨d, f', t, okAll_get ok.2 e2, ?_, sub⟩
    have := depth_all e2
    simp only [PyData.depth]; omega
  | @dct a kvs D fp h hs na nd =>
    have e' : (kvs.map fun kv => (kV kv.1, kv.2))[j]? = some (s, x) := by simpa [prs, h] using e
    rw [List.getElem?_map] at e'
    cases hk : kvs[j]? with
    | none => rw [hk] at e'; cases e'
    | some kv =>
      rw [hk] at e'
      cases e'
      obtain ⟨y, v, d, f', e1, e2, t, sub⟩ := hs.get (List.getElem?_eq_some_iff.mp hk).1
      rw [hk] at e1
      cases e1
      simp only [okB, Bool.and_eq_true] at ok
      refine ⟨d, f', t, (okKv_get ok.2 e2).2, ?_, fun c hc => List.mem_cons_of_mem _ (sub c hc)⟩
      have := depth_kv e2
      simp only [PyData.depth]; omega
  | _ => simp [prs] at e
section
variable {g : Wd} {f : Addr} {fd : FuncData}
theorem sc_wrong_path : FnScope ["value", "path", "step", "item", "found"] ["value", "path"] (defScope s_wrong_path) := ⟨rfl, rfl, rfl, by decide +kernel, rfl, by decide +kernel, by decide +kernel⟩
def sp_path (n : Nat) : Sp := S2 fun v p H Q _ => ∃ d fp a ps, Tr H v d fp ∧ okB d = true ∧ p = .ref a ∧ H a = some (.tup ps) ∧ ps.length + d.depth ≤ 20 ∧ d.depth < n ∧ ∀ H', Same H H' → Q .non H'
theorem ok_path (n : Nat) (F : Df g.K "wrong_path" "wrong_path" s_wrong_path f fd .none) (T : Txt g) (F_is_wrong_part : Kn g "is_wrong_part" 1 ["value", "depth"] [] sp_wrong) (F_items_of : Kn g "items_of" 1 ["value"] [] sp_items) (F_wrong_path : Kn g "wrong_path" (n + 1) ["value", "path"] [] (sp_path n)) : FnG g (n + 2) f fd ["value", "path"] (sp_path (n + 1)) := by
  refine F.ok sc_wrong_path (fun vs H Q E h => S2.len h) (fun cdv A outer s H vs Q E hr h => ?_)
  obtain ⟨v, _, rfl, d, fp, a, ps, hv, hok, rfl, ha, hl, hn, q⟩ := h
  refine ⟨_, (pss_mid (ps_if (pt_val (pe_callG F_is_wrong_part (hr.mono (by first | decide | omega)) tkD (pa_cons (pv 0) (pa_cons (pe_callB (c_len (K := g.K)) (by rfl) T.b_len bb_len (pa_cons (pv 1) pa_nil)) pa_nil)))) (pss_one (ps_ret (pv 1))) pss_nil)
      (pss_cons (ps_for psD rfl (i_list (K := g.K) (pe_callG F_items_of (hr.mono (by first | decide | omega)) tkD (pa_cons (pv 0) pa_nil))) (g_tup (K := g.K) (n := 2) (pgs_cons (pg_name (i := 2) sc_wrong_path.nd rfl (.inl rfl)) (pgs_cons (pg_name (i := 3) sc_wrong_path.nd rfl (.inl rfl)) pgs_nil))) (pss_cons (ps_set (i := 4) sc_wrong_path.nd rfl (Or.inl rfl) (pe_callG F_wrong_path (hr.mono (by first | decide | omega)) tkD (pa_cons (pv 3) (pa_cons (pe_op (o_add (K := g.K)) (pv 1) (pe_tup (pa_cons (pv 2) pa_nil))) pa_nil))))
      (pss_one (ps_if (pt_cmpR op_notN (pv 4) pe_non (nomark _)) (pss_one (ps_ret (pv 4))) pss_nil))))
      (pss_one (ps_ret pe_non)))), ?_⟩
  refine mid_one [some v, some (.ref a), none, none, none] (fun H1 => Same H H1) ?_ fun H1 s1 => ?_
  · walk_at "sx"
    refine .inl ⟨ps, .inr (SqT.of ha), _, _, rfl, d, fp, _, hv, hok, rfl, fun z => by omega, fun H' s' => ?_⟩
    walk_at "sx"
    exact s'
  walk_at "sx"
  refine ⟨_, rfl, d, fp, hv.same s1, hok, fun L ts H2 s2 _ eL pr => ?_⟩
  walk_at "sx"
  refine ⟨⟨_, SqL.of eL⟩, ?_⟩
  have s12 := s1.trans s2
  refine for_by ts.length (fun i σ H' => (∃ v2 v3 v4, σ = [some v, some (.ref a), v2, v3, v4]) ∧ Same H2 H') ⟨⟨_, _, _, rfl⟩, Same.refl _⟩ (fun i σ H3 lt P => ⟨_, ts[i], SqL.of (P.2 _ _ eL), List.getElem?_eq_getElem lt⟩) (fun σ H3 P => ⟨_, SqL.of (P.2 _ _ eL), Nat.le_refl _⟩) (fun i σ H3 x H4 lt P yl => ?_) (fun σ H3 P => ?_)
  · obtain ⟨⟨v2, v3, v4, rfl⟩, s3⟩ := P
    obtain ⟨rfl, hx⟩ := yl
    have hx := hx _ (SqL.of (s3 _ _ eL))
    have lp : i < (prs H1 v).length := by rw [← pr.1]; exact lt
    obtain ⟨st, it, hp⟩ : ∃ st it, (prs H1 v)[i]? = some (st, it) := ⟨_, _, List.getElem?_eq_getElem lp⟩
    obtain ⟨t, ht, et⟩ := pr.2 i st it hp
    rw [ht] at hx
    obtain rfl : V.ref t = x := Option.some.inj hx
    obtain ⟨d', f', hd', ok', dl, _⟩ := prs_get (hv.same s1) hok hp
    have et3 := s3 _ _ et
    walk_at "sx"
    refine ⟨_, SqT.of et3, rfl, ?_⟩
    walk_at "sx"
    intro u hu
    have su := same_upd (o := HO.tup [st]) hu
    have a3 := su _ _ (s3 _ _ (s12 _ _ ha))
    have s23 := s2.trans s3
    have go : ∀ (b : Addr) (G : Hp), Same (upd H4 u (HO.tup [st])) G → G b = some (.tup (ps ++ [st])) → sp_path n [it, .ref b] G (fun x H1 => if (!decide (x = V.non)) = true then Q x H1 else (∃ x_1, some x = x_1) ∧ Same H2 H1) fun c d H' => E c d H' := fun b G sG hb =>
      ⟨_, _, rfl, d', f', b, _, hd'.same ((s23.trans su).trans sG), ok', rfl, hb, by simp; omega, by omega, fun H5 s5 => by show (if _ then _ else _); rw [if_neg (by simp)]; exact ⟨⟨_, rfl⟩, ((s3.trans su).trans sG).trans s5⟩⟩
    refine .inr ⟨a, u, ps, [st], rfl, rfl, SqT.of a3, SqT.of upd_same, by rw [sizeLine_eq]; simp; omega, fun e => ?_, (fun _ e => nomatch e), fun _ _ b hb => ?_⟩
    · subst e
      have := go u _ (Same.refl _) upd_same
      simpa using this
    · have := go b _ (same_upd hb) upd_same
      simpa using this
  · obtain ⟨⟨v2, v3, v4, rfl⟩, s3⟩ := P
    walk_at "sx"
    exact q _ (s12.trans s3)
end
set_option maxHeartbeats 1000000
/-- the tables of the notation -/
structure TxN (g : Wd) (AE : Addr) : Prop extends Txt g where
  c_ESCAPES : Gv g "ESCAPES" (.ref AE)
  kE : ∃ es n, KDict g.K g.w AE es n
  e34 : KDct g.K g.w AE (S [34]) (.str (S [92, 34]))
  e92 : KDct g.K g.w AE (S [92]) (.str (S [92, 92]))
  e10 : KDct g.K g.w AE (S [10]) (.str (S [92, 110]))
  eN : ∀ c : Nat, PySem.W.nsIn g.K AE (S [c]) = some none ∨ c = 34 ∨ c = 92 ∨ c = 10
theorem join_flat (bs : List (List Nat)) : Txt.join (Str.ofString "") (bs.map S) = S bs.flatten := by
  rw [show (Str.ofString "") = S [] from by decide +kernel, SX.join_S]
  congr 1
  induction bs with
  | nil => rfl
  | cons b bs ih =>
    cases bs with
    | nil => simp [TL.joinL]
    | cons c cs => simp [TL.joinL] at ih ⊢; exact ih
theorem esc1_len (c : Nat) : (esc c).length ≤ 2 := by unfold esc; split <;> (try split) <;> (try split) <;> simp
theorem flat_esc_len : ∀ l : List Nat, (l.flatMap esc).length ≤ 2 * l.length
  | [] => by simp
  | c :: l => by
    have h1 := esc1_len c
    have h2 := flat_esc_len l
    simp only [List.flatMap_cons, List.length_append, List.length_cons]; omega
theorem sum_esc : ∀ l : List Nat, ((l.map fun c => S (esc c)).map (·.length)).sum = (l.flatMap esc).length
  | [] => by simp
  | c :: l => by
    have h := sum_esc l
    simp only [List.map_cons, List.sum_cons, List.flatMap_cons, List.length_append, S_len, h]
section
variable {g : Wd} {f : Addr} {fd : FuncData} {AE : Addr}
theorem sc_string_notation : FnScope ["text", "sign"] ["text"] (defScope s_string_notation) := ⟨rfl, rfl, rfl, by decide +kernel, rfl, by decide +kernel, by decide +kernel⟩
def sp_snote : Sp := S1 fun v H Q _ => ∃ x, v = .str x ∧ x.length ≤ 10000 ∧ ∀ H', Same H H' → Q (.str (sno x)) H'
theorem ok_snote (F : Df g.K "string_notation" "string_notation" s_string_notation f fd .none) (T : TxN g AE) : FnG g 1 f fd ["text"] sp_snote := by
  refine F.ok sc_string_notation (fun vs H Q E h => S1.len h) (fun cdv A outer s H vs Q E hr h => ?_)
  obtain ⟨_, rfl, x, rfl, hx, q⟩ := h
  obtain ⟨es, n, KE⟩ := T.kE
  refine ⟨_, (pss_one (ps_ret (pe_op (o_add (K := g.K)) (pe_op (o_add (K := g.K)) pe_str (pe_join pe_str (pe_lc (own := [("sign", 1)]) (tt := tYes) rfl sc_string_notation.nd (pi_str (pv 0)) (blkOk_by (own := [("sign", 1)]) (N := ["text", "sign"]) (sc := defScope s_string_notation) (by decide +kernel)) (fun _ _ _ _ _ => (pg_name (i := 1) sc_string_notation.nd rfl (.inl rfl))) (fun _ _ _ _ _ => pts_nil) (fun _ _ _ _ _ => (pe_ifExp (pt_cmpR (o_inN KE) (pv 1) (e_g T.c_ESCAPES) (by rfl)) (pe_ix (show IxR _ (rIxD g.K g.w) from ix_kdict) (e_g T.c_ESCAPES) (pv 1) (fun _ _ => rfl)) (pv 1)))))) pe_str))), ?_⟩
  walk_at "sx"
  refine ⟨⟨_, rfl⟩, ?_⟩
  have xl : x.cps.toList.length = x.length := by simp [Str.length]
  refine lc_all x.cps.toList.length (fun i => .str (S (esc (x.cps.toList[i]?.getD 0)))) (by rw [sizeLine_eq, xl]; omega) (fun i G lt s => by simpa [Its] using lt) (fun G s => by simp [Its]) (fun i G z G' K lt s yl k => ?_) (fun L G hL s eL => ?_)
  · obtain ⟨rfl, c, hc, rfl⟩ := yl
    have hc' : x.cps.toList[i]? = some c := by simpa using hc
    rw [hc'] at k
    walk_at "sx"
    show rInN g.K AE (.str (S [c])) (.ref AE) G' _
    by_cases c34 : c = 34
    · subst c34
      obtain ⟨es', n', u, l1, l2, l3, l4⟩ := T.e34
      exact ⟨_, _, rfl, rfl, l3, _, rfl, by rw [if_pos (by simp)]; exact ⟨_, _, _, rfl, rfl, T.e34, k _ (Same.refl _)⟩⟩
    by_cases c92 : c = 92
    · subst c92
      obtain ⟨es', n', u, l1, l2, l3, l4⟩ := T.e92
      exact ⟨_, _, rfl, rfl, l3, _, rfl, by rw [if_pos (by simp)]; exact ⟨_, _, _, rfl, rfl, T.e92, k _ (Same.refl _)⟩⟩
    by_cases c10 : c = 10
    · subst c10
      obtain ⟨es', n', u, l1, l2, l3, l4⟩ := T.e10
      exact ⟨_, _, rfl, rfl, l3, _, rfl, by rw [if_pos (by simp)]; exact ⟨_, _, _, rfl, rfl, T.e10, k _ (Same.refl _)⟩⟩
    have h := (T.eN c).resolve_right (by simp [c34, c92, c10])
    refine ⟨_, _, rfl, rfl, h, _, rfl, ?_⟩
    rw [if_neg (by simp)]
    have := k G' (Same.refl _)
    simp only [Option.getD_some, esc, if_neg c34, if_neg c92, if_neg c10] at this
    exact this
  · have em : (List.range x.cps.toList.length).map (fun i => V.str (S (esc (x.cps.toList[i]?.getD 0)))) = (x.cps.toList.map fun c => S (esc c)).map V.str := by
      refine List.ext_getElem (by simp) fun i h1 h2 => ?_
      simp at h1 h2
      simp [h1]
    rw [em] at eL
    have fl := flat_esc_len x.cps.toList
    rw [xl] at fl
    have jn : Txt.join (Str.ofString "") (x.cps.toList.map fun c => S (esc c)) = S (x.cps.toList.flatMap esc) := by
      have := join_flat (x.cps.toList.map esc)
      rw [List.map_map] at this
      rw [List.flatMap_def]
      exact this
    refine ⟨L, rfl, _, .inl (SqL.of eL), ?_⟩
    have e0 : (Str.ofString "").length = 0 := by decide +kernel
    rw [jn, sum_esc, e0, Nat.mul_zero]
    have e1 : (Str.ofString "\"").length = 1 := by decide +kernel
    simp only [Str.length_append, S_len, e1]
    refine ⟨by omega, by omega, by omega, ?_⟩
    have : Str.ofString "\"" ++ S (x.cps.toList.flatMap esc) ++ Str.ofString "\"" = sno x := by
      unfold sno
      rw [show Str.ofString "\"" = S [34] from by decide +kernel, S_cat, S_cat]
      rfl
    rw [this]
    exact q _ s
end
theorem esc_tab {K : PySem.W.Frag} {w : World} {A : Addr} {h1 h2 h3 : Int} {k1 k2 k3 u1 u2 u3 : Tok} {n : Nat} (lk : K.lookup A = some ⟨.type "dict", none, .dict #[⟨h1, .str "\"" k1, .str "\\\"" u1⟩, ⟨h2, .str "\\" k2, .str "\\\\" u2⟩, ⟨h3, .str "\n" k3, .str "\\n" u3⟩] n, #[]⟩)
    (e1 : h1 = PyData.keyHash w.params "\"") (e2 : h2 = PyData.keyHash w.params "\\") (e3 : h3 = PyData.keyHash w.params "\n") (lo : (A == sysModules) = false) :
    (∃ es n, KDict K w A es n) ∧ KDct K w A (S [34]) (.str (S [92, 34])) ∧ KDct K w A (S [92]) (.str (S [92, 92])) ∧ KDct K w A (S [10]) (.str (S [92, 110])) ∧ ∀ c : Nat, PySem.W.nsIn K A (S [c]) = some none ∨ c = 34 ∨ c = 92 ∨ c = 10 := by
  have kl : PySem.W.KeysLit w.params (#[⟨h1, .str "\"" k1, .str "\\\"" u1⟩, ⟨h2, .str "\\" k2, .str "\\\\" u2⟩, ⟨h3, .str "\n" k3, .str "\\n" u3⟩] : Array DictEntry).toList := ⟨⟨_, _, rfl, e1⟩, ⟨_, _, rfl, e2⟩, ⟨_, _, rfl, e3⟩, trivial⟩
  have s1 : ("\"" : Str) = S [34] := by decide +kernel
  have s2 : ("\\" : Str) = S [92] := by decide +kernel
  have s3 : ("\n" : Str) = S [10] := by decide +kernel
  have t1 : ("\\\"" : Str) = S [92, 34] := by decide +kernel
  have t2 : ("\\\\" : Str) = S [92, 92] := by decide +kernel
  have t3 : ("\\n" : Str) = S [92, 110] := by decide +kernel
  have ns : ∀ z : Str, PySem.W.nsIn K A z = if S [34] = z then some (some (.str (S [92, 34]) u1)) else if S [92] = z then some (some (.str (S [92, 92]) u2)) else if S [10] = z then some (some (.str (S [92, 110]) u3)) else some none := fun z => by
    unfold PySem.W.nsIn
    rw [lk, s1, s2, s3, t1, t2, t3]
    simp only [List.find?_cons, List.find?_nil, Value.isStr, List.any_cons, List.any_nil]
    have tt : ∀ a : Nat, S [a] = z → (S [a] == z) = true := fun a h => beq_iff_eq.mpr h
    have ff : ∀ a : Nat, ¬ S [a] = z → (S [a] == z) = false := fun a h => by
      cases e : (S [a] == z) with
      | false => rfl
      | true => exact absurd (beq_iff_eq.mp e) h
    by_cases c1 : S [34] = z
    · rw [if_pos c1, tt 34 c1]
    · rw [if_neg c1, ff 34 c1]
      by_cases c2 : S [92] = z
      · rw [if_pos c2, tt 92 c2]
      · rw [if_neg c2, ff 92 c2]
        by_cases c3 : S [10] = z
        · rw [if_pos c3, tt 10 c3]
        · rw [if_neg c3, ff 10 c3]
          rfl
  refine ⟨⟨_, _, lk, kl, lo⟩, ⟨_, _, _, lk, kl, by rw [ns, if_pos rfl], _, rfl⟩, ⟨_, _, _, lk, kl, by rw [ns, if_neg (by decide +kernel), if_pos rfl], _, rfl⟩, ⟨_, _, _, lk, kl, by rw [ns, if_neg (by decide +kernel), if_neg (by decide +kernel), if_pos rfl], _, rfl⟩, fun c => ?_⟩
  rw [ns]
  by_cases c1 : c = 34
  · exact .inr (.inl c1)
  by_cases c2 : c = 92
  · exact .inr (.inr (.inl c2))
  by_cases c3 : c = 10
  · exact .inr (.inr (.inr c3))
  have ne : ∀ a : Nat, c ≠ a → ¬ S [a] = S [c] := fun a n e => n (by simpa using (S_inj e).symm)
  rw [if_neg (ne 34 c1), if_neg (ne 92 c2), if_neg (ne 10 c3)]
  exact .inl rfl
theorem piled_le {ts : List Str} : piled ts ≤ (Str.join ", " ts).length + 2 := by
  by_cases e : ts = []
  · subst e; exact Nat.zero_le _
  · have h := join_length_add ts e
    omega
theorem piled_eq : ∀ ts : List Str, piled ts = (ts.map (·.length)).sum + ts.length * 2
  | [] => by simp [piled]
  | t :: ts => by
    have h := piled_eq ts
    simp only [piled, List.map_cons, List.sum_cons, List.length_cons] at h ⊢
    omega
theorem le_sum : ∀ {l : List Nat} {n : Nat}, n ∈ l → n ≤ l.sum
  | x :: l, n, h => by
    rcases List.mem_cons.mp h with rfl | h
    · simp
    · have := le_sum h
      simp only [List.sum_cons]; omega
theorem len_mem {ts : List Str} {t : Str} (h : t ∈ ts) : t.length ≤ (Str.join ", " ts).length := by
  have h1 := piled_le (ts := ts)
  rw [piled_eq] at h1
  have h2 : t.length ≤ (ts.map (·.length)).sum := le_sum (List.mem_map_of_mem h)
  have h3 : 1 ≤ ts.length := List.length_pos_of_mem h
  omega
theorem joinC (xs : List Str) : Txt.join (Str.ofString ", ") xs = Str.join ", " xs := StrLaws.glued_eq_join _ _
section
variable {g : Wd} {f : Addr} {fd : FuncData} {AE : Addr}
theorem sc_value_notation : FnScope ["value", "item", "key"] ["value"] (defScope s_value_notation) := ⟨rfl, rfl, rfl, by decide +kernel, rfl, by decide +kernel, by decide +kernel⟩
def sp_vnote (n : Nat) : Sp := S1 fun v H Q _ => ∃ d fp, Tr H v d fp ∧ okB d = true ∧ d.depth < n ∧ (note d).length ≤ 1000000 ∧ ∀ H', Same H H' → Q (.str (note d)) H'
/-- the lists' and tuples' way -/
theorem note_items {n : Nat} {H H1 : Hp} {Qf : VK} {J : It} {xs : List V} {ds : List PyData} {fp : List Addr} {σ : L2.St} {W : WX} (sl : Nat) (hw : ∀ x : V, wipe ((wipe σ [sl]).set sl (some x)) [sl] = wipe σ [sl]) (hv : ∀ x : V, ((wipe σ [sl]).set sl (some x))[sl]? = some (some x)) (sm : Same H H1) (hs : TrL H xs ds fp) (ok : okAll ds = true) (hl : ds.length ≤ 10000) (hd : PyData.depthAll ds < n) (hz : (Str.join ", " (noteAll ds)).length ≤ 1000000)
    (go : ∀ i G, i < xs.length → Same H1 G → J.go i G) (stop : ∀ G, Same H1 G → J.stop xs.length G) (yl : ∀ i G x G', i < xs.length → Same H1 G → J.yld i G x G' → G' = G ∧ xs[i]? = some x)
    (q : ∀ (L : Addr) (G : Hp), Same H1 G → G L = some (.lst ((noteAll ds).map V.str)) → Qf (.ref L) G) :
    LcB J (gName sl) tYes (RS.tCallG (sp_vnote n) [] W (tCons (tVar sl) tNil)) [sl] σ H1 Qf := by
  have ln := hs.len
  refine lc_all xs.length (fun i => .str (note (ds[i]?.getD .none))) (by rw [sizeLine_eq]; omega) go stop (fun i G x G' K lt s y k => ?_) (fun L G hL s eL => ?_)
  · obtain ⟨rfl, hx⟩ := yl i G x G' lt s y
    obtain ⟨v, d, f', e1, e2, t, _⟩ := hs.get lt
    rw [hx] at e1
    cases e1
    refine ⟨hw x, x, hv x, ?_⟩
    have b1 := depth_all e2
    have b2 : (note d).length ≤ (Str.join ", " (noteAll ds)).length := len_mem (by rw [noteAll_map]; exact List.mem_map_of_mem (List.mem_of_getElem? e2))
    refine ⟨_, rfl, d, f', t.same (sm.trans s), okAll_get ok e2, by omega, by omega, fun H' s' => ?_⟩
    have := k H' s'
    rw [e2] at this
    exact this
  · have e : (List.range xs.length).map (fun i => V.str (note (ds[i]?.getD .none))) = (noteAll ds).map V.str := by
      rw [ln, noteAll_map]
      refine List.ext_getElem (by simp) fun i h1 h2 => ?_
      simp at h1 h2
      simp [h1]
    exact q L G s (by rw [eL, e])
theorem ok_vnote (n : Nat) (F : Df g.K "value_notation" "value_notation" s_value_notation f fd .none) (T : Txt g) (F_string_notation : Kn g "string_notation" 1 ["text"] [] sp_snote) (F_value_notation : Kn g "value_notation" (n + 1) ["value"] [] (sp_vnote n)) : FnG g (n + 2) f fd ["value"] (sp_vnote (n + 1)) := by
  refine F.ok sc_value_notation (fun vs H Q E h => S1.len h) (fun cdv A outer s H vs Q E hr h => ?_)
  obtain ⟨v, rfl, d, fp, hv, hok, hn, hz, q⟩ := h
  refine ⟨_, (pss_cons (ps_if (pt_val (pe_callB (c_is "str") (by rfl) T.b_isinstance bb_isinstance (pa_cons (pv 0) (pa_cons (pe_bltn (v := .ty "str") rfl T.b_str bb_str rfl) pa_nil)))) (pss_one (ps_ret (pe_callG F_string_notation (hr.mono (by first | decide | omega)) tkD (pa_cons (pv 0) pa_nil)))) pss_nil)
      (pss_cons (ps_if (pt_val (pe_callB (c_is "list") (by rfl) T.b_isinstance bb_isinstance (pa_cons (pv 0) (pa_cons (pe_bltn (v := .ty "list") rfl T.b_list bb_list rfl) pa_nil)))) (pss_one (ps_ret (pe_op (o_add (K := g.K)) (pe_op (o_add (K := g.K)) pe_str (pe_join pe_str (pe_lc (own := [("item", 1)]) (tt := tYes) rfl sc_value_notation.nd (pi_or (i_list (K := g.K) (pv 0)) (i_tup (K := g.K) (pv 0))) (blkOk_by (own := [("item", 1)]) (N := ["value", "item", "key"]) (sc := defScope s_value_notation) (by decide +kernel)) (fun _ _ _ _ _ => (pg_name (i := 1) sc_value_notation.nd rfl (.inl rfl))) (fun _ _ _ _ _ => pts_nil) (fun _ _ _ _ _ => (pe_callG F_value_notation (Rm.mono (Rm.mk hr.room hr.gd) (by first | decide | omega)) L2.takes0 (pa_cons (pv 1) pa_nil)))))) pe_str))) pss_nil)
      (pss_cons (ps_if (pt_val (pe_callB (c_is "tuple") (by rfl) T.b_isinstance bb_isinstance (pa_cons (pv 0) (pa_cons (pe_bltn (v := .ty "tuple") rfl T.b_tuple bb_tuple rfl) pa_nil)))) (pss_one (ps_ret (pe_op (o_add (K := g.K)) (pe_op (o_add (K := g.K)) pe_str (pe_join pe_str (pe_lc (own := [("item", 1)]) (tt := tYes) rfl sc_value_notation.nd (pi_or (i_list (K := g.K) (pv 0)) (i_tup (K := g.K) (pv 0))) (blkOk_by (own := [("item", 1)]) (N := ["value", "item", "key"]) (sc := defScope s_value_notation) (by decide +kernel)) (fun _ _ _ _ _ => (pg_name (i := 1) sc_value_notation.nd rfl (.inl rfl))) (fun _ _ _ _ _ => pts_nil) (fun _ _ _ _ _ => (pe_callG F_value_notation (Rm.mono (Rm.mk hr.room hr.gd) (by first | decide | omega)) L2.takes0 (pa_cons (pv 1) pa_nil)))))) (pe_ifExp (pt_cmpR (o_eq (K := g.K) hr) (pe_callB (c_len (K := g.K)) (by rfl) T.b_len bb_len (pa_cons (pv 0) pa_nil)) pe_int (nomark _)) pe_str pe_str)))) pss_nil)
      (pss_cons (ps_if (pt_val (pe_callB (c_is "dict") (by rfl) T.b_isinstance bb_isinstance (pa_cons (pv 0) (pa_cons (pe_bltn (v := .ty "dict") rfl T.b_dict bb_dict rfl) pa_nil)))) (pss_one (ps_ret (pe_op (o_add (K := g.K)) (pe_op (o_add (K := g.K)) pe_str (pe_join pe_str (pe_lock (pe_lc (own := [("key", 2)]) (tt := tYes) rfl sc_value_notation.nd (pi_keys (pv 0)) (blkOk_by (own := [("key", 2)]) (N := ["value", "item", "key"]) (sc := defScope s_value_notation) (by decide +kernel)) (fun _ _ _ _ _ => (pg_name (i := 2) sc_value_notation.nd rfl (.inl rfl))) (fun _ _ _ _ _ => pts_nil) (fun _ _ _ _ _ => (pe_op (o_add (K := g.K)) (pe_op (o_add (K := g.K)) (pe_callG F_string_notation (Rm.mono (Rm.mk hr.room hr.gd) (by first | decide | omega)) L2.takes0 (pa_cons (pv 2) pa_nil)) pe_str) (pe_callG F_value_notation (Rm.mono (Rm.mk hr.room hr.gd) (by first | decide | omega)) L2.takes0 (pa_cons (pe_dget (hu_of (Rm.mk hr.room hr.gd).room) (pv 0) (pv 2) (fun _ _ => rfl)) pa_nil)))))))) pe_str))) pss_nil)
      (pss_one (ps_ret (pe_callTy c_strA (by rfl) T.b_str bb_str (pa_cons (pv 0) pa_nil)))))))), ?_⟩
  cases hv with
  | non =>
    walk_at "sx"
    have := q H (Same.refl _)
    simp only [note] at this
    exact .inr (.inl ⟨rfl, this⟩)
  | bl b =>
    walk_at "sx"
    have := q H (Same.refl _)
    simp only [note] at this
    exact .inr (.inr ⟨b, rfl, this⟩)
  | int i =>
    walk_at "sx"
    have hi : i.natAbs < 10 ^ 100 := by simpa [okB] using hok
    have := q H (Same.refl _)
    simp only [note] at this
    exact .inl ⟨i, rfl, (len_100 hi).1, this⟩
  | str x =>
    walk_at "sx"
    have hx : x.length ≤ 10000 := by simpa [okB] using hok
    exact ⟨_, rfl, x, rfl, hx, fun H' s => by have := q H' s; simp only [note] at this; exact this⟩
  | @lst a xs ds fp h hs na =>
    simp only [tyN_l h, tRet, tRetN, tSeq, C8.tCut, tNext, tAsg, gName, gNil, gCons, gTup, gFld, tIfS, tIf, tAndV, tOrV, tNotV, tAnd, tOr, tNot, tB, tTest, tOp, tUn, tCB, tCons, tNil, tVar, tC, tChain, tDrop, RS.tCallG, RS.tMethG, tMakeG, RS.tCallK, RS.tMakeK, tEqOwn, rI, rI0, rU, add_ii, add_ss, add_rr, mul_ii, mul_si, mul_ri, RS.eq_ii, RS.eq_ss, eq_bb, eq_nn, eq_sn, eq_ns, eq_in, eq_ni, eq_bn, eq_nb, eq_is, eq_si, eq_rr, ne_ii, ne_ss, ne_bb, ne_nn, ne_sn, ne_ns, ne_in, ne_ni, ne_is, ne_si, ne_rr, in_ss, in_r, nin_ss, nin_r, len_s, len_r, RS.ix_s, RS.ix_r, sl_s, sl_r, is_eq, tyN_n, tyN_b, tyN_i, tyN_s, tru_b, tru_i, tru_n, tSl, tPart, tNoPart, tPar, tPar3, tFmtZ, tFmt, tJs, tDGet, sDPut, sFld, tFld, tTup, tLst, tNever, isB,
  L2.start, List.map_cons, List.map_nil, List.length_cons, List.length_nil, Nat.reduceAdd, Nat.reduceSub, Nat.sub_self, List.replicate_zero, List.replicate_succ, List.append_nil, List.cons_append, List.nil_append, List.getElem?_cons_zero, List.getElem?_cons_succ, List.set_cons_zero, List.set_cons_succ, Option.some.injEq, exists_eq_left, exists_eq_left', exists_and_left, V.bl.injEq, V.int.injEq, V.str.injEq, V.ref.injEq, beq_self_eq_true, Bool.true_or, Bool.or_true, Bool.false_or, Bool.or_false, Bool.and_false, Bool.false_and, Bool.true_and, Bool.and_true, Bool.not_true, Bool.not_false, Bool.false_eq_true, if_true, if_false, ite_true, ite_false, true_and, and_true, and_assoc, String.reduceBEq, String.reduceEq, reduceIte, Bool.and_self, reduceCtorEq, false_and, and_false, exists_false, or_false, false_or, exists_const, iEnumS, iStr, iList, iTup, iRng1, iEnum, tFor_eq, tLc_eq, List.cons.injEq, wipe, not_true_eq_false, not_false_eq_true, upd_same, HO.ins.injEq, HO.tup.injEq, HO.lst.injEq, ofS_eq, lk_nil, lk_cons, pu_nil, pu_cons, sizeLine_eq, Nat.reduceLT, Nat.reduceLeDiff, Nat.reduceEqDiff, Nat.le_refl, decide_true, decide_false, tPr, dget_us, dput_us, vv_nil, vv_cons, RS.pk_nil, pk_one, RS.pk_cons, inr_eq, tDisp, tPairs, tBoolOwn, rBoolOwn, tBM, rAppend, ty_list, ty_str, rEqOwn, iEnumT, RS.tCallS, tM1, tDc_eq, tLock, tLockE, iKeys, tListEnum, rUpdate, tMkX0, tMkX1, tXfv, gSub, rSetL, List.getD_cons_zero, List.getD_cons_succ, tBreak, tCMethS, ClX.tCVal, tXfa, tIxOwn, tInOwn, tPropG, tMethK, tMethP, tListGen, tDGet2, tDPop2, rNeD0, intA_i, intA_b, tRevL, sFldAug, tPm0, tPm1, tDIn, tDNotIn, tDNewK, RS.tMethS, tForK, tKM, tKC, tLcK, tKM2, tKC2, tMethStar, tKCK2, tLk, tAug, ipI, tDig, tLcX, tKMX, tKCX]
    simp only [okB, Bool.and_eq_true, decide_eq_true_eq] at hok
    simp only [note] at hz q
    simp only [Str.length_append] at hz
    have pl := piled_le (ts := noteAll ds)
    rw [piled_eq] at pl
    have e1 : (Str.ofString "[").length = 1 := by decide +kernel
    have e2 : (Str.ofString "]").length = 1 := by decide +kernel
    have e3 : (Str.ofString ", ").length = 2 := by decide +kernel
    refine ⟨⟨_, rfl⟩, .inl ⟨⟨xs, SqL.of h⟩, ?_⟩⟩
    refine note_items 1 (fun _ => rfl) (fun _ => rfl) (Same.refl _) hs hok.2 hok.1 (by simp only [PyData.depth] at hn; omega) (by omega) (fun i G lt sm => ⟨_, xs[i], SqL.of (sm _ _ h), List.getElem?_eq_getElem lt⟩) (fun G sm => ⟨_, SqL.of (sm _ _ h), Nat.le_refl _⟩) (fun i G x G' lt sm y => ⟨y.1, y.2 _ (SqL.of (sm _ _ h))⟩) (fun L G sm eL => ?_)
    refine ⟨L, rfl, noteAll ds, .inl (SqL.of eL), ?_⟩
    rw [joinC, e3]
    simp only [Str.length_append]
    exact ⟨by omega, by omega, by omega, q _ sm⟩
  | @tup a xs ds fp h hs =>
    simp only [tyN_t h, tRet, tRetN, tSeq, C8.tCut, tNext, tAsg, gName, gNil, gCons, gTup, gFld, tIfS, tIf, tAndV, tOrV, tNotV, tAnd, tOr, tNot, tB, tTest, tOp, tUn, tCB, tCons, tNil, tVar, tC, tChain, tDrop, RS.tCallG, RS.tMethG, tMakeG, RS.tCallK, RS.tMakeK, tEqOwn, rI, rI0, rU, add_ii, add_ss, add_rr, mul_ii, mul_si, mul_ri, RS.eq_ii, RS.eq_ss, eq_bb, eq_nn, eq_sn, eq_ns, eq_in, eq_ni, eq_bn, eq_nb, eq_is, eq_si, eq_rr, ne_ii, ne_ss, ne_bb, ne_nn, ne_sn, ne_ns, ne_in, ne_ni, ne_is, ne_si, ne_rr, in_ss, in_r, nin_ss, nin_r, len_s, len_r, RS.ix_s, RS.ix_r, sl_s, sl_r, is_eq, tyN_n, tyN_b, tyN_i, tyN_s, tru_b, tru_i, tru_n, tSl, tPart, tNoPart, tPar, tPar3, tFmtZ, tFmt, tJs, tDGet, sDPut, sFld, tFld, tTup, tLst, tNever, isB,
  L2.start, List.map_cons, List.map_nil, List.length_cons, List.length_nil, Nat.reduceAdd, Nat.reduceSub, Nat.sub_self, List.replicate_zero, List.replicate_succ, List.append_nil, List.cons_append, List.nil_append, List.getElem?_cons_zero, List.getElem?_cons_succ, List.set_cons_zero, List.set_cons_succ, Option.some.injEq, exists_eq_left, exists_eq_left', exists_and_left, V.bl.injEq, V.int.injEq, V.str.injEq, V.ref.injEq, beq_self_eq_true, Bool.true_or, Bool.or_true, Bool.false_or, Bool.or_false, Bool.and_false, Bool.false_and, Bool.true_and, Bool.and_true, Bool.not_true, Bool.not_false, Bool.false_eq_true, if_true, if_false, ite_true, ite_false, true_and, and_true, and_assoc, String.reduceBEq, String.reduceEq, reduceIte, Bool.and_self, reduceCtorEq, false_and, and_false, exists_false, or_false, false_or, exists_const, iEnumS, iStr, iList, iTup, iRng1, iEnum, tFor_eq, tLc_eq, List.cons.injEq, wipe, not_true_eq_false, not_false_eq_true, upd_same, HO.ins.injEq, HO.tup.injEq, HO.lst.injEq, ofS_eq, lk_nil, lk_cons, pu_nil, pu_cons, sizeLine_eq, Nat.reduceLT, Nat.reduceLeDiff, Nat.reduceEqDiff, Nat.le_refl, decide_true, decide_false, tPr, dget_us, dput_us, vv_nil, vv_cons, RS.pk_nil, pk_one, RS.pk_cons, inr_eq, tDisp, tPairs, tBoolOwn, rBoolOwn, tBM, rAppend, ty_list, ty_str, rEqOwn, iEnumT, RS.tCallS, tM1, tDc_eq, tLock, tLockE, iKeys, tListEnum, rUpdate, tMkX0, tMkX1, tXfv, gSub, rSetL, List.getD_cons_zero, List.getD_cons_succ, tBreak, tCMethS, ClX.tCVal, tXfa, tIxOwn, tInOwn, tPropG, tMethK, tMethP, tListGen, tDGet2, tDPop2, rNeD0, intA_i, intA_b, tRevL, sFldAug, tPm0, tPm1, tDIn, tDNotIn, tDNewK, RS.tMethS, tForK, tKM, tKC, tLcK, tKM2, tKC2, tMethStar, tKCK2, tLk, tAug, ipI, tDig, tLcX, tKMX, tKCX]
    simp only [okB, Bool.and_eq_true, decide_eq_true_eq] at hok
    simp only [note] at hz q
    simp only [Str.length_append] at hz
    have hl := hs.len
    have pl := piled_le (ts := noteAll ds)
    rw [piled_eq] at pl
    have e1 : (Str.ofString "(").length = 1 := by decide +kernel
    have e2 : (Str.ofString ")").length = 1 := by decide +kernel
    have e4 : (Str.ofString ",)").length = 2 := by decide +kernel
    have e3 : (Str.ofString ", ").length = 2 := by decide +kernel
    refine ⟨⟨_, rfl⟩, .inr ⟨⟨xs, SqT.of h⟩, ?_⟩⟩
    refine note_items 1 (fun _ => rfl) (fun _ => rfl) (Same.refl _) hs hok.2 hok.1 (by simp only [PyData.depth] at hn; omega) (by omega) (fun i G lt sm => ⟨_, xs[i], SqT.of (sm _ _ h), List.getElem?_eq_getElem lt⟩) (fun G sm => ⟨_, SqT.of (sm _ _ h), Nat.le_refl _⟩) (fun i G x G' lt sm y => ⟨y.1, y.2 _ (SqT.of (sm _ _ h))⟩) (fun L G sm eL => ?_)
    refine ⟨L, rfl, noteAll ds, .inl (SqL.of eL), ?_⟩
    rw [joinC, e3]
    simp only [Str.length_append]
    refine ⟨by omega, by omega, .inl ⟨xs, .inr (SqT.of (sm _ _ h)), ?_⟩⟩
    rw [hl]
    have q := q _ sm
    by_cases c1 : ds.length = 1
    · rw [if_pos (by simp [c1])]
      rw [if_pos (by simp [c1])] at q
      exact ⟨by omega, q⟩
    · rw [if_neg (by simp; omega)]
      rw [if_neg (by simp [c1])] at q
      exact ⟨by omega, q⟩
  | @dct a kvs D fp h hs na nd =>
    simp only [tyN_d h, tRet, tRetN, tSeq, C8.tCut, tNext, tAsg, gName, gNil, gCons, gTup, gFld, tIfS, tIf, tAndV, tOrV, tNotV, tAnd, tOr, tNot, tB, tTest, tOp, tUn, tCB, tCons, tNil, tVar, tC, tChain, tDrop, RS.tCallG, RS.tMethG, tMakeG, RS.tCallK, RS.tMakeK, tEqOwn, rI, rI0, rU, add_ii, add_ss, add_rr, mul_ii, mul_si, mul_ri, RS.eq_ii, RS.eq_ss, eq_bb, eq_nn, eq_sn, eq_ns, eq_in, eq_ni, eq_bn, eq_nb, eq_is, eq_si, eq_rr, ne_ii, ne_ss, ne_bb, ne_nn, ne_sn, ne_ns, ne_in, ne_ni, ne_is, ne_si, ne_rr, in_ss, in_r, nin_ss, nin_r, len_s, len_r, RS.ix_s, RS.ix_r, sl_s, sl_r, is_eq, tyN_n, tyN_b, tyN_i, tyN_s, tru_b, tru_i, tru_n, tSl, tPart, tNoPart, tPar, tPar3, tFmtZ, tFmt, tJs, tDGet, sDPut, sFld, tFld, tTup, tLst, tNever, isB,
  L2.start, List.map_cons, List.map_nil, List.length_cons, List.length_nil, Nat.reduceAdd, Nat.reduceSub, Nat.sub_self, List.replicate_zero, List.replicate_succ, List.append_nil, List.cons_append, List.nil_append, List.getElem?_cons_zero, List.getElem?_cons_succ, List.set_cons_zero, List.set_cons_succ, Option.some.injEq, exists_eq_left, exists_eq_left', exists_and_left, V.bl.injEq, V.int.injEq, V.str.injEq, V.ref.injEq, beq_self_eq_true, Bool.true_or, Bool.or_true, Bool.false_or, Bool.or_false, Bool.and_false, Bool.false_and, Bool.true_and, Bool.and_true, Bool.not_true, Bool.not_false, Bool.false_eq_true, if_true, if_false, ite_true, ite_false, true_and, and_true, and_assoc, String.reduceBEq, String.reduceEq, reduceIte, Bool.and_self, reduceCtorEq, false_and, and_false, exists_false, or_false, false_or, exists_const, iEnumS, iStr, iList, iTup, iRng1, iEnum, tFor_eq, tLc_eq, List.cons.injEq, wipe, not_true_eq_false, not_false_eq_true, upd_same, HO.ins.injEq, HO.tup.injEq, HO.lst.injEq, ofS_eq, lk_nil, lk_cons, pu_nil, pu_cons, sizeLine_eq, Nat.reduceLT, Nat.reduceLeDiff, Nat.reduceEqDiff, Nat.le_refl, decide_true, decide_false, tPr, dget_us, dput_us, vv_nil, vv_cons, RS.pk_nil, pk_one, RS.pk_cons, inr_eq, tDisp, tPairs, tBoolOwn, rBoolOwn, tBM, rAppend, ty_list, ty_str, rEqOwn, iEnumT, RS.tCallS, tM1, tDc_eq, tLock, tLockE, iKeys, tListEnum, rUpdate, tMkX0, tMkX1, tXfv, gSub, rSetL, List.getD_cons_zero, List.getD_cons_succ, tBreak, tCMethS, ClX.tCVal, tXfa, tIxOwn, tInOwn, tPropG, tMethK, tMethP, tListGen, tDGet2, tDPop2, rNeD0, intA_i, intA_b, tRevL, sFldAug, tPm0, tPm1, tDIn, tDNotIn, tDNewK, RS.tMethS, tForK, tKM, tKC, tLcK, tKM2, tKC2, tMethStar, tKCK2, tLk, tAug, ipI, tDig, tLcX, tKMX, tKCX]
    simp only [okB, Bool.and_eq_true, decide_eq_true_eq] at hok
    simp only [note] at hz q
    simp only [Str.length_append] at hz
    have hl := hs.len
    have pl := piled_le (ts := noteKv D)
    rw [piled_eq] at pl
    have e1 : (Str.ofString "{").length = 1 := by decide +kernel
    have e2 : (Str.ofString "}").length = 1 := by decide +kernel
    have e4 : (Str.ofString ": ").length = 2 := by decide +kernel
    have e3 : (Str.ofString ", ").length = 2 := by decide +kernel
    refine ⟨⟨_, rfl⟩, a, _, h, True.intro, fun od => ⟨od, .inl ⟨kvs, upd_same, ?_⟩⟩⟩
    have hlk : ∀ c o, c ≠ a → H c = some o → upd H a (.frz od (.dK kvs)) c = some o := fun c o n z => by rw [upd_ne n]; exact z
    have hs1 : TrD (upd H a (.frz od (.dK kvs))) kvs D fp := hs.but (p := a) (fun xs z => by rw [h] at z; cases z) hlk na
    refine lc_all kvs.length (fun i => .str (note ((D[i]?.getD (.none, .none)).1) ++ ": " ++ note ((D[i]?.getD (.none, .none)).2))) (by rw [sizeLine_eq]; omega) (fun i G lt sm => ⟨sm _ _ upd_same, lt⟩) (fun G sm => ⟨sm _ _ upd_same, Nat.le_refl _⟩) (fun i G x G' K lt sm y k => ?_) (fun L G hL sm eL => ?_)
    · obtain ⟨rfl, k0, v0, hk, rfl⟩ := y
      obtain ⟨x, v, d, f', e1, e2, t, _⟩ := hs1.get lt
      rw [hk] at e1
      cases e1
      have b1 := depth_kv e2
      have b3 : PyData.depthKv D < n := by simp only [PyData.depth] at hn; omega
      have b2 : (note (.str x) ++ ": " ++ note d).length ≤ (Str.join ", " (noteKv D)).length := len_mem (by rw [noteKv_map]; exact List.mem_map_of_mem (f := fun p : PyData × PyData => note p.1 ++ ": " ++ note p.2) (List.mem_of_getElem? e2))
      simp only [Str.length_append] at b2
      have ok2 := okKv_get hok.2 e2
      have hx : x.length ≤ 10000 := by simpa [okB] using ok2.1
      rw [e2] at k
      simp only [Option.getD_some, note] at k
      simp only [note] at b2
      refine ⟨rfl, ?_⟩
      simp only [kV, tRet, tRetN, tSeq, C8.tCut, tNext, tAsg, gName, gNil, gCons, gTup, gFld, tIfS, tIf, tAndV, tOrV, tNotV, tAnd, tOr, tNot, tB, tTest, tOp, tUn, tCB, tCons, tNil, tVar, tC, tChain, tDrop, RS.tCallG, RS.tMethG, tMakeG, RS.tCallK, RS.tMakeK, tEqOwn, rI, rI0, rU, add_ii, add_ss, add_rr, mul_ii, mul_si, mul_ri, RS.eq_ii, RS.eq_ss, eq_bb, eq_nn, eq_sn, eq_ns, eq_in, eq_ni, eq_bn, eq_nb, eq_is, eq_si, eq_rr, ne_ii, ne_ss, ne_bb, ne_nn, ne_sn, ne_ns, ne_in, ne_ni, ne_is, ne_si, ne_rr, in_ss, in_r, nin_ss, nin_r, len_s, len_r, RS.ix_s, RS.ix_r, sl_s, sl_r, is_eq, tyN_n, tyN_b, tyN_i, tyN_s, tru_b, tru_i, tru_n, tSl, tPart, tNoPart, tPar, tPar3, tFmtZ, tFmt, tJs, tDGet, sDPut, sFld, tFld, tTup, tLst, tNever, isB,
  L2.start, List.map_cons, List.map_nil, List.length_cons, List.length_nil, Nat.reduceAdd, Nat.reduceSub, Nat.sub_self, List.replicate_zero, List.replicate_succ, List.append_nil, List.cons_append, List.nil_append, List.getElem?_cons_zero, List.getElem?_cons_succ, List.set_cons_zero, List.set_cons_succ, Option.some.injEq, exists_eq_left, exists_eq_left', exists_and_left, V.bl.injEq, V.int.injEq, V.str.injEq, V.ref.injEq, beq_self_eq_true, Bool.true_or, Bool.or_true, Bool.false_or, Bool.or_false, Bool.and_false, Bool.false_and, Bool.true_and, Bool.and_true, Bool.not_true, Bool.not_false, Bool.false_eq_true, if_true, if_false, ite_true, ite_false, true_and, and_true, and_assoc, String.reduceBEq, String.reduceEq, reduceIte, Bool.and_self, reduceCtorEq, false_and, and_false, exists_false, or_false, false_or, exists_const, iEnumS, iStr, iList, iTup, iRng1, iEnum, tFor_eq, tLc_eq, List.cons.injEq, wipe, not_true_eq_false, not_false_eq_true, upd_same, HO.ins.injEq, HO.tup.injEq, HO.lst.injEq, ofS_eq, lk_nil, lk_cons, pu_nil, pu_cons, sizeLine_eq, Nat.reduceLT, Nat.reduceLeDiff, Nat.reduceEqDiff, Nat.le_refl, decide_true, decide_false, tPr, dget_us, dput_us, vv_nil, vv_cons, RS.pk_nil, pk_one, RS.pk_cons, inr_eq, tDisp, tPairs, tBoolOwn, rBoolOwn, tBM, rAppend, ty_list, ty_str, rEqOwn, iEnumT, RS.tCallS, tM1, tDc_eq, tLock, tLockE, iKeys, tListEnum, rUpdate, tMkX0, tMkX1, tXfv, gSub, rSetL, List.getD_cons_zero, List.getD_cons_succ, tBreak, tCMethS, ClX.tCVal, tXfa, tIxOwn, tInOwn, tPropG, tMethK, tMethP, tListGen, tDGet2, tDPop2, rNeD0, intA_i, intA_b, tRevL, sFldAug, tPm0, tPm1, tDIn, tDNotIn, tDNewK, RS.tMethS, tForK, tKM, tKC, tLcK, tKM2, tKC2, tMethStar, tKCK2, tLk, tAug, ipI, tDig, tLcX, tKMX, tKCX]
      refine ⟨_, rfl, x, rfl, hx, fun H' s' => ?_⟩
      dsimp only
      rw [add_ss]
      refine ⟨by rw [sizeLine_eq]; omega, v0, .inl ⟨kvs, .inr x, .inr ⟨od, s' _ _ (sm _ _ upd_same)⟩, rfl, (valV_at nd hk).symm⟩, _, rfl, d, f', t.same (sm.trans s'), ok2.2, by omega, by omega, fun H'' s'' => ?_⟩
      dsimp only
      rw [add_ss]
      exact ⟨by simp only [Str.length_append]; rw [sizeLine_eq]; omega, k H'' (s'.trans s'')⟩
    · have e : (List.range kvs.length).map (fun i => V.str (note ((D[i]?.getD (.none, .none)).1) ++ ": " ++ note ((D[i]?.getD (.none, .none)).2))) = (noteKv D).map V.str := by
        rw [hl, noteKv_map]
        refine List.ext_getElem (by simp) fun i h1 h2 => ?_
        simp at h1 h2
        simp [h1]
      have La := fresh_lock hL
      refine ⟨sm _ _ upd_same, L, rfl, noteKv D, .inl (SqL.of (by rw [upd_ne La.1, eL, e])), ?_⟩
      rw [joinC, e3]
      simp only [Str.length_append]
      exact ⟨by omega, by omega, by omega, q _ (unlock h sm)⟩
end
theorem TrL.snoc {H : Hp} {v : V} {d : PyData} {f2 : List Addr} (h : Tr H v d f2) : ∀ {vs : List V} {ds : List PyData} {f1 : List Addr}, TrL H vs ds f1 → TrL H (vs ++ [v]) (ds ++ [d]) (f1 ++ f2)
  | _, _, _, .nil => by simpa using TrL.cons h .nil
  | _, _, _, .cons h1 hs => by simpa [List.append_assoc] using TrL.cons h1 (TrL.snoc h hs)
theorem TrD.snoc {H : Hp} {x : Str} {v : V} {d : PyData} {f2 : List Addr} (h : Tr H v d f2) : ∀ {vs : List (Key × V)} {ds : List (PyData × PyData)} {f1 : List Addr}, TrD H vs ds f1 → TrD H (vs ++ [(.inr x, v)]) (ds ++ [(.str x, d)]) (f1 ++ f2)
  | _, _, _, .nil => by simpa using TrD.cons (x := x) h .nil
  | _, _, _, .cons h1 hs => by simpa [List.append_assoc] using TrD.cons h1 (TrD.snoc h hs)
/-- a new key is put behind -/
theorem putK_new {kvs : List (Key × V)} {k : Key} {v : V} (h : k ∉ kvs.map (·.1)) : putK kvs k v = kvs ++ [(k, v)] := by
  unfold putK
  rw [if_neg]
  intro z
  obtain ⟨p, hp, e⟩ := List.any_eq_true.mp z
  exact h (List.mem_map.mpr ⟨p, hp, by simpa using e⟩)
/-- what a copy is -/
structure Cpy (H H' : Hp) (d : PyData) (v : V) (fp : List Addr) : Prop where
  sm : Same H H'
  tr : Tr H' v d fp
  nw : ∀ c ∈ fp, H c = none
  nd : fp.Nodup
section
variable {g : Wd} {f : Addr} {fd : FuncData}
def sp_reb (n : Nat) : Sp := S1 fun v H Q _ => ∃ d fp, Tr H v d fp ∧ okB d = true ∧ d.depth < n ∧ ∀ v' fp' H', Cpy H H' d v' fp' → Q v' H'
theorem reb_items {n : Nat} {H1 : Hp} {Qf : VK} {J : It} {xs : List V} {ds : List PyData} {fp : List Addr} {x0 : Option V} (hs : TrL H1 xs ds fp) (ok : okAll ds = true) (hl : ds.length ≤ 10000) (hd : PyData.depthAll ds < n)
    (go : ∀ i G, i < xs.length → Same H1 G → J.go i G) (stop : ∀ G, Same H1 G → J.stop xs.length G) (yl : ∀ i G x G', i < xs.length → Same H1 G → J.yld i G x G' → G' = G ∧ xs[i]? = some x)
    (q : ∀ L ys fp' G, Same H1 G → H1 L = none → G L = some (.lst ys) → TrL G ys ds fp' → (∀ c ∈ fp', H1 c = none) → fp'.Nodup → L ∉ fp' → Qf (.ref L) G) :
    LcB J (gName 2) tYes (RS.tCallG (sp_reb n) [] (fun _ _ _ _ => False) (tCons (tVar 2) tNil)) [2] [x0, none, none] H1 Qf := by
  have ln := hs.len
  refine lc_invA xs.length (fun D i acc G => Same H1 G ∧ ∃ fa, TrL G acc (ds.take i) fa ∧ (∀ c ∈ fa, H1 c = none ∧ c ≠ D) ∧ fa.Nodup) (by rw [sizeLine_eq]; omega) (fun D hD => ⟨same_upd hD, [], .nil, by simp, .nil⟩) (fun D i acc G hD lt P => go i G lt P.1) (fun D acc G hD P => stop G P.1) (fun D i acc G x G' K hD lt la P eD y k => ?_) (fun D acc G hD P eD => ?_)
  · obtain ⟨sm, fa, ta, na, nd⟩ := P
    obtain ⟨rfl, hx⟩ := yl i G x G' lt sm y
    obtain ⟨v, d, f', e1, e2, t, _⟩ := hs.get lt
    rw [hx] at e1
    cases e1
    refine ⟨rfl, ?_⟩
    walk_at "sx"
    have b1 := depth_all e2
    refine ⟨_, rfl, d, f', t.same sm, okAll_get ok e2, by omega, fun v' fp' G2 C => ?_⟩
    have eD2 := C.sm _ _ eD
    have nD : ∀ ys, G2 D ≠ some (.tup ys) := fun ys z => by rw [eD2] at z; cases z
    have kD : ∀ c o, c ≠ D → G2 c = some o → upd G2 D (.lst (acc ++ [v'])) c = some o := fun c o n z => by rw [upd_ne n]; exact z
    have fD : D ∉ fp' := fun z => by rw [C.nw D z] at eD; cases eD
    refine k v' G2 eD2 ⟨fun b o z => ?_, fa ++ fp', ?_, fun c hc => ?_, ?_⟩
    · have bD : b ≠ D := fun e => by rw [e, hD] at z; cases z
      rw [upd_ne bD]; exact C.sm _ _ (sm _ _ z)
    · have e3 : ds.take (i + 1) = ds.take i ++ [d] := by rw [List.take_add_one]; simp [e2]
      rw [e3]
      exact TrL.snoc (C.tr.but nD kD fD) ((ta.same C.sm).but nD kD fun z => (na D z).2 rfl)
    · rcases List.mem_append.mp hc with h | h
      · exact na c h
      · refine ⟨?_, fun e => fD (e ▸ h)⟩
        cases e : H1 c with
        | none => rfl
        | some o => have := sm _ _ e; rw [C.nw c h] at this; cases this
    · refine List.nodup_append.mpr ⟨nd, C.nd, fun a ha b hb e => ?_⟩
      subst e
      have h2 := C.nw a hb
      rcases ta.there a ha with ⟨ys, z⟩ | ⟨ys, z⟩ <;> (rw [h2] at z; cases z)
  · obtain ⟨sm, fa, ta, na, nd⟩ := P
    rw [List.take_of_length_le (by omega)] at ta
    exact q D acc fa G sm hD eD ta (fun c hc => (na c hc).1) nd fun z => (na D z).2 rfl
theorem sc_rebuilt : FnScope ["value", "key", "item"] ["value"] (defScope s_rebuilt) := ⟨rfl, rfl, rfl, by decide +kernel, rfl, by decide +kernel, by decide +kernel⟩
theorem ok_reb (n : Nat) (F : Df g.K "rebuilt" "rebuilt" s_rebuilt f fd .none) (T : Txt g) (F_rebuilt : Kn g "rebuilt" (n + 1) ["value"] [] (sp_reb n)) : FnG g (n + 2) f fd ["value"] (sp_reb (n + 1)) := by
  refine F.ok sc_rebuilt (fun vs H Q E h => S1.len h) (fun cdv A outer s H vs Q E hr h => ?_)
  obtain ⟨v, rfl, d, fp, hv, hok, hn, q⟩ := h
  refine ⟨_, (pss_cons (ps_if (pt_val (pe_callB (c_is "dict") (by rfl) T.b_isinstance bb_isinstance (pa_cons (pv 0) (pa_cons (pe_bltn (v := .ty "dict") rfl T.b_dict bb_dict rfl) pa_nil)))) (pss_one (ps_ret (pe_lock (pe_dc (own := [("key", 1)]) (tt := tYes) rfl sc_rebuilt.nd (pi_keys (pv 0)) (blkOk_by (own := [("key", 1)]) (N := ["value", "key", "item"]) (sc := defScope s_rebuilt) (by decide +kernel)) (fun _ _ _ _ _ => (pg_name (i := 1) sc_rebuilt.nd rfl (.inl rfl))) (fun _ _ _ _ _ => pts_nil) (fun _ _ _ _ _ => (pv 1)) (fun _ _ _ _ _ => (pe_callG F_rebuilt (Rm.mono (Rm.mk hr.room hr.gd) (by first | decide | omega)) L2.takes0 (pa_cons (pe_dget (hu_of (Rm.mk hr.room hr.gd).room) (pv 0) (pv 1) (fun _ _ => rfl)) pa_nil))))))) pss_nil)
      (pss_cons (ps_if (pt_val (pe_callB (c_is "list") (by rfl) T.b_isinstance bb_isinstance (pa_cons (pv 0) (pa_cons (pe_bltn (v := .ty "list") rfl T.b_list bb_list rfl) pa_nil)))) (pss_one (ps_ret (pe_lc (own := [("item", 2)]) (tt := tYes) rfl sc_rebuilt.nd (pi_or (i_list (K := g.K) (pv 0)) (i_tup (K := g.K) (pv 0))) (blkOk_by (own := [("item", 2)]) (N := ["value", "key", "item"]) (sc := defScope s_rebuilt) (by decide +kernel)) (fun _ _ _ _ _ => (pg_name (i := 2) sc_rebuilt.nd rfl (.inl rfl))) (fun _ _ _ _ _ => pts_nil) (fun _ _ _ _ _ => (pe_callG F_rebuilt (Rm.mono (Rm.mk hr.room hr.gd) (by first | decide | omega)) L2.takes0 (pa_cons (pv 2) pa_nil)))))) pss_nil)
      (pss_one (ps_ret (pe_ifExp (pt_val (pe_callB (c_is "tuple") (by rfl) T.b_isinstance bb_isinstance (pa_cons (pv 0) (pa_cons (pe_bltn (v := .ty "tuple") rfl T.b_tuple bb_tuple rfl) pa_nil)))) (pe_callTy call_tuple_of (by rfl) T.b_tuple bb_tuple (pa_cons (pe_lc (own := [("item", 2)]) (tt := tYes) rfl sc_rebuilt.nd (pi_or (i_list (K := g.K) (pv 0)) (i_tup (K := g.K) (pv 0))) (blkOk_by (own := [("item", 2)]) (N := ["value", "key", "item"]) (sc := defScope s_rebuilt) (by decide +kernel)) (fun _ _ _ _ _ => (pg_name (i := 2) sc_rebuilt.nd rfl (.inl rfl))) (fun _ _ _ _ _ => pts_nil) (fun _ _ _ _ _ => (pe_callG F_rebuilt (Rm.mono (Rm.mk hr.room hr.gd) (by first | decide | omega)) L2.takes0 (pa_cons (pv 2) pa_nil)))) pa_nil)) (pv 0)))))), ?_⟩
  cases hv with
  | @lst a xs ds fp h hs na =>
    simp only [okB, Bool.and_eq_true, decide_eq_true_eq] at hok
    simp only [tyN_l h, tRet, tRetN, tSeq, C8.tCut, tNext, tAsg, gName, gNil, gCons, gTup, gFld, tIfS, tIf, tAndV, tOrV, tNotV, tAnd, tOr, tNot, tB, tTest, tOp, tUn, tCB, tCons, tNil, tVar, tC, tChain, tDrop, RS.tCallG, RS.tMethG, tMakeG, RS.tCallK, RS.tMakeK, tEqOwn, rI, rI0, rU, add_ii, add_ss, add_rr, mul_ii, mul_si, mul_ri, RS.eq_ii, RS.eq_ss, eq_bb, eq_nn, eq_sn, eq_ns, eq_in, eq_ni, eq_bn, eq_nb, eq_is, eq_si, eq_rr, ne_ii, ne_ss, ne_bb, ne_nn, ne_sn, ne_ns, ne_in, ne_ni, ne_is, ne_si, ne_rr, in_ss, in_r, nin_ss, nin_r, len_s, len_r, RS.ix_s, RS.ix_r, sl_s, sl_r, is_eq, tyN_n, tyN_b, tyN_i, tyN_s, tru_b, tru_i, tru_n, tSl, tPart, tNoPart, tPar, tPar3, tFmtZ, tFmt, tJs, tDGet, sDPut, sFld, tFld, tTup, tLst, tNever, isB,
  L2.start, List.map_cons, List.map_nil, List.length_cons, List.length_nil, Nat.reduceAdd, Nat.reduceSub, Nat.sub_self, List.replicate_zero, List.replicate_succ, List.append_nil, List.cons_append, List.nil_append, List.getElem?_cons_zero, List.getElem?_cons_succ, List.set_cons_zero, List.set_cons_succ, Option.some.injEq, exists_eq_left, exists_eq_left', exists_and_left, V.bl.injEq, V.int.injEq, V.str.injEq, V.ref.injEq, beq_self_eq_true, Bool.true_or, Bool.or_true, Bool.false_or, Bool.or_false, Bool.and_false, Bool.false_and, Bool.true_and, Bool.and_true, Bool.not_true, Bool.not_false, Bool.false_eq_true, if_true, if_false, ite_true, ite_false, true_and, and_true, and_assoc, String.reduceBEq, String.reduceEq, reduceIte, Bool.and_self, reduceCtorEq, false_and, and_false, exists_false, or_false, false_or, exists_const, iEnumS, iStr, iList, iTup, iRng1, iEnum, tFor_eq, tLc_eq, List.cons.injEq, wipe, not_true_eq_false, not_false_eq_true, upd_same, HO.ins.injEq, HO.tup.injEq, HO.lst.injEq, ofS_eq, lk_nil, lk_cons, pu_nil, pu_cons, sizeLine_eq, Nat.reduceLT, Nat.reduceLeDiff, Nat.reduceEqDiff, Nat.le_refl, decide_true, decide_false, tPr, dget_us, dput_us, vv_nil, vv_cons, RS.pk_nil, pk_one, RS.pk_cons, inr_eq, tDisp, tPairs, tBoolOwn, rBoolOwn, tBM, rAppend, ty_list, ty_str, rEqOwn, iEnumT, RS.tCallS, tM1, tDc_eq, tLock, tLockE, iKeys, tListEnum, rUpdate, tMkX0, tMkX1, tXfv, gSub, rSetL, List.getD_cons_zero, List.getD_cons_succ, tBreak, tCMethS, ClX.tCVal, tXfa, tIxOwn, tInOwn, tPropG, tMethK, tMethP, tListGen, tDGet2, tDPop2, rNeD0, intA_i, intA_b, tRevL, sFldAug, tPm0, tPm1, tDIn, tDNotIn, tDNewK, RS.tMethS, tForK, tKM, tKC, tLcK, tKM2, tKC2, tMethStar, tKCK2, tLk, tAug, ipI, tDig, tLcX, tKMX, tKCX]
    refine .inl ⟨⟨xs, SqL.of h⟩, ?_⟩
    refine reb_items hs hok.2 hok.1 (by simp only [PyData.depth] at hn; omega) (fun i G lt sm => ⟨_, xs[i], SqL.of (sm _ _ h), List.getElem?_eq_getElem lt⟩) (fun G sm => ⟨_, SqL.of (sm _ _ h), Nat.le_refl _⟩) (fun i G x G' lt sm y => ⟨y.1, y.2 _ (SqL.of (sm _ _ h))⟩) (fun L ys fp' G sm nL eL tl nw nd nf => ?_)
    exact q _ (L :: fp') G ⟨sm, .lst eL tl nf, fun c hc => (List.mem_cons.mp hc).elim (fun e => e ▸ nL) (nw c), List.nodup_cons.mpr ⟨nf, nd⟩⟩
  | @tup a xs ds fp h hs =>
    simp only [okB, Bool.and_eq_true, decide_eq_true_eq] at hok
    simp only [tyN_t h, tRet, tRetN, tSeq, C8.tCut, tNext, tAsg, gName, gNil, gCons, gTup, gFld, tIfS, tIf, tAndV, tOrV, tNotV, tAnd, tOr, tNot, tB, tTest, tOp, tUn, tCB, tCons, tNil, tVar, tC, tChain, tDrop, RS.tCallG, RS.tMethG, tMakeG, RS.tCallK, RS.tMakeK, tEqOwn, rI, rI0, rU, add_ii, add_ss, add_rr, mul_ii, mul_si, mul_ri, RS.eq_ii, RS.eq_ss, eq_bb, eq_nn, eq_sn, eq_ns, eq_in, eq_ni, eq_bn, eq_nb, eq_is, eq_si, eq_rr, ne_ii, ne_ss, ne_bb, ne_nn, ne_sn, ne_ns, ne_in, ne_ni, ne_is, ne_si, ne_rr, in_ss, in_r, nin_ss, nin_r, len_s, len_r, RS.ix_s, RS.ix_r, sl_s, sl_r, is_eq, tyN_n, tyN_b, tyN_i, tyN_s, tru_b, tru_i, tru_n, tSl, tPart, tNoPart, tPar, tPar3, tFmtZ, tFmt, tJs, tDGet, sDPut, sFld, tFld, tTup, tLst, tNever, isB,
  L2.start, List.map_cons, List.map_nil, List.length_cons, List.length_nil, Nat.reduceAdd, Nat.reduceSub, Nat.sub_self, List.replicate_zero, List.replicate_succ, List.append_nil, List.cons_append, List.nil_append, List.getElem?_cons_zero, List.getElem?_cons_succ, List.set_cons_zero, List.set_cons_succ, Option.some.injEq, exists_eq_left, exists_eq_left', exists_and_left, V.bl.injEq, V.int.injEq, V.str.injEq, V.ref.injEq, beq_self_eq_true, Bool.true_or, Bool.or_true, Bool.false_or, Bool.or_false, Bool.and_false, Bool.false_and, Bool.true_and, Bool.and_true, Bool.not_true, Bool.not_false, Bool.false_eq_true, if_true, if_false, ite_true, ite_false, true_and, and_true, and_assoc, String.reduceBEq, String.reduceEq, reduceIte, Bool.and_self, reduceCtorEq, false_and, and_false, exists_false, or_false, false_or, exists_const, iEnumS, iStr, iList, iTup, iRng1, iEnum, tFor_eq, tLc_eq, List.cons.injEq, wipe, not_true_eq_false, not_false_eq_true, upd_same, HO.ins.injEq, HO.tup.injEq, HO.lst.injEq, ofS_eq, lk_nil, lk_cons, pu_nil, pu_cons, sizeLine_eq, Nat.reduceLT, Nat.reduceLeDiff, Nat.reduceEqDiff, Nat.le_refl, decide_true, decide_false, tPr, dget_us, dput_us, vv_nil, vv_cons, RS.pk_nil, pk_one, RS.pk_cons, inr_eq, tDisp, tPairs, tBoolOwn, rBoolOwn, tBM, rAppend, ty_list, ty_str, rEqOwn, iEnumT, RS.tCallS, tM1, tDc_eq, tLock, tLockE, iKeys, tListEnum, rUpdate, tMkX0, tMkX1, tXfv, gSub, rSetL, List.getD_cons_zero, List.getD_cons_succ, tBreak, tCMethS, ClX.tCVal, tXfa, tIxOwn, tInOwn, tPropG, tMethK, tMethP, tListGen, tDGet2, tDPop2, rNeD0, intA_i, intA_b, tRevL, sFldAug, tPm0, tPm1, tDIn, tDNotIn, tDNewK, RS.tMethS, tForK, tKM, tKC, tLcK, tKM2, tKC2, tMethStar, tKCK2, tLk, tAug, ipI, tDig, tLcX, tKMX, tKCX]
    refine .inr ⟨⟨xs, SqT.of h⟩, ?_⟩
    refine reb_items hs hok.2 hok.1 (by simp only [PyData.depth] at hn; omega) (fun i G lt sm => ⟨_, xs[i], SqT.of (sm _ _ h), List.getElem?_eq_getElem lt⟩) (fun G sm => ⟨_, SqT.of (sm _ _ h), Nat.le_refl _⟩) (fun i G x G' lt sm y => ⟨y.1, y.2 _ (SqT.of (sm _ _ h))⟩) (fun L ys fp' G sm nL eL tl nw nd nf => ?_)
    exact ⟨L, rfl, ys, .inl ⟨SqL.of eL, fun l hl => q _ fp' _ ⟨sm.trans (same_upd hl), .tup upd_same (tl.same (same_upd hl)), nw, nd⟩⟩⟩
  | @dct a kvs D fp h hs na nd =>
    simp only [okB, Bool.and_eq_true, decide_eq_true_eq] at hok
    simp only [tyN_d h, tRet, tRetN, tSeq, C8.tCut, tNext, tAsg, gName, gNil, gCons, gTup, gFld, tIfS, tIf, tAndV, tOrV, tNotV, tAnd, tOr, tNot, tB, tTest, tOp, tUn, tCB, tCons, tNil, tVar, tC, tChain, tDrop, RS.tCallG, RS.tMethG, tMakeG, RS.tCallK, RS.tMakeK, tEqOwn, rI, rI0, rU, add_ii, add_ss, add_rr, mul_ii, mul_si, mul_ri, RS.eq_ii, RS.eq_ss, eq_bb, eq_nn, eq_sn, eq_ns, eq_in, eq_ni, eq_bn, eq_nb, eq_is, eq_si, eq_rr, ne_ii, ne_ss, ne_bb, ne_nn, ne_sn, ne_ns, ne_in, ne_ni, ne_is, ne_si, ne_rr, in_ss, in_r, nin_ss, nin_r, len_s, len_r, RS.ix_s, RS.ix_r, sl_s, sl_r, is_eq, tyN_n, tyN_b, tyN_i, tyN_s, tru_b, tru_i, tru_n, tSl, tPart, tNoPart, tPar, tPar3, tFmtZ, tFmt, tJs, tDGet, sDPut, sFld, tFld, tTup, tLst, tNever, isB,
  L2.start, List.map_cons, List.map_nil, List.length_cons, List.length_nil, Nat.reduceAdd, Nat.reduceSub, Nat.sub_self, List.replicate_zero, List.replicate_succ, List.append_nil, List.cons_append, List.nil_append, List.getElem?_cons_zero, List.getElem?_cons_succ, List.set_cons_zero, List.set_cons_succ, Option.some.injEq, exists_eq_left, exists_eq_left', exists_and_left, V.bl.injEq, V.int.injEq, V.str.injEq, V.ref.injEq, beq_self_eq_true, Bool.true_or, Bool.or_true, Bool.false_or, Bool.or_false, Bool.and_false, Bool.false_and, Bool.true_and, Bool.and_true, Bool.not_true, Bool.not_false, Bool.false_eq_true, if_true, if_false, ite_true, ite_false, true_and, and_true, and_assoc, String.reduceBEq, String.reduceEq, reduceIte, Bool.and_self, reduceCtorEq, false_and, and_false, exists_false, or_false, false_or, exists_const, iEnumS, iStr, iList, iTup, iRng1, iEnum, tFor_eq, tLc_eq, List.cons.injEq, wipe, not_true_eq_false, not_false_eq_true, upd_same, HO.ins.injEq, HO.tup.injEq, HO.lst.injEq, ofS_eq, lk_nil, lk_cons, pu_nil, pu_cons, sizeLine_eq, Nat.reduceLT, Nat.reduceLeDiff, Nat.reduceEqDiff, Nat.le_refl, decide_true, decide_false, tPr, dget_us, dput_us, vv_nil, vv_cons, RS.pk_nil, pk_one, RS.pk_cons, inr_eq, tDisp, tPairs, tBoolOwn, rBoolOwn, tBM, rAppend, ty_list, ty_str, rEqOwn, iEnumT, RS.tCallS, tM1, tDc_eq, tLock, tLockE, iKeys, tListEnum, rUpdate, tMkX0, tMkX1, tXfv, gSub, rSetL, List.getD_cons_zero, List.getD_cons_succ, tBreak, tCMethS, ClX.tCVal, tXfa, tIxOwn, tInOwn, tPropG, tMethK, tMethP, tListGen, tDGet2, tDPop2, rNeD0, intA_i, intA_b, tRevL, sFldAug, tPm0, tPm1, tDIn, tDNotIn, tDNewK, RS.tMethS, tForK, tKM, tKC, tLcK, tKM2, tKC2, tMethStar, tKCK2, tLk, tAug, ipI, tDig, tLcX, tKMX, tKCX]
    refine ⟨a, _, h, True.intro, fun od => ⟨od, .inl ⟨kvs, upd_same, ?_⟩⟩⟩
    have hlk : ∀ c o, c ≠ a → H c = some o → upd H a (.frz od (.dK kvs)) c = some o := fun c o n z => by rw [upd_ne n]; exact z
    have hs1 : TrD (upd H a (.frz od (.dK kvs))) kvs D fp := hs.but (p := a) (fun xs z => by rw [h] at z; cases z) hlk na
    have ea : upd H a (.frz od (.dK kvs)) a = some (.frz od (.dK kvs)) := upd_same
    have hu : ∀ G, Same (upd H a (.frz od (.dK kvs))) G → Same H (upd G a (.dK kvs)) := fun G sm => unlock h sm
    have hn1 : ∀ b, upd H a (.frz od (.dK kvs)) b = none → b ≠ a ∧ H b = none := fun b z => fresh_lock z
    generalize upd H a (.frz od (.dK kvs)) = H1 at hs1 ea hu hn1 ⊢
    have ln := hs.len
    refine dc_invA kvs.length (fun L i acc G => Same H1 G ∧ acc.map (·.1) = (kvs.map (·.1)).take i ∧ ∃ fa, TrD G acc (D.take i) fa ∧ (∀ c ∈ fa, H1 c = none ∧ c ≠ L) ∧ fa.Nodup) (fun L hL => ⟨same_upd hL, rfl, [], .nil, by simp, .nil⟩) (fun L i acc G hL lt P => ⟨P.1 _ _ ea, lt⟩) (fun L acc G hL P => ⟨P.1 _ _ ea, Nat.le_refl _⟩) (fun L i acc G x G' K hL lt P eL y k => ?_) (fun L acc G hL P eL => ?_)
    · obtain ⟨sm, ek, fa, ta, nfa, ndf⟩ := P
      obtain ⟨rfl, k0, v0, hk, rfl⟩ := y
      obtain ⟨x, v, d, f', e1, e2, t, _⟩ := hs1.get lt
      rw [hk] at e1
      cases e1
      refine ⟨rfl, ?_⟩
      simp only [kV, tRet, tRetN, tSeq, C8.tCut, tNext, tAsg, gName, gNil, gCons, gTup, gFld, tIfS, tIf, tAndV, tOrV, tNotV, tAnd, tOr, tNot, tB, tTest, tOp, tUn, tCB, tCons, tNil, tVar, tC, tChain, tDrop, RS.tCallG, RS.tMethG, tMakeG, RS.tCallK, RS.tMakeK, tEqOwn, rI, rI0, rU, add_ii, add_ss, add_rr, mul_ii, mul_si, mul_ri, RS.eq_ii, RS.eq_ss, eq_bb, eq_nn, eq_sn, eq_ns, eq_in, eq_ni, eq_bn, eq_nb, eq_is, eq_si, eq_rr, ne_ii, ne_ss, ne_bb, ne_nn, ne_sn, ne_ns, ne_in, ne_ni, ne_is, ne_si, ne_rr, in_ss, in_r, nin_ss, nin_r, len_s, len_r, RS.ix_s, RS.ix_r, sl_s, sl_r, is_eq, tyN_n, tyN_b, tyN_i, tyN_s, tru_b, tru_i, tru_n, tSl, tPart, tNoPart, tPar, tPar3, tFmtZ, tFmt, tJs, tDGet, sDPut, sFld, tFld, tTup, tLst, tNever, isB,
  L2.start, List.map_cons, List.map_nil, List.length_cons, List.length_nil, Nat.reduceAdd, Nat.reduceSub, Nat.sub_self, List.replicate_zero, List.replicate_succ, List.append_nil, List.cons_append, List.nil_append, List.getElem?_cons_zero, List.getElem?_cons_succ, List.set_cons_zero, List.set_cons_succ, Option.some.injEq, exists_eq_left, exists_eq_left', exists_and_left, V.bl.injEq, V.int.injEq, V.str.injEq, V.ref.injEq, beq_self_eq_true, Bool.true_or, Bool.or_true, Bool.false_or, Bool.or_false, Bool.and_false, Bool.false_and, Bool.true_and, Bool.and_true, Bool.not_true, Bool.not_false, Bool.false_eq_true, if_true, if_false, ite_true, ite_false, true_and, and_true, and_assoc, String.reduceBEq, String.reduceEq, reduceIte, Bool.and_self, reduceCtorEq, false_and, and_false, exists_false, or_false, false_or, exists_const, iEnumS, iStr, iList, iTup, iRng1, iEnum, tFor_eq, tLc_eq, List.cons.injEq, wipe, not_true_eq_false, not_false_eq_true, upd_same, HO.ins.injEq, HO.tup.injEq, HO.lst.injEq, ofS_eq, lk_nil, lk_cons, pu_nil, pu_cons, sizeLine_eq, Nat.reduceLT, Nat.reduceLeDiff, Nat.reduceEqDiff, Nat.le_refl, decide_true, decide_false, tPr, dget_us, dput_us, vv_nil, vv_cons, RS.pk_nil, pk_one, RS.pk_cons, inr_eq, tDisp, tPairs, tBoolOwn, rBoolOwn, tBM, rAppend, ty_list, ty_str, rEqOwn, iEnumT, RS.tCallS, tM1, tDc_eq, tLock, tLockE, iKeys, tListEnum, rUpdate, tMkX0, tMkX1, tXfv, gSub, rSetL, List.getD_cons_zero, List.getD_cons_succ, tBreak, tCMethS, ClX.tCVal, tXfa, tIxOwn, tInOwn, tPropG, tMethK, tMethP, tListGen, tDGet2, tDPop2, rNeD0, intA_i, intA_b, tRevL, sFldAug, tPm0, tPm1, tDIn, tDNotIn, tDNewK, RS.tMethS, tForK, tKM, tKC, tLcK, tKM2, tKC2, tMethStar, tKCK2, tLk, tAug, ipI, tDig, tLcX, tKMX, tKCX]
      have b1 := depth_kv e2
      refine ⟨v0, .inl ⟨kvs, .inr x, .inr ⟨od, sm _ _ ea⟩, rfl, (valV_at nd hk).symm⟩, _, rfl, d, f', t.same sm, (okKv_get hok.2 e2).2, by simp only [PyData.depth] at hn; omega, fun v' fp' G2 C => ?_⟩
      have eL2 := C.sm _ _ eL
      have nL : ∀ ys, G2 L ≠ some (.tup ys) := fun ys z => by rw [eL2] at z; cases z
      have fL : L ∉ fp' := fun z => by rw [C.nw L z] at eL; cases eL
      have la : acc.length = i := by have := congrArg List.length ek; simp at this; omega
      have kn : (.inr x : Key) ∉ acc.map (·.1) := fun z => by
        rw [ek] at z
        obtain ⟨j, hj, ej⟩ := List.getElem_of_mem z
        simp at hj
        have h1 : (kvs.map (·.1))[j]? = some (.inr x) := by
          simp only [List.getElem_take] at ej
          rw [List.getElem?_eq_getElem (by simp; omega), ej]
        have h2 : (kvs.map (·.1))[i]? = some (.inr x) := by rw [List.getElem?_map, hk]; rfl
        have hj' : j < (kvs.map (·.1)).length := by simp; omega
        have hi' : i < (kvs.map (·.1)).length := by simpa using lt
        have := (List.pairwise_iff_getElem.mp nd) j i hj' hi' (by omega)
        rw [List.getElem?_eq_getElem hj'] at h1
        rw [List.getElem?_eq_getElem hi'] at h2
        exact this ((Option.some.inj h1).trans (Option.some.inj h2).symm)
      have ep := putK_new (v := v') kn
      have kL : ∀ c o, c ≠ L → G2 c = some o → upd G2 L (.dK (acc ++ [(.inr x, v')])) c = some o := fun c o n z => by rw [upd_ne n]; exact z
      refine k (.inr x) v' G2 eL2 (by rw [sizeLine_eq]; omega) ?_
      rw [ep]
      refine ⟨fun b o z => ?_, ?_, fa ++ fp', ?_, fun c hc => ?_, ?_⟩
      · have bL : b ≠ L := fun e => by rw [e, hL] at z; cases z
        rw [upd_ne bL]; exact C.sm _ _ (sm _ _ z)
      · rw [List.map_append, ek, List.take_add_one]
        simp [hk]
      · have e3 : D.take (i + 1) = D.take i ++ [(.str x, d)] := by rw [List.take_add_one]; simp [e2]
        rw [e3]
        exact TrD.snoc (C.tr.but nL kL fL) ((ta.same C.sm).but nL kL fun z => (nfa L z).2 rfl)
      · rcases List.mem_append.mp hc with h | h
        · exact nfa c h
        · refine ⟨?_, fun e => fL (e ▸ h)⟩
          cases e : H1 c with
          | none => rfl
          | some o => have := sm _ _ e; rw [C.nw c h] at this; cases this
      · refine List.nodup_append.mpr ⟨ndf, C.nd, fun a' ha b hb e => ?_⟩
        subst e
        have h2 := C.nw a' hb
        rcases ta.there a' ha with ⟨ys, z⟩ | ⟨ys, z⟩ <;> (rw [h2] at z; cases z)
    · obtain ⟨sm, ek, fa, ta, nfa, ndf⟩ := P
      rw [List.take_of_length_le (by omega)] at ta
      rw [List.take_of_length_le (by simp)] at ek
      have eaG := sm _ _ ea
      have La := hn1 L hL
      have af : a ∉ fa := fun z => by have := (nfa a z).1; rw [ea] at this; cases this
      have ka : ∀ c o, c ≠ a → G c = some o → upd G a (.dK kvs) c = some o := fun c o n z => by rw [upd_ne n]; exact z
      refine ⟨eaG, q _ (L :: fa) _ ⟨hu G sm, .dct (by rw [upd_ne La.1]; exact eL) (ta.but (fun ys z => by rw [eaG] at z; cases z) ka af) (fun z => (nfa L z).2 rfl) (by rw [ek]; exact nd), fun c hc => ?_, List.nodup_cons.mpr ⟨fun z => (nfa L z).2 rfl, ndf⟩⟩⟩
      rcases List.mem_cons.mp hc with e | e
      · rw [e]; exact La.2
      · exact (hn1 c (nfa c e).1).2
  | _ =>
    walk_at "sx"
    exact q _ [] _ ⟨Same.refl _, by constructor, by simp, .nil⟩
theorem sc_check_value : FnScope ["value", "path"] ["value"] (defScope s_check_value) := ⟨rfl, rfl, rfl, by decide +kernel, rfl, by decide +kernel, by decide +kernel⟩
def sp_check : Sp := S1 fun v H Q _ => ∃ d fp, Tr H v d fp ∧ okB d = true ∧ d.depth < 8 ∧ ∀ H', Same H H' → Q .non H'
theorem ok_check (F : Df g.K "check_value" "check_value" s_check_value f fd .none) (T : Txt g) (F_wrong_path : Kn g "wrong_path" 9 ["value", "path"] [] (sp_path 8)) : FnG g 10 f fd ["value"] sp_check := by
  refine F.ok sc_check_value (fun vs H Q E h => S1.len h) (fun cdv A outer s H vs Q E hr h => ?_)
  obtain ⟨v, rfl, d, fp, hv, hok, hn, q⟩ := h
  refine ⟨_, (pss_cons (ps_set (i := 1) sc_check_value.nd rfl (Or.inl rfl) (pe_callG F_wrong_path (hr.mono (by first | decide | omega)) tkD (pa_cons (pv 0) (pa_cons (pe_tup pa_nil) pa_nil))))
      (pss_one (ps_if (pt_cmpR op_notN (pv 1) pe_non (nomark _)) (pss_one ps_never) pss_nil))), ?_⟩
  walk_at "sx"
  intro p hp
  have sp := same_upd (o := HO.tup []) hp
  refine ⟨_, _, rfl, d, fp, p, [], hv.same sp, hok, rfl, upd_same, by simp; omega, hn, fun H' s' => ?_⟩
  walk_at "sx"
  exact q _ (sp.trans s')
theorem sc_copied : FnScope ["value"] ["value"] (defScope s_copied) := ⟨rfl, rfl, rfl, by decide +kernel, rfl, by decide +kernel, by decide +kernel⟩
def sp_copied : Sp := S1 fun v H Q _ => ∃ d fp, Tr H v d fp ∧ okB d = true ∧ d.depth < 8 ∧ ∀ v' fp' H', Cpy H H' d v' fp' → Q v' H'
theorem ok_copied (F : Df g.K "copied" "copied" s_copied f fd .none) (T : Txt g) (F_check_value : Kn g "check_value" 10 ["value"] [] sp_check) (F_rebuilt : Kn g "rebuilt" 9 ["value"] [] (sp_reb 8)) : FnG g 11 f fd ["value"] sp_copied := by
  refine F.ok sc_copied (fun vs H Q E h => S1.len h) (fun cdv A outer s H vs Q E hr h => ?_)
  obtain ⟨v, rfl, d, fp, hv, hok, hn, q⟩ := h
  refine ⟨_, (pss_cons (ps_expr (pe_callG F_check_value (hr.mono (by first | decide | omega)) tkD (pa_cons (pv 0) pa_nil)))
      (pss_one (ps_ret (pe_callG F_rebuilt (hr.mono (by first | decide | omega)) tkD (pa_cons (pv 0) pa_nil))))), ?_⟩
  walk_at "sx"
  refine ⟨_, rfl, d, fp, hv, hok, hn, fun H1 s1 => ?_⟩
  walk_at "sx"
  refine ⟨_, rfl, d, fp, hv.same s1, hok, hn, fun v' fp' H2 C => q v' fp' H2 ⟨s1.trans C.sm, C.tr, fun c hc => ?_, C.nd⟩⟩
  cases e : H c with
  | none => rfl
  | some o => have := s1 _ _ e; rw [C.nw c hc] at this; cases this
theorem sc_is_value : FnScope ["value"] ["value"] (defScope s_is_value) := ⟨rfl, rfl, rfl, by decide +kernel, rfl, by decide +kernel, by decide +kernel⟩
def sp_isv : Sp := S1 fun v H Q _ => ∃ d fp, Tr H v d fp ∧ okB d = true ∧ d.depth < 8 ∧ ∀ H', Same H H' → Q (.bl true) H'
theorem ok_isv (F : Df g.K "is_value" "is_value" s_is_value f fd .none) (T : Txt g) (F_wrong_path : Kn g "wrong_path" 9 ["value", "path"] [] (sp_path 8)) : FnG g 10 f fd ["value"] sp_isv := by
  refine F.ok sc_is_value (fun vs H Q E h => S1.len h) (fun cdv A outer s H vs Q E hr h => ?_)
  obtain ⟨v, rfl, d, fp, hv, hok, hn, q⟩ := h
  refine ⟨_, (pss_one (ps_ret (pe_cmpR op_isN (pe_callG F_wrong_path (hr.mono (by first | decide | omega)) tkD (pa_cons (pv 0) (pa_cons (pe_tup pa_nil) pa_nil))) pe_non (nomark _)))), ?_⟩
  walk_at "sx"
  intro p hp
  have sp := same_upd (o := HO.tup []) hp
  refine ⟨_, _, rfl, d, fp, p, [], hv.same sp, hok, rfl, upd_same, by simp; omega, hn, fun H' s' => ?_⟩
  walk_at "sx"
  exact q _ (sp.trans s')
theorem sc_is_key : FnScope ["value"] ["value"] (defScope s_is_key) := ⟨rfl, rfl, rfl, by decide +kernel, rfl, by decide +kernel, by decide +kernel⟩
def sp_iskey : Sp := S1 fun v H Q _ => ∃ x, v = .str x ∧ x.length ≤ 200 ∧ 1 ≤ x.length ∧ Q (.bl true) H
theorem ok_iskey (F : Df g.K "is_key" "is_key" s_is_key f fd .none) (T : Txt g) : FnG g 1 f fd ["value"] sp_iskey := by
  refine F.ok sc_is_key (fun vs H Q E h => S1.len h) (fun cdv A outer s H vs Q E hr h => ?_)
  obtain ⟨_, rfl, x, rfl, h1, h2, q⟩ := h
  refine ⟨_, (pss_one (ps_ret (pe_and (pe_callB (c_is "str") (by rfl) T.b_isinstance bb_isinstance (pa_cons (pv 0) (pa_cons (pe_bltn (v := .ty "str") rfl T.b_str bb_str rfl) pa_nil))) (pe_one (pe_chain op_le op_le pe_int (pe_callB (c_len (K := g.K)) (by rfl) T.b_len bb_len (pa_cons (pv 0) pa_nil)) (e_g T.c_MOST_KEY)))))), ?_⟩
  walk_at "sx"
  refine ⟨by omega, ?_⟩
  rw [if_pos (by simp; omega)]
  have e : decide (((x.length : Nat) : Int) ≤ 200) = true := by simp; omega
  rw [e]
  exact q
end
/-- a mapping in the heap -/
structure MapAt (H : Hp) (v : V) (D : List (PyData × PyData)) (fp : List Addr) : Prop where
  tr : Tr H v (.dict D) fp
  ok : okB (.dict D) = true
  dep : (PyData.dict D).depth < 7
  key : ∀ p ∈ D, ∃ x : Str, p.1 = .str x ∧ 1 ≤ x.length ∧ x.length ≤ 200
  small : (note (.dict D)).length ≤ 1000000
theorem MapAt.same {H H' : Hp} {v : V} {D : List (PyData × PyData)} {fp : List Addr} (h : MapAt H v D fp) (s : Same H H') : MapAt H' v D fp := ⟨h.tr.same s, h.ok, h.dep, h.key, h.small⟩
theorem paired_len {α β : Type} {F : α → β → Prop} : ∀ {xs : List α} {ys : List β}, Paired F xs ys → xs.length = ys.length
  | _, _, .nil => rfl
  | _, _, .cons h hs => by simp [paired_len hs]
theorem paired_at {α β : Type} {F : α → β → Prop} : ∀ {xs : List α} {ys : List β}, Paired F xs ys → ∀ (i : Nat) (x : α), xs[i]? = some x → ∃ y, F x y
  | _, _, .cons h hs, 0, x, e => by cases e; exact ⟨_, h⟩
  | _, _, .cons h hs, i + 1, x, e => paired_at hs i x (by simpa using e)
  | _, _, .nil, _, _, e => by simp at e
section
variable {g : Wd} {f : Addr} {fd : FuncData} {CI : Addr}
theorem sc_are_alike : FnScope ["one", "other"] ["one", "other"] (defScope s_are_alike) := ⟨rfl, rfl, rfl, by decide +kernel, rfl, by decide +kernel, by decide +kernel⟩
def sp_alike : Sp := S2 fun v u H Q _ => ∃ d fd e fe, Tr H v d fd ∧ Tr H u e fe ∧ okB d = true ∧ okB e = true ∧ d.depth < 8 ∧ e.depth < 8 ∧ (note d).length ≤ 1000000 ∧ (note e).length ≤ 1000000 ∧ ∀ H', Same H H' → Q (.bl (decide (note d = note e))) H'
theorem ok_alike (F : Df g.K "are_alike" "are_alike" s_are_alike f fd .none) (T : Txt g) (F_value_notation : Kn g "value_notation" 9 ["value"] [] (sp_vnote 8)) : FnG g 10 f fd ["one", "other"] sp_alike := by
  refine F.ok sc_are_alike (fun vs H Q E h => S2.len h) (fun cdv A outer s H vs Q E hr h => ?_)
  obtain ⟨_, _, rfl, d, f1, e, f2, h1, h2, o1, o2, d1, d2, l1, l2, q⟩ := h
  refine ⟨_, (pss_one (ps_ret (pe_cmpR (o_eq (K := g.K) hr) (pe_callG F_value_notation (hr.mono (by first | decide | omega)) tkD (pa_cons (pv 0) pa_nil)) (pe_callG F_value_notation (hr.mono (by first | decide | omega)) tkD (pa_cons (pv 1) pa_nil)) (nomark _)))), ?_⟩
  walk_at "sx"
  refine ⟨_, rfl, d, f1, h1, o1, d1, l1, fun H1 s1 => ?_⟩
  refine ⟨_, rfl, e, f2, h2.same s1, o2, d2, l2, fun H2 s2 => ?_⟩
  dsimp only
  rw [RS.eq_ss]
  exact q _ (s1.trans s2)
theorem sc_check_mappings : FnScope ["mappings", "mapping", "key"] ["mappings"] (defScope s_check_mappings) := ⟨rfl, rfl, rfl, by decide +kernel, rfl, by decide +kernel, by decide +kernel⟩
def sp_cmaps : Sp := S1 fun q H Q _ => ∃ a vs Ds, q = .ref a ∧ H a = some (.tup vs) ∧ Paired (fun v D => ∃ fp, MapAt H v D fp) vs Ds ∧ Ds.length ≤ 5 ∧ ∀ H', Same H H' → Q .non H'
theorem ok_cmaps (F : Df g.K "check_mappings" "check_mappings" s_check_mappings f fd .none) (hbS : ∀ us rest : List Value, us.length = ([] : List Str).length → bindArgs fd ⟨us ++ rest, []⟩ = (newTuple rest >>= fun t => pure (([] : List Str).zip us ++ [(("mappings" : Str), t)]))) (T : Txt g) (F_is_key : Kn g "is_key" 1 ["value"] [] sp_iskey) (F_is_value : Kn g "is_value" 10 ["value"] [] sp_isv)
    (X_InvalidMapping : XK1 g "InvalidMapping" CI "given") (RI : PySem.W.subIn g.K (.ref CI) (.type "BaseException") = some true ∧ PySem.W.typeIn g.K (.ref CI) = some (.type "type")) : FnS g 12 f (spS 0 sp_cmaps) := by
  refine F.okS (ps := []) (pv := "mappings") sc_check_mappings hbS (fun cdv A outer s H vs Q E hr h => ?_)
  obtain ⟨_, rfl, a, vs, Ds, rfl, ha, pr, dl, q⟩ := h
  have R_InvalidMapping := raises_own (X := cx g ["mappings", "mapping", "key"] "check_mappings" s_check_mappings f cdv A outer s H E) RI.1 RI.2
  refine ⟨_, (pss_one (ps_for psD rfl (i_tup (K := g.K) (pv 0)) (pg_name (i := 1) sc_check_mappings.nd rfl (.inr rfl)) (pss_one (ps_if (PW.pt (pw_or (pt_not (pt_val (pe_callB (c_is "dict") (by rfl) T.b_isinstance bb_isinstance (pa_cons (pv 1) (pa_cons (pe_bltn (v := .ty "dict") rfl T.b_dict bb_dict rfl) pa_nil))))) (pw_or1 (pt_not (pt_val (pe_callB (c_all (K := g.K)) (by rfl) T.b_all bb_all (pa_cons (pe_lock (pe_lc (own := [("key", 2)]) (tt := tYes) rfl sc_check_mappings.nd (pi_keys (pv 1)) (blkOk_by (own := [("key", 2)]) (N := ["mappings", "mapping", "key"]) (sc := defScope s_check_mappings) (by decide +kernel)) (fun _ _ _ _ _ => (pg_name (i := 2) sc_check_mappings.nd rfl (.inl rfl))) (fun _ _ _ _ _ => pts_nil) (fun _ _ _ _ _ => (pe_and (pe_callG F_is_key (Rm.mono (Rm.mk hr.room hr.gd) (by first | decide | omega)) L2.takes0 (pa_cons (pv 2) pa_nil)) (pe_one (pe_callG F_is_value (Rm.mono (Rm.mk hr.room hr.gd) (by first | decide | omega)) L2.takes0 (pa_cons (pe_dget (hu_of (Rm.mk hr.room hr.gd).room) (pv 1) (pv 2) (fun _ _ => rfl)) pa_nil))))))) pa_nil))))))) (pss_one (ps_raise rfl tkD (pmk_x1 X_InvalidMapping R_InvalidMapping (hr.mono (by first | decide | omega)) (pa_cons (pv 1) pa_nil)))) pss_nil)))), ?_⟩
  walk_at "sx"
  have ln : vs.length = Ds.length := paired_len pr
  refine ⟨⟨_, SqT.of ha⟩, ?_⟩
  refine for_by vs.length (fun i σ X => (∃ v1, σ = [some (.ref a), v1, none]) ∧ Same H X) ⟨⟨_, rfl⟩, Same.refl _⟩ (fun i σ X lt P => ⟨_, vs[i], SqT.of (P.2 _ _ ha), by simp [lt]⟩) (fun σ X P => ⟨_, SqT.of (P.2 _ _ ha), Nat.le_refl _⟩) (fun i σ X z X' lt P yl => ?_) (fun σ X P => q _ P.2)
  obtain ⟨⟨v1, rfl⟩, sX⟩ := P
  obtain ⟨rfl, hx⟩ := yl
  have hx := hx _ (SqT.of (sX _ _ ha))
  obtain ⟨D, fp, hm⟩ := paired_at pr i z hx
  have hm := hm.same sX
  obtain ⟨tr, ok, dep, key, small⟩ := hm
  cases tr with
  | @dct b kvs _ fp h hs na nd =>
    simp only [okB, Bool.and_eq_true, decide_eq_true_eq] at ok
    have hl : kvs.length ≤ 10000 := by rw [hs.len]; exact ok.1
    have hd : PyData.depthKv D < 7 := by simp only [PyData.depth] at dep; omega
    walk_at "sx"
    refine ⟨_, tyN_d h, ?_⟩
    rw [if_neg (by decide)]
    refine ⟨b, _, h, True.intro, fun od => ⟨od, .inl ⟨kvs, upd_same, ?_⟩⟩⟩
    have hs1 : TrD (upd X' b (.frz od (.dK kvs))) kvs D fp := hs.but (p := b) (fun xs z => by rw [h] at z; cases z) (fun c o n z => by rw [upd_ne n]; exact z) na
    refine lc_all kvs.length (fun _ => .bl true) (by rw [sizeLine_eq]; omega) (fun i G' lt s => ⟨s _ _ upd_same, lt⟩) (fun G' s => ⟨s _ _ upd_same, Nat.le_refl _⟩) (fun i G' x G'' K lt s yl k => ?_) (fun L G' hL s eL => ?_)
    · obtain ⟨rfl, k0, v0, hk, rfl⟩ := yl
      obtain ⟨x, v, d, f', e1, e2, t, _⟩ := hs1.get lt
      rw [hk] at e1
      cases e1
      obtain ⟨x', ex, k1, k2⟩ := key _ (List.mem_of_getElem? e2)
      cases ex
      have b1 := depth_kv e2
      refine ⟨rfl, ?_⟩
      simp only [kV, tRet, tRetN, tSeq, C8.tCut, tNext, tAsg, gName, gNil, gCons, gTup, gFld, tIfS, tIf, tAndV, tOrV, tNotV, tAnd, tOr, tNot, tB, tTest, tOp, tUn, tCB, tCons, tNil, tVar, tC, tChain, tDrop, RS.tCallG, RS.tMethG, tMakeG, RS.tCallK, RS.tMakeK, tEqOwn, rI, rI0, rU, add_ii, add_ss, add_rr, mul_ii, mul_si, mul_ri, RS.eq_ii, RS.eq_ss, eq_bb, eq_nn, eq_sn, eq_ns, eq_in, eq_ni, eq_bn, eq_nb, eq_is, eq_si, eq_rr, ne_ii, ne_ss, ne_bb, ne_nn, ne_sn, ne_ns, ne_in, ne_ni, ne_is, ne_si, ne_rr, in_ss, in_r, nin_ss, nin_r, len_s, len_r, RS.ix_s, RS.ix_r, sl_s, sl_r, is_eq, tyN_n, tyN_b, tyN_i, tyN_s, tru_b, tru_i, tru_n, tSl, tPart, tNoPart, tPar, tPar3, tFmtZ, tFmt, tJs, tDGet, sDPut, sFld, tFld, tTup, tLst, tNever, isB,
  L2.start, List.map_cons, List.map_nil, List.length_cons, List.length_nil, Nat.reduceAdd, Nat.reduceSub, Nat.sub_self, List.replicate_zero, List.replicate_succ, List.append_nil, List.cons_append, List.nil_append, List.getElem?_cons_zero, List.getElem?_cons_succ, List.set_cons_zero, List.set_cons_succ, Option.some.injEq, exists_eq_left, exists_eq_left', exists_and_left, V.bl.injEq, V.int.injEq, V.str.injEq, V.ref.injEq, beq_self_eq_true, Bool.true_or, Bool.or_true, Bool.false_or, Bool.or_false, Bool.and_false, Bool.false_and, Bool.true_and, Bool.and_true, Bool.not_true, Bool.not_false, Bool.false_eq_true, if_true, if_false, ite_true, ite_false, true_and, and_true, and_assoc, String.reduceBEq, String.reduceEq, reduceIte, Bool.and_self, reduceCtorEq, false_and, and_false, exists_false, or_false, false_or, exists_const, iEnumS, iStr, iList, iTup, iRng1, iEnum, tFor_eq, tLc_eq, List.cons.injEq, wipe, not_true_eq_false, not_false_eq_true, upd_same, HO.ins.injEq, HO.tup.injEq, HO.lst.injEq, ofS_eq, lk_nil, lk_cons, pu_nil, pu_cons, sizeLine_eq, Nat.reduceLT, Nat.reduceLeDiff, Nat.reduceEqDiff, Nat.le_refl, decide_true, decide_false, tPr, dget_us, dput_us, vv_nil, vv_cons, RS.pk_nil, pk_one, RS.pk_cons, inr_eq, tDisp, tPairs, tBoolOwn, rBoolOwn, tBM, rAppend, ty_list, ty_str, rEqOwn, iEnumT, RS.tCallS, tM1, tDc_eq, tLock, tLockE, iKeys, tListEnum, rUpdate, tMkX0, tMkX1, tXfv, gSub, rSetL, List.getD_cons_zero, List.getD_cons_succ, tBreak, tCMethS, ClX.tCVal, tXfa, tIxOwn, tInOwn, tPropG, tMethK, tMethP, tListGen, tDGet2, tDPop2, rNeD0, intA_i, intA_b, tRevL, sFldAug, tPm0, tPm1, tDIn, tDNotIn, tDNewK, RS.tMethS, tForK, tKM, tKC, tLcK, tKM2, tKC2, tMethStar, tKCK2, tLk, tAug, ipI, tDig, tLcX, tKMX, tKCX]
      refine ⟨_, rfl, x, rfl, k2, k1, _, rfl, ?_⟩
      rw [if_pos rfl]
      refine ⟨v0, .inl ⟨kvs, .inr x, .inr ⟨od, s _ _ upd_same⟩, rfl, (valV_at nd hk).symm⟩, _, rfl, d, f', t.same s, (okKv_get ok.2 e2).2, by omega, fun H' s' => k _ s'⟩
    · refine ⟨s _ _ upd_same, L, List.replicate kvs.length true, rfl, SqL.of ?_, ?_⟩
      · rw [upd_ne (fresh_lock hL).1, eL]
        congr 2
        rw [List.map_replicate]
        exact List.ext_getElem (by simp) (by simp)
      · have e : (List.replicate kvs.length true).all id = true := by simp [List.all_eq_true]
        rw [e]
        refine ⟨_, rfl, ?_⟩
        rw [if_neg (by simp)]
        exact ⟨⟨_, rfl⟩, sX.trans (unlock h s)⟩
end
/-- the value at a key -/
def look (D : List (PyData × PyData)) (x : Str) : Option PyData := match D with
  | [] => none
  | (.str y, d) :: r => if x = y then some d else look r x
  | _ :: r => look r x
def hasC (b o : List (PyData × PyData)) (x : Str) : Bool := match look b x, look o x with
  | some d, some e => decide (note d ≠ note e)
  | none, none => false
  | _, _ => true
def oneC (b o : List (PyData × PyData)) (x : Str) : Bool := match look b x, look o x with
  | some d, some e => decide (note d = note e)
  | none, none => true
  | _, _ => false
theorem look_cons (y : Str) (d : PyData) (D : List (PyData × PyData)) (x : Str) : look ((.str y, d) :: D) x = if x = y then some d else look D x := rfl
theorem trD_look {H : Hp} : ∀ {kvs : List (Key × V)} {D : List (PyData × PyData)} {fp : List Addr}, TrD H kvs D fp → ∀ x : Str, (∃ v d f', look D x = some d ∧ valV kvs (.inr x) = some v ∧ Tr H v d f' ∧ ∃ i : Nat, D[i]? = some (.str x, d)) ∨ (look D x = none ∧ valV kvs (.inr x) = none)
  | _, _, _, .nil, x => .inr ⟨rfl, rfl⟩
  | _, _, _, .cons (x := y) h hs, x => by
    by_cases e : x = y
    · subst e
      exact .inl ⟨_, _, _, by rw [look_cons, if_pos rfl], by rw [vv_cons, if_pos rfl], h, 0, rfl⟩
    · have e2 : ¬ (.inr x : Key) = .inr y := fun z => e (Sum.inr.inj z)
      have e3 : ¬ (.inr y : Key) = .inr x := fun z => e (Sum.inr.inj z).symm
      rcases trD_look hs x with ⟨v, d, f', h1, h2, h3, i, h4⟩ | ⟨h1, h2⟩
      · refine .inl ⟨v, d, f', by rw [look_cons, if_neg e]; exact h1, by rw [vv_cons]; simp only [e2, e3, if_false]; exact h2, h3, i + 1, by simpa using h4⟩
      · exact .inr ⟨by rw [look_cons, if_neg e]; exact h1, by rw [vv_cons]; simp only [e2, e3, if_false]; exact h2⟩
theorem dget_x {H : Hp} {a : Addr} {kvs : List (Key × V)} {x : Str} (h : Rd H a (.dK kvs)) : DGet H a (.str x) (valV kvs (.inr x)) := .inl ⟨kvs, .inr x, h, rfl, rfl⟩
/-- a mapping in the heap, locked or not -/
structure MapR (H : Hp) (v : V) (D : List (PyData × PyData)) (fp : List Addr) : Prop where
  ex : ∃ a kvs, v = .ref a ∧ Rd H a (.dK kvs) ∧ TrD H kvs D fp ∧ (kvs.map (·.1)).Nodup
  ok : okB (.dict D) = true
  dep : (PyData.dict D).depth < 7
  key : ∀ p ∈ D, ∃ x : Str, p.1 = .str x ∧ 1 ≤ x.length ∧ x.length ≤ 200
  small : (note (.dict D)).length ≤ 1000000
theorem MapAt.toR {H : Hp} {v : V} {D : List (PyData × PyData)} {fp : List Addr} (h : MapAt H v D fp) : ∃ fp', MapR H v D fp' := by
  obtain ⟨tr, ok, dep, key, small⟩ := h
  cases tr with
  | @dct b kvs _ fp h hs na nd => exact ⟨fp, ⟨b, kvs, rfl, .inl h, hs, nd⟩, ok, dep, key, small⟩
theorem MapR.same {H H' : Hp} {v : V} {D : List (PyData × PyData)} {fp : List Addr} (h : MapR H v D fp) (s : Same H H') : MapR H' v D fp := by
  obtain ⟨⟨a, kvs, e, r, t, nd⟩, ok, dep, key, small⟩ := h
  exact ⟨⟨a, kvs, e, r.imp (s _ _) fun ⟨od, z⟩ => ⟨od, s _ _ z⟩, t.same s, nd⟩, ok, dep, key, small⟩
theorem note_kv {D : List (PyData × PyData)} {i : Nat} {x : Str} {d : PyData} (h : D[i]? = some (.str x, d)) : (note d).length ≤ (note (.dict D)).length := by
  have b2 : (note (.str x) ++ ": " ++ note d).length ≤ (Str.join ", " (noteKv D)).length := len_mem (by rw [noteKv_map]; exact List.mem_map_of_mem (f := fun p : PyData × PyData => note p.1 ++ ": " ++ note p.2) (List.mem_of_getElem? h))
  simp only [Str.length_append] at b2
  simp only [note, Str.length_append]
  omega
section
variable {g : Wd} {f : Addr} {fd : FuncData}
theorem sc_has_changed : FnScope ["base", "one", "key"] ["base", "one", "key"] (defScope s_has_changed) := ⟨rfl, rfl, rfl, by decide +kernel, rfl, by decide +kernel, by decide +kernel⟩
def sp_hasc : Sp := S3 fun b o k H Q _ => ∃ B O fb fo x, MapR H b B fb ∧ MapR H o O fo ∧ k = .str x ∧ ∀ H', Same H H' → Q (.bl (hasC B O x)) H'
theorem ok_hasc (F : Df g.K "has_changed" "has_changed" s_has_changed f fd .none) (T : Txt g) (F_are_alike : Kn g "are_alike" 10 ["one", "other"] [] sp_alike) : FnG g 11 f fd ["base", "one", "key"] sp_hasc := by
  refine F.ok sc_has_changed (fun vs H Q E h => S3.len h) (fun cdv A outer s H vs Q E hr h => ?_)
  obtain ⟨_, _, _, rfl, B, O, fb, fo, x, hB, hO, rfl, q⟩ := h
  refine ⟨_, (pss_cons (ps_if (PW.pt (pw_and (pt_cmp (pc_din (hu_of hr.room) (pv 2) (pv 0)) (by rfl)) (pw_and1 (pt_cmp (pc_din (hu_of hr.room) (pv 2) (pv 1)) (by rfl))))) (pss_one (ps_ret (pe_not (pe_callG F_are_alike (hr.mono (by first | decide | omega)) tkD (pa_cons (pe_dget (hu_of hr.room) (pv 0) (pv 2) (fun _ _ => rfl)) (pa_cons (pe_dget (hu_of hr.room) (pv 1) (pv 2) (fun _ _ => rfl)) pa_nil)))))) pss_nil)
      (pss_one (ps_ret (pe_or (pe_cmp (pc_din (hu_of hr.room) (pv 2) (pv 0)) (by rfl)) (pe_one (pe_cmp (pc_din (hu_of hr.room) (pv 2) (pv 1)) (by rfl))))))), ?_⟩
  have ⟨⟨b, kvs, eb, h, hs, nd⟩, kb, db, yb, sb⟩ := hB
  have ⟨⟨o, kvs2, eo, h2, hs2, nd2⟩, ko, do_, yo, so⟩ := hO
  subst eb eo
  · · 
      walk_at "sx"
      have dB : PyData.depthKv B < 6 := by simp only [PyData.depth] at db; omega
      have dO : PyData.depthKv O < 6 := by simp only [PyData.depth] at do_; omega
      simp only [okB, Bool.and_eq_true, decide_eq_true_eq] at kb ko
      have q0 := q H (Same.refl _)
      unfold hasC at q0 q
      rcases trD_look hs x with ⟨v1, d1, f1, l1, w1, t1, i1, g1⟩ | ⟨l1, w1⟩
      · rcases trD_look hs2 x with ⟨v2, d2, f2, l2, w2, t2, i2, g2⟩ | ⟨l2, w2⟩
        · rw [l1, l2] at q
          refine ⟨_, dget_x h, ?_⟩
          rw [w1, if_pos (by simp)]
          refine ⟨_, dget_x h2, ?_⟩
          rw [w2, if_pos (by simp)]
          have b1 := depth_kv g1
          have b2 := depth_kv g2
          have n1 := note_kv g1
          have n2 := note_kv g2
          refine ⟨v1, by rw [← w1]; exact dget_x h, v2, by rw [← w2]; exact dget_x h2, _, _, rfl, d1, f1, d2, f2, t1, t2, (okKv_get kb.2 g1).2, (okKv_get ko.2 g2).2, by omega, by omega, by omega, by omega, fun H' s => ⟨_, rfl, ?_⟩⟩
          have := q H' s
          simpa using this
        · rw [l1, l2] at q0
          refine ⟨_, dget_x h, ?_⟩
          rw [w1, if_pos (by simp)]
          refine ⟨_, dget_x h2, ?_⟩
          rw [w2, if_neg (by simp)]
          refine ⟨_, dget_x h, ?_⟩
          rw [w1, if_pos (by simp)]
          exact q0
      · refine ⟨_, dget_x h, ?_⟩
        rw [w1, if_neg (by simp)]
        refine ⟨_, dget_x h, ?_⟩
        rw [w1, if_neg (by simp)]
        refine ⟨_, dget_x h2, ?_⟩
        rcases trD_look hs2 x with ⟨v2, d2, f2, l2, w2, t2, i2, g2⟩ | ⟨l2, w2⟩
        · rw [l1, l2] at q0
          rw [w2]; exact q0
        · rw [l1, l2] at q0
          rw [w2]; exact q0
theorem sc_are_one_change : FnScope ["one", "other", "key"] ["one", "other", "key"] (defScope s_are_one_change) := ⟨rfl, rfl, rfl, by decide +kernel, rfl, by decide +kernel, by decide +kernel⟩
def sp_onec : Sp := S3 fun b o k H Q _ => ∃ B O fb fo x, MapR H b B fb ∧ MapR H o O fo ∧ k = .str x ∧ ∀ H', Same H H' → Q (.bl (oneC B O x)) H'
theorem ok_onec (F : Df g.K "are_one_change" "are_one_change" s_are_one_change f fd .none) (T : Txt g) (F_are_alike : Kn g "are_alike" 10 ["one", "other"] [] sp_alike) : FnG g 11 f fd ["one", "other", "key"] sp_onec := by
  refine F.ok sc_are_one_change (fun vs H Q E h => S3.len h) (fun cdv A outer s H vs Q E hr h => ?_)
  obtain ⟨_, _, _, rfl, B, O, fb, fo, x, hB, hO, rfl, q⟩ := h
  refine ⟨_, (pss_cons (ps_if (PW.pt (pw_and (pt_cmp (pc_din (hu_of hr.room) (pv 2) (pv 0)) (by rfl)) (pw_and1 (pt_cmp (pc_din (hu_of hr.room) (pv 2) (pv 1)) (by rfl))))) (pss_one (ps_ret (pe_callG F_are_alike (hr.mono (by first | decide | omega)) tkD (pa_cons (pe_dget (hu_of hr.room) (pv 0) (pv 2) (fun _ _ => rfl)) (pa_cons (pe_dget (hu_of hr.room) (pv 1) (pv 2) (fun _ _ => rfl)) pa_nil))))) pss_nil)
      (pss_one (ps_ret (pe_and (pe_cmp (pc_dnotin (hu_of hr.room) (pv 2) (pv 0)) (by rfl)) (pe_one (pe_cmp (pc_dnotin (hu_of hr.room) (pv 2) (pv 1)) (by rfl))))))), ?_⟩
  have ⟨⟨b, kvs, eb, h, hs, nd⟩, kb, db, yb, sb⟩ := hB
  have ⟨⟨o, kvs2, eo, h2, hs2, nd2⟩, ko, do_, yo, so⟩ := hO
  subst eb eo
  · · 
      walk_at "sx"
      have dB : PyData.depthKv B < 6 := by simp only [PyData.depth] at db; omega
      have dO : PyData.depthKv O < 6 := by simp only [PyData.depth] at do_; omega
      simp only [okB, Bool.and_eq_true, decide_eq_true_eq] at kb ko
      have q0 := q H (Same.refl _)
      unfold oneC at q0 q
      rcases trD_look hs x with ⟨v1, d1, f1, l1, w1, t1, i1, g1⟩ | ⟨l1, w1⟩
      · rcases trD_look hs2 x with ⟨v2, d2, f2, l2, w2, t2, i2, g2⟩ | ⟨l2, w2⟩
        · rw [l1, l2] at q
          refine ⟨_, dget_x h, ?_⟩
          rw [w1, if_pos (by simp)]
          refine ⟨_, dget_x h2, ?_⟩
          rw [w2, if_pos (by simp)]
          have b1 := depth_kv g1
          have b2 := depth_kv g2
          have n1 := note_kv g1
          have n2 := note_kv g2
          exact ⟨v1, by rw [← w1]; exact dget_x h, v2, by rw [← w2]; exact dget_x h2, _, _, rfl, d1, f1, d2, f2, t1, t2, (okKv_get kb.2 g1).2, (okKv_get ko.2 g2).2, by omega, by omega, by omega, by omega, fun H' s => q H' s⟩
        · rw [l1, l2] at q0
          refine ⟨_, dget_x h, ?_⟩
          rw [w1, if_pos (by simp)]
          refine ⟨_, dget_x h2, ?_⟩
          rw [w2, if_neg (by simp)]
          refine ⟨_, dget_x h, ?_⟩
          rw [w1]
          rw [if_neg (by simp)]
          exact q0
      · refine ⟨_, dget_x h, ?_⟩
        rw [w1, if_neg (by simp)]
        refine ⟨_, dget_x h, ?_⟩
        rw [w1]
        rw [if_pos (by simp)]
        refine ⟨_, dget_x h2, ?_⟩
        rcases trD_look hs2 x with ⟨v2, d2, f2, l2, w2, t2, i2, g2⟩ | ⟨l2, w2⟩
        · rw [l1, l2] at q0
          rw [w2]; exact q0
        · rw [l1, l2] at q0
          rw [w2]; exact q0
end
theorem bb_sorted : bootBuiltins "sorted" = some (.builtin "sorted") := by decide +kernel
/-- the keys -/
def keysOf : List (PyData × PyData) → List Str
  | [] => []
  | (.str x, _) :: r => x :: keysOf r
  | _ :: r => keysOf r
def addK (ks : List Str) (x : Str) : List Str := if x ∈ ks then ks else ks ++ [x]
def unK (ks more : List Str) : List Str := more.foldl addK ks
def allK (B O P : List (PyData × PyData)) : List Str := unK (unK (unK [] (keysOf B)) (keysOf O)) (keysOf P)
theorem trD_keys {H : Hp} : ∀ {kvs : List (Key × V)} {D : List (PyData × PyData)} {fp : List Addr}, TrD H kvs D fp → kvs.map (·.1) = (keysOf D).map Sum.inr
  | _, _, _, .nil => rfl
  | _, _, _, .cons h hs => by simp only [List.map_cons, keysOf]; rw [trD_keys hs]
theorem putK_keys {kvs : List (Key × V)} {ks : List Str} {x : Str} {v : V} (h : kvs.map (·.1) = ks.map Sum.inr) : (putK kvs (.inr x) v).map (·.1) = (addK ks x).map Sum.inr := by
  have e : (kvs.any fun kv => decide (kv.1 = .inr x)) = decide (x ∈ ks) := by
    rw [show (kvs.any fun kv => decide (kv.1 = .inr x)) = (kvs.map (·.1)).any fun k => decide (k = .inr x) from by rw [List.any_map]; rfl, h]
    rw [Bool.eq_iff_iff]
    simp
  unfold putK addK
  by_cases hx : x ∈ ks
  · rw [if_pos (by rw [e]; simp [hx]), if_pos hx, List.map_map, ← h]
    refine List.map_congr_left fun p _ => ?_
    simp only [Function.comp]
    split <;> rfl
  · rw [if_neg (by rw [e]; simp [hx]), if_neg hx, List.map_append, List.map_append, h]; rfl
theorem mergeK_keys : ∀ {more : List (Key × V)} {ms : List Str} {kvs : List (Key × V)} {ks : List Str}, more.map (·.1) = ms.map Sum.inr → kvs.map (·.1) = ks.map Sum.inr → (mergeK kvs more).map (·.1) = (unK ks ms).map Sum.inr
  | [], [], _, _, _, h => h
  | [], _ :: _, _, _, e, _ => by simp at e
  | _ :: _, [], _, _, e, _ => by simp at e
  | p :: r, m :: ms, kvs, ks, e, h => by
    simp only [List.map_cons, List.cons.injEq] at e
    show (mergeK (putK kvs p.1 p.2) r).map (·.1) = (unK (addK ks m) ms).map Sum.inr
    rw [e.1]
    exact mergeK_keys e.2 (putK_keys h)
theorem addK_len (ks : List Str) (x : Str) : (addK ks x).length ≤ ks.length + 1 := by unfold addK; split <;> simp
theorem unK_len : ∀ (ms ks : List Str), (unK ks ms).length ≤ ks.length + ms.length
  | [], ks => by show ks.length ≤ _; simp
  | m :: ms, ks => by
    have h1 := unK_len ms (addK ks m)
    have h2 := addK_len ks m
    show (unK (addK ks m) ms).length ≤ _
    simp only [List.length_cons]; omega
theorem keysOf_len : ∀ D : List (PyData × PyData), (keysOf D).length ≤ D.length
  | [] => Nat.le_refl _
  | (d, _) :: r => by
    have := keysOf_len r
    cases d <;> simp only [keysOf, List.length_cons] <;> omega
theorem allK_len (B O P : List (PyData × PyData)) : (allK B O P).length ≤ B.length + O.length + P.length := by
  have a1 := unK_len (keysOf P) (unK (unK [] (keysOf B)) (keysOf O))
  have a2 := unK_len (keysOf O) (unK [] (keysOf B))
  have a3 := unK_len (keysOf B) []
  have b1 := keysOf_len B
  have b2 := keysOf_len O
  have b3 := keysOf_len P
  simp only [List.length_nil] at a3
  unfold allK
  omega
def isC (B O P : List (PyData × PyData)) (x : Str) : Bool := hasC B O x && hasC B P x && !oneC O P x
section
variable {g : Wd} {f : Addr} {fd : FuncData}
theorem sc_all_conflicts : FnScope ["base", "one", "other", "found", "key"] ["base", "one", "other"] (defScope s_all_conflicts) := ⟨rfl, rfl, rfl, by decide +kernel, rfl, by decide +kernel, by decide +kernel⟩
def sp_allc : Sp := S3 fun b o p H Q _ => ∃ B O P fb fo fp, MapAt H b B fb ∧ MapAt H o O fo ∧ MapAt H p P fp ∧ B.length + O.length + P.length < 64 ∧
  ∀ ys a H', ys.Perm (allK B O P) → PyProof.Rows.sortedS ys = true → Same H H' → H a = none → H' a = some (.lst ((ys.filter (isC B O P)).map V.str)) → Q (.ref a) H'
theorem ok_allc (F : Df g.K "all_conflicts" "all_conflicts" s_all_conflicts f fd .none) (T : Txt g) (F_has_changed : Kn g "has_changed" 11 ["base", "one", "key"] [] sp_hasc) (F_are_one_change : Kn g "are_one_change" 11 ["one", "other", "key"] [] sp_onec) : FnG g 12 f fd ["base", "one", "other"] sp_allc := by
  refine F.ok sc_all_conflicts (fun vs H Q E h => S3.len h) (fun cdv A outer s H vs Q E hr h => ?_)
  obtain ⟨_, _, _, rfl, B, O, P, fb, fo, fp, hB, hO, hP, hl, q⟩ := h
  refine ⟨_, (pss_cons (ps_set (i := 3) sc_all_conflicts.nd rfl (Or.inl rfl) (pe_lst pa_nil))
      (pss_cons (ps_for psD rfl (i_list (K := g.K) (pe_callB (call_sortedD rfl) (by rfl) T.b_sorted bb_sorted (pa_cons (pe_dstar3 (pv 0) (pv 1) (pv 2)) pa_nil))) (pg_name (i := 4) sc_all_conflicts.nd rfl (.inl rfl)) (pss_one (ps_if (PW.pt (pw_and (pt_val (pe_callG F_has_changed (hr.mono (by first | decide | omega)) tkD (pa_cons (pv 0) (pa_cons (pv 1) (pa_cons (pv 4) pa_nil))))) (pw_and (pt_val (pe_callG F_has_changed (hr.mono (by first | decide | omega)) tkD (pa_cons (pv 0) (pa_cons (pv 2) (pa_cons (pv 4) pa_nil))))) (pw_and1 (pt_not (pt_val (pe_callG F_are_one_change (hr.mono (by first | decide | omega)) tkD (pa_cons (pv 1) (pa_cons (pv 2) (pa_cons (pv 4) pa_nil)))))))))) (pss_one (ps_expr (e_bm (K := g.K) PySem.F.plainAttrs_list PySem.F.slot_list_append PySem.F.type_list_append mt_append (pv 3) (pa_cons (pv 4) pa_nil)))) pss_nil)))
      (pss_one (ps_ret (pv 3))))), ?_⟩
  walk_at "sx"
  refine fun p hp => ?_
  cases hB.tr with
  | @dct b kb _ _ eB sB _ _ =>
  cases hO.tr with
  | @dct o ko _ _ eO sO _ _ =>
  cases hP.tr with
  | @dct c kp _ _ eP sP _ _ =>
  intro d hd
  have np : ∀ {x u}, H x = some u → x ≠ p := fun e z => by rw [z, hp] at e; cases e
  have nd : ∀ {x u}, H x = some u → x ≠ d := fun e z => by subst z; rw [upd_ne (np e), e] at hd; cases hd
  have pd : p ≠ d := fun z => by rw [← z, upd_same] at hd; cases hd
  have lB := sB.len
  have lO := sO.len
  have lP := sP.len
  have m1 := length_mergeK kb []
  have m2 := length_mergeK ko (mergeK [] kb)
  simp only [List.length_nil] at m1
  have keys : (mergeK (mergeK (mergeK [] kb) ko) kp).map (·.1) = (allK B O P).map Sum.inr := mergeK_keys (trD_keys sP) (mergeK_keys (trD_keys sO) (mergeK_keys (trD_keys sB) rfl))
  have kl : (allK B O P).length < 64 := Nat.lt_of_le_of_lt (allK_len B O P) hl
  simp only [tMerges, tRet, tRetN, tSeq, C8.tCut, tNext, tAsg, gName, gNil, gCons, gTup, gFld, tIfS, tIf, tAndV, tOrV, tNotV, tAnd, tOr, tNot, tB, tTest, tOp, tUn, tCB, tCons, tNil, tVar, tC, tChain, tDrop, RS.tCallG, RS.tMethG, tMakeG, RS.tCallK, RS.tMakeK, tEqOwn, rI, rI0, rU, add_ii, add_ss, add_rr, mul_ii, mul_si, mul_ri, RS.eq_ii, RS.eq_ss, eq_bb, eq_nn, eq_sn, eq_ns, eq_in, eq_ni, eq_bn, eq_nb, eq_is, eq_si, eq_rr, ne_ii, ne_ss, ne_bb, ne_nn, ne_sn, ne_ns, ne_in, ne_ni, ne_is, ne_si, ne_rr, in_ss, in_r, nin_ss, nin_r, len_s, len_r, RS.ix_s, RS.ix_r, sl_s, sl_r, is_eq, tyN_n, tyN_b, tyN_i, tyN_s, tru_b, tru_i, tru_n, tSl, tPart, tNoPart, tPar, tPar3, tFmtZ, tFmt, tJs, tDGet, sDPut, sFld, tFld, tTup, tLst, tNever, isB,
  L2.start, List.map_cons, List.map_nil, List.length_cons, List.length_nil, Nat.reduceAdd, Nat.reduceSub, Nat.sub_self, List.replicate_zero, List.replicate_succ, List.append_nil, List.cons_append, List.nil_append, List.getElem?_cons_zero, List.getElem?_cons_succ, List.set_cons_zero, List.set_cons_succ, Option.some.injEq, exists_eq_left, exists_eq_left', exists_and_left, V.bl.injEq, V.int.injEq, V.str.injEq, V.ref.injEq, beq_self_eq_true, Bool.true_or, Bool.or_true, Bool.false_or, Bool.or_false, Bool.and_false, Bool.false_and, Bool.true_and, Bool.and_true, Bool.not_true, Bool.not_false, Bool.false_eq_true, if_true, if_false, ite_true, ite_false, true_and, and_true, and_assoc, String.reduceBEq, String.reduceEq, reduceIte, Bool.and_self, reduceCtorEq, false_and, and_false, exists_false, or_false, false_or, exists_const, iEnumS, iStr, iList, iTup, iRng1, iEnum, tFor_eq, tLc_eq, List.cons.injEq, wipe, not_true_eq_false, not_false_eq_true, upd_same, HO.ins.injEq, HO.tup.injEq, HO.lst.injEq, ofS_eq, lk_nil, lk_cons, pu_nil, pu_cons, sizeLine_eq, Nat.reduceLT, Nat.reduceLeDiff, Nat.reduceEqDiff, Nat.le_refl, decide_true, decide_false, tPr, dget_us, dput_us, vv_nil, vv_cons, RS.pk_nil, pk_one, RS.pk_cons, inr_eq, tDisp, tPairs, tBoolOwn, rBoolOwn, tBM, rAppend, ty_list, ty_str, rEqOwn, iEnumT, RS.tCallS, tM1, tDc_eq, tLock, tLockE, iKeys, tListEnum, rUpdate, tMkX0, tMkX1, tXfv, gSub, rSetL, List.getD_cons_zero, List.getD_cons_succ, tBreak, tCMethS, ClX.tCVal, tXfa, tIxOwn, tInOwn, tPropG, tMethK, tMethP, tListGen, tDGet2, tDPop2, rNeD0, intA_i, intA_b, tRevL, sFldAug, tPm0, tPm1, tDIn, tDNotIn, tDNewK, RS.tMethS, tForK, tKM, tKC, tLcK, tKM2, tKC2, tMethStar, tKCK2, tLk, tAug, ipI, tDig, tLcX, tKMX, tKCX]
  refine ⟨(nd eB).symm, [], rfl, kb, by rw [upd_ne (nd eB), upd_ne (np eB)]; exact eB, by simp only [List.length_nil]; omega, ?_⟩
  refine ⟨(nd eO).symm, mergeK [] kb, rfl, ko, by rw [upd_ne (nd eO), upd_ne (nd eO), upd_ne (np eO)]; exact eO, by omega, ?_⟩
  refine ⟨(nd eP).symm, mergeK (mergeK [] kb) ko, rfl, kp, by rw [upd_ne (nd eP), upd_ne (nd eP), upd_ne (nd eP), upd_ne (np eP)]; exact eP, by omega, ?_⟩
  refine ⟨_, .inl upd_same, allK B O P, keys, kl, fun ys r perm srt hr => ?_⟩
  refine ⟨⟨_, SqL.of upd_same⟩, ?_⟩
  generalize eH1 : upd (upd (upd (upd (upd H p (HO.lst [])) d (HO.dK [])) d (HO.dK (mergeK [] kb))) d (HO.dK (mergeK (mergeK [] kb) ko))) d (HO.dK (mergeK (mergeK (mergeK [] kb) ko) kp)) = H1 at hr ⊢
  have g1 : ∀ x, x ≠ d → x ≠ p → H1 x = H x := fun x n1 n2 => by rw [← eH1, upd_ne n1, upd_ne n1, upd_ne n1, upd_ne n1, upd_ne n2]
  have gp : H1 p = some (.lst []) := by rw [← eH1, upd_ne pd, upd_ne pd, upd_ne pd, upd_ne pd, upd_same]
  have s1 : Same H H1 := fun x u e => by rw [g1 x (nd e) (np e)]; exact e
  have pr : p ≠ r := fun z => by rw [← z, gp] at hr; cases hr
  have nr : ∀ {x u}, H x = some u → x ≠ r := fun e z => by rw [z] at e; have := s1 _ _ e; rw [hr] at this; cases this
  have ylen : ys.length < 64 := by rw [perm.length_eq]; exact kl
  refine for_by ys.length (fun i σ G => (∃ v, σ = [some (.ref b), some (.ref o), some (.ref c), some (.ref p), v]) ∧ Same H G ∧ G r = some (.lst (ys.map V.str)) ∧ G p = some (.lst (((ys.take i).filter (isC B O P)).map V.str)))
    ⟨⟨_, rfl⟩, fun x u e => by rw [upd_ne (nr e)]; exact s1 x u e, upd_same, by rw [upd_ne pr, gp]; rfl⟩ (fun i σ G lt P => ⟨_, .str ys[i], SqL.of P.2.2.1, by simp [lt]⟩) (fun σ G P => ⟨_, SqL.of P.2.2.1, by simp⟩) (fun i σ G x G' lt Pv yl => ?_) (fun σ G Pv => ?_)
  · obtain ⟨⟨v, rfl⟩, sG, hrG, hpG⟩ := Pv
    obtain ⟨rfl, hx⟩ := yl
    have hx := hx _ (SqL.of hrG)
    rw [List.getElem?_map, List.getElem?_eq_getElem lt] at hx
    cases hx
    have tk : (ys.take (i + 1)).filter (isC B O P) = (ys.take i).filter (isC B O P) ++ if isC B O P ys[i] then [ys[i]] else [] := by
      rw [List.take_succ, List.getElem?_eq_getElem lt, List.filter_append]
      simp only [Option.toList_some, List.filter_cons, List.filter_nil]
    walk_at "sx"
    obtain ⟨_, rB⟩ := hB.toR
    obtain ⟨_, rO⟩ := hO.toR
    obtain ⟨_, rP⟩ := hP.toR
    refine ⟨_, _, _, rfl, B, O, _, _, _, rB.same sG, rO.same sG, rfl, fun G1 t1 => ⟨_, rfl, ?_⟩⟩
    have no : hasC B O ys[i] = false → (∃ v, some (V.str ys[i]) = v) ∧ Same H G1 ∧ G1 r = some (.lst (ys.map V.str)) ∧ G1 p = some (.lst (((ys.take (i + 1)).filter (isC B O P)).map V.str)) := fun e =>
      ⟨⟨_, rfl⟩, sG.trans t1, t1 _ _ hrG, by rw [tk, if_neg (by simp [isC, e]), List.append_nil]; exact t1 _ _ hpG⟩
    cases e1 : hasC B O ys[i] with
    | false => rw [if_neg Bool.false_ne_true]; exact no e1
    | true =>
      rw [if_pos rfl]
      have s2 := sG.trans t1
      refine ⟨_, _, _, rfl, B, P, _, _, _, rB.same s2, rP.same s2, rfl, fun G2 t2 => ⟨_, rfl, ?_⟩⟩
      cases e2 : hasC B P ys[i] with
      | false =>
        rw [if_neg Bool.false_ne_true]
        exact ⟨⟨_, rfl⟩, s2.trans t2, t2 _ _ (t1 _ _ hrG), by rw [tk, if_neg (by simp [isC, e2]), List.append_nil]; exact t2 _ _ (t1 _ _ hpG)⟩
      | true =>
        rw [if_pos rfl]
        have s3 := s2.trans t2
        refine ⟨_, _, _, rfl, O, P, _, _, _, rO.same s3, rP.same s3, rfl, fun G3 t3 => ⟨_, rfl, ?_⟩⟩
        have s4 := s3.trans t3
        have hp3 := t3 _ _ (t2 _ _ (t1 _ _ hpG))
        have hr3 := t3 _ _ (t2 _ _ (t1 _ _ hrG))
        cases e3 : oneC O P ys[i] with
        | true =>
          rw [if_neg (by decide)]
          exact ⟨⟨_, rfl⟩, s4, hr3, by rw [tk, if_neg (by simp [isC, e3]), List.append_nil]; exact hp3⟩
        | false =>
          rw [if_pos (by decide)]
          refine ⟨⟨_, SqL.of hp3⟩, _, hp3, ?_, ⟨_, rfl⟩, fun x u e => by rw [upd_ne (np e)]; exact s4 x u e, by rw [upd_ne pr.symm]; exact hr3, by rw [tk, if_pos (by simp [isC, e1, e2, e3])]; simp⟩
          have f1 := List.length_filter_le (isC B O P) (ys.take i)
          simp only [List.length_map, List.length_take] at f1 ⊢
          omega
  · obtain ⟨⟨v, rfl⟩, sG, hrG, hpG⟩ := Pv
    rw [List.take_length] at hpG
    walk_at "sx"
    exact q ys p G perm srt sG hp hpG
end
section
variable {g : Wd} {f : Addr} {fd : FuncData} {dV : Value}
theorem sc_are_same : FnScope ["one", "other"] ["one", "other"] (defScope s_are_same) := ⟨rfl, rfl, rfl, by decide +kernel, rfl, by decide +kernel, by decide +kernel⟩
def sp_same : Sp := S2 fun o p H Q _ => ∃ O P fo fp, MapAt H o O fo ∧ MapAt H p P fp ∧ ∀ H', Same H H' → Q (.bl (decide (note (.dict O) = note (.dict P)))) H'
theorem ok_same (F : Df g.K "are_same" "are_same" s_are_same f fd .none) (T : Txt g) (F_check_mappings : KnS g "check_mappings" 12 (spS 0 sp_cmaps)) (F_are_alike : Kn g "are_alike" 10 ["one", "other"] [] sp_alike) : FnG g 13 f fd ["one", "other"] sp_same := by
  refine F.ok sc_are_same (fun vs H Q E h => S2.len h) (fun cdv A outer s H vs Q E hr h => ?_)
  obtain ⟨o, p, rfl, O, P, fo, fp, hO, hP, q⟩ := h
  refine ⟨_, (pss_cons (ps_expr (pe_callS F_check_mappings (hr.mono (by first | decide | omega)) tkD (pa_cons (pv 0) (pa_cons (pv 1) pa_nil))))
      (pss_one (ps_ret (pe_callG F_are_alike (hr.mono (by first | decide | omega)) tkD (pa_cons (pv 0) (pa_cons (pv 1) pa_nil)))))), ?_⟩
  walk_at "sx"
  refine ⟨[], _, rfl, rfl, by simp [sizeLine_eq], fun a ha => ?_⟩
  have s1 := same_upd (o := HO.tup [o, p]) ha
  refine ⟨_, rfl, a, _, [O, P], rfl, upd_same, .cons ⟨_, hO.same s1⟩ (.cons ⟨_, hP.same s1⟩ .nil), by simp, fun H1 t1 => ?_⟩
  have s2 := s1.trans t1
  exact ⟨_, _, rfl, _, _, _, _, (hO.same s2).tr, (hP.same s2).tr, hO.ok, hP.ok, by have := hO.dep; omega, by have := hP.dep; omega, hO.small, hP.small, fun H2 t2 => q _ (s2.trans t2)⟩
theorem sc_conflicts : GScope ["base", "one", "other"] ["base", "one", "other"] (defScope s_conflicts) := ⟨rfl, rfl, rfl, by decide +kernel, rfl, by decide +kernel, by decide +kernel⟩
def sp_confK : SpK := fun vs H k0 yl fin => ∃ b o p B O P fb fo fp, vs = [b, o, p] ∧ MapAt H b B fb ∧ MapAt H o O fo ∧ MapAt H p P fp ∧ B.length + O.length + P.length < 64 ∧
  ∀ ys, ys.Perm (allK B O P) → PyProof.Rows.sortedS ys = true → ∃ Pv : Nat → L2.St → Hp → Prop, (∀ G, Same H G → Pv 0 k0 G) ∧
    (∀ j x k G a, (ys.filter (isC B O P))[j]? = some x → Pv j k G → H a = none → ∀ res : L2.St → Hp → Prop, (∀ k' G', Pv (j + 1) k' G' → G' a = G a → res k' G') → yl j k (.str x) G res) ∧
    ∀ k G, Pv (ys.filter (isC B O P)).length k G → fin k G
theorem ok_confK (F : Df g.K "conflicts" "conflicts" s_conflicts f fd .none) (T : Txt g) (F_check_mappings : KnS g "check_mappings" 12 (spS 0 sp_cmaps)) (F_all_conflicts : Kn g "all_conflicts" 12 ["base", "one", "other"] [] sp_allc) : GKn g.P g.w g.K g.mg g.base 13 f fd ["base", "one", "other"] sp_confK := by
  refine gkn_of F sc_conflicts (by decide +kernel) fun cdv A outer s H vs pn hr => ⟨_, (gks_cons (gk_ps (fun _ _ => (ps_expr (pe_callS F_check_mappings (Rm.mono (Rm.mk hr.room hr.gd) (by first | decide | omega)) L2.takes0 (pa_cons (pv 0) (pa_cons (pv 1) (pa_cons (pv 2) pa_nil))))))) (gks_cons (gk_from rfl (fun _ _ => (pe_callG F_all_conflicts (Rm.mono (Rm.mk hr.room hr.gd) (by first | decide | omega)) L2.takes0 (pa_cons (pv 0) (pa_cons (pv 1) (pa_cons (pv 2) pa_nil))))) hr.room.hd) gks_nil)), fun k0 yl fin h => ?_⟩
  obtain ⟨b, o, p, B, O, P, fb, fo, fp, rfl, hB, hO, hP, hl, h⟩ := h
  simp only [tKThen, tKPlain, tKFrom, tK0, GKE.at, tRet, tRetN, tSeq, C8.tCut, tNext, tAsg, gName, gNil, gCons, gTup, gFld, tIfS, tIf, tAndV, tOrV, tNotV, tAnd, tOr, tNot, tB, tTest, tOp, tUn, tCB, tCons, tNil, tVar, tC, tChain, tDrop, RS.tCallG, RS.tMethG, tMakeG, RS.tCallK, RS.tMakeK, tEqOwn, rI, rI0, rU, add_ii, add_ss, add_rr, mul_ii, mul_si, mul_ri, RS.eq_ii, RS.eq_ss, eq_bb, eq_nn, eq_sn, eq_ns, eq_in, eq_ni, eq_bn, eq_nb, eq_is, eq_si, eq_rr, ne_ii, ne_ss, ne_bb, ne_nn, ne_sn, ne_ns, ne_in, ne_ni, ne_is, ne_si, ne_rr, in_ss, in_r, nin_ss, nin_r, len_s, len_r, RS.ix_s, RS.ix_r, sl_s, sl_r, is_eq, tyN_n, tyN_b, tyN_i, tyN_s, tru_b, tru_i, tru_n, tSl, tPart, tNoPart, tPar, tPar3, tFmtZ, tFmt, tJs, tDGet, sDPut, sFld, tFld, tTup, tLst, tNever, isB,
  L2.start, List.map_cons, List.map_nil, List.length_cons, List.length_nil, Nat.reduceAdd, Nat.reduceSub, Nat.sub_self, List.replicate_zero, List.replicate_succ, List.append_nil, List.cons_append, List.nil_append, List.getElem?_cons_zero, List.getElem?_cons_succ, List.set_cons_zero, List.set_cons_succ, Option.some.injEq, exists_eq_left, exists_eq_left', exists_and_left, V.bl.injEq, V.int.injEq, V.str.injEq, V.ref.injEq, beq_self_eq_true, Bool.true_or, Bool.or_true, Bool.false_or, Bool.or_false, Bool.and_false, Bool.false_and, Bool.true_and, Bool.and_true, Bool.not_true, Bool.not_false, Bool.false_eq_true, if_true, if_false, ite_true, ite_false, true_and, and_true, and_assoc, String.reduceBEq, String.reduceEq, reduceIte, Bool.and_self, reduceCtorEq, false_and, and_false, exists_false, or_false, false_or, exists_const, iEnumS, iStr, iList, iTup, iRng1, iEnum, tFor_eq, tLc_eq, List.cons.injEq, wipe, not_true_eq_false, not_false_eq_true, upd_same, HO.ins.injEq, HO.tup.injEq, HO.lst.injEq, ofS_eq, lk_nil, lk_cons, pu_nil, pu_cons, sizeLine_eq, Nat.reduceLT, Nat.reduceLeDiff, Nat.reduceEqDiff, Nat.le_refl, decide_true, decide_false, tPr, dget_us, dput_us, vv_nil, vv_cons, RS.pk_nil, pk_one, RS.pk_cons, inr_eq, tDisp, tPairs, tBoolOwn, rBoolOwn, tBM, rAppend, ty_list, ty_str, rEqOwn, iEnumT, RS.tCallS, tM1, tDc_eq, tLock, tLockE, iKeys, tListEnum, rUpdate, tMkX0, tMkX1, tXfv, gSub, rSetL, List.getD_cons_zero, List.getD_cons_succ, tBreak, tCMethS, ClX.tCVal, tXfa, tIxOwn, tInOwn, tPropG, tMethK, tMethP, tListGen, tDGet2, tDPop2, rNeD0, intA_i, intA_b, tRevL, sFldAug, tPm0, tPm1, tDIn, tDNotIn, tDNewK, RS.tMethS, tForK, tKM, tKC, tLcK, tKM2, tKC2, tMethStar, tKCK2, tLk, tAug, ipI, tDig, tLcX, tKMX, tKCX]
  refine ⟨[], _, rfl, rfl, by simp [sizeLine_eq], fun a ha => ?_⟩
  have s1 := same_upd (o := HO.tup [b, o, p]) ha
  refine ⟨_, rfl, a, _, [B, O, P], rfl, upd_same, .cons ⟨_, hB.same s1⟩ (.cons ⟨_, hO.same s1⟩ (.cons ⟨_, hP.same s1⟩ .nil)), by simp, fun H1 t1 => ?_⟩
  have s2 := s1.trans t1
  refine ⟨_, _, _, rfl, B, O, P, _, _, _, hB.same s2, hO.same s2, hP.same s2, hl, fun ys l H2 perm srt t2 hn hl2 => ?_⟩
  obtain ⟨Pv, p0, py, pf⟩ := h ys perm srt
  have nl : H l = none := by
    cases e : H l with
    | none => rfl
    | some u => have := s2 _ _ e; rw [hn] at this; cases this
  have lb : (ys.filter (isC B O P)).length < 64 := by
    have a1 := List.length_filter_le (isC B O P) ys
    have a2 := perm.length_eq
    have a3 := allK_len B O P
    omega
  refine ⟨l, rfl, _, hl2, fun j i k G => i = j ∧ j ≤ (ys.filter (isC B O P)).length ∧ Pv j k G ∧ G l = some (.lst ((ys.filter (isC B O P)).map V.str)), ⟨rfl, Nat.zero_le _, p0 _ (s2.trans t2), hl2⟩, ?_⟩
  rintro j i k G ⟨rfl, hj, hP, hG⟩
  refine ⟨hG, fun e => pf k G (by rw [List.length_map] at e; rw [← e]; exact hP), fun x hx => ?_⟩
  rw [List.getElem?_map] at hx
  cases e : (ys.filter (isC B O P))[i]? with
  | none => rw [e] at hx; cases hx
  | some z =>
    rw [e] at hx
    cases hx
    have li : i < (ys.filter (isC B O P)).length := (List.getElem?_eq_some_iff.mp e).1
    exact ⟨by omega, py i z k G l e hP nl _ fun k' G' hP' hk => ⟨rfl, li, hP', by rw [hk]; exact hG⟩⟩
end
inductive Dd where
  | put (x : Str) (d : PyData)
  | drop (x : Str)
def isK (k : PyData) (x : Str) : Bool := match k with
  | .str y => decide (y = x)
  | _ => false
def putD : List (PyData × PyData) → Str → PyData → List (PyData × PyData)
  | [], x, d => [(.str x, d)]
  | p :: r, x, d => if isK p.1 x = true then (.str x, d) :: r else p :: putD r x d
def dropD (D : List (PyData × PyData)) (x : Str) : List (PyData × PyData) := D.filter fun p => !isK p.1 x
def apD (D : List (PyData × PyData)) : Dd → List (PyData × PyData)
  | .put x d => putD D x d
  | .drop x => dropD D x
def apDs (D : List (PyData × PyData)) (ds : List Dd) : List (PyData × PyData) := ds.foldl apD D
theorem valV_mem {kvs : List (Key × V)} {k : Key} {u : V} (h : valV kvs k = some u) : k ∈ kvs.map (·.1) := by
  unfold valV at h
  cases e : kvs.find? (fun kv => decide (kv.1 = k)) with
  | none => rw [e] at h; cases h
  | some p =>
    have h1 := List.find?_some e
    exact List.mem_map.mpr ⟨p, List.mem_of_find?_eq_some e, by simpa using h1⟩
theorem trD_put {H : Hp} {x : Str} {v : V} {d : PyData} {f : List Addr} (t : Tr H v d f) : ∀ {kvs : List (Key × V)} {D : List (PyData × PyData)} {fp : List Addr}, TrD H kvs D fp → (kvs.map (·.1)).Nodup → ∃ fp', TrD H (putK kvs (.inr x) v) (putD D x d) fp' ∧ ∀ c ∈ fp', c ∈ fp ∨ c ∈ f
  | _, _, _, .nil, _ => ⟨_, .cons t .nil, fun c hc => .inr (by simpa using hc)⟩
  | _, _, _, .cons (x := y) (kvs := r) (f1 := f1) h hs, nd => by
    have nd' := List.nodup_cons.mp nd
    have hr : valV r (.inr y) = none := by
      cases e : valV r (.inr y) with
      | none => rfl
      | some u => exact absurd (valV_mem e) nd'.1
    rw [RS.pk_cons (hr := hr)]
    by_cases e : y = x
    · subst e
      rw [if_pos rfl, putD, if_pos (by simp [isK])]
      exact ⟨_, .cons t hs, fun c hc => (List.mem_append.mp hc).elim .inr fun z => .inl (List.mem_append_right _ z)⟩
    · have e2 : ¬ (.inr y : Key) = .inr x := fun z => e (Sum.inr.inj z)
      rw [if_neg e2, putD, if_neg (by simp [isK, e])]
      obtain ⟨fp', t', k⟩ := trD_put t hs nd'.2
      refine ⟨_, .cons h t', fun c hc => ?_⟩
      rcases List.mem_append.mp hc with z | z
      · exact .inl (List.mem_append_left _ z)
      · exact (k c z).imp (List.mem_append_right _) id
theorem trD_drop {H : Hp} {x : Str} : ∀ {kvs : List (Key × V)} {D : List (PyData × PyData)} {fp : List Addr}, TrD H kvs D fp → ∃ fp', TrD H (kvs.filter fun p => decide (p.1 ≠ .inr x)) (dropD D x) fp' ∧ ∀ c ∈ fp', c ∈ fp
  | _, _, _, .nil => ⟨_, .nil, fun c hc => hc⟩
  | _, _, _, .cons (x := y) (f1 := f1) h hs => by
    obtain ⟨fp', t', k⟩ := trD_drop (x := x) hs
    by_cases e : y = x
    · subst e
      refine ⟨fp', ?_, fun c hc => List.mem_append_right _ (k c hc)⟩
      rw [List.filter_cons, if_neg (by simp), dropD, List.filter_cons, if_neg (by simp [isK])]
      exact t'
    · refine ⟨f1 ++ fp', ?_, fun c hc => ?_⟩
      · rw [List.filter_cons, if_pos (by simp [e]), dropD, List.filter_cons, if_pos (by simp [isK, e])]
        exact .cons h t'
      · rcases List.mem_append.mp hc with z | z
        · exact List.mem_append_left _ z
        · exact List.mem_append_right _ (k c z)
theorem nd_put {kvs : List (Key × V)} {ks : List Str} {x : Str} {v : V} (e : kvs.map (·.1) = ks.map Sum.inr) (nd : (kvs.map (·.1)).Nodup) : ((putK kvs (.inr x) v).map (·.1)).Nodup := by
  rw [putK_keys e]
  rw [e] at nd
  have n2 : ks.Nodup := (List.pairwise_map.mp nd).imp fun h e => h (by rw [e])
  have n3 : (addK ks x).Nodup := by
    unfold addK
    split
    · exact n2
    · rename_i h
      exact List.nodup_append.mpr ⟨n2, by simp, fun a ha b hb e => h (by simp only [List.mem_singleton] at hb; subst hb; subst e; exact ha)⟩
  exact List.pairwise_map.mpr (n3.imp fun h e => h (Sum.inr.inj e))
theorem dc_invB {J : It} {g : TG} {tt : TT} {tk tv : TE} {vs : List Nat} {σ : L2.St} {H1 : Hp} {Qf : VK} (n : Nat) (Pv : Addr → Nat → List (Key × V) → Hp → Prop)
    (h0 : ∀ D, H1 D = none → Pv D 0 [] (upd H1 D (.dK []))) (hgo : ∀ D i acc H, H1 D = none → i < n → Pv D i acc H → J.go i H) (hst : ∀ D acc H, H1 D = none → Pv D n acc H → J.stop n H)
    (hs : ∀ D i acc H x H' (K : V → V → Hp → Prop) (N : Hp → Prop), H1 D = none → i < n → Pv D i acc H → H D = some (.dK acc) → J.yld i H x H' → (∀ k z H5, H5 D = some (.dK acc) → acc.length < sizeLine → Pv D (i + 1) (putK acc k z) (upd H5 D (.dK (putK acc k z))) → K (kV k) z H5) →
      (∀ H5, H5 D = some (.dK acc) → Pv D (i + 1) acc H5 → N H5) → g x (wipe σ vs) H' fun σ2 H2 => wipe σ2 vs = wipe σ vs ∧ tt σ2 H2 fun b H3 => if b = true then tk σ2 H3 (fun y H4 => tv σ2 H4 fun z H5 => K y z H5) else N H3)
    (hd : ∀ D acc H, H1 D = none → Pv D n acc H → H D = some (.dK acc) → Qf (.ref D) H) : DcB J g tt tk tv vs σ H1 Qf := by
  intro D hD
  let W : Nat → Hp → Prop := fun i H => ∃ acc, Pv D i acc H ∧ H D = some (.dK acc)
  refine ⟨fun i m H => m = n - i ∧ i ≤ n ∧ W i H, ⟨n, by omega, Nat.zero_le _, [], h0 D hD, upd_same⟩, ?_⟩
  rintro i m H ⟨rfl, hi, acc, pv, eD⟩
  by_cases lt : i < n
  · exact .inr ⟨hgo D i acc H hD lt pv, W (i + 1), fun H' w => ⟨n - (i + 1), by omega, rfl, lt, w⟩, fun x H' y =>
      hs D i acc H x H' _ (W (i + 1)) hD lt pv eD y (fun k z H5 e5 l5 p5 => ⟨acc, k, rfl, e5, l5, _, p5, upd_same⟩) fun H5 e5 p5 => ⟨acc, p5, e5⟩⟩
  · have e : i = n := by omega
    subst e
    exact .inl ⟨hst D acc H hD pv, hd D acc H hD pv eD⟩
theorem pairedO {α β : Type} {F : α → β → Prop} : ∀ {xs : List α} {ys : List β}, Paired F xs ys → ∀ {i : Nat} {x : α}, xs[i]? = some x → ∃ y, ys[i]? = some y ∧ F x y
  | _, _, .cons h hs, 0, x, e => by cases e; exact ⟨_, rfl, h⟩
  | _, _, .cons h hs, i + 1, x, e => by obtain ⟨y, a, b⟩ := pairedO hs (i := i) (by simpa using e); exact ⟨y, by simpa using a, b⟩
  | _, _, .nil, _, _, e => by simp at e
/-- a deed in the heap -/
def DdAt (H : Hp) (v : V) : Dd → Prop
  | .put x d => ∃ t w f, v = .ref t ∧ H t = some (.tup [.str "put", .str x, w]) ∧ Tr H w d f ∧ okB d = true ∧ d.depth < 8
  | .drop x => ∃ t, v = .ref t ∧ H t = some (.tup [.str "drop", .str x])
theorem DdAt.same {H H' : Hp} {v : V} {dd : Dd} (h : DdAt H v dd) (s : Same H H') : DdAt H' v dd := by
  cases dd with
  | put x d => obtain ⟨t, w, f, a, b, c, e⟩ := h; exact ⟨t, w, f, a, s _ _ b, c.same s, e⟩
  | drop x => obtain ⟨t, a, b⟩ := h; exact ⟨t, a, s _ _ b⟩
section
variable {g : Wd} {f : Addr} {fd : FuncData} {CX : Addr}
theorem sc_applied : FnScope ["mapping", "deeds", "found", "deed", "key"] ["mapping", "deeds"] (defScope s_applied) := ⟨rfl, rfl, rfl, by decide +kernel, rfl, by decide +kernel, by decide +kernel⟩
def sp_applied : Sp := S2 fun m v H Q _ => ∃ D fp a vs dds, Tr H m (.dict D) fp ∧ okB (.dict D) = true ∧ (PyData.dict D).depth < 8 ∧ v = .ref a ∧ H a = some (.lst vs) ∧ Paired (DdAt H) vs dds ∧ D.length + dds.length ≤ 10000 ∧
  ∀ r G fr, Same H G → Tr G (.ref r) (.dict (apDs D dds)) fr → (∀ c ∈ fr, H c = none) → Q (.ref r) G
theorem ok_applied (F : Df g.K "applied" "applied" s_applied f fd .none) (T : Txt g) (F_copied : Kn g "copied" 11 ["value"] [] sp_copied) : FnG g 12 f fd ["mapping", "deeds"] sp_applied := by
  refine F.ok sc_applied (fun vs H Q E h => S2.len h) (fun cdv A outer s H vs Q E hr h => ?_)
  obtain ⟨m, v, rfl, D, fp, a, vs, dds, tr, ok, dep, rfl, ha, pr, ln, q⟩ := h
  refine ⟨_, (pss_cons (ps_set (i := 2) sc_applied.nd rfl (Or.inr rfl) (pe_lock (pe_dc (own := [("key", 4)]) (tt := tYes) rfl sc_applied.nd (pi_keys (pv 0)) (blkOk_by (own := [("key", 4)]) (N := ["mapping", "deeds", "found", "deed", "key"]) (sc := defScope s_applied) (by decide +kernel)) (fun _ _ _ _ _ => (pg_name (i := 4) sc_applied.nd rfl (.inl rfl))) (fun _ _ _ _ _ => pts_nil) (fun _ _ _ _ _ => (pv 4)) (fun _ _ _ _ _ => (pe_callG F_copied (Rm.mono (Rm.mk hr.room hr.gd) (by first | decide | omega)) L2.takes0 (pa_cons (pe_dget (hu_of (Rm.mk hr.room hr.gd).room) (pv 0) (pv 4) (fun _ _ => rfl)) pa_nil))))))
      (pss_cons (ps_for psD rfl (i_list (K := g.K) (pv 1)) (pg_name (i := 3) sc_applied.nd rfl (.inr rfl)) (pss_one (ps_if (pt_cmpR (o_eq (K := g.K) hr) (pe_ix (o_ix (K := g.K)) (pv 3) pe_int (fun _ _ => rfl)) pe_str (nomark _)) (pss_one (ps_dput (hu_of hr.room) (pv 2) (pe_ix (o_ix (K := g.K)) (pv 3) pe_int (fun _ _ => rfl)) (pe_callG F_copied (hr.mono (by first | decide | omega)) tkD (pa_cons (pe_ix (o_ix (K := g.K)) (pv 3) pe_int (fun _ _ => rfl)) pa_nil)) rfl)) (pss_one (ps_set (i := 2) sc_applied.nd rfl (Or.inr rfl) (pe_lock (pe_dc (own := [("key", 4)]) rfl sc_applied.nd (pi_keys (pv 2)) (blkOk_by (own := [("key", 4)]) (N := ["mapping", "deeds", "found", "deed", "key"]) (sc := defScope s_applied) (by decide +kernel)) (fun _ _ _ _ _ => (pg_name (i := 4) sc_applied.nd rfl (.inl rfl))) (fun _ _ _ _ _ => (pts_one (pt_cmpR (o_ne (K := g.K) (Rm.mk hr.room hr.gd)) (pv 4) (pe_ix (o_ix (K := g.K)) (pv 3) pe_int (fun _ _ => rfl)) (nomark _)))) (fun _ _ _ _ _ => (pv 4)) (fun _ _ _ _ _ => (pe_dget (hu_of (Rm.mk hr.room hr.gd).room) (pv 2) (pv 4) (fun _ _ => rfl))))))))))
      (pss_one (ps_ret (pv 2))))), ?_⟩
  walk_at "sx"
  cases tr with
  | @dct m kvs _ fp h hs na nd =>
  simp only [okB, Bool.and_eq_true, decide_eq_true_eq] at ok
  refine ⟨m, _, h, True.intro, fun od => ⟨m, rfl, od, .inl ⟨kvs, upd_same, ?_⟩⟩⟩
  have hlk : ∀ c o, c ≠ m → H c = some o → upd H m (.frz od (.dK kvs)) c = some o := fun c o n z => by rw [upd_ne n]; exact z
  have hs1 : TrD (upd H m (.frz od (.dK kvs))) kvs D fp := hs.but (p := m) (fun xs z => by rw [h] at z; cases z) hlk na
  have ea : upd H m (.frz od (.dK kvs)) m = some (.frz od (.dK kvs)) := upd_same
  have hu : ∀ G, Same (upd H m (.frz od (.dK kvs))) G → Same H (upd G m (.dK kvs)) := fun G sm => unlock h sm
  have hn1 : ∀ b, upd H m (.frz od (.dK kvs)) b = none → b ≠ m ∧ H b = none := fun b z => fresh_lock z
  generalize upd H m (.frz od (.dK kvs)) = H1 at hs1 ea hu hn1 ⊢
  have ll := hs.len
  refine dc_invA kvs.length (fun L i acc G => Same H1 G ∧ acc.map (·.1) = (kvs.map (·.1)).take i ∧ ∃ fa, TrD G acc (D.take i) fa ∧ (∀ c ∈ fa, H1 c = none ∧ c ≠ L)) (fun L hL => ⟨same_upd hL, rfl, [], .nil, by simp⟩) (fun L i acc G hL lt P => ⟨P.1 _ _ ea, lt⟩) (fun L acc G hL P => ⟨P.1 _ _ ea, Nat.le_refl _⟩) (fun L i acc G x G' K hL lt P eL y k => ?_) (fun L acc G hL P eL => ?_)
  · obtain ⟨sm, ek, fa, ta, nfa⟩ := P
    obtain ⟨rfl, k0, v0, hk, rfl⟩ := y
    obtain ⟨x, v, d, f', e1, e2, t, _⟩ := hs1.get lt
    rw [hk] at e1
    cases e1
    refine ⟨rfl, ?_⟩
    simp only [kV, tRet, tRetN, tSeq, C8.tCut, tNext, tAsg, gName, gNil, gCons, gTup, gFld, tIfS, tIf, tAndV, tOrV, tNotV, tAnd, tOr, tNot, tB, tTest, tOp, tUn, tCB, tCons, tNil, tVar, tC, tChain, tDrop, RS.tCallG, RS.tMethG, tMakeG, RS.tCallK, RS.tMakeK, tEqOwn, rI, rI0, rU, add_ii, add_ss, add_rr, mul_ii, mul_si, mul_ri, RS.eq_ii, RS.eq_ss, eq_bb, eq_nn, eq_sn, eq_ns, eq_in, eq_ni, eq_bn, eq_nb, eq_is, eq_si, eq_rr, ne_ii, ne_ss, ne_bb, ne_nn, ne_sn, ne_ns, ne_in, ne_ni, ne_is, ne_si, ne_rr, in_ss, in_r, nin_ss, nin_r, len_s, len_r, RS.ix_s, RS.ix_r, sl_s, sl_r, is_eq, tyN_n, tyN_b, tyN_i, tyN_s, tru_b, tru_i, tru_n, tSl, tPart, tNoPart, tPar, tPar3, tFmtZ, tFmt, tJs, tDGet, sDPut, sFld, tFld, tTup, tLst, tNever, isB,
  L2.start, List.map_cons, List.map_nil, List.length_cons, List.length_nil, Nat.reduceAdd, Nat.reduceSub, Nat.sub_self, List.replicate_zero, List.replicate_succ, List.append_nil, List.cons_append, List.nil_append, List.getElem?_cons_zero, List.getElem?_cons_succ, List.set_cons_zero, List.set_cons_succ, Option.some.injEq, exists_eq_left, exists_eq_left', exists_and_left, V.bl.injEq, V.int.injEq, V.str.injEq, V.ref.injEq, beq_self_eq_true, Bool.true_or, Bool.or_true, Bool.false_or, Bool.or_false, Bool.and_false, Bool.false_and, Bool.true_and, Bool.and_true, Bool.not_true, Bool.not_false, Bool.false_eq_true, if_true, if_false, ite_true, ite_false, true_and, and_true, and_assoc, String.reduceBEq, String.reduceEq, reduceIte, Bool.and_self, reduceCtorEq, false_and, and_false, exists_false, or_false, false_or, exists_const, iEnumS, iStr, iList, iTup, iRng1, iEnum, tFor_eq, tLc_eq, List.cons.injEq, wipe, not_true_eq_false, not_false_eq_true, upd_same, HO.ins.injEq, HO.tup.injEq, HO.lst.injEq, ofS_eq, lk_nil, lk_cons, pu_nil, pu_cons, sizeLine_eq, Nat.reduceLT, Nat.reduceLeDiff, Nat.reduceEqDiff, Nat.le_refl, decide_true, decide_false, tPr, dget_us, dput_us, vv_nil, vv_cons, RS.pk_nil, pk_one, RS.pk_cons, inr_eq, tDisp, tPairs, tBoolOwn, rBoolOwn, tBM, rAppend, ty_list, ty_str, rEqOwn, iEnumT, RS.tCallS, tM1, tDc_eq, tLock, tLockE, iKeys, tListEnum, rUpdate, tMkX0, tMkX1, tXfv, gSub, rSetL, List.getD_cons_zero, List.getD_cons_succ, tBreak, tCMethS, ClX.tCVal, tXfa, tIxOwn, tInOwn, tPropG, tMethK, tMethP, tListGen, tDGet2, tDPop2, rNeD0, intA_i, intA_b, tRevL, sFldAug, tPm0, tPm1, tDIn, tDNotIn, tDNewK, RS.tMethS, tForK, tKM, tKC, tLcK, tKM2, tKC2, tMethStar, tKCK2, tLk, tAug, ipI, tDig, tLcX, tKMX, tKCX]
    have b1 := depth_kv e2
    refine ⟨v0, .inl ⟨kvs, .inr x, .inr ⟨od, sm _ _ ea⟩, rfl, (valV_at nd hk).symm⟩, _, rfl, d, f', t.same sm, (okKv_get ok.2 e2).2, by simp only [PyData.depth] at dep; omega, fun v' fp' G2 C => ?_⟩
    have eL2 := C.sm _ _ eL
    have nL : ∀ ys, G2 L ≠ some (.tup ys) := fun ys z => by rw [eL2] at z; cases z
    have fL : L ∉ fp' := fun z => by rw [C.nw L z] at eL; cases eL
    have la : acc.length = i := by have := congrArg List.length ek; simp at this; omega
    have kn : (.inr x : Key) ∉ acc.map (·.1) := fun z => by
      rw [ek] at z
      obtain ⟨j, hj, ej⟩ := List.getElem_of_mem z
      simp at hj
      have h1 : (kvs.map (·.1))[j]? = some (.inr x) := by
        simp only [List.getElem_take] at ej
        rw [List.getElem?_eq_getElem (by simp; omega), ej]
      have h2 : (kvs.map (·.1))[i]? = some (.inr x) := by rw [List.getElem?_map, hk]; rfl
      have hj' : j < (kvs.map (·.1)).length := by simp; omega
      have hi' : i < (kvs.map (·.1)).length := by simpa using lt
      have := (List.pairwise_iff_getElem.mp nd) j i hj' hi' (by omega)
      rw [List.getElem?_eq_getElem hj'] at h1
      rw [List.getElem?_eq_getElem hi'] at h2
      exact this ((Option.some.inj h1).trans (Option.some.inj h2).symm)
    have ep := putK_new (v := v') kn
    have kL : ∀ c o, c ≠ L → G2 c = some o → upd G2 L (.dK (acc ++ [(.inr x, v')])) c = some o := fun c o n z => by rw [upd_ne n]; exact z
    refine k (.inr x) v' G2 eL2 (by rw [sizeLine_eq]; omega) ?_
    rw [ep]
    refine ⟨fun b o z => ?_, ?_, fa ++ fp', ?_, fun c hc => ?_⟩
    · have bL : b ≠ L := fun e => by rw [e, hL] at z; cases z
      rw [upd_ne bL]; exact C.sm _ _ (sm _ _ z)
    · rw [List.map_append, ek, List.take_add_one]
      simp [hk]
    · have e3 : D.take (i + 1) = D.take i ++ [(.str x, d)] := by rw [List.take_add_one]; simp [e2]
      rw [e3]
      exact TrD.snoc (C.tr.but nL kL fL) ((ta.same C.sm).but nL kL fun z => (nfa L z).2 rfl)
    · rcases List.mem_append.mp hc with h | h
      · exact nfa c h
      · refine ⟨?_, fun e => fL (e ▸ h)⟩
        cases e : H1 c with
        | none => rfl
        | some o => have := sm _ _ e; rw [C.nw c h] at this; cases this
  · obtain ⟨sm, ek, fa, ta, nfa⟩ := P
    rw [List.take_of_length_le (by omega)] at ta
    rw [List.take_of_length_le (by simp)] at ek
    have eaG := sm _ _ ea
    have La := hn1 L hL
    have af : m ∉ fa := fun z => by have := (nfa m z).1; rw [ea] at this; cases this
    have ka : ∀ c o, c ≠ m → G c = some o → upd G m (.dK kvs) c = some o := fun c o n z => by rw [upd_ne n]; exact z
    have sG := hu G sm
    have tG : TrD (upd G m (.dK kvs)) acc D fa := ta.but (fun ys z => by rw [eaG] at z; cases z) ka af
    have eL' : upd G m (.dK kvs) L = some (.dK acc) := by rw [upd_ne La.1]; exact eL
    have fr : ∀ c ∈ fa, H c = none := fun c hc => (hn1 c (nfa c hc).1).2
    have Lf : L ∉ fa := fun z => (nfa L z).2 rfl
    have nda : (acc.map (·.1)).Nodup := by rw [ek]; exact nd
    refine ⟨eaG, ?_⟩
    generalize upd G m (.dK kvs) = G0 at sG tG eL' ⊢
    refine ⟨⟨_, SqL.of (sG _ _ ha)⟩, ?_⟩
    have lpr := paired_len pr
    refine for_by vs.length (fun i σ X => (∃ r w3 w4, σ = [some (.ref m), some (.ref a), some (.ref r), w3, w4] ∧ Same H X ∧ H r = none ∧ ∃ ac fc, X r = some (.dK ac) ∧ TrD X ac (apDs D (dds.take i)) fc ∧ (∀ c ∈ fc, H c = none) ∧ r ∉ fc ∧ (ac.map (·.1)).Nodup ∧ ac.length ≤ D.length + i))
      ⟨L, _, _, rfl, sG, La.2, acc, fa, eL', tG, fr, Lf, nda, by rw [tG.len]; simp⟩ (fun i σ X lt P => ?_) (fun σ X P => ?_) (fun i σ X x X' lt P yl => ?_) (fun σ X P => ?_)
    · obtain ⟨r, w3, w4, rfl, sX, _⟩ := P
      exact ⟨_, vs[i], SqL.of (sX _ _ ha), by simp [lt]⟩
    · obtain ⟨r, w3, w4, rfl, sX, _⟩ := P
      exact ⟨_, SqL.of (sX _ _ ha), Nat.le_refl _⟩
    · obtain ⟨r, w3, w4, rfl, sX, hr0, ac, fc, er, tX, ff, rf, ndc, lc⟩ := P
      obtain ⟨rfl, hx⟩ := yl
      have hx := hx _ (SqL.of (sX _ _ ha))
      obtain ⟨dd, e2, hdd⟩ := pairedO pr hx
      have hdd := hdd.same sX
      have etk : apDs D (dds.take (i + 1)) = apD (apDs D (dds.take i)) dd := by
        rw [List.take_add_one, e2, apDs, apDs, List.foldl_append]; rfl
      rw [etk]
      generalize apDs D (dds.take i) = D1 at tX ⊢
      cases dd with
      | put z d =>
        obtain ⟨t, w, f', rfl, et, tw, okd, dd8⟩ := hdd
        walk_at "sx"
        refine ⟨_, .inr (SqT.of et), _, rfl, ?_⟩
        rw [RS.eq_ss]
        refine ⟨_, rfl, ?_⟩
        rw [if_pos (by simp)]
        refine ⟨_, .inr (SqT.of et), w, rfl, ?_⟩
        refine ⟨_, rfl, d, f', tw, okd, dd8, fun v' fp' G2 C => ?_⟩
        refine ⟨_, .inr (SqT.of (C.sm _ _ et)), .str z, rfl, ?_⟩
        have er2 := C.sm _ _ er
        have lz : ac.length < sizeLine := by rw [sizeLine_eq]; omega
        obtain ⟨fc', t', kf⟩ := trD_put (x := z) C.tr (tX.same C.sm) ndc
        have rf' : r ∉ fc' := fun c => (kf r c).elim rf fun c => by have := C.nw r c; rw [er] at this; cases this
        have sH : Same H (upd G2 r (.dK (putK ac (.inr z) v'))) := fun b o e => by
          have nb : b ≠ r := fun q => by rw [q, hr0] at e; cases e
          rw [upd_ne nb]; exact C.sm _ _ (sX _ _ e)
        refine ⟨_, DPut.k (k := .inr z) er2 lz, sH, hr0, _, upd_same, fc', t'.but (p := r) (fun ys e => by rw [er2] at e; cases e) (fun c o n e => by rw [upd_ne n]; exact e) rf', fun c hc => ?_, rf', nd_put (trD_keys tX) ndc, by have := length_putK ac (.inr z) v'; omega⟩
        rcases kf c hc with e | e
        · exact ff c e
        · cases e3 : H c with
          | none => rfl
          | some o => have := sX _ _ e3; rw [C.nw c e] at this; cases this
      | drop z =>
        obtain ⟨t, rfl, et⟩ := hdd
        walk_at "sx"
        refine ⟨_, .inr (SqT.of et), _, rfl, ?_⟩
        rw [RS.eq_ss]
        refine ⟨_, rfl, ?_⟩
        rw [if_neg (by decide +kernel)]
        refine ⟨r, _, er, True.intro, fun od => ⟨od, .inl ⟨ac, upd_same, ?_⟩⟩⟩
        have ea : upd X' r (.frz od (.dK ac)) r = some (.frz od (.dK ac)) := upd_same
        have hu : ∀ G, Same (upd X' r (.frz od (.dK ac))) G → Same X' (upd G r (.dK ac)) := fun G sm => unlock er sm
        have hn1 : ∀ b, upd X' r (.frz od (.dK ac)) b = none → b ≠ r ∧ X' b = none := fun b z => fresh_lock z
        have et2 : upd X' r (.frz od (.dK ac)) t = some (HO.tup [V.str (Str.ofString "drop"), V.str z]) := by
          rw [upd_ne (fun q => by rw [q, er] at et; cases et)]; exact et
        generalize upd X' r (.frz od (.dK ac)) = H2 at ea hu hn1 et2 ⊢
        refine dc_invB ac.length (fun L j acc G => Same H2 G ∧ acc = (ac.take j).filter fun p => decide (p.1 ≠ .inr z)) (fun L hL => ⟨same_upd hL, rfl⟩) (fun L j acc G hL lt P => ⟨P.1 _ _ ea, lt⟩) (fun L acc G hL P => ⟨P.1 _ _ ea, Nat.le_refl _⟩) (fun L j acc G x G' K N hL lt P eL y k kn => ?_) (fun L acc G hL P eL => ?_)
        · obtain ⟨sm, ek⟩ := P
          obtain ⟨rfl, k0, v0, hk, rfl⟩ := y
          obtain ⟨x, v, d, f', e1, _, _, _⟩ := tX.get lt
          rw [hk] at e1
          cases e1
          have tk : (ac.take (j + 1)).filter (fun p => decide (p.1 ≠ .inr z)) = acc ++ if x = z then [] else [(.inr x, v0)] := by
            rw [List.take_add_one, hk, List.filter_append, ← ek]
            congr 1
            by_cases e : x = z <;> simp [e]
          refine ⟨rfl, ?_⟩
          simp only [kV, tRet, tRetN, tSeq, C8.tCut, tNext, tAsg, gName, gNil, gCons, gTup, gFld, tIfS, tIf, tAndV, tOrV, tNotV, tAnd, tOr, tNot, tB, tTest, tOp, tUn, tCB, tCons, tNil, tVar, tC, tChain, tDrop, RS.tCallG, RS.tMethG, tMakeG, RS.tCallK, RS.tMakeK, tEqOwn, rI, rI0, rU, add_ii, add_ss, add_rr, mul_ii, mul_si, mul_ri, RS.eq_ii, RS.eq_ss, eq_bb, eq_nn, eq_sn, eq_ns, eq_in, eq_ni, eq_bn, eq_nb, eq_is, eq_si, eq_rr, ne_ii, ne_ss, ne_bb, ne_nn, ne_sn, ne_ns, ne_in, ne_ni, ne_is, ne_si, ne_rr, in_ss, in_r, nin_ss, nin_r, len_s, len_r, RS.ix_s, RS.ix_r, sl_s, sl_r, is_eq, tyN_n, tyN_b, tyN_i, tyN_s, tru_b, tru_i, tru_n, tSl, tPart, tNoPart, tPar, tPar3, tFmtZ, tFmt, tJs, tDGet, sDPut, sFld, tFld, tTup, tLst, tNever, isB,
  L2.start, List.map_cons, List.map_nil, List.length_cons, List.length_nil, Nat.reduceAdd, Nat.reduceSub, Nat.sub_self, List.replicate_zero, List.replicate_succ, List.append_nil, List.cons_append, List.nil_append, List.getElem?_cons_zero, List.getElem?_cons_succ, List.set_cons_zero, List.set_cons_succ, Option.some.injEq, exists_eq_left, exists_eq_left', exists_and_left, V.bl.injEq, V.int.injEq, V.str.injEq, V.ref.injEq, beq_self_eq_true, Bool.true_or, Bool.or_true, Bool.false_or, Bool.or_false, Bool.and_false, Bool.false_and, Bool.true_and, Bool.and_true, Bool.not_true, Bool.not_false, Bool.false_eq_true, if_true, if_false, ite_true, ite_false, true_and, and_true, and_assoc, String.reduceBEq, String.reduceEq, reduceIte, Bool.and_self, reduceCtorEq, false_and, and_false, exists_false, or_false, false_or, exists_const, iEnumS, iStr, iList, iTup, iRng1, iEnum, tFor_eq, tLc_eq, List.cons.injEq, wipe, not_true_eq_false, not_false_eq_true, upd_same, HO.ins.injEq, HO.tup.injEq, HO.lst.injEq, ofS_eq, lk_nil, lk_cons, pu_nil, pu_cons, sizeLine_eq, Nat.reduceLT, Nat.reduceLeDiff, Nat.reduceEqDiff, Nat.le_refl, decide_true, decide_false, tPr, dget_us, dput_us, vv_nil, vv_cons, RS.pk_nil, pk_one, RS.pk_cons, inr_eq, tDisp, tPairs, tBoolOwn, rBoolOwn, tBM, rAppend, ty_list, ty_str, rEqOwn, iEnumT, RS.tCallS, tM1, tDc_eq, tLock, tLockE, iKeys, tListEnum, rUpdate, tMkX0, tMkX1, tXfv, gSub, rSetL, List.getD_cons_zero, List.getD_cons_succ, tBreak, tCMethS, ClX.tCVal, tXfa, tIxOwn, tInOwn, tPropG, tMethK, tMethP, tListGen, tDGet2, tDPop2, rNeD0, intA_i, intA_b, tRevL, sFldAug, tPm0, tPm1, tDIn, tDNotIn, tDNewK, RS.tMethS, tForK, tKM, tKC, tLcK, tKM2, tKC2, tMethStar, tKCK2, tLk, tAug, ipI, tDig, tLcX, tKMX, tKCX]
          refine ⟨_, .inr (SqT.of (sm _ _ et2)), _, rfl, ?_⟩
          rw [RS.ne_ss]
          refine ⟨_, rfl, ?_⟩
          by_cases e : x = z
          · rw [if_neg (by simp [e])]
            exact kn G' eL ⟨sm, by rw [tk, if_pos e, List.append_nil]⟩
          · rw [if_pos (by simp [e])]
            refine ⟨v0, .inl ⟨ac, .inr x, .inr ⟨od, sm _ _ ea⟩, rfl, (valV_at ndc hk).symm⟩, ?_⟩
            have nk : (.inr x : Key) ∉ acc.map (·.1) := fun q => by
              obtain ⟨pr, hp, e5⟩ := List.mem_map.mp q
              rw [ek] at hp
              obtain ⟨j', hj, ej⟩ := List.getElem_of_mem (List.mem_filter.mp hp).1
              rw [List.length_take] at hj
              have hj' : j' < (ac.map (·.1)).length := by rw [List.length_map]; omega
              have hi' : j < (ac.map (·.1)).length := by rw [List.length_map]; exact lt
              have z1 := (List.pairwise_iff_getElem.mp ndc) j' j hj' hi' (by omega)
              have h2 : (ac.map (·.1))[j]? = some (.inr x) := by rw [List.getElem?_map, hk]; rfl
              rw [List.getElem?_eq_getElem hi'] at h2
              have h1 : (ac.map (·.1))[j'] = .inr x := by
                rw [List.getElem_take] at ej
                rw [List.getElem_map, ej]; exact e5
              exact z1 (h1.trans (Option.some.inj h2).symm)
            have ep := putK_new (v := v0) nk
            have lac : acc.length ≤ ac.length := by
              rw [ek]
              have a1 := List.length_filter_le (fun p : Key × V => decide (p.1 ≠ .inr z)) (ac.take j)
              rw [List.length_take] at a1
              omega
            refine k (.inr x) v0 G' eL (by rw [sizeLine_eq]; omega) ?_
            rw [ep]
            refine ⟨fun b o q => ?_, by rw [tk, if_neg e]⟩
            have bL : b ≠ L := fun e6 => by rw [e6, hL] at q; cases q
            rw [upd_ne bL]; exact sm _ _ q
        · obtain ⟨sm, ek⟩ := P
          rw [List.take_of_length_le (Nat.le_refl _)] at ek
          subst ek
          obtain ⟨fc', t', kf⟩ := trD_drop (x := z) tX
          have eaG := sm _ _ ea
          have La := hn1 L hL
          have sG := hu G sm
          have nL0 : H L = none := by
            cases e3 : H L with
            | none => rfl
            | some o => have := sX _ _ e3; rw [La.2] at this; cases this
          refine ⟨eaG, L, rfl, sX.trans sG, nL0, _, by rw [upd_ne La.1]; exact eL, fc', t'.same sG, fun c hc => ff c (kf c hc), fun hc => ?_, List.Pairwise.sublist (List.Sublist.map _ List.filter_sublist) ndc, ?_⟩
          · rcases tX.there L (kf L hc) with ⟨_, e⟩ | ⟨_, e⟩ <;> (rw [La.2] at e; cases e)
          · have := List.length_filter_le (fun p : Key × V => decide (p.1 ≠ .inr z)) ac
            omega
    · obtain ⟨r, w3, w4, rfl, sX, hr0, ac, fc, er, tX, ff, rf, ndc, lc⟩ := P
      rw [List.take_of_length_le (by omega)] at tX
      walk_at "sx"
      exact q r X (r :: fc) sX (.dct er tX rf ndc) fun c hc => (List.mem_cons.mp hc).elim (fun e => e ▸ hr0) (ff c)
end
def dropsM (B P : List (PyData × PyData)) : List Dd := ((keysOf B).filter fun x => decide (x ∉ keysOf P)).map Dd.drop
def putsG (B O P D : List (PyData × PyData)) : List Dd := D.filterMap fun p => match p.1 with
  | .str x => if hasC B P x && !hasC B O x then some (.put x p.2) else none
  | _ => none
def putsM (B O P : List (PyData × PyData)) : List Dd := putsG B O P P
theorem putsG_step {B O P D : List (PyData × PyData)} {i : Nat} {x : Str} {d : PyData} (e : D[i]? = some (.str x, d)) : putsG B O P (D.take (i + 1)) = putsG B O P (D.take i) ++ if hasC B P x && !hasC B O x then [.put x d] else [] := by
  unfold putsG
  rw [List.take_add_one, e, List.filterMap_append]
  congr 1
  cases c1 : hasC B P x <;> cases c2 : hasC B O x <;> simp [c1, c2]
theorem puts_len (B O P D : List (PyData × PyData)) : (putsG B O P D).length ≤ D.length := List.length_filterMap_le _ _
theorem lockR {H : Hp} {v : V} {D : List (PyData × PyData)} {fp : List Addr} {a : Addr} {kv : List (Key × V)} {od : Obj} (hm : MapAt H v D fp) (e : H a = some (.dK kv)) (n : v = .ref a ∨ a ∉ fp) : ∃ f', MapR (upd H a (.frz od (.dK kv))) v D f' := by
  obtain ⟨tr, ok, dep, key, small⟩ := hm
  cases tr with
  | @dct b ks _ f1 h hs na nd =>
    have hs' : a ∉ f1 → TrD (upd H a (.frz od (.dK kv))) _ D f1 := fun z => hs.but (p := a) (fun xs q => by rw [e] at q; cases q) (fun c o n q => by rw [upd_ne n]; exact q) z
    by_cases q : b = a
    · subst q
      rw [h] at e
      cases e
      exact ⟨f1, ⟨b, _, rfl, .inr ⟨od, upd_same⟩, hs' na, nd⟩, ok, dep, key, small⟩
    · have n2 : a ∉ b :: f1 := n.elim (fun z => absurd (by cases z; rfl) q) id
      exact ⟨f1, ⟨b, ks, rfl, .inl (by rw [upd_ne q]; exact h), hs' (fun z => n2 (List.mem_cons_of_mem _ z)), nd⟩, ok, dep, key, small⟩
theorem keys_some {kvs : List (Key × V)} {ks : List Str} {x : Str} (h : kvs.map (·.1) = ks.map Sum.inr) : (valV kvs (.inr x)).isSome = decide (x ∈ ks) := by
  rw [← valV_any, show (kvs.any fun kv => decide (kv.1 = .inr x)) = (kvs.map (·.1)).any fun k => decide (k = .inr x) from by rw [List.any_map]; rfl, h, Bool.eq_iff_iff]
  simp
theorem paired_snoc {α β : Type} {F : α → β → Prop} {x : α} {y : β} (h : F x y) : ∀ {xs : List α} {ys : List β}, Paired F xs ys → Paired F (xs ++ [x]) (ys ++ [y])
  | _, _, .nil => .cons h .nil
  | _, _, .cons a b => .cons a (paired_snoc h b)
theorem paired_imp {α β : Type} {F G : α → β → Prop} (k : ∀ x y, F x y → G x y) : ∀ {xs : List α} {ys : List β}, Paired F xs ys → Paired G xs ys
  | _, _, .nil => .nil
  | _, _, .cons a b => .cons (k _ _ a) (paired_imp k b)
/-- a deed whose value stood in G already -/
def DdG (G X : Hp) (v : V) : Dd → Prop
  | .put x d => ∃ t w f, v = .ref t ∧ X t = some (.tup [.str "put", .str x, w]) ∧ Tr G w d f ∧ okB d = true ∧ d.depth < 8
  | .drop x => ∃ t, v = .ref t ∧ X t = some (.tup [.str "drop", .str x])
theorem DdG.keep {G X Y : Hp} (k : ∀ c xs, X c = some (.tup xs) → Y c = some (.tup xs)) {v : V} {dd : Dd} (h : DdG G X v dd) : DdG G Y v dd := by
  cases dd with
  | put x d => obtain ⟨t, w, f, a, b, c⟩ := h; exact ⟨t, w, f, a, k _ _ b, c⟩
  | drop x => obtain ⟨t, a, b⟩ := h; exact ⟨t, a, k _ _ b⟩
theorem DdG.at {G X : Hp} (s : Same G X) {v : V} {dd : Dd} (h : DdG G X v dd) : DdAt X v dd := by
  cases dd with
  | put x d => obtain ⟨t, w, f, a, b, c, e⟩ := h; exact ⟨t, w, f, a, b, c.same s, e⟩
  | drop x => exact h
/-- a list grows behind a new tuple: the other tuples stay -/
theorem keep_grow {X : Hp} {t L : Addr} {u o : HO} {ac : List V} (ht : X t = none) (eL : X L = some (.lst ac)) : ∀ c xs, X c = some (.tup xs) → upd (upd X t u) L o c = some (.tup xs) := fun c xs e => by
  have n1 : c ≠ L := fun z => by rw [z, eL] at e; cases e
  have n2 : c ≠ t := fun z => by rw [z, ht] at e; cases e
  rw [upd_ne n1, upd_ne n2]; exact e
section
variable {g : Wd} {f : Addr} {fd : FuncData} {CX : Addr}
theorem sc_merged : FnScope ["base", "one", "other", "found", "deeds", "key"] ["base", "one", "other"] (defScope s_merged) := ⟨rfl, rfl, rfl, by decide +kernel, rfl, by decide +kernel, by decide +kernel⟩
def sp_merged (CX : Addr) : Sp := S3 fun b o p H Q E => ∃ B O P fb fo fp, MapAt H b B fb ∧ MapAt H o O fo ∧ MapAt H p P fp ∧ B.length + O.length + P.length < 64 ∧ (∀ a, p = .ref a → b = p ∨ a ∉ fb) ∧ (∀ a, p = .ref a → o = p ∨ a ∉ fo) ∧
  ∀ ys, ys.Perm (allK B O P) → PyProof.Rows.sortedS ys = true →
    (ys.filter (isC B O P) = [] → ∀ r G fr, Same H G → Tr G (.ref r) (.dict (apDs O (dropsM B P ++ putsM B O P))) fr → (∀ c ∈ fr, H c = none) → Q (.ref r) G) ∧
    (ys.filter (isC B O P) ≠ [] → ∀ G t dy, Same H G → G t = some (.tup ((ys.filter (isC B O P)).map V.str)) → G dy = none → E (.ref CX) (some dy) (upd G dy (.xd [("given", .ref t)])))
theorem ok_merged (F : Df g.K "merged" "merged" s_merged f fd .none) (T : Txt g) (F_check_mappings : KnS g "check_mappings" 12 (spS 0 sp_cmaps)) (F_all_conflicts : Kn g "all_conflicts" 12 ["base", "one", "other"] [] sp_allc) (F_has_changed : Kn g "has_changed" 11 ["base", "one", "key"] [] sp_hasc)
    (F_applied : Kn g "applied" 12 ["mapping", "deeds"] [] sp_applied) (X_Conflict : XK1 g "Conflict" CX "given") (RI : PySem.W.subIn g.K (.ref CX) (.type "BaseException") = some true ∧ PySem.W.typeIn g.K (.ref CX) = some (.type "type")) : FnG g 13 f fd ["base", "one", "other"] (sp_merged CX) := by
  refine F.ok sc_merged (fun vs H Q E h => S3.len h) (fun cdv A outer s H vs Q E hr h => ?_)
  obtain ⟨b, o, p, rfl, B, O, P, fb, fo, fp, hB, hO, hP, hl, nB, nO, h⟩ := h
  have R_Conflict := raises_own (X := cx g ["base", "one", "other", "found", "deeds", "key"] "merged" s_merged f cdv A outer s H E) RI.1 RI.2
  refine ⟨_, (pss_cons (ps_expr (pe_callS F_check_mappings (hr.mono (by first | decide | omega)) tkD (pa_cons (pv 0) (pa_cons (pv 1) (pa_cons (pv 2) pa_nil)))))
      (pss_cons (ps_set (i := 3) sc_merged.nd rfl (Or.inl rfl) (pe_callG F_all_conflicts (hr.mono (by first | decide | omega)) tkD (pa_cons (pv 0) (pa_cons (pv 1) (pa_cons (pv 2) pa_nil)))))
      (pss_cons (ps_if (pt_cmpR (op_neE (K := g.K) hr) (pv 3) (pe_lst pa_nil) (nomark _)) (pss_one (ps_raise rfl tkD (pmk_x1 X_Conflict R_Conflict (hr.mono (by first | decide | omega)) (pa_cons (pe_callTy call_tuple_of (by rfl) T.b_tuple bb_tuple (pa_cons (pv 3) pa_nil)) pa_nil)))) pss_nil)
      (pss_cons (ps_lock (ps_setLc (i := 4) (own := [("key", 5)]) rfl sc_merged.nd rfl rfl (sw_true rfl rfl rfl (by decide +kernel)) (pi_keys (pv 0)) (blkOk_by (own := [("key", 5)]) (N := ["base", "one", "other", "found", "deeds", "key"]) (sc := defScope s_merged) (by decide +kernel)) (fun _ _ _ _ _ => (pg_name (i := 5) sc_merged.nd rfl (.inl rfl))) (fun _ _ _ _ _ => (pts_one (pt_cmp (pc_dnotin (hu_of (Rm.mk hr.room hr.gd).room) (pv 5) (pv 2)) (by rfl)))) (fun _ _ _ _ _ => (pe_tup (pa_cons pe_str (pa_cons (pv 5) pa_nil))))))
      (pss_cons (ps_lock (ps_for psD rfl (pi_keys (pv 2)) (pg_name (i := 5) sc_merged.nd rfl (.inl rfl)) (pss_one (ps_if (PW.pt (pw_and (pt_val (pe_callG F_has_changed (hr.mono (by first | decide | omega)) tkD (pa_cons (pv 0) (pa_cons (pv 2) (pa_cons (pv 5) pa_nil))))) (pw_and1 (pt_not (pt_val (pe_callG F_has_changed (hr.mono (by first | decide | omega)) tkD (pa_cons (pv 0) (pa_cons (pv 1) (pa_cons (pv 5) pa_nil))))))))) (pss_one (ps_expr (e_bm (K := g.K) PySem.F.plainAttrs_list PySem.F.slot_list_append PySem.F.type_list_append mt_append (pv 4) (pa_cons (pe_tup (pa_cons pe_str (pa_cons (pv 5) (pa_cons (pe_dget (hu_of hr.room) (pv 2) (pv 5) (fun _ _ => rfl)) pa_nil)))) pa_nil)))) pss_nil))))
      (pss_one (ps_ret (pe_callG F_applied (hr.mono (by first | decide | omega)) tkD (pa_cons (pv 1) (pa_cons (pv 4) pa_nil)))))))))), ?_⟩
  walk_at "sx"
  refine ⟨[], _, rfl, rfl, by simp [sizeLine_eq], fun a ha => ?_⟩
  have s1 := same_upd (o := HO.tup [b, o, p]) ha
  refine ⟨_, rfl, a, _, [B, O, P], rfl, upd_same, .cons ⟨_, hB.same s1⟩ (.cons ⟨_, hO.same s1⟩ (.cons ⟨_, hP.same s1⟩ .nil)), by simp, fun H1 t1 => ?_⟩
  have s2 := s1.trans t1
  refine ⟨_, _, _, rfl, B, O, P, _, _, _, hB.same s2, hO.same s2, hP.same s2, hl, fun ys l H2 perm srt t2 hn hl2 => ?_⟩
  have h := h ys perm srt
  have s3 := s2.trans t2
  dsimp only
  intro e he
  have s4 : Same H (upd H2 e (.lst [])) := s3.trans (same_upd he)
  have el : upd H2 e (.lst []) l = some (.lst ((ys.filter (isC B O P)).map V.str)) := same_upd he _ _ hl2
  have ee : upd H2 e (.lst []) e = some (.lst []) := upd_same
  generalize upd H2 e (.lst []) = G at s4 el ee ⊢
  obtain ⟨h1, h2⟩ := h
  refine ⟨_, _, _, _, rfl, rfl, SqL.of el, SqL.of ee, .inr rfl, ?_⟩
  refine ⟨_, rfl, ?_⟩
  by_cases c : ys.filter (isC B O P) = []
  · rw [if_neg (by rw [c]; decide)]
    have h1 := h1 c
    have hB4 := hB.same s4
    have hP4 := hP.same s4
    have hO4 := hO.same s4
    cases hP4.tr with
    | @dct p kp _ _ eP sP _ ndP =>
    cases hB4.tr with
    | @dct b kb _ _ eB sB _ _ =>
    refine ⟨b, _, eB, True.intro, fun od => ⟨b, rfl, od, .inl ⟨kb, upd_same, ?_⟩⟩⟩
    have rP : Rd (upd G b (.frz od (.dK kb))) p (.dK kp) := by
      by_cases q : p = b
      · subst q
        rw [eP] at eB; cases eB
        exact .inr ⟨od, upd_same⟩
      · exact .inl (by rw [upd_ne q]; exact eP)
    have ea : upd G b (.frz od (.dK kb)) b = some (.frz od (.dK kb)) := upd_same
    have hu : ∀ X, Same (upd G b (.frz od (.dK kb))) X → Same G (upd X b (.dK kb)) := fun X sm => unlock eB sm
    have hn1 : ∀ c, upd G b (.frz od (.dK kb)) c = none → c ≠ b ∧ G c = none := fun c z => fresh_lock z
    generalize upd G b (.frz od (.dK kb)) = H3 at rP ea hu hn1 ⊢
    have kB := trD_keys sB
    have kP := trD_keys sP
    have lB : kb.length = (keysOf B).length := by have := congrArg List.length kB; simpa using this
    have lB2 := keysOf_len B
    refine lc_inv kb.length (fun L i acc X => Same H3 X ∧ Paired (DdG G X) acc ((((keysOf B).take i).filter fun x => decide (x ∉ keysOf P)).map Dd.drop)) (by rw [sizeLine_eq]; omega) (fun L hL => ⟨same_upd hL, .nil⟩) (fun L i acc X hL lt P => ⟨P.1 _ _ ea, lt⟩) (fun L acc X hL P => ⟨P.1 _ _ ea, Nat.le_refl _⟩) (fun L i acc X x X' K K0 hL lt la Pv eL y k k0 => ?_) (fun L acc X hL Pv eL => ?_)
    · obtain ⟨sm, pr⟩ := Pv
      obtain ⟨rfl, ky, v0, hk, rfl⟩ := y
      obtain ⟨x, hx, e1⟩ : ∃ x, (keysOf B)[i]? = some x ∧ ky = .inr x := by
        have q : (kb.map (·.1))[i]? = some ky := by rw [List.getElem?_map, hk]; rfl
        rw [kB, List.getElem?_map] at q
        cases q2 : (keysOf B)[i]? with
        | none => rw [q2] at q; cases q
        | some x => rw [q2] at q; exact ⟨x, rfl, (Option.some.inj q).symm⟩
      subst e1
      have tk : (((keysOf B).take (i + 1)).filter fun x => decide (x ∉ keysOf P)).map Dd.drop = (((keysOf B).take i).filter fun x => decide (x ∉ keysOf P)).map Dd.drop ++ if x ∈ keysOf P then [] else [Dd.drop x] := by
        rw [List.take_add_one, hx, List.filter_append, List.map_append]
        congr 1
        by_cases q : x ∈ keysOf P <;> simp [q]
      refine ⟨rfl, ?_⟩
      simp only [kV, tRet, tRetN, tSeq, C8.tCut, tNext, tAsg, gName, gNil, gCons, gTup, gFld, tIfS, tIf, tAndV, tOrV, tNotV, tAnd, tOr, tNot, tB, tTest, tOp, tUn, tCB, tCons, tNil, tVar, tC, tChain, tDrop, RS.tCallG, RS.tMethG, tMakeG, RS.tCallK, RS.tMakeK, tEqOwn, rI, rI0, rU, add_ii, add_ss, add_rr, mul_ii, mul_si, mul_ri, RS.eq_ii, RS.eq_ss, eq_bb, eq_nn, eq_sn, eq_ns, eq_in, eq_ni, eq_bn, eq_nb, eq_is, eq_si, eq_rr, ne_ii, ne_ss, ne_bb, ne_nn, ne_sn, ne_ns, ne_in, ne_ni, ne_is, ne_si, ne_rr, in_ss, in_r, nin_ss, nin_r, len_s, len_r, RS.ix_s, RS.ix_r, sl_s, sl_r, is_eq, tyN_n, tyN_b, tyN_i, tyN_s, tru_b, tru_i, tru_n, tSl, tPart, tNoPart, tPar, tPar3, tFmtZ, tFmt, tJs, tDGet, sDPut, sFld, tFld, tTup, tLst, tNever, isB,
  L2.start, List.map_cons, List.map_nil, List.length_cons, List.length_nil, Nat.reduceAdd, Nat.reduceSub, Nat.sub_self, List.replicate_zero, List.replicate_succ, List.append_nil, List.cons_append, List.nil_append, List.getElem?_cons_zero, List.getElem?_cons_succ, List.set_cons_zero, List.set_cons_succ, Option.some.injEq, exists_eq_left, exists_eq_left', exists_and_left, V.bl.injEq, V.int.injEq, V.str.injEq, V.ref.injEq, beq_self_eq_true, Bool.true_or, Bool.or_true, Bool.false_or, Bool.or_false, Bool.and_false, Bool.false_and, Bool.true_and, Bool.and_true, Bool.not_true, Bool.not_false, Bool.false_eq_true, if_true, if_false, ite_true, ite_false, true_and, and_true, and_assoc, String.reduceBEq, String.reduceEq, reduceIte, Bool.and_self, reduceCtorEq, false_and, and_false, exists_false, or_false, false_or, exists_const, iEnumS, iStr, iList, iTup, iRng1, iEnum, tFor_eq, tLc_eq, List.cons.injEq, wipe, not_true_eq_false, not_false_eq_true, upd_same, HO.ins.injEq, HO.tup.injEq, HO.lst.injEq, ofS_eq, lk_nil, lk_cons, pu_nil, pu_cons, sizeLine_eq, Nat.reduceLT, Nat.reduceLeDiff, Nat.reduceEqDiff, Nat.le_refl, decide_true, decide_false, tPr, dget_us, dput_us, vv_nil, vv_cons, RS.pk_nil, pk_one, RS.pk_cons, inr_eq, tDisp, tPairs, tBoolOwn, rBoolOwn, tBM, rAppend, ty_list, ty_str, rEqOwn, iEnumT, RS.tCallS, tM1, tDc_eq, tLock, tLockE, iKeys, tListEnum, rUpdate, tMkX0, tMkX1, tXfv, gSub, rSetL, List.getD_cons_zero, List.getD_cons_succ, tBreak, tCMethS, ClX.tCVal, tXfa, tIxOwn, tInOwn, tPropG, tMethK, tMethP, tListGen, tDGet2, tDPop2, rNeD0, intA_i, intA_b, tRevL, sFldAug, tPm0, tPm1, tDIn, tDNotIn, tDNewK, RS.tMethS, tForK, tKM, tKC, tLcK, tKM2, tKC2, tMethStar, tKCK2, tLk, tAug, ipI, tDig, tLcX, tKMX, tKCX]
      refine ⟨valV kp (.inr x), dget_x (rP.imp (sm _ _) fun ⟨od, z⟩ => ⟨od, sm _ _ z⟩), ?_⟩
      rw [keys_some kP]
      by_cases q : x ∈ keysOf P
      · rw [if_neg (by simp [q])]
        exact k0 _ eL ⟨sm, by rw [tk, if_pos q, List.append_nil]; exact pr⟩
      · rw [if_pos (by simp [q])]
        intro t ht
        have nL : t ≠ L := fun z => by rw [z, eL] at ht; cases ht
        refine k (.ref t) _ (by rw [upd_ne nL.symm]; exact eL) ⟨fun b o e => ?_, ?_⟩
        · have bL : b ≠ L := fun z => by rw [z, hL] at e; cases e
          rw [upd_ne bL]; exact same_upd ht _ _ (sm _ _ e)
        · rw [tk, if_neg q]
          exact paired_snoc ⟨t, rfl, by rw [upd_ne nL]; exact upd_same⟩ (paired_imp (fun _ _ z => z.keep (keep_grow ht eL)) pr)
    · obtain ⟨sm, pr⟩ := Pv
      rw [List.take_of_length_le (by omega)] at pr
      change Paired (DdG G X) acc (dropsM B P) at pr
      have eaX := sm _ _ ea
      have La := hn1 L hL
      have sG := hu X sm
      have prG : Paired (DdG G (upd X b (.dK kb))) acc (dropsM B P) := paired_imp (fun _ _ z => z.keep fun c xs e => by
        have n1 : c ≠ b := fun z => by rw [z, eaX] at e; cases e
        rw [upd_ne n1]; exact e) pr
      have eL0 : upd X b (.dK kb) L = some (.lst acc) := by rw [upd_ne La.1]; exact eL
      refine ⟨eaX, ?_⟩
      generalize upd X b (.dK kb) = G0 at sG prG eL0 ⊢
      refine ⟨p, _, sG _ _ eP, True.intro, fun od2 => ⟨p, rfl, od2, .inl ⟨kp, upd_same, ?_⟩⟩⟩
      have Lp : L ≠ p := fun z => by rw [← z, La.2] at eP; cases eP
      obtain ⟨_, mB⟩ := lockR (od := od2) hB4 eP (nB p rfl)
      obtain ⟨_, mO⟩ := lockR (od := od2) hO4 eP (nO p rfl)
      obtain ⟨_, mP⟩ := lockR (od := od2) hP4 eP (.inl rfl)
      have aL : acc.length ≤ 64 := by
        have a1 := paired_len prG
        have a2 : (dropsM B P).length ≤ (keysOf B).length := by unfold dropsM; rw [List.length_map]; exact List.length_filter_le _ _
        omega
      have lP := sP.len
      have s5 : Same (upd G p (.frz od2 (.dK kp))) (upd G0 p (.frz od2 (.dK kp))) := fun c o e => by
        by_cases q : c = p
        · subst q; rw [upd_same] at e ⊢; exact e
        · rw [upd_ne q] at e ⊢; exact sG _ _ e
      have gL : upd G p (.frz od2 (.dK kp)) L = none := by rw [upd_ne Lp]; exact La.2
      have gp : upd G p (.frz od2 (.dK kp)) p = some (.frz od2 (.dK kp)) := upd_same
      have gG : ∀ Y, Same (upd G p (.frz od2 (.dK kp))) Y → Same G (upd Y p (.dK kp)) := fun Y sm => unlock eP sm
      have e5 : upd G0 p (.frz od2 (.dK kp)) L = some (.lst acc) := by rw [upd_ne Lp]; exact eL0
      have pr5 : Paired (DdG G (upd G0 p (.frz od2 (.dK kp)))) acc (dropsM B P) := paired_imp (fun _ _ z => z.keep fun c xs e => by
        have n1 : c ≠ p := fun z => by rw [z, sG _ _ eP] at e; cases e
        rw [upd_ne n1]; exact e) prG
      generalize upd G p (.frz od2 (.dK kp)) = GL at mB mO mP s5 gL gp gG ⊢
      generalize upd G0 p (.frz od2 (.dK kp)) = H5 at s5 e5 pr5 ⊢
      refine for_by kp.length (fun i σ Y => (∃ z, σ = [some (.ref b), some o, some (.ref p), some (.ref l), some (.ref L), z]) ∧ Same GL Y ∧ ∃ ac, Y L = some (.lst ac) ∧ ac.length ≤ 64 + i ∧ Paired (DdG G Y) ac (dropsM B P ++ putsG B O P (P.take i)))
        ⟨⟨_, rfl⟩, s5, acc, e5, by omega, by simpa [putsG] using pr5⟩ (fun i σ Y lt Pv => ⟨Pv.2.1 _ _ gp, lt⟩) (fun σ Y Pv => ⟨Pv.2.1 _ _ gp, Nat.le_refl _⟩) (fun i σ Y x Y' lt Pv yl => ?_) (fun σ Y Pv => ?_)
      · obtain ⟨⟨z, rfl⟩, sY, ac, eY, lY, pY⟩ := Pv
        obtain ⟨rfl, ky, v0, hk, rfl⟩ := yl
        obtain ⟨x, v, d, f', e1, e2, tv, _⟩ := sP.get lt
        rw [hk] at e1
        cases e1
        simp only [kV, tRet, tRetN, tSeq, C8.tCut, tNext, tAsg, gName, gNil, gCons, gTup, gFld, tIfS, tIf, tAndV, tOrV, tNotV, tAnd, tOr, tNot, tB, tTest, tOp, tUn, tCB, tCons, tNil, tVar, tC, tChain, tDrop, RS.tCallG, RS.tMethG, tMakeG, RS.tCallK, RS.tMakeK, tEqOwn, rI, rI0, rU, add_ii, add_ss, add_rr, mul_ii, mul_si, mul_ri, RS.eq_ii, RS.eq_ss, eq_bb, eq_nn, eq_sn, eq_ns, eq_in, eq_ni, eq_bn, eq_nb, eq_is, eq_si, eq_rr, ne_ii, ne_ss, ne_bb, ne_nn, ne_sn, ne_ns, ne_in, ne_ni, ne_is, ne_si, ne_rr, in_ss, in_r, nin_ss, nin_r, len_s, len_r, RS.ix_s, RS.ix_r, sl_s, sl_r, is_eq, tyN_n, tyN_b, tyN_i, tyN_s, tru_b, tru_i, tru_n, tSl, tPart, tNoPart, tPar, tPar3, tFmtZ, tFmt, tJs, tDGet, sDPut, sFld, tFld, tTup, tLst, tNever, isB,
  L2.start, List.map_cons, List.map_nil, List.length_cons, List.length_nil, Nat.reduceAdd, Nat.reduceSub, Nat.sub_self, List.replicate_zero, List.replicate_succ, List.append_nil, List.cons_append, List.nil_append, List.getElem?_cons_zero, List.getElem?_cons_succ, List.set_cons_zero, List.set_cons_succ, Option.some.injEq, exists_eq_left, exists_eq_left', exists_and_left, V.bl.injEq, V.int.injEq, V.str.injEq, V.ref.injEq, beq_self_eq_true, Bool.true_or, Bool.or_true, Bool.false_or, Bool.or_false, Bool.and_false, Bool.false_and, Bool.true_and, Bool.and_true, Bool.not_true, Bool.not_false, Bool.false_eq_true, if_true, if_false, ite_true, ite_false, true_and, and_true, and_assoc, String.reduceBEq, String.reduceEq, reduceIte, Bool.and_self, reduceCtorEq, false_and, and_false, exists_false, or_false, false_or, exists_const, iEnumS, iStr, iList, iTup, iRng1, iEnum, tFor_eq, tLc_eq, List.cons.injEq, wipe, not_true_eq_false, not_false_eq_true, upd_same, HO.ins.injEq, HO.tup.injEq, HO.lst.injEq, ofS_eq, lk_nil, lk_cons, pu_nil, pu_cons, sizeLine_eq, Nat.reduceLT, Nat.reduceLeDiff, Nat.reduceEqDiff, Nat.le_refl, decide_true, decide_false, tPr, dget_us, dput_us, vv_nil, vv_cons, RS.pk_nil, pk_one, RS.pk_cons, inr_eq, tDisp, tPairs, tBoolOwn, rBoolOwn, tBM, rAppend, ty_list, ty_str, rEqOwn, iEnumT, RS.tCallS, tM1, tDc_eq, tLock, tLockE, iKeys, tListEnum, rUpdate, tMkX0, tMkX1, tXfv, gSub, rSetL, List.getD_cons_zero, List.getD_cons_succ, tBreak, tCMethS, ClX.tCVal, tXfa, tIxOwn, tInOwn, tPropG, tMethK, tMethP, tListGen, tDGet2, tDPop2, rNeD0, intA_i, intA_b, tRevL, sFldAug, tPm0, tPm1, tDIn, tDNotIn, tDNewK, RS.tMethS, tForK, tKM, tKC, tLcK, tKM2, tKC2, tMethStar, tKCK2, tLk, tAug, ipI, tDig, tLcX, tKMX, tKCX]
        have okP := hP.ok
        have dpP := hP.dep
        simp only [okB, Bool.and_eq_true, decide_eq_true_eq] at okP
        simp only [PyData.depth] at dpP
        have dk := depth_kv e2
        have lt2 : i < P.length := (List.getElem?_eq_some_iff.mp e2).1
        have tk := putsG_step (B := B) (O := O) (P := P) e2
        refine ⟨_, _, _, rfl, B, P, _, _, _, mB.same sY, mP.same sY, rfl, fun Y1 t1 => ⟨_, rfl, ?_⟩⟩
        have s6 := sY.trans t1
        cases c1 : hasC B P x with
        | false =>
          rw [if_neg Bool.false_ne_true]
          exact ⟨⟨_, rfl⟩, s6, ac, t1 _ _ eY, by omega, by rw [tk, if_neg (by simp [c1]), List.append_nil]; exact paired_imp (fun _ _ z => z.keep fun c xs e => t1 _ _ e) pY⟩
        | true =>
          rw [if_pos rfl]
          refine ⟨_, _, _, rfl, B, O, _, _, _, mB.same s6, mO.same s6, rfl, fun Y2 t2 => ⟨_, rfl, ?_⟩⟩
          have s7 := s6.trans t2
          have eY2 := t2 _ _ (t1 _ _ eY)
          cases c2 : hasC B O x with
          | true =>
            rw [if_neg (by decide)]
            exact ⟨⟨_, rfl⟩, s7, ac, eY2, by omega, by rw [tk, if_neg (by simp [c2]), List.append_nil]; exact paired_imp (fun _ _ z => z.keep fun c xs e => t2 _ _ (t1 _ _ e)) pY⟩
          | false =>
            rw [if_pos (by decide)]
            refine ⟨⟨_, SqL.of eY2⟩, v0, by rw [← valV_at ndP hk]; exact dget_x (.inr ⟨od2, s7 _ _ gp⟩), fun t ht => ?_⟩
            have nL : t ≠ L := fun z => by rw [z, eY2] at ht; cases ht
            refine ⟨ac, by rw [upd_ne nL.symm]; exact eY2, by omega, ⟨_, rfl⟩, fun b o e => ?_, by simp only [List.length_append, List.length_singleton]; omega, ?_⟩
            · have bL : b ≠ L := fun z => by rw [z, gL] at e; cases e
              rw [upd_ne bL]; exact same_upd ht _ _ (s7 _ _ e)
            · rw [tk, if_pos (by simp [c1, c2]), ← List.append_assoc]
              exact paired_snoc ⟨t, v0, f', rfl, by rw [upd_ne nL]; exact upd_same, tv, (okKv_get okP.2 e2).2, by omega⟩ (paired_imp (fun _ _ z => z.keep (keep_grow ht eY2)) (paired_imp (fun _ _ z => z.keep fun c xs e => t2 _ _ (t1 _ _ e)) pY))
      · obtain ⟨⟨z, rfl⟩, sY, ac, eY, lY, pY⟩ := Pv
        rw [List.take_of_length_le (by omega)] at pY
        walk_at "sx"
        refine ⟨sY _ _ gp, ?_⟩
        have sG1 := gG Y sY
        have l1 := puts_len B O P P
        have l2 : (dropsM B P).length ≤ (keysOf B).length := by unfold dropsM; rw [List.length_map]; exact List.length_filter_le _ _
        have Ygp := sY _ _ gp
        refine ⟨_, _, rfl, O, _, L, ac, _, (hO4.same sG1).tr, hO.ok, by have := hO.dep; omega, rfl, by rw [upd_ne Lp]; exact eY, paired_imp (fun _ _ z => (z.keep fun c xs e => ?_).at sG1) pY, by rw [List.length_append]; omega, fun r X fr sX tX nX => h1 r X fr (s4.trans (sG1.trans sX)) tX fun c hc => ?_⟩
        · cases e : H c with
          | none => rfl
          | some u => have := s4.trans sG1 _ _ e; rw [nX c hc] at this; cases this
        · have n1 : c ≠ p := fun z => by rw [z, Ygp] at e; cases e
          rw [upd_ne n1]; exact e
  · rw [if_pos (by simpa using c)]
    exact ⟨l, rfl, _, .inl ⟨SqL.of el, fun t ht dy hdy => h2 c _ t dy (s4.trans (same_upd ht)) upd_same hdy⟩⟩
end
section
variable {g : Wd} {f : Addr} {fd : FuncData}
theorem sc_l_pick : FnScope ["_law_source_here", "_law_amount", "_law_place", "_law_choice"] ["_law_source_here", "_law_amount"] (defScope s_l_pick) := ⟨rfl, rfl, rfl, by decide +kernel, rfl, by decide +kernel, by decide +kernel⟩
/-- the source at a -/
def Src (H : Hp) (a : Addr) : Prop := ∃ x y : Int, 0 ≤ x ∧ 0 ≤ y ∧ H a = some (.lst [.int x, .int y])
def sp_pick : Sp := S2 fun s n H Q _ => ∃ a m, s = .ref a ∧ Src H a ∧ n = .int m ∧ 0 < m ∧ m < 2 ^ 64 ∧ ∀ x y c : Int, 0 ≤ x → 0 ≤ y → 0 ≤ c → c < m → Q (.int c) (upd H a (.lst [.int x, .int y]))
theorem ok_pick (F : Df g.K "_law_pick" "_law_pick" s_l_pick f fd .none) (T : Txt g) : FnG g 1 f fd ["_law_source_here", "_law_amount"] sp_pick := by
  refine F.ok sc_l_pick (fun vs H Q E h => S2.len h) (fun cdv A outer s H vs Q E hr h => ?_)
  obtain ⟨_, _, rfl, a, m, rfl, ⟨x, y, x0, y0, ha⟩, rfl, m0, m1, q⟩ := h
  refine ⟨_, (pss_cons (ps_set (i := 2) sc_l_pick.nd rfl (Or.inl rfl) (pe_callTy c_intA (by rfl) T.b_int bb_int (pa_cons (pe_cmpR (o_eq (K := g.K) hr) (pe_ix (o_ix (K := g.K)) (pv 0) pe_int (fun _ _ => rfl)) pe_int (nomark _)) pa_nil)))
      (pss_cons (ps_set (i := 3) sc_l_pick.nd rfl (Or.inl rfl) (pe_op op_mod (pe_ix (o_ix (K := g.K)) (pv 0) (pv 2) (fun _ _ => rfl)) (pv 1)))
      (pss_cons (ps_asg ((pe_op op_fdivW (pe_ix (o_ix (K := g.K)) (pv 0) (pv 2) (fun _ _ => rfl)) (pv 1))) (pg_sub (pv 0) (pv 2) set_list))
      (pss_one (ps_ret (pv 3)))))), ?_⟩
  walk_at "sx"
  refine ⟨_, .inl (SqL.of ha), .int x, rfl, ?_⟩
  rw [RS.eq_ii, intA_b]
  have cd : ∀ i, CDivW i m := fun i => ⟨m0, by
    have h2 : m.natAbs < 2 ^ 64 := by omega
    rcases Nat.eq_zero_or_pos m.natAbs with z | z
    · omega
    · have := (Nat.log2_lt (by omega)).mpr h2
      omega⟩
  by_cases e : x = 0
  · rw [if_pos (by simp [e]), RS.ix_r]
    refine ⟨_, .inl (SqL.of ha), .int y, rfl, y, rfl, m0, ?_⟩
    rw [RS.ix_r]
    refine ⟨_, .inl (SqL.of ha), .int y, rfl, y, rfl, cd _, _, 1, rfl, ha, 1, rfl, ?_⟩
    exact q x (y / m) _ x0 (Int.ediv_nonneg y0 (by omega)) (Int.emod_nonneg _ (by omega)) (Int.emod_lt_of_pos _ m0)
  · rw [if_neg (by simp [e]), RS.ix_r]
    refine ⟨_, .inl (SqL.of ha), .int x, rfl, x, rfl, m0, ?_⟩
    rw [RS.ix_r]
    refine ⟨_, .inl (SqL.of ha), .int x, rfl, x, rfl, cd _, _, 0, rfl, ha, 0, rfl, ?_⟩
    exact q (x / m) y _ (Int.ediv_nonneg x0 (by omega)) y0 (Int.emod_nonneg _ (by omega)) (Int.emod_lt_of_pos _ m0)
theorem sc_l_source : FnScope ["_law_script", "_law_k", "_law_cell", "_law_mixed", "_law_step", "_law_more"] ["_law_script", "_law_k"] (defScope s_l_source) := ⟨rfl, rfl, rfl, by decide +kernel, rfl, by decide +kernel, by decide +kernel⟩
def sp_source (K : PySem.W.Frag) : Sp := S2 fun s k H Q _ => ∃ a vs n, s = .ref a ∧ SqL K H a vs ∧ (∀ v ∈ vs, ∃ i, v = .int i) ∧ k = .int (n : Nat) ∧ ∀ r H', Same H H' → H r = none → Src H' r → Q (.ref r) H'
theorem ok_source (F : Df g.K "_law_source" "_law_source" s_l_source f fd .none) (T : Txt g) : FnG g 1 f fd ["_law_script", "_law_k"] (sp_source g.K) := by
  refine F.ok sc_l_source (fun vs H Q E h => S2.len h) (fun cdv A outer s H vs Q E hr h => ?_)
  obtain ⟨_, _, rfl, a, vs, n, rfl, ha, iv, rfl, q⟩ := h
  refine ⟨_, (pss_cons (ps_set (i := 2) sc_l_source.nd rfl (Or.inl rfl) (pe_ifExp (pt_cmpR op_lt (pv 1) (pe_callB (c_len (K := g.K)) (by rfl) T.b_len bb_len (pa_cons (pv 0) pa_nil)) (nomark _)) (pe_op op_mod (pe_ix (o_ix (K := g.K)) (pv 0) (pv 1) (fun _ _ => rfl)) (pe_op o_mul pe_int (pe_op op_pow pe_int pe_int))) pe_int))
      (pss_cons (ps_set (i := 3) sc_l_source.nd rfl (Or.inl rfl) pe_int)
      (pss_cons (ps_for psD rfl (pi_range1 rfl T.b_range (pa_cons pe_int pa_nil)) (pg_name (i := 4) sc_l_source.nd rfl (.inl rfl)) (pss_cons (ps_set (i := 5) sc_l_source.nd rfl (Or.inl rfl) (pe_op op_mod (pe_op (o_add (K := g.K)) (pe_op (o_add (K := g.K)) (pe_op o_mul (pv 2) pe_int) (pe_op o_mul pe_int (pe_op (o_add (K := g.K)) (pv 1) (pe_op o_mul pe_int (pv 4))))) pe_int) pe_int))
      (pss_one (ps_set (i := 3) sc_l_source.nd rfl (Or.inl rfl) (pe_op (o_add (K := g.K)) (pe_op o_mul (pv 3) pe_int) (pe_op op_mod (pe_op (o_add (K := g.K)) (pe_op op_pow (pv 5) pe_int) (pe_op o_mul (pv 4) (pv 5))) pe_int))))))
      (pss_one (ps_ret (pe_lst (pa_cons (pe_op o_mul (pv 2) (pe_callTy c_intA (by rfl) T.b_int bb_int (pa_cons (pe_cmpR op_ge (pv 2) (pe_op op_pow pe_int pe_int) (nomark _)) pa_nil))) (pa_cons (pv 3) pa_nil)))))))), ?_⟩
  walk_at "sx"
  have main : ∀ c : Int, 0 ≤ c → c < 2 * 10 ^ 60 → ForB (Itr 0 (Int.toNat 70)) (gName 4)
      (tSeq (tAsg (tOp (rI (fun x j => 0 < j) fun i j => V.int (i % j)) (tOp (RS.rAdd g.K) (tOp (RS.rAdd g.K) (tOp rMul (tVar 2) (tC (V.int 48271))) (tOp rMul (tC (V.int 7919)) (tOp (RS.rAdd g.K) (tVar 1) (tOp rMul (tC (V.int 64)) (tVar 4))))) (tC (V.int 12345))) (tC (V.int 2147483647))) (gName 5))
        (tAsg (tOp (RS.rAdd g.K) (tOp rMul (tVar 3) (tC (V.int 2147483629))) (tOp (rI (fun x j => 0 < j) fun i j => V.int (i % j)) (tOp (RS.rAdd g.K) (tOp (rI CPow fun i j => V.int (i ^ j.toNat)) (tVar 5) (tC (V.int 5))) (tOp rMul (tVar 4) (tVar 5))) (tC (V.int 2147483629)))) (gName 3)))
      { nx := tRet (tLst (tCons (tOp rMul (tVar 2) (tCB rIntA (tCons (tOp (rI0 fun i j => V.bl (decide (j ≤ i))) (tVar 2) (tOp (rI CPow fun i j => V.int (i ^ j.toNat)) (tC (V.int 10)) (tC (V.int 18)))) tNil))) (tCons (tVar 3) tNil))) { nx := fun x H' => Q V.non H', rt := Q }, rt := Q }
      [some (V.ref a), some (V.int ↑n), some (V.int c), some (V.int 0), none, none] H := by
    intro c c0 c1
    refine for_by 70 (fun i σ G => G = H ∧ ∃ x : Int, ∃ z y, 0 ≤ x ∧ σ = [some (.ref a), some (.int (n : Nat)), some (.int c), some (.int x), z, y]) ⟨rfl, 0, _, _, Int.le_refl _, rfl⟩ (fun i σ G lt P => lt) (fun σ G P => Nat.le_refl _) (fun i σ G x G' lt P yl => ?_) (fun σ G P => ?_)
    · obtain ⟨rfl, x, z, y, x0, rfl⟩ := P
      obtain ⟨rfl, rfl⟩ := yl
      walk_at "sx"
      generalize hr2 : (c * 48271 + 7919 * (↑n + 64 * (0 + ↑i)) + 12345) % 2147483647 = r
      have r0 : 0 ≤ r := by rw [← hr2]; exact Int.emod_nonneg _ (by decide)
      have r1 : r < 2147483647 := by rw [← hr2]; exact Int.emod_lt_of_pos _ (by decide)
      refine ⟨.inr ⟨by decide, by decide⟩, .inl ⟨by decide, by decide⟩, .inl ⟨by decide, by decide⟩, by decide, .inr ⟨by decide, by decide⟩, ⟨by decide, by decide, by omega⟩, .inl ⟨by omega, by omega⟩, by decide, _, ?_, rfl, _, rfl⟩
      exact Int.add_nonneg (Int.mul_nonneg x0 (by decide)) (Int.emod_nonneg _ (by decide))
    · obtain ⟨rfl, x, z, y, x0, rfl⟩ := P
      walk_at "sx"
      refine ⟨⟨by decide, by decide, by decide⟩, .inr (by split <;> decide), fun p hp => q p _ (same_upd hp) hp ⟨_, _, Int.mul_nonneg c0 (by split <;> decide), x0, upd_same⟩⟩
  refine .inl ⟨vs, .inl ha, ?_⟩
  by_cases l : n < vs.length
  · rw [if_pos (by simp; omega)]
    obtain ⟨i, hi⟩ := iv vs[n] (List.getElem_mem l)
    refine ⟨_, .inl ha, vs[n], by unfold atI ixN; rw [if_pos (by omega), if_pos (by omega)]; simp [l], ⟨by decide, by decide, by decide⟩, .inl ⟨by decide, by decide⟩, i, hi, by decide, by decide, by decide, ?_⟩
    exact main _ (Int.emod_nonneg _ (by decide)) (Int.emod_lt_of_pos i (b := 2 * 10 ^ 60) (by decide))
  · rw [if_neg (by simp; omega)]
    exact ⟨by decide, by decide, main 0 (by decide) (by decide)⟩
end
/-- a source was drawn from: nothing else changed -/
structure Dr (a : Addr) (H G : Hp) : Prop where
  ot : ∀ c o, c ≠ a → H c = some o → G c = some o
  src : Src G a
theorem Dr.refl {a : Addr} {H : Hp} (h : Src H a) : Dr a H H := ⟨fun _ _ _ e => e, h⟩
theorem Dr.trans {a : Addr} {H G X : Hp} (h : Dr a H G) (k : Dr a G X) : Dr a H X := ⟨fun c o n e => k.ot c o n (h.ot c o n e), k.src⟩
theorem Dr.pick {a : Addr} {H : Hp} {x y : Int} (hx : 0 ≤ x) (hy : 0 ≤ y) : Dr a H (upd H a (.lst [.int x, .int y])) := ⟨fun c o n e => by rw [upd_ne n]; exact e, ⟨x, y, hx, hy, upd_same⟩⟩
theorem Dr.laid {a p : Addr} {H G : Hp} {o : HO} (h : Dr a H G) (hp : G p = none) : Dr a H (upd G p o) := by
  obtain ⟨x, y, x0, y0, e⟩ := h.src
  have np : a ≠ p := fun z => by rw [z, hp] at e; cases e
  exact ⟨fun c u n q => by
    have q2 := h.ot c u n q
    have nc : c ≠ p := fun z => by rw [z, hp] at q2; cases q2
    rw [upd_ne nc]; exact q2, ⟨x, y, x0, y0, by rw [upd_ne np]; exact e⟩⟩
theorem Dr.grow {a D : Addr} {H H2 G : Hp} {o : HO} (h : Dr a H G) (h2 : Dr a H H2) (hD : H2 D = none) : Dr a H (upd G D o) := by
  obtain ⟨x, y, x0, y0, e⟩ := h.src
  obtain ⟨_, _, _, _, e2⟩ := h2.src
  have nD : a ≠ D := fun z => by rw [z, hD] at e2; cases e2
  refine ⟨fun c u n q => ?_, x, y, x0, y0, by rw [upd_ne nD]; exact e⟩
  have nc : c ≠ D := fun z => by
    have := h2.ot c u n q
    rw [z, hD] at this; cases this
  rw [upd_ne nc]; exact h.ot c u n q
theorem ones_len : ∀ l : List Nat, (List.map (fun x : Str => x.length) (l.map fun c => S [c])).sum = l.length
  | [] => rfl
  | c :: r => by
    rw [List.map_cons, List.map_cons, List.sum_cons, ones_len r, S_len]; simp only [List.length_cons, List.length_nil]; omega
theorem ones_flat : ∀ l : List Nat, (l.map fun c => [c]).flatten = l
  | [] => rfl
  | c :: r => by simp only [List.map_cons, List.flatten_cons, ones_flat r, List.singleton_append]
def signsL : List Nat := [97, 98, 32, 34, 92, 10, 126, 49, 44, 58, 93]
section
variable {g : Wd} {f : Addr} {fd : FuncData}
theorem sc_l_string : FnScope ["_law_source_here", "_law_signs", "_law_many", "_law_turn"] ["_law_source_here"] (defScope s_l_string) := ⟨rfl, rfl, rfl, by decide +kernel, rfl, by decide +kernel, by decide +kernel⟩
def sp_string : Sp := S1 fun s H Q _ => ∃ a, s = .ref a ∧ Src H a ∧ ∀ (l : List Nat) G, l.length ≤ 5 → (∀ c ∈ l, c ∈ signsL) → Dr a H G → Q (.str (S l)) G
theorem ok_string (F : Df g.K "_law_string" "_law_string" s_l_string f fd .none) (T : Txt g) (F_l_pick : Kn g "_law_pick" 1 ["_law_source_here", "_law_amount"] [] sp_pick) : FnG g 2 f fd ["_law_source_here"] sp_string := by
  refine F.ok sc_l_string (fun vs H Q E h => S1.len h) (fun cdv A outer s H vs Q E hr h => ?_)
  obtain ⟨_, rfl, a, rfl, ha, q⟩ := h
  refine ⟨_, (pss_cons (ps_asg (pe_tup (pa_cons pe_str (pa_cons (pe_callG F_l_pick (hr.mono (by first | decide | omega)) tkD (pa_cons (pv 0) (pa_cons pe_int pa_nil))) pa_nil))) (g_tup (K := g.K) (n := 2) (pgs_cons (pg_name (i := 1) sc_l_string.nd rfl (.inr rfl)) (pgs_cons (pg_name (i := 2) sc_l_string.nd rfl (.inl rfl)) pgs_nil))))
      (pss_one (ps_ret (pe_join pe_str (pe_lc (own := [("_law_turn", 3)]) (tt := tYes) rfl sc_l_string.nd (pi_range1 rfl T.b_range (pa_cons (pv 2) pa_nil)) (blkOk_by (own := [("_law_turn", 3)]) (N := ["_law_source_here", "_law_signs", "_law_many", "_law_turn"]) (sc := defScope s_l_string) (by decide +kernel)) (fun _ _ _ _ _ => (pg_name (i := 3) sc_l_string.nd rfl (.inl rfl))) (fun _ _ _ _ _ => pts_nil) (fun _ _ _ _ _ => (pe_ix (o_ix (K := g.K)) (pv 1) (pe_callG F_l_pick (Rm.mono (Rm.mk hr.room hr.gd) (by first | decide | omega)) L2.takes0 (pa_cons (pv 0) (pa_cons pe_int pa_nil))) (fun _ _ => rfl)))))))), ?_⟩
  walk_at "sx"
  refine ⟨_, _, rfl, a, 6, rfl, ha, rfl, by decide, by decide, fun x y m x0 y0 m0 m1 => ?_⟩
  have d1 : Dr a H (upd H a (.lst [.int x, .int y])) := .pick x0 y0
  generalize upd H a (.lst [.int x, .int y]) = H1 at d1 ⊢
  dsimp only
  intro p hp
  have d2 : Dr a H (upd H1 p (.tup [.str "ab \"\\\n~1,:]", .int m])) := d1.laid hp
  have eT : upd H1 p (.tup [.str "ab \"\\\n~1,:]", .int m]) p = some (.tup [.str "ab \"\\\n~1,:]", .int m]) := upd_same
  generalize upd H1 p (.tup [.str "ab \"\\\n~1,:]", .int m]) = H2 at d2 eT ⊢
  refine ⟨_, SqT.of eT, rfl, _, _, rfl, _, _, rfl, rfl, ⟨_, rfl⟩, m, rfl, by omega, by omega, ?_⟩
  refine lc_invA m.toNat (fun D i acc G => Dr a H G ∧ ∃ l : List Nat, acc = (l.map fun c => S [c]).map V.str ∧ l.length = i ∧ ∀ c ∈ l, c ∈ signsL) (by rw [sizeLine_eq]; omega) (fun D hD => ⟨d2.laid hD, [], rfl, rfl, by simp⟩) (fun D i acc G hD lt P => lt) (fun D acc G hD P => Nat.le_refl _) (fun D i acc G x G' K hD lt la P eD y k => ?_) (fun D acc G hD P eD => ?_)
  · obtain ⟨d3, l, rfl, rfl, hl⟩ := P
    obtain ⟨rfl, rfl⟩ := y
    refine ⟨rfl, ?_⟩
    walk_at "sx"
    refine ⟨_, _, rfl, a, 11, rfl, d3.src, rfl, by decide, by decide, fun x y c x0 y0 c0 c1 => ?_⟩
    dsimp only
    have d4 : Dr a H (upd G' a (.lst [.int x, .int y])) := d3.trans (.pick x0 y0)
    have nD : D ≠ a := fun z => by
      obtain ⟨_, _, _, _, e2⟩ := d2.src
      rw [← z, hD] at e2; cases e2
    have eD4 : upd G' a (.lst [.int x, .int y]) D = some (.lst ((l.map fun c => S [c]).map V.str)) := by rw [upd_ne nD]; exact eD
    generalize upd G' a (.lst [.int x, .int y]) = G4 at d4 eD4 ⊢
    rw [show Str.ofString "ab \"\\\n~1,:]" = S signsL from by decide +kernel, RS.ix_s]
    obtain ⟨j, rfl⟩ := Int.eq_ofNat_of_zero_le c0
    have hj : j < signsL.length := by simp only [signsL, List.length_cons, List.length_nil]; omega
    refine ⟨by rw [S_len, sizeLine_eq]; decide, signsL[j], ?_, ?_⟩
    · show atI signsL (j : Int) = _
      unfold atI ixN
      rw [if_pos (by omega), if_pos (by omega)]
      simp [hj]
    · refine k (.str (S [signsL[j]])) _ eD4 ⟨d4.grow d2 hD, l ++ [signsL[j]], by simp, by simp, fun c hc => ?_⟩
      rcases List.mem_append.mp hc with h | h
      · exact hl c h
      · rw [List.mem_singleton] at h
        rw [h]; exact List.getElem_mem hj
  · obtain ⟨d3, l, rfl, hl1, hl⟩ := P
    walk_at "sx"
    refine ⟨_, .inl (SqL.of eD), by rw [ones_len, List.length_map]; rw [show (Str.ofString "").length = 0 from by decide +kernel]; omega, ?_⟩
    rw [show (l.map fun c => S [c]) = (l.map fun c => [c]).map S from by rw [List.map_map]; rfl, join_flat, ones_flat]
    exact q l G (by omega) hl d3
end
/-- a drawn value with up to n levels -/
structure VOk (n : Nat) (d : PyData) : Prop where
  ok : gB d = true
  dep : d.depth ≤ n
theorem vok_none (n : Nat) : VOk n .none := ⟨rfl, Nat.zero_le _⟩
theorem vok_bool (n : Nat) (b : Bool) : VOk n (.bool b) := ⟨rfl, Nat.zero_le _⟩
theorem vok_int (n : Nat) {i : Int} (h : i.natAbs < 10 ^ 18) : VOk n (.int i) := ⟨by simp only [gB, decide_eq_true_eq]; omega, Nat.zero_le _⟩
theorem signs_lt {c : Nat} (h : c ∈ signsL) : c < 128 := (by decide : ∀ c ∈ signsL, c < 128) c h
theorem vok_str (n : Nat) {l : List Nat} (h : l.length ≤ 5) (hs : ∀ c ∈ l, c ∈ signsL) : VOk n (.str (S l)) := ⟨by
  simp only [gB, Bool.and_eq_true, decide_eq_true_eq, S_len]
  refine ⟨by omega, ?_⟩
  unfold asc
  show l.all (fun x => decide (x < 128)) = true
  rw [List.all_eq_true]
  exact fun c hc => by simpa using signs_lt (hs c hc), Nat.zero_le _⟩
theorem depthAll_le {n : Nat} : ∀ {ds : List PyData}, (∀ d ∈ ds, d.depth ≤ n) → PyData.depthAll ds ≤ n
  | [], _ => Nat.zero_le _
  | d :: ds, h => by
    have h1 := h d (List.mem_cons_self ..)
    have h2 := depthAll_le (n := n) fun e he => h e (List.mem_cons_of_mem _ he)
    simp only [PyData.depthAll]; omega
theorem depthKv_le {n : Nat} : ∀ {D : List (PyData × PyData)}, (∀ p ∈ D, p.2.depth ≤ n ∧ p.1.depth ≤ n) → PyData.depthKv D ≤ n
  | [], _ => Nat.zero_le _
  | (k, d) :: D, h => by
    have h1 := h (k, d) (List.mem_cons_self ..)
    have h2 := depthKv_le (n := n) fun e he => h e (List.mem_cons_of_mem _ he)
    simp only at h1
    simp only [PyData.depthKv]; omega
theorem vok_list {n : Nat} {ds : List PyData} (h : ∀ d ∈ ds, VOk n d) (l : ds.length ≤ 16) : VOk (n + 1) (.list ds) := ⟨by
  simp only [gB, Bool.and_eq_true, decide_eq_true_eq]
  exact ⟨l, gAll_mem.mpr fun d hd => (h d hd).ok⟩, by
  have := depthAll_le fun d hd => (h d hd).dep
  simp only [PyData.depth]; omega⟩
theorem vok_tuple {n : Nat} {ds : List PyData} (h : ∀ d ∈ ds, VOk n d) (l : ds.length ≤ 16) : VOk (n + 1) (.tuple ds) := ⟨by
  simp only [gB, Bool.and_eq_true, decide_eq_true_eq]
  exact ⟨l, gAll_mem.mpr fun d hd => (h d hd).ok⟩, by
  have := depthAll_le fun d hd => (h d hd).dep
  simp only [PyData.depth]; omega⟩
theorem gkey_str {k : PyData} (h : gkeyB k = true) : ∃ x, k = .str x := by
  cases k with
  | str x => exact ⟨x, rfl⟩
  | _ => cases h
theorem vok_dict {n : Nat} {D : List (PyData × PyData)} (h : ∀ p ∈ D, gkeyB p.1 = true ∧ VOk n p.2) (l : D.length ≤ 16) : VOk (n + 1) (.dict D) := ⟨by
  simp only [gB, Bool.and_eq_true, decide_eq_true_eq]
  exact ⟨l, gKv_mem.mpr fun d hd => ⟨(h d hd).1, (h d hd).2.ok⟩⟩, by
  have := depthKv_le (n := n) fun p hp => ⟨(h p hp).2.dep, by
    obtain ⟨x, e⟩ := gkey_str (h p hp).1
    rw [e]; exact Nat.zero_le _⟩
  simp only [PyData.depth]; omega⟩
/-- pairs put one behind the other -/
def mrgD (D : List (PyData × PyData)) : List (PyData × PyData) → List (PyData × PyData)
  | [] => D
  | (.str x, d) :: r => mrgD (putD D x d) r
  | _ :: r => mrgD D r
theorem putD_mem {x : Str} {d : PyData} {p : PyData × PyData} : ∀ {D : List (PyData × PyData)}, p ∈ putD D x d → p ∈ D ∨ p = (.str x, d)
  | [], h => .inr (by simpa [putD] using h)
  | q :: r, h => by
    unfold putD at h
    split at h
    · rcases List.mem_cons.mp h with e | e
      · exact .inr e
      · exact .inl (List.mem_cons_of_mem _ e)
    · rcases List.mem_cons.mp h with e | e
      · exact .inl (by rw [e]; exact List.mem_cons_self ..)
      · exact (putD_mem e).imp (List.mem_cons_of_mem _) id
theorem putD_len (x : Str) (d : PyData) : ∀ D : List (PyData × PyData), (putD D x d).length ≤ D.length + 1
  | [] => by simp [putD]
  | q :: r => by
    unfold putD
    split
    · simp
    · have := putD_len x d r
      simp only [List.length_cons]; omega
theorem mrgD_mem {p : PyData × PyData} : ∀ {M D : List (PyData × PyData)}, p ∈ mrgD D M → p ∈ D ∨ p ∈ M
  | [], D, h => .inl h
  | (k, d) :: r, D, h => by
    cases k with
    | str x => exact (mrgD_mem (D := putD D x d) h).elim (fun e => (putD_mem e).imp id fun z => by rw [z]; exact List.mem_cons_self ..) fun e => .inr (List.mem_cons_of_mem _ e)
    | _ => exact (mrgD_mem (M := r) (D := D) h).imp id (List.mem_cons_of_mem _)
theorem mrgD_len : ∀ (M D : List (PyData × PyData)), (mrgD D M).length ≤ D.length + M.length
  | [], D => Nat.le_refl _
  | (k, d) :: r, D => by
    cases k with
    | str x =>
      have h1 := mrgD_len r (putD D x d)
      have h2 := putD_len x d D
      show (mrgD (putD D x d) r).length ≤ _
      simp only [List.length_cons]; omega
    | _ =>
      have h1 := mrgD_len r D
      show (mrgD D r).length ≤ _
      simp only [List.length_cons]; omega
theorem trD_merge {H : Hp} : ∀ {more : List (Key × V)} {M : List (PyData × PyData)} {f2 : List Addr}, TrD H more M f2 → ∀ {kvs : List (Key × V)} {D : List (PyData × PyData)} {fp : List Addr}, TrD H kvs D fp → (kvs.map (·.1)).Nodup →
    ∃ fp', TrD H (mergeK kvs more) (mrgD D M) fp' ∧ (∀ c ∈ fp', c ∈ fp ∨ c ∈ f2) ∧ ((mergeK kvs more).map (·.1)).Nodup
  | _, _, _, .nil, _, _, _, t, nd => ⟨_, t, fun c hc => .inl hc, nd⟩
  | _, _, _, .cons (x := x) (v := v) (d := d) h hs, kvs, D, fp, t, nd => by
    obtain ⟨f1, t1, k1⟩ := trD_put (x := x) h t nd
    obtain ⟨f3, t3, k3, n3⟩ := trD_merge hs t1 (nd_put (trD_keys t) nd)
    exact ⟨f3, t3, fun c hc => (k3 c hc).elim (fun e => (k1 c e).imp id (List.mem_append_left _)) fun e => .inr (List.mem_append_right _ e), n3⟩
theorem Dr.fresh {a c : Addr} {H G : Hp} (h : Dr a H G) (n : G c = none) : H c = none ∧ c ≠ a := by
  obtain ⟨x, y, _, _, e⟩ := h.src
  have nc : c ≠ a := fun z => by rw [z, e] at n; cases n
  cases q : H c with
  | none => exact ⟨rfl, nc⟩
  | some o => have := h.ot c o nc q; rw [n] at this; cases this
theorem Dr.tr {a : Addr} {H G X : Hp} (h : Dr a H G) (k : Dr a G X) {v : V} {d : PyData} {fp : List Addr} (t : Tr G v d fp) (n : a ∉ fp) : Tr X v d fp := by
  obtain ⟨x, y, _, _, e⟩ := h.src
  exact t.but (p := a) (fun xs z => by rw [e] at z; cases z) (fun c o nc q => k.ot c o nc q) n
theorem Dr.trL {a : Addr} {H G X : Hp} (h : Dr a H G) (k : Dr a G X) {v : List V} {d : List PyData} {fp : List Addr} (t : TrL G v d fp) (n : a ∉ fp) : TrL X v d fp := by
  obtain ⟨x, y, _, _, e⟩ := h.src
  exact t.but (p := a) (fun xs z => by rw [e] at z; cases z) (fun c o nc q => k.ot c o nc q) n
theorem Dr.trD {a : Addr} {H G X : Hp} (h : Dr a H G) (k : Dr a G X) {v : List (Key × V)} {d : List (PyData × PyData)} {fp : List Addr} (t : TrD G v d fp) (n : a ∉ fp) : TrD X v d fp := by
  obtain ⟨x, y, _, _, e⟩ := h.src
  exact t.but (p := a) (fun xs z => by rw [e] at z; cases z) (fun c o nc q => k.ot c o nc q) n
theorem Dr.no {a : Addr} {H G : Hp} (h : Dr a H G) {fp : List Addr} (n : ∀ c ∈ fp, G c = none) : a ∉ fp := fun z => (h.fresh (n a z)).2 rfl
section
variable {g : Wd} {f : Addr} {fd : FuncData}
theorem sc_l_value : FnScope ["_law_source_here", "_law_depth", "_law_way", "_law_number", "_law_items", "_law_turn", "_law_item"] ["_law_source_here", "_law_depth"] (defScope s_l_value) := ⟨rfl, rfl, rfl, by decide +kernel, rfl, by decide +kernel, by decide +kernel⟩
/-- m - 1 is the depth that is asked for -/
def sp_value (m : Nat) : Sp := S2 fun s k H Q _ => ∃ a n, m = n + 1 ∧ s = .ref a ∧ Src H a ∧ k = .int (n : Nat) ∧ ∀ v d fp G, Dr a H G → Tr G v d fp → (∀ c ∈ fp, H c = none) → VOk n d → Q v G
theorem ok_value (n : Nat) (F : Df g.K "_law_value" "_law_value" s_l_value f fd .none) (T : Txt g) (F_l_pick : Kn g "_law_pick" 1 ["_law_source_here", "_law_amount"] [] sp_pick) (F_l_string : Kn g "_law_string" 2 ["_law_source_here"] [] sp_string)
    (F_l_value : Kn g "_law_value" (n + 3) ["_law_source_here", "_law_depth"] [] (sp_value n)) : FnG g (n + 4) f fd ["_law_source_here", "_law_depth"] (sp_value (n + 1)) := by
  refine F.ok sc_l_value (fun vs H Q E h => S2.len h) (fun cdv A outer s H vs Q E hr h => ?_)
  obtain ⟨_, _, rfl, a, m, hn, rfl, ha, rfl, q⟩ := h
  obtain rfl : n = m := by omega
  refine ⟨_, (pss_cons (ps_set (i := 2) sc_l_value.nd rfl (Or.inl rfl) (pe_ifExp (pt_cmpR op_gt (pv 1) pe_int (nomark _)) (pe_callG F_l_pick (hr.mono (by first | decide | omega)) tkD (pa_cons (pv 0) (pa_cons pe_int pa_nil))) (pe_callG F_l_pick (hr.mono (by first | decide | omega)) tkD (pa_cons (pv 0) (pa_cons pe_int pa_nil)))))
      (pss_cons (ps_if (pt_cmpR op_lt (pv 2) pe_int (nomark _)) (pss_one (ps_ret (pe_ix (o_ix (K := g.K)) (pe_lst (pa_cons pe_non (pa_cons pe_bl (pa_cons pe_bl pa_nil)))) (pe_callG F_l_pick (hr.mono (by first | decide | omega)) tkD (pa_cons (pv 0) (pa_cons pe_int pa_nil))) (fun _ _ => rfl)))) pss_nil)
      (pss_cons (ps_if (pt_cmpR op_lt (pv 2) pe_int (nomark _)) (pss_cons (ps_set (i := 3) sc_l_value.nd rfl (Or.inl rfl) (pe_callG F_l_pick (hr.mono (by first | decide | omega)) tkD (pa_cons (pv 0) (pa_cons (pe_ix (o_ix (K := g.K)) (pe_lst (pa_cons pe_int (pa_cons pe_int (pa_cons pe_int pa_nil)))) (pe_callG F_l_pick (hr.mono (by first | decide | omega)) tkD (pa_cons (pv 0) (pa_cons pe_int pa_nil))) (fun _ _ => rfl)) pa_nil))))
      (pss_one (ps_ret (pe_ifExp (pt_cmpR (o_eq (K := g.K) hr) (pe_callG F_l_pick (hr.mono (by first | decide | omega)) tkD (pa_cons (pv 0) (pa_cons pe_int pa_nil))) pe_int (nomark _)) (pv 3) (pe_op op_sub pe_int (pv 3)))))) pss_nil)
      (pss_cons (ps_if (pt_cmpR (o_eq (K := g.K) hr) (pv 2) pe_int (nomark _)) (pss_one (ps_ret (pe_callG F_l_string (hr.mono (by first | decide | omega)) tkD (pa_cons (pv 0) pa_nil)))) pss_nil)
      (pss_cons (ps_setLc (i := 4) (own := [("_law_turn", 5)]) (tt := tYes) rfl sc_l_value.nd rfl rfl (sw_true rfl rfl rfl (by decide +kernel)) (pi_range1 rfl T.b_range (pa_cons (pe_callG F_l_pick (hr.mono (by first | decide | omega)) tkD (pa_cons (pv 0) (pa_cons pe_int pa_nil))) pa_nil)) (blkOk_by (own := [("_law_turn", 5)]) (N := ["_law_source_here", "_law_depth", "_law_way", "_law_number", "_law_items", "_law_turn", "_law_item"]) (sc := defScope s_l_value) (by decide +kernel)) (fun _ _ _ _ _ => (pg_name (i := 5) sc_l_value.nd rfl (.inl rfl))) (fun _ _ _ _ _ => pts_nil) (fun _ _ _ _ _ => (pe_callG F_l_value (Rm.mono (Rm.mk hr.room hr.gd) (by first | decide | omega)) L2.takes0 (pa_cons (pv 0) (pa_cons (pe_op op_sub (pv 1) pe_int) pa_nil)))))
      (pss_cons (ps_if (pt_cmpR op_lt (pv 2) pe_int (nomark _)) (pss_one (ps_ret (pe_ifExp (pt_cmpR (o_eq (K := g.K) hr) (pv 2) pe_int (nomark _)) (pv 4) (pe_callTy call_tuple_of (by rfl) T.b_tuple bb_tuple (pa_cons (pv 4) pa_nil))))) pss_nil)
      (pss_one (ps_ret (pe_callTy (call_dictP rfl) (by rfl) T.b_dict bb_dict (pa_cons (pe_lc (own := [("_law_item", 6)]) (tt := tYes) rfl sc_l_value.nd (i_list (K := g.K) (pv 4)) (blkOk_by (own := [("_law_item", 6)]) (N := ["_law_source_here", "_law_depth", "_law_way", "_law_number", "_law_items", "_law_turn", "_law_item"]) (sc := defScope s_l_value) (by decide +kernel)) (fun _ _ _ _ _ => (pg_name (i := 6) sc_l_value.nd rfl (.inl rfl))) (fun _ _ _ _ _ => pts_nil) (fun _ _ _ _ _ => (pe_tup (pa_cons (pe_callG F_l_string (Rm.mono (Rm.mk hr.room hr.gd) (by first | decide | omega)) L2.takes0 (pa_cons (pv 0) pa_nil)) (pa_cons (pv 6) pa_nil))))) pa_nil)))))))))), ?_⟩
  walk_at "sx"
  have two : ∀ {K : VK} {X : XK}, (∀ x y w : Int, 0 ≤ x → 0 ≤ y → 0 ≤ w → w < 9 → (n = 0 → w < 5) → K (.int w) (upd H a (.lst [.int x, .int y]))) → if decide ((0 : Int) < n) = true then sp_pick [V.ref a, V.int 9] H K X else sp_pick [V.ref a, V.int 5] H K X := by
    intro K X h
    split
    · rename_i e
      exact ⟨_, _, rfl, a, 9, rfl, ha, rfl, by decide, by decide, fun x y w x0 y0 w0 w1 => h x y w x0 y0 w0 w1 fun z => by simp [z] at e⟩
    · rename_i e
      exact ⟨_, _, rfl, a, 5, rfl, ha, rfl, by decide, by decide, fun x y w x0 y0 w0 w1 => h x y w x0 y0 w0 (by omega) fun z => w1⟩
  refine two fun x y w x0 y0 w0 w1 w5 => ?_
  have d1 : Dr a H (upd H a (.lst [.int x, .int y])) := .pick x0 y0
  generalize upd H a (.lst [.int x, .int y]) = H1 at d1 ⊢
  have pa : ∀ {p}, H1 p = none → p ≠ a := fun hp z => by
    obtain ⟨_, _, _, _, e⟩ := d1.src
    rw [← z, hp] at e; cases e
  refine ⟨w, rfl, ?_⟩
  by_cases c1 : w < 2
  · rw [if_pos (by simp [c1])]
    intro p hp
    have d2 : Dr a H (upd H1 p (.lst [.non, .bl true, .bl false])) := d1.laid hp
    have ep : upd H1 p (.lst [.non, .bl true, .bl false]) p = some (.lst [.non, .bl true, .bl false]) := upd_same
    generalize upd H1 p (.lst [.non, .bl true, .bl false]) = H2 at d2 ep ⊢
    refine ⟨_, _, rfl, a, 3, rfl, d2.src, rfl, by decide, by decide, fun x y c x0 y0 c0 c1 => ?_⟩
    dsimp only
    have d3 : Dr a H (upd H2 a (.lst [.int x, .int y])) := d2.trans (.pick x0 y0)
    have ep3 : upd H2 a (.lst [.int x, .int y]) p = some (.lst [.non, .bl true, .bl false]) := by rw [upd_ne (pa hp)]; exact ep
    generalize upd H2 a (.lst [.int x, .int y]) = H3 at d3 ep3 ⊢
    rw [RS.ix_r]
    obtain rfl | rfl | rfl : c = 0 ∨ c = 1 ∨ c = 2 := by omega
    · exact ⟨_, .inl (SqL.of ep3), _, rfl, q _ _ [] _ d3 .non (by simp) (vok_none n)⟩
    · exact ⟨_, .inl (SqL.of ep3), _, rfl, q _ _ [] _ d3 (.bl true) (by simp) (vok_bool n true)⟩
    · exact ⟨_, .inl (SqL.of ep3), _, rfl, q _ _ [] _ d3 (.bl false) (by simp) (vok_bool n false)⟩
  rw [if_neg (by simp; omega)]
  refine ⟨w, rfl, ?_⟩
  by_cases c2 : w < 4
  · rw [if_pos (by simp [c2])]
    intro p hp
    have d2 : Dr a H (upd H1 p (.lst [.int 2, .int 1000, .int 1000000000000000000])) := d1.laid hp
    have ep : upd H1 p (.lst [.int 2, .int 1000, .int 1000000000000000000]) p = some (.lst [.int 2, .int 1000, .int 1000000000000000000]) := upd_same
    generalize upd H1 p (.lst [.int 2, .int 1000, .int 1000000000000000000]) = H2 at d2 ep ⊢
    refine ⟨_, _, rfl, a, 3, rfl, d2.src, rfl, by decide, by decide, fun x y c x0 y0 c0 c1 => ?_⟩
    dsimp only
    have d3 : Dr a H (upd H2 a (.lst [.int x, .int y])) := d2.trans (.pick x0 y0)
    have ep3 : upd H2 a (.lst [.int x, .int y]) p = some (.lst [.int 2, .int 1000, .int 1000000000000000000]) := by rw [upd_ne (pa hp)]; exact ep
    generalize upd H2 a (.lst [.int x, .int y]) = H3 at d3 ep3 ⊢
    rw [RS.ix_r]
    have go : ∀ m : Int, 0 < m → m ≤ 10 ^ 18 → sp_pick [V.ref a, .int m] H3 (fun x H1 => sp_pick [V.ref a, V.int 2] H1 (fun x_1 H1 => rEqU g.K x_1 (V.int 0) H1 fun x_2 H' => ∃ k, x_2 = V.bl k ∧ if k = true then Q x H' else ∃ x_3, x = V.int x_3 ∧ Q (V.int (0 - x_3)) H') fun c d H' => E c d H') (fun c d H' => E c d H') := by
      intro m m0 m1
      refine ⟨_, _, rfl, a, m, rfl, d3.src, rfl, m0, by omega, fun x y v x0 y0 v0 v1 => ?_⟩
      have d4 : Dr a H (upd H3 a (.lst [.int x, .int y])) := d3.trans (.pick x0 y0)
      generalize upd H3 a (.lst [.int x, .int y]) = H4 at d4 ⊢
      refine ⟨_, _, rfl, a, 2, rfl, d4.src, rfl, by decide, by decide, fun x y u x0 y0 u0 u1 => ?_⟩
      have d5 : Dr a H (upd H4 a (.lst [.int x, .int y])) := d4.trans (.pick x0 y0)
      generalize upd H4 a (.lst [.int x, .int y]) = H5 at d5 ⊢
      dsimp only
      rw [RS.eq_ii]
      refine ⟨_, rfl, ?_⟩
      by_cases e : u = 0
      · rw [if_pos (by simp [e])]
        exact q _ _ [] _ d5 (.int v) (by simp) (vok_int n (by omega))
      · rw [if_neg (by simp [e])]
        exact ⟨v, rfl, q _ _ [] _ d5 (.int (0 - v)) (by simp) (vok_int n (by omega))⟩
    obtain rfl | rfl | rfl : c = 0 ∨ c = 1 ∨ c = 2 := by omega
    · exact ⟨_, .inl (SqL.of ep3), _, rfl, go 2 (by decide) (by decide)⟩
    · exact ⟨_, .inl (SqL.of ep3), _, rfl, go 1000 (by decide) (by decide)⟩
    · exact ⟨_, .inl (SqL.of ep3), _, rfl, go 1000000000000000000 (by decide) (by decide)⟩
  rw [if_neg (by simp; omega), RS.eq_ii]
  refine ⟨_, rfl, ?_⟩
  by_cases c4 : w = 4
  · rw [if_pos (by simp [c4])]
    exact ⟨_, rfl, a, rfl, d1.src, fun l G hl hs dG => q _ _ [] _ (d1.trans dG) (.str _) (by simp) (vok_str n hl hs)⟩
  rw [if_neg (by simp [c4])]
  obtain ⟨n, rfl⟩ : ∃ m, n = m + 1 := ⟨n - 1, by omega⟩
  refine ⟨_, _, rfl, a, 4, rfl, d1.src, rfl, by decide, by decide, fun x y m x0 y0 m0 m1 => ?_⟩
  have d2 : Dr a H (upd H1 a (.lst [.int x, .int y])) := d1.trans (.pick x0 y0)
  generalize upd H1 a (.lst [.int x, .int y]) = H2 at d2 ⊢
  refine ⟨m, rfl, by omega, by omega, ?_⟩
  refine lc_invA m.toNat (fun D i acc X => Dr a H X ∧ ∃ ds fa, TrL X acc ds fa ∧ (∀ c ∈ fa, H c = none ∧ c ≠ D ∧ c ≠ a) ∧ ds.length = i ∧ ∀ d ∈ ds, VOk n d) (by rw [sizeLine_eq]; omega) (fun D hD => ⟨d2.laid hD, [], [], .nil, by simp, rfl, by simp⟩) (fun D i acc X hD lt P => lt) (fun D acc X hD P => Nat.le_refl _) (fun D i acc X x X' K hD lt la P eD yl k => ?_) (fun D acc X hD P eD => ?_)
  · obtain ⟨dX, ds, fa, ta, na, rfl, ok⟩ := P
    obtain ⟨rfl, rfl⟩ := yl
    refine ⟨rfl, ?_⟩
    walk_at "sx"
    have Da := (d2.fresh hD).2
    refine ⟨_, _, rfl, a, n, rfl, rfl, dX.src, by congr 1; omega, fun v d fp G2 dG tv nf vk => ?_⟩
    have af : a ∉ fp := dX.no nf
    have eD2 := dG.ot D _ Da eD
    have fD : D ∉ fp := fun z => by have := nf D z; rw [eD] at this; cases this
    have nD : ∀ ys, G2 D ≠ some (.tup ys) := fun ys z => by rw [eD2] at z; cases z
    have kD : ∀ c o, c ≠ D → G2 c = some o → upd G2 D (.lst (acc ++ [v])) c = some o := fun c o n z => by rw [upd_ne n]; exact z
    refine k v G2 eD2 ⟨(dX.trans dG).grow d2 hD, ds ++ [d], fa ++ fp, TrL.snoc (tv.but nD kD fD) ((dX.trL dG ta fun z => (na a z).2.2 rfl).but nD kD fun z => (na D z).2.1 rfl), fun c hc => ?_, by simp, fun e he => ?_⟩
    · rcases List.mem_append.mp hc with z | z
      · exact na c z
      · exact ⟨(dX.fresh (nf c z)).1, fun e => fD (e ▸ z), fun e => af (e ▸ z)⟩
    · rcases List.mem_append.mp he with z | z
      · exact ok e z
      · rw [List.mem_singleton.mp z]; exact vk
  obtain ⟨dX, ds, fa, ta, na, hl, ok⟩ := P
  have Dn := d2.fresh hD
  have fa1 : ∀ c ∈ D :: fa, H c = none := fun c hc => (List.mem_cons.mp hc).elim (fun e => e ▸ Dn.1) fun e => (na c e).1
  refine ⟨w, rfl, ?_⟩
  by_cases c7 : w < 7
  · rw [if_pos (by simp [c7]), RS.eq_ii]
    refine ⟨_, rfl, ?_⟩
    by_cases c5 : w = 5
    · rw [if_pos (by simp [c5])]
      exact q _ _ _ _ dX (.lst eD ta fun z => (na D z).2.1 rfl) fa1 (vok_list ok (by omega))
    · rw [if_neg (by simp [c5])]
      exact ⟨D, rfl, acc, .inl ⟨SqL.of eD, fun l hl2 => q _ _ _ _ (dX.laid hl2) (.tup upd_same (ta.same (same_upd hl2))) (fun c hc => (na c hc).1) (vok_tuple ok (by omega))⟩⟩
  rw [if_neg (by simp [c7])]
  refine ⟨D, rfl, ⟨_, SqL.of eD⟩, ?_⟩
  have ll := ta.len
  refine lc_invA acc.length (fun B i bs Y => Dr a H Y ∧ Dr a X Y ∧ ∃ ps kvs M fm, bs = ps.map V.ref ∧ Paired (fun p kv => Y p = some (.tup [kV kv.1, kv.2])) ps kvs ∧ TrD Y kvs M fm ∧ M.length = i ∧ (∀ c ∈ fm, c ∈ fa) ∧ ∀ p ∈ M, gkeyB p.1 = true ∧ VOk n p.2) (by rw [sizeLine_eq]; omega) (fun B hB => ⟨dX.laid hB, (Dr.refl dX.src).laid hB, [], [], [], [], rfl, .nil, .nil, rfl, by simp, by simp⟩)
    (fun B i bs Y hB lt P => ⟨_, acc[i], SqL.of (P.2.1.ot D _ Dn.2 eD), by simp [lt]⟩) (fun B bs Y hB P => ⟨_, SqL.of (P.2.1.ot D _ Dn.2 eD), Nat.le_refl _⟩) (fun B i bs Y x Y' K hB lt la P eB yl k => ?_) (fun B bs Y hB P eB => ?_)
  · obtain ⟨dY, dXY, ps, kvs, M, fm, rfl, pr, tm, rfl, sub, okM⟩ := P
    obtain ⟨rfl, hx⟩ := yl
    have hx := hx _ (SqL.of (dXY.ot D _ Dn.2 eD))
    obtain ⟨v, d, f', e1, e2, tv, sf⟩ := ta.get lt
    rw [hx] at e1
    cases e1
    refine ⟨rfl, ?_⟩
    walk_at "sx"
    have Ba := (dX.fresh hB).2
    have afa : a ∉ fa := fun z => (na a z).2.2 rfl
    have Bfa : B ∉ fa := fun z => by
      rcases ta.there B z with ⟨ys, e⟩ | ⟨ys, e⟩ <;> (rw [hB] at e; cases e)
    refine ⟨_, rfl, a, rfl, dY.src, fun l G hl hs dG p hp => ?_⟩
    have eB2 := dG.ot B _ Ba eB
    have pB : p ≠ B := fun z => by rw [z, eB2] at hp; cases hp
    have dYp : Dr a Y' (upd G p (.tup [.str (S l), x])) := dG.laid hp
    have keep : ∀ c xs, Y' c = some (.tup xs) → upd (upd G p (.tup [.str (S l), x])) B (.lst (ps.map V.ref ++ [.ref p])) c = some (.tup xs) := fun c xs e => by
      have n1 : c ≠ B := fun z => by rw [z, eB] at e; cases e
      have n2 : c ≠ a := fun z => by
        obtain ⟨_, _, _, _, e3⟩ := dY.src
        rw [z, e3] at e; cases e
      rw [upd_ne n1]
      exact dYp.ot c _ n2 e
    have nB : ∀ ys, upd G p (.tup [.str (S l), x]) B ≠ some (.tup ys) := fun ys z => by rw [upd_ne pB.symm, eB2] at z; cases z
    have kB : ∀ c o, c ≠ B → upd G p (.tup [.str (S l), x]) c = some o → upd (upd G p (.tup [.str (S l), x])) B (.lst (ps.map V.ref ++ [.ref p])) c = some o := fun c o n z => by rw [upd_ne n]; exact z
    refine k (.ref p) _ (by rw [upd_ne pB.symm]; exact eB2) ⟨(dY.trans dYp).grow dX hB, (dXY.trans dYp).grow (Dr.refl dX.src) hB, ps ++ [p], kvs ++ [(.inr (S l), x)], M ++ [(.str (S l), d)], fm ++ f', by simp, paired_snoc (by rw [upd_ne pB]; exact upd_same) (paired_imp (fun _ _ z => keep _ _ z) pr), ?_, by simp, fun c hc => ?_, fun e he => ?_⟩
    · refine TrD.snoc ?_ ?_
      · exact (dX.tr (dXY.trans dYp) tv fun z => afa (sf a z)).but nB kB fun z => Bfa (sf B z)
      · exact (dY.trD dYp tm fun z => afa (sub a z)).but nB kB fun z => Bfa (sub B z)
    · exact (List.mem_append.mp hc).elim (sub c) (sf c)
    · rcases List.mem_append.mp he with z | z
      · exact okM e z
      · rw [List.mem_singleton.mp z]
        exact ⟨(vok_str 0 hl hs).ok, ok d (List.mem_of_getElem? e2)⟩
  · obtain ⟨dY, dXY, ps, kvs, M, fm, rfl, pr, tm, hM, sub, okM⟩ := P
    obtain ⟨fp', tf, sf, ndf⟩ := trD_merge tm .nil (by simp)
    refine ⟨B, rfl, ps, SqL.of eB, kvs, paired_imp (fun _ _ z => SqT.of z) pr, fun p hp => ?_⟩
    have fsub : ∀ c ∈ fp', c ∈ fa := fun c hc => (sf c hc).elim (fun z => by simp at z) (sub c)
    have lM := mrgD_len M []
    simp only [List.length_nil] at lM
    refine q _ _ (p :: fp') _ (dY.laid hp) (.dct upd_same (tf.same (same_upd hp)) (fun z => ?_) ndf) (fun c hc => ?_) (vok_dict (fun e he => okM e ((mrgD_mem he).elim (fun z => by simp at z) id)) (by omega))
    · rcases tf.there p z with ⟨ys, e⟩ | ⟨ys, e⟩ <;> (rw [hp] at e; cases e)
    · rcases List.mem_cons.mp hc with e | e
      · rw [e]; exact (dY.fresh hp).1
      · exact (na c (fsub c e)).1
end
def keys6 : List Str := ["a", "b", "c", "a b", "\n", "k"]
theorem keys6_ok : ∀ k ∈ keys6, (decide (k.length ≤ 8) && asc k) = true ∧ 1 ≤ k.length := by decide +kernel
/-- a drawn mapping -/
structure GD (D : List (PyData × PyData)) : Prop where
  val : ∀ p ∈ D, VOk 1 p.2
  key : ∀ p ∈ D, ∃ x ∈ keys6, p.1 = .str x
  nd : (keysOf D).Nodup
theorem keysOf_len2 : ∀ {D : List (PyData × PyData)}, (∀ p ∈ D, ∃ x ∈ keys6, p.1 = .str x) → (keysOf D).length = D.length ∧ ∀ y ∈ keysOf D, y ∈ keys6
  | [], _ => ⟨rfl, by simp [keysOf]⟩
  | (k, d) :: r, h => by
    obtain ⟨x, hx, e⟩ := h (k, d) (List.mem_cons_self ..)
    simp only at e
    subst e
    obtain ⟨h1, h2⟩ := keysOf_len2 (D := r) fun p hp => h p (List.mem_cons_of_mem _ hp)
    simp only [keysOf]
    refine ⟨by simp [h1], fun y hy => ?_⟩
    rcases List.mem_cons.mp hy with e | e
    · rw [e]; exact hx
    · exact h2 y e
theorem GD.len {D : List (PyData × PyData)} (h : GD D) : D.length ≤ 6 := by
  obtain ⟨h1, h2⟩ := keysOf_len2 h.key
  have := h.nd.length_le_of_subset (l₂ := keys6) h2
  rw [h1] at this
  exact this
theorem GD.vok {D : List (PyData × PyData)} (h : GD D) : VOk 2 (.dict D) := vok_dict (fun p hp => by
  obtain ⟨x, hx, e⟩ := h.key p hp
  rw [e]
  exact ⟨(keys6_ok x hx).1, h.val p hp⟩) (by have := h.len; omega)
theorem GD.map {D : List (PyData × PyData)} (g : GD D) {H : Hp} {v : V} {fp : List Addr} (t : Tr H v (.dict D) fp) : MapAt H v D fp := ⟨t, ok_g _ g.vok.ok, by have := g.vok.dep; omega, fun p hp => by
  obtain ⟨x, hx, e⟩ := g.key p hp
  have k := keys6_ok x hx
  simp only [Bool.and_eq_true, decide_eq_true_eq] at k
  exact ⟨x, e, k.2, by omega⟩, by
  have := rnote.le _ 2 g.vok.ok g.vok.dep
  have e : SH 2 ≤ 1000000 := by decide
  omega⟩
theorem addK_cons (y x : Str) (ks : List Str) : addK (y :: ks) x = if x = y then y :: ks else y :: addK ks x := by
  unfold addK
  by_cases q : x = y
  · rw [if_pos q, if_pos (by rw [q]; exact List.mem_cons_self ..)]
  · rw [if_neg q]
    by_cases m : x ∈ ks
    · rw [if_pos m, if_pos (List.mem_cons_of_mem _ m)]
    · rw [if_neg m, if_neg (by simp [q, m])]; rfl
theorem keysOf_put (x : Str) (d : PyData) : ∀ D : List (PyData × PyData), keysOf (putD D x d) = addK (keysOf D) x
  | [] => rfl
  | (k, e) :: r => by
    have ih := keysOf_put x d r
    unfold putD
    cases k with
    | str y =>
      by_cases q : y = x
      · subst q
        rw [if_pos (by simp [isK])]
        exact ((addK_cons y y (keysOf r)).trans (if_pos rfl)).symm
      · rw [if_neg (by simp [isK, q])]
        exact (congrArg (y :: ·) ih).trans ((addK_cons y x (keysOf r)).trans (if_neg fun z => q z.symm)).symm
    | _ => simp only [isK, Bool.false_eq_true, if_false, keysOf, ih]
theorem keysOf_drop (x : Str) : ∀ D : List (PyData × PyData), keysOf (dropD D x) = (keysOf D).filter fun y => decide (y ≠ x)
  | [] => rfl
  | (k, e) :: r => by
    have ih := keysOf_drop x r
    unfold dropD at ih ⊢
    cases k with
    | str y =>
      by_cases q : y = x
      · subst q
        rw [List.filter_cons, if_neg (by simp [isK]), ih]
        simp only [keysOf]
        rw [List.filter_cons, if_neg (by simp)]
      · rw [List.filter_cons, if_pos (by simp [isK, q])]
        simp only [keysOf]
        rw [ih, List.filter_cons, if_pos (by simp [q])]
    | _ =>
      rw [List.filter_cons, if_pos (by simp [isK])]
      simp only [keysOf]
      exact ih
theorem addK_nd {ks : List Str} {x : Str} (h : ks.Nodup) : (addK ks x).Nodup := by
  unfold addK
  split
  · exact h
  · rename_i n
    exact List.nodup_append.mpr ⟨h, by simp, fun a ha b hb e => n (by simp only [List.mem_singleton] at hb; subst hb; subst e; exact ha)⟩
theorem gd_nil : GD [] := ⟨by simp, by simp, by simp [keysOf]⟩
theorem GD.put {D : List (PyData × PyData)} (h : GD D) {x : Str} {d : PyData} (hx : x ∈ keys6) (hd : VOk 1 d) : GD (putD D x d) :=
  ⟨fun p hp => (putD_mem hp).elim (h.val p) fun e => by rw [e]; exact hd, fun p hp => (putD_mem hp).elim (h.key p) fun e => ⟨x, hx, by rw [e]⟩, by rw [keysOf_put]; exact addK_nd h.nd⟩
theorem GD.drop {D : List (PyData × PyData)} (h : GD D) (x : Str) : GD (dropD D x) :=
  ⟨fun p hp => h.val p (List.mem_filter.mp hp).1, fun p hp => h.key p (List.mem_filter.mp hp).1, by rw [keysOf_drop]; exact h.nd.sublist List.filter_sublist⟩
def DdW : Dd → Prop
  | .put x d => x ∈ keys6 ∧ VOk 1 d
  | .drop _ => True
theorem GD.aps : ∀ {dds : List Dd} {D : List (PyData × PyData)}, GD D → (∀ dd ∈ dds, DdW dd) → GD (apDs D dds)
  | [], _, h, _ => h
  | dd :: r, D, h, w => by
    show GD (apDs (apD D dd) r)
    refine GD.aps ?_ fun e he => w e (List.mem_cons_of_mem _ he)
    have wd := w dd (List.mem_cons_self ..)
    cases dd with
    | put x d => exact h.put wd.1 wd.2
    | drop x => exact h.drop x
section
variable {g : Wd} {f : Addr} {fd : FuncData}
theorem sc_l_mapping : FnScope ["_law_source_here", "_law_most", "_law_left", "_law_found", "_law_turn"] ["_law_source_here", "_law_most"] (defScope s_l_mapping) := ⟨rfl, rfl, rfl, by decide +kernel, rfl, by decide +kernel, by decide +kernel⟩
def sp_mapping : Sp := S2 fun s k H Q _ => ∃ a m, s = .ref a ∧ Src H a ∧ k = .int (m : Nat) ∧ m ≤ 5 ∧ ∀ r D fp G, Dr a H G → Tr G (.ref r) (.dict D) fp → (∀ c ∈ fp, H c = none) → GD D → D.length ≤ m → Q (.ref r) G
theorem ok_mapping (F : Df g.K "_law_mapping" "_law_mapping" s_l_mapping f fd .none) (T : Txt g) (F_l_pick : Kn g "_law_pick" 1 ["_law_source_here", "_law_amount"] [] sp_pick)
    (F_l_value : Kn g "_law_value" 5 ["_law_source_here", "_law_depth"] [] (sp_value 2)) : FnG g 6 f fd ["_law_source_here", "_law_most"] sp_mapping := by
  refine F.ok sc_l_mapping (fun vs H Q E h => S2.len h) (fun cdv A outer s H vs Q E hr h => ?_)
  obtain ⟨_, _, rfl, a, m, rfl, ha, rfl, m5, q⟩ := h
  refine ⟨_, (pss_cons (ps_par (i := 2) (j := 3) (by rfl) sc_l_mapping.nd rfl rfl (by decide) rfl rfl (pa_cons (pe_lst (pa_cons pe_str (pa_cons pe_str (pa_cons pe_str (pa_cons pe_str (pa_cons pe_str (pa_cons pe_str pa_nil))))))) (pa_cons pe_dnewK pa_nil)) (by rfl))
      (pss_cons (ps_for psD rfl (pi_range1 rfl T.b_range (pa_cons (pe_callG F_l_pick (hr.mono (by first | decide | omega)) tkD (pa_cons (pv 0) (pa_cons (pe_op (o_add (K := g.K)) (pv 1) pe_int) pa_nil))) pa_nil)) (pg_name (i := 4) sc_l_mapping.nd rfl (.inl rfl)) (pss_one (ps_asg (pe_callG F_l_value (hr.mono (by first | decide | omega)) tkD (pa_cons (pv 0) (pa_cons pe_int pa_nil))) (pg_sub (pv 3) (e_bm (K := g.K) PySem.F.plainAttrs_list PySem.F.slot_list_pop PySem.F.type_list_pop mt_popAt (pv 2) (pa_cons (pe_callG F_l_pick (hr.mono (by first | decide | omega)) tkD (pa_cons (pv 0) (pa_cons (pe_callB (c_len (K := g.K)) (by rfl) T.b_len bb_len (pa_cons (pv 2) pa_nil)) pa_nil))) pa_nil)) (set_dict (hu_of hr.room))))))
      (pss_one (ps_ret (pv 3))))), ?_⟩
  walk_at "sx"
  intro L hL B hB
  have LB : L ≠ B := fun z => by rw [← z, upd_same] at hB; cases hB
  have hB0 : H B = none := by rw [upd_ne LB.symm] at hB; exact hB
  have eL : upd (upd H L (.lst (keys6.map V.str))) B (.dK []) L = some (.lst (keys6.map V.str)) := by rw [upd_ne LB]; exact upd_same
  have eB : upd (upd H L (.lst (keys6.map V.str))) B (.dK []) B = some (.dK []) := upd_same
  have d0 : Dr a H (upd (upd H L (.lst (keys6.map V.str))) B (.dK [])) := ((Dr.refl ha).laid hL).laid hB
  change sp_pick [V.ref a, V.int (m + 1)] (upd (upd H L (.lst (keys6.map V.str))) B (.dK [])) _ _
  generalize upd (upd H L (.lst (keys6.map V.str))) B (.dK []) = H0 at eL eB d0 ⊢
  have La := ((Dr.refl ha).fresh hL).2
  have Ba := ((Dr.refl ha).fresh hB0).2
  refine ⟨_, _, rfl, a, m + 1, rfl, d0.src, rfl, by omega, by omega, fun x y n x0 y0 n0 n1 => ⟨n, rfl, by omega, by omega, ?_⟩⟩
  have d1 : Dr a H (upd H0 a (.lst [.int x, .int y])) := d0.trans (.pick x0 y0)
  have eL1 : upd H0 a (.lst [.int x, .int y]) L = some (.lst (keys6.map V.str)) := by rw [upd_ne La]; exact eL
  have eB1 : upd H0 a (.lst [.int x, .int y]) B = some (.dK []) := by rw [upd_ne Ba]; exact eB
  generalize upd H0 a (.lst [.int x, .int y]) = H1 at d1 eL1 eB1 ⊢
  refine for_by n.toNat (fun i σ X => (∃ z, σ = [some (.ref a), some (.int (m : Nat)), some (.ref L), some (.ref B), z]) ∧ Dr a H X ∧ ∃ ks kvs D fa, X L = some (.lst (ks.map V.str)) ∧ ks.length + i = 6 ∧ (∀ k ∈ ks, k ∈ keys6) ∧ X B = some (.dK kvs) ∧ TrD X kvs D fa ∧ (kvs.map (·.1)).Nodup ∧ (∀ c ∈ fa, H c = none ∧ c ≠ L ∧ c ≠ B ∧ c ≠ a) ∧ GD D ∧ D.length ≤ i)
    ⟨⟨_, rfl⟩, d1, keys6, [], [], [], eL1, rfl, fun k hk => hk, eB1, .nil, by simp, by simp, gd_nil, Nat.le_refl _⟩ (fun i σ X lt P => lt) (fun σ X P => Nat.le_refl _) (fun i σ X z X' lt P yl => ?_) (fun σ X P => ?_)
  · obtain ⟨⟨z, rfl⟩, dX, ks, kvs, D, fa, eL, lk, hk, eB, tD, nd, nf, gD, lD⟩ := P
    obtain ⟨rfl, rfl⟩ := yl
    walk_at "sx"
    refine ⟨_, _, rfl, a, 1, rfl, rfl, dX.src, rfl, fun v d fp G2 dG tv nfv vk => ?_⟩
    have eL2 := dG.ot L _ La eL
    have eB2 := dG.ot B _ Ba eB
    have av : a ∉ fp := dX.no nfv
    have afa : a ∉ fa := fun z => (nf a z).2.2.2 rfl
    have tD2 := dX.trD dG tD afa
    refine ⟨⟨_, SqL.of eL2⟩, .inl ⟨_, .inl (SqL.of eL2), ?_⟩⟩
    rw [List.length_map]
    refine ⟨_, _, rfl, a, (ks.length : Nat), rfl, dG.src, rfl, by omega, by omega, fun x y c x0 y0 c0 c1 => ?_⟩
    have dP : Dr a G2 (upd G2 a (.lst [.int x, .int y])) := .pick x0 y0
    have tD3 := dG.trD dP tD2 afa
    have tv3 := dG.tr dP tv av
    have d3 := (dX.trans dG).trans dP
    have eL3 := dP.ot L _ La eL2
    have eB3 := dP.ot B _ Ba eB2
    generalize upd G2 a (.lst [.int x, .int y]) = G3 at dP tD3 tv3 d3 eL3 eB3 ⊢
    obtain ⟨j, rfl⟩ := Int.eq_ofNat_of_zero_le c0
    have hj : j < ks.length := by omega
    refine ⟨L, ks.map V.str, (j : Nat), j, .str ks[j], rfl, rfl, eL3, by omega, by omega, ?_, by rw [List.getElem?_map, List.getElem?_eq_getElem hj]; rfl, ?_⟩
    · unfold seqIndex?
      rw [List.length_map]
      simp
      omega
    have kj := hk _ (List.getElem_mem hj)
    have er : (ks.map V.str).eraseIdx j = (ks.eraseIdx j).map V.str := by
      rw [List.eraseIdx_eq_take_drop_succ, List.eraseIdx_eq_take_drop_succ, List.map_append, List.map_take, List.map_drop]
    rw [er]
    have dz := trD_put (x := ks[j]) tv3 tD3 nd
    obtain ⟨fc, t', kf⟩ := dz
    have lD2 := putD_len ks[j] d D
    have ac := tD.len
    have fB : ∀ c ∈ fc, H c = none ∧ c ≠ L ∧ c ≠ B ∧ c ≠ a := fun c hc => (kf c hc).elim (nf c) fun z => by
      have h1 := nfv c z
      exact ⟨(dX.fresh h1).1, fun e => (by rw [e, eL] at h1; cases h1), fun e => (by rw [e, eB] at h1; cases h1), fun e => av (e ▸ z)⟩
    have k1 : ∀ c o, c ≠ L → G3 c = some o → upd G3 L (.lst ((ks.eraseIdx j).map V.str)) c = some o := fun c o n z => by rw [upd_ne n]; exact z
    have eB4 : upd G3 L (.lst ((ks.eraseIdx j).map V.str)) B = some (.dK kvs) := by rw [upd_ne LB.symm]; exact eB3
    refine ⟨B, _, rfl, DPut.k (k := .inr ks[j]) eB4 (by rw [sizeLine_eq]; omega), ⟨_, rfl⟩, (d3.grow (Dr.refl ha) hL).grow (Dr.refl ha) hB0, ks.eraseIdx j, by rw [upd_ne LB]; exact upd_same, by rw [List.length_eraseIdx]; simp [hj]; omega, fun k m => hk k (List.mem_of_mem_eraseIdx m), _, upd_same, putD D ks[j] d, fc, ?_, nd_put (trD_keys tD) nd, fB, gD.put kj vk, by omega⟩
    refine (t'.but (p := L) (fun ys z => by rw [eL3] at z; cases z) k1 fun z => (fB L z).2.1 rfl).but (p := B) (fun ys z => by rw [eB4] at z; cases z) (fun c o n z => by rw [upd_ne n]; exact z) fun z => (fB B z).2.2.1 rfl
  · obtain ⟨⟨z, rfl⟩, dX, ks, kvs, D, fa, eL, lk, hk, eB, tD, nd, nf, gD, lD⟩ := P
    walk_at "sx"
    exact q B D (B :: fa) X dX (.dct eB tD (fun z => (nf B z).2.2.1 rfl) nd) (fun c hc => (List.mem_cons.mp hc).elim (fun e => e ▸ hB0) fun e => (nf c e).1) gD (by omega)
end
/-- a deed whose value's places are such as N tells -/
def DdF (N : Addr → Prop) (X : Hp) (v : V) : Dd → Prop
  | .put x d => ∃ t w f, v = .ref t ∧ X t = some (.tup [.str "put", .str x, w]) ∧ Tr X w d f ∧ ∀ c ∈ f, N c
  | .drop x => ∃ t, v = .ref t ∧ X t = some (.tup [.str "drop", .str x])
theorem DdF.at {N : Addr → Prop} {X : Hp} {v : V} {dd : Dd} (h : DdF N X v dd) (k : DdW dd) : DdAt X v dd := by
  cases dd with
  | put x d => obtain ⟨t, w, f, a, b, c, _⟩ := h; exact ⟨t, w, f, a, b, c, ok_g _ k.2.ok, by have := k.2.dep; omega⟩
  | drop x => exact h
theorem DdF.keep {N : Addr → Prop} {X Y : Hp} {S : Addr → Prop} (hS : ∀ c, S c → ∀ xs, X c ≠ some (.tup xs)) (hk : ∀ c o, ¬ S c → X c = some o → Y c = some o) (nS : ∀ c, N c → ¬ S c) {v : V} {dd : Dd} (h : DdF N X v dd) : DdF N Y v dd := by
  cases dd with
  | put x d => obtain ⟨t, w, f, a, b, c, n⟩ := h; exact ⟨t, w, f, a, hk _ _ (fun z => hS _ z _ b) b, c.keep hS hk fun e he => nS e (n e he), n⟩
  | drop x => obtain ⟨t, a, b⟩ := h; exact ⟨t, a, hk _ _ (fun z => hS _ z _ b) b⟩
theorem DdF.imp {N M : Addr → Prop} (k : ∀ c, N c → M c) {X : Hp} {v : V} {dd : Dd} (h : DdF N X v dd) : DdF M X v dd := by
  cases dd with
  | put x d => obtain ⟨t, w, f, a, b, c, n⟩ := h; exact ⟨t, w, f, a, b, c, fun e he => k e (n e he)⟩
  | drop x => exact h
theorem DdF.dr {N : Addr → Prop} {a : Addr} {H X Y : Hp} (h1 : Dr a H X) (h2 : Dr a X Y) (nS : ∀ c, N c → c ≠ a) {v : V} {dd : Dd} (h : DdF N X v dd) : DdF N Y v dd := by
  obtain ⟨_, _, _, _, e⟩ := h1.src
  exact h.keep (S := fun c => c = a) (fun c z xs q => by rw [z, e] at q; cases q) (fun c o n q => h2.ot c o n q) nS
theorem DdF.grow {N : Addr → Prop} {X : Hp} {L : Addr} {ac : List V} {o : HO} (eL : X L = some (.lst ac)) (nS : ∀ c, N c → c ≠ L) {v : V} {dd : Dd} (h : DdF N X v dd) : DdF N (upd X L o) v dd :=
  h.keep (S := fun c => c = L) (fun c z xs q => by rw [z, eL] at q; cases q) (fun c o n q => by rw [upd_ne n]; exact q) nS
theorem DdF.same {N : Addr → Prop} {X Y : Hp} (s : Same X Y) {v : V} {dd : Dd} (h : DdF N X v dd) : DdF N Y v dd :=
  h.keep (S := fun c => False) (fun c z => z.elim) (fun c o _ q => s c o q) (fun _ _ z => z)
section
variable {g : Wd} {f : Addr} {fd : FuncData}
theorem sc_l_deeds : FnScope ["_law_source_here", "_law_most", "_law_found", "_law_turn", "_law_key"] ["_law_source_here", "_law_most"] (defScope s_l_deeds) := ⟨rfl, rfl, rfl, by decide +kernel, rfl, by decide +kernel, by decide +kernel⟩
def sp_deeds : Sp := S2 fun s k H Q _ => ∃ a m, s = .ref a ∧ Src H a ∧ k = .int (m : Nat) ∧ m ≤ 5 ∧ ∀ r vs dds G, Dr a H G → H r = none → G r = some (.lst vs) → Paired (DdF (fun c => H c = none) G) vs dds → (∀ dd ∈ dds, DdW dd) → dds.length ≤ m → Q (.ref r) G
theorem ok_deeds (F : Df g.K "_law_deeds" "_law_deeds" s_l_deeds f fd .none) (T : Txt g) (F_l_pick : Kn g "_law_pick" 1 ["_law_source_here", "_law_amount"] [] sp_pick)
    (F_l_value : Kn g "_law_value" 5 ["_law_source_here", "_law_depth"] [] (sp_value 2)) : FnG g 6 f fd ["_law_source_here", "_law_most"] sp_deeds := by
  refine F.ok sc_l_deeds (fun vs H Q E h => S2.len h) (fun cdv A outer s H vs Q E hr h => ?_)
  obtain ⟨_, _, rfl, a, m, rfl, ha, rfl, m5, q⟩ := h
  refine ⟨_, (pss_cons (ps_set (i := 2) sc_l_deeds.nd rfl (Or.inl rfl) (pe_lst pa_nil))
      (pss_cons (ps_for psD rfl (pi_range1 rfl T.b_range (pa_cons (pe_callG F_l_pick (hr.mono (by first | decide | omega)) tkD (pa_cons (pv 0) (pa_cons (pe_op (o_add (K := g.K)) (pv 1) pe_int) pa_nil))) pa_nil)) (pg_name (i := 3) sc_l_deeds.nd rfl (.inl rfl)) (pss_cons (ps_set (i := 4) sc_l_deeds.nd rfl (Or.inl rfl) (pe_ix (o_ix (K := g.K)) (pe_lst (pa_cons pe_str (pa_cons pe_str (pa_cons pe_str (pa_cons pe_str (pa_cons pe_str (pa_cons pe_str pa_nil))))))) (pe_callG F_l_pick (hr.mono (by first | decide | omega)) tkD (pa_cons (pv 0) (pa_cons pe_int pa_nil))) (fun _ _ => rfl)))
      (pss_one (ps_expr (e_bm (K := g.K) PySem.F.plainAttrs_list PySem.F.slot_list_append PySem.F.type_list_append mt_append (pv 2) (pa_cons (pe_ifExp (pt_cmpR op_gt (pe_callG F_l_pick (hr.mono (by first | decide | omega)) tkD (pa_cons (pv 0) (pa_cons pe_int pa_nil))) pe_int (nomark _)) (pe_tup (pa_cons pe_str (pa_cons (pv 4) (pa_cons (pe_callG F_l_value (hr.mono (by first | decide | omega)) tkD (pa_cons (pv 0) (pa_cons pe_int pa_nil))) pa_nil)))) (pe_tup (pa_cons pe_str (pa_cons (pv 4) pa_nil)))) pa_nil))))))
      (pss_one (ps_ret (pv 2))))), ?_⟩
  walk_at "sx"
  intro L hL
  have d0 : Dr a H (upd H L (.lst [])) := (Dr.refl ha).laid hL
  have eL : upd H L (.lst []) L = some (.lst []) := upd_same
  generalize upd H L (.lst []) = H0 at d0 eL ⊢
  have La := ((Dr.refl ha).fresh hL).2
  refine ⟨_, _, rfl, a, m + 1, rfl, d0.src, rfl, by omega, by omega, fun x y n x0 y0 n0 n1 => ⟨n, rfl, by omega, by omega, ?_⟩⟩
  have d1 : Dr a H (upd H0 a (.lst [.int x, .int y])) := d0.trans (.pick x0 y0)
  have eL1 : upd H0 a (.lst [.int x, .int y]) L = some (.lst []) := by rw [upd_ne La]; exact eL
  generalize upd H0 a (.lst [.int x, .int y]) = H1 at d1 eL1 ⊢
  refine for_by n.toNat (fun i σ X => (∃ y z, σ = [some (.ref a), some (.int (m : Nat)), some (.ref L), y, z]) ∧ Dr a H X ∧ ∃ vs dds, X L = some (.lst vs) ∧ Paired (DdF (fun c => H c = none ∧ c ≠ L) X) vs dds ∧ (∀ dd ∈ dds, DdW dd) ∧ dds.length = i)
    ⟨⟨_, _, rfl⟩, d1, [], [], eL1, .nil, by simp, rfl⟩ (fun i σ X lt P => lt) (fun σ X P => Nat.le_refl _) (fun i σ X z X' lt P yl => ?_) (fun σ X P => ?_)
  · obtain ⟨⟨y, z, rfl⟩, dX, vs, dds, eL, pr, okd, rfl⟩ := P
    obtain ⟨rfl, rfl⟩ := yl
    walk_at "sx"
    intro p hp
    change sp_pick [V.ref a, V.int 6] (upd X' p (.lst (keys6.map V.str))) _ _
    have d2 : Dr a H (upd X' p (.lst (keys6.map V.str))) := dX.laid hp
    have ep : upd X' p (.lst (keys6.map V.str)) p = some (.lst (keys6.map V.str)) := upd_same
    have pL : p ≠ L := fun z => by rw [z, eL] at hp; cases hp
    have eL2 : upd X' p (.lst (keys6.map V.str)) L = some (.lst vs) := by rw [upd_ne pL.symm]; exact eL
    have N1 : ∀ c, (H c = none ∧ c ≠ L) → c ≠ a := fun c n => ((Dr.refl ha).fresh n.1).2
    have pr2 := paired_imp (fun _ _ z => DdF.same (same_upd (o := HO.lst (keys6.map V.str)) hp) z) pr
    generalize upd X' p (.lst (keys6.map V.str)) = X2 at d2 ep eL2 pr2 ⊢
    have pa : p ≠ a := (dX.fresh hp).2
    refine ⟨_, _, rfl, a, 6, rfl, d2.src, rfl, by decide, by decide, fun x y c x0 y0 c0 c1 => ?_⟩
    have dP : Dr a X2 (upd X2 a (.lst [.int x, .int y])) := .pick x0 y0
    have ep3 := dP.ot p _ pa ep
    have eL3 := dP.ot L _ La eL2
    have pr3 := paired_imp (fun _ _ z => DdF.dr d2 dP N1 z) pr2
    have d3 := d2.trans dP
    generalize upd X2 a (.lst [.int x, .int y]) = X3 at ep3 eL3 pr3 d3 ⊢
    dsimp only
    rw [RS.ix_r]
    obtain ⟨j, rfl⟩ := Int.eq_ofNat_of_zero_le c0
    have hj : j < keys6.length := by show j < 6; omega
    have k6 : (keys6.map V.str).length = 6 := rfl
    have kok := List.getElem_mem hj
    refine ⟨_, .inl (SqL.of ep3), .str keys6[j], ?_, ?_⟩
    · unfold atI ixN
      rw [if_pos (by omega), if_pos (by omega)]
      simp [hj]
    generalize keys6[j] = key at kok ⊢
    refine ⟨⟨_, SqL.of eL3⟩, ?_⟩
    refine ⟨_, _, rfl, a, 3, rfl, d3.src, rfl, by decide, by decide, fun x y c x0 y0 c0 c1 => ?_⟩
    have dP : Dr a X3 (upd X3 a (.lst [.int x, .int y])) := .pick x0 y0
    have eL4 := dP.ot L _ La eL3
    have pr4 := paired_imp (fun _ _ z => DdF.dr d3 dP N1 z) pr3
    have d4 := d3.trans dP
    generalize upd X3 a (.lst [.int x, .int y]) = X4 at eL4 pr4 d4 ⊢
    refine ⟨c, rfl, ?_⟩
    have lv := paired_len pr4
    by_cases e : 0 < c
    · rw [if_pos (by simp [e])]
      refine ⟨_, _, rfl, a, 1, rfl, rfl, d4.src, rfl, fun v d fp G2 dG tv nfv vk t ht => ?_⟩
      have eL5 := dG.ot L _ La eL4
      have tL : t ≠ L := fun z => by rw [z, eL5] at ht; cases ht
      have eL6 : upd G2 t (.tup [.str "put", .str key, v]) L = some (.lst vs) := by rw [upd_ne tL.symm]; exact eL5
      have nf2 : ∀ c ∈ fp, H c = none ∧ c ≠ L := fun c hc => ⟨(d4.fresh (nfv c hc)).1, fun e => by have := nfv c hc; rw [e, eL4] at this; cases this⟩
      have new : DdF (fun c => H c = none ∧ c ≠ L) (upd G2 t (.tup [.str "put", .str key, v])) (.ref t) (.put key d) := ⟨t, v, fp, rfl, upd_same, tv.same (same_upd ht), nf2⟩
      refine ⟨vs, eL6, by omega, ⟨_, rfl⟩, ((d4.trans dG).laid ht).grow (Dr.refl ha) hL, dds ++ [.put key d], paired_snoc (new.grow eL6 fun c n => n.2) (paired_imp (fun _ _ z => ((z.dr d4 dG N1).same (same_upd ht)).grow eL6 fun c n => n.2) pr4), fun dd hd => ?_, by simp⟩
      rcases List.mem_append.mp hd with z | z
      · exact okd dd z
      · rw [List.mem_singleton.mp z]; exact ⟨kok, vk⟩
    · rw [if_neg (by simp [e])]
      intro t ht
      have tL : t ≠ L := fun z => by rw [z, eL4] at ht; cases ht
      have eL6 : upd X4 t (.tup [.str "drop", .str key]) L = some (.lst vs) := by rw [upd_ne tL.symm]; exact eL4
      have new : DdF (fun c => H c = none ∧ c ≠ L) (upd X4 t (.tup [.str "drop", .str key])) (.ref t) (.drop key) := ⟨t, rfl, upd_same⟩
      refine ⟨vs, eL6, by omega, ⟨_, rfl⟩, (d4.laid ht).grow (Dr.refl ha) hL, dds ++ [.drop key], paired_snoc (new.grow eL6 fun c n => n.2) (paired_imp (fun _ _ z => (z.same (same_upd ht)).grow eL6 fun c n => n.2) pr4), fun dd hd => ?_, by simp⟩
      rcases List.mem_append.mp hd with z | z
      · exact okd dd z
      · rw [List.mem_singleton.mp z]; exact True.intro
  · obtain ⟨⟨y, z, rfl⟩, dX, vs, dds, eL, pr, okd, hl⟩ := P
    walk_at "sx"
    exact q L vs dds X dX hL eL (paired_imp (fun _ _ z => z.imp fun c e => e.1) pr) okd (by omega)
end
section
variable {g : Wd} {f : Addr} {fd : FuncData}
theorem sc_l_done : FnScope ["_law_mapping_here", "_law_deeds_here", "_law_found", "_law_deed", "_law_places", "_law_key", "_law_n", "_law_pair"] ["_law_mapping_here", "_law_deeds_here"] (defScope s_l_done) := ⟨rfl, rfl, rfl, by decide +kernel, rfl, by decide +kernel, by decide +kernel⟩
/-- a list of pairs, each a list of its own -/
structure PrsAt (H G : Hp) (r : Addr) (kvs : List (Key × V)) : Prop where
  ex : ∃ ps : List Addr, G r = some (.lst (ps.map V.ref)) ∧ Paired (fun p kv => G p = some (.lst [kV kv.1, kv.2]) ∧ H p = none ∧ p ≠ r) ps kvs
  nr : H r = none
theorem PrsAt.same {H G X : Hp} {r : Addr} {kvs : List (Key × V)} (h : PrsAt H G r kvs) (s : Same G X) : PrsAt H X r kvs := by
  obtain ⟨⟨ps, e, pr⟩, n⟩ := h
  exact ⟨⟨ps, s _ _ e, paired_imp (fun _ _ z => ⟨s _ _ z.1, z.2⟩) pr⟩, n⟩
theorem paired_at2 {α β : Type} {F : α → β → Prop} : ∀ {xs : List α} {ys : List β}, Paired F xs ys → ∀ {i : Nat} {y : β}, ys[i]? = some y → ∃ x, xs[i]? = some x ∧ F x y
  | _, _, .cons h hs, 0, y, e => by cases e; exact ⟨_, rfl, h⟩
  | _, _, .cons h hs, i + 1, y, e => by obtain ⟨x, a, b⟩ := paired_at2 hs (i := i) (by simpa using e); exact ⟨x, by simpa using a, b⟩
  | _, _, .nil, _, _, e => by simp at e
theorem paired_set {α β : Type} {F : α → β → Prop} {x : α} {y : β} (h : F x y) : ∀ {xs : List α} {ys : List β}, Paired F xs ys → ∀ (i : Nat), Paired F (xs.set i x) (ys.set i y)
  | _, _, .nil, _ => .nil
  | _, _, .cons a b, 0 => .cons h b
  | _, _, .cons a b, i + 1 => .cons a (paired_set h b i)
/-- the places of a key -/
def hits (kvs : List (Key × V)) (x : Str) (i : Nat) : List Nat := (List.range i).filter fun n => decide ((kvs[n]?).map (·.1) = some (.inr x))
theorem hits_succ (kvs : List (Key × V)) (x : Str) (i : Nat) : hits kvs x (i + 1) = hits kvs x i ++ if (kvs[i]?).map (·.1) = some (.inr x) then [i] else [] := by
  unfold hits
  rw [List.range_succ, List.filter_append]
  congr 1
  by_cases e : (kvs[i]?).map (·.1) = some (.inr x) <;> simp [e]
theorem hits_none {kvs : List (Key × V)} {x : Str} (h : hits kvs x kvs.length = []) : (.inr x : Key) ∉ kvs.map (·.1) := fun z => by
  obtain ⟨n, hn, e⟩ := List.getElem_of_mem z
  have hn2 : n < kvs.length := by simpa using hn
  have m : n ∈ hits kvs x kvs.length := by
    unfold hits
    rw [List.mem_filter]
    refine ⟨List.mem_range.mpr hn2, ?_⟩
    rw [decide_eq_true_eq, List.getElem?_eq_getElem hn2]
    simpa using e
  rw [h] at m; cases m
theorem hits_some {kvs : List (Key × V)} {x : Str} {j : Nat} {r : List Nat} (h : hits kvs x kvs.length = j :: r) : ∃ v, kvs[j]? = some (.inr x, v) := by
  have m : j ∈ hits kvs x kvs.length := by rw [h]; exact List.mem_cons_self ..
  unfold hits at m
  rw [List.mem_filter, decide_eq_true_eq] at m
  cases e : kvs[j]? with
  | none => rw [e] at m; simp at m
  | some p =>
    rw [e] at m
    obtain ⟨k, v⟩ := p
    have := m.2
    simp only [Option.map_some, Option.some.injEq] at this
    exact ⟨v, by rw [this]⟩
theorem putK_set : ∀ {kvs : List (Key × V)} {j : Nat} {k : Key} {u v : V}, (kvs.map (·.1)).Nodup → kvs[j]? = some (k, u) → putK kvs k v = kvs.set j (k, v)
  | [], _, _, _, _, _, e => by simp at e
  | (k', u') :: r, 0, k, u, v, nd, e => by
    simp only [List.getElem?_cons_zero, Option.some.injEq, Prod.mk.injEq] at e
    obtain ⟨rfl, rfl⟩ := e
    have nd' := List.nodup_cons.mp nd
    have hr : valV r k' = none := by
      cases e : valV r k' with
      | none => rfl
      | some u => exact absurd (valV_mem e) nd'.1
    rw [RS.pk_cons (hr := hr), if_pos rfl]; rfl
  | (k', u') :: r, j + 1, k, u, v, nd, e => by
    have nd' := List.nodup_cons.mp nd
    have e' : r[j]? = some (k, u) := by simpa using e
    have hr : valV r k' = none := by
      cases e : valV r k' with
      | none => rfl
      | some u => exact absurd (valV_mem e) nd'.1
    have ne : ¬ k' = k := fun z => nd'.1 (by rw [z]; exact List.mem_map.mpr ⟨_, List.mem_of_getElem? e', rfl⟩)
    rw [RS.pk_cons (hr := hr), if_neg ne, putK_set nd'.2 e']; rfl
def sp_done : Sp := S2 fun m v H Q _ => ∃ D fp a vs dds, ∃ N : Addr → Prop, Tr H m (.dict D) fp ∧ (∀ c ∈ fp, m ≠ .ref c → N c) ∧ v = .ref a ∧ H a = some (.lst vs) ∧ Paired (DdF N H) vs dds ∧ D.length + dds.length ≤ 100 ∧
  ∀ r kvs fr G, Same H G → PrsAt H G r kvs → TrD H kvs (apDs D dds) fr → (∀ c ∈ fr, N c) → (kvs.map (·.1)).Nodup → kvs.length ≤ D.length + dds.length → Q (.ref r) G
theorem ok_done (F : Df g.K "_law_done" "_law_done" s_l_done f fd .none) (T : Txt g) : FnG g 1 f fd ["_law_mapping_here", "_law_deeds_here"] sp_done := by
  refine F.ok sc_l_done (fun vs H Q E h => S2.len h) (fun cdv A outer s H vs Q E hr h => ?_)
  obtain ⟨_, _, rfl, D, fp, a, vs, dds, N, tr, nfp, rfl, ha, pr, ln, q⟩ := h
  refine ⟨_, (pss_cons (ps_set (i := 2) sc_l_done.nd rfl (Or.inr rfl) (pe_lock (pe_lc (own := [("_law_key", 5)]) (tt := tYes) rfl sc_l_done.nd (pi_keys (pv 0)) (blkOk_by (own := [("_law_key", 5)]) (N := ["_law_mapping_here", "_law_deeds_here", "_law_found", "_law_deed", "_law_places", "_law_key", "_law_n", "_law_pair"]) (sc := defScope s_l_done) (by decide +kernel)) (fun _ _ _ _ _ => (pg_name (i := 5) sc_l_done.nd rfl (.inl rfl))) (fun _ _ _ _ _ => pts_nil) (fun _ _ _ _ _ => (pe_lst (pa_cons (pv 5) (pa_cons (pe_dget (hu_of (Rm.mk hr.room hr.gd).room) (pv 0) (pv 5) (fun _ _ => rfl)) pa_nil)))))))
      (pss_cons (ps_for psD rfl (i_list (K := g.K) (pv 1)) (pg_name (i := 3) sc_l_done.nd rfl (.inr rfl)) (pss_cons (ps_setLc (i := 4) (own := [("_law_n", 6)]) rfl sc_l_done.nd rfl rfl (sw_true rfl rfl rfl (by decide +kernel)) (pi_range1 rfl T.b_range (pa_cons (pe_callB (c_len (K := g.K)) (by rfl) T.b_len bb_len (pa_cons (pv 2) pa_nil)) pa_nil)) (blkOk_by (own := [("_law_n", 6)]) (N := ["_law_mapping_here", "_law_deeds_here", "_law_found", "_law_deed", "_law_places", "_law_key", "_law_n", "_law_pair"]) (sc := defScope s_l_done) (by decide +kernel)) (fun _ _ _ _ _ => (pg_name (i := 6) sc_l_done.nd rfl (.inl rfl))) (fun _ _ _ _ _ => (pts_one (pt_cmpR (o_eq (K := g.K) (Rm.mk hr.room hr.gd)) (pe_ix (o_ix (K := g.K)) (pe_ix (o_ix (K := g.K)) (pv 2) (pv 6) (fun _ _ => rfl)) pe_int (fun _ _ => rfl)) (pe_ix (o_ix (K := g.K)) (pv 3) pe_int (fun _ _ => rfl)) (nomark _)))) (fun _ _ _ _ _ => (pv 6)))
      (pss_one (ps_if (pt_cmpR (o_eq (K := g.K) hr) (pe_ix (o_ix (K := g.K)) (pv 3) pe_int (fun _ _ => rfl)) pe_str (nomark _)) (pss_one (ps_set (i := 2) sc_l_done.nd rfl (Or.inr rfl) (pe_lc (own := [("_law_pair", 7)]) rfl sc_l_done.nd (i_list (K := g.K) (pv 2)) (blkOk_by (own := [("_law_pair", 7)]) (N := ["_law_mapping_here", "_law_deeds_here", "_law_found", "_law_deed", "_law_places", "_law_key", "_law_n", "_law_pair"]) (sc := defScope s_l_done) (by decide +kernel)) (fun _ _ _ _ _ => (pg_name (i := 7) sc_l_done.nd rfl (.inl rfl))) (fun _ _ _ _ _ => (pts_one (pt_cmpR (o_ne (K := g.K) (Rm.mk hr.room hr.gd)) (pe_ix (o_ix (K := g.K)) (pv 7) pe_int (fun _ _ => rfl)) (pe_ix (o_ix (K := g.K)) (pv 3) pe_int (fun _ _ => rfl)) (nomark _)))) (fun _ _ _ _ _ => (pv 7))))) (pss_one (ps_if (pt_cmpR (o_eq (K := g.K) hr) (pv 4) (pe_lst pa_nil) (nomark _)) (pss_one (ps_expr (e_bm (K := g.K) PySem.F.plainAttrs_list PySem.F.slot_list_append PySem.F.type_list_append mt_append (pv 2) (pa_cons (pe_lst (pa_cons (pe_ix (o_ix (K := g.K)) (pv 3) pe_int (fun _ _ => rfl)) (pa_cons (pe_ix (o_ix (K := g.K)) (pv 3) pe_int (fun _ _ => rfl)) pa_nil))) pa_nil)))) (pss_one (ps_asg (pe_lst (pa_cons (pe_ix (o_ix (K := g.K)) (pv 3) pe_int (fun _ _ => rfl)) (pa_cons (pe_ix (o_ix (K := g.K)) (pv 3) pe_int (fun _ _ => rfl)) pa_nil))) (pg_sub (pv 2) (pe_ix (o_ix (K := g.K)) (pv 4) pe_int (fun _ _ => rfl)) set_list)))))))))
      (pss_one (ps_ret (pv 2))))), ?_⟩
  walk_at "sx"
  cases tr with
  | @dct m kvs _ fp h hs na nd =>
  refine ⟨m, _, h, True.intro, fun od => ⟨m, rfl, od, .inl ⟨kvs, upd_same, ?_⟩⟩⟩
  have ea : upd H m (.frz od (.dK kvs)) m = some (.frz od (.dK kvs)) := upd_same
  have hu : ∀ G, Same (upd H m (.frz od (.dK kvs))) G → Same H (upd G m (.dK kvs)) := fun G sm => unlock h sm
  have hn1 : ∀ b, upd H m (.frz od (.dK kvs)) b = none → b ≠ m ∧ H b = none := fun b z => fresh_lock z
  generalize upd H m (.frz od (.dK kvs)) = H1 at ea hu hn1 ⊢
  have ll := hs.len
  refine lc_invA kvs.length (fun L i acc X => Same H1 X ∧ ∃ ps, acc = ps.map V.ref ∧ Paired (fun p kv => X p = some (.lst [kV kv.1, kv.2]) ∧ H p = none ∧ p ≠ L) ps (kvs.take i)) (by rw [sizeLine_eq]; omega) (fun L hL => ⟨same_upd hL, [], rfl, .nil⟩) (fun L i acc X hL lt P => ⟨P.1 _ _ ea, lt⟩) (fun L acc X hL P => ⟨P.1 _ _ ea, Nat.le_refl _⟩) (fun L i acc X x X' K hL lt la P eL y k => ?_) (fun L acc X hL P eL => ?_)
  · obtain ⟨sm, ps, rfl, pr1⟩ := P
    obtain ⟨rfl, k0, v0, hk, rfl⟩ := y
    obtain ⟨x, v, d, f', e1, e2, t, _⟩ := hs.get lt
    rw [hk] at e1
    cases e1
    refine ⟨rfl, ?_⟩
    simp only [kV, tRet, tRetN, tSeq, C8.tCut, tNext, tAsg, gName, gNil, gCons, gTup, gFld, tIfS, tIf, tAndV, tOrV, tNotV, tAnd, tOr, tNot, tB, tTest, tOp, tUn, tCB, tCons, tNil, tVar, tC, tChain, tDrop, RS.tCallG, RS.tMethG, tMakeG, RS.tCallK, RS.tMakeK, tEqOwn, rI, rI0, rU, add_ii, add_ss, add_rr, mul_ii, mul_si, mul_ri, RS.eq_ii, RS.eq_ss, eq_bb, eq_nn, eq_sn, eq_ns, eq_in, eq_ni, eq_bn, eq_nb, eq_is, eq_si, eq_rr, ne_ii, ne_ss, ne_bb, ne_nn, ne_sn, ne_ns, ne_in, ne_ni, ne_is, ne_si, ne_rr, in_ss, in_r, nin_ss, nin_r, len_s, len_r, RS.ix_s, RS.ix_r, sl_s, sl_r, is_eq, tyN_n, tyN_b, tyN_i, tyN_s, tru_b, tru_i, tru_n, tSl, tPart, tNoPart, tPar, tPar3, tFmtZ, tFmt, tJs, tDGet, sDPut, sFld, tFld, tTup, tLst, tNever, isB,
  L2.start, List.map_cons, List.map_nil, List.length_cons, List.length_nil, Nat.reduceAdd, Nat.reduceSub, Nat.sub_self, List.replicate_zero, List.replicate_succ, List.append_nil, List.cons_append, List.nil_append, List.getElem?_cons_zero, List.getElem?_cons_succ, List.set_cons_zero, List.set_cons_succ, Option.some.injEq, exists_eq_left, exists_eq_left', exists_and_left, V.bl.injEq, V.int.injEq, V.str.injEq, V.ref.injEq, beq_self_eq_true, Bool.true_or, Bool.or_true, Bool.false_or, Bool.or_false, Bool.and_false, Bool.false_and, Bool.true_and, Bool.and_true, Bool.not_true, Bool.not_false, Bool.false_eq_true, if_true, if_false, ite_true, ite_false, true_and, and_true, and_assoc, String.reduceBEq, String.reduceEq, reduceIte, Bool.and_self, reduceCtorEq, false_and, and_false, exists_false, or_false, false_or, exists_const, iEnumS, iStr, iList, iTup, iRng1, iEnum, tFor_eq, tLc_eq, List.cons.injEq, wipe, not_true_eq_false, not_false_eq_true, upd_same, HO.ins.injEq, HO.tup.injEq, HO.lst.injEq, ofS_eq, lk_nil, lk_cons, pu_nil, pu_cons, sizeLine_eq, Nat.reduceLT, Nat.reduceLeDiff, Nat.reduceEqDiff, Nat.le_refl, decide_true, decide_false, tPr, dget_us, dput_us, vv_nil, vv_cons, RS.pk_nil, pk_one, RS.pk_cons, inr_eq, tDisp, tPairs, tBoolOwn, rBoolOwn, tBM, rAppend, ty_list, ty_str, rEqOwn, iEnumT, RS.tCallS, tM1, tDc_eq, tLock, tLockE, iKeys, tListEnum, rUpdate, tMkX0, tMkX1, tXfv, gSub, rSetL, List.getD_cons_zero, List.getD_cons_succ, tBreak, tCMethS, ClX.tCVal, tXfa, tIxOwn, tInOwn, tPropG, tMethK, tMethP, tListGen, tDGet2, tDPop2, rNeD0, intA_i, intA_b, tRevL, sFldAug, tPm0, tPm1, tDIn, tDNotIn, tDNewK, RS.tMethS, tForK, tKM, tKC, tLcK, tKM2, tKC2, tMethStar, tKCK2, tLk, tAug, ipI, tDig, tLcX, tKMX, tKCX]
    refine ⟨v0, .inl ⟨kvs, .inr x, .inr ⟨od, sm _ _ ea⟩, rfl, (valV_at nd hk).symm⟩, fun p hp => ?_⟩
    have pL : p ≠ L := fun z => by rw [z, eL] at hp; cases hp
    have p1 : H1 p = none := by
      cases e : H1 p with
      | none => rfl
      | some o => have := sm _ _ e; rw [hp] at this; cases this
    have tk : kvs.take (i + 1) = kvs.take i ++ [(.inr x, v0)] := by rw [List.take_add_one]; simp [hk]
    refine k (.ref p) _ (by rw [upd_ne pL.symm]; exact eL) ⟨fun b o e => ?_, ps ++ [p], by simp, ?_⟩
    · have bL : b ≠ L := fun z => by rw [z, hL] at e; cases e
      rw [upd_ne bL]; exact same_upd hp _ _ (sm _ _ e)
    · rw [tk]
      refine paired_snoc ⟨by rw [upd_ne pL]; exact upd_same, (hn1 p p1).2, pL⟩ (paired_imp (fun a _ z => ⟨?_, z.2⟩) pr1)
      rw [upd_ne z.2.2]; exact same_upd hp _ _ z.1
  obtain ⟨sm, ps, rfl, pr1⟩ := P
  rw [List.take_of_length_le (by omega)] at pr1
  have Ln := hn1 L hL
  have sG := hu X sm
  refine ⟨sm _ _ ea, ?_⟩
  have P0 : PrsAt H (upd X m (.dK kvs)) L kvs := ⟨⟨ps, by rw [upd_ne Ln.1]; exact eL, paired_imp (fun a _ z => ⟨by rw [upd_ne (fun q => by rw [q, h] at z; cases z.2.1)]; exact z.1, z.2⟩) pr1⟩, Ln.2⟩
  generalize upd X m (.dK kvs) = G0 at sG P0 ⊢
  refine ⟨⟨_, SqL.of (sG _ _ ha)⟩, ?_⟩
  have lpr := paired_len pr
  refine for_by vs.length (fun i σ X => (∃ r y3 y4, σ = [some (.ref m), some (.ref a), some (.ref r), y3, y4, none, none, none] ∧ Same H X ∧ ∃ kv f, PrsAt H X r kv ∧ TrD H kv (apDs D (dds.take i)) f ∧ (∀ c ∈ f, N c) ∧ (kv.map (·.1)).Nodup ∧ kv.length ≤ D.length + i))
    ⟨L, _, _, rfl, sG, kvs, fp, P0, hs, fun c hc => nfp c (List.mem_cons_of_mem _ hc) fun z => na (by cases z; exact hc), nd, by omega⟩ (fun i σ X lt P => ?_) (fun σ X P => ?_) (fun i σ X z X' lt P yl => ?_) (fun σ X P => ?_)
  · obtain ⟨r, y3, y4, rfl, sX, _⟩ := P
    exact ⟨_, vs[i], SqL.of (sX _ _ ha), by simp [lt]⟩
  · obtain ⟨r, y3, y4, rfl, sX, _⟩ := P
    exact ⟨_, SqL.of (sX _ _ ha), Nat.le_refl _⟩
  · obtain ⟨r, y3, y4, rfl, sX, kv, f1, ⟨⟨ps, er, pr2⟩, nr⟩, tk, nk, ndk, lk⟩ := P
    obtain ⟨rfl, hx⟩ := yl
    have hx := hx _ (SqL.of (sX _ _ ha))
    obtain ⟨dd, e2, hdd⟩ := pairedO pr hx
    have etk : apDs D (dds.take (i + 1)) = apD (apDs D (dds.take i)) dd := by
      rw [List.take_add_one, e2, apDs, apDs, List.foldl_append]; rfl
    rw [etk]
    generalize apDs D (dds.take i) = D1 at tk ⊢
    have lps := paired_len pr2
    have lkv := tk.len
    obtain ⟨t, x, zt, ht1⟩ : ∃ t x, z = .ref t ∧ ∃ us, X' t = some (.tup us) ∧ us[1]? = some (.str x) ∧ (match dd with | .put y _ => y | .drop y => y) = x := by
      cases dd with
      | put y d => obtain ⟨t, w, f', rfl, et, _⟩ := hdd; exact ⟨t, y, rfl, _, sX _ _ et, rfl, rfl⟩
      | drop y => obtain ⟨t, rfl, et⟩ := hdd; exact ⟨t, y, rfl, _, sX _ _ et, rfl, rfl⟩
    obtain ⟨us, et, e1, ex⟩ := ht1
    subst zt
    walk_at "sx"
    refine .inl ⟨_, .inl (SqL.of er), by rw [List.length_map]; omega, by rw [List.length_map]; omega, ?_⟩
    have at1 : ∀ {us : List V} {v : V}, us[1]? = some v → atI us 1 = some v := by
      intro us v e
      have l := (List.getElem?_eq_some_iff.mp e).1
      unfold atI ixN
      rw [if_pos (by omega), if_pos (by omega)]
      exact e
    refine lc_inv ps.length (fun L i acc X => Same X' X ∧ acc = (hits kv x i).map fun n => V.int (n : Nat)) (by rw [sizeLine_eq]; omega) (fun L hL => ⟨same_upd hL, rfl⟩) (fun L j acc X hL lt P => by show j < _; simp; omega) (fun L acc X hL P => by show _ ≤ _; simp) (fun L j acc X z X2 K K0 hL lt la P eL yl k k0 => ?_) (fun L acc X hL P eL => ?_)
    · obtain ⟨sX2, rfl⟩ := P
      obtain ⟨rfl, rfl⟩ := yl
      have ltk : j < kv.length := by omega
      obtain ⟨y, v, d, f', g1, g2, tv, _⟩ := tk.get ltk
      obtain ⟨p, gp, ep, _⟩ := paired_at2 pr2 g1
      refine ⟨rfl, ?_⟩
      walk_at "sx"
      refine ⟨_, .inl (SqL.of (sX2 _ _ er)), .ref p, ?_, ?_⟩
      · unfold atI ixN
        rw [if_pos (by omega), if_pos (by rw [List.length_map]; omega)]
        simp [gp]
      rw [RS.ix_r]
      refine ⟨_, .inl (SqL.of (sX2 _ _ ep)), .str y, rfl, us, .inr (SqT.of (sX2 _ _ et)), .str x, at1 e1, ?_⟩
      rw [RS.eq_ss]
      have hk : (kv[j]?).map (·.1) = some (.inr y) := by rw [g1]; rfl
      refine ⟨_, rfl, ?_⟩
      by_cases e : y = x
      · rw [if_pos (by simp [e])]
        refine k _ _ eL ⟨fun b o q => ?_, by rw [hits_succ, hk, if_pos (by rw [e])]; simp⟩
        have bL : b ≠ L := fun e => by rw [e, hL] at q; cases q
        rw [upd_ne bL]; exact sX2 _ _ q
      · rw [if_neg (by simp [e])]
        exact k0 _ eL ⟨sX2, by rw [hits_succ, hk, if_neg (fun q => e (Sum.inr.inj (Option.some.inj q))), List.append_nil]⟩
    obtain ⟨sX2, rfl⟩ := P
    have sH := sX.trans sX2
    have er2 := sX2 _ _ er
    have et2 := sX2 _ _ et
    have pr3 := paired_imp (F := fun (p : Addr) (kv : Key × V) => X' p = some (.lst [kV kv.1, kv.2]) ∧ H p = none ∧ p ≠ r) (G := fun (p : Addr) (kv : Key × V) => X p = some (.lst [kV kv.1, kv.2]) ∧ H p = none ∧ p ≠ r) (fun _ _ z => ⟨sX2 _ _ z.1, z.2⟩) pr2
    rw [lps] at eL
    cases dd with
    | drop y =>
      obtain ⟨t2, zt, et3⟩ := hdd
      cases zt
      simp only at ex
      subst ex
      have et4 := sH _ _ et3
      refine ⟨_, .inr (SqT.of et4), .str "drop", rfl, ?_⟩
      rw [RS.eq_ss]
      refine ⟨_, rfl, ?_⟩
      rw [if_pos (by simp)]
      refine ⟨⟨_, SqL.of er2⟩, ?_⟩
      refine lc_inv ps.length (fun B j acc Y => Same X Y ∧ ∃ qs, acc = qs.map V.ref ∧ Paired (fun p kv => Y p = some (.lst [kV kv.1, kv.2]) ∧ H p = none ∧ p ≠ B) qs ((kv.take j).filter fun p => decide (p.1 ≠ .inr y))) (by rw [sizeLine_eq]; omega) (fun B hB => ⟨same_upd hB, [], rfl, .nil⟩) (fun B j acc Y hB lt P => ⟨_, .ref ps[j], SqL.of (P.1 _ _ er2), by simp [lt]⟩) (fun B acc Y hB P => ⟨_, SqL.of (P.1 _ _ er2), by simp⟩) (fun B j acc Y z Y2 K K0 hB lt la P eB yl k k0 => ?_) (fun B acc Y hB P eB => ?_)
      · obtain ⟨sY, qs, rfl, prq⟩ := P
        obtain ⟨rfl, hz⟩ := yl
        have hz := hz _ (SqL.of (sY _ _ er2))
        have ltk : j < kv.length := by omega
        obtain ⟨u, v, d, f', g1, g2, tv, _⟩ := tk.get ltk
        obtain ⟨p, gp, ep, hp0, _⟩ := paired_at2 pr3 g1
        have zp : z = .ref p := by
          rw [List.getElem?_map, gp] at hz
          exact (Option.some.inj hz).symm
        subst zp
        have pB : p ≠ B := fun e => by rw [e, hB] at ep; cases ep
        refine ⟨rfl, ?_⟩
        walk_at "sx"
        refine ⟨_, .inl (SqL.of (sY _ _ ep)), .str u, rfl, _, .inr (SqT.of (sY _ _ et4)), .str y, rfl, ?_⟩
        rw [RS.ne_ss]
        refine ⟨_, rfl, ?_⟩
        have tk1 : kv.take (j + 1) = kv.take j ++ [(.inr u, v)] := by rw [List.take_add_one]; simp [g1]
        by_cases e : u = y
        · rw [if_neg (by simp [e])]
          refine k0 _ eB ⟨sY, qs, rfl, ?_⟩
          rw [tk1, List.filter_append]
          simpa [e] using prq
        · rw [if_pos (by simp [e])]
          refine k _ _ eB ⟨fun b o q => ?_, qs ++ [p], by simp, ?_⟩
          · have bB : b ≠ B := fun e => by rw [e, hB] at q; cases q
            rw [upd_ne bB]; exact sY _ _ q
          · rw [tk1, List.filter_append]
            have f1 : ([(Sum.inr u, v)] : List (Key × V)).filter (fun p => decide (p.1 ≠ .inr y)) = [(Sum.inr u, v)] := by simp [e]
            rw [f1]
            exact paired_snoc ⟨by rw [upd_ne pB]; exact sY _ _ ep, hp0, pB⟩ (paired_imp (fun _ _ z => ⟨by rw [upd_ne z.2.2]; exact z.1, z.2⟩) prq)
      · obtain ⟨sY, qs, rfl, prq⟩ := P
        rw [List.take_of_length_le (by omega)] at prq
        obtain ⟨f2, t2, kf⟩ := trD_drop (x := y) tk
        have hB0 : H B = none := by
          cases e : H B with
          | none => rfl
          | some o => have := sH _ _ e; rw [hB] at this; cases this
        exact ⟨B, rfl, sH.trans sY, _, ⟨⟨qs, eB, prq⟩, hB0⟩, f2, t2, fun c hc => nk c (kf c hc), ndk.sublist (List.filter_sublist.map _), Nat.le_trans (List.length_filter_le _ _) (by omega)⟩
    | put y d =>
      obtain ⟨t2, w, f', zt, et3, tw, nw⟩ := hdd
      cases zt
      simp only at ex
      subst ex
      have et4 := sH _ _ et3
      refine ⟨_, .inr (SqT.of et4), .str "put", rfl, ?_⟩
      rw [RS.eq_ss]
      refine ⟨_, rfl, ?_⟩
      rw [if_neg (by decide +kernel)]
      intro e0 he0
      have s0 := same_upd (o := HO.lst []) he0
      have em : ((hits kv y kv.length).map fun n => V.int (n : Nat)) = ((hits kv y kv.length).map fun n => ((n : Nat) : Int)).map V.int := by rw [List.map_map]; rfl
      refine ⟨_, _, .lst (SqL.of (by rw [← em]; exact s0 _ _ eL)) (dp_ints _), .lst (SqL.of upd_same) .nil, shaped_ints _, rfl, ?_⟩
      rw [eqv_nil]
      refine ⟨_, rfl, ?_⟩
      have er3 := s0 _ _ er2
      have et5 := s0 _ _ et4
      have eL3 := s0 _ _ eL
      have sH3 := sH.trans s0
      have pr4 := paired_imp (F := fun (p : Addr) (kv : Key × V) => X p = some (.lst [kV kv.1, kv.2]) ∧ H p = none ∧ p ≠ r) (G := fun (p : Addr) (kv : Key × V) => upd X e0 (.lst []) p = some (.lst [kV kv.1, kv.2]) ∧ H p = none ∧ p ≠ r) (fun _ _ z => ⟨s0 _ _ z.1, z.2⟩) pr3
      generalize upd X e0 (.lst []) = X3 at er3 et5 eL3 sH3 pr4 ⊢
      have fin : ∀ p, X3 p = none → H p = none ∧ p ≠ r ∧ upd X3 p (.lst [.str y, w]) r = some (.lst (ps.map V.ref)) ∧ Same H (upd X3 p (.lst [.str y, w])) := fun p hp => by
        have pr : p ≠ r := fun z => by rw [z, er3] at hp; cases hp
        refine ⟨?_, pr, by rw [upd_ne pr.symm]; exact er3, sH3.trans (same_upd hp)⟩
        cases e : H p with
        | none => rfl
        | some o => have := sH3 _ _ e; rw [hp] at this; cases this
      obtain ⟨f2, t2, kf⟩ := trD_put (x := y) tw tk ndk
      have nf2 : ∀ c ∈ f2, N c := fun c hc => (kf c hc).elim (nk c) (nw c)
      have n2 := nd_put (x := y) (v := w) (trD_keys tk) ndk
      have grow : ∀ {G : Hp} {o : HO}, Same H G → G r = some (.lst (ps.map V.ref)) → Same H (upd G r o) := fun sG _ b o e => by
        have br : b ≠ r := fun z => by rw [z, nr] at e; cases e
        rw [upd_ne br]; exact sG _ _ e
      cases hh : hits kv y kv.length with
      | nil =>
        rw [hh] at eL3
        rw [if_pos (by simp [hh])]
        refine ⟨⟨_, SqL.of er3⟩, _, .inr (SqT.of et5), .str y, rfl, _, .inr (SqT.of et5), w, rfl, fun p hp => ?_⟩
        obtain ⟨p1, p2, p3, p4⟩ := fin p hp
        refine ⟨_, p3, by rw [List.length_map]; omega, grow p4 p3, putK kv (.inr y) w, ⟨⟨ps ++ [p], by rw [upd_same]; simp, ?_⟩, nr⟩, f2, t2, nf2, n2, by have := length_putK kv (.inr y) w; omega⟩
        rw [putK_new (hits_none hh)]
        refine paired_snoc ⟨by rw [upd_ne p2]; exact upd_same, p1, p2⟩ (paired_imp (fun a _ z => ⟨?_, z.2⟩) pr4)
        rw [upd_ne z.2.2]; exact same_upd hp _ _ z.1
      | cons j js =>
        obtain ⟨u, hj⟩ := hits_some hh
        rw [if_neg (by simp [hh])]
        refine ⟨_, .inr (SqT.of et5), .str y, rfl, _, .inr (SqT.of et5), w, rfl, fun p hp => ?_⟩
        obtain ⟨p1, p2, p3, p4⟩ := fin p hp
        have jl : j < kv.length := (List.getElem?_eq_some_iff.mp hj).1
        rw [RS.ix_r]
        refine ⟨_, .inl (SqL.of (same_upd hp _ _ eL3)), .int (j : Nat), by rw [hh]; unfold atI ixN; simp, ?_⟩
        refine ⟨ps.map V.ref, (j : Nat), rfl, p3, j, ?_, grow p4 p3, putK kv (.inr y) w, ⟨⟨ps.set j p, by rw [upd_same, List.map_set], ?_⟩, nr⟩, f2, t2, nf2, n2, by have := length_putK kv (.inr y) w; omega⟩
        · unfold ixN
          rw [if_pos (by omega), if_pos (by rw [List.length_map]; omega)]
          simp
        · rw [putK_set ndk hj]
          refine paired_set ⟨by rw [upd_ne p2]; exact upd_same, p1, p2⟩ (paired_imp (fun a _ z => ⟨?_, z.2⟩) pr4) j
          rw [upd_ne z.2.2]; exact same_upd hp _ _ z.1
  · obtain ⟨r, y3, y4, rfl, sX, kv, f1, P1, tk, nk, ndk, lk⟩ := P
    rw [List.take_of_length_le (by omega)] at tk
    walk_at "sx"
    exact q r kv f1 X sX P1 tk nk ndk (by omega)
end
/-- the text of the value at a key -/
def atD (D : List (PyData × PyData)) (x : Str) : Str := match look D x with
  | some d => d.shown
  | none => ""
theorem look_mem {x : Str} {d : PyData} : ∀ {D : List (PyData × PyData)}, look D x = some d → (PyData.str x, d) ∈ D
  | [], h => by cases h
  | (k, e) :: r, h => by
    cases k with
    | str y =>
      rw [look_cons] at h
      split at h
      · rename_i q
        subst q
        cases h
        exact List.mem_cons_self ..
      · exact List.mem_cons_of_mem _ (look_mem h)
    | _ => exact List.mem_cons_of_mem _ (look_mem (D := r) h)
theorem VOk.look {n : Nat} {D : List (PyData × PyData)} {x : Str} {d : PyData} (h : VOk (n + 1) (.dict D)) (l : look D x = some d) : VOk n d := by
  have m := look_mem l
  obtain ⟨ok, dep⟩ := h
  simp only [gB, Bool.and_eq_true, decide_eq_true_eq] at ok
  obtain ⟨i, hi, e⟩ := List.getElem_of_mem m
  have := depth_kv (D := D) (k := .str x) (d := d) (i := i) (by rw [List.getElem?_eq_getElem hi, e])
  simp only [PyData.depth] at dep
  exact ⟨(gKv_mem.mp ok.2 _ m).2, by omega⟩
theorem shown_ne (d : PyData) : d.shown ≠ ("" : Str) := fun e => by
  obtain ⟨c, t, h, _⟩ := head_of rshown d
  unfold shL at h
  rw [e] at h
  have e2 : ("" : Str).cps.toList = [] := by decide +kernel
  rw [e2] at h; cases h
theorem atD_eq {B O : List (PyData × PyData)} {x : Str} (hB : VOk 2 (.dict B)) (hO : VOk 2 (.dict O)) : atD B x = atD O x ↔ look B x = look O x := by
  unfold atD
  cases e1 : look B x with
  | none =>
    cases e2 : look O x with
    | none => simp
    | some e => simpa using (shown_ne e).symm
  | some d =>
    cases e2 : look O x with
    | none => simpa using shown_ne d
    | some e => simpa using shown_inj (hB.look e1).ok (hO.look e2).ok
theorem hasC_eq {B O : List (PyData × PyData)} {x : Str} (hB : VOk 2 (.dict B)) (hO : VOk 2 (.dict O)) : hasC B O x = true ↔ look B x ≠ look O x := by
  unfold hasC
  cases e1 : look B x with
  | none => cases e2 : look O x <;> simp
  | some d =>
    cases e2 : look O x with
    | none => simp
    | some e =>
      have := note_inj (hB.look e1).ok (hO.look e2).ok
      simp [this]
theorem oneC_eq {B O : List (PyData × PyData)} {x : Str} (hB : VOk 2 (.dict B)) (hO : VOk 2 (.dict O)) : oneC B O x = true ↔ look B x = look O x := by
  unfold oneC
  cases e1 : look B x with
  | none => cases e2 : look O x <;> simp
  | some d =>
    cases e2 : look O x with
    | none => simp
    | some e =>
      have := note_inj (hB.look e1).ok (hO.look e2).ok
      simp [this]
theorem isC_at {B O P : List (PyData × PyData)} {x : Str} (hB : VOk 2 (.dict B)) (hO : VOk 2 (.dict O)) (hP : VOk 2 (.dict P)) : isC B O P x = (decide (atD O x ≠ atD B x) && decide (atD P x ≠ atD B x) && decide (atD O x ≠ atD P x)) := by
  unfold isC
  have h1 := hasC_eq (x := x) hB hO
  have h2 := hasC_eq (x := x) hB hP
  have h3 := oneC_eq (x := x) hO hP
  have a1 := atD_eq (x := x) hO hB
  have a2 := atD_eq (x := x) hP hB
  have a3 := atD_eq (x := x) hO hP
  have c1 : (look B x = look O x) ↔ (look O x = look B x) := eq_comm
  have c2 : (look B x = look P x) ↔ (look P x = look B x) := eq_comm
  rw [Bool.eq_iff_iff]
  simp only [Bool.and_eq_true, Bool.not_eq_true', ← Bool.not_eq_true, h1, h2, h3, decide_eq_true_eq, ne_eq, a1, a2, a3, c1, c2]
section
variable {g : Wd} {f : Addr} {fd : FuncData}
theorem sc_l_at : FnScope ["_law_mapping_here", "_law_key"] ["_law_mapping_here", "_law_key"] (defScope s_l_at) := ⟨rfl, rfl, rfl, by decide +kernel, rfl, by decide +kernel, by decide +kernel⟩
def sp_at : Sp := S2 fun m k H Q _ => ∃ D fp x, MapR H m D fp ∧ VOk 2 (.dict D) ∧ k = .str x ∧ Q (.str (atD D x)) H
theorem ok_at (F : Df g.K "_law_at" "_law_at" s_l_at f fd .none) (T : Txt g) (SM : SmB g.base) : FnG g 1 f fd ["_law_mapping_here", "_law_key"] sp_at := by
  refine F.ok sc_l_at (fun vs H Q E h => S2.len h) (fun cdv A outer s H vs Q E hr h => ?_)
  obtain ⟨_, _, rfl, D, fp, x, hm, vk, rfl, q⟩ := h
  refine ⟨_, (pss_one (ps_ret (pe_ifExp (pt_cmp (pc_din (hu_of hr.room) (pv 1) (pv 0)) (by rfl)) (pe_callB (c_reprV (K := g.K) (base := g.base) SM hr) (by rfl) T.b_repr bb_repr (pa_cons (pe_dget (hu_of hr.room) (pv 0) (pv 1) (fun _ _ => rfl)) pa_nil)) pe_str))), ?_⟩
  walk_at "sx"
  obtain ⟨⟨a, kvs, rfl, hd, t, nd⟩, _⟩ := hm
  refine ⟨a, rfl, _, dget_x hd, ?_⟩
  unfold atD at q
  rcases trD_look t x with ⟨v, d, f', l, e, tv, i, gi⟩ | ⟨l, e⟩
  · rw [l] at q
    rw [e, if_pos (by rfl)]
    have vd := vk.look l
    obtain ⟨s1, s2, s3⟩ := fits vd.ok (by have := vd.dep; omega)
    refine ⟨a, rfl, v, by rw [← e]; exact dget_x hd, v, d, rfl, tv.dp, s1, s2, by rw [sizeLine_eq]; exact s3, q⟩
  · rw [l] at q
    rw [e, if_neg (by simp)]
    exact q
end
theorem rd_same {H G : Hp} {a : Addr} {u : HO} (h : Rd H a u) (s : Same H G) : Rd G a u := h.imp (s _ _) fun ⟨od, z⟩ => ⟨od, s _ _ z⟩
theorem keys_list {kvs : List (Key × V)} {ks : List Str} (h : kvs.map (·.1) = ks.map Sum.inr) : (kvs.map fun kv => kV kv.1) = ks.map V.str := by
  have : (kvs.map fun kv => kV kv.1) = (kvs.map (·.1)).map kV := by rw [List.map_map]; rfl
  rw [this, h, List.map_map]; rfl
theorem foldS_all (B O P : List (PyData × PyData)) : ((keysOf B ++ keysOf O) ++ keysOf P).foldl putS [] = allK B O P := by
  rw [List.foldl_append, List.foldl_append]; rfl
/-- the keys of three mappings, sorted -/
theorem keys_sort {w : World} {K : PySem.W.Frag} {H : Hp} {B O P : List (PyData × PyData)} {vb vo vp : V} {b o p : Addr} {kb ko kp : List (Key × V)} (hvb : vb = .ref b) (hvo : vo = .ref o) (hvp : vp = .ref p) (rb : Rd H b (.dK kb)) (ro : Rd H o (.dK ko)) (rp : Rd H p (.dK kp))
    (eb : kb.map (·.1) = (keysOf B).map Sum.inr) (eo : ko.map (·.1) = (keysOf O).map Sum.inr) (ep : kp.map (·.1) = (keysOf P).map Sum.inr) (hl : B.length + O.length + P.length < 64) {Q : VK}
    (q : ∀ ys a H', ys.Perm (allK B O P) → PyProof.Rows.sortedS ys = true → Same H H' → H a = none → H' a = some (.lst (ys.map V.str)) → Q (.ref a) H') :
    ∃ a, vb = V.ref a ∧ ∃ x, Rd H a (.dK x) ∧ ∀ p1, H p1 = none → ∃ a, vo = V.ref a ∧ ∃ y, Rd (upd H p1 (.lst (x.map fun kv => kV kv.1))) a (.dK y) ∧ ∀ p2, upd H p1 (.lst (x.map fun kv => kV kv.1)) p2 = none →
      (rCat (.ref p1) (.ref p2) (upd (upd H p1 (.lst (x.map fun kv => kV kv.1))) p2 (.lst (y.map fun kv => kV kv.1))) (fun u H1 => ∃ a, vp = V.ref a ∧ ∃ z, Rd H1 a (.dK z) ∧ ∀ p3, H1 p3 = none → RS.rAdd K u (.ref p3) (upd H1 p3 (.lst (z.map fun kv => kV kv.1))) fun u H1 => rSetS w K [u] H1 fun u H1 => rSortS w [u] H1 Q) ∨
       rCatA K (.ref p1) (.ref p2) (upd (upd H p1 (.lst (x.map fun kv => kV kv.1))) p2 (.lst (y.map fun kv => kV kv.1))) (fun u H1 => ∃ a, vp = V.ref a ∧ ∃ z, Rd H1 a (.dK z) ∧ ∀ p3, H1 p3 = none → RS.rAdd K u (.ref p3) (upd H1 p3 (.lst (z.map fun kv => kV kv.1))) fun u H1 => rSetS w K [u] H1 fun u H1 => rSortS w [u] H1 Q)) := by
  subst hvb hvo hvp
  have lb := keysOf_len B
  have lo := keysOf_len O
  have lp := keysOf_len P
  refine ⟨b, rfl, kb, rb, fun p1 h1 => ?_⟩
  rw [keys_list eb]
  have s1 := same_upd (o := HO.lst ((keysOf B).map V.str)) h1
  have e1 : upd H p1 (.lst ((keysOf B).map V.str)) p1 = some (.lst ((keysOf B).map V.str)) := upd_same
  generalize upd H p1 (.lst ((keysOf B).map V.str)) = H1 at s1 e1 ⊢
  refine ⟨o, rfl, ko, rd_same ro s1, fun p2 h2 => .inl ?_⟩
  rw [keys_list eo]
  have s2 := same_upd (o := HO.lst ((keysOf O).map V.str)) h2
  refine ⟨p1, p2, _, _, rfl, rfl, s2 _ _ e1, upd_same, by rw [List.length_map, List.length_map, sizeLine_eq]; omega, fun p4 h4 => ?_⟩
  have s3 := s2.trans (same_upd (o := HO.lst ((keysOf B).map V.str ++ (keysOf O).map V.str)) h4)
  have e4 : upd (upd H1 p2 (.lst ((keysOf O).map V.str))) p4 (.lst ((keysOf B).map V.str ++ (keysOf O).map V.str)) p4 = some (.lst ((keysOf B).map V.str ++ (keysOf O).map V.str)) := upd_same
  generalize upd (upd H1 p2 (.lst ((keysOf O).map V.str))) p4 (.lst ((keysOf B).map V.str ++ (keysOf O).map V.str)) = H4 at s3 e4 ⊢
  have s4 := s1.trans s3
  refine ⟨p, rfl, kp, rd_same rp s4, fun p5 h5 => ?_⟩
  rw [keys_list ep]
  have s5 := same_upd (o := HO.lst ((keysOf P).map V.str)) h5
  refine .inl ⟨p4, p5, _, _, rfl, rfl, s5 _ _ e4, upd_same, by rw [List.length_append, List.length_map, List.length_map, List.length_map, sizeLine_eq]; omega, fun p6 h6 => ?_⟩
  have s6 := s4.trans (s5.trans (same_upd (o := HO.lst (((keysOf B).map V.str ++ (keysOf O).map V.str) ++ (keysOf P).map V.str)) h6))
  have e6 : upd (upd H4 p5 (.lst ((keysOf P).map V.str))) p6 (.lst (((keysOf B).map V.str ++ (keysOf O).map V.str) ++ (keysOf P).map V.str)) p6 = some (.lst ((((keysOf B) ++ keysOf O) ++ keysOf P).map V.str)) := by
    rw [upd_same, List.map_append, List.map_append]
  generalize upd (upd H4 p5 (.lst ((keysOf P).map V.str))) p6 (.lst (((keysOf B).map V.str ++ (keysOf O).map V.str) ++ (keysOf P).map V.str)) = H6 at s6 e6 ⊢
  refine ⟨p6, _, rfl, SqL.of e6, by rw [List.length_append, List.length_append]; omega, fun p7 h7 => ?_⟩
  rw [foldS_all]
  refine ⟨p7, _, rfl, upd_same, Nat.lt_of_le_of_lt (allK_len B O P) hl, fun ys a perm srt ha => ?_⟩
  have s7 := s6.trans (same_upd (o := SetSO w p7 (allK B O P)) h7)
  refine q ys a _ perm srt (s7.trans (same_upd ha)) ?_ upd_same
  cases e : H a with
  | none => rfl
  | some u => have := s7 _ _ e; rw [ha] at this; cases this
section
variable {g : Wd} {f : Addr} {fd : FuncData}
theorem sc_l_conflicts : FnScope ["_law_base", "_law_one", "_law_other", "_law_found", "_law_key", "_law_texts"] ["_law_base", "_law_one", "_law_other"] (defScope s_l_conflicts) := ⟨rfl, rfl, rfl, by decide +kernel, rfl, by decide +kernel, by decide +kernel⟩
def sp_lconf : Sp := S3 fun b o p H Q _ => ∃ B O P fb fo fp, MapAt H b B fb ∧ MapAt H o O fo ∧ MapAt H p P fp ∧ VOk 2 (.dict B) ∧ VOk 2 (.dict O) ∧ VOk 2 (.dict P) ∧ B.length + O.length + P.length < 64 ∧
  ∀ ys a H', ys.Perm (allK B O P) → PyProof.Rows.sortedS ys = true → Same H H' → H a = none → H' a = some (.lst ((ys.filter (isC B O P)).map V.str)) → Q (.ref a) H'
theorem ok_lconf (F : Df g.K "_law_conflicts" "_law_conflicts" s_l_conflicts f fd .none) (T : Txt g) (F_l_at : Kn g "_law_at" 1 ["_law_mapping_here", "_law_key"] [] sp_at) : FnG g 2 f fd ["_law_base", "_law_one", "_law_other"] sp_lconf := by
  refine F.ok sc_l_conflicts (fun vs H Q E h => S3.len h) (fun cdv A outer s H vs Q E hr h => ?_)
  obtain ⟨_, _, _, rfl, B, O, P, fb, fo, fp, hB, hO, hP, vB, vO, vP, hl, q⟩ := h
  refine ⟨_, (pss_cons (ps_set (i := 3) sc_l_conflicts.nd rfl (Or.inl rfl) (pe_lst pa_nil))
      (pss_cons (ps_for psD rfl (i_list (K := g.K) (pe_callB (c_sortS rfl) (by rfl) T.b_sorted bb_sorted (pa_cons (pe_callTy (c_setS rfl) (by rfl) T.b_set bb_set (pa_cons (pe_op (o_add (K := g.K)) (pe_op (o_add (K := g.K)) (pe_callTy (call_listD rfl) (by rfl) T.b_list bb_list (pa_cons (pv 0) pa_nil)) (pe_callTy (call_listD rfl) (by rfl) T.b_list bb_list (pa_cons (pv 1) pa_nil))) (pe_callTy (call_listD rfl) (by rfl) T.b_list bb_list (pa_cons (pv 2) pa_nil))) pa_nil)) pa_nil))) (pg_name (i := 4) sc_l_conflicts.nd rfl (.inl rfl)) (pss_cons (ps_set (i := 5) sc_l_conflicts.nd rfl (Or.inl rfl) (pe_lst (pa_cons (pe_callG F_l_at (hr.mono (by first | decide | omega)) tkD (pa_cons (pv 0) (pa_cons (pv 4) pa_nil))) (pa_cons (pe_callG F_l_at (hr.mono (by first | decide | omega)) tkD (pa_cons (pv 1) (pa_cons (pv 4) pa_nil))) (pa_cons (pe_callG F_l_at (hr.mono (by first | decide | omega)) tkD (pa_cons (pv 2) (pa_cons (pv 4) pa_nil))) pa_nil)))))
      (pss_one (ps_if (PW.pt (pw_and (pt_cmpR (o_ne (K := g.K) hr) (pe_ix (o_ix (K := g.K)) (pv 5) pe_int (fun _ _ => rfl)) (pe_ix (o_ix (K := g.K)) (pv 5) pe_int (fun _ _ => rfl)) (nomark _)) (pw_and (pt_cmpR (o_ne (K := g.K) hr) (pe_ix (o_ix (K := g.K)) (pv 5) pe_int (fun _ _ => rfl)) (pe_ix (o_ix (K := g.K)) (pv 5) pe_int (fun _ _ => rfl)) (nomark _)) (pw_and1 (pt_cmpR (o_ne (K := g.K) hr) (pe_ix (o_ix (K := g.K)) (pv 5) pe_int (fun _ _ => rfl)) (pe_ix (o_ix (K := g.K)) (pv 5) pe_int (fun _ _ => rfl)) (nomark _)))))) (pss_one (ps_expr (e_bm (K := g.K) PySem.F.plainAttrs_list PySem.F.slot_list_append PySem.F.type_list_append mt_append (pv 3) (pa_cons (pv 4) pa_nil)))) pss_nil))))
      (pss_one (ps_ret (pv 3))))), ?_⟩
  walk_at "sx"
  refine fun p hp => ?_
  cases hB.tr with
  | @dct b kb _ _ eB sB _ _ =>
  cases hO.tr with
  | @dct o ko _ _ eO sO _ _ =>
  cases hP.tr with
  | @dct c kp _ _ eP sP _ _ =>
  have s0 := same_upd (o := HO.lst []) hp
  have ep : upd H p (.lst []) p = some (.lst []) := upd_same
  generalize upd H p (.lst []) = H0 at s0 ep ⊢
  refine keys_sort rfl rfl rfl (.inl (s0 _ _ eB)) (.inl (s0 _ _ eO)) (.inl (s0 _ _ eP)) (trD_keys sB) (trD_keys sO) (trD_keys sP) hl fun ys r H1 perm srt s1 hr er => ?_
  have rp : r ≠ p := fun z => by rw [z, ep] at hr; cases hr
  have ylen : ys.length < 64 := by
    have := allK_len B O P
    rw [perm.length_eq]; omega
  refine ⟨r, rfl, ⟨_, SqL.of er⟩, ?_⟩
  refine for_by ys.length (fun i σ G => (∃ v w, σ = [some (.ref b), some (.ref o), some (.ref c), some (.ref p), v, w]) ∧ Same H G ∧ G r = some (.lst (ys.map V.str)) ∧ G p = some (.lst (((ys.take i).filter (isC B O P)).map V.str)))
    ⟨⟨_, _, rfl⟩, s0.trans s1, er, s1 _ _ ep⟩ (fun i σ G lt P => ⟨_, .str ys[i], SqL.of P.2.2.1, by simp [lt]⟩) (fun σ G P => ⟨_, SqL.of P.2.2.1, by simp⟩) (fun i σ G x G' lt Pv yl => ?_) (fun σ G Pv => ?_)
  · obtain ⟨⟨v, w, rfl⟩, sG, hrG, hpG⟩ := Pv
    obtain ⟨rfl, hx⟩ := yl
    have hx := hx _ (SqL.of hrG)
    rw [List.getElem?_map, List.getElem?_eq_getElem lt] at hx
    cases hx
    have tk : (ys.take (i + 1)).filter (isC B O P) = (ys.take i).filter (isC B O P) ++ if isC B O P ys[i] then [ys[i]] else [] := by
      rw [List.take_succ, List.getElem?_eq_getElem lt, List.filter_append]
      simp only [Option.toList_some, List.filter_cons, List.filter_nil]
    walk_at "sx"
    obtain ⟨_, rB⟩ := hB.toR
    obtain ⟨_, rO⟩ := hO.toR
    obtain ⟨_, rP⟩ := hP.toR
    have ic := isC_at (x := ys[i]) vB vO vP
    generalize ys[i] = x at ic tk ⊢
    refine ⟨_, _, rfl, B, _, x, rB.same sG, vB, rfl, ?_⟩
    refine ⟨_, _, rfl, O, _, x, rO.same sG, vO, rfl, ?_⟩
    refine ⟨_, _, rfl, P, _, x, rP.same sG, vP, rfl, fun t ht => ?_⟩
    have et : upd G' t (.lst [.str (atD B x), .str (atD O x), .str (atD P x)]) t = some (.lst [.str (atD B x), .str (atD O x), .str (atD P x)]) := upd_same
    have st := same_upd (o := HO.lst [.str (atD B x), .str (atD O x), .str (atD P x)]) ht
    generalize upd G' t (.lst [.str (atD B x), .str (atD O x), .str (atD P x)]) = G2 at et st ⊢
    have sG2 := sG.trans st
    have hr2 := st _ _ hrG
    have hp2 := st _ _ hpG
    have no : isC B O P x = false → (∃ z : Option V, some (V.ref t) = z) ∧ Same H G2 ∧ G2 r = some (.lst (ys.map V.str)) ∧ G2 p = some (.lst (((ys.take (i + 1)).filter (isC B O P)).map V.str)) := fun e =>
      ⟨⟨_, rfl⟩, sG2, hr2, by rw [tk, if_neg (by simp [e]), List.append_nil]; exact hp2⟩
    have el := SqL.of (K := g.K) et
    refine ⟨_, .inl el, .str (atD O x), rfl, _, .inl el, .str (atD B x), rfl, ?_⟩
    rw [RS.ne_ss]
    refine ⟨_, rfl, ?_⟩
    by_cases c1 : atD O x = atD B x
    · rw [if_neg (by simp [c1])]
      exact no (by rw [ic]; simp [c1])
    rw [if_pos (by simp [c1])]
    refine ⟨_, .inl el, .str (atD P x), rfl, _, .inl el, .str (atD B x), rfl, ?_⟩
    rw [RS.ne_ss]
    refine ⟨_, rfl, ?_⟩
    by_cases c2 : atD P x = atD B x
    · rw [if_neg (by simp [c2])]
      exact no (by rw [ic]; simp [c2])
    rw [if_pos (by simp [c2])]
    refine ⟨_, .inl el, .str (atD O x), rfl, _, .inl el, .str (atD P x), rfl, ?_⟩
    rw [RS.ne_ss]
    refine ⟨_, rfl, ?_⟩
    by_cases c3 : atD O x = atD P x
    · rw [if_neg (by simp [c3])]
      exact no (by rw [ic]; simp [c3])
    rw [if_pos (by simp [c3])]
    have it : isC B O P x = true := by rw [ic]; simp [c1, c2, c3]
    have rp2 : Same H (upd G2 p (.lst (((ys.take i).filter (isC B O P)).map V.str ++ [.str x]))) := fun b o e => by
      have n : b ≠ p := fun z => by rw [z, hp] at e; cases e
      rw [upd_ne n]; exact sG2 _ _ e
    refine ⟨⟨_, SqL.of hp2⟩, _, hp2, ?_, ⟨_, rfl⟩, rp2, by rw [upd_ne rp]; exact hr2, by rw [tk, if_pos it]; simp⟩
    have f1 := List.length_filter_le (isC B O P) (ys.take i)
    simp only [List.length_map, List.length_take] at f1 ⊢
    omega
  · obtain ⟨⟨v, w, rfl⟩, sG, hrG, hpG⟩ := Pv
    rw [List.take_length] at hpG
    walk_at "sx"
    exact q ys p G perm srt sG hp hpG
end
theorem DdF.free {X : Hp} {v : V} {dd : Dd} (h : DdAt X v dd) : DdF (fun _ => True) X v dd := by
  cases dd with
  | put x d => obtain ⟨t, w, f, a, b, c, _⟩ := h; exact ⟨t, w, f, a, b, c, fun _ _ => True.intro⟩
  | drop x => exact h
section
variable {g : Wd} {f : Addr} {fd : FuncData}
theorem sc_l_merged : FnScope ["_law_base", "_law_one", "_law_other", "_law_deeds_here", "_law_key"] ["_law_base", "_law_one", "_law_other"] (defScope s_l_merged) := ⟨rfl, rfl, rfl, by decide +kernel, rfl, by decide +kernel, by decide +kernel⟩
def sp_lmerged : Sp := S3 fun b o p H Q _ => ∃ B O P fb fo fp, MapAt H b B fb ∧ MapAt H o O fo ∧ MapAt H p P fp ∧ VOk 2 (.dict B) ∧ VOk 2 (.dict O) ∧ VOk 2 (.dict P) ∧ B.length + O.length + P.length < 64 ∧ (∀ a, p = .ref a → b = p ∨ a ∉ fb) ∧ (∀ a, p = .ref a → o = p ∨ a ∉ fo) ∧
  ∀ r kvs fr G, Same H G → PrsAt H G r kvs → TrD G kvs (apDs O (dropsM B P ++ putsM B O P)) fr → (kvs.map (·.1)).Nodup → Q (.ref r) G
theorem ok_lmerged (F : Df g.K "_law_merged" "_law_merged" s_l_merged f fd .none) (T : Txt g) (F_l_at : Kn g "_law_at" 1 ["_law_mapping_here", "_law_key"] [] sp_at) (F_l_done : Kn g "_law_done" 1 ["_law_mapping_here", "_law_deeds_here"] [] sp_done) : FnG g 2 f fd ["_law_base", "_law_one", "_law_other"] sp_lmerged := by
  refine F.ok sc_l_merged (fun vs H Q E h => S3.len h) (fun cdv A outer s H vs Q E hr h => ?_)
  obtain ⟨b, o, p, rfl, B, O, P, fb, fo, fp, hB, hO, hP, vB, vO, vP, hl, nB, nO, q⟩ := h
  refine ⟨_, (pss_cons (ps_lock (ps_setLc (i := 3) (own := [("_law_key", 4)]) rfl sc_l_merged.nd rfl rfl (sw_true rfl rfl rfl (by decide +kernel)) (pi_keys (pv 0)) (blkOk_by (own := [("_law_key", 4)]) (N := ["_law_base", "_law_one", "_law_other", "_law_deeds_here", "_law_key"]) (sc := defScope s_l_merged) (by decide +kernel)) (fun _ _ _ _ _ => (pg_name (i := 4) sc_l_merged.nd rfl (.inl rfl))) (fun _ _ _ _ _ => (pts_one (pt_cmp (pc_dnotin (hu_of (Rm.mk hr.room hr.gd).room) (pv 4) (pv 2)) (by rfl)))) (fun _ _ _ _ _ => (pe_tup (pa_cons pe_str (pa_cons (pv 4) pa_nil))))))
      (pss_cons (ps_lock (ps_for psD rfl (pi_keys (pv 2)) (pg_name (i := 4) sc_l_merged.nd rfl (.inl rfl)) (pss_one (ps_if (PW.pt (pw_and (pt_cmpR (o_ne (K := g.K) hr) (pe_callG F_l_at (hr.mono (by first | decide | omega)) tkD (pa_cons (pv 0) (pa_cons (pv 4) pa_nil))) (pe_callG F_l_at (hr.mono (by first | decide | omega)) tkD (pa_cons (pv 2) (pa_cons (pv 4) pa_nil))) (nomark _)) (pw_and1 (pt_cmpR (o_eq (K := g.K) hr) (pe_callG F_l_at (hr.mono (by first | decide | omega)) tkD (pa_cons (pv 0) (pa_cons (pv 4) pa_nil))) (pe_callG F_l_at (hr.mono (by first | decide | omega)) tkD (pa_cons (pv 1) (pa_cons (pv 4) pa_nil))) (nomark _))))) (pss_one (ps_expr (e_bm (K := g.K) PySem.F.plainAttrs_list PySem.F.slot_list_append PySem.F.type_list_append mt_append (pv 3) (pa_cons (pe_tup (pa_cons pe_str (pa_cons (pv 4) (pa_cons (pe_dget (hu_of hr.room) (pv 2) (pv 4) (fun _ _ => rfl)) pa_nil)))) pa_nil)))) pss_nil))))
      (pss_one (ps_ret (pe_callG F_l_done (hr.mono (by first | decide | omega)) tkD (pa_cons (pv 1) (pa_cons (pv 3) pa_nil))))))), ?_⟩
  walk_at "sx"
  cases hP.tr with
  | @dct p kp _ _ eP sP _ ndP =>
  cases hB.tr with
  | @dct b kb _ _ eB sB _ _ =>
  refine ⟨b, _, eB, True.intro, fun od => ⟨b, rfl, od, .inl ⟨kb, upd_same, ?_⟩⟩⟩
  have rP : Rd (upd H b (.frz od (.dK kb))) p (.dK kp) := by
    by_cases q : p = b
    · subst q
      rw [eP] at eB; cases eB
      exact .inr ⟨od, upd_same⟩
    · exact .inl (by rw [upd_ne q]; exact eP)
  have ea : upd H b (.frz od (.dK kb)) b = some (.frz od (.dK kb)) := upd_same
  have hu : ∀ X, Same (upd H b (.frz od (.dK kb))) X → Same H (upd X b (.dK kb)) := fun X sm => unlock eB sm
  have hn1 : ∀ c, upd H b (.frz od (.dK kb)) c = none → c ≠ b ∧ H c = none := fun c z => fresh_lock z
  generalize upd H b (.frz od (.dK kb)) = H3 at rP ea hu hn1 ⊢
  have kB := trD_keys sB
  have kP := trD_keys sP
  have lB : kb.length = (keysOf B).length := by have := congrArg List.length kB; simpa using this
  have lB2 := keysOf_len B
  refine lc_inv kb.length (fun L i acc X => Same H3 X ∧ Paired (DdG H X) acc ((((keysOf B).take i).filter fun x => decide (x ∉ keysOf P)).map Dd.drop)) (by rw [sizeLine_eq]; omega) (fun L hL => ⟨same_upd hL, .nil⟩) (fun L i acc X hL lt P => ⟨P.1 _ _ ea, lt⟩) (fun L acc X hL P => ⟨P.1 _ _ ea, Nat.le_refl _⟩) (fun L i acc X x X' K K0 hL lt la Pv eL y k k0 => ?_) (fun L acc X hL Pv eL => ?_)
  · obtain ⟨sm, pr⟩ := Pv
    obtain ⟨rfl, ky, v0, hk, rfl⟩ := y
    obtain ⟨x, hx, e1⟩ : ∃ x, (keysOf B)[i]? = some x ∧ ky = .inr x := by
      have q : (kb.map (·.1))[i]? = some ky := by rw [List.getElem?_map, hk]; rfl
      rw [kB, List.getElem?_map] at q
      cases q2 : (keysOf B)[i]? with
      | none => rw [q2] at q; cases q
      | some x => rw [q2] at q; exact ⟨x, rfl, (Option.some.inj q).symm⟩
    subst e1
    have tk : (((keysOf B).take (i + 1)).filter fun x => decide (x ∉ keysOf P)).map Dd.drop = (((keysOf B).take i).filter fun x => decide (x ∉ keysOf P)).map Dd.drop ++ if x ∈ keysOf P then [] else [Dd.drop x] := by
      rw [List.take_add_one, hx, List.filter_append, List.map_append]
      congr 1
      by_cases q : x ∈ keysOf P <;> simp [q]
    refine ⟨rfl, ?_⟩
    simp only [kV, tRet, tRetN, tSeq, C8.tCut, tNext, tAsg, gName, gNil, gCons, gTup, gFld, tIfS, tIf, tAndV, tOrV, tNotV, tAnd, tOr, tNot, tB, tTest, tOp, tUn, tCB, tCons, tNil, tVar, tC, tChain, tDrop, RS.tCallG, RS.tMethG, tMakeG, RS.tCallK, RS.tMakeK, tEqOwn, rI, rI0, rU, add_ii, add_ss, add_rr, mul_ii, mul_si, mul_ri, RS.eq_ii, RS.eq_ss, eq_bb, eq_nn, eq_sn, eq_ns, eq_in, eq_ni, eq_bn, eq_nb, eq_is, eq_si, eq_rr, ne_ii, ne_ss, ne_bb, ne_nn, ne_sn, ne_ns, ne_in, ne_ni, ne_is, ne_si, ne_rr, in_ss, in_r, nin_ss, nin_r, len_s, len_r, RS.ix_s, RS.ix_r, sl_s, sl_r, is_eq, tyN_n, tyN_b, tyN_i, tyN_s, tru_b, tru_i, tru_n, tSl, tPart, tNoPart, tPar, tPar3, tFmtZ, tFmt, tJs, tDGet, sDPut, sFld, tFld, tTup, tLst, tNever, isB,
  L2.start, List.map_cons, List.map_nil, List.length_cons, List.length_nil, Nat.reduceAdd, Nat.reduceSub, Nat.sub_self, List.replicate_zero, List.replicate_succ, List.append_nil, List.cons_append, List.nil_append, List.getElem?_cons_zero, List.getElem?_cons_succ, List.set_cons_zero, List.set_cons_succ, Option.some.injEq, exists_eq_left, exists_eq_left', exists_and_left, V.bl.injEq, V.int.injEq, V.str.injEq, V.ref.injEq, beq_self_eq_true, Bool.true_or, Bool.or_true, Bool.false_or, Bool.or_false, Bool.and_false, Bool.false_and, Bool.true_and, Bool.and_true, Bool.not_true, Bool.not_false, Bool.false_eq_true, if_true, if_false, ite_true, ite_false, true_and, and_true, and_assoc, String.reduceBEq, String.reduceEq, reduceIte, Bool.and_self, reduceCtorEq, false_and, and_false, exists_false, or_false, false_or, exists_const, iEnumS, iStr, iList, iTup, iRng1, iEnum, tFor_eq, tLc_eq, List.cons.injEq, wipe, not_true_eq_false, not_false_eq_true, upd_same, HO.ins.injEq, HO.tup.injEq, HO.lst.injEq, ofS_eq, lk_nil, lk_cons, pu_nil, pu_cons, sizeLine_eq, Nat.reduceLT, Nat.reduceLeDiff, Nat.reduceEqDiff, Nat.le_refl, decide_true, decide_false, tPr, dget_us, dput_us, vv_nil, vv_cons, RS.pk_nil, pk_one, RS.pk_cons, inr_eq, tDisp, tPairs, tBoolOwn, rBoolOwn, tBM, rAppend, ty_list, ty_str, rEqOwn, iEnumT, RS.tCallS, tM1, tDc_eq, tLock, tLockE, iKeys, tListEnum, rUpdate, tMkX0, tMkX1, tXfv, gSub, rSetL, List.getD_cons_zero, List.getD_cons_succ, tBreak, tCMethS, ClX.tCVal, tXfa, tIxOwn, tInOwn, tPropG, tMethK, tMethP, tListGen, tDGet2, tDPop2, rNeD0, intA_i, intA_b, tRevL, sFldAug, tPm0, tPm1, tDIn, tDNotIn, tDNewK, RS.tMethS, tForK, tKM, tKC, tLcK, tKM2, tKC2, tMethStar, tKCK2, tLk, tAug, ipI, tDig, tLcX, tKMX, tKCX]
    refine ⟨valV kp (.inr x), dget_x (rP.imp (sm _ _) fun ⟨od, z⟩ => ⟨od, sm _ _ z⟩), ?_⟩
    rw [keys_some kP]
    by_cases q : x ∈ keysOf P
    · rw [if_neg (by simp [q])]
      exact k0 _ eL ⟨sm, by rw [tk, if_pos q, List.append_nil]; exact pr⟩
    · rw [if_pos (by simp [q])]
      intro t ht
      have nL : t ≠ L := fun z => by rw [z, eL] at ht; cases ht
      refine k (.ref t) _ (by rw [upd_ne nL.symm]; exact eL) ⟨fun b o e => ?_, ?_⟩
      · have bL : b ≠ L := fun z => by rw [z, hL] at e; cases e
        rw [upd_ne bL]; exact same_upd ht _ _ (sm _ _ e)
      · rw [tk, if_neg q]
        exact paired_snoc ⟨t, rfl, by rw [upd_ne nL]; exact upd_same⟩ (paired_imp (fun _ _ z => z.keep (keep_grow ht eL)) pr)
  · obtain ⟨sm, pr⟩ := Pv
    rw [List.take_of_length_le (by omega)] at pr
    change Paired (DdG H X) acc (dropsM B P) at pr
    have eaX := sm _ _ ea
    have La := hn1 L hL
    have sG := hu X sm
    have prG : Paired (DdG H (upd X b (.dK kb))) acc (dropsM B P) := paired_imp (fun _ _ z => z.keep fun c xs e => by
      have n1 : c ≠ b := fun z => by rw [z, eaX] at e; cases e
      rw [upd_ne n1]; exact e) pr
    have eL0 : upd X b (.dK kb) L = some (.lst acc) := by rw [upd_ne La.1]; exact eL
    refine ⟨eaX, ?_⟩
    generalize upd X b (.dK kb) = G0 at sG prG eL0 ⊢
    refine ⟨p, _, sG _ _ eP, True.intro, fun od2 => ⟨p, rfl, od2, .inl ⟨kp, upd_same, ?_⟩⟩⟩
    have Lp : L ≠ p := fun z => by rw [← z, La.2] at eP; cases eP
    obtain ⟨_, mB⟩ := lockR (od := od2) hB eP (nB p rfl)
    obtain ⟨_, mO⟩ := lockR (od := od2) hO eP (nO p rfl)
    obtain ⟨_, mP⟩ := lockR (od := od2) hP eP (.inl rfl)
    have aL : acc.length ≤ 64 := by
      have a1 := paired_len prG
      have a2 : (dropsM B P).length ≤ (keysOf B).length := by unfold dropsM; rw [List.length_map]; exact List.length_filter_le _ _
      omega
    have lP := sP.len
    have s5 : Same (upd H p (.frz od2 (.dK kp))) (upd G0 p (.frz od2 (.dK kp))) := fun c o e => by
      by_cases q : c = p
      · subst q; rw [upd_same] at e ⊢; exact e
      · rw [upd_ne q] at e ⊢; exact sG _ _ e
    have gL : upd H p (.frz od2 (.dK kp)) L = none := by rw [upd_ne Lp]; exact La.2
    have gp : upd H p (.frz od2 (.dK kp)) p = some (.frz od2 (.dK kp)) := upd_same
    have gG : ∀ Y, Same (upd H p (.frz od2 (.dK kp))) Y → Same H (upd Y p (.dK kp)) := fun Y sm => unlock eP sm
    have e5 : upd G0 p (.frz od2 (.dK kp)) L = some (.lst acc) := by rw [upd_ne Lp]; exact eL0
    have pr5 : Paired (DdG H (upd G0 p (.frz od2 (.dK kp)))) acc (dropsM B P) := paired_imp (fun _ _ z => z.keep fun c xs e => by
      have n1 : c ≠ p := fun z => by rw [z, sG _ _ eP] at e; cases e
      rw [upd_ne n1]; exact e) prG
    generalize upd H p (.frz od2 (.dK kp)) = GL at mB mO mP s5 gL gp gG ⊢
    generalize upd G0 p (.frz od2 (.dK kp)) = H5 at s5 e5 pr5 ⊢
    refine for_by kp.length (fun i σ Y => (∃ z, σ = [some (.ref b), some o, some (.ref p), some (.ref L), z]) ∧ Same GL Y ∧ ∃ ac, Y L = some (.lst ac) ∧ ac.length ≤ 64 + i ∧ Paired (DdG H Y) ac (dropsM B P ++ putsG B O P (P.take i)))
      ⟨⟨_, rfl⟩, s5, acc, e5, by omega, by simpa [putsG] using pr5⟩ (fun i σ Y lt Pv => ⟨Pv.2.1 _ _ gp, lt⟩) (fun σ Y Pv => ⟨Pv.2.1 _ _ gp, Nat.le_refl _⟩) (fun i σ Y x Y' lt Pv yl => ?_) (fun σ Y Pv => ?_)
    · obtain ⟨⟨z, rfl⟩, sY, ac, eY, lY, pY⟩ := Pv
      obtain ⟨rfl, ky, v0, hk, rfl⟩ := yl
      obtain ⟨x, v, d, f', e1, e2, tv, _⟩ := sP.get lt
      rw [hk] at e1
      cases e1
      simp only [kV, tRet, tRetN, tSeq, C8.tCut, tNext, tAsg, gName, gNil, gCons, gTup, gFld, tIfS, tIf, tAndV, tOrV, tNotV, tAnd, tOr, tNot, tB, tTest, tOp, tUn, tCB, tCons, tNil, tVar, tC, tChain, tDrop, RS.tCallG, RS.tMethG, tMakeG, RS.tCallK, RS.tMakeK, tEqOwn, rI, rI0, rU, add_ii, add_ss, add_rr, mul_ii, mul_si, mul_ri, RS.eq_ii, RS.eq_ss, eq_bb, eq_nn, eq_sn, eq_ns, eq_in, eq_ni, eq_bn, eq_nb, eq_is, eq_si, eq_rr, ne_ii, ne_ss, ne_bb, ne_nn, ne_sn, ne_ns, ne_in, ne_ni, ne_is, ne_si, ne_rr, in_ss, in_r, nin_ss, nin_r, len_s, len_r, RS.ix_s, RS.ix_r, sl_s, sl_r, is_eq, tyN_n, tyN_b, tyN_i, tyN_s, tru_b, tru_i, tru_n, tSl, tPart, tNoPart, tPar, tPar3, tFmtZ, tFmt, tJs, tDGet, sDPut, sFld, tFld, tTup, tLst, tNever, isB,
  L2.start, List.map_cons, List.map_nil, List.length_cons, List.length_nil, Nat.reduceAdd, Nat.reduceSub, Nat.sub_self, List.replicate_zero, List.replicate_succ, List.append_nil, List.cons_append, List.nil_append, List.getElem?_cons_zero, List.getElem?_cons_succ, List.set_cons_zero, List.set_cons_succ, Option.some.injEq, exists_eq_left, exists_eq_left', exists_and_left, V.bl.injEq, V.int.injEq, V.str.injEq, V.ref.injEq, beq_self_eq_true, Bool.true_or, Bool.or_true, Bool.false_or, Bool.or_false, Bool.and_false, Bool.false_and, Bool.true_and, Bool.and_true, Bool.not_true, Bool.not_false, Bool.false_eq_true, if_true, if_false, ite_true, ite_false, true_and, and_true, and_assoc, String.reduceBEq, String.reduceEq, reduceIte, Bool.and_self, reduceCtorEq, false_and, and_false, exists_false, or_false, false_or, exists_const, iEnumS, iStr, iList, iTup, iRng1, iEnum, tFor_eq, tLc_eq, List.cons.injEq, wipe, not_true_eq_false, not_false_eq_true, upd_same, HO.ins.injEq, HO.tup.injEq, HO.lst.injEq, ofS_eq, lk_nil, lk_cons, pu_nil, pu_cons, sizeLine_eq, Nat.reduceLT, Nat.reduceLeDiff, Nat.reduceEqDiff, Nat.le_refl, decide_true, decide_false, tPr, dget_us, dput_us, vv_nil, vv_cons, RS.pk_nil, pk_one, RS.pk_cons, inr_eq, tDisp, tPairs, tBoolOwn, rBoolOwn, tBM, rAppend, ty_list, ty_str, rEqOwn, iEnumT, RS.tCallS, tM1, tDc_eq, tLock, tLockE, iKeys, tListEnum, rUpdate, tMkX0, tMkX1, tXfv, gSub, rSetL, List.getD_cons_zero, List.getD_cons_succ, tBreak, tCMethS, ClX.tCVal, tXfa, tIxOwn, tInOwn, tPropG, tMethK, tMethP, tListGen, tDGet2, tDPop2, rNeD0, intA_i, intA_b, tRevL, sFldAug, tPm0, tPm1, tDIn, tDNotIn, tDNewK, RS.tMethS, tForK, tKM, tKC, tLcK, tKM2, tKC2, tMethStar, tKCK2, tLk, tAug, ipI, tDig, tLcX, tKMX, tKCX]
      have okP := hP.ok
      have dpP := hP.dep
      simp only [okB, Bool.and_eq_true, decide_eq_true_eq] at okP
      simp only [PyData.depth] at dpP
      have dk := depth_kv e2
      have lt2 : i < P.length := (List.getElem?_eq_some_iff.mp e2).1
      have tk := putsG_step (B := B) (O := O) (P := P) e2
      have a1 := hasC_eq (x := x) vB vP
      have a2 := hasC_eq (x := x) vB vO
      have b1 := atD_eq (x := x) vB vP
      have b2 := atD_eq (x := x) vB vO
      refine ⟨_, _, rfl, B, _, x, mB.same sY, vB, rfl, ?_⟩
      refine ⟨_, _, rfl, P, _, x, mP.same sY, vP, rfl, ?_⟩
      dsimp only
      rw [RS.ne_ss]
      refine ⟨_, rfl, ?_⟩
      have no : (hasC B P x && !hasC B O x) = false → (∃ w : Option V, some (V.str x) = w) ∧ Same GL Y' ∧ ∃ ac, Y' L = some (.lst ac) ∧ ac.length ≤ 64 + (i + 1) ∧ Paired (DdG H Y') ac (dropsM B P ++ putsG B O P (P.take (i + 1))) := fun e =>
        ⟨⟨_, rfl⟩, sY, ac, eY, by omega, by rw [tk, e]; simpa using pY⟩
      by_cases c1 : atD B x = atD P x
      · rw [if_neg (by simp [c1])]
        exact no (by
          have : hasC B P x = false := by rw [← Bool.not_eq_true, a1]; simpa using b1.mp c1
          simp [this])
      rw [if_pos (by simp [c1])]
      have h1 : hasC B P x = true := a1.mpr fun z => c1 (b1.mpr z)
      refine ⟨_, _, rfl, B, _, x, mB.same sY, vB, rfl, ?_⟩
      refine ⟨_, _, rfl, O, _, x, mO.same sY, vO, rfl, ?_⟩
      dsimp only
      rw [RS.eq_ss]
      refine ⟨_, rfl, ?_⟩
      by_cases c2 : atD B x = atD O x
      · rw [if_pos (by simp [c2])]
        have h2 : hasC B O x = false := by rw [← Bool.not_eq_true, a2]; simpa using b2.mp c2
        refine ⟨⟨_, SqL.of eY⟩, v0, by rw [← valV_at ndP hk]; exact dget_x (.inr ⟨od2, sY _ _ gp⟩), fun t ht => ?_⟩
        have nL : t ≠ L := fun z => by rw [z, eY] at ht; cases ht
        refine ⟨ac, by rw [upd_ne nL.symm]; exact eY, by omega, ⟨_, rfl⟩, fun b o e => ?_, by simp only [List.length_append, List.length_singleton]; omega, ?_⟩
        · have bL : b ≠ L := fun z => by rw [z, gL] at e; cases e
          rw [upd_ne bL]; exact same_upd ht _ _ (sY _ _ e)
        · rw [tk, if_pos (by simp [h1, h2]), ← List.append_assoc]
          exact paired_snoc ⟨t, v0, f', rfl, by rw [upd_ne nL]; exact upd_same, tv, (okKv_get okP.2 e2).2, by omega⟩ (paired_imp (fun _ _ z => z.keep (keep_grow ht eY)) pY)
      · rw [if_neg (by simp [c2])]
        have h2 : hasC B O x = true := a2.mpr fun z => c2 (b2.mpr z)
        exact no (by simp [h1, h2])
    · obtain ⟨⟨z, rfl⟩, sY, ac, eY, lY, pY⟩ := Pv
      rw [List.take_of_length_le (by omega)] at pY
      walk_at "sx"
      refine ⟨sY _ _ gp, ?_⟩
      have sG1 := gG Y sY
      have l1 := puts_len B O P P
      have l2 : (dropsM B P).length ≤ (keysOf B).length := by unfold dropsM; rw [List.length_map]; exact List.length_filter_le _ _
      have Ygp := sY _ _ gp
      have lOl : O.length < 64 := by omega
      have prs : Paired (DdAt (upd Y p (.dK kp))) ac (dropsM B P ++ putsG B O P P) := paired_imp (fun _ _ z => (z.keep fun c xs e => by
        have n1 : c ≠ p := fun z => by rw [z, Ygp] at e; cases e
        rw [upd_ne n1]; exact e).at sG1) pY
      have old : ∀ c, upd Y p (.dK kp) c = none → H c = none := fun c n => by
        cases e : H c with
        | none => rfl
        | some u => have := sG1 _ _ e; rw [n] at this; cases this
      refine ⟨_, _, rfl, O, _, L, ac, _, fun _ => True, (hO.same sG1).tr, fun _ _ _ => True.intro, rfl, by rw [upd_ne Lp]; exact eY, paired_imp (fun _ _ z => DdF.free z) prs, by rw [List.length_append]; omega, fun r kvs fr X sX pX tX _ ndX _ => q r kvs fr X (sG1.trans sX) ?_ (tX.same sX) ndX⟩
      obtain ⟨⟨ps, e1, e2⟩, e3⟩ := pX
      exact ⟨⟨ps, e1, paired_imp (fun _ _ z => ⟨z.1, old _ z.2.1, z.2.2⟩) e2⟩, old _ e3⟩
end
theorem apD_len (D : List (PyData × PyData)) (dd : Dd) : (apD D dd).length ≤ D.length + 1 := by
  cases dd with
  | put x d => exact putD_len x d D
  | drop x => exact Nat.le_trans (List.length_filter_le _ _) (Nat.le_succ _)
theorem apDs_len : ∀ (dds : List Dd) (D : List (PyData × PyData)), (apDs D dds).length ≤ D.length + dds.length
  | [], D => Nat.le_refl _
  | dd :: r, D => by
    have h1 := apDs_len r (apD D dd)
    have h2 := apD_len D dd
    show (apDs (apD D dd) r).length ≤ _
    simp only [List.length_cons]; omega
theorem merge_len (B O P : List (PyData × PyData)) : (apDs O (dropsM B P ++ putsM B O P)).length ≤ O.length + (B.length + P.length) := by
  have h1 := apDs_len (dropsM B P ++ putsM B O P) O
  have h2 := puts_len B O P P
  have h3 : (dropsM B P).length ≤ (keysOf B).length := by unfold dropsM; rw [List.length_map]; exact List.length_filter_le _ _
  have h4 := keysOf_len B
  rw [List.length_append] at h1
  change _ ≤ O.length + (_ + (putsG B O P P).length) at h1
  omega
section
variable {g : Wd} {f : Addr} {fd : FuncData} {CX : Addr}
theorem sc_l_told : FnScope ["_law_base", "_law_one", "_law_other", "_law_caught", "_law_found", "error", "_law_key"] ["_law_base", "_law_one", "_law_other"] (defScope s_l_told) := ⟨rfl, rfl, rfl, by decide +kernel, rfl, by decide +kernel, by decide +kernel⟩
def sp_told (CX : Addr) : Sp := S3 fun b o p H Q _ => ∃ B O P fb fo fp, MapAt H b B fb ∧ MapAt H o O fo ∧ MapAt H p P fp ∧ B.length + O.length + P.length < 64 ∧ (∀ a, p = .ref a → b = p ∨ a ∉ fb) ∧ (∀ a, p = .ref a → o = p ∨ a ∉ fo) ∧
  ∀ ys, ys.Perm (allK B O P) → PyProof.Rows.sortedS ys = true →
    (ys.filter (isC B O P) = [] → ∀ r kvs fr G, Same H G → PrsAt H G r kvs → TrD G kvs (apDs O (dropsM B P ++ putsM B O P)) fr → (kvs.map (·.1)).Nodup → Q (.ref r) G) ∧
    (ys.filter (isC B O P) ≠ [] → ∀ G t, Same H G → G t = some (.tup ((ys.filter (isC B O P)).map V.str)) → Q (.ref t) G)
theorem ok_told (F : Df g.K "_law_told" "_law_told" s_l_told f fd .none) (T : Txt g) (F_merged : Kn g "merged" 13 ["base", "one", "other"] [] (sp_merged CX)) (V_Conflict : g.mg "Conflict" = some (.ref CX))
    (XFC : XfC g.K CX) (XFN : PySem.W.findIn g.K (.ref CX) "given" = some none) (EX : PySem.W.exmOne g.K (.ref CX) (.ref CX) = some true) : FnG g 14 f fd ["_law_base", "_law_one", "_law_other"] (sp_told CX) := by
  refine F.ok sc_l_told (fun vs H Q E h => S3.len h) (fun cdv A outer s H vs Q E hr h => ?_)
  obtain ⟨b, o, p, rfl, B, O, P, fb, fo, fp, hB, hO, hP, hl, nB, nO, h⟩ := h
  have N_Conflict : Names (cx g ["_law_base", "_law_one", "_law_other", "_law_caught", "_law_found", "error", "_law_key"] "_law_told" s_l_told f cdv A outer s H E) "Conflict" (.ref CX) := ⟨rfl, by decide, .inl V_Conflict⟩
  refine ⟨_, (pss_cons (ps_asg (pe_tup (pa_cons pe_non (pa_cons pe_dnewK pa_nil))) (g_tup (K := g.K) (n := 2) (pgs_cons (pg_name (i := 3) sc_l_told.nd rfl (.inl rfl)) (pgs_cons (pg_name (i := 4) sc_l_told.nd rfl (.inr rfl)) pgs_nil))))
      (pss_cons (ps_try_keep1 (i := 5) rfl rfl rfl sc_l_told.nd rfl rfl N_Conflict tkD (fun W pn xe tk1 po1 => (pss_one (ps_set (i := 4) sc_l_told.nd rfl (Or.inr rfl) (pe_callG F_merged (Rm.mono (Rm.mk hr.room hr.gd) (by first | decide | omega)) tk1 (pa_cons (pv 0) (pa_cons (pv 1) (pa_cons (pv 2) pa_nil))))))) (fun a oe cls d pn hz hf => (pss_one (ps_set (i := 3) sc_l_told.nd rfl (Or.inl rfl) (pv 5)))))
      (pss_one (ps_ret (pe_ifExp (pt_cmpR op_isN (pv 3) pe_non (nomark _)) (pe_lock (pe_lc (own := [("_law_key", 6)]) (tt := tYes) rfl sc_l_told.nd (pi_keys (pv 4)) (blkOk_by (own := [("_law_key", 6)]) (N := ["_law_base", "_law_one", "_law_other", "_law_caught", "_law_found", "error", "_law_key"]) (sc := defScope s_l_told) (by decide +kernel)) (fun _ _ _ _ _ => (pg_name (i := 6) sc_l_told.nd rfl (.inl rfl))) (fun _ _ _ _ _ => pts_nil) (fun _ _ _ _ _ => (pe_lst (pa_cons (pv 6) (pa_cons (pe_dget (hu_of (Rm.mk hr.room hr.gd).room) (pv 4) (pv 6) (fun _ _ => rfl)) pa_nil)))))) (pe_xfa (g := g) (pv 3))))))), ?_⟩
  walk_at "sx"
  intro e0 h0 p0 hp0
  have s1 := same_upd (o := HO.dK []) h0
  have s2 := s1.trans (same_upd (o := HO.tup [.non, .ref e0]) hp0)
  refine ⟨_, SqT.of upd_same, rfl, _, _, rfl, _, _, rfl, rfl, ?_⟩
  generalize upd (upd H e0 (.dK [])) p0 (.tup [.non, .ref e0]) = H2 at s2 ⊢
  have old : ∀ {X : Hp}, Same H2 X → ∀ {c : Addr}, X c = none → H c = none := fun {X} sX {c} n => by
    cases e : H c with
    | none => rfl
    | some u => have := sX _ _ (s2 _ _ e); rw [n] at this; cases this
  refine ⟨_, _, _, rfl, B, O, P, fb, fo, fp, hB.same s2, hO.same s2, hP.same s2, hl, nB, nO, fun ys perm srt => ?_⟩
  obtain ⟨q1, q2⟩ := h ys perm srt
  refine ⟨fun c r J fr sJ tJ nJ => ?_, fun c J t dy sJ et hdy => ?_⟩
  · dsimp only
    rw [if_pos (by simp)]
    have q1 := q1 c
    have dl := merge_len B O P
    generalize apDs O (dropsM B P ++ putsM B O P) = D at tJ q1 dl
    cases tJ with
    | @dct _ kvs _ fp h hs na nd =>
    refine ⟨r, _, h, True.intro, fun od => ⟨r, rfl, od, .inl ⟨kvs, upd_same, ?_⟩⟩⟩
    have ea : upd J r (.frz od (.dK kvs)) r = some (.frz od (.dK kvs)) := upd_same
    have hu : ∀ G, Same (upd J r (.frz od (.dK kvs))) G → Same J (upd G r (.dK kvs)) := fun G sm => unlock h sm
    have hn1 : ∀ b, upd J r (.frz od (.dK kvs)) b = none → b ≠ r ∧ J b = none := fun b z => fresh_lock z
    generalize upd J r (.frz od (.dK kvs)) = J1 at ea hu hn1 ⊢
    have ll := hs.len
    refine lc_invA kvs.length (fun L i acc X => Same J1 X ∧ ∃ ps, acc = ps.map V.ref ∧ Paired (fun p kv => X p = some (.lst [kV kv.1, kv.2]) ∧ J p = none ∧ p ≠ L) ps (kvs.take i)) (by rw [sizeLine_eq]; omega) (fun L hL => ⟨same_upd hL, [], rfl, .nil⟩) (fun L i acc X hL lt P => ⟨P.1 _ _ ea, lt⟩) (fun L acc X hL P => ⟨P.1 _ _ ea, Nat.le_refl _⟩) (fun L i acc X x X' K hL lt la P eL y k => ?_) (fun L acc X hL P eL => ?_)
    · obtain ⟨sm, ps, rfl, pr1⟩ := P
      obtain ⟨rfl, k0, v0, hk, rfl⟩ := y
      obtain ⟨x, v, d, f', e1, e2, t, _⟩ := hs.get lt
      rw [hk] at e1
      cases e1
      refine ⟨rfl, ?_⟩
      simp only [kV, tRet, tRetN, tSeq, C8.tCut, tNext, tAsg, gName, gNil, gCons, gTup, gFld, tIfS, tIf, tAndV, tOrV, tNotV, tAnd, tOr, tNot, tB, tTest, tOp, tUn, tCB, tCons, tNil, tVar, tC, tChain, tDrop, RS.tCallG, RS.tMethG, tMakeG, RS.tCallK, RS.tMakeK, tEqOwn, rI, rI0, rU, add_ii, add_ss, add_rr, mul_ii, mul_si, mul_ri, RS.eq_ii, RS.eq_ss, eq_bb, eq_nn, eq_sn, eq_ns, eq_in, eq_ni, eq_bn, eq_nb, eq_is, eq_si, eq_rr, ne_ii, ne_ss, ne_bb, ne_nn, ne_sn, ne_ns, ne_in, ne_ni, ne_is, ne_si, ne_rr, in_ss, in_r, nin_ss, nin_r, len_s, len_r, RS.ix_s, RS.ix_r, sl_s, sl_r, is_eq, tyN_n, tyN_b, tyN_i, tyN_s, tru_b, tru_i, tru_n, tSl, tPart, tNoPart, tPar, tPar3, tFmtZ, tFmt, tJs, tDGet, sDPut, sFld, tFld, tTup, tLst, tNever, isB,
  L2.start, List.map_cons, List.map_nil, List.length_cons, List.length_nil, Nat.reduceAdd, Nat.reduceSub, Nat.sub_self, List.replicate_zero, List.replicate_succ, List.append_nil, List.cons_append, List.nil_append, List.getElem?_cons_zero, List.getElem?_cons_succ, List.set_cons_zero, List.set_cons_succ, Option.some.injEq, exists_eq_left, exists_eq_left', exists_and_left, V.bl.injEq, V.int.injEq, V.str.injEq, V.ref.injEq, beq_self_eq_true, Bool.true_or, Bool.or_true, Bool.false_or, Bool.or_false, Bool.and_false, Bool.false_and, Bool.true_and, Bool.and_true, Bool.not_true, Bool.not_false, Bool.false_eq_true, if_true, if_false, ite_true, ite_false, true_and, and_true, and_assoc, String.reduceBEq, String.reduceEq, reduceIte, Bool.and_self, reduceCtorEq, false_and, and_false, exists_false, or_false, false_or, exists_const, iEnumS, iStr, iList, iTup, iRng1, iEnum, tFor_eq, tLc_eq, List.cons.injEq, wipe, not_true_eq_false, not_false_eq_true, upd_same, HO.ins.injEq, HO.tup.injEq, HO.lst.injEq, ofS_eq, lk_nil, lk_cons, pu_nil, pu_cons, sizeLine_eq, Nat.reduceLT, Nat.reduceLeDiff, Nat.reduceEqDiff, Nat.le_refl, decide_true, decide_false, tPr, dget_us, dput_us, vv_nil, vv_cons, RS.pk_nil, pk_one, RS.pk_cons, inr_eq, tDisp, tPairs, tBoolOwn, rBoolOwn, tBM, rAppend, ty_list, ty_str, rEqOwn, iEnumT, RS.tCallS, tM1, tDc_eq, tLock, tLockE, iKeys, tListEnum, rUpdate, tMkX0, tMkX1, tXfv, gSub, rSetL, List.getD_cons_zero, List.getD_cons_succ, tBreak, tCMethS, ClX.tCVal, tXfa, tIxOwn, tInOwn, tPropG, tMethK, tMethP, tListGen, tDGet2, tDPop2, rNeD0, intA_i, intA_b, tRevL, sFldAug, tPm0, tPm1, tDIn, tDNotIn, tDNewK, RS.tMethS, tForK, tKM, tKC, tLcK, tKM2, tKC2, tMethStar, tKCK2, tLk, tAug, ipI, tDig, tLcX, tKMX, tKCX]
      refine ⟨v0, .inl ⟨kvs, .inr x, .inr ⟨od, sm _ _ ea⟩, rfl, (valV_at nd hk).symm⟩, fun p hp => ?_⟩
      have pL : p ≠ L := fun z => by rw [z, eL] at hp; cases hp
      have p1 : J1 p = none := by
        cases e : J1 p with
        | none => rfl
        | some o => have := sm _ _ e; rw [hp] at this; cases this
      have tk : kvs.take (i + 1) = kvs.take i ++ [(.inr x, v0)] := by rw [List.take_add_one]; simp [hk]
      refine k (.ref p) _ (by rw [upd_ne pL.symm]; exact eL) ⟨fun b o e => ?_, ps ++ [p], by simp, ?_⟩
      · have bL : b ≠ L := fun z => by rw [z, hL] at e; cases e
        rw [upd_ne bL]; exact same_upd hp _ _ (sm _ _ e)
      · rw [tk]
        refine paired_snoc ⟨by rw [upd_ne pL]; exact upd_same, (hn1 p p1).2, pL⟩ (paired_imp (fun a _ z => ⟨?_, z.2⟩) pr1)
        rw [upd_ne z.2.2]; exact same_upd hp _ _ z.1
    obtain ⟨sm, ps, rfl, pr1⟩ := P
    rw [List.take_of_length_le (by omega)] at pr1
    have Ln := hn1 L hL
    have sG := hu X sm
    refine ⟨sm _ _ ea, ?_⟩
    have P0 : PrsAt J (upd X r (.dK kvs)) L kvs := ⟨⟨ps, by rw [upd_ne Ln.1]; exact eL, paired_imp (fun a _ z => ⟨by rw [upd_ne (fun q => by rw [q, h] at z; cases z.2.1)]; exact z.1, z.2⟩) pr1⟩, Ln.2⟩
    refine q1 L kvs fp _ (s2.trans (sJ.trans sG)) ?_ (hs.same sG) nd
    obtain ⟨⟨ps, e1, e2⟩, e3⟩ := P0
    exact ⟨⟨ps, e1, paired_imp (fun _ _ z => ⟨z.1, old sJ z.2.1, z.2.2⟩) e2⟩, old sJ e3⟩
  · refine ⟨true, EX, fun _ => ⟨CX, rfl, fun a ha => ?_⟩, fun z => by cases z⟩
    walk_at "sx"
    intro ha2
    have ex : upd J dy (.xd [("given", .ref t)]) dy = some (.xd [("given", .ref t)]) := upd_same
    exact ⟨CX, dy, rfl, [("given", .ref t)], .inl (by rw [upd_ne (fun z => by have e := ha2; rw [← z, upd_same] at e; cases e)]; exact ex), .ref t, rfl, XFC, XFN, q2 c _ t ((s2.trans sJ).trans ((same_upd hdy).trans (same_upd ha2))) (((same_upd hdy).trans (same_upd ha2)) _ _ et)⟩
end
section
variable {g : Wd} {f : Addr} {fd : FuncData}
theorem sc_l_listed : FnScope ["_law_base", "_law_one", "_law_other", "_law_found", "_law_key"] ["_law_base", "_law_one", "_law_other"] (defScope s_l_listed) := ⟨rfl, rfl, rfl, by decide +kernel, rfl, by decide +kernel, by decide +kernel⟩
def sp_listed : Sp := S3 fun b o p H Q _ => ∃ B O P fb fo fp, MapAt H b B fb ∧ MapAt H o O fo ∧ MapAt H p P fp ∧ B.length + O.length + P.length < 64 ∧
  ∀ ys a G, ys.Perm (allK B O P) → PyProof.Rows.sortedS ys = true → Same H G → H a = none → G a = some (.lst ((ys.filter (isC B O P)).map V.str)) → Q (.ref a) G
theorem ok_listed (F : Df g.K "_law_listed" "_law_listed" s_l_listed f fd .none) (T : Txt g) (GF_conflicts : Kgf g "conflicts" 13 ["base", "one", "other"] [] sp_confK) : FnG g 15 f fd ["_law_base", "_law_one", "_law_other"] sp_listed := by
  refine F.ok sc_l_listed (fun vs H Q E h => S3.len h) (fun cdv A outer s H vs Q E hr h => ?_)
  obtain ⟨b, o, p, rfl, B, O, P, fb, fo, fp, hB, hO, hP, hl, q⟩ := h
  refine ⟨_, (pss_cons (ps_set (i := 3) sc_l_listed.nd rfl (Or.inl rfl) (pe_lst pa_nil))
      (pss_cons (ps_forK psD (hr.mono (by first | decide | omega)) (pk_call GF_conflicts (hr.mono (by first | decide | omega)) (pa_cons (pv 0) (pa_cons (pv 1) (pa_cons (pv 2) pa_nil)))) (pg_name (i := 4) sc_l_listed.nd rfl (.inl rfl)) (pss_one (ps_expr (e_bm (K := g.K) PySem.F.plainAttrs_list PySem.F.slot_list_append PySem.F.type_list_append mt_append (pv 3) (pa_cons (pv 4) pa_nil)))))
      (pss_one (ps_ret (pv 3))))), ?_⟩
  walk_at "sx"
  intro r hr0
  have s1 := same_upd (o := HO.lst []) hr0
  have er : upd H r (.lst []) r = some (.lst []) := upd_same
  generalize upd H r (.lst []) = H1 at s1 er ⊢
  refine ⟨b, o, p, B, O, P, fb, fo, fp, rfl, hB.same s1, hO.same s1, hP.same s1, hl, fun ys perm srt => ?_⟩
  have lb : (ys.filter (isC B O P)).length < 64 := by
    have a1 := List.length_filter_le (isC B O P) ys
    have a2 := perm.length_eq
    have a3 := allK_len B O P
    omega
  generalize hc : ys.filter (isC B O P) = cs at lb ⊢
  refine ⟨fun j k G => ∃ z, k = [some b, some o, some p, some (.ref r), z] ∧ Same H G ∧ G r = some (.lst ((cs.take j).map V.str)), fun G sG => ⟨_, rfl, s1.trans sG, sG _ _ er⟩, ?_, ?_⟩
  · rintro j x k G a hj ⟨z, rfl, sG, eG⟩ ha res hres
    have ra : r ≠ a := fun e => by rw [e, ha] at er; cases er
    refine ⟨.ref r, rfl, by simpa [tyV] using ⟨_, SqL.of eG⟩, .str x, rfl, r, rfl, _, eG, by rw [List.length_map, List.length_take]; omega, ?_⟩
    refine hres _ _ ⟨some (.str x), rfl, fun c o e => ?_, ?_⟩ (upd_ne ra.symm)
    · have n : c ≠ r := fun z => by rw [z, hr0] at e; cases e
      rw [upd_ne n]; exact sG _ _ e
    · rw [upd_same, List.take_add_one, hj]; simp
  · rintro k G ⟨z, rfl, sG, eG⟩
    rw [List.take_length] at eG
    walk_at "sx"
    exact q ys r G perm srt sG hr0 (by rw [hc]; exact eG)
end
def leS (a b : Str) : Prop := a.cps.toList ≤ b.cps.toList
theorem lt_leS {a b : Str} (h : ltCps b.cps.toList a.cps.toList = false) : leS a b := by
  rw [PyProof.Rows.ltCps_eq, decide_eq_false_iff_not] at h
  exact h
theorem rising_pw : ∀ (r : List Str) (x : Str), PyProof.Rows.risingS x r = true → (x :: r).Pairwise leS
  | [], x, _ => by simp
  | y :: r, x, h => by
    simp only [PyProof.Rows.risingS, Bool.and_eq_true, Bool.not_eq_true'] at h
    have ih := rising_pw r y h.2
    have xy := lt_leS h.1
    refine List.pairwise_cons.mpr ⟨fun z hz => ?_, ih⟩
    rcases List.mem_cons.mp hz with e | e
    · rw [e]; exact xy
    · exact List.le_trans xy ((List.pairwise_cons.mp ih).1 z e)
theorem sorted_pw {ys : List Str} (h : PyProof.Rows.sortedS ys = true) : ys.Pairwise leS := by
  cases ys with
  | nil => exact .nil
  | cons x r => exact rising_pw r x h
theorem sorted_uniq {ys zs : List Str} (h1 : PyProof.Rows.sortedS ys = true) (h2 : PyProof.Rows.sortedS zs = true) (p : ys.Perm zs) : ys = zs :=
  p.eq_of_pairwise (le := leS) (fun a b _ _ h h' => str_cps (List.le_antisymm h h')) (sorted_pw h1) (sorted_pw h2)
theorem addK_mem {ks : List Str} {x y : Str} : y ∈ addK ks x ↔ y ∈ ks ∨ y = x := by
  unfold addK
  split
  · rename_i h
    exact ⟨.inl, fun z => z.elim id fun e => e ▸ h⟩
  · simp
theorem unK_mem : ∀ {ms ks : List Str} {y : Str}, y ∈ unK ks ms ↔ y ∈ ks ∨ y ∈ ms
  | [], ks, y => by show y ∈ ks ↔ _; simp
  | m :: ms, ks, y => by
    show y ∈ unK (addK ks m) ms ↔ _
    rw [unK_mem, addK_mem]; simp only [List.mem_cons]
    constructor
    · rintro ((h | h) | h)
      · exact .inl h
      · exact .inr (.inl h)
      · exact .inr (.inr h)
    · rintro (h | h | h)
      · exact .inl (.inl h)
      · exact .inl (.inr h)
      · exact .inr h
theorem unK_nd : ∀ {ms ks : List Str}, ks.Nodup → (unK ks ms).Nodup
  | [], _, h => h
  | m :: ms, ks, h => unK_nd (ms := ms) (addK_nd h)
theorem allK_nd (B O P : List (PyData × PyData)) : (allK B O P).Nodup := unK_nd (unK_nd (unK_nd .nil))
theorem allK_mem {B O P : List (PyData × PyData)} {y : Str} : y ∈ allK B O P ↔ y ∈ keysOf B ∨ y ∈ keysOf O ∨ y ∈ keysOf P := by
  unfold allK
  rw [unK_mem, unK_mem, unK_mem]
  simp only [List.not_mem_nil, false_or, or_assoc]
theorem allK_swap (B O P : List (PyData × PyData)) : (allK B P O).Perm (allK B O P) :=
  (List.perm_ext_iff_of_nodup (allK_nd ..) (allK_nd ..)).mpr fun y => by
    rw [allK_mem, allK_mem]
    constructor <;> (rintro (h | h | h) <;> simp [h])
theorem oneC_comm (O P : List (PyData × PyData)) (x : Str) : oneC O P x = oneC P O x := by
  unfold oneC
  cases look O x <;> cases look P x <;> simp [eq_comm]
theorem isC_comm (B O P : List (PyData × PyData)) : isC B P O = isC B O P := by
  funext x
  unfold isC
  rw [oneC_comm P O, Bool.and_comm (hasC B P x)]
theorem hasC_self (B : List (PyData × PyData)) (x : Str) : hasC B B x = false := by
  unfold hasC
  cases look B x <;> simp
theorem oneC_self (B : List (PyData × PyData)) (x : Str) : oneC B B x = true := by
  unfold oneC
  cases look B x <;> simp
theorem noC_ob (B O : List (PyData × PyData)) (ys : List Str) : ys.filter (isC B O B) = [] := by
  rw [List.filter_eq_nil_iff]; intro x _; simp [isC, hasC_self]
theorem noC_oo (B O : List (PyData × PyData)) (ys : List Str) : ys.filter (isC B O O) = [] := by
  rw [List.filter_eq_nil_iff]; intro x _; simp [isC, oneC_self]
theorem noC_bp (B P : List (PyData × PyData)) (ys : List Str) : ys.filter (isC B B P) = [] := by
  rw [List.filter_eq_nil_iff]; intro x _; simp [isC, hasC_self]
theorem look_put (x y : Str) (d : PyData) : ∀ D : List (PyData × PyData), look (putD D x d) y = if y = x then some d else look D y
  | [] => by show look [(.str x, d)] y = _; rw [look_cons]
  | (k, e) :: r => by
    have ih := look_put x y d r
    unfold putD
    cases k with
    | str z =>
      by_cases q : z = x
      · subst q
        rw [if_pos (by simp [isK]), look_cons, look_cons]
        split <;> rfl
      · rw [if_neg (by simp [isK, q]), look_cons, look_cons, ih]
        by_cases w : y = z
        · rw [if_pos w, if_neg (by rw [w]; exact q)]
          simp [w]
        · simp [w]
    | _ => simpa [isK, look] using ih
theorem look_drop (x y : Str) : ∀ D : List (PyData × PyData), look (dropD D x) y = if y = x then none else look D y
  | [] => by simp [dropD, look]
  | (k, e) :: r => by
    have ih := look_drop x y r
    unfold dropD at ih ⊢
    cases k with
    | str z =>
      by_cases q : z = x
      · subst q
        rw [List.filter_cons, if_neg (by simp [isK]), ih, look_cons]
        split <;> simp_all
      · rw [List.filter_cons, if_pos (by simp [isK, q]), look_cons, look_cons, ih]
        by_cases w : y = z
        · rw [if_pos w, if_neg (by rw [w]; exact q)]
          simp [w]
        · simp [w]
    | _ =>
      rw [List.filter_cons, if_pos (by simp [isK])]
      simpa [look] using ih
theorem look_keys {x : Str} : ∀ {D : List (PyData × PyData)}, x ∈ keysOf D ↔ look D x ≠ none
  | [] => by simp [keysOf, look]
  | (k, e) :: r => by
    have ih := look_keys (x := x) (D := r)
    cases k with
    | str z =>
      rw [look_cons]
      simp only [keysOf, List.mem_cons, ih]
      by_cases q : x = z <;> simp [q]
    | _ => simpa [keysOf, look] using ih
theorem look_not {x : Str} {D : List (PyData × PyData)} : x ∉ keysOf D ↔ look D x = none := by
  rw [look_keys]; simp
theorem look_drops (y : Str) : ∀ (xs : List Str) (D : List (PyData × PyData)), look (apDs D (xs.map Dd.drop)) y = if y ∈ xs then none else look D y
  | [], D => by simp [apDs]
  | x :: xs, D => by
    show look (apDs (dropD D x) (xs.map Dd.drop)) y = _
    rw [look_drops y xs, look_drop]
    by_cases h : y ∈ xs <;> by_cases e : y = x <;> simp [h, e]
theorem apDs_app (D : List (PyData × PyData)) (a b : List Dd) : apDs D (a ++ b) = apDs (apDs D a) b := List.foldl_append
theorem putsG_cons (B O P M : List (PyData × PyData)) (x : Str) (d : PyData) : putsG B O P ((.str x, d) :: M) = (if hasC B P x && !hasC B O x then [.put x d] else []) ++ putsG B O P M := by
  unfold putsG
  rw [List.filterMap_cons]
  by_cases c : (hasC B P x && !hasC B O x) = true
  · simp only
    rw [if_pos c, if_pos c]; rfl
  · simp only
    rw [if_neg c, if_neg c]; rfl
theorem look_puts (B O P : List (PyData × PyData)) (y : Str) : ∀ (M D : List (PyData × PyData)), (keysOf M).Nodup → look (apDs D (putsG B O P M)) y = if (hasC B P y && !hasC B O y) = true ∧ look M y ≠ none then look M y else look D y
  | [], D, _ => by simp [putsG, apDs, look]
  | (k, d) :: M, D, nd => by
    cases k with
    | str x =>
      have nd' := List.nodup_cons.mp (show (x :: keysOf M).Nodup from nd)
      rw [putsG_cons, apDs_app, look_puts B O P y M _ nd'.2, look_cons]
      have lx := look_not.mp nd'.1
      by_cases e : y = x
      · subst e
        rw [lx]
        by_cases c : (hasC B P y && !hasC B O y) = true
        · simp [c, apDs, apD, look_put]
        · simp [c, apDs]
      · have l2 : look (apDs D (if hasC B P x && !hasC B O x then [.put x d] else [])) y = look D y := by
          split
          · show look (putD D x d) y = _
            rw [look_put, if_neg e]
          · rfl
        rw [l2, if_neg e]
    | _ =>
      have e1 : ∀ k, (∀ x, k ≠ PyData.str x) → putsG B O P ((k, d) :: M) = putsG B O P M := fun k hk => by
        unfold putsG
        rw [List.filterMap_cons]
        cases k <;> first | rfl | exact absurd rfl (hk _)
      rw [e1 _ (by intro x h; cases h), look_puts B O P y M D nd]
      rfl
theorem look_merge {B O P : List (PyData × PyData)} (nd : (keysOf P).Nodup) (y : Str) : look (apDs O (dropsM B P ++ putsM B O P)) y =
    if (hasC B P y && !hasC B O y) = true ∧ look P y ≠ none then look P y else if look B y ≠ none ∧ look P y = none then none else look O y := by
  rw [apDs_app]
  unfold putsM
  rw [look_puts B O P y P _ nd]
  unfold dropsM
  rw [look_drops]
  have e : (y ∈ (keysOf B).filter fun x => decide (x ∉ keysOf P)) ↔ look B y ≠ none ∧ look P y = none := by
    rw [List.mem_filter, decide_eq_true_eq, look_keys, look_not]
  by_cases c : look B y ≠ none ∧ look P y = none
  · rw [if_pos (e.mpr c), if_pos c]
  · rw [if_neg (fun z => c (e.mp z)), if_neg c]
/-- base merged with other: other's values -/
theorem look_near {B P : List (PyData × PyData)} (hB : VOk 2 (.dict B)) (hP : VOk 2 (.dict P)) (nd : (keysOf P).Nodup) (y : Str) : look (apDs B (dropsM B P ++ putsM B B P)) y = look P y := by
  rw [look_merge nd, hasC_self]
  have h := hasC_eq (x := y) hB hP
  by_cases p : look P y = none
  · rw [if_neg (fun z => z.2 p)]
    by_cases b : look B y = none
    · rw [if_neg (fun z => z.1 b), b, p]
    · rw [if_pos ⟨b, p⟩, p]
  · by_cases c : look B y = look P y
    · have : hasC B P y = false := by rw [← Bool.not_eq_true, h]; simpa using c
      rw [this, if_neg (by simp), if_neg (fun z => p z.2), c]
    · have : hasC B P y = true := h.mpr c
      rw [this, if_pos ⟨rfl, p⟩]
theorem near_keys {B P : List (PyData × PyData)} (hB : VOk 2 (.dict B)) (hP : VOk 2 (.dict P)) (nP : (keysOf P).Nodup) (nN : (keysOf (apDs B (dropsM B P ++ putsM B B P))).Nodup) : (keysOf (apDs B (dropsM B P ++ putsM B B P))).Perm (keysOf P) :=
  (List.perm_ext_iff_of_nodup nN nP).mpr fun y => by rw [look_keys, look_keys, look_near hB hP nP]
/-- what stands in the merge where nothing is at odds -/
theorem at_merge {B O P : List (PyData × PyData)} (hB : VOk 2 (.dict B)) (hO : VOk 2 (.dict O)) (hP : VOk 2 (.dict P)) (nd : (keysOf P).Nodup) {y : Str} (c : isC B O P y = false) :
    atD (apDs O (dropsM B P ++ putsM B O P)) y = if atD O y ≠ atD B y then atD O y else if atD P y ≠ atD B y then atD P y else atD B y := by
  have l := look_merge (B := B) (O := O) nd y
  have h1 := hasC_eq (x := y) hB hO
  have h2 := hasC_eq (x := y) hB hP
  have h3 := oneC_eq (x := y) hO hP
  have a1 := atD_eq (x := y) hO hB
  have a2 := atD_eq (x := y) hP hB
  have go : ∀ {X : List (PyData × PyData)}, look (apDs O (dropsM B P ++ putsM B O P)) y = look X y → atD (apDs O (dropsM B P ++ putsM B O P)) y = atD X y := fun {X} e => by unfold atD; rw [e]
  by_cases c1 : look O y = look B y
  · rw [if_neg (fun z => z (a1.mpr c1))]
    have e1 : hasC B O y = false := by rw [← Bool.not_eq_true, h1]; simpa using c1.symm
    by_cases c2 : look P y = look B y
    · rw [if_neg (fun z => z (a2.mpr c2))]
      have e2 : hasC B P y = false := by rw [← Bool.not_eq_true, h2]; simpa using c2.symm
      refine go (l.trans ?_)
      rw [e1, e2, if_neg (by simp)]
      split
      · rename_i z
        exact absurd (c2.symm.trans z.2) z.1
      · exact c1
    · rw [if_pos (fun z => c2 (a2.mp z))]
      have e2 : hasC B P y = true := h2.mpr fun z => c2 z.symm
      refine go (l.trans ?_)
      rw [e1, e2]
      by_cases p : look P y = none
      · rw [if_neg (fun z => z.2 p), if_pos ⟨fun z => c2 (p.trans z.symm), p⟩, p]
      · rw [if_pos ⟨rfl, p⟩]
  · rw [if_pos (fun z => c1 (a1.mp z))]
    have e1 : hasC B O y = true := h1.mpr fun z => c1 z.symm
    refine go (l.trans ?_)
    rw [e1, if_neg (by simp)]
    by_cases p : look B y ≠ none ∧ look P y = none
    · rw [if_pos p]
      have e2 : hasC B P y = true := h2.mpr fun z => p.1 (z.trans p.2)
      have e3 : oneC O P y = true := by
        unfold isC at c
        rw [e1, e2] at c
        simpa using c
      rw [h3.mp e3, p.2]
    · rw [if_neg p]
theorem drops_self (B : List (PyData × PyData)) : dropsM B B = [] := by
  unfold dropsM
  rw [List.map_eq_nil_iff, List.filter_eq_nil_iff]
  intro x hx
  simp [hx]
theorem puts_nil {B O P : List (PyData × PyData)} (h : ∀ x, (hasC B P x && !hasC B O x) = false) (M : List (PyData × PyData)) : putsG B O P M = [] := by
  unfold putsG
  rw [List.filterMap_eq_nil_iff]
  rintro ⟨k, d⟩ _
  cases k with
  | str x =>
    simp only
    rw [h x]; rfl
  | _ => rfl
theorem puts_ob (B O M : List (PyData × PyData)) : putsG B O B M = [] := puts_nil (fun x => by simp [hasC_self]) M
theorem puts_oo (B O M : List (PyData × PyData)) : putsG B O O M = [] := puts_nil (fun x => by simp) M
theorem drop_none {x : Str} : ∀ {D : List (PyData × PyData)}, x ∉ keysOf D → dropD D x = D
  | [], _ => rfl
  | (k, d) :: r, h => by
    unfold dropD
    cases k with
    | str y =>
      have h2 : ¬ (x = y ∨ x ∈ keysOf r) := by simpa [keysOf] using h
      have ih := drop_none (D := r) fun z => h2 (.inr z)
      unfold dropD at ih
      have ne : ¬ y = x := fun z => h2 (.inl z.symm)
      rw [List.filter_cons, if_pos (by simp [isK, ne]), ih]
    | _ =>
      have ih := drop_none (D := r) (by simpa [keysOf] using h)
      unfold dropD at ih
      rw [List.filter_cons, if_pos (by simp [isK]), ih]
theorem drops_none : ∀ {xs : List Str} {D : List (PyData × PyData)}, (∀ x ∈ xs, x ∉ keysOf D) → apDs D (xs.map Dd.drop) = D
  | [], _, _ => rfl
  | x :: xs, D, h => by
    show apDs (dropD D x) (xs.map Dd.drop) = D
    rw [drop_none (h x (List.mem_cons_self ..))]
    exact drops_none fun y hy => h y (List.mem_cons_of_mem _ hy)
/-- merging with the base, or with itself, changes nothing -/
theorem merge_ob (B O : List (PyData × PyData)) : apDs O (dropsM B B ++ putsM B O B) = O := by
  unfold putsM
  rw [drops_self, puts_ob]; rfl
theorem merge_oo (B O : List (PyData × PyData)) : apDs O (dropsM B O ++ putsM B O O) = O := by
  unfold putsM
  rw [puts_oo, List.append_nil]
  exact drops_none fun x hx => by simpa using (List.mem_filter.mp hx).2
theorem mrgD_new : ∀ {M D : List (PyData × PyData)}, (∀ p ∈ M, ∃ x ∈ keys6, p.1 = .str x) → (keysOf M).Nodup → (∀ x ∈ keysOf M, x ∉ keysOf D) → mrgD D M = D ++ M
  | [], D, _, _, _ => (List.append_nil D).symm
  | (k, d) :: r, D, w, nd, h => by
    obtain ⟨x, hx, e⟩ := w (k, d) (List.mem_cons_self ..)
    simp only at e
    subst e
    have nd' := List.nodup_cons.mp (show (x :: keysOf r).Nodup from nd)
    have pn : ∀ {E : List (PyData × PyData)}, x ∉ keysOf E → putD E x d = E ++ [(.str x, d)] := by
      intro E
      induction E with
      | nil => intro _; rfl
      | cons q E ih =>
        intro hq
        obtain ⟨k, e⟩ := q
        unfold putD
        cases k with
        | str y =>
          have h2 : ¬ (x = y ∨ x ∈ keysOf E) := by simpa [keysOf] using hq
          rw [if_neg (by simp only [isK, decide_eq_true_eq]; exact fun z => h2 (.inl z.symm)), ih fun z => h2 (.inr z)]; rfl
        | _ => rw [if_neg (by simp [isK]), ih (by simpa [keysOf] using hq)]; rfl
    show mrgD (putD D x d) r = _
    have hx0 : x ∉ keysOf D := h x (List.mem_cons_self ..)
    rw [mrgD_new (fun p hp => w p (List.mem_cons_of_mem _ hp)) nd'.2 fun y hy => ?_, pn hx0, List.append_assoc]; rfl
    rw [keysOf_put, addK_mem]
    rintro (z | z)
    · exact h y (List.mem_cons_of_mem _ hy) z
    · exact nd'.1 (z ▸ hy)
theorem GD.mrg_id {D : List (PyData × PyData)} (h : GD D) : mrgD [] D = D := by
  rw [mrgD_new h.key h.nd (by simp [keysOf])]; rfl
theorem GD.deeds {B O P : List (PyData × PyData)} (h : GD P) : ∀ dd ∈ dropsM B P ++ putsM B O P, DdW dd := by
  intro dd hd
  rcases List.mem_append.mp hd with z | z
  · unfold dropsM at z
    obtain ⟨x, _, rfl⟩ := List.mem_map.mp z
    exact True.intro
  · unfold putsM putsG at z
    obtain ⟨p, hp, e⟩ := List.mem_filterMap.mp z
    obtain ⟨x, hx, ex⟩ := h.key p hp
    rw [ex] at e
    simp only at e
    split at e
    · cases e
      exact ⟨hx, h.val p hp⟩
    · cases e
theorem GD.merge {B O P : List (PyData × PyData)} (hO : GD O) (hP : GD P) : GD (apDs O (dropsM B P ++ putsM B O P)) := hO.aps hP.deeds
theorem allK_len6 {B O P : List (PyData × PyData)} (hB : GD B) (hO : GD O) (hP : GD P) : (allK B O P).length ≤ 6 :=
  (allK_nd B O P).length_le_of_subset (l₂ := keys6) fun y hy => by
    rcases allK_mem.mp hy with h | h | h
    · exact (keysOf_len2 hB.key).2 y h
    · exact (keysOf_len2 hO.key).2 y h
    · exact (keysOf_len2 hP.key).2 y h
theorem strok6 : ∀ k ∈ keys6, PyData.strOk k = true := by decide +kernel
theorem lay_txt : ∀ cs : List Str, (∀ c ∈ cs, c ∈ keys6) → PyData.canLayAll0 (cs.map PyData.str) = true ∧ PyData.depthAll (cs.map PyData.str) = 0
  | [], _ => ⟨rfl, rfl⟩
  | b :: bs, hb => by
    have h := lay_txt bs fun x hx => hb x (List.mem_cons_of_mem _ hx)
    simp [PyData.canLayAll0, PyData.canLay0, PyData.depthAll, PyData.depth, h, strok6 b (hb b (List.mem_cons_self ..))]
theorem dp_txt {K : PySem.W.Frag} {H : Hp} : ∀ cs : List Str, DpAll K H (cs.map V.str) (cs.map PyData.str)
  | [] => .nil
  | n :: ns => .cons (.str n) (dp_txt ns)
theorem dpx_txt {K : PySem.W.Frag} {H : Hp} : ∀ cs : List Str, DpXs K H (cs.map V.str) (cs.map PyData.str)
  | [] => .nil
  | n :: ns => .cons (.str n) (dpx_txt ns)
theorem shaped_txt {cs : List Str} (h : ∀ c ∈ cs, c ∈ keys6) : SeqAt.shaped (.list (cs.map PyData.str)) = true := by
  have h := lay_txt cs h
  simp [SeqAt.shaped, PyData.canLay0, PyData.depth, h]
theorem eqv_txt : ∀ cs : List Str, PyData.eqvAll (cs.map PyData.str) (cs.map PyData.str) = true
  | [] => rfl
  | b :: bs => by
    have h := eqv_txt bs
    simp [PyData.eqvAll, PyData.eqv, h]
theorem ne_txtD {K : PySem.W.Frag} {H : Hp} {Q : VK} {a p : Addr} {cs : List Str} (ok : ∀ c ∈ cs, c ∈ keys6) (h : H a = some (.lst (cs.map V.str))) (hp : H p = some (.lst (cs.map V.str))) (q : Q (.bl false) H) : rNeD K (.ref a) (.ref p) H Q := by
  refine ⟨.list (cs.map PyData.str), .list (cs.map PyData.str), .lst (SqL.of h) (dp_txt cs), .lst (SqL.of hp) (dp_txt cs), shaped_txt ok, shaped_txt ok, ?_⟩
  have e : PyData.eqv (.list (cs.map PyData.str)) (.list (cs.map PyData.str)) = true := by simp only [PyData.eqv]; exact eqv_txt cs
  rw [e]; exact q
theorem ne_txt {K : PySem.W.Frag} {H : Hp} {Q : VK} {a p : Addr} {cs : List Str} (ok : ∀ c ∈ cs, c ∈ keys6) (h : H a = some (.lst (cs.map V.str))) (hp : H p = some (.lst (cs.map V.str))) (q : Q (.bl false) H) : rNeU K (.ref a) (.ref p) H Q := by
  rw [RS.ne_rr]; exact ne_txtD ok h hp q
theorem ne_txt0 {K : PySem.W.Frag} {H : Hp} {Q : VK} {a p : Addr} {cs : List Str} (ok : ∀ c ∈ cs, c ∈ keys6) (h : H a = some (.lst (cs.map V.str))) (hp : H p = some (.lst [])) (q : Q (.bl (decide (cs ≠ []))) H) : rNeD K (.ref a) (.ref p) H Q := by
  refine ⟨.list (cs.map PyData.str), .list [], .lst (SqL.of h) (dp_txt cs), .lst (SqL.of hp) .nil, shaped_txt ok, rfl, ?_⟩
  have e : (!PyData.eqv (.list (cs.map PyData.str)) (.list [])) = decide (cs ≠ []) := by cases cs <;> rfl
  rw [e]; exact q
theorem prs_dpx {K : PySem.W.Frag} {H G : Hp} {r : Addr} : ∀ {ps : List Addr} {kvs : List (Key × V)} {D : List (PyData × PyData)} {fr : List Addr}, Paired (fun p kv => G p = some (.lst [kV kv.1, kv.2]) ∧ H p = none ∧ p ≠ r) ps kvs → TrD G kvs D fr →
    DpXs K G (ps.map V.ref) (D.map fun p => PyData.list [p.1, p.2])
  | _, _, _, _, .nil, .nil => .nil
  | _, _, _, _, .cons a b, .cons h hs => .cons (.lst (SqL.of a.1) (.cons (.str _) (.cons h.dp .nil))) (prs_dpx b hs)
theorem vok_key {n : Nat} {x : Str} (h : x ∈ keys6) : VOk n (.str x) := ⟨(keys6_ok x h).1, Nat.zero_le _⟩
theorem vok_prs {D : List (PyData × PyData)} (h : GD D) : VOk 3 (.list (D.map fun p => PyData.list [p.1, p.2])) := vok_list (fun d hd => by
  obtain ⟨p, hp, rfl⟩ := List.mem_map.mp hd
  obtain ⟨x, hx, e⟩ := h.key p hp
  refine vok_list (fun d hd => ?_) (by simp)
  simp only [List.mem_cons, List.not_mem_nil, or_false] at hd
  rcases hd with rfl | rfl
  · rw [e]; exact vok_key hx
  · exact h.val p hp) (by have := h.len; rw [List.length_map]; omega)
theorem vok_txt {cs : List Str} (h : ∀ c ∈ cs, c ∈ keys6) (l : cs.length ≤ 16) : VOk 3 (.tuple (cs.map PyData.str)) := (vok_tuple (n := 2) (fun d hd => by
  obtain ⟨c, hc, rfl⟩ := List.mem_map.mp hd
  exact vok_key (h c hc)) (by rw [List.length_map]; exact l))
theorem tr_dict {H : Hp} {v : V} {D : List (PyData × PyData)} {fp : List Addr} (t : Tr H v (.dict D) fp) : ∃ a kvs f, v = .ref a ∧ H a = some (.dK kvs) ∧ TrD H kvs D f ∧ (kvs.map (·.1)).Nodup ∧ fp = a :: f := by
  cases t with
  | dct h hs na nd => exact ⟨_, _, _, rfl, h, hs, nd, rfl⟩
section
variable {g : Wd} {f : Addr} {fd : FuncData} {CX : Addr}
theorem sc_l_right : FnScope ["_law_base", "_law_one", "_law_other", "_law_due", "_law_kept", "_law_told_here", "_law_wanted", "_law_near", "_law_unlike", "_law_key", "_law_some", "_law_pair", "_law_mapping_here"] ["_law_base", "_law_one", "_law_other"] (defScope s_l_right) := ⟨rfl, rfl, rfl, by decide +kernel, rfl, by decide +kernel, by decide +kernel⟩
def sp_right : Sp := S3 fun b o p H Q _ => ∃ B O P fb fo fp, Tr H b (.dict B) fb ∧ Tr H o (.dict O) fo ∧ Tr H p (.dict P) fp ∧ GD B ∧ GD O ∧ GD P ∧ (∀ a, p = .ref a → a ∉ fb ∧ a ∉ fo) ∧ (∀ a, b = .ref a → a ∉ fo) ∧ (∀ a, o = .ref a → a ∉ fb) ∧ ∀ G, Same H G → Q (.bl true) G
theorem ok_right (F : Df g.K "_law_right" "_law_right" s_l_right f fd .none) (T : Txt g) (SM : SmB g.base) (F_l_at : Kn g "_law_at" 1 ["_law_mapping_here", "_law_key"] [] sp_at) (F_l_conflicts : Kn g "_law_conflicts" 2 ["_law_base", "_law_one", "_law_other"] [] sp_lconf)
    (F_l_merged : Kn g "_law_merged" 2 ["_law_base", "_law_one", "_law_other"] [] sp_lmerged) (F_l_told : Kn g "_law_told" 14 ["_law_base", "_law_one", "_law_other"] [] (sp_told CX)) (F_l_listed : Kn g "_law_listed" 15 ["_law_base", "_law_one", "_law_other"] [] sp_listed)
    (F_merged : Kn g "merged" 13 ["base", "one", "other"] [] (sp_merged CX)) (F_are_same : Kn g "are_same" 13 ["one", "other"] [] sp_same) : FnG g 16 f fd ["_law_base", "_law_one", "_law_other"] sp_right := by
  refine F.ok sc_l_right (fun vs H Q E h => S3.len h) (fun cdv A outer s H vs Q E hr h => ?_)
  obtain ⟨b, o, p, rfl, B, O, P, fb, fo, fp, tB, tO, tP, gB', gO, gP, np, nb, no, q⟩ := h
  refine ⟨_, (pss_mid (ps_par (i := 3) (j := 4) (by rfl) sc_l_right.nd rfl rfl (by decide) rfl rfl (pa_cons (pe_callG F_l_conflicts (hr.mono (by first | decide | omega)) tkD (pa_cons (pv 0) (pa_cons (pv 1) (pa_cons (pv 2) pa_nil)))) (pa_cons (pe_callB (c_reprV (K := g.K) (base := g.base) SM hr) (by rfl) T.b_repr bb_repr (pa_cons (pe_lst (pa_cons (pv 0) (pa_cons (pv 1) (pa_cons (pv 2) pa_nil)))) pa_nil)) pa_nil)) (by rfl))
      (pss_mid (ps_if (PW.pt (pw_or (pt_cmpR (o_ne (K := g.K) hr) (pe_callG F_l_listed (hr.mono (by first | decide | omega)) tkD (pa_cons (pv 0) (pa_cons (pv 1) (pa_cons (pv 2) pa_nil)))) (pv 3) (nomark _)) (pw_or1 (pt_cmpR (o_ne (K := g.K) hr) (pe_callG F_l_listed (hr.mono (by first | decide | omega)) tkD (pa_cons (pv 0) (pa_cons (pv 2) (pa_cons (pv 1) pa_nil)))) (pv 3) (nomark _))))) (pss_one (ps_ret pe_bl)) pss_nil)
      (pss_mid (ps_set (i := 5) sc_l_right.nd rfl (Or.inl rfl) (pe_callG F_l_told (hr.mono (by first | decide | omega)) tkD (pa_cons (pv 0) (pa_cons (pv 1) (pa_cons (pv 2) pa_nil)))))
      (pss_mid (ps_set (i := 6) sc_l_right.nd rfl (Or.inl rfl) (pe_ifExp (pt_cmpR (o_ne (K := g.K) hr) (pv 3) (pe_lst pa_nil) (nomark _)) (pe_callTy call_tuple_of (by rfl) T.b_tuple bb_tuple (pa_cons (pv 3) pa_nil)) (pe_callG F_l_merged (hr.mono (by first | decide | omega)) tkD (pa_cons (pv 0) (pa_cons (pv 1) (pa_cons (pv 2) pa_nil))))))
      (pss_mid (ps_if (PW.pt (pw_or (pt_cmpR (o_ne (K := g.K) hr) (pe_callB (c_reprV (K := g.K) (base := g.base) SM hr) (by rfl) T.b_repr bb_repr (pa_cons (pv 5) pa_nil)) (pe_callB (c_reprV (K := g.K) (base := g.base) SM hr) (by rfl) T.b_repr bb_repr (pa_cons (pv 6) pa_nil)) (nomark _)) (pw_or1 (pt_cmpR (o_ne (K := g.K) hr) (pe_callB (c_reprV (K := g.K) (base := g.base) SM hr) (by rfl) T.b_repr bb_repr (pa_cons (pe_lst (pa_cons (pv 0) (pa_cons (pv 1) (pa_cons (pv 2) pa_nil)))) pa_nil)) (pv 4) (nomark _))))) (pss_one (ps_ret pe_bl)) pss_nil)
      (pss_mid (ps_if (PW.pt (pw_or (pt_not (pt_val (pe_callG F_are_same (hr.mono (by first | decide | omega)) tkD (pa_cons (pe_callG F_merged (hr.mono (by first | decide | omega)) tkD (pa_cons (pv 0) (pa_cons (pv 1) (pa_cons (pv 0) pa_nil)))) (pa_cons (pv 1) pa_nil))))) (pw_or1 (pt_not (pt_val (pe_callG F_are_same (hr.mono (by first | decide | omega)) tkD (pa_cons (pe_callG F_merged (hr.mono (by first | decide | omega)) tkD (pa_cons (pv 0) (pa_cons (pv 1) (pa_cons (pv 1) pa_nil)))) (pa_cons (pv 1) pa_nil)))))))) (pss_one (ps_ret pe_bl)) pss_nil)
      (pss_mid (ps_set (i := 7) sc_l_right.nd rfl (Or.inr rfl) (pe_callG F_merged (hr.mono (by first | decide | omega)) tkD (pa_cons (pv 0) (pa_cons (pv 0) (pa_cons (pv 2) pa_nil)))))
      (pss_mid (ps_lock (ps_setLc (i := 8) (own := [("_law_key", 9)]) rfl sc_l_right.nd rfl rfl (sw_true rfl rfl rfl (by decide +kernel)) (pi_keys (pv 2)) (blkOk_by (own := [("_law_key", 9)]) (N := ["_law_base", "_law_one", "_law_other", "_law_due", "_law_kept", "_law_told_here", "_law_wanted", "_law_near", "_law_unlike", "_law_key", "_law_some", "_law_pair", "_law_mapping_here"]) (sc := defScope s_l_right) (by decide +kernel)) (fun _ _ _ _ _ => (pg_name (i := 9) sc_l_right.nd rfl (.inl rfl))) (fun _ _ _ _ _ => (pts_one (pt_cmpR (o_ne (K := g.K) (Rm.mk hr.room hr.gd)) (pe_callG F_l_at (Rm.mono (Rm.mk hr.room hr.gd) (by first | decide | omega)) L2.takes0 (pa_cons (pv 7) (pa_cons (pv 9) pa_nil))) (pe_callG F_l_at (Rm.mono (Rm.mk hr.room hr.gd) (by first | decide | omega)) L2.takes0 (pa_cons (pv 2) (pa_cons (pv 9) pa_nil))) (nomark _)))) (fun _ _ _ _ _ => (pv 9))))
      (pss_mid (ps_if (PW.pt (pw_or (pt_cmpR (o_ne (K := g.K) hr) (pe_callB (call_sortedD rfl) (by rfl) T.b_sorted bb_sorted (pa_cons (pv 7) pa_nil)) (pe_callB (call_sortedD rfl) (by rfl) T.b_sorted bb_sorted (pa_cons (pv 2) pa_nil)) (nomark _)) (pw_or1 (pt_cmpR (o_ne (K := g.K) hr) (pv 8) (pe_lst pa_nil) (nomark _))))) (pss_one (ps_ret pe_bl)) pss_nil)
      (pss_mid (ps_if (pt_cmpR (o_ne (K := g.K) hr) (pv 3) (pe_lst pa_nil) (nomark _)) (pss_one (ps_ret pe_bl)) pss_nil)
      (pss_mid (ps_set (i := 7) sc_l_right.nd rfl (Or.inr rfl) (pe_callTy (call_dictP rfl) (by rfl) T.b_dict bb_dict (pa_cons (pe_lc (own := [("_law_pair", 11)]) (tt := tYes) rfl sc_l_right.nd (i_list (K := g.K) (pv 5)) (blkOk_by (own := [("_law_pair", 11)]) (N := ["_law_base", "_law_one", "_law_other", "_law_due", "_law_kept", "_law_told_here", "_law_wanted", "_law_near", "_law_unlike", "_law_key", "_law_some", "_law_pair", "_law_mapping_here"]) (sc := defScope s_l_right) (by decide +kernel)) (fun _ _ _ _ _ => (pg_name (i := 11) sc_l_right.nd rfl (.inl rfl))) (fun _ _ _ _ _ => pts_nil) (fun _ _ _ _ _ => (pe_tup (pa_cons (pe_ix (o_ix (K := g.K)) (pv 11) pe_int (fun _ _ => rfl)) (pa_cons (pe_ix (o_ix (K := g.K)) (pv 11) pe_int (fun _ _ => rfl)) pa_nil))))) pa_nil)))
      (pss_cons (ps_for psD rfl (i_list (K := g.K) (pe_callB (c_sortS rfl) (by rfl) T.b_sorted bb_sorted (pa_cons (pe_callTy (c_setS rfl) (by rfl) T.b_set bb_set (pa_cons (pe_op (o_add (K := g.K)) (pe_op (o_add (K := g.K)) (pe_callTy (call_listD rfl) (by rfl) T.b_list bb_list (pa_cons (pv 0) pa_nil)) (pe_callTy (call_listD rfl) (by rfl) T.b_list bb_list (pa_cons (pv 1) pa_nil))) (pe_callTy (call_listD rfl) (by rfl) T.b_list bb_list (pa_cons (pv 2) pa_nil))) pa_nil)) pa_nil))) (pg_name (i := 9) sc_l_right.nd rfl (.inr rfl)) (pss_cons (ps_setLc (i := 10) (own := [("_law_mapping_here", 12)]) rfl sc_l_right.nd rfl rfl (sw_true rfl rfl rfl (by decide +kernel)) (i_tup (K := g.K) (pe_tup (pa_cons (pv 1) (pa_cons (pv 2) pa_nil)))) (blkOk_by (own := [("_law_mapping_here", 12)]) (N := ["_law_base", "_law_one", "_law_other", "_law_due", "_law_kept", "_law_told_here", "_law_wanted", "_law_near", "_law_unlike", "_law_key", "_law_some", "_law_pair", "_law_mapping_here"]) (sc := defScope s_l_right) (by decide +kernel)) (fun _ _ _ _ _ => (pg_name (i := 12) sc_l_right.nd rfl (.inl rfl))) (fun _ _ _ _ _ => (pts_one (pt_cmpR (o_ne (K := g.K) (Rm.mk hr.room hr.gd)) (pe_callG F_l_at (Rm.mono (Rm.mk hr.room hr.gd) (by first | decide | omega)) L2.takes0 (pa_cons (pv 12) (pa_cons (pv 9) pa_nil))) (pe_callG F_l_at (Rm.mono (Rm.mk hr.room hr.gd) (by first | decide | omega)) L2.takes0 (pa_cons (pv 0) (pa_cons (pv 9) pa_nil))) (nomark _)))) (fun _ _ _ _ _ => (pe_callG F_l_at (Rm.mono (Rm.mk hr.room hr.gd) (by first | decide | omega)) L2.takes0 (pa_cons (pv 12) (pa_cons (pv 9) pa_nil)))))
      (pss_one (ps_if (pt_cmpR (o_ne (K := g.K) hr) (pe_callG F_l_at (hr.mono (by first | decide | omega)) tkD (pa_cons (pv 7) (pa_cons (pv 9) pa_nil))) (pe_ix (o_ix (K := g.K)) (pe_op (o_add (K := g.K)) (pv 10) (pe_lst (pa_cons (pe_callG F_l_at (hr.mono (by first | decide | omega)) tkD (pa_cons (pv 0) (pa_cons (pv 9) pa_nil))) pa_nil))) pe_int (fun _ _ => rfl)) (nomark _)) (pss_one (ps_ret pe_bl)) pss_nil))))
      (pss_one (ps_ret pe_bl)))))))))))))), ?_⟩
  have hB := gB'.map tB
  have hO := gO.map tO
  have hP := gP.map tP
  have vB := gB'.vok
  have vO := gO.vok
  have vP := gP.vok
  have l1 := gB'.len
  have l2 := gO.len
  have l3 := gP.len
  have hl : B.length + O.length + P.length < 64 := by omega
  have l6 := allK_len6 gB' gO gP
  have v0 : VOk 3 (.list [.dict B, .dict O, .dict P]) := vok_list (fun d hd => by
    simp only [List.mem_cons, List.not_mem_nil, or_false] at hd
    rcases hd with rfl | rfl | rfl
    · exact vB
    · exact vO
    · exact vP) (by simp)
  have fit : ∀ {d : PyData}, VOk 3 d → d.showable = true ∧ d.depth ≤ 60 ∧ d.shown.length ≤ sizeLine := fun v => by
    have := fits v.ok (by have := v.dep; omega)
    rw [sizeLine_eq]; exact this
  have dp0 : ∀ {X : Hp} {l : Addr}, Same H X → X l = some (.lst [b, o, p]) → DpX g.K X (.ref l) (.list [.dict B, .dict O, .dict P]) := fun sX el => .lst (SqL.of el) (.cons (tB.same sX).dp (.cons (tO.same sX).dp (.cons (tP.same sX).dp .nil)))
  refine mid_at (fun σ G => ∃ ys L, σ = [some b, some o, some p, some (.ref L), some (.str (PyData.list [.dict B, .dict O, .dict P]).shown), none, none, none, none, none, none, none, none] ∧ Same H G ∧ ys.Perm (allK B O P) ∧ PyProof.Rows.sortedS ys = true ∧ G L = some (.lst ((ys.filter (isC B O P)).map V.str))) ?_ ?_
  · walk_at "sx"
    refine ⟨_, _, _, rfl, B, O, P, _, _, _, hB, hO, hP, vB, vO, vP, hl, fun ys L G perm srt sG hn eL l hl2 => ?_⟩
    have sG2 := sG.trans (same_upd (o := HO.lst [b, o, p]) hl2)
    refine ⟨_, _, rfl, dp0 sG2 upd_same, (fit v0).1, (fit v0).2.1, (fit v0).2.2, ?_⟩
    exact ⟨ys, L, rfl, rfl, sG2, perm, srt, same_upd hl2 _ _ eL⟩
  rintro _ G1 ⟨ys, L, rfl, s1, perm, srt, eL⟩
  have okc : ∀ c ∈ ys.filter (isC B O P), c ∈ keys6 := fun c hc => by
    have h := perm.mem_iff.mp (List.mem_filter.mp hc).1
    rcases allK_mem.mp h with z | z | z
    · exact (keysOf_len2 gB'.key).2 c z
    · exact (keysOf_len2 gO.key).2 c z
    · exact (keysOf_len2 gP.key).2 c z
  generalize hK : (PyData.list [.dict B, .dict O, .dict P]).shown = KT at *
  refine mid_at (fun σ G => σ = [some b, some o, some p, some (.ref L), some (.str KT), none, none, none, none, none, none, none, none] ∧ Same G1 G) ?_ ?_
  · walk_at "sx"
    refine ⟨b, o, p, rfl, B, O, P, _, _, _, hB.same s1, hO.same s1, hP.same s1, hl, fun zs a G pz sz sG hn ea => ?_⟩
    obtain rfl := sorted_uniq sz srt (pz.trans perm.symm)
    try dsimp only
    refine ne_txt okc ea (sG _ _ eL) ⟨_, rfl, ?_⟩
    rw [if_neg (by simp)]
    have s2 := s1.trans sG
    refine ⟨b, p, o, rfl, B, P, O, _, _, _, hB.same s2, hP.same s2, hO.same s2, by omega, fun zs2 a2 G2 pz2 sz2 sG2 hn2 ea2 => ?_⟩
    obtain rfl := sorted_uniq sz2 srt ((pz2.trans (allK_swap B O P)).trans perm.symm)
    rw [isC_comm] at ea2
    try dsimp only
    refine ne_txt okc ea2 (sG2 _ _ (sG _ _ eL)) ⟨_, rfl, ?_⟩
    rw [if_neg (by simp)]
    exact sG.trans sG2
  rintro _ G2 ⟨rfl, s2⟩
  have s12 := s1.trans s2
  have eL2 := s2 _ _ eL
  have nB : ∀ a, p = .ref a → b = p ∨ a ∉ fb := fun a e => .inr (np a e).1
  have nO : ∀ a, p = .ref a → o = p ∨ a ∉ fo := fun a e => .inr (np a e).2
  generalize hcs : ys.filter (isC B O P) = cs at okc eL2
  refine mid_at (fun σ G => ∃ t, σ = [some b, some o, some p, some (.ref L), some (.str KT), some (.ref t), none, none, none, none, none, none, none] ∧ Same G2 G ∧ ((cs ≠ [] ∧ G t = some (.tup (cs.map V.str))) ∨ (cs = [] ∧ ∃ kvs fr, PrsAt H G t kvs ∧ TrD G kvs (apDs O (dropsM B P ++ putsM B O P)) fr ∧ (kvs.map (·.1)).Nodup))) ?_ ?_
  · walk_at "sx"
    refine ⟨b, o, p, rfl, B, O, P, _, _, _, hB.same s12, hO.same s12, hP.same s12, hl, nB, nO, fun zs pz sz => ?_⟩
    obtain rfl := sorted_uniq sz srt (pz.trans perm.symm)
    rw [hcs]
    refine ⟨fun c t kvs fr G sG pG tG nd => ⟨t, rfl, sG, .inr ⟨c, kvs, ?_, fr, tG, nd⟩⟩, fun c G t sG et => ⟨t, rfl, sG, .inl ⟨c, et⟩⟩⟩
    obtain ⟨⟨ps, e1, e2⟩, e3⟩ := pG
    have old : ∀ {c : Addr}, G2 c = none → H c = none := fun {c} n => by
      cases e : H c with
      | none => rfl
      | some u => have := s12 _ _ e; rw [n] at this; cases this
    exact ⟨⟨ps, e1, paired_imp (fun _ _ z => ⟨z.1, old z.2.1, z.2.2⟩) e2⟩, old e3⟩
  rintro _ G3 ⟨t, rfl, s3, told⟩
  have s13 := s12.trans s3
  have eL3 := s3 _ _ eL2
  have lcs : cs.length ≤ 16 := by
    rw [← hcs]
    have a1 := List.length_filter_le (isC B O P) ys
    have a2 := perm.length_eq
    omega
  have gD := GD.merge (B := B) gO gP
  refine mid_at (fun σ G => ∃ w T, σ = [some b, some o, some p, some (.ref L), some (.str KT), some (.ref t), some w, none, none, none, none, none, none] ∧ Same G3 G ∧ VOk 3 T ∧ DpX g.K G (.ref t) T ∧ DpX g.K G w T) ?_ ?_
  · walk_at "sx"
    intro e0 h0
    have s4 := same_upd (o := HO.lst []) h0
    refine ne_txt0 okc (s4 _ _ eL3) upd_same ?_
    refine ⟨_, rfl, ?_⟩
    rcases told with ⟨c, et⟩ | ⟨c, kvs, fr, pG, tG, nd⟩
    · rw [if_pos (by simpa using c)]
      refine ⟨_, .inl ⟨SqL.of (s4 _ _ eL3), fun l hl2 => ?_⟩⟩
      have s5 := s4.trans (same_upd (o := HO.tup (cs.map V.str)) hl2)
      exact ⟨s5, _, vok_txt okc lcs, .tup (SqT.of (s5 _ _ et)) (dpx_txt cs), .tup (SqT.of upd_same) (dpx_txt cs)⟩
    · rw [if_neg (by simpa using c)]
      have s14 := s13.trans s4
      refine ⟨b, o, p, rfl, B, O, P, _, _, _, hB.same s14, hO.same s14, hP.same s14, vB, vO, vP, hl, nB, nO, fun r kv2 fr2 G sG pG2 tG2 nd2 => ?_⟩
      have s5 := s4.trans sG
      obtain ⟨⟨ps, e1, e2⟩, e3⟩ := pG.same s5
      obtain ⟨⟨ps2, e4, e5⟩, e6⟩ := pG2
      exact ⟨s5, _, vok_prs gD, .lst (SqL.of e1) (prs_dpx e2 (tG.same s5)), .lst (SqL.of e4) (prs_dpx e5 tG2)⟩
  rintro _ G4 ⟨w, TT, rfl, s4, vT, dT1, dT2⟩
  have s14 := s13.trans s4
  refine mid_at (fun σ G => σ = [some b, some o, some p, some (.ref L), some (.str KT), some (.ref t), some w, none, none, none, none, none, none] ∧ Same G4 G) ?_ ?_
  · walk_at "sx"
    refine ⟨_, TT, rfl, dT1, (fit vT).1, (fit vT).2.1, (fit vT).2.2, ?_⟩
    refine ⟨_, TT, rfl, dT2, (fit vT).1, (fit vT).2.1, (fit vT).2.2, ?_⟩
    dsimp only
    rw [RS.ne_ss]
    refine ⟨_, rfl, ?_⟩
    rw [if_neg (by simp)]
    intro l hl2
    refine ⟨_, _, rfl, dp0 (s14.trans (same_upd hl2)) upd_same, (fit v0).1, (fit v0).2.1, (fit v0).2.2, ?_⟩
    rw [hK]
    dsimp only
    rw [RS.ne_ss]
    refine ⟨_, rfl, ?_⟩
    rw [if_neg (by simp)]
    exact same_upd hl2
  rintro _ G5 ⟨rfl, s5⟩
  have s15 := s14.trans s5
  refine mid_at (fun σ G => σ = [some b, some o, some p, some (.ref L), some (.str KT), some (.ref t), some w, none, none, none, none, none, none] ∧ Same G5 G) ?_ ?_
  · walk_at "sx"
    refine ⟨_, _, _, rfl, B, O, B, _, _, _, hB.same s15, hO.same s15, hB.same s15, by omega, fun a e => .inl rfl, fun a e => .inr (nb a e), fun zs pz sz => ⟨fun c r G fr sG tr nf => ?_, fun c => absurd (noC_ob B O zs) c⟩⟩
    rw [merge_ob] at tr
    have s16 := s15.trans sG
    refine ⟨_, _, rfl, O, O, _, _, gO.map tr, hO.same s16, fun G6 s6 => ⟨_, rfl, ?_⟩⟩
    rw [if_neg (by simp)]
    have s17 := s16.trans s6
    refine ⟨_, _, _, rfl, B, O, O, _, _, _, hB.same s17, hO.same s17, hO.same s17, by omega, fun a e => .inr (no a e), fun a e => .inl rfl, fun zs pz sz => ⟨fun c r2 G7 fr2 sG7 tr2 nf2 => ?_, fun c => absurd (noC_oo B O zs) c⟩⟩
    rw [merge_oo] at tr2
    have s18 := s17.trans sG7
    refine ⟨_, _, rfl, O, O, _, _, gO.map tr2, hO.same s18, fun G8 s8 => ⟨_, rfl, ?_⟩⟩
    rw [if_neg (by simp)]
    exact sG.trans (s6.trans (sG7.trans s8))
  rintro _ G6 ⟨rfl, s6⟩
  have s16 := s15.trans s6
  have gN := GD.merge (B := B) gB' gP
  refine mid_at (fun σ G => ∃ r fr, σ = [some b, some o, some p, some (.ref L), some (.str KT), some (.ref t), some w, some (.ref r), none, none, none, none, none] ∧ Same G6 G ∧ Tr G (.ref r) (.dict (apDs B (dropsM B P ++ putsM B B P))) fr ∧ ∀ c ∈ fr, G6 c = none) ?_ ?_
  · walk_at "sx"
    exact ⟨_, _, _, rfl, B, B, P, _, _, _, hB.same s16, hB.same s16, hP.same s16, by omega, nB, nB, fun zs pz sz => ⟨fun c r G fr sG tr nf => ⟨r, rfl, sG, fr, tr, nf⟩, fun c => absurd (noC_bp B P zs) c⟩⟩
  rintro _ G7 ⟨r, fr, rfl, s7, tN, nfr⟩
  have s17 := s16.trans s7
  obtain ⟨pa, kp, fp1, hpe, eP, hsP, ndP, efp⟩ := tr_dict tP
  have e7 := s17 _ _ eP
  have pfr : pa ∉ fr := fun z => by have := nfr pa z; rw [s16 _ _ eP] at this; cases this
  refine mid_at (fun σ G => ∃ u, σ = [some b, some o, some p, some (.ref L), some (.str KT), some (.ref t), some w, some (.ref r), some (.ref u), none, none, none, none] ∧ Same G7 G ∧ G u = some (.lst [])) ?_ ?_
  · walk_at "sx"
    refine ⟨pa, _, e7, True.intro, fun od => ⟨pa, hpe, od, .inl ⟨kp, upd_same, ?_⟩⟩⟩
    obtain ⟨_, mN⟩ := lockR (od := od) (gN.map tN) e7 (.inr pfr)
    obtain ⟨_, mP⟩ := lockR (od := od) (hP.same s17) e7 (.inl hpe)
    have ea : upd G7 pa (.frz od (.dK kp)) pa = some (.frz od (.dK kp)) := upd_same
    have hu : ∀ X, Same (upd G7 pa (.frz od (.dK kp))) X → Same G7 (upd X pa (.dK kp)) := fun X sm => unlock e7 sm
    have hn1 : ∀ c, upd G7 pa (.frz od (.dK kp)) c = none → c ≠ pa ∧ G7 c = none := fun c z => fresh_lock z
    generalize upd G7 pa (.frz od (.dK kp)) = HL at mN mP ea hu hn1 ⊢
    have lk := hsP.len
    refine lc_inv kp.length (fun L i acc X => Same HL X ∧ acc = []) (by rw [sizeLine_eq]; omega) (fun L hL => ⟨same_upd hL, rfl⟩) (fun L i acc X hL lt P => ⟨P.1 _ _ ea, lt⟩) (fun L acc X hL P => ⟨P.1 _ _ ea, Nat.le_refl _⟩) (fun L i acc X x X' K K0 hL lt la Pv eL y k k0 => ?_) (fun L acc X hL Pv eL => ?_)
    · obtain ⟨sm, rfl⟩ := Pv
      obtain ⟨rfl, ky, v0, hk, rfl⟩ := y
      obtain ⟨x, v, d, f', e1, e2, tv, _⟩ := hsP.get lt
      rw [hk] at e1
      cases e1
      refine ⟨rfl, ?_⟩
      simp only [kV, tRet, tRetN, tSeq, C8.tCut, tNext, tAsg, gName, gNil, gCons, gTup, gFld, tIfS, tIf, tAndV, tOrV, tNotV, tAnd, tOr, tNot, tB, tTest, tOp, tUn, tCB, tCons, tNil, tVar, tC, tChain, tDrop, RS.tCallG, RS.tMethG, tMakeG, RS.tCallK, RS.tMakeK, tEqOwn, rI, rI0, rU, add_ii, add_ss, add_rr, mul_ii, mul_si, mul_ri, RS.eq_ii, RS.eq_ss, eq_bb, eq_nn, eq_sn, eq_ns, eq_in, eq_ni, eq_bn, eq_nb, eq_is, eq_si, eq_rr, ne_ii, ne_ss, ne_bb, ne_nn, ne_sn, ne_ns, ne_in, ne_ni, ne_is, ne_si, ne_rr, in_ss, in_r, nin_ss, nin_r, len_s, len_r, RS.ix_s, RS.ix_r, sl_s, sl_r, is_eq, tyN_n, tyN_b, tyN_i, tyN_s, tru_b, tru_i, tru_n, tSl, tPart, tNoPart, tPar, tPar3, tFmtZ, tFmt, tJs, tDGet, sDPut, sFld, tFld, tTup, tLst, tNever, isB,
  L2.start, List.map_cons, List.map_nil, List.length_cons, List.length_nil, Nat.reduceAdd, Nat.reduceSub, Nat.sub_self, List.replicate_zero, List.replicate_succ, List.append_nil, List.cons_append, List.nil_append, List.getElem?_cons_zero, List.getElem?_cons_succ, List.set_cons_zero, List.set_cons_succ, Option.some.injEq, exists_eq_left, exists_eq_left', exists_and_left, V.bl.injEq, V.int.injEq, V.str.injEq, V.ref.injEq, beq_self_eq_true, Bool.true_or, Bool.or_true, Bool.false_or, Bool.or_false, Bool.and_false, Bool.false_and, Bool.true_and, Bool.and_true, Bool.not_true, Bool.not_false, Bool.false_eq_true, if_true, if_false, ite_true, ite_false, true_and, and_true, and_assoc, String.reduceBEq, String.reduceEq, reduceIte, Bool.and_self, reduceCtorEq, false_and, and_false, exists_false, or_false, false_or, exists_const, iEnumS, iStr, iList, iTup, iRng1, iEnum, tFor_eq, tLc_eq, List.cons.injEq, wipe, not_true_eq_false, not_false_eq_true, upd_same, HO.ins.injEq, HO.tup.injEq, HO.lst.injEq, ofS_eq, lk_nil, lk_cons, pu_nil, pu_cons, sizeLine_eq, Nat.reduceLT, Nat.reduceLeDiff, Nat.reduceEqDiff, Nat.le_refl, decide_true, decide_false, tPr, dget_us, dput_us, vv_nil, vv_cons, RS.pk_nil, pk_one, RS.pk_cons, inr_eq, tDisp, tPairs, tBoolOwn, rBoolOwn, tBM, rAppend, ty_list, ty_str, rEqOwn, iEnumT, RS.tCallS, tM1, tDc_eq, tLock, tLockE, iKeys, tListEnum, rUpdate, tMkX0, tMkX1, tXfv, gSub, rSetL, List.getD_cons_zero, List.getD_cons_succ, tBreak, tCMethS, ClX.tCVal, tXfa, tIxOwn, tInOwn, tPropG, tMethK, tMethP, tListGen, tDGet2, tDPop2, rNeD0, intA_i, intA_b, tRevL, sFldAug, tPm0, tPm1, tDIn, tDNotIn, tDNewK, RS.tMethS, tForK, tKM, tKC, tLcK, tKM2, tKC2, tMethStar, tKCK2, tLk, tAug, ipI, tDig, tLcX, tKMX, tKCX]
      refine ⟨_, _, rfl, _, _, x, mN.same sm, gN.vok, rfl, ?_⟩
      refine ⟨_, _, rfl, P, _, x, mP.same sm, vP, rfl, ?_⟩
      try dsimp only
      rw [RS.ne_ss]
      refine ⟨_, rfl, ?_⟩
      have ee : atD (apDs B (dropsM B P ++ putsM B B P)) x = atD P x := by unfold atD; rw [look_near vB vP gP.nd]
      rw [if_neg (by simp [ee])]
      exact k0 _ eL ⟨sm, rfl⟩
    · obtain ⟨sm, rfl⟩ := Pv
      have Ln := hn1 L hL
      exact ⟨sm _ _ ea, L, rfl, hu X sm, by rw [upd_ne Ln.1]; exact eL⟩
  rintro _ G8 ⟨u, rfl, s8, eu⟩
  have s18 := s17.trans s8
  obtain ⟨ra, kn, fn1, er, eN, hsN, ndN, efn⟩ := tr_dict tN
  cases er
  refine mid_at (fun σ G => σ = [some b, some o, some p, some (.ref L), some (.str KT), some (.ref t), some w, some (.ref r), some (.ref u), none, none, none, none] ∧ Same G8 G) ?_ ?_
  · walk_at "sx"
    have k1 := keysOf_len2 gN.key
    have k2 := keysOf_len2 gP.key
    have l4 := gN.len
    refine ⟨kn, .inl (s8 _ _ eN), _, trD_keys hsN, by omega, fun y1 q1 pm1 so1 hq1 => ?_⟩
    have s9 := same_upd (o := HO.lst (y1.map V.str)) hq1
    refine ⟨pa, hpe, kp, .inl (s9 _ _ (s18 _ _ eP)), _, trD_keys hsP, by omega, fun y2 q2 pm2 so2 hq2 => ?_⟩
    have s10 := same_upd (o := HO.lst (y2.map V.str)) hq2
    obtain rfl := sorted_uniq so1 so2 ((pm1.trans (near_keys vB vP gP.nd gN.nd)).trans pm2.symm)
    refine ne_txtD (fun c hc => k2.2 c (pm2.mem_iff.mp hc)) (s10 _ _ upd_same) upd_same ?_
    refine ⟨_, rfl, ?_⟩
    rw [if_neg (by simp)]
    intro e0 h0
    have s11 := same_upd (o := HO.lst []) h0
    refine ne_txt0 (cs := []) (by simp) (s11 _ _ (s10 _ _ (s9 _ _ eu))) upd_same ?_
    refine ⟨_, rfl, ?_⟩
    rw [if_neg (by simp)]
    exact s9.trans (s10.trans s11)
  rintro _ G9 ⟨rfl, s9⟩
  have s19 := s18.trans s9
  have eL9 := s9 _ _ (s8 _ _ (s7 _ _ (s6 _ _ (s5 _ _ (s4 _ _ eL3)))))
  refine mid_at (fun σ G => σ = [some b, some o, some p, some (.ref L), some (.str KT), some (.ref t), some w, some (.ref r), some (.ref u), none, none, none, none] ∧ Same G9 G ∧ cs = []) ?_ ?_
  · walk_at "sx"
    intro e0 h0
    have s11 := same_upd (o := HO.lst []) h0
    refine ne_txt0 okc (s11 _ _ eL9) upd_same ?_
    refine ⟨_, rfl, ?_⟩
    by_cases c : cs = []
    · rw [if_neg (by simp [c])]
      exact ⟨s11, c⟩
    · rw [if_pos (by simp [c])]
      exact q _ (s19.trans s11)
  rintro _ G10 ⟨rfl, s10, c0⟩
  obtain ⟨-, kvs, frD, pG, tG, ndG⟩ := told.resolve_left fun z => z.1 c0
  have sT : Same G3 G10 := s4.trans (s5.trans (s6.trans (s7.trans (s8.trans (s9.trans s10)))))
  have pG10 := pG.same sT
  have tG10 := tG.same sT
  have s1A := s19.trans s10
  have lk := tG.len
  have lD := gD.len
  refine mid_at (fun σ G => ∃ nr fz, σ = [some b, some o, some p, some (.ref L), some (.str KT), some (.ref t), some w, some (.ref nr), some (.ref u), none, none, none, none] ∧ Same G10 G ∧ Tr G (.ref nr) (.dict (apDs O (dropsM B P ++ putsM B O P))) fz) ?_ ?_
  · walk_at "sx"
    obtain ⟨⟨ps, e1, e2⟩, e3⟩ := pG10
    have lp := paired_len e2
    refine ⟨⟨_, SqL.of e1⟩, ?_⟩
    refine lc_invA ps.length (fun A i acc X => Same G10 X ∧ ∃ qs, acc = qs.map V.ref ∧ Paired (fun (p : Addr) (kv : Key × V) => X p = some (.tup [kV kv.1, kv.2]) ∧ p ≠ A) qs (kvs.take i)) (by rw [sizeLine_eq]; omega) (fun A hA => ⟨same_upd hA, [], rfl, .nil⟩) (fun A i acc X hA lt P => ⟨_, .ref ps[i], SqL.of (P.1 _ _ e1), by simp [lt]⟩) (fun A acc X hA P => ⟨_, SqL.of (P.1 _ _ e1), by simp⟩) (fun A i acc X x X' K hA lt la P eA yl k => ?_) (fun A acc X hA P eA => ?_)
    · obtain ⟨sm, qs, rfl, prq⟩ := P
      obtain ⟨rfl, hx⟩ := yl
      have hx := hx _ (SqL.of (sm _ _ e1))
      obtain ⟨x1, v, d, f', g1, g2, tv, _⟩ := tG10.get (i := i) (by omega)
      obtain ⟨p1, gp, ep, hp0, _⟩ := paired_at2 e2 g1
      have zp : x = .ref p1 := by
        rw [List.getElem?_map, gp] at hx
        exact (Option.some.inj hx).symm
      subst zp
      refine ⟨rfl, ?_⟩
      walk_at "sx"
      have ep2 := sm _ _ ep
      refine ⟨_, .inl (SqL.of ep2), .str x1, rfl, _, .inl (SqL.of ep2), v, rfl, fun q hq => ?_⟩
      have qA : q ≠ A := fun z => by rw [z, eA] at hq; cases hq
      have tk : kvs.take (i + 1) = kvs.take i ++ [(.inr x1, v)] := by rw [List.take_add_one]; simp [g1]
      refine k (.ref q) _ (by rw [upd_ne qA.symm]; exact eA) ⟨fun b o e => ?_, qs ++ [q], by simp, ?_⟩
      · have bA : b ≠ A := fun z => by rw [z, hA] at e; cases e
        rw [upd_ne bA]; exact same_upd hq _ _ (sm _ _ e)
      · rw [tk]
        refine paired_snoc ⟨by rw [upd_ne qA]; exact upd_same, qA⟩ (paired_imp (fun a _ z => ⟨?_, z.2⟩) prq)
        rw [upd_ne z.2]; exact same_upd hq _ _ z.1
    · obtain ⟨sm, qs, rfl, prq⟩ := P
      rw [List.take_of_length_le (by omega)] at prq
      refine ⟨A, rfl, qs, SqL.of eA, kvs, paired_imp (fun _ _ z => SqT.of z.1) prq, fun nr hn => ?_⟩
      obtain ⟨fz, tz, _, ndz⟩ := trD_merge (tG10.same sm) .nil (by simp)
      rw [gD.mrg_id] at tz
      refine ⟨sm.trans (same_upd hn), nr :: fz, .dct upd_same (tz.same (same_upd hn)) (fun z => ?_) ndz⟩
      rcases tz.there nr z with ⟨ys, e⟩ | ⟨ys, e⟩ <;> (rw [hn] at e; cases e)
  rintro _ G11 ⟨nr, fz, rfl, s11, tM⟩
  have s1B := s1A.trans s11
  obtain ⟨ba, kb, fb1, hbe, eB, hsB, ndB, efb⟩ := tr_dict tB
  obtain ⟨oa, ko, fo1, hoe, eO, hsO, ndO, efo⟩ := tr_dict tO
  walk_at "sx"
  refine keys_sort hbe hoe hpe (.inl (s1B _ _ eB)) (.inl (s1B _ _ eO)) (.inl (s1B _ _ eP)) (trD_keys hsB) (trD_keys hsO) (trD_keys hsP) hl fun zs r2 H1 pz sz sz1 hr2 er2 => ?_
  obtain rfl := sorted_uniq sz srt (pz.trans perm.symm)
  refine ⟨r2, rfl, ⟨_, SqL.of er2⟩, ?_⟩
  refine for_by zs.length (fun i σ G => (∃ v9 v10, σ = [some b, some o, some p, some (.ref L), some (.str KT), some (.ref t), some w, some (.ref nr), some (.ref u), v9, v10, none, none]) ∧ Same G11 G ∧ G r2 = some (.lst (zs.map V.str)))
    ⟨⟨_, _, rfl⟩, sz1, er2⟩ (fun i σ G lt P => ⟨_, .str zs[i], SqL.of P.2.2, by simp [lt]⟩) (fun σ G P => ⟨_, SqL.of P.2.2, by simp⟩) (fun i σ G x G' lt Pv yl => ?_) (fun σ G Pv => ?_)
  · obtain ⟨⟨v9, v10, rfl⟩, sG, hrG⟩ := Pv
    obtain ⟨rfl, hx⟩ := yl
    have hx := hx _ (SqL.of hrG)
    rw [List.getElem?_map, List.getElem?_eq_getElem lt] at hx
    cases hx
    have ic : isC B O P zs[i] = false := by
      cases e : isC B O P zs[i] with
      | false => rfl
      | true =>
        have : zs[i] ∈ zs.filter (isC B O P) := List.mem_filter.mpr ⟨List.getElem_mem lt, e⟩
        rw [hcs, c0] at this; cases this
    generalize zs[i] = x at ic ⊢
    walk_at "sx"
    intro pT hpT
    have sT2 := sG.trans (same_upd (o := HO.tup [o, p]) hpT)
    have eT : upd G' pT (.tup [o, p]) pT = some (.tup [o, p]) := upd_same
    have hr2' := same_upd (o := HO.tup [o, p]) hpT _ _ hrG
    generalize upd G' pT (.tup [o, p]) = X0 at sT2 eT hr2' ⊢
    have s1C := s1B.trans sT2
    obtain ⟨_, rB⟩ := hB.toR
    obtain ⟨_, rO⟩ := hO.toR
    obtain ⟨_, rP⟩ := hP.toR
    obtain ⟨_, rM⟩ := (gD.map (tM.same sT2)).toR
    refine ⟨⟨_, SqT.of eT⟩, ?_⟩
    have step : ∀ (M : List (PyData × PyData)) (l : List Str), (l ++ if atD M x ≠ atD B x then [atD M x] else []).map V.str = l.map V.str ++ if atD M x ≠ atD B x then [.str (atD M x)] else [] := fun M l => by
      rw [List.map_append]; congr 1; split <;> rfl
    refine lc_inv 2 (fun A j acc X => Same X0 X ∧ acc = (([O, P].take j).flatMap fun M => if atD M x ≠ atD B x then [atD M x] else []).map V.str) (by rw [sizeLine_eq]; omega) (fun A hA => ⟨same_upd hA, rfl⟩) (fun A j acc X hA lt P => ?_) (fun A acc X hA P => ⟨_, SqT.of (P.1 _ _ eT), Nat.le_refl _⟩) (fun A j acc X z X' K K0 hA lt la Pv eA yl k k0 => ?_) (fun A acc X hA Pv eA => ?_)
    · obtain rfl | rfl : j = 0 ∨ j = 1 := by omega
      · exact ⟨_, o, SqT.of (P.1 _ _ eT), rfl⟩
      · exact ⟨_, p, SqT.of (P.1 _ _ eT), rfl⟩
    · obtain ⟨sm, rfl⟩ := Pv
      obtain ⟨rfl, hz⟩ := yl
      have hz := hz _ (SqT.of (sm _ _ eT))
      obtain ⟨M, m0, ez, rM1, vM, tk⟩ : ∃ M m0, ([O, P] : List (List (PyData × PyData)))[j]? = some M ∧ MapR X' z M m0 ∧ VOk 2 (.dict M) ∧ [O, P].take (j + 1) = [O, P].take j ++ [M] := by
        obtain rfl | rfl : j = 0 ∨ j = 1 := by omega
        · cases hz; exact ⟨O, _, rfl, rO.same (s1C.trans sm), vO, rfl⟩
        · cases hz; exact ⟨P, _, rfl, rP.same (s1C.trans sm), vP, rfl⟩
      refine ⟨rfl, ?_⟩
      walk_at "sx"
      refine ⟨_, _, rfl, M, _, x, rM1, vM, rfl, ?_⟩
      refine ⟨_, _, rfl, B, _, x, rB.same (s1C.trans sm), vB, rfl, ?_⟩
      try dsimp only
      rw [RS.ne_ss]
      refine ⟨_, rfl, ?_⟩
      have nx : ((([O, P].take (j + 1)).flatMap fun M => if atD M x ≠ atD B x then [atD M x] else []).map V.str) = (([O, P].take j).flatMap fun M => if atD M x ≠ atD B x then [atD M x] else []).map V.str ++ if atD M x ≠ atD B x then [.str (atD M x)] else [] := by
        rw [tk, List.flatMap_append, ← step]; congr 2; simp
      by_cases e : atD M x = atD B x
      · rw [if_neg (by simp [e])]
        exact k0 _ eA ⟨sm, by rw [nx, if_neg (by simp [e]), List.append_nil]⟩
      · rw [if_pos (by simp [e])]
        refine ⟨_, _, rfl, M, _, x, rM1, vM, rfl, ?_⟩
        refine k _ _ eA ⟨fun b o q => ?_, by rw [nx, if_pos e]⟩
        have bA : b ≠ A := fun z => by rw [z, hA] at q; cases q
        rw [upd_ne bA]; exact sm _ _ q
    · obtain ⟨sm, rfl⟩ := Pv
      have s1D := s1C.trans sm
      refine ⟨_, _, rfl, _, _, x, rM.same sm, gD.vok, rfl, ?_⟩
      refine ⟨_, _, rfl, B, _, x, rB.same s1D, vB, rfl, fun q0 hq0 => ?_⟩
      have s6' := same_upd (o := HO.lst [.str (atD B x)]) hq0
      refine .inl ⟨A, q0, _, _, rfl, rfl, s6' _ _ eA, upd_same, ?_, fun q1 hq1 => ?_⟩
      · have : ([O, P].take 2).length ≤ 2 := by simp
        rw [sizeLine_eq]
        simp only [List.take, List.flatMap_cons, List.flatMap_nil, List.map_append, List.length_append, List.map_nil, List.length_nil, List.length_cons]
        split <;> split <;> simp
      have fst : atI ((([O, P].take 2).flatMap fun M => if atD M x ≠ atD B x then [atD M x] else []).map V.str ++ [.str (atD B x)]) 0 = some (.str (atD (apDs O (dropsM B P ++ putsM B O P)) x)) := by
        rw [at_merge vB vO vP gP.nd ic]
        by_cases c1 : atD O x = atD B x <;> by_cases c2 : atD P x = atD B x <;> simp [c1, c2, atI, ixN]
      try dsimp only
      rw [RS.ix_r]
      refine ⟨_, .inl (SqL.of upd_same), _, fst, ?_⟩
      rw [RS.ne_ss]
      refine ⟨_, rfl, ?_⟩
      rw [if_neg (by simp)]
      have s7' := s6'.trans (same_upd (o := HO.lst ((([O, P].take 2).flatMap fun M => if atD M x ≠ atD B x then [atD M x] else []).map V.str ++ [.str (atD B x)])) hq1)
      exact ⟨⟨_, rfl⟩, (sT2.trans sm).trans s7', s7' _ _ (sm _ _ hr2')⟩
  · obtain ⟨⟨v9, v10, rfl⟩, sG, hrG⟩ := Pv
    walk_at "sx"
    exact q _ (s1B.trans sG)
end
theorem gd_one {x : Str} (hx : x ∈ keys6) {d : PyData} (hd : VOk 1 d) : GD [(.str x, d)] := gd_nil.put hx hd
theorem vok_one : VOk 1 (.list [.int 1]) := vok_list (n := 0) (fun d hd => by rw [List.mem_singleton.mp hd]; exact vok_int 0 (by decide)) (by simp)
theorem inv_two {G : Hp} {r : Addr} {x y : Str} {i j : Int} {fr : List Addr} (t : Tr G (.ref r) (.dict [(.str x, .list [.int i]), (.str y, .list [.int j])]) fr) :
    ∃ b1 b2, G r = some (.dK [(.inr x, .ref b1), (.inr y, .ref b2)]) ∧ G b1 = some (.lst [.int i]) ∧ G b2 = some (.lst [.int j]) ∧ b1 ∈ fr ∧ b2 ∈ fr := by
  cases t with
  | dct h hs na nd =>
    cases hs with
    | cons t1 r1 =>
      cases r1 with
      | cons t2 r2 =>
        cases r2
        cases t1 with
        | lst e1 l1 _ =>
          cases l1 with
          | cons i1 z1 =>
            cases z1
            cases i1
            cases t2 with
            | lst e2 l2 _ =>
              cases l2 with
              | cons i2 z2 =>
                cases z2
                cases i2
                exact ⟨_, _, h, e1, e2, by simp, by simp⟩
theorem tr_one {G : Hp} {a l : Addr} {x : Str} {i : Int} (h : G a = some (.dK [(.inr x, .ref l)])) (hl : G l = some (.lst [.int i])) : Tr G (.ref a) (.dict [(.str x, .list [.int i])]) [a, l] := by
  have ne : a ≠ l := fun e => by rw [e, hl] at h; cases h
  exact .dct h (.cons (f1 := [l]) (.lst hl (.cons (.int i) .nil) (by simp)) .nil) (by simpa using ne) (by simp)
def oneD (x : Str) : List (PyData × PyData) := [(.str x, .list [.int 1])]
theorem noC_one (ys : List Str) : ys.filter (isC [] (oneD "b") (oneD "a")) = [] := by
  rw [List.filter_eq_nil_iff]
  intro x _
  have h1 : x = "b" → x ≠ "a" := fun e z => by rw [e] at z; exact absurd z (by decide +kernel)
  unfold isC hasC oneD
  rw [look_cons, look_cons]
  by_cases e : x = "b"
  · simp [e, h1 e, look]
    intro z
    exact absurd z (by decide +kernel)
  · simp [e, look]
theorem merge_one : apDs (oneD "b") (dropsM [] (oneD "a") ++ putsM [] (oneD "b") (oneD "a")) = [(.str "b", .list [.int 1]), (.str "a", .list [.int 1])] := by
  kernel_rfl
def twoB : List (PyData × PyData) := [(.str "a", .int 1), (.str "b", .int 2)]
def twoP : List (PyData × PyData) := [(.str "b", .int 2), (.str "a", .int 1)]
theorem merge_two : apDs twoB (dropsM twoB twoP ++ putsM twoB twoB twoP) = twoB := by kernel_rfl
theorem dget_hd {H : Hp} {a : Addr} {x : Str} {v : V} {r : List (Key × V)} (h : H a = some (.dK ((.inr x, v) :: r))) : DGet H a (.str x) (some v) := by
  have := dget_x (x := x) (.inl h)
  rwa [vv_cons, if_pos rfl] at this
theorem eqv_intsL : ∀ ns : List Int, PyData.eqvAll (ns.map PyData.int) (ns.map PyData.int) = true
  | [] => rfl
  | b :: bs => by
    have h := eqv_intsL bs
    simp [PyData.eqvAll, PyData.eqv, h]
theorem neDL_of {K : PySem.W.Frag} {H : Hp} {a b : Addr} {ks ls : List (Key × V)} {Q : VK} (ha : H a = some (.dK ks)) (hb : H b = some (.dK ls)) (hl : ks.length = ls.length)
    (hv : ∀ p ∈ ks, ∃ l m, ∃ ns : List Int, p.2 = .ref l ∧ valV ls p.1 = some (.ref m) ∧ H l = some (.lst (ns.map V.int)) ∧ H m = some (.lst (ns.map V.int))) (q : Q (.bl false) H) : rNeDL K (.ref a) (.ref b) H Q := by
  refine ⟨a, b, ks, ls, rfl, rfl, ha, hb, hl, fun p hp => ?_, q⟩
  obtain ⟨l, m, ns, e1, e2, e3, e4⟩ := hv p hp
  exact ⟨.ref m, .list (ns.map PyData.int), .list (ns.map PyData.int), e2, by rw [e1]; exact .lst (SqL.of e3) (dp_ints ns), .lst (SqL.of e4) (dp_ints ns), shaped_ints ns, shaped_ints ns, by simp only [PyData.eqv]; exact eqv_intsL ns⟩
theorem merge_ba (u v : V) : mergeK [] [((.inr "b" : Key), u), (.inr "a", v)] = [(.inr "b", u), (.inr "a", v)] := by kernel_rfl
theorem merge_ab (u v : V) : mergeK [] [((.inr "a" : Key), u), (.inr "b", v)] = [(.inr "a", u), (.inr "b", v)] := by kernel_rfl
theorem val_ba (u v : V) : valV [((.inr "b" : Key), u), (.inr "a", v)] (.inr "a") = some v := by
  rw [vv_cons, if_neg (by decide +kernel), vv_cons, if_pos rfl]
theorem ty_lst {K : PySem.W.Frag} {H : Hp} {l : Addr} {xs : List V} (h : H l = some (.lst xs)) : tyV K "list" (.ref l) H := by
  simpa [tyV] using ⟨_, SqL.of h⟩
theorem tr_two {G : Hp} {a : Addr} {x y : Str} {i j : Int} (h : G a = some (.dK [(.inr x, .int i), (.inr y, .int j)])) (n : x ≠ y) : Tr G (.ref a) (.dict [(.str x, .int i), (.str y, .int j)]) [a] :=
  .dct h (.cons (f1 := []) (.int i) (.cons (f1 := []) (.int j) .nil)) (by simp) (by simpa using n)
theorem gd_twoB : GD twoB := (gd_one (x := "a") (by decide +kernel) (vok_int 1 (i := 1) (by decide))).put (x := "b") (by decide +kernel) (vok_int 1 (i := 2) (by decide))
theorem gd_twoP : GD twoP := (gd_one (x := "b") (by decide +kernel) (vok_int 1 (i := 2) (by decide))).put (x := "a") (by decide +kernel) (vok_int 1 (i := 1) (by decide))
theorem Dr.same {a : Addr} {H G X : Hp} (d : Dr a H G) (s : Same G X) : Dr a H X := by
  obtain ⟨x, y, x0, y0, e⟩ := d.src
  exact ⟨fun c o n h => s _ _ (d.ot c o n h), x, y, x0, y0, s _ _ e⟩
/-- the mappings made so far, in a list at SL -/
structure Made (Y : Hp) (r SL ba : Addr) (fb : List Addr) (ms : List (Addr × List (PyData × PyData) × List Addr)) : Prop where
  el : Y SL = some (.lst (ms.map fun m => V.ref m.1))
  it : ∀ m ∈ ms, Tr Y (.ref m.1) (.dict m.2.1) m.2.2 ∧ GD m.2.1 ∧ m.1 ∉ fb ∧ ∀ c ∈ m.2.2, c ≠ ba ∧ c ≠ r ∧ c ≠ SL
  pw : ms.Pairwise fun m m' => m'.1 ∉ m.2.2
theorem Made.add {Z W : Hp} {r SL ba : Addr} {fb : List Addr} {ms : List (Addr × List (PyData × PyData) × List Addr)} {B : List (PyData × PyData)} (h : Made Z r SL ba fb ms) (hb : Tr Z (.ref ba) (.dict B) fb) (sr : Src Z r) (d : Dr r Z W) {m : Addr × List (PyData × PyData) × List Addr}
    (tm : Tr W (.ref m.1) (.dict m.2.1) m.2.2) (gm : GD m.2.1) (hf : ∀ c ∈ m.2.2, c ≠ ba ∧ c ≠ r ∧ c ≠ SL) (hn : Z m.1 = none) : Made (upd W SL (.lst ((ms.map fun m => V.ref m.1) ++ [.ref m.1]))) r SL ba fb (ms ++ [m]) := by
  obtain ⟨x, y, _, _, er⟩ := sr
  have rS : SL ≠ r := fun z => by
    have := h.el
    rw [z, er] at this
    cases hm : ms with
    | nil => rw [hm] at this; simp at this
    | cons a b => rw [hm] at this; simp at this
  have eW := d.ot SL _ rS h.el
  have grow : ∀ {v : V} {e : PyData} {fp : List Addr}, Tr W v e fp → (∀ c ∈ fp, c ≠ SL) → Tr (upd W SL (.lst ((ms.map fun m => V.ref m.1) ++ [.ref m.1]))) v e fp := fun t n => t.but (p := SL) (fun xs z => by rw [eW] at z; cases z) (fun c o n z => by rw [upd_ne n]; exact z) fun z => n SL z rfl
  have there : ∀ {v : V} {e : PyData} {fp : List Addr}, Tr Z v e fp → m.1 ∉ fp := fun t z => by
    rcases t.there _ z with ⟨ys, q⟩ | ⟨ys, q⟩ <;> (rw [hn] at q; cases q)
  refine ⟨by rw [upd_same]; simp, fun m' hm' => ?_, ?_⟩
  · rcases List.mem_append.mp hm' with z | z
    · obtain ⟨t, g, nb, nf⟩ := h.it m' z
      exact ⟨grow (t.but (p := r) (fun xs q => by rw [er] at q; cases q) (fun c o n q => d.ot c o n q) fun q => (nf r q).2.1 rfl) fun c hc => (nf c hc).2.2, g, nb, nf⟩
    · rw [List.mem_singleton.mp z]
      exact ⟨grow tm fun c hc => (hf c hc).2.2, gm, there hb, hf⟩
  · refine List.pairwise_append.mpr ⟨h.pw, by simp, fun m1 h1 m2 h2 => ?_⟩
    rw [List.mem_singleton.mp h2]
    exact there (h.it m1 h1).1
section
variable {g : Wd} {f : Addr} {fd : FuncData} {CX : Addr}
theorem sc_law : FnScope ["_law_script", "_law_k", "_law_source_here", "_law_turn", "_law_base", "_law_some", "_law_n", "_law_pairs", "_law_far", "_law_value_here", "_law_first", "_law_near", "_law_pair"] ["_law_script"] (defScope s_law) := ⟨rfl, rfl, rfl, by decide +kernel, rfl, by decide +kernel, by decide +kernel⟩
def sp_law (K : PySem.W.Frag) : Sp := S1 fun v H Q _ => ∃ (a : Addr) (ns : List Int), v = .ref a ∧ SqL K H a (ns.map V.int) ∧ ns.length ≤ 63 ∧ ∀ H', Q (.bl true) H'
theorem ok_law (F : Df g.K "law" "law" s_law f fd .none) (T : Txt g) (F_l_source : Kn g "_law_source" 1 ["_law_script", "_law_k"] [] (sp_source g.K)) (F_l_pick : Kn g "_law_pick" 1 ["_law_source_here", "_law_amount"] [] sp_pick)
    (F_l_mapping : Kn g "_law_mapping" 6 ["_law_source_here", "_law_most"] [] sp_mapping) (F_l_deeds : Kn g "_law_deeds" 6 ["_law_source_here", "_law_most"] [] sp_deeds) (F_l_done : Kn g "_law_done" 1 ["_law_mapping_here", "_law_deeds_here"] [] sp_done)
    (F_l_right : Kn g "_law_right" 16 ["_law_base", "_law_one", "_law_other"] [] sp_right) (F_merged : Kn g "merged" 13 ["base", "one", "other"] [] (sp_merged CX)) : FnG g 17 f fd ["_law_script"] (sp_law g.K) := by
  refine F.ok sc_law (fun vs H Q E h => S1.len h) (fun cdv A outer s H vs Q E hr h => ?_)
  obtain ⟨_, rfl, a, ns, rfl, hl, hn, q⟩ := h
  refine ⟨_, (pss_mid (ps_for psD rfl (pi_range1 rfl T.b_range (pa_cons (pe_callB (call_max2 rfl) (by rfl) T.b_max (by decide +kernel) (pa_cons pe_int (pa_cons (pe_callB (call_min2 rfl) (by rfl) T.b_min (by decide +kernel) (pa_cons (pe_callB (c_len (K := g.K)) (by rfl) T.b_len bb_len (pa_cons (pv 0) pa_nil)) (pa_cons pe_int pa_nil))) pa_nil))) pa_nil)) (pg_name (i := 1) sc_law.nd rfl (.inl rfl)) (pss_cons (ps_set (i := 2) sc_law.nd rfl (Or.inl rfl) (pe_callG F_l_source (hr.mono (by first | decide | omega)) tkD (pa_cons (pv 0) (pa_cons (pv 1) pa_nil))))
      (pss_one (ps_for psD rfl (pi_range1 rfl T.b_range (pa_cons pe_int pa_nil)) (pg_name (i := 3) sc_law.nd rfl (.inl rfl)) (pss_mid (ps_set (i := 4) sc_law.nd rfl (Or.inl rfl) (pe_callG F_l_mapping (hr.mono (by first | decide | omega)) tkD (pa_cons (pv 2) (pa_cons pe_int pa_nil))))
      (pss_mid (ps_set (i := 5) sc_law.nd rfl (Or.inl rfl) (pe_lst pa_nil))
      (pss_mid (ps_for psD rfl (pi_range1 rfl T.b_range (pa_cons pe_int pa_nil)) (pg_name (i := 6) sc_law.nd rfl (.inl rfl)) (pss_mid (ps_set (i := 7) sc_law.nd rfl (Or.inl rfl) (pe_callG F_l_done (hr.mono (by first | decide | omega)) tkD (pa_cons (pv 4) (pa_cons (pe_callG F_l_deeds (hr.mono (by first | decide | omega)) tkD (pa_cons (pv 2) (pa_cons pe_int pa_nil))) pa_nil))))
      (pss_mid (ps_set (i := 8) sc_law.nd rfl (Or.inl rfl) (pe_ifExp (pt_cmpR (o_eq (K := g.K) hr) (pe_callG F_l_pick (hr.mono (by first | decide | omega)) tkD (pa_cons (pv 2) (pa_cons pe_int pa_nil))) pe_int (nomark _)) (pe_callG F_l_mapping (hr.mono (by first | decide | omega)) tkD (pa_cons (pv 2) (pa_cons pe_int pa_nil))) pe_dnewK))
      (pss_one (ps_expr (e_bm (K := g.K) PySem.F.plainAttrs_list PySem.F.slot_list_append PySem.F.type_list_append mt_append (pv 5) (pa_cons (pe_ifExp (pt_cmpR (op_neD0 hr) (pv 8) pe_dnewK (nomark _)) (pv 8) (pe_callTy (call_dictP rfl) (by rfl) T.b_dict bb_dict (pa_cons (pe_lc (own := [("_law_pair", 12)]) (tt := tYes) rfl sc_law.nd (i_list (K := g.K) (pv 7)) (blkOk_by (own := [("_law_pair", 12)]) (N := ["_law_script", "_law_k", "_law_source_here", "_law_turn", "_law_base", "_law_some", "_law_n", "_law_pairs", "_law_far", "_law_value_here", "_law_first", "_law_near", "_law_pair"]) (sc := defScope s_law) (by decide +kernel)) (fun _ _ _ _ _ => (pg_name (i := 12) sc_law.nd rfl (.inl rfl))) (fun _ _ _ _ _ => pts_nil) (fun _ _ _ _ _ => (pe_tup (pa_cons (pe_ix (o_ix (K := g.K)) (pv 12) pe_int (fun _ _ => rfl)) (pa_cons (pe_ix (o_ix (K := g.K)) (pv 12) pe_int (fun _ _ => rfl)) pa_nil))))) pa_nil))) pa_nil)))))))
      (pss_one (ps_if (pt_not (pt_val (pe_callG F_l_right (hr.mono (by first | decide | omega)) tkD (pa_cons (pv 4) (pa_cons (pe_ix (o_ix (K := g.K)) (pv 5) pe_int (fun _ _ => rfl)) (pa_cons (pe_ix (o_ix (K := g.K)) (pv 5) pe_int (fun _ _ => rfl)) pa_nil)))))) (pss_one (ps_ret pe_bl)) pss_nil)))))))))
      (pss_mid (ps_par (i := 9) (j := 10) (by rfl) sc_law.nd rfl rfl (by decide) rfl rfl (pa_cons (pe_disp (pps_cons pe_str (pe_lst (pa_cons pe_int pa_nil)) pps_nil) (by rfl) (by rfl) (fun z => by cases z) (by decide)) (pa_cons (pe_disp (pps_cons pe_str (pe_lst (pa_cons pe_int pa_nil)) pps_nil) (by rfl) (by rfl) (fun z => by cases z) (by decide)) pa_nil)) (by rfl))
      (pss_mid (ps_set (i := 11) sc_law.nd rfl (Or.inl rfl) (pe_callG F_merged (hr.mono (by first | decide | omega)) tkD (pa_cons pe_dnewK (pa_cons (pv 10) (pa_cons (pv 9) pa_nil)))))
      (pss_mid (ps_expr (e_bm (K := g.K) PySem.F.plainAttrs_list PySem.F.slot_list_append PySem.F.type_list_append mt_append (pe_dget (hu_of hr.room) (pv 9) pe_str (fun _ _ => rfl)) (pa_cons pe_int pa_nil)))
      (pss_mid (ps_expr (e_bm (K := g.K) PySem.F.plainAttrs_list PySem.F.slot_list_append PySem.F.type_list_append mt_append (pe_dget (hu_of hr.room) (pv 10) pe_str (fun _ _ => rfl)) (pa_cons pe_int pa_nil)))
      (pss_mid (ps_if (pt_cmpR (op_neDL (K := g.K) hr) (pv 11) (pe_disp (pps_cons pe_str (pe_lst (pa_cons pe_int pa_nil)) (pps_cons pe_str (pe_lst (pa_cons pe_int pa_nil)) pps_nil)) (by rfl) (by rfl) (fun z => by cases z) (by decide)) (nomark _)) (pss_one (ps_ret pe_bl)) pss_nil)
      (pss_mid (ps_expr (e_bm (K := g.K) PySem.F.plainAttrs_list PySem.F.slot_list_append PySem.F.type_list_append mt_append (pe_dget (hu_of hr.room) (pv 11) pe_str (fun _ _ => rfl)) (pa_cons pe_int pa_nil)))
      (pss_mid (ps_if (PW.pt (pw_or (pt_cmpR (op_neDL (K := g.K) hr) (pv 10) (pe_disp (pps_cons pe_str (pe_lst (pa_cons pe_int (pa_cons pe_int pa_nil))) pps_nil) (by rfl) (by rfl) (fun z => by cases z) (by decide)) (nomark _)) (pw_or1 (pt_cmpR (op_neDL (K := g.K) hr) (pv 9) (pe_disp (pps_cons pe_str (pe_lst (pa_cons pe_int (pa_cons pe_int pa_nil))) pps_nil) (by rfl) (by rfl) (fun z => by cases z) (by decide)) (nomark _))))) (pss_one (ps_ret pe_bl)) pss_nil)
      (pss_one (ps_ret (pe_cmpR (o_eq (K := g.K) hr) (pe_callTy (call_listD rfl) (by rfl) T.b_list bb_list (pa_cons (pe_callG F_merged (hr.mono (by first | decide | omega)) tkD (pa_cons (pe_disp (pps_cons pe_str pe_int (pps_cons pe_str pe_int pps_nil)) (by rfl) (by rfl) (fun z => by cases z) (by decide)) (pa_cons (pe_disp (pps_cons pe_str pe_int (pps_cons pe_str pe_int pps_nil)) (by rfl) (by rfl) (fun z => by cases z) (by decide)) (pa_cons (pe_disp (pps_cons pe_str pe_int (pps_cons pe_str pe_int pps_nil)) (by rfl) (by rfl) (fun z => by cases z) (by decide)) pa_nil)))) pa_nil)) (pe_lst (pa_cons pe_str (pa_cons pe_str pa_nil))) (nomark _)))))))))))), ?_⟩
  refine mid_at (fun σ G => ∃ v1 v2 v3 v4 v5 v6 v7 v8, σ = [some (.ref a), v1, v2, v3, v4, v5, v6, v7, v8, none, none, none, none]) ?_ ?_
  rotate_left
  · rintro _ G ⟨v1, v2, v3, v4, v5, v6, v7, v8, rfl⟩
    refine mid_at (fun σ X => ∃ va fa la lb, σ = [some (.ref a), v1, v2, v3, v4, v5, v6, v7, v8, some (.ref va), some (.ref fa), none, none] ∧ X va = some (.dK [(.inr "a", .ref la)]) ∧ X fa = some (.dK [(.inr "b", .ref lb)]) ∧ X la = some (.lst [.int 1]) ∧ X lb = some (.lst [.int 1]) ∧ la ≠ lb) ?_ ?_
    · walk_at "sx"
      intro va h1 la h2
      have m1 : la ≠ va := fun z => by rw [z, upd_same] at h2; cases h2
      refine ⟨by rw [upd_ne m1.symm]; exact upd_same, [(.inr "a", .ref la)], rfl, by simp, ?_⟩
      have eV : upd (upd (upd G va (.dK [])) la (.lst [.int 1])) va (.dK (mergeK [] [(.inr "a", .ref la)])) va = some (.dK [(.inr "a", .ref la)]) := upd_same
      have eLa : upd (upd (upd G va (.dK [])) la (.lst [.int 1])) va (.dK (mergeK [] [(.inr "a", .ref la)])) la = some (.lst [.int 1]) := by rw [upd_ne m1]; exact upd_same
      generalize upd (upd (upd G va (.dK [])) la (.lst [.int 1])) va (.dK (mergeK [] [(.inr "a", .ref la)])) = X1 at eV eLa ⊢
      intro fa h3 lb h4
      have m2 : lb ≠ fa := fun z => by rw [z, upd_same] at h4; cases h4
      have h5 : X1 lb = none := by rw [upd_ne m2] at h4; exact h4
      have c1 : ∀ {c : Addr} {o : HO}, X1 c = some o → upd (upd (upd X1 fa (.dK [])) lb (.lst [.int 1])) fa (.dK (mergeK [] [(.inr "b", .ref lb)])) c = some o := fun {c o} e => by
        have k1 : c ≠ fa := fun z => by rw [z, h3] at e; cases e
        have k2 : c ≠ lb := fun z => by rw [z, h5] at e; cases e
        rw [upd_ne k1, upd_ne k2, upd_ne k1]; exact e
      refine ⟨by rw [upd_ne m2.symm]; exact upd_same, [(.inr "b", .ref lb)], rfl, by simp, ?_⟩
      exact ⟨la, c1 eV, lb, rfl, c1 eLa, by rw [upd_ne m2]; exact upd_same, fun z => by rw [← z, eLa] at h5; cases h5⟩
    rintro _ X ⟨va, fa, la, lb, rfl, e1, e2, e3, e4, n1⟩
    refine mid_at (fun σ Y => ∃ nr b1 b2, σ = [some (.ref a), v1, v2, v3, v4, v5, v6, v7, v8, some (.ref va), some (.ref fa), some (.ref nr), none] ∧ Same X Y ∧ Y nr = some (.dK [(.inr "b", .ref b1), (.inr "a", .ref b2)]) ∧ Y b1 = some (.lst [.int 1]) ∧ Y b2 = some (.lst [.int 1]) ∧ X b1 = none ∧ X b2 = none) ?_ ?_
    · walk_at "sx"
      intro e he
      have se := same_upd (o := HO.dK []) he
      have ee : upd X e (.dK []) e = some (.dK []) := upd_same
      generalize upd X e (.dK []) = X1 at se ee ⊢
      have gO : GD (oneD "b") := gd_one (by decide +kernel) vok_one
      have gP : GD (oneD "a") := gd_one (by decide +kernel) vok_one
      have ne : ∀ {c : Addr} {o : HO}, X c = some o → c ≠ e := fun {c o} h z => by rw [z, he] at h; cases h
      refine ⟨_, _, _, rfl, [], oneD "b", oneD "a", [e], _, _, gd_nil.map (.dct ee .nil (by simp) (by simp)), gO.map (tr_one (se _ _ e2) (se _ _ e4)), gP.map (tr_one (se _ _ e1) (se _ _ e3)), by decide, fun c z => .inr ?_, fun c z => .inr ?_, fun ys pz sz => ⟨fun c r G2 fr sG tr nf => ?_, fun c => absurd (noC_one ys) c⟩⟩
      · cases z
        simpa using (ne e1)
      · cases z
        have d1 : va ≠ fa := fun z => by
          rw [z, e2] at e1
          have := HO.dK.inj (Option.some.inj e1)
          simp at this
          exact absurd this.1 (by decide +kernel)
        have d2 : va ≠ lb := fun z => by rw [z, e4] at e1; cases e1
        simpa using ⟨d1, d2⟩
      · rw [merge_one] at tr
        obtain ⟨b1, b2, f1, f2, f3, f4, f5⟩ := inv_two tr
        have old : ∀ {c}, c ∈ fr → X c = none := fun {c} hc => by
          cases q : X c with
          | none => rfl
          | some o => have := se _ _ q; rw [nf c hc] at this; cases this
        exact ⟨r, rfl, se.trans sG, b1, b2, f1, f2, f3, old f4, old f5⟩
    rintro _ Y ⟨nr, b1, b2, rfl, sY, e5, e6, e7, n2, n3⟩
    have f1 := sY _ _ e1
    have f2 := sY _ _ e2
    have f3 := sY _ _ e3
    have f4 := sY _ _ e4
    have d1 : ∀ {c : Addr} {o : HO}, X c = some o → b1 ≠ c ∧ b2 ≠ c := fun h => ⟨fun z => (by rw [← z, n2] at h; cases h), fun z => (by rw [← z, n3] at h; cases h)⟩
    refine mid_at (fun σ Z => σ = [some (.ref a), v1, v2, v3, v4, v5, v6, v7, v8, some (.ref va), some (.ref fa), some (.ref nr), none] ∧ Z = upd Y la (.lst [.int 1, .int 2])) ?_ ?_
    · walk_at "sx"
      exact ⟨.ref la, dget_hd f1, ty_lst f3, la, rfl, _, f3, by decide, rfl⟩
    rintro _ Z ⟨rfl, eZ⟩
    have kZ : ∀ {c : Addr} {o : HO}, c ≠ la → Y c = some o → Z c = some o := fun {c o} n h => by rw [eZ, upd_ne n]; exact h
    have ne1 : ∀ {c : Addr} {kvs : List (Key × V)}, Y c = some (.dK kvs) → c ≠ la ∧ c ≠ lb ∧ c ≠ b1 := fun {c kvs} h => ⟨fun z => (by rw [z, f3] at h; cases h), fun z => (by rw [z, f4] at h; cases h), fun z => (by rw [z, e6] at h; cases h)⟩
    have g1 := kZ (ne1 f1).1 f1
    have g2 := kZ (ne1 f2).1 f2
    have g3 : Z la = some (.lst [.int 1, .int 2]) := by rw [eZ]; exact upd_same
    have g4 := kZ n1.symm f4
    have g5 := kZ (ne1 e5).1 e5
    have g6 := kZ (d1 e3).1 e6
    have g7 := kZ (d1 e3).2 e7
    refine mid_at (fun σ W => σ = [some (.ref a), v1, v2, v3, v4, v5, v6, v7, v8, some (.ref va), some (.ref fa), some (.ref nr), none] ∧ W = upd Z lb (.lst [.int 1, .int 2])) ?_ ?_
    · walk_at "sx"
      exact ⟨.ref lb, dget_hd g2, ty_lst g4, lb, rfl, _, g4, by decide, rfl⟩
    rintro _ W ⟨rfl, eW⟩
    have kW : ∀ {c : Addr} {o : HO}, c ≠ lb → Z c = some o → W c = some o := fun {c o} n h => by rw [eW, upd_ne n]; exact h
    have h1 := kW (ne1 f1).2.1 g1
    have h2 := kW (ne1 f2).2.1 g2
    have h3 := kW n1 g3
    have h4 : W lb = some (.lst [.int 1, .int 2]) := by rw [eW]; exact upd_same
    have h5 := kW (ne1 e5).2.1 g5
    have h6 := kW (d1 e4).1 g6
    have h7 := kW (d1 e4).2 g7
    refine mid_at (fun σ U => σ = [some (.ref a), v1, v2, v3, v4, v5, v6, v7, v8, some (.ref va), some (.ref fa), some (.ref nr), none] ∧ Same W U) ?_ ?_
    · walk_at "sx"
      intro p hp p1 hp1 p2 hp2
      have c1 : p1 ≠ p := fun z => by rw [z, upd_same] at hp1; cases hp1
      have c2 : p2 ≠ p1 := fun z => by rw [z, upd_same] at hp2; cases hp2
      have c3 : p2 ≠ p := fun z => by rw [z, upd_ne c1.symm, upd_same] at hp2; cases hp2
      have w1 : W p1 = none := by rw [upd_ne c1] at hp1; exact hp1
      have w2 : W p2 = none := by rw [upd_ne c2, upd_ne c3] at hp2; exact hp2
      refine ⟨by rw [upd_ne c3.symm, upd_ne c1.symm]; exact upd_same, [(.inr "b", .ref p1), (.inr "a", .ref p2)], rfl, by simp, ?_⟩
      rw [merge_ba]
      have kp : ∀ {c : Addr} {o : HO}, W c = some o → upd (upd (upd (upd W p (.dK [])) p1 (.lst [.int 1])) p2 (.lst [.int 1])) p (.dK [(.inr "b", .ref p1), (.inr "a", .ref p2)]) c = some o := fun {c o} h => by
        have k1 : c ≠ p := fun z => by rw [z, hp] at h; cases h
        have k2 : c ≠ p1 := fun z => by rw [z, w1] at h; cases h
        have k3 : c ≠ p2 := fun z => by rw [z, w2] at h; cases h
        rw [upd_ne k1, upd_ne k3, upd_ne k2, upd_ne k1]; exact h
      refine neDL_of (kp h5) upd_same rfl (fun q hq => ?_) ⟨_, rfl, ?_⟩
      · simp only [List.mem_cons, List.not_mem_nil, or_false] at hq
        rcases hq with rfl | rfl
        · exact ⟨b1, p1, [1], rfl, by rw [vv_cons, if_pos rfl], kp h6, by rw [upd_ne c1, upd_ne c2.symm]; exact upd_same⟩
        · exact ⟨b2, p2, [1], rfl, val_ba _ _, kp h7, by rw [upd_ne c3]; exact upd_same⟩
      · rw [if_neg (by simp)]
        exact fun c o h => kp h
    rintro _ U ⟨rfl, sU⟩
    refine mid_at (fun σ R => σ = [some (.ref a), v1, v2, v3, v4, v5, v6, v7, v8, some (.ref va), some (.ref fa), some (.ref nr), none] ∧ R = upd U b1 (.lst [.int 1, .int 3])) ?_ ?_
    · walk_at "sx"
      exact ⟨.ref b1, dget_hd (sU _ _ h5), ty_lst (sU _ _ h6), b1, rfl, _, sU _ _ h6, by decide, rfl⟩
    rintro _ R ⟨rfl, eR⟩
    have kR : ∀ {c : Addr} {o : HO}, c ≠ b1 → W c = some o → R c = some o := fun {c o} n h => by rw [eR, upd_ne n]; exact sU _ _ h
    have i1 := kR (ne1 f1).2.2 h1
    have i2 := kR (ne1 f2).2.2 h2
    have i3 := kR (fun z => (d1 e3).1 z.symm) h3
    have i4 := kR (fun z => (d1 e4).1 z.symm) h4
    refine mid_at (fun σ _ => σ = [some (.ref a), v1, v2, v3, v4, v5, v6, v7, v8, some (.ref va), some (.ref fa), some (.ref nr), none]) ?_ ?_
    · walk_at "sx"
      have one : ∀ {M : Hp} {c l p p1 : Addr} {x : Str} {K2 : VK}, M c = some (.dK [(.inr x, .ref l)]) → M l = some (.lst [.int 1, .int 2]) → M p = none → upd M p (.dK []) p1 = none → K2 (.bl false) (upd (upd (upd M p (.dK [])) p1 (.lst [.int 1, .int 2])) p (.dK [(.inr x, .ref p1)])) →
          upd (upd M p (.dK [])) p1 (.lst [.int 1, .int 2]) p = some (.dK []) ∧ Same M (upd (upd (upd M p (.dK [])) p1 (.lst [.int 1, .int 2])) p (.dK [(.inr x, .ref p1)])) ∧ rNeDL g.K (.ref c) (.ref p) (upd (upd (upd M p (.dK [])) p1 (.lst [.int 1, .int 2])) p (.dK (mergeK [] [(.inr x, .ref p1)]))) K2 := by
        intro M c l p p1 x K2 hc hl hp hp1 q2
        have c1 : p1 ≠ p := fun z => by rw [z, upd_same] at hp1; cases hp1
        have w1 : M p1 = none := by rw [upd_ne c1] at hp1; exact hp1
        have kp : ∀ (c : Addr) (o : HO), M c = some o → upd (upd (upd M p (.dK [])) p1 (.lst [.int 1, .int 2])) p (.dK [(.inr x, .ref p1)]) c = some o := fun c o h => by
          have k1 : c ≠ p := fun z => by rw [z, hp] at h; cases h
          have k2 : c ≠ p1 := fun z => by rw [z, w1] at h; cases h
          rw [upd_ne k1, upd_ne k2, upd_ne k1]; exact h
        refine ⟨by rw [upd_ne c1.symm]; exact upd_same, kp, ?_⟩
        refine neDL_of (kp _ _ hc) upd_same rfl (fun q hq => ?_) q2
        rw [List.mem_singleton.mp hq]
        exact ⟨l, p1, [1, 2], rfl, by show valV [((.inr x : Key), V.ref p1)] (.inr x) = _; rw [vv_cons, if_pos rfl], kp _ _ hl, by rw [upd_ne c1]; exact upd_same⟩
      intro p hp p1 hp1
      refine ⟨(one (K2 := fun _ _ => True) i2 i4 hp hp1 True.intro).1, [(.inr "b", .ref p1)], rfl, by simp, (one i2 i4 hp hp1 ⟨_, rfl, ?_⟩).2.2⟩
      rw [if_neg (by simp)]
      have sR : Same R (upd (upd (upd R p (.dK [])) p1 (.lst [.int 1, .int 2])) p (.dK [(.inr "b", .ref p1)])) := (one (K2 := fun _ _ => True) i2 i4 hp hp1 True.intro).2.1
      generalize upd (upd (upd R p (.dK [])) p1 (.lst [.int 1, .int 2])) p (.dK [(.inr "b", .ref p1)]) = R2 at sR ⊢
      intro p hp p2 hp2
      obtain ⟨j1, j2, j3⟩ := one (K2 := fun x H' => ∃ k, x = V.bl k ∧ if k = true then Q (V.bl false) H' else True) (sR _ _ i1) (sR _ _ i3) hp hp2 ⟨_, rfl, by rw [if_neg (by simp)]; exact True.intro⟩
      exact ⟨j1, [(.inr "a", .ref p2)], rfl, by simp, j3⟩
    rintro _ V1 rfl
    walk_at "sx"
    intro p hp
    refine ⟨[(.inr "a", .int 1), (.inr "b", .int 2)], rfl, by simp, ?_⟩
    rw [merge_ab]
    have s1 : Same V1 (upd (upd V1 p (.dK [])) p (.dK [(.inr "a", .int 1), (.inr "b", .int 2)])) := fun c o h => by
      have k1 : c ≠ p := fun z => by rw [z, hp] at h; cases h
      rw [upd_ne k1, upd_ne k1]; exact h
    have w1 : upd (upd V1 p (.dK [])) p (.dK [(.inr "a", .int 1), (.inr "b", .int 2)]) p = some (.dK [(.inr "a", .int 1), (.inr "b", .int 2)]) := upd_same
    generalize upd (upd V1 p (.dK [])) p (.dK [(.inr "a", .int 1), (.inr "b", .int 2)]) = V2 at s1 w1 ⊢
    intro p2 hp2
    refine ⟨[(.inr "a", .int 1), (.inr "b", .int 2)], rfl, by simp, ?_⟩
    rw [merge_ab]
    have s2 : Same V2 (upd (upd V2 p2 (.dK [])) p2 (.dK [(.inr "a", .int 1), (.inr "b", .int 2)])) := fun c o h => by
      have k1 : c ≠ p2 := fun z => by rw [z, hp2] at h; cases h
      rw [upd_ne k1, upd_ne k1]; exact h
    have w2 : upd (upd V2 p2 (.dK [])) p2 (.dK [(.inr "a", .int 1), (.inr "b", .int 2)]) p2 = some (.dK [(.inr "a", .int 1), (.inr "b", .int 2)]) := upd_same
    generalize upd (upd V2 p2 (.dK [])) p2 (.dK [(.inr "a", .int 1), (.inr "b", .int 2)]) = V3 at s2 w2 ⊢
    intro p3 hp3
    refine ⟨[(.inr "b", .int 2), (.inr "a", .int 1)], rfl, by simp, ?_⟩
    rw [merge_ba]
    have s3 : Same V3 (upd (upd V3 p3 (.dK [])) p3 (.dK [(.inr "b", .int 2), (.inr "a", .int 1)])) := fun c o h => by
      have k1 : c ≠ p3 := fun z => by rw [z, hp3] at h; cases h
      rw [upd_ne k1, upd_ne k1]; exact h
    have w3 : upd (upd V3 p3 (.dK [])) p3 (.dK [(.inr "b", .int 2), (.inr "a", .int 1)]) p3 = some (.dK [(.inr "b", .int 2), (.inr "a", .int 1)]) := upd_same
    have q1 : p3 ≠ p := fun z => by rw [z, s2 _ _ w1] at hp3; cases hp3
    have q2 : p3 ≠ p2 := fun z => by rw [z, w2] at hp3; cases hp3
    have w2' := s3 _ _ w2
    have w1' := s3 _ _ (s2 _ _ w1)
    generalize upd (upd V3 p3 (.dK [])) p3 (.dK [(.inr "b", .int 2), (.inr "a", .int 1)]) = V4 at s3 w3 w2' w1' ⊢
    refine ⟨_, _, _, rfl, twoB, twoB, twoP, [p], [p2], [p3], gd_twoB.map (tr_two w1' (by decide +kernel)), gd_twoB.map (tr_two w2' (by decide +kernel)), gd_twoP.map (tr_two w3 (by decide +kernel)), by decide, fun c z => .inr (by cases z; simpa using q1), fun c z => .inr (by cases z; simpa using q2), fun ys pz sz => ⟨fun c r G2 fr sG tr nf => ?_, fun c => absurd (noC_bp twoB twoP ys) c⟩⟩
    rw [merge_two] at tr
    obtain ⟨r2, kvs, f1, er, eG, tD, _, _⟩ := tr_dict tr
    cases er
    refine ⟨r, rfl, kvs, .inl eG, fun l hl l2 hl2 => ?_⟩
    rw [keys_list (trD_keys tD)] at hl2 ⊢
    have ll : l2 ≠ l := fun z => by rw [z, upd_same] at hl2; cases hl2
    refine ⟨.list ((keysOf twoB).map PyData.str), .list ((keysOf twoB).map PyData.str), .lst (SqL.of (by rw [upd_ne ll.symm]; exact upd_same)) (dp_txt _), .lst (SqL.of upd_same) (dp_txt (keysOf twoB)), shaped_txt (keysOf_len2 gd_twoB.key).2, shaped_txt (keysOf_len2 gd_twoB.key).2, ?_⟩
    have e : PyData.eqv (.list ((keysOf twoB).map PyData.str)) (.list ((keysOf twoB).map PyData.str)) = true := by simp only [PyData.eqv]; exact eqv_txt _
    rw [e]
    exact q _
  walk_at "sx"
  refine .inl ⟨_, .inl hl, ?_⟩
  rw [List.length_map]
  refine ⟨by split <;> (try split) <;> omega, by split <;> (try split) <;> omega, ?_⟩
  refine for_by _ (fun i σ X => (∃ v1 v2 v3 v4 v5 v6 v7 v8, σ = [some (.ref a), v1, v2, v3, v4, v5, v6, v7, v8, none, none, none, none]) ∧ Same H X) ⟨⟨_, _, _, _, _, _, _, _, rfl⟩, Same.refl _⟩ (fun i σ X lt P => lt) (fun σ X P => Nat.le_refl _) (fun i σ X z X' lt P yl => ?_) (fun σ X P => P.1)
  obtain ⟨⟨v1, v2, v3, v4, v5, v6, v7, v8, rfl⟩, sX⟩ := P
  obtain ⟨rfl, rfl⟩ := yl
  walk_at "sx"
  refine ⟨_, _, rfl, a, _, i, rfl, sq_same hl sX, fun v hv => ?_, by congr 1; omega, fun r X1 s1 hr hsrc => ?_⟩
  · obtain ⟨n, _, e⟩ := List.mem_map.mp hv
    exact ⟨n, e.symm⟩
  have sX1 := sX.trans s1
  have rH : H r = none := by
    cases e : H r with
    | none => rfl
    | some o => have := sX _ _ e; rw [hr] at this; cases this
  refine ⟨by decide, by decide, ?_⟩
  refine for_by 4 (fun j σ Y => (∃ v3 v4 v5 v6 v7 v8, σ = [some (.ref a), some (.int (0 + (i : Nat))), some (.ref r), v3, v4, v5, v6, v7, v8, none, none, none, none]) ∧ Dr r X1 Y) ⟨⟨_, _, _, _, _, _, rfl⟩, Dr.refl hsrc⟩ (fun j σ Y lt P => by exact lt) (fun σ Y P => by exact Nat.le_refl _) (fun j σ Y z Y' lt P yl => ?_) (fun σ Y P => ?_)
  rotate_left
  · obtain ⟨⟨v3, v4, v5, v6, v7, v8, rfl⟩, dY⟩ := P
    exact ⟨⟨_, _, _, _, _, _, _, _, rfl⟩, fun c o e => dY.ot c o (fun z => by rw [z, rH] at e; cases e) (sX1 _ _ e)⟩
  obtain ⟨⟨v3, v4, v5, v6, v7, v8, rfl⟩, dY⟩ := P
  obtain ⟨rfl, rfl⟩ := yl
  refine mid_at (fun σ G => ∃ ba B fb, σ = [some (.ref a), some (.int (0 + (i : Nat))), some (.ref r), some (.int (0 + (j : Nat))), some (.ref ba), v5, v6, v7, v8, none, none, none, none] ∧ Dr r Y' G ∧ Tr G (.ref ba) (.dict B) fb ∧ (∀ c ∈ fb, Y' c = none) ∧ GD B) ?_ ?_
  · walk_at "sx"
    exact ⟨_, _, rfl, r, 5, rfl, dY.src, rfl, by decide, fun ba B fb G dG tB nf gB _ => ⟨ba, rfl, dG, B, fb, tB, nf, gB⟩⟩
  rintro _ Y2 ⟨ba, B, fb, rfl, d2, tB, nfb, gB⟩
  have rfb : r ∉ fb := dY.no nfb
  refine mid_at (fun σ G => ∃ SL, σ = [some (.ref a), some (.int (0 + (i : Nat))), some (.ref r), some (.int (0 + (j : Nat))), some (.ref ba), some (.ref SL), v6, v7, v8, none, none, none, none] ∧ Y2 SL = none ∧ G = upd Y2 SL (.lst [])) ?_ ?_
  · walk_at "sx"
    intro SL hS
    first | exact hS | (simp; exact hS) | simp [hS]
  rintro _ Y3 ⟨SL, rfl, hS, eY3⟩
  have fbS : ∀ c ∈ fb, c ≠ SL := fun c hc z => by
    rcases tB.there c hc with ⟨ys, q⟩ | ⟨ys, q⟩ <;> (rw [z, hS] at q; cases q)
  have dSL : Dr r Y2 Y3 := by rw [eY3]; exact (Dr.refl d2.src).laid hS
  have SLr : SL ≠ r := (d2.fresh hS).2
  have baf : ba ∈ fb := by obtain ⟨_, _, _, e, _, _, _, q⟩ := tr_dict tB; cases e; rw [q]; exact List.mem_cons_self ..
  refine mid_at (fun σ G => ∃ v6 v7 v8 ms, σ = [some (.ref a), some (.int (0 + (i : Nat))), some (.ref r), some (.int (0 + (j : Nat))), some (.ref ba), some (.ref SL), v6, v7, v8, none, none, none, none] ∧ Dr r Y2 G ∧ Made G r SL ba fb ms ∧ ms.length = 2) ?_ ?_
  rotate_left
  · rintro _ G ⟨v6, v7, v8, ms, rfl, dG, md, l2⟩
    obtain ⟨m1, m2, rfl⟩ : ∃ m1 m2, ms = [m1, m2] := by
      match ms, l2 with
      | [m1, m2], _ => exact ⟨m1, m2, rfl⟩
    have t1 := md.it m1 (by simp)
    have t2 := md.it m2 (by simp)
    have pw := List.rel_of_pairwise_cons md.pw (a' := m2) (by simp)
    walk_at "sx"
    refine ⟨_, .inl (SqL.of md.el), .ref m1.1, rfl, _, .inl (SqL.of md.el), .ref m2.1, rfl, ?_⟩
    refine ⟨.ref ba, .ref m1.1, .ref m2.1, rfl, B, m1.2.1, m2.2.1, fb, m1.2.2, m2.2.2, d2.tr dG tB rfb, t1.1, t2.1, gB, t1.2.1, t2.2.1, fun c e => ?_, fun c e => ?_, fun c e => ?_, fun G2 s2 => ⟨_, rfl, ?_⟩⟩
    · cases e; exact ⟨t2.2.2.1, pw⟩
    · cases e; exact fun z => (t1.2.2.2 _ z).1 rfl
    · cases e; exact t1.2.2.1
    · rw [if_neg (by simp)]
      refine ⟨?_, (dY.trans d2).trans (dG.same s2)⟩
      first | exact ⟨_, _, _, _, _, _, rfl⟩ | simp
  walk_at "sx"
  refine ⟨by decide, by decide, ?_⟩
  refine for_by 2 (fun n σ Z => (∃ v6 v7 v8, σ = [some (.ref a), some (.int (0 + (i : Nat))), some (.ref r), some (.int (0 + (j : Nat))), some (.ref ba), some (.ref SL), v6, v7, v8, none, none, none, none]) ∧ Dr r Y2 Z ∧ ∃ ms, Made Z r SL ba fb ms ∧ ms.length = n) ⟨⟨_, _, _, rfl⟩, dSL, [], ⟨by rw [eY3]; exact upd_same, by simp, by simp⟩, rfl⟩ (fun n σ Z lt P => by exact lt) (fun σ Z P => by exact Nat.le_refl _) (fun n σ Z z Z' lt P yl => ?_) (fun σ Z P => ?_)
  rotate_left
  · obtain ⟨⟨v6, v7, v8, rfl⟩, dZ, ms, md, l2⟩ := P
    exact ⟨_, _, _, rfl, dZ, ms, md, l2⟩
  obtain ⟨⟨v6, v7, v8, rfl⟩, dZ, ms, md, rfl⟩ := P
  obtain ⟨rfl, rfl⟩ := yl
  have tBZ := d2.tr dZ tB rfb
  have eSL := md.el
  refine mid_at (fun σ G => ∃ r2 kvs fr D, σ = [some (.ref a), some (.int (0 + (i : Nat))), some (.ref r), some (.int (0 + (j : Nat))), some (.ref ba), some (.ref SL), some (.int (0 + (ms.length : Nat))), some (.ref r2), v8, none, none, none, none] ∧ Dr r Z' G ∧ PrsAt Z' G r2 kvs ∧ TrD G kvs D fr ∧ GD D ∧ (∀ c ∈ fr, c ≠ ba ∧ c ≠ r ∧ c ≠ SL) ∧ (kvs.map (·.1)).Nodup) ?_ ?_
  · walk_at "sx"
    refine ⟨_, _, rfl, r, 3, rfl, dZ.src, rfl, by decide, fun dl vs dds G1 dG1 nl el pd wd ld => ?_⟩
    have pres : ∀ {c : Addr} {o : HO}, Z' c = some o → ∀ {e : Addr}, Z' e = none → e ≠ c := fun {c o} h {e} n z => by rw [z, h] at n; cases n
    have tBG := dZ.tr dG1 tBZ rfb
    have lB := gB.len
    obtain ⟨kb, fb2, eB, _⟩ : ∃ kb fb2, Z' ba = some (.dK kb) ∧ fb2 = fb := by
      obtain ⟨_, kb, f2, e, h2, _⟩ := tr_dict tBZ
      cases e
      exact ⟨kb, fb, h2, rfl⟩
    obtain ⟨_, _, _, _, eR⟩ := dZ.src
    refine ⟨_, _, rfl, B, fb, dl, vs, dds, fun c => c ≠ ba ∧ c ≠ r ∧ c ≠ SL, tBG, fun c hc n => ⟨fun z => n (by rw [z]), fun z => rfb (z ▸ hc), fbS c hc⟩, rfl, el, paired_imp (fun _ _ z => z.imp fun c n => ⟨pres eB n, pres eR n, pres eSL n⟩) pd, by omega, fun r2 kvs fr G sG pG tG nN ndG _ => ?_⟩
    have dZG := dG1.same sG
    have old : ∀ {c : Addr}, G1 c = none → Z' c = none := fun n => (dG1.fresh n).1
    obtain ⟨⟨ps, e1, e2⟩, e3⟩ := pG
    exact ⟨r2, rfl, dZG, kvs, ⟨⟨ps, e1, paired_imp (fun _ _ z => ⟨z.1, old z.2.1, z.2.2⟩) e2⟩, old e3⟩, fr, apDs B dds, tG.same sG, gB.aps wd, nN, ndG⟩
  rintro _ G ⟨r2, kvs, fr, D, rfl, dG, pG, tG, gD, nN, ndG⟩
  have oldG : ∀ {c : Addr}, G c = none → Z' c = none := fun n => (dG.fresh n).1
  have eSLG := dG.ot SL _ SLr eSL
  refine mid_at (fun σ W => ∃ fa F ff, σ = [some (.ref a), some (.int (0 + (i : Nat))), some (.ref r), some (.int (0 + (j : Nat))), some (.ref ba), some (.ref SL), some (.int (0 + (ms.length : Nat))), some (.ref r2), some (.ref fa), none, none, none, none] ∧ Dr r G W ∧ Tr W (.ref fa) (.dict F) ff ∧ (∀ c ∈ ff, G c = none) ∧ GD F) ?_ ?_
  · walk_at "sx"
    refine ⟨_, _, rfl, r, 4, rfl, dG.src, rfl, by decide, by decide, fun x y c x0 y0 c0 c1 => ?_⟩
    have dP : Dr r G (upd G r (.lst [.int x, .int y])) := .pick x0 y0
    generalize upd G r (.lst [.int x, .int y]) = G1 at dP ⊢
    dsimp only
    rw [RS.eq_ii]
    refine ⟨_, rfl, ?_⟩
    by_cases e : c = 0
    · rw [if_pos (by simp [e])]
      refine ⟨_, _, rfl, r, 5, rfl, dP.src, rfl, by decide, fun fa F ff W dW tF nf gF _ => ⟨fa, rfl, dP.trans dW, F, ff, tF, fun c hc => (dP.fresh (nf c hc)).1, gF⟩⟩
    · rw [if_neg (by simp [e])]
      intro fa hfa
      exact ⟨dP.laid hfa, [], [fa], .dct upd_same .nil (by simp) (by simp), fun c hc => by rw [List.mem_singleton.mp hc]; exact (dP.fresh hfa).1, gd_nil⟩
  rintro _ W ⟨fa, F, ff, rfl, dW, tF, nff, gF⟩
  have dZW := dG.trans dW
  have eSLW := dW.ot SL _ SLr eSLG
  walk_at "sx"
  refine ⟨⟨_, SqL.of eSLW⟩, fun e he => ?_⟩
  obtain ⟨fa', kf, f2, ef, eF, tFD, ndF, eff⟩ := tr_dict tF
  cases ef
  have se := same_upd (o := HO.dK []) he
  have oldW : ∀ {c : Addr}, G c = none → c ≠ ba ∧ c ≠ r ∧ c ≠ SL := fun {c} n => by
    have n2 := oldG n
    obtain ⟨_, _, _, _, eR⟩ := dZ.src
    obtain ⟨_, kb, _, e1, e2, _⟩ := tr_dict tBZ
    cases e1
    exact ⟨fun z => (by rw [z, e2] at n2; cases n2), fun z => (by rw [z, eR] at n2; cases n2), fun z => (by rw [z, eSL] at n2; cases n2)⟩
  have eSLe := se _ _ eSLW
  have dZe : Dr r Z' (upd W e (.dK [])) := dZW.laid he
  have eFe := se _ _ eF
  have tFe := tF.same se
  generalize upd W e (.dK []) = We at se eSLe dZe eFe tFe ⊢
  have dWe : Dr r G We := dW.same se
  refine ⟨kf, eFe, ?_⟩
  by_cases c : kf = []
  · rw [if_neg (by simp [c])]
    obtain ⟨⟨ps, e1, e2⟩, e3⟩ := pG
    have ner : ∀ {c : Addr}, Z' c = none → c ≠ r := fun {c} n z => by
      obtain ⟨_, _, _, _, eR⟩ := dZ.src
      rw [z, eR] at n; cases n
    have e1' := dWe.ot r2 _ (ner e3) e1
    have e2' : Paired (fun (p : Addr) (kv : Key × V) => We p = some (.lst [kV kv.1, kv.2]) ∧ Z' p = none ∧ p ≠ r2) ps kvs := paired_imp (fun _ _ z => ⟨dWe.ot _ _ (ner z.2.1) z.1, z.2⟩) e2
    have tG' : TrD We kvs D fr := dG.trD dWe tG fun z => (nN r z).2.1 rfl
    have lp := paired_len e2
    have lk := tG.len
    have lD := gD.len
    refine ⟨⟨_, SqL.of e1'⟩, ?_⟩
    refine lc_invA ps.length (fun A i acc X => Same We X ∧ ∃ qs, acc = qs.map V.ref ∧ Paired (fun (p : Addr) (kv : Key × V) => X p = some (.tup [kV kv.1, kv.2]) ∧ p ≠ A) qs (kvs.take i)) (by rw [sizeLine_eq]; omega) (fun A hA => ⟨same_upd hA, [], rfl, .nil⟩) (fun A i acc X hA lt P => ⟨_, .ref ps[i], SqL.of (P.1 _ _ e1'), by simp [lt]⟩) (fun A acc X hA P => ⟨_, SqL.of (P.1 _ _ e1'), by simp⟩) (fun A i acc X x X' K hA lt la P eA yl k => ?_) (fun A acc X hA P eA => ?_)
    · obtain ⟨sm, qs, rfl, prq⟩ := P
      obtain ⟨rfl, hx⟩ := yl
      have hx := hx _ (SqL.of (sm _ _ e1'))
      obtain ⟨x1, v, d, f', g1, g2, tv, _⟩ := tG'.get (i := i) (by omega)
      obtain ⟨p1, gp, ep, hp0, _⟩ := paired_at2 e2' g1
      have zp : x = .ref p1 := by
        rw [List.getElem?_map, gp] at hx
        exact (Option.some.inj hx).symm
      subst zp
      refine ⟨rfl, ?_⟩
      walk_at "sx"
      have ep2 := sm _ _ ep
      refine ⟨_, .inl (SqL.of ep2), .str x1, rfl, _, .inl (SqL.of ep2), v, rfl, fun q hq => ?_⟩
      have qA : q ≠ A := fun z => by rw [z, eA] at hq; cases hq
      have tk : kvs.take (i + 1) = kvs.take i ++ [(.inr x1, v)] := by rw [List.take_add_one]; simp [g1]
      refine k (.ref q) _ (by rw [upd_ne qA.symm]; exact eA) ⟨fun b o e => ?_, qs ++ [q], by simp, ?_⟩
      · have bA : b ≠ A := fun z => by rw [z, hA] at e; cases e
        rw [upd_ne bA]; exact same_upd hq _ _ (sm _ _ e)
      · rw [tk]
        refine paired_snoc ⟨by rw [upd_ne qA]; exact upd_same, qA⟩ (paired_imp (fun a _ z => ⟨?_, z.2⟩) prq)
        rw [upd_ne z.2]; exact same_upd hq _ _ z.1
    · obtain ⟨sm, qs, rfl, prq⟩ := P
      rw [List.take_of_length_le (by omega)] at prq
      refine ⟨A, rfl, qs, SqL.of eA, kvs, paired_imp (fun _ _ z => SqT.of z.1) prq, fun nr hnr => ?_⟩
      obtain ⟨fz, tz, kz, ndz⟩ := trD_merge (tG'.same sm) .nil (by simp)
      rw [gD.mrg_id] at tz
      have fzf : ∀ c ∈ fz, c ∈ fr := fun c hc => (kz c hc).elim (fun z => by simp at z) id
      have dA := (dZe.same sm).laid (o := .dK (mergeK [] kvs)) hnr
      have nnr := (dZe.same sm).fresh hnr
      have eSLn : upd X nr (.dK (mergeK [] kvs)) SL = some (.lst (ms.map fun m => V.ref m.1)) := same_upd hnr _ _ (sm _ _ eSLe)
      have tn : Tr (upd X nr (.dK (mergeK [] kvs))) (.ref nr) (.dict D) (nr :: fz) := .dct upd_same (tz.same (same_upd hnr)) (fun z => by
        rcases tz.there nr z with ⟨ys, e⟩ | ⟨ys, e⟩ <;> (rw [hnr] at e; cases e)) ndz
      have nfz : ∀ c ∈ nr :: fz, c ≠ ba ∧ c ≠ r ∧ c ≠ SL := fun c hc => by
        rcases List.mem_cons.mp hc with z | z
        · rw [z]
          obtain ⟨_, kb, _, q1, q2, _⟩ := tr_dict tBZ
          cases q1
          have n2 := nnr.1
          exact ⟨fun z => (by rw [z, q2] at n2; cases n2), nnr.2, fun z => (by rw [z, eSL] at n2; cases n2)⟩
        · exact nN c (fzf c z)
      refine ⟨_, eSLn, by rw [List.length_map]; omega, ⟨_, rfl⟩, ((dZ.trans dA).grow (Dr.refl d2.src) hS), ms ++ [(nr, D, nr :: fz)], md.add (m := (nr, D, nr :: fz)) tBZ dZ.src dA tn gD nfz nnr.1, by simp⟩
  · have hk : (!kf.isEmpty) = true := by cases kf with
      | nil => exact absurd rfl c
      | cons _ _ => rfl
    rw [if_pos hk]
    refine ⟨_, eSLe, by rw [List.length_map]; omega, ⟨_, rfl⟩, ((dZ.trans dZe).grow (Dr.refl d2.src) hS), ms ++ [(fa, F, ff)], md.add (m := (fa, F, ff)) tBZ dZ.src dZe tFe gF (fun c hc => oldW (nff c hc)) (oldG (nff fa (by rw [eff]; exact List.mem_cons_self ..))), by simp⟩
end
open PySem PySem.Spec PyProof.Rows L2 RS LamX
theorem xst_Conflict : XSt1 "Conflict.__init__" s_Conflict__init "given" "given" where
  bd := ⟨_, _, _, _, _, _, _, _, _, _, _, _, rfl, fun L fI cda cc => ⟨rfl, rfl, rfl, ⟨_, rfl⟩, rfl⟩⟩
  ar := ⟨_, rfl, rfl⟩
  ks := rfl
  kc := rfl
  ka := rfl
  kx := rfl
  kd := rfl
  co := rfl
  ge := rfl
  ce := by decide +kernel
  bi := fun oc kV doc pm an cdv ct cc u v => rfl
  ne := by decide
  dbg := by decide
theorem xst_InvalidMapping : XSt1 "InvalidMapping.__init__" s_InvalidMapping__init "given" "given" where
  bd := ⟨_, _, _, _, _, _, _, _, _, _, _, _, rfl, fun L fI cda cc => ⟨rfl, rfl, rfl, ⟨_, rfl⟩, rfl⟩⟩
  ar := ⟨_, rfl, rfl⟩
  ks := rfl
  kc := rfl
  ka := rfl
  kx := rfl
  kd := rfl
  co := rfl
  ge := rfl
  ce := by decide +kernel
  bi := fun oc kV doc pm an cdv ct cc u v => rfl
  ne := by decide
  dbg := by decide
theorem all_mk {l : PySem.W.OpenLaw} {w : World} {K : PySem.W.Frag} {h : Heap} {mg : Str → Option Value} {fa : Addr} {q : Program}
    {C_Conflict fI_Conflict cda_Conflict cc_Conflict : Addr} {oc_Conflict kV_Conflict doc_Conflict pm_Conflict ct_Conflict ccl_Conflict cl_Conflict : Value} {od_Conflict an_Conflict cdd_Conflict cld_Conflict : Option Addr} {osl_Conflict ccs_Conflict csl_Conflict : Array (Option Value)} {vs_Conflict : Array Value} {file_Conflict : Str} {tf_Conflict : Tok}
    {C_InvalidMapping fI_InvalidMapping cda_InvalidMapping cc_InvalidMapping : Addr} {oc_InvalidMapping kV_InvalidMapping doc_InvalidMapping pm_InvalidMapping ct_InvalidMapping ccl_InvalidMapping cl_InvalidMapping : Value} {od_InvalidMapping an_InvalidMapping cdd_InvalidMapping cld_InvalidMapping : Option Addr} {osl_InvalidMapping ccs_InvalidMapping csl_InvalidMapping : Array (Option Value)} {vs_InvalidMapping : Array Value} {file_InvalidMapping : Str} {tf_InvalidMapping : Tok}
    {f_items_of : Addr} {od_items_of an_items_of : Option Addr} {sl_items_of : Array (Option Value)} {oc_items_of kV_items_of dc_items_of pm_items_of cd_items_of ct_items_of : Value}
    {f_is_wrong_part : Addr} {od_is_wrong_part an_is_wrong_part : Option Addr} {sl_is_wrong_part : Array (Option Value)} {oc_is_wrong_part kV_is_wrong_part dc_is_wrong_part pm_is_wrong_part cd_is_wrong_part ct_is_wrong_part : Value}
    {f_string_notation : Addr} {od_string_notation an_string_notation : Option Addr} {sl_string_notation : Array (Option Value)} {oc_string_notation kV_string_notation dc_string_notation pm_string_notation cd_string_notation ct_string_notation : Value}
    {f_check_value : Addr} {od_check_value an_check_value : Option Addr} {sl_check_value : Array (Option Value)} {oc_check_value kV_check_value dc_check_value pm_check_value cd_check_value ct_check_value : Value}
    {f_copied : Addr} {od_copied an_copied : Option Addr} {sl_copied : Array (Option Value)} {oc_copied kV_copied dc_copied pm_copied cd_copied ct_copied : Value}
    {f_is_value : Addr} {od_is_value an_is_value : Option Addr} {sl_is_value : Array (Option Value)} {oc_is_value kV_is_value dc_is_value pm_is_value cd_is_value ct_is_value : Value}
    {f_is_key : Addr} {od_is_key an_is_key : Option Addr} {sl_is_key : Array (Option Value)} {oc_is_key kV_is_key dc_is_key pm_is_key cd_is_key ct_is_key : Value}
    {f_are_alike : Addr} {od_are_alike an_are_alike : Option Addr} {sl_are_alike : Array (Option Value)} {oc_are_alike kV_are_alike dc_are_alike pm_are_alike cd_are_alike ct_are_alike : Value}
    {f_check_mappings : Addr} {od_check_mappings an_check_mappings : Option Addr} {sl_check_mappings : Array (Option Value)} {oc_check_mappings kV_check_mappings dc_check_mappings pm_check_mappings cd_check_mappings ct_check_mappings : Value}
    {f_has_changed : Addr} {od_has_changed an_has_changed : Option Addr} {sl_has_changed : Array (Option Value)} {oc_has_changed kV_has_changed dc_has_changed pm_has_changed cd_has_changed ct_has_changed : Value}
    {f_are_one_change : Addr} {od_are_one_change an_are_one_change : Option Addr} {sl_are_one_change : Array (Option Value)} {oc_are_one_change kV_are_one_change dc_are_one_change pm_are_one_change cd_are_one_change ct_are_one_change : Value}
    {f_all_conflicts : Addr} {od_all_conflicts an_all_conflicts : Option Addr} {sl_all_conflicts : Array (Option Value)} {oc_all_conflicts kV_all_conflicts dc_all_conflicts pm_all_conflicts cd_all_conflicts ct_all_conflicts : Value}
    {f_are_same : Addr} {od_are_same an_are_same : Option Addr} {sl_are_same : Array (Option Value)} {oc_are_same kV_are_same dc_are_same pm_are_same cd_are_same ct_are_same : Value}
    {f_conflicts : Addr} {od_conflicts an_conflicts : Option Addr} {sl_conflicts : Array (Option Value)} {oc_conflicts kV_conflicts dc_conflicts pm_conflicts cd_conflicts ct_conflicts : Value}
    {f_applied : Addr} {od_applied an_applied : Option Addr} {sl_applied : Array (Option Value)} {oc_applied kV_applied dc_applied pm_applied cd_applied ct_applied : Value}
    {f_merged : Addr} {od_merged an_merged : Option Addr} {sl_merged : Array (Option Value)} {oc_merged kV_merged dc_merged pm_merged cd_merged ct_merged : Value}
    {f_l_pick : Addr} {od_l_pick an_l_pick : Option Addr} {sl_l_pick : Array (Option Value)} {oc_l_pick kV_l_pick dc_l_pick pm_l_pick cd_l_pick ct_l_pick : Value}
    {f_l_source : Addr} {od_l_source an_l_source : Option Addr} {sl_l_source : Array (Option Value)} {oc_l_source kV_l_source dc_l_source pm_l_source cd_l_source ct_l_source : Value}
    {f_l_string : Addr} {od_l_string an_l_string : Option Addr} {sl_l_string : Array (Option Value)} {oc_l_string kV_l_string dc_l_string pm_l_string cd_l_string ct_l_string : Value}
    {f_l_mapping : Addr} {od_l_mapping an_l_mapping : Option Addr} {sl_l_mapping : Array (Option Value)} {oc_l_mapping kV_l_mapping dc_l_mapping pm_l_mapping cd_l_mapping ct_l_mapping : Value}
    {f_l_deeds : Addr} {od_l_deeds an_l_deeds : Option Addr} {sl_l_deeds : Array (Option Value)} {oc_l_deeds kV_l_deeds dc_l_deeds pm_l_deeds cd_l_deeds ct_l_deeds : Value}
    {f_l_done : Addr} {od_l_done an_l_done : Option Addr} {sl_l_done : Array (Option Value)} {oc_l_done kV_l_done dc_l_done pm_l_done cd_l_done ct_l_done : Value}
    {f_l_at : Addr} {od_l_at an_l_at : Option Addr} {sl_l_at : Array (Option Value)} {oc_l_at kV_l_at dc_l_at pm_l_at cd_l_at ct_l_at : Value}
    {f_l_conflicts : Addr} {od_l_conflicts an_l_conflicts : Option Addr} {sl_l_conflicts : Array (Option Value)} {oc_l_conflicts kV_l_conflicts dc_l_conflicts pm_l_conflicts cd_l_conflicts ct_l_conflicts : Value}
    {f_l_merged : Addr} {od_l_merged an_l_merged : Option Addr} {sl_l_merged : Array (Option Value)} {oc_l_merged kV_l_merged dc_l_merged pm_l_merged cd_l_merged ct_l_merged : Value}
    {f_l_told : Addr} {od_l_told an_l_told : Option Addr} {sl_l_told : Array (Option Value)} {oc_l_told kV_l_told dc_l_told pm_l_told cd_l_told ct_l_told : Value}
    {f_l_listed : Addr} {od_l_listed an_l_listed : Option Addr} {sl_l_listed : Array (Option Value)} {oc_l_listed kV_l_listed dc_l_listed pm_l_listed cd_l_listed ct_l_listed : Value}
    {f_l_right : Addr} {od_l_right an_l_right : Option Addr} {sl_l_right : Array (Option Value)} {oc_l_right kV_l_right dc_l_right pm_l_right cd_l_right ct_l_right : Value}
    {f_law : Addr} {od_law an_law : Option Addr} {sl_law : Array (Option Value)} {oc_law kV_law dc_law pm_law cd_law ct_law : Value}
    {f_wrong_path : Addr} {od_wrong_path an_wrong_path : Option Addr} {sl_wrong_path : Array (Option Value)} {oc_wrong_path kV_wrong_path dc_wrong_path pm_wrong_path cd_wrong_path ct_wrong_path : Value}
    {f_rebuilt : Addr} {od_rebuilt an_rebuilt : Option Addr} {sl_rebuilt : Array (Option Value)} {oc_rebuilt kV_rebuilt dc_rebuilt pm_rebuilt cd_rebuilt ct_rebuilt : Value}
    {f_value_notation : Addr} {od_value_notation an_value_notation : Option Addr} {sl_value_notation : Array (Option Value)} {oc_value_notation kV_value_notation dc_value_notation pm_value_notation cd_value_notation ct_value_notation : Value}
    {f_l_value : Addr} {od_l_value an_l_value : Option Addr} {sl_l_value : Array (Option Value)} {oc_l_value kV_l_value dc_l_value pm_l_value cd_l_value ct_l_value : Value}
    {t_MOST_DIGITS : Tok}
    {t_MOST_ITEMS : Tok}
    {t_MOST_LEVELS : Tok}
    {t_MOST_KEY : Tok}
    {A_ESC : Addr} {h1_ESC h2_ESC h3_ESC : Int} {k1_ESC k2_ESC k3_ESC u1_ESC u2_ESC u3_ESC : Tok} {n_ESC : Nat} (X : K.In h) (G : h.Ns mainGlobals mg) (hfa : mg "law" = some (.ref fa)) (TF : TabF q K h)
    (b_super : PySem.W.nsIn K mainGlobals "super" = some none)
    (xa : XA l.prog K)
    (aC_Conflict : PySem.W.nsIn K mainGlobals "Conflict" = some (some (.ref C_Conflict)))
    (in_Conflict : PySem.W.findIn K (.ref C_Conflict) "__init__" = some (some (.ref fI_Conflict)))
    (l_Conflict : K.lookup fI_Conflict = some ⟨oc_Conflict, od_Conflict, .func (PySem.W.ksFn "__init__" "Conflict.__init__" (defArgs s_Conflict__init) (defBody s_Conflict__init) (defScope s_Conflict__init) .none kV_Conflict doc_Conflict pm_Conflict an_Conflict (.ref cda_Conflict) ct_Conflict cc_Conflict), osl_Conflict⟩)
    (co_Conflict : K.lookup cda_Conflict = some ⟨ccl_Conflict, cdd_Conflict, .fields vs_Conflict, ccs_Conflict⟩)
    (fi_Conflict : vs_Conflict[2]? = some (.str file_Conflict tf_Conflict))
    (fe_Conflict : ((l.prog.main.file : Str) == file_Conflict) = true)
    (ce_Conflict : K.lookup cc_Conflict = some ⟨cl_Conflict, cld_Conflict, .cell (some (.ref C_Conflict)), csl_Conflict⟩)
    (xb_Conflict : XB K C_Conflict fI_Conflict cda_Conflict "Conflict.__init__" "RuntimeError" "RuntimeError.__new__" "RuntimeError.__init__" [.type "RuntimeError", .type "Exception", .type "BaseException", .type "object"])
    (nf_Conflict : PySem.W.findIn K (.ref C_Conflict) "given" = some none)
    (aC_InvalidMapping : PySem.W.nsIn K mainGlobals "InvalidMapping" = some (some (.ref C_InvalidMapping)))
    (in_InvalidMapping : PySem.W.findIn K (.ref C_InvalidMapping) "__init__" = some (some (.ref fI_InvalidMapping)))
    (l_InvalidMapping : K.lookup fI_InvalidMapping = some ⟨oc_InvalidMapping, od_InvalidMapping, .func (PySem.W.ksFn "__init__" "InvalidMapping.__init__" (defArgs s_InvalidMapping__init) (defBody s_InvalidMapping__init) (defScope s_InvalidMapping__init) .none kV_InvalidMapping doc_InvalidMapping pm_InvalidMapping an_InvalidMapping (.ref cda_InvalidMapping) ct_InvalidMapping cc_InvalidMapping), osl_InvalidMapping⟩)
    (co_InvalidMapping : K.lookup cda_InvalidMapping = some ⟨ccl_InvalidMapping, cdd_InvalidMapping, .fields vs_InvalidMapping, ccs_InvalidMapping⟩)
    (fi_InvalidMapping : vs_InvalidMapping[2]? = some (.str file_InvalidMapping tf_InvalidMapping))
    (fe_InvalidMapping : ((l.prog.main.file : Str) == file_InvalidMapping) = true)
    (ce_InvalidMapping : K.lookup cc_InvalidMapping = some ⟨cl_InvalidMapping, cld_InvalidMapping, .cell (some (.ref C_InvalidMapping)), csl_InvalidMapping⟩)
    (xb_InvalidMapping : XB K C_InvalidMapping fI_InvalidMapping cda_InvalidMapping "InvalidMapping.__init__" "ValueError" "ValueError.__new__" "ValueError.__init__" [.type "ValueError", .type "Exception", .type "BaseException", .type "object"])
    (nf_InvalidMapping : PySem.W.findIn K (.ref C_InvalidMapping) "given" = some none)
    (tyX_Conflict : PySem.W.typeIn K (.ref C_Conflict) = some (.type "type"))
    (tyX_InvalidMapping : PySem.W.typeIn K (.ref C_InvalidMapping) = some (.type "type"))
    (a_items_of : PySem.W.nsIn K mainGlobals "items_of" = some (some (.ref f_items_of)))
    (l_items_of : K.lookup f_items_of = some ⟨oc_items_of, od_items_of, .func (PySem.W.fnOf "items_of" "items_of" (defArgs s_items_of) (defBody s_items_of) (defScope s_items_of) .none kV_items_of dc_items_of pm_items_of an_items_of cd_items_of ct_items_of), sl_items_of⟩)
    (c_items_of : PySem.W.codeIn K cd_items_of "items_of" = true)
    (k_items_of : PySem.W.keepIn K (.ref f_items_of) = true)
    (a_is_wrong_part : PySem.W.nsIn K mainGlobals "is_wrong_part" = some (some (.ref f_is_wrong_part)))
    (l_is_wrong_part : K.lookup f_is_wrong_part = some ⟨oc_is_wrong_part, od_is_wrong_part, .func (PySem.W.fnOf "is_wrong_part" "is_wrong_part" (defArgs s_is_wrong_part) (defBody s_is_wrong_part) (defScope s_is_wrong_part) .none kV_is_wrong_part dc_is_wrong_part pm_is_wrong_part an_is_wrong_part cd_is_wrong_part ct_is_wrong_part), sl_is_wrong_part⟩)
    (c_is_wrong_part : PySem.W.codeIn K cd_is_wrong_part "is_wrong_part" = true)
    (k_is_wrong_part : PySem.W.keepIn K (.ref f_is_wrong_part) = true)
    (a_string_notation : PySem.W.nsIn K mainGlobals "string_notation" = some (some (.ref f_string_notation)))
    (l_string_notation : K.lookup f_string_notation = some ⟨oc_string_notation, od_string_notation, .func (PySem.W.fnOf "string_notation" "string_notation" (defArgs s_string_notation) (defBody s_string_notation) (defScope s_string_notation) .none kV_string_notation dc_string_notation pm_string_notation an_string_notation cd_string_notation ct_string_notation), sl_string_notation⟩)
    (c_string_notation : PySem.W.codeIn K cd_string_notation "string_notation" = true)
    (k_string_notation : PySem.W.keepIn K (.ref f_string_notation) = true)
    (a_check_value : PySem.W.nsIn K mainGlobals "check_value" = some (some (.ref f_check_value)))
    (l_check_value : K.lookup f_check_value = some ⟨oc_check_value, od_check_value, .func (PySem.W.fnOf "check_value" "check_value" (defArgs s_check_value) (defBody s_check_value) (defScope s_check_value) .none kV_check_value dc_check_value pm_check_value an_check_value cd_check_value ct_check_value), sl_check_value⟩)
    (c_check_value : PySem.W.codeIn K cd_check_value "check_value" = true)
    (k_check_value : PySem.W.keepIn K (.ref f_check_value) = true)
    (a_copied : PySem.W.nsIn K mainGlobals "copied" = some (some (.ref f_copied)))
    (l_copied : K.lookup f_copied = some ⟨oc_copied, od_copied, .func (PySem.W.fnOf "copied" "copied" (defArgs s_copied) (defBody s_copied) (defScope s_copied) .none kV_copied dc_copied pm_copied an_copied cd_copied ct_copied), sl_copied⟩)
    (c_copied : PySem.W.codeIn K cd_copied "copied" = true)
    (k_copied : PySem.W.keepIn K (.ref f_copied) = true)
    (a_is_value : PySem.W.nsIn K mainGlobals "is_value" = some (some (.ref f_is_value)))
    (l_is_value : K.lookup f_is_value = some ⟨oc_is_value, od_is_value, .func (PySem.W.fnOf "is_value" "is_value" (defArgs s_is_value) (defBody s_is_value) (defScope s_is_value) .none kV_is_value dc_is_value pm_is_value an_is_value cd_is_value ct_is_value), sl_is_value⟩)
    (c_is_value : PySem.W.codeIn K cd_is_value "is_value" = true)
    (k_is_value : PySem.W.keepIn K (.ref f_is_value) = true)
    (a_is_key : PySem.W.nsIn K mainGlobals "is_key" = some (some (.ref f_is_key)))
    (l_is_key : K.lookup f_is_key = some ⟨oc_is_key, od_is_key, .func (PySem.W.fnOf "is_key" "is_key" (defArgs s_is_key) (defBody s_is_key) (defScope s_is_key) .none kV_is_key dc_is_key pm_is_key an_is_key cd_is_key ct_is_key), sl_is_key⟩)
    (c_is_key : PySem.W.codeIn K cd_is_key "is_key" = true)
    (k_is_key : PySem.W.keepIn K (.ref f_is_key) = true)
    (a_are_alike : PySem.W.nsIn K mainGlobals "are_alike" = some (some (.ref f_are_alike)))
    (l_are_alike : K.lookup f_are_alike = some ⟨oc_are_alike, od_are_alike, .func (PySem.W.fnOf "are_alike" "are_alike" (defArgs s_are_alike) (defBody s_are_alike) (defScope s_are_alike) .none kV_are_alike dc_are_alike pm_are_alike an_are_alike cd_are_alike ct_are_alike), sl_are_alike⟩)
    (c_are_alike : PySem.W.codeIn K cd_are_alike "are_alike" = true)
    (k_are_alike : PySem.W.keepIn K (.ref f_are_alike) = true)
    (a_check_mappings : PySem.W.nsIn K mainGlobals "check_mappings" = some (some (.ref f_check_mappings)))
    (l_check_mappings : K.lookup f_check_mappings = some ⟨oc_check_mappings, od_check_mappings, .func (PySem.W.fnOf "check_mappings" "check_mappings" (defArgs s_check_mappings) (defBody s_check_mappings) (defScope s_check_mappings) .none kV_check_mappings dc_check_mappings pm_check_mappings an_check_mappings cd_check_mappings ct_check_mappings), sl_check_mappings⟩)
    (c_check_mappings : PySem.W.codeIn K cd_check_mappings "check_mappings" = true)
    (k_check_mappings : PySem.W.keepIn K (.ref f_check_mappings) = true)
    (a_has_changed : PySem.W.nsIn K mainGlobals "has_changed" = some (some (.ref f_has_changed)))
    (l_has_changed : K.lookup f_has_changed = some ⟨oc_has_changed, od_has_changed, .func (PySem.W.fnOf "has_changed" "has_changed" (defArgs s_has_changed) (defBody s_has_changed) (defScope s_has_changed) .none kV_has_changed dc_has_changed pm_has_changed an_has_changed cd_has_changed ct_has_changed), sl_has_changed⟩)
    (c_has_changed : PySem.W.codeIn K cd_has_changed "has_changed" = true)
    (k_has_changed : PySem.W.keepIn K (.ref f_has_changed) = true)
    (a_are_one_change : PySem.W.nsIn K mainGlobals "are_one_change" = some (some (.ref f_are_one_change)))
    (l_are_one_change : K.lookup f_are_one_change = some ⟨oc_are_one_change, od_are_one_change, .func (PySem.W.fnOf "are_one_change" "are_one_change" (defArgs s_are_one_change) (defBody s_are_one_change) (defScope s_are_one_change) .none kV_are_one_change dc_are_one_change pm_are_one_change an_are_one_change cd_are_one_change ct_are_one_change), sl_are_one_change⟩)
    (c_are_one_change : PySem.W.codeIn K cd_are_one_change "are_one_change" = true)
    (k_are_one_change : PySem.W.keepIn K (.ref f_are_one_change) = true)
    (a_all_conflicts : PySem.W.nsIn K mainGlobals "all_conflicts" = some (some (.ref f_all_conflicts)))
    (l_all_conflicts : K.lookup f_all_conflicts = some ⟨oc_all_conflicts, od_all_conflicts, .func (PySem.W.fnOf "all_conflicts" "all_conflicts" (defArgs s_all_conflicts) (defBody s_all_conflicts) (defScope s_all_conflicts) .none kV_all_conflicts dc_all_conflicts pm_all_conflicts an_all_conflicts cd_all_conflicts ct_all_conflicts), sl_all_conflicts⟩)
    (c_all_conflicts : PySem.W.codeIn K cd_all_conflicts "all_conflicts" = true)
    (k_all_conflicts : PySem.W.keepIn K (.ref f_all_conflicts) = true)
    (a_are_same : PySem.W.nsIn K mainGlobals "are_same" = some (some (.ref f_are_same)))
    (l_are_same : K.lookup f_are_same = some ⟨oc_are_same, od_are_same, .func (PySem.W.fnOf "are_same" "are_same" (defArgs s_are_same) (defBody s_are_same) (defScope s_are_same) .none kV_are_same dc_are_same pm_are_same an_are_same cd_are_same ct_are_same), sl_are_same⟩)
    (c_are_same : PySem.W.codeIn K cd_are_same "are_same" = true)
    (k_are_same : PySem.W.keepIn K (.ref f_are_same) = true)
    (a_conflicts : PySem.W.nsIn K mainGlobals "conflicts" = some (some (.ref f_conflicts)))
    (l_conflicts : K.lookup f_conflicts = some ⟨oc_conflicts, od_conflicts, .func (PySem.W.fnOf "conflicts" "conflicts" (defArgs s_conflicts) (defBody s_conflicts) (defScope s_conflicts) .none kV_conflicts dc_conflicts pm_conflicts an_conflicts cd_conflicts ct_conflicts), sl_conflicts⟩)
    (c_conflicts : PySem.W.codeIn K cd_conflicts "conflicts" = true)
    (k_conflicts : PySem.W.keepIn K (.ref f_conflicts) = true)
    (a_applied : PySem.W.nsIn K mainGlobals "applied" = some (some (.ref f_applied)))
    (l_applied : K.lookup f_applied = some ⟨oc_applied, od_applied, .func (PySem.W.fnOf "applied" "applied" (defArgs s_applied) (defBody s_applied) (defScope s_applied) .none kV_applied dc_applied pm_applied an_applied cd_applied ct_applied), sl_applied⟩)
    (c_applied : PySem.W.codeIn K cd_applied "applied" = true)
    (k_applied : PySem.W.keepIn K (.ref f_applied) = true)
    (a_merged : PySem.W.nsIn K mainGlobals "merged" = some (some (.ref f_merged)))
    (l_merged : K.lookup f_merged = some ⟨oc_merged, od_merged, .func (PySem.W.fnOf "merged" "merged" (defArgs s_merged) (defBody s_merged) (defScope s_merged) .none kV_merged dc_merged pm_merged an_merged cd_merged ct_merged), sl_merged⟩)
    (c_merged : PySem.W.codeIn K cd_merged "merged" = true)
    (k_merged : PySem.W.keepIn K (.ref f_merged) = true)
    (a_l_pick : PySem.W.nsIn K mainGlobals "_law_pick" = some (some (.ref f_l_pick)))
    (l_l_pick : K.lookup f_l_pick = some ⟨oc_l_pick, od_l_pick, .func (PySem.W.fnOf "_law_pick" "_law_pick" (defArgs s_l_pick) (defBody s_l_pick) (defScope s_l_pick) .none kV_l_pick dc_l_pick pm_l_pick an_l_pick cd_l_pick ct_l_pick), sl_l_pick⟩)
    (c_l_pick : PySem.W.codeIn K cd_l_pick "_law_pick" = true)
    (k_l_pick : PySem.W.keepIn K (.ref f_l_pick) = true)
    (a_l_source : PySem.W.nsIn K mainGlobals "_law_source" = some (some (.ref f_l_source)))
    (l_l_source : K.lookup f_l_source = some ⟨oc_l_source, od_l_source, .func (PySem.W.fnOf "_law_source" "_law_source" (defArgs s_l_source) (defBody s_l_source) (defScope s_l_source) .none kV_l_source dc_l_source pm_l_source an_l_source cd_l_source ct_l_source), sl_l_source⟩)
    (c_l_source : PySem.W.codeIn K cd_l_source "_law_source" = true)
    (k_l_source : PySem.W.keepIn K (.ref f_l_source) = true)
    (a_l_string : PySem.W.nsIn K mainGlobals "_law_string" = some (some (.ref f_l_string)))
    (l_l_string : K.lookup f_l_string = some ⟨oc_l_string, od_l_string, .func (PySem.W.fnOf "_law_string" "_law_string" (defArgs s_l_string) (defBody s_l_string) (defScope s_l_string) .none kV_l_string dc_l_string pm_l_string an_l_string cd_l_string ct_l_string), sl_l_string⟩)
    (c_l_string : PySem.W.codeIn K cd_l_string "_law_string" = true)
    (k_l_string : PySem.W.keepIn K (.ref f_l_string) = true)
    (a_l_mapping : PySem.W.nsIn K mainGlobals "_law_mapping" = some (some (.ref f_l_mapping)))
    (l_l_mapping : K.lookup f_l_mapping = some ⟨oc_l_mapping, od_l_mapping, .func (PySem.W.fnOf "_law_mapping" "_law_mapping" (defArgs s_l_mapping) (defBody s_l_mapping) (defScope s_l_mapping) .none kV_l_mapping dc_l_mapping pm_l_mapping an_l_mapping cd_l_mapping ct_l_mapping), sl_l_mapping⟩)
    (c_l_mapping : PySem.W.codeIn K cd_l_mapping "_law_mapping" = true)
    (k_l_mapping : PySem.W.keepIn K (.ref f_l_mapping) = true)
    (a_l_deeds : PySem.W.nsIn K mainGlobals "_law_deeds" = some (some (.ref f_l_deeds)))
    (l_l_deeds : K.lookup f_l_deeds = some ⟨oc_l_deeds, od_l_deeds, .func (PySem.W.fnOf "_law_deeds" "_law_deeds" (defArgs s_l_deeds) (defBody s_l_deeds) (defScope s_l_deeds) .none kV_l_deeds dc_l_deeds pm_l_deeds an_l_deeds cd_l_deeds ct_l_deeds), sl_l_deeds⟩)
    (c_l_deeds : PySem.W.codeIn K cd_l_deeds "_law_deeds" = true)
    (k_l_deeds : PySem.W.keepIn K (.ref f_l_deeds) = true)
    (a_l_done : PySem.W.nsIn K mainGlobals "_law_done" = some (some (.ref f_l_done)))
    (l_l_done : K.lookup f_l_done = some ⟨oc_l_done, od_l_done, .func (PySem.W.fnOf "_law_done" "_law_done" (defArgs s_l_done) (defBody s_l_done) (defScope s_l_done) .none kV_l_done dc_l_done pm_l_done an_l_done cd_l_done ct_l_done), sl_l_done⟩)
    (c_l_done : PySem.W.codeIn K cd_l_done "_law_done" = true)
    (k_l_done : PySem.W.keepIn K (.ref f_l_done) = true)
    (a_l_at : PySem.W.nsIn K mainGlobals "_law_at" = some (some (.ref f_l_at)))
    (l_l_at : K.lookup f_l_at = some ⟨oc_l_at, od_l_at, .func (PySem.W.fnOf "_law_at" "_law_at" (defArgs s_l_at) (defBody s_l_at) (defScope s_l_at) .none kV_l_at dc_l_at pm_l_at an_l_at cd_l_at ct_l_at), sl_l_at⟩)
    (c_l_at : PySem.W.codeIn K cd_l_at "_law_at" = true)
    (k_l_at : PySem.W.keepIn K (.ref f_l_at) = true)
    (a_l_conflicts : PySem.W.nsIn K mainGlobals "_law_conflicts" = some (some (.ref f_l_conflicts)))
    (l_l_conflicts : K.lookup f_l_conflicts = some ⟨oc_l_conflicts, od_l_conflicts, .func (PySem.W.fnOf "_law_conflicts" "_law_conflicts" (defArgs s_l_conflicts) (defBody s_l_conflicts) (defScope s_l_conflicts) .none kV_l_conflicts dc_l_conflicts pm_l_conflicts an_l_conflicts cd_l_conflicts ct_l_conflicts), sl_l_conflicts⟩)
    (c_l_conflicts : PySem.W.codeIn K cd_l_conflicts "_law_conflicts" = true)
    (k_l_conflicts : PySem.W.keepIn K (.ref f_l_conflicts) = true)
    (a_l_merged : PySem.W.nsIn K mainGlobals "_law_merged" = some (some (.ref f_l_merged)))
    (l_l_merged : K.lookup f_l_merged = some ⟨oc_l_merged, od_l_merged, .func (PySem.W.fnOf "_law_merged" "_law_merged" (defArgs s_l_merged) (defBody s_l_merged) (defScope s_l_merged) .none kV_l_merged dc_l_merged pm_l_merged an_l_merged cd_l_merged ct_l_merged), sl_l_merged⟩)
    (c_l_merged : PySem.W.codeIn K cd_l_merged "_law_merged" = true)
    (k_l_merged : PySem.W.keepIn K (.ref f_l_merged) = true)
    (a_l_told : PySem.W.nsIn K mainGlobals "_law_told" = some (some (.ref f_l_told)))
    (l_l_told : K.lookup f_l_told = some ⟨oc_l_told, od_l_told, .func (PySem.W.fnOf "_law_told" "_law_told" (defArgs s_l_told) (defBody s_l_told) (defScope s_l_told) .none kV_l_told dc_l_told pm_l_told an_l_told cd_l_told ct_l_told), sl_l_told⟩)
    (c_l_told : PySem.W.codeIn K cd_l_told "_law_told" = true)
    (k_l_told : PySem.W.keepIn K (.ref f_l_told) = true)
    (a_l_listed : PySem.W.nsIn K mainGlobals "_law_listed" = some (some (.ref f_l_listed)))
    (l_l_listed : K.lookup f_l_listed = some ⟨oc_l_listed, od_l_listed, .func (PySem.W.fnOf "_law_listed" "_law_listed" (defArgs s_l_listed) (defBody s_l_listed) (defScope s_l_listed) .none kV_l_listed dc_l_listed pm_l_listed an_l_listed cd_l_listed ct_l_listed), sl_l_listed⟩)
    (c_l_listed : PySem.W.codeIn K cd_l_listed "_law_listed" = true)
    (k_l_listed : PySem.W.keepIn K (.ref f_l_listed) = true)
    (a_l_right : PySem.W.nsIn K mainGlobals "_law_right" = some (some (.ref f_l_right)))
    (l_l_right : K.lookup f_l_right = some ⟨oc_l_right, od_l_right, .func (PySem.W.fnOf "_law_right" "_law_right" (defArgs s_l_right) (defBody s_l_right) (defScope s_l_right) .none kV_l_right dc_l_right pm_l_right an_l_right cd_l_right ct_l_right), sl_l_right⟩)
    (c_l_right : PySem.W.codeIn K cd_l_right "_law_right" = true)
    (k_l_right : PySem.W.keepIn K (.ref f_l_right) = true)
    (a_law : PySem.W.nsIn K mainGlobals "law" = some (some (.ref f_law)))
    (l_law : K.lookup f_law = some ⟨oc_law, od_law, .func (PySem.W.fnOf "law" "law" (defArgs s_law) (defBody s_law) (defScope s_law) .none kV_law dc_law pm_law an_law cd_law ct_law), sl_law⟩)
    (c_law : PySem.W.codeIn K cd_law "law" = true)
    (k_law : PySem.W.keepIn K (.ref f_law) = true)
    (a_wrong_path : PySem.W.nsIn K mainGlobals "wrong_path" = some (some (.ref f_wrong_path)))
    (l_wrong_path : K.lookup f_wrong_path = some ⟨oc_wrong_path, od_wrong_path, .func (PySem.W.fnOf "wrong_path" "wrong_path" (defArgs s_wrong_path) (defBody s_wrong_path) (defScope s_wrong_path) .none kV_wrong_path dc_wrong_path pm_wrong_path an_wrong_path cd_wrong_path ct_wrong_path), sl_wrong_path⟩)
    (c_wrong_path : PySem.W.codeIn K cd_wrong_path "wrong_path" = true)
    (k_wrong_path : PySem.W.keepIn K (.ref f_wrong_path) = true)
    (a_rebuilt : PySem.W.nsIn K mainGlobals "rebuilt" = some (some (.ref f_rebuilt)))
    (l_rebuilt : K.lookup f_rebuilt = some ⟨oc_rebuilt, od_rebuilt, .func (PySem.W.fnOf "rebuilt" "rebuilt" (defArgs s_rebuilt) (defBody s_rebuilt) (defScope s_rebuilt) .none kV_rebuilt dc_rebuilt pm_rebuilt an_rebuilt cd_rebuilt ct_rebuilt), sl_rebuilt⟩)
    (c_rebuilt : PySem.W.codeIn K cd_rebuilt "rebuilt" = true)
    (k_rebuilt : PySem.W.keepIn K (.ref f_rebuilt) = true)
    (a_value_notation : PySem.W.nsIn K mainGlobals "value_notation" = some (some (.ref f_value_notation)))
    (l_value_notation : K.lookup f_value_notation = some ⟨oc_value_notation, od_value_notation, .func (PySem.W.fnOf "value_notation" "value_notation" (defArgs s_value_notation) (defBody s_value_notation) (defScope s_value_notation) .none kV_value_notation dc_value_notation pm_value_notation an_value_notation cd_value_notation ct_value_notation), sl_value_notation⟩)
    (c_value_notation : PySem.W.codeIn K cd_value_notation "value_notation" = true)
    (k_value_notation : PySem.W.keepIn K (.ref f_value_notation) = true)
    (a_l_value : PySem.W.nsIn K mainGlobals "_law_value" = some (some (.ref f_l_value)))
    (l_l_value : K.lookup f_l_value = some ⟨oc_l_value, od_l_value, .func (PySem.W.fnOf "_law_value" "_law_value" (defArgs s_l_value) (defBody s_l_value) (defScope s_l_value) .none kV_l_value dc_l_value pm_l_value an_l_value cd_l_value ct_l_value), sl_l_value⟩)
    (c_l_value : PySem.W.codeIn K cd_l_value "_law_value" = true)
    (k_l_value : PySem.W.keepIn K (.ref f_l_value) = true)
    (b_len : PySem.W.nsIn K mainGlobals "len" = some none)
    (b_isinstance : PySem.W.nsIn K mainGlobals "isinstance" = some none)
    (b_repr : PySem.W.nsIn K mainGlobals "repr" = some none)
    (b_enumerate : PySem.W.nsIn K mainGlobals "enumerate" = some none)
    (b_range : PySem.W.nsIn K mainGlobals "range" = some none)
    (b_list : PySem.W.nsIn K mainGlobals "list" = some none)
    (b_tuple : PySem.W.nsIn K mainGlobals "tuple" = some none)
    (b_dict : PySem.W.nsIn K mainGlobals "dict" = some none)
    (b_bool : PySem.W.nsIn K mainGlobals "bool" = some none)
    (b_int : PySem.W.nsIn K mainGlobals "int" = some none)
    (b_str : PySem.W.nsIn K mainGlobals "str" = some none)
    (b_abs : PySem.W.nsIn K mainGlobals "abs" = some none)
    (b_all : PySem.W.nsIn K mainGlobals "all" = some none)
    (b_sorted : PySem.W.nsIn K mainGlobals "sorted" = some none)
    (b_set : PySem.W.nsIn K mainGlobals "set" = some none)
    (b_max : PySem.W.nsIn K mainGlobals "max" = some none)
    (b_min : PySem.W.nsIn K mainGlobals "min" = some none)
    (v_MOST_DIGITS : PySem.W.nsIn K mainGlobals "MOST_DIGITS" = some (some (.int 100 t_MOST_DIGITS)))
    (v_MOST_ITEMS : PySem.W.nsIn K mainGlobals "MOST_ITEMS" = some (some (.int 10000 t_MOST_ITEMS)))
    (v_MOST_LEVELS : PySem.W.nsIn K mainGlobals "MOST_LEVELS" = some (some (.int 20 t_MOST_LEVELS)))
    (v_MOST_KEY : PySem.W.nsIn K mainGlobals "MOST_KEY" = some (some (.int 200 t_MOST_KEY)))
    (nd : PySem.W.nsIn K cStatics "sys.int_max_str_digits" = some none)
    (v_ESCAPES : PySem.W.nsIn K mainGlobals "ESCAPES" = some (some (.ref A_ESC)))
    (lk_ESC : K.lookup A_ESC = some ⟨.type "dict", none, .dict #[⟨h1_ESC, .str "\"" k1_ESC, .str "\\\"" u1_ESC⟩, ⟨h2_ESC, .str "\\" k2_ESC, .str "\\\\" u2_ESC⟩, ⟨h3_ESC, .str "\n" k3_ESC, .str "\\n" u3_ESC⟩] n_ESC, #[]⟩)
    (e1_ESC : h1_ESC = PySem.PyData.keyHash w.params "\"")
    (e2_ESC : h2_ESC = PySem.PyData.keyHash w.params "\\")
    (e3_ESC : h3_ESC = PySem.PyData.keyHash w.params "\n")
    (lo_ESC : (A_ESC == sysModules) = false)
    (hexC : PySem.W.exmOne K (.ref C_Conflict) (.ref C_Conflict) = some true) :
    LawTs l w K 17 63 "_law_script" mg fa h := by
  have e := hfa.symm.trans (PySem.W.mg_of X G a_law)
  cases e
  have D_items_of := df_mk (st := s_items_of) l_items_of c_items_of k_items_of
  have b_items_of : Binds K (PySem.W.fnOf "items_of" "items_of" (defArgs s_items_of) (defBody s_items_of) (defScope s_items_of) .none kV_items_of dc_items_of pm_items_of an_items_of cd_items_of ct_items_of) ["value"] [] := Binds.all fun us hl => match us, hl with | [_], _ => rfl
  have D_is_wrong_part := df_mk (st := s_is_wrong_part) l_is_wrong_part c_is_wrong_part k_is_wrong_part
  have b_is_wrong_part : Binds K (PySem.W.fnOf "is_wrong_part" "is_wrong_part" (defArgs s_is_wrong_part) (defBody s_is_wrong_part) (defScope s_is_wrong_part) .none kV_is_wrong_part dc_is_wrong_part pm_is_wrong_part an_is_wrong_part cd_is_wrong_part ct_is_wrong_part) ["value", "depth"] [] := Binds.all fun us hl => match us, hl with | [_, _], _ => rfl
  have D_string_notation := df_mk (st := s_string_notation) l_string_notation c_string_notation k_string_notation
  have b_string_notation : Binds K (PySem.W.fnOf "string_notation" "string_notation" (defArgs s_string_notation) (defBody s_string_notation) (defScope s_string_notation) .none kV_string_notation dc_string_notation pm_string_notation an_string_notation cd_string_notation ct_string_notation) ["text"] [] := Binds.all fun us hl => match us, hl with | [_], _ => rfl
  have D_check_value := df_mk (st := s_check_value) l_check_value c_check_value k_check_value
  have b_check_value : Binds K (PySem.W.fnOf "check_value" "check_value" (defArgs s_check_value) (defBody s_check_value) (defScope s_check_value) .none kV_check_value dc_check_value pm_check_value an_check_value cd_check_value ct_check_value) ["value"] [] := Binds.all fun us hl => match us, hl with | [_], _ => rfl
  have D_copied := df_mk (st := s_copied) l_copied c_copied k_copied
  have b_copied : Binds K (PySem.W.fnOf "copied" "copied" (defArgs s_copied) (defBody s_copied) (defScope s_copied) .none kV_copied dc_copied pm_copied an_copied cd_copied ct_copied) ["value"] [] := Binds.all fun us hl => match us, hl with | [_], _ => rfl
  have D_is_value := df_mk (st := s_is_value) l_is_value c_is_value k_is_value
  have b_is_value : Binds K (PySem.W.fnOf "is_value" "is_value" (defArgs s_is_value) (defBody s_is_value) (defScope s_is_value) .none kV_is_value dc_is_value pm_is_value an_is_value cd_is_value ct_is_value) ["value"] [] := Binds.all fun us hl => match us, hl with | [_], _ => rfl
  have D_is_key := df_mk (st := s_is_key) l_is_key c_is_key k_is_key
  have b_is_key : Binds K (PySem.W.fnOf "is_key" "is_key" (defArgs s_is_key) (defBody s_is_key) (defScope s_is_key) .none kV_is_key dc_is_key pm_is_key an_is_key cd_is_key ct_is_key) ["value"] [] := Binds.all fun us hl => match us, hl with | [_], _ => rfl
  have D_are_alike := df_mk (st := s_are_alike) l_are_alike c_are_alike k_are_alike
  have b_are_alike : Binds K (PySem.W.fnOf "are_alike" "are_alike" (defArgs s_are_alike) (defBody s_are_alike) (defScope s_are_alike) .none kV_are_alike dc_are_alike pm_are_alike an_are_alike cd_are_alike ct_are_alike) ["one", "other"] [] := Binds.all fun us hl => match us, hl with | [_, _], _ => rfl
  have D_check_mappings := df_mk (st := s_check_mappings) l_check_mappings c_check_mappings k_check_mappings
  have D_has_changed := df_mk (st := s_has_changed) l_has_changed c_has_changed k_has_changed
  have b_has_changed : Binds K (PySem.W.fnOf "has_changed" "has_changed" (defArgs s_has_changed) (defBody s_has_changed) (defScope s_has_changed) .none kV_has_changed dc_has_changed pm_has_changed an_has_changed cd_has_changed ct_has_changed) ["base", "one", "key"] [] := Binds.all fun us hl => match us, hl with | [_, _, _], _ => rfl
  have D_are_one_change := df_mk (st := s_are_one_change) l_are_one_change c_are_one_change k_are_one_change
  have b_are_one_change : Binds K (PySem.W.fnOf "are_one_change" "are_one_change" (defArgs s_are_one_change) (defBody s_are_one_change) (defScope s_are_one_change) .none kV_are_one_change dc_are_one_change pm_are_one_change an_are_one_change cd_are_one_change ct_are_one_change) ["one", "other", "key"] [] := Binds.all fun us hl => match us, hl with | [_, _, _], _ => rfl
  have D_all_conflicts := df_mk (st := s_all_conflicts) l_all_conflicts c_all_conflicts k_all_conflicts
  have b_all_conflicts : Binds K (PySem.W.fnOf "all_conflicts" "all_conflicts" (defArgs s_all_conflicts) (defBody s_all_conflicts) (defScope s_all_conflicts) .none kV_all_conflicts dc_all_conflicts pm_all_conflicts an_all_conflicts cd_all_conflicts ct_all_conflicts) ["base", "one", "other"] [] := Binds.all fun us hl => match us, hl with | [_, _, _], _ => rfl
  have D_are_same := df_mk (st := s_are_same) l_are_same c_are_same k_are_same
  have b_are_same : Binds K (PySem.W.fnOf "are_same" "are_same" (defArgs s_are_same) (defBody s_are_same) (defScope s_are_same) .none kV_are_same dc_are_same pm_are_same an_are_same cd_are_same ct_are_same) ["one", "other"] [] := Binds.all fun us hl => match us, hl with | [_, _], _ => rfl
  have D_conflicts := df_mk (st := s_conflicts) l_conflicts c_conflicts k_conflicts
  have b_conflicts : Binds K (PySem.W.fnOf "conflicts" "conflicts" (defArgs s_conflicts) (defBody s_conflicts) (defScope s_conflicts) .none kV_conflicts dc_conflicts pm_conflicts an_conflicts cd_conflicts ct_conflicts) ["base", "one", "other"] [] := Binds.all fun us hl => match us, hl with | [_, _, _], _ => rfl
  have D_applied := df_mk (st := s_applied) l_applied c_applied k_applied
  have b_applied : Binds K (PySem.W.fnOf "applied" "applied" (defArgs s_applied) (defBody s_applied) (defScope s_applied) .none kV_applied dc_applied pm_applied an_applied cd_applied ct_applied) ["mapping", "deeds"] [] := Binds.all fun us hl => match us, hl with | [_, _], _ => rfl
  have D_merged := df_mk (st := s_merged) l_merged c_merged k_merged
  have b_merged : Binds K (PySem.W.fnOf "merged" "merged" (defArgs s_merged) (defBody s_merged) (defScope s_merged) .none kV_merged dc_merged pm_merged an_merged cd_merged ct_merged) ["base", "one", "other"] [] := Binds.all fun us hl => match us, hl with | [_, _, _], _ => rfl
  have D_l_pick := df_mk (st := s_l_pick) l_l_pick c_l_pick k_l_pick
  have b_l_pick : Binds K (PySem.W.fnOf "_law_pick" "_law_pick" (defArgs s_l_pick) (defBody s_l_pick) (defScope s_l_pick) .none kV_l_pick dc_l_pick pm_l_pick an_l_pick cd_l_pick ct_l_pick) ["_law_source_here", "_law_amount"] [] := Binds.all fun us hl => match us, hl with | [_, _], _ => rfl
  have D_l_source := df_mk (st := s_l_source) l_l_source c_l_source k_l_source
  have b_l_source : Binds K (PySem.W.fnOf "_law_source" "_law_source" (defArgs s_l_source) (defBody s_l_source) (defScope s_l_source) .none kV_l_source dc_l_source pm_l_source an_l_source cd_l_source ct_l_source) ["_law_script", "_law_k"] [] := Binds.all fun us hl => match us, hl with | [_, _], _ => rfl
  have D_l_string := df_mk (st := s_l_string) l_l_string c_l_string k_l_string
  have b_l_string : Binds K (PySem.W.fnOf "_law_string" "_law_string" (defArgs s_l_string) (defBody s_l_string) (defScope s_l_string) .none kV_l_string dc_l_string pm_l_string an_l_string cd_l_string ct_l_string) ["_law_source_here"] [] := Binds.all fun us hl => match us, hl with | [_], _ => rfl
  have D_l_mapping := df_mk (st := s_l_mapping) l_l_mapping c_l_mapping k_l_mapping
  have b_l_mapping : Binds K (PySem.W.fnOf "_law_mapping" "_law_mapping" (defArgs s_l_mapping) (defBody s_l_mapping) (defScope s_l_mapping) .none kV_l_mapping dc_l_mapping pm_l_mapping an_l_mapping cd_l_mapping ct_l_mapping) ["_law_source_here", "_law_most"] [] := Binds.all fun us hl => match us, hl with | [_, _], _ => rfl
  have D_l_deeds := df_mk (st := s_l_deeds) l_l_deeds c_l_deeds k_l_deeds
  have b_l_deeds : Binds K (PySem.W.fnOf "_law_deeds" "_law_deeds" (defArgs s_l_deeds) (defBody s_l_deeds) (defScope s_l_deeds) .none kV_l_deeds dc_l_deeds pm_l_deeds an_l_deeds cd_l_deeds ct_l_deeds) ["_law_source_here", "_law_most"] [] := Binds.all fun us hl => match us, hl with | [_, _], _ => rfl
  have D_l_done := df_mk (st := s_l_done) l_l_done c_l_done k_l_done
  have b_l_done : Binds K (PySem.W.fnOf "_law_done" "_law_done" (defArgs s_l_done) (defBody s_l_done) (defScope s_l_done) .none kV_l_done dc_l_done pm_l_done an_l_done cd_l_done ct_l_done) ["_law_mapping_here", "_law_deeds_here"] [] := Binds.all fun us hl => match us, hl with | [_, _], _ => rfl
  have D_l_at := df_mk (st := s_l_at) l_l_at c_l_at k_l_at
  have b_l_at : Binds K (PySem.W.fnOf "_law_at" "_law_at" (defArgs s_l_at) (defBody s_l_at) (defScope s_l_at) .none kV_l_at dc_l_at pm_l_at an_l_at cd_l_at ct_l_at) ["_law_mapping_here", "_law_key"] [] := Binds.all fun us hl => match us, hl with | [_, _], _ => rfl
  have D_l_conflicts := df_mk (st := s_l_conflicts) l_l_conflicts c_l_conflicts k_l_conflicts
  have b_l_conflicts : Binds K (PySem.W.fnOf "_law_conflicts" "_law_conflicts" (defArgs s_l_conflicts) (defBody s_l_conflicts) (defScope s_l_conflicts) .none kV_l_conflicts dc_l_conflicts pm_l_conflicts an_l_conflicts cd_l_conflicts ct_l_conflicts) ["_law_base", "_law_one", "_law_other"] [] := Binds.all fun us hl => match us, hl with | [_, _, _], _ => rfl
  have D_l_merged := df_mk (st := s_l_merged) l_l_merged c_l_merged k_l_merged
  have b_l_merged : Binds K (PySem.W.fnOf "_law_merged" "_law_merged" (defArgs s_l_merged) (defBody s_l_merged) (defScope s_l_merged) .none kV_l_merged dc_l_merged pm_l_merged an_l_merged cd_l_merged ct_l_merged) ["_law_base", "_law_one", "_law_other"] [] := Binds.all fun us hl => match us, hl with | [_, _, _], _ => rfl
  have D_l_told := df_mk (st := s_l_told) l_l_told c_l_told k_l_told
  have b_l_told : Binds K (PySem.W.fnOf "_law_told" "_law_told" (defArgs s_l_told) (defBody s_l_told) (defScope s_l_told) .none kV_l_told dc_l_told pm_l_told an_l_told cd_l_told ct_l_told) ["_law_base", "_law_one", "_law_other"] [] := Binds.all fun us hl => match us, hl with | [_, _, _], _ => rfl
  have D_l_listed := df_mk (st := s_l_listed) l_l_listed c_l_listed k_l_listed
  have b_l_listed : Binds K (PySem.W.fnOf "_law_listed" "_law_listed" (defArgs s_l_listed) (defBody s_l_listed) (defScope s_l_listed) .none kV_l_listed dc_l_listed pm_l_listed an_l_listed cd_l_listed ct_l_listed) ["_law_base", "_law_one", "_law_other"] [] := Binds.all fun us hl => match us, hl with | [_, _, _], _ => rfl
  have D_l_right := df_mk (st := s_l_right) l_l_right c_l_right k_l_right
  have b_l_right : Binds K (PySem.W.fnOf "_law_right" "_law_right" (defArgs s_l_right) (defBody s_l_right) (defScope s_l_right) .none kV_l_right dc_l_right pm_l_right an_l_right cd_l_right ct_l_right) ["_law_base", "_law_one", "_law_other"] [] := Binds.all fun us hl => match us, hl with | [_, _, _], _ => rfl
  have D_law := df_mk (st := s_law) l_law c_law k_law
  have b_law : Binds K (PySem.W.fnOf "law" "law" (defArgs s_law) (defBody s_law) (defScope s_law) .none kV_law dc_law pm_law an_law cd_law ct_law) ["_law_script"] [] := Binds.all fun us hl => match us, hl with | [_], _ => rfl
  have D_wrong_path := df_mk (st := s_wrong_path) l_wrong_path c_wrong_path k_wrong_path
  have b_wrong_path : Binds K (PySem.W.fnOf "wrong_path" "wrong_path" (defArgs s_wrong_path) (defBody s_wrong_path) (defScope s_wrong_path) .none kV_wrong_path dc_wrong_path pm_wrong_path an_wrong_path cd_wrong_path ct_wrong_path) ["value", "path"] [] := Binds.all fun us hl => match us, hl with | [_, _], _ => rfl
  have D_rebuilt := df_mk (st := s_rebuilt) l_rebuilt c_rebuilt k_rebuilt
  have b_rebuilt : Binds K (PySem.W.fnOf "rebuilt" "rebuilt" (defArgs s_rebuilt) (defBody s_rebuilt) (defScope s_rebuilt) .none kV_rebuilt dc_rebuilt pm_rebuilt an_rebuilt cd_rebuilt ct_rebuilt) ["value"] [] := Binds.all fun us hl => match us, hl with | [_], _ => rfl
  have D_value_notation := df_mk (st := s_value_notation) l_value_notation c_value_notation k_value_notation
  have b_value_notation : Binds K (PySem.W.fnOf "value_notation" "value_notation" (defArgs s_value_notation) (defBody s_value_notation) (defScope s_value_notation) .none kV_value_notation dc_value_notation pm_value_notation an_value_notation cd_value_notation ct_value_notation) ["value"] [] := Binds.all fun us hl => match us, hl with | [_], _ => rfl
  have D_l_value := df_mk (st := s_l_value) l_l_value c_l_value k_l_value
  have b_l_value : Binds K (PySem.W.fnOf "_law_value" "_law_value" (defArgs s_l_value) (defBody s_l_value) (defScope s_l_value) .none kV_l_value dc_l_value pm_l_value an_l_value cd_l_value ct_l_value) ["_law_source_here", "_law_depth"] [] := Binds.all fun us hl => match us, hl with | [_, _], _ => rfl
  refine ⟨PySem.W.fnOf "law" "law" (defArgs s_law) (defBody s_law) (defScope s_law) .none kV_law dc_law pm_law an_law cd_law ct_law, [], (sp_law K), (fun _ h => nomatch h), (fun _ h => nomatch h), (fun _ h => nomatch h), fun s v => .of_eq rfl, fun H a ns hl hc hS => ⟨_, rfl, a, ns, rfl, hS, by omega, fun _ => rfl⟩, fun base KB GB SM TBs => ?_⟩
  have T : Txt ⟨l.prog, w, K, mg, base⟩ := { b_len := PySem.W.mg_none_of X G b_len, b_isinstance := PySem.W.mg_none_of X G b_isinstance, b_repr := PySem.W.mg_none_of X G b_repr, b_enumerate := PySem.W.mg_none_of X G b_enumerate, b_range := PySem.W.mg_none_of X G b_range, b_list := PySem.W.mg_none_of X G b_list, b_tuple := PySem.W.mg_none_of X G b_tuple, b_dict := PySem.W.mg_none_of X G b_dict, b_bool := PySem.W.mg_none_of X G b_bool, b_int := PySem.W.mg_none_of X G b_int, b_str := PySem.W.mg_none_of X G b_str, b_abs := PySem.W.mg_none_of X G b_abs, b_all := PySem.W.mg_none_of X G b_all, b_sorted := PySem.W.mg_none_of X G b_sorted, b_set := PySem.W.mg_none_of X G b_set, b_max := PySem.W.mg_none_of X G b_max, b_min := PySem.W.mg_none_of X G b_min, nd := nd, c_MOST_DIGITS := ⟨_, PySem.W.mg_of X G v_MOST_DIGITS, _, rfl⟩, c_MOST_ITEMS := ⟨_, PySem.W.mg_of X G v_MOST_ITEMS, _, rfl⟩, c_MOST_LEVELS := ⟨_, PySem.W.mg_of X G v_MOST_LEVELS, _, rfl⟩, c_MOST_KEY := ⟨_, PySem.W.mg_of X G v_MOST_KEY, _, rfl⟩ }
  have X_Conflict : XK1 ⟨l.prog, w, K, mg, base⟩ "Conflict" C_Conflict "given" := ⟨PySem.W.mg_of X G aC_Conflict, PySem.W.mg_none_of X G b_super, xb_Conflict.kp, xb_Conflict.hd, xb_Conflict.sa, nf_Conflict, _, _, _, _, _, _, _, _, _, _, xc_mk PySem.F.excBase_RuntimeError PySem.W.kxs_RuntimeError PySem.F.store_RuntimeError xa xb_Conflict in_Conflict l_Conflict co_Conflict fi_Conflict fe_Conflict ce_Conflict, xst_Conflict⟩
  have RE_Conflict : PySem.W.subIn K (.ref C_Conflict) (.type "BaseException") = some true ∧ PySem.W.typeIn K (.ref C_Conflict) = some (.type "type") := ⟨xb_Conflict.hs, tyX_Conflict⟩
  have X_InvalidMapping : XK1 ⟨l.prog, w, K, mg, base⟩ "InvalidMapping" C_InvalidMapping "given" := ⟨PySem.W.mg_of X G aC_InvalidMapping, PySem.W.mg_none_of X G b_super, xb_InvalidMapping.kp, xb_InvalidMapping.hd, xb_InvalidMapping.sa, nf_InvalidMapping, _, _, _, _, _, _, _, _, _, _, xc_mk PySem.F.excBase_ValueError PySem.W.kxs_ValueError PySem.F.store_ValueError xa xb_InvalidMapping in_InvalidMapping l_InvalidMapping co_InvalidMapping fi_InvalidMapping fe_InvalidMapping ce_InvalidMapping, xst_InvalidMapping⟩
  have RE_InvalidMapping : PySem.W.subIn K (.ref C_InvalidMapping) (.type "BaseException") = some true ∧ PySem.W.typeIn K (.ref C_InvalidMapping) = some (.type "type") := ⟨xb_InvalidMapping.hs, tyX_InvalidMapping⟩
  have V_Conflict : Gv ⟨l.prog, w, K, mg, base⟩ "Conflict" (.ref C_Conflict) := ⟨_, PySem.W.mg_of X G aC_Conflict, rfl⟩
  have V_InvalidMapping : Gv ⟨l.prog, w, K, mg, base⟩ "InvalidMapping" (.ref C_InvalidMapping) := ⟨_, PySem.W.mg_of X G aC_InvalidMapping, rfl⟩
  obtain ⟨kE, e34, e92, e10, eN⟩ := esc_tab (w := w) lk_ESC e1_ESC e2_ESC e3_ESC lo_ESC
  have TN : TxN ⟨l.prog, w, K, mg, base⟩ A_ESC := { toTxt := T, c_ESCAPES := ⟨_, PySem.W.mg_of X G v_ESCAPES, rfl⟩, kE := kE, e34 := e34, e92 := e92, e10 := e10, eN := eN }
  have O_items := ok_items (g := ⟨l.prog, w, K, mg, base⟩)  D_items_of T
  have O_wrong := ok_wrong (g := ⟨l.prog, w, K, mg, base⟩)  D_is_wrong_part T
  have O_snote := ok_snote (g := ⟨l.prog, w, K, mg, base⟩)  D_string_notation TN
  have F_is_wrong_part : Kn ⟨l.prog, w, K, mg, base⟩ "is_wrong_part" 1 ["value", "depth"] [] sp_wrong := ⟨_, _, [], PySem.W.mg_of X G a_is_wrong_part, k_is_wrong_part, (O_wrong.mono (by decide)), b_is_wrong_part, .nil⟩
  have F_items_of : Kn ⟨l.prog, w, K, mg, base⟩ "items_of" 1 ["value"] [] sp_items := ⟨_, _, [], PySem.W.mg_of X G a_items_of, k_items_of, (O_items.mono (by decide)), b_items_of, .nil⟩
  have R_wrong_path : ∀ n, Kn ⟨l.prog, w, K, mg, base⟩ "wrong_path" (n + 1) ["value", "path"] [] (sp_path n) := kn_rec (g := ⟨l.prog, w, K, mg, base⟩) (PySem.W.mg_of X G a_wrong_path) k_wrong_path b_wrong_path (fun vs H Q E z => by obtain ⟨v, u, _, d, fp, a, ps, _, _, _, _, _, h, _⟩ := z; exact absurd h (Nat.not_lt_zero _)) fun n F => ok_path n D_wrong_path T F_is_wrong_part F_items_of F
  have F_wrong_path : Kn ⟨l.prog, w, K, mg, base⟩ "wrong_path" 9 ["value", "path"] [] (sp_path 8) := R_wrong_path 8
  have O_check := ok_check (g := ⟨l.prog, w, K, mg, base⟩)  D_check_value T F_wrong_path
  have R_rebuilt : ∀ n, Kn ⟨l.prog, w, K, mg, base⟩ "rebuilt" (n + 1) ["value"] [] (sp_reb n) := kn_rec (g := ⟨l.prog, w, K, mg, base⟩) (PySem.W.mg_of X G a_rebuilt) k_rebuilt b_rebuilt (fun vs H Q E z => by obtain ⟨v, _, d, fp, _, _, h, _⟩ := z; exact absurd h (Nat.not_lt_zero _)) fun n F => ok_reb n D_rebuilt T F
  have F_rebuilt : Kn ⟨l.prog, w, K, mg, base⟩ "rebuilt" 9 ["value"] [] (sp_reb 8) := R_rebuilt 8
  have F_check_value : Kn ⟨l.prog, w, K, mg, base⟩ "check_value" 10 ["value"] [] sp_check := ⟨_, _, [], PySem.W.mg_of X G a_check_value, k_check_value, (O_check.mono (by decide)), b_check_value, .nil⟩
  have O_copied := ok_copied (g := ⟨l.prog, w, K, mg, base⟩)  D_copied T F_check_value F_rebuilt
  have O_isv := ok_isv (g := ⟨l.prog, w, K, mg, base⟩)  D_is_value T F_wrong_path
  have O_iskey := ok_iskey (g := ⟨l.prog, w, K, mg, base⟩)  D_is_key T
  have F_string_notation : Kn ⟨l.prog, w, K, mg, base⟩ "string_notation" 1 ["text"] [] sp_snote := ⟨_, _, [], PySem.W.mg_of X G a_string_notation, k_string_notation, (O_snote.mono (by decide)), b_string_notation, .nil⟩
  have R_value_notation : ∀ n, Kn ⟨l.prog, w, K, mg, base⟩ "value_notation" (n + 1) ["value"] [] (sp_vnote n) := kn_rec (g := ⟨l.prog, w, K, mg, base⟩) (PySem.W.mg_of X G a_value_notation) k_value_notation b_value_notation (fun vs H Q E z => by obtain ⟨v, _, d, fp, _, _, h, _⟩ := z; exact absurd h (Nat.not_lt_zero _)) fun n F => ok_vnote n D_value_notation T F_string_notation F
  have F_value_notation : Kn ⟨l.prog, w, K, mg, base⟩ "value_notation" 9 ["value"] [] (sp_vnote 8) := R_value_notation 8
  have O_alike := ok_alike (g := ⟨l.prog, w, K, mg, base⟩)  D_are_alike T F_value_notation
  have F_is_key : Kn ⟨l.prog, w, K, mg, base⟩ "is_key" 1 ["value"] [] sp_iskey := ⟨_, _, [], PySem.W.mg_of X G a_is_key, k_is_key, (O_iskey.mono (by decide)), b_is_key, .nil⟩
  have F_is_value : Kn ⟨l.prog, w, K, mg, base⟩ "is_value" 10 ["value"] [] sp_isv := ⟨_, _, [], PySem.W.mg_of X G a_is_value, k_is_value, (O_isv.mono (by decide)), b_is_value, .nil⟩
  have O_cmaps := ok_cmaps (g := ⟨l.prog, w, K, mg, base⟩)  D_check_mappings (fun us rest hl => match us, rest, hl with | [], [], _ => rfl | [], _ :: _, _ => rfl) T F_is_key F_is_value X_InvalidMapping RE_InvalidMapping
  have F_are_alike : Kn ⟨l.prog, w, K, mg, base⟩ "are_alike" 10 ["one", "other"] [] sp_alike := ⟨_, _, [], PySem.W.mg_of X G a_are_alike, k_are_alike, (O_alike.mono (by decide)), b_are_alike, .nil⟩
  have O_hasc := ok_hasc (g := ⟨l.prog, w, K, mg, base⟩)  D_has_changed T F_are_alike
  have O_onec := ok_onec (g := ⟨l.prog, w, K, mg, base⟩)  D_are_one_change T F_are_alike
  have F_has_changed : Kn ⟨l.prog, w, K, mg, base⟩ "has_changed" 11 ["base", "one", "key"] [] sp_hasc := ⟨_, _, [], PySem.W.mg_of X G a_has_changed, k_has_changed, (O_hasc.mono (by decide)), b_has_changed, .nil⟩
  have F_are_one_change : Kn ⟨l.prog, w, K, mg, base⟩ "are_one_change" 11 ["one", "other", "key"] [] sp_onec := ⟨_, _, [], PySem.W.mg_of X G a_are_one_change, k_are_one_change, (O_onec.mono (by decide)), b_are_one_change, .nil⟩
  have O_allc := ok_allc (g := ⟨l.prog, w, K, mg, base⟩)  D_all_conflicts T F_has_changed F_are_one_change
  have F_check_mappings : KnS ⟨l.prog, w, K, mg, base⟩ "check_mappings" 12 (spS 0 sp_cmaps) := ⟨_, PySem.W.mg_of X G a_check_mappings, k_check_mappings, O_cmaps⟩
  have O_same := ok_same (g := ⟨l.prog, w, K, mg, base⟩)  D_are_same T F_check_mappings F_are_alike
  have F_all_conflicts : Kn ⟨l.prog, w, K, mg, base⟩ "all_conflicts" 12 ["base", "one", "other"] [] sp_allc := ⟨_, _, [], PySem.W.mg_of X G a_all_conflicts, k_all_conflicts, (O_allc.mono (by decide)), b_all_conflicts, .nil⟩
  have O_confK := ok_confK (g := ⟨l.prog, w, K, mg, base⟩)  D_conflicts T F_check_mappings F_all_conflicts
  have F_copied : Kn ⟨l.prog, w, K, mg, base⟩ "copied" 11 ["value"] [] sp_copied := ⟨_, _, [], PySem.W.mg_of X G a_copied, k_copied, (O_copied.mono (by decide)), b_copied, .nil⟩
  have O_applied := ok_applied (g := ⟨l.prog, w, K, mg, base⟩)  D_applied T F_copied
  have F_applied : Kn ⟨l.prog, w, K, mg, base⟩ "applied" 12 ["mapping", "deeds"] [] sp_applied := ⟨_, _, [], PySem.W.mg_of X G a_applied, k_applied, (O_applied.mono (by decide)), b_applied, .nil⟩
  have O_merged := ok_merged (g := ⟨l.prog, w, K, mg, base⟩)  D_merged T F_check_mappings F_all_conflicts F_has_changed F_applied X_Conflict RE_Conflict
  have O_pick := ok_pick (g := ⟨l.prog, w, K, mg, base⟩)  D_l_pick T
  have O_source := ok_source (g := ⟨l.prog, w, K, mg, base⟩)  D_l_source T
  have F_l_pick : Kn ⟨l.prog, w, K, mg, base⟩ "_law_pick" 1 ["_law_source_here", "_law_amount"] [] sp_pick := ⟨_, _, [], PySem.W.mg_of X G a_l_pick, k_l_pick, (O_pick.mono (by decide)), b_l_pick, .nil⟩
  have O_string := ok_string (g := ⟨l.prog, w, K, mg, base⟩)  D_l_string T F_l_pick
  have F_l_string : Kn ⟨l.prog, w, K, mg, base⟩ "_law_string" 2 ["_law_source_here"] [] sp_string := ⟨_, _, [], PySem.W.mg_of X G a_l_string, k_l_string, (O_string.mono (by decide)), b_l_string, .nil⟩
  have R_l_value : ∀ n, Kn ⟨l.prog, w, K, mg, base⟩ "_law_value" (n + 3) ["_law_source_here", "_law_depth"] [] (sp_value n) := kn_rec (g := ⟨l.prog, w, K, mg, base⟩) (PySem.W.mg_of X G a_l_value) k_l_value b_l_value (fun vs H Q E z => by obtain ⟨v, u, _, a, n, h, _⟩ := z; exact absurd h (by omega)) fun n F => ok_value n D_l_value T F_l_pick F_l_string F
  have F_l_value : Kn ⟨l.prog, w, K, mg, base⟩ "_law_value" 5 ["_law_source_here", "_law_depth"] [] (sp_value 2) := R_l_value 2
  have O_mapping := ok_mapping (g := ⟨l.prog, w, K, mg, base⟩)  D_l_mapping T F_l_pick F_l_value
  have O_deeds := ok_deeds (g := ⟨l.prog, w, K, mg, base⟩)  D_l_deeds T F_l_pick F_l_value
  have O_done := ok_done (g := ⟨l.prog, w, K, mg, base⟩)  D_l_done T
  have O_at := ok_at (g := ⟨l.prog, w, K, mg, base⟩)  D_l_at T SM
  have F_l_at : Kn ⟨l.prog, w, K, mg, base⟩ "_law_at" 1 ["_law_mapping_here", "_law_key"] [] sp_at := ⟨_, _, [], PySem.W.mg_of X G a_l_at, k_l_at, (O_at.mono (by decide)), b_l_at, .nil⟩
  have O_lconf := ok_lconf (g := ⟨l.prog, w, K, mg, base⟩)  D_l_conflicts T F_l_at
  have F_l_done : Kn ⟨l.prog, w, K, mg, base⟩ "_law_done" 1 ["_law_mapping_here", "_law_deeds_here"] [] sp_done := ⟨_, _, [], PySem.W.mg_of X G a_l_done, k_l_done, (O_done.mono (by decide)), b_l_done, .nil⟩
  have O_lmerged := ok_lmerged (g := ⟨l.prog, w, K, mg, base⟩)  D_l_merged T F_l_at F_l_done
  have F_merged : Kn ⟨l.prog, w, K, mg, base⟩ "merged" 13 ["base", "one", "other"] [] (sp_merged C_Conflict) := ⟨_, _, [], PySem.W.mg_of X G a_merged, k_merged, (O_merged.mono (by decide)), b_merged, .nil⟩
  have O_told := ok_told (g := ⟨l.prog, w, K, mg, base⟩)  D_l_told T F_merged (PySem.W.mg_of X G aC_Conflict) xb_Conflict.xf nf_Conflict hexC
  have GF_conflicts : Kgf ⟨l.prog, w, K, mg, base⟩ "conflicts" 13 ["base", "one", "other"] [] sp_confK := ⟨_, _, [], PySem.W.mg_of X G a_conflicts, k_conflicts, O_confK, b_conflicts, .nil⟩
  have O_listed := ok_listed (g := ⟨l.prog, w, K, mg, base⟩)  D_l_listed T GF_conflicts
  have F_l_conflicts : Kn ⟨l.prog, w, K, mg, base⟩ "_law_conflicts" 2 ["_law_base", "_law_one", "_law_other"] [] sp_lconf := ⟨_, _, [], PySem.W.mg_of X G a_l_conflicts, k_l_conflicts, (O_lconf.mono (by decide)), b_l_conflicts, .nil⟩
  have F_l_merged : Kn ⟨l.prog, w, K, mg, base⟩ "_law_merged" 2 ["_law_base", "_law_one", "_law_other"] [] sp_lmerged := ⟨_, _, [], PySem.W.mg_of X G a_l_merged, k_l_merged, (O_lmerged.mono (by decide)), b_l_merged, .nil⟩
  have F_l_told : Kn ⟨l.prog, w, K, mg, base⟩ "_law_told" 14 ["_law_base", "_law_one", "_law_other"] [] (sp_told C_Conflict) := ⟨_, _, [], PySem.W.mg_of X G a_l_told, k_l_told, (O_told.mono (by decide)), b_l_told, .nil⟩
  have F_l_listed : Kn ⟨l.prog, w, K, mg, base⟩ "_law_listed" 15 ["_law_base", "_law_one", "_law_other"] [] sp_listed := ⟨_, _, [], PySem.W.mg_of X G a_l_listed, k_l_listed, (O_listed.mono (by decide)), b_l_listed, .nil⟩
  have F_are_same : Kn ⟨l.prog, w, K, mg, base⟩ "are_same" 13 ["one", "other"] [] sp_same := ⟨_, _, [], PySem.W.mg_of X G a_are_same, k_are_same, (O_same.mono (by decide)), b_are_same, .nil⟩
  have O_right := ok_right (g := ⟨l.prog, w, K, mg, base⟩)  D_l_right T SM F_l_at F_l_conflicts F_l_merged F_l_told F_l_listed F_merged F_are_same
  have F_l_source : Kn ⟨l.prog, w, K, mg, base⟩ "_law_source" 1 ["_law_script", "_law_k"] [] (sp_source K) := ⟨_, _, [], PySem.W.mg_of X G a_l_source, k_l_source, (O_source.mono (by decide)), b_l_source, .nil⟩
  have F_l_mapping : Kn ⟨l.prog, w, K, mg, base⟩ "_law_mapping" 6 ["_law_source_here", "_law_most"] [] sp_mapping := ⟨_, _, [], PySem.W.mg_of X G a_l_mapping, k_l_mapping, (O_mapping.mono (by decide)), b_l_mapping, .nil⟩
  have F_l_deeds : Kn ⟨l.prog, w, K, mg, base⟩ "_law_deeds" 6 ["_law_source_here", "_law_most"] [] sp_deeds := ⟨_, _, [], PySem.W.mg_of X G a_l_deeds, k_l_deeds, (O_deeds.mono (by decide)), b_l_deeds, .nil⟩
  have F_l_right : Kn ⟨l.prog, w, K, mg, base⟩ "_law_right" 16 ["_law_base", "_law_one", "_law_other"] [] sp_right := ⟨_, _, [], PySem.W.mg_of X G a_l_right, k_l_right, (O_right.mono (by decide)), b_l_right, .nil⟩
  exact ok_law (g := ⟨l.prog, w, K, mg, base⟩) D_law T F_l_source F_l_pick F_l_mapping F_l_deeds F_l_done F_l_right F_merged
end K62
open PySem PySem.W PyProof.Rows
local macro_rules | `(tactic| o_head ($f:ident $k $a $e)) => `(tactic| o_head (RS.smHook ($f $k $a $e)))
set_option maxRecDepth 100000 in
set_option maxHeartbeats 0 in
theorem PySem.Challenge.cw_recordshelf_k62_whole_merges_holds : PySem.Challenge.rw_recordshelf_k62_whole_merges.Holds := by
  w_on; o_law; k_head; (case hw => w_witness2)
  k_fill
  refine RS.walkT (l := PySem.Challenge.rw_recordshelf_k62_whole_merges) (n := 63) (k := 17) (x := "_law_script") rfl (by decide) rfl ⟨rfl, by decide, by decide⟩ (fun w h Y => PySem.W.kIn_of Y.1) (fun w h Y => Y.2) ?F
  case F =>
    intro w mg fa h Y KX G hmg TF
    refine' K62.all_mk (l := PySem.Challenge.rw_recordshelf_k62_whole_merges) KX G hmg TF ?b_super ?xa ?aC_Conflict ?in_Conflict ?l_Conflict ?co_Conflict ?fi_Conflict ?fe_Conflict ?ce_Conflict ?xb_Conflict ?nf_Conflict ?aC_InvalidMapping ?in_InvalidMapping ?l_InvalidMapping ?co_InvalidMapping ?fi_InvalidMapping ?fe_InvalidMapping ?ce_InvalidMapping ?xb_InvalidMapping ?nf_InvalidMapping ?tyX_Conflict ?tyX_InvalidMapping ?a_items_of ?l_items_of ?c_items_of ?k_items_of ?a_is_wrong_part ?l_is_wrong_part ?c_is_wrong_part ?k_is_wrong_part ?a_string_notation ?l_string_notation ?c_string_notation ?k_string_notation ?a_check_value ?l_check_value ?c_check_value ?k_check_value ?a_copied ?l_copied ?c_copied ?k_copied ?a_is_value ?l_is_value ?c_is_value ?k_is_value ?a_is_key ?l_is_key ?c_is_key ?k_is_key ?a_are_alike ?l_are_alike ?c_are_alike ?k_are_alike ?a_check_mappings ?l_check_mappings ?c_check_mappings ?k_check_mappings ?a_has_changed ?l_has_changed ?c_has_changed ?k_has_changed ?a_are_one_change ?l_are_one_change ?c_are_one_change ?k_are_one_change ?a_all_conflicts ?l_all_conflicts ?c_all_conflicts ?k_all_conflicts ?a_are_same ?l_are_same ?c_are_same ?k_are_same ?a_conflicts ?l_conflicts ?c_conflicts ?k_conflicts ?a_applied ?l_applied ?c_applied ?k_applied ?a_merged ?l_merged ?c_merged ?k_merged ?a_l_pick ?l_l_pick ?c_l_pick ?k_l_pick ?a_l_source ?l_l_source ?c_l_source ?k_l_source ?a_l_string ?l_l_string ?c_l_string ?k_l_string ?a_l_mapping ?l_l_mapping ?c_l_mapping ?k_l_mapping ?a_l_deeds ?l_l_deeds ?c_l_deeds ?k_l_deeds ?a_l_done ?l_l_done ?c_l_done ?k_l_done ?a_l_at ?l_l_at ?c_l_at ?k_l_at ?a_l_conflicts ?l_l_conflicts ?c_l_conflicts ?k_l_conflicts ?a_l_merged ?l_l_merged ?c_l_merged ?k_l_merged ?a_l_told ?l_l_told ?c_l_told ?k_l_told ?a_l_listed ?l_l_listed ?c_l_listed ?k_l_listed ?a_l_right ?l_l_right ?c_l_right ?k_l_right ?a_law ?l_law ?c_law ?k_law ?a_wrong_path ?l_wrong_path ?c_wrong_path ?k_wrong_path ?a_rebuilt ?l_rebuilt ?c_rebuilt ?k_rebuilt ?a_value_notation ?l_value_notation ?c_value_notation ?k_value_notation ?a_l_value ?l_l_value ?c_l_value ?k_l_value ?b_len ?b_isinstance ?b_repr ?b_enumerate ?b_range ?b_list ?b_tuple ?b_dict ?b_bool ?b_int ?b_str ?b_abs ?b_all ?b_sorted ?b_set ?b_max ?b_min ?v_MOST_DIGITS ?v_MOST_ITEMS ?v_MOST_LEVELS ?v_MOST_KEY ?nd ?v_ESCAPES ?lk_ESC ?e1_ESC ?e2_ESC ?e3_ESC ?lo_ESC ?hexC
    (case b_super => k_is)
    (case xa => exact ⟨by kernel_rfl, by kernel_rfl, by kernel_rfl, by kernel_rfl⟩)
    (case aC_Conflict => k_is)
    (case in_Conflict => k_is)
    (case l_Conflict => k_is)
    (case co_Conflict => k_is)
    (case fi_Conflict => exact rfl)
    (case fe_Conflict => kernel_rfl)
    (case ce_Conflict => k_is)
    (case xb_Conflict => exact ⟨by kernel_rfl, by kernel_rfl, by kernel_rfl, by kernel_rfl, by kernel_rfl, by kernel_rfl, by kernel_rfl, by kernel_rfl, by kernel_rfl, by kernel_rfl, by kernel_rfl, by kernel_rfl, by kernel_rfl, by kernel_rfl, by kernel_rfl⟩)
    (case nf_Conflict => kernel_rfl)
    (case aC_InvalidMapping => k_is)
    (case in_InvalidMapping => k_is)
    (case l_InvalidMapping => k_is)
    (case co_InvalidMapping => k_is)
    (case fi_InvalidMapping => exact rfl)
    (case fe_InvalidMapping => kernel_rfl)
    (case ce_InvalidMapping => k_is)
    (case xb_InvalidMapping => exact ⟨by kernel_rfl, by kernel_rfl, by kernel_rfl, by kernel_rfl, by kernel_rfl, by kernel_rfl, by kernel_rfl, by kernel_rfl, by kernel_rfl, by kernel_rfl, by kernel_rfl, by kernel_rfl, by kernel_rfl, by kernel_rfl, by kernel_rfl⟩)
    (case nf_InvalidMapping => kernel_rfl)
    (case tyX_Conflict => kernel_rfl)
    (case tyX_InvalidMapping => kernel_rfl)
    (case a_items_of => k_is)
    (case l_items_of => k_is)
    (case c_items_of => k_is)
    (case k_items_of => k_is)
    (case a_is_wrong_part => k_is)
    (case l_is_wrong_part => k_is)
    (case c_is_wrong_part => k_is)
    (case k_is_wrong_part => k_is)
    (case a_string_notation => k_is)
    (case l_string_notation => k_is)
    (case c_string_notation => k_is)
    (case k_string_notation => k_is)
    (case a_check_value => k_is)
    (case l_check_value => k_is)
    (case c_check_value => k_is)
    (case k_check_value => k_is)
    (case a_copied => k_is)
    (case l_copied => k_is)
    (case c_copied => k_is)
    (case k_copied => k_is)
    (case a_is_value => k_is)
    (case l_is_value => k_is)
    (case c_is_value => k_is)
    (case k_is_value => k_is)
    (case a_is_key => k_is)
    (case l_is_key => k_is)
    (case c_is_key => k_is)
    (case k_is_key => k_is)
    (case a_are_alike => k_is)
    (case l_are_alike => k_is)
    (case c_are_alike => k_is)
    (case k_are_alike => k_is)
    (case a_check_mappings => k_is)
    (case l_check_mappings => k_is)
    (case c_check_mappings => k_is)
    (case k_check_mappings => k_is)
    (case a_has_changed => k_is)
    (case l_has_changed => k_is)
    (case c_has_changed => k_is)
    (case k_has_changed => k_is)
    (case a_are_one_change => k_is)
    (case l_are_one_change => k_is)
    (case c_are_one_change => k_is)
    (case k_are_one_change => k_is)
    (case a_all_conflicts => k_is)
    (case l_all_conflicts => k_is)
    (case c_all_conflicts => k_is)
    (case k_all_conflicts => k_is)
    (case a_are_same => k_is)
    (case l_are_same => k_is)
    (case c_are_same => k_is)
    (case k_are_same => k_is)
    (case a_conflicts => k_is)
    (case l_conflicts => k_is)
    (case c_conflicts => k_is)
    (case k_conflicts => k_is)
    (case a_applied => k_is)
    (case l_applied => k_is)
    (case c_applied => k_is)
    (case k_applied => k_is)
    (case a_merged => k_is)
    (case l_merged => k_is)
    (case c_merged => k_is)
    (case k_merged => k_is)
    (case a_l_pick => k_is)
    (case l_l_pick => k_is)
    (case c_l_pick => k_is)
    (case k_l_pick => k_is)
    (case a_l_source => k_is)
    (case l_l_source => k_is)
    (case c_l_source => k_is)
    (case k_l_source => k_is)
    (case a_l_string => k_is)
    (case l_l_string => k_is)
    (case c_l_string => k_is)
    (case k_l_string => k_is)
    (case a_l_mapping => k_is)
    (case l_l_mapping => k_is)
    (case c_l_mapping => k_is)
    (case k_l_mapping => k_is)
    (case a_l_deeds => k_is)
    (case l_l_deeds => k_is)
    (case c_l_deeds => k_is)
    (case k_l_deeds => k_is)
    (case a_l_done => k_is)
    (case l_l_done => k_is)
    (case c_l_done => k_is)
    (case k_l_done => k_is)
    (case a_l_at => k_is)
    (case l_l_at => k_is)
    (case c_l_at => k_is)
    (case k_l_at => k_is)
    (case a_l_conflicts => k_is)
    (case l_l_conflicts => k_is)
    (case c_l_conflicts => k_is)
    (case k_l_conflicts => k_is)
    (case a_l_merged => k_is)
    (case l_l_merged => k_is)
    (case c_l_merged => k_is)
    (case k_l_merged => k_is)
    (case a_l_told => k_is)
    (case l_l_told => k_is)
    (case c_l_told => k_is)
    (case k_l_told => k_is)
    (case a_l_listed => k_is)
    (case l_l_listed => k_is)
    (case c_l_listed => k_is)
    (case k_l_listed => k_is)
    (case a_l_right => k_is)
    (case l_l_right => k_is)
    (case c_l_right => k_is)
    (case k_l_right => k_is)
    (case a_law => k_is)
    (case l_law => k_is)
    (case c_law => k_is)
    (case k_law => k_is)
    (case a_wrong_path => k_is)
    (case l_wrong_path => k_is)
    (case c_wrong_path => k_is)
    (case k_wrong_path => k_is)
    (case a_rebuilt => k_is)
    (case l_rebuilt => k_is)
    (case c_rebuilt => k_is)
    (case k_rebuilt => k_is)
    (case a_value_notation => k_is)
    (case l_value_notation => k_is)
    (case c_value_notation => k_is)
    (case k_value_notation => k_is)
    (case a_l_value => k_is)
    (case l_l_value => k_is)
    (case c_l_value => k_is)
    (case k_l_value => k_is)
    (case b_len => k_is)
    (case b_isinstance => k_is)
    (case b_repr => k_is)
    (case b_enumerate => k_is)
    (case b_range => k_is)
    (case b_list => k_is)
    (case b_tuple => k_is)
    (case b_dict => k_is)
    (case b_bool => k_is)
    (case b_int => k_is)
    (case b_str => k_is)
    (case b_abs => k_is)
    (case b_all => k_is)
    (case b_sorted => k_is)
    (case b_set => k_is)
    (case b_max => k_is)
    (case b_min => k_is)
    (case v_MOST_DIGITS => k_is)
    (case v_MOST_ITEMS => k_is)
    (case v_MOST_LEVELS => k_is)
    (case v_MOST_KEY => k_is)
    (case nd => k_is)
    (case v_ESCAPES => k_is)
    (case lk_ESC => k_is)
    (case e1_ESC => exact rfl)
    (case e2_ESC => exact rfl)
    (case e3_ESC => exact rfl)
    (case lo_ESC => exact rfl)
    (case hexC => kernel_rfl)
