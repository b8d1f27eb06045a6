import PyProof.Rows.All
import Wide.All
import OpenK.AllK
import Wide.FinOn
import PyProof.ReprRoads
import HandS.ForMost
import HandS.IsInst
import HandS.Codes
import HandS.Star
import HandS.FStr
import HandS.TupAny
import KE.KDictWalk
import HandS.Defaults
import HandS.DictComp
import HandS.Sort
import HandS.Rev
import KE.KSortTupG
import HandS.More
import PyProof.InstNe
import KE.KDictMeth
import HandS.ListItems
import HandS.WordsDict
import KE.KOpsOwn
import HandS.ClsMeth
import HandS.ExcInit
import PyProof.Draws
import PyProof.EnumMake
import KE.KUnpackStar
import HandS.Strs
import HandS.DeepEq
import HandS.TryOnly
import HandS.ExcOwn
import HandS.Style
import KE.KRevSl
import PyProof.SliceStr2
import HandS.ExcField
import HandS.ExcIs
import KE.KExcIs
import PyProof.ListIndexNeg
import PyProof.Rows.RegReprOcc
import KE.DataEq
import HandS.Deep
import PySem.Challenge.RW_equalunlike_k11_texts_that_are_no_expres
set_option Elab.async false
set_option linter.all false
set_option maxRecDepth 100000
set_option maxHeartbeats 4000000
/-! A layer of ours: defs that are called where no repr is under way. -/
namespace Eu
open PySem PySem.Spec PyProof.Rows L2

/-- room, and no repr under way -/
structure Rm (k : Nat) (A : Around) : Prop where
  rm : Room k A
  gd : A.guards = some []
theorem Rm.mono {j k : Nat} {A : Around} (r : Rm k A) (h : j ≤ k) : Rm j A := ⟨r.rm.mono h, r.gd⟩
theorem Rm.deeper {k : Nat} {A : Around} (r : Rm (k + 1) A) (v : Env) : Rm k (A.deeper v) := ⟨r.rm.deeper v, r.gd⟩
theorem Rm.in1 {k : Nat} {A : Around} (r : Rm (k + 1) A) : Rm k A.in1 := ⟨r.rm.in1, r.gd⟩

/-- a def that keeps a promise wherever no repr is under way -/
structure Ok (P : Program) (w : World) (K : PySem.W.Frag) (mg : Str → Option Value)
    (base : Heap) (CX : CXT) (k : Nat) (f : Addr) (fd : FuncData) (ps : List Str) (sp : Sp) : Prop where
  len : ∀ vs H Q E, sp vs H Q E → vs.length = ps.length
  go : ∀ (A : Around) (out : List Env) (s : Shared) (H : Hp) (ar : Args) (us : List Value) (vs : List V) (Q : VK) (E : XK),
    Rm k A → Env0 P w K mg base A out s H → BindsTo s fd ar (ps.zip us) → Vals vs us → sp vs H Q E →
    codeAny (model P w) A (.call (.ref f) ar) (CR CX out P w H s Q E) s

section
variable {P : Program} {w : World} {K : PySem.W.Frag} {mg : Str → Option Value} {base : Heap} {CX : CXT}
theorem Ok.mono {j k : Nat} {f : Addr} {fd : FuncData} {ps : List Str} {sp : Sp}
    (o : Ok P w K mg base CX j f fd ps sp) (h : j ≤ k) : Ok P w K mg base CX k f fd ps sp :=
  ⟨o.len, fun A out s H ar us vs Q E r => o.go A out s H ar us vs Q E (r.mono h)⟩
theorem Ok.imp {k : Nat} {f : Addr} {fd : FuncData} {ps : List Str} {sp sp' : Sp}
    (o : Ok P w K mg base CX k f fd ps sp) (h : ∀ vs H Q E, sp' vs H Q E → sp vs H Q E) :
    Ok P w K mg base CX k f fd ps sp' :=
  ⟨fun vs H Q E q => o.len vs H Q E (h _ _ _ _ q),
   fun A out s H ar us vs Q E r e b v q => o.go A out s H ar us vs Q E r e b v (h _ _ _ _ q)⟩

/-- a def by its body -/
theorem ok_body {k : Nat} {f : Addr} {nm qual : Str} {pr : Arguments} {body : List Stmt} {sc : Scope}
    {dV kV doc pm cdv ct oc : Value} {an od : Option Addr} {osl : Array (Option Value)} {N ps : List Str} {sp : Sp}
    (lk : K.lookup f = some ⟨oc, od, .func (PySem.W.fnOf nm qual pr body sc dV kV doc pm an cdv ct), osl⟩)
    (hcd : PySem.W.codeIn K cdv qual = true) (S : FnScope N ps sc)
    (len : ∀ vs H Q E, sp vs H Q E → vs.length = ps.length)
    (hb : ∀ (A : Around) (out : List Env) (s : Shared) (H : Hp) (vs : List V) (Q : VK) (E : XK),
      Rm k (A.deeper (envOfC qual sc s.heap.objs.size f cdv)) → sp vs H Q E →
      ∃ t, PSs (cxOf CX P w K mg base N qual sc f cdv A out s H E) body t ∧
        t { nx := fun _ H' => Q .non H', rt := Q } (start N vs) H) :
    Ok P w K mg base CX (k + 1) f (PySem.W.fnOf nm qual pr body sc dV kV doc pm an cdv ct) ps sp := by
  constructor
  · exact len
  intro A out s H ar us vs Q E hr e0 bt rl hsp
  have keep : ∀ b o, base.get? b = some o → s.heap.get? b = some o := fun b o e => (e0.bs b o e).1
  have KX : K.In s.heap := e0.mod.kin.keeps keep
  have hkind : ∀ y ∈ ps.zip us, sc.names.lookup y.1 = some .local ∨
      (sc.names.lookup y.1 = some .cell ∧ ((cellsFrom (s.heap.objs.size + 1) sc.names []).lookup y.1).isSome = true) := by
    rintro ⟨n, v⟩ hy
    cases S.par n (List.of_mem_zip hy).1 with
    | inl q => exact .inl q
    | inr q => exact .inr ⟨q, PySem.W.cellsFrom_some _ _ _ (.inl q)⟩
  apply codeAny_call_function hr.rm.depth (KX _ _ lk) rfl S.co S.gen rfl (PySem.W.codeRec_of KX hcd)
  apply bt
  apply wpAny_newFunctionEnv_cells S.kind hkind
  intro env he s1 x
  subst he
  refine ⟨(e0.mod.nolimit.keeps keep).keeps x.toInCall.keep, codeAny_func ?_⟩
  obtain ⟨t, ht, hq⟩ := hb A out s H vs Q E (hr.deeper _) hsp
  have J := inv_start (CX := CX) (E := E) (f := f) (cd := cdv) (qual := qual) S hr.rm.hd e0 (len _ _ _ _ hsp) rl x
  refine wpAny_mono (ht.run [] s1 (start N vs) H _ J hq) ?_ (fun e s' hs => hs)
  intro fl s' hs
  cases fl with
  | ret u =>
    obtain ⟨v, σ', H', J', rv, q⟩ := hs
    exact ⟨v, H', J'.os, J'.bare, J'.base, J'.hok, rv, q⟩
  | next =>
    obtain ⟨σ', H', J', q⟩ := hs
    exact ⟨V.non, H', J'.os, J'.bare, J'.base, J'.hok, rfl, q⟩
  | brk =>
    obtain ⟨_, _, _, q⟩ := hs
    exact False.elim q
  | cont =>
    obtain ⟨_, _, _, q⟩ := hs
    exact False.elim q
end

section
variable {X : Cx} {CX : CXT} {k : Nat} {f : Addr} {fd : FuncData} {ps : List Str} {sp : Sp} {dvs : List V} {ds : List Value} {E : XK}
/-- the callee runs -/
theorem run_ok {pins : List (Addr × Obj)} {σ : L2.St} {H : Hp} {s : Shared} {Q : VK} {us : List Value} {vs : List V}
    (o : Ok X.prog X.w X.K X.mg X.base CX k f fd ps sp) (hr : Rm k X.A) (hb : Binds X.K fd ps ds) (hd : Vals dvs ds)
    (hx : Passes CX X E) (I : Inv X pins σ H s) (r : Vals vs us) (h : sp (vs ++ dvs) H Q E) :
    wpAny (model X.prog X.w) X.A (call (.ref f) us) (EP X pins σ Q) X.xe s := by
  have rr := r.append hd
  have hl : (us ++ ds).length = ps.length := rr.length ▸ o.len _ _ _ _ h
  refine wpAny_call (codeAny_mono (o.go X.A X.stack s H ⟨us, []⟩ (us ++ ds) (vs ++ dvs) Q E hr I.env0 (hb s us I.kIn hl) rr h) ?_)
  intro res s' hq
  match res, hq with
  | .error e, hq => exact hx pins σ H s e s' I hq
  | .ok (.ret u), hq => exact I.after hq
  | .ok .next, hq => exact False.elim hq
  | .ok .brk, hq => exact False.elim hq
  | .ok .cont, hq => exact False.elim hq
end
end Eu
set_option Elab.async false
set_option linter.all false
set_option maxRecDepth 100000
set_option maxHeartbeats 4000000
namespace Eu
open PySem PySem.Spec PyProof.Rows L2

/-! ### defs called by their names -/
structure Cal (P : Program) (w : World) (K : PySem.W.Frag) (mg : Str → Option Value) (base : Heap)
    (k : Nat) (x : Str) (sp : Sp) (dvs : List V) : Prop where
  ex : ∃ (f : Addr) (fd : FuncData) (ps : List Str) (ds : List Value),
    Ok P w K mg base CX0 k f fd ps sp ∧ mg x = some (.ref f) ∧
    PySem.W.keepIn K (.ref f) = true ∧ Binds K fd ps ds ∧ Vals dvs ds

/-- a def of the top, as it stands behind the top's run -/
structure Df (K : PySem.W.Frag) (mg : Str → Option Value) (x : Str) (st : Stmt) : Prop where
  ex : ∃ (f : Addr) (oc : Value) (od : Option Addr) (kV doc pm : Value) (an : Option Addr) (cdv ct : Value) (osl : Array (Option Value)),
    K.lookup f = some ⟨oc, od, .func (PySem.W.fnOf x x (defArgs st) (defBody st) (defScope st) .none kV doc pm an cdv ct), osl⟩ ∧
    PySem.W.codeIn K cdv x = true ∧ PySem.W.keepIn K (.ref f) = true ∧ mg x = some (.ref f)

theorem df_mk {K : PySem.W.Frag} {h : Heap} {mg : Str → Option Value} {x : Str} {st : Stmt} (X : K.In h) (G : h.Ns mainGlobals mg)
    {f : Addr} {oc : Value} {od an : Option Addr} {osl : Array (Option Value)} {kV doc pm cdv ct : Value}
    (a : PySem.W.nsIn K mainGlobals x = some (some (.ref f)))
    (l : K.lookup f = some ⟨oc, od, .func (PySem.W.fnOf x x (defArgs st) (defBody st) (defScope st) .none kV doc pm an cdv ct), osl⟩)
    (c : PySem.W.codeIn K cdv x = true) (k : PySem.W.keepIn K (.ref f) = true) : Df K mg x st :=
  ⟨f, oc, od, kV, doc, pm, an, cdv, ct, osl, l, c, k, PySem.W.mg_of X G a⟩

section
variable {P : Program} {w : World} {K : PySem.W.Frag} {mg : Str → Option Value} {base : Heap}
theorem Df.cal {x : Str} {st : Stmt} {N ps : List Str} {k : Nat} {sp : Sp} (D : Df K mg x st) (S : FnScope N ps (defScope st))
    (hbd : ∀ (kV doc pm : Value) (an : Option Addr) (cdv ct : Value) (us : List Value), us.length = ps.length →
      bindArgs (PySem.W.fnOf x x (defArgs st) (defBody st) (defScope st) .none kV doc pm an cdv ct) ⟨us, []⟩ = pure (ps.zip us))
    (len : ∀ vs H Q E, sp vs H Q E → vs.length = ps.length)
    (hb : ∀ (f : Addr) (cdv : Value) (A : Around) (out : List Env) (s : Shared) (H : Hp) (vs : List V) (Q : VK) (E : XK),
      Rm k (A.deeper (envOfC x (defScope st) s.heap.objs.size f cdv)) → sp vs H Q E →
      ∃ t, PSs (cxOf CX0 P w K mg base N x (defScope st) f cdv A out s H E).nox (defBody st) t ∧
        t { nx := fun _ H' => Q .non H', rt := Q } (start N vs) H) : Cal P w K mg base (k + 1) x sp [] := by
  obtain ⟨f, oc, od, kV, doc, pm, an, cdv, ct, osl, l, c, kp, m⟩ := D.ex
  refine ⟨f, _, ps, [], ok_body l c S len ?_, m, kp, .all (hbd kV doc pm an cdv ct), .nil⟩
  intro A out s H vs Q E hr hs
  obtain ⟨t, h, q⟩ := hb f cdv A out s H vs Q E hr hs
  exact ⟨t, h.nox, q⟩
end

section
variable {X : Cx} {k j : Nat} {x : Str} {sp : Sp} {dvs : List V} {p pos : Pos} {e : Expr} {es : List Expr} {t : TA}
theorem pe_c (c : Cal X.prog X.w X.K X.mg X.base k x sp dvs) (hr : Rm j X.A) (hk : k ≤ j) (hg : Gl X x) (ha : PA X (e :: es) t)
    (hdb : (x == ("__debug__" : Str)) = false := by decide)
    (he : starEach (e :: es) X.env = (false, eval e X.env) :: starEach es X.env := by rfl)
    (hpl : (backTo pos (starEach es X.env)).any (·.1) = false := by rfl) :
    PE X (.Call (.Name x p) (e :: es) [] pos) (tCall sp dvs E0 t) := by
  obtain ⟨f, fd, ps, ds, o, hm, kp, b, d⟩ := c.ex
  constructor
  intro pins s σ H Q I h
  apply wpAny_Call_Name_kw
  apply ld_glob I hg hm _ hdb
  refine PySem.W.callWith_K (h₀ := X.base) I.ok.mod.kin kp (thn (ha.run pos pins s σ H _ I h) ?_) he hpl
  rintro us s1 ⟨vs, H1, I1, r, q⟩
  exact ⟨I1.kIn, run_ok o (hr.mono hk) b d pass0 I1 r q⟩
theorem pe_c0 (c : Cal X.prog X.w X.K X.mg X.base k x sp dvs) (hr : Rm j X.A) (hk : k ≤ j) (hg : Gl X x)
    (hdb : (x == ("__debug__" : Str)) = false := by decide) :
    PE X (.Call (.Name x p) [] [] pos) (tCall sp dvs E0 tNil) := by
  obtain ⟨f, fd, ps, ds, o, hm, kp, b, d⟩ := c.ex
  constructor
  intro pins s σ H Q I h
  apply wpAny_Call_Name_kw
  apply ld_glob I hg hm _ hdb
  exact PySem.W.callWith_K0 I.kIn kp (run_ok (us := []) o (hr.mono hk) b d pass0 I .nil h)
end

/-! ### repr of data -/
section
variable {X : Cx}
def rRepr (K : PySem.W.Frag) : List V → Hp → VK → Prop := fun xs H Q =>
  ∃ (x : V) (d : PyData), xs = [x] ∧ Dp K H x d ∧ d.showable = true ∧ d.depth ≤ 60 ∧ d.shown.length ≤ sizeLine ∧ Q (.str d.shown) H
mutual
theorem noDict {K : PySem.W.Frag} {H : Hp} : ∀ {d : PyData} {v : V}, Dp K H v d → d.hasDict = false
  | .none, _, _ => rfl
  | .bool _, _, _ => rfl
  | .int _, _, _ => rfl
  | .str _, _, _ => rfl
  | .list ds, _, .lst _ h => noDicts h
  | .tuple ds, _, .tup _ h => noDicts h
theorem noDicts {K : PySem.W.Frag} {H : Hp} : ∀ {ds : List PyData} {vs : List V}, DpAll K H vs ds → PyData.hasDictAll ds = false
  | [], _, _ => rfl
  | d :: ds, _, .cons h1 h2 => by
    show (d.hasDict || PyData.hasDictAll ds) = false
    rw [noDict h1, noDicts h2]
    rfl
end
theorem call_repr {j : Nat} (hr : Rm j X.A) : CallR X (.builtin "repr") (rRepr X.K) := by
  intro pins s σ H xs us Q I r h
  obtain ⟨x, d, rfl, hd, hs, hdp, hz, q⟩ := h
  obtain ⟨u, rfl, rx⟩ := vals1 r
  have hu := hr.rm.un
  cases hd with
  | non =>
    cases rx
    exact PySem.P.repr_of_none ⟨.str _, H, I.tok _, ⟨_, rfl⟩, q⟩
  | bl b =>
    cases rx
    exact PySem.P.repr_of_bool ⟨.str _, H, I.tok _, ⟨_, rfl⟩, q⟩
  | int i =>
    obtain ⟨t, rfl⟩ := rx
    exact PySem.P.repr_of_int (of_decide_eq_true hs) ⟨.str _, H, I.tok _, ⟨_, rfl⟩, q⟩
  | str y =>
    obtain ⟨t, rfl⟩ := rx
    exact PySem.P.repr_of_str ⟨.str _, H, I.tok _, ⟨_, rfl⟩, q⟩ hz
  | @lst a ys ds h1 h2 =>
    cases (show u = Value.ref a from rx)
    obtain ⟨as, rd⟩ := Dp.reads I _ _ _ (Dp.lst h1 h2) (show RelV (.ref a) (.ref a) from rfl)
    refine repr_of_reads' rd hs (PyData.noDict_hsm (noDict (Dp.lst h1 h2))) hr.gd (by omega) (fun _ _ z => z) ?_ hz
    intro h' u tk hk
    exact ⟨.str _, H, I.kept hk, ⟨_, rfl⟩, q⟩
  | @tup a ys ds h1 h2 =>
    cases (show u = Value.ref a from rx)
    obtain ⟨as, rd⟩ := Dp.reads I _ _ _ (Dp.tup h1 h2) (show RelV (.ref a) (.ref a) from rfl)
    refine repr_of_reads' rd hs (PyData.noDict_hsm (noDict (Dp.tup h1 h2))) hr.gd (by omega) (fun _ _ z => z) ?_ hz
    intro h' u tk hk
    exact ⟨.str _, H, I.kept hk, ⟨_, rfl⟩, q⟩
end
end Eu
set_option Elab.async false
set_option linter.all false
set_option maxRecDepth 100000
set_option maxHeartbeats 4000000
namespace Eu
open PySem PySem.Spec PyProof.Rows L2

/-! ### how long a repr may be -/
mutual
def cost : PyData → Nat
  | .none => 4
  | .bool _ => 5
  | .int _ => 1921
  | .str x => 10 * x.length + 2
  | .list xs => costs xs + 3
  | .tuple xs => costs xs + 3
  | .dict kvs => costKv kvs + 2
def costs : List PyData → Nat
  | [] => 0
  | x :: xs => cost x + 2 + costs xs
def costKv : List (PyData × PyData) → Nat
  | [] => 0
  | (k, v) :: r => cost k + 2 + cost v + 2 + costKv r
end
mutual
def fine : PyData → Bool
  | .none | .bool _ => true
  | .str x => x.cps.toList.all fun c => decide (c < 1114112)
  | .int i => decide (i.natAbs.log2 < 1920)
  | .list xs | .tuple xs => fines xs
  | .dict kvs => fineKv kvs
def fines : List PyData → Bool
  | [] => true
  | x :: xs => fine x && fines xs
def fineKv : List (PyData × PyData) → Bool
  | [] => true
  | (k, v) :: r => fine k && fine v && fineKv r
end
theorem listText_le (ts : List Str) : (listText ts).length ≤ piled ts + 3 := by
  unfold listText
  rw [strLen_append]
  have e2 : ((("]" : String) : Str)).length = 1 := rfl
  have e1 : ((("[" : String) : Str)).length = 1 := rfl
  cases ts with
  | nil => show (("[" : String) : Str).length + _ ≤ _; omega
  | cons t r =>
    show (textFrom 1 ((("[" : String) : Str) ++ ((if 0 > 0 then ", " else "" : String) : Str) ++ t) r).length + _ ≤ _
    rw [textFrom_length_pos _ _ _ (by decide), strLen_append, strLen_append, piled_cons]
    have e3 : (((if 0 > 0 then ", " else "" : String) : Str)).length = 0 := rfl
    omega
theorem joined_le (ts : List Str) : (Str.join ", " ts).length ≤ piled ts := by
  by_cases h : ts = []
  · subst h; decide
  · have := join_length_add ts h
    omega
theorem tupleText_le (ts : List Str) : (tupleText ts).length ≤ piled ts + 3 := by
  unfold tupleText
  rw [strLen_append, strLen_append]
  have e1 : ((("(" : String) : Str)).length = 1 := rfl
  have e3 : (((if ts.length == 1 then ",)" else ")" : String) : Str)).length ≤ 2 := by split <;> decide +kernel
  have := joined_le ts
  omega
theorem dictText_le (ts : List Str) : (dictText ts).length ≤ piled ts + 2 := by
  unfold dictText
  rw [strLen_append, strLen_append]
  have e1 : ((("{" : String) : Str)).length = 1 := rfl
  have e3 : ((("}" : String) : Str)).length = 1 := rfl
  have := joined_le ts
  omega
mutual
theorem shown_le : ∀ d : PyData, fine d = true → d.shown.length ≤ cost d
  | .none, _ => by decide +kernel
  | .bool b, _ => by cases b <;> decide +kernel
  | .int i, h => by
    have h' : i.natAbs.log2 < 1920 := of_decide_eq_true h
    have := int_text_length_le (a := i) (k := 1920) (by decide) h'
    show (Str.ofString (toString i)).length ≤ 1921
    rw [PySem.ofString_length]
    exact this
  | .str x, h => by
    refine StrLaws.reprText_len x fun c hc => ?_
    have h' : c < 1114112 := of_decide_eq_true (List.all_eq_true.mp h c hc)
    exact Nat.lt_of_lt_of_le h' (by decide)
  | .list xs, h => by
    have := listText_le (PyData.shownAll xs)
    have := shownAll_le xs h
    show (listText (PyData.shownAll xs)).length ≤ costs xs + 3
    omega
  | .tuple xs, h => by
    have := tupleText_le (PyData.shownAll xs)
    have := shownAll_le xs h
    show (tupleText (PyData.shownAll xs)).length ≤ costs xs + 3
    omega
  | .dict kvs, h => by
    have := dictText_le (PyData.shownKv kvs)
    have := shownKv_le kvs h
    show (dictText (PyData.shownKv kvs)).length ≤ costKv kvs + 2
    omega
theorem shownAll_le : ∀ xs : List PyData, fines xs = true → piled (PyData.shownAll xs) ≤ costs xs
  | [], _ => Nat.le_refl _
  | x :: xs, h => by
    have h' : (fine x && fines xs) = true := h
    rw [Bool.and_eq_true] at h'
    have a := shown_le x h'.1
    have b := shownAll_le xs h'.2
    show piled (x.shown :: PyData.shownAll xs) ≤ cost x + 2 + costs xs
    rw [piled_cons]
    omega
theorem shownKv_le : ∀ kvs : List (PyData × PyData), fineKv kvs = true → piled (PyData.shownKv kvs) ≤ costKv kvs
  | [], _ => Nat.le_refl _
  | (k, v) :: r, h => by
    have h' : (fine k && fine v && fineKv r) = true := h
    rw [Bool.and_eq_true, Bool.and_eq_true] at h'
    have a := shown_le k h'.1.1
    have b := shown_le v h'.1.2
    have c := shownKv_le r h'.2
    show piled ((k.shown ++ ": " ++ v.shown) :: PyData.shownKv r) ≤ cost k + 2 + cost v + 2 + costKv r
    have e : (((": " : String) : Str)).length = 2 := rfl
    rw [piled_cons, strLen_append, strLen_append, e]
    omega
end
mutual
theorem fine_showable : ∀ d : PyData, fine d = true → d.showable = true
  | .none, _ => rfl
  | .bool _, _ => rfl
  | .int i, h => h
  | .str _, _ => rfl
  | .list xs, h => fines_showable xs h
  | .tuple xs, h => fines_showable xs h
  | .dict kvs, h => fineKv_showable kvs h
theorem fines_showable : ∀ xs : List PyData, fines xs = true → PyData.showableAll xs = true
  | [], _ => rfl
  | x :: xs, h => by
    have h' : (fine x && fines xs) = true := h
    rw [Bool.and_eq_true] at h'
    show (x.showable && PyData.showableAll xs) = true
    rw [fine_showable x h'.1, fines_showable xs h'.2]
    rfl
theorem fineKv_showable : ∀ kvs : List (PyData × PyData), fineKv kvs = true → PyData.showableKv kvs = true
  | [], _ => rfl
  | (k, v) :: r, h => by
    have h' : (fine k && fine v && fineKv r) = true := h
    rw [Bool.and_eq_true, Bool.and_eq_true] at h'
    show (k.showable && v.showable && PyData.showableKv r) = true
    rw [fine_showable k h'.1.1, fine_showable v h'.1.2, fineKv_showable r h'.2]
    rfl
end

/-- small data -/
def Small (d : PyData) : Prop := cost d ≤ 100000 ∧ fine d = true
theorem Small.two {a b : PyData} (h : Small (.tuple [a, b])) : Small a ∧ Small b := by
  obtain ⟨h1, h2⟩ := h
  have h1' : cost a + 2 + (cost b + 2 + 0) + 3 ≤ 100000 := h1
  have h2' : (fine a && (fine b && true)) = true := h2
  rw [Bool.and_eq_true, Bool.and_eq_true] at h2'
  exact ⟨⟨by omega, h2'.1⟩, ⟨by omega, h2'.2.1⟩⟩
theorem Small.three {a b c : PyData} (h : Small (.tuple [a, b, c])) : Small a ∧ Small b ∧ Small c ∧ Small (.tuple [a, b]) := by
  obtain ⟨h1, h2⟩ := h
  have h1' : cost a + 2 + (cost b + 2 + (cost c + 2 + 0)) + 3 ≤ 100000 := h1
  have h2' : (fine a && (fine b && (fine c && true))) = true := h2
  rw [Bool.and_eq_true, Bool.and_eq_true, Bool.and_eq_true] at h2'
  refine ⟨⟨by omega, h2'.1⟩, ⟨by omega, h2'.2.1⟩, ⟨by omega, h2'.2.2.1⟩, ?_, ?_⟩
  · show cost a + 2 + (cost b + 2 + 0) + 3 ≤ 100000
    omega
  · show (fine a && (fine b && true)) = true
    rw [h2'.1, h2'.2.1]; rfl
theorem Small.len {z : Str} (h : Small (.str z)) : z.length ≤ 100000 := by
  have : 10 * z.length + 2 ≤ 100000 := h.1
  omega
/-! ### heaps that grow -/
theorem same_new {H : Hp} {p : Addr} {o : HO} (h : H p = none) : Same H (upd H p o) := fun b x e => by
  rw [upd_ne (ne_of_none e h)]
  exact e
theorem Same.tup {K : PySem.W.Frag} {H H' : Hp} {a : Addr} {xs : List V} (e : Same H H') (h : SqT K H a xs) : SqT K H' a xs := by
  rcases h with (h | ⟨o, h⟩) | h
  · exact .inl (.inl (e _ _ h))
  · exact .inl (.inr ⟨o, e _ _ h⟩)
  · exact .inr h
mutual
theorem Same.dp {K : PySem.W.Frag} {H H' : Hp} (e : Same H H') : ∀ {d : PyData} {v : V}, Dp K H v d → Dp K H' v d
  | .none, _, .non => .non
  | .bool _, _, .bl b => .bl b
  | .int _, _, .int i => .int i
  | .str _, _, .str x => .str x
  | .list ds, _, .lst h1 h2 => .lst (e.seq h1) (Same.dps e h2)
  | .tuple ds, _, .tup h1 h2 => .tup (Same.tup e h1) (Same.dps e h2)
theorem Same.dps {K : PySem.W.Frag} {H H' : Hp} (e : Same H H') : ∀ {ds : List PyData} {vs : List V}, DpAll K H vs ds → DpAll K H' vs ds
  | [], _, .nil => .nil
  | d :: ds, _, .cons h1 h2 => .cons (Same.dp e h1) (Same.dps e h2)
end
/-- without the object at b -/
def hid (H : Hp) (b : Addr) : Hp := fun c => if c = b then none else H c
theorem hid_at {H : Hp} {b : Addr} : hid H b b = none := if_pos rfl
theorem hid_ne {H : Hp} {b c : Addr} (h : c ≠ b) : hid H b c = H c := if_neg h
theorem hid_some {H : Hp} {b c : Addr} {o : HO} (h : hid H b c = some o) : c ≠ b ∧ H c = some o := by
  by_cases e : c = b
  · rw [e, hid_at] at h; cases h
  · rw [hid_ne e] at h; exact ⟨e, h⟩
theorem hid_same {H : Hp} {b : Addr} : Same (hid H b) H := fun c o h => (hid_some h).2
theorem hid_upd {H : Hp} {b : Addr} {o : HO} : hid (upd H b o) b = hid H b := by
  funext c
  by_cases e : c = b
  · rw [e, hid_at, hid_at]
  · rw [hid_ne e, hid_ne e, upd_ne e]
/-- all but b stays -/
def But (b : Addr) (H H' : Hp) : Prop := Same (hid H b) (hid H' b)
theorem But.refl {b : Addr} {H : Hp} : But b H H := Same.refl _
theorem But.trans {b : Addr} {H H1 H2 : Hp} (p : But b H H1) (q : But b H1 H2) : But b H H2 := Same.trans p q
theorem But.of_same {b : Addr} {H H' : Hp} (h : Same H H') : But b H H' := fun c o e => by
  obtain ⟨n, e'⟩ := hid_some e
  rw [hid_ne n]
  exact h c o e'
theorem But.upd {b : Addr} {H : Hp} {o : HO} : But b H (upd H b o) := by
  unfold But
  rw [hid_upd]
  exact Same.refl _
theorem But.free {b : Addr} {H H' : Hp} (h : But b H H') {l : Addr} (n : l ≠ b) (e : H' l = none) : H l = none := by
  have := Same.free h (l := l) (by rw [hid_ne n]; exact e)
  rw [hid_ne n] at this
  exact this
end Eu
set_option Elab.async false
set_option linter.all false
set_option maxRecDepth 100000
set_option maxHeartbeats 4000000
namespace Eu
open PySem PySem.Spec PyProof.Rows L2

/-- an iterator that gives the items xs one by one, as Y says, while S holds -/
structure Over {α : Type} (J : It) (xs : List α) (Y : α → Hp → V → Hp → Prop) (S : Hp → Prop) : Prop where
  go : ∀ i x H, xs[i]? = some x → S H → J.go i H
  st : ∀ H, S H → J.stop xs.length H
  yl : ∀ i x H v H', xs[i]? = some x → S H → J.yld i H v H' → Y x H v H'

theorem over_list {K : PySem.W.Frag} {a : Addr} {xs : List V} : Over (Itl K a) xs (fun x H v H' => H' = H ∧ v = x) (fun H => SqL K H a xs) where
  go := fun i x H e s => ⟨xs, x, s, e⟩
  st := fun H s => ⟨xs, s, Nat.le_refl _⟩
  yl := fun i x H v H' e s y => ⟨y.1, Option.some.inj ((y.2 xs s).symm.trans e)⟩
theorem over_tup {K : PySem.W.Frag} {a : Addr} {xs : List V} : Over (Itt K a) xs (fun x H v H' => H' = H ∧ v = x) (fun H => SqT K H a xs) where
  go := fun i x H e s => ⟨xs, x, s, e⟩
  st := fun H s => ⟨xs, s, Nat.le_refl _⟩
  yl := fun i x H v H' e s y => ⟨y.1, Option.some.inj ((y.2 xs s).symm.trans e)⟩
theorem over_str {z : Str} : Over (Its z) z.cps.toList (fun c H v H' => H' = H ∧ v = .str ⟨#[c]⟩) (fun _ => True) where
  go := fun i x H e _ => by
    have := (List.getElem?_eq_some_iff.mp e).1
    show i < z.cps.size
    simpa using this
  st := fun H _ => by
    show z.cps.size ≤ z.cps.toList.length
    simp
  yl := fun i x H v H' e _ y => by
    obtain ⟨y1, c, y2, y3⟩ := y
    refine ⟨y1, ?_⟩
    rw [← Array.getElem?_toList, e] at y2
    cases y2
    exact y3
theorem over_rev {K : PySem.W.Frag} {a : Addr} {xs : List V} : Over (Itv K a xs.length) xs.reverse (fun x H v H' => H' = H ∧ v = x) (fun H => SqL K H a xs) where
  go := fun i x H e s => by
    have hi := (List.getElem?_eq_some_iff.mp e).1
    rw [List.length_reverse] at hi
    rw [List.getElem?_reverse hi] at e
    exact ⟨hi, xs, x, s, e⟩
  st := fun H s => by
    show xs.length ≤ xs.reverse.length
    rw [List.length_reverse]
    exact Nat.le_refl _
  yl := fun i x H v H' e s y => by
    have hi := (List.getElem?_eq_some_iff.mp e).1
    rw [List.length_reverse] at hi
    rw [List.getElem?_reverse hi] at e
    exact ⟨y.1, Option.some.inj ((y.2 xs s).symm.trans e)⟩
/-- lo, lo + 1, .. -/
def nums (lo : Int) (n : Nat) : List Int := (List.range n).map fun i : Nat => lo + (i : Int)
theorem nums_len (lo : Int) (n : Nat) : (nums lo n).length = n := by unfold nums; rw [List.length_map, List.length_range]
theorem nums_at {lo : Int} {n i : Nat} {x : Int} (h : (nums lo n)[i]? = some x) : i < n ∧ x = lo + (i : Int) := by
  have hi := (List.getElem?_eq_some_iff.mp h).1
  rw [nums_len] at hi
  refine ⟨hi, ?_⟩
  unfold nums at h
  rw [List.getElem?_map, List.getElem?_range hi] at h
  exact (Option.some.inj h).symm
theorem over_range {lo : Int} {n : Nat} : Over (Itr lo n) (nums lo n) (fun x H v H' => H' = H ∧ v = .int x) (fun _ => True) where
  go := fun i x H e _ => (nums_at e).1
  st := fun H _ => by
    show n ≤ (nums lo n).length
    rw [nums_len]
    exact Nat.le_refl _
  yl := fun i x H v H' e _ y => ⟨y.1, by rw [y.2, (nums_at e).2]⟩
/-- d.items() -/
theorem over_items {d : Addr} {o : Obj} {kvs : List (Key × V)} : Over (Iti d o kvs) kvs (fun p H v H' => ∃ T, v = .ref T ∧ H T = none ∧ H' = upd H T (.tup [kV p.1, p.2])) (fun H => H d = some (.frz o (.dK kvs))) where
  go := fun i x H e s => ⟨s, (List.getElem?_eq_some_iff.mp e).1⟩
  st := fun H s => ⟨s, Nat.le_refl _⟩
  yl := fun i x H v H' e s y => by
    obtain ⟨T, k, u, y1, y2, y3, y4⟩ := y
    rw [e] at y1
    cases y1
    exact ⟨T, y2, y3, y4⟩
theorem over_keys {d : Addr} {o : Obj} {kvs : List (Key × V)} : Over (Itk d o kvs) kvs (fun p H v H' => H' = H ∧ v = kV p.1) (fun H => H d = some (.frz o (.dK kvs))) where
  go := fun i x H e s => ⟨s, (List.getElem?_eq_some_iff.mp e).1⟩
  st := fun H s => ⟨s, Nat.le_refl _⟩
  yl := fun i x H v H' e s y => by
    obtain ⟨y0, k, u, y1, y2⟩ := y
    rw [e] at y1
    cases y1
    exact ⟨y0, y2⟩
/-- enumerate(list) -/
theorem over_enum {K : PySem.W.Frag} {a : Addr} {xs : List V} : Over (Ite K a) xs.zipIdx (fun p H v H' => ∃ T, v = .ref T ∧ H T = none ∧ H' = upd H T (.tup [.int (p.2 : Nat), p.1])) (fun H => SqL K H a xs) where
  go := fun i x H e s => by
    rw [List.getElem?_zipIdx] at e
    cases h : xs[i]? with
    | none => rw [h] at e; cases e
    | some y => exact ⟨xs, y, s, h⟩
  st := fun H s => ⟨xs, s, by rw [List.length_zipIdx]; exact Nat.le_refl _⟩
  yl := fun i x H v H' e s y => by
    obtain ⟨T, u, y1, y2, y3, y4⟩ := y
    have := y4 xs s
    rw [List.getElem?_zipIdx, this] at e
    cases e
    refine ⟨T, y1, y2, ?_⟩
    rw [y3]
    simp
/-- zip of two lists -/
theorem over_zip {K : PySem.W.Frag} {a b : Addr} {xs ys : List V} : Over (Itz K a b) (xs.zip ys) (fun p H v H' => ∃ T, v = .ref T ∧ H T = none ∧ H' = upd H T (.tup [p.1, p.2])) (fun H => SqL K H a xs ∧ SqL K H b ys) where
  go := fun i p H e s => by
    obtain ⟨h1, h2⟩ := List.getElem?_zip_eq_some.mp e
    exact ⟨xs, ys, p.1, p.2, s.1, s.2, h1, h2⟩
  st := fun H s => ⟨xs, ys, s.1, s.2, by rw [List.length_zip]; omega⟩
  yl := fun i p H v H' e s y => by
    obtain ⟨T, u, u', y1, y2, y3, y4, y5⟩ := y
    obtain ⟨h1, h2⟩ := List.getElem?_zip_eq_some.mp e
    have e1 := Option.some.inj ((y4 xs s.1).symm.trans h1)
    have e2 := Option.some.inj ((y5 ys s.2).symm.trans h2)
    subst e1 e2
    exact ⟨T, y1, y2, y3⟩

theorem sign_lt (c d : Nat) : decide (([c] : List Nat) < [d]) = decide (c < d) := by
  refine decide_eq_decide.mpr ⟨fun h => ?_, fun h => List.Lex.rel h⟩
  cases h with
  | rel h => exact h
  | cons h => cases h
/-- a comprehension without a test -/
theorem lc_yes {σ : L2.St} {H : Hp} {A B : Hp → Prop} (h : A H) : tYes σ H (fun b H3 => if b = true then A H3 else B H3) := by
  show if true = true then A H else B H
  rw [if_pos rfl]
  exact h
section
variable {α : Type} {J : It} {xs : List α} {Y : α → Hp → V → Hp → Prop} {S : Hp → Prop} {g : TG}
/-- a for loop by an invariant -/
theorem for_over {tb : TS} {D : Ends} {σ : L2.St} {H : Hp} (o : Over J xs Y S) (Pv : Nat → L2.St → Hp → Prop) (h0 : Pv 0 σ H)
    (hS : ∀ i σ H, i ≤ xs.length → Pv i σ H → S H)
    (hs : ∀ i x σ H v H', xs[i]? = some x → Pv i σ H → Y x H v H' → g v σ H' fun σ2 H2 => tb { D with nx := Pv (i + 1), ct := Pv (i + 1), bk := D.nx } σ2 H2)
    (hd : ∀ σ H, Pv xs.length σ H → D.nx σ H) :
    ∃ W : Nat → Nat → L2.St → Hp → Prop, (∃ m, W 0 m σ H) ∧ ∀ i m σ H, W i m σ H → (J.stop i H ∧ D.nx σ H) ∨ (J.go i H ∧
      ∃ N : L2.St → Hp → Prop, (∀ σ' H', N σ' H' → ∃ m', m' < m ∧ W (i + 1) m' σ' H') ∧
        ∀ x H', J.yld i H x H' → g x σ H' fun σ2 H2 => tb { D with nx := N, ct := N, bk := D.nx } σ2 H2) := by
  refine ⟨fun i m σ H => m = xs.length - i ∧ i ≤ xs.length ∧ Pv i σ H, ⟨xs.length, rfl, Nat.zero_le _, h0⟩, ?_⟩
  rintro i m σ H ⟨rfl, hi, p⟩
  have s := hS i σ H hi p
  by_cases hl : i < xs.length
  · have e : xs[i]? = some xs[i] := List.getElem?_eq_getElem hl
    refine .inr ⟨o.go i _ H e s, Pv (i + 1), fun σ' H' p' => ⟨xs.length - (i + 1), by omega, rfl, hl, p'⟩, fun v H' y => ?_⟩
    exact hs i _ σ H v H' e p (o.yl i _ H v H' e s y)
  · have e : i = xs.length := by omega
    subst e
    exact .inl ⟨o.st H s, hd σ H p⟩
/-- a comprehension by an invariant -/
theorem lc_over {tt : TT} {te : TE} {vs : List Nat} {σ : L2.St} {H1 : Hp} {D : Addr} {Qd : Hp → Prop} (o : Over J xs Y S) (Pv : Nat → Hp → Prop)
    (h0 : Pv 0 (upd H1 D (.lst []))) (hS : ∀ i H, i ≤ xs.length → Pv i H → S H)
    (hs : ∀ i x H v H', xs[i]? = some x → Pv i H → Y x H v H' → g v (wipe σ vs) H' fun σ2 H2 => wipe σ2 vs = wipe σ vs ∧ tt σ2 H2 fun b H3 =>
      if b = true then te σ2 H3 fun y H4 => ∃ acc, H4 D = some (.lst acc) ∧ acc.length < sizeLine ∧ Pv (i + 1) (upd H4 D (.lst (acc ++ [y]))) else Pv (i + 1) H3)
    (hd : ∀ H, Pv xs.length H → Qd H) :
    ∃ W : Nat → Nat → Hp → Prop, (∃ m, W 0 m (upd H1 D (.lst []))) ∧ ∀ i m H, W i m H → (J.stop i H ∧ Qd H) ∨ (J.go i H ∧
      ∃ Nx : Hp → Prop, (∀ H', Nx H' → ∃ m', m' < m ∧ W (i + 1) m' H') ∧ ∀ x H', J.yld i H x H' → g x (wipe σ vs) H' fun σ2 H2 => wipe σ2 vs = wipe σ vs ∧ tt σ2 H2 fun b H3 =>
        if b = true then te σ2 H3 fun y H4 => ∃ acc, H4 D = some (.lst acc) ∧ acc.length < sizeLine ∧ Nx (upd H4 D (.lst (acc ++ [y]))) else Nx H3) := by
  refine ⟨fun i m H => m = xs.length - i ∧ i ≤ xs.length ∧ Pv i H, ⟨xs.length, rfl, Nat.zero_le _, h0⟩, ?_⟩
  rintro i m H ⟨rfl, hi, p⟩
  have s := hS i H hi p
  by_cases hl : i < xs.length
  · have e : xs[i]? = some xs[i] := List.getElem?_eq_getElem hl
    refine .inr ⟨o.go i _ H e s, Pv (i + 1), fun H' p' => ⟨xs.length - (i + 1), by omega, rfl, hl, p'⟩, fun v H' y => ?_⟩
    exact hs i _ H v H' e p (o.yl i _ H v H' e s y)
  · have e : i = xs.length := by omega
    subst e
    exact .inl ⟨o.st H s, hd H p⟩
theorem take_map_succ {β : Type} {f : α → Option β} {i : Nat} {x : α} (e : xs[i]? = some x) :
    (xs.take (i + 1)).filterMap f = (xs.take i).filterMap f ++ (f x).toList := by
  rw [List.take_add_one, e, List.filterMap_append]
  cases h : f x <;> simp [h]
/-- a comprehension whose element (and test) changes nothing that stood: the i-th item gives f x -/
theorem lc_pure {tt : TT} {te : TE} {vs : List Nat} {σ : L2.St} {H1 : Hp} {D : Addr} {Qd : Hp → Prop} (o : Over J xs Y S) (f : α → Option V)
    (nD : H1 D = none) (hn : xs.length ≤ sizeLine) (hS : ∀ H, Same H1 H → S H)
    (hs : ∀ x ∈ xs, ∀ H v H' (Nx : Option V → Hp → Prop), Same H1 H → Y x H v H' → (∀ H'', Same H H'' → Nx (f x) H'') →
      g v (wipe σ vs) H' fun σ2 H2 => wipe σ2 vs = wipe σ vs ∧ tt σ2 H2 fun b H3 => if b = true then te σ2 H3 fun y H4 => Nx (some y) H4 else Nx none H3)
    (hd : ∀ H, Same H1 H → H D = some (.lst (xs.filterMap f)) → Qd H) :
    ∃ W : Nat → Nat → Hp → Prop, (∃ m, W 0 m (upd H1 D (.lst []))) ∧ ∀ i m H, W i m H → (J.stop i H ∧ Qd H) ∨ (J.go i H ∧
      ∃ Nx : Hp → Prop, (∀ H', Nx H' → ∃ m', m' < m ∧ W (i + 1) m' H') ∧ ∀ x H', J.yld i H x H' → g x (wipe σ vs) H' fun σ2 H2 => wipe σ2 vs = wipe σ vs ∧ tt σ2 H2 fun b H3 =>
        if b = true then te σ2 H3 fun y H4 => ∃ acc, H4 D = some (.lst acc) ∧ acc.length < sizeLine ∧ Nx (upd H4 D (.lst (acc ++ [y]))) else Nx H3) := by
  refine lc_over o (fun i H => Same H1 H ∧ H D = some (.lst ((xs.take i).filterMap f))) ⟨same_new nD, upd_same⟩ (fun i H _ p => hS H p.1) ?_ ?_
  · rintro i x H v H' e ⟨s, hD⟩ y
    have hi := (List.getElem?_eq_some_iff.mp e).1
    refine hs x (List.mem_of_getElem? e) H v H' (fun oy H4 => match oy with
      | some y => ∃ acc, H4 D = some (.lst acc) ∧ acc.length < sizeLine ∧ (Same H1 (upd H4 D (.lst (acc ++ [y]))) ∧ (upd H4 D (.lst (acc ++ [y]))) D = some (.lst ((xs.take (i + 1)).filterMap f)))
      | none => Same H1 H4 ∧ H4 D = some (.lst ((xs.take (i + 1)).filterMap f))) s y ?_
    intro H4 s4
    cases hf : f x with
    | none =>
      refine ⟨s.trans s4, ?_⟩
      rw [s4 _ _ hD, take_map_succ e, hf]
      simp
    | some y =>
      refine ⟨_, s4 _ _ hD, ?_, fun b u z => ?_, ?_⟩
      · have := List.length_filterMap_le f (xs.take i)
        rw [List.length_take] at this
        omega
      · rw [upd_ne (ne_of_none z nD)]
        exact s4 _ _ (s _ _ z)
      · rw [upd_same, take_map_succ e, hf]
        rfl
  · rintro H ⟨s, hD⟩
    rw [List.take_length] at hD
    exact hd H s hD
end
end Eu
set_option Elab.async false
set_option linter.all false
set_option maxRecDepth 100000
set_option maxHeartbeats 4000000
namespace Eu
open PySem PySem.Spec PyProof.Rows L2
/-- a text n times -/
def repS (z : Str) (n : Nat) : Str := ⟨(List.replicate n z.cps.toList).flatten.toArray⟩
theorem repS_len (z : Str) (n : Nat) : (repS z n).length = n * z.length := by
  show (List.replicate n z.cps.toList).flatten.toArray.size = n * z.cps.size
  rw [List.size_toArray]
  simp [List.length_flatten]
theorem repS_fold (z : Str) (n : Nat) : (⟨(List.replicate n z.cps).foldl (· ++ ·) #[]⟩ : Str) = repS z n := by
  have gen : ∀ (n : Nat) (acc : Array Nat), ((List.replicate n z.cps).foldl (· ++ ·) acc).toList = acc.toList ++ (List.replicate n z.cps.toList).flatten := by
    intro n
    induction n with
    | zero => intro acc; simp
    | succ n ih =>
      intro acc
      rw [List.replicate_succ, List.foldl_cons, ih, List.replicate_succ, List.flatten_cons, Array.toList_append, List.append_assoc]
  have e := gen n #[]
  unfold repS
  congr 1
  apply Array.ext'
  rw [e]
  simp
section
variable {X : Cx}
def rRepS : R2 := fun x y H Q => ∃ (z : Str) (k : Int), x = .str z ∧ y = .int k ∧ 0 ≤ k ∧ k ≤ 10000 ∧ z.length ≤ 1000 ∧ Q (.str (repS z k.toNat)) H
theorem op_rep_str : OpR X (binaryOp .Mult) rRepS := by
  intro pins s σ H x y v u Q I rx ry h
  obtain ⟨z, k, rfl, rfl, k0, k1, hz, q⟩ := h
  obtain ⟨t, rfl⟩ := rx
  obtain ⟨t', rfl⟩ := ry
  have hl := sizeLine_eq
  have fin : ∀ m : Str, m = repS z k.toNat → EP X pins σ Q (.str m s.toks) { s with toks := s.toks + 1 } := fun m e => by
    rw [e]
    exact ⟨.str _, H, I.tok _, ⟨_, rfl⟩, q⟩
  have hm : z.length * k.toNat ≤ 10000000 := by
    have : k.toNat ≤ 10000 := by omega
    calc z.length * k.toNat ≤ 1000 * 10000 := Nat.mul_le_mul hz this
      _ = 10000000 := by decide
  refine PySem.P.mul_str (by rw [decide_eq_false (by omega), decide_eq_false (by omega)]; rfl) ?_ ?_ ?_
  · intro h1 h2
    have : (1000 : Int) ≤ (2 ^ 63 - 1) / k := by
      apply Int.le_ediv_of_mul_le (by omega)
      omega
    omega
  · intro h1 h2
    unfold Builtin.Str.tooLong
    exact decide_eq_false (by omega)
  · split
    · rename_i h1
      have e : k = 0 := by omega
      subst e
      exact ⟨by decide, fin _ rfl⟩
    · split
      · rename_i h1 h2
        refine ⟨.str z, H, I, ⟨_, rfl⟩, ?_⟩
        have e : repS z k.toNat = z := by
          rw [Bool.or_eq_true, beq_iff_eq, beq_iff_eq] at h2
          rcases h2 with e | e
          · subst e
            show (⟨(List.replicate 1 z.cps.toList).flatten.toArray⟩ : Str) = z
            simp
          · have ez : z.cps = #[] := Array.eq_empty_of_size_eq_zero e
            unfold repS
            obtain ⟨zc⟩ := z
            have ez' : zc = #[] := ez
            subst ez'
            simp
        rw [e] at q
        exact q
      · refine ⟨?_, fin _ (repS_fold z _)⟩
        rw [repS_fold, repS_len, Nat.mul_comm]
        omega
end
end Eu
set_option Elab.async false
set_option linter.all false
set_option maxRecDepth 100000
set_option maxHeartbeats 4000000
namespace Eu
open PySem PySem.Spec PyProof.Rows L2

/-! ### the law's own call -/
section
variable {P : Program} {w : World} {K : PySem.W.Frag} {mg mb : Str → Option Value} {k : Nat} {fa a : Addr} {fd : FuncData} {x : Str}
  {sp : Sp} {s1 : Shared} {vs : List Value} {ns : List Int}
/-- what the caller wants -/
abbrev Wish (s1 : Shared) : Result → Shared → Prop := fun r s' =>
  r = .ok (.ret (.bool true)) ∧ OldK s1.heap s'.heap ∧ s'.os = s1.os ∧ AllBare s'.gens

theorem call_core (KX : K.In s1.heap) (hns : s1.heap.Ns mainGlobals mg) (hb : s1.heap.Ns builtinsNs mb)
    (hbb : ∀ x : Str, x ≠ "__name__" → mb x = bootBuiltins x) (hlim : s1.heap.NoLimit) (hg : s1.gens = #[])
    (ha : s1.heap.get? a = some { cls := .type "list", data := .seq vs.toArray }) (hr : Rm k callerA)
    (F : ∀ base : Heap, K.In base → base.Ns mainGlobals mg → Ok P w K mg base CX0 k fa fd [x] sp)
    (hbind : ∀ (s : Shared) (u : Value), BindsTo s fd ⟨[u], []⟩ [(x, u)])
    (H : Hp) (hO : Only H) (hok : HOk P w H s1.heap) (hA : ∀ b, H b ≠ none → b = a) (hK : H a ≠ none → K.lookup a = none)
    (hsp : sp [.ref a] H (fun v _ => v = .bl true) fun _ _ _ => False) :
    codeAny (model P w) callerA (.call (.ref fa) ⟨[.ref a], []⟩) (Wish s1) s1 := by
  have only_a : ∀ {b : Addr} {u : HO}, H b = some u → b = a := fun {b u} e => hA b (by rw [e]; exact fun z => nomatch z)
  have dict_free : ∀ {b : Addr} {o : Obj} {es : Array DictEntry} {ep : Nat}, s1.heap.get? b = some o → o.data = .dict es ep → H b = none := by
    intro b o es ep e d
    cases q : H b with
    | none => rfl
    | some u =>
      have e' := only_a q
      subst e'
      rw [ha] at e
      cases e
      have : Data.seq vs.toArray _ = Data.dict es ep := d
      cases this
  have ns_keep : ∀ {b : Addr} {m : Str → Option Value}, s1.heap.Ns b m → (hidT s1.heap H).Ns b m := by
    rintro b m ⟨o, es, ep, e, d, r⟩
    exact ⟨o, es, ep, hidT_get e (dict_free e d), d, r⟩
  have kb : K.In (hidT s1.heap H) := by
    intro b o e
    refine hidT_get (KX b o e) ?_
    cases q : H b with
    | none => rfl
    | some u =>
      have e' := only_a q
      subst e'
      have := hK (by rw [q]; exact fun z => nomatch z)
      rw [this] at e
      cases e
  have lim : (hidT s1.heap H).NoLimit := by
    obtain ⟨mc, h1, h2⟩ := hlim
    exact ⟨mc, ns_keep h1, h2⟩
  have md : Mod K mg (hidT s1.heap H) := ⟨kb, ns_keep hns, ⟨mb, ns_keep hb, hbb⟩, lim⟩
  have e0 : Env0 P w K mg (hidT s1.heap H) callerA [] s1 H := by
    refine ⟨rfl, md, fun b o e => of_hidT e, Nat.le_of_eq (hidT_size _ _), trivial, ?_, hok, .of_eq hg⟩
    intro b hb
    cases hb
  have run := (F _ kb (ns_keep hns)).go callerA [] s1 H ⟨[.ref a], []⟩ [.ref a] [.ref a] _ _ hr e0 (hbind s1 (.ref a)) (.cons rfl .nil) hsp
  refine codeAny_mono run ?_
  intro r s' h
  match r, h with
  | .error e, h => exact False.elim h
  | .ok .next, h => exact False.elim h
  | .ok .brk, h => exact False.elim h
  | .ok .cont, h => exact False.elim h
  | .ok (.ret u), h =>
    obtain ⟨v, H', os, bare, un, hok', r', q⟩ := h
    have q' : v = .bl true := q
    subst q'
    have r2 : u = Value.bool true := r'
    subst r2
    refine ⟨rfl, OldK.of_keep ?_, os, bare⟩
    intro b o e
    cases q : H b with
    | none => exact un.keep b o e q (fun z => by cases z) (fun z => by cases z)
    | some u =>
      cases hO b with
      | inl z => rw [q] at z; cases z
      | inr z =>
        obtain ⟨ob, xs, z⟩ := z
        have z2 := un.frzs b ob _ z
        have e1 := (hok b _ z).1
        rw [e] at e1
        cases e1
        exact (hok' b _ z2).1

theorem call_law (KX : K.In s1.heap) (hns : s1.heap.Ns mainGlobals mg) (hb : s1.heap.Ns builtinsNs mb)
    (hbb : ∀ x : Str, x ≠ "__name__" → mb x = bootBuiltins x) (hlim : s1.heap.NoLimit) (hg : s1.gens = #[])
    (ha : s1.heap.get? a = some { cls := .type "list", data := .seq vs.toArray }) (hi : IntsAre vs ns) (hl : ns.length ≤ sizeLine) (hr : Rm k callerA)
    (F : ∀ base : Heap, K.In base → base.Ns mainGlobals mg → Ok P w K mg base CX0 k fa fd [x] sp)
    (hbind : ∀ (s : Shared) (u : Value), BindsTo s fd ⟨[u], []⟩ [(x, u)])
    (hsp : ∀ H : Hp, SqL K H a (ns.map V.int) → sp [.ref a] H (fun v _ => v = .bl true) fun _ _ _ => False) :
    codeAny (model P w) callerA (.call (.ref fa) ⟨[.ref a], []⟩) (Wish s1) s1 := by
  have rv := vals_ints hi
  have lenV := hi.length
  cases hk : K.lookup a with
  | some o =>
    have e := KX a o hk
    rw [ha] at e
    cases e
    refine call_core KX hns hb hbb hlim hg ha hr F hbind (fun _ => none) (fun _ => .inl rfl) ?_ (fun b z => absurd rfl z) (fun z => absurd rfl z) (hsp _ ?_)
    · intro b u z
      cases z
    · refine .inr ⟨_, vs.toArray, _, hk, rfl, rfl, rfl, ?_, ?_⟩
      · rw [List.size_toArray, lenV]; exact hl
      · rw [show vs.toArray.toList = vs from rfl]; exact rv
  | none =>
    let o : Obj := { cls := .type "list", data := .seq vs.toArray }
    let H : Hp := fun b => if b = a then some (.frz o (.lst (ns.map V.int))) else none
    have Ha : H a = some (.frz o (.lst (ns.map V.int))) := if_pos rfl
    have Hn : ∀ {b}, b ≠ a → H b = none := fun hb => if_neg hb
    refine call_core KX hns hb hbb hlim hg ha hr F hbind H ?_ ?_ ?_ (fun _ => hk) (hsp _ (.inl (.inr ⟨o, Ha⟩)))
    · intro b
      by_cases e : b = a
      · subst e; exact .inr ⟨_, _, Ha⟩
      · exact .inl (Hn e)
    · intro b u z
      by_cases e : b = a
      · subst e
        rw [Ha] at z
        cases z
        refine ⟨ha, ?_, vs, _, rv, ha⟩
        rw [List.length_map]; exact hl
      · rw [Hn e] at z
        cases z
    · intro b z
      by_cases e : b = a
      · exact e
      · exact absurd (Hn e) z
end
/-- a law's promise: any script of at most 63 ints, True comes out -/
def spLaw (K : PySem.W.Frag) : Sp := fun vs H Q _ => ∃ (a : Addr) (ns : List Int), vs = [.ref a] ∧ SqL K H a (ns.map V.int) ∧ ns.length ≤ 63 ∧ ∀ H', Q (.bl true) H'
theorem walk_ok {l : PySem.W.OpenLaw} {k : Nat} {q : Program} {loose : List Str} {XP : (Str → Option Value) → Heap → Prop} {YP : World → Heap → Prop}
    {d : DefRec} {K : Params → PySem.W.Frag} {x : Str} (hn : l.most = some 63) (hdf : d.params.defaults = []) (hr : Rm k callerA)
    (hY : ∀ (w : World) (h : Heap), YP w h → (K w.params).In h)
    (F : ∀ (w : World) (mg : Str → Option Value) (fa : Addr) (h : Heap), (K w.params).In h → h.Ns mainGlobals mg → mg d.name = some (.ref fa) →
      ∃ fd : FuncData, (∀ (s : Shared) (u : Value), BindsTo s fd ⟨[u], []⟩ [(x, u)]) ∧
        ∀ base : Heap, (K w.params).In base → base.Ns mainGlobals mg → Ok l.prog w (K w.params) mg base CX0 k fa fd [x] (spLaw (K w.params))) :
    PySem.W.WalkO q loose XP YP l.row.toRowW d [] (fun f vs => PySem.call f vs) := by
  refine Att.attach_call hn hdf ?_
  intro w s0 s1 mg mb fa o pm cd doc a vs ns G Y ho hd hcd hmg hobj hints hlen hg
  have KX := hY w _ Y
  obtain ⟨fd, hb, hF⟩ := F w mg fa _ KX G.T.g hmg
  exact call_law KX G.T.g G.T.b G.T.builtins G.T.nolimit hg hobj hints (Nat.le_trans hlen (by decide)) hr hF hb fun H hS => ⟨a, ns, rfl, hS, hlen, fun _ => rfl⟩
/-- from a def's place to what walk_ok wants -/
theorem law_fn {P : Program} {w : World} {K : PySem.W.Frag} {mg : Str → Option Value} {k : Nat} {x : Str} {st : Stmt} {N : List Str} {sp : Sp} {nm : Str} {fa : Addr}
    (D : Df K mg nm st) (hfa : mg nm = some (.ref fa)) (S : FnScope N [x] (defScope st))
    (hbd : ∀ (kV doc pm : Value) (an : Option Addr) (cdv ct : Value) (us : List Value), us.length = 1 →
      bindArgs (PySem.W.fnOf nm nm (defArgs st) (defBody st) (defScope st) .none kV doc pm an cdv ct) ⟨us, []⟩ = pure ([x].zip us))
    (len : ∀ vs H Q E, sp vs H Q E → vs.length = 1)
    (hb : ∀ (base : Heap), K.In base → base.Ns mainGlobals mg → ∀ (f : Addr) (cdv : Value) (A : Around) (out : List Env) (s : Shared) (H : Hp) (vs : List V) (Q : VK) (E : XK),
      Rm k (A.deeper (envOfC nm (defScope st) s.heap.objs.size f cdv)) → sp vs H Q E →
      ∃ t, PSs (cxOf CX0 P w K mg base N nm (defScope st) f cdv A out s H E).nox (defBody st) t ∧
        t { nx := fun _ H' => Q .non H', rt := Q } (start N vs) H) :
    ∃ fd : FuncData, (∀ (s : Shared) (u : Value), BindsTo s fd ⟨[u], []⟩ [(x, u)]) ∧
      ∀ base : Heap, K.In base → base.Ns mainGlobals mg → Ok P w K mg base CX0 (k + 1) fa fd [x] sp := by
  obtain ⟨f, oc, od, kV, doc, pm, an, cdv, ct, osl, l, c, kp, m⟩ := D.ex
  have e := hfa.symm.trans m
  cases e
  refine ⟨_, fun s u => .of_eq (hbd kV doc pm an cdv ct [u] rfl), fun base h1 h2 => ok_body l c S len ?_⟩
  intro A out s H vs Q E hr hs
  obtain ⟨t, h, q⟩ := hb base h1 h2 fa cdv A out s H vs Q E hr hs
  exact ⟨t, h.nox, q⟩

/-! ### repr of a dict with one entry -/
section
variable {X : Cx}
def rReprD : List V → Hp → VK → Prop := fun xs H Q =>
  ∃ (a : Addr) (i : Int) (z : Str), xs = [.ref a] ∧ H a = some (.dK [(Sum.inl i, .str z)]) ∧ fine (.dict [(.int i, .str z)]) = true ∧ z.length ≤ 100000 ∧ Q (.str (PyData.dict [(.int i, .str z)]).shown) H
theorem call_reprD {j : Nat} (hr : Rm j X.A) : CallR X (.builtin "repr") rReprD := by
  intro pins s σ H xs us Q I r h
  obtain ⟨a, i, z, rfl, ha, hf, hz, q⟩ := h
  obtain ⟨u, rfl, rx⟩ := vals1 r
  have hu := hr.rm.un
  cases (show u = Value.ref a from rx)
  obtain ⟨_, hsys, vs, kv, dof⟩ := (show ObjOk X.prog X.w H s.heap a (.dK [(Sum.inl i, .str z)]) from I.hok a _ ha)
  cases kv with
  | @cons p q1 ps qs h1 h2 =>
    cases h2
    obtain ⟨k0, v0⟩ := q1
    obtain ⟨e1, t, e2⟩ := h1
    simp only at e1 e2
    subst e1 e2
    obtain ⟨es, ep, ⟨o, ho, hc, hd⟩, hsz, hat⟩ := PySem.Heap.DictOf.raw dof
    have h0 : 0 < es.size := by rw [hsz]; exact Nat.one_pos
    obtain ⟨hk, hv⟩ := hat 0 h0 _ _ rfl
    have hkey : ∃ t', es[0].key = Value.int i t' := by
      rcases keyIs_shape (show keyIs (Sum.inl i) es[0].key = true from hk) with ⟨i', t', e, e'⟩ | ⟨x, t', e, e'⟩
      · cases e; exact ⟨t', e'⟩
      · cases e
    obtain ⟨t', hkey⟩ := hkey
    have el : es.toList = [es[0]] := by
      apply List.ext_getElem
      · simpa using hsz
      · intro n h1 h2
        have : n = 0 := by simpa using h2
        subst this
        simp
    have rd : Reads s.heap (.ref a) (.dict [(.int i, .str z)]) (a :: [] ++ []) := by
      refine Reads.dict ho hc.1 hd ?_ ?_
      · rw [el]
        show ReadsAll s.heap [es[0].key] [.int i] ([] ++ [])
        rw [hkey]
        exact .cons (.int _ _) .nil
      · rw [el]
        show ReadsAll s.heap [es[0].val] [.str z] ([] ++ [])
        rw [hv]
        exact .cons (.str _ _) .nil
    have hsm : sysModules ∉ a :: [] ++ [] := by
      intro hm
      have : sysModules = a := by simpa using hm
      rw [this] at hsys
      simp at hsys
    have hlen : (PyData.dict [(.int i, .str z)]).shown.length ≤ sizeLine := by
      have := shown_le _ hf
      have e : cost (.dict [(.int i, .str z)]) = 1921 + 2 + (10 * z.length + 2) + 2 + 0 + 2 := rfl
      rw [sizeLine_eq]
      omega
    refine repr_of_reads' rd (fine_showable _ hf) (fun _ => hsm) hr.gd ?_ (fun _ _ z => z) ?_ hlen
    · show X.A.units + (max (max 0 0) 0 + 1 + 1) < cLine
      omega
    · intro h' u tk hk
      exact ⟨.str _, H, I.kept hk, ⟨_, rfl⟩, q⟩
end
/-! ### items of lists of data -/
theorem dpAll_at {K : PySem.W.Frag} {H : Hp} : ∀ {xs : List V} {ds : List PyData}, DpAll K H xs ds → ∀ {n : Nat}, n < ds.length → ∃ x d, xs[n]? = some x ∧ d ∈ ds ∧ Dp K H x d
  | _, _, .nil, n, h => absurd h (Nat.not_lt_zero _)
  | _, _, .cons h1 _, 0, _ => ⟨_, _, rfl, List.mem_cons_self, h1⟩
  | _, _, .cons _ h2, n + 1, h => by
    obtain ⟨x, d, e, m, p⟩ := dpAll_at h2 (n := n) (by simpa using h)
    exact ⟨x, d, by simpa using e, List.mem_cons_of_mem _ m, p⟩
theorem dp_item {K : PySem.W.Frag} {H : Hp} {xs : List V} {ds : List PyData} (h : DpAll K H xs ds) {i : Int} (h0 : 0 ≤ i) (h1 : i < (ds.length : Int)) :
    ∃ x d, atI xs i = some x ∧ d ∈ ds ∧ Dp K H x d := by
  obtain ⟨x, d, e, m, p⟩ := dpAll_at h (n := i.toNat) (by omega)
  exact ⟨x, d, at_of (j := i.toNat) (by omega) e, m, p⟩
end Eu
set_option Elab.async false
set_option linter.all false
set_option maxRecDepth 100000
set_option maxHeartbeats 4000000
namespace Eu
open PySem PySem.Spec PyProof.Rows L2

/-! ### methods, and objects made -/
theorem Rm.make {k : Nat} {A : Around} (r : Rm (k + 1) A) (C : Addr) (us : List Value) (kw : List (Str × Value)) : Rm k (A.under (.builtin "type.__call__" ⟨.ref C :: us, kw⟩)) := by
  refine ⟨r.rm.make C us kw, ?_⟩
  have e : (Code.builtin "type.__call__" ⟨.ref C :: us, kw⟩).guards = [] := by
    first | rfl | simp [Code.guards, Code.isGuard, guardIds]
  show pushGuards (Code.builtin "type.__call__" ⟨.ref C :: us, kw⟩).guards A.guards = some []
  rw [e, r.gd]
  rfl

structure Met (P : Program) (w : World) (K : PySem.W.Frag) (mg : Str → Option Value) (base : Heap) (k : Nat) (C : Addr) (m : Str) (sp : Sp) (dvs : List V) : Prop where
  ex : ∃ (f : Addr) (fd : FuncData) (ps : List Str) (ds : List Value), Cls K C ∧ Meth K C m f ∧ Ok P w K mg base CX0 k f fd ps sp ∧ Binds K fd ps ds ∧ Vals dvs ds
structure Mak (P : Program) (w : World) (K : PySem.W.Frag) (mg : Str → Option Value) (base : Heap) (k : Nat) (x : Str) (C : Addr) (sp : Sp) (dvs : List V) : Prop where
  ex : ∃ (f : Addr) (fd : FuncData) (ps : List Str) (ds : List Value), Mk K C f ∧ Ok P w K mg base CX0 k f fd ps sp ∧ mg x = some (.ref C) ∧ Binds K fd ps ds ∧ Vals dvs ds
/-- a method of the class at C, as the top has left it -/
structure Dm (K : PySem.W.Frag) (C : Addr) (m qual : Str) (st : Stmt) (dvs : List V) : Prop where
  ex : ∃ (f : Addr) (oc : Value) (od : Option Addr) (dV kV doc pm : Value) (an : Option Addr) (cdv ct : Value) (osl : Array (Option Value)),
    K.lookup f = some ⟨oc, od, .func (PySem.W.fnOf m qual (defArgs st) (defBody st) (defScope st) dV kV doc pm an cdv ct), osl⟩ ∧
    PySem.W.codeIn K cdv qual = true ∧ Meth K C m f ∧ DflV K dV dvs

section
variable {P : Program} {w : World} {K : PySem.W.Frag} {mg : Str → Option Value} {base : Heap}
theorem Dm.met {C : Addr} {m qual : Str} {st : Stmt} {N ps : List Str} {k : Nat} {sp : Sp} (D : Dm K C m qual st []) (c : Cls K C) (S : FnScope N ps (defScope st))
    (hbd : ∀ (kV doc pm : Value) (an : Option Addr) (cdv ct : Value) (us : List Value), us.length = ps.length →
      bindArgs (PySem.W.fnOf m qual (defArgs st) (defBody st) (defScope st) .none kV doc pm an cdv ct) ⟨us, []⟩ = pure (ps.zip us))
    (len : ∀ vs H Q E, sp vs H Q E → vs.length = ps.length)
    (hb : ∀ (f : Addr) (cdv : Value) (A : Around) (out : List Env) (s : Shared) (H : Hp) (vs : List V) (Q : VK) (E : XK),
      Rm k (A.deeper (envOfC qual (defScope st) s.heap.objs.size f cdv)) → sp vs H Q E →
      ∃ t, PSs (cxOf CX0 P w K mg base N qual (defScope st) f cdv A out s H E).nox (defBody st) t ∧
        t { nx := fun _ H' => Q .non H', rt := Q } (start N vs) H) : Met P w K mg base (k + 1) C m sp [] := by
  obtain ⟨f, oc, od, dV, kV, doc, pm, an, cdv, ct, osl, l, cd, me, dd⟩ := D.ex
  rcases dd with ⟨_, e⟩ | ⟨e, _⟩
  · subst e
    refine ⟨f, _, ps, [], c, me, ok_body l cd S len ?_, .all (hbd kV doc pm an cdv ct), .nil⟩
    intro A out s H vs Q E hr hs
    obtain ⟨t, h, q⟩ := hb f cdv A out s H vs Q E hr hs
    exact ⟨t, h.nox, q⟩
  · exact absurd rfl e
/-- an __init__ with one default (the last parameter): called with n values, or with all but the last -/
theorem Dm.mak1 {C : Addr} {x qual : Str} {st : Stmt} {N ps : List Str} {k n : Nat} {sp : Sp} {dv : V} (D : Dm K C "__init__" qual st [dv]) (mkC : PySem.W.makesIn K C = true) (kpC : PySem.W.keepIn K (.ref C) = true) (hm : mg x = some (.ref C))
    (S : FnScope N ps (defScope st)) (hn : n + 1 = ps.length)
    (hall : ∀ (T : Addr) (kV doc pm : Value) (an : Option Addr) (cdv ct : Value) (us its : List Value), us.length = n + 1 → its.length = 1 →
      ∃ k, bindArgs (PySem.W.fnOf "__init__" qual (defArgs st) (defBody st) (defScope st) (.ref T) kV doc pm an cdv ct) ⟨us, []⟩ = seqItems? (.ref T) >>= k ∧ k (some its.toArray) = pure (ps.zip (us ++ its.drop 1)))
    (hone : ∀ (T : Addr) (kV doc pm : Value) (an : Option Addr) (cdv ct : Value) (us its : List Value), us.length = n → its.length = 1 →
      ∃ k, bindArgs (PySem.W.fnOf "__init__" qual (defArgs st) (defBody st) (defScope st) (.ref T) kV doc pm an cdv ct) ⟨us, []⟩ = seqItems? (.ref T) >>= k ∧ k (some its.toArray) = pure (ps.zip (us ++ its.drop 0)))
    (len : ∀ vs H Q E, sp vs H Q E → vs.length = ps.length)
    (hb : ∀ (f : Addr) (cdv : Value) (A : Around) (out : List Env) (s : Shared) (H : Hp) (vs : List V) (Q : VK) (E : XK),
      Rm k (A.deeper (envOfC qual (defScope st) s.heap.objs.size f cdv)) → sp vs H Q E →
      ∃ t, PSs (cxOf CX0 P w K mg base N qual (defScope st) f cdv A out s H E).nox (defBody st) t ∧
        t { nx := fun _ H' => Q .non H', rt := Q } (start N vs) H) : Mak P w K mg base (k + 1) x C sp [] ∧ Mak P w K mg base (k + 1) x C sp [dv] := by
  obtain ⟨f, oc, od, dV, kV, doc, pm, an, cdv, ct, osl, l, cd, me, dd⟩ := D.ex
  have F : FunD K "__init__" qual (defArgs st) (defBody st) (defScope st) [dv] [] f (PySem.W.fnOf "__init__" qual (defArgs st) (defBody st) (defScope st) dV kV doc pm an cdv ct) :=
    ⟨⟨oc, od, dV, kV, doc, pm, an, cdv, ct, osl, rfl, l, cd, dd, .inl rfl⟩, me.kp⟩
  obtain ⟨d1, v1, b1⟩ := F.binds1 (n + 1) 1 (by simp) (by simpa using hn) hall
  obtain ⟨d2, v2, b2⟩ := F.binds1 n 0 (by simp) (by simpa using hn) hone
  have o : Ok P w K mg base CX0 (k + 1) f (PySem.W.fnOf "__init__" qual (defArgs st) (defBody st) (defScope st) dV kV doc pm an cdv ct) ps sp := by
    refine ok_body l cd S len ?_
    intro A out s H vs Q E hr hs
    obtain ⟨t, h, q⟩ := hb f cdv A out s H vs Q E hr hs
    exact ⟨t, h.nox, q⟩
  have M : Mk K C f := ⟨mkC, me.at_, me.fn, kpC⟩
  exact ⟨⟨f, _, ps, d1, M, o, hm, b1, v1⟩, ⟨f, _, ps, d2, M, o, hm, b2, v2⟩⟩
end

section
variable {X : Cx} {k j : Nat} {C f : Addr} {fd : FuncData} {ps : List Str} {x m : Str} {sp : Sp} {dvs : List V} {ds : List Value} {p pos apos : Pos} {e o : Expr} {es : List Expr} {ta : TE} {t : TA}
theorem pe_mt {pl : Sem Bool} (c : Met X.prog X.w X.K X.mg X.base k C m sp dvs) (hr : Rm j X.A) (hk : k ≤ j) (he : PE X o ta) (ha : PA X (e :: es) t)
    (hst : starEach (e :: es) X.env = (false, eval e X.env) :: starEach es X.env := by rfl)
    (hpl : (backTo pos (starEach es X.env)).any (·.1) = false := by rfl)
    (ht : eval (.Call (.Attribute o m apos) (e :: es) [] pos) X.env = (do
      let v ← eval o X.env
      standAt apos.atName
      let (g, l) ← holding [v] (getMethod v m pl)
      callWith pos g l (backTo pos (starEach (e :: es) X.env)) (backToKw pos (keywordEach [] X.env))) := by rfl) :
    PE X (.Call (.Attribute o m apos) (e :: es) [] pos) (tMeth C m sp dvs E0 ta t) := by
  obtain ⟨f, fd, ps, ds, hc, hm, ok, b, d⟩ := c.ex
  constructor
  intro pins s σ H Q I h
  refine PySem.W.methodCall_KW (pl := pl) (thn (he.run pins s σ H _ I h) ?_) ht
  rintro u s1 ⟨y, H1, I1, ry, a, dx, fs, ey, ea, l, q⟩
  subst ey
  have eu : u = Value.ref a := ry
  subst eu
  refine getmeth_ok I1 ea hc hm l ?_
  refine PySem.W.callWith_K (first := [.ref a]) (h₀ := X.base) I.ok.mod.kin hm.kp (thn (ha.run pos pins s1 σ H1 _ I1 q) ?_) hst hpl
  rintro us s2 ⟨vs, H2, I2, r, q2⟩
  exact ⟨I2.kIn, run_ok (us := .ref a :: us) (vs := .ref a :: vs) ok (hr.mono hk) b d pass0 I2 (.cons rfl r) q2⟩
theorem pe_mt0 {pl : Sem Bool} (c : Met X.prog X.w X.K X.mg X.base k C m sp dvs) (hr : Rm j X.A) (hk : k ≤ j) (he : PE X o ta)
    (ht : eval (.Call (.Attribute o m apos) [] [] pos) X.env = (do
      let v ← eval o X.env
      standAt apos.atName
      let (g, l) ← holding [v] (getMethod v m pl)
      callWith pos g l (backTo pos (starEach [] X.env)) (backToKw pos (keywordEach [] X.env))) := by rfl) :
    PE X (.Call (.Attribute o m apos) [] [] pos) (tMeth C m sp dvs E0 ta tNil) := by
  obtain ⟨f, fd, ps, ds, hc, hm, ok, b, d⟩ := c.ex
  constructor
  intro pins s σ H Q I h
  refine PySem.W.methodCall_KW (pl := pl) (thn (he.run pins s σ H _ I h) ?_) ht
  rintro u s1 ⟨y, H1, I1, ry, a, dx, fs, ey, ea, l, q⟩
  subst ey
  have eu : u = Value.ref a := ry
  subst eu
  refine getmeth_ok I1 ea hc hm l ?_
  exact PySem.W.callWith_K0 (first := [.ref a]) I1.kIn hm.kp (run_ok (us := [.ref a]) (vs := [.ref a]) ok (hr.mono hk) b d pass0 I1 (.cons rfl .nil) q)
theorem run_mk {pins : List (Addr × Obj)} {σ : L2.St} {H : Hp} {s : Shared} {Q : VK} {us : List Value} {vs : List V} (M : Mk X.K C f) (o : Ok X.prog X.w X.K X.mg X.base CX0 k f fd ps sp)
    (hr : Rm (k + 1) X.A) (hb : Binds X.K fd ps ds) (hd : Vals dvs ds) (I : Inv X pins σ H s) (r : Vals vs us)
    (h : ∀ x dx, H x = none → H dx = none → dx ≠ x → sp (.ref x :: (vs ++ dvs)) (upd (upd H dx (.own x)) x (.ins C dx [])) (fun v H2 => v = .non ∧ Q (.ref x) H2) E0) :
    wpAny (model X.prog X.w) X.A (call (.ref C) us) (EP X pins σ Q) X.xe s := by
  have hq := h (s.heap.objs.size + 1) s.heap.objs.size (I.hok.fresh (Nat.le_succ _)) (I.hok.fresh (Nat.le_refl _)) (Nat.ne_of_lt (Nat.lt_succ_self _))
  have I2 := Inv.made (C := C) I
  have rr : Vals (V.ref (s.heap.objs.size + 1) :: (vs ++ dvs)) (Value.ref (s.heap.objs.size + 1) :: (us ++ ds)) := .cons rfl (r.append hd)
  have hl : (Value.ref (s.heap.objs.size + 1) :: us ++ ds).length = ps.length := by
    have e := rr.length
    rw [o.len _ _ _ _ hq] at e
    exact e.symm
  have b2 := hb _ (Value.ref (s.heap.objs.size + 1) :: us) I2.kIn hl
  have go := o.go _ X.stack _ _ ⟨Value.ref (s.heap.objs.size + 1) :: us, []⟩ (Value.ref (s.heap.objs.size + 1) :: (us ++ ds)) _ _ E0 (hr.make C us []) (I2.env0.make C us []) b2 rr hq
  refine wpAny_call (make_map (f := f) I.kIn M.makes M.init (beq_iff_eq.mp M.fn) (codeAny_mono go ?_))
  intro res s' hq'
  match res, hq' with
  | .error e, hq' => exact False.elim hq'
  | .ok .next, hq' => exact False.elim hq'
  | .ok .brk, hq' => exact False.elim hq'
  | .ok .cont, hq' => exact False.elim hq'
  | .ok (.ret u), hq' =>
    obtain ⟨v, H', I3, rv, ev, q3⟩ := I2.after hq'
    subst ev
    exact ⟨rv, ⟨V.ref (s.heap.objs.size + 1), H', I3, rfl, q3⟩⟩
theorem pe_mk (c : Mak X.prog X.w X.K X.mg X.base k x C sp dvs) (hr : Rm j X.A) (hk : k + 1 ≤ j) (hg : Gl X x) (ha : PA X (e :: es) t)
    (hdb : (x == ("__debug__" : Str)) = false := by decide)
    (he : starEach (e :: es) X.env = (false, eval e X.env) :: starEach es X.env := by rfl)
    (hpl : (backTo pos (starEach es X.env)).any (·.1) = false := by rfl) :
    PE X (.Call (.Name x p) (e :: es) [] pos) (tMake C sp dvs E0 t) := by
  obtain ⟨f, fd, ps, ds, M, o, hm, b, d⟩ := c.ex
  constructor
  intro pins s σ H Q I h
  apply wpAny_Call_Name_kw
  apply ld_glob I hg hm _ hdb
  refine PySem.W.callWith_K (h₀ := X.base) I.ok.mod.kin M.kp (thn (ha.run pos pins s σ H _ I h) ?_) he hpl
  rintro us s1 ⟨vs, H1, I1, r, q⟩
  exact ⟨I1.kIn, run_mk M o (hr.mono hk) b d I1 r q⟩
theorem pe_mk0 (c : Mak X.prog X.w X.K X.mg X.base k x C sp dvs) (hr : Rm j X.A) (hk : k + 1 ≤ j) (hg : Gl X x)
    (hdb : (x == ("__debug__" : Str)) = false := by decide) : PE X (.Call (.Name x p) [] [] pos) (tMake C sp dvs E0 tNil) := by
  obtain ⟨f, fd, ps, ds, M, o, hm, b, d⟩ := c.ex
  constructor
  intro pins s σ H Q I h
  apply wpAny_Call_Name_kw
  apply ld_glob I hg hm _ hdb
  exact PySem.W.callWith_K0 I.kIn M.kp (run_mk (us := []) M o (hr.mono hk) b d I .nil h)

/-! ### operators that a class defines -/
/-- the callee runs one unit deeper -/
theorem run_in1 {pins : List (Addr × Obj)} {σ : L2.St} {H : Hp} {s : Shared} {Q : VK} {us : List Value} {vs : List V}
    (o : Ok X.prog X.w X.K X.mg X.base CX0 k f fd ps sp) (hr : Rm (k + 1) X.A) (hb : Binds X.K fd ps ds) (hd : Vals dvs ds)
    (I : Inv X pins σ H s) (r : Vals vs us) (h : sp (vs ++ dvs) H Q E0) :
    wpAny (model X.prog X.w) X.A.in1 (call (.ref f) us) (EP X pins σ Q) X.xe s := by
  have rr := r.append hd
  have hl : (us ++ ds).length = ps.length := rr.length ▸ o.len _ _ _ _ h
  refine wpAny_call (codeAny_mono (o.go X.A.in1 X.stack s H ⟨us, []⟩ (us ++ ds) (vs ++ dvs) Q E0 hr.in1 I.env0.in1 (hb s us I.kIn hl) rr h) ?_)
  intro res s' hq
  match res, hq with
  | .error e, hq => exact False.elim hq
  | .ok (.ret u), hq => exact I.after hq
  | .ok .next, hq => exact False.elim hq
  | .ok .brk, hq => exact False.elim hq
  | .ok .cont, hq => exact False.elim hq
theorem inst_of {pins : List (Addr × Obj)} {σ : L2.St} {H : Hp} {s : Shared} {a dx : Addr} {fs : List (Str × V)} (I : Inv X pins σ H s) (e : H a = some (.ins C dx fs)) :
    ∃ od, PySem.W.InstAt s.heap a (PySem.W.instObj C dx) C (some od) := by
  obtain ⟨mA, O, _⟩ := ins_get I.hok e
  obtain ⟨od, J, _⟩ := O.look
  exact ⟨od, J⟩
/-- a op b, both of the class at C -/
def rOwn (C : Addr) (sp : Sp) (dvs : List V) : R2 := fun x y H Q => ∃ a b dx dy fs gs, x = .ref a ∧ y = .ref b ∧ H a = some (.ins C dx fs) ∧ H b = some (.ins C dy gs) ∧
  sp ([x, y] ++ dvs) H (fun v H' => (∀ u, RelV v u → u ≠ .notImplemented) ∧ Q v H') E0
theorem op_own {op : Operator} (c : Met X.prog X.w X.K X.mg X.base k C (PySem.dunder op.info.2) sp dvs) (hr : Rm j X.A) (hk : k ≤ j) (hsf : PySem.W.selfFirst X.K C = true) :
    OpR X (binaryOp op) (rOwn C sp dvs) := by
  obtain ⟨f, fd, ps, ds, hc, hm, o, b', d⟩ := c.ex
  intro pins s σ H x y v u Q I rx ry h
  obtain ⟨a, b, dx, dy, fs, gs, rfl, rfl, ha, hb, q⟩ := h
  cases rx
  cases ry
  obtain ⟨od, J⟩ := inst_of I ha
  obtain ⟨od2, J2⟩ := inst_of I hb
  obtain ⟨m, fr⟩ := I.fr
  refine PySem.W.binop_K fr I.ok.mod.kin J J2.type hsf hm.at_ hm.fn ?_
  refine wpAny_mono (run_ok (us := [.ref a, .ref b]) (vs := [.ref a, .ref b]) o (hr.mono hk) b' d pass0 I (.cons rfl (.cons rfl .nil)) q) ?_ (fun _ _ z => z)
  rintro r s' ⟨z, H', I', rz, nz, q'⟩
  have := nz r rz
  unfold PySem.W.CmpBack
  cases r <;> first | exact absurd rfl this | exact ⟨z, H', I', rz, q'⟩
/-- x in a, x not in a -/
def rOwnIn (C : Addr) (neg : Bool) (sp : Sp) (dvs : List V) : R2 := fun x y H Q => ∃ b dy gs, y = .ref b ∧ H b = some (.ins C dy gs) ∧
  sp ([y, x] ++ dvs) H (fun v H' => ∃ t, v = .bl t ∧ Q (.bl (if neg then !t else t)) H') E0
theorem op_ownIn (c : Met X.prog X.w X.K X.mg X.base k C "__contains__" sp dvs) (hr : Rm j X.A) (hk : k ≤ j) : OpR X (compareOp .In) (rOwnIn C false sp dvs) := by
  obtain ⟨f, fd, ps, ds, hc, hm, o, b', d⟩ := c.ex
  intro pins s σ H x y v u Q I rx ry h
  obtain ⟨b, dy, gs, rfl, hb, q⟩ := h
  cases ry
  obtain ⟨od, J⟩ := inst_of I hb
  obtain ⟨m, fr⟩ := I.fr
  refine PySem.W.in_K fr I.ok.mod.kin J hm.at_ hm.fn ?_
  refine wpAny_mono (run_ok (us := [.ref b, v]) (vs := [.ref b, x]) o (hr.mono hk) b' d pass0 I (.cons rfl (.cons rx .nil)) q) ?_ (fun _ _ z => z)
  rintro r s' ⟨z, H', I', rz, t, rfl, q'⟩
  cases rz
  exact wpAny_truthy_bool ⟨.bl t, H', I', rfl, q'⟩
theorem op_ownNotIn (c : Met X.prog X.w X.K X.mg X.base k C "__contains__" sp dvs) (hr : Rm j X.A) (hk : k ≤ j) : OpR X (compareOp .NotIn) (rOwnIn C true sp dvs) := by
  obtain ⟨f, fd, ps, ds, hc, hm, o, b', d⟩ := c.ex
  intro pins s σ H x y v u Q I rx ry h
  obtain ⟨b, dy, gs, rfl, hb, q⟩ := h
  cases ry
  obtain ⟨od, J⟩ := inst_of I hb
  obtain ⟨m, fr⟩ := I.fr
  refine PySem.W.notIn_K fr I.ok.mod.kin J hm.at_ hm.fn ?_
  refine wpAny_mono (run_ok (us := [.ref b, v]) (vs := [.ref b, x]) o (hr.mono hk) b' d pass0 I (.cons rfl (.cons rx .nil)) q) ?_ (fun _ _ z => z)
  rintro r s' ⟨z, H', I', rz, t, rfl, q'⟩
  cases rz
  exact wpAny_truthy_bool ⟨.bl (!t), H', I', rfl, q'⟩
/-- len(a) -/
def rOwnLen (C : Addr) (sp : Sp) (dvs : List V) : List V → Hp → VK → Prop := fun xs H Q => ∃ a dx fs, xs = [.ref a] ∧ H a = some (.ins C dx fs) ∧
  sp ([.ref a] ++ dvs) H (fun v H' => ∃ n : Nat, v = .int (n : Int) ∧ n ≤ sizeLine ∧ Q (.int (n : Int)) H') E0
theorem call_ownLen (c : Met X.prog X.w X.K X.mg X.base k C "__len__" sp dvs) (hr : Rm j X.A) (hk : k + 1 ≤ j) : CallR X (.builtin "len") (rOwnLen C sp dvs) := by
  obtain ⟨f, fd, ps, ds, hc, hm, o, b', d⟩ := c.ex
  intro pins s σ H xs us Q I r h
  obtain ⟨a, dx, fs, rfl, ha, q⟩ := h
  obtain ⟨u, rfl, ru⟩ := vals1 r
  cases ru
  obtain ⟨od, J⟩ := inst_of I ha
  obtain ⟨m, fr⟩ := I.fr
  refine PySem.W.len_K fr I.ok.mod.kin J hm.at_ hm.fn ?_
  refine wpAny_mono (run_in1 (us := [.ref a]) (vs := [.ref a]) o (hr.mono hk) b' d I (.cons rfl .nil) q) ?_ (fun _ _ z => z)
  rintro r s' ⟨z, H', I', rz, n, rfl, hn, q'⟩
  obtain ⟨t, rfl⟩ := rz
  have := sizeLine_eq
  exact ⟨⟨by omega, by omega⟩, .int _, H', I'.tok _, ⟨_, rfl⟩, q'⟩
/-- a == b, both of the class at C -/
theorem op_ownEq (c : Met X.prog X.w X.K X.mg X.base k C "__eq__" sp dvs) (hr : Rm j X.A) (hk : k ≤ j) : OpR X (compareOp .Eq) (rOwn C sp dvs) := by
  obtain ⟨f, fd, ps, ds, hc, hm, o, b', d⟩ := c.ex
  intro pins s σ H x y v u Q I rx ry h
  obtain ⟨a, b, dx, dy, fs, gs, rfl, rfl, ha, hb, q⟩ := h
  cases rx
  cases ry
  obtain ⟨od, J⟩ := inst_of I ha
  obtain ⟨od2, J2⟩ := inst_of I hb
  obtain ⟨m, fr⟩ := I.fr
  refine PySem.W.cmp_ofEq (PySem.W.cmp_K hr.rm.units0 fr I.ok.mod.kin J J2.type ?_ hm.at_ hm.fn ?_)
  · unfold PySem.W.notFirst
    simp
  refine wpAny_mono (run_ok (us := [.ref a, .ref b]) (vs := [.ref a, .ref b]) o (hr.mono hk) b' d pass0 I (.cons rfl (.cons rfl .nil)) q) ?_ (fun _ _ z => z)
  rintro r s' ⟨z, H', I', rz, nz, q'⟩
  have := nz r rz
  unfold PySem.W.CmpBack
  cases r <;> first | exact absurd rfl this | exact ⟨z, H', I', rz, q'⟩
end
end Eu
set_option Elab.async false
set_option linter.all false
set_option maxRecDepth 100000
set_option maxHeartbeats 4000000
namespace Eu
open PySem PySem.Spec PyProof.Rows L2

/-! ### sorted of tuples (int, text, ints ..) by their first items -/
def shp (i : Nat) : Bool := i == 1
theorem tups_of {h : Heap} {shape : Nat → Bool} : ∀ {vs : List Value}, (∀ v ∈ vs, ∃ f, TupOf h shape v f) → ∃ fs, TupsOf h shape vs fs
  | [], _ => ⟨[], .nil⟩
  | v :: vs, hv => by
    obtain ⟨f, hf⟩ := hv v List.mem_cons_self
    obtain ⟨fs, hfs⟩ := tups_of (vs := vs) fun u hu => hv u (List.mem_cons_of_mem _ hu)
    exact ⟨f :: fs, .cons hf hfs⟩
theorem ints_items : ∀ {xs : List V} {us : List Value} {i : Nat}, Vals xs us → (∀ x ∈ xs, ∃ n, x = V.int n) → 2 ≤ i → ∃ l, tupItems shp i us = some l
  | _, _, _, .nil, _, _ => ⟨[], rfl⟩
  | x :: xs, u :: us, i, .cons r t, h, hi => by
    obtain ⟨n, rfl⟩ := h x List.mem_cons_self
    obtain ⟨tk, rfl⟩ := r
    obtain ⟨l, e⟩ := ints_items (i := i + 1) t (fun y hy => h y (List.mem_cons_of_mem _ hy)) (by omega)
    refine ⟨Sum.inl n :: l, ?_⟩
    show (if shp i = true then none else (tupItems shp (i + 1) us).map (Sum.inl n :: ·)) = _
    rw [if_neg (by unfold shp; simp; omega), e]
    rfl
/-- x is a tuple with the first item k x, then a text, then ints -/
def TupK (H : Hp) (k : V → Int) (x : V) : Prop := ∃ (t : Addr) (z : Str) (r : List V), x = .ref t ∧ H t = some (.tup (.int (k x) :: .str z :: r)) ∧ ∀ y ∈ r, ∃ n, y = V.int n
theorem key_of {X : Cx} {pins : List (Addr × Obj)} {σ : L2.St} {H : Hp} {s : Shared} {k : V → Int} {u : Value} (I : Inv X pins σ H s) (h : TupK H k (backV u)) (hu : ∃ a, u = .ref a) :
    (∃ f, TupOf s.heap shp u f) ∧ ∃ l, PyProof.Rows.G.tupKeyC s.heap shp u = some (Sum.inl (k (backV u)) :: l) := by
  obtain ⟨a, rfl⟩ := hu
  obtain ⟨t, z, r, e, ht, hr⟩ := h
  cases e
  obtain ⟨_, its, rv, o, ho, hc, n, hd⟩ := I.hok _ _ ht
  cases rv with
  | cons r1 rv =>
    cases rv with
    | cons r2 rv =>
      obtain ⟨t1, rfl⟩ := r1
      obtain ⟨t2, rfl⟩ := r2
      rename_i us
      obtain ⟨l, el⟩ := ints_items (i := 2) rv hr (Nat.le_refl _)
      refine ⟨⟨_, a, o, _, n, rfl, ho, hc, hd, rfl, fun _ => ⟨_, _, rfl⟩, fun q => by cases q⟩, Sum.inr z.cps.toList :: l, ?_⟩
      unfold PyProof.Rows.G.tupKeyC
      have ht : PyProof.Rows.G.isTupObj s.heap (.ref a) = true := by
        unfold PyProof.Rows.G.isTupObj
        simp only [ho, hc]
        rfl
      rw [if_pos ht]
      unfold tupKey
      simp only [ho, hd]
      show (if shp 0 = true then none else (tupItems shp 1 (.str z t2 :: us)).map (Sum.inl (k (backV (.ref a))) :: ·)) = _
      rw [if_neg (by decide)]
      show ((if shp 1 = true then (tupItems shp 2 us).map (Sum.inr z.cps.toList :: ·) else none).map (Sum.inl (k (backV (.ref a))) :: ·)) = _
      rw [if_pos (show shp 1 = true from rfl), el]
      rfl
def rSortedTS (K : PySem.W.Frag) : List V → Hp → VK → Prop := fun vs H Q => ∃ (a : Addr) (xs : List V) (k : V → Int), vs = [V.ref a] ∧ SqL K H a xs ∧ (∀ x ∈ xs, TupK H k x) ∧
  ∀ (ys : List V) (p : Addr), ys.Perm xs → ys.Pairwise (fun x y => k x ≤ k y) → H p = none → Q (.ref p) (upd H p (.lst ys))
section
variable {X : Cx}
theorem cr_sortedTS : CallR X (.builtin "sorted") (rSortedTS X.K) := by
  intro pins s σ H vs us Q I r h
  obtain ⟨a, xs, k, rfl, hs, hx, q⟩ := h
  obtain ⟨its, rv, hl, hz⟩ := I.list hs
  obtain ⟨u, rfl, ru⟩ := vals1 r
  cases (show u = Value.ref a from ru)
  obtain ⟨e1, e2⟩ := refs_back rv fun x m => by
    obtain ⟨t, _, _, e, _⟩ := hx x m
    exact ⟨t, e⟩
  have hk : ∀ v ∈ its, (∃ f, TupOf s.heap shp v f) ∧ ∃ l, PyProof.Rows.G.tupKeyC s.heap shp v = some (Sum.inl (k (backV v)) :: l) := fun v hv =>
    key_of I (hx _ (by rw [e1]; exact List.mem_map.mpr ⟨v, hv, rfl⟩)) (e2 v hv)
  obtain ⟨fs, ht⟩ := tups_of fun v hv => (hk v hv).1
  refine PyProof.Rows.G.sorted_tups (shape := shp) hl.isList ht (fun v hv => ?_) (by rw [← rv.length]; exact hz) ?_
  · obtain ⟨l, e⟩ := (hk v hv).2
    exact ⟨_, e⟩
  · intro st' hp hso hst
    have pl : (arrOf st').toList.Perm (its.zip its) := by
      have := hp.toList
      rwa [pairsOf_toList] at this
    have eq12 : ∀ p ∈ (arrOf st').toList, p.1 = p.2 ∧ p.1 ∈ its := fun p hm => mem_zip_self (pl.mem_iff.mp hm)
    have outP : ((arrOf st').toList.map (·.2)).Perm its := by
      have := pl.map (·.2)
      rwa [show (its.zip its).map (·.2) = its from List.map_snd_zip (Nat.le_refl _)] at this
    have oe : ((arrOf st').map (·.2)).toList = (arrOf st').toList.map (·.2) := by simp
    have h3 : ∀ v ∈ (arrOf st').toList.map (·.2), ∃ a, v = Value.ref a := fun v hv => e2 v (outP.mem_iff.mp hv)
    obtain ⟨n, hn⟩ := sortedAll_at s.heap its ((arrOf st').map (·.2))
    have hd : s.heap.objs.size ≤ s.heap.objs.size + 1 := Nat.le_succ _
    have perm : (((arrOf st').toList.map (·.2)).map backV).Perm xs := by
      rw [e1]
      exact outP.map backV
    refine ⟨.ref (s.heap.objs.size + 1), upd H (s.heap.objs.size + 1) (.lst (((arrOf st').toList.map (·.2)).map backV)), I.laid (t' := s.toks) (fun b o e => sortedAll_old e) hd ⟨?_, (arrOf st').toList.map (·.2), n, vals_back h3, ?_⟩, rfl, q _ _ perm ?_ (I.hok.fresh hd)⟩
    · rw [perm.length_eq]
      exact hz
    · rw [hn]
      congr 2
      rw [← oe]
    · rw [List.pairwise_iff_getElem]
      intro i j hi hj hij
      have hjs : j < (arrOf st').size := by simpa using hj
      have his : i < (arrOf st').size := by omega
      have hle := hso i j (Nat.le_of_lt hij) (by
        have e := pl.length_eq
        rw [Array.length_toList, List.length_zip, Nat.min_self] at e
        rw [pairsOf_size, ← e]
        exact hjs)
      have kk : ∀ n (hn : n < (arrOf st').size), ∃ l, KK (PyProof.Rows.G.tupKindC s.heap shp) (arrOf st') n = (Sum.inl (k (backV (arrOf st')[n].2)) :: l : List (Int ⊕ List Nat)) := by
        intro n hn
        obtain ⟨c1, c2⟩ := eq12 (arrOf st')[n] (by simp)
        obtain ⟨l, e⟩ := (hk _ c2).2
        refine ⟨l, ?_⟩
        unfold KK
        rw [Array.getElem?_eq_getElem hn]
        show (PyProof.Rows.G.tupKeyC s.heap shp (arrOf st')[n].1).getD [] = _
        rw [e, c1]
        rfl
      obtain ⟨l1, k1⟩ := kk i his
      obtain ⟨l2, k2⟩ := kk j hjs
      rw [k1, k2] at hle
      have hle' : (decide (k (backV (arrOf st')[j].2) < k (backV (arrOf st')[i].2)) || (!decide (k (backV (arrOf st')[i].2) < k (backV (arrOf st')[j].2)) && lexLt itemOrd l2 l1)) = false := hle
      rw [Bool.or_eq_false_iff] at hle'
      have := of_decide_eq_false hle'.1
      simp only [List.getElem_map, Array.getElem_toList]
      omega
end
end Eu
set_option Elab.async false
set_option linter.all false
set_option maxRecDepth 100000
set_option maxHeartbeats 4000000
namespace Eu
open PySem PySem.Spec PyProof.Rows L2
/-! ### dict comprehensions -/
section
variable {α : Type} {J : It} {xs : List α} {Y : α → Hp → V → Hp → Prop} {S : Hp → Prop} {g : TG}
theorem dc_over {tt : TT} {tk tv : TE} {vs : List Nat} {σ : L2.St} {H1 : Hp} {D : Addr} {Qd : Hp → Prop} (o : Over J xs Y S) (Pv : Nat → Hp → Prop)
    (h0 : Pv 0 (upd H1 D (.dK []))) (hS : ∀ i H, i ≤ xs.length → Pv i H → S H)
    (hs : ∀ i x H v H', xs[i]? = some x → Pv i H → Y x H v H' → g v (wipe σ vs) H' fun σ2 H2 => wipe σ2 vs = wipe σ vs ∧ tt σ2 H2 fun b H3 =>
      if b = true then tk σ2 H3 fun y H4 => tv σ2 H4 fun z H5 => ∃ kvs k, y = kV k ∧ H5 D = some (.dK kvs) ∧ kvs.length < sizeLine ∧ Pv (i + 1) (upd H5 D (.dK (putK kvs k z))) else Pv (i + 1) H3)
    (hd : ∀ H, Pv xs.length H → Qd H) :
    ∃ W : Nat → Nat → Hp → Prop, (∃ m, W 0 m (upd H1 D (.dK []))) ∧ ∀ i m H, W i m H → (J.stop i H ∧ Qd H) ∨ (J.go i H ∧
      ∃ Nx : Hp → Prop, (∀ H', Nx H' → ∃ m', m' < m ∧ W (i + 1) m' H') ∧ ∀ x H', J.yld i H x H' → g x (wipe σ vs) H' fun σ2 H2 => wipe σ2 vs = wipe σ vs ∧ tt σ2 H2 fun b H3 =>
        if b = true then tk σ2 H3 fun y H4 => tv σ2 H4 fun z H5 => ∃ kvs k, y = kV k ∧ H5 D = some (.dK kvs) ∧ kvs.length < sizeLine ∧ Nx (upd H5 D (.dK (putK kvs k z))) else Nx H3) := by
  refine ⟨fun i m H => m = xs.length - i ∧ i ≤ xs.length ∧ Pv i H, ⟨xs.length, rfl, Nat.zero_le _, h0⟩, ?_⟩
  rintro i m H ⟨rfl, hi, p⟩
  have s := hS i H hi p
  by_cases hl : i < xs.length
  · have e : xs[i]? = some xs[i] := List.getElem?_eq_getElem hl
    refine .inr ⟨o.go i _ H e s, Pv (i + 1), fun H' p' => ⟨xs.length - (i + 1), by omega, rfl, hl, p'⟩, fun v H' y => ?_⟩
    exact hs i _ H v H' e p (o.yl i _ H v H' e s y)
  · have e : i = xs.length := by omega
    subst e
    exact .inl ⟨o.st H s, hd H p⟩
theorem length_merge : ∀ (more kvs : List (Key × V)), (mergeK kvs more).length ≤ kvs.length + more.length
  | [], kvs => Nat.le_refl _
  | q :: r, kvs => by
    have := length_merge r (putK kvs q.1 q.2)
    have := length_putK kvs q.1 q.2
    show (mergeK (putK kvs q.1 q.2) r).length ≤ kvs.length + (r.length + 1)
    omega
theorem merge_snoc (kvs more : List (Key × V)) (q : Key × V) : mergeK kvs (more ++ [q]) = putK (mergeK kvs more) q.1 q.2 := by
  unfold mergeK
  rw [List.foldl_append]
  rfl
/-- a dict comprehension without a test whose parts change nothing that stood: the i-th item gives f x -/
theorem dc_pure {tk tv : TE} {vs : List Nat} {σ : L2.St} {H1 : Hp} {D : Addr} {Qd : Hp → Prop} (o : Over J xs Y S) (f : α → Key × V)
    (nD : H1 D = none) (hn : xs.length ≤ sizeLine) (hS : ∀ H, Same H1 H → S H)
    (hs : ∀ x ∈ xs, ∀ H v H' (Nx : V → V → Hp → Prop), Same H1 H → Y x H v H' → (∀ H'', Same H H'' → Nx (kV (f x).1) (f x).2 H'') →
      g v (wipe σ vs) H' fun σ2 H2 => wipe σ2 vs = wipe σ vs ∧ tk σ2 H2 fun y H4 => tv σ2 H4 fun z H5 => Nx y z H5)
    (hd : ∀ H, Same H1 H → H D = some (.dK (mergeK [] (xs.map f))) → Qd H) (hg : ∀ (v : V) (σ : L2.St) (H : Hp) (A B : L2.St → Hp → Prop), (∀ σ H, A σ H → B σ H) → g v σ H A → g v σ H B) :
    ∃ W : Nat → Nat → Hp → Prop, (∃ m, W 0 m (upd H1 D (.dK []))) ∧ ∀ i m H, W i m H → (J.stop i H ∧ Qd H) ∨ (J.go i H ∧
      ∃ Nx : Hp → Prop, (∀ H', Nx H' → ∃ m', m' < m ∧ W (i + 1) m' H') ∧ ∀ x H', J.yld i H x H' → g x (wipe σ vs) H' fun σ2 H2 => wipe σ2 vs = wipe σ vs ∧ tYes σ2 H2 fun b H3 =>
        if b = true then tk σ2 H3 fun y H4 => tv σ2 H4 fun z H5 => ∃ kvs k, y = kV k ∧ H5 D = some (.dK kvs) ∧ kvs.length < sizeLine ∧ Nx (upd H5 D (.dK (putK kvs k z))) else Nx H3) := by
  refine dc_over o (fun i H => Same H1 H ∧ H D = some (.dK (mergeK [] ((xs.take i).map f)))) ⟨same_new nD, upd_same⟩ (fun i H _ p => hS H p.1) ?_ ?_
  · rintro i x H v H' e ⟨s, hD⟩ y
    have hi := (List.getElem?_eq_some_iff.mp e).1
    have key := hs x (List.mem_of_getElem? e) H v H' (fun y z H5 => ∃ kvs k, y = kV k ∧ H5 D = some (.dK kvs) ∧ kvs.length < sizeLine ∧
      (Same H1 (upd H5 D (.dK (putK kvs k z))) ∧ (upd H5 D (.dK (putK kvs k z))) D = some (.dK (mergeK [] ((xs.take (i + 1)).map f))))) s y ?_
    · refine hg _ _ _ _ _ ?_ key
      rintro σ2 H2 ⟨w, q⟩
      exact ⟨w, lc_yes q⟩
    · intro H4 s4
      refine ⟨_, _, rfl, s4 _ _ hD, ?_, fun b u z => ?_, ?_⟩
      · have := length_merge ((xs.take i).map f) []
        rw [List.length_map, List.length_take] at this
        have h0 : ([] : List (Key × V)).length = 0 := rfl
        omega
      · rw [upd_ne (ne_of_none z nD)]
        exact s4 _ _ (s _ _ z)
      · rw [upd_same, List.take_add_one, e, List.map_append]
        show _ = some (HO.dK (mergeK [] ((xs.take i).map f ++ [f x])))
        rw [merge_snoc]
  · rintro H ⟨s, hD⟩
    rw [List.take_length] at hD
    exact hd H s hD
end
/-- targets: names and pairs of names let what is wanted grow -/
theorem gName_mono {i : Nat} : ∀ (v : V) (σ : L2.St) (H : Hp) (A B : L2.St → Hp → Prop), (∀ σ H, A σ H → B σ H) → gName i v σ H A → gName i v σ H B := fun v σ H A B h k => h _ _ k

/-! ### what may be a list or a tuple -/
section
variable {X : Cx} {tg it : Expr} {w1 w2 : TI}
theorem pi_or (a : PI X tg it w1) (b : PI X tg it w2) : PI X tg it (fun σ H R => w1 σ H R ∨ w2 σ H R) :=
  ⟨fun pins s σ H R I h => h.elim (a.run pins s σ H R I) (b.run pins s σ H R I)⟩
end
end Eu
set_option Elab.async false
set_option linter.all false
set_option maxRecDepth 100000
set_option maxHeartbeats 4000000
namespace Eu
open PySem PySem.Spec PyProof.Rows L2

/-! ### != of a class that has __eq__ alone -/
section
variable {prog : Program} {w : World} {A : Around} {E : Value → Shared → Prop} {s : Shared} {K : PySem.W.Frag} {x C f : Addr} {ox : Obj} {od : Option Obj} {b : Value}
theorem ne_entry (hu : A.units < cLine) (X : K.In s.heap) (I : PySem.W.InstAt s.heap x ox C od) (hs : PySem.W.findIn K (.ref C) "__eq__" = some (some (.ref f))) (hf : PySem.W.isFn K (.ref f) = true) {Q : Fin → Shared → Prop}
    (h : wpAny (model prog w) A (call (.ref f) [.ref x, b]) (fun v s' => ∃ t, v = .bool t ∧ Q (.done (.ret (.bool (!t)))) s') E s) :
    wpAny (model prog w) A (Builtin.«object.__ne__» ⟨[.ref x, b], []⟩) Q E s := by
  unfold Builtin.«object.__ne__»
  refine wpAny_bind (m := slotArgs "__ne__" 1 ⟨[.ref x, b], []⟩) (wpAny_pure ?_)
  refine wpAny_bind (wpAny_cRoomFor hu ?_)
  refine wpAny_bind (PySem.W.ifBound_K X I hs hf (wpAny_mono h ?_ fun _ _ e => e))
  rintro v s' ⟨t, rfl, q⟩
  exact wpAny_bind (wpAny_truthy_bool (wpAny_pure q))
theorem ne_K {L : Addr} {h₀ : Heap} {m : Str → Option Value} {tb : Value} {Q : Value → Shared → Prop} (hu : A.units + 1 < cLine) (FR : Fr h₀ L s.heap m) (X₀ : K.In h₀) (I : PySem.W.InstAt s.heap x ox C od)
    (hb : PySem.W.Looks (model prog w) s.heap (typeOf b) (.ref C))
    (hm : PySem.W.mroIn K C (.type "object") = some true) (hn : PySem.W.findIn K (.ref C) "__ne__" = some (some (.builtin "object.__ne__")))
    (hs : PySem.W.findIn K (.ref C) "__eq__" = some (some (.ref f))) (hf : PySem.W.isFn K (.ref f) = true)
    (h : wpAny (model prog w) A.in1 (call (.ref f) [.ref x, b]) (fun v s' => ∃ t, v = .bool t ∧ Q (.bool (!t)) s') E s) :
    wpAny (model prog w) A (richCompare .NotEq (.ref x) b) Q E s := by
  have X := X₀.keeps FR.keep
  have one : wpAny (model prog w) A (tryCompare (.ref x) "__ne__" b) (fun r s' => ∃ v, r = some v ∧ Q v s') E s := by
    unfold tryCompare
    simp only [callSpecialIfBound?, bindSpecialIfBound?]
    refine wpAny_bind (wpAny_holding (wpAny_bind (wpAny_bind (wpAny_bind (I.type.here ((PySem.W.looks_findIn X hn).here ?_))))))
    refine wpAny_bind (wpAny_askSetting (wpAny_ite ?_))
    have fin : wpAny (model prog w) A (call (.builtin "object.__ne__") ([.ref x] ++ [b]) >>= fun v => pure (some v)) (fun r s' => ∃ v, r = some v ∧ v ≠ .notImplemented ∧ Q v s') E s := by
      refine wpAny_bind (wpAny_call (codeAny_call_builtin PySem.F.cmp_object.ne.plain PySem.F.cmpEntry_ne (PySem.W.check_slot PySem.F.cmpKind_ne PySem.F.cmpSplit_ne (I.type.andThen (PySem.W.looks_mroIn X hm)) (F.cmpArgs_ne _ _) ?_)))
      refine ne_entry (A := A.in1) hu X I hs hf (wpAny_mono h ?_ fun _ _ e => e)
      rintro v s' ⟨t, rfl, q⟩
      exact ⟨t, rfl, wpAny_pure ⟨_, rfl, (fun z => nomatch z), q⟩⟩
    simp only [PySem.F.cmp_object.ne.bind]
    split
    · refine wpAny_bind (wpAny_pure (wpAny_pure ?_))
      exact wpAny_mono fin (fun r s' z => by obtain ⟨v, rfl, nv, q⟩ := z; cases v <;> first | exact absurd rfl nv | exact wpAny_pure ⟨_, rfl, q⟩) fun _ _ e => e
    · refine wpAny_tryCatch (wpAny_bind (wpAny_pure (wpAny_pure ?_)))
      exact wpAny_mono fin (fun r s' z => by obtain ⟨v, rfl, nv, q⟩ := z; cases v <;> first | exact absurd rfl nv | exact wpAny_pure ⟨_, rfl, q⟩) fun _ _ e => e
  unfold richCompare
  simp only [oneThing_ref]
  refine wpAny_holding (wpAny_bind (wpAny_cRoomFor (Nat.lt_of_succ_lt hu) ?_))
  refine wpAny_bind (I.type.here (wpAny_bind (hb.here ?_)))
  rw [show (Value.ref C != Value.ref C) = false from by simp]
  simp only [Bool.false_eq_true, if_false]
  refine wpAny_bind (wpAny_pure ?_)
  simp only [Bool.false_eq_true, if_false]
  refine wpAny_bind (wpAny_mono one (fun r s' z => ?_) fun _ _ e => e)
  obtain ⟨v, rfl, hq⟩ := z
  exact wpAny_pure hq
end
section
variable {X : Cx} {k j : Nat} {C : Addr} {sp : Sp} {dvs : List V}
/-- a != b, both of the class at C -/
def rOwnNe (C : Addr) (sp : Sp) (dvs : List V) : R2 := fun x y H Q => ∃ a b dx dy fs gs, x = .ref a ∧ y = .ref b ∧ H a = some (.ins C dx fs) ∧ H b = some (.ins C dy gs) ∧
  sp ([x, y] ++ dvs) H (fun v H' => ∃ t, v = .bl t ∧ Q (.bl (!t)) H') E0
theorem op_ownNe (c : Met X.prog X.w X.K X.mg X.base k C "__eq__" sp dvs) (hr : Rm j X.A) (hk : k + 1 ≤ j) (hm : PySem.W.mroIn X.K C (.type "object") = some true)
    (hn : PySem.W.findIn X.K (.ref C) "__ne__" = some (some (.builtin "object.__ne__"))) : OpR X (compareOp .NotEq) (rOwnNe C sp dvs) := by
  obtain ⟨f, fd, ps, ds, hc, me, o, b', d⟩ := c.ex
  intro pins s σ H x y v u Q I rx ry h
  obtain ⟨a, b, dx, dy, fs, gs, rfl, rfl, ha, hb, q⟩ := h
  cases rx
  cases ry
  obtain ⟨od, J⟩ := inst_of I ha
  obtain ⟨od2, J2⟩ := inst_of I hb
  obtain ⟨m, fr⟩ := I.fr
  refine PySem.W.cmp_ofNotEq (ne_K (tb := .ref C) (by have := hr.rm.units; omega) fr I.ok.mod.kin J J2.type hm hn me.at_ me.fn ?_)
  refine wpAny_mono (run_in1 (us := [.ref a, .ref b]) (vs := [.ref a, .ref b]) o (hr.mono hk) b' d I (.cons rfl (.cons rfl .nil)) q) ?_ (fun _ _ z => z)
  rintro r s' ⟨z, H', I', rz, t, rfl, q'⟩
  cases rz
  exact ⟨t, rfl, .bl (!t), H', I', rfl, q'⟩
end

/-! ### methods with *others -/
def OkR (P : Program) (w : World) (K : PySem.W.Frag) (mg : Str → Option Value) (base : Heap) (k : Nat) (f : Addr) (sp : Sp) : Prop :=
  ∀ (A : Around) (out : List Env) (s : Shared) (H : Hp) (us : List Value) (vs : List V) (Q : VK) (E : XK),
    Rm k A → Env0 P w K mg base A out s H → Vals vs us → sp vs H Q E → codeAny (model P w) A (.call (.ref f) ⟨us, []⟩) (CR CX0 out P w H s Q E) s
structure MetS (P : Program) (w : World) (K : PySem.W.Frag) (mg : Str → Option Value) (base : Heap) (k : Nat) (C : Addr) (m : Str) (sp : Sp) : Prop where
  ex : ∃ f : Addr, Cls K C ∧ Meth K C m f ∧ OkR P w K mg base k f sp
section
variable {P : Program} {w : World} {K : PySem.W.Frag} {mg : Str → Option Value} {base : Heap}
/-- a method (self, *rest) -/
theorem Dm.star {C : Addr} {m qual p1 pv : Str} {st : Stmt} {N : List Str} {k : Nat} {sp : Sp} (D : Dm K C m qual st []) (c : Cls K C) (S : FnScope N [p1, pv] (defScope st))
    (hbd : ∀ (kV doc pm : Value) (an : Option Addr) (cdv ct : Value) (us rest : List Value), us.length = [p1].length →
      bindArgs (PySem.W.fnOf m qual (defArgs st) (defBody st) (defScope st) .none kV doc pm an cdv ct) ⟨us ++ rest, []⟩ = (newTuple rest >>= fun t => pure ([p1].zip us ++ [(pv, t)])))
    (hb : ∀ (f : Addr) (cdv : Value) (A : Around) (out : List Env) (s : Shared) (H : Hp) (vs : List V) (Q : VK) (E : XK),
      Rm k (A.deeper (envOfC qual (defScope st) s.heap.objs.size f cdv)) → sp vs H Q E →
      ∃ t, PSs (cxOf CX0 P w K mg base N qual (defScope st) f cdv A out s H E).nox (defBody st) t ∧
        t { nx := fun _ H' => Q .non H', rt := Q } (start N vs) H) :
    MetS P w K mg base (k + 1) C m (fun vs H Q E => ∃ x rest, vs = x :: rest ∧ rest.length ≤ sizeLine ∧ ∀ p, H p = none → sp [x, .ref p] (upd H p (.tup rest)) Q E) := by
  obtain ⟨f, oc, od, dV, kV, doc, pm, an, cdv, ct, osl, l, cd, me, dd⟩ := D.ex
  rcases dd with ⟨_, e⟩ | ⟨e, _⟩
  · subst e
    refine ⟨f, c, me, ?_⟩
    intro A outer s H us vs Q E hr e0 r hsp
    obtain ⟨x, rest, ev, hz, hq⟩ := hsp
    subst ev
    obtain ⟨u1, u2, eu, r1, r2⟩ := StX.vals_split (ws := [x]) (rest := rest) r
    subst eu
    have hn : H s.heap.objs.size = Option.none := e0.hok.fresh (Nat.le_refl _)
    have hl1 : u1.length = [p1].length := by rw [← r1.length]; rfl
    have hl2 : u2.length ≤ sizeLine := by rw [← r2.length]; exact hz
    refine StX.run_bnd l cd S hr.rm e0 (G := fun xs H2 => ∃ p, H p = Option.none ∧ xs = [x, V.ref p] ∧ H2 = upd H p (.tup rest)) (fun A' Ex Q' h => ?_) fun s2 H2 xs ⟨p, hp, ex, eH⟩ hr' => ?_
    · rw [hbd kV doc pm an cdv ct u1 u2 hl1]
      refine wpAny_bind (wpAny_newTuple (wpAny_pure ?_) hl2)
      have new : ObjOk P w (upd H s.heap.objs.size (.tup rest)) (s.heap.push ({ cls := .type "tuple", data := .seq u2.toArray } : Obj)) s.heap.objs.size (.tup rest) := ⟨hz, u2, r2, ⟨_, Heap.get?_push_size _ rfl, rfl, _, rfl⟩⟩
      have un := StX.un_laid (fs := frs outer) (s := s) (o := ({ cls := .type "tuple", data := .seq u2.toArray } : Obj)) (u := .tup rest) hn
      have z := h _ _ ([x] ++ [V.ref s.heap.objs.size]) (u1 ++ [Value.ref s.heap.objs.size]) (StX.env0_laid e0 new) un rfl (fun e s' z => False.elim z) (r1.append (.cons rfl .nil)) rfl ⟨_, hn, rfl, rfl⟩
      have e2 : [p1, pv].zip (u1 ++ [Value.ref s.heap.objs.size]) = [p1].zip u1 ++ [(pv, Value.ref s.heap.objs.size)] := List.zip_append (l₁ := [p1]) hl1.symm
      rw [e2] at z
      exact z
    · subst ex eH
      obtain ⟨t, h, q⟩ := hb f cdv A outer s2 _ _ Q E (hr.deeper _) (hq p hp)
      exact ⟨t, h.nox, q⟩
  · exact absurd rfl e
end
section
variable {X : Cx} {k j : Nat} {C : Addr} {m : Str} {sp : Sp} {pos apos : Pos} {e o : Expr} {es : List Expr} {ta : TE} {t : TA}
theorem run_okR {pins : List (Addr × Obj)} {σ : L2.St} {H : Hp} {s : Shared} {Q : VK} {us : List Value} {vs : List V} {f : Addr}
    (F : OkR X.prog X.w X.K X.mg X.base k f sp) (hr : Rm k X.A) (I : Inv X pins σ H s) (r : Vals vs us) (h : sp vs H Q E0) :
    wpAny (model X.prog X.w) X.A (call (.ref f) us) (EP X pins σ Q) X.xe s := by
  refine wpAny_call (codeAny_mono (F X.A X.stack s H us vs Q E0 hr I.env0 r h) ?_)
  intro res s' hq
  match res, hq with
  | .error e, hq => exact False.elim hq
  | .ok (.ret u), hq => exact I.after hq
  | .ok .next, hq => exact False.elim hq
  | .ok .brk, hq => exact False.elim hq
  | .ok .cont, hq => exact False.elim hq
theorem pe_mtS {pl : Sem Bool} (c : MetS X.prog X.w X.K X.mg X.base k C m sp) (hr : Rm j X.A) (hk : k ≤ j) (he : PE X o ta) (ha : PA X (e :: es) t)
    (hst : starEach (e :: es) X.env = (false, eval e X.env) :: starEach es X.env := by rfl)
    (hpl : (backTo pos (starEach es X.env)).any (·.1) = false := by rfl)
    (ht : eval (.Call (.Attribute o m apos) (e :: es) [] pos) X.env = (do
      let v ← eval o X.env
      standAt apos.atName
      let (g, l) ← holding [v] (getMethod v m pl)
      callWith pos g l (backTo pos (starEach (e :: es) X.env)) (backToKw pos (keywordEach [] X.env))) := by rfl) :
    PE X (.Call (.Attribute o m apos) (e :: es) [] pos) (tMeth C m sp [] E0 ta t) := by
  obtain ⟨f, hc, hm, ok⟩ := c.ex
  constructor
  intro pins s σ H Q I h
  refine PySem.W.methodCall_KW (pl := pl) (thn (he.run pins s σ H _ I h) ?_) ht
  rintro u s1 ⟨y, H1, I1, ry, a, dx, fs, ey, ea, l, q⟩
  subst ey
  have eu : u = Value.ref a := ry
  subst eu
  refine getmeth_ok I1 ea hc hm l ?_
  refine PySem.W.callWith_K (first := [.ref a]) (h₀ := X.base) I.ok.mod.kin hm.kp (thn (ha.run pos pins s1 σ H1 _ I1 q) ?_) hst hpl
  rintro us s2 ⟨vs, H2, I2, r, q2⟩
  rw [List.append_nil] at q2
  exact ⟨I2.kIn, run_okR (us := .ref a :: us) (vs := .ref a :: vs) (fun A out s H us vs Q E hr => ok A out s H us vs Q E hr) (hr.mono hk) I2 (.cons rfl r) q2⟩
theorem pe_mtS0 {pl : Sem Bool} (c : MetS X.prog X.w X.K X.mg X.base k C m sp) (hr : Rm j X.A) (hk : k ≤ j) (he : PE X o ta)
    (ht : eval (.Call (.Attribute o m apos) [] [] pos) X.env = (do
      let v ← eval o X.env
      standAt apos.atName
      let (g, l) ← holding [v] (getMethod v m pl)
      callWith pos g l (backTo pos (starEach [] X.env)) (backToKw pos (keywordEach [] X.env))) := by rfl) :
    PE X (.Call (.Attribute o m apos) [] [] pos) (tMeth C m sp [] E0 ta tNil) := by
  obtain ⟨f, hc, hm, ok⟩ := c.ex
  constructor
  intro pins s σ H Q I h
  refine PySem.W.methodCall_KW (pl := pl) (thn (he.run pins s σ H _ I h) ?_) ht
  rintro u s1 ⟨y, H1, I1, ry, a, dx, fs, ey, ea, l, q⟩
  subst ey
  have eu : u = Value.ref a := ry
  subst eu
  refine getmeth_ok I1 ea hc hm l ?_
  exact PySem.W.callWith_K0 (first := [.ref a]) I1.kIn hm.kp (run_okR (us := [.ref a]) (vs := [.ref a]) ok (hr.mono hk) I1 (.cons rfl .nil) q)
end
end Eu
set_option Elab.async false
set_option linter.all false
set_option maxRecDepth 100000
set_option maxHeartbeats 4000000
namespace Eu
open PySem PySem.Spec PyProof.Rows L2
open C8 (pe_gc pss_cut)
/-- the builtins' names are the builtins' -/
structure Bl (mg : Str → Option Value) : Prop where
  len : mg "len" = none
  abs : mg "abs" = none
  isinstance : mg "isinstance" = none
  int : mg "int" = none
  bool : mg "bool" = none
  str : mg "str" = none
  tuple : mg "tuple" = none
  all : mg "all" = none
  any : mg "any" = none
  repr : mg "repr" = none
  range : mg "range" = none
  max : mg "max" = none
  min : mg "min" = none
  list : mg "list" = none
  dict : mg "dict" = none
  set : mg "set" = none
  sorted : mg "sorted" = none
  reversed : mg "reversed" = none
  enumerate : mg "enumerate" = none
  zip : mg "zip" = none
  sum : mg "sum" = none
  type : mg "type" = none
/-! ### things -/
def tyD : PyData → String
  | .none => "NoneType"
  | .bool _ => "bool"
  | .int _ => "int"
  | .str _ => "str"
  | .list _ => "list"
  | .tuple _ => "tuple"
  | .dict _ => "dict"
/-- data, or a dict at the top -/
def Th (K : PySem.W.Frag) (H : Hp) (x : V) (d : PyData) : Prop := Dp K H x d ∨ ∃ a kvs l, x = .ref a ∧ H a = some (.dK kvs) ∧ d = .dict l
theorem Th.same {K : PySem.W.Frag} {H H' : Hp} {x : V} {d : PyData} (h : Th K H x d) (s : Same H H') : Th K H' x d := by
  rcases h with h | ⟨a, kvs, l, e, h, e'⟩
  · exact .inl (Same.dp s h)
  · exact .inr ⟨a, kvs, l, e, s _ _ h, e'⟩
theorem tyx_dp {K : PySem.W.Frag} {H : Hp} : ∀ {d : PyData} {x : V}, Dp K H x d → TyX K H x (.type (tyD d))
  | .none, _, .non => .base .non
  | .bool _, _, .bl b => .base (.bl b)
  | .int _, _, .int i => .base (.int i)
  | .str _, _, .str z => .base (.str z)
  | .list _, _, .lst h _ => by
    rcases h with (h | ⟨o, h⟩) | ⟨o, its, n, h, hc, _⟩
    · exact .base (.lst h)
    · exact .base (.frz h)
    · exact .kList h hc
  | .tuple _, _, .tup h _ => by
    rcases h with (h | ⟨o, h⟩) | ⟨o, its, n, h, hc, _⟩
    · exact .base (.tup h)
    · exact .fTuple h
    · exact .kTuple h hc
theorem tyx_th {K : PySem.W.Frag} {H : Hp} {d : PyData} {x : V} (h : Th K H x d) : TyX K H x (.type (tyD d)) := by
  rcases h with h | ⟨a, kvs, l, rfl, h, rfl⟩
  · exact tyx_dp h
  · exact .base (.dK h)
def isI : PyData → Bool
  | .int _ => true
  | .bool _ => true
  | _ => false
def isB : PyData → Bool
  | .bool _ => true
  | _ => false
def isS : PyData → Bool
  | .str _ => true
  | _ => false
def isT : PyData → Bool
  | .tuple _ => true
  | _ => false
theorem kit_int : ∀ d : PyData, kitB (tyD d) "int" = some (isI d)
  | .none => (by decide +kernel : kitB "NoneType" "int" = some false)
  | .bool _ => (by decide +kernel : kitB "bool" "int" = some true)
  | .int _ => (by decide +kernel : kitB "int" "int" = some true)
  | .str _ => (by decide +kernel : kitB "str" "int" = some false)
  | .list _ => (by decide +kernel : kitB "list" "int" = some false)
  | .tuple _ => (by decide +kernel : kitB "tuple" "int" = some false)
  | .dict _ => (by decide +kernel : kitB "dict" "int" = some false)
theorem kit_bool : ∀ d : PyData, kitB (tyD d) "bool" = some (isB d)
  | .none => (by decide +kernel : kitB "NoneType" "bool" = some false)
  | .bool _ => (by decide +kernel : kitB "bool" "bool" = some true)
  | .int _ => (by decide +kernel : kitB "int" "bool" = some false)
  | .str _ => (by decide +kernel : kitB "str" "bool" = some false)
  | .list _ => (by decide +kernel : kitB "list" "bool" = some false)
  | .tuple _ => (by decide +kernel : kitB "tuple" "bool" = some false)
  | .dict _ => (by decide +kernel : kitB "dict" "bool" = some false)
theorem kit_str : ∀ d : PyData, kitB (tyD d) "str" = some (isS d)
  | .none => (by decide +kernel : kitB "NoneType" "str" = some false)
  | .bool _ => (by decide +kernel : kitB "bool" "str" = some false)
  | .int _ => (by decide +kernel : kitB "int" "str" = some false)
  | .str _ => (by decide +kernel : kitB "str" "str" = some true)
  | .list _ => (by decide +kernel : kitB "list" "str" = some false)
  | .tuple _ => (by decide +kernel : kitB "tuple" "str" = some false)
  | .dict _ => (by decide +kernel : kitB "dict" "str" = some false)
theorem kit_tuple : ∀ d : PyData, kitB (tyD d) "tuple" = some (isT d)
  | .none => (by decide +kernel : kitB "NoneType" "tuple" = some false)
  | .bool _ => (by decide +kernel : kitB "bool" "tuple" = some false)
  | .int _ => (by decide +kernel : kitB "int" "tuple" = some false)
  | .str _ => (by decide +kernel : kitB "str" "tuple" = some false)
  | .list _ => (by decide +kernel : kitB "list" "tuple" = some false)
  | .tuple _ => (by decide +kernel : kitB "tuple" "tuple" = some true)
  | .dict _ => (by decide +kernel : kitB "dict" "tuple" = some false)

/-! ### what the functions tell -/
def whole : PyData → Bool
  | .int _ => true
  | _ => false
def between (lo hi : Int) : PyData → Bool
  | .int i => decide (lo ≤ i) && decide (i ≤ hi)
  | _ => false
def letter (c : Nat) : Bool := decide (97 ≤ c) && decide (c ≤ 122)
def letters (z : Str) : Bool := z.cps.toList.all letter
def kept : List Str := ["keys", "look", "self"]
def nameS (z : Str) : Bool := decide (1 ≤ z.length) && decide (z.length ≤ 4) && letters z && !(kept.contains z)
def nameD : PyData → Bool
  | .str z => nameS z
  | _ => false
def valueD : PyData → Bool
  | .int i => decide (i.natAbs < 10 ^ 40)
  | _ => false
def elemD : PyData → Bool
  | .tuple [k, n] => between 0 999999 k && nameD n
  | _ => false
def entryD : PyData → Bool
  | .tuple [k, n, v] => between 0 999999 k && nameD n && valueD v
  | _ => false
/-- a def of one thing that tells a bool -/
def spB (K : PySem.W.Frag) (f : PyData → Bool) : Sp := fun vs H Q _ => ∃ (x : V) (d : PyData), vs = [x] ∧ Th K H x d ∧ Small d ∧ ∀ H', Same H H' → Q (.bl (f d)) H'
/-- .. within bounds -/
def spR (K : PySem.W.Frag) : Sp := fun vs H Q _ => ∃ (x : V) (d : PyData) (lo hi : Int), vs = [x, .int lo, .int hi] ∧ Th K H x d ∧ Small d ∧ ∀ H', Same H H' → Q (.bl (between lo hi d)) H'
def spLetters : Sp := fun vs H Q _ => ∃ z : Str, vs = [.str z] ∧ z.length ≤ 100000 ∧ ∀ H', Same H H' → Q (.bl (letters z)) H'
theorem th_str {K : PySem.W.Frag} {H : Hp} {x : V} {z : Str} (h : Th K H x (.str z)) : x = .str z := by
  rcases h with h | ⟨a, kvs, l, e, h, e'⟩
  · cases h; rfl
  · cases e'
theorem th_int {K : PySem.W.Frag} {H : Hp} {x : V} {i : Int} (h : Th K H x (.int i)) : x = .int i := by
  rcases h with h | ⟨a, kvs, l, e, h, e'⟩
  · cases h; rfl
  · cases e'
theorem th_tuple {K : PySem.W.Frag} {H : Hp} {x : V} {ds : List PyData} (h : Th K H x (.tuple ds)) : ∃ a xs, x = .ref a ∧ SqT K H a xs ∧ DpAll K H xs ds := by
  rcases h with h | ⟨a, kvs, l, e, h, e'⟩
  · cases h with
    | tup h1 h2 => exact ⟨_, _, rfl, h1, h2⟩
  · cases e'
theorem dpAll_len {K : PySem.W.Frag} {H : Hp} : ∀ {xs : List V} {ds : List PyData}, DpAll K H xs ds → xs.length = ds.length
  | _, _, .nil => rfl
  | _, _, .cons _ h => congrArg (· + 1) (dpAll_len h)
theorem in_kept (z : Str) : inV (.str z) (kept.map V.str) = kept.contains z := by
  unfold inV kept
  simp only [List.map_cons, List.map_nil, List.any_cons, List.any_nil, List.contains_cons, List.contains_nil, eqV]
  congr 1
  · exact BEq.comm
  congr 1
  · exact BEq.comm
  congr 1
  exact BEq.comm
theorem len2 {α : Type} : ∀ {l : List α}, l.length = 2 → ∃ a b, l = [a, b]
  | [a, b], _ => ⟨a, b, rfl⟩
theorem len3 {α : Type} : ∀ {l : List α}, l.length = 3 → ∃ a b c, l = [a, b, c]
  | [a, b, c], _ => ⟨a, b, c, rfl⟩
theorem elem_no : ∀ {ds : List PyData}, ¬ ds.length = 2 → elemD (.tuple ds) = false
  | [], _ => rfl
  | [_], _ => rfl
  | [_, _], h => absurd rfl h
  | _ :: _ :: _ :: _, _ => rfl
theorem entry_no : ∀ {ds : List PyData}, ¬ ds.length = 3 → entryD (.tuple ds) = false
  | [], _ => rfl
  | [_], _ => rfl
  | [_, _], _ => rfl
  | [_, _, _], h => absurd rfl h
  | _ :: _ :: _ :: _ :: _, _ => rfl
theorem len_line {n : Nat} (h : n ≤ 100000) : n ≤ sizeLine := Nat.le_of_lt (Nat.lt_of_le_of_lt h (by decide))

/-! ### the bag -/
def Bag (H : Hp) (b : Addr) (n : Nat) : Prop := ∃ far mix cnt : Int, H b = some (.lst [.int far, .int mix, .int cnt]) ∧
  0 ≤ far ∧ 0 ≤ mix ∧ mix < 2305843009213693951 ∧ 0 ≤ cnt ∧ cnt ≤ n
theorem Bag.mono {H : Hp} {b : Addr} {n m : Nat} (h : Bag H b n) (l : n ≤ m) : Bag H b m := by
  obtain ⟨f, x, c, e, h1, h2, h3, h4, h5⟩ := h
  exact ⟨f, x, c, e, h1, h2, h3, h4, by omega⟩
theorem Bag.same {H H' : Hp} {b : Addr} {n : Nat} (h : Bag H b n) (s : Same H H') : Bag H' b n := by
  obtain ⟨f, x, c, e, h1⟩ := h
  exact ⟨f, x, c, s _ _ e, h1⟩
theorem Bag.some {H : Hp} {b : Addr} {n : Nat} (h : Bag H b n) : ∃ o, H b = some o := by
  obtain ⟨f, x, c, e, h1⟩ := h
  exact ⟨_, e⟩

def spTake : Sp := fun vs H Q _ => ∃ (b : Addr) (m : Int) (n : Nat), vs = [.ref b, .int m] ∧ 0 < m ∧ m < 1073741824 ∧ Bag H b n ∧ n ≤ 1000000 ∧
  ∀ (d : Int) (H' : Hp), 0 ≤ d → d < m → But b H H' → Bag H' b (n + 1) → Q (.int d) H'

def spBag (K : PySem.W.Frag) : Sp := fun vs H Q _ => ∃ (a : Addr) (ns : List Int) (i : Int), vs = [.ref a, .int i] ∧ SqL K H a (ns.map V.int) ∧ 0 ≤ i ∧ i ≤ 1000 ∧
  ∀ (p : Addr) (H' : Hp), Same H H' → H p = none → Bag H' p 0 → Q (.ref p) H'
theorem but_new {b p : Addr} {H : Hp} {o : HO} (h : H p = none) : But b H (upd H p o) := But.of_same (same_new h)
theorem Bag.new {b p : Addr} {H : Hp} {o : HO} {n : Nat} (h : Bag H b n) (e : H p = none) : Bag (upd H p o) b n := h.same (same_new e)
theorem Bag.ne {b p : Addr} {H : Hp} {n : Nat} (h : Bag H b n) (e : H p = none) : p ≠ b := fun z => by
  obtain ⟨o, ho⟩ := h.some
  rw [z, ho] at e
  cases e
theorem But.at {b c : Addr} {H H' : Hp} {o : HO} (h : But b H H') (n : c ≠ b) (e : H c = some o) : H' c = some o := by
  have := h c o (by rw [hid_ne n]; exact e)
  rw [hid_ne n] at this
  exact this
theorem But.put {b p : Addr} {H H' : Hp} {o : HO} (h : But b H H') (n : H p = none) : But b H (L2.upd H' p o) := fun c u e => by
  obtain ⟨nb, e'⟩ := hid_some e
  rw [hid_ne nb, upd_ne (ne_of_none e' n)]
  exact h.at nb e'
theorem Bag.put {b p : Addr} {H : Hp} {o : HO} {n : Nat} (h : Bag H b n) (e : p ≠ b) : Bag (upd H p o) b n := by
  obtain ⟨f, x, c, h1, h2⟩ := h
  exact ⟨f, x, c, by rw [upd_ne e.symm]; exact h1, h2⟩
theorem But.back {b : Addr} {H H1 H2 : Hp} (h : But b H1 H2) (s : Same H H1) (n : H b = none) : Same H H2 := fun c o e =>
  h.at (ne_of_none e n) (s c o e)
theorem Th.out {K : PySem.W.Frag} {b : Addr} {H : Hp} {x : V} {d : PyData} (h : Th K (hid H b) x d) : Th K H x d := h.same hid_same
end Eu
set_option Elab.async false
set_option linter.all false
set_option maxRecDepth 100000
set_option maxHeartbeats 4000000
namespace Eu
open PySem PySem.Spec PyProof.Rows L2
/-- item by item -/
def Rel2 {α : Type} (R : α → V → Hp → Prop) (H : Hp) (xs : List α) (ys : List V) : Prop := xs.length = ys.length ∧ ∀ (i : Nat) (x : α) (y : V), xs[i]? = some x → ys[i]? = some y → R x y H
theorem Rel2.snoc {α : Type} {R : α → V → Hp → Prop} {H : Hp} {xs : List α} {ys : List V} {x : α} {y : V} (h : Rel2 R H xs ys) (r : R x y H) : Rel2 R H (xs ++ [x]) (ys ++ [y]) := by
  obtain ⟨hl, h⟩ := h
  refine ⟨by simp [hl], fun i a b ea eb => ?_⟩
  by_cases hi : i < xs.length
  · rw [List.getElem?_append_left hi] at ea
    rw [List.getElem?_append_left (by omega)] at eb
    exact h i a b ea eb
  · have hi' : i = xs.length := by
      have := (List.getElem?_eq_some_iff.mp ea).1
      rw [List.length_append, List.length_singleton] at this
      omega
    subst hi'
    rw [List.getElem?_append_right (Nat.le_refl _)] at ea
    rw [List.getElem?_append_right (by omega)] at eb
    simp at ea
    simp [hl] at eb
    subst ea eb
    exact r
section
variable {α : Type} {J : It} {xs : List α} {Y : α → Hp → V → Hp → Prop} {S : Hp → Prop} {g : TG}
/-- a comprehension without a test: each item gives something new that R tells -/
theorem lc_rel {te : TE} {vs : List Nat} {σ : L2.St} {H1 : Hp} {D : Addr} {Qd : Hp → Prop} (o : Over J xs Y S) (R : α → V → Hp → Prop)
    (nD : H1 D = none) (hn : xs.length ≤ sizeLine) (hS : ∀ H, Same H1 H → S H)
    (hR : ∀ x y H H' acc, H D = some (.lst acc) → R x y H → But D H H' → R x y H')
    (hs : ∀ x ∈ xs, ∀ H v H' (Nx : V → Hp → Prop), Same H1 H → Y x H v H' → (∀ y H'', Same H H'' → R x y H'' → Nx y H'') →
      g v (wipe σ vs) H' fun σ2 H2 => wipe σ2 vs = wipe σ vs ∧ te σ2 H2 fun y H4 => Nx y H4)
    (hg : ∀ (v : V) (σ : L2.St) (H : Hp) (A B : L2.St → Hp → Prop), (∀ σ H, A σ H → B σ H) → g v σ H A → g v σ H B)
    (hd : ∀ H ys, Same H1 H → H D = some (.lst ys) → Rel2 R H xs ys → Qd H) :
    ∃ W : Nat → Nat → Hp → Prop, (∃ m, W 0 m (upd H1 D (.lst []))) ∧ ∀ i m H, W i m H → (J.stop i H ∧ Qd H) ∨ (J.go i H ∧
      ∃ Nx : Hp → Prop, (∀ H', Nx H' → ∃ m', m' < m ∧ W (i + 1) m' H') ∧ ∀ x H', J.yld i H x H' → g x (wipe σ vs) H' fun σ2 H2 => wipe σ2 vs = wipe σ vs ∧ tYes σ2 H2 fun b H3 =>
        if b = true then te σ2 H3 fun y H4 => ∃ acc, H4 D = some (.lst acc) ∧ acc.length < sizeLine ∧ Nx (upd H4 D (.lst (acc ++ [y]))) else Nx H3) := by
  refine lc_over o (fun i H => Same H1 H ∧ ∃ ys, H D = some (.lst ys) ∧ Rel2 R H (xs.take i) ys) ⟨same_new nD, [], upd_same, ?_⟩ (fun i H _ p => hS H p.1) ?_ ?_
  · exact ⟨rfl, fun i x y e => by simp at e⟩
  · rintro i x H v H' e ⟨s, ys, hD, hr⟩ y
    have hi := (List.getElem?_eq_some_iff.mp e).1
    have key := hs x (List.mem_of_getElem? e) H v H' (fun y H4 => ∃ acc, H4 D = some (.lst acc) ∧ acc.length < sizeLine ∧
      (Same H1 (upd H4 D (.lst (acc ++ [y]))) ∧ ∃ ys, (upd H4 D (.lst (acc ++ [y]))) D = some (.lst ys) ∧ Rel2 R (upd H4 D (.lst (acc ++ [y]))) (xs.take (i + 1)) ys)) s y ?_
    · refine hg _ _ _ _ _ ?_ key
      rintro σ2 H2 ⟨w, q⟩
      exact ⟨w, lc_yes q⟩
    · intro y H4 s4 r
      have hD4 := s4 _ _ hD
      refine ⟨ys, hD4, ?_, fun b u z => ?_, _, upd_same, ?_⟩
      · have := hr.1
        rw [List.length_take] at this
        omega
      · rw [upd_ne (ne_of_none z nD)]
        exact s4 _ _ (s _ _ z)
      · rw [List.take_add_one, e]
        refine Rel2.snoc ⟨hr.1, fun j a b ea eb => ?_⟩ (hR _ _ _ _ _ hD4 r But.upd)
        exact hR _ _ _ _ _ hD (hr.2 j a b ea eb) ((But.of_same s4).trans But.upd)
  · rintro H ⟨s, ys, hD, hr⟩
    rw [List.take_length] at hr
    exact hd H ys s hD hr
end
/-- a dict read while it is locked, and then opened again -/
theorem same_open {H H' : Hp} {d : Addr} {od : Obj} {u : HO} (hd : H d = some u) (s : Same (upd H d (.frz od u)) H') : Same H (upd H' d u) := fun c o e => by
  by_cases hc : c = d
  · subst hc
    rw [hd] at e
    rw [upd_same]
    exact e
  · rw [upd_ne hc]
    exact s _ _ (by rw [upd_ne hc]; exact e)
end Eu
set_option Elab.async false
set_option linter.all false
set_option maxRecDepth 100000
set_option maxHeartbeats 4000000
namespace Eu
open PySem PySem.Spec PyProof.Rows L2
section
variable {X : Cx}
/-- d.update(o), another dict -/
def rUpdate : V → List V → Hp → VK → Prop := fun x vs H Q => ∃ (d o : Addr) (kvs more : List (Key × V)), x = .ref d ∧ vs = [.ref o] ∧ H d = some (.dK kvs) ∧ Rd H o (.dK more) ∧ d ≠ o ∧ kvs.length + more.length ≤ sizeLine ∧
  Q .non (upd H d (.dK (mergeK kvs more)))
theorem mt_update : MtR X "dict.update" rUpdate := by
  intro pins s σ H x vs v us Q I rx rv h
  obtain ⟨d, o, kvs, more, rfl, rfl, hd, ho, hne, hz, q⟩ := h
  cases rx
  obtain ⟨u, rfl, ru⟩ := vals1 rv
  cases ru
  obtain ⟨z1, lo1, vs1, rel1, dd1⟩ := dk_of I.hok hd
  obtain ⟨z2, lo2, vs2, rel2, dd2⟩ := dk_rd I.hok ho
  have hl : (mergeK kvs more).length ≤ sizeLine := Nat.le_trans (length_mergeK more kvs) hz
  refine call_meetsIn PySem.F.slot_dict_update dd1.typeIs PySem.F.entry_dict_update (PySem.F.args_dict_update_2 _ _) (meets_dict_update (mixKind X.prog X.w) d o hne lo2)
    ⟨vs1, vs2, dd1, dd2, by rw [← rel1.length, ← rel2.length]; exact hz, fun h' dd' _ hs => ?_⟩
  have he : ∃ q, h'.get? d = some q := let ⟨q, _, _, hq, _⟩ := dd'; ⟨q, hq⟩
  exact ⟨.non, _, d_write I (by rw [hd]; exact True.intro) hs he (dk_new hl lo1 (KV.merge rel2 rel1) dd'), rfl, q⟩
theorem call_dictPK {K : PySem.W.Frag} (hcalm : X.calm = true) (h : X.K = K := by rfl) : CallR X (.type "dict") (fun xs H Q => ∃ (a : Addr) (ps : List Addr) (kvs : List (Key × V)), xs = [.ref a] ∧ SqL K H a (ps.map V.ref) ∧ Paired (fun p kv => SqT K H p [kV kv.1, kv.2]) ps kvs ∧
    ∀ p, H p = none → Q (.ref p) (upd H p (.dK (mergeK [] kvs)))) := by
  subst h
  exact call_dictP hcalm
theorem sl_listK {K : PySem.W.Frag} (h : X.K = K := by rfl) : SlR X (rSlL K) := by subst h; exact sl_list
end
section
variable {α : Type} {J : It} {xs : List α} {Y : α → Hp → V → Hp → Prop} {S : Hp → Prop} {g : TG}
/-- a comprehension: the items with f give something new that R tells -/
theorem lc_relF {tt : TT} {te : TE} {vs : List Nat} {σ : L2.St} {H1 : Hp} {D : Addr} {Qd : Hp → Prop} (o : Over J xs Y S) (f : α → Bool) (R : α → V → Hp → Prop)
    (nD : H1 D = none) (hn : xs.length ≤ sizeLine) (hS : ∀ H, Same H1 H → S H)
    (hR : ∀ x y H H' acc, H D = some (.lst acc) → R x y H → But D H H' → R x y H')
    (hs : ∀ x ∈ xs, ∀ H v H' (Nx : Option V → Hp → Prop), Same H1 H → Y x H v H' → (∀ y H'', f x = true → Same H H'' → R x y H'' → Nx (some y) H'') → (∀ H'', f x = false → Same H H'' → Nx none H'') →
      g v (wipe σ vs) H' fun σ2 H2 => wipe σ2 vs = wipe σ vs ∧ tt σ2 H2 fun b H3 => if b = true then te σ2 H3 fun y H4 => Nx (some y) H4 else Nx none H3)
    (hd : ∀ H ys, Same H1 H → H D = some (.lst ys) → Rel2 R H (xs.filter f) ys → Qd H) :
    ∃ W : Nat → Nat → Hp → Prop, (∃ m, W 0 m (upd H1 D (.lst []))) ∧ ∀ i m H, W i m H → (J.stop i H ∧ Qd H) ∨ (J.go i H ∧
      ∃ Nx : Hp → Prop, (∀ H', Nx H' → ∃ m', m' < m ∧ W (i + 1) m' H') ∧ ∀ x H', J.yld i H x H' → g x (wipe σ vs) H' fun σ2 H2 => wipe σ2 vs = wipe σ vs ∧ tt σ2 H2 fun b H3 =>
        if b = true then te σ2 H3 fun y H4 => ∃ acc, H4 D = some (.lst acc) ∧ acc.length < sizeLine ∧ Nx (upd H4 D (.lst (acc ++ [y]))) else Nx H3) := by
  refine lc_over o (fun i H => Same H1 H ∧ ∃ ys, H D = some (.lst ys) ∧ Rel2 R H ((xs.take i).filter f) ys) ⟨same_new nD, [], upd_same, ?_⟩ (fun i H _ p => hS H p.1) ?_ ?_
  · exact ⟨rfl, fun i x y e => by simp at e⟩
  · rintro i x H v H' e ⟨s, ys, hD, hr⟩ y
    have hi := (List.getElem?_eq_some_iff.mp e).1
    refine hs x (List.mem_of_getElem? e) H v H' (fun oy H4 => match oy with
      | some y => ∃ acc, H4 D = some (.lst acc) ∧ acc.length < sizeLine ∧ (Same H1 (upd H4 D (.lst (acc ++ [y]))) ∧ ∃ ys, (upd H4 D (.lst (acc ++ [y]))) D = some (.lst ys) ∧ Rel2 R (upd H4 D (.lst (acc ++ [y]))) ((xs.take (i + 1)).filter f) ys)
      | none => Same H1 H4 ∧ ∃ ys, H4 D = some (.lst ys) ∧ Rel2 R H4 ((xs.take (i + 1)).filter f) ys) s y ?_ ?_
    · intro y H4 hf s4 r
      have hD4 := s4 _ _ hD
      refine ⟨ys, hD4, ?_, fun b u z => ?_, _, upd_same, ?_⟩
      · have h1 := hr.1
        have h2 := List.length_filter_le f (xs.take i)
        rw [List.length_take] at h2
        omega
      · rw [upd_ne (ne_of_none z nD)]
        exact s4 _ _ (s _ _ z)
      · rw [List.take_add_one, e, List.filter_append]
        have : (Option.toList (some x)).filter f = [x] := by
          show [x].filter f = [x]
          rw [List.filter_cons, if_pos hf]
          rfl
        rw [this]
        refine Rel2.snoc ⟨hr.1, fun j a b ea eb => ?_⟩ (hR _ _ _ _ _ hD4 r But.upd)
        exact hR _ _ _ _ _ hD (hr.2 j a b ea eb) ((But.of_same s4).trans But.upd)
    · intro H4 hf s4
      refine ⟨s.trans s4, ys, s4 _ _ hD, ?_⟩
      rw [List.take_add_one, e, List.filter_append]
      have : (Option.toList (some x)).filter f = [] := by
        show [x].filter f = []
        rw [List.filter_cons, if_neg (by rw [hf]; exact Bool.false_ne_true)]
        rfl
      rw [this, List.append_nil]
      exact ⟨hr.1, fun j a b ea eb => hR _ _ _ _ _ hD (hr.2 j a b ea eb) (But.of_same s4)⟩
  · rintro H ⟨s, ys, hD, hr⟩
    rw [List.take_length] at hr
    exact hd H ys s hD hr
end
end Eu
set_option Elab.async false
set_option linter.all false
set_option maxRecDepth 100000
set_option maxHeartbeats 4000000
namespace Eu
open PySem PySem.Spec PyProof.Rows L2

/-! ### a op b of two classes of one's own -/
/-- both have the operator, none has the reflected one, the right one is no subclass of the left one -/
structure TwoC (K : PySem.W.Frag) (C C2 : Addr) (nm : String) : Prop where
  ne : C ≠ C2
  sf : PySem.W.selfFirst K C = true
  sf2 : PySem.W.selfFirst K C2 = true
  hs2 : ∃ f2 : Addr, PySem.W.findIn K (.ref C2) (PySem.dunder nm) = some (some (.ref f2))
  hr : PySem.W.findIn K (.ref C) (PySem.dunderR nm) = some none
  hr2 : PySem.W.findIn K (.ref C2) (PySem.dunderR nm) = some none
  sub : PySem.W.subIn K (.ref C2) (.ref C) = some false
section
open PySem.W
variable {prog : Program} {w : World} {A : Around} {E : Value → Shared → Prop} {s : Shared} {K : PySem.W.Frag} {x C C2 L f : Addr} {h₀ : Heap} {m : Str → Option Value} {ox : Obj} {od : Option Obj}
theorem binop_K2 {op : Operator} {b : Value} {Q : Value → Shared → Prop} (F : Fr h₀ L s.heap m) (X₀ : K.In h₀) (I : InstAt s.heap x ox C od) (hb : Looks (model prog w) s.heap (typeOf b) (.ref C2)) (T : TwoC K C C2 op.info.2)
    (hs : findIn K (.ref C) (PySem.dunder op.info.2) = some (some (.ref f))) (hf : isFn K (.ref f) = true)
    (h : wpAny (model prog w) A (call (.ref f) [.ref x, b]) (PySem.W.CmpBack Q) E s) : wpAny (model prog w) A (binaryOp op (.ref x) b) Q E s := by
  have X := X₀.keeps F.keep
  obtain ⟨cd, rest, hcd, hm⟩ := ksp_first T.sf
  obtain ⟨cd2, rest2, hcd2, hm2⟩ := ksp_first T.sf2
  obtain ⟨f2, hs2⟩ := T.hs2
  have hr := T.hr
  have hr2 := T.hr2
  rcases hi : op.info with ⟨sym, nm'⟩
  rw [hi] at hs hs2 hr hr2
  dsimp only at hs hs2 hr hr2
  have one := ksp_try X I hs hf h
  obtain ⟨hh, g, d, tt, os⟩ := s
  have L1 : Looks (model prog w) hh (typeOf (.ref x)) (.ref C) := I.type
  have L2 : Looks (model prog w) hh (typeOf b) (.ref C2) := hb
  have L3 : Looks (model prog w) hh (fillsNumberSlot (.ref C) nm') true := fills_K X hcd hm hs
  have L4 : Looks (model prog w) hh (fillsNumberSlot (.ref C2) nm') true := fills_K X hcd2 hm2 hs2
  have L5 : Looks (model prog w) hh (isSubtype (.ref C2) (.ref C)) false := looks_subIn X T.sub
  have L6 : Looks (model prog w) hh (numberSlotInPython (.ref C) nm') true := ksp_inPy X hs hr (.inl rfl)
  have L7 : Looks (model prog w) hh (numberSlotInPython (.ref C2) nm') true := ksp_inPy X hs2 hr2 (.inl rfl)
  have hne : (Value.ref C == Value.ref C2) = false := Bool.eq_false_iff.mpr fun q => by cases beq_iff_eq.mp q; exact T.ne rfl
  simp only [binaryOp, hi]
  refine wpAny_holding (wpAny_bind ?_)
  unfold binaryOp1
  refine wpAny_bind (L1.at (wpAny_bind (L2.at (wpAny_bind (L3.at ?_)))))
  simp only [hne, Bool.false_eq_true, if_false]
  ksp_lk
  refine wpAny_mono one (fun r s' hr' => ?_) fun _ _ e => e
  obtain ⟨v, rfl, hq⟩ := hr'
  ksp_lk
  exact hq
end
section
variable {X : Cx} {k j : Nat} {C C2 : Addr} {sp : Sp} {dvs : List V}
/-- a op b, a of the class at C, b of that at C2 -/
def rOwn2 (C C2 : Addr) (sp : Sp) (dvs : List V) : R2 := fun x y H Q => ∃ a b dx dy fs gs, x = .ref a ∧ y = .ref b ∧ H a = some (.ins C dx fs) ∧ H b = some (.ins C2 dy gs) ∧
  sp ([x, y] ++ dvs) H (fun v H' => (∀ u, RelV v u → u ≠ .notImplemented) ∧ Q v H') E0
theorem op_own2 {op : Operator} {m : Str} (e : PySem.dunder op.info.2 = m) (c : Met X.prog X.w X.K X.mg X.base k C m sp dvs) (hr : Rm j X.A) (hk : k ≤ j) (T : TwoC X.K C C2 op.info.2) :
    OpR X (binaryOp op) (rOwn2 C C2 sp dvs) := by
  subst e
  obtain ⟨f, fd, ps, ds, hc, hm, o, b', d⟩ := c.ex
  intro pins s σ H x y v u Q I rx ry h
  obtain ⟨a, b, dx, dy, fs, gs, rfl, rfl, ha, hb, q⟩ := h
  cases rx
  cases ry
  obtain ⟨od, J⟩ := inst_of I ha
  obtain ⟨od2, J2⟩ := inst_of I hb
  obtain ⟨m, fr⟩ := I.fr
  refine binop_K2 fr I.ok.mod.kin J J2.type T hm.at_ hm.fn ?_
  refine wpAny_mono (run_ok (us := [.ref a, .ref b]) (vs := [.ref a, .ref b]) o (hr.mono hk) b' d pass0 I (.cons rfl (.cons rfl .nil)) q) ?_ (fun _ _ z => z)
  rintro r s' ⟨z, H', I', rz, nz, q'⟩
  have := nz r rz
  unfold PySem.W.CmpBack
  cases r <;> first | exact absurd rfl this | exact ⟨z, H', I', rz, q'⟩

/-! ### o[k], by the class's own __getitem__ -/
def rOwnIx (C : Addr) (sp : Sp) (dvs : List V) : R2 := fun x y H Q => ∃ a dx fs, x = .ref a ∧ H a = some (.ins C dx fs) ∧ sp ([x, y] ++ dvs) H Q E0
/-- a method is a def -/
def FnI (K : PySem.W.Frag) (C : Addr) (m : Str) : Prop := ∀ f, PySem.W.findIn K (.ref C) m = some (some (.ref f)) → PySem.W.fnIn K f = true
theorem Dm.fni {K : PySem.W.Frag} {C : Addr} {m qual : Str} {st : Stmt} {dvs : List V} (D : Dm K C m qual st dvs) : FnI K C m := fun f e => by
  obtain ⟨f', oc, od, dV, kV, doc, pm, an, cdv, ct, osl, l, cd, me, dd⟩ := D.ex
  have e2 := me.at_
  rw [e] at e2
  cases e2
  unfold PySem.W.fnIn
  rw [l]
end
section
variable {X : Cx} {k j : Nat} {C : Addr} {sp : Sp} {dvs : List V} {a b : Expr} {ta tb : TE} {pos : Pos}
/-- o[k] -/
theorem pe_ownIx (c : Met X.prog X.w X.K X.mg X.base k C "__getitem__" sp dvs) (hF : FnI X.K C "__getitem__") (hr : Rm j X.A) (hk : k + 1 ≤ j) (ha : PE X a ta) (hb : PE X b tb)
    (hs : ∀ o i, subscripted b true o i = runValue (.builtin "lifetime.subscript" ⟨[o, i], []⟩) := by intro _ _; rfl) : PE X (.Subscript a b pos) (tOp (rOwnIx C sp dvs) ta tb) := by
  obtain ⟨f, fd, ps, ds, hc, hm, o, b', d⟩ := c.ex
  refine ⟨fun pins s σ H Q I h => ?_⟩
  refine Subscript_ (binT ha hb I h fun v u s2 x y H2 I2 rx ry q => ?_)
  obtain ⟨a', dx, fs, rfl, hx, q⟩ := q
  cases rx
  obtain ⟨od, J⟩ := inst_of I2 hx
  obtain ⟨m, fr⟩ := I2.fr
  have hfn : PySem.W.fnIn X.K f = true := hF f hm.at_
  refine PySem.W.sub_K fr I2.ok.mod.kin J hm.at_ hfn hm.fn ?_ (hs _ _)
  exact run_in1 (us := [.ref a', u]) (vs := [.ref a', y]) o (hr.mono hk) b' d I2 (.cons rfl (.cons ry .nil)) q
end

theorem pe_fldK {X : Cx} {K : PySem.W.Frag} {e : Expr} {f : Str} {ta : TE} {pos : Pos} (he : PE X e ta) (hb : attributeBase e f X.env (eval e X.env) = eval e X.env) (h : X.K = K := by rfl) : PE X (.Attribute e f pos) (tFld K ta f) := by
  subst h
  exact pe_fld he hb
/-! ### C.m(..), m a staticmethod -/
structure Sta (P : Program) (w : World) (K : PySem.W.Frag) (mg : Str → Option Value) (base : Heap) (k : Nat) (C : Addr) (m : Str) (ps : List Str) (sp : Sp) : Prop where
  ex : ∃ (mc : Value) (p f : Addr) (fd : FuncData), ClX.CRead K C mc ∧ PySem.W.findCls K (.ref C) mc m = some (.get (.builtin "staticmethod.__get__") (.ref p) .none (.ref C)) ∧
    (∃ rest, PySem.W.recIn K p "staticmethod" = some (.ref f :: rest)) ∧ PySem.W.keepIn K (.ref f) = true ∧ Ok P w K mg base CX0 k f fd ps sp ∧
    (∀ (s : Shared) (us : List Value) (ws : List Value) (ks : List Str), K.In s.heap → us.length + ws.length = ps.length → ks = ps.drop us.length → BindsTo s fd ⟨us, ks.zip ws⟩ (ps.zip (us ++ ws)))
def tStat (C : Addr) (sp : Sp) (ta : TE) (t tk : TA) : TE := fun σ H Q => ta σ H fun x H1 => x = .ref C ∧ t σ H1 fun vs H2 => tk σ H2 fun zs H3 => sp (vs ++ zs) H3 Q E0
section
variable {X : Cx} {k j : Nat} {C : Addr} {m : Str} {sp : Sp} {ps : List Str} {pos apos : Pos} {e o : Expr} {es : List Expr} {kws : List Keyword} {ta : TE} {t tk : TA}
theorem run_stat {pins : List (Addr × Obj)} {σ : L2.St} {H : Hp} {s : Shared} {Q : VK} {us ws : List Value} {vs zs : List V} {ks : List Str} {f : Addr} {fd : FuncData}
    (o : Ok X.prog X.w X.K X.mg X.base CX0 k f fd ps sp) (hr : Rm k X.A) (I : Inv X pins σ H s) (r : Vals vs us) (rz : Vals zs ws)
    (hb : us.length + ws.length = ps.length → BindsTo s fd ⟨us, ks.zip ws⟩ (ps.zip (us ++ ws))) (h : sp (vs ++ zs) H Q E0) :
    wpAny (model X.prog X.w) X.A (call (.ref f) us (ks.zip ws)) (EP X pins σ Q) X.xe s := by
  have rr := r.append rz
  have hl : us.length + ws.length = ps.length := by
    rw [← List.length_append, ← rr.length]
    exact o.len _ _ _ _ h
  refine wpAny_call (codeAny_mono (o.go X.A X.stack s H ⟨us, ks.zip ws⟩ (us ++ ws) (vs ++ zs) Q E0 hr I.env0 (hb hl) rr h) ?_)
  intro res s' hq
  match res, hq with
  | .error e, hq => exact False.elim hq
  | .ok (.ret u), hq => exact I.after hq
  | .ok .next, hq => exact False.elim hq
  | .ok .brk, hq => exact False.elim hq
  | .ok .cont, hq => exact False.elim hq
theorem pe_stat {pl : Sem Bool} (c : Sta X.prog X.w X.K X.mg X.base k C m ps sp) (hr : Rm j X.A) (hk : k ≤ j) (he : PE X o ta) (ha : PA X (e :: es) t)
    (hst : starEach (e :: es) X.env = (false, eval e X.env) :: starEach es X.env := by rfl)
    (hpl : (backTo pos (starEach es X.env)).any (·.1) = false := by rfl)
    (ht : eval (.Call (.Attribute o m apos) (e :: es) [] pos) X.env = (do
      let v ← eval o X.env
      standAt apos.atName
      let (g, l) ← holding [v] (getMethod v m pl)
      callWith pos g l (backTo pos (starEach (e :: es) X.env)) (backToKw pos (keywordEach [] X.env))) := by rfl) :
    PE X (.Call (.Attribute o m apos) (e :: es) [] pos) (tStat C sp ta t tNil) := by
  obtain ⟨mc, p, f, fd, cr, at_, ⟨rest, rc⟩, kp, ok, b⟩ := c.ex
  constructor
  intro pins s σ H Q I h
  refine PySem.W.methodCall_KW (pl := pl) (thn (he.run pins s σ H _ I h) ?_) ht
  rintro u s1 ⟨y, H1, I1, ry, ey, q⟩
  subst ey
  have eu : u = Value.ref C := ry
  subst eu
  refine PySem.W.method_cls I1.kIn cr.ga (PySem.W.cls_bind I1.kIn cr.rd at_ (wpAny_call (PySem.W.sm_get (s := { s1 with toks := s1.toks + 1 }) I1.kIn rc (PySem.W.handed_on rfl ?_))))
  have I1' := I1.tok (s1.toks + 1)
  refine PySem.W.callWith_K (first := []) (h₀ := X.base) I.ok.mod.kin kp (thn (ha.run pos pins _ σ H1 _ I1' q) ?_) hst hpl
  rintro us s2 ⟨vs, H2, I2, r, q2⟩
  exact ⟨I2.kIn, run_stat (us := us) (ws := []) (zs := []) (ks := []) ok (hr.mono hk) I2 r .nil (fun hl => b _ us [] [] I2.kIn hl (by
    have hl' : us.length = ps.length := hl
    rw [hl', List.drop_length])) q2⟩
/-- C.m(e, .., k = v, ..) -/
theorem pe_statK {pl : Sem Bool} {ks : List Str} {n : Nat} (c : Sta X.prog X.w X.K X.mg X.base k C m ps sp) (hr : Rm j X.A) (hk : k ≤ j) (he : PE X o ta) (ha : PA X (e :: es) t) (hkw : PK X kws tk)
    (hn : (e :: es).length = n) (hd : ps.drop n = ks)
    (hst : starEach (e :: es) X.env = (false, eval e X.env) :: starEach es X.env := by rfl)
    (hall : (backToKw pos (keywordEach kws X.env)).all (·.1.isSome) = true := by rfl) (hks : (backToKw pos (keywordEach kws X.env)).filterMap (·.1) = ks := by rfl)
    (hpl : ((backTo pos (starEach (e :: es) X.env)).any (·.1) || (backToKw pos (keywordEach kws X.env)).any (·.1.isNone)) = false := by rfl)
    (ht : eval (.Call (.Attribute o m apos) (e :: es) kws pos) X.env = (do
      let v ← eval o X.env
      standAt apos.atName
      let (g, l) ← holding [v] (getMethod v m pl)
      callWith pos g l (backTo pos (starEach (e :: es) X.env)) (backToKw pos (keywordEach kws X.env))) := by rfl) :
    PE X (.Call (.Attribute o m apos) (e :: es) kws pos) (fun σ H Q => ta σ H fun x H1 => x = .ref C ∧ t σ H1 fun vs H2 => tk σ H2 fun zs H3 => vs.length = n ∧ sp (vs ++ zs) H3 Q E0) := by
  obtain ⟨mc, p, f, fd, cr, at_, ⟨rest, rc⟩, kp, ok, b⟩ := c.ex
  constructor
  intro pins s σ H Q I h
  refine PySem.W.methodCall_KW (pl := pl) (thn (he.run pins s σ H _ I h) ?_) ht
  rintro u s1 ⟨y, H1, I1, ry, ey, q⟩
  subst ey
  have eu : u = Value.ref C := ry
  subst eu
  refine PySem.W.method_cls I1.kIn cr.ga (PySem.W.cls_bind I1.kIn cr.rd at_ (wpAny_call (PySem.W.sm_get (s := { s1 with toks := s1.toks + 1 }) I1.kIn rc (PySem.W.handed_on rfl ?_))))
  have I1' := I1.tok (s1.toks + 1)
  refine PySem.W.callWith_KW (first := []) (h₀ := X.base) I.ok.mod.kin kp hall (thn (ha.run pos pins _ σ H1 _ I1' q) fun us s2 ⟨vs, H2, I2, r, q2⟩ => ?_) hpl hst
  refine thn (hkw.run pos pins s2 σ H2 _ I2 q2) fun ws s3 ⟨zs, H3, I3, rz, l1, q3⟩ => ⟨I3.kIn, ?_⟩
  rw [hks]
  exact run_stat (us := us) (ws := ws) ok (hr.mono hk) I3 r rz (fun hl => b _ us ws ks I3.kIn hl (by rw [← r.length, l1, hd])) q3
end
end Eu
set_option Elab.async false
set_option linter.all false
set_option maxRecDepth 100000
set_option maxHeartbeats 4000000
set_option pp.maxSteps 3000
namespace Eu
open PySem PySem.Spec PyProof.Rows L2
/-! ### defs that may raise -/
structure CalX (P : Program) (w : World) (K : PySem.W.Frag) (mg : Str → Option Value) (base : Heap) (k : Nat) (x : Str) (sp : Sp) (dvs : List V) : Prop where
  ex : ∃ (f : Addr) (fd : FuncData) (ps : List Str) (ds : List Value),
    Ok P w K mg base (L2.CX P w) k f fd ps sp ∧ mg x = some (.ref f) ∧ PySem.W.keepIn K (.ref f) = true ∧ Binds K fd ps ds ∧ Vals dvs ds
structure MetX (P : Program) (w : World) (K : PySem.W.Frag) (mg : Str → Option Value) (base : Heap) (k : Nat) (C : Addr) (m : Str) (sp : Sp) (dvs : List V) : Prop where
  ex : ∃ (f : Addr) (fd : FuncData) (ps : List Str) (ds : List Value), Cls K C ∧ Meth K C m f ∧ Ok P w K mg base (L2.CX P w) k f fd ps sp ∧ Binds K fd ps ds ∧ Vals dvs ds
section
variable {P : Program} {w : World} {K : PySem.W.Frag} {mg : Str → Option Value} {base : Heap}
theorem CalX.mono {j k : Nat} {x : Str} {sp : Sp} {dvs : List V} (c : CalX P w K mg base j x sp dvs) (h : j ≤ k) : CalX P w K mg base k x sp dvs := by
  obtain ⟨f, fd, ps, ds, o, r⟩ := c.ex
  exact ⟨f, fd, ps, ds, o.mono h, r⟩
theorem MetX.mono {j k : Nat} {C : Addr} {x : Str} {sp : Sp} {dvs : List V} (c : MetX P w K mg base j C x sp dvs) (h : j ≤ k) : MetX P w K mg base k C x sp dvs := by
  obtain ⟨f, fd, ps, ds, c1, c2, o, r⟩ := c.ex
  exact ⟨f, fd, ps, ds, c1, c2, o.mono h, r⟩
theorem MetX.imp {k : Nat} {C : Addr} {x : Str} {sp sp' : Sp} {dvs : List V} (c : MetX P w K mg base k C x sp dvs) (h : ∀ vs H Q E, sp' vs H Q E → sp vs H Q E) : MetX P w K mg base k C x sp' dvs := by
  obtain ⟨f, fd, ps, ds, c1, c2, o, r⟩ := c.ex
  exact ⟨f, fd, ps, ds, c1, c2, o.imp h, r⟩
theorem Df.calX {x : Str} {st : Stmt} {N ps : List Str} {k : Nat} {sp : Sp} (D : Df K mg x st) (S : FnScope N ps (defScope st))
    (hbd : ∀ (kV doc pm : Value) (an : Option Addr) (cdv ct : Value) (us : List Value), us.length = ps.length →
      bindArgs (PySem.W.fnOf x x (defArgs st) (defBody st) (defScope st) .none kV doc pm an cdv ct) ⟨us, []⟩ = pure (ps.zip us))
    (len : ∀ vs H Q E, sp vs H Q E → vs.length = ps.length)
    (hb : ∀ (f : Addr) (cdv : Value) (A : Around) (out : List Env) (s : Shared) (H : Hp) (vs : List V) (Q : VK) (E : XK),
      Rm k (A.deeper (envOfC x (defScope st) s.heap.objs.size f cdv)) → sp vs H Q E →
      ∃ t, PSs (cxOf (L2.CX P w) P w K mg base N x (defScope st) f cdv A out s H E) (defBody st) t ∧
        t { nx := fun _ H' => Q .non H', rt := Q } (start N vs) H) : CalX P w K mg base (k + 1) x sp [] := by
  obtain ⟨f, oc, od, kV, doc, pm, an, cdv, ct, osl, l, c, kp, m⟩ := D.ex
  exact ⟨f, _, ps, [], ok_body l c S len (fun A out s H vs Q E hr hs => hb f cdv A out s H vs Q E hr hs), m, kp, .all (hbd kV doc pm an cdv ct), .nil⟩
theorem Dm.metX {C : Addr} {m qual : Str} {st : Stmt} {N ps : List Str} {k : Nat} {sp : Sp} (D : Dm K C m qual st []) (c : Cls K C) (S : FnScope N ps (defScope st))
    (hbd : ∀ (kV doc pm : Value) (an : Option Addr) (cdv ct : Value) (us : List Value), us.length = ps.length →
      bindArgs (PySem.W.fnOf m qual (defArgs st) (defBody st) (defScope st) .none kV doc pm an cdv ct) ⟨us, []⟩ = pure (ps.zip us))
    (len : ∀ vs H Q E, sp vs H Q E → vs.length = ps.length)
    (hb : ∀ (f : Addr) (cdv : Value) (A : Around) (out : List Env) (s : Shared) (H : Hp) (vs : List V) (Q : VK) (E : XK),
      Rm k (A.deeper (envOfC qual (defScope st) s.heap.objs.size f cdv)) → sp vs H Q E →
      ∃ t, PSs (cxOf (L2.CX P w) P w K mg base N qual (defScope st) f cdv A out s H E) (defBody st) t ∧
        t { nx := fun _ H' => Q .non H', rt := Q } (start N vs) H) : MetX P w K mg base (k + 1) C m sp [] := by
  obtain ⟨f, oc, od, dV, kV, doc, pm, an, cdv, ct, osl, l, cd, me, dd⟩ := D.ex
  rcases dd with ⟨_, e⟩ | ⟨e, _⟩
  · subst e
    exact ⟨f, _, ps, [], c, me, ok_body l cd S len (fun A out s H vs Q E hr hs => hb f cdv A out s H vs Q E hr hs), .all (hbd kV doc pm an cdv ct), .nil⟩
  · exact absurd rfl e
/-- what a callee lets out leaves the def -/
theorem passX {N : List Str} {qual : Str} {scope : Scope} {f : Addr} {cd : Value} {A : Around} {outer : List Env} {s : Shared} {H : Hp} {E : XK} :
    Passes (L2.CX P w) (cxOf (L2.CX P w) P w K mg base N qual scope f cd A outer s H E) E := passes_call (takes_of rfl rfl rfl rfl) fun _ _ _ _ h => h
/-- loops let it out -/
theorem ownX {N : List Str} {qual : Str} {scope : Scope} {f : Addr} {cd : Value} {A : Around} {outer : List Env} {s : Shared} {H : Hp} {E : XK} :
    PassesOwn (model P w) (cxOf (L2.CX P w) P w K mg base N qual scope f cd A outer s H E).A (cxOf (L2.CX P w) P w K mg base N qual scope f cd A outer s H E).env (cxOf (L2.CX P w) P w K mg base N qual scope f cd A outer s H E).xe := passes_of rfl
end
/-- nothing is let out -/
theorem passE0 {X : Cx} {P : Program} {w : World} : Passes (L2.CX P w) X E0 := fun pins σ H s e s' I h => by
  obtain ⟨a, B, H', cls, d, z1, fl, z2, ub, z3, z4, z5, z6⟩ := h
  exact False.elim z6
section
variable {X : Cx} {k j : Nat} {C : Addr} {x m : Str} {sp : Sp} {dvs : List V} {p pos apos : Pos} {e o : Expr} {es : List Expr} {ta : TE} {t : TA} {E : XK}
theorem pe_cX (c : CalX X.prog X.w X.K X.mg X.base k x sp dvs) (hr : Rm j X.A) (hk : k ≤ j) (hx : Passes (L2.CX X.prog X.w) X E) (hg : Gl X x) (ha : PA X (e :: es) t)
    (hdb : (x == ("__debug__" : Str)) = false := by decide)
    (he : starEach (e :: es) X.env = (false, eval e X.env) :: starEach es X.env := by rfl)
    (hpl : (backTo pos (starEach es X.env)).any (·.1) = false := by rfl) :
    PE X (.Call (.Name x p) (e :: es) [] pos) (tCall sp dvs E t) := by
  obtain ⟨f, fd, ps, ds, ok, hm, kp, b, d⟩ := c.ex
  constructor
  intro pins s σ H Q I h
  apply wpAny_Call_Name_kw
  apply ld_glob I hg hm _ hdb
  refine PySem.W.callWith_K (h₀ := X.base) I.ok.mod.kin kp (thn (ha.run pos pins s σ H _ I h) ?_) he hpl
  rintro us s1 ⟨vs, H1, I1, r, q⟩
  exact ⟨I1.kIn, run_ok ok (hr.mono hk) b d hx I1 r q⟩
theorem pe_mtX {pl : Sem Bool} (c : MetX X.prog X.w X.K X.mg X.base k C m sp dvs) (hr : Rm j X.A) (hk : k ≤ j) (hx : Passes (L2.CX X.prog X.w) X E) (he : PE X o ta) (ha : PA X (e :: es) t)
    (hst : starEach (e :: es) X.env = (false, eval e X.env) :: starEach es X.env := by rfl)
    (hpl : (backTo pos (starEach es X.env)).any (·.1) = false := by rfl)
    (ht : eval (.Call (.Attribute o m apos) (e :: es) [] pos) X.env = (do
      let v ← eval o X.env
      standAt apos.atName
      let (g, l) ← holding [v] (getMethod v m pl)
      callWith pos g l (backTo pos (starEach (e :: es) X.env)) (backToKw pos (keywordEach [] X.env))) := by rfl) :
    PE X (.Call (.Attribute o m apos) (e :: es) [] pos) (tMeth C m sp dvs E ta t) := by
  obtain ⟨f, fd, ps, ds, hc, hm, ok, b, d⟩ := c.ex
  constructor
  intro pins s σ H Q I h
  refine PySem.W.methodCall_KW (pl := pl) (thn (he.run pins s σ H _ I h) ?_) ht
  rintro u s1 ⟨y, H1, I1, ry, a, dx, fs, ey, ea, l, q⟩
  subst ey
  have eu : u = Value.ref a := ry
  subst eu
  refine getmeth_ok I1 ea hc hm l ?_
  refine PySem.W.callWith_K (first := [.ref a]) (h₀ := X.base) I.ok.mod.kin hm.kp (thn (ha.run pos pins s1 σ H1 _ I1 q) ?_) hst hpl
  rintro us s2 ⟨vs, H2, I2, r, q2⟩
  exact ⟨I2.kIn, run_ok (us := .ref a :: us) (vs := .ref a :: vs) ok (hr.mono hk) b d hx I2 (.cons rfl r) q2⟩
theorem pe_mt0X {pl : Sem Bool} (c : MetX X.prog X.w X.K X.mg X.base k C m sp dvs) (hr : Rm j X.A) (hk : k ≤ j) (hx : Passes (L2.CX X.prog X.w) X E) (he : PE X o ta)
    (ht : eval (.Call (.Attribute o m apos) [] [] pos) X.env = (do
      let v ← eval o X.env
      standAt apos.atName
      let (g, l) ← holding [v] (getMethod v m pl)
      callWith pos g l (backTo pos (starEach [] X.env)) (backToKw pos (keywordEach [] X.env))) := by rfl) :
    PE X (.Call (.Attribute o m apos) [] [] pos) (tMeth C m sp dvs E ta tNil) := by
  obtain ⟨f, fd, ps, ds, hc, hm, ok, b, d⟩ := c.ex
  constructor
  intro pins s σ H Q I h
  refine PySem.W.methodCall_KW (pl := pl) (thn (he.run pins s σ H _ I h) ?_) ht
  rintro u s1 ⟨y, H1, I1, ry, a, dx, fs, ey, ea, l, q⟩
  subst ey
  have eu : u = Value.ref a := ry
  subst eu
  refine getmeth_ok I1 ea hc hm l ?_
  exact PySem.W.callWith_K0 (first := [.ref a]) I1.kIn hm.kp (run_ok (us := [.ref a]) (vs := [.ref a]) ok (hr.mono hk) b d hx I1 (.cons rfl .nil) q)
end
/-! ### an error class over ValueError with one field -/
/-- its __init__ -/
def spErr (C : Addr) (fld : Str) : Sp := fun vs H Q _ => ∃ (a : Addr) (v : V), vs = [.ref a, v] ∧ H a = some (exo a C none) ∧ ∀ dx, H dx = none → dx ≠ a → Q .non (upd (upd H dx (exd dx [(fld, v)])) a (exo a C (some dx)))
structure Exo (P : Program) (w : World) (K : PySem.W.Frag) (mg : Str → Option Value) (base : Heap) (x : Str) (C : Addr) (fld : Str) : Prop where
  oex : OexC K C
  hm : mg x = some (.ref C)
  ini : ∃ (fI : Addr) (fd : FuncData) (ps : List Str), PySem.W.findIn K (.ref C) "__init__" = some (some (.ref fI)) ∧ PySem.W.typeIn K (.ref fI) = some (.type "function") ∧ FnOk P w K mg base CX0 1 fI fd ps (spErr C fld) ∧ Binds K fd ps []
section
variable {X : Cx} {C : Addr} {x fld : Str} {p pos : Pos} {e : Expr} {te : TE} {j : Nat}
theorem pmk_B (T : Exo X.prog X.w X.K X.mg X.base x C fld) (hr : Rm j X.A) (hk : 2 ≤ j) (hg : Gl X x) (he : PE X e te)
    (hdb : (x == ("__debug__" : Str)) = false := by decide) (hst : starEach [e] X.env = (false, eval e X.env) :: starEach [] X.env := by rfl) (hpl : (backTo pos (starEach [] X.env)).any (·.1) = false := by rfl) :
    PMk X (.Call (.Name x p) [e] [] pos) (tMkO C (spErr C fld) [] (tCons te tNil)) := by
  obtain ⟨fI, fd, ps, iC, tI, F1, b⟩ := T.ini
  exact pmk_oex (X := X) (CX := CX0) (x := x) (p := p) (pos := pos) (dvs := []) T.oex iC tI F1 (hr.rm.mono hk) b .nil pass0 hg T.hm (pa_cons he pa_nil hst) hdb hst hpl
/-- what is asked where it is raised -/
theorem use_err {H : Hp} {v : V} {Q : XK} (q : ∀ d H', H d = none → Same H H' → H' d = some (.xd [(fld, v)]) → Q (.ref C) (some d) H') :
    [v].length ≤ 1000 ∧ ∀ a, H a = none → spErr C fld (.ref a :: ([v] ++ [])) (upd H a (exo a C none))
      (fun u H2 => u = .non ∧ ∃ (d : Addr) (fs : List (Str × V)), H2 a = some (exo a C (some d)) ∧ H2 d = some (exd d fs) ∧ H d = none ∧ Q (.ref C) (some d) (upd (del H2 a) d (.xd fs))) (fun _ _ _ => False) := by
  refine ⟨by show 1 ≤ 1000; decide, fun a na => ⟨a, v, rfl, upd_same, fun dx ndx nda => ⟨rfl, dx, [(fld, v)], upd_same, ?_, ?_, ?_⟩⟩⟩
  · rw [upd_ne nda, upd_same]
  · rw [upd_ne nda] at ndx
    exact ndx
  · rw [upd_ne nda] at ndx
    refine q dx _ ndx (fun c o e => ?_) upd_same
    have n1 : c ≠ dx := ne_of_none e ndx
    have n2 : c ≠ a := ne_of_none e na
    rw [upd_ne n1, del_ne n2, upd_ne n2, upd_ne n1, upd_ne n2]
    exact e
end
end Eu
set_option Elab.async false
set_option linter.all false
set_option maxRecDepth 100000
set_option maxHeartbeats 4000000
set_option pp.maxSteps 3000
namespace Eu
open PySem PySem.Spec PyProof.Rows L2
/-! ### enumerate(text) -/
def TextP (x : Str) (i : Nat) (v : Value) : Prop := ∃ c u, x.cps[i]? = some c ∧ v = Value.str ⟨#[c]⟩ u
theorem draws_text {prog : Program} {w : World} {A : Around} (ha : A.handled = none) (it : Addr) (x : Str) (t : Tok) :
    Draws prog w A it [it] x.cps.size (TextP x) (fun i h => h.IsStrIter it (strIterType x) x t i) := by
  by_cases hc : x.cps.all (· < 128) = true
  · have e : strIterType x = "str_ascii_iterator" := by unfold strIterType; rw [hc]; rfl
    rw [e]
    exact Draws.strAscii ha it x t
  · have e : strIterType x = "str_iterator" := by unfold strIterType; rw [eq_false_of_ne_true hc]; rfl
    rw [e]
    exact Draws.strWide ha it x t
/-- the signs of a text, each in a new pair with its place -/
def ItS (x : Str) : It :=
  ⟨fun i _ => i < x.cps.size, fun i H v H' => ∃ T c, v = .ref T ∧ H T = none ∧ x.cps[i]? = some c ∧ H' = upd H T (.tup [.int (i : Nat), .str ⟨#[c]⟩]), fun i _ => i = x.cps.size⟩
theorem turn_text {P : Program} {w : World} {K : PySem.W.Frag} {elts : List Expr} {kk : Nat} {tpos : Pos} (x : Str) (t : Tok) (e it : Addr) :
    Turn P w K (.Tuple elts kk tpos) (ItS x) [e, it] e (fun i h => (∃ was, IsEnum h e it (i : Int) was) ∧ h.IsStrIter it (strIterType x) x t i ∧ e ≠ it) where
  mem := List.mem_cons_self
  obj := by
    rintro i h ⟨⟨was, h1⟩, ⟨o, h2, h3, h4⟩, _⟩ b hb
    rcases List.mem_cons.mp hb with rfl | hb
    · exact ⟨_, h1, fun v z => nomatch z⟩
    · rw [List.mem_singleton.mp hb]
      exact ⟨o, h2, fun v z => by rw [h4] at z; cases z⟩
  keep := by
    rintro i h h' ⟨⟨was, h1⟩, ⟨o, h2, h3⟩, hn⟩ k
    exact ⟨⟨was, k e List.mem_cons_self _ h1⟩, ⟨o, k it (List.mem_cons_of_mem _ List.mem_cons_self) _ h2, h3⟩, hn⟩
  item := by
    rintro X rfl rfl rfl hc i pins s σ H E I hf ⟨⟨was, h1⟩, h2, hn⟩ hg
    have ha : X.A.in1.handled = none := I.ok.hd hc
    have le : e < s.heap.objs.size := Heap.lt_size h1
    have li : it < s.heap.objs.size := by
      obtain ⟨o, q, _⟩ := h2
      exact Heap.lt_size q
    have nef : e ∉ [it] := fun z => hn (List.mem_singleton.mp z)
    refine wpAny_pyNext_enum_itemD (draws_text ha it x t) h1 h2 hg hn nef ?_
    rintro v h' tk ⟨c, u, hcp, rfl⟩ ho hs hT hz kp
    refine ⟨_, rfl, wpAny_letOwnedTupleGo_enum (s := { s with heap := h', toks := tk + 1 }) ho fun h'' he' sb => ?_⟩
    have hT' := (sb.2 _ (Nat.ne_of_gt le)).trans hT
    have okT : ObjOk X.prog X.w (upd H s.heap.objs.size (.tup [.int (i : Nat), .str ⟨#[c]⟩])) h'' s.heap.objs.size (.tup [.int (i : Nat), .str ⟨#[c]⟩]) :=
      ⟨by show 2 ≤ sizeLine; decide, [.int i tk, .str ⟨#[c]⟩ u], .cons ⟨_, rfl⟩ (.cons ⟨_, rfl⟩ .nil), ⟨_, hT', rfl, _, rfl⟩⟩
    have J : Inv X pins σ (upd H s.heap.objs.size (.tup [.int (i : Nat), .str ⟨#[c]⟩])) { s with heap := h'', toks := tk + 1 } := by
      refine I.turnedNew (ch := [e, it]) (fun b ob hb q => ?_) hf (Nat.le_refl _) okT
      have n1 : b ≠ e := fun z => hb (by rw [z]; exact List.mem_cons_self)
      have n2 : b ≠ it := fun z => hb (by rw [z]; exact List.mem_cons_of_mem _ List.mem_cons_self)
      exact (sb.2 b n1).trans (kp b ob n1 n2 q)
    obtain ⟨os, q1, q2⟩ := hs
    refine ⟨.ref s.heap.objs.size, _, J, rfl, ⟨_, c, rfl, I.hok.fresh (Nat.le_refl _), hcp, rfl⟩, ⟨⟨.str ⟨#[c]⟩ u, ?_⟩, ⟨os, (sb.2 it (Ne.symm hn)).trans q1, q2⟩, hn⟩, fun b hb => ?_⟩
    · rw [show ((i + 1 : Nat) : Int) = (i : Int) + 1 by omega]
      exact he'
    · have lb : b < s.heap.objs.size := by
        rcases List.mem_cons.mp hb with z | z
        · rw [z]; exact le
        · rw [List.mem_singleton.mp z]; exact li
      rw [upd_ne (Nat.ne_of_lt lb)]
      exact (hf b hb).1
  done := by
    rintro X rfl rfl rfl hc i pins s σ H E I hf ⟨⟨was, h1⟩, h2, hn⟩ hg
    have hg' : i = x.cps.size := hg
    subst hg'
    have ha : X.A.in1.handled = none := I.ok.hd hc
    obtain ⟨f0, f1, f2, f3, f4, f5⟩ := hf it (List.mem_cons_of_mem _ List.mem_cons_self)
    exact wpAny_pyNext_enum_endD (draws_text ha it x t) h1 h2 fun h' eb => ⟨rfl, I.turned (t' := s.toks) (fun b o hb q => eb b o hb q) f0 f1 f3 f4 f5⟩
  self := by
    rintro A i s Q E ⟨⟨was, h1⟩, _⟩ h
    exact wpAny_pyIter_enum h1 h
def iEnumS (ta : TA) : TI := fun σ H R => ta σ H fun vs H1 => ∃ x, vs = [.str x] ∧ R (ItS x) H1
theorem pi_enumS {X : Cx} {e : Expr} {ta : TA} {p pos tpos : Pos} {elts : List Expr} {kk : Nat} (hg : Gl X "enumerate") (hm : X.mg "enumerate" = none) (ha : PA X [e] ta) (hs : starEach [e] X.env = [(false, eval e X.env)] := by rfl) :
    PI X (.Tuple elts kk tpos) (.Call (.Name "enumerate" p) [e] [] pos) (iEnumS ta) := by
  constructor
  intro pins s σ H R I h
  refine Call_ (ld_blt I hg hm boot_enumerate (PyProof.Rows.callWith_type1 (thn (ha.run pos pins s σ H _ I h) ?_) hs rfl))
  rintro us s1 ⟨vs, H1, I1, r1, x, rfl, q⟩
  obtain ⟨u, rfl, ru⟩ := vals1 r1
  obtain ⟨t, rfl⟩ := ru
  refine call_enumerate_str ?_
  intro h' he hit hsz hk
  refine wpAny_pyIter_enum he ?_
  have I2 : Inv X pins σ H1 { s1 with heap := h' } := I1.kept (t' := s1.toks) hk
  refine ⟨_, [s1.heap.objs.size + 1, s1.heap.objs.size], _, _, H1, rfl, I2, turn_text x t _ _, ⟨⟨_, he⟩, hit, Nat.succ_ne_self _⟩, ?_, q⟩
  intro b hb
  have le : s1.heap.objs.size ≤ b := by
    rcases List.mem_cons.mp hb with z | z
    · rw [z]; exact Nat.le_succ _
    · rw [List.mem_singleton.mp z]; exact Nat.le_refl _
  exact I1.fpOk le (I1.hok.fresh le)
theorem over_enumS {x : Str} : Over (ItS x) x.cps.toList.zipIdx (fun p H v H' => ∃ T, v = .ref T ∧ H T = none ∧ H' = upd H T (.tup [.int (p.2 : Nat), .str ⟨#[p.1]⟩])) (fun _ => True) where
  go := fun i p H e _ => by
    have := (List.getElem?_eq_some_iff.mp e).1
    show i < x.cps.size
    simpa using this
  st := fun H _ => by
    show x.cps.toList.zipIdx.length = x.cps.size
    simp
  yl := fun i p H v H' e _ y => by
    obtain ⟨T, c, y1, y2, y3, y4⟩ := y
    rw [List.getElem?_zipIdx, Array.getElem?_toList, y3] at e
    cases e
    refine ⟨T, y1, y2, ?_⟩
    rw [y4]
    simp
end Eu
set_option Elab.async false
set_option linter.all false
set_option maxRecDepth 100000
set_option maxHeartbeats 4000000
set_option pp.maxSteps 3000
/-! Lay16: x, *y = a tuple. -/
namespace Eu
open PySem PySem.Spec PySem.Calls PyProof.Rows L2
section
variable {prog : Program} {w : World} {A : Around} {E : Value → Shared → Prop} {s : Shared}
/-- the first item, and a list of the others -/
theorem unpack_first {p : Addr} {v : Value} {vs : List Value} {Q : List Value → Shared → Prop} (ht : IsTup s.heap p (v :: vs).toArray) (calm : A.handled = none) (few : vs.length ≤ 16000)
    (q : ∀ (g : Heap) (tk : Nat), (∀ b o, s.heap.get? b = some o → g.get? b = some o) → Q [v, .ref g.objs.size] { s with heap := g.push { cls := .type "list", data := .seq vs.toArray }, toks := tk }) :
    wpAny (model prog w) A (unpackItems (.ref p) 2 (some 1)) Q E s := by
  have hp : p < s.heap.objs.size := by
    obtain ⟨o, h1, _⟩ := ht
    exact Heap.lt_size h1
  have hne : p ≠ s.heap.objs.size := fun z => Nat.lt_irrefl _ (z ▸ hp)
  have hsz : (v :: vs).toArray.size = vs.length + 1 := by simp
  unfold unpackItems notIterableAtAll
  refine wpAny_bind (wpAny_bind (wpAny_specialOf ht.typeIs slot_tuple_iter.lookup (wpAny_pure ?_)))
  rw [if_neg (by exact Bool.false_ne_true)]
  refine wpAny_bind (wpAny_holding (iter_tuple ht ?_))
  refine wpAny_bind (wpAny_holding (draw_tuple hne 1 0 _ _ ⟨_, Heap.get?_push_size _ rfl, rfl, rfl⟩ (ht.push _) (by omega) fun g1 hi1 sb1 => ?_))
  have ht1 := (ht.push (o := _)).extBut sb1.extBut hne
  have lt1 : s.heap.objs.size < g1.objs.size := by
    obtain ⟨o, h1, _⟩ := hi1
    exact Heap.lt_size h1
  have lt2 : p < g1.objs.size := by
    obtain ⟨o, h1, _⟩ := ht1
    exact Heap.lt_size h1
  show wpAny _ _ (if ((v :: vs).take 1).length < 1 then _ else _) _ _ _
  rw [if_neg (by rw [show ((v :: vs).take 1).length = 1 from rfl]; omega)]
  refine wpAny_bind (wpAny_holding (PySem.W.kun_collect (s := { s with heap := g1 }) (k := 1) (T := "tuple_iterator") (.inr (.inr (.inr rfl))) (Walks.tuple (A := A.in1) calm s.heap.objs.size p hne _) (fun _ _ st => st.1.typeIs) (by omega) ⟨hi1, ht1⟩ lt1 lt2 (fun g2 tk k2 => ?_) (by rw [sizeLine_eq]; omega)))
  show wpAny _ _ (if vs.length < 0 then _ else newList (vs.take (vs.length - 0)) >>= fun d => pure ([v] ++ [d] ++ vs.drop (vs.length - 0))) _ _ _
  rw [if_neg (by omega), Nat.sub_zero, List.take_length, List.drop_length]
  refine wpAny_bind (wpAny_newList (wpAny_pure ?_) (by rw [sizeLine_eq]; omega))
  exact q g2 tk fun b o e => by
    have hb : b ≠ s.heap.objs.size := fun z => Nat.lt_irrefl _ (z ▸ Heap.lt_size e)
    exact k2 b o hb (sb1.extBut b o hb (Heap.get?_push_of_some _ e))
end
section
variable {X : Cx}
/-- x, *y = a tuple -/
def gHead (K : PySem.W.Frag) (i j : Nat) : TG := fun v σ H Q => ∃ a x xs, v = .ref a ∧ SqT K H a (x :: xs) ∧ xs.length ≤ 16000 ∧ ∀ p, H p = none → Q ((σ.set i (some x)).set j (some (.ref p))) (upd H p (.lst xs))
theorem pg_head {i j k : Nat} {x y : Str} {pos p1 p2 p3 : Pos} (hc : X.calm = true) (hN : X.N.Nodup) (hi : X.N[i]? = some x) (hj : X.N[j]? = some y) (hx : Loc X.env.scope x) (hy : Loc X.env.scope y) (fx : X.fn x = true ∨ X.env.scope.names.lookup x = some .local := by first | exact .inl rfl | exact .inr rfl) (fy : X.fn y = true ∨ X.env.scope.names.lookup y = some .local := by first | exact .inl rfl | exact .inr rfl)
    (hst : assignEach [.Name x p1, .Starred (.Name y p2) p3] X.env = [(false, assign (.Name x p1) X.env), (true, assign (.Name y p2) X.env)] := by rfl) : PG X (.Tuple [.Name x p1, .Starred (.Name y p2) p3] k pos) (gHead X.K i j) := by
  refine ⟨fun pins s σ H v u Q I r hw => ?_⟩
  obtain ⟨a, x0, xs, rfl, hq, few, q⟩ := hw
  cases r
  obtain ⟨its, rv, ht, hz⟩ := I.tuple hq
  cases rv with
  | @cons _ v0 _ vs r0 rv =>
    rw [assign_Tuple, hst]
    refine wpAny_bind (wpAny_standAt ?_)
    unfold unpack
    have hl := rv.length
    refine wpAny_bind (wpAny_holding (unpack_first ht (I.ok.hd hc) (by omega) fun g tk kp => ?_))
    have I1 : Inv X pins σ H { s with heap := g, toks := tk } := I.kept kp
    have hf := I1.hok.fresh (Nat.le_refl _)
    have I2 : Inv X pins σ (upd H g.objs.size (.lst xs)) { s with heap := g.push { cls := .type "list", data := .seq vs.toArray }, toks := tk } :=
      I1.laid (t' := tk) (fun b u e => Heap.get?_push_of_some _ e) (Nat.le_refl _) ⟨by rw [sizeLine_eq]; omega, vs, 0, rv, Heap.get?_push_size _ rfl⟩
    refine assignInOrder_cons (wpAny_assign_Name (store_ok I2 hN hi hx r0 (fun s3 I3 => ?_) fx))
    refine assignInOrder_cons (wpAny_assign_Name (store_ok I3 hN hj hy (show RelV (.ref g.objs.size) _ from rfl) (fun s4 I4 => ?_) fy))
    exact assignInOrder_nil ⟨_, _, I4, q _ hf⟩
end
end Eu
set_option Elab.async false
set_option linter.all false
set_option maxRecDepth 100000
set_option maxHeartbeats 4000000
set_option pp.maxSteps 3000
/-! Lay17: f(k = v, ..), all parameters by keyword, in their order; f may raise. -/
namespace Eu
open PySem PySem.Spec PyProof.Rows L2
structure CalXk (P : Program) (w : World) (K : PySem.W.Frag) (mg : Str → Option Value) (base : Heap) (k : Nat) (x : Str) (ps : List Str) (sp : Sp) : Prop where
  ex : ∃ (f : Addr) (fd : FuncData), Ok P w K mg base (L2.CX P w) k f fd ps sp ∧ mg x = some (.ref f) ∧ PySem.W.keepIn K (.ref f) = true ∧
    ∀ (s : Shared) (ws : List Value), ws.length = ps.length → BindsTo s fd ⟨[], ps.zip ws⟩ (ps.zip ws)
section
variable {P : Program} {w : World} {K : PySem.W.Frag} {mg : Str → Option Value} {base : Heap}
theorem Df.calXk {x : Str} {st : Stmt} {N ps : List Str} {k : Nat} {sp : Sp} (D : Df K mg x st) (S : FnScope N ps (defScope st))
    (hbd : ∀ (kV doc pm : Value) (an : Option Addr) (cdv ct : Value) (us : List Value), us.length = ps.length →
      bindArgs (PySem.W.fnOf x x (defArgs st) (defBody st) (defScope st) .none kV doc pm an cdv ct) ⟨us, []⟩ = pure (ps.zip us))
    (hbk : ∀ (kV doc pm : Value) (an : Option Addr) (cdv ct : Value) (us : List Value), us.length = ps.length →
      bindArgs (PySem.W.fnOf x x (defArgs st) (defBody st) (defScope st) .none kV doc pm an cdv ct) ⟨[], ps.zip us⟩ = pure (ps.zip us))
    (len : ∀ vs H Q E, sp vs H Q E → vs.length = ps.length)
    (hb : ∀ (f : Addr) (cdv : Value) (A : Around) (out : List Env) (s : Shared) (H : Hp) (vs : List V) (Q : VK) (E : XK),
      Rm k (A.deeper (envOfC x (defScope st) s.heap.objs.size f cdv)) → sp vs H Q E →
      ∃ t, PSs (cxOf (L2.CX P w) P w K mg base N x (defScope st) f cdv A out s H E) (defBody st) t ∧
        t { nx := fun _ H' => Q .non H', rt := Q } (start N vs) H) : CalX P w K mg base (k + 1) x sp [] ∧ CalXk P w K mg base (k + 1) x ps sp := by
  obtain ⟨f, oc, od, kV, doc, pm, an, cdv, ct, osl, l, c, kp, m⟩ := D.ex
  have o := ok_body l c S len (fun A out s H vs Q E hr hs => hb f cdv A out s H vs Q E hr hs)
  exact ⟨⟨f, _, ps, [], o, m, kp, .all (hbd kV doc pm an cdv ct), .nil⟩, ⟨f, _, o, m, kp, fun s ws hl => .of_eq (hbk kV doc pm an cdv ct ws hl)⟩⟩
end
section
variable {X : Cx} {k j : Nat} {x : Str} {sp : Sp} {ps : List Str} {p pos : Pos} {kws : List Keyword} {tk : TA} {E : XK}
theorem pe_cXk (c : CalXk X.prog X.w X.K X.mg X.base k x ps sp) (hr : Rm j X.A) (hk : k ≤ j) (hx : Passes (L2.CX X.prog X.w) X E) (hg : Gl X x) (hkw : PK X kws tk)
    (hks : (backToKw pos (keywordEach kws X.env)).filterMap (·.1) = ps := by rfl)
    (hall : (backToKw pos (keywordEach kws X.env)).all (·.1.isSome) = true := by rfl)
    (hdb : (x == ("__debug__" : Str)) = false := by decide)
    (hpl : ((backTo pos (starEach [] X.env)).any (·.1) || (backToKw pos (keywordEach kws X.env)).any (·.1.isNone)) = false := by rfl) :
    PE X (.Call (.Name x p) [] kws pos) (tCall sp [] E tk) := by
  obtain ⟨f, fd, ok, hm, kp, b⟩ := c.ex
  constructor
  intro pins s σ H Q I h
  apply wpAny_Call_Name_kw
  apply ld_glob I hg hm _ hdb
  refine PySem.W.callWith_KW0 (h₀ := X.base) (first := []) I.ok.mod.kin kp hall (thn (hkw.run pos pins s σ H _ I h) fun ws s1 ⟨zs, H1, I1, r, q⟩ => ⟨I1.kIn, ?_⟩) hpl
  rw [hks]
  have q : sp (zs ++ []) H1 Q E := q
  rw [List.append_nil] at q
  have hl : ws.length = ps.length := by rw [← r.length]; exact ok.len _ _ _ _ q
  refine wpAny_call (codeAny_mono (ok.go X.A X.stack s1 H1 ⟨[], ps.zip ws⟩ ws zs Q E (hr.mono hk) I1.env0 (b s1 ws hl) r q) ?_)
  intro res s' hq
  match res, hq with
  | .error e, hq => exact hx pins σ H1 s1 e s' I1 hq
  | .ok (.ret u), hq => exact I1.after hq
  | .ok .next, hq => exact False.elim hq
  | .ok .brk, hq => exact False.elim hq
  | .ok .cont, hq => exact False.elim hq
end
end Eu
set_option Elab.async false
set_option linter.all false
set_option maxRecDepth 100000
set_option maxHeartbeats 4000000
set_option pp.maxSteps 3000
/-! Lay18: a def that may raise, called within a try. -/
namespace Eu
open PySem PySem.Spec PyProof.Rows L2
section
variable {X : Cx} {k j : Nat} {x : Str} {sp : Sp} {p pos : Pos} {e : Expr} {es : List Expr} {t : TA} {E : L2.St → XK}
theorem pe_cS (c : CalX X.prog X.w X.K X.mg X.base k x sp []) (hr : Rm j X.A) (hk : k ≤ j) (hx : ∀ σ, PassesAt (L2.CX X.prog X.w) X σ (E σ)) (hg : Gl X x) (ha : PA X (e :: es) t)
    (hdb : (x == ("__debug__" : Str)) = false := by decide)
    (he : starEach (e :: es) X.env = (false, eval e X.env) :: starEach es X.env := by rfl)
    (hpl : (backTo pos (starEach es X.env)).any (·.1) = false := by rfl) :
    PE X (.Call (.Name x p) (e :: es) [] pos) (tCallS sp E t) := by
  obtain ⟨f, fd, ps, ds, ok, hm, kp, b, d⟩ := c.ex
  cases d
  constructor
  intro pins s σ H Q I h
  apply wpAny_Call_Name_kw
  apply ld_glob I hg hm _ hdb
  refine PySem.W.callWith_K (h₀ := X.base) I.ok.mod.kin kp (thn (ha.run pos pins s σ H _ I h) ?_) he hpl
  rintro us s1 ⟨vs, H1, I1, r, q⟩
  refine ⟨I1.kIn, ?_⟩
  have hl : us.length = ps.length := by rw [← r.length]; exact ok.len _ _ _ _ q
  have bt := b s1 us I1.kIn (by rw [List.append_nil]; exact hl)
  rw [List.append_nil] at bt
  refine wpAny_call (codeAny_mono (ok.go X.A X.stack s1 H1 ⟨us, []⟩ us vs Q (E σ) (hr.mono hk) I1.env0 bt r q) ?_)
  intro res s' hq
  match res, hq with
  | .error e, hq => exact hx σ pins H1 s1 e s' I1 hq
  | .ok (.ret u), hq => exact I1.after hq
  | .ok .next, hq => exact False.elim hq
  | .ok .brk, hq => exact False.elim hq
  | .ok .cont, hq => exact False.elim hq
end
theorem noTakes {X : Cx} : Takes X (fun _ _ _ _ => False) := fun _ _ x => by
  obtain ⟨_, _, _, _, _, _, _, _, _, _, _, _, _, _, _, _, z⟩ := x
  exact z.elim
end Eu
namespace Eu
open PySem PySem.Spec
/-- an error's own class names it -/
theorem exm_own {K : PySem.W.Frag} {C : Addr} (base : PySem.W.subIn K (.ref C) (.type "BaseException") = some true) (cls : PySem.W.isClsIn K C = true) (ty : PySem.W.typeIn K (.ref C) = some (.type "type")) (own : PySem.W.subIn K (.ref C) (.ref C) = some true) : PySem.W.exmOne K (.ref C) (.ref C) = some true := by
  have c' : (PySem.W.clsIn K C).isSome = true := cls
  simp [PySem.W.exmOne, PySem.W.kitCls, base, c', ty, own]
end Eu
set_option Elab.async false
set_option linter.all false
set_option maxRecDepth 100000
set_option maxHeartbeats 4000000
set_option pp.maxSteps 3000
/-! Lay19: z[::-1] of a text. -/
namespace Eu
open PySem PySem.Spec PyProof.Rows L2
open Builtin Builtin.Str
def revS (z : Str) : Str := ⟨z.cps.toList.reverse.toArray⟩
theorem all_of (xs : Array Nat) : (List.range xs.size).filterMap (xs[·]?) = xs.toList := by
  have : ∀ (l : List Nat), (List.range l.length).filterMap (l[·]?) = l := by
    intro l
    induction l with
    | nil => rfl
    | cons a r ih =>
      rw [List.length_cons, List.range_succ_eq_map, List.filterMap_cons]
      simp only [List.getElem?_cons_zero, List.filterMap_map]
      congr 1
  have h := this xs.toList
  rw [Array.length_toList] at h
  simpa using h
theorem rev_idx (n : Nat) : strSliceIndices none none (-1) n = (List.range n).reverse := by
  show sliceRange (if (-1 : Int) > 0 then 0 else (n : Int) - 1) (if (-1 : Int) > 0 then (n : Int) else -1) (-1) = _
  rw [if_neg (by decide), if_neg (by decide), PySem.W.krv_sliceRange, PySem.W.krv_range]
theorem rev_made (z : Str) (t : Tok) (u : Tok) : sliceMade z t none none (some (-1, u)) = .str (revS z) := by
  unfold sliceMade
  have e1 : (((some ((-1 : Int), u)).map (·.1)).getD 1 == 1) = false := rfl
  rw [e1]
  show Made.str ⟨((strSliceIndices none none (-1) z.length).filterMap (z.cps[·]?)).toArray⟩ = _
  rw [rev_idx, List.filterMap_reverse]
  have := all_of z.cps
  rw [show z.length = z.cps.size from rfl, this]
  rfl
def tRevS (te : TE) : TE := fun σ H Q => te σ H fun x H1 => ∃ z, x = .str z ∧ z.length ≤ sizeLine ∧ Q (.str (revS z)) H1
theorem pe_revS {X : Cx} {e : Expr} {te : TE} {k : Nat} {p1 p2 p3 pos : Pos} (he : PE X e te) : PE X (.Subscript e (.Slice none none (some (.UnaryOp .USub (.Constant (.int 1) k p1) p2)) p3) pos) (tRevS te) := by
  refine ⟨fun pins s σ H Q I h => ?_⟩
  refine Subscript_ (thn (he.run pins s σ H _ I h) fun v s1 ⟨x, H1, I1, r1, q1⟩ => ?_)
  obtain ⟨z, ex, hz, q⟩ := q1
  subst ex
  obtain ⟨t, rfl⟩ := r1
  have hst : PO X (some (.UnaryOp .USub (.Constant (.int 1) k p1) p2)) (tPart (tUn (rU fun i => .int (-i)) (tC (.int 1)))) := po_some (pe_un un_neg pe_int)
  refine wpAny_Slice (thn (po_none.run pins s1 σ H1 (fun o H2 => o = none ∧ H2 = H1) I1 ⟨rfl, rfl⟩) fun vl s2 ⟨l, H2, I2, pl, el, e2⟩ => ?_)
  subst el e2
  refine thn (po_none.run pins s2 σ H2 (fun o H3 => o = none ∧ H3 = H2) I2 ⟨rfl, rfl⟩) fun vu s3 ⟨u, H3, I3, pu, eu, e3⟩ => ?_
  subst eu e3
  refine thn (hst.run pins s3 σ H3 (fun o H4 => o = some (-1) ∧ H4 = H3) I3 ⟨1, rfl, -1, rfl, rfl, rfl⟩) fun vs s4 ⟨o, H4, I4, ps, eo, e4⟩ => ?_
  subst eo e4
  have I5 : Inv X pins σ H4 { s4 with heap := s4.heap.push { cls := .type "slice", data := .fields #[vl, vu, vs] } } := I4.kept (t' := s4.toks) fun b ob q => Heap.get?_push_of_some _ q
  have hs5 := Heap.IsSliceOf.new s4.heap vl vu vs
  show wpAny (model X.prog X.w) X.A (subscriptTail e (.Slice none none (some (.UnaryOp .USub (.Constant (.int 1) k p1) p2)) p3) (.str z t) (.ref s4.heap.objs.size)) (EP X pins σ Q) X.xe { s4 with heap := s4.heap.push { cls := .type "slice", data := .fields #[vl, vu, vs] } }
  obtain ⟨l', rfl, el'⟩ := IsPart.raw pl
  obtain ⟨u', rfl, eu'⟩ := IsPart.raw pu
  obtain ⟨st', rfl, es'⟩ := IsPart.raw ps
  have e1 : l' = none := by cases l' with | none => rfl | some a => cases el'
  have e2 : u' = none := by cases u' with | none => rfl | some a => cases eu'
  subst e1 e2
  obtain ⟨tk, e3⟩ : ∃ tk, st' = some (-1, tk) := by
    cases st' with
    | none => cases es'
    | some a =>
      obtain ⟨a1, a2⟩ := a
      have : a1 = -1 := by simpa using es'
      exact ⟨a2, by rw [this]⟩
  subst e3
  refine tail_any (ops := [.ref s4.heap.objs.size, .str z t]) (typeIs_str _ _ _) F.slot_str_getitem.lookup ?_ (by with_unfolding_all rfl)
  obtain ⟨os, hos, hcs, hds⟩ := hs5
  refine wpAny_getItem_str_slice (l := none) (u := none) (st := some (-1, tk)) ⟨os, hos, hcs, hds⟩ rfl ?_
  rw [rev_made]
  refine ⟨?_, .str _, H4, I5.tok _, ⟨_, rfl⟩, q⟩
  show (z.cps.toList.reverse.toArray).size ≤ sizeLine
  rw [List.size_toArray, List.length_reverse]
  exact Nat.le_trans (Nat.le_of_eq (by simp [Str.length])) hz
end Eu
set_option Elab.async false
set_option linter.all false
set_option maxRecDepth 100000
set_option maxHeartbeats 4000000
set_option pp.maxSteps 3000
/-! Lay20: in an except suite: repr, a field of the error, isinstance. -/
namespace Eu
open PySem PySem.Spec PyProof.Rows L2
theorem Rm.u200 {k : Nat} {A : Around} (r : Rm k A) : A.units + 200 < cLine := by have := r.rm.un; omega
/-- repr of data, wherever no repr is under way -/
theorem call_reprG {X : Cx} (hu : X.A.units + 200 < cLine) (hg : X.A.guards = some []) : CallR X (.builtin "repr") (rRepr X.K) := by
  intro pins s σ H xs us Q I r h
  obtain ⟨x, d, rfl, hd, hs, hdp, hz, q⟩ := h
  obtain ⟨u, rfl, rx⟩ := vals1 r
  cases hd with
  | non =>
    cases rx
    exact PySem.P.repr_of_none ⟨.str _, H, I.tok _, ⟨_, rfl⟩, q⟩
  | bl b =>
    cases rx
    exact PySem.P.repr_of_bool ⟨.str _, H, I.tok _, ⟨_, rfl⟩, q⟩
  | int i =>
    obtain ⟨t, rfl⟩ := rx
    exact PySem.P.repr_of_int (of_decide_eq_true hs) ⟨.str _, H, I.tok _, ⟨_, rfl⟩, q⟩
  | str y =>
    obtain ⟨t, rfl⟩ := rx
    exact PySem.P.repr_of_str ⟨.str _, H, I.tok _, ⟨_, rfl⟩, q⟩ hz
  | @lst a ys ds h1 h2 =>
    cases (show u = Value.ref a from rx)
    obtain ⟨as, rd⟩ := Dp.reads I _ _ _ (Dp.lst h1 h2) (show RelV (.ref a) (.ref a) from rfl)
    refine repr_of_reads' rd hs (PyData.noDict_hsm (noDict (Dp.lst h1 h2))) hg (by omega) (fun _ _ z => z) ?_ hz
    intro h' u tk hk
    exact ⟨.str _, H, I.kept hk, ⟨_, rfl⟩, q⟩
  | @tup a ys ds h1 h2 =>
    cases (show u = Value.ref a from rx)
    obtain ⟨as, rd⟩ := Dp.reads I _ _ _ (Dp.tup h1 h2) (show RelV (.ref a) (.ref a) from rfl)
    refine repr_of_reads' rd hs (PyData.noDict_hsm (noDict (Dp.tup h1 h2))) hg (by omega) (fun _ _ z => z) ?_ hz
    intro h' u tk hk
    exact ⟨.str _, H, I.kept hk, ⟨_, rfl⟩, q⟩
theorem call_reprS {X : Cx} {j : Nat} {a : Addr} {pn : List (Addr × Obj)} (hr : Rm j X.A) : CallR (X.suite a pn) (.builtin "repr") (rRepr X.K) :=
  call_reprG (X := X.suite a pn) hr.u200 hr.gd
/-- what an error's class says where its instances are asked -/
structure XsC (K : PySem.W.Frag) (C : Addr) : Prop where
  xf : XfC K C
  ha : PySem.W.findIn K (.ref C) "__class__" = some (some (.builtin "object.__class__"))
  hn : PySem.W.specialIn K (.builtin "object.__class__") "__get__" = some (some (.builtin "getset_descriptor.__get__"))
  ht : PySem.W.takesIn K (.builtin "object.__class__") = some true
  hm : PySem.W.mroIn K C (.type "object") = some true
  cl : PySem.W.isClsIn K C = true
def rIsX (K : PySem.W.Frag) (a : Addr) (cls : Value) (d : Option Addr) (D : Addr) : List V → Hp → VK → Prop := fun xs H Q => cls = .ref D ∧ (d = none ∨ ∃ dd fs, d = some dd ∧ H dd = some (.xd fs)) ∧
  ∃ (c : V) (cv : Value) (b : Bool), xs = [.ref a, c] ∧ (∀ u, RelV c u → u = cv) ∧ PySem.W.kitOne K (.ref D) cv = some b ∧ Q (.bl b) H
theorem call_isX {X : Cx} {a D : Addr} {oe : Obj} {cls : Value} {d : Option Addr} {pn : List (Addr × Obj)} (C : XsC X.K D) (hz : Zc cls d oe) (hf : ∃ vs, oe.data = .fields vs) : CallR (X.suite a ((a, oe) :: pn)) (.builtin "isinstance") (rIsX X.K a cls d D) := by
  intro pins s σ H xs us Q I r h
  obtain ⟨rfl, hd, c, cv, b, rfl, hcv, e, q⟩ := h
  cases r with
  | cons rx rr =>
    cases rr with
    | cons rt rr =>
      cases rr
      cases rx
      have ec := hcv _ rt
      subst ec
      obtain ⟨hget, _⟩ := I.pin (a, oe) (List.mem_append.mpr (.inl List.mem_cons_self))
      obtain ⟨vs, hv⟩ := hf
      obtain ⟨od, J⟩ : ∃ od, PySem.W.InstAt s.heap a oe D od := by
        rcases hd with rfl | ⟨dd, fs, rfl, hdd⟩
        · refine ⟨none, ?_⟩
          obtain ⟨oc, od, oda, osl⟩ := oe
          obtain ⟨h1, h2⟩ := hz
          dsimp only at h1 h2 hv
          subst h1 h2 hv
          exact ⟨hget, rfl, rfl, trivial⟩
        · have hx : ObjOk X.prog X.w H s.heap dd (.xd fs) := I.hok dd _ hdd
          obtain ⟨mA, hns, hr⟩ := hx
          obtain ⟨od, ho, hl⟩ := lookIn_ns hns
          exact ⟨some od, ⟨hget, hz.1, by unfold PySem.W.notCls; rw [hv] <;> rfl, by rw [hz.2]; exact ho⟩⟩
      exact PySem.W.kia_one (PySem.W.kitx_exc C.cl C.xf.ga C.xf.gg C.xf.exC C.ha C.hn C.ht C.hm) I.kIn J e (fun z => nomatch z) fun tk => ⟨.bl b, H, I.kept (t' := tk) fun _ _ z => z, rfl, q⟩
end Eu
set_option Elab.async false
set_option linter.all false
set_option maxRecDepth 100000
set_option maxHeartbeats 4000000
set_option pp.maxSteps 3000
/-! Lay21: in an except suite: isinstance of the error and a tuple of classes. -/
namespace Eu
open PySem PySem.Spec PyProof.Rows L2
theorem inst_xs {X : Cx} {pins : List (Addr × Obj)} {s : Shared} {H : Hp} {a D : Addr} {oe : Obj} {d : Option Addr} (hget : s.heap.get? a = some oe) (hok : ∀ p o, H p = some o → ObjOk X.prog X.w H s.heap p o) (hz : Zc (.ref D) d oe) (hf : ∃ vs, oe.data = .fields vs) (hd : d = none ∨ ∃ dd fs, d = some dd ∧ H dd = some (.xd fs)) : ∃ od, PySem.W.InstAt s.heap a oe D od := by
  obtain ⟨vs, hv⟩ := hf
  rcases hd with rfl | ⟨dd, fs, rfl, hdd⟩
  · refine ⟨none, ?_⟩
    obtain ⟨oc, od, oda, osl⟩ := oe
    obtain ⟨h1, h2⟩ := hz
    dsimp only at h1 h2 hv
    subst h1 h2 hv
    exact ⟨hget, rfl, rfl, trivial⟩
  · have hx : ObjOk X.prog X.w H s.heap dd (.xd fs) := hok dd _ hdd
    obtain ⟨mA, hns, hr⟩ := hx
    obtain ⟨od, ho, hl⟩ := lookIn_ns hns
    exact ⟨some od, ⟨hget, hz.1, by unfold PySem.W.notCls; rw [hv] <;> rfl, by rw [hz.2]; exact ho⟩⟩
def rIsXT (K : PySem.W.Frag) (a : Addr) (cls : Value) (d : Option Addr) (D : Addr) : List V → Hp → VK → Prop := fun xs H Q => cls = .ref D ∧ (d = none ∨ ∃ dd fs, d = some dd ∧ H dd = some (.xd fs)) ∧
  ∃ (tp : Addr) (cs : List V) (ws : List Value) (b : Bool), xs = [.ref a, .ref tp] ∧ H tp = some (.tup cs) ∧ Paired ClsV cs ws ∧ PySem.W.kitAny K (.ref D) ws = some b ∧ Q (.bl b) H
theorem call_isXT {X : Cx} {a D : Addr} {oe : Obj} {cls : Value} {d : Option Addr} {pn : List (Addr × Obj)} (C : XsC X.K D) (hz : Zc cls d oe) (hf : ∃ vs, oe.data = .fields vs) : CallR (X.suite a ((a, oe) :: pn)) (.builtin "isinstance") (rIsXT X.K a cls d D) := by
  intro pins s σ H xs us Q I r h
  obtain ⟨rfl, hd, tp, cs, ws, b, rfl, hT, k, e, q⟩ := h
  obtain ⟨u1, u2, rfl, r1, r2⟩ := vals2 r
  cases r1
  cases (show u2 = Value.ref tp from r2)
  obtain ⟨hget, _⟩ := I.pin (a, oe) (List.mem_append.mpr (.inl List.mem_cons_self))
  obtain ⟨od, J⟩ := inst_xs (X := X.suite a ((a, oe) :: pn)) (pins := pins) hget I.hok hz hf hd
  obtain ⟨_, its, rv, o, h1, h2, n, h3⟩ := (show ObjOk X.prog X.w H s.heap tp (.tup cs) from I.hok tp _ hT)
  have e3 := ClsV.all k rv
  subst e3
  obtain ⟨oc, od', dt, sl⟩ := o
  simp only at h2 h3
  subst h2 h3
  exact PySem.W.kia_tup (PySem.W.kitx_exc C.cl C.xf.ga C.xf.gg C.xf.exC C.ha C.hn C.ht C.hm) I.kIn J h1 e (fun z => nomatch z) fun tk => ⟨.bl b, H, I.kept (t' := tk) fun _ _ z => z, rfl, q⟩
/-- another own class, of which the error is none -/
theorem kit_no {K : PySem.W.Frag} {D C : Addr} (hj : PySem.W.isClsIn K C = true) (hy : PySem.W.typeIn K (.ref C) = some (.type "type")) (hs : PySem.W.subIn K (.ref D) (.ref D) = some true) (hn : PySem.W.subIn K (.ref D) (.ref C) = some false) : PySem.W.kitOne K (.ref D) (.ref C) = some false := by
  have ne : (Value.ref D == Value.ref C) = false := by
    refine Bool.eq_false_iff.mpr fun q => ?_
    have e : D = C := Value.ref.inj (beq_iff_eq.mp q)
    subst e
    rw [hs] at hn
    cases hn
  unfold PySem.W.kitOne
  rw [ne]
  show (if ((PySem.W.clsIn K C).isSome && PySem.W.typeIn K (.ref C) == some (.type "type")) = true then PySem.W.subIn K (.ref D) (.ref C) else none) = some false
  rw [if_pos, hn]
  rw [hy, Bool.and_eq_true]
  exact ⟨hj, by decide +kernel⟩
theorem kit_over {K : PySem.W.Frag} {D : Addr} {n : String} (hs : PySem.W.subIn K (.ref D) (.type n) = some true) (hm : PySem.W.kitMeta n = true) : PySem.W.kitOne K (.ref D) (.type n) = some true := by
  have ne : (Value.ref D == Value.type n) = false := Bool.eq_false_iff.mpr fun q => nomatch beq_iff_eq.mp q
  unfold PySem.W.kitOne
  rw [ne]
  show (if PySem.W.kitMeta n = true then PySem.W.subIn K (.ref D) (.type n) else none) = some true
  rw [if_pos hm, hs]
theorem kit_none2 {K : PySem.W.Frag} {D A B : Addr} (h1 : PySem.W.kitOne K (.ref D) (.ref A) = some false) (h2 : PySem.W.kitOne K (.ref D) (.ref B) = some false) : PySem.W.kitAny K (.ref D) [.ref A, .ref B] = some false := by
  unfold PySem.W.kitAny
  rw [h1]
  unfold PySem.W.kitAny
  rw [h2]
  rfl
end Eu
set_option Elab.async false
set_option linter.all false
set_option maxRecDepth 100000
set_option maxHeartbeats 4000000
set_option pp.maxSteps 3000
/-! The grammar, as the program reads it. -/
namespace Gr
open PySem PySem.Spec
open Eu (letter nameS)
def ops : List Str := ["|", "^", "&", "-", "@"]
def opC : List Nat := [124, 94, 38, 45, 64]
def signC : List Nat := [40, 41, 61, 44]
abbrev one (c : Nat) : Str := ⟨#[c]⟩
/-! ### tokens -/
/-- one sign: the tokens so far, the word so far -/
def tokStep (prev : Option Nat) (c : Nat) (f : List Str) (w : Str) : Option (List Str × Str) :=
  if letter c then some (f, w ++ one c)
  else
    let f' := if w = "" then f else f ++ [w]
    if c = 61 ∧ (∃ p, prev = some p ∧ p ∈ opC) then some (f'.dropLast ++ [f'.getLastD "" ++ one c], "")
    else if c ∈ signC ∨ c ∈ opC then some (f' ++ [one c], "")
    else if c = 32 then some (f', "")
    else none
def toksF : Option Nat → List Nat → List Str → Str → Option (List Str)
  | _, [], f, w => some (if w = "" then f else f ++ [w])
  | p, c :: r, f, w => match tokStep p c f w with
    | none => none
    | some (f', w') => toksF (some c) r f' w'
def tokens (z : Str) : Option (List Str) := toksF none z.cps.toList [] ""
/-! ### expressions -/
/-- none: more calls within one another than are allowed here; some none: a bad row -/
abbrev Res := Option (Option (PyData × List Str))
def loopF (f : List Str → Res) (op : Str) : Nat → PyData → List Str → Res
  | 0, _, _ => none
  | m + 1, e, ts => if ts.headD "" = op then (match f ts.tail with
      | some (some (e2, r)) => loopF f op m (.tuple [.str op, e, e2]) r
      | x => x)
    else some (some (e, ts))
def closeF (e : PyData) (ts : List Str) : Res := if ts.headD "" = ")" then some (some (e, ts.tail)) else some none
/-- behind an open parenthesis: of what it is, and how it ends -/
def bodyF (f : List Str → Res) (d : Nat) (wd : Str) (ts : List Str) : Res := if 8 < d + 1 then some none else match f ts with
  | some (some (e, r)) => if wd = "look" then (if r.headD "" = "," then (match f r.tail with
      | some (some (e2, r2)) => closeF (.tuple [.str "look", e, e2]) r2
      | x => x) else some none) else if wd = "keys" then closeF (.tuple [.str "keys", e]) r else closeF e r
  | x => x
def opAt (l : Nat) : Str := ops.getD l ""
mutual
def opF : Nat → Nat → Nat → List Str → Res
  | 0, _, _, _ => none
  | n + 1, l, d, ts => if l = 5 then partF n d ts else match opF n (l + 1) d ts with
    | some (some (e, r)) => loopF (fun q => opF n (l + 1) d q) (opAt l) (r.length + 1) e r
    | x => x
def partF : Nat → Nat → List Str → Res
  | 0, _, _ => none
  | n + 1, d, ts =>
    if nameS (ts.headD "") then some (some (.str (ts.headD ""), ts.tail))
    else if ts.headD "" = "(" then bodyF (fun q => opF n 0 (d + 1) q) d (ts.headD "") ts.tail
    else if ts.headD "" = "keys" ∨ ts.headD "" = "look" then (if ts.tail.headD "" = "(" then bodyF (fun q => opF n 0 (d + 1) q) d (ts.headD "") ts.tail.tail else some none)
    else some none
end
def wholeF (n : Nat) (ts : List Str) : Res := match opF n 0 0 ts with
  | some (some (e, r)) => if r.headD "" = "" then some (some (e, [])) else some none
  | x => x
end Gr
namespace Eu
open PySem PySem.Spec PyProof.Rows L2
open Gr
/-! ### tests that are known -/
theorem iteNE {c A B : Prop} [Decidable c] (hc : ¬ c) (h : A) : if (!decide c) = true then A else B := by
  rw [decide_eq_false hc]
  exact iteT h
theorem iteD {c A B : Prop} [Decidable c] (hc : c) (h : A) : if decide c = true then A else B := by
  rw [decide_eq_true hc]
  exact iteT h
theorem iteDF {c A B : Prop} [Decidable c] (hc : ¬ c) (h : B) : if decide c = true then A else B := by
  rw [decide_eq_false hc]
  exact iteF h
theorem same_putG {H H1 : Hp} {a : Addr} {o : HO} (s : Same H H1) (n : H a = none) : Same H (upd H1 a o) := fun c u e => by
  rw [upd_ne (ne_of_none e n)]
  exact s _ _ e
/-- a test that changes nothing, answered once -/
theorem ans_if {c : TT} {a b : TS} {D : Ends} {σ : L2.St} {H : Hp} {r : Bool} (h : ∀ K : Bool → Hp → Prop, K r H → c σ H K) (h2 : if r = true then a D σ H else b D σ H) : tIfS c a b D σ H := h _ h2
/-! ### rules -/
section
variable {X : Cx}
theorem ip_addS : PIp X .Add (fun x y H Q => ∃ i j, x = .str i ∧ y = .str j ∧ i.length + j.length ≤ sizeLine ∧ Q (.str (i ++ j)) H) := iop_add_str
/-- xs[-1], read ahead of a store -/
theorem pget_list : PGet X (fun o i H Q => ∃ p xs y, o = .ref p ∧ i = .int (-1) ∧ H p = some (.lst (xs ++ [y])) ∧ Q y H) := by
  intro pins s σ H o i ov iv Q I ro ri h
  obtain ⟨p, xs, y, rfl, rfl, hp, q⟩ := h
  cases ro
  obtain ⟨t, rfl⟩ := ri
  obtain ⟨its, rv, pl, hz⟩ := I.list (a := p) (xs := xs ++ [y]) (.inl (.inl hp))
  have hl := rv.length
  rw [List.length_append, List.length_singleton] at hl
  obtain ⟨u, hu, ru⟩ := rv.get (show (xs ++ [y])[xs.length]? = some y by simp)
  refine wpAny_getItem_list_neg pl.isList (by decide) ?_ (by decide) (x := u) ?_ ⟨y, H, I, ru, q⟩
  · rw [List.size_toArray]; omega
  · rw [List.size_toArray]
    have e : ((-1 : Int) + (its.length : Nat)).toNat = xs.length := by omega
    rw [e]
    simpa using hu
end
/-! ### data under a change elsewhere -/
theorem sqL_but {K : PySem.W.Frag} {H H' : Hp} {a b C dx : Addr} {fs : List (Str × V)} {xs : List V} (s : But b H H') (hb : H b = some (.ins C dx fs)) (h : SqL K H a xs) : SqL K H' a xs := by
  rcases h with (h | ⟨ob, h⟩) | h
  · exact .inl (.inl (s.at (fun z => by rw [z, hb] at h; cases h) h))
  · exact .inl (.inr ⟨ob, s.at (fun z => by rw [z, hb] at h; cases h) h⟩)
  · exact .inr h
theorem sqT_but {K : PySem.W.Frag} {H H' : Hp} {a b C dx : Addr} {fs : List (Str × V)} {xs : List V} (s : But b H H') (hb : H b = some (.ins C dx fs)) (h : SqT K H a xs) : SqT K H' a xs := by
  rcases h with (h | ⟨ob, h⟩) | h
  · exact .inl (.inl (s.at (fun z => by rw [z, hb] at h; cases h) h))
  · exact .inl (.inr ⟨ob, s.at (fun z => by rw [z, hb] at h; cases h) h⟩)
  · exact .inr h
mutual
theorem Dp.but {K : PySem.W.Frag} {H H' : Hp} {b C dx : Addr} {fs : List (Str × V)} (s : But b H H') (hb : H b = some (.ins C dx fs)) : ∀ {d : PyData} {v : V}, Dp K H v d → Dp K H' v d
  | .none, _, .non => .non
  | .bool _, _, .bl b => .bl b
  | .int _, _, .int i => .int i
  | .str _, _, .str x => .str x
  | .list ds, _, .lst h1 h2 => .lst (sqL_but s hb h1) (DpAll.but s hb h2)
  | .tuple ds, _, .tup h1 h2 => .tup (sqT_but s hb h1) (DpAll.but s hb h2)
theorem DpAll.but {K : PySem.W.Frag} {H H' : Hp} {b C dx : Addr} {fs : List (Str × V)} (s : But b H H') (hb : H b = some (.ins C dx fs)) : ∀ {ds : List PyData} {vs : List V}, DpAll K H vs ds → DpAll K H' vs ds
  | [], _, .nil => .nil
  | d :: ds, _, .cons h1 h2 => .cons (Dp.but s hb h1) (DpAll.but s hb h2)
end
end Eu
set_option Elab.async false
set_option linter.all false
set_option maxRecDepth 100000
set_option maxHeartbeats 4000000
namespace Eu
open PySem PySem.Spec PyProof.Rows L2
open C8 (pe_gc pss_cut)
def top (i : Nat) : Stmt := PySem.Challenge.pw_equalunlike_k11_texts_that_are_no_expres.main.body.getD i (.Pass ⟨0, 0, 0, 0⟩)
/-- the module's constants -/
structure Gn (K : PySem.W.Frag) (mg : Str → Option Value) (kw : Addr) : Prop where
  g_LONGEST_NAME : ∃ u, mg "LONGEST_NAME" = some u ∧ RelV (.int 4) u
  g_KEPT_WORDS : ∃ u, mg "KEPT_WORDS" = some u ∧ RelV (.ref kw) u
  kw : ∀ H, SqT K H kw (kept.map V.str)
abbrev s_is_letters : Stmt := top 3
theorem sc_is_letters : FnScope ["text", "sign"] ["text"] (defScope s_is_letters) :=
  ⟨rfl, rfl, rfl, by decide +kernel, rfl, by decide +kernel, by decide +kernel⟩
abbrev s_is_name : Stmt := top 4
theorem sc_is_name : FnScope ["thing"] ["thing"] (defScope s_is_name) :=
  ⟨rfl, rfl, rfl, by decide +kernel, rfl, by decide +kernel, by decide +kernel⟩
section
variable {P : Program} {w : World} {K : PySem.W.Frag} {mg : Str → Option Value} {base : Heap} {kw : Addr}
theorem ok_is_letters (B : Bl mg) (D : Df K mg "is_letters" s_is_letters) : Cal P w K mg base 1 "is_letters" spLetters [] := by
  refine D.cal sc_is_letters (fun _ _ _ _ _ _ us hl => match us, hl with | [_], _ => rfl) (fun vs H Q E h => ?_) (fun f cdv A out s H vs Q E hr h => ?_)
  · obtain ⟨z, rfl, _⟩ := h
    rfl
  · obtain ⟨z, rfl, hz, q⟩ := h
    refine ⟨_, (pss_one (ps_ret (pe_callB (cr_all rfl) (by rfl) B.all (by decide +kernel) (pa_cons (pe_lc (own := [("sign", 1)]) (by rfl) sc_is_letters.nd (pi_str (pv 0)) (blkOk_by (own := [("sign", 1)]) (N := ["text", "sign"]) (sc := defScope s_is_letters) (by decide +kernel)) (fun _ _ _ _ _ => (pg_name (i := 1) sc_is_letters.nd rfl (Or.inl rfl))) (fun _ _ _ _ _ => pts_nil) (fun _ _ _ _ _ => (pe_chain op_le_str op_le_str pe_str (pv 1) pe_str))) pa_nil)))), ?_⟩
    refine ⟨_, rfl, z, rfl, fun Dn nD => ?_⟩
    refine lc_pure over_str (fun c => some (.bl (letter c))) nD ?_ (fun _ _ => trivial) ?_ ?_
    · have : z.length = z.cps.toList.length := by simp [Str.length]
      rw [← this]
      exact Nat.le_of_lt (Nat.lt_of_le_of_lt hz (by decide))
    · rintro c hc H0 v H' Nx s0 ⟨rfl, rfl⟩ k
      refine ⟨rfl, ?_⟩
      refine lc_yes ?_
      refine ⟨_, rfl, _, _, rfl, rfl, _, rfl, ?_⟩
      have e1 : (!decide ((⟨#[c]⟩ : Str).cps.toList < ("a" : Str).cps.toList)) = decide (97 ≤ c) := by
        show (!decide ([c] < [97])) = _
        rw [sign_lt]
        by_cases h : 97 ≤ c
        · rw [decide_eq_true h, decide_eq_false (by omega)]; rfl
        · rw [decide_eq_false h, decide_eq_true (by omega)]; rfl
      have e2 : (!decide (("z" : Str).cps.toList < (⟨#[c]⟩ : Str).cps.toList)) = decide (c ≤ 122) := by
        show (!decide ([122] < [c])) = _
        rw [sign_lt]
        by_cases h : c ≤ 122
        · rw [decide_eq_true h, decide_eq_false (by omega)]; rfl
        · rw [decide_eq_false h, decide_eq_true (by omega)]; rfl
      have fin : ∀ b : Bool, b = letter c → Nx (some (.bl b)) H' := fun b e => by rw [e]; exact k H' (Same.refl _)
      rw [e1]
      refine ite2 (fun e => ?_) (fun e => ?_)
      · refine ⟨_, _, rfl, rfl, fin _ ?_⟩
        rw [e2]
        unfold letter
        rw [e]; rfl
      · refine fin _ ?_
        unfold letter
        rw [eq_false_of_ne_true e]; rfl
    · intro H1 s1 hD
      refine ⟨Dn, z.cps.toList.map letter, rfl, .inl (.inl ?_), ?_⟩
      · rw [hD, List.map_map]
        congr 2
        exact congrFun (List.filterMap_eq_map (f := V.bl ∘ letter)) _
      · have e : (z.cps.toList.map letter).all id = letters z := by
          unfold letters
          rw [List.all_map]
          rfl
        rw [e]
        exact q H1 s1
theorem ok_is_name (B : Bl mg) (T : Gn K mg kw) (c_is_letters : Cal P w K mg base 1 "is_letters" spLetters []) (D : Df K mg "is_name" s_is_name) : Cal P w K mg base 2 "is_name" (spB K nameD) [] := by
  refine D.cal sc_is_name (fun _ _ _ _ _ _ us hl => match us, hl with | [_], _ => rfl) (fun vs H Q E h => ?_) (fun f cdv A out s H vs Q E hr h => ?_)
  · obtain ⟨x, d, rfl, _⟩ := h
    rfl
  · obtain ⟨x, d, rfl, h, hc, q⟩ := h
    refine ⟨_, (pss_cons (ps_if (PW.pt (pw_or (pt_not (pt_val (pe_callB call_isi (by rfl) B.isinstance (by decide +kernel) (pa_cons (pv 0) (pa_cons (pe_bltn (v := .ty "str") (u := .type "str") (by rfl) B.str (by decide +kernel) rfl) pa_nil))))) (pw_or1 (pt_not (pt_chain op_le op_le pe_int (pe_callB call_len_str (by rfl) B.len (by decide +kernel) (pa_cons (pv 0) pa_nil)) (pe_gc (by rfl) T.g_LONGEST_NAME))))))
(pss_one (ps_ret pe_bl))
pss_nil)
(pss_one (ps_ret (pe_and (pe_c c_is_letters hr (by decide) (by rfl) (pa_cons (pv 0) pa_nil)) (pe_one (pe_cmpR op_notIn_seq (pv 0) (pe_gc (by rfl) T.g_KEPT_WORDS) (by rfl))))))), ?_⟩
    refine ⟨_, rfl, _, _, _, _, _, rfl, .ty _, tyx_th h, kit_ty (kit_str d), _, rfl, ?_⟩
    by_cases hs : isS d = true
    · obtain ⟨z, rfl⟩ : ∃ z, d = .str z := by
        cases d <;> first | exact ⟨_, rfl⟩ | cases hs
      have e := th_str h
      subst e
      have hz : z.length ≤ 100000 := hc.len
      refine iteF ?_
      refine ⟨_, rfl, z, rfl, len_line hz, _, _, rfl, rfl, _, rfl, ?_⟩
      have fin : ∀ (b : Bool) H', Same H H' → b = nameS z → Q (.bl b) H' := fun b H' s' e => by rw [e]; exact q H' s'
      refine ite2 (fun e => ?_) (fun e => ?_)
      · have e1 : 1 ≤ z.length := by
          have : (1 : Int) ≤ (z.length : Int) := of_decide_eq_true e
          omega
        refine ⟨_, _, rfl, rfl, _, rfl, ?_⟩
        by_cases e2 : z.length ≤ 4
        · rw [show decide ((z.length : Int) ≤ 4) = true from decide_eq_true (by omega)]
          refine iteF ?_
          refine ⟨_, rfl, z, rfl, hz, fun H1 s1 => ⟨_, rfl, ?_⟩⟩
          refine ite2 (fun e => ?_) (fun e => ?_)
          · refine ⟨_, rfl, kw, _, rfl, .inr (T.kw H1), rfl, rfl, fin _ _ s1 ?_⟩
            show (!inV (.str z) (kept.map V.str)) = _
            rw [in_kept]
            unfold nameS
            rw [decide_eq_true e1, decide_eq_true e2, e]
            rfl
          · refine fin _ _ s1 ?_
            unfold nameS
            rw [decide_eq_true e1, decide_eq_true e2, eq_false_of_ne_true e]
            rfl
        · rw [show decide ((z.length : Int) ≤ 4) = false from decide_eq_false (by omega)]
          refine iteT (fin _ _ (Same.refl _) ?_)
          unfold nameS
          rw [decide_eq_false e2, Bool.and_false]
          rfl
      · have e1 : ¬ 1 ≤ z.length := by
          have : ¬ (1 : Int) ≤ (z.length : Int) := of_decide_eq_false (eq_false_of_ne_true e)
          omega
        refine ⟨_, rfl, ?_⟩
        refine iteT (fin _ _ (Same.refl _) ?_)
        unfold nameS
        rw [decide_eq_false e1]
        rfl
    · rw [eq_false_of_ne_true hs]
      refine iteT (iteT ?_)
      have : nameD d = false := by cases d <;> first | rfl | exact absurd rfl hs
      rw [← this]
      exact q H (Same.refl _)
end
end Eu
set_option Elab.async false
set_option linter.all false
set_option maxRecDepth 100000
set_option maxHeartbeats 4000000
set_option pp.maxSteps 3000
set_option pp.deepTerms false
namespace Eu
open PySem PySem.Spec PyProof.Rows L2
open C8 (pe_gc pss_cut)
open StX (pa_star)
open Gr
/-- the grammar's constants -/
structure Gg (K : PySem.W.Frag) (mg : Str → Option Value) (ka : Addr) : Prop where
  g_OPERATORS : ∃ u, mg "OPERATORS" = some u ∧ RelV (.ref ka) u
  g_SIGNS : ∃ u, mg "SIGNS" = some u ∧ RelV (.str "()=,") u
  g_LONGEST_ROW : ∃ u, mg "LONGEST_ROW" = some u ∧ RelV (.int 200) u
  g_MOST_OPEN : ∃ u, mg "MOST_OPEN" = some u ∧ RelV (.int 8) u
  g_KEYS : ∃ u, mg "KEYS" = some u ∧ RelV (.str "keys") u
  g_LOOK : ∃ u, mg "LOOK" = some u ∧ RelV (.str "look") u
  g_END : ∃ u, mg "END" = some u ∧ RelV (.str "") u
  ops : ∀ H, SqT K H ka (ops.map V.str)
  opsK : ∃ o, K.lookup ka = some o ∧ o.cls = .type "tuple" ∧ o.dict = none
abbrev s_tokens_of : Stmt := top 17
theorem sc_tokens_of : FnScope ["text", "found", "word", "place", "sign"] ["text"] (defScope s_tokens_of) :=
  ⟨rfl, rfl, rfl, by decide +kernel, rfl, by decide +kernel, by decide +kernel⟩
def spTokens : Sp := fun vs H Q _ => ∃ z : Str, vs = [.str z] ∧ z.length ≤ 100000 ∧ (tokens z = none → ∀ H', Same H H' → Q .non H') ∧
  ∀ ts, tokens z = some ts → ∀ (l : Addr) H', Same H H' → H l = none → H' l = some (.lst (ts.map V.str)) → Q (.ref l) H'
theorem one_eq (c a : Nat) : (V.str (one c) = V.str (one a)) ↔ c = a := ⟨fun h => by have := Str.mk.inj (V.str.inj h); simpa using this, fun h => by rw [h]⟩
theorem one_beq (c a : Nat) : (one a == one c) = decide (c = a) := by
  by_cases h : c = a
  · rw [h]; simp
  · rw [decide_eq_false h, beq_eq_false_iff_ne]
    intro z
    have := Str.mk.inj z
    exact h (by simpa using this.symm)
theorem in_ops (c : Nat) : inV (.str (one c)) (ops.map V.str) = decide (c ∈ opC) := by
  have e : ops = opC.map one := by decide +kernel
  rw [e]
  unfold opC
  simp only [inV, List.map_cons, List.map_nil, List.any_cons, List.any_nil, eqV, List.mem_cons, List.not_mem_nil, or_false, Bool.or_false]
  simp only [one_beq, Bool.decide_or]
theorem in_signs (c : Nat) : decide (c ∈ ("()=," : Str).cps.toList) = decide (c ∈ signC) := by
  have e : ("()=," : Str).cps.toList = signC := by decide +kernel
  rw [e]
theorem letters_one (c : Nat) : letters (one c) = letter c := by
  show ([c].all letter) = letter c
  simp
/-- the sign ahead of place i -/
def prevC (cs : List Nat) (i : Nat) : Option Nat := if i = 0 then none else cs[i - 1]?
theorem prevC_succ {cs : List Nat} {i c : Nat} (h : cs[i]? = some c) : prevC cs (i + 1) = some c := by
  unfold prevC
  rw [if_neg (Nat.succ_ne_zero _)]
  simpa using h
theorem drop_at {cs : List Nat} {i c : Nat} (h : cs[i]? = some c) : cs.drop i = c :: cs.drop (i + 1) := by
  obtain ⟨h1, h2⟩ := List.getElem?_eq_some_iff.mp h
  rw [List.drop_eq_getElem_cons h1, h2]
/-- amid the walk -/
structure Mid (z : Str) (i : Nat) (f : List Str) (w : Str) : Prop where
  toks : toksF (prevC z.cps.toList i) (z.cps.toList.drop i) f w = tokens z
  lw : w.length ≤ i
  lf : f.length + (if w = "" then 0 else 1) ≤ i
  ls : ∀ t ∈ f, t.length ≤ i
  op : ∀ p, prevC z.cps.toList i = some p → p ∈ opC → w = "" ∧ f ≠ []
theorem eqSign : ("=" : Str) = one 61 := by decide +kernel
theorem blank : (" " : Str) = one 32 := by decide +kernel
theorem len_one (c : Nat) : (one c).length = 1 := rfl
section
variable {P : Program} {w : World} {K : PySem.W.Frag} {mg : Str → Option Value} {base : Heap} {kw ka : Addr}
theorem ok_tokens (B : Bl mg) (T : Gg K mg ka) (c_is_letters : Cal P w K mg base 1 "is_letters" spLetters []) (D : Df K mg "tokens_of" s_tokens_of) : Cal P w K mg base 2 "tokens_of" spTokens [] := by
  refine D.cal sc_tokens_of (fun _ _ _ _ _ _ us hl => match us, hl with | [_], _ => rfl) (fun vs H Q E h => ?_) (fun f cdv A out s H vs Q E hr h => ?_)
  · obtain ⟨z, rfl, _⟩ := h
    rfl
  · obtain ⟨z, rfl, hz, q1, q2⟩ := h
    refine ⟨_, (pss_cons (ps_par (i := 1) (j := 2) (by rfl) sc_tokens_of.nd rfl rfl (by decide) rfl rfl (pa_cons (pe_lst pa_nil) (pa_cons pe_str pa_nil)) (by rfl))
(pss_cons (ps_for PassesOwn.never (by rfl) (pi_enumS (by rfl) B.enumerate (pa_cons (pv 0) pa_nil)) (pg_tup (by rfl) (pgs_cons (pg_name (i := 3) sc_tokens_of.nd rfl (Or.inl rfl)) (pgs_cons (pg_name (i := 4) sc_tokens_of.nd rfl (Or.inl rfl)) pgs_nil)))
(pss_cons (ps_if (pt_val (pe_c c_is_letters hr (by decide) (by rfl) (pa_cons (pv 4) pa_nil)))
(pss_cons (ps_aug (i := 2) sc_tokens_of.nd rfl (Or.inl rfl) (pv 4) ip_addS)
(pss_one ps_continue))
pss_nil)
(pss_cut (ps_if (pt_cmpR op_ne (pv 2) pe_str (nomark _))
(pss_cons (ps_expr (pe_bm PySem.F.plainAttrs_list PySem.F.slot_list_append PySem.F.type_list_append mt_append (pv 1) (pa_cons (pv 2) pa_nil)))
(pss_one (ps_set (i := 2) sc_tokens_of.nd rfl (Or.inl rfl) pe_str)))
pss_nil)
(pss_one (ps_if (PW.pt (pw_and (pt_cmpR op_eq (pv 4) pe_str (nomark _)) (pw_and (pt_cmpR op_gt (pv 3) pe_int (nomark _)) (pw_and1 (pt_cmpR op_in_seq (pe_ix ix_str (pv 0) (pe_op op_sub (pv 3) pe_int) (fun _ _ => rfl)) (pe_gc (by rfl) T.g_OPERATORS) (by rfl))))))
(pss_one (ps_augS (pv 1) (pe_un un_neg pe_int) pget_list (pv 4) ip_addS set_list))
(pss_one (ps_if (PW.pt (pw_or (pt_cmpR op_in_sign (pv 4) (pe_gc (by rfl) T.g_SIGNS) (by rfl)) (pw_or1 (pt_cmpR op_in_seq (pv 4) (pe_gc (by rfl) T.g_OPERATORS) (by rfl)))))
(pss_one (ps_expr (pe_bm PySem.F.plainAttrs_list PySem.F.slot_list_append PySem.F.type_list_append mt_append (pv 1) (pa_cons (pv 4) pa_nil))))
(pss_one (ps_if (pt_cmpR op_ne (pv 4) pe_str (nomark _))
(pss_one (ps_ret pe_non))
pss_nil)))))))))
(pss_one (ps_ret (pe_ifExp (pt_cmpR op_eq (pv 2) pe_str (nomark _)) (pv 1) (pe_lst (pa_star (pv 1) (pa_cons (pv 2) pa_nil)))))))), ?_⟩
    refine ⟨by show 0 ≤ sizeLine; decide, fun l nl => ⟨_, _, rfl, _, rfl, z, rfl, ?_⟩⟩
    have lz : z.length = z.cps.toList.length := by simp [Str.length]
    have sl : 100001 ≤ sizeLine := by decide
    refine for_over over_enumS (fun i σ H' => ∃ f w x3 x4, σ = [some (.str z), some (.ref l), some (.str w), x3, x4] ∧ Same H H' ∧ H' l = some (.lst (f.map V.str)) ∧ Mid z i f w) ⟨[], "", none, none, rfl, same_new nl, upd_same, ⟨rfl, Nat.zero_le _, Nat.zero_le _, (fun t ht => by cases ht), (fun p hp => by cases hp)⟩⟩ (fun _ _ _ _ _ => trivial) ?_ ?_
    · rintro i p σ H2 v H3 e ⟨f, w, x3, x4, rfl, s2, hl, md⟩ ⟨Tt, rfl, nT, rfl⟩
      rw [List.getElem?_zipIdx] at e
      obtain ⟨c, hc, rfl⟩ := Option.map_eq_some_iff.mp e
      have hi : i < z.cps.toList.length := (List.getElem?_eq_some_iff.mp hc).1
      have s3 := s2.trans (same_new (o := .tup [.int ((0 + i : Nat) : Int), .str (one c)]) nT)
      have hl3 := same_new (o := .tup [.int ((0 + i : Nat) : Int), .str (one c)]) nT _ _ hl
      refine ⟨_, _, rfl, .inl (.inl upd_same), rfl, _, _, rfl, _, _, rfl, rfl, ?_⟩
      generalize upd H2 Tt (.tup [.int ((0 + i : Nat) : Int), .str (one c)]) = H3 at s3 hl3
      refine ⟨_, rfl, one c, rfl, (by show 1 ≤ 100000; decide), fun H4 s4 => ⟨_, rfl, ?_⟩⟩
      rw [letters_one]
      have s04 := s3.trans s4
      have hl4 := s4 _ _ hl3
      have tk := md.toks
      rw [drop_at hc] at tk
      have tk' : (match tokStep (prevC z.cps.toList i) c f w with
        | none => none
        | some (f', w') => toksF (some c) (z.cps.toList.drop (i + 1)) f' w') = tokens z := tk
      rw [← prevC_succ hc] at tk'
      refine ite2 (fun hlt => ?_) (fun hlt => ?_)
      · refine ⟨_, rfl, _, rfl, w, one c, rfl, rfl, Nat.le_trans (show w.length + 1 ≤ 100001 by have := md.lw; omega) sl, ?_⟩
        have et : tokStep (prevC z.cps.toList i) c f w = some (f, w ++ one c) := by unfold tokStep; rw [if_pos hlt]
        rw [et] at tk'
        refine ⟨f, w ++ one c, _, _, rfl, s04, hl4, ⟨tk', ?_, ?_, fun t ht => by have := md.ls t ht; omega, fun p hp hop => ?_⟩⟩
        · rw [strLen_append, len_one]; have := md.lw; omega
        · have := md.lf
          split <;> omega
        · rw [prevC_succ hc] at hp
          cases hp
          exfalso
          have hlt' : letter c = true := hlt
          unfold letter at hlt'
          simp only [Bool.and_eq_true, decide_eq_true_eq] at hlt'
          unfold opC at hop
          simp only [List.mem_cons, List.not_mem_nil, or_false] at hop
          omega
      · have hlt' : letter c = false := eq_false_of_ne_true hlt
        have et : tokStep (prevC z.cps.toList i) c f w = (if c = 61 ∧ (∃ p, prevC z.cps.toList i = some p ∧ p ∈ opC) then some ((if w = "" then f else f ++ [w]).dropLast ++ [(if w = "" then f else f ++ [w]).getLastD "" ++ one c], ("" : Str))
            else if c ∈ signC ∨ c ∈ opC then some ((if w = "" then f else f ++ [w]) ++ [one c], ("" : Str)) else if c = 32 then some ((if w = "" then f else f ++ [w]), ("" : Str)) else none) := by
          unfold tokStep
          rw [hlt']
          rfl
        rw [et] at tk'
        generalize hg : (if w = "" then f else f ++ [w]) = g at tk'
        have hgl : g.length ≤ i ∧ (∀ t ∈ g, t.length ≤ i) := by
          rw [← hg]
          have h1 := md.lf
          have h2 := md.lw
          by_cases hw : w = ""
          · rw [if_pos hw] at h1 ⊢
            exact ⟨by omega, fun t ht => by have := md.ls t ht; omega⟩
          · rw [if_neg hw] at h1 ⊢
            refine ⟨by rw [List.length_append, List.length_singleton]; omega, fun t ht => ?_⟩
            rcases List.mem_append.mp ht with ht | ht
            · have := md.ls t ht; omega
            · rw [List.mem_singleton.mp ht]; omega
        refine ⟨fun σ H' => σ = [some (.str z), some (.ref l), some (.str ""), some (.int ((0 + i : Nat) : Int)), some (.str (one c))] ∧ Same H H' ∧ H' l = some (.lst (g.map V.str)), ?_, ?_⟩
        · refine ⟨_, rfl, rfl, _, rfl, ?_⟩
          by_cases hw : w = ""
          · subst hw
            refine iteF ?_
            rw [if_pos rfl] at hg
            exact ⟨rfl, s04, by rw [← hg]; exact hl4⟩
          · rw [if_neg hw] at hg
            refine iteNE (fun e => hw (V.str.inj e)) ?_
            have h1 := md.lf
            refine ⟨_, rfl, .inl ⟨rfl, _, .inl (.inl hl4)⟩, _, rfl, l, _, _, rfl, rfl, hl4, by rw [List.length_map]; exact Nat.lt_of_lt_of_le (show f.length < 100001 by omega) sl, ?_⟩
            refine ⟨rfl, same_putG s04 nl, ?_⟩
            rw [upd_same, ← hg, List.map_append]
            rfl
        · rintro σ H5 ⟨rfl, s05, hl5⟩
          have nx : ∀ (g' : List Str) (H6 : Hp), Same H H6 → H6 l = some (.lst (g'.map V.str)) → toksF (prevC z.cps.toList (i + 1)) (z.cps.toList.drop (i + 1)) g' "" = tokens z → g'.length ≤ i + 1 → (∀ t ∈ g', t.length ≤ i + 1) → (c ∈ opC → g' ≠ []) →
              ∃ f w x3 x4, [some (.str z), some (.ref l), some (.str ""), some (.int ((0 + i : Nat) : Int)), some (.str (one c))] = [some (.str z), some (.ref l), some (V.str w), x3, x4] ∧ Same H H6 ∧ H6 l = some (.lst (f.map V.str)) ∧ Mid z (i + 1) f w := by
            intro g' H6 s6 h6 t6 n1 n2 n3
            refine ⟨g', "", _, _, rfl, s6, h6, ⟨t6, Nat.zero_le _, n1, n2, fun p hp hop => ?_⟩⟩
            rw [prevC_succ hc] at hp
            cases hp
            exact ⟨rfl, n3 hop⟩
          have hsl : g.length < sizeLine := Nat.lt_of_lt_of_le (show g.length < 100001 by omega) sl
          have hpv : ∀ (K : Bool → Hp → Prop), c = 61 → K (decide (c = 61 ∧ (∃ p, prevC z.cps.toList i = some p ∧ p ∈ opC))) H5 → (0 < i → K (decide (∃ p, prevC z.cps.toList i = some p ∧ p ∈ opC)) H5) ∧ (i = 0 → K false H5) := by
            intro K h61 hK
            have e1 : (c = 61 ∧ (∃ p, prevC z.cps.toList i = some p ∧ p ∈ opC)) ↔ (∃ p, prevC z.cps.toList i = some p ∧ p ∈ opC) := ⟨fun h => h.2, fun h => ⟨h61, h⟩⟩
            rw [decide_eq_decide.mpr e1] at hK
            refine ⟨fun _ => hK, fun h0 => ?_⟩
            have : ¬ ∃ p, prevC z.cps.toList i = some p ∧ p ∈ opC := by
              rintro ⟨p, hp, _⟩
              unfold prevC at hp
              rw [if_pos h0] at hp
              cases hp
            rw [decide_eq_false this] at hK
            exact hK
          refine ans_if (r := decide (c = 61 ∧ (∃ p, prevC z.cps.toList i = some p ∧ p ∈ opC))) (fun K hK => ?_) ?_
          · by_cases h61 : c = 61
            · obtain ⟨k1, k2⟩ := hpv K h61 hK
              refine ⟨_, rfl, rfl, _, rfl, iteD (by rw [eqSign]; exact (one_eq c 61).mpr h61) ?_⟩
              refine ⟨_, rfl, _, _, rfl, rfl, _, rfl, ?_⟩
              by_cases h0 : 0 < i
              · refine iteD (show ((0 + i : Nat) : Int) > 0 by omega) ?_
                have hi1 : i - 1 < z.cps.toList.length := by omega
                have hp : prevC z.cps.toList i = some z.cps.toList[i - 1] := by
                  unfold prevC
                  rw [if_neg (by omega), List.getElem?_eq_getElem hi1]
                have hat : atI z.cps.toList (((0 + i : Nat) : Int) - 1) = some z.cps.toList[i - 1] := by
                  rw [show ((0 + i : Nat) : Int) - 1 = ((i - 1 : Nat) : Int) by omega]
                  exact atI_nat (List.getElem?_eq_getElem hi1)
                refine ⟨_, rfl, _, rfl, ((0 + i : Nat) : Int), 1, rfl, rfl, z, ((0 + i : Nat) : Int) - 1, z.cps.toList[i - 1], rfl, rfl, Nat.le_trans hz (by decide), hat, ka, _, rfl, .inr (T.ops _), rfl, rfl, _, rfl, ?_⟩
                have e2 : inV (.str (one z.cps.toList[i - 1])) (ops.map V.str) = decide (∃ p, prevC z.cps.toList i = some p ∧ p ∈ opC) := by
                  rw [in_ops, hp]
                  exact decide_eq_decide.mpr ⟨fun h => ⟨_, rfl, h⟩, fun ⟨p, h1, h2⟩ => by cases h1; exact h2⟩
                have := k1 h0
                rw [← e2] at this
                exact this
              · refine iteDF (show ¬ ((0 + i : Nat) : Int) > 0 by omega) ?_
                exact k2 (by omega)
            · refine ⟨_, rfl, rfl, _, rfl, iteDF (by rw [eqSign]; exact fun z => h61 ((one_eq c 61).mp z)) ?_⟩
              rw [decide_eq_false (fun h => h61 h.1)] at hK
              exact hK
          refine ite2 (fun hP => ?_) (fun hP => ?_)
          · have hP' := of_decide_eq_true hP
            obtain ⟨h61, p, hp, hop⟩ := hP'
            rw [if_pos ⟨h61, p, hp, hop⟩] at tk'
            obtain ⟨w0, f0⟩ := md.op p hp hop
            have eg : g = f := by rw [← hg, if_pos w0]
            obtain ⟨g0, gl, hgl'⟩ : ∃ g0 gl, g = g0 ++ [gl] := ⟨g.dropLast, g.getLast (by rw [eg]; exact f0), (List.dropLast_concat_getLast _).symm⟩
            have hmap : g.map V.str = g0.map V.str ++ [V.str gl] := by rw [hgl', List.map_append]; rfl
            have hl5' := hl5
            rw [hmap] at hl5
            have lgl : gl.length ≤ i := hgl.2 gl (by rw [hgl']; simp)
            have hix : ixN (g0.map V.str ++ [V.str gl]).length (-1) = some (g0.map V.str).length := by
              unfold ixN
              rw [List.length_append, List.length_singleton, if_neg (by decide), if_pos (by omega)]
              congr 1
              omega
            refine ⟨_, rfl, _, rfl, l, _, _, rfl, rfl, hl5, _, rfl, gl, one c, rfl, rfl, Nat.le_trans (show gl.length + 1 ≤ 100001 by omega) sl, l, _, _, _, rfl, rfl, hl5, hix, ?_⟩
            have e3 : (g0.map V.str ++ [V.str gl]).set (g0.map V.str).length (.str (gl ++ one c)) = (g.dropLast ++ [g.getLastD "" ++ one c]).map V.str := by
              rw [hgl', List.map_append]
              simp
            refine nx (g.dropLast ++ [g.getLastD "" ++ one c]) _ (same_putG s05 nl) (by rw [upd_same, e3]) tk' ?_ ?_ ?_
            · rw [List.length_append, List.length_dropLast, List.length_singleton]
              omega
            · intro t ht
              rcases List.mem_append.mp ht with ht | ht
              · have := hgl.2 t (List.dropLast_subset _ ht)
                omega
              · rw [List.mem_singleton.mp ht, strLen_append, len_one, hgl']
                have : (g0 ++ [gl]).getLastD "" = gl := by simp
                rw [this]
                omega
            · intro _ h
              simp at h
          · have hP' : ¬ (c = 61 ∧ (∃ p, prevC z.cps.toList i = some p ∧ p ∈ opC)) := fun h => hP (decide_eq_true h)
            rw [if_neg hP'] at tk'
            refine ans_if (r := decide (c ∈ signC ∨ c ∈ opC)) (fun K hK => ?_) ?_
            · refine ⟨_, rfl, c, _, rfl, rfl, _, rfl, ?_⟩
              rw [in_signs]
              by_cases hs : c ∈ signC
              · refine iteD hs ?_
                rw [decide_eq_true (Or.inl hs)] at hK
                exact hK
              · refine iteDF hs ?_
                refine ⟨_, rfl, ka, _, rfl, .inr (T.ops _), rfl, rfl, _, rfl, ?_⟩
                have e4 : inV (.str (one c)) (ops.map V.str) = decide (c ∈ signC ∨ c ∈ opC) := by
                  rw [in_ops]
                  exact decide_eq_decide.mpr ⟨Or.inr, fun h => h.resolve_left hs⟩
                rw [← e4] at hK
                exact hK
            refine ite2 (fun hS => ?_) (fun hS => ?_)
            · rw [if_pos (of_decide_eq_true hS)] at tk'
              refine ⟨_, rfl, .inl ⟨rfl, _, .inl (.inl hl5)⟩, _, rfl, l, _, _, rfl, rfl, hl5, by rw [List.length_map]; exact hsl, ?_⟩
              refine nx (g ++ [one c]) _ (same_putG s05 nl) (by rw [upd_same, List.map_append]; rfl) tk' ?_ ?_ ?_
              · rw [List.length_append, List.length_singleton]; omega
              · intro t ht
                rcases List.mem_append.mp ht with ht | ht
                · have := hgl.2 t ht
                  omega
                · rw [List.mem_singleton.mp ht, len_one]; omega
              · intro _ h
                simp at h
            · rw [if_neg (fun h => hS (decide_eq_true h))] at tk'
              refine ⟨_, rfl, rfl, _, rfl, ?_⟩
              by_cases h32 : c = 32
              · rw [if_pos h32] at tk'
                refine iteNS (by rw [blank]; exact (one_eq c 32).mpr h32) ?_
                exact nx g _ s05 hl5 tk' (by omega) (fun t ht => by have := hgl.2 t ht; omega) (fun hop => by rw [h32] at hop; exact absurd hop (by decide))
              · rw [if_neg h32] at tk'
                refine iteNE (by rw [blank]; exact fun z => h32 ((one_eq c 32).mp z)) ?_
                exact q1 tk'.symm H5 s05
    · rintro σ H2 ⟨f, w, x3, x4, rfl, s2, hl, md⟩
      have tk := md.toks
      have hlen : (z.cps.toList.zipIdx).length = z.cps.toList.length := by simp
      rw [hlen, List.drop_length] at tk
      have tk' : some (if w = "" then f else f ++ [w]) = tokens z := tk
      refine ⟨_, rfl, rfl, _, rfl, ?_⟩
      by_cases hw : w = ""
      · rw [if_pos hw] at tk'
        refine iteD (by rw [hw]) ?_
        exact ⟨_, rfl, q2 _ tk'.symm l H2 s2 nl hl⟩
      · rw [if_neg hw] at tk'
        refine iteDF (fun z => hw (V.str.inj z)) ?_
        have h1 := md.lf
        rw [hlen, if_neg hw] at h1
        refine ⟨_, rfl, l, _, rfl, .inr (.inl (.inl hl)), _, rfl, ?_, fun p np => ?_⟩
        · rw [List.length_append, List.length_map]
          exact Nat.le_trans (show f.length + 1 ≤ 100001 by omega) sl
        · refine q2 _ tk'.symm p _ (s2.trans (same_new np)) (s2.free np) ?_
          rw [upd_same, List.map_append]
          rfl
end
end Eu
set_option Elab.async false
set_option linter.all false
set_option maxRecDepth 100000
set_option maxHeartbeats 4000000
set_option pp.maxSteps 3000
set_option pp.deepTerms false
namespace Eu
open PySem PySem.Spec PyProof.Rows L2
open C8 (pe_gc pss_cut)
open Gr
theorem Dm.mak {P : Program} {w : World} {K : PySem.W.Frag} {mg : Str → Option Value} {base : Heap} {C : Addr} {x qual : Str} {st : Stmt} {N ps : List Str} {k : Nat} {sp : Sp} (D : Dm K C "__init__" qual st []) (mkC : PySem.W.makesIn K C = true) (kpC : PySem.W.keepIn K (.ref C) = true) (hm : mg x = some (.ref C))
    (S : FnScope N ps (defScope st))
    (hbd : ∀ (kV doc pm : Value) (an : Option Addr) (cdv ct : Value) (us : List Value), us.length = ps.length →
      bindArgs (PySem.W.fnOf "__init__" qual (defArgs st) (defBody st) (defScope st) .none kV doc pm an cdv ct) ⟨us, []⟩ = pure (ps.zip us))
    (len : ∀ vs H Q E, sp vs H Q E → vs.length = ps.length)
    (hb : ∀ (f : Addr) (cdv : Value) (A : Around) (out : List Env) (s : Shared) (H : Hp) (vs : List V) (Q : VK) (E : XK),
      Rm k (A.deeper (envOfC qual (defScope st) s.heap.objs.size f cdv)) → sp vs H Q E →
      ∃ t, PSs (cxOf CX0 P w K mg base N qual (defScope st) f cdv A out s H E).nox (defBody st) t ∧
        t { nx := fun _ H' => Q .non H', rt := Q } (start N vs) H) : Mak P w K mg base (k + 1) x C sp [] := by
  obtain ⟨f, oc, od, dV, kV, doc, pm, an, cdv, ct, osl, l, cd, me, dd⟩ := D.ex
  rcases dd with ⟨_, e⟩ | ⟨e, _⟩
  · subst e
    refine ⟨f, _, ps, [], ⟨mkC, me.at_, me.fn, kpC⟩, ok_body l cd S len ?_, hm, .all (hbd kV doc pm an cdv ct), .nil⟩
    intro A out s H vs Q E hr hs
    obtain ⟨t, h, q⟩ := hb f cdv A out s H vs Q E hr hs
    exact ⟨t, h.nox, q⟩
  · exact absurd rfl e
abbrev s_Reader___init__ : Stmt := inClass (top 18) 0
theorem sc_Reader___init__ : FnScope ["self", "tokens"] ["self", "tokens"] (defScope s_Reader___init__) :=
  ⟨rfl, rfl, rfl, by decide +kernel, rfl, by decide +kernel, by decide +kernel⟩
abbrev s_Reader_next_token : Stmt := inClass (top 18) 1
theorem sc_Reader_next_token : FnScope ["self"] ["self"] (defScope s_Reader_next_token) :=
  ⟨rfl, rfl, rfl, by decide +kernel, rfl, by decide +kernel, by decide +kernel⟩
abbrev s_Reader_step : Stmt := inClass (top 18) 2
theorem sc_Reader_step : FnScope ["self", "token"] ["self"] (defScope s_Reader_step) :=
  ⟨rfl, rfl, rfl, by decide +kernel, rfl, by decide +kernel, by decide +kernel⟩
abbrev s_Reader_expect : Stmt := inClass (top 18) 3
theorem sc_Reader_expect : FnScope ["self", "token"] ["self", "token"] (defScope s_Reader_expect) :=
  ⟨rfl, rfl, rfl, by decide +kernel, rfl, by decide +kernel, by decide +kernel⟩
abbrev s_Reader_operation : Stmt := inClass (top 18) 4
theorem sc_Reader_operation : FnScope ["self", "level", "found", "operator"] ["self", "level"] (defScope s_Reader_operation) :=
  ⟨rfl, rfl, rfl, by decide +kernel, rfl, by decide +kernel, by decide +kernel⟩
abbrev s_Reader_part : Stmt := inClass (top 18) 5
theorem sc_Reader_part : FnScope ["self", "word", "found"] ["self"] (defScope s_Reader_part) :=
  ⟨rfl, rfl, rfl, by decide +kernel, rfl, by decide +kernel, by decide +kernel⟩
abbrev s_Reader_whole : Stmt := inClass (top 18) 6
theorem sc_Reader_whole : FnScope ["self", "found"] ["self"] (defScope s_Reader_whole) :=
  ⟨rfl, rfl, rfl, by decide +kernel, rfl, by decide +kernel, by decide +kernel⟩
/-- what is known of the class -/
structure Frc (K : PySem.W.Frag) (mg : Str → Option Value) (C : Addr) : Prop where
  g_Reader : ∃ u, mg "Reader" = some u ∧ RelV (.ref C) u
  cls : Cls K C
  na1 : NoAttr K C "tokens"
  na2 : NoAttr K C "place"
  na3 : NoAttr K C "depth"
  sf : PySem.W.selfFirst K C = true
  mro : PySem.W.mroIn K C (.type "object") = some true
  ne : PySem.W.findIn K (.ref C) "__ne__" = some (some (.builtin "object.__ne__"))
  ha : PySem.W.findIn K (.ref C) "__class__" = some (some (.builtin "object.__class__"))
  hn : PySem.W.specialIn K (.builtin "object.__class__") "__get__" = some (some (.builtin "getset_descriptor.__get__"))
  htk : PySem.W.takesIn K (.builtin "object.__class__") = some true
/-! ### a reader in the heap -/
def rdF (l : Addr) (p d : Nat) : List (Str × V) := [("tokens", .ref l), ("place", .int (p : Nat)), ("depth", .int (d : Nat))]
structure Rdr (C : Addr) (H : Hp) (a dx l : Addr) (toks : List Str) (p d : Nat) : Prop where
  at_ : H a = some (.ins C dx (rdF l p d))
  lst : H l = some (.lst (toks.map V.str))
structure TokOk (toks : List Str) : Prop where
  few : toks.length ≤ 100001
  sm : ∀ z ∈ toks, Small (.str z)
/-- a bad row is raised -/
def Bad (CB a : Addr) (H : Hp) (E : XK) : Prop := ∀ dd H', But a H H' → H' dd = some (.xd [("place", .int 0)]) → E (.ref CB) (some dd) H'
/-- what a reading tells -/
def Told (K : PySem.W.Frag) (C CB a dx l : Addr) (toks : List Str) (d : Nat) (H : Hp) (Q : VK) (E : XK) : Res → Prop
  | none => False
  | some none => Bad CB a H E
  | some (some (e, r)) => ∀ v H' p', But a H H' → Rdr C H' a dx l toks p' d → p' ≤ toks.length → toks.drop p' = r → Dp K H' v e → Q v H'
def spRInit (C : Addr) : Sp := fun vs H Q _ => ∃ (x dx l : Addr), vs = [.ref x, .ref l] ∧ H x = some (.ins C dx []) ∧ ∀ H', But x H H' → H' x = some (.ins C dx (rdF l 0 0)) → Q .non H'
def spNext (C : Addr) : Sp := fun vs H Q _ => ∃ (a dx l : Addr) (toks : List Str) (p d : Nat), vs = [.ref a] ∧ Rdr C H a dx l toks p d ∧ Q (.str ((toks.drop p).headD "")) H
def spStep (C : Addr) : Sp := fun vs H Q _ => ∃ (a dx l : Addr) (toks : List Str) (p d : Nat), vs = [.ref a] ∧ Rdr C H a dx l toks p d ∧ ∀ H', But a H H' → Rdr C H' a dx l toks (p + 1) d → Q (.str ((toks.drop p).headD "")) H'
def spExpect (C CB : Addr) : Sp := fun vs H Q E => ∃ (a dx l : Addr) (toks : List Str) (p d : Nat) (t : Str), vs = [.ref a, .str t] ∧ Rdr C H a dx l toks p d ∧ ((toks.drop p).headD "" ≠ t → Bad CB a H E) ∧
  ((toks.drop p).headD "" = t → ∀ H', But a H H' → Rdr C H' a dx l toks (p + 1) d → Q .non H')
def spOp (K : PySem.W.Frag) (C CB : Addr) (n : Nat) : Sp := fun vs H Q E => ∃ (a dx l : Addr) (toks : List Str) (lv p d : Nat), vs = [.ref a, .int (lv : Nat)] ∧ lv ≤ 5 ∧ Rdr C H a dx l toks p d ∧ p ≤ toks.length ∧ TokOk toks ∧ Told K C CB a dx l toks d H Q E (opF n lv d (toks.drop p))
def spPart (K : PySem.W.Frag) (C CB : Addr) (n : Nat) : Sp := fun vs H Q E => ∃ (a dx l : Addr) (toks : List Str) (p d : Nat), vs = [.ref a] ∧ Rdr C H a dx l toks p d ∧ p ≤ toks.length ∧ TokOk toks ∧ Told K C CB a dx l toks d H Q E (partF n d (toks.drop p))
theorem Rdr.but {C : Addr} {H H' : Hp} {a dx l : Addr} {toks : List Str} {p d p' d' : Nat} (h : Rdr C H a dx l toks p d) (s : But a H H') (e : H' a = some (.ins C dx (rdF l p' d'))) : Rdr C H' a dx l toks p' d' :=
  ⟨e, s.at (fun z => by have := h.lst; rw [z, h.at_] at this; cases this) h.lst⟩
theorem Rdr.same {C : Addr} {H H' : Hp} {a dx l : Addr} {toks : List Str} {p d : Nat} (h : Rdr C H a dx l toks p d) (s : Same H H') : Rdr C H' a dx l toks p d := ⟨s _ _ h.at_, s _ _ h.lst⟩
theorem Bad.of {CB a : Addr} {H H1 : Hp} {E : XK} (h : Bad CB a H E) (s : But a H H1) : Bad CB a H1 E := fun dd H' b x => h dd H' (s.trans b) x
/-- raise BadRow(0) -/
theorem Bad.raise {CB a : Addr} {H : Hp} {E : XK} (h : Bad CB a H E) : [V.int 0].length ≤ 1000 ∧ ∀ b, H b = none → spErr CB "place" (.ref b :: ([.int 0] ++ [])) (upd H b (exo b CB none))
      (fun u H2 => u = .non ∧ ∃ (d : Addr) (fs : List (Str × V)), H2 b = some (exo b CB (some d)) ∧ H2 d = some (exd d fs) ∧ H d = none ∧ E (.ref CB) (some d) (upd (del H2 b) d (.xd fs))) (fun _ _ _ => False) :=
  use_err fun d H' nd s x => h d H' (But.of_same s) x
theorem head_drop {toks : List Str} {p : Nat} (h : p < toks.length) : (toks.drop p).headD "" = toks[p] := by
  rw [List.drop_eq_getElem_cons h]; rfl
theorem head_end {toks : List Str} {p : Nat} (h : ¬ p < toks.length) : (toks.drop p).headD "" = "" := by
  rw [List.drop_eq_nil_iff.mpr (by omega)]; rfl
theorem tail_drop (toks : List Str) (p : Nat) : (toks.drop p).tail = toks.drop (p + 1) := by
  rw [List.tail_drop]
section
variable {P : Program} {w : World} {K : PySem.W.Frag} {mg : Str → Option Value} {base : Heap} {kw ka C CB : Addr}
theorem ok_rinit (F : Frc K mg C) (D : Dm K C "__init__" "Reader.__init__" s_Reader___init__ []) (mkC : PySem.W.makesIn K C = true) (kpC : PySem.W.keepIn K (.ref C) = true) (hm : mg "Reader" = some (.ref C)) : Mak P w K mg base 1 "Reader" C (spRInit C) [] := by
  refine D.mak mkC kpC hm sc_Reader___init__ (fun _ _ _ _ _ _ us hl => match us, hl with | [_, _], _ => rfl) (fun vs H Q E h => ?_) (fun f cdv A out s H vs Q E hr h => ?_)
  · obtain ⟨x, dx, l, rfl, _⟩ := h
    rfl
  · obtain ⟨x, dx, l, rfl, hx, q⟩ := h
    refine ⟨_, (pss_cons (ps_fld (pv 0) (pv 1) rfl)
(pss_cons (ps_fld (pv 0) pe_int rfl)
(pss_one (ps_fld (pv 0) pe_int rfl)))), ?_⟩
    refine ⟨_, rfl, _, rfl, x, C, dx, _, rfl, hx, F.cls, F.na1, by decide, ?_⟩
    refine ⟨_, rfl, x, C, dx, _, rfl, upd_same, F.cls, F.na2, (by show 1 < 1000; decide), ?_⟩
    refine ⟨_, rfl, x, C, dx, _, rfl, upd_same, F.cls, F.na3, (by show 2 < 1000; decide), ?_⟩
    exact q _ (But.upd.trans (But.upd.trans But.upd)) upd_same
theorem ok_next (B : Bl mg) (T : Gg K mg ka) (F : Frc K mg C) (D : Dm K C "next_token" "Reader.next_token" s_Reader_next_token []) : Met P w K mg base 1 C "next_token" (spNext C) [] := by
  refine D.met F.cls sc_Reader_next_token (fun _ _ _ _ _ _ us hl => match us, hl with | [_], _ => rfl) (fun vs H Q E h => ?_) (fun f cdv A out s H vs Q E hr h => ?_)
  · obtain ⟨a, dx, l, toks, p, d, rfl, _⟩ := h
    rfl
  · obtain ⟨a, dx, l, toks, p, d, rfl, hR, q⟩ := h
    refine ⟨_, (pss_one (ps_ret (pe_ifExp (pt_cmpR op_lt (pe_fld (pv 0) rfl) (pe_callB call_len_seq (by rfl) B.len (by decide +kernel) (pa_cons (pe_fld (pv 0) rfl) pa_nil)) (nomark _)) (pe_ix ix_list (pe_fld (pv 0) rfl) (pe_fld (pv 0) rfl) (fun _ _ => rfl)) (pe_gc (by rfl) T.g_END)))), ?_⟩
    refine ⟨_, rfl, a, C, dx, _, _, rfl, hR.at_, F.cls, F.na2, rfl, _, rfl, a, C, dx, _, _, rfl, hR.at_, F.cls, F.na1, rfl, l, _, rfl, .inl (.inl (.inl hR.lst)), _, _, rfl, rfl, _, rfl, ?_⟩
    rw [List.length_map]
    by_cases hp : p < toks.length
    · refine iteD (show ((p : Nat) : Int) < ((toks.length : Nat) : Int) by omega) ?_
      rw [head_drop hp] at q
      exact ⟨_, rfl, a, C, dx, _, _, rfl, hR.at_, F.cls, F.na1, rfl, _, rfl, a, C, dx, _, _, rfl, hR.at_, F.cls, F.na2, rfl, l, _, _, _, rfl, rfl, .inl (.inl hR.lst), at_of (j := p) rfl (by rw [List.getElem?_map, List.getElem?_eq_getElem hp]; rfl), q⟩
    · refine iteDF (show ¬ ((p : Nat) : Int) < ((toks.length : Nat) : Int) by omega) ?_
      rw [head_end hp] at q
      exact q
theorem ok_step (F : Frc K mg C) (m_Reader_next_token : Met P w K mg base 1 C "next_token" (spNext C) []) (D : Dm K C "step" "Reader.step" s_Reader_step []) : Met P w K mg base 2 C "step" (spStep C) [] := by
  refine D.met F.cls sc_Reader_step (fun _ _ _ _ _ _ us hl => match us, hl with | [_], _ => rfl) (fun vs H Q E h => ?_) (fun f cdv A out s H vs Q E hr h => ?_)
  · obtain ⟨a, dx, l, toks, p, d, rfl, _⟩ := h
    rfl
  · obtain ⟨a, dx, l, toks, p, d, rfl, hR, q⟩ := h
    refine ⟨_, (pss_cons (ps_set (i := 1) sc_Reader_step.nd rfl (Or.inl rfl) (pe_mt0 m_Reader_next_token hr (by decide) (pv 0)))
(pss_cons (ps_fldaug (pv 0) pe_int in_add)
(pss_one (ps_ret (pv 1))))), ?_⟩
    refine ⟨_, rfl, a, dx, _, rfl, hR.at_, rfl, a, dx, l, toks, p, d, rfl, hR, ?_⟩
    refine ⟨_, rfl, a, C, dx, _, _, rfl, hR.at_, F.cls, F.na2, rfl, _, _, rfl, rfl, dx, _, hR.at_, (by show 3 < 1000; decide), ?_⟩
    exact ⟨_, rfl, q _ But.upd (hR.but But.upd upd_same)⟩
theorem ok_expect (F : Frc K mg C) (e_BadRow : Exo P w K mg base "BadRow" CB "place") (m_Reader_step : Met P w K mg base 2 C "step" (spStep C) []) (D : Dm K C "expect" "Reader.expect" s_Reader_expect []) : MetX P w K mg base 3 C "expect" (spExpect C CB) [] := by
  refine D.metX F.cls sc_Reader_expect (fun _ _ _ _ _ _ us hl => match us, hl with | [_, _], _ => rfl) (fun vs H Q E h => ?_) (fun f cdv A out s H vs Q E hr h => ?_)
  · obtain ⟨a, dx, l, toks, p, d, t, rfl, _⟩ := h
    rfl
  · obtain ⟨a, dx, l, toks, p, d, t, rfl, hR, q1, q2⟩ := h
    refine ⟨_, (pss_one (ps_if (pt_cmpR op_ne (pe_mt0 m_Reader_step hr (by decide) (pv 0)) (pv 1) (nomark _))
(pss_one (ps_raise rfl (takes_of rfl rfl rfl rfl) (pmk_B e_BadRow hr (by decide) (by rfl) pe_int)))
pss_nil)), ?_⟩
    refine ⟨_, rfl, a, dx, _, rfl, hR.at_, rfl, a, dx, l, toks, p, d, rfl, hR, fun H1 b1 hR1 => ?_⟩
    refine ⟨_, rfl, rfl, _, rfl, ?_⟩
    by_cases ht : (toks.drop p).headD "" = t
    · refine iteNS (by rw [ht]) ?_
      exact q2 ht H1 b1 hR1
    · refine iteNE (fun z => ht (V.str.inj z)) ?_
      exact ((q1 ht).of b1).raise
end
end Eu
set_option Elab.async false
set_option linter.all false
set_option maxRecDepth 100000
set_option maxHeartbeats 4000000
set_option pp.maxSteps 3000
set_option pp.deepTerms false
namespace Eu
open PySem PySem.Spec PyProof.Rows L2
open C8 (pe_gc pss_cut)
open Gr
theorem opAt_at {lv : Nat} (h : lv < 5) : atI (ops.map V.str) ((lv : Nat) : Int) = some (.str (opAt lv)) := by
  refine at_of (j := lv) rfl ?_
  have : lv = 0 ∨ lv = 1 ∨ lv = 2 ∨ lv = 3 ∨ lv = 4 := by omega
  rcases this with rfl | rfl | rfl | rfl | rfl <;> rfl
theorem opAt_ne {lv : Nat} (h : lv < 5) : opAt lv ≠ "" := by
  have : lv = 0 ∨ lv = 1 ∨ lv = 2 ∨ lv = 3 ∨ lv = 4 := by omega
  rcases this with rfl | rfl | rfl | rfl | rfl <;> decide +kernel
theorem head_ne {toks : List Str} {p : Nat} (h : (toks.drop p).headD "" ≠ "") : p < toks.length := by
  by_cases hp : p < toks.length
  · exact hp
  · exact absurd (head_end hp) h
/-- as it was told ahead -/
theorem Told.of {K : PySem.W.Frag} {C CB a dx l : Addr} {toks : List Str} {d : Nat} {H H1 : Hp} {Q : VK} {E : XK} {r : Res} (h : Told K C CB a dx l toks d H Q E r) (s : But a H H1) : Told K C CB a dx l toks d H1 Q E r := by
  match r, h with
  | some none, h => exact Bad.of h s
  | some (some (e, r)), h => exact fun v H' p' b => h v H' p' (s.trans b)
section
variable {P : Program} {w : World} {K : PySem.W.Frag} {mg : Str → Option Value} {base : Heap} {kw ka C CB : Addr}
theorem ok_op_step (B : Bl mg) (T : Gg K mg ka) (F : Frc K mg C) (n : Nat) (m_Reader_next_token : Met P w K mg base 1 C "next_token" (spNext C) []) (m_Reader_step : Met P w K mg base 2 C "step" (spStep C) [])
    (m_Reader_operation : MetX P w K mg base (n + 5) C "operation" (spOp K C CB n) []) (m_Reader_part : MetX P w K mg base (n + 5) C "part" (spPart K C CB n) [])
    (D : Dm K C "operation" "Reader.operation" s_Reader_operation []) : MetX P w K mg base (n + 1 + 5) C "operation" (spOp K C CB (n + 1)) [] := by
  refine D.metX (k := n + 5) F.cls sc_Reader_operation (fun _ _ _ _ _ _ us hl => match us, hl with | [_, _], _ => rfl) (fun vs H Q E h => ?_) (fun f cdv A out s H vs Q E hr h => ?_)
  · obtain ⟨a, dx, l, toks, lv, p, d, rfl, _⟩ := h
    rfl
  · obtain ⟨a, dx, l, toks, lv, p, d, rfl, l5, hR, hp, tok, hT⟩ := h
    refine ⟨_, (pss_cons (ps_if (pt_cmpR op_eq (pv 1) (pe_callB call_len_seq (by rfl) B.len (by decide +kernel) (pa_cons (pe_gc (by rfl) T.g_OPERATORS) pa_nil)) (nomark _))
(pss_one (ps_ret (pe_mt0X m_Reader_part hr (by omega) passX (pv 0))))
pss_nil)
(pss_cons (ps_set (i := 2) sc_Reader_operation.nd rfl (Or.inl rfl) (pe_mtX m_Reader_operation hr (by omega) passX (pv 0) (pa_cons (pe_op op_add (pv 1) pe_int) pa_nil)))
(pss_cons (ps_while ownX (pt_cmpR op_eq (pe_mt0 m_Reader_next_token hr (by omega) (pv 0)) (pe_ix ix_tup (pe_gc (by rfl) T.g_OPERATORS) (pv 1) (fun _ _ => rfl)) (nomark _))
(pss_cons (ps_set (i := 3) sc_Reader_operation.nd rfl (Or.inl rfl) (pe_mt0 m_Reader_step hr (by omega) (pv 0)))
(pss_one (ps_set (i := 2) sc_Reader_operation.nd rfl (Or.inl rfl) (pe_tup (pa_cons (pv 3) (pa_cons (pv 2) (pa_cons (pe_mtX m_Reader_operation hr (by omega) passX (pv 0) (pa_cons (pe_op op_add (pv 1) pe_int) pa_nil)) pa_nil))))))))
(pss_one (ps_ret (pv 2)))))), ?_⟩
    refine ⟨_, rfl, ka, _, rfl, .inr (T.ops _), rfl, _, rfl, ?_⟩
    unfold opF at hT
    by_cases h5 : lv = 5
    · rw [if_pos h5] at hT
      refine iteD (by rw [h5]; rfl) ?_
      exact ⟨_, rfl, a, dx, _, rfl, hR.at_, rfl, a, dx, l, toks, p, d, rfl, hR, hp, tok, hT⟩
    · rw [if_neg h5] at hT
      refine iteDF (fun z => h5 (by have := V.int.inj z; have e : ((ops.map V.str).length : Int) = 5 := rfl; omega)) ?_
      have lv5 : lv < 5 := by omega
      refine ⟨_, rfl, a, dx, _, rfl, hR.at_, rfl, _, rfl, _, _, rfl, rfl, a, dx, l, toks, lv + 1, p, d, rfl, by omega, hR, hp, tok, ?_⟩
      match h1 : opF n (lv + 1) d (toks.drop p), hT with
      | none, hT => exact hT
      | some none, hT => exact hT
      | some (some (e, r)), hT =>
        intro v H1 p1 b1 hR1 hp1 hr1 hv
        refine ⟨fun m σ H' => ∃ v x3 p' e r, σ = [some (.ref a), some (.int (lv : Nat)), some v, x3] ∧ But a H H' ∧ Rdr C H' a dx l toks p' d ∧ p' ≤ toks.length ∧ toks.drop p' = r ∧ Dp K H' v e ∧ Told K C CB a dx l toks d H Q E (loopF (fun q => opF n (lv + 1) d q) (opAt lv) m e r), ⟨r.length + 1, v, none, p1, e, r, rfl, b1, hR1, hp1, hr1, hv, hT⟩, ?_⟩
        rintro m σ H2 ⟨v2, x3, p2, e2, r2, rfl, b2, hR2, hp2, hr2, hv2, hT2⟩
        cases m with
        | zero => exact False.elim hT2
        | succ m =>
          unfold loopF at hT2
          refine ⟨_, rfl, a, dx, _, rfl, hR2.at_, rfl, a, dx, l, toks, p2, d, rfl, hR2, ?_⟩
          refine ⟨_, rfl, ka, _, _, _, rfl, rfl, T.ops _, opAt_at lv5, rfl, _, rfl, ?_⟩
          rw [← hr2] at hT2
          by_cases hh : (toks.drop p2).headD "" = opAt lv
          · rw [if_pos hh, tail_drop] at hT2
            refine iteD (by rw [hh]) ?_
            have hlt : p2 < toks.length := head_ne (by rw [hh]; exact opAt_ne lv5)
            refine ⟨fun σ' H' => ∃ v x3 p' e r, σ' = [some (.ref a), some (.int (lv : Nat)), some v, x3] ∧ But a H H' ∧ Rdr C H' a dx l toks p' d ∧ p' ≤ toks.length ∧ toks.drop p' = r ∧ Dp K H' v e ∧ Told K C CB a dx l toks d H Q E (loopF (fun q => opF n (lv + 1) d q) (opAt lv) m e r), fun σ' H' h => ⟨m, Nat.lt_succ_self _, h⟩, ?_⟩
            refine ⟨_, rfl, a, dx, _, rfl, hR2.at_, rfl, a, dx, l, toks, p2, d, rfl, hR2, fun H3 b3 hR3 => ?_⟩
            refine ⟨_, rfl, _, rfl, ?_⟩
            refine ⟨_, rfl, a, dx, _, rfl, hR3.at_, rfl, _, rfl, _, _, rfl, rfl, a, dx, l, toks, lv + 1, p2 + 1, d, rfl, by omega, hR3, by omega, tok, ?_⟩
            have b23 : But a H H3 := b2.trans b3
            match h3 : opF n (lv + 1) d (toks.drop (p2 + 1)), hT2 with
            | none, hT2 => exact hT2
            | some none, hT2 => exact Bad.of hT2 b23
            | some (some (e3, r3)), hT2 =>
              intro v3 H4 p3 b4 hR4 hp4 hr4 hv3
              refine ⟨by show 3 ≤ sizeLine; decide, fun t nt => ?_⟩
              have s5 := same_new (o := .tup [.str ((toks.drop p2).headD ""), v2, v3]) nt
              have hv2' : Dp K H4 v2 e2 := Dp.but b4 hR3.at_ (Dp.but b3 hR2.at_ hv2)
              refine ⟨.ref t, _, p3, .tuple [.str (opAt lv), e2, e3], r3, rfl, (b23.trans b4).trans (But.of_same s5), hR4.same s5, hp4, hr4, ?_, hT2⟩
              refine .tup (.inl (.inl ?_)) (.cons (.str _) (.cons (Same.dp s5 hv2') (.cons (Same.dp s5 hv3) .nil)))
              rw [upd_same, hh]
          · rw [if_neg hh] at hT2
            refine iteDF (fun z => hh (V.str.inj z)) ?_
            exact ⟨_, rfl, hT2 v2 H2 p2 b2 hR2 hp2 rfl hv2⟩
end
end Eu
set_option Elab.async false
set_option linter.all false
set_option maxRecDepth 100000
set_option maxHeartbeats 4000000
set_option pp.maxSteps 3000
set_option pp.deepTerms false
namespace Gr
open PySem PySem.Spec
open Eu (letter nameS)
theorem words_ne : ("(" : Str) ≠ "keys" ∧ ("(" : Str) ≠ "look" ∧ ("keys" : Str) ≠ "look" ∧ ("(" : Str) ≠ "" ∧ ("keys" : Str) ≠ "" ∧ ("look" : Str) ≠ "" ∧ ("," : Str) ≠ "" ∧ (")" : Str) ≠ "" := by decide +kernel
end Gr
namespace Eu
open PySem PySem.Spec PyProof.Rows L2
open C8 (pe_gc pss_cut)
open Gr
theorem small_tok {toks : List Str} (h : TokOk toks) (p : Nat) : Small (.str ((toks.drop p).headD "")) := by
  by_cases hp : p < toks.length
  · rw [head_drop hp]
    exact h.sm _ (List.getElem_mem hp)
  · rw [head_end hp]
    exact ⟨by decide +kernel, by decide +kernel⟩
theorem name_ne {z : Str} (h : nameS z = true) : z ≠ "" := fun e => by
  rw [e] at h
  exact absurd h (by decide +kernel)
section
variable {P : Program} {w : World} {K : PySem.W.Frag} {mg : Str → Option Value} {base : Heap} {kw ka C CB : Addr}
theorem ok_part_step (T : Gg K mg ka) (F : Frc K mg C) (n : Nat) (e_BadRow : Exo P w K mg base "BadRow" CB "place") (c_is_name : Cal P w K mg base 2 "is_name" (spB K nameD) []) (m_Reader_step : Met P w K mg base 2 C "step" (spStep C) []) (m_Reader_expect : MetX P w K mg base 3 C "expect" (spExpect C CB) [])
    (m_Reader_operation : MetX P w K mg base (n + 5) C "operation" (spOp K C CB n) [])
    (D : Dm K C "part" "Reader.part" s_Reader_part []) : MetX P w K mg base (n + 1 + 5) C "part" (spPart K C CB (n + 1)) [] := by
  refine D.metX (k := n + 5) F.cls sc_Reader_part (fun _ _ _ _ _ _ us hl => match us, hl with | [_], _ => rfl) (fun vs H Q E h => ?_) (fun f cdv A out s H vs Q E hr h => ?_)
  · obtain ⟨a, dx, l, toks, p, d, rfl, _⟩ := h
    rfl
  · obtain ⟨a, dx, l, toks, p, d, rfl, hR, hp, tok, hT⟩ := h
    refine ⟨_, (pss_cons (ps_set (i := 1) sc_Reader_part.nd rfl (Or.inl rfl) (pe_mt0 m_Reader_step hr (by omega) (pv 0)))
(pss_cons (ps_if (pt_val (pe_c c_is_name hr (by omega) (by rfl) (pa_cons (pv 1) pa_nil)))
(pss_one (ps_ret (pv 1)))
pss_nil)
(pss_cut (ps_if (pt_cmpR op_ne (pv 1) pe_str (nomark _))
(pss_cons (ps_if (PW.pt (pw_and (pt_cmpR op_ne (pv 1) (pe_gc (by rfl) T.g_KEYS) (nomark _)) (pw_and1 (pt_cmpR op_ne (pv 1) (pe_gc (by rfl) T.g_LOOK) (nomark _)))))
(pss_one (ps_raise rfl (takes_of rfl rfl rfl rfl) (pmk_B e_BadRow hr (by omega) (by rfl) pe_int)))
pss_nil)
(pss_one (ps_expr (pe_mtX m_Reader_expect hr (by omega) passX (pv 0) (pa_cons pe_str pa_nil)))))
pss_nil)
(pss_cons (ps_fldaug (pv 0) pe_int in_add)
(pss_cons (ps_if (pt_cmpR op_gt (pe_fld (pv 0) rfl) (pe_gc (by rfl) T.g_MOST_OPEN) (nomark _))
(pss_one (ps_raise rfl (takes_of rfl rfl rfl rfl) (pmk_B e_BadRow hr (by omega) (by rfl) pe_int)))
pss_nil)
(pss_cons (ps_set (i := 2) sc_Reader_part.nd rfl (Or.inl rfl) (pe_mtX m_Reader_operation hr (by omega) passX (pv 0) (pa_cons pe_int pa_nil)))
(pss_cut (ps_if (pt_cmpR op_eq (pv 1) (pe_gc (by rfl) T.g_LOOK) (nomark _))
(pss_cons (ps_expr (pe_mtX m_Reader_expect hr (by omega) passX (pv 0) (pa_cons pe_str pa_nil)))
(pss_one (ps_set (i := 2) sc_Reader_part.nd rfl (Or.inl rfl) (pe_tup (pa_cons (pe_gc (by rfl) T.g_LOOK) (pa_cons (pv 2) (pa_cons (pe_mtX m_Reader_operation hr (by omega) passX (pv 0) (pa_cons pe_int pa_nil)) pa_nil)))))))
pss_nil)
(pss_cut (ps_if (pt_cmpR op_eq (pv 1) (pe_gc (by rfl) T.g_KEYS) (nomark _))
(pss_one (ps_set (i := 2) sc_Reader_part.nd rfl (Or.inl rfl) (pe_tup (pa_cons (pe_gc (by rfl) T.g_KEYS) (pa_cons (pv 2) pa_nil)))))
pss_nil)
(pss_cons (ps_expr (pe_mtX m_Reader_expect hr (by omega) passX (pv 0) (pa_cons pe_str pa_nil)))
(pss_cons (ps_fldaug (pv 0) pe_int in_sub)
(pss_one (ps_ret (pv 2))))))))))))), ?_⟩
    unfold partF at hT
    obtain ⟨n1, n2, n3, n4, n5, n6, n7, n8⟩ := words_ne
    refine ⟨_, rfl, a, dx, _, rfl, hR.at_, rfl, a, dx, l, toks, p, d, rfl, hR, fun H1 b1 hR1 => ?_⟩
    have smw := small_tok tok p
    have hlt : (toks.drop p).headD "" ≠ "" → p < toks.length := head_ne
    rw [tail_drop] at hT
    generalize (toks.drop p).headD "" = wd at hT smw hlt
    refine ⟨_, rfl, .str wd, .str wd, rfl, .inl (.str _), smw, fun H2 s2 => ⟨_, rfl, ?_⟩⟩
    have b2 : But a H H2 := b1.trans (But.of_same s2)
    have hR2 := hR1.same s2
    show if nameS wd = true then _ else _
    by_cases hn : nameS wd = true
    · rw [if_pos hn] at hT ⊢
      exact ⟨_, rfl, hT (.str wd) H2 (p + 1) b2 hR2 (hlt (name_ne hn)) rfl (.str _)⟩
    · rw [if_neg hn] at hT ⊢
      -- the parenthesis
      refine ⟨fun σ H' => σ = [some (.ref a), some (.str wd), none] ∧ But a H H' ∧ ∃ p1, Rdr C H' a dx l toks p1 d ∧ p1 ≤ toks.length ∧ Told K C CB a dx l toks d H Q E (bodyF (fun q => opF n 0 (d + 1) q) d wd (toks.drop p1)), ?_, ?_⟩
      · refine ⟨_, rfl, rfl, _, rfl, ?_⟩
        by_cases h1 : wd = "("
        · rw [if_pos h1] at hT
          refine iteNS (by rw [h1]) ?_
          exact ⟨rfl, b2, p + 1, hR2, hlt (by rw [h1]; exact n4), hT⟩
        · rw [if_neg h1] at hT
          refine iteNE (fun z => h1 (V.str.inj z)) ?_
          refine ans_if (r := decide (wd ≠ "keys" ∧ wd ≠ "look")) (fun Kk hK => ?_) ?_
          · refine ⟨_, rfl, rfl, _, rfl, ?_⟩
            by_cases hk : wd = "keys"
            · refine iteNS (by rw [hk]) ?_
              rw [decide_eq_false (fun h => h.1 hk)] at hK
              exact hK
            · refine iteNE (fun z => hk (V.str.inj z)) ?_
              refine ⟨_, rfl, rfl, _, rfl, ?_⟩
              have e1 : (!decide (V.str wd = V.str "look")) = decide (wd ≠ "keys" ∧ wd ≠ "look") := by
                by_cases hl : wd = "look"
                · rw [decide_eq_true (by rw [hl]), decide_eq_false (fun h => h.2 hl)]; rfl
                · rw [decide_eq_false (fun z => hl (V.str.inj z)), decide_eq_true ⟨hk, hl⟩]; rfl
              rw [← e1] at hK
              exact hK
          refine ite2 (fun hc => ?_) (fun hc => ?_)
          · have hc' := of_decide_eq_true hc
            rw [if_neg (fun h => h.elim hc'.1 hc'.2)] at hT
            exact (Bad.of hT b2).raise
          · have hc' : wd = "keys" ∨ wd = "look" := by
              by_cases hk : wd = "keys"
              · exact .inl hk
              · by_cases hl : wd = "look"
                · exact .inr hl
                · exact absurd (decide_eq_true ⟨hk, hl⟩) hc
            rw [if_pos hc'] at hT
            refine ⟨_, rfl, a, dx, _, rfl, hR2.at_, rfl, a, dx, l, toks, p + 1, d, "(", rfl, hR2, fun hne => ?_, fun he H3 b3 hR3 => ?_⟩
            · rw [if_neg hne] at hT
              exact Bad.of hT b2
            · rw [if_pos he, tail_drop] at hT
              exact ⟨rfl, b2.trans b3, p + 2, hR3, head_ne (by rw [he]; exact n4), hT⟩
      · rintro σ H3 ⟨rfl, b3, p1, hR3, hp1, hT3⟩
        unfold bodyF at hT3
        dsimp only at hT3
        refine ⟨_, rfl, a, C, dx, _, _, rfl, hR3.at_, F.cls, F.na3, rfl, _, _, rfl, rfl, dx, _, hR3.at_, (by show 3 < 1000; decide), ?_⟩
        have hR4 : Rdr C (upd H3 a (.ins C dx (rdF l p1 (d + 1)))) a dx l toks p1 (d + 1) := hR3.but But.upd upd_same
        have b4 : But a H (upd H3 a (.ins C dx (rdF l p1 (d + 1)))) := b3.trans But.upd
        show tSeq _ _ _ _ (upd H3 a (.ins C dx (rdF l p1 (d + 1))))
        generalize upd H3 a (.ins C dx (rdF l p1 (d + 1))) = H4 at hR4 b4
        refine ⟨_, rfl, a, C, dx, _, _, rfl, hR4.at_, F.cls, F.na3, rfl, _, _, rfl, rfl, _, rfl, ?_⟩
        by_cases h8 : 8 < d + 1
        · rw [if_pos h8] at hT3
          refine iteD (show ((d + 1 : Nat) : Int) > 8 by omega) ?_
          exact (Bad.of hT3 b4).raise
        · rw [if_neg h8] at hT3
          refine iteDF (show ¬ ((d + 1 : Nat) : Int) > 8 by omega) ?_
          refine ⟨_, rfl, a, dx, _, rfl, hR4.at_, rfl, a, dx, l, toks, 0, p1, d + 1, rfl, by omega, hR4, hp1, tok, ?_⟩
          match h5 : opF n 0 (d + 1) (toks.drop p1), hT3 with
          | none, hT3 => exact hT3
          | some none, hT3 => exact Bad.of hT3 b4
          | some (some (e, r)), hT3 =>
            intro v H5 p2 b5 hR5 hp2 hr5 hv
            have b05 : But a H H5 := b4.trans b5
            have hvE : ∀ {H' : Hp}, But a H5 H' → Dp K H' v e := fun b => Dp.but b hR5.at_ hv
            subst hr5
            -- look
            refine ⟨fun σ H' => ∃ v e p2, σ = [some (.ref a), some (.str wd), some v] ∧ But a H H' ∧ Rdr C H' a dx l toks p2 (d + 1) ∧ p2 ≤ toks.length ∧ Dp K H' v e ∧ Told K C CB a dx l toks d H Q E (if wd = "keys" then closeF (.tuple [.str "keys", e]) (toks.drop p2) else closeF e (toks.drop p2)), ?_, ?_⟩
            · refine ⟨_, rfl, rfl, _, rfl, ?_⟩
              by_cases hl : wd = "look"
              · have hT4 : Told K C CB a dx l toks d H Q E (if (toks.drop p2).headD "" = "," then (match opF n 0 (d + 1) (toks.drop p2).tail with
                  | some (some (e2, r2)) => closeF (.tuple [.str "look", e, e2]) r2
                  | x => x) else some none) := by
                  have := hT3
                  dsimp only at this
                  rw [if_pos hl] at this
                  exact this
                refine iteD (by rw [hl]) ?_
                refine ⟨_, rfl, a, dx, _, rfl, hR5.at_, rfl, a, dx, l, toks, p2, d + 1, ",", rfl, hR5, fun hne => ?_, fun he H6 b6 hR6 => ?_⟩
                · rw [if_neg hne] at hT4
                  exact Bad.of hT4 b05
                · rw [if_pos he, tail_drop] at hT4
                  have b06 := b05.trans b6
                  refine ⟨_, rfl, ?_⟩
                  refine ⟨_, rfl, a, dx, _, rfl, hR6.at_, rfl, a, dx, l, toks, 0, p2 + 1, d + 1, rfl, by omega, hR6, head_ne (by rw [he]; exact n7), tok, ?_⟩
                  match h7 : opF n 0 (d + 1) (toks.drop (p2 + 1)), hT4 with
                  | none, hT4 => exact hT4
                  | some none, hT4 => exact Bad.of hT4 b06
                  | some (some (e3, r3)), hT4 =>
                    intro v3 H7 p3 b7 hR7 hp3 hr7 hv3
                    refine ⟨by show 3 ≤ sizeLine; decide, fun t nt => ?_⟩
                    have s8 := same_new (o := .tup [.str "look", v, v3]) nt
                    refine ⟨.ref t, .tuple [.str "look", e, e3], p3, rfl, (b06.trans b7).trans (But.of_same s8), hR7.same s8, hp3, ?_, ?_⟩
                    · exact .tup (.inl (.inl upd_same)) (.cons (.str _) (.cons (Same.dp s8 (hvE (b6.trans b7))) (.cons (Same.dp s8 hv3) .nil)))
                    · rw [if_neg (by rw [hl]; exact Ne.symm n3), hr7]
                      exact hT4
              · have hT4 : Told K C CB a dx l toks d H Q E (if wd = "keys" then closeF (.tuple [.str "keys", e]) (toks.drop p2) else closeF e (toks.drop p2)) := by
                  have := hT3
                  dsimp only at this
                  rw [if_neg hl] at this
                  exact this
                refine iteDF (fun z => hl (V.str.inj z)) ?_
                exact ⟨v, e, p2, rfl, b05, hR5, hp2, hv, hT4⟩
            rintro σ H6 ⟨v6, e6, p6, rfl, b6, hR6, hp6, hv6, hT6⟩
            -- keys
            refine ⟨fun σ H' => ∃ v e, σ = [some (.ref a), some (.str wd), some v] ∧ But a H H' ∧ Rdr C H' a dx l toks p6 (d + 1) ∧ Dp K H' v e ∧ Told K C CB a dx l toks d H Q E (closeF e (toks.drop p6)), ?_, ?_⟩
            · refine ⟨_, rfl, rfl, _, rfl, ?_⟩
              by_cases hk : wd = "keys"
              · rw [if_pos hk] at hT6
                refine iteD (by rw [hk]) ?_
                refine ⟨_, rfl, by show 2 ≤ sizeLine; decide, fun t nt => ?_⟩
                have s8 := same_new (o := .tup [.str "keys", v6]) nt
                exact ⟨.ref t, .tuple [.str "keys", e6], rfl, b6.trans (But.of_same s8), hR6.same s8, .tup (.inl (.inl upd_same)) (.cons (.str _) (.cons (Same.dp s8 hv6) .nil)), hT6⟩
              · rw [if_neg hk] at hT6
                refine iteDF (fun z => hk (V.str.inj z)) ?_
                exact ⟨v6, e6, rfl, b6, hR6, hv6, hT6⟩
            rintro σ H8 ⟨v8, e8, rfl, b8, hR8, hv8, hT8⟩
            unfold closeF at hT8
            refine ⟨_, rfl, a, dx, _, rfl, hR8.at_, rfl, a, dx, l, toks, p6, d + 1, ")", rfl, hR8, fun hne => ?_, fun he H9 b9 hR9 => ?_⟩
            · rw [if_neg hne] at hT8
              exact Bad.of hT8 b8
            · rw [if_pos he, tail_drop] at hT8
              refine ⟨_, rfl, a, C, dx, _, _, rfl, hR9.at_, F.cls, F.na3, rfl, _, _, rfl, rfl, dx, _, hR9.at_, (by show 3 < 1000; decide), ?_⟩
              have ed : ((d + 1 : Nat) : Int) - 1 = ((d : Nat) : Int) := by omega
              have hput : putF "depth" (.int (((d + 1 : Nat) : Int) - 1)) (rdF l (p6 + 1) (d + 1)) = rdF l (p6 + 1) d := by
                rw [ed]; rfl
              refine ⟨_, rfl, ?_⟩
              show Q v8 (upd H9 a (.ins C dx (putF "depth" (.int (((d + 1 : Nat) : Int) - 1)) (rdF l (p6 + 1) (d + 1)))))
              rw [hput]
              have b10 : But a H9 (upd H9 a (.ins C dx (rdF l (p6 + 1) d))) := But.upd
              exact hT8 v8 _ (p6 + 1) ((b8.trans b9).trans b10) (hR9.but b10 upd_same) (head_ne (by rw [he]; exact n8)) rfl (Dp.but b10 hR9.at_ (Dp.but b9 hR8.at_ hv8))
end
end Eu
set_option Elab.async false
set_option linter.all false
set_option maxRecDepth 100000
set_option maxHeartbeats 4000000
set_option pp.maxSteps 3000
set_option pp.deepTerms false
namespace Gr
open PySem PySem.Spec
open Eu (letter nameS)
/-- the tokens of any thing -/
def toksOf : PyData → Option (List Str)
  | .str z => if 200 < ((z.length : Nat) : Int) - Txt.count z " " then none else tokens z
  | _ => none
def readE (n : Nat) (d : PyData) : Res := match toksOf d with
  | none => some none
  | some ts => wholeF n ts
/-- what tokens may be, with k signs to come -/
structure Lim (N k : Nat) (f : List Str) (w : Str) : Prop where
  hw : w.length + k ≤ N ∧ ∀ c ∈ w.cps.toList, c < 128
  ht : ∀ t ∈ f, t.length + k ≤ N ∧ ∀ c ∈ t.cps.toList, c < 128
  hf : f.length + (if w = "" then 0 else 1) + k ≤ N
theorem app_cps (a b : Str) : (a ++ b).cps.toList = a.cps.toList ++ b.cps.toList := by
  show (a.cps ++ b.cps).toList = _
  simp
theorem Lim.word {N k : Nat} {f : List Str} {w : Str} (h : Lim N k f w) : (∀ t ∈ (if w = "" then f else f ++ [w]), t.length + k ≤ N ∧ ∀ c ∈ t.cps.toList, c < 128) ∧ (if w = "" then f else f ++ [w]).length + k ≤ N := by
  have hf := h.hf
  by_cases hw : w = ""
  · rw [if_pos hw] at hf ⊢
    exact ⟨h.ht, by omega⟩
  · rw [if_neg hw] at hf ⊢
    refine ⟨fun t ht => ?_, by rw [List.length_append, List.length_singleton]; omega⟩
    rcases List.mem_append.mp ht with ht | ht
    · exact h.ht t ht
    · rw [List.mem_singleton.mp ht]
      exact h.hw
theorem step_lim {N k : Nat} {p : Option Nat} {c : Nat} {f f' : List Str} {w w' : Str} (h : Lim N (k + 1) f w) (e : tokStep p c f w = some (f', w')) : Lim N k f' w' := by
  obtain ⟨h1, h2⟩ := h.word
  have e0 : ("" : Str).length = 0 := rfl
  unfold tokStep at e
  by_cases hl : letter c = true
  · rw [if_pos hl] at e
    cases e
    have hw := h.hw
    refine ⟨⟨?_, fun x hx => ?_⟩, fun t ht => ⟨by have := (h.ht t ht).1; omega, (h.ht t ht).2⟩, ?_⟩
    · have : (w ++ one c).length = w.length + 1 := by rw [strLen_append]; rfl
      omega
    · rw [app_cps] at hx
      rcases List.mem_append.mp hx with hx | hx
      · exact hw.2 x hx
      · have : x = c := by simpa using hx
        unfold letter at hl
        simp only [Bool.and_eq_true, decide_eq_true_eq] at hl
        omega
    · have := h.hf
      split <;> omega
  · rw [if_neg hl] at e
    dsimp only at e
    generalize (if w = "" then f else f ++ [w]) = g at e h1 h2
    split at e
    · rename_i hc
      cases e
      refine ⟨⟨by omega, fun x hx => by cases hx⟩, fun t ht => ?_, ?_⟩
      · rcases List.mem_append.mp ht with ht | ht
        · have := h1 t (List.dropLast_subset _ ht)
          exact ⟨by omega, this.2⟩
        · rw [List.mem_singleton.mp ht]
          have hlen : (g.getLastD "" ++ one c).length = (g.getLastD "").length + 1 := by rw [strLen_append]; rfl
          have hin : (g.getLastD "").length + (k + 1) ≤ N ∧ ∀ c ∈ (g.getLastD "").cps.toList, c < 128 := by
            cases g with
            | nil => exact ⟨by have : (([] : List Str).getLastD "").length = 0 := rfl; simp at h2; omega, fun x hx => by cases hx⟩
            | cons a r => exact h1 _ (by rw [List.getLastD_cons]; exact List.getLastD_mem_cons)
          refine ⟨by rw [hlen]; omega, fun x hx => ?_⟩
          rw [app_cps] at hx
          rcases List.mem_append.mp hx with hx | hx
          · exact hin.2 x hx
          · have : x = c := by simpa using hx
            omega
      · rw [if_pos rfl, List.length_append, List.length_dropLast, List.length_singleton]
        omega
    · split at e
      · rename_i hc
        cases e
        refine ⟨⟨by omega, fun x hx => by cases hx⟩, fun t ht => ?_, ?_⟩
        · rcases List.mem_append.mp ht with ht | ht
          · have := h1 t ht
            exact ⟨by omega, this.2⟩
          · rw [List.mem_singleton.mp ht]
            refine ⟨by have : (one c).length = 1 := rfl; omega, fun x hx => ?_⟩
            have : x = c := by simpa using hx
            unfold signC opC at hc
            simp only [List.mem_cons, List.not_mem_nil, or_false] at hc
            omega
        · rw [if_pos rfl, List.length_append, List.length_singleton]
          omega
      · split at e
        · cases e
          exact ⟨⟨by omega, fun x hx => by cases hx⟩, fun t ht => ⟨by have := (h1 t ht).1; omega, (h1 t ht).2⟩, by rw [if_pos rfl]; omega⟩
        · cases e
theorem toks_lim {N : Nat} : ∀ {cs : List Nat} {p : Option Nat} {f ts : List Str} {w : Str}, Lim N cs.length f w → toksF p cs f w = some ts → (∀ t ∈ ts, t.length ≤ N ∧ ∀ c ∈ t.cps.toList, c < 128) ∧ ts.length ≤ N
  | [], p, f, ts, w, h, e => by
    have e' : some (if w = "" then f else f ++ [w]) = some ts := e
    cases e'
    obtain ⟨h1, h2⟩ := h.word
    exact ⟨fun t ht => ⟨by have := (h1 t ht).1; omega, (h1 t ht).2⟩, by omega⟩
  | c :: r, p, f, ts, w, h, e => by
    unfold toksF at e
    cases hs : tokStep p c f w with
    | none => rw [hs] at e; cases e
    | some x =>
      obtain ⟨f', w'⟩ := x
      rw [hs] at e
      exact toks_lim (step_lim h hs) e
end Gr
namespace Eu
open PySem PySem.Spec PyProof.Rows L2
open C8 (pe_gc pss_cut)
open Gr
theorem tokens_ok {z : Str} {ts : List Str} (hz : z.length ≤ 5000) (h : tokens z = some ts) : TokOk ts := by
  have e0 : ("" : Str).length = 0 := rfl
  have lim : Lim z.length z.cps.toList.length [] "" := ⟨⟨by rw [e0]; simp [Str.length], (fun x hx => by cases hx)⟩, (fun t ht => by cases ht), by rw [if_pos rfl]; simp [Str.length]⟩
  obtain ⟨h1, h2⟩ := toks_lim lim h
  refine ⟨by omega, fun t ht => ?_⟩
  obtain ⟨a, b⟩ := h1 t ht
  refine ⟨?_, ?_⟩
  · show 10 * t.length + 2 ≤ 100000
    omega
  · show (t.cps.toList.all fun c => decide (c < 1114112)) = true
    rw [List.all_eq_true]
    intro c hc
    exact decide_eq_true (by have := b c hc; omega)
abbrev s_reader_of : Stmt := top 19
theorem sc_reader_of : FnScope ["text", "tokens"] ["text"] (defScope s_reader_of) :=
  ⟨rfl, rfl, rfl, by decide +kernel, rfl, by decide +kernel, by decide +kernel⟩
def spWhole (K : PySem.W.Frag) (C CB : Addr) (n : Nat) : Sp := fun vs H Q E => ∃ (a dx l : Addr) (toks : List Str) (p : Nat), vs = [.ref a] ∧ Rdr C H a dx l toks p 0 ∧ p ≤ toks.length ∧ TokOk toks ∧ wholeF n (toks.drop p) ≠ none ∧
  (wholeF n (toks.drop p) = some none → Bad CB a H E) ∧ ∀ e r, wholeF n (toks.drop p) = some (some (e, r)) → ∀ v H', But a H H' → Dp K H' v e → Q v H'
/-- a bad row is raised, nothing changed -/
def BadS (CB : Addr) (H : Hp) (E : XK) : Prop := ∀ dd H', Same H H' → H' dd = some (.xd [("place", .int 0)]) → E (.ref CB) (some dd) H'
theorem BadS.raise {CB : Addr} {H : Hp} {E : XK} (h : BadS CB H E) : [V.int 0].length ≤ 1000 ∧ ∀ b, H b = none → spErr CB "place" (.ref b :: ([.int 0] ++ [])) (upd H b (exo b CB none))
      (fun u H2 => u = .non ∧ ∃ (d : Addr) (fs : List (Str × V)), H2 b = some (exo b CB (some d)) ∧ H2 d = some (exd d fs) ∧ H d = none ∧ E (.ref CB) (some d) (upd (del H2 b) d (.xd fs))) (fun _ _ _ => False) :=
  use_err fun d H' nd s x => h d H' s x
theorem BadS.of {CB : Addr} {H H1 : Hp} {E : XK} (h : BadS CB H E) (s : Same H H1) : BadS CB H1 E := fun dd H' b x => h dd H' (s.trans b) x
def SmallT (d : PyData) : Prop := Small d ∧ ∀ z, d = .str z → z.length ≤ 5000
def spReaderOf (K : PySem.W.Frag) (C CB : Addr) : Sp := fun vs H Q E => ∃ (x : V) (t : PyData), vs = [x] ∧ Th K H x t ∧ SmallT t ∧ (toksOf t = none → BadS CB H E) ∧
  ∀ ts, toksOf t = some ts → ∀ (a dx l : Addr) H', Same H H' → H a = none → Rdr C H' a dx l ts 0 0 → Q (.ref a) H'
def spRead (K : PySem.W.Frag) (C CB : Addr) (n : Nat) : Sp := fun vs H Q E => ∃ (x : V) (t : PyData), vs = [x] ∧ Th K H x t ∧ SmallT t ∧ readE n t ≠ none ∧ (readE n t = some none → BadS CB H E) ∧
  ∀ e r, readE n t = some (some (e, r)) → ∀ v H', Same H H' → Dp K H' v e → Q v H'
section
variable {P : Program} {w : World} {K : PySem.W.Frag} {mg : Str → Option Value} {base : Heap} {kw ka C CB : Addr}
theorem ok_ops (B : Bl mg) (T : Gg K mg ka) (F : Frc K mg C) (e_BadRow : Exo P w K mg base "BadRow" CB "place") (c_is_name : Cal P w K mg base 2 "is_name" (spB K nameD) []) (m_next : Met P w K mg base 1 C "next_token" (spNext C) []) (m_step : Met P w K mg base 2 C "step" (spStep C) []) (m_expect : MetX P w K mg base 3 C "expect" (spExpect C CB) [])
    (D1 : Dm K C "operation" "Reader.operation" s_Reader_operation []) (D2 : Dm K C "part" "Reader.part" s_Reader_part []) : ∀ n, MetX P w K mg base (n + 5) C "operation" (spOp K C CB n) [] ∧ MetX P w K mg base (n + 5) C "part" (spPart K C CB n) []
  | 0 => by
    constructor
    · refine D1.metX (k := 4) F.cls sc_Reader_operation (fun _ _ _ _ _ _ us hl => match us, hl with | [_, _], _ => rfl) (fun vs H Q E h => ?_) (fun f cdv A out s H vs Q E hr h => ?_)
      · obtain ⟨a, dx, l, toks, lv, p, d, rfl, _⟩ := h
        rfl
      · obtain ⟨a, dx, l, toks, lv, p, d, _, _, _, _, _, hT⟩ := h
        unfold opF at hT
        exact False.elim hT
    · refine D2.metX (k := 4) F.cls sc_Reader_part (fun _ _ _ _ _ _ us hl => match us, hl with | [_], _ => rfl) (fun vs H Q E h => ?_) (fun f cdv A out s H vs Q E hr h => ?_)
      · obtain ⟨a, dx, l, toks, p, d, rfl, _⟩ := h
        rfl
      · obtain ⟨a, dx, l, toks, p, d, _, _, _, _, hT⟩ := h
        unfold partF at hT
        exact False.elim hT
  | n + 1 => by
    obtain ⟨h1, h2⟩ := ok_ops B T F e_BadRow c_is_name m_next m_step m_expect D1 D2 n
    exact ⟨ok_op_step B T F n m_next m_step h1 h2 D1, ok_part_step T F n e_BadRow c_is_name m_step m_expect h1 D2⟩
theorem ok_whole (T : Gg K mg ka) (F : Frc K mg C) (n : Nat) (m_Reader_expect : MetX P w K mg base 3 C "expect" (spExpect C CB) []) (m_Reader_operation : MetX P w K mg base (n + 5) C "operation" (spOp K C CB n) [])
    (D : Dm K C "whole" "Reader.whole" s_Reader_whole []) : MetX P w K mg base (n + 6) C "whole" (spWhole K C CB n) [] := by
  refine D.metX (k := n + 5) F.cls sc_Reader_whole (fun _ _ _ _ _ _ us hl => match us, hl with | [_], _ => rfl) (fun vs H Q E h => ?_) (fun f cdv A out s H vs Q E hr h => ?_)
  · obtain ⟨a, dx, l, toks, p, rfl, _⟩ := h
    rfl
  · obtain ⟨a, dx, l, toks, p, rfl, hR, hp, tok, q0, q1, q2⟩ := h
    refine ⟨_, (pss_cons (ps_set (i := 1) sc_Reader_whole.nd rfl (Or.inl rfl) (pe_mtX m_Reader_operation hr (by omega) passX (pv 0) (pa_cons pe_int pa_nil)))
(pss_cons (ps_expr (pe_mtX m_Reader_expect hr (by omega) passX (pv 0) (pa_cons (pe_gc (by rfl) T.g_END) pa_nil)))
(pss_one (ps_ret (pv 1))))), ?_⟩
    refine ⟨_, rfl, a, dx, _, rfl, hR.at_, rfl, a, dx, l, toks, 0, p, 0, rfl, by omega, hR, hp, tok, ?_⟩
    unfold wholeF at q0 q1 q2
    match h1 : opF n 0 0 (toks.drop p) with
    | none => rw [h1] at q0; exact absurd rfl q0
    | some none => rw [h1] at q1; exact q1 rfl
    | some (some (e, r)) =>
      rw [h1] at q1 q2
      intro v H1 p1 b1 hR1 hp1 hr1 hv
      subst hr1
      dsimp only at q1 q2
      refine ⟨_, rfl, a, dx, _, rfl, hR1.at_, rfl, a, dx, l, toks, p1, 0, "", rfl, hR1, fun hne => ?_, fun he H2 b2 hR2 => ?_⟩
      · rw [if_neg hne] at q1
        exact Bad.of (q1 rfl) b1
      · rw [if_pos he] at q2
        exact ⟨_, rfl, q2 e [] rfl v H2 (b1.trans b2) (Dp.but b2 hR1.at_ hv)⟩
theorem ok_reader (B : Bl mg) (T : Gg K mg ka) (F : Frc K mg C) (e_BadRow : Exo P w K mg base "BadRow" CB "place") (c_tokens_of : Cal P w K mg base 2 "tokens_of" spTokens []) (m_Reader : Mak P w K mg base 1 "Reader" C (spRInit C) []) (D : Df K mg "reader_of" s_reader_of) : CalX P w K mg base 4 "reader_of" (spReaderOf K C CB) [] := by
  refine D.calX (k := 3) sc_reader_of (fun _ _ _ _ _ _ us hl => match us, hl with | [_], _ => rfl) (fun vs H Q E h => ?_) (fun f cdv A out s H vs Q E hr h => ?_)
  · obtain ⟨x, t, rfl, _⟩ := h
    rfl
  · obtain ⟨x, t, rfl, hx, ⟨sm, sz⟩, q1, q2⟩ := h
    refine ⟨_, (pss_cons (ps_if (PW.pt (pw_or (pt_not (pt_val (pe_callB call_isi (by rfl) B.isinstance (by decide +kernel) (pa_cons (pv 0) (pa_cons (pe_bltn (v := .ty "str") (u := .type "str") (by rfl) B.str (by decide +kernel) rfl) pa_nil))))) (pw_or1 (pt_cmpR op_gt (pe_op op_sub (pe_callB call_len_str (by rfl) B.len (by decide +kernel) (pa_cons (pv 0) pa_nil)) (pe_m1 PySem.F.slot_str_count PySem.F.type_str_count mt_count (pv 0) pe_str)) (pe_gc (by rfl) T.g_LONGEST_ROW) (nomark _)))))
(pss_one (ps_raise rfl (takes_of rfl rfl rfl rfl) (pmk_B e_BadRow hr (by decide) (by rfl) pe_int)))
pss_nil)
(pss_cons (ps_set (i := 1) sc_reader_of.nd rfl (Or.inl rfl) (pe_c c_tokens_of hr (by decide) (by rfl) (pa_cons (pv 0) pa_nil)))
(pss_cons (ps_if (pt_cmpR op_isN (pv 1) pe_non (nomark _))
(pss_one (ps_raise rfl (takes_of rfl rfl rfl rfl) (pmk_B e_BadRow hr (by decide) (by rfl) pe_int)))
pss_nil)
(pss_one (ps_ret (pe_mk m_Reader hr (by decide) (by rfl) (pa_cons (pv 1) pa_nil))))))), ?_⟩
    refine ⟨_, rfl, _, _, _, _, _, rfl, .ty _, tyx_th hx, kit_ty (kit_str t), _, rfl, ?_⟩
    by_cases hs : isS t = true
    · obtain ⟨z, rfl⟩ : ∃ z, t = .str z := by
        cases t <;> first | exact ⟨_, rfl⟩ | cases hs
      have e := th_str hx
      subst e
      have hz := sz z rfl
      refine iteF ?_
      refine ⟨_, rfl, z, rfl, Nat.le_trans hz (by decide), _, rfl, ⟨_, rfl⟩, z, " ", rfl, rfl, _, _, rfl, rfl, _, _, rfl, rfl, _, rfl, ?_⟩
      have et : toksOf (.str z) = if 200 < ((z.length : Nat) : Int) - Txt.count z " " then none else tokens z := rfl
      by_cases h2 : 200 < ((z.length : Nat) : Int) - Txt.count z " "
      · rw [if_pos h2] at et
        refine iteD h2 ?_
        exact (q1 et).raise
      · rw [if_neg h2] at et
        refine iteDF h2 ?_
        refine ⟨_, rfl, z, rfl, by omega, fun hn H1 s1 => ?_, fun ts hts l H1 s1 nl hl => ?_⟩
        · exact ⟨_, rfl, rfl, _, rfl, iteD rfl ((q1 (et.trans hn)).of s1).raise⟩
        · refine ⟨_, rfl, rfl, _, rfl, iteDF (fun z => nomatch z) ?_⟩
          refine ⟨_, rfl, fun x dx hx1 hdx ne => ?_⟩
          have sA : Same H1 (upd H1 dx (.own x)) := same_new hdx
          have hx2 : (upd H1 dx (.own x)) x = none := by rw [upd_ne ne.symm]; exact hx1
          have sB := sA.trans (same_new (o := .ins C dx []) hx2)
          refine ⟨x, dx, l, rfl, upd_same, fun H2 b2 h2x => ⟨rfl, ?_⟩⟩
          have s2 : Same H1 H2 := fun c o z => b2.at (ne_of_none z hx1) (sB _ _ z)
          exact q2 ts (et.trans hts) x dx l H2 (s1.trans s2) (s1.free hx1) ⟨h2x, s2 _ _ hl⟩
    · rw [eq_false_of_ne_true hs]
      refine iteT (iteT ?_)
      have et : toksOf t = none := by cases t <;> first | rfl | exact absurd rfl hs
      exact (q1 et).raise
end
end Eu
set_option Elab.async false
set_option linter.all false
set_option maxRecDepth 100000
set_option maxHeartbeats 4000000
set_option pp.maxSteps 3000
set_option pp.deepTerms false
namespace Eu
open PySem PySem.Spec PyProof.Rows L2
open C8 (pe_gc pss_cut)
open Gr
abbrev s_read_expression : Stmt := top 20
theorem sc_read_expression : FnScope ["text"] ["text"] (defScope s_read_expression) :=
  ⟨rfl, rfl, rfl, by decide +kernel, rfl, by decide +kernel, by decide +kernel⟩
section
variable {P : Program} {w : World} {K : PySem.W.Frag} {mg : Str → Option Value} {base : Heap} {kw ka C CB : Addr}
theorem ok_read (n : Nat) (c_reader_of : CalX P w K mg base 4 "reader_of" (spReaderOf K C CB) []) (m_Reader_whole : MetX P w K mg base (n + 6) C "whole" (spWhole K C CB n) []) (D : Df K mg "read_expression" s_read_expression) : CalX P w K mg base (n + 7) "read_expression" (spRead K C CB n) [] ∧ CalXk P w K mg base (n + 7) "read_expression" ["text"] (spRead K C CB n) := by
  refine D.calXk (k := n + 6) sc_read_expression (fun _ _ _ _ _ _ us hl => match us, hl with | [_], _ => rfl) (fun _ _ _ _ _ _ us hl => match us, hl with | [_], _ => rfl) (fun vs H Q E h => ?_) (fun f cdv A out s H vs Q E hr h => ?_)
  · obtain ⟨x, t, rfl, _⟩ := h
    rfl
  · obtain ⟨x, t, rfl, hx, sm, q0, q1, q2⟩ := h
    refine ⟨_, (pss_one (ps_ret (pe_mt0X m_Reader_whole hr (by omega) passX (pe_cX c_reader_of hr (by omega) passX (by rfl) (pa_cons (pv 0) pa_nil))))), ?_⟩
    unfold readE at q0 q1 q2
    refine ⟨_, rfl, x, t, rfl, hx, sm, fun hn => ?_, fun ts hts a dx l H1 s1 na hR => ?_⟩
    · rw [hn] at q1
      exact q1 rfl
    · rw [hts] at q0 q1 q2
      have tok : TokOk ts := by
        cases t with
        | str z =>
          have h2 : (if 200 < ((z.length : Nat) : Int) - Txt.count z " " then none else tokens z) = some ts := hts
          by_cases h3 : 200 < ((z.length : Nat) : Int) - Txt.count z " "
          · rw [if_pos h3] at h2; cases h2
          · rw [if_neg h3] at h2
            exact tokens_ok (sm.2 z rfl) h2
        | _ => cases hts
      refine ⟨a, dx, _, rfl, hR.at_, rfl, a, dx, l, ts, 0, rfl, hR, Nat.zero_le _, tok, q0, fun hb dd H' b' x' => ?_, fun e r he v H' b' hv => ?_⟩
      · exact q1 hb dd H' (b'.back s1 na) x'
      · exact q2 e r he v H' (b'.back s1 na) hv
end
end Eu
set_option Elab.async false
set_option linter.all false
set_option maxRecDepth 100000
set_option maxHeartbeats 4000000
set_option pp.maxSteps 3000
/-! Tokens of expressions, and that they are read. -/
namespace Gr
open PySem PySem.Spec
open Eu (letter nameS)
inductive Ex : Nat → PyData → List Str → Nat → Prop
  | nm {z : Str} : nameS z = true → Ex 5 (.str z) [z] 0
  | par {e : PyData} {ts : List Str} {k : Nat} : Ex 0 e ts k → Ex 5 e (("(" : Str) :: (ts ++ [(")" : Str)])) (k + 1)
  | keys {e : PyData} {ts : List Str} {k : Nat} : Ex 0 e ts k → Ex 5 (.tuple [.str "keys", e]) (("keys" : Str) :: ("(" : Str) :: (ts ++ [(")" : Str)])) (k + 1)
  | look {e1 e2 : PyData} {t1 t2 : List Str} {k1 k2 : Nat} : Ex 0 e1 t1 k1 → Ex 0 e2 t2 k2 → Ex 5 (.tuple [.str "look", e1, e2]) (("look" : Str) :: ("(" : Str) :: (t1 ++ ("," : Str) :: (t2 ++ [(")" : Str)]))) (max k1 k2 + 1)
  | up {l : Nat} {e : PyData} {ts : List Str} {k : Nat} : l < 5 → Ex (l + 1) e ts k → Ex l e ts k
  | bin {l : Nat} {e1 e2 : PyData} {t1 t2 : List Str} {k1 k2 : Nat} : l < 5 → Ex l e1 t1 k1 → Ex (l + 1) e2 t2 k2 → Ex l (.tuple [.str (opAt l), e1, e2]) (t1 ++ opAt l :: t2) (max k1 k2)
/-- what may follow: no operator that binds so tightly -/
def Fol (l : Nat) (r : List Str) : Prop := ∀ j, l ≤ j → j < 5 → r.headD "" ≠ opAt j
theorem five {j : Nat} (h : j < 5) : j = 0 ∨ j = 1 ∨ j = 2 ∨ j = 3 ∨ j = 4 := by omega
theorem fol_of {z : Str} (h : ∀ j, j < 5 → z ≠ opAt j) (l : Nat) (r : List Str) : Fol l (z :: r) := fun j _ hj => h j hj
theorem close_op : ∀ j, j < 5 → (")" : Str) ≠ opAt j := fun j h => by rcases five h with rfl | rfl | rfl | rfl | rfl <;> decide +kernel
theorem comma_op : ∀ j, j < 5 → ("," : Str) ≠ opAt j := fun j h => by rcases five h with rfl | rfl | rfl | rfl | rfl <;> decide +kernel
theorem end_op : ∀ j, j < 5 → ("" : Str) ≠ opAt j := fun j h => by rcases five h with rfl | rfl | rfl | rfl | rfl <;> decide +kernel
theorem op_op {l j : Nat} (hl : l < 5) (hj : j < 5) (h : l < j) : opAt l ≠ opAt j := by
  rcases five hl with rfl | rfl | rfl | rfl | rfl <;> rcases five hj with rfl | rfl | rfl | rfl | rfl <;> first | omega | decide +kernel
theorem fol_nil (l : Nat) : Fol l [] := fun j _ hj => end_op j hj
theorem names : nameS "(" = false ∧ nameS "keys" = false ∧ nameS "look" = false := by decide +kernel
theorem unlike : ("(" : Str) ≠ "keys" ∧ ("(" : Str) ≠ "look" ∧ ("keys" : Str) ≠ "look" ∧ ("keys" : Str) ≠ "(" ∧ ("look" : Str) ≠ "(" ∧ ("look" : Str) ≠ "keys" := by decide +kernel
theorem part_nm {z : Str} {n d : Nat} {r : List Str} (h : nameS z = true) : partF (n + 1) d (z :: r) = some (some (.str z, r)) := by
  unfold partF
  show (if nameS z = true then _ else _) = _
  rw [if_pos h]
  rfl
theorem part_par {n d : Nat} {r : List Str} : partF (n + 1) d (("(" : Str) :: r) = bodyF (fun q => opF n 0 (d + 1) q) d "(" r := by
  unfold partF
  show (if nameS "(" = true then _ else _) = _
  rw [if_neg (by rw [names.1]; exact Bool.false_ne_true)]
  show (if ("(" : Str) = "(" then _ else _) = _
  rw [if_pos rfl]
  rfl
theorem part_word {n d : Nat} {z : Str} {r : List Str} (h : z = "keys" ∨ z = "look") : partF (n + 1) d (z :: ("(" : Str) :: r) = bodyF (fun q => opF n 0 (d + 1) q) d z r := by
  obtain ⟨_, _, _, u4, u5, _⟩ := unlike
  have h1 : ¬ nameS z = true := by
    rcases h with rfl | rfl
    · rw [names.2.1]; exact Bool.false_ne_true
    · rw [names.2.2]; exact Bool.false_ne_true
  have h2 : ¬ z = "(" := by
    rcases h with rfl | rfl
    · exact u4
    · exact u5
  unfold partF
  show (if nameS z = true then _ else _) = _
  rw [if_neg h1]
  show (if z = "(" then _ else _) = _
  rw [if_neg h2]
  show (if z = "keys" ∨ z = "look" then _ else _) = _
  rw [if_pos h]
  show (if ("(" : Str) = "(" then _ else _) = _
  rw [if_pos rfl]
  rfl
theorem op5 (n d : Nat) (ts : List Str) : opF (n + 1) 5 d ts = partF n d ts := by
  show (if (5 : Nat) = 5 then _ else _) = _
  rw [if_pos rfl]
theorem close_ok (e : PyData) (r : List Str) : closeF e ((")" : Str) :: r) = some (some (e, r)) := by
  unfold closeF
  show (if (")" : Str) = ")" then _ else _) = _
  rw [if_pos rfl]
  rfl
/-- all of it is read, whatever follows that does not bind so tightly -/
def Full (l : Nat) (e : PyData) (ts : List Str) (k : Nat) : Prop := ∀ n d rest, d + k ≤ 8 → 7 * k + 7 ≤ n + l → Fol l rest → opF n l d (ts ++ rest) = some (some (e, rest))
/-- the same of a level below 5: the loop comes to it -/
def Goes (l : Nat) (e : PyData) (ts : List Str) (k : Nat) : Prop := ∀ n d rest, d + k ≤ 8 → 7 * k + 7 ≤ n + 1 + l → Fol (l + 1) rest →
  ∃ e0 r0 m, opF n (l + 1) d (ts ++ rest) = some (some (e0, r0)) ∧ rest.length + m ≤ r0.length ∧ ∀ c, loopF (fun q => opF n (l + 1) d q) (opAt l) (c + m) e0 r0 = loopF (fun q => opF n (l + 1) d q) (opAt l) c e rest
theorem Goes.full {l : Nat} {e : PyData} {ts : List Str} {k : Nat} (hl : l < 5) (h : Goes l e ts k) : Full l e ts k := by
  intro n d rest h8 hn hf
  obtain ⟨n, rfl⟩ : ∃ m, n = m + 1 := ⟨n - 1, by omega⟩
  obtain ⟨e0, r0, m, h1, h2, h3⟩ := h n d rest h8 hn (fun j hj h5 => hf j (by omega) h5)
  have e1 : opF (n + 1) l d (ts ++ rest) = loopF (fun q => opF n (l + 1) d q) (opAt l) (r0.length + 1) e0 r0 := by
    show (if l = 5 then partF n d (ts ++ rest) else match opF n (l + 1) d (ts ++ rest) with
      | some (some (e, r)) => loopF (fun q => opF n (l + 1) d q) (opAt l) (r.length + 1) e r
      | x => x) = _
    rw [if_neg (by omega), h1]
  rw [e1, show r0.length + 1 = (r0.length - m + 1) + m by omega, h3]
  unfold loopF
  rw [if_neg (hf l (Nat.le_refl _) hl)]
theorem body_ok {f : List Str → Res} {d : Nat} {e : PyData} {ts rest : List Str} (hd : d + 1 ≤ 8) (h : f (ts ++ (")" : Str) :: rest) = some (some (e, (")" : Str) :: rest))) :
    bodyF f d "(" (ts ++ (")" : Str) :: rest) = some (some (e, rest)) ∧ bodyF f d "keys" (ts ++ (")" : Str) :: rest) = some (some (.tuple [.str "keys", e], rest)) := by
  obtain ⟨u1, u2, u3, _⟩ := unlike
  constructor
  · unfold bodyF
    rw [if_neg (by omega), h]
    show (if ("(" : Str) = "look" then _ else _) = _
    rw [if_neg u2, if_neg u1, close_ok]
  · unfold bodyF
    rw [if_neg (by omega), h]
    show (if ("keys" : Str) = "look" then _ else _) = _
    rw [if_neg u3, if_pos rfl, close_ok]
theorem body_look {f : List Str → Res} {d : Nat} {e e2 : PyData} {ts t2 rest : List Str} (hd : d + 1 ≤ 8) (h : f ts = some (some (e, ("," : Str) :: t2))) (h2 : f t2 = some (some (e2, (")" : Str) :: rest))) :
    bodyF f d "look" ts = some (some (.tuple [.str "look", e, e2], rest)) := by
  unfold bodyF
  rw [if_neg (by omega), h]
  show (if ("look" : Str) = "look" then _ else _) = _
  rw [if_pos rfl]
  show (if ("," : Str) = "," then _ else _) = _
  rw [if_pos rfl]
  show (match f t2 with
    | some (some (e2, r2)) => closeF (.tuple [.str "look", e, e2]) r2
    | x => x) = _
  rw [h2]
  exact close_ok _ _
theorem ex_goes {l : Nat} {e : PyData} {ts : List Str} {k : Nat} (h : Ex l e ts k) : (l = 5 → Full 5 e ts k) ∧ (l < 5 → Goes l e ts k) := by
  induction h with
  | @nm z hz =>
    refine ⟨fun _ n d rest h8 hn hf => ?_, fun h => absurd h (by decide)⟩
    obtain ⟨n, rfl⟩ : ∃ m, n = m + 1 + 1 := ⟨n - 2, by omega⟩
    rw [op5]
    exact part_nm hz
  | @par e ts k _ ih =>
    refine ⟨fun _ n d rest h8 hn hf => ?_, fun h => absurd h (by decide)⟩
    obtain ⟨n, rfl⟩ : ∃ m, n = m + 1 + 1 := ⟨n - 2, by omega⟩
    rw [op5, List.cons_append, part_par, List.append_assoc]
    exact (body_ok (by omega) ((ih.2 (by decide)).full (by decide) n (d + 1) ((")" : Str) :: rest) (by omega) (by omega) (fol_of close_op _ _))).1
  | @keys e ts k _ ih =>
    refine ⟨fun _ n d rest h8 hn hf => ?_, fun h => absurd h (by decide)⟩
    obtain ⟨n, rfl⟩ : ∃ m, n = m + 1 + 1 := ⟨n - 2, by omega⟩
    rw [op5, List.cons_append, List.cons_append, part_word (.inl rfl), List.append_assoc]
    exact (body_ok (by omega) ((ih.2 (by decide)).full (by decide) n (d + 1) ((")" : Str) :: rest) (by omega) (by omega) (fol_of close_op _ _))).2
  | @look e1 e2 t1 t2 k1 k2 _ _ ih1 ih2 =>
    refine ⟨fun _ n d rest h8 hn hf => ?_, fun h => absurd h (by decide)⟩
    obtain ⟨n, rfl⟩ : ∃ m, n = m + 1 + 1 := ⟨n - 2, by omega⟩
    rw [op5, List.cons_append, List.cons_append, part_word (.inr rfl), List.append_assoc, List.cons_append, List.append_assoc]
    have a1 := (ih1.2 (by decide)).full (by decide) n (d + 1) (("," : Str) :: (t2 ++ ([(")" : Str)] ++ rest))) (by omega) (by omega) (fol_of comma_op _ _)
    have a2 := (ih2.2 (by decide)).full (by decide) n (d + 1) ((")" : Str) :: rest) (by omega) (by omega) (fol_of close_op _ _)
    exact body_look (by omega) a1 a2
  | @up l e ts k hl _ ih =>
    refine ⟨fun h => absurd h (by omega), fun _ n d rest h8 hn hf => ?_⟩
    have full : Full (l + 1) e ts k := by
      by_cases h5 : l + 1 = 5
      · rw [h5] at ih ⊢
        exact ih.1 rfl
      · exact (ih.2 (by omega)).full (by omega)
    exact ⟨e, rest, 0, full n d rest h8 (by omega) hf, Nat.le_refl _, fun c => rfl⟩
  | @bin l e1 e2 t1 t2 k1 k2 hl _ _ ih1 ih2 =>
    refine ⟨fun h => absurd h (by omega), fun _ n d rest h8 hn hf => ?_⟩
    have full2 : Full (l + 1) e2 t2 k2 := by
      by_cases h5 : l + 1 = 5
      · rw [h5] at ih2 ⊢
        exact ih2.1 rfl
      · exact (ih2.2 (by omega)).full (by omega)
    have hf1 : Fol (l + 1) (opAt l :: (t2 ++ rest)) := fun j hj h5 => op_op hl h5 (by omega)
    obtain ⟨e0, r0, m, a1, a2, a3⟩ := ih1.2 hl n d (opAt l :: (t2 ++ rest)) (by omega) (by omega) hf1
    refine ⟨e0, r0, m + 1, by rw [List.append_assoc]; exact a1, ?_, fun c => ?_⟩
    · rw [List.length_cons, List.length_append] at a2
      omega
    · rw [show c + (m + 1) = (c + 1) + m by omega, a3 (c + 1)]
      show (if opAt l = opAt l then (match opF n (l + 1) d (t2 ++ rest) with
        | some (some (e2, r)) => loopF (fun q => opF n (l + 1) d q) (opAt l) c (.tuple [.str (opAt l), e1, e2]) r
        | x => x) else some (some (e1, opAt l :: (t2 ++ rest)))) = _
      rw [if_pos rfl, full2 n d rest (by omega) (by omega) hf]
theorem Ex.full {l : Nat} {e : PyData} {ts : List Str} {k : Nat} (h : Ex l e ts k) (hl : l ≤ 5) : Full l e ts k := by
  by_cases h5 : l = 5
  · subst h5
    exact (ex_goes h).1 rfl
  · exact ((ex_goes h).2 (by omega)).full (by omega)
/-- a whole text -/
theorem Ex.whole {e : PyData} {ts : List Str} {k n : Nat} (h : Ex 0 e ts k) (hk : k ≤ 8) (hn : 63 ≤ n) : wholeF n ts = some (some (e, [])) := by
  unfold wholeF
  have := h.full (by decide) n 0 [] (by omega) (by omega) (fol_nil _)
  rw [List.append_nil] at this
  rw [this]
  rfl
theorem Ex.down {l j : Nat} {e : PyData} {ts : List Str} {k : Nat} (h : Ex l e ts k) (hj : j ≤ l) (hl : l ≤ 5) : Ex j e ts k := by
  have go : ∀ m j, j + m = l → Ex j e ts k := by
    intro m
    induction m with
    | zero => intro j e; rw [Nat.add_zero] at e; rw [e]; exact h
    | succ m ih => intro j e; exact .up (by omega) (ih (j + 1) (by omega))
  exact go (l - j) j (by omega)
end Gr
set_option Elab.async false
set_option linter.all false
set_option maxRecDepth 100000
set_option maxHeartbeats 4000000
set_option pp.maxSteps 3000
/-! Texts of tokens, with spaces between. -/
namespace Gr
open PySem PySem.Spec PyProof.Rows
open Eu (letter letters nameS repS)
def wordT (z : Str) : Prop := z ≠ "" ∧ letters z = true
def lone : List Nat := [40, 41, 44, 124, 94, 38, 45, 64]
def signT (z : Str) : Prop := ∃ c ∈ lone, z = one c
def fl (f : List Str) (w : Str) : List Str := if w = "" then f else f ++ [w]
/-- a text, read so far -/
structure Rd (z : Str) (ts : List Str) (b : Bool) : Prop where
  fed : ∃ f w p, (∀ r, toksF none (z.cps.toList ++ r) [] "" = toksF p r f w) ∧ fl f w = ts ∧ (b = false → w = "")
  cnt : (z.cps.toList.length : Int) - cnt 32 z.cps.toList = ((ts.map Str.length).sum : Nat)
theorem Rd.nil : Rd "" [] false := ⟨⟨[], "", none, fun r => rfl, rfl, fun _ => rfl⟩, rfl⟩
theorem Rd.done {z : Str} {ts : List Str} {b : Bool} (h : Rd z ts b) : tokens z = some ts := by
  obtain ⟨f, w, p, h1, h2, _⟩ := h.fed
  have := h1 []
  rw [List.append_nil] at this
  unfold tokens
  rw [this, ← h2]
  rfl
theorem Rd.count {z : Str} {ts : List Str} {b : Bool} (h : Rd z ts b) : ((z.length : Nat) : Int) - Txt.count z " " = ((ts.map Str.length).sum : Nat) := by
  rw [show (" " : Str) = ⟨#[32]⟩ by decide +kernel, count_cnt, ← h.cnt]
  rfl
theorem letters_word {cs : List Nat} : ∀ {p : Option Nat} {f : List Str} {w : Str} {r : List Nat}, cs.all letter = true → ∃ p', ∀ r, toksF p (cs ++ r) f w = toksF p' r f (w ++ ⟨cs.toArray⟩) := by
  induction cs with
  | nil =>
    intro p f w r _
    have e : w ++ (⟨[].toArray⟩ : Str) = w := by show (⟨w.cps ++ #[]⟩ : Str) = w; simp
    exact ⟨p, fun r => by rw [List.nil_append, e]⟩
  | cons c cs ih =>
    intro p f w r h
    rw [List.all_cons, Bool.and_eq_true] at h
    obtain ⟨p', hp⟩ := ih (p := some c) (f := f) (w := w ++ one c) (r := r) h.2
    refine ⟨p', fun r => ?_⟩
    have e : toksF p (c :: cs ++ r) f w = toksF (some c) (cs ++ r) f (w ++ one c) := by
      show (match tokStep p c f w with
        | none => none
        | some (f', w') => toksF (some c) (cs ++ r) f' w') = _
      have : tokStep p c f w = some (f, w ++ one c) := by unfold tokStep; rw [if_pos h.1]
      rw [this]
    rw [e, hp]
    congr 1
    show (⟨w.cps ++ #[c] ++ cs.toArray⟩ : Str) = ⟨w.cps ++ (c :: cs).toArray⟩
    congr 1
    apply Array.ext'
    simp
theorem nil_app (z : Str) : "" ++ z = z := by
  show (⟨#[] ++ z.cps⟩ : Str) = z
  simp
theorem len_sum (ts : List Str) (t : Str) : (((ts ++ [t]).map Str.length).sum : Nat) = (ts.map Str.length).sum + t.length := by
  rw [List.map_append, List.sum_append]
  simp
theorem free_letters {z : Str} (h : letters z = true) : (32 : Nat) ∉ z.cps.toList := fun hm => by
  have := List.all_eq_true.mp h 32 hm
  exact absurd this (by decide)
theorem Rd.word {z t : Str} {ts : List Str} (h : Rd z ts false) (ht : wordT t) : Rd (z ++ t) (ts ++ [t]) true := by
  obtain ⟨f, w, p, h1, h2, h3⟩ := h.fed
  have hw := h3 rfl
  subst hw
  have hf : f = ts := h2
  subst hf
  obtain ⟨p', hp⟩ := letters_word (p := p) (f := f) (w := "") (r := []) (show t.cps.toList.all letter = true from ht.2)
  refine ⟨⟨f, t, p', fun r => ?_, if_neg ht.1, fun z => nomatch z⟩, ?_⟩
  · rw [app_cps, List.append_assoc, h1, hp, Array.toArray_toList]
    rw [nil_app]
  · rw [app_cps, cnt_append, cnt_none 32 _ (free_letters ht.2), len_sum, List.length_append]
    have := h.cnt
    have e : t.length = t.cps.toList.length := by simp [Str.length]
    omega
theorem step_sign {p : Option Nat} {c : Nat} {f : List Str} {w : Str} (h : c ∈ lone) : tokStep p c f w = some (fl f w ++ [one c], ("" : Str)) := by
  have hl : ¬ letter c = true := by
    unfold lone at h
    simp only [List.mem_cons, List.not_mem_nil, or_false] at h
    rcases h with rfl | rfl | rfl | rfl | rfl | rfl | rfl | rfl <;> decide
  have h61 : ¬ c = 61 := by
    rintro rfl
    exact absurd h (by decide)
  have hs : c ∈ signC ∨ c ∈ opC := by
    unfold lone at h
    simp only [List.mem_cons, List.not_mem_nil, or_false] at h
    rcases h with rfl | rfl | rfl | rfl | rfl | rfl | rfl | rfl <;> decide
  unfold tokStep
  rw [if_neg hl]
  dsimp only
  rw [if_neg (fun z => h61 z.1), if_pos hs]
  rfl
theorem Rd.sign {z t : Str} {ts : List Str} {b : Bool} (h : Rd z ts b) (ht : signT t) : Rd (z ++ t) (ts ++ [t]) false := by
  obtain ⟨f, w, p, h1, h2, h3⟩ := h.fed
  obtain ⟨c, hc, rfl⟩ := ht
  refine ⟨⟨ts ++ [one c], "", some c, fun r => ?_, rfl, fun _ => rfl⟩, ?_⟩
  · rw [app_cps, List.append_assoc, h1]
    show (match tokStep p c f w with
        | none => none
        | some (f', w') => toksF (some c) r f' w') = _
    rw [step_sign hc, h2]
  · have h32 : (32 : Nat) ∉ (one c).cps.toList := by
      intro hm
      have : 32 = c := by simpa using hm
      subst this
      exact absurd hc (by decide)
    rw [app_cps, cnt_append, cnt_none 32 _ h32, len_sum, List.length_append]
    have := h.cnt
    have e : (one c).length = (one c).cps.toList.length := by simp [Str.length]
    omega
theorem Rd.gap {z : Str} {ts : List Str} {b : Bool} (h : Rd z ts b) : Rd (z ++ " ") ts b := by
  obtain ⟨f, w, p, h1, h2, h3⟩ := h.fed
  rw [show (" " : Str) = one 32 by decide +kernel]
  refine ⟨⟨ts, "", some 32, fun r => ?_, rfl, fun _ => rfl⟩, ?_⟩
  · rw [app_cps, List.append_assoc, h1]
    show (match tokStep p 32 f w with
        | none => none
        | some (f', w') => toksF (some 32) r f' w') = _
    have e : tokStep p 32 f w = some (fl f w, ("" : Str)) := by
      unfold tokStep
      rw [if_neg (by decide)]
      dsimp only
      rw [if_neg (fun z => absurd z.1 (by decide)), if_neg (by decide), if_pos rfl]
      rfl
    rw [e, h2]
  · rw [app_cps, cnt_append, List.length_append]
    have := h.cnt
    have e : PyProof.Rows.cnt 32 (one 32).cps.toList = 1 := rfl
    have e1 : (one 32).cps.toList.length = 1 := rfl
    omega
theorem repS_succ (n : Nat) : repS " " (n + 1) = repS " " n ++ " " := by
  unfold repS
  show (⟨_⟩ : Str) = ⟨_ ++ _⟩
  congr 1
  apply Array.ext'
  rw [List.replicate_succ', List.flatten_append]
  simp
theorem app_assoc (a b c : Str) : a ++ b ++ c = a ++ (b ++ c) := by
  show (⟨a.cps ++ b.cps ++ c.cps⟩ : Str) = ⟨a.cps ++ (b.cps ++ c.cps)⟩
  rw [Array.append_assoc]
theorem app_nil (z : Str) : z ++ "" = z := by
  show (⟨z.cps ++ #[]⟩ : Str) = z
  simp
theorem Rd.gaps {z : Str} {ts : List Str} {b : Bool} (h : Rd z ts b) : ∀ n, Rd (z ++ repS " " n) ts b
  | 0 => by
    have e : repS " " 0 = "" := by decide +kernel
    rw [e, app_nil]
    exact h
  | n + 1 => by
    rw [repS_succ, ← app_assoc]
    exact (Rd.gaps h n).gap
/-- no two words beside one another -/
inductive Apart : Bool → List Str → Prop
  | nil {b : Bool} : Apart b []
  | word {t : Str} {r : List Str} : wordT t → Apart true r → Apart false (t :: r)
  | sign {b : Bool} {t : Str} {r : List Str} : signT t → Apart false r → Apart b (t :: r)
theorem Apart.loose {b : Bool} {r : List Str} (h : Apart true r) : Apart b r := by
  cases h with
  | nil => exact .nil
  | sign h1 h2 => exact .sign h1 h2
theorem name_word {z : Str} (h : nameS z = true) : wordT z := by
  unfold nameS at h
  simp only [Bool.and_eq_true, decide_eq_true_eq] at h
  refine ⟨fun e => ?_, h.1.2⟩
  rw [e] at h
  exact absurd h.1.1.1 (by decide)
theorem sgn : signT "(" ∧ signT ")" ∧ signT "," := ⟨⟨40, by decide, by decide +kernel⟩, ⟨41, by decide, by decide +kernel⟩, ⟨44, by decide, by decide +kernel⟩⟩
theorem opT : ∀ l, l < 5 → signT (opAt l) := fun l h => by
  rcases five h with rfl | rfl | rfl | rfl | rfl
  · exact ⟨124, by decide, by decide +kernel⟩
  · exact ⟨94, by decide, by decide +kernel⟩
  · exact ⟨38, by decide, by decide +kernel⟩
  · exact ⟨45, by decide, by decide +kernel⟩
  · exact ⟨64, by decide, by decide +kernel⟩
theorem wrd : wordT "keys" ∧ wordT "look" := ⟨⟨by decide +kernel, by decide +kernel⟩, ⟨by decide +kernel, by decide +kernel⟩⟩
theorem Ex.apart {l : Nat} {e : PyData} {ts : List Str} {k : Nat} (h : Ex l e ts k) : ∀ {r : List Str}, Apart true r → Apart false (ts ++ r) := by
  induction h with
  | nm hz => intro r hr; exact .word (name_word hz) hr
  | par _ ih =>
    intro r hr
    rw [List.cons_append, List.append_assoc]
    exact .sign sgn.1 (ih (.sign sgn.2.1 hr.loose))
  | keys _ ih =>
    intro r hr
    rw [List.cons_append, List.cons_append, List.append_assoc]
    exact .word wrd.1 (.sign sgn.1 (ih (.sign sgn.2.1 hr.loose)))
  | look _ _ ih1 ih2 =>
    intro r hr
    rw [List.cons_append, List.cons_append, List.append_assoc, List.cons_append, List.append_assoc]
    exact .word wrd.2 (.sign sgn.1 (ih1 (.sign sgn.2.2 (ih2 (.sign sgn.2.1 hr.loose)))))
  | up _ _ ih => exact ih
  | bin hl _ _ ih1 ih2 =>
    intro r hr
    rw [List.append_assoc, List.cons_append]
    exact ih1 (.sign (opT _ hl) (ih2 hr))
/-! ### how many are open -/
def openF : List Str → Int × Int → Int × Int
  | [], x => x
  | t :: r, (d, m) => let d' := d + (if t = "(" then 1 else 0) - (if t = ")" then 1 else 0); openF r (d', max m d')
theorem openF_app : ∀ (a b : List Str) (x : Int × Int), openF (a ++ b) x = openF b (openF a x)
  | [], _, _ => rfl
  | t :: a, b, (d, m) => openF_app a b _
theorem open_sign {t : Str} {d m : Int} (h1 : t ≠ "(") (h2 : t ≠ ")") (hm : d ≤ m) (r : List Str) : openF (t :: r) (d, m) = openF r (d, m) := by
  show openF r (d + (if t = "(" then 1 else 0) - (if t = ")" then 1 else 0), max m (d + (if t = "(" then 1 else 0) - (if t = ")" then 1 else 0))) = _
  rw [if_neg h1, if_neg h2]
  congr 1
  have : d + 0 - 0 = d := by omega
  rw [this]
  congr 1
  omega
theorem par_ne : ("(" : Str) ≠ ")" := by decide +kernel
theorem open_par {d m : Int} (r : List Str) : openF ((("(" : Str)) :: r) (d, m) = openF r (d + 1, max m (d + 1)) := by
  show openF r (d + (if ("(" : Str) = "(" then 1 else 0) - (if ("(" : Str) = ")" then 1 else 0), max m (d + (if ("(" : Str) = "(" then 1 else 0) - (if ("(" : Str) = ")" then 1 else 0))) = _
  rw [if_pos rfl, if_neg par_ne]
  rw [show d + 1 - 0 = d + 1 by omega]
theorem close_par {d m : Int} (hm : d ≤ m) (r : List Str) : openF (((")" : Str)) :: r) (d, m) = openF r (d - 1, m) := by
  show openF r (d + (if (")" : Str) = "(" then 1 else 0) - (if (")" : Str) = ")" then 1 else 0), max m (d + (if (")" : Str) = "(" then 1 else 0) - (if (")" : Str) = ")" then 1 else 0))) = _
  rw [if_pos rfl, if_neg par_ne.symm]
  rw [show d + 0 - 1 = d - 1 by omega]
  congr 1
  congr 1
  omega
theorem word_par {z : Str} (h : wordT z) : z ≠ "(" ∧ z ≠ ")" := by
  constructor
  · rintro rfl
    exact absurd h.2 (by decide +kernel)
  · rintro rfl
    exact absurd h.2 (by decide +kernel)
theorem op_par : ∀ l, l < 5 → opAt l ≠ "(" ∧ opAt l ≠ ")" := fun l h => by
  rcases five h with rfl | rfl | rfl | rfl | rfl <;> decide +kernel
theorem Ex.open_ {l : Nat} {e : PyData} {ts : List Str} {k : Nat} (h : Ex l e ts k) : ∀ {d m : Int}, d ≤ m → openF ts (d, m) = (d, max m (d + (k : Nat))) := by
  induction h with
  | nm hz =>
    intro d m hm
    rw [open_sign (word_par (name_word hz)).1 (word_par (name_word hz)).2 hm]
    show (d, m) = _
    congr 1
    omega
  | @par e ts k _ ih =>
    intro d m hm
    rw [open_par, openF_app, ih (by omega), close_par (by omega)]
    show (_, _) = _
    congr 1 <;> omega
  | @keys e ts k _ ih =>
    intro d m hm
    rw [open_sign (word_par wrd.1).1 (word_par wrd.1).2 hm, open_par, openF_app, ih (by omega), close_par (by omega)]
    show (_, _) = _
    congr 1 <;> omega
  | @look e1 e2 t1 t2 k1 k2 _ _ ih1 ih2 =>
    intro d m hm
    have hc : ("," : Str) ≠ "(" ∧ ("," : Str) ≠ ")" := by decide +kernel
    rw [open_sign (word_par wrd.2).1 (word_par wrd.2).2 hm, open_par, openF_app, ih1 (by omega), open_sign hc.1 hc.2 (by omega), openF_app, ih2 (by omega), close_par (by omega)]
    show (_, _) = _
    congr 1 <;> omega
  | up _ _ ih => exact ih
  | @bin l e1 e2 t1 t2 k1 k2 hl _ _ ih1 ih2 =>
    intro d m hm
    rw [openF_app, ih1 hm, open_sign (op_par l hl).1 (op_par l hl).2 (by omega), ih2 (by omega)]
    congr 1
    omega
/-- a text of an expression is read -/
theorem Ex.reads {e : PyData} {ts : List Str} {k n : Nat} {z : Str} {b : Bool} (h : Ex 0 e ts k) (hk : k ≤ 8) (hn : 63 ≤ n) (hz : Rd z ts b) (hs : (ts.map Str.length).sum ≤ 200) : readE n (.str z) = some (some (e, [])) := by
  have hc := hz.count
  have e1 : toksOf (.str z) = some ts := by
    show (if 200 < ((z.length : Nat) : Int) - Txt.count z " " then none else tokens z) = _
    rw [if_neg (by omega), hz.done]
  unfold readE
  rw [e1]
  exact h.whole hk hn
end Gr
set_option Elab.async false
set_option linter.all false
set_option maxRecDepth 100000
set_option maxHeartbeats 4000000
set_option pp.maxSteps 3000
/-! Expressions, their texts and their tokens. -/
namespace Gr
open PySem PySem.Spec PyProof.Rows
open Eu (letter letters nameS repS)
inductive Xp where
  | nm (z : Str)
  | ky (e : Xp)
  | lk (a b : Xp)
  | op (l : Nat) (a b : Xp)
namespace Xp
def dat : Xp → PyData
  | nm z => .str z
  | ky e => .tuple [.str "keys", e.dat]
  | lk a b => .tuple [.str "look", a.dat, b.dat]
  | op l a b => .tuple [.str (opAt l), a.dat, b.dat]
def ok : Xp → Prop
  | nm z => nameS z = true
  | ky e => e.ok
  | lk a b => a.ok ∧ b.ok
  | op l a b => l < 5 ∧ a.ok ∧ b.ok
def lev : Xp → Nat
  | op l _ _ => l
  | _ => 5
def deep : Xp → Nat
  | nm _ => 0
  | ky e => e.deep + 1
  | lk a b => max a.deep b.deep + 1
  | op _ a b => max a.deep b.deep + 1
def size : Xp → Nat
  | nm _ => 1
  | ky e => e.size + 1
  | lk a b => a.size + b.size + 1
  | op _ a b => a.size + b.size + 1
theorem size_le : ∀ e : Xp, e.size + 1 ≤ 2 ^ (e.deep + 1)
  | nm _ => by show 1 + 1 ≤ 2 ^ (0 + 1); decide
  | ky e => by
    have := size_le e
    show e.size + 1 + 1 ≤ 2 ^ (e.deep + 1 + 1)
    rw [Nat.pow_succ]
    have := Nat.pow_le_pow_right (show 0 < 2 by decide) (Nat.zero_le (e.deep + 1))
    omega
  | lk a b => by
    have h1 := size_le a
    have h2 := size_le b
    have m1 := Nat.pow_le_pow_right (show 0 < 2 by decide) (show a.deep + 1 ≤ max a.deep b.deep + 1 by omega)
    have m2 := Nat.pow_le_pow_right (show 0 < 2 by decide) (show b.deep + 1 ≤ max a.deep b.deep + 1 by omega)
    show a.size + b.size + 1 + 1 ≤ 2 ^ (max a.deep b.deep + 1 + 1)
    rw [Nat.pow_succ]
    omega
  | op _ a b => by
    have h1 := size_le a
    have h2 := size_le b
    have m1 := Nat.pow_le_pow_right (show 0 < 2 by decide) (show a.deep + 1 ≤ max a.deep b.deep + 1 by omega)
    have m2 := Nat.pow_le_pow_right (show 0 < 2 by decide) (show b.deep + 1 ≤ max a.deep b.deep + 1 by omega)
    show a.size + b.size + 1 + 1 ≤ 2 ^ (max a.deep b.deep + 1 + 1)
    rw [Nat.pow_succ]
    omega
theorem lev_le {e : Xp} (h : e.ok) : e.lev ≤ 5 := by
  cases e with
  | op l a b => have h1 : l < 5 := h.1; exact Nat.le_of_lt h1
  | _ => exact Nat.le_refl _
/-- in parentheses, or not -/
def wrap (c : Bool) (z : Str) : Str := if c then "(" ++ z ++ ")" else z
def txt : Xp → Str
  | nm z => z
  | ky e => "keys" ++ "(" ++ e.txt ++ ")"
  | lk a b => "look" ++ "(" ++ (a.txt ++ ", " ++ b.txt) ++ ")"
  | op l a b => wrap (decide (a.lev < l)) a.txt ++ " " ++ opAt l ++ " " ++ wrap (decide (b.lev < l + 1)) b.txt
def wrapT (c : Bool) (ts : List Str) : List Str := if c then ("(" : Str) :: (ts ++ [(")" : Str)]) else ts
def tok : Xp → List Str
  | nm z => [z]
  | ky e => ("keys" : Str) :: ("(" : Str) :: (e.tok ++ [(")" : Str)])
  | lk a b => ("look" : Str) :: ("(" : Str) :: (a.tok ++ ("," : Str) :: (b.tok ++ [(")" : Str)]))
  | op l a b => wrapT (decide (a.lev < l)) a.tok ++ opAt l :: wrapT (decide (b.lev < l + 1)) b.tok
theorem len_op : ∀ l, (opAt l).length ≤ 1 := fun l => by
  rcases Nat.lt_or_ge l 5 with h | h
  · rcases five h with rfl | rfl | rfl | rfl | rfl <;> decide +kernel
  · have : opAt l = "" := by
      unfold opAt
      rw [List.getD_eq_getElem?_getD, List.getElem?_eq_none (by exact h)]
      rfl
    rw [this]
    decide
theorem wrap_len (c : Bool) (z : Str) : (wrap c z).length ≤ z.length + 2 := by
  cases c
  · show z.length ≤ _
    omega
  · show ("(" ++ z ++ ")" : Str).length ≤ _
    rw [strLen_append, strLen_append]
    have e1 : ("(" : Str).length = 1 := rfl
    have e2 : (")" : Str).length = 1 := rfl
    omega
theorem txt_len : ∀ {e : Xp}, e.ok → e.txt.length ≤ 12 * e.size
  | nm z, h => by
    have h' : nameS z = true := h
    unfold nameS at h'
    simp only [Bool.and_eq_true, decide_eq_true_eq] at h'
    have := h'.1.1.2
    show z.length ≤ 12 * 1
    omega
  | ky e, h => by
    have := txt_len (e := e) h
    show ("keys" ++ "(" ++ e.txt ++ ")" : Str).length ≤ 12 * (e.size + 1)
    rw [strLen_append, strLen_append, strLen_append]
    have e1 : ("(" : Str).length = 1 := rfl
    have e2 : (")" : Str).length = 1 := rfl
    have e3 : ("keys" : Str).length = 4 := rfl
    omega
  | lk a b, h => by
    have h1 := txt_len (e := a) h.1
    have h2 := txt_len (e := b) h.2
    show ("look" ++ "(" ++ (a.txt ++ ", " ++ b.txt) ++ ")" : Str).length ≤ 12 * (a.size + b.size + 1)
    rw [strLen_append, strLen_append, strLen_append, strLen_append, strLen_append]
    have e1 : ("(" : Str).length = 1 := rfl
    have e2 : (")" : Str).length = 1 := rfl
    have e3 : ("look" : Str).length = 4 := rfl
    have e4 : (", " : Str).length = 2 := rfl
    omega
  | op l a b, h => by
    have h1 := txt_len (e := a) h.2.1
    have h2 := txt_len (e := b) h.2.2
    show (wrap (decide (a.lev < l)) a.txt ++ " " ++ opAt l ++ " " ++ wrap (decide (b.lev < l + 1)) b.txt : Str).length ≤ 12 * (a.size + b.size + 1)
    rw [strLen_append, strLen_append, strLen_append, strLen_append]
    have w1 := wrap_len (decide (a.lev < l)) a.txt
    have w2 := wrap_len (decide (b.lev < l + 1)) b.txt
    have e1 : (" " : Str).length = 1 := rfl
    have := len_op l
    omega
/-- a short text of plain signs -/
structure okS (m : Nat) (z : Str) : Prop where
  len : z.length ≤ m
  low : ∀ c ∈ z.cps.toList, c < 128
theorem okS.app {m n : Nat} {a b : Str} (h : okS m a) (h2 : okS n b) : okS (m + n) (a ++ b) := by
  refine ⟨by rw [strLen_append]; have := h.len; have := h2.len; omega, fun c hc => ?_⟩
  rw [app_cps] at hc
  rcases List.mem_append.mp hc with hc | hc
  · exact h.low c hc
  · exact h2.low c hc
theorem okS.mono {m n : Nat} {a : Str} (h : okS m a) (hn : m ≤ n) : okS n a := ⟨Nat.le_trans h.len hn, h.low⟩
theorem okS.word {m : Nat} {z : Str} (h : letters z = true) (hl : z.length ≤ m) : okS m z := by
  refine ⟨hl, fun c hc => ?_⟩
  have := List.all_eq_true.mp h c hc
  unfold letter at this
  simp only [Bool.and_eq_true, decide_eq_true_eq] at this
  omega
theorem okS.sign {z : Str} (h : signT z) : okS 4 z := by
  obtain ⟨c, hc, rfl⟩ := h
  refine ⟨by show 1 ≤ 4; decide, fun x hx => ?_⟩
  have : x = c := by simpa using hx
  subst this
  unfold lone at hc
  simp only [List.mem_cons, List.not_mem_nil, or_false] at hc
  omega
theorem okS.reps (n : Nat) : okS n (repS " " n) := by
  refine ⟨by rw [Eu.repS_len]; show n * 1 ≤ n; omega, fun c hc => ?_⟩
  unfold repS at hc
  simp only [List.mem_flatten, List.mem_replicate] at hc
  obtain ⟨l, ⟨_, rfl⟩, hc⟩ := hc
  have e : (" " : Str).cps.toList = [32] := by decide +kernel
  rw [e, List.mem_singleton] at hc
  omega
theorem Ex_toks {l : Nat} {e : PyData} {ts : List Str} {k : Nat} (h : Ex l e ts k) : ∀ t ∈ ts, okS 4 t := by
  induction h with
  | @nm z hz =>
    intro t ht
    rw [List.mem_singleton.mp ht]
    unfold nameS at hz
    simp only [Bool.and_eq_true, decide_eq_true_eq] at hz
    exact .word hz.1.2 hz.1.1.2
  | par _ ih =>
    intro t ht
    rcases List.mem_cons.mp ht with rfl | ht
    · exact .sign sgn.1
    · rcases List.mem_append.mp ht with ht | ht
      · exact ih t ht
      · rw [List.mem_singleton.mp ht]; exact .sign sgn.2.1
  | keys _ ih =>
    intro t ht
    rcases List.mem_cons.mp ht with rfl | ht
    · exact .word wrd.1.2 (by decide)
    · rcases List.mem_cons.mp ht with rfl | ht
      · exact .sign sgn.1
      · rcases List.mem_append.mp ht with ht | ht
        · exact ih t ht
        · rw [List.mem_singleton.mp ht]; exact .sign sgn.2.1
  | look _ _ ih1 ih2 =>
    intro t ht
    rcases List.mem_cons.mp ht with rfl | ht
    · exact .word wrd.2.2 (by decide)
    · rcases List.mem_cons.mp ht with rfl | ht
      · exact .sign sgn.1
      · rcases List.mem_append.mp ht with ht | ht
        · exact ih1 t ht
        · rcases List.mem_cons.mp ht with rfl | ht
          · exact .sign sgn.2.2
          · rcases List.mem_append.mp ht with ht | ht
            · exact ih2 t ht
            · rw [List.mem_singleton.mp ht]; exact .sign sgn.2.1
  | up _ _ ih => exact ih
  | bin hl _ _ ih1 ih2 =>
    intro t ht
    rcases List.mem_append.mp ht with ht | ht
    · exact ih1 t ht
    · rcases List.mem_cons.mp ht with rfl | ht
      · exact .sign (opT _ hl)
      · exact ih2 t ht
/-- tokens of an expression, perhaps with more parentheses -/
structure Toks (e : Xp) (ts : List Str) : Prop where
  ex : ∃ k, Ex e.lev e.dat ts k
  len : ts.length ≤ 8 * e.size
theorem wrap_ex {l : Nat} {e : Xp} {ts : List Str} {c : Bool} (h : Toks e ts) (ho : e.ok) (hl : l ≤ 5) (hc : e.lev < l → c = true) : (∃ k, Ex l e.dat (wrapT c ts) k) ∧ (wrapT c ts).length ≤ 8 * e.size + 2 := by
  obtain ⟨k, hk⟩ := h.ex
  have := h.len
  cases c with
  | true =>
    have h0 : Ex 0 e.dat ts k := hk.down (Nat.zero_le _) (lev_le ho)
    refine ⟨⟨k + 1, (Ex.par h0).down hl (Nat.le_refl _)⟩, ?_⟩
    show (("(" : Str) :: (ts ++ [(")" : Str)])).length ≤ _
    rw [List.length_cons, List.length_append, List.length_singleton]
    omega
  | false =>
    have : ¬ e.lev < l := fun z => nomatch hc z
    exact ⟨⟨k, hk.down (by omega) (lev_le ho)⟩, by show ts.length ≤ _; omega⟩
theorem Toks.nm {z : Str} (h : nameS z = true) : Toks (.nm z) [z] := ⟨⟨0, .nm h⟩, by show 1 ≤ 8 * 1; decide⟩
theorem Toks.ky {e : Xp} {ts : List Str} (h : Toks e ts) (ho : e.ok) : Toks (.ky e) (("keys" : Str) :: ("(" : Str) :: (ts ++ [(")" : Str)])) := by
  obtain ⟨k, hk⟩ := h.ex
  have := h.len
  refine ⟨⟨_, .keys (hk.down (Nat.zero_le _) (lev_le ho))⟩, ?_⟩
  rw [List.length_cons, List.length_cons, List.length_append, List.length_singleton]
  show _ ≤ 8 * (e.size + 1)
  omega
theorem Toks.lk {a b : Xp} {ta tb : List Str} (ha : Toks a ta) (hb : Toks b tb) (oa : a.ok) (ob : b.ok) : Toks (.lk a b) (("look" : Str) :: ("(" : Str) :: (ta ++ ("," : Str) :: (tb ++ [(")" : Str)]))) := by
  obtain ⟨k1, h1⟩ := ha.ex
  obtain ⟨k2, h2⟩ := hb.ex
  have := ha.len
  have := hb.len
  refine ⟨⟨_, .look (h1.down (Nat.zero_le _) (lev_le oa)) (h2.down (Nat.zero_le _) (lev_le ob))⟩, ?_⟩
  rw [List.length_cons, List.length_cons, List.length_append, List.length_cons, List.length_append, List.length_singleton]
  show _ ≤ 8 * (a.size + b.size + 1)
  omega
theorem Toks.op {l : Nat} {a b : Xp} {ta tb : List Str} {c1 c2 : Bool} (hl : l < 5) (ha : Toks a ta) (hb : Toks b tb) (oa : a.ok) (ob : b.ok) (h1 : a.lev < l → c1 = true) (h2 : b.lev < l + 1 → c2 = true) : Toks (.op l a b) (wrapT c1 ta ++ opAt l :: wrapT c2 tb) := by
  obtain ⟨⟨k1, e1⟩, n1⟩ := wrap_ex ha oa (Nat.le_of_lt hl) h1
  obtain ⟨⟨k2, e2⟩, n2⟩ := wrap_ex hb ob hl h2
  refine ⟨⟨_, .bin hl e1 e2⟩, ?_⟩
  rw [List.length_append, List.length_cons]
  show _ ≤ 8 * (a.size + b.size + 1)
  omega
theorem tok_toks : ∀ {e : Xp}, e.ok → Toks e e.tok
  | .nm z, h => .nm h
  | .ky e, h => (tok_toks (e := e) h).ky h
  | .lk a b, h => .lk (tok_toks h.1) (tok_toks h.2) h.1 h.2
  | .op l a b, h => .op h.1 (tok_toks h.2.1) (tok_toks h.2.2) h.2.1 h.2.2 (fun z => decide_eq_true z) (fun z => decide_eq_true z)
/-! ### the law's ways of writing -/
def plainS (z t : Str) : Str := if t ∈ ops then z ++ " " ++ t ++ " " else z ++ t ++ repS " " (if t = "," then 1 else 0)
def plainF (ts : List Str) (z : Str) : Str := ts.foldl plainS z
theorem ops_not {t : Str} (h : wordT t) : t ∉ ops := by
  intro hm
  unfold ops at hm
  simp only [List.mem_cons, List.not_mem_nil, or_false] at hm
  rcases hm with rfl | rfl | rfl | rfl | rfl <;> exact absurd h.2 (by decide +kernel)
theorem plain_rd {z t : Str} {ts r : List Str} {b : Bool} (h : Rd z ts b) (ha : Apart b (t :: r)) : ∃ b', Rd (plainS z t) (ts ++ [t]) b' ∧ Apart b' r := by
  unfold plainS
  cases ha with
  | word hw hr =>
    rw [if_neg (ops_not hw)]
    exact ⟨_, (h.word hw).gaps _, hr⟩
  | sign hs hr =>
    split
    · exact ⟨_, (h.gap.sign hs).gap, hr⟩
    · exact ⟨_, (h.sign hs).gaps _, hr⟩
theorem space_rd {z t : Str} {ts r : List Str} {b : Bool} (n : Nat) (h : Rd z ts b) (ha : Apart b (t :: r)) : ∃ b', Rd (z ++ t ++ repS " " n) (ts ++ [t]) b' ∧ Apart b' r := by
  cases ha with
  | word hw hr => exact ⟨_, (h.word hw).gaps _, hr⟩
  | sign hs hr => exact ⟨_, (h.sign hs).gaps _, hr⟩
theorem plain_ok {z t : Str} {m : Nat} (h : okS m z) (ht : okS 4 t) : okS (m + 7) (plainS z t) := by
  unfold plainS
  have s1 : okS 1 " " := ⟨by decide, by decide +kernel⟩
  split
  · exact (((h.app s1).app ht).app s1).mono (by omega)
  · exact ((h.app ht).app (okS.reps _)).mono (by split <;> omega)
theorem plain_app (a b : List Str) (z : Str) : plainF (a ++ b) z = plainF b (plainF a z) := List.foldl_append
theorem plain_op {l : Nat} (h : l < 5) (z : Str) : plainS z (opAt l) = z ++ " " ++ opAt l ++ " " := by
  unfold plainS
  rw [if_pos]
  rcases five h with rfl | rfl | rfl | rfl | rfl <;> decide +kernel
theorem plain_not {t : Str} (h : t ∉ ops) (h2 : t ≠ ",") (z : Str) : plainS z t = z ++ t := by
  unfold plainS
  rw [if_neg h, if_neg h2]
  have e : repS " " 0 = "" := by decide +kernel
  rw [e, app_nil]
theorem plain_comma (z : Str) : plainS z "," = z ++ ", " := by
  unfold plainS
  have e : ("," : Str) ++ repS " " 1 = ", " := by decide +kernel
  rw [if_neg (by decide +kernel), if_pos rfl, app_assoc, e]
theorem par_not : ("(" : Str) ∉ ops ∧ ("(" : Str) ≠ "," ∧ (")" : Str) ∉ ops ∧ (")" : Str) ≠ "," ∧ ("keys" : Str) ∉ ops ∧ ("keys" : Str) ≠ "," ∧ ("look" : Str) ∉ ops ∧ ("look" : Str) ≠ "," := by decide +kernel
theorem plain_wrap {c : Bool} {ts : List Str} {t : Str} (h : ∀ z, plainF ts z = z ++ t) (z : Str) : plainF (wrapT c ts) z = z ++ wrap c t := by
  obtain ⟨p1, p2, p3, p4, _⟩ := par_not
  cases c with
  | false => exact h z
  | true =>
    show plainF (ts ++ [(")" : Str)]) (plainS z "(") = z ++ ("(" ++ t ++ ")")
    rw [plain_app, h, plain_not p1 p2]
    show plainS _ ")" = _
    rw [plain_not p3 p4]
    simp only [app_assoc]
theorem word_comma {z : Str} (h : wordT z) : z ≠ "," := by
  rintro rfl
  exact absurd h.2 (by decide +kernel)
theorem plain_txt : ∀ {e : Xp}, e.ok → ∀ z, plainF e.tok z = z ++ e.txt
  | .nm n, h, z => by
    show plainS z n = z ++ n
    exact plain_not (ops_not (name_word h)) (word_comma (name_word h)) z
  | .ky e, h, z => by
    obtain ⟨p1, p2, p3, p4, p5, p6, _⟩ := par_not
    show plainF (e.tok ++ [(")" : Str)]) (plainS (plainS z "keys") "(") = z ++ ("keys" ++ "(" ++ e.txt ++ ")")
    rw [plain_app, plain_txt (e := e) h, plain_not p5 p6, plain_not p1 p2]
    show plainS _ ")" = _
    rw [plain_not p3 p4]
    simp only [app_assoc]
  | .lk a b, h, z => by
    obtain ⟨p1, p2, p3, p4, _, _, p5, p6⟩ := par_not
    show plainF (a.tok ++ ("," : Str) :: (b.tok ++ [(")" : Str)])) (plainS (plainS z "look") "(") = z ++ ("look" ++ "(" ++ (a.txt ++ ", " ++ b.txt) ++ ")")
    rw [plain_app, plain_txt (e := a) h.1, plain_not p5 p6, plain_not p1 p2]
    show plainF (b.tok ++ [(")" : Str)]) (plainS _ ",") = _
    rw [plain_comma, plain_app, plain_txt (e := b) h.2]
    show plainS _ ")" = _
    rw [plain_not p3 p4]
    simp only [app_assoc]
  | .op l a b, h, z => by
    show plainF (wrapT (decide (a.lev < l)) a.tok ++ opAt l :: wrapT (decide (b.lev < l + 1)) b.tok) z = z ++ (wrap (decide (a.lev < l)) a.txt ++ " " ++ opAt l ++ " " ++ wrap (decide (b.lev < l + 1)) b.txt)
    rw [plain_app, plain_wrap (plain_txt (e := a) h.2.1)]
    show plainF (wrapT (decide (b.lev < l + 1)) b.tok) (plainS _ (opAt l)) = _
    rw [plain_op h.1, plain_wrap (plain_txt (e := b) h.2.2)]
    simp only [app_assoc]
end Xp
end Gr
set_option Elab.async false
set_option linter.all false
set_option maxRecDepth 100000
set_option maxHeartbeats 4000000
namespace Eu
open PySem PySem.Spec PyProof.Rows L2
open Gr
theorem emp_app (z : Str) : Str.empty ++ z = z := nil_app z
theorem dp2 {K : PySem.W.Frag} {H : Hp} {v : V} {a b : PyData} (h : Dp K H v (.tuple [a, b])) : ∃ p x y, v = .ref p ∧ SqT K H p [x, y] ∧ Dp K H x a ∧ Dp K H y b := by
  cases h with
  | tup h1 h2 => cases h2 with
    | cons ha h2 => cases h2 with
      | cons hb h2 =>
        cases h2
        exact ⟨_, _, _, rfl, h1, ha, hb⟩
theorem dp3 {K : PySem.W.Frag} {H : Hp} {v : V} {a b c : PyData} (h : Dp K H v (.tuple [a, b, c])) : ∃ p x y z, v = .ref p ∧ SqT K H p [x, y, z] ∧ Dp K H x a ∧ Dp K H y b ∧ Dp K H z c := by
  cases h with
  | tup h1 h2 => cases h2 with
    | cons ha h2 => cases h2 with
      | cons hb h2 => cases h2 with
        | cons hc h2 =>
          cases h2
          exact ⟨_, _, _, _, rfl, h1, ha, hb, hc⟩
theorem dpS {K : PySem.W.Frag} {H : Hp} {v : V} {z : Str} (h : Dp K H v (.str z)) : v = .str z := by cases h; rfl
end Eu
set_option Elab.async false
set_option linter.all false
set_option maxRecDepth 100000
set_option maxHeartbeats 4000000
set_option pp.maxSteps 3000
/-! Expressions as data: sizes, equality. -/
namespace Gr
open PySem PySem.Spec PyProof.Rows
open Eu (letter letters nameS cost costs fine fines Small)
namespace Xp
theorem fine_ok {m : Nat} {z : Str} (h : okS m z) : fine (.str z) = true := by
  show (z.cps.toList.all fun c => decide (c < 1114112)) = true
  rw [List.all_eq_true]
  intro c hc
  exact decide_eq_true (by have := h.low c hc; omega)
theorem name_okS {z : Str} (h : nameS z = true) : okS 4 z := by
  unfold nameS at h
  simp only [Bool.and_eq_true, decide_eq_true_eq] at h
  exact .word h.1.2 h.1.1.2
theorem fine3 {a b c : PyData} (h1 : fine a = true) (h2 : fine b = true) (h3 : fine c = true) : fine (.tuple [a, b, c]) = true := by
  show (fine a && (fine b && (fine c && true))) = true
  rw [h1, h2, h3]; rfl
theorem fine2 {a b : PyData} (h1 : fine a = true) (h2 : fine b = true) : fine (.tuple [a, b]) = true := by
  show (fine a && (fine b && true)) = true
  rw [h1, h2]; rfl
theorem op_okS {l : Nat} (h : l < 5) : okS 4 (opAt l) := .sign (opT l h)
theorem small : ∀ {e : Xp}, e.ok → cost e.dat ≤ 70 * e.size ∧ fine e.dat = true
  | nm z, h => by
    have hz := name_okS h
    refine ⟨?_, fine_ok hz⟩
    have := hz.len
    show 10 * z.length + 2 ≤ 70 * 1
    omega
  | ky e, h => by
    obtain ⟨h1, h2⟩ := small (e := e) h
    refine ⟨?_, fine2 (by decide +kernel) h2⟩
    show (10 * 4 + 2) + 2 + (cost e.dat + 2 + 0) + 3 ≤ 70 * (e.size + 1)
    omega
  | lk a b, h => by
    obtain ⟨h1, h2⟩ := small (e := a) h.1
    obtain ⟨h3, h4⟩ := small (e := b) h.2
    refine ⟨?_, fine3 (by decide +kernel) h2 h4⟩
    show (10 * 4 + 2) + 2 + (cost a.dat + 2 + (cost b.dat + 2 + 0)) + 3 ≤ 70 * (a.size + b.size + 1)
    omega
  | op l a b, h => by
    obtain ⟨h1, h2⟩ := small (e := a) h.2.1
    obtain ⟨h3, h4⟩ := small (e := b) h.2.2
    have := op_okS h.1
    refine ⟨?_, fine3 (fine_ok this) h2 h4⟩
    have := this.len
    show (10 * (opAt l).length + 2) + 2 + (cost a.dat + 2 + (cost b.dat + 2 + 0)) + 3 ≤ 70 * (a.size + b.size + 1)
    omega
theorem depth_le : ∀ e : Xp, e.dat.depth ≤ e.deep + 1
  | nm z => by show PyData.depth (.str z) ≤ 1; simp [PyData.depth]
  | ky e => by
    have := depth_le e
    show PyData.depth (.tuple [.str "keys", e.dat]) ≤ e.deep + 1 + 1
    simp [PyData.depth, PyData.depthAll]
    omega
  | lk a b => by
    have := depth_le a
    have := depth_le b
    show PyData.depth (.tuple [.str "look", a.dat, b.dat]) ≤ max a.deep b.deep + 1 + 1
    simp [PyData.depth, PyData.depthAll]
    omega
  | op l a b => by
    have := depth_le a
    have := depth_le b
    show PyData.depth (.tuple [.str (opAt l), a.dat, b.dat]) ≤ max a.deep b.deep + 1 + 1
    simp [PyData.depth, PyData.depthAll]
    omega
theorem plain_dat : ∀ e : Xp, e.dat.plain = true
  | nm z => rfl
  | ky e => by
    show PyData.plain (.tuple [.str "keys", e.dat]) = true
    simp [PyData.plain, PyData.plainAll, plain_dat e]
  | lk a b => by
    show PyData.plain (.tuple [.str "look", a.dat, b.dat]) = true
    simp [PyData.plain, PyData.plainAll, plain_dat a, plain_dat b]
  | op l a b => by
    show PyData.plain (.tuple [.str (opAt l), a.dat, b.dat]) = true
    simp [PyData.plain, PyData.plainAll, plain_dat a, plain_dat b]
theorem strOk_ok {m : Nat} {z : Str} (h : okS m z) : PyData.strOk z = true := by
  unfold PyData.strOk
  rw [← Array.all_toList, List.all_eq_true]
  intro c hc
  exact decide_eq_true (by have := h.low c hc; omega)
theorem lay_dat : ∀ {e : Xp}, e.ok → e.dat.canLay0 = true
  | nm z, h => strOk_ok (name_okS h)
  | ky e, h => by
    show (PyData.strOk "keys" && (e.dat.canLay0 && true)) = true
    rw [lay_dat (e := e) h, strOk_ok (m := 4) (.word wrd.1.2 (by decide))]; rfl
  | lk a b, h => by
    show (PyData.strOk "look" && (a.dat.canLay0 && (b.dat.canLay0 && true))) = true
    rw [lay_dat (e := a) h.1, lay_dat (e := b) h.2, strOk_ok (m := 4) (.word wrd.2.2 (by decide))]; rfl
  | op l a b, h => by
    show (PyData.strOk (opAt l) && (a.dat.canLay0 && (b.dat.canLay0 && true))) = true
    rw [lay_dat (e := a) h.2.1, lay_dat (e := b) h.2.2, strOk_ok (op_okS h.1)]; rfl
theorem shaped {e : Xp} (ho : e.ok) (h : e.deep ≤ 60) : SeqAt.shaped e.dat = true := by
  unfold SeqAt.shaped
  rw [lay_dat ho, decide_eq_true (by have := depth_le e; omega)]
  rfl
end Xp
end Gr
set_option Elab.async false
set_option linter.all false
set_option maxRecDepth 100000
set_option maxHeartbeats 4000000
namespace Eu
open PySem PySem.Spec PyProof.Rows L2
open C8 (pe_gc pss_cut)
abbrev s_l_take : Stmt := top 23
theorem sc_l_take : FnScope ["_law_bag_here", "_law_many", "_law_digit", "_law_mixed"] ["_law_bag_here", "_law_many"] (defScope s_l_take) :=
  ⟨rfl, rfl, rfl, by decide +kernel, rfl, by decide +kernel, by decide +kernel⟩
abbrev s_l_bag : Stmt := top 22
theorem sc_l_bag : FnScope ["_law_script", "_law_at", "_law_cell", "_law_far"] ["_law_script", "_law_at"] (defScope s_l_bag) :=
  ⟨rfl, rfl, rfl, by decide +kernel, rfl, by decide +kernel, by decide +kernel⟩
section
variable {P : Program} {w : World} {K : PySem.W.Frag} {mg : Str → Option Value} {base : Heap} {kw : Addr}
theorem ok_take (D : Df K mg "_law_take" s_l_take) : Cal P w K mg base 1 "_law_take" spTake [] := by
  refine D.cal sc_l_take (fun _ _ _ _ _ _ us hl => match us, hl with | [_, _], _ => rfl) (fun vs H Q E h => ?_) (fun f cdv A out s H vs Q E hr h => ?_)
  · obtain ⟨b, m, n, rfl, _⟩ := h
    rfl
  · obtain ⟨b, m, n, rfl, m0, m1, ⟨far, mix, cnt, hb, f0, x0, x1, c0, c1⟩, hn, q⟩ := h
    refine ⟨_, (pss_cons (ps_if (pt_cmpR op_gt (pe_ix ix_list (pv 0) pe_int (fun _ _ => rfl)) pe_int (nomark _))
(pss_cons (ps_set (i := 2) sc_l_take.nd rfl (Or.inl rfl) (pe_op op_mod (pe_ix ix_list (pv 0) pe_int (fun _ _ => rfl)) (pv 1)))
(pss_cons (ps_asg (pe_op op_fdiv (pe_ix ix_list (pv 0) pe_int (fun _ _ => rfl)) (pv 1)) (pg_sub (pv 0) pe_int set_list))
(pss_one (ps_ret (pv 2)))))
pss_nil)
(pss_cons (ps_asg (pe_op op_add (pe_ix ix_list (pv 0) pe_int (fun _ _ => rfl)) pe_int) (pg_sub (pv 0) pe_int set_list))
(pss_cons (ps_set (i := 3) sc_l_take.nd rfl (Or.inl rfl) (pe_op op_mod (pe_op op_pow (pe_op op_add (pe_ix ix_list (pv 0) pe_int (fun _ _ => rfl)) (pe_op op_mul pe_int (pe_ix ix_list (pv 0) pe_int (fun _ _ => rfl)))) pe_int) pe_int))
(pss_cons (ps_set (i := 3) sc_l_take.nd rfl (Or.inl rfl) (pe_op op_mod (pe_op op_pow (pe_op op_add (pv 3) (pe_op op_mul pe_int (pe_ix ix_list (pv 0) pe_int (fun _ _ => rfl)))) pe_int) pe_int))
(pss_one (ps_ret (pe_op op_mod (pe_op op_fdiv (pv 3) pe_int) (pv 1)))))))), ?_⟩
    have L : SqL K H b [.int far, .int mix, .int cnt] := .inl (.inl hb)
    refine ⟨_, rfl, b, _, 0, _, rfl, rfl, L, atI_nat (j := 0) rfl, _, _, rfl, rfl, _, rfl, ite2 (fun e => ?_) (fun e => ?_)⟩
    · have e' : 0 < far := of_decide_eq_true e
      refine ⟨_, rfl, b, _, 0, _, rfl, rfl, L, atI_nat (j := 0) rfl, _, rfl, _, _, rfl, rfl, m0, ?_⟩
      refine ⟨_, rfl, b, _, 0, _, rfl, rfl, L, atI_nat (j := 0) rfl, _, rfl, _, _, rfl, rfl, ⟨m0, m1⟩, ?_⟩
      refine ⟨_, rfl, b, _, _, 0, rfl, rfl, hb, rfl, ?_⟩
      refine ⟨_, rfl, ?_⟩
      refine q _ _ (Int.emod_nonneg _ (by omega)) (Int.emod_lt_of_pos _ m0) But.upd ⟨far / m, mix, cnt, upd_same, Int.ediv_nonneg f0 (by omega), x0, x1, c0, by omega⟩
    · refine ⟨_, rfl, b, _, 2, _, rfl, rfl, L, atI_nat (j := 2) rfl, _, _, rfl, rfl, ?_⟩
      refine ⟨_, rfl, b, _, _, 2, rfl, rfl, hb, rfl, ?_⟩
      have L' : SqL K (upd H b (.lst [.int far, .int mix, .int (cnt + 1)])) b [.int far, .int mix, .int (cnt + 1)] := .inl (.inl upd_same)
      refine ⟨_, rfl, b, _, 1, _, rfl, rfl, L', atI_nat (j := 1) rfl, _, rfl, b, _, 2, _, rfl, rfl, L', atI_nat (j := 2) rfl, _, _, rfl, rfl, .inl ⟨by decide, by decide⟩, _, _, rfl, rfl, _, _, rfl, rfl, ⟨by decide, by decide, ?_⟩, _, _, rfl, rfl, (show (0 : Int) < 2305843009213693921 by decide), ?_⟩
      · omega
      dsimp only
      generalize hz : (mix + 1000159 * (cnt + 1)) ^ (Int.toNat 3) % 2305843009213693921 = z
      have z0 : 0 ≤ z := by rw [← hz]; exact Int.emod_nonneg _ (by decide)
      have z1 : z < 2305843009213693921 := by rw [← hz]; exact Int.emod_lt_of_pos _ (by decide)
      refine ⟨_, rfl, _, rfl, b, _, 2, _, rfl, rfl, L', atI_nat (j := 2) rfl, _, _, rfl, rfl, .inl ⟨by decide, by decide⟩, _, _, rfl, rfl, _, _, rfl, rfl, ⟨by decide, by decide, ?_⟩, _, _, rfl, rfl, (show (0 : Int) < 2305843009213693951 by decide), ?_⟩
      · omega
      refine ⟨_, rfl, _, _, rfl, rfl, ⟨by decide, by decide⟩, _, rfl, _, _, rfl, rfl, m0, ?_⟩
      exact q _ _ (Int.emod_nonneg _ (by omega)) (Int.emod_lt_of_pos _ m0) But.upd ⟨far, mix, cnt + 1, upd_same, f0, x0, x1, by omega, by omega⟩
theorem ok_bag (B : Bl mg) (D : Df K mg "_law_bag" s_l_bag) : Cal P w K mg base 1 "_law_bag" (spBag K) [] := by
  refine D.cal sc_l_bag (fun _ _ _ _ _ _ us hl => match us, hl with | [_, _], _ => rfl) (fun vs H Q E h => ?_) (fun f cdv A out s H vs Q E hr h => ?_)
  · obtain ⟨a, ns, i, rfl, _⟩ := h
    rfl
  · obtain ⟨a, ns, i, rfl, hS, i0, i1, q⟩ := h
    refine ⟨_, (pss_cut (ps_set (i := 2) sc_l_bag.nd rfl (Or.inl rfl) (pe_ifExp (pt_cmpR op_lt (pv 1) (pe_callB call_len_seq (by rfl) B.len (by decide +kernel) (pa_cons (pv 0) pa_nil)) (nomark _)) (pe_ix ix_list (pv 0) (pv 1) (fun _ _ => rfl)) pe_int))
(pss_cut (ps_set (i := 3) sc_l_bag.nd rfl (Or.inl rfl) (pe_ifExp (pt_cmpR op_ge (pe_callB call_abs (by rfl) B.abs (by decide +kernel) (pa_cons (pv 2) pa_nil)) (pe_op op_pow pe_int pe_int) (nomark _)) (pe_callB call_abs (by rfl) B.abs (by decide +kernel) (pa_cons (pv 2) pa_nil)) pe_int))
(pss_one (ps_ret (pe_lst (pa_cons (pv 3) (pa_cons (pe_op op_mod (pe_op op_mul (pe_op op_add (pe_op op_add (pe_op op_mod (pv 2) pe_int) (pe_op op_mul pe_int (pv 1))) pe_int) pe_int) pe_int) (pa_cons pe_int pa_nil)))))))), ?_⟩
    refine ⟨fun σ H' => ∃ c : Int, σ = [some (.ref a), some (.int i), some (.int c), none] ∧ H' = H, ?_, ?_⟩
    · refine ⟨_, rfl, _, rfl, a, _, rfl, .inl hS, _, _, rfl, rfl, _, rfl, ?_⟩
      refine ite2 (fun e => ?_) (fun e => ?_)
      · have e' : i < ((ns.map V.int).length : Int) := of_decide_eq_true e
        rw [List.length_map] at e'
        have hi : i.toNat < ns.length := by omega
        refine ⟨_, rfl, _, rfl, a, _, i, .int ns[i.toNat], rfl, rfl, hS, ?_, ⟨_, rfl, rfl⟩⟩
        refine at_of (j := i.toNat) (by omega) ?_
        rw [List.getElem?_map, List.getElem?_eq_getElem hi]
        rfl
      · exact ⟨0, rfl, rfl⟩
    · rintro σ H' ⟨c, rfl, rfl⟩
      refine ⟨fun σ H2 => ∃ g : Int, 0 ≤ g ∧ σ = [some (.ref a), some (.int i), some (.int c), some (.int g)] ∧ H2 = H', ?_, ?_⟩
      · refine ⟨_, rfl, _, rfl, _, _, rfl, rfl, ⟨by decide, by decide, by decide⟩, _, _, rfl, rfl, _, rfl, ?_⟩
        refine ite2 (fun e => ?_) (fun e => ?_)
        · refine ⟨_, rfl, _, rfl, ⟨_, ?_, rfl, rfl⟩⟩
          split <;> omega
        · exact ⟨0, Int.le_refl _, rfl, rfl⟩
      · rintro σ H2 ⟨g, g0, rfl, rfl⟩
        refine ⟨_, rfl, _, rfl, _, _, rfl, rfl, (show (0 : Int) < 2305843009213693951 by decide), _, rfl, _, _, rfl, rfl, .inl ⟨by decide, by decide⟩, _, _, rfl, rfl, _, _, rfl, rfl, _, _, rfl, rfl, .inr ⟨by decide, by decide⟩, _, _, rfl, rfl, (show (0 : Int) < 2305843009213693951 by decide), (by show 3 ≤ sizeLine; decide), fun p np => ?_⟩
        refine q p _ (same_new np) np ⟨g, _, 0, upd_same, g0, Int.emod_nonneg _ (by decide), Int.emod_lt_of_pos _ (by decide), by decide, by decide⟩
end
end Eu
set_option Elab.async false
set_option linter.all false
set_option maxRecDepth 100000
set_option maxHeartbeats 4000000
set_option pp.maxSteps 3000
set_option pp.deepTerms false
namespace Eu
open PySem PySem.Spec PyProof.Rows L2
open C8 (pe_gc pss_cut)
open Gr
abbrev s_l_drawn : Stmt := top 24
theorem sc_l_drawn : FnScope ["_law_bag_here", "_law_deep", "_law_word"] ["_law_bag_here", "_law_deep"] (defScope s_l_drawn) :=
  ⟨rfl, rfl, rfl, by decide +kernel, rfl, by decide +kernel, by decide +kernel⟩
theorem iteY {b : Bool} {A B : Prop} (hb : b = true) (h : A) : if b = true then A else B := by rw [if_pos hb]; exact h
theorem iteN {b : Bool} {A B : Prop} (hb : b = false) (h : B) : if b = true then A else B := by rw [hb]; exact h
/-! ### expressions beside a bag -/
theorem sqT_bag {K : PySem.W.Frag} {H H' : Hp} {a b : Addr} {n : Nat} {xs : List V} (s : But b H H') (hb : Bag H b n) (h : SqT K H a xs) : SqT K H' a xs := by
  obtain ⟨f, x, c, e, _⟩ := hb
  rcases h with (h | ⟨ob, h⟩) | h
  · exact .inl (.inl (s.at (fun z => by rw [z, e] at h; cases h) h))
  · exact .inl (.inr ⟨ob, s.at (fun z => by rw [z, e] at h; cases h) h⟩)
  · exact .inr h
theorem dp_bag {K : PySem.W.Frag} {H H' : Hp} {b : Addr} {n : Nat} (s : But b H H') (hb : Bag H b n) : ∀ {e : Xp} {v : V}, Dp K H v e.dat → Dp K H' v e.dat
  | .nm z, v, h => by
    cases (dpS h)
    exact .str z
  | .ky e, v, h => by
    obtain ⟨p, x, y, rfl, hp, hx, hy⟩ := dp2 h
    cases (dpS hx)
    exact .tup (sqT_bag s hb hp) (.cons (.str _) (.cons (dp_bag s hb hy) .nil))
  | .lk a1 a2, v, h => by
    obtain ⟨p, x, y, z, rfl, hp, hx, hy, hz⟩ := dp3 h
    cases (dpS hx)
    exact .tup (sqT_bag s hb hp) (.cons (.str _) (.cons (dp_bag s hb hy) (.cons (dp_bag s hb hz) .nil)))
  | .op l a1 a2, v, h => by
    obtain ⟨p, x, y, z, rfl, hp, hx, hy, hz⟩ := dp3 h
    cases (dpS hx)
    exact .tup (sqT_bag s hb hp) (.cons (.str _) (.cons (dp_bag s hb hy) (.cons (dp_bag s hb hz) .nil)))
def spDrawn (K : PySem.W.Frag) (n : Nat) : Sp := fun vs H Q _ => ∃ (b : Addr) (d m : Nat), vs = [.ref b, .int (d : Nat)] ∧ d < n ∧ d ≤ 5 ∧ Bag H b m ∧ m + 3 * 2 ^ d ≤ 900000 ∧
  ∀ (v : V) (e : Xp) H', But b H H' → Bag H' b (m + (3 * 2 ^ d - 2)) → Dp K H' v e.dat → e.ok → e.deep ≤ d → Q v H'
def words5 : List Str := ["a", "b", "key", "zzzz", "lo"]
def words10 : List Str := ["|", "^", "&", "-", "@", "|", "-", "@", "keys", "look"]
theorem at5 {d : Int} (h0 : 0 ≤ d) (h1 : d < 5) : ∃ z, (words5.map V.str)[d.toNat]? = some (.str z) ∧ nameS z = true := by
  rcases (show d = 0 ∨ d = 1 ∨ d = 2 ∨ d = 3 ∨ d = 4 by omega) with rfl | rfl | rfl | rfl | rfl <;> exact ⟨_, rfl, by decide +kernel⟩
theorem at10 {d : Int} (h0 : 0 ≤ d) (h1 : d < 10) : ∃ z, (words10.map V.str)[d.toNat]? = some (.str z) ∧ (z = "keys" ∨ z = "look" ∨ ∃ l, l < 5 ∧ z = opAt l ∧ z ≠ "keys") := by
  rcases (show d = 0 ∨ d = 1 ∨ d = 2 ∨ d = 3 ∨ d = 4 ∨ d = 5 ∨ d = 6 ∨ d = 7 ∨ d = 8 ∨ d = 9 by omega) with rfl | rfl | rfl | rfl | rfl | rfl | rfl | rfl | rfl | rfl
  · exact ⟨_, rfl, .inr (.inr ⟨0, by decide, by decide +kernel, by decide +kernel⟩)⟩
  · exact ⟨_, rfl, .inr (.inr ⟨1, by decide, by decide +kernel, by decide +kernel⟩)⟩
  · exact ⟨_, rfl, .inr (.inr ⟨2, by decide, by decide +kernel, by decide +kernel⟩)⟩
  · exact ⟨_, rfl, .inr (.inr ⟨3, by decide, by decide +kernel, by decide +kernel⟩)⟩
  · exact ⟨_, rfl, .inr (.inr ⟨4, by decide, by decide +kernel, by decide +kernel⟩)⟩
  · exact ⟨_, rfl, .inr (.inr ⟨0, by decide, by decide +kernel, by decide +kernel⟩)⟩
  · exact ⟨_, rfl, .inr (.inr ⟨3, by decide, by decide +kernel, by decide +kernel⟩)⟩
  · exact ⟨_, rfl, .inr (.inr ⟨4, by decide, by decide +kernel, by decide +kernel⟩)⟩
  · exact ⟨_, rfl, .inl (by decide +kernel)⟩
  · exact ⟨_, rfl, .inr (.inl (by decide +kernel))⟩
section
variable {P : Program} {w : World} {K : PySem.W.Frag} {mg : Str → Option Value} {base : Heap} {kw ka C CB : Addr}
theorem ok_drawn1 (n : Nat) (c_l_take : Cal P w K mg base 1 "_law_take" spTake []) (c_l_drawn : Cal P w K mg base (n + 1) "_law_drawn" (spDrawn K n) []) (D : Df K mg "_law_drawn" s_l_drawn) : Cal P w K mg base (n + 2) "_law_drawn" (spDrawn K (n + 1)) [] := by
  refine D.cal (k := n + 1) sc_l_drawn (fun _ _ _ _ _ _ us hl => match us, hl with | [_, _], _ => rfl) (fun vs H Q E h => ?_) (fun f cdv A out s H vs Q E hr h => ?_)
  · obtain ⟨b, d, m, rfl, _⟩ := h
    rfl
  · obtain ⟨b, d, m, rfl, hd, hd5, hb, hm, q⟩ := h
    refine ⟨_, (pss_cons (ps_if (PW.pt (pw_or (pt_cmpR op_eq (pv 1) pe_int (nomark _)) (pw_or1 (pt_cmpR op_eq (pe_c c_l_take hr (by omega) (by rfl) (pa_cons (pv 0) (pa_cons pe_int pa_nil))) pe_int (nomark _)))))
(pss_one (ps_ret (pe_ix ix_list (pe_lst (pa_cons pe_str (pa_cons pe_str (pa_cons pe_str (pa_cons pe_str (pa_cons pe_str pa_nil)))))) (pe_c c_l_take hr (by omega) (by rfl) (pa_cons (pv 0) (pa_cons pe_int pa_nil))) (fun _ _ => rfl))))
pss_nil)
(pss_cons (ps_set (i := 2) sc_l_drawn.nd rfl (Or.inl rfl) (pe_ix ix_list (pe_lst (pa_cons pe_str (pa_cons pe_str (pa_cons pe_str (pa_cons pe_str (pa_cons pe_str (pa_cons pe_str (pa_cons pe_str (pa_cons pe_str (pa_cons pe_str (pa_cons pe_str pa_nil))))))))))) (pe_c c_l_take hr (by omega) (by rfl) (pa_cons (pv 0) (pa_cons pe_int pa_nil))) (fun _ _ => rfl)))
(pss_cons (ps_if (pt_cmpR op_eq (pv 2) pe_str (nomark _))
(pss_one (ps_ret (pe_tup (pa_cons (pv 2) (pa_cons (pe_c c_l_drawn hr (by omega) (by rfl) (pa_cons (pv 0) (pa_cons (pe_op op_sub (pv 1) pe_int) pa_nil))) pa_nil)))))
pss_nil)
(pss_one (ps_ret (pe_tup (pa_cons (pv 2) (pa_cons (pe_c c_l_drawn hr (by omega) (by rfl) (pa_cons (pv 0) (pa_cons (pe_op op_sub (pv 1) pe_int) pa_nil))) (pa_cons (pe_c c_l_drawn hr (by omega) (by rfl) (pa_cons (pv 0) (pa_cons (pe_op op_sub (pv 1) pe_int) pa_nil))) pa_nil))))))))), ?_⟩
    have e0 : d = 0 ∨ ∃ d', d = d' + 1 := by
      cases d with
      | zero => exact .inl rfl
      | succ d => exact .inr ⟨d, rfl⟩
    have p1 : 1 ≤ 2 ^ d := Nat.one_le_two_pow
    have p5 : 2 ^ d ≤ 2 ^ 5 := Nat.pow_le_pow_right (by decide) hd5
    refine ⟨_, rfl, rfl, _, rfl, ?_⟩
    rcases e0 with rfl | ⟨d', rfl⟩
    · refine iteT (iteT ?_)
      refine ⟨by show 5 ≤ sizeLine; decide, fun p np => ?_⟩
      refine ⟨_, rfl, b, 5, m, rfl, by decide, by decide, hb.new np, by omega, fun x H2 x0 x1 b2 hb2 => ?_⟩
      obtain ⟨z, hz, hn⟩ := at5 x0 x1
      refine ⟨p, _, x, .str z, rfl, rfl, .inl (.inl (b2.at (hb.ne np) upd_same)), at_of (j := x.toNat) (by omega) hz, ?_⟩
      exact q _ (.nm z) H2 (((but_new np).trans b2)) (hb2.mono (by omega)) (.str z) hn (Nat.zero_le _)
    · refine iteDF (fun z => by have := V.int.inj z; omega) ?_
      refine ⟨_, rfl, b, 6, m, rfl, by decide, by decide, hb, by omega, fun x6 H1 _ _ b1 hb1 => ⟨rfl, _, rfl, ?_⟩⟩
      refine ite2 (fun _ => ?_) (fun _ => ?_)
      · have e2 : 2 ^ (d' + 1) = 2 * 2 ^ d' := by rw [Nat.pow_succ]; omega
        refine ⟨by show 5 ≤ sizeLine; decide, fun p np => ?_⟩
        refine ⟨_, rfl, b, 5, m + 1, rfl, by decide, by decide, hb1.new np, by omega, fun x H2 x0 x1 b2 hb2 => ?_⟩
        obtain ⟨z, hz, hn⟩ := at5 x0 x1
        refine ⟨p, _, x, .str z, rfl, rfl, .inl (.inl (b2.at (hb1.ne np) upd_same)), at_of (j := x.toNat) (by omega) hz, ?_⟩
        exact q _ (.nm z) H2 (b1.trans ((but_new np).trans b2)) (hb2.mono (by omega)) (.str z) hn (Nat.zero_le _)
      · have e2 : 2 ^ (d' + 1) = 2 * 2 ^ d' := by rw [Nat.pow_succ]; omega
        have ed : (((d' + 1 : Nat) : Nat) : Int) - 1 = ((d' : Nat) : Int) := by omega
        refine ⟨by show 10 ≤ sizeLine; decide, fun p np => ?_⟩
        refine ⟨_, rfl, b, 10, m + 1, rfl, by decide, by decide, hb1.new np, by omega, fun x H2 x0 x1 b2 hb2 => ?_⟩
        obtain ⟨z, hz, hw⟩ := at10 x0 x1
        have b02 := b1.trans ((but_new np).trans b2)
        refine ⟨p, _, x, .str z, rfl, rfl, .inl (.inl (b2.at (hb1.ne np) upd_same)), at_of (j := x.toNat) (by omega) hz, ?_⟩
        refine ⟨_, rfl, rfl, _, rfl, ?_⟩
        rcases hw with rfl | hw
        · refine iteD rfl ?_
          refine ⟨_, rfl, _, rfl, _, rfl, _, _, rfl, rfl, b, d', m + 2, by show [V.ref b, V.int (((d' + 1 : Nat) : Int) - 1)] = _; rw [ed], by omega, by omega, hb2, by omega, fun v e H3 b3 hb3 hv ok hd3 => ⟨by show 2 ≤ sizeLine; decide, fun t nt => ?_⟩⟩
          refine q _ (.ky e) _ (b02.trans (b3.trans (but_new nt))) ((hb3.new nt).mono (by omega)) (.tup (.inl (.inl upd_same)) (.cons (.str _) (.cons (Same.dp (same_new nt) hv) .nil))) ok (Nat.succ_le_succ hd3)
        · have hk : z ≠ "keys" := by
            rcases hw with rfl | ⟨l, _, _, h⟩
            · decide +kernel
            · exact h
          refine iteDF (fun y => hk (V.str.inj y)) ?_
          refine ⟨_, rfl, _, rfl, _, rfl, _, _, rfl, rfl, b, d', m + 2, by show [V.ref b, V.int (((d' + 1 : Nat) : Int) - 1)] = _; rw [ed], by omega, by omega, hb2, by omega, fun v e H3 b3 hb3 hv ok hd3 => ?_⟩
          refine ⟨_, rfl, _, rfl, _, _, rfl, rfl, b, d', m + 2 + (3 * 2 ^ d' - 2), by show [V.ref b, V.int (((d' + 1 : Nat) : Int) - 1)] = _; rw [ed], by omega, by omega, hb3, by omega, fun v2 e2' H4 b4 hb4 hv2 ok2 hd4 => ⟨by show 3 ≤ sizeLine; decide, fun t nt => ?_⟩⟩
          have hv' := dp_bag b4 hb3 hv
          have mx : max e.deep e2'.deep + 1 ≤ d' + 1 := by omega
          rcases hw with rfl | ⟨l, hl, rfl, _⟩
          · exact q _ (.lk e e2') _ (b02.trans (b3.trans (b4.trans (but_new nt)))) ((hb4.new nt).mono (by omega)) (.tup (.inl (.inl upd_same)) (.cons (.str _) (.cons (Same.dp (same_new nt) hv') (.cons (Same.dp (same_new nt) hv2) .nil)))) ⟨ok, ok2⟩ mx
          · exact q _ (.op l e e2') _ (b02.trans (b3.trans (b4.trans (but_new nt)))) ((hb4.new nt).mono (by omega)) (.tup (.inl (.inl upd_same)) (.cons (.str _) (.cons (Same.dp (same_new nt) hv') (.cons (Same.dp (same_new nt) hv2) .nil)))) ⟨hl, ok, ok2⟩ mx
theorem ok_drawn (c_l_take : Cal P w K mg base 1 "_law_take" spTake []) (D : Df K mg "_law_drawn" s_l_drawn) : ∀ n, Cal P w K mg base (n + 1) "_law_drawn" (spDrawn K n) []
  | 0 => by
    refine D.cal (k := 0) sc_l_drawn (fun _ _ _ _ _ _ us hl => match us, hl with | [_, _], _ => rfl) (fun vs H Q E h => ?_) (fun f cdv A out s H vs Q E hr h => ?_)
    · obtain ⟨b, d, m, rfl, _⟩ := h
      rfl
    · obtain ⟨b, d, m, rfl, hd, _⟩ := h
      exact absurd hd (Nat.not_lt_zero _)
  | n + 1 => ok_drawn1 n c_l_take (ok_drawn c_l_take D n) D
end
end Eu
set_option Elab.async false
set_option linter.all false
set_option maxRecDepth 100000
set_option maxHeartbeats 4000000
set_option pp.maxSteps 3000
set_option pp.deepTerms false
namespace Eu
open PySem PySem.Spec PyProof.Rows L2
open C8 (pe_gc pss_cut)
abbrev s_BadRow___init__ : Stmt := inClass (top 7) 0
theorem sc_BadRow___init__ : FnScope ["self", "place"] ["self", "place"] (defScope s_BadRow___init__) :=
  ⟨rfl, rfl, rfl, by decide +kernel, rfl, by decide +kernel, by decide +kernel⟩
section
variable {P : Program} {w : World} {K : PySem.W.Frag} {mg : Str → Option Value} {base : Heap} {CB : Addr}
/-- an error over ValueError with one field -/
theorem ok_bad {fI : Addr} {oc kV doc pm cdv ct : Value} {od an : Option Addr} {osl : Array (Option Value)} (T : OexC K CB) (hm : mg "BadRow" = some (.ref CB)) (nV : mg "ValueError" = none)
    (vV : PySem.W.findCls K (.type "ValueError") (.type "type") "__init__" = some (.val (.builtin "ValueError.__init__")))
    (iC : PySem.W.findIn K (.ref CB) "__init__" = some (some (.ref fI))) (tI : PySem.W.typeIn K (.ref fI) = some (.type "function"))
    (lk : K.lookup fI = some ⟨oc, od, .func (PySem.W.fnOf "__init__" "BadRow.__init__" (defArgs s_BadRow___init__) (defBody s_BadRow___init__) (defScope s_BadRow___init__) .none kV doc pm an cdv ct), osl⟩)
    (hcd : PySem.W.codeIn K cdv "BadRow.__init__" = true) (hno : PySem.W.findIn K (.ref CB) "place" = some none) : Exo P w K mg base "BadRow" CB "place" := by
  refine ⟨T, hm, fI, _, ["self", "place"], iC, tI, fn_of (k := 0) lk hcd sc_BadRow___init__ (fun vs H Q E h => ?_) (fun A outer s H vs Q E hr h => ?_), .all fun us hl => match us, hl with | [_, _], _ => rfl⟩
  · obtain ⟨a, v, rfl, _⟩ := h
    rfl
  · obtain ⟨a, v, rfl, ha, q⟩ := h
    refine ⟨_, pss_cons (ps_expr (pe_veinit (by rfl) nV vV (pa_cons (pv 0) (pa_cons pe_str pa_nil)))) (pss_one (ps_ost (pv 0) (pv 1))), ?_⟩
    refine ⟨_, rfl, a, CB, _, rfl, by show 1 ≤ 1000; decide, T, ha, ?_⟩
    exact ⟨_, rfl, _, rfl, a, CB, rfl, T, hno, .inl ⟨ha, q⟩⟩
end
end Eu
set_option Elab.async false
set_option linter.all false
set_option maxRecDepth 100000
set_option maxHeartbeats 4000000
set_option pp.maxSteps 3000
/-! What is read, is an expression of these tokens; how many parentheses it has. -/
namespace Gr
open PySem PySem.Spec PyProof.Rows
open Eu (letter letters nameS repS)
/-! ### a reading tells an expression -/
def Snd (f : List Str → Res) (l d : Nat) : Prop := ∀ ts e r, f ts = some (some (e, r)) → ∃ ts1 k, ts = ts1 ++ r ∧ Ex l e ts1 k ∧ d + k ≤ 8
theorem head_tail {ts : List Str} {z : Str} (h : ts.headD "" = z) (hz : z ≠ "") : ts = z :: ts.tail := by
  cases ts with
  | nil => exact absurd h.symm hz
  | cons a r =>
    have : a = z := h
    rw [this]
    rfl
theorem opAt_ne {l : Nat} (h : l < 5) : opAt l ≠ "" := by
  rcases five h with rfl | rfl | rfl | rfl | rfl <;> decide +kernel
theorem loop_snd {f : List Str → Res} {l d : Nat} (hl : l < 5) (hf : Snd f (l + 1) d) : ∀ (m : Nat) (e0 : PyData) (ts : List Str) (e : PyData) (r : List Str), loopF f (opAt l) m e0 ts = some (some (e, r)) →
    ∀ {t0 : List Str} {k0 : Nat}, Ex l e0 t0 k0 → d + k0 ≤ 8 → ∃ ts1 k, ts = ts1 ++ r ∧ Ex l e (t0 ++ ts1) k ∧ d + k ≤ 8
  | 0, e0, ts, e, r, h, _, _, _, _ => by cases h
  | m + 1, e0, ts, e, r, h, t0, k0, h0, hk0 => by
    unfold loopF at h
    by_cases hc : ts.headD "" = opAt l
    · rw [if_pos hc] at h
      have et := head_tail hc (opAt_ne hl)
      match hf' : f ts.tail, h with
      | some (some (e2, r2)), h =>
        obtain ⟨t2, k2, e3, h3, hk2⟩ := hf _ _ _ hf'
        obtain ⟨t4, k4, e4, h4, hk4⟩ := loop_snd hl hf m _ _ _ _ h (Ex.bin hl h0 h3) (by omega)
        refine ⟨opAt l :: (t2 ++ t4), k4, ?_, ?_, hk4⟩
        · rw [et, e3, e4]; simp
        · have : t0 ++ opAt l :: (t2 ++ t4) = t0 ++ opAt l :: t2 ++ t4 := by simp
          rw [this]
          exact h4
      | none, h => cases h
      | some none, h => cases h
    · rw [if_neg hc] at h
      cases h
      exact ⟨[], k0, rfl, by rw [List.append_nil]; exact h0, hk0⟩
theorem close_snd {e e' : PyData} {ts r : List Str} (h : closeF e ts = some (some (e', r))) : e' = e ∧ ts = (")" : Str) :: r := by
  unfold closeF at h
  by_cases hc : ts.headD "" = ")"
  · rw [if_pos hc] at h
    cases h
    exact ⟨rfl, head_tail hc (by decide +kernel)⟩
  · rw [if_neg hc] at h
    cases h
theorem body_snd {f : List Str → Res} {d : Nat} {wd : Str} {ts r : List Str} {e : PyData} (hf : Snd f 0 (d + 1)) (hw : wd = "(" ∨ wd = "keys" ∨ wd = "look") (h : bodyF f d wd ts = some (some (e, r))) :
    ∃ ts1 k, ts = ts1 ++ r ∧ Ex 5 e (if wd = "(" then (("(" : Str) :: ts1) else wd :: ("(" : Str) :: ts1) k ∧ d + k ≤ 8 := by
  obtain ⟨u1, u2, u3, u4, u5, u6⟩ := unlike
  unfold bodyF at h
  split at h
  · cases h
  match hf' : f ts, h with
  | none, h => cases h
  | some none, h => cases h
  | some (some (e1, r1)), h =>
    obtain ⟨t1, k1, e2, h2, hk⟩ := hf _ _ _ hf'
    dsimp only at h
    rcases hw with rfl | rfl | rfl
    · rw [if_neg u2, if_neg u1] at h
      obtain ⟨rfl, e3⟩ := close_snd h
      refine ⟨t1 ++ [(")" : Str)], k1 + 1, by rw [e2, e3]; simp, ?_, by omega⟩
      rw [if_pos rfl]
      exact .par h2
    · rw [if_neg u3, if_pos rfl] at h
      obtain ⟨rfl, e3⟩ := close_snd h
      refine ⟨t1 ++ [(")" : Str)], k1 + 1, by rw [e2, e3]; simp, ?_, by omega⟩
      rw [if_neg u4]
      exact .keys h2
    · rw [if_pos rfl] at h
      by_cases hc : r1.headD "" = ","
      · rw [if_pos hc] at h
        have ec := head_tail hc (by decide +kernel)
        match hg : f r1.tail, h with
        | none, h => cases h
        | some none, h => cases h
        | some (some (e3, r3)), h =>
          obtain ⟨t3, k3, e4, h4, hk3⟩ := hf _ _ _ hg
          obtain ⟨rfl, e5⟩ := close_snd h
          refine ⟨t1 ++ ("," : Str) :: (t3 ++ [(")" : Str)]), max k1 k3 + 1, by rw [e2, ec, e4, e5]; simp, ?_, by omega⟩
          rw [if_neg u5]
          exact .look h2 h4
      · rw [if_neg hc] at h
        cases h
theorem op_part_snd : ∀ n, (∀ l d, l ≤ 5 → Snd (opF n l d) l d ∨ 8 < d) ∧ ∀ d, d ≤ 8 → Snd (partF n d) 5 d
  | 0 => ⟨(fun l d _ => .inl (fun ts e r h => by unfold opF at h; cases h)), (fun d _ ts e r h => by unfold partF at h; cases h)⟩
  | n + 1 => by
    obtain ⟨i1, i2⟩ := op_part_snd n
    constructor
    · intro l d hl
      by_cases hd : 8 < d
      · exact .inr hd
      refine .inl fun ts e r h => ?_
      have h' : (if l = 5 then partF n d ts else match opF n (l + 1) d ts with
        | some (some (e, r)) => loopF (fun q => opF n (l + 1) d q) (opAt l) (r.length + 1) e r
        | x => x) = some (some (e, r)) := h
      by_cases h5 : l = 5
      · rw [if_pos h5] at h'
        obtain ⟨ts1, k, e1, h1, hk⟩ := i2 d (by omega) _ _ _ h'
        exact ⟨ts1, k, e1, by rw [h5]; exact h1, hk⟩
      · rw [if_neg h5] at h'
        have sn : Snd (opF n (l + 1) d) (l + 1) d := (i1 (l + 1) d (by omega)).resolve_right hd
        match ho : opF n (l + 1) d ts, h' with
        | none, h' => cases h'
        | some none, h' => cases h'
        | some (some (e1, r1)), h' =>
          obtain ⟨t1, k1, e2, h2, hk1⟩ := sn _ _ _ ho
          obtain ⟨t3, k3, e3, h3, hk3⟩ := loop_snd (by omega) sn _ _ _ _ _ h' (Ex.up (by omega) h2) hk1
          exact ⟨t1 ++ t3, k3, by rw [e2, e3]; simp, h3, hk3⟩
    · intro d hd ts e r h
      unfold partF at h
      by_cases hn : nameS (ts.headD "") = true
      · rw [if_pos hn] at h
        cases h
        have hz : ts.headD "" ≠ "" := (name_word hn).1
        exact ⟨[ts.headD ""], 0, head_tail rfl hz, .nm hn, by omega⟩
      · rw [if_neg hn] at h
        have sb : ∀ wd, bodyF (fun q => opF n 0 (d + 1) q) d wd = bodyF (opF n 0 (d + 1)) d wd := fun _ => rfl
        have big : ∀ wd q, bodyF (fun q => opF n 0 (d + 1) q) d wd q = some (some (e, r)) → d + 1 ≤ 8 := fun wd q hb => by
          unfold bodyF at hb
          split at hb
          · cases hb
          · omega
        by_cases hp : ts.headD "" = "("
        · rw [if_pos hp, hp] at h
          have s0 : Snd (opF n 0 (d + 1)) 0 (d + 1) := (i1 0 (d + 1) (by decide)).resolve_right (by have := big _ _ h; omega)
          obtain ⟨t1, k, e1, h1, hk⟩ := body_snd s0 (.inl rfl) h
          rw [if_pos rfl] at h1
          exact ⟨_, k, by rw [List.cons_append, ← e1]; exact head_tail hp (by decide +kernel), h1, hk⟩
        · rw [if_neg hp] at h
          by_cases hw : ts.headD "" = "keys" ∨ ts.headD "" = "look"
          · rw [if_pos hw] at h
            by_cases hp2 : ts.tail.headD "" = "("
            · rw [if_pos hp2] at h
              have s0 : Snd (opF n 0 (d + 1)) 0 (d + 1) := (i1 0 (d + 1) (by decide)).resolve_right (by have := big _ _ h; omega)
              obtain ⟨t1, k, e1, h1, hk⟩ := body_snd s0 (.inr hw) h
              rw [if_neg hp] at h1
              have hz : ts.headD "" ≠ "" := by
                rcases hw with e | e <;> rw [e] <;> decide +kernel
              refine ⟨_, k, ?_, h1, hk⟩
              rw [List.cons_append, List.cons_append, ← e1, ← head_tail hp2 (by decide +kernel)]
              exact head_tail rfl hz
            · rw [if_neg hp2] at h
              cases h
          · rw [if_neg hw] at h
            cases h
theorem whole_snd {n : Nat} {ts r : List Str} {e : PyData} (h : wholeF n ts = some (some (e, r))) : (∃ z ∈ ts, z = "") ∨ ∃ k, Ex 0 e ts k ∧ k ≤ 8 := by
  unfold wholeF at h
  match ho : opF n 0 0 ts, h with
  | none, h => cases h
  | some none, h => cases h
  | some (some (e1, r1)), h =>
    obtain ⟨t1, k, e2, h2, hk⟩ := ((op_part_snd n).1 0 0 (by decide)).resolve_right (by decide) _ _ _ ho
    dsimp only at h
    by_cases hr : r1.headD "" = ""
    · rw [if_pos hr] at h
      cases h
      cases r1 with
      | nil => exact .inr ⟨k, by rw [e2, List.append_nil]; exact h2, by omega⟩
      | cons a r2 =>
        have : a = "" := hr
        exact .inl ⟨a, by rw [e2]; simp, this⟩
    · rw [if_neg hr] at h
      cases h
end Gr
set_option Elab.async false
set_option linter.all false
set_option maxRecDepth 100000
set_option maxHeartbeats 4000000
set_option pp.maxSteps 3000
/-! How many parentheses. -/
namespace Gr
open PySem PySem.Spec PyProof.Rows
open Eu (letter letters nameS repS)
/-! ### tokens and signs -/
structure TI (p : Option Nat) (f : List Str) (w : Str) (n : Nat) : Prop where
  ne : ∀ t ∈ f, t ≠ ""
  lw : letters w = true
  op : ∀ q, p = some q → q ∈ opC → w = "" ∧ ∃ g, f = g ++ [one q]
  cn : f.count ("(" : Str) = n
theorem one_ne (c : Nat) : one c ≠ "" := fun h => by
  have : (1 : Nat) = 0 := congrArg Str.length h
  exact absurd this (by decide)
theorem par_one : ("(" : Str) = one 40 := by decide +kernel
theorem cnt_one (c : Nat) : [one c].count ("(" : Str) = if c = 40 then 1 else 0 := by
  rw [par_one]
  by_cases h : c = 40
  · subst h
    rw [if_pos rfl]
    decide +kernel
  · rw [if_neg h, List.count_singleton, if_neg]
    intro e
    have := Str.mk.inj (beq_iff_eq.mp e)
    exact h (by simpa using this)
theorem word_cnt {w : Str} (h : letters w = true) : [w].count ("(" : Str) = 0 := by
  rw [List.count_singleton, if_neg]
  intro e
  have e' : w = "(" := beq_iff_eq.mp e
  rw [e'] at h
  exact absurd h (by decide +kernel)
theorem flush {p : Option Nat} {f : List Str} {w : Str} {n : Nat} (h : TI p f w n) : (∀ t ∈ (if w = "" then f else f ++ [w]), t ≠ "") ∧ (if w = "" then f else f ++ [w]).count ("(" : Str) = n := by
  by_cases hw : w = ""
  · rw [if_pos hw]; exact ⟨h.ne, h.cn⟩
  · rw [if_neg hw]
    refine ⟨fun t ht => ?_, by rw [List.count_append, h.cn, word_cnt h.lw]; omega⟩
    rcases List.mem_append.mp ht with ht | ht
    · exact h.ne t ht
    · rw [List.mem_singleton.mp ht]; exact hw
theorem letters_app {a : Str} {c : Nat} (h : letters a = true) (hc : letter c = true) : letters (a ++ one c) = true := by
  show (a ++ one c).cps.toList.all letter = true
  rw [app_cps, List.all_append, Bool.and_eq_true]
  exact ⟨h, by show ([c].all letter) = true; simp [hc]⟩
theorem step_ti {p : Option Nat} {c : Nat} {f f' : List Str} {w w' : Str} {n : Nat} (h : TI p f w n) (e : tokStep p c f w = some (f', w')) : TI (some c) f' w' (n + if c = 40 then 1 else 0) := by
  obtain ⟨h1, h2⟩ := flush h
  have l0 : letters "" = true := by decide +kernel
  unfold tokStep at e
  by_cases hl : letter c = true
  · rw [if_pos hl] at e
    cases e
    have hc : c ≠ 40 := by rintro rfl; exact absurd hl (by decide)
    rw [if_neg hc]
    refine ⟨h.ne, letters_app h.lw hl, fun q hq ho => ?_, h.cn⟩
    cases hq
    exfalso
    unfold letter at hl
    simp only [Bool.and_eq_true, decide_eq_true_eq] at hl
    unfold opC at ho
    simp only [List.mem_cons, List.not_mem_nil, or_false] at ho
    omega
  · rw [if_neg hl] at e
    dsimp only at e
    by_cases hq : c = 61 ∧ (∃ p', p = some p' ∧ p' ∈ opC)
    · rw [if_pos hq] at e
      cases e
      obtain ⟨rfl, q, rfl, hop⟩ := hq
      obtain ⟨hw, g, hg⟩ := h.op q rfl hop
      rw [if_pos hw] at h1 h2 ⊢
      subst hg
      have e1 : (g ++ [one q]).dropLast = g := List.dropLast_concat
      have e2 : (g ++ [one q]).getLastD "" = one q := by rw [List.getLastD_concat]
      rw [e1, e2]
      have h40 : ¬ (61 : Nat) = 40 := by decide
      rw [if_neg h40]
      have hq40 : q ≠ 40 := by rintro rfl; exact absurd hop (by decide)
      have hlen : (one q ++ one 61).length = 2 := by rw [strLen_append]; rfl
      refine ⟨fun t ht => ?_, l0, (fun q' hq' ho' => by cases hq'; exact absurd ho' (by decide)), ?_⟩
      · rcases List.mem_append.mp ht with ht | ht
        · exact h1 t (List.mem_append_left _ ht)
        · rw [List.mem_singleton.mp ht]
          intro z
          rw [z] at hlen
          exact absurd hlen (by decide)
      · rw [List.count_append, cnt_one, if_neg hq40] at h2
        rw [List.count_append, List.count_singleton, if_neg]
        · omega
        · intro z
          have z' : one q ++ one 61 = "(" := beq_iff_eq.mp z
          rw [z'] at hlen
          exact absurd hlen (by decide)
    · rw [if_neg hq] at e
      by_cases hs : c ∈ signC ∨ c ∈ opC
      · rw [if_pos hs] at e
        cases e
        refine ⟨fun t ht => ?_, l0, fun q hq' ho => ?_, by rw [List.count_append, h2, cnt_one]⟩
        · rcases List.mem_append.mp ht with ht | ht
          · exact h1 t ht
          · rw [List.mem_singleton.mp ht]; exact one_ne c
        · cases hq'
          exact ⟨rfl, _, rfl⟩
      · rw [if_neg hs] at e
        by_cases h32 : c = 32
        · rw [if_pos h32] at e
          cases e
          subst h32
          rw [if_neg (show ¬ (32 : Nat) = 40 by decide)]
          exact ⟨h1, l0, (fun q' hq' ho' => by cases hq'; exact absurd ho' (by decide)), h2⟩
        · rw [if_neg h32] at e
          cases e
theorem toks_ti : ∀ {cs : List Nat} {p : Option Nat} {f ts : List Str} {w : Str} {n : Nat}, TI p f w n → toksF p cs f w = some ts → ts.count ("(" : Str) = n + cs.count 40 ∧ ∀ t ∈ ts, t ≠ ""
  | [], p, f, ts, w, n, h, e => by
    have e' : some (if w = "" then f else f ++ [w]) = some ts := e
    cases e'
    obtain ⟨h1, h2⟩ := flush h
    exact ⟨h2, h1⟩
  | c :: r, p, f, ts, w, n, h, e => by
    unfold toksF at e
    cases hs : tokStep p c f w with
    | none => rw [hs] at e; cases e
    | some x =>
      obtain ⟨f', w'⟩ := x
      rw [hs] at e
      obtain ⟨h1, h2⟩ := toks_ti (step_ti h hs) e
      refine ⟨?_, h2⟩
      rw [h1, List.count_cons]
      by_cases hc : c = 40
      · subst hc; simp; omega
      · rw [if_neg hc, if_neg (by simpa using hc)]
        omega
theorem tokens_par {z : Str} {ts : List Str} (h : tokens z = some ts) : ts.count ("(" : Str) = z.cps.toList.count 40 ∧ ∀ t ∈ ts, t ≠ "" := by
  have t0 : TI none [] "" 0 := ⟨(fun t ht => by cases ht), by decide +kernel, (fun q hq => by cases hq), rfl⟩
  obtain ⟨h1, h2⟩ := toks_ti t0 h
  exact ⟨by omega, h2⟩
/-! ### parentheses of an expression -/
namespace Xp
def one_if (c : Prop) [Decidable c] : Nat := if c then 1 else 0
def npar : Xp → Nat
  | nm _ => 0
  | ky e => e.npar + 1
  | lk a b => a.npar + b.npar + 1
  | op l a b => (a.npar + if a.lev < l then 1 else 0) + (b.npar + if b.lev < l + 1 then 1 else 0)
theorem dat_str {x : Xp} {z : Str} (h : x.dat = .str z) : x = nm z := by
  cases x with
  | nm y => cases h; rfl
  | _ => cases h
theorem opAt_inj {l m : Nat} (hl : l < 5) (hm : m < 5) (h : opAt l = opAt m) : l = m := by
  rcases Nat.lt_trichotomy l m with h1 | h1 | h1
  · exact absurd h (op_op hl hm h1)
  · exact h1
  · exact absurd h.symm (op_op hm hl h1)
theorem dat_keys {x : Xp} {e : PyData} (h : x.dat = .tuple [.str "keys", e]) : ∃ y, x = ky y ∧ y.dat = e := by
  cases x with
  | ky y => cases h; exact ⟨y, rfl, rfl⟩
  | nm z => cases h
  | lk a b => exact absurd (show 3 = 2 from congrArg List.length (PyData.tuple.inj h)) (by decide)
  | op l a b => exact absurd (show 3 = 2 from congrArg List.length (PyData.tuple.inj h)) (by decide)
theorem dat_look {x : Xp} (ok : x.ok) {e1 e2 : PyData} (h : x.dat = .tuple [.str "look", e1, e2]) : ∃ a b, x = lk a b ∧ a.dat = e1 ∧ b.dat = e2 := by
  cases x with
  | lk a b => cases h; exact ⟨a, b, rfl, rfl, rfl⟩
  | op l a b =>
    have h' := PyData.tuple.inj h
    have h1 := PyData.str.inj (List.cons.inj h').1
    have hl : l < 5 := ok.1
    exact absurd h1 (by rcases five hl with rfl | rfl | rfl | rfl | rfl <;> decide +kernel)
  | _ => cases h
theorem dat_op {x : Xp} (ok : x.ok) {l : Nat} (hl : l < 5) {e1 e2 : PyData} (h : x.dat = .tuple [.str (opAt l), e1, e2]) : ∃ a b, x = op l a b ∧ a.dat = e1 ∧ b.dat = e2 := by
  cases x with
  | lk a b =>
    have h' := PyData.tuple.inj h
    have h1 := PyData.str.inj (List.cons.inj h').1
    exact absurd h1.symm (by rcases five hl with rfl | rfl | rfl | rfl | rfl <;> decide +kernel)
  | op m a b =>
    have h' := PyData.tuple.inj h
    have h1 := PyData.str.inj (List.cons.inj h').1
    have h2 := List.cons.inj (List.cons.inj h').2
    have h3 := List.cons.inj h2.2
    have hm : m < 5 := ok.1
    have := opAt_inj hm hl h1
    subst this
    exact ⟨a, b, rfl, h2.1, h3.1⟩
  | nm z => cases h
  | ky y => exact absurd (show 2 = 3 from congrArg List.length (PyData.tuple.inj h)) (by decide)
/-- no reading has fewer parentheses -/
theorem fewest {l : Nat} {e : PyData} {ts : List Str} {k : Nat} (h : Ex l e ts k) : ∀ {x : Xp}, x.ok → x.dat = e → x.npar + (if x.lev < l then 1 else 0) ≤ ts.count ("(" : Str) := by
  have par1 : ∀ r : List Str, (("(" : Str) :: r).count ("(" : Str) = r.count ("(" : Str) + 1 := fun r => List.count_cons_self
  have no : ∀ (z : Str) (r : List Str), z ≠ "(" → (z :: r).count ("(" : Str) = r.count ("(" : Str) := fun z r hz => List.count_cons_of_ne hz
  have cl : ∀ r : List Str, (r ++ [(")" : Str)]).count ("(" : Str) = r.count ("(" : Str) := fun r => by
    rw [List.count_append]
    have : [(")" : Str)].count ("(" : Str) = 0 := by decide +kernel
    omega
  induction h with
  | @nm z hz =>
    intro x ok hx
    have := dat_str hx
    subst this
    exact Nat.zero_le _
  | @par e ts k _ ih =>
    intro x ok hx
    have := ih ok hx
    rw [par1, cl]
    split <;> omega
  | @keys e ts k _ ih =>
    intro x ok hx
    obtain ⟨y, rfl, hy⟩ := dat_keys hx
    have := ih (x := y) ok hy
    rw [no _ _ unlike.2.2.2.1, par1, cl]
    show y.npar + 1 + (if (5 : Nat) < 5 then 1 else 0) ≤ _
    rw [if_neg (by decide)]
    omega
  | @look e1 e2 t1 t2 k1 k2 _ _ ih1 ih2 =>
    intro x ok hx
    obtain ⟨a, b, rfl, ha, hb⟩ := dat_look ok hx
    have h1 := ih1 (x := a) ok.1 ha
    have h2 := ih2 (x := b) ok.2 hb
    rw [no _ _ unlike.2.2.2.2.1, par1, List.count_append, no _ _ (by decide +kernel), cl]
    show a.npar + b.npar + 1 + (if (5 : Nat) < 5 then 1 else 0) ≤ _
    rw [if_neg (by decide)]
    omega
  | @up l e ts k hl _ ih =>
    intro x ok hx
    have := ih ok hx
    split <;> split at this <;> omega
  | @bin l e1 e2 t1 t2 k1 k2 hl _ _ ih1 ih2 =>
    intro x ok hx
    obtain ⟨a, b, rfl, ha, hb⟩ := dat_op ok hl hx
    have h1 := ih1 (x := a) ok.2.1 ha
    have h2 := ih2 (x := b) ok.2.2 hb
    rw [List.count_append, no _ _ (op_par l hl).1]
    show (a.npar + if a.lev < l then 1 else 0) + (b.npar + if b.lev < l + 1 then 1 else 0) + (if l < l then 1 else 0) ≤ _
    rw [if_neg (Nat.lt_irrefl l)]
    omega
/-- how deep, by how many -/
theorem open_le {l : Nat} {e : PyData} {ts : List Str} {k : Nat} (h : Ex l e ts k) : k ≤ ts.count ("(" : Str) := by
  have par1 : ∀ r : List Str, (("(" : Str) :: r).count ("(" : Str) = r.count ("(" : Str) + 1 := fun r => List.count_cons_self
  have no : ∀ (z : Str) (r : List Str), z ≠ "(" → (z :: r).count ("(" : Str) = r.count ("(" : Str) := fun z r hz => List.count_cons_of_ne hz
  induction h with
  | nm _ => exact Nat.zero_le _
  | par _ ih => rw [par1, List.count_append]; omega
  | keys _ ih => rw [no _ _ unlike.2.2.2.1, par1, List.count_append]; omega
  | look _ _ ih1 ih2 => rw [no _ _ unlike.2.2.2.2.1, par1, List.count_append, no _ _ (by decide +kernel), List.count_append]; omega
  | up _ _ ih => exact ih
  | bin hl _ _ ih1 ih2 => rw [List.count_append, no _ _ (op_par _ hl).1]; omega
/-- a text that is read as the expression has at least its parentheses -/
theorem read_par {x : Xp} {n : Nat} {z : Str} {r : List Str} (ok : x.ok) (h : readE n (.str z) = some (some (x.dat, r))) : x.npar ≤ z.cps.toList.count 40 := by
  unfold readE at h
  match ht : toksOf (.str z), h with
  | none, h => cases h
  | some ts, h =>
    have ht' : (if 200 < ((z.length : Nat) : Int) - Txt.count z " " then none else tokens z) = some ts := ht
    split at ht'
    · cases ht'
    · obtain ⟨h1, h2⟩ := tokens_par ht'
      rcases whole_snd h with ⟨t, hm, hz⟩ | ⟨k, hk, _⟩
      · exact absurd hz (h2 t hm)
      · have := fewest hk ok rfl
        omega
end Xp
end Gr
set_option Elab.async false
set_option linter.all false
set_option maxRecDepth 100000
set_option maxHeartbeats 4000000
set_option pp.maxSteps 3000
/-! Texts without a pair of parentheses. -/
namespace Gr
open PySem PySem.Spec PyProof.Rows
open Eu (letter letters nameS repS)
def c40 (z : Str) : Nat := z.cps.toList.count 40
theorem c40_app (a b : Str) : c40 (a ++ b) = c40 a + c40 b := by
  unfold c40
  rw [app_cps, List.count_append]
/-! ### signs of a text: never more closed than opened -/
def dep (cs : List Nat) : Int := (cs.count 40 : Nat) - (cs.count 41 : Nat)
theorem dep_app (a b : List Nat) : dep (a ++ b) = dep a + dep b := by
  unfold dep
  rw [List.count_append, List.count_append]
  omega
structure Good (z : Str) : Prop where
  pre : ∀ i, 0 ≤ dep (z.cps.toList.take i)
  all : dep z.cps.toList = 0
theorem Good.app {a b : Str} (ha : Good a) (hb : Good b) : Good (a ++ b) := by
  refine ⟨fun i => ?_, by rw [app_cps, dep_app, ha.all, hb.all]; rfl⟩
  rw [app_cps, List.take_append, dep_app]
  have := ha.pre i
  have := hb.pre (i - a.cps.toList.length)
  omega
theorem Good.plain {z : Str} (h : ∀ c ∈ z.cps.toList, c ≠ 40 ∧ c ≠ 41) : Good z := by
  have key : ∀ cs : List Nat, (∀ c ∈ cs, c ≠ 40 ∧ c ≠ 41) → dep cs = 0 := fun cs hc => by
    unfold dep
    rw [List.count_eq_zero.mpr (fun m => (hc _ m).1 rfl), List.count_eq_zero.mpr (fun m => (hc _ m).2 rfl)]
    rfl
  refine ⟨fun i => ?_, key _ h⟩
  rw [key _ fun c hc => h c (List.mem_of_mem_take hc)]
  exact Int.le_refl _
theorem Good.par {z : Str} (h : Good z) : Good ("(" ++ z ++ ")") := by
  have e1 : ("(" : Str).cps.toList = [40] := by decide +kernel
  have e2 : (")" : Str).cps.toList = [41] := by decide +kernel
  have d1 : dep [40] = 1 := by decide
  have d2 : dep [41] = -1 := by decide
  refine ⟨fun i => ?_, by rw [app_cps, app_cps, dep_app, dep_app, h.all, e1, e2, d1, d2]; rfl⟩
  rw [app_cps, app_cps, e1, e2]
  cases i with
  | zero => exact Int.le_refl _
  | succ i =>
    show 0 ≤ dep ([40] ++ (z.cps.toList ++ [41]).take i)
    rw [dep_app, d1, List.take_append, dep_app]
    have h1 := h.pre i
    by_cases hz : i ≤ z.cps.toList.length
    · rw [show i - z.cps.toList.length = 0 by omega]
      show 0 ≤ 1 + (dep (z.cps.toList.take i) + dep [])
      have : dep [] = 0 := rfl
      omega
    · rw [List.take_of_length_le (show z.cps.toList.length ≤ i by omega), h.all]
      have : dep (List.take (i - z.cps.toList.length) [41]) = -1 := by
        rw [List.take_of_length_le (by show 1 ≤ _; omega)]
        exact d2
      omega
theorem good_word {z : Str} (h : letters z = true) : Good z := .plain fun c hc => by
  have := List.all_eq_true.mp h c hc
  unfold letter at this
  simp only [Bool.and_eq_true, decide_eq_true_eq] at this
  omega
theorem good_op {l : Nat} (h : l < 5) : Good (opAt l) := .plain (by rcases five h with rfl | rfl | rfl | rfl | rfl <;> decide +kernel)
theorem good_sp : Good " " ∧ Good ", " := ⟨.plain (by decide +kernel), .plain (by decide +kernel)⟩
namespace Xp
theorem wrap_good {c : Bool} {z : Str} (h : Good z) : Good (wrap c z) := by
  cases c
  · exact h
  · exact h.par
theorem txt_good : ∀ {e : Xp}, e.ok → Good e.txt
  | nm z, h => good_word (name_word h).2
  | ky e, h => by
    show Good ("keys" ++ "(" ++ e.txt ++ ")")
    rw [app_assoc, app_assoc, ← app_assoc "(" e.txt ")"]
    exact (good_word wrd.1.2).app (txt_good (e := e) h).par
  | lk a b, h => by
    show Good ("look" ++ "(" ++ (a.txt ++ ", " ++ b.txt) ++ ")")
    rw [app_assoc, app_assoc, ← app_assoc "(" (a.txt ++ ", " ++ b.txt) ")"]
    exact (good_word wrd.2.2).app (((txt_good (e := a) h.1).app good_sp.2).app (txt_good (e := b) h.2)).par
  | op l a b, h => (((((wrap_good (txt_good (e := a) h.2.1)).app good_sp.1).app (good_op h.1)).app good_sp.1).app (wrap_good (txt_good (e := b) h.2.2)))
theorem c40_word {z : Str} (h : letters z = true) : c40 z = 0 := by
  unfold c40
  exact List.count_eq_zero.mpr fun m => absurd (List.all_eq_true.mp h 40 m) (by decide)
theorem c40_op {l : Nat} (h : l < 5) : c40 (opAt l) = 0 := by
  rcases five h with rfl | rfl | rfl | rfl | rfl <;> decide +kernel
theorem c40_k : c40 "(" = 1 ∧ c40 ")" = 0 ∧ c40 " " = 0 ∧ c40 ", " = 0 ∧ c40 "," = 0 := by decide +kernel
theorem c40_wrap (c : Bool) (z : Str) : c40 (wrap c z) = c40 z + if c = true then 1 else 0 := by
  obtain ⟨k1, k2, _⟩ := c40_k
  cases c
  · rfl
  · show c40 ("(" ++ z ++ ")") = c40 z + 1
    rw [c40_app, c40_app, k1, k2]
    omega
theorem txt_par : ∀ {e : Xp}, e.ok → c40 e.txt = e.npar
  | nm z, h => c40_word (name_word h).2
  | ky e, h => by
    obtain ⟨k1, k2, _⟩ := c40_k
    show c40 ("keys" ++ "(" ++ e.txt ++ ")") = e.npar + 1
    rw [c40_app, c40_app, c40_app, c40_word wrd.1.2, txt_par (e := e) h, k1, k2]
    omega
  | lk a b, h => by
    obtain ⟨k1, k2, k3, k4, _⟩ := c40_k
    show c40 ("look" ++ "(" ++ (a.txt ++ ", " ++ b.txt) ++ ")") = a.npar + b.npar + 1
    rw [c40_app, c40_app, c40_app, c40_app, c40_app, c40_word wrd.2.2, txt_par (e := a) h.1, txt_par (e := b) h.2, k1, k2, k4]
    omega
  | op l a b, h => by
    obtain ⟨k1, k2, k3, k4, _⟩ := c40_k
    show c40 (wrap (decide (a.lev < l)) a.txt ++ " " ++ opAt l ++ " " ++ wrap (decide (b.lev < l + 1)) b.txt) = (a.npar + if a.lev < l then 1 else 0) + (b.npar + if b.lev < l + 1 then 1 else 0)
    rw [c40_app, c40_app, c40_app, c40_app, c40_wrap, c40_wrap, txt_par (e := a) h.2.1, txt_par (e := b) h.2.2, c40_op h.1, k3]
    simp only [decide_eq_true_eq]
    omega
/-! ### the law's own text: all parentheses -/
def wr : Xp → Str
  | nm z => z
  | ky e => "keys" ++ "(" ++ e.wr ++ ")"
  | lk a b => "look" ++ "(" ++ (a.wr ++ "," ++ b.wr) ++ ")"
  | op l a b => wrap (decide (a.lev < 5)) a.wr ++ opAt l ++ wrap (decide (b.lev < 5)) b.wr
theorem wr_par : ∀ {e : Xp}, e.ok → e.npar ≤ c40 e.wr
  | nm z, h => Nat.zero_le _
  | ky e, h => by
    obtain ⟨k1, k2, _⟩ := c40_k
    have := wr_par (e := e) h
    show e.npar + 1 ≤ c40 ("keys" ++ "(" ++ e.wr ++ ")")
    rw [c40_app, c40_app, c40_app, k1]
    omega
  | lk a b, h => by
    obtain ⟨k1, k2, _⟩ := c40_k
    have h1 := wr_par (e := a) h.1
    have h2 := wr_par (e := b) h.2
    show a.npar + b.npar + 1 ≤ c40 ("look" ++ "(" ++ (a.wr ++ "," ++ b.wr) ++ ")")
    rw [c40_app, c40_app, c40_app, c40_app, c40_app, k1]
    omega
  | op l a b, h => by
    have h1 := wr_par (e := a) h.2.1
    have h2 := wr_par (e := b) h.2.2
    have hl : l < 5 := h.1
    show (a.npar + if a.lev < l then 1 else 0) + (b.npar + if b.lev < l + 1 then 1 else 0) ≤ c40 (wrap (decide (a.lev < 5)) a.wr ++ opAt l ++ wrap (decide (b.lev < 5)) b.wr)
    rw [c40_app, c40_app, c40_wrap, c40_wrap]
    simp only [decide_eq_true_eq]
    split <;> split <;> split <;> split <;> omega
theorem wr_len : ∀ {e : Xp}, e.ok → e.wr.length ≤ 12 * e.size
  | nm z, h => by
    have := (name_okS h).len
    show z.length ≤ 12 * 1
    omega
  | ky e, h => by
    have := wr_len (e := e) h
    show ("keys" ++ "(" ++ e.wr ++ ")" : Str).length ≤ 12 * (e.size + 1)
    rw [strLen_append, strLen_append, strLen_append]
    have e1 : ("(" : Str).length = 1 := rfl
    have e2 : (")" : Str).length = 1 := rfl
    have e3 : ("keys" : Str).length = 4 := rfl
    omega
  | lk a b, h => by
    have h1 := wr_len (e := a) h.1
    have h2 := wr_len (e := b) h.2
    show ("look" ++ "(" ++ (a.wr ++ "," ++ b.wr) ++ ")" : Str).length ≤ 12 * (a.size + b.size + 1)
    rw [strLen_append, strLen_append, strLen_append, strLen_append, strLen_append]
    have e1 : ("(" : Str).length = 1 := rfl
    have e2 : (")" : Str).length = 1 := rfl
    have e3 : ("look" : Str).length = 4 := rfl
    have e4 : ("," : Str).length = 1 := rfl
    omega
  | op l a b, h => by
    have h1 := wr_len (e := a) h.2.1
    have h2 := wr_len (e := b) h.2.2
    show (wrap (decide (a.lev < 5)) a.wr ++ opAt l ++ wrap (decide (b.lev < 5)) b.wr : Str).length ≤ 12 * (a.size + b.size + 1)
    rw [strLen_append, strLen_append]
    have w1 := wrap_len (decide (a.lev < 5)) a.wr
    have w2 := wrap_len (decide (b.lev < 5)) b.wr
    have := len_op l
    omega
/-! ### equal data -/
theorem of_ex {l : Nat} {e : PyData} {ts : List Str} {k : Nat} (h : Ex l e ts k) : ∃ x : Xp, x.ok ∧ x.dat = e := by
  induction h with
  | @nm z hz => exact ⟨nm z, hz, rfl⟩
  | par _ ih => exact ih
  | keys _ ih =>
    obtain ⟨x, h1, h2⟩ := ih
    exact ⟨ky x, h1, by show PyData.tuple [.str "keys", x.dat] = _; rw [h2]⟩
  | look _ _ ih1 ih2 =>
    obtain ⟨x, h1, h2⟩ := ih1
    obtain ⟨y, h3, h4⟩ := ih2
    exact ⟨lk x y, ⟨h1, h3⟩, by show PyData.tuple [.str "look", x.dat, y.dat] = _; rw [h2, h4]⟩
  | up _ _ ih => exact ih
  | @bin l _ _ _ _ _ _ hl _ _ ih1 ih2 =>
    obtain ⟨x, h1, h2⟩ := ih1
    obtain ⟨y, h3, h4⟩ := ih2
    exact ⟨op l x y, ⟨hl, h1, h3⟩, by show PyData.tuple [.str (opAt l), x.dat, y.dat] = _; rw [h2, h4]⟩
theorem eqv_str {a b : Str} (h : PyData.eqv (.str a) (.str b) = true) : a = b := by
  simpa [PyData.eqv] using h
theorem eqv_eq : ∀ {x y : Xp}, PyData.eqv x.dat y.dat = true → x.dat = y.dat
  | nm a, nm b, h => by
    have := eqv_str h
    show PyData.str a = .str b
    rw [this]
  | nm a, ky y, h => by simp [dat, PyData.eqv] at h
  | nm a, lk y z, h => by simp [dat, PyData.eqv] at h
  | nm a, op l y z, h => by simp [dat, PyData.eqv] at h
  | ky x, nm b, h => by simp [dat, PyData.eqv] at h
  | ky x, ky y, h => by
    simp [dat, PyData.eqv, PyData.eqvAll] at h
    show PyData.tuple [_, x.dat] = .tuple [_, y.dat]
    rw [eqv_eq h]
  | ky x, lk y z, h => by simp [dat, PyData.eqv, PyData.eqvAll] at h
  | ky x, op l y z, h => by simp [dat, PyData.eqv, PyData.eqvAll] at h
  | lk x x', nm b, h => by simp [dat, PyData.eqv] at h
  | lk x x', ky y, h => by simp [dat, PyData.eqv, PyData.eqvAll] at h
  | lk x x', lk y y', h => by
    simp [dat, PyData.eqv, PyData.eqvAll] at h
    show PyData.tuple [_, x.dat, x'.dat] = .tuple [_, y.dat, y'.dat]
    rw [eqv_eq h.1, eqv_eq h.2]
  | lk x x', op l y y', h => by
    simp [dat, PyData.eqv, PyData.eqvAll] at h
    show PyData.tuple [.str "look", x.dat, x'.dat] = .tuple [.str (opAt l), y.dat, y'.dat]
    rw [eqv_eq h.2.1, eqv_eq h.2.2, h.1]
  | op l x x', nm b, h => by simp [dat, PyData.eqv] at h
  | op l x x', ky y, h => by simp [dat, PyData.eqv, PyData.eqvAll] at h
  | op l x x', lk y y', h => by
    simp [dat, PyData.eqv, PyData.eqvAll] at h
    show PyData.tuple [.str (opAt l), x.dat, x'.dat] = .tuple [.str "look", y.dat, y'.dat]
    rw [eqv_eq h.2.1, eqv_eq h.2.2, h.1]
  | op l x x', op m y y', h => by
    simp [dat, PyData.eqv, PyData.eqvAll] at h
    show PyData.tuple [.str (opAt l), x.dat, x'.dat] = .tuple [.str (opAt m), y.dat, y'.dat]
    rw [eqv_eq h.2.1, eqv_eq h.2.2, h.1]
/-- what is read of a text -/
theorem read_is {n : Nat} {z : Str} {d : PyData} {r : List Str} (h : readE n (.str z) = some (some (d, r))) : ∃ x : Xp, x.ok ∧ x.dat = d := by
  unfold readE at h
  match ht : toksOf (.str z), h with
  | none, h => cases h
  | some ts, h =>
    have ht' : (if 200 < ((z.length : Nat) : Int) - Txt.count z " " then none else tokens z) = some ts := ht
    split at ht'
    · cases ht'
    · obtain ⟨h1, h2⟩ := tokens_par ht'
      rcases whole_snd h with ⟨t, hm, hz⟩ | ⟨k, hk, _⟩
      · exact absurd hz (h2 t hm)
      · exact of_ex hk
/-- with fewer parentheses it is read otherwise -/
theorem less_ne {n : Nat} {z : Str} {d : PyData} {r : List Str} {e : Xp} (ok : e.ok) (hz : c40 z < e.npar) (h : readE n (.str z) = some (some (d, r))) : PyData.eqv d e.dat = false := by
  obtain ⟨x, hx, rfl⟩ := read_is h
  by_cases hq : PyData.eqv x.dat e.dat = true
  · exfalso
    have he := eqv_eq hq
    rw [he] at h
    have := read_par ok h
    unfold c40 at hz
    omega
  · exact eq_false_of_ne_true hq
/-! ### a text without two of its signs -/
theorem cut_count {cs : List Nat} {i j : Nat} (hij : i < j) (hi : cs[i]? = some 40) (hj : cs[j]? = some 41) : (cs.take i ++ (cs.take j).drop (i + 1) ++ cs.drop (j + 1)).count 40 + 1 = cs.count 40 := by
  obtain ⟨lj, ej⟩ := List.getElem?_eq_some_iff.mp hj
  have e1 : cs = cs.take j ++ 41 :: cs.drop (j + 1) := by
    rw [← ej, ← List.drop_eq_getElem_cons lj, List.take_append_drop]
  have hi' : (cs.take j)[i]? = some 40 := by rw [List.getElem?_take, if_pos hij]; exact hi
  obtain ⟨li, ei⟩ := List.getElem?_eq_some_iff.mp hi'
  have e2 : cs.take j = cs.take i ++ 40 :: (cs.take j).drop (i + 1) := by
    have : (cs.take j).take i = cs.take i := by rw [List.take_take, Nat.min_eq_left (Nat.le_of_lt hij)]
    rw [← this]
    conv => lhs; rw [← List.take_append_drop i (cs.take j)]
    rw [List.drop_eq_getElem_cons li, ei]
  have e3 : cs.count 40 = (cs.take j).count 40 + (cs.drop (j + 1)).count 40 := by
    conv => lhs; rw [e1]
    rw [List.count_append, List.count_cons]
    simp
  have e4 : (cs.take j).count 40 = (cs.take i).count 40 + ((cs.take j).drop (i + 1)).count 40 + 1 := by
    conv => lhs; rw [e2]
    rw [List.count_append, List.count_cons]
    simp
    omega
  rw [e3, e4, List.count_append, List.count_append]
  omega
end Xp
end Gr
set_option Elab.async false
set_option linter.all false
set_option maxRecDepth 100000
set_option maxHeartbeats 4000000
set_option pp.maxSteps 3000
/-! Every text is read to an end. -/
namespace Gr
open PySem PySem.Spec PyProof.Rows
open Eu (letter letters nameS repS)
theorem loop_tot {f : List Str → Res} {l d : Nat} {op : Str} (hop : op ≠ "") (hs : Snd f l d) (hf : ∀ ts, f ts ≠ none) : ∀ (m : Nat) (e : PyData) (ts : List Str), ts.length < m → loopF f op m e ts ≠ none
  | 0, e, ts, h => absurd h (Nat.not_lt_zero _)
  | m + 1, e, ts, h => by
    unfold loopF
    by_cases hc : ts.headD "" = op
    · rw [if_pos hc]
      have et := head_tail hc hop
      have el : ts.length = ts.tail.length + 1 := by
        cases ts with
        | nil => cases et
        | cons a r => rfl
      match hf' : f ts.tail with
      | none => exact absurd hf' (hf _)
      | some none => exact fun z => by cases z
      | some (some (e2, r)) =>
        obtain ⟨t1, k, e1, _, _⟩ := hs _ _ _ hf'
        have : ts.tail.length = t1.length + r.length := by rw [e1, List.length_append]
        exact loop_tot hop hs hf m _ r (by omega)
    · rw [if_neg hc]
      exact fun z => by cases z
theorem close_tot (e : PyData) (ts : List Str) : closeF e ts ≠ none := by
  unfold closeF
  split <;> exact fun z => by cases z
theorem body_tot {f : List Str → Res} {d : Nat} (wd : Str) (ts : List Str) (hf : d + 1 ≤ 8 → ∀ ts, f ts ≠ none) : bodyF f d wd ts ≠ none := by
  unfold bodyF
  by_cases hd : 8 < d + 1
  · rw [if_pos hd]
    exact fun z => by cases z
  · rw [if_neg hd]
    have hf := hf (by omega)
    match h1 : f ts with
    | none => exact absurd h1 (hf _)
    | some none => exact fun z => by cases z
    | some (some (e, r)) =>
      dsimp only
      split
      · split
        · match h2 : f r.tail with
          | none => exact absurd h2 (hf _)
          | some none => exact fun z => by cases z
          | some (some (e2, r2)) => exact close_tot _ _
        · exact fun z => by cases z
      · split
        · exact close_tot _ _
        · exact close_tot _ _
theorem tot : ∀ n, (∀ l d ts, l ≤ 5 → d ≤ 8 → 7 * (8 - d) + 7 ≤ n + l → opF n l d ts ≠ none) ∧ ∀ d ts, d ≤ 8 → 7 * (8 - d) + 1 ≤ n → partF n d ts ≠ none
  | 0 => ⟨fun l d ts h1 h2 h3 => absurd h3 (by omega), fun d ts h1 h2 => absurd h2 (by omega)⟩
  | n + 1 => by
    obtain ⟨i1, i2⟩ := tot n
    constructor
    · intro l d ts hl hd hn
      show (if l = 5 then partF n d ts else match opF n (l + 1) d ts with
        | some (some (e, r)) => loopF (fun q => opF n (l + 1) d q) (opAt l) (r.length + 1) e r
        | x => x) ≠ none
      by_cases h5 : l = 5
      · rw [if_pos h5]
        exact i2 d ts hd (by omega)
      · rw [if_neg h5]
        have f1 : ∀ q, opF n (l + 1) d q ≠ none := fun q => i1 (l + 1) d q (by omega) hd (by omega)
        have sn : Snd (opF n (l + 1) d) (l + 1) d := ((op_part_snd n).1 (l + 1) d (by omega)).resolve_right (by omega)
        match ho : opF n (l + 1) d ts with
        | none => exact absurd ho (f1 _)
        | some none => exact fun z => by cases z
        | some (some (e, r)) => exact loop_tot (opAt_ne (by omega)) sn f1 _ _ _ (Nat.lt_succ_self _)
    · intro d ts hd hn
      have f1 : d + 1 ≤ 8 → ∀ q, opF n 0 (d + 1) q ≠ none := fun h q => i1 0 (d + 1) q (by decide) h (by omega)
      unfold partF
      split
      · exact fun z => by cases z
      · split
        · exact body_tot _ _ f1
        · split
          · split
            · exact body_tot _ _ f1
            · exact fun z => by cases z
          · exact fun z => by cases z
theorem read_tot (t : PyData) : readE 63 t ≠ none := by
  unfold readE
  match toksOf t with
  | none => exact fun z => by cases z
  | some ts =>
    show wholeF 63 ts ≠ none
    unfold wholeF
    match ho : opF 63 0 0 ts with
    | none => exact absurd ho ((tot 63).1 0 0 ts (by decide) (by decide) (by decide))
    | some none => exact fun z => by cases z
    | some (some (e, r)) =>
      dsimp only
      split <;> exact fun z => by cases z
namespace Xp
/-! ### parts of a text -/
theorem cut3 {z : Str} {i j : Nat} (hij : i < j) (hj : j < z.cps.toList.length) :
    (L2.cutS z none (some ((i : Nat) : Int)) ++ L2.cutS z (some (((i : Nat) : Int) + 1)) (some ((j : Nat) : Int)) ++ L2.cutS z (some (((j : Nat) : Int) + 1)) none).cps.toList = z.cps.toList.take i ++ (z.cps.toList.take j).drop (i + 1) ++ z.cps.toList.drop (j + 1) := by
  have lz : z.length = z.cps.toList.length := by simp [Str.length]
  have s1 : ∀ (d n : Nat), n ≤ z.length → HT.sIx z.length d (some ((n : Nat) : Int)) = n := fun d n hn => by
    show (if ((n : Nat) : Int) < 0 then (((n : Nat) : Int) + (z.length : Int)).toNat else min ((n : Nat) : Int).toNat z.length) = n
    rw [if_neg (by omega)]
    omega
  have e1 : ((i : Nat) : Int) + 1 = ((i + 1 : Nat) : Int) := by omega
  have e2 : ((j : Nat) : Int) + 1 = ((j + 1 : Nat) : Int) := by omega
  rw [app_cps, app_cps, e1, e2]
  unfold L2.cutS
  rw [s1 _ _ (by omega), s1 _ _ (by omega), s1 _ _ (by omega), s1 _ _ (by omega)]
  have n0 : HT.sIx z.length 0 none = 0 := rfl
  have nn : HT.sIx z.length z.length none = z.length := rfl
  rw [n0, nn]
  simp only [List.toList_toArray, List.drop_zero, Nat.sub_zero]
  rw [List.drop_take, List.take_of_length_le (show (z.cps.toList.drop (j + 1)).length ≤ z.length - (j + 1) by rw [List.length_drop]; omega)]
end Xp
end Gr
set_option Elab.async false
set_option linter.all false
set_option maxRecDepth 100000
set_option maxHeartbeats 4000000
set_option pp.maxSteps 3000
/-! Operators outside parentheses. -/
namespace Gr
open PySem PySem.Spec PyProof.Rows
open Eu (letter letters nameS repS)
/-- which operator -/
def opLev (t : Str) : Option Nat := if t = opAt 0 then some 0 else if t = opAt 1 then some 1 else if t = opAt 2 then some 2 else if t = opAt 3 then some 3 else if t = opAt 4 then some 4 else none
theorem opLev_at {l : Nat} (h : l < 5) : opLev (opAt l) = some l := by
  rcases five h with rfl | rfl | rfl | rfl | rfl <;> decide +kernel
theorem opLev_word {z : Str} (h : wordT z) : opLev z = none := by
  have hn : ∀ l, l < 5 → z ≠ opAt l := fun l hl e => by
    rw [e] at h
    exact absurd h.2 (by rcases five hl with rfl | rfl | rfl | rfl | rfl <;> decide +kernel)
  unfold opLev
  rw [if_neg (hn 0 (by decide)), if_neg (hn 1 (by decide)), if_neg (hn 2 (by decide)), if_neg (hn 3 (by decide)), if_neg (hn 4 (by decide))]
theorem opLev_signs : opLev "(" = none ∧ opLev ")" = none ∧ opLev "," = none := by decide +kernel
def stepD (d : Int) (t : Str) : Int := d + (if t = "(" then 1 else 0) - (if t = ")" then 1 else 0)
/-- levels of the operators outside parentheses; d are open -/
def tops : Int → List Str → List Nat
  | _, [] => []
  | d, t :: r => (if stepD d t = 0 then (opLev t).toList else []) ++ tops (stepD d t) r
def depS : Int → List Str → Int
  | d, [] => d
  | d, t :: r => depS (stepD d t) r
theorem depS_app : ∀ (a b : List Str) (d : Int), depS d (a ++ b) = depS (depS d a) b
  | [], _, _ => rfl
  | t :: a, b, d => depS_app a b _
theorem tops_app : ∀ (a b : List Str) (d : Int), tops d (a ++ b) = tops d a ++ tops (depS d a) b
  | [], _, _ => rfl
  | t :: a, b, d => by
    show _ ++ tops (stepD d t) (a ++ b) = (_ ++ tops (stepD d t) a) ++ tops (depS (stepD d t) a) b
    rw [tops_app a b, List.append_assoc]
theorem stepD_par (d : Int) : stepD d "(" = d + 1 ∧ stepD d ")" = d - 1 := by
  unfold stepD
  rw [if_pos rfl, if_neg par_ne, if_neg par_ne.symm, if_pos rfl]
  omega
theorem stepD_no {t : Str} (h1 : t ≠ "(") (h2 : t ≠ ")") (d : Int) : stepD d t = d := by
  unfold stepD
  rw [if_neg h1, if_neg h2]
  omega
/-- an expression: as many closed as opened; within parentheses nothing is outside -/
theorem Ex.tops {l : Nat} {e : PyData} {ts : List Str} {k : Nat} (h : Ex l e ts k) : (∀ d, depS d ts = d) ∧ (∀ d, 0 < d → Gr.tops d ts = []) ∧ (∀ m ∈ Gr.tops 0 ts, l ≤ m ∧ m < 5) := by
  obtain ⟨s1, s2, s3⟩ := opLev_signs
  have hc : ("," : Str) ≠ "(" ∧ ("," : Str) ≠ ")" := by decide +kernel
  induction h with
  | @nm z hz =>
    have w := name_word hz
    obtain ⟨p1, p2⟩ := word_par w
    have hd : ∀ d, stepD d z = d := fun d => stepD_no p1 p2 d
    refine ⟨fun d => hd d, fun d _ => ?_, fun m hm => ?_⟩
    · show (if stepD d z = 0 then (opLev z).toList else []) ++ [] = []
      rw [opLev_word w]
      split <;> rfl
    · have : m ∈ (if stepD 0 z = 0 then (opLev z).toList else []) ++ [] := hm
      rw [opLev_word w] at this
      split at this <;> simp at this
  | @par e ts k _ ih =>
    obtain ⟨i1, i2, i3⟩ := ih
    have e1 : ∀ d : Int, depS d (("(" : Str) :: (ts ++ [(")" : Str)])) = d := fun d => by
      show depS (stepD d "(") (ts ++ [(")" : Str)]) = d
      rw [depS_app, i1]
      show stepD (stepD d "(") ")" = d
      rw [(stepD_par d).1, (stepD_par _).2]
      omega
    have e2 : ∀ d : Int, 0 ≤ d → Gr.tops d (("(" : Str) :: (ts ++ [(")" : Str)])) = [] := fun d hd => by
      show (if stepD d "(" = 0 then (opLev "(").toList else []) ++ Gr.tops (stepD d "(") (ts ++ [(")" : Str)]) = []
      rw [tops_app, i1, (stepD_par d).1, i2 _ (by omega), s1]
      show (if d + 1 = 0 then [] else []) ++ ([] ++ ((if stepD (d + 1) ")" = 0 then (opLev ")").toList else []) ++ [])) = []
      rw [s2]
      split <;> split <;> rfl
    exact ⟨e1, fun d hd => e2 d (by omega), fun m hm => by rw [e2 0 (Int.le_refl _)] at hm; cases hm⟩
  | @keys e ts k _ ih =>
    obtain ⟨i1, i2, i3⟩ := ih
    obtain ⟨w1, w2⟩ := word_par wrd.1
    have e0 : ∀ d : Int, stepD d "keys" = d := fun d => stepD_no w1 w2 d
    have e1 : ∀ d : Int, depS d (("keys" : Str) :: ("(" : Str) :: (ts ++ [(")" : Str)])) = d := fun d => by
      show depS (stepD (stepD d "keys") "(") (ts ++ [(")" : Str)]) = d
      rw [depS_app, i1, e0]
      show stepD (stepD d "(") ")" = d
      rw [(stepD_par d).1, (stepD_par _).2]
      omega
    have e2 : ∀ d : Int, 0 ≤ d → Gr.tops d (("keys" : Str) :: ("(" : Str) :: (ts ++ [(")" : Str)])) = [] := fun d hd => by
      show (if stepD d "keys" = 0 then (opLev "keys").toList else []) ++ ((if stepD (stepD d "keys") "(" = 0 then (opLev "(").toList else []) ++ Gr.tops (stepD (stepD d "keys") "(") (ts ++ [(")" : Str)])) = []
      rw [tops_app, i1, e0, (stepD_par d).1, i2 _ (by omega), s1, opLev_word wrd.1]
      show (if d = 0 then [] else []) ++ ((if d + 1 = 0 then [] else []) ++ ([] ++ ((if stepD (d + 1) ")" = 0 then (opLev ")").toList else []) ++ []))) = []
      rw [s2]
      split <;> split <;> split <;> rfl
    exact ⟨e1, fun d hd => e2 d (by omega), fun m hm => by rw [e2 0 (Int.le_refl _)] at hm; cases hm⟩
  | @look a1 a2 t1 t2 k1 k2 _ _ ih1 ih2 =>
    obtain ⟨i1, i2, i3⟩ := ih1
    obtain ⟨j1, j2, j3⟩ := ih2
    obtain ⟨w1, w2⟩ := word_par wrd.2
    have e0 : ∀ d : Int, stepD d "look" = d := fun d => stepD_no w1 w2 d
    have ec : ∀ d : Int, stepD d "," = d := fun d => stepD_no hc.1 hc.2 d
    have e1 : ∀ d : Int, depS d (("look" : Str) :: ("(" : Str) :: (t1 ++ ("," : Str) :: (t2 ++ [(")" : Str)]))) = d := fun d => by
      show depS (stepD (stepD d "look") "(") (t1 ++ ("," : Str) :: (t2 ++ [(")" : Str)])) = d
      rw [depS_app, i1, e0]
      show depS (stepD (stepD d "(") ",") (t2 ++ [(")" : Str)]) = d
      rw [depS_app, j1, ec]
      show stepD (stepD d "(") ")" = d
      rw [(stepD_par d).1, (stepD_par _).2]
      omega
    have e2 : ∀ d : Int, 0 ≤ d → Gr.tops d (("look" : Str) :: ("(" : Str) :: (t1 ++ ("," : Str) :: (t2 ++ [(")" : Str)]))) = [] := fun d hd => by
      show (if stepD d "look" = 0 then (opLev "look").toList else []) ++ ((if stepD (stepD d "look") "(" = 0 then (opLev "(").toList else []) ++ Gr.tops (stepD (stepD d "look") "(") (t1 ++ ("," : Str) :: (t2 ++ [(")" : Str)]))) = []
      rw [tops_app, i1, e0, (stepD_par d).1, i2 _ (by omega), s1, opLev_word wrd.2]
      show (if d = 0 then [] else []) ++ ((if d + 1 = 0 then [] else []) ++ ([] ++ ((if stepD (d + 1) "," = 0 then (opLev ",").toList else []) ++ Gr.tops (stepD (d + 1) ",") (t2 ++ [(")" : Str)])))) = []
      rw [ec, s3, tops_app, j1, j2 _ (by omega)]
      show (if d = 0 then [] else []) ++ ((if d + 1 = 0 then [] else []) ++ ([] ++ ((if d + 1 = 0 then [] else []) ++ ([] ++ ((if stepD (d + 1) ")" = 0 then (opLev ")").toList else []) ++ []))))) = []
      rw [s2]
      split <;> split <;> split <;> rfl
    exact ⟨e1, fun d hd => e2 d (by omega), fun m hm => by rw [e2 0 (Int.le_refl _)] at hm; cases hm⟩
  | up _ _ ih => exact ⟨ih.1, ih.2.1, fun m hm => ⟨by have := (ih.2.2 m hm).1; omega, (ih.2.2 m hm).2⟩⟩
  | @bin l e1 e2 t1 t2 k1 k2 hl _ _ ih1 ih2 =>
    obtain ⟨i1, i2, i3⟩ := ih1
    obtain ⟨j1, j2, j3⟩ := ih2
    obtain ⟨p1, p2⟩ := op_par l hl
    have eo : ∀ d : Int, stepD d (opAt l) = d := fun d => stepD_no p1 p2 d
    have et : ∀ d : Int, Gr.tops d (t1 ++ opAt l :: t2) = Gr.tops d t1 ++ ((if d = 0 then [l] else []) ++ Gr.tops d t2) := fun d => by
      rw [tops_app, i1]
      show _ ++ ((if stepD d (opAt l) = 0 then (opLev (opAt l)).toList else []) ++ Gr.tops (stepD d (opAt l)) t2) = _
      rw [eo, opLev_at hl]
      rfl
    refine ⟨fun d => ?_, fun d hd => ?_, fun m hm => ?_⟩
    · rw [depS_app, i1]
      show depS (stepD d (opAt l)) t2 = d
      rw [eo, j1]
    · rw [et, i2 d hd, j2 d hd, if_neg (by omega)]
      rfl
    · rw [et, if_pos rfl] at hm
      rcases List.mem_append.mp hm with hm | hm
      · exact i3 m hm
      · rcases List.mem_append.mp hm with hm | hm
        · rw [List.mem_singleton.mp hm]; exact ⟨Nat.le_refl _, hl⟩
        · have := j3 m hm
          exact ⟨by omega, this.2⟩
/-- tops that bind so tightly: a reading at that level -/
theorem Ex.lift {l : Nat} {e : PyData} {ts : List Str} {k : Nat} (h : Ex l e ts k) : ∀ {m : Nat}, m ≤ 5 → (∀ q ∈ Gr.tops 0 ts, m ≤ q) → Ex m e ts k := by
  induction h with
  | nm hz => intro m hm _; exact (Ex.nm hz).down hm (Nat.le_refl _)
  | par h _ => intro m hm _; exact (Ex.par h).down hm (Nat.le_refl _)
  | keys h _ => intro m hm _; exact (Ex.keys h).down hm (Nat.le_refl _)
  | look h1 h2 _ _ => intro m hm _; exact (Ex.look h1 h2).down hm (Nat.le_refl _)
  | up _ _ ih => intro m hm hq; exact ih hm hq
  | @bin l e1 e2 t1 t2 k1 k2 hl h1 h2 ih1 ih2 =>
    intro m hm hq
    have : m ≤ l := by
      refine hq l ?_
      rw [tops_app, h1.tops.1]
      refine List.mem_append_right _ ?_
      show l ∈ (if stepD 0 (opAt l) = 0 then (opLev (opAt l)).toList else []) ++ _
      rw [stepD_no (op_par l hl).1 (op_par l hl).2, if_pos rfl, opLev_at hl]
      simp
    exact (Ex.bin hl h1 h2).down this (Nat.le_of_lt hl)
/-- its outermost form -/
theorem Ex.root {l : Nat} {e : PyData} {ts : List Str} {k : Nat} (h : Ex l e ts k) : Ex 5 e ts k ∨ ∃ m t1 t2 e1 e2 k1 k2, l ≤ m ∧ m < 5 ∧ ts = t1 ++ opAt m :: t2 ∧ e = .tuple [.str (opAt m), e1, e2] ∧ Ex m e1 t1 k1 ∧ Ex (m + 1) e2 t2 k2 ∧ k = max k1 k2 := by
  induction h with
  | nm hz => exact .inl (.nm hz)
  | par h _ => exact .inl (.par h)
  | keys h _ => exact .inl (.keys h)
  | look h1 h2 _ _ => exact .inl (.look h1 h2)
  | up _ _ ih =>
    rcases ih with ih | ⟨m, t1, t2, e1, e2, k1, k2, h1, h2, h3⟩
    · exact .inl ih
    · exact .inr ⟨m, t1, t2, e1, e2, k1, k2, by omega, h2, h3⟩
  | @bin l e1 e2 t1 t2 k1 k2 hl h1 h2 _ _ => exact .inr ⟨l, t1, t2, e1, e2, k1, k2, Nat.le_refl _, hl, rfl, rfl, h1, h2, rfl⟩
end Gr
set_option Elab.async false
set_option linter.all false
set_option maxRecDepth 100000
set_option maxHeartbeats 4000000
set_option pp.maxSteps 3000
/-! The law's own reading, by the last of the loosest operators. -/
namespace Gr
open PySem PySem.Spec PyProof.Rows
open Eu (letter letters nameS repS)
/-- the place of the last loosest operator; none: parentheses that do not match, or too many -/
def lastGo : List Str → Nat → Int → Int → Nat → Option Int
  | [], _, d, b, _ => if d = 0 then some b else none
  | t :: r, k, d, b, lv =>
    if stepD d t < 0 ∨ 8 < stepD d t then none
    else if stepD d t = 0 then (match opLev t with
      | some o => if o ≤ lv then lastGo r (k + 1) (stepD d t) k o else lastGo r (k + 1) (stepD d t) b lv
      | none => lastGo r (k + 1) (stepD d t) b lv)
    else lastGo r (k + 1) (stepD d t) b lv
/-- over tokens of an expression that stand deeper, nothing is found -/
theorem last_over {l : Nat} {e : PyData} {ts : List Str} {j : Nat} (h : Ex l e ts j) : ∀ {r : List Str} {k : Nat} {d b : Int} {lv : Nat}, 0 < d → d + (j : Nat) ≤ 8 → lastGo (ts ++ r) k d b lv = lastGo r (k + ts.length) d b lv := by
  have skip : ∀ {t : Str} {r : List Str} {k : Nat} {d b : Int} {lv : Nat}, 0 < stepD d t → stepD d t ≤ 8 → lastGo (t :: r) k d b lv = lastGo r (k + 1) (stepD d t) b lv := fun {t r k d b lv} h0 h8 => by
    show (if stepD d t < 0 ∨ 8 < stepD d t then none else if stepD d t = 0 then _ else lastGo r (k + 1) (stepD d t) b lv) = _
    rw [if_neg (by omega), if_neg (by omega)]
  obtain ⟨s1, s2, s3⟩ := opLev_signs
  have hc : ("," : Str) ≠ "(" ∧ ("," : Str) ≠ ")" := by decide +kernel
  induction h with
  | @nm z hz =>
    intro r k d b lv h0 h8
    obtain ⟨p1, p2⟩ := word_par (name_word hz)
    have e0 := stepD_no p1 p2 d
    show lastGo (z :: r) k d b lv = _
    rw [skip (by rw [e0]; exact h0) (by rw [e0]; omega), e0]
    rfl
  | @par e ts j _ ih =>
    intro r k d b lv h0 h8
    have e1 := (stepD_par d).1
    have e2 := (stepD_par (d + 1)).2
    rw [List.cons_append, List.append_assoc, skip (by rw [e1]; omega) (by rw [e1]; omega), e1, ih (by omega) (by omega)]
    show lastGo ((")" : Str) :: r) _ _ _ _ = _
    rw [skip (by rw [e2]; omega) (by rw [e2]; omega), e2]
    congr 1
    · simp only [List.length_cons, List.length_append, List.length_nil]; omega
    · omega
  | @keys e ts j _ ih =>
    intro r k d b lv h0 h8
    obtain ⟨w1, w2⟩ := word_par wrd.1
    have e0 := stepD_no w1 w2 d
    have e1 := (stepD_par d).1
    have e2 := (stepD_par (d + 1)).2
    rw [List.cons_append, List.cons_append, List.append_assoc, skip (by rw [e0]; omega) (by rw [e0]; omega), e0, skip (by rw [e1]; omega) (by rw [e1]; omega), e1, ih (by omega) (by omega)]
    show lastGo ((")" : Str) :: r) _ _ _ _ = _
    rw [skip (by rw [e2]; omega) (by rw [e2]; omega), e2]
    congr 1
    · simp only [List.length_cons, List.length_append, List.length_nil]; omega
    · omega
  | @look a1 a2 t1 t2 j1 j2 _ _ ih1 ih2 =>
    intro r k d b lv h0 h8
    obtain ⟨w1, w2⟩ := word_par wrd.2
    have e0 := stepD_no w1 w2 d
    have e1 := (stepD_par d).1
    have e2 := (stepD_par (d + 1)).2
    have ec := stepD_no hc.1 hc.2 (d + 1)
    rw [List.cons_append, List.cons_append, List.append_assoc, List.cons_append, List.append_assoc, skip (by rw [e0]; omega) (by rw [e0]; omega), e0, skip (by rw [e1]; omega) (by rw [e1]; omega), e1, ih1 (by omega) (by omega),
      skip (by rw [ec]; omega) (by rw [ec]; omega), ec, ih2 (by omega) (by omega)]
    show lastGo ((")" : Str) :: r) _ _ _ _ = _
    rw [skip (by rw [e2]; omega) (by rw [e2]; omega), e2]
    congr 1
    · simp only [List.length_cons, List.length_append, List.length_nil]; omega
    · omega
  | up _ _ ih => exact ih
  | @bin l e1 e2 t1 t2 j1 j2 hl _ _ ih1 ih2 =>
    intro r k d b lv h0 h8
    have eo := stepD_no (op_par l hl).1 (op_par l hl).2 d
    rw [List.append_assoc, List.cons_append, ih1 h0 (by omega), skip (by rw [eo]; omega) (by rw [eo]; omega), eo, ih2 h0 (by omega)]
    congr 1
    simp only [List.length_cons, List.length_append]
    omega
/-- the last place among the outermost operators, told by the levels -/
def Ok5 (lv : Nat) (b : Int) (q : Option (Int × Nat)) : Int × Nat := q.getD (b, lv)
/-- at the ground: an expression without operators outside -/
theorem last_atom {e : PyData} {ts : List Str} {j : Nat} (h : Ex 5 e ts j) (h8 : j ≤ 8) {r : List Str} {k : Nat} {b : Int} {lv : Nat} : lastGo (ts ++ r) k 0 b lv = lastGo r (k + ts.length) 0 b lv := by
  obtain ⟨s1, s2, s3⟩ := opLev_signs
  have hc : ("," : Str) ≠ "(" ∧ ("," : Str) ≠ ")" := by decide +kernel
  have none0 : ∀ {t : Str} {r : List Str} {k : Nat} {d b : Int} {lv : Nat}, stepD d t = 0 → opLev t = none → lastGo (t :: r) k d b lv = lastGo r (k + 1) 0 b lv := fun {t r k d b lv} h0 hn => by
    show (if stepD d t < 0 ∨ 8 < stepD d t then none else if stepD d t = 0 then (match opLev t with
      | some o => if o ≤ lv then lastGo r (k + 1) (stepD d t) k o else lastGo r (k + 1) (stepD d t) b lv
      | none => lastGo r (k + 1) (stepD d t) b lv) else lastGo r (k + 1) (stepD d t) b lv) = _
    rw [if_neg (by omega), if_pos h0, hn, h0]
  have skip : ∀ {t : Str} {r : List Str} {k : Nat} {d b : Int} {lv : Nat}, 0 < stepD d t → stepD d t ≤ 8 → lastGo (t :: r) k d b lv = lastGo r (k + 1) (stepD d t) b lv := fun {t r k d b lv} h0 h8 => by
    show (if stepD d t < 0 ∨ 8 < stepD d t then none else if stepD d t = 0 then _ else lastGo r (k + 1) (stepD d t) b lv) = _
    rw [if_neg (by omega), if_neg (by omega)]
  have p0 := (stepD_par 0).1
  have p1 : stepD 1 ")" = 0 := by rw [(stepD_par 1).2]; rfl
  have p0' : stepD 0 "(" = 1 := p0
  cases h with
  | nm hz =>
    obtain ⟨q1, q2⟩ := word_par (name_word hz)
    exact none0 (stepD_no q1 q2 0) (opLev_word (name_word hz))
  | @par e ts j h =>
    rw [List.cons_append, List.append_assoc, skip (by rw [p0']; decide) (by rw [p0']; decide), p0', last_over h (by decide) (by omega)]
    show lastGo ((")" : Str) :: r) _ _ _ _ = _
    rw [none0 p1 s2]
    congr 1
    simp only [List.length_cons, List.length_append, List.length_nil]; omega
  | @keys e ts j h =>
    obtain ⟨w1, w2⟩ := word_par wrd.1
    rw [List.cons_append, List.cons_append, List.append_assoc, none0 (stepD_no w1 w2 0) (opLev_word wrd.1), skip (by rw [p0']; decide) (by rw [p0']; decide), p0', last_over h (by decide) (by omega)]
    show lastGo ((")" : Str) :: r) _ _ _ _ = _
    rw [none0 p1 s2]
    congr 1
    simp only [List.length_cons, List.length_append, List.length_nil]; omega
  | @look a1 a2 t1 t2 j1 j2 h1 h2 =>
    obtain ⟨w1, w2⟩ := word_par wrd.2
    have ec := stepD_no hc.1 hc.2 1
    rw [List.cons_append, List.cons_append, List.append_assoc, List.cons_append, List.append_assoc, none0 (stepD_no w1 w2 0) (opLev_word wrd.2), skip (by rw [p0']; decide) (by rw [p0']; decide), p0', last_over h1 (by decide) (by omega),
      skip (by rw [ec]; decide) (by rw [ec]; decide), ec, last_over h2 (by decide) (by omega)]
    show lastGo ((")" : Str) :: r) _ _ _ _ = _
    rw [none0 p1 s2]
    congr 1
    simp only [List.length_cons, List.length_append, List.length_nil]; omega
  | up hl _ => omega
  | bin hl _ _ => omega
end Gr
set_option Elab.async false
set_option linter.all false
set_option maxRecDepth 100000
set_option maxHeartbeats 4000000
set_option pp.maxSteps 3000
namespace Gr
open PySem PySem.Spec PyProof.Rows
open Eu (letter letters nameS repS)
theorem last_op {l : Nat} (hl : l < 5) {r : List Str} {k : Nat} {b : Int} {lv : Nat} : lastGo (opAt l :: r) k 0 b lv = if l ≤ lv then lastGo r (k + 1) 0 k l else lastGo r (k + 1) 0 b lv := by
  have eo := stepD_no (op_par l hl).1 (op_par l hl).2 0
  show (if stepD 0 (opAt l) < 0 ∨ 8 < stepD 0 (opAt l) then none else if stepD 0 (opAt l) = 0 then (match opLev (opAt l) with
      | some o => if o ≤ lv then lastGo r (k + 1) (stepD 0 (opAt l)) k o else lastGo r (k + 1) (stepD 0 (opAt l)) b lv
      | none => lastGo r (k + 1) (stepD 0 (opAt l)) b lv) else lastGo r (k + 1) (stepD 0 (opAt l)) b lv) = _
  rw [eo, if_neg (by decide), if_pos rfl, opLev_at hl]
/-- what is found of an expression at the ground -/
theorem last_ex {l : Nat} {e : PyData} {ts : List Str} {j : Nat} (h : Ex l e ts j) : j ≤ 8 → ∀ {k : Nat} {b : Int} {lv : Nat}, ∃ b' lv', (∀ r, lastGo (ts ++ r) k 0 b lv = lastGo r (k + ts.length) 0 b' lv') ∧ (lv < l → b' = b ∧ lv' = lv) ∧ (l ≤ lv → l ≤ lv') := by
  induction h with
  | nm hz => intro h8 k b lv; exact ⟨b, lv, fun r => last_atom (.nm hz) h8, fun _ => ⟨rfl, rfl⟩, fun h => h⟩
  | par h _ => intro h8 k b lv; exact ⟨b, lv, fun r => last_atom (.par h) h8, fun _ => ⟨rfl, rfl⟩, fun h => h⟩
  | keys h _ => intro h8 k b lv; exact ⟨b, lv, fun r => last_atom (.keys h) h8, fun _ => ⟨rfl, rfl⟩, fun h => h⟩
  | look h1 h2 _ _ => intro h8 k b lv; exact ⟨b, lv, fun r => last_atom (.look h1 h2) h8, fun _ => ⟨rfl, rfl⟩, fun h => h⟩
  | @up l e ts j hl _ ih =>
    intro h8 k b lv
    obtain ⟨b', lv', h1, h2, h3⟩ := ih h8 (k := k) (b := b) (lv := lv)
    refine ⟨b', lv', h1, fun h => h2 (by omega), fun h => ?_⟩
    by_cases hc : lv < l + 1
    · rw [(h2 hc).2]; exact h
    · have := h3 (by omega); omega
  | @bin l e1 e2 t1 t2 j1 j2 hl _ _ ih1 ih2 =>
    intro h8 k b lv
    obtain ⟨b1, l1, a1, a2, a3⟩ := ih1 (by omega) (k := k) (b := b) (lv := lv)
    by_cases hc : l ≤ lv
    · have hl1 := a3 hc
      obtain ⟨b2, l2, c1, c2, c3⟩ := ih2 (by omega) (k := k + t1.length + 1) (b := ((k + t1.length : Nat) : Int)) (lv := l)
      obtain ⟨q1, q2⟩ := c2 (by omega)
      rw [q1, q2] at c1
      refine ⟨((k + t1.length : Nat) : Int), l, fun r => ?_, fun h => absurd h (by omega), fun _ => Nat.le_refl _⟩
      rw [List.append_assoc, List.cons_append, a1, last_op hl, if_pos hl1, c1]
      congr 1
      simp only [List.length_append, List.length_cons]; omega
    · obtain ⟨q1, q2⟩ := a2 (by omega)
      rw [q1, q2] at a1
      obtain ⟨b2, l2, c1, c2, c3⟩ := ih2 (by omega) (k := k + t1.length + 1) (b := b) (lv := lv)
      obtain ⟨q3, q4⟩ := c2 (by omega)
      rw [q3, q4] at c1
      refine ⟨b, lv, fun r => ?_, fun _ => ⟨rfl, rfl⟩, fun h => absurd h hc⟩
      rw [List.append_assoc, List.cons_append, a1, last_op hl, if_neg hc, c1]
      congr 1
      simp only [List.length_append, List.length_cons]; omega
/-- of a whole expression: where its outermost operator stands -/
theorem last_bin {m : Nat} {e1 e2 : PyData} {t1 t2 : List Str} {j1 j2 : Nat} (hm : m < 5) (h1 : Ex m e1 t1 j1) (h2 : Ex (m + 1) e2 t2 j2) (k1 : j1 ≤ 8) (k2 : j2 ≤ 8) : lastGo (t1 ++ opAt m :: t2) 0 0 (-1) 9 = some ((t1.length : Nat) : Int) := by
  obtain ⟨b1, l1, a1, a2, a3⟩ := last_ex h1 k1 (k := 0) (b := -1) (lv := 9)
  obtain ⟨b2, l2, c1, c2, c3⟩ := last_ex h2 k2 (k := 0 + t1.length + 1) (b := ((0 + t1.length : Nat) : Int)) (lv := m)
  obtain ⟨q1, q2⟩ := c2 (by omega)
  rw [q1, q2] at c1
  rw [a1, last_op hm, if_pos (a3 (by omega))]
  have := c1 []
  rw [List.append_nil] at this
  rw [this]
  show (if (0 : Int) = 0 then some (((0 + t1.length : Nat) : Int)) else none) = _
  rw [if_pos rfl, Nat.zero_add]
theorem last_five {e : PyData} {ts : List Str} {j : Nat} (h : Ex 5 e ts j) (h8 : j ≤ 8) : lastGo ts 0 0 (-1) 9 = some (-1) := by
  have := last_atom h h8 (r := []) (k := 0) (b := -1) (lv := 9)
  rw [List.append_nil] at this
  rw [this]
  rfl
end Gr
set_option Elab.async false
set_option linter.all false
set_option maxRecDepth 100000
set_option maxHeartbeats 4000000
set_option pp.maxSteps 3000
namespace Gr
open PySem PySem.Spec PyProof.Rows
open Eu (letter letters nameS repS)
/-- the first comma at which both sides are read -/
def lookGo (f : List Str → Option PyData) : List Str → List Str → Option PyData
  | _, [] => none
  | done, t :: r => if t = "," then (match f done, f r with
      | some x, some y => some (.tuple [.str "look", x, y])
      | _, _ => lookGo f (done ++ [t]) r) else lookGo f (done ++ [t]) r
def calledF (f : List Str → Option PyData) (wd : Str) (ts : List Str) : Option PyData :=
  if wd = "keys" then (f ts).map fun e => .tuple [.str "keys", e] else if wd = "look" then lookGo f [] ts else none
def parsedF : Nat → List Str → Option PyData
  | 0, _ => none
  | n + 1, ts => match lastGo ts 0 0 (-1) 9 with
    | none => none
    | some a => if ts = [] then none
      else if 0 ≤ a then (match parsedF n (ts.take a.toNat), parsedF n (ts.drop (a.toNat + 1)) with
        | some x, some y => some (.tuple [.str (ts.getD a.toNat ""), x, y])
        | _, _ => none)
      else if ts.length = 1 then (if nameS (ts.headD "") = true then some (.str (ts.headD "")) else none)
      else if ts.getLastD "" ≠ ")" then none
      else if ts.headD "" = "(" then parsedF n ts.tail.dropLast
      else if ts.length < 4 ∨ ts.tail.headD "" ≠ "(" then none
      else calledF (parsedF n) (ts.headD "") (ts.drop 2).dropLast
theorem ex_ne {l : Nat} {e : PyData} {ts : List Str} {j : Nat} (h : Ex l e ts j) : ts ≠ [] := by
  induction h with
  | up _ _ ih => exact ih
  | bin _ _ _ _ _ => simp
  | _ => simp
/-- an expression is parsed, by fuel -/
theorem parsed_op {n : Nat} {m : Nat} {e1 e2 : PyData} {t1 t2 : List Str} {j1 j2 : Nat} (hm : m < 5) (h1 : Ex m e1 t1 j1) (h2 : Ex (m + 1) e2 t2 j2) (k1 : j1 ≤ 8) (k2 : j2 ≤ 8) (p1 : parsedF n t1 = some e1) (p2 : parsedF n t2 = some e2) :
    parsedF (n + 1) (t1 ++ opAt m :: t2) = some (.tuple [.str (opAt m), e1, e2]) := by
  unfold parsedF
  rw [last_bin hm h1 h2 k1 k2]
  dsimp only
  rw [if_neg (by simp), if_pos (by omega), Int.toNat_natCast]
  have a1 : (t1 ++ opAt m :: t2).take t1.length = t1 := by simp
  have a2 : (t1 ++ opAt m :: t2).drop (t1.length + 1) = t2 := by simp
  have a3 : (t1 ++ opAt m :: t2).getD t1.length "" = opAt m := by simp
  rw [a1, a2, a3, p1, p2]
end Gr
set_option Elab.async false
set_option linter.all false
set_option maxRecDepth 100000
set_option maxHeartbeats 4000000
set_option pp.maxSteps 3000
namespace Gr
open PySem PySem.Spec PyProof.Rows
open Eu (letter letters nameS repS)
theorem parsed_nm {n : Nat} {z : Str} (h : nameS z = true) : parsedF (n + 1) [z] = some (.str z) := by
  unfold parsedF
  rw [last_five (.nm h) (by decide)]
  show (if [z] = [] then none else if (0 : Int) ≤ -1 then _ else if [z].length = 1 then (if nameS z = true then some (PyData.str z) else none) else _) = _
  rw [if_neg (by simp), if_neg (by decide), if_pos (show [z].length = 1 from rfl), if_pos h]
theorem parsed_par {n : Nat} {e : PyData} {ts : List Str} {j : Nat} (h : Ex 0 e ts j) (h8 : j + 1 ≤ 8) (p : parsedF n ts = some e) : parsedF (n + 1) (("(" : Str) :: (ts ++ [(")" : Str)])) = some e := by
  unfold parsedF
  rw [last_five (.par h) h8]
  have a1 : (("(" : Str) :: (ts ++ [(")" : Str)])).getLastD "" = ")" := by
    rw [List.getLastD_cons, List.getLastD_concat]
  have a2 : (("(" : Str) :: (ts ++ [(")" : Str)])).tail.dropLast = ts := by
    show (ts ++ [(")" : Str)]).dropLast = ts
    rw [List.dropLast_concat]
  dsimp only
  rw [if_neg (by simp), if_neg (by decide), if_neg (by have := ex_ne h; cases ts with | nil => exact absurd rfl this | cons a r => simp), a1, if_neg (by simp), if_pos (show (("(" : Str) :: (ts ++ [(")" : Str)])).headD "" = "(" from rfl), a2, p]
theorem parsed_keys {n : Nat} {e : PyData} {ts : List Str} {j : Nat} (h : Ex 0 e ts j) (h8 : j + 1 ≤ 8) (p : parsedF n ts = some e) : parsedF (n + 1) (("keys" : Str) :: ("(" : Str) :: (ts ++ [(")" : Str)])) = some (.tuple [.str "keys", e]) := by
  unfold parsedF
  rw [last_five (.keys h) h8]
  have hn := ex_ne h
  have hl : 1 ≤ ts.length := by cases ts with | nil => exact absurd rfl hn | cons a r => simp
  have a1 : (("keys" : Str) :: ("(" : Str) :: (ts ++ [(")" : Str)])).getLastD "" = ")" := by
    rw [List.getLastD_cons, List.getLastD_cons, List.getLastD_concat]
  have a2 : ((("keys" : Str) :: ("(" : Str) :: (ts ++ [(")" : Str)])).drop 2).dropLast = ts := by
    show (ts ++ [(")" : Str)]).dropLast = ts
    rw [List.dropLast_concat]
  dsimp only
  rw [if_neg (by simp), if_neg (by decide), if_neg (by simp), a1, if_neg (by simp), if_neg (show ¬ (("keys" : Str) :: ("(" : Str) :: (ts ++ [(")" : Str)])).headD "" = "(" from unlike.2.2.2.1), if_neg ?_, a2]
  · unfold calledF
    show (if ("keys" : Str) = "keys" then _ else _) = _
    rw [if_pos rfl, p]
    rfl
  · rintro (h | h)
    · simp only [List.length_cons, List.length_append, List.length_nil] at h
      omega
    · exact h rfl
end Gr
set_option Elab.async false
set_option linter.all false
set_option maxRecDepth 100000
set_option maxHeartbeats 4000000
set_option pp.maxSteps 3000
/-! The law's own reading is the program's. -/
namespace Gr
open PySem PySem.Spec PyProof.Rows
open Eu (letter letters nameS repS)
/-- what makes the reading deeper -/
def heavy (t : Str) : Bool := decide (t = "(") || (opLev t).isSome
def wt (ts : List Str) : Nat := ts.countP heavy
theorem wt_app (a b : List Str) : wt (a ++ b) = wt a + wt b := List.countP_append
theorem wt_cons (t : Str) (b : List Str) : wt (t :: b) = wt b + (if heavy t = true then 1 else 0) := List.countP_cons
theorem wt_op {l : Nat} (h : l < 5) : heavy (opAt l) = true := by
  unfold heavy
  rw [opLev_at h]
  simp
theorem wt_par : heavy "(" = true := by decide +kernel
/-! ### commas -/
def noCom (b : Int) : Int → List Str → Prop
  | _, [] => True
  | d, t :: r => (t = "," → b < stepD d t) ∧ noCom b (stepD d t) r
theorem noCom_app {b : Int} : ∀ (x y : List Str) (d : Int), noCom b d (x ++ y) ↔ noCom b d x ∧ noCom b (depS d x) y
  | [], y, d => ⟨fun h => ⟨trivial, h⟩, fun h => h.2⟩
  | t :: x, y, d => by
    show (_ ∧ noCom b (stepD d t) (x ++ y)) ↔ (_ ∧ noCom b (stepD d t) x) ∧ noCom b (depS (stepD d t) x) y
    rw [noCom_app x y, and_assoc]
theorem noCom_mono {b c : Int} (h : b ≤ c) : ∀ (x : List Str) (d : Int), noCom c d x → noCom b d x
  | [], _, _ => trivial
  | t :: x, d, hx => ⟨fun e => by have := hx.1 e; omega, noCom_mono h x _ hx.2⟩
theorem Ex.commas {l : Nat} {e : PyData} {ts : List Str} {k : Nat} (h : Ex l e ts k) : ∀ d, noCom d d ts := by
  have n1 : ("(" : Str) ≠ "," := by decide +kernel
  have n2 : (")" : Str) ≠ "," := by decide +kernel
  have hc : ("," : Str) ≠ "(" ∧ ("," : Str) ≠ ")" := by decide +kernel
  induction h with
  | @nm z hz => intro d; exact ⟨fun e => absurd e (Xp.word_comma (name_word hz)), trivial⟩
  | @par e ts k h ih =>
    intro d
    refine ⟨fun e => absurd e n1, ?_⟩
    rw [(stepD_par d).1]
    refine (noCom_app _ _ _).mpr ⟨noCom_mono (by omega) _ _ (ih (d + 1)), ⟨fun e => absurd e n2, trivial⟩⟩
  | @keys e ts k h ih =>
    intro d
    refine ⟨fun e => absurd e (Xp.word_comma wrd.1), fun e => absurd e n1, ?_⟩
    rw [stepD_no (word_par wrd.1).1 (word_par wrd.1).2, (stepD_par d).1]
    refine (noCom_app _ _ _).mpr ⟨noCom_mono (by omega) _ _ (ih (d + 1)), ⟨fun e => absurd e n2, trivial⟩⟩
  | @look e1 e2 t1 t2 k1 k2 h1 h2 ih1 ih2 =>
    intro d
    refine ⟨fun e => absurd e (Xp.word_comma wrd.2), fun e => absurd e n1, ?_⟩
    rw [stepD_no (word_par wrd.2).1 (word_par wrd.2).2, (stepD_par d).1]
    refine (noCom_app _ _ _).mpr ⟨noCom_mono (by omega) _ _ (ih1 (d + 1)), ?_⟩
    rw [h1.tops.1]
    refine ⟨fun _ => by rw [stepD_no hc.1 hc.2]; omega, ?_⟩
    rw [stepD_no hc.1 hc.2]
    refine (noCom_app _ _ _).mpr ⟨noCom_mono (by omega) _ _ (ih2 (d + 1)), ⟨fun e => absurd e n2, trivial⟩⟩
  | up _ _ ih => exact ih
  | @bin l e1 e2 t1 t2 k1 k2 hl h1 h2 ih1 ih2 =>
    intro d
    refine (noCom_app _ _ _).mpr ⟨ih1 d, ?_⟩
    rw [h1.tops.1]
    have no : opAt l ≠ "," := (comma_op l hl).symm
    refine ⟨fun e => absurd e no, ?_⟩
    rw [stepD_no (op_par l hl).1 (op_par l hl).2]
    exact ih2 d
/-! ### what was found -/
theorem opLev_inv {t : Str} {o : Nat} (h : opLev t = some o) : o < 5 ∧ t = opAt o := by
  unfold opLev at h
  repeat' (split at h)
  all_goals first | (cases h; exact ⟨by decide, by assumption⟩) | cases h
theorem last_inv : ∀ {ts : List Str} {k : Nat} {d b : Int} {lv : Nat} {a : Int}, lastGo ts k d b lv = some a →
    depS d ts = 0 ∧ ((a = b ∧ ∀ q ∈ tops d ts, lv < q) ∨ ∃ t1 t2 m, ts = t1 ++ opAt m :: t2 ∧ a = ((k + t1.length : Nat) : Int) ∧ m < 5 ∧ m ≤ lv ∧ (∀ q ∈ tops d t1, m ≤ q) ∧ ∀ q ∈ tops 0 t2, m < q)
  | [], k, d, b, lv, a, h => by
    unfold lastGo at h
    split at h
    · rename_i hd
      cases h
      exact ⟨hd, .inl ⟨rfl, fun q hq => by cases hq⟩⟩
    · cases h
  | t :: r, k, d, b, lv, a, h => by
    unfold lastGo at h
    split at h
    · cases h
    rename_i hs
    have et : tops d (t :: r) = (if stepD d t = 0 then (opLev t).toList else []) ++ tops (stepD d t) r := rfl
    have pass : (if stepD d t = 0 then (opLev t).toList else []) = ([] : List Nat) → lastGo r (k + 1) (stepD d t) b lv = some a →
        depS d (t :: r) = 0 ∧ ((a = b ∧ ∀ q ∈ tops d (t :: r), lv < q) ∨ ∃ t1 t2 m, t :: r = t1 ++ opAt m :: t2 ∧ a = ((k + t1.length : Nat) : Int) ∧ m < 5 ∧ m ≤ lv ∧ (∀ q ∈ tops d t1, m ≤ q) ∧ ∀ q ∈ tops 0 t2, m < q) := by
      intro he hh
      obtain ⟨i1, i2⟩ := last_inv hh
      refine ⟨i1, ?_⟩
      rcases i2 with ⟨i2, i3⟩ | ⟨t1, t2, m, j1, j2, j3, j4, j5, j6⟩
      · refine .inl ⟨i2, fun q hq => ?_⟩
        rw [et, he] at hq
        exact i3 q hq
      · refine .inr ⟨t :: t1, t2, m, by rw [j1]; rfl, by rw [j2]; simp only [List.length_cons]; omega, j3, j4, fun q hq => ?_, j6⟩
        have : tops d (t :: t1) = (if stepD d t = 0 then (opLev t).toList else []) ++ tops (stepD d t) t1 := rfl
        rw [this, he] at hq
        exact j5 q hq
    split at h
    · rename_i h0
      split at h
      · rename_i o ho
        obtain ⟨o5, eo⟩ := opLev_inv ho
        have e1 : (if stepD d t = 0 then (opLev t).toList else []) = [o] := by rw [if_pos h0, ho]; rfl
        split at h
        · rename_i hle
          obtain ⟨i1, i2⟩ := last_inv h
          refine ⟨i1, .inr ?_⟩
          rcases i2 with ⟨i2, i3⟩ | ⟨t1, t2, m, j1, j2, j3, j4, j5, j6⟩
          · refine ⟨[], r, o, by rw [eo]; rfl, by rw [i2]; simp, o5, hle, (fun q hq => by cases hq), fun q hq => ?_⟩
            rw [h0] at i3
            exact i3 q hq
          · refine ⟨t :: t1, t2, m, by rw [j1]; rfl, by rw [j2]; simp only [List.length_cons]; omega, j3, by omega, fun q hq => ?_, j6⟩
            have : tops d (t :: t1) = (if stepD d t = 0 then (opLev t).toList else []) ++ tops (stepD d t) t1 := rfl
            rw [this, e1] at hq
            rcases List.mem_cons.mp hq with rfl | hq
            · exact j4
            · exact j5 q hq
        · rename_i hle
          obtain ⟨i1, i2⟩ := last_inv h
          refine ⟨i1, ?_⟩
          rcases i2 with ⟨i2, i3⟩ | ⟨t1, t2, m, j1, j2, j3, j4, j5, j6⟩
          · refine .inl ⟨i2, fun q hq => ?_⟩
            rw [et, e1] at hq
            rcases List.mem_cons.mp hq with rfl | hq
            · omega
            · exact i3 q hq
          · refine .inr ⟨t :: t1, t2, m, by rw [j1]; rfl, by rw [j2]; simp only [List.length_cons]; omega, j3, j4, fun q hq => ?_, j6⟩
            have : tops d (t :: t1) = (if stepD d t = 0 then (opLev t).toList else []) ++ tops (stepD d t) t1 := rfl
            rw [this, e1] at hq
            rcases List.mem_cons.mp hq with rfl | hq
            · omega
            · exact j5 q hq
      · rename_i ho
        exact pass (by rw [if_pos h0, ho]; rfl) h
    · rename_i h0
      exact pass (by rw [if_neg h0]) h
theorem last_open : ∀ {ts : List Str} {k : Nat} {d b m : Int} {lv : Nat} {a : Int}, lastGo ts k d b lv = some a → m ≤ 8 → (openF ts (d, m)).2 ≤ 8
  | [], _, d, _, m, _, _, _, hm => hm
  | t :: r, k, d, b, m, lv, a, h, hm => by
    unfold lastGo at h
    split at h
    · cases h
    rename_i hs
    have go : ∀ {k b lv}, lastGo r k (stepD d t) b lv = some a → (openF (t :: r) (d, m)).2 ≤ 8 := fun hh => by
      show (openF r (stepD d t, max m (stepD d t))).2 ≤ 8
      exact last_open hh (by omega)
    split at h
    · split at h
      · split at h
        · exact go h
        · exact go h
      · exact go h
    · exact go h
/-! ### look -/
theorem look_skip {f : List Str → Option PyData} : ∀ (a done r : List Str), (∀ p q, a = p ++ ("," : Str) :: q → f (done ++ p) = none) → lookGo f done (a ++ r) = lookGo f (done ++ a) r
  | [], done, r, _ => by rw [List.append_nil]; rfl
  | t :: a, done, r, h => by
    have ih := look_skip a (done ++ [t]) r (fun p q e => by
      have := h (t :: p) q (by rw [e]; rfl)
      rw [List.append_assoc]
      exact this)
    have e : done ++ [t] ++ a = done ++ t :: a := by simp
    rw [e] at ih
    show (if t = "," then (match f done, f (a ++ r) with
      | some x, some y => some (.tuple [.str "look", x, y])
      | _, _ => lookGo f (done ++ [t]) (a ++ r)) else lookGo f (done ++ [t]) (a ++ r)) = _
    by_cases hc : t = ","
    · have := h [] a (by rw [hc]; rfl)
      rw [List.append_nil] at this
      rw [if_pos hc, this]
      exact ih
    · rw [if_neg hc]
      exact ih
theorem parsed_none {n : Nat} {ts : List Str} (h : lastGo ts 0 0 (-1) 9 = none) : parsedF n ts = none := by
  cases n with
  | zero => rfl
  | succ n => unfold parsedF; rw [h]
theorem parsed_look {n : Nat} {e1 e2 : PyData} {t1 t2 : List Str} {j1 j2 : Nat} (h1 : Ex 0 e1 t1 j1) (h2 : Ex 0 e2 t2 j2) (h8 : max j1 j2 + 1 ≤ 8) (p1 : parsedF n t1 = some e1) (p2 : parsedF n t2 = some e2) :
    parsedF (n + 1) (("look" : Str) :: ("(" : Str) :: (t1 ++ ("," : Str) :: (t2 ++ [(")" : Str)]))) = some (.tuple [.str "look", e1, e2]) := by
  unfold parsedF
  rw [last_five (.look h1 h2) h8]
  have a0 : ("look" : Str) :: ("(" : Str) :: (t1 ++ ("," : Str) :: (t2 ++ [(")" : Str)])) = ("look" : Str) :: ("(" : Str) :: ((t1 ++ ("," : Str) :: t2) ++ [(")" : Str)]) := by simp
  rw [a0]
  have a1 : (("look" : Str) :: ("(" : Str) :: ((t1 ++ ("," : Str) :: t2) ++ [(")" : Str)])).getLastD "" = ")" := by
    rw [List.getLastD_cons, List.getLastD_cons, List.getLastD_concat]
  have a2 : ((("look" : Str) :: ("(" : Str) :: ((t1 ++ ("," : Str) :: t2) ++ [(")" : Str)])).drop 2).dropLast = t1 ++ ("," : Str) :: t2 := by
    show ((t1 ++ ("," : Str) :: t2) ++ [(")" : Str)]).dropLast = _
    rw [List.dropLast_concat]
  dsimp only
  rw [if_neg (by simp), if_neg (by decide), if_neg (by simp), a1, if_neg (by simp), if_neg (show ¬ (("look" : Str) :: ("(" : Str) :: ((t1 ++ ("," : Str) :: t2) ++ [(")" : Str)])).headD "" = "(" from unlike.2.2.2.2.1), if_neg ?_, a2]
  · unfold calledF
    show (if ("look" : Str) = "keys" then _ else if ("look" : Str) = "look" then _ else _) = _
    rw [if_neg unlike.2.2.2.2.2, if_pos rfl, look_skip t1 [] _ ?_]
    · show (if ("," : Str) = "," then (match parsedF n t1, parsedF n t2 with
        | some x, some y => some (.tuple [.str "look", x, y])
        | _, _ => lookGo (parsedF n) (t1 ++ [("," : Str)]) t2) else lookGo (parsedF n) (t1 ++ [("," : Str)]) t2) = _
      rw [if_pos rfl, p1, p2]
    · intro p q e
      have hc := h1.commas 0
      rw [e] at hc
      have hd := ((noCom_app _ _ _).mp hc).2.1 rfl
      have hcc : ("," : Str) ≠ "(" ∧ ("," : Str) ≠ ")" := by decide +kernel
      rw [stepD_no hcc.1 hcc.2] at hd
      rw [List.nil_append]
      refine parsed_none ?_
      match hl : lastGo p 0 0 (-1) 9 with
      | none => rfl
      | some a =>
        have := (last_inv hl).1
        omega
  · rintro (h | h)
    · simp only [List.length_cons, List.length_append, List.length_nil] at h
      omega
    · exact h rfl
/-! ### both ways -/
theorem parsed_of : ∀ (n : Nat) {e : PyData} {ts : List Str} {k : Nat}, Ex 0 e ts k → k ≤ 8 → wt ts < n → parsedF n ts = some e
  | 0, _, _, _, _, _, h => absurd h (Nat.not_lt_zero _)
  | n + 1, e, ts, k, h, h8, hw => by
    rcases h.root with h5 | ⟨m, t1, t2, e1, e2, k1, k2, _, hm, rfl, rfl, h1, h2, rfl⟩
    · cases h5 with
      | nm hz => exact parsed_nm hz
      | @par e ts k h' =>
        rw [wt_cons, wt_app, if_pos wt_par] at hw
        exact parsed_par h' h8 (parsed_of n h' (by omega) (by omega))
      | @keys e ts k h' =>
        rw [wt_cons, wt_cons, wt_app, if_pos wt_par] at hw
        exact parsed_keys h' h8 (parsed_of n h' (by omega) (by omega))
      | @look e1 e2 t1 t2 k1 k2 h1 h2 =>
        rw [wt_cons, wt_cons, wt_app, wt_cons, wt_app, if_pos wt_par] at hw
        exact parsed_look h1 h2 h8 (parsed_of n h1 (by omega) (by omega)) (parsed_of n h2 (by omega) (by omega))
      | up hl _ => exact absurd hl (by decide)
      | bin hl _ _ => exact absurd hl (by decide)
    · rw [wt_app, wt_cons, if_pos (wt_op hm)] at hw
      exact parsed_op hm h1 h2 (by omega) (by omega) (parsed_of n (h1.down (Nat.zero_le _) (by omega)) (by omega) (by omega)) (parsed_of n (h2.down (Nat.zero_le _) (by omega)) (by omega) (by omega))
theorem last_parts {ts : List Str} {z : Str} (hz : z ≠ "") (hl : ts.getLastD "" = z) : ts = ts.dropLast ++ [z] := by
  have hn : ts ≠ [] := by
    rintro rfl
    exact hz hl.symm
  have := List.dropLast_concat_getLast hn
  rw [← hl, List.getLastD_eq_getLast?, List.getLast?_eq_some_getLast hn]
  exact this.symm
theorem look_inv {f : List Str → Option PyData} {e : PyData} : ∀ (ts done : List Str), lookGo f done ts = some e → ∃ p q x y, done ++ ts = p ++ ("," : Str) :: q ∧ f p = some x ∧ f q = some y ∧ e = .tuple [.str "look", x, y]
  | [], done, h => by cases h
  | t :: r, done, h => by
    unfold lookGo at h
    have ih := look_inv (f := f) (e := e) r (done ++ [t])
    have e0 : done ++ [t] ++ r = done ++ t :: r := by simp
    rw [e0] at ih
    split at h
    · rename_i hc
      split at h
      · rename_i x y hx hy
        cases h
        exact ⟨done, r, x, y, by rw [hc], hx, hy, rfl⟩
      · exact ih h
    · exact ih h
theorem parsed_snd : ∀ (n : Nat) {e : PyData} {ts : List Str}, parsedF n ts = some e → ∃ k, Ex 0 e ts k
  | 0, _, _, h => by cases h
  | n + 1, e, ts, h => by
    unfold parsedF at h
    split at h
    · cases h
    rename_i a ha
    split at h
    · cases h
    rename_i hne
    split at h
    · rename_i ha0
      split at h
      · rename_i x y hx hy
        cases h
        rcases (last_inv ha).2 with ⟨e1, _⟩ | ⟨t1, t2, m, rfl, e2, hm, _, c1, c2⟩
        · omega
        · have ea : a.toNat = t1.length := by omega
          have a1 : (t1 ++ opAt m :: t2).take t1.length = t1 := by simp
          have a2 : (t1 ++ opAt m :: t2).drop (t1.length + 1) = t2 := by simp
          have a3 : (t1 ++ opAt m :: t2).getD t1.length "" = opAt m := by simp
          rw [ea, a1] at hx
          rw [ea, a2] at hy
          rw [ea, a3]
          obtain ⟨k1, h1⟩ := parsed_snd n hx
          obtain ⟨k2, h2⟩ := parsed_snd n hy
          exact ⟨_, (Ex.bin hm (h1.lift (by omega) c1) (h2.lift (by omega) c2)).down (Nat.zero_le _) (by omega)⟩
      · cases h
    · split at h
      · rename_i hl
        split at h
        · rename_i hn
          cases h
          match ts, hl with
          | [z], _ => exact ⟨0, (Ex.nm hn).down (Nat.zero_le _) (Nat.le_refl _)⟩
        · cases h
      · rename_i hl1
        split at h
        · cases h
        rename_i hlast
        have hlast : ts.getLastD "" = ")" := Classical.not_not.mp hlast
        have ep := last_parts (by decide +kernel) hlast
        split at h
        · rename_i hh
          have eh := head_tail hh (by decide +kernel)
          obtain ⟨k, hk⟩ := parsed_snd n h
          refine ⟨k + 1, ?_⟩
          have el : ts.tail = ts.tail.dropLast ++ [(")" : Str)] := by
            rw [eh] at ep
            have hn : ts.tail ≠ [] := by
              intro hn
              rw [hn] at eh
              rw [eh] at hl1
              exact hl1 rfl
            obtain ⟨x, r, ex⟩ := List.exists_cons_of_ne_nil hn
            rw [ex] at ep ⊢
            simpa using ep
          rw [eh, el]
          exact (Ex.par hk).down (Nat.zero_le _) (Nat.le_refl _)
        · split at h
          · cases h
          rename_i hlen
          have hlen4 : 4 ≤ ts.length := by
            rcases Nat.lt_or_ge ts.length 4 with q | q
            · exact absurd (.inl q) hlen
            · exact q
          have hp : ts.tail.headD "" = "(" := Classical.not_not.mp (fun q => hlen (.inr q))
          have hz : ∃ z, ts = z :: ts.tail ∧ ts.headD "" = z := by
            match ts, hlen4 with
            | z :: r, _ => exact ⟨z, rfl, rfl⟩
          obtain ⟨z, ez, hz⟩ := hz
          have et := head_tail hp (by decide +kernel)
          have e2 : ts.tail.tail = ts.drop 2 := by rw [← List.drop_one, ← List.drop_one, List.drop_drop]
          have em : ts.drop 2 = (ts.drop 2).dropLast ++ [(")" : Str)] := by
            have hn : ts.drop 2 ≠ [] := by
              intro q
              have := congrArg List.length q
              rw [List.length_drop] at this
              simp only [List.length_nil] at this
              omega
            rw [ez, et, e2] at ep
            obtain ⟨x, r, ex⟩ := List.exists_cons_of_ne_nil hn
            rw [ex] at ep ⊢
            simpa using ep
          have efull : ts = z :: ("(" : Str) :: ((ts.drop 2).dropLast ++ [(")" : Str)]) := by
            rw [← em, ← e2, ← et, ← ez]
          unfold calledF at h
          rw [hz] at h
          split at h
          · rename_i hk
            match hp' : parsedF n (ts.drop 2).dropLast, h with
            | some x, h =>
              cases h
              obtain ⟨k, hk'⟩ := parsed_snd n hp'
              refine ⟨k + 1, ?_⟩
              rw [efull, hk]
              have := (Ex.keys hk').down (Nat.zero_le _) (Nat.le_refl _)
              simpa using this
            | none, h => cases h
          · split at h
            · rename_i hk
              obtain ⟨p, q, x, y, e3, h3, h4, rfl⟩ := look_inv _ _ h
              rw [List.nil_append] at e3
              obtain ⟨k1, i1⟩ := parsed_snd n h3
              obtain ⟨k2, i2⟩ := parsed_snd n h4
              refine ⟨max k1 k2 + 1, ?_⟩
              rw [efull, hk, e3]
              have := (Ex.look i1 i2).down (Nat.zero_le _) (Nat.le_refl _)
              simpa using this
            · cases h
theorem parsed_last {n : Nat} {e : PyData} {ts : List Str} (h : parsedF n ts = some e) : ∃ a, lastGo ts 0 0 (-1) 9 = some a := by
  match hl : lastGo ts 0 0 (-1) 9 with
  | some a => exact ⟨a, rfl⟩
  | none => rw [parsed_none hl] at h; cases h
theorem parsed_ex {n : Nat} {e : PyData} {ts : List Str} (h : parsedF n ts = some e) : ∃ k, Ex 0 e ts k ∧ k ≤ 8 := by
  obtain ⟨a, ha⟩ := parsed_last h
  obtain ⟨k, hk⟩ := parsed_snd n h
  refine ⟨k, hk, ?_⟩
  have h1 := last_open ha (m := 0) (by decide)
  have h2 := hk.open_ (d := 0) (m := 0) (Int.le_refl _)
  rw [h2] at h1
  have h3 : max 0 (0 + (k : Int)) ≤ 8 := h1
  omega
/-- what the program reads is what the law reads -/
theorem whole_parsed {n : Nat} {ts : List Str} (hw : wt ts < n) (hz : ∀ z ∈ ts, z ≠ "") : wholeF 63 ts = some ((parsedF n ts).map fun e => (e, [])) := by
  match hp : parsedF n ts with
  | some e =>
    obtain ⟨k, hk, h8⟩ := parsed_ex hp
    exact hk.whole h8 (Nat.le_refl _)
  | none =>
    match hq : wholeF 63 ts with
    | none =>
      exfalso
      unfold wholeF at hq
      match ho : opF 63 0 0 ts, hq with
      | none, _ => exact (tot 63).1 0 0 ts (by decide) (by decide) (by decide) ho
      | some none, hq => cases hq
      | some (some (e, r)), hq =>
        dsimp only at hq
        split at hq <;> cases hq
    | some none => rfl
    | some (some (e, r)) =>
      exfalso
      rcases whole_snd hq with ⟨z, h1, h2⟩ | ⟨k, hk, h8⟩
      · exact hz z h1 h2
      · rw [parsed_of n hk h8 hw] at hp
        cases hp
end Gr
set_option Elab.async false
set_option linter.all false
set_option maxRecDepth 100000
set_option maxHeartbeats 4000000
set_option pp.maxSteps 3000
set_option pp.deepTerms false
/-! The law's own tokens. -/
namespace Eu
open PySem PySem.Spec PyProof.Rows L2
open C8 (pe_gc pss_cut)
open Gr
abbrev s_l_tokens : Stmt := top 27
theorem sc_l_tokens : FnScope ["_law_text", "_law_found", "_law_word", "_law_k", "_law_sign", "_law_before"] ["_law_text"] (defScope s_l_tokens) :=
  ⟨rfl, rfl, rfl, by decide +kernel, rfl, by decide +kernel, by decide +kernel⟩
/-- a test that makes new things only -/
theorem ans_ifS {c : TT} {a b : TS} {D : Ends} {σ : L2.St} {H : Hp} {r : Bool} (h : ∀ K : Bool → Hp → Prop, (∀ H', Same H H' → K r H') → c σ H K) (h2 : ∀ H', Same H H' → if r = true then a D σ H' else b D σ H') : tIfS c a b D σ H := h _ h2
theorem le_a (c : Nat) : (!decide ((one c).cps.toList < ("a" : Str).cps.toList)) = decide (97 ≤ c) := by
  show (!decide ([c] < [97])) = _
  rw [sign_lt]
  by_cases h : 97 ≤ c
  · rw [decide_eq_true h, decide_eq_false (by omega)]; rfl
  · rw [decide_eq_false h, decide_eq_true (by omega)]; rfl
theorem le_z (c : Nat) : (!decide (("z" : Str).cps.toList < (one c).cps.toList)) = decide (c ≤ 122) := by
  show (!decide ([122] < [c])) = _
  rw [sign_lt]
  by_cases h : c ≤ 122
  · rw [decide_eq_true h, decide_eq_false (by omega)]; rfl
  · rw [decide_eq_false h, decide_eq_true (by omega)]; rfl
def prevS : Option Nat → Str
  | none => ""
  | some p => one p
theorem cut_prev {z : Str} {i : Nat} (hi : i < z.cps.toList.length) : cutS z (some (if ((i : Nat) : Int) - 1 > 0 then ((i : Nat) : Int) - 1 else 0)) (some ((i : Nat) : Int)) = prevS (prevC z.cps.toList i) := by
  have lz : z.length = z.cps.toList.length := by simp [Str.length]
  unfold cutS
  have e1 : HT.sIx z.length 0 (some (if ((i : Nat) : Int) - 1 > 0 then ((i : Nat) : Int) - 1 else 0)) = i - 1 := by
    have : (if ((i : Nat) : Int) - 1 > 0 then ((i : Nat) : Int) - 1 else 0) = ((i - 1 : Nat) : Int) := by split <;> omega
    rw [this, HT.sIx_nat]
    omega
  have e2 : HT.sIx z.length z.length (some ((i : Nat) : Int)) = i := by rw [HT.sIx_nat]; omega
  rw [e1, e2]
  unfold prevC
  by_cases h0 : i = 0
  · subst h0
    rw [if_pos rfl]
    rfl
  · rw [if_neg h0, List.getElem?_eq_getElem (show i - 1 < z.cps.toList.length by omega), List.drop_eq_getElem_cons (show i - 1 < z.cps.toList.length by omega), show i - (i - 1) = 1 by omega]
    rfl
theorem in_ops' (p : Option Nat) : inV (.str (prevS p)) (ops.map V.str) = decide (∃ q, p = some q ∧ q ∈ opC) := by
  cases p with
  | none =>
    rw [decide_eq_false (by rintro ⟨q, h, _⟩; cases h)]
    show inV (.str "") (ops.map V.str) = false
    decide +kernel
  | some q =>
    show inV (.str (one q)) (ops.map V.str) = _
    rw [in_ops]
    exact decide_eq_decide.mpr ⟨fun h => ⟨q, rfl, h⟩, fun ⟨x, h1, h2⟩ => by cases h1; exact h2⟩
theorem in_nine (c : Nat) : decide (c ∈ ("()=,|^&-@" : Str).cps.toList) = decide (c ∈ signC ∨ c ∈ opC) := by
  have e : ("()=,|^&-@" : Str).cps.toList = signC ++ opC := by decide +kernel
  rw [e]
  exact decide_eq_decide.mpr List.mem_append
theorem word_list (f : List Str) (w : Str) : f.map V.str ++ (List.replicate (if (!decide (V.str w = V.str "")) = true then (1 : Int) else 0).toNat [V.str w]).flatten = (if w = "" then f else f ++ [w]).map V.str := by
  by_cases h : w = ""
  · rw [if_pos h, decide_eq_true (by rw [h])]
    simp
  · rw [if_neg h, decide_eq_false (fun z => h (V.str.inj z))]
    simp
theorem word_one (b : Bool) : -(2 ^ 63) ≤ (if b = true then (1 : Int) else 0) ∧ (if b = true then (1 : Int) else 0) < 2 ^ 63 ∧ 1 * (if b = true then (1 : Int) else 0).toNat ≤ sizeLine ∧ (if b = true then (1 : Int) else 0).toNat ≤ 1 := by
  cases b <;> decide
section
variable {P : Program} {w : World} {K : PySem.W.Frag} {mg : Str → Option Value} {base : Heap} {kw ka C CB : Addr}
theorem ok_ltok (B : Bl mg) (D : Df K mg "_law_tokens" s_l_tokens) : Cal P w K mg base 1 "_law_tokens" spTokens [] := by
  refine D.cal sc_l_tokens (fun _ _ _ _ _ _ us hl => match us, hl with | [_], _ => rfl) (fun vs H Q E h => ?_) (fun f cdv A out s H vs Q E hr h => ?_)
  · obtain ⟨z, rfl, _⟩ := h
    rfl
  · obtain ⟨z, rfl, hz, q1, q2⟩ := h
    refine ⟨_, (pss_cons (ps_par (i := 1) (j := 2) (by rfl) sc_l_tokens.nd rfl rfl (by decide) rfl rfl (pa_cons (pe_lst pa_nil) (pa_cons pe_str pa_nil)) (by rfl))
(pss_cons (ps_for PassesOwn.never (by rfl) (pi_range1 (by rfl) B.range (pa_cons (pe_callB call_len_str (by rfl) B.len (by decide +kernel) (pa_cons (pv 0) pa_nil)) pa_nil)) (pg_name (i := 3) sc_l_tokens.nd rfl (Or.inl rfl))
(pss_cons (ps_par (i := 4) (j := 5) (by rfl) sc_l_tokens.nd rfl rfl (by decide) rfl rfl (pa_cons (pe_ix ix_str (pv 0) (pv 3) (fun _ _ => rfl)) (pa_cons (pe_slice sl_str (pv 0) (po_some (pe_callB (call_max2 rfl) (by rfl) B.max (by decide +kernel) (pa_cons pe_int (pa_cons (pe_op op_sub (pv 3) pe_int) pa_nil)))) (po_some (pv 3))) pa_nil)) (by rfl))
(pss_one (ps_if (pt_chain op_le_str op_le_str pe_str (pv 4) pe_str)
(pss_one (ps_set (i := 2) sc_l_tokens.nd rfl (Or.inl rfl) (pe_op op_add_str (pv 2) (pv 4))))
(pss_cons (ps_set (i := 1) sc_l_tokens.nd rfl (Or.inl rfl) (pe_op op_cat (pv 1) (pe_op op_rep (pe_lst (pa_cons (pv 2) pa_nil)) (pe_callTy call_int1 (by rfl) B.int (by decide +kernel) (pa_cons (pe_cmpR op_ne (pv 2) pe_str (nomark _)) pa_nil)))))
(pss_cut (ps_set (i := 2) sc_l_tokens.nd rfl (Or.inl rfl) pe_str)
(pss_one (ps_if (PW.pt (pw_and (pt_cmpR op_eq (pv 4) pe_str (nomark _)) (pw_and1 (pt_cmpR op_in_seq (pv 5) (pe_lst (pa_cons pe_str (pa_cons pe_str (pa_cons pe_str (pa_cons pe_str (pa_cons pe_str pa_nil)))))) (by rfl)))))
(pss_one (ps_asg (pe_op op_add_str (pv 5) pe_str) (pg_sub (pv 1) (pe_op op_sub (pe_callB call_len_seq (by rfl) B.len (by decide +kernel) (pa_cons (pv 1) pa_nil)) pe_int) set_list)))
(pss_one (ps_if (pt_cmpR op_in_sign (pv 4) pe_str (by rfl))
(pss_one (ps_expr (pe_bm PySem.F.plainAttrs_list PySem.F.slot_list_append PySem.F.type_list_append mt_append (pv 1) (pa_cons (pv 4) pa_nil))))
(pss_one (ps_if (pt_cmpR op_ne (pv 4) pe_str (nomark _))
(pss_one (ps_ret pe_non))
pss_nil))))))))))))
(pss_one (ps_ret (pe_op op_cat (pv 1) (pe_op op_rep (pe_lst (pa_cons (pv 2) pa_nil)) (pe_callTy call_int1 (by rfl) B.int (by decide +kernel) (pa_cons (pe_cmpR op_ne (pv 2) pe_str (nomark _)) pa_nil)))))))), ?_⟩
    have lz : z.length = z.cps.toList.length := by simp [Str.length]
    have sl : 100002 ≤ sizeLine := by decide
    refine ⟨by show 0 ≤ sizeLine; decide, fun l nl => ⟨_, _, rfl, _, rfl, z, rfl, by omega, _, rfl, by omega, by omega, ?_⟩⟩
    refine for_over over_range (fun i σ H' => ∃ l f w x3 x4 x5, σ = [some (.str z), some (.ref l), some (.str w), x3, x4, x5] ∧ Same H H' ∧ H l = none ∧ H' l = some (.lst (f.map V.str)) ∧ Mid z i f w ∧ ∀ p, prevC z.cps.toList i = some p → p ∈ opC → f.getLastD "" = one p)
      ⟨l, [], "", none, none, none, rfl, same_new nl, nl, upd_same, ⟨rfl, Nat.zero_le _, Nat.zero_le _, (fun t ht => by cases ht), (fun p hp => by cases hp)⟩, (fun p hp => by cases hp)⟩ (fun _ _ _ _ _ => trivial) ?_ ?_
    · rintro i x σ H2 v H2' hx ⟨l, f, w, x3, x4, x5, rfl, s2, nl, hl, md, lst⟩ ⟨rfl, rfl⟩
      obtain ⟨hi, ex⟩ := nums_at hx
      have hi' : i < z.cps.toList.length := by rw [Int.toNat_natCast] at hi; omega
      have ex' : x = ((i : Nat) : Int) := by omega
      subst ex'
      obtain ⟨c, hc⟩ : ∃ c, z.cps.toList[i]? = some c := ⟨_, List.getElem?_eq_getElem hi'⟩
      have hat := atI_nat hc
      refine ⟨_, rfl, _, rfl, z, _, c, rfl, rfl, by omega, hat, _, rfl, _, rfl, _, _, rfl, rfl, _, _, rfl, _, rfl, _, rfl, _, rfl, z, rfl, by omega, _, _, rfl, ?_⟩
      rw [cut_prev hi']
      have tk := md.toks
      rw [drop_at hc] at tk
      have tk' : (match tokStep (prevC z.cps.toList i) c f w with
        | none => none
        | some (f', w') => toksF (some c) (z.cps.toList.drop (i + 1)) f' w') = tokens z := tk
      rw [← prevC_succ hc] at tk'
      dsimp only
      refine ans_if (r := letter c) (fun K hK => ?_) ?_
      · refine ⟨_, rfl, _, _, rfl, rfl, _, rfl, ?_⟩
        rw [le_a]
        unfold letter at hK
        by_cases h97 : 97 ≤ c
        · rw [decide_eq_true h97] at hK ⊢
          refine iteT ⟨_, _, rfl, rfl, _, rfl, ?_⟩
          rw [le_z]
          exact hK
        · rw [decide_eq_false h97] at hK ⊢
          exact iteF ⟨_, rfl, hK⟩
      refine ite2 (fun hlt => ?_) (fun hlt => ?_)
      · refine ⟨_, rfl, _, rfl, w, one c, rfl, rfl, Nat.le_trans (show w.length + 1 ≤ 100002 by have := md.lw; omega) sl, ?_⟩
        have et : tokStep (prevC z.cps.toList i) c f w = some (f, w ++ one c) := by unfold tokStep; rw [if_pos hlt]
        rw [et] at tk'
        have noop : ∀ p, prevC z.cps.toList (i + 1) = some p → p ∈ opC → False := fun p hp hop => by
          rw [prevC_succ hc] at hp
          cases hp
          have hlt' : letter c = true := hlt
          unfold letter at hlt'
          simp only [Bool.and_eq_true, decide_eq_true_eq] at hlt'
          unfold opC at hop
          simp only [List.mem_cons, List.not_mem_nil, or_false] at hop
          omega
        refine ⟨l, f, w ++ one c, _, _, _, rfl, s2, nl, hl, ⟨tk', ?_, ?_, (fun t ht => by have := md.ls t ht; omega), fun p hp hop => (noop p hp hop).elim⟩, fun p hp hop => (noop p hp hop).elim⟩
        · rw [strLen_append, len_one]; have := md.lw; omega
        · have := md.lf
          split <;> omega
      · have hlt' : letter c = false := eq_false_of_ne_true hlt
        have et : tokStep (prevC z.cps.toList i) c f w = (if c = 61 ∧ (∃ p, prevC z.cps.toList i = some p ∧ p ∈ opC) then some ((if w = "" then f else f ++ [w]).dropLast ++ [(if w = "" then f else f ++ [w]).getLastD "" ++ one c], ("" : Str))
            else if c ∈ signC ∨ c ∈ opC then some ((if w = "" then f else f ++ [w]) ++ [one c], ("" : Str)) else if c = 32 then some ((if w = "" then f else f ++ [w]), ("" : Str)) else none) := by
          unfold tokStep
          rw [hlt']
          rfl
        rw [et] at tk'
        have hgl : (if w = "" then f else f ++ [w]).length ≤ i ∧ (∀ t ∈ (if w = "" then f else f ++ [w]), t.length ≤ i) := by
          have h1 := md.lf
          have h2 := md.lw
          by_cases hw : w = ""
          · rw [if_pos hw] at h1 ⊢
            exact ⟨by omega, fun t ht => by have := md.ls t ht; omega⟩
          · rw [if_neg hw] at h1 ⊢
            refine ⟨by rw [List.length_append, List.length_singleton]; omega, fun t ht => ?_⟩
            rcases List.mem_append.mp ht with ht | ht
            · have := md.ls t ht; omega
            · rw [List.mem_singleton.mp ht]; omega
        have lf' : f.length ≤ i := by have := md.lf; split at this <;> omega
        obtain ⟨w1, w2, w3, w4⟩ := word_one (!decide (V.str w = V.str ""))
        refine ⟨_, rfl, _, rfl, by show 1 ≤ sizeLine; decide, fun p1 np1 => ⟨_, rfl, rfl, .inr ⟨_, rfl, p1, _, _, rfl, rfl, upd_same, w1, w2, w3, fun p2 np2 => ?_⟩⟩⟩
        have s3 := same_new (o := .lst [V.str w]) np1
        have s4 := s3.trans (same_new (o := .lst (List.replicate (if (!decide (V.str w = V.str "")) = true then (1 : Int) else 0).toNat [V.str w]).flatten) np2)
        refine ⟨l, p2, _, _, rfl, rfl, s4 _ _ hl, upd_same, ?_, fun p3 np3 => ?_⟩
        · rw [← List.length_append, word_list, List.length_map]
          exact Nat.le_trans (show _ ≤ 100002 by omega) sl
        rw [word_list]
        generalize hg : (if w = "" then f else f ++ [w]) = g at tk' hgl
        have s5 := s2.trans (s4.trans (same_new (o := .lst (g.map V.str)) np3))
        have nl3 : H p3 = none := (s2.trans s4).free np3
        have hl5 : (upd (upd (upd H2' p1 (.lst [V.str w])) p2 (.lst (List.replicate (if (!decide (V.str w = V.str "")) = true then (1 : Int) else 0).toNat [V.str w]).flatten)) p3 (.lst (g.map V.str))) p3 = some (.lst (g.map V.str)) := upd_same
        generalize upd (upd (upd H2' p1 (.lst [V.str w])) p2 (.lst (List.replicate (if (!decide (V.str w = V.str "")) = true then (1 : Int) else 0).toNat [V.str w]).flatten)) p3 (.lst (g.map V.str)) = H5 at s5 hl5
        have nx : ∀ (g' : List Str) (H6 : Hp) (x5 : Option V), Same H H6 → H6 p3 = some (.lst (g'.map V.str)) → toksF (prevC z.cps.toList (i + 1)) (z.cps.toList.drop (i + 1)) g' "" = tokens z → g'.length ≤ i + 1 → (∀ t ∈ g', t.length ≤ i + 1) → (c ∈ opC → g' ≠ [] ∧ g'.getLastD "" = one c) →
            ∃ l f w x3 x4 x5', [some (.str z), some (.ref p3), some (.str ""), some (.int ((i : Nat) : Int)), some (.str (one c)), x5] = [some (.str z), some (.ref l), some (V.str w), x3, x4, x5'] ∧ Same H H6 ∧ H l = none ∧ H6 l = some (.lst (f.map V.str)) ∧ Mid z (i + 1) f w ∧ ∀ p, prevC z.cps.toList (i + 1) = some p → p ∈ opC → f.getLastD "" = one p := by
          intro g' H6 x5 s6 h6 t6 n1 n2 n3
          refine ⟨p3, g', "", _, _, _, rfl, s6, nl3, h6, ⟨t6, Nat.zero_le _, n1, n2, fun p hp hop => ?_⟩, fun p hp hop => ?_⟩
          · rw [prevC_succ hc] at hp
            cases hp
            exact ⟨rfl, (n3 hop).1⟩
          · rw [prevC_succ hc] at hp
            cases hp
            exact (n3 hop).2
        have hsl : g.length < sizeLine := Nat.lt_of_lt_of_le (show g.length < 100002 by omega) sl
        refine ⟨fun σ H' => σ = [some (.str z), some (.ref p3), some (.str ""), some (.int ((i : Nat) : Int)), some (.str (one c)), some (.str (prevS (prevC z.cps.toList i)))] ∧ H' = H5, ⟨rfl, rfl⟩, ?_⟩
        rintro σ H5' ⟨rfl, rfl⟩
        refine ans_ifS (r := decide (c = 61 ∧ (∃ p, prevC z.cps.toList i = some p ∧ p ∈ opC))) (fun K hK => ?_) (fun H6 s6 => ?_)
        · by_cases h61 : c = 61
          · refine ⟨_, rfl, rfl, _, rfl, iteD (by rw [eqSign]; exact (one_eq c 61).mpr h61) ?_⟩
            refine ⟨_, rfl, by show 5 ≤ sizeLine; decide, fun t nt => ⟨t, _, rfl, .inl (.inl (.inl upd_same)), rfl, rfl, _, rfl, ?_⟩⟩
            have := hK _ (same_new (o := .lst (ops.map V.str)) nt)
            have e2 : inV (.str (prevS (prevC z.cps.toList i))) (ops.map V.str) = decide (c = 61 ∧ (∃ p, prevC z.cps.toList i = some p ∧ p ∈ opC)) := by
              rw [in_ops']
              exact decide_eq_decide.mpr ⟨fun h => ⟨h61, h⟩, fun h => h.2⟩
            rw [← e2] at this
            exact this
          · refine ⟨_, rfl, rfl, _, rfl, iteDF (by rw [eqSign]; exact fun z => h61 ((one_eq c 61).mp z)) ?_⟩
            have := hK _ (Same.refl _)
            rw [decide_eq_false (fun h => h61 h.1)] at this
            exact this
        have s06 := s5.trans s6
        have hl6 := s6 _ _ hl5
        refine ite2 (fun hP => ?_) (fun hP => ?_)
        · obtain ⟨h61, p, hp, hop⟩ := of_decide_eq_true hP
          rw [if_pos ⟨h61, p, hp, hop⟩] at tk'
          obtain ⟨w0, f0⟩ := md.op p hp hop
          have eg : g = f := by rw [← hg, if_pos w0]
          have gne : g ≠ [] := by rw [eg]; exact f0
          have egl : g.getLastD "" = one p := by rw [eg]; exact lst p hp hop
          have glen : 0 < g.length := List.length_pos_iff.mpr gne
          have hix : ixN (g.map V.str).length (((g.map V.str).length : Int) - 1) = some (g.length - 1) := by
            unfold ixN
            rw [List.length_map, if_pos (by omega), if_pos (by omega)]
            congr 1
            omega
          refine ⟨_, rfl, _, _, rfl, rfl, ?_, _, rfl, _, rfl, p3, _, rfl, .inl (.inl (.inl hl6)), _, _, rfl, rfl, p3, _, _, _, rfl, rfl, hl6, hix, ?_⟩
          · rw [hp]
            show 1 + 1 ≤ sizeLine
            decide
          have e3 : (g.map V.str).set (g.length - 1) (.str (prevS (prevC z.cps.toList i) ++ "=")) = (g.dropLast ++ [g.getLastD "" ++ one c]).map V.str := by
            rw [egl, hp, h61, ← eqSign]
            have : g = g.dropLast ++ [one p] := last_parts (by intro h; have := congrArg Str.length h; cases this) egl
            have hlen : g.length - 1 = g.dropLast.length := by rw [List.length_dropLast]
            rw [hlen]
            conv => lhs; arg 1; rw [this]
            rw [List.map_append, List.map_append]
            have : (g.dropLast.map V.str).length = g.dropLast.length := List.length_map ..
            rw [← this]
            simp only [List.map_cons, List.map_nil, List.set_append_right _ _ (Nat.le_refl _), Nat.sub_self, List.set_cons_zero]
            rfl
          refine nx (g.dropLast ++ [g.getLastD "" ++ one c]) _ _ (same_putG s06 nl3) (by rw [upd_same, e3]) tk' ?_ ?_ ?_
          · rw [List.length_append, List.length_dropLast, List.length_singleton]
            omega
          · intro t ht
            rcases List.mem_append.mp ht with ht | ht
            · have := hgl.2 t (List.dropLast_subset _ ht)
              omega
            · rw [List.mem_singleton.mp ht, strLen_append, len_one, egl]
              have : (one p).length = 1 := rfl
              have : 0 < i := by
                rcases Nat.eq_zero_or_pos i with e0 | e0
                · rw [e0] at hp; cases hp
                · exact e0
              omega
          · intro hop'
            rw [h61] at hop'
            exact absurd hop' (by decide)
        · rw [if_neg (fun h => hP (decide_eq_true h))] at tk'
          refine ⟨_, rfl, c, _, rfl, rfl, _, rfl, ?_⟩
          rw [in_nine]
          refine ite2 (fun hS => ?_) (fun hS => ?_)
          · rw [if_pos (of_decide_eq_true hS)] at tk'
            refine ⟨_, rfl, .inl ⟨rfl, _, .inl (.inl hl6)⟩, _, rfl, p3, _, _, rfl, rfl, hl6, by rw [List.length_map]; exact hsl, ?_⟩
            refine nx (g ++ [one c]) _ _ (same_putG s06 nl3) (by rw [upd_same, List.map_append]; rfl) tk' ?_ ?_ ?_
            · rw [List.length_append, List.length_singleton]; omega
            · intro t ht
              rcases List.mem_append.mp ht with ht | ht
              · have := hgl.2 t ht
                omega
              · rw [List.mem_singleton.mp ht, len_one]; omega
            · intro _
              exact ⟨by simp, by simp⟩
          · rw [if_neg (fun h => hS (decide_eq_true h))] at tk'
            refine ⟨_, rfl, rfl, _, rfl, ?_⟩
            by_cases h32 : c = 32
            · rw [if_pos h32] at tk'
              refine iteNS (by rw [blank]; exact (one_eq c 32).mpr h32) ?_
              exact nx g _ _ s06 hl6 tk' (by omega) (fun t ht => by have := hgl.2 t ht; omega) (fun hop => by rw [h32] at hop; exact absurd hop (by decide))
            · rw [if_neg h32] at tk'
              refine iteNE (by rw [blank]; exact fun z => h32 ((one_eq c 32).mp z)) ?_
              exact q1 tk'.symm H6 s06
    · rintro σ H2 ⟨l, f, w, x3, x4, x5, rfl, s2, nl, hl, md, lst⟩
      have tk := md.toks
      have hlen : (nums 0 (((z.length : Nat) : Int)).toNat).length = z.cps.toList.length := by rw [nums_len]; omega
      rw [hlen, List.drop_length] at tk
      have tk' : some (if w = "" then f else f ++ [w]) = tokens z := tk
      have h1 := md.lf
      rw [hlen] at h1
      obtain ⟨w1, w2, w3, w4⟩ := word_one (!decide (V.str w = V.str ""))
      refine ⟨_, rfl, _, rfl, by show 1 ≤ sizeLine; decide, fun p1 np1 => ⟨_, rfl, rfl, .inr ⟨_, rfl, p1, _, _, rfl, rfl, upd_same, w1, w2, w3, fun p2 np2 => ?_⟩⟩⟩
      have s3 := same_new (o := .lst [V.str w]) np1
      have s4 := s3.trans (same_new (o := .lst (List.replicate (if (!decide (V.str w = V.str "")) = true then (1 : Int) else 0).toNat [V.str w]).flatten) np2)
      refine ⟨l, p2, _, _, rfl, rfl, s4 _ _ hl, upd_same, ?_, fun p3 np3 => ?_⟩
      · rw [← List.length_append, word_list, List.length_map]
        have : (if w = "" then f else f ++ [w]).length ≤ z.cps.toList.length := by
          by_cases hw : w = ""
          · rw [if_pos hw] at h1 ⊢; omega
          · rw [if_neg hw] at h1 ⊢; rw [List.length_append, List.length_singleton]; omega
        exact Nat.le_trans (show _ ≤ 100002 by omega) sl
      rw [word_list]
      exact q2 _ tk'.symm p3 _ (s2.trans (s4.trans (same_new np3))) ((s2.trans s4).free np3) upd_same
end
end Eu
set_option Elab.async false
set_option linter.all false
set_option maxRecDepth 100000
set_option maxHeartbeats 4000000
set_option pp.maxSteps 3000
/-! What tokens are; what is read of them, as an expression. -/
namespace Gr
open PySem PySem.Spec PyProof.Rows
open Eu (letter letters nameS repS prevC)
structure tokT (t : Str) : Prop where
  ne : t ≠ ""
  low : ∀ c ∈ t.cps.toList, c < 128
  fst : letters t = true ∨ letter (t.cps.toList.headD 0) = false
  shp : letters t = true ∨ (∃ c, t = one c) ∨ ∃ q ∈ opC, t = one q ++ one 61
theorem str_eta {t : Str} {cs : List Nat} (h : t.cps.toList = cs) : t = ⟨cs.toArray⟩ := by
  cases t with
  | mk a =>
    congr 1
    apply Array.ext'
    simpa using h
theorem word_T {w : Str} (h : wordT w) : tokT w := by
  refine ⟨h.1, fun c hc => ?_, .inl h.2, .inl h.2⟩
  have := List.all_eq_true.mp h.2 c hc
  unfold letter at this
  simp only [Bool.and_eq_true, decide_eq_true_eq] at this
  omega
structure TInv (p : Option Nat) (f : List Str) (w : Str) : Prop where
  all : ∀ t ∈ f, tokT t
  let_ : letters w = true
  op : ∀ q, p = some q → q ∈ opC → w = "" ∧ f.getLastD "" = one q
theorem op_low {q : Nat} (h : q ∈ opC) : q < 128 ∧ letter q = false := by
  unfold opC at h
  simp only [List.mem_cons, List.not_mem_nil, or_false] at h
  rcases h with rfl | rfl | rfl | rfl | rfl <;> decide
theorem sign_low {q : Nat} (h : q ∈ signC) : q < 128 ∧ letter q = false := by
  unfold signC at h
  simp only [List.mem_cons, List.not_mem_nil, or_false] at h
  rcases h with rfl | rfl | rfl | rfl <;> decide
theorem one_emp (c : Nat) : one c ≠ "" := fun h => by
  have := congrArg Str.length h
  cases this
theorem step_T {p : Option Nat} {c : Nat} {f f' : List Str} {w w' : Str} (h : TInv p f w) (e : tokStep p c f w = some (f', w')) : TInv (some c) f' w' := by
  unfold tokStep at e
  by_cases hl : letter c = true
  · rw [if_pos hl] at e
    cases e
    refine ⟨h.all, ?_, fun q hq hop => ?_⟩
    · show ((w ++ one c).cps.toList.all letter) = true
      rw [app_cps, List.all_append]
      have h1 : w.cps.toList.all letter = true := h.let_
      rw [h1]
      simpa using hl
    · cases hq
      rw [(op_low hop).2] at hl
      cases hl
  · rw [if_neg hl] at e
    dsimp only at e
    have hf : ∀ t ∈ (if w = "" then f else f ++ [w]), tokT t := by
      by_cases hw : w = ""
      · rw [if_pos hw]; exact h.all
      · rw [if_neg hw]
        intro t ht
        rcases List.mem_append.mp ht with ht | ht
        · exact h.all t ht
        · rw [List.mem_singleton.mp ht]; exact word_T ⟨hw, h.let_⟩
    have l0 : letters "" = true := by decide
    split at e
    · rename_i hP
      cases e
      obtain ⟨h61, q, hq, hop⟩ := hP
      obtain ⟨hw, hlast⟩ := h.op q hq hop
      refine ⟨fun t ht => ?_, l0, fun q' hq' hop' => ?_⟩
      · rcases List.mem_append.mp ht with ht | ht
        · exact hf t (List.dropLast_subset _ ht)
        · rw [List.mem_singleton.mp ht, if_pos hw, hlast, h61]
          refine ⟨fun z => ?_, fun x hx => ?_, .inr ?_, .inr (.inr ⟨q, hop, rfl⟩)⟩
          · have := congrArg Str.length z
            rw [strLen_append] at this
            cases this
          · rw [app_cps] at hx
            rcases List.mem_append.mp hx with hx | hx
            · have : x = q := by simpa using hx
              rw [this]; exact (op_low hop).1
            · have : x = 61 := by simpa using hx
              omega
          · rw [app_cps]
            exact (op_low hop).2
      · cases hq'
        rw [h61] at hop'
        exact absurd hop' (by decide)
    · split at e
      · rename_i hs
        cases e
        have low : c < 128 ∧ letter c = false := by
          rcases hs with hs | hs
          · exact sign_low hs
          · exact op_low hs
        refine ⟨fun t ht => ?_, l0, fun q hq hop => ?_⟩
        · rcases List.mem_append.mp ht with ht | ht
          · exact hf t ht
          · rw [List.mem_singleton.mp ht]
            refine ⟨one_emp c, fun x hx => ?_, .inr low.2, .inr (.inl ⟨c, rfl⟩)⟩
            have : x = c := by simpa using hx
            rw [this]; exact low.1
        · cases hq
          exact ⟨rfl, by simp⟩
      · split at e
        · rename_i h32
          cases e
          refine ⟨hf, l0, fun q hq hop => ?_⟩
          cases hq
          rw [h32] at hop
          exact absurd hop (by decide)
        · cases e
theorem toksF_T : ∀ {cs : List Nat} {p : Option Nat} {f ts : List Str} {w : Str}, TInv p f w → toksF p cs f w = some ts → ∀ t ∈ ts, tokT t
  | [], p, f, ts, w, h, e => by
    have e' : some (if w = "" then f else f ++ [w]) = some ts := e
    cases e'
    by_cases hw : w = ""
    · rw [if_pos hw]; exact h.all
    · rw [if_neg hw]
      intro t ht
      rcases List.mem_append.mp ht with ht | ht
      · exact h.all t ht
      · rw [List.mem_singleton.mp ht]; exact word_T ⟨hw, h.let_⟩
  | c :: r, p, f, ts, w, h, e => by
    have e' : (match tokStep p c f w with
      | none => none
      | some (f', w') => toksF (some c) r f' w') = some ts := e
    match hs : tokStep p c f w, e' with
    | none, e' => cases e'
    | some (f', w'), e' => exact toksF_T (step_T h hs) e'
theorem tokens_T {z : Str} {ts : List Str} (h : tokens z = some ts) : ∀ t ∈ ts, tokT t :=
  toksF_T ⟨(fun t ht => by cases ht), (by decide), (fun q hq => by cases hq)⟩ h
/-- the law's own test of names -/
theorem name_T {t : Str} (h : tokT t) : nameS t = (decide (1 ≤ t.length) && decide (t.length ≤ 4) && !(Eu.kept.contains t) && letter (t.cps.toList.headD 0)) := by
  have hl : letters t = letter (t.cps.toList.headD 0) := by
    rcases h.fst with h1 | h1
    · rw [h1]
      have hne : t.cps.toList ≠ [] := fun e => h.ne (str_eta e)
      obtain ⟨c, r, e⟩ := List.exists_cons_of_ne_nil hne
      have : t.cps.toList.all letter = true := h1
      rw [e, List.all_cons, Bool.and_eq_true] at this
      rw [e]
      exact this.1.symm
    · rw [h1]
      have hne : t.cps.toList ≠ [] := fun e => h.ne (str_eta e)
      obtain ⟨c, r, e⟩ := List.exists_cons_of_ne_nil hne
      show t.cps.toList.all letter = false
      rw [e] at h1 ⊢
      rw [List.all_cons]
      have h1' : letter c = false := h1
      rw [h1']
      rfl
  unfold nameS
  rw [hl]
  cases decide (1 ≤ t.length) <;> cases decide (t.length ≤ 4) <;> cases (Eu.kept.contains t) <;> cases letter (t.cps.toList.headD 0) <;> rfl
/-- a reading, as an expression -/
theorem Ex.xp {l : Nat} {e : PyData} {ts : List Str} {k : Nat} (h : Ex l e ts k) : ∃ x : Xp, e = x.dat ∧ x.ok ∧ x.deep ≤ wt ts ∧ x.size ≤ ts.length := by
  induction h with
  | @nm z hz => exact ⟨.nm z, rfl, hz, Nat.zero_le _, Nat.le_refl _⟩
  | @par e ts k _ ih =>
    obtain ⟨x, h1, h2, h3, h4⟩ := ih
    refine ⟨x, h1, h2, ?_, ?_⟩
    · rw [wt_cons, wt_app]; omega
    · rw [List.length_cons, List.length_append]; omega
  | @keys e ts k _ ih =>
    obtain ⟨x, rfl, h2, h3, h4⟩ := ih
    refine ⟨.ky x, rfl, h2, ?_, ?_⟩
    · rw [wt_cons, wt_cons, wt_app, if_pos wt_par]
      show x.deep + 1 ≤ _
      omega
    · rw [List.length_cons, List.length_cons, List.length_append]
      show x.size + 1 ≤ _
      omega
  | @look e1 e2 t1 t2 k1 k2 _ _ ih1 ih2 =>
    obtain ⟨x, rfl, h2, h3, h4⟩ := ih1
    obtain ⟨y, rfl, g2, g3, g4⟩ := ih2
    refine ⟨.lk x y, rfl, ⟨h2, g2⟩, ?_, ?_⟩
    · rw [wt_cons, wt_cons, wt_app, wt_cons, wt_app, if_pos wt_par]
      show max x.deep y.deep + 1 ≤ _
      omega
    · simp only [List.length_cons, List.length_append]
      show x.size + y.size + 1 ≤ _
      omega
  | up _ _ ih => exact ih
  | @bin l e1 e2 t1 t2 k1 k2 hl _ _ ih1 ih2 =>
    obtain ⟨x, rfl, h2, h3, h4⟩ := ih1
    obtain ⟨y, rfl, g2, g3, g4⟩ := ih2
    refine ⟨.op l x y, rfl, ⟨hl, h2, g2⟩, ?_, ?_⟩
    · rw [wt_app, wt_cons, if_pos (wt_op hl)]
      show max x.deep y.deep + 1 ≤ _
      omega
    · simp only [List.length_cons, List.length_append]
      show x.size + y.size + 1 ≤ _
      omega
theorem parsed_xp {n : Nat} {e : PyData} {ts : List Str} (h : parsedF n ts = some e) : ∃ x : Xp, e = x.dat ∧ x.ok ∧ x.deep ≤ wt ts ∧ x.size ≤ ts.length := by
  obtain ⟨k, hk⟩ := parsed_snd n h
  exact hk.xp
theorem ops_at : ops = [opAt 0, opAt 1, opAt 2, opAt 3, opAt 4] := by decide +kernel
theorem opLev_none {t : Str} (h : opLev t = none) : ∀ l, l < 5 → t ≠ opAt l := fun l hl e => by
  rw [e, opLev_at hl] at h
  cases h
open L2 in
theorem in_lev (t : Str) : inV (.str t) (ops.map V.str) = (opLev t).isSome := by
  cases h : opLev t with
  | none =>
    have hn := opLev_none h
    rw [ops_at]
    unfold inV
    simp only [List.map_cons, List.map_nil, List.any_cons, List.any_nil, eqV]
    have : ∀ l, l < 5 → (opAt l == t) = false := fun l hl => by
      rw [beq_eq_false_iff_ne]
      exact (hn l hl).symm
    rw [this 0 (by decide), this 1 (by decide), this 2 (by decide), this 3 (by decide), this 4 (by decide)]
    rfl
  | some o =>
    obtain ⟨h5, rfl⟩ := opLev_inv h
    rcases five h5 with rfl | rfl | rfl | rfl | rfl <;> decide +kernel
end Gr
set_option Elab.async false
set_option linter.all false
set_option maxRecDepth 100000
set_option maxHeartbeats 4000000
set_option pp.maxSteps 3000
set_option pp.deepTerms false
/-! The law's own test of names, and where the last loosest operator stands. -/
namespace Eu
open PySem PySem.Spec PyProof.Rows L2
open C8 (pe_gc pss_cut)
open Gr
abbrev s_l_is_name : Stmt := top 28
theorem sc_l_is_name : FnScope ["_law_word"] ["_law_word"] (defScope s_l_is_name) :=
  ⟨rfl, rfl, rfl, by decide +kernel, rfl, by decide +kernel, by decide +kernel⟩
abbrev s_l_last : Stmt := top 29
theorem sc_l_last : FnScope ["_law_tokens_here", "_law_depth", "_law_best", "_law_level", "_law_k", "_law_token", "_law_own"] ["_law_tokens_here"] (defScope s_l_last) :=
  ⟨rfl, rfl, rfl, by decide +kernel, rfl, by decide +kernel, by decide +kernel⟩
def spLName : Sp := fun vs H Q _ => ∃ z : Str, vs = [.str z] ∧ z.length ≤ 100000 ∧ tokT z ∧ ∀ H', Same H H' → Q (.bl (nameS z)) H'
def optV : Option Int → V
  | none => .non
  | some a => .int a
def spLLast (K : PySem.W.Frag) : Sp := fun vs H Q _ => ∃ (l : Addr) (ts : List Str), vs = [.ref l] ∧ SqL K H l (ts.map V.str) ∧ ts.length ≤ 100000 ∧ ∀ H', Same H H' → Q (optV (lastGo ts 0 0 (-1) 9)) H'
theorem in_four (n : Nat) : inV (.int (n : Nat)) [.int 1, .int 2, .int 3, .int 4] = (decide (1 ≤ n) && decide (n ≤ 4)) := by
  by_cases h : 1 ≤ n ∧ n ≤ 4
  · rcases (show n = 1 ∨ n = 2 ∨ n = 3 ∨ n = 4 by omega) with rfl | rfl | rfl | rfl <;> decide
  · have e : (decide (1 ≤ n) && decide (n ≤ 4)) = false := by
      rw [Bool.and_eq_false_iff]
      by_cases h1 : 1 ≤ n
      · exact .inr (decide_eq_false (fun z => h ⟨h1, z⟩))
      · exact .inl (decide_eq_false h1)
    rw [e]
    unfold inV
    simp only [List.any_cons, List.any_nil, eqV, Bool.or_false, Bool.or_eq_false_iff]
    refine ⟨?_, ?_, ?_, ?_⟩ <;> simp <;> omega
theorem eq_num (t z : Str) : (if decide (V.str t = V.str z) = true then (1 : Int) else 0) = (if t = z then 1 else 0) := by
  by_cases h : t = z
  · rw [if_pos h, decide_eq_true (by rw [h])]; rfl
  · rw [if_neg h, decide_eq_false (fun e => h (V.str.inj e))]; rfl
section
variable {P : Program} {w : World} {K : PySem.W.Frag} {mg : Str → Option Value} {base : Heap} {kw ka C CB : Addr}
theorem ok_lname (B : Bl mg) (D : Df K mg "_law_is_name" s_l_is_name) : Cal P w K mg base 1 "_law_is_name" spLName [] := by
  refine D.cal sc_l_is_name (fun _ _ _ _ _ _ us hl => match us, hl with | [_], _ => rfl) (fun vs H Q E h => ?_) (fun f cdv A out s H vs Q E hr h => ?_)
  · obtain ⟨z, rfl, _⟩ := h
    rfl
  · obtain ⟨z, rfl, hz, ht, q⟩ := h
    refine ⟨_, (pss_cons (ps_if (PW.pt (pw_or (pt_cmpR op_notIn_seq (pe_callB call_len_str (by rfl) B.len (by decide +kernel) (pa_cons (pv 0) pa_nil)) (pe_lst (pa_cons pe_int (pa_cons pe_int (pa_cons pe_int (pa_cons pe_int pa_nil))))) (by rfl)) (pw_or1 (pt_cmpR op_in_seq (pv 0) (pe_lst (pa_cons pe_str (pa_cons pe_str (pa_cons pe_str pa_nil)))) (by rfl)))))
(pss_one (ps_ret pe_bl))
pss_nil)
(pss_one (ps_ret (pe_chain op_le_str op_le_str pe_str (pe_ix ix_str (pv 0) pe_int (fun _ _ => rfl)) pe_str)))), ?_⟩
    have lz : z.length = z.cps.toList.length := by simp [Str.length]
    have sl : 100002 ≤ sizeLine := by decide
    have en := name_T ht
    rw [en] at q
    refine ⟨_, rfl, z, rfl, by omega, by show 4 ≤ sizeLine; decide, fun p1 n1 => ⟨p1, _, rfl, .inl (.inl (.inl upd_same)), rfl, rfl, _, rfl, ?_⟩⟩
    have e4 : (if true = true then !inV (.int ((z.length : Nat) : Int)) [.int 1, .int 2, .int 3, .int 4] else inV (.int ((z.length : Nat) : Int)) [.int 1, .int 2, .int 3, .int 4]) = !(decide (1 ≤ z.length) && decide (z.length ≤ 4)) := by
      rw [if_pos rfl, in_four]
    refine (show (if (if true = true then !inV (.int ((z.length : Nat) : Int)) [.int 1, .int 2, .int 3, .int 4] else inV (.int ((z.length : Nat) : Int)) [.int 1, .int 2, .int 3, .int 4]) = true then _ else _) from ?_)
    rw [e4]
    by_cases hl : 1 ≤ z.length ∧ z.length ≤ 4
    · rw [decide_eq_true hl.1, decide_eq_true hl.2] at q ⊢
      refine iteF ?_
      refine ⟨_, rfl, by show 3 ≤ sizeLine; decide, fun p2 n2 => ⟨p2, _, rfl, .inl (.inl (.inl upd_same)), rfl, rfl, _, rfl, ?_⟩⟩
      have ek : inV (.str z) [.str "keys", .str "look", .str "self"] = kept.contains z := in_kept z
      have s2 := (same_new (o := .lst [.int 1, .int 2, .int 3, .int 4]) n1).trans (same_new (o := .lst [.str "keys", .str "look", .str "self"]) n2)
      refine (show (if (inV (.str z) [.str "keys", .str "look", .str "self"]) = true then _ else _) from ?_)
      rw [ek]
      by_cases hk : kept.contains z = true
      · rw [hk] at q ⊢
        exact iteT (q _ s2)
      · rw [eq_false_of_ne_true hk] at q ⊢
        refine iteF ?_
        obtain ⟨c, r, ec⟩ : ∃ c r, z.cps.toList = c :: r := List.exists_cons_of_ne_nil (fun e => by rw [lz, e] at hl; exact absurd hl.1 (by decide))
        have h0c : z.cps.toList[0]? = some c := by rw [ec]; rfl
        refine ⟨_, rfl, z, 0, c, rfl, rfl, by omega, (show atI z.cps.toList ((0 : Nat) : Int) = some c from atI_nat h0c), _, _, rfl, rfl, _, rfl, ?_⟩
        rw [ec] at q
        have q' : ∀ H', Same H H' → Q (.bl (letter c)) H' := q
        refine (show (if (!decide ((one c).cps.toList < ("a" : Str).cps.toList)) = true then _ else _) from ?_)
        rw [le_a]
        unfold letter at q'
        by_cases h97 : 97 ≤ c
        · rw [decide_eq_true h97] at q' ⊢
          refine iteT ⟨_, _, rfl, rfl, ?_⟩
          have := q' _ s2
          have e := le_z c
          rw [Bool.true_and, ← e] at this
          exact this
        · rw [decide_eq_false h97] at q' ⊢
          exact iteF (q' _ s2)
    · have e0 : (decide (1 ≤ z.length) && decide (z.length ≤ 4)) = false := by
        rw [Bool.and_eq_false_iff]
        by_cases h1 : 1 ≤ z.length
        · exact .inr (decide_eq_false (fun z => hl ⟨h1, z⟩))
        · exact .inl (decide_eq_false h1)
      rw [e0] at q ⊢
      refine iteT (iteT ?_)
      exact q _ (same_new n1)
theorem ok_llast (B : Bl mg) (D : Df K mg "_law_last" s_l_last) : Cal P w K mg base 1 "_law_last" (spLLast K) [] := by
  refine D.cal sc_l_last (fun _ _ _ _ _ _ us hl => match us, hl with | [_], _ => rfl) (fun vs H Q E h => ?_) (fun f cdv A out s H vs Q E hr h => ?_)
  · obtain ⟨l, ts, rfl, _⟩ := h
    rfl
  · obtain ⟨l, ts, rfl, hl, hn, q⟩ := h
    refine ⟨_, (pss_cons (ps_asg (pe_tup (pa_cons pe_int (pa_cons (pe_un un_neg pe_int) (pa_cons pe_int pa_nil)))) (pg_tup (by rfl) (pgs_cons (pg_name (i := 1) sc_l_last.nd rfl (Or.inl rfl)) (pgs_cons (pg_name (i := 2) sc_l_last.nd rfl (Or.inl rfl)) (pgs_cons (pg_name (i := 3) sc_l_last.nd rfl (Or.inl rfl)) pgs_nil)))))
(pss_cons (ps_for PassesOwn.never (by rfl) (pi_range1 (by rfl) B.range (pa_cons (pe_callB call_len_seq (by rfl) B.len (by decide +kernel) (pa_cons (pv 0) pa_nil)) pa_nil)) (pg_name (i := 4) sc_l_last.nd rfl (Or.inl rfl))
(pss_cons (ps_set (i := 5) sc_l_last.nd rfl (Or.inl rfl) (pe_ix ix_list (pv 0) (pv 4) (fun _ _ => rfl)))
(pss_cons (ps_set (i := 1) sc_l_last.nd rfl (Or.inl rfl) (pe_op op_sub (pe_op op_add (pv 1) (pe_callTy call_int1 (by rfl) B.int (by decide +kernel) (pa_cons (pe_cmpR op_eq (pv 5) pe_str (nomark _)) pa_nil))) (pe_callTy call_int1 (by rfl) B.int (by decide +kernel) (pa_cons (pe_cmpR op_eq (pv 5) pe_str (nomark _)) pa_nil))))
(pss_cons (ps_if (PW.pt (pw_or (pt_cmpR op_lt (pv 1) pe_int (nomark _)) (pw_or1 (pt_cmpR op_gt (pv 1) pe_int (nomark _)))))
(pss_one (ps_ret pe_non))
pss_nil)
(pss_one (ps_if (PW.pt (pw_and (pt_cmpR op_eq (pv 1) pe_int (nomark _)) (pw_and1 (pt_cmpR op_in_seq (pv 5) (pe_lst (pa_cons pe_str (pa_cons pe_str (pa_cons pe_str (pa_cons pe_str (pa_cons pe_str pa_nil)))))) (by rfl)))))
(pss_cons (ps_set (i := 6) sc_l_last.nd rfl (Or.inl rfl) (pe_bm PySem.F.plainAttrs_list PySem.F.slot_list_index PySem.F.type_list_index mt_index (pe_lst (pa_cons pe_str (pa_cons pe_str (pa_cons pe_str (pa_cons pe_str (pa_cons pe_str pa_nil)))))) (pa_cons (pv 5) pa_nil)))
(pss_one (ps_if (pt_cmpR op_le (pv 6) (pv 3) (nomark _))
(pss_one (ps_par (i := 2) (j := 3) (by rfl) sc_l_last.nd rfl rfl (by decide) rfl rfl (pa_cons (pv 4) (pa_cons (pv 6) pa_nil)) (by rfl)))
pss_nil)))
pss_nil))))))
(pss_one (ps_ret (pe_ifExp (pt_cmpR op_eq (pv 1) pe_int (nomark _)) (pv 2) pe_non))))), ?_⟩
    have sl : 100002 ≤ sizeLine := by decide
    refine ⟨_, rfl, by show 3 ≤ sizeLine; decide, fun p np => ⟨_, _, rfl, .inl (.inl upd_same), rfl, _, _, rfl, _, _, rfl, _, _, rfl, rfl, ?_⟩⟩
    have s0 := same_new (o := .tup [.int 0, .int (-1), .int 9]) np
    generalize upd H p (.tup [.int 0, .int (-1), .int 9]) = H1 at s0
    have hl1 := s0.seq hl
    refine ⟨_, rfl, l, _, rfl, .inl hl1, _, rfl, by rw [List.length_map]; omega, by rw [List.length_map]; omega, ?_⟩
    refine for_over over_range (fun i σ H' => ∃ (d b : Int) (lv : Nat) (x4 x5 x6 : Option V), σ = [some (.ref l), some (.int d), some (.int b), some (.int (lv : Nat)), x4, x5, x6] ∧ Same H1 H' ∧ lastGo (ts.drop i) i d b lv = lastGo ts 0 0 (-1) 9) ⟨0, -1, 9, none, none, none, rfl, Same.refl _, rfl⟩ (fun _ _ _ _ _ => trivial) ?_ ?_
    · rintro i x σ H2 v H2' hx ⟨d, b, lv, x4, x5, x6, rfl, s2, go⟩ ⟨rfl, rfl⟩
      obtain ⟨hi, ex⟩ := nums_at hx
      have hi' : i < ts.length := by rw [List.length_map, Int.toNat_natCast] at hi; omega
      have ex' : x = ((i : Nat) : Int) := by omega
      subst ex'
      have ht : ts[i]? = some ts[i] := List.getElem?_eq_getElem hi'
      have hv : (ts.map V.str)[i]? = some (.str ts[i]) := by rw [List.getElem?_map, ht]; rfl
      rw [List.drop_eq_getElem_cons hi'] at go
      generalize ts[i] = t at hv go
      refine ⟨_, rfl, _, rfl, l, _, _, _, rfl, rfl, s2.seq hl1, atI_nat hv, ?_⟩
      refine ⟨_, rfl, _, rfl, rfl, .inr ⟨_, rfl, _, _, rfl, rfl, _, rfl, rfl, .inr ⟨_, rfl, _, _, rfl, rfl, ?_⟩⟩⟩
      dsimp only
      rw [eq_num, eq_num]
      have ed : d + (if t = "(" then (1 : Int) else 0) - (if t = ")" then 1 else 0) = stepD d t := rfl
      rw [ed]
      have go' : (if stepD d t < 0 ∨ 8 < stepD d t then none
        else if stepD d t = 0 then (match opLev t with
          | some o => if o ≤ lv then lastGo (ts.drop (i + 1)) (i + 1) (stepD d t) i o else lastGo (ts.drop (i + 1)) (i + 1) (stepD d t) b lv
          | none => lastGo (ts.drop (i + 1)) (i + 1) (stepD d t) b lv)
        else lastGo (ts.drop (i + 1)) (i + 1) (stepD d t) b lv) = lastGo ts 0 0 (-1) 9 := go
      generalize stepD d t = d' at go'
      refine ⟨_, rfl, _, _, rfl, rfl, _, rfl, ?_⟩
      have bad : ∀ H', Same H2' H' → (d' < 0 ∨ 8 < d') → Q .non H' := fun H' s' h => by
        rw [if_pos h] at go'
        have := q H' (s0.trans (s2.trans s'))
        rw [← go'] at this
        exact this
      by_cases hneg : d' < 0
      · refine iteD hneg (iteT ?_)
        exact bad _ (Same.refl _) (.inl hneg)
      refine iteDF hneg ?_
      refine ⟨_, rfl, _, _, rfl, rfl, _, rfl, ?_⟩
      by_cases h8 : 8 < d'
      · refine iteD (show d' > 8 from h8) ?_
        exact bad _ (Same.refl _) (.inr h8)
      refine iteDF (show ¬ d' > 8 from h8) ?_
      rw [if_neg (by omega)] at go'
      refine ⟨_, rfl, rfl, _, rfl, ?_⟩
      by_cases h0 : d' = 0
      · rw [if_pos h0] at go'
        refine iteD (by rw [h0]) ?_
        refine ⟨_, rfl, by show 5 ≤ sizeLine; decide, fun p1 n1 => ⟨p1, _, rfl, .inl (.inl (.inl upd_same)), rfl, rfl, _, rfl, ?_⟩⟩
        have s3 := s2.trans (same_new (o := .lst (ops.map V.str)) n1)
        refine (show (if (inV (.str t) (ops.map V.str)) = true then _ else _) from ?_)
        rw [in_lev]
        cases ho : opLev t with
        | none =>
          rw [ho] at go'
          refine iteF ?_
          exact ⟨d', b, lv, _, _, _, rfl, s3, go'⟩
        | some o =>
          rw [ho] at go'
          have go2 : (if o ≤ lv then lastGo (ts.drop (i + 1)) (i + 1) d' i o else lastGo (ts.drop (i + 1)) (i + 1) d' b lv) = lastGo ts 0 0 (-1) 9 := go'
          obtain ⟨o5, et⟩ := opLev_inv ho
          refine iteT ?_
          have hz : (ops.map V.str)[o]? = some (.str t) := by
            rw [et]
            rcases five o5 with rfl | rfl | rfl | rfl | rfl <;> rfl
          have hno : ∀ (m : Nat) (z' : V), m < o → (ops.map V.str)[m]? = some z' → eqV z' (.str t) = false := fun m z' hm hz' => by
            have m5 : m < 5 := by omega
            have : z' = .str (opAt m) := by
              have e : (ops.map V.str)[m]? = some (.str (opAt m)) := by rcases five m5 with rfl | rfl | rfl | rfl | rfl <;> rfl
              exact Option.some.inj (hz'.symm.trans e)
            rw [this, et]
            show (opAt m == opAt o) = false
            rw [beq_eq_false_iff_ne]
            exact op_op m5 o5 hm
          refine ⟨by show 5 ≤ sizeLine; decide, fun p2 n2 => ⟨.inl ⟨rfl, _, .inl (.inl upd_same)⟩, _, rfl, p2, _, _, o, _, rfl, rfl, .inl (.inl upd_same), rfl, rfl, hz, by show (t == t) = true; exact beq_self_eq_true t, hno, ?_⟩⟩
          have s4 := s3.trans (same_new (o := .lst (ops.map V.str)) n2)
          refine ⟨_, rfl, _, rfl, _, _, rfl, rfl, _, rfl, ?_⟩
          by_cases hle : o ≤ lv
          · rw [if_pos hle] at go2
            refine iteD (show ((o : Nat) : Int) ≤ ((lv : Nat) : Int) by omega) ?_
            refine ⟨_, rfl, _, rfl, _, _, rfl, ?_⟩
            exact ⟨d', ((i : Nat) : Int), o, _, _, _, rfl, s4, go2⟩
          · rw [if_neg hle] at go2
            refine iteDF (show ¬ ((o : Nat) : Int) ≤ ((lv : Nat) : Int) by omega) ?_
            exact ⟨d', b, lv, _, _, _, rfl, s4, go2⟩
      · rw [if_neg h0] at go'
        refine iteDF (fun z => h0 (V.int.inj z)) (iteF ?_)
        exact ⟨d', b, lv, _, _, _, rfl, s2, go'⟩
    · rintro σ H2 ⟨d, b, lv, x4, x5, x6, rfl, s2, go⟩
      have hlen : (nums 0 ((((ts.map V.str).length : Nat) : Int)).toNat).length = ts.length := by rw [nums_len, List.length_map]; omega
      rw [hlen, List.drop_length] at go
      have go' : (if d = 0 then some b else none) = lastGo ts 0 0 (-1) 9 := go
      have := q H2 (s0.trans s2)
      rw [← go'] at this
      refine ⟨_, rfl, rfl, _, rfl, ?_⟩
      by_cases h0 : d = 0
      · rw [if_pos h0] at this
        exact iteD (by rw [h0]) ⟨_, rfl, this⟩
      · rw [if_neg h0] at this
        exact iteDF (fun z => h0 (V.int.inj z)) this
end
end Eu
set_option Elab.async false
set_option linter.all false
set_option maxRecDepth 100000
set_option maxHeartbeats 4000000
set_option pp.maxSteps 3000
set_option pp.deepTerms false
/-! The law's own reading of tokens. -/
namespace Eu
open PySem PySem.Spec PyProof.Rows L2
open C8 (pe_gc pss_cut)
open Gr
abbrev s_l_parsed : Stmt := top 30
theorem sc_l_parsed : FnScope ["_law_tokens_here", "_law_at", "_law_sides"] ["_law_tokens_here"] (defScope s_l_parsed) :=
  ⟨rfl, rfl, rfl, by decide +kernel, rfl, by decide +kernel, by decide +kernel⟩
abbrev s_l_called : Stmt := top 31
theorem sc_l_called : FnScope ["_law_word", "_law_tokens_here", "_law_only", "_law_k", "_law_sides"] ["_law_word", "_law_tokens_here"] (defScope s_l_called) :=
  ⟨rfl, rfl, rfl, by decide +kernel, rfl, by decide +kernel, by decide +kernel⟩
theorem Rm.u65 {k : Nat} {A : Around} (r : Rm k A) : A.units + 65 < cLine := by have := r.rm.un; omega
/-- None where there is none -/
def orN (o : Option PyData) : PyData := o.getD .none
structure Toks (K : PySem.W.Frag) (H : Hp) (l : Addr) (ts : List Str) (n : Nat) : Prop where
  at_ : SqL K H l (ts.map V.str)
  few : ts.length ≤ 10000
  all : ∀ t ∈ ts, tokT t ∧ t.length ≤ 100000
  wt_ : wt ts < n
  w50 : wt ts ≤ 50
theorem Toks.same {K : PySem.W.Frag} {H H' : Hp} {l : Addr} {ts : List Str} {n : Nat} (h : Toks K H l ts n) (s : Same H H') : Toks K H' l ts n := ⟨s.seq h.at_, h.few, h.all, h.wt_, h.w50⟩
def spParsed (K : PySem.W.Frag) (n : Nat) : Sp := fun vs H Q _ => ∃ (l : Addr) (ts : List Str), vs = [.ref l] ∧ Toks K H l ts n ∧ ∀ v H', Same H H' → Dp K H' v (orN (parsedF n ts)) → Q v H'
def spCalled (K : PySem.W.Frag) (n : Nat) : Sp := fun vs H Q _ => ∃ (wd : Str) (l : Addr) (ts : List Str), vs = [.str wd, .ref l] ∧ Toks K H l ts n ∧ ∀ v H', Same H H' → Dp K H' v (orN (calledF (parsedF n) wd ts)) → Q v H'
/-! ### parts of a list -/
theorem cutV_map (ts : List Str) (lo hi : Option Int) : cutV (ts.map V.str) lo hi = ((ts.drop (HT.sIx ts.length 0 lo)).take (HT.sIx ts.length ts.length hi - HT.sIx ts.length 0 lo)).map V.str := by
  unfold cutV
  rw [List.length_map, ← List.map_drop, ← List.map_take]
theorem cut_to {ts : List Str} {k : Nat} (h : k ≤ ts.length) : cutV (ts.map V.str) none (some ((k : Nat) : Int)) = (ts.take k).map V.str := by
  rw [cutV_map, HT.sIx_nat, show HT.sIx ts.length 0 none = 0 from rfl, Nat.sub_zero, Nat.min_eq_left h, List.drop_zero]
theorem cut_from {ts : List Str} {k : Nat} (h : k ≤ ts.length) : cutV (ts.map V.str) (some ((k : Nat) : Int)) none = (ts.drop k).map V.str := by
  rw [cutV_map, HT.sIx_nat, show HT.sIx ts.length ts.length none = ts.length from rfl, Nat.min_eq_left h]
  congr 1
  rw [List.take_of_length_le (by rw [List.length_drop]; exact Nat.le_refl _)]
theorem cut_in {ts : List Str} {k : Nat} (h : k + 1 ≤ ts.length) : cutV (ts.map V.str) (some ((k : Nat) : Int)) (some (-1)) = (ts.drop k).dropLast.map V.str := by
  rw [cutV_map, HT.sIx_nat]
  have e : HT.sIx ts.length ts.length (some (-1)) = ts.length - 1 := by
    show (if (-1 : Int) < 0 then ((-1 : Int) + (ts.length : Int)).toNat else min (-1 : Int).toNat ts.length) = _
    rw [if_pos (by decide)]
    omega
  rw [e, Nat.min_eq_left (by omega), List.dropLast_eq_take, List.length_drop]
  congr 2
  omega
theorem Toks.sub {K : PySem.W.Frag} {H H' : Hp} {l p : Addr} {ts us : List Str} {n m : Nat} (h : Toks K H l ts n) (s : us.Sublist ts) (hp : H' p = some (.lst (us.map V.str))) (hw : wt us < m) : Toks K H' p us m := by
  refine ⟨.inl (.inl hp), Nat.le_trans s.length_le h.few, fun t ht => h.all t (s.subset ht), hw, Nat.le_trans (s.countP_le (p := heavy)) h.w50⟩
theorem orN_eqv {n : Nat} {ts : List Str} : PyData.eqv (orN (parsedF n ts)) .none = (parsedF n ts).isNone := by
  cases h : parsedF n ts with
  | none => simp [orN, PyData.eqv]
  | some e =>
    obtain ⟨x, rfl, _⟩ := parsed_xp h
    cases x <;> simp [orN, Xp.dat, PyData.eqv]
theorem orN_lay {n : Nat} {ts : List Str} (h50 : wt ts ≤ 50) : (orN (parsedF n ts)).canLay0 = true ∧ (orN (parsedF n ts)).depth ≤ 51 := by
  cases h : parsedF n ts with
  | none => exact ⟨rfl, by show PyData.depth .none ≤ 51; simp [PyData.depth]⟩
  | some e =>
    obtain ⟨x, rfl, ho, hd, _⟩ := parsed_xp h
    refine ⟨Xp.lay_dat ho, ?_⟩
    have := Xp.depth_le x
    show x.dat.depth ≤ 51
    omega
theorem two_shaped {n : Nat} {t1 t2 : List Str} (h1 : wt t1 ≤ 50) (h2 : wt t2 ≤ 50) : SeqAt.shaped (.list [orN (parsedF n t1), orN (parsedF n t2)]) = true := by
  obtain ⟨a1, a2⟩ := orN_lay (n := n) h1
  obtain ⟨b1, b2⟩ := orN_lay (n := n) h2
  unfold SeqAt.shaped
  have e1 : (PyData.list [orN (parsedF n t1), orN (parsedF n t2)]).canLay0 = true := by
    show ((orN (parsedF n t1)).canLay0 && ((orN (parsedF n t2)).canLay0 && true)) = true
    rw [a1, b1]; rfl
  rw [e1, decide_eq_true]
  · rfl
  · simp only [PyData.depth, PyData.depthAll]
    omega
theorem none_shaped : SeqAt.shaped .none = true := by decide +kernel
theorem dp_toks {K : PySem.W.Frag} {H : Hp} : ∀ (ts : List Str), DpAll K H (ts.map V.str) (ts.map PyData.str)
  | [] => .nil
  | t :: r => .cons (.str t) (dp_toks r)
theorem toks_shaped {ts : List Str} (h : ∀ t ∈ ts, tokT t) : SeqAt.shaped (.list (ts.map PyData.str)) = true := by
  have l1 : ∀ (us : List Str), (∀ t ∈ us, tokT t) → PyData.canLayAll0 (us.map PyData.str) = true ∧ PyData.depthAll (us.map PyData.str) ≤ 1 := by
    intro us
    induction us with
    | nil => intro _; exact ⟨rfl, by simp [PyData.depthAll]⟩
    | cons t r ih =>
      intro hh
      obtain ⟨i1, i2⟩ := ih (fun x hx => hh x (List.mem_cons_of_mem _ hx))
      have hs : PyData.strOk t = true := by
        unfold PyData.strOk
        rw [← Array.all_toList, List.all_eq_true]
        intro c hc
        exact decide_eq_true (by have := (hh t (List.mem_cons_self ..)).low c hc; omega)
      refine ⟨?_, ?_⟩
      · show (PyData.strOk t && PyData.canLayAll0 (r.map PyData.str)) = true
        rw [hs, i1]; rfl
      · simp only [List.map_cons, PyData.depthAll, PyData.depth]
        omega
  obtain ⟨i1, i2⟩ := l1 ts h
  unfold SeqAt.shaped
  have e1 : (PyData.list (ts.map PyData.str)).canLay0 = true := i1
  rw [e1, decide_eq_true]
  · rfl
  · simp only [PyData.depth]
    omega
section
variable {P : Program} {w : World} {K : PySem.W.Frag} {mg : Str → Option Value} {base : Heap} {kw ka C CB : Addr}
theorem ok_called1 (n : Nat) (B : Bl mg) (c_l_parsed : Cal P w K mg base (2 * n + 2) "_law_parsed" (spParsed K n) []) (D : Df K mg "_law_called" s_l_called) : Cal P w K mg base (2 * n + 3) "_law_called" (spCalled K n) [] := by
  refine D.cal (k := 2 * n + 2) sc_l_called (fun _ _ _ _ _ _ us hl => match us, hl with | [_, _], _ => rfl) (fun vs H Q E h => ?_) (fun f cdv A out s H vs Q E hr h => ?_)
  · obtain ⟨wd, l, ts, rfl, _⟩ := h
    rfl
  · obtain ⟨wd, l, ts, rfl, T, q⟩ := h
    refine ⟨_, (pss_cons (ps_if (pt_cmpR op_eq (pv 0) pe_str (nomark _))
(pss_cons (ps_set (i := 2) sc_l_called.nd rfl (Or.inl rfl) (pe_c c_l_parsed hr (by omega) (by rfl) (pa_cons (pv 1) pa_nil)))
(pss_one (ps_ret (pe_ifExp (pt_cmpR op_isN (pv 2) pe_non (nomark _)) pe_non (pe_tup (pa_cons (pv 0) (pa_cons (pv 2) pa_nil)))))))
pss_nil)
(pss_cons (ps_if (pt_cmpR op_ne (pv 0) pe_str (nomark _))
(pss_one (ps_ret pe_non))
pss_nil)
(pss_cons (ps_for PassesOwn.never (by rfl) (pi_range1 (by rfl) B.range (pa_cons (pe_callB call_len_seq (by rfl) B.len (by decide +kernel) (pa_cons (pv 1) pa_nil)) pa_nil)) (pg_name (i := 3) sc_l_called.nd rfl (Or.inl rfl))
(pss_one (ps_if (pt_cmpR op_eq (pe_ix ix_list (pv 1) (pv 3) (fun _ _ => rfl)) pe_str (nomark _))
(pss_cons (ps_set (i := 4) sc_l_called.nd rfl (Or.inl rfl) (pe_lst (pa_cons (pe_c c_l_parsed hr (by omega) (by rfl) (pa_cons (pe_slice sl_list (pv 1) po_none (po_some (pv 3))) pa_nil)) (pa_cons (pe_c c_l_parsed hr (by omega) (by rfl) (pa_cons (pe_slice sl_list (pv 1) (po_some (pe_op op_add (pv 3) pe_int)) po_none) pa_nil)) pa_nil))))
(pss_one (ps_if (pt_cmpR (op_notInD hr.u65) pe_non (pv 4) (by rfl))
(pss_one (ps_ret (pe_tup (pa_cons (pv 0) (pa_cons (pe_ix ix_list (pv 4) pe_int (fun _ _ => rfl)) (pa_cons (pe_ix ix_list (pv 4) pe_int (fun _ _ => rfl)) pa_nil))))))
pss_nil)))
pss_nil)))
(pss_one (ps_ret pe_non))))), ?_⟩
    have sl : 100002 ≤ sizeLine := by decide
    refine ⟨_, rfl, rfl, _, rfl, ?_⟩
    unfold calledF at q
    by_cases hk : wd = "keys"
    · rw [if_pos hk] at q
      refine iteD (by rw [hk]) ?_
      refine ⟨_, rfl, l, ts, rfl, T, fun v H1 s1 hv => ?_⟩
      refine ⟨_, rfl, rfl, _, rfl, ?_⟩
      cases hp : parsedF n ts with
      | none =>
        rw [hp] at q hv
        cases hv
        exact iteD rfl (q _ _ s1 .non)
      | some e =>
        rw [hp] at q hv
        obtain ⟨x, rfl, ho, _⟩ := parsed_xp hp
        have hv' : Dp K H1 v x.dat := hv
        have hn : v ≠ .non := by
          rintro rfl
          cases x <;> cases hv'
        refine iteDF hn ?_
        refine ⟨_, rfl, _, rfl, by show 2 ≤ sizeLine; decide, fun p np => ?_⟩
        refine q _ _ (s1.trans (same_new np)) ?_
        rw [hk]
        exact .tup (.inl (.inl upd_same)) (.cons (.str _) (.cons (Same.dp (same_new np) hv') .nil))
    · rw [if_neg hk] at q
      refine iteDF (fun z => hk (V.str.inj z)) ?_
      refine ⟨_, rfl, rfl, _, rfl, ?_⟩
      by_cases hlk : wd = "look"
      · rw [if_pos hlk] at q
        refine iteNS (by rw [hlk]) ?_
        refine ⟨_, rfl, l, _, rfl, .inl T.at_, _, rfl, by rw [List.length_map]; have := T.few; omega, by rw [List.length_map]; have := T.few; omega, ?_⟩
        refine for_over over_range (fun i σ H' => ∃ (x2 x3 x4 : Option V), σ = [some (.str wd), some (.ref l), x2, x3, x4] ∧ Same H H' ∧ lookGo (parsedF n) (ts.take i) (ts.drop i) = lookGo (parsedF n) [] ts) ⟨_, _, _, rfl, Same.refl _, rfl⟩ (fun _ _ _ _ _ => trivial) ?_ ?_
        · rintro i x σ H2 v H2' hx ⟨x2, x3, x4, rfl, s2, go⟩ ⟨rfl, rfl⟩
          obtain ⟨hi, ex⟩ := nums_at hx
          have hi' : i < ts.length := by rw [List.length_map, Int.toNat_natCast] at hi; omega
          have ex' : x = ((i : Nat) : Int) := by omega
          subst ex'
          have ht : ts[i]? = some ts[i] := List.getElem?_eq_getElem hi'
          have hv : (ts.map V.str)[i]? = some (.str ts[i]) := by rw [List.getElem?_map, ht]; rfl
          rw [List.drop_eq_getElem_cons hi'] at go
          have et : ts.take (i + 1) = ts.take i ++ [ts[i]] := by rw [List.take_succ, ht]; rfl
          have T2 := T.same s2
          have go' : (if ts[i] = "," then (match parsedF n (ts.take i), parsedF n (ts.drop (i + 1)) with
            | some x, some y => some (PyData.tuple [.str "look", x, y])
            | _, _ => lookGo (parsedF n) (ts.take i ++ [ts[i]]) (ts.drop (i + 1))) else lookGo (parsedF n) (ts.take i ++ [ts[i]]) (ts.drop (i + 1))) = lookGo (parsedF n) [] ts := go
          rw [← et] at go'
          generalize ts[i] = t at hv go'
          refine ⟨_, rfl, _, rfl, l, _, _, _, rfl, rfl, T2.at_, atI_nat hv, rfl, _, rfl, ?_⟩
          by_cases hc : t = ","
          · rw [if_pos hc] at go'
            refine iteD (by rw [hc]) ?_
            have sub1 : (ts.take i).Sublist ts := List.take_sublist _ _
            have sub2 : (ts.drop (i + 1)).Sublist ts := List.drop_sublist _ _
            have w1 : wt (ts.take i) < n := Nat.lt_of_le_of_lt (sub1.countP_le (p := heavy)) T.wt_
            have w2 : wt (ts.drop (i + 1)) < n := Nat.lt_of_le_of_lt (sub2.countP_le (p := heavy)) T.wt_
            have ei : (((i : Nat) : Int)) + 1 = ((i + 1 : Nat) : Int) := by omega
            refine ⟨_, rfl, _, rfl, _, rfl, l, _, rfl, T2.at_, fun p1 n1 => ?_⟩
            rw [cut_to (Nat.le_of_lt hi')]
            have s3 := same_new (o := .lst ((ts.take i).map V.str)) n1
            refine ⟨p1, _, rfl, T2.sub sub1 upd_same w1, fun v1 H3 s4 hv1 => ?_⟩
            have T4 := T2.same (s3.trans s4)
            refine ⟨_, rfl, _, rfl, _, _, rfl, rfl, _, rfl, l, _, rfl, T4.at_, fun p2 n2 => ?_⟩
            rw [ei, cut_from hi']
            have s5 := same_new (o := .lst ((ts.drop (i + 1)).map V.str)) n2
            refine ⟨p2, _, rfl, T4.sub sub2 upd_same w2, fun v2 H4 s6 hv2 => ?_⟩
            refine ⟨by show 2 ≤ sizeLine; decide, fun p3 n3 => ?_⟩
            have s7 := same_new (o := .lst [v1, v2]) n3
            have d1 := Same.dp (s5.trans (s6.trans s7)) hv1
            have d2 := Same.dp s7 hv2
            have s07 := s2.trans (s3.trans (s4.trans (s5.trans (s6.trans s7))))
            have h50 := T.w50
            refine ⟨_, rfl, .none, [orN (parsedF n (ts.take i)), orN (parsedF n (ts.drop (i + 1)))], .non, .lst (.inl (.inl upd_same)) (.cons d1 (.cons d2 .nil)), none_shaped, two_shaped (Nat.le_trans (sub1.countP_le (p := heavy)) h50) (Nat.le_trans (sub2.countP_le (p := heavy)) h50), _, rfl, ?_⟩
            have ea : (!([orN (parsedF n (ts.take i)), orN (parsedF n (ts.drop (i + 1)))].any fun z => PyData.eqv z .none)) = ((parsedF n (ts.take i)).isSome && (parsedF n (ts.drop (i + 1))).isSome) := by
              simp only [List.any_cons, List.any_nil, orN_eqv]
              cases parsedF n (ts.take i) <;> cases parsedF n (ts.drop (i + 1)) <;> rfl
            rw [ea]
            cases h1 : parsedF n (ts.take i) with
            | none =>
              rw [h1] at go'
              exact iteF ⟨_, _, _, rfl, s07, go'⟩
            | some e1 =>
              cases h2 : parsedF n (ts.drop (i + 1)) with
              | none =>
                rw [h1, h2] at go'
                exact iteF ⟨_, _, _, rfl, s07, go'⟩
              | some e2 =>
                rw [h1, h2] at go'
                rw [h1] at d1
                rw [h2] at d2
                have go2 : some (PyData.tuple [.str "look", e1, e2]) = lookGo (parsedF n) [] ts := go'
                have d1 : Dp K _ v1 e1 := d1
                have d2 : Dp K _ v2 e2 := d2
                rw [← go2] at q
                refine iteT ?_
                have hat0 : ∀ H', Same (upd H4 p3 (.lst [v1, v2])) H' → SqL K H' p3 [v1, v2] := fun H' s' => .inl (.inl (s' _ _ upd_same))
                refine ⟨_, rfl, _, rfl, p3, _, _, _, rfl, rfl, hat0 _ (Same.refl _), at_of (j := 0) rfl rfl, _, rfl, p3, _, _, _, rfl, rfl, hat0 _ (Same.refl _), at_of (j := 1) rfl rfl, by show 3 ≤ sizeLine; decide, fun p4 n4 => ?_⟩
                have s8 := same_new (o := .tup [.str wd, v1, v2]) n4
                refine q _ _ (s07.trans s8) ?_
                rw [show V.str wd = V.str "look" by rw [hlk]] at s8 ⊢
                exact .tup (.inl (.inl upd_same)) (.cons (.str _) (.cons (Same.dp s8 d1) (.cons (Same.dp s8 d2) .nil)))
          · rw [if_neg hc] at go'
            refine iteDF (fun z => hc (V.str.inj z)) ?_
            exact ⟨_, _, _, rfl, s2, go'⟩
        · rintro σ H2 ⟨x2, x3, x4, rfl, s2, go⟩
          have hlen : (nums 0 ((((ts.map V.str).length : Nat) : Int)).toNat).length = ts.length := by rw [nums_len, List.length_map]; omega
          rw [hlen, List.drop_length] at go
          have go2 : none = lookGo (parsedF n) [] ts := go
          rw [← go2] at q
          exact q _ _ s2 .non
      · rw [if_neg hlk] at q
        refine iteNE (fun z => hlk (V.str.inj z)) ?_
        exact q _ _ (Same.refl _) .non
theorem ok_parsed1 (n : Nat) (B : Bl mg) (c_l_last : Cal P w K mg base 1 "_law_last" (spLLast K) []) (c_l_is_name : Cal P w K mg base 1 "_law_is_name" spLName []) (c_l_parsed : Cal P w K mg base (2 * n + 2) "_law_parsed" (spParsed K n) []) (c_l_called : Cal P w K mg base (2 * n + 3) "_law_called" (spCalled K n) []) (D : Df K mg "_law_parsed" s_l_parsed) : Cal P w K mg base (2 * (n + 1) + 2) "_law_parsed" (spParsed K (n + 1)) [] := by
  refine D.cal (k := 2 * n + 3) sc_l_parsed (fun _ _ _ _ _ _ us hl => match us, hl with | [_], _ => rfl) (fun vs H Q E h => ?_) (fun f cdv A out s H vs Q E hr h => ?_)
  · obtain ⟨l, ts, rfl, _⟩ := h
    rfl
  · obtain ⟨l, ts, rfl, T, q⟩ := h
    refine ⟨_, (pss_cons (ps_set (i := 1) sc_l_parsed.nd rfl (Or.inl rfl) (pe_c c_l_last hr (by omega) (by rfl) (pa_cons (pv 0) pa_nil)))
(pss_cons (ps_if (PW.pt (pw_or (pt_cmpR op_isN (pv 1) pe_non (nomark _)) (pw_or1 (pt_cmpR (op_eqD hr.rm.units) (pv 0) (pe_lst pa_nil) (nomark _)))))
(pss_one (ps_ret pe_non))
pss_nil)
(pss_cons (ps_if (pt_cmpR op_ge (pv 1) pe_int (nomark _))
(pss_cons (ps_set (i := 2) sc_l_parsed.nd rfl (Or.inl rfl) (pe_lst (pa_cons (pe_c c_l_parsed hr (by omega) (by rfl) (pa_cons (pe_slice sl_list (pv 0) po_none (po_some (pv 1))) pa_nil)) (pa_cons (pe_c c_l_parsed hr (by omega) (by rfl) (pa_cons (pe_slice sl_list (pv 0) (po_some (pe_op op_add (pv 1) pe_int)) po_none) pa_nil)) pa_nil))))
(pss_one (ps_ret (pe_ifExp (pt_cmpR (op_inD hr.u65) pe_non (pv 2) (by rfl)) pe_non (pe_tup (pa_cons (pe_ix ix_list (pv 0) (pv 1) (fun _ _ => rfl)) (pa_cons (pe_ix ix_list (pv 2) pe_int (fun _ _ => rfl)) (pa_cons (pe_ix ix_list (pv 2) pe_int (fun _ _ => rfl)) pa_nil))))))))
pss_nil)
(pss_cons (ps_if (pt_cmpR op_eq (pe_callB call_len_seq (by rfl) B.len (by decide +kernel) (pa_cons (pv 0) pa_nil)) pe_int (nomark _))
(pss_one (ps_ret (pe_ifExp (pt_val (pe_c c_l_is_name hr (by omega) (by rfl) (pa_cons (pe_ix ix_list (pv 0) pe_int (fun _ _ => rfl)) pa_nil))) (pe_ix ix_list (pv 0) pe_int (fun _ _ => rfl)) pe_non)))
pss_nil)
(pss_cons (ps_if (pt_cmpR op_ne (pe_ix ix_list (pv 0) (pe_op op_sub (pe_callB call_len_seq (by rfl) B.len (by decide +kernel) (pa_cons (pv 0) pa_nil)) pe_int) (fun _ _ => rfl)) pe_str (nomark _))
(pss_one (ps_ret pe_non))
pss_nil)
(pss_cons (ps_if (pt_cmpR op_eq (pe_ix ix_list (pv 0) pe_int (fun _ _ => rfl)) pe_str (nomark _))
(pss_one (ps_ret (pe_c c_l_parsed hr (by omega) (by rfl) (pa_cons (pe_slice sl_list (pv 0) (po_some pe_int) (po_some (pe_un un_neg pe_int))) pa_nil))))
pss_nil)
(pss_cons (ps_if (PW.pt (pw_or (pt_cmpR op_lt (pe_callB call_len_seq (by rfl) B.len (by decide +kernel) (pa_cons (pv 0) pa_nil)) pe_int (nomark _)) (pw_or1 (pt_cmpR op_ne (pe_ix ix_list (pv 0) pe_int (fun _ _ => rfl)) pe_str (nomark _)))))
(pss_one (ps_ret pe_non))
pss_nil)
(pss_one (ps_ret (pe_c c_l_called hr (by omega) (by rfl) (pa_cons (pe_ix ix_list (pv 0) pe_int (fun _ _ => rfl)) (pa_cons (pe_slice sl_list (pv 0) (po_some pe_int) (po_some (pe_un un_neg pe_int))) pa_nil)))))))))))), ?_⟩
    have sl : 100002 ≤ sizeLine := by decide
    have few := T.few
    refine ⟨_, rfl, l, ts, rfl, T.at_, by omega, fun H1 s1 => ?_⟩
    refine ⟨_, rfl, rfl, _, rfl, ?_⟩
    unfold parsedF at q
    cases hl : lastGo ts 0 0 (-1) 9 with
    | none =>
      rw [hl] at q
      exact iteD rfl (iteT (q _ _ s1 .non))
    | some a =>
      rw [hl] at q
      dsimp only at q
      refine iteDF (fun z => by cases z) ?_
      have T1 := T.same s1
      refine ⟨_, rfl, by show 0 ≤ sizeLine; decide, fun p0 n0 => ?_⟩
      have s2 := same_new (o := .lst []) n0
      refine ⟨.list (ts.map PyData.str), .list [], .lst (s2.seq T1.at_) (dp_toks ts), .lst (.inl (.inl upd_same)) .nil, toks_shaped (fun t ht => (T.all t ht).1), by decide +kernel, _, rfl, ?_⟩
      have s02 := s1.trans s2
      by_cases hne : ts = []
      · rw [if_pos hne] at q
        subst hne
        refine iteY (by simp [PyData.eqv, PyData.eqvAll]) ?_
        exact q _ _ s02 .non
      rw [if_neg hne] at q
      refine iteN (by cases ts with | nil => exact absurd rfl hne | cons a r => simp [PyData.eqv, PyData.eqvAll]) ?_
      have T2 := T.same s02
      generalize upd H1 p0 (.lst []) = H2 at s02 T2
      obtain ⟨t0, tr, et⟩ := List.exists_cons_of_ne_nil hne
      have v0 : (ts.map V.str)[0]? = some (.str t0) := by rw [et]; rfl
      have t0m : t0 ∈ ts := by rw [et]; exact List.mem_cons_self ..
      have at0 : atI (ts.map V.str) 0 = some (.str t0) := (show atI (ts.map V.str) ((0 : Nat) : Int) = some (.str t0) from atI_nat v0)
      have eh : ts.headD "" = t0 := by rw [et]; rfl
      refine ⟨_, rfl, _, _, rfl, rfl, _, rfl, ?_⟩
      by_cases ha : 0 ≤ a
      · rw [if_pos ha] at q
        refine iteD ha ?_
        obtain ⟨t1, t2, m, e1, e2, hm, _, _, _⟩ : ∃ t1 t2 m, ts = t1 ++ opAt m :: t2 ∧ a = ((t1.length : Nat) : Int) ∧ m < 5 ∧ True ∧ True ∧ True := by
          rcases (last_inv hl).2 with ⟨e1, _⟩ | ⟨t1, t2, m, e1, e2, hm, _⟩
          · omega
          · exact ⟨t1, t2, m, e1, by omega, hm, trivial, trivial, trivial⟩
        have ea : a.toNat = t1.length := by omega
        have a1 : ts.take t1.length = t1 := by rw [e1]; simp
        have a2 : ts.drop (t1.length + 1) = t2 := by rw [e1]; simp
        have a3 : ts.getD t1.length "" = opAt m := by rw [e1]; simp
        have hlen : ts.length = t1.length + t2.length + 1 := by rw [e1]; simp; omega
        rw [ea, a1, a2, a3] at q
        have sub1 : t1.Sublist ts := by rw [e1]; exact List.sublist_append_left ..
        have sub2 : t2.Sublist ts := by rw [e1]; exact (List.sublist_cons_self _ _).trans (List.sublist_append_right _ _)
        have hw : wt ts = wt t1 + wt t2 + 1 := by rw [e1, wt_app, wt_cons, if_pos (wt_op hm)]; omega
        have hwT := T.wt_
        have h50 := T.w50
        refine ⟨_, rfl, _, rfl, _, rfl, l, _, rfl, T2.at_, fun p1 n1 => ?_⟩
        rw [e2, cut_to (by omega), a1]
        have s3 := same_new (o := .lst (t1.map V.str)) n1
        refine ⟨p1, _, rfl, T2.sub sub1 upd_same (by omega), fun v1 H3 s4 hv1 => ?_⟩
        have T4 := T2.same (s3.trans s4)
        refine ⟨_, rfl, _, rfl, _, _, rfl, rfl, _, rfl, l, _, rfl, T4.at_, fun p2 n2 => ?_⟩
        rw [show ((t1.length : Nat) : Int) + 1 = ((t1.length + 1 : Nat) : Int) by omega, cut_from (by omega), a2]
        have s5 := same_new (o := .lst (t2.map V.str)) n2
        refine ⟨p2, _, rfl, T4.sub sub2 upd_same (by omega), fun v2 H4 s6 hv2 => ?_⟩
        refine ⟨by show 2 ≤ sizeLine; decide, fun p3 n3 => ?_⟩
        have s7 := same_new (o := .lst [v1, v2]) n3
        have d1 := Same.dp (s5.trans (s6.trans s7)) hv1
        have d2 := Same.dp s7 hv2
        have s07 := s02.trans (s3.trans (s4.trans (s5.trans (s6.trans s7))))
        have T7 := T.same s07
        refine ⟨_, rfl, .none, [orN (parsedF n t1), orN (parsedF n t2)], .non, .lst (.inl (.inl upd_same)) (.cons d1 (.cons d2 .nil)), none_shaped, two_shaped (by omega) (by omega), _, rfl, ?_⟩
        have eb : ([orN (parsedF n t1), orN (parsedF n t2)].any fun z => PyData.eqv z .none) = !((parsedF n t1).isSome && (parsedF n t2).isSome) := by
          simp only [List.any_cons, List.any_nil, orN_eqv]
          cases parsedF n t1 <;> cases parsedF n t2 <;> rfl
        rw [eb]
        cases h1 : parsedF n t1 with
        | none =>
          rw [h1] at q
          exact iteT (q _ _ s07 .non)
        | some x1 =>
          cases h2 : parsedF n t2 with
          | none =>
            rw [h1, h2] at q
            exact iteT (q _ _ s07 .non)
          | some x2 =>
            rw [h1, h2] at q
            rw [h1] at d1
            rw [h2] at d2
            have d1 : Dp K _ v1 x1 := d1
            have d2 : Dp K _ v2 x2 := d2
            refine iteF ?_
            have hat0 : SqL K (upd H4 p3 (.lst [v1, v2])) p3 [v1, v2] := .inl (.inl upd_same)
            have hop : (ts.map V.str)[t1.length]? = some (.str (opAt m)) := by rw [e1]; simp
            refine ⟨_, rfl, _, rfl, l, _, _, _, rfl, rfl, T7.at_, atI_nat hop, _, rfl, p3, _, _, _, rfl, rfl, hat0, at_of (j := 0) rfl rfl, _, rfl, p3, _, _, _, rfl, rfl, hat0, at_of (j := 1) rfl rfl, by show 3 ≤ sizeLine; decide, fun p4 n4 => ?_⟩
            have s8 := same_new (o := .tup [.str (opAt m), v1, v2]) n4
            refine q _ _ (s07.trans s8) ?_
            exact .tup (.inl (.inl upd_same)) (.cons (.str _) (.cons (Same.dp s8 d1) (.cons (Same.dp s8 d2) .nil)))
      rw [if_neg ha] at q
      refine iteDF (show ¬ a ≥ 0 from ha) ?_
      refine ⟨_, rfl, l, _, rfl, .inl T2.at_, rfl, _, rfl, ?_⟩
      rw [List.length_map]
      by_cases h1 : ts.length = 1
      · rw [if_pos h1, eh] at q
        refine iteD (by rw [h1]; rfl) ?_
        refine ⟨_, rfl, l, _, 0, _, rfl, rfl, T2.at_, at0, t0, rfl, (T.all t0 t0m).2, (T.all t0 t0m).1, fun H3 s3 => ⟨_, rfl, ?_⟩⟩
        by_cases hn : nameS t0 = true
        · rw [if_pos hn] at q
          rw [hn]
          refine iteT ⟨_, rfl, l, _, 0, _, rfl, rfl, (T2.same s3).at_, at0, ?_⟩
          exact q _ _ (s02.trans s3) (.str _)
        · rw [if_neg hn] at q
          rw [eq_false_of_ne_true hn]
          exact iteF (q _ _ (s02.trans s3) .non)
      rw [if_neg h1] at q
      refine iteDF (fun z => h1 (by have := V.int.inj z; omega)) ?_
      have hpos : 0 < ts.length := List.length_pos_iff.mpr hne
      have hvl : (ts.map V.str)[ts.length - 1]? = some (.str (ts.getLastD "")) := by
        rw [List.getElem?_map, List.getLastD_eq_getLast?, List.getLast?_eq_getElem?, List.getElem?_eq_getElem (show ts.length - 1 < ts.length by omega)]
        rfl
      have el : ((ts.length : Nat) : Int) - 1 = ((ts.length - 1 : Nat) : Int) := by omega
      refine ⟨_, rfl, _, rfl, l, _, rfl, .inl T2.at_, _, _, rfl, rfl, l, _, _, _, rfl, rfl, T2.at_, (by rw [List.length_map, el]; exact atI_nat hvl), rfl, _, rfl, ?_⟩
      by_cases hcl : ts.getLastD "" = ")"
      · rw [if_neg (fun z => z hcl)] at q
        refine iteNS (by rw [hcl]) ?_
        refine ⟨_, rfl, l, _, 0, _, rfl, rfl, T2.at_, at0, rfl, _, rfl, ?_⟩
        rw [eh] at q
        have hlen2 : 2 ≤ ts.length := by omega
        by_cases hpar : t0 = "("
        · rw [if_pos hpar] at q
          refine iteD (by rw [hpar]) ?_
          have esub : ts.tail.dropLast = (ts.drop 1).dropLast := by rw [List.drop_one]
          rw [esub] at q
          refine ⟨_, rfl, 1, rfl, _, rfl, -1, rfl, l, _, rfl, T2.at_, fun p1 n1 => ?_⟩
          rw [show (some (1 : Int)) = some ((1 : Nat) : Int) from rfl, cut_in (by omega)]
          have sub : ((ts.drop 1).dropLast).Sublist ts := (List.dropLast_sublist _).trans (List.drop_sublist _ _)
          have hw : wt (ts.drop 1).dropLast < n := by
            have h2 := (List.dropLast_sublist (ts.drop 1)).countP_le (p := heavy)
            have h3 : wt ts = wt (ts.drop 1) + 1 := by
              rw [et, wt_cons, hpar, if_pos wt_par]
              rfl
            have := T.wt_
            unfold wt at h3 this ⊢
            omega
          exact ⟨p1, _, rfl, T2.sub sub upd_same hw, fun v H3 s3 hv => q _ _ (s02.trans ((same_new n1).trans s3)) hv⟩
        rw [if_neg hpar] at q
        refine iteDF (fun z => hpar (V.str.inj z)) ?_
        refine ⟨_, rfl, l, _, rfl, .inl T2.at_, _, _, rfl, rfl, _, rfl, ?_⟩
        rw [List.length_map]
        by_cases h4 : ts.length < 4
        · rw [if_pos (.inl h4)] at q
          refine iteD (show ((ts.length : Nat) : Int) < 4 by omega) (iteT ?_)
          exact q _ _ s02 .non
        refine iteDF (show ¬ ((ts.length : Nat) : Int) < 4 by omega) ?_
        obtain ⟨t1, tr1, et1⟩ : ∃ t1 tr1, tr = t1 :: tr1 := List.exists_cons_of_ne_nil (fun z => by rw [et, z] at hlen2; simp at hlen2)
        have v1 : (ts.map V.str)[1]? = some (.str t1) := by rw [et, et1]; rfl
        have at1 : atI (ts.map V.str) 1 = some (.str t1) := (show atI (ts.map V.str) ((1 : Nat) : Int) = some (.str t1) from atI_nat v1)
        have eh1 : ts.tail.headD "" = t1 := by rw [et, et1]; rfl
        rw [eh1] at q
        refine ⟨_, rfl, l, _, 1, _, rfl, rfl, T2.at_, at1, rfl, _, rfl, ?_⟩
        by_cases hp1 : t1 = "("
        · rw [if_neg (fun z => z.elim h4 (fun z => z hp1))] at q
          refine iteNS (by rw [hp1]) ?_
          refine ⟨_, rfl, l, _, 0, _, rfl, rfl, T2.at_, at0, _, rfl, 2, rfl, _, rfl, -1, rfl, l, _, rfl, T2.at_, fun p1 n1 => ?_⟩
          rw [show (some (2 : Int)) = some ((2 : Nat) : Int) from rfl, cut_in (by omega)]
          have sub : ((ts.drop 2).dropLast).Sublist ts := (List.dropLast_sublist _).trans (List.drop_sublist _ _)
          have hw : wt (ts.drop 2).dropLast < n := by
            have h2 := (List.dropLast_sublist (ts.drop 2)).countP_le (p := heavy)
            have h3 : wt (ts.drop 2) + 1 ≤ wt ts := by
              rw [et, et1, wt_cons, wt_cons, hp1, if_pos wt_par]
              show wt tr1 + 1 ≤ _
              omega
            have := T.wt_
            unfold wt at h3 this ⊢
            omega
          exact ⟨t0, p1, _, rfl, T2.sub sub upd_same hw, fun v H3 s3 hv => q _ _ (s02.trans ((same_new n1).trans s3)) hv⟩
        · rw [if_pos (.inr hp1)] at q
          refine iteNE (fun z => hp1 (V.str.inj z)) ?_
          exact q _ _ s02 .non
      · rw [if_pos hcl] at q
        refine iteNE (fun z => hcl (V.str.inj z)) ?_
        exact q _ _ s02 .non
theorem ok_parse (B : Bl mg) (c_l_last : Cal P w K mg base 1 "_law_last" (spLLast K) []) (c_l_is_name : Cal P w K mg base 1 "_law_is_name" spLName []) (D : Df K mg "_law_parsed" s_l_parsed) (D2 : Df K mg "_law_called" s_l_called) : ∀ n, Cal P w K mg base (2 * n + 2) "_law_parsed" (spParsed K n) []
  | 0 => by
    refine D.cal (k := 1) sc_l_parsed (fun _ _ _ _ _ _ us hl => match us, hl with | [_], _ => rfl) (fun vs H Q E h => ?_) (fun f cdv A out s H vs Q E hr h => ?_)
    · obtain ⟨l, ts, rfl, T, _⟩ := h
      exact absurd T.wt_ (Nat.not_lt_zero _)
    · obtain ⟨l, ts, rfl, T, _⟩ := h
      exact absurd T.wt_ (Nat.not_lt_zero _)
  | n + 1 => by
    have ih := ok_parse B c_l_last c_l_is_name D D2 n
    exact ok_parsed1 n B c_l_last c_l_is_name ih (ok_called1 n B ih D2) D
end
end Eu
set_option Elab.async false
set_option linter.all false
set_option maxRecDepth 100000
set_option maxHeartbeats 4000000
set_option pp.maxSteps 3000
set_option pp.deepTerms false
namespace Eu
open PySem PySem.Spec PyProof.Rows L2
open C8 (pe_gc pss_cut)
open Gr
abbrev s_l_written : Stmt := top 25
theorem sc_l_written : FnScope ["_law_expression", "_law_parts", "_law_k", "_law_part"] ["_law_expression"] (defScope s_l_written) :=
  ⟨rfl, rfl, rfl, by decide +kernel, rfl, by decide +kernel, by decide +kernel⟩
def spWrit (K : PySem.W.Frag) (n : Nat) : Sp := fun vs H Q _ => ∃ (v : V) (e : Xp), vs = [v] ∧ Dp K H v e.dat ∧ e.ok ∧ e.deep < n ∧ e.size ≤ 1000 ∧ ∀ H', Same H H' → Q (.str e.wr) H'
theorem sqT_butL {K : PySem.W.Frag} {H H' : Hp} {a b : Addr} {xs ys : List V} (s : But b H H') (e : H b = some (.lst ys)) (h : SqT K H a xs) : SqT K H' a xs := by
  rcases h with (h | ⟨ob, h⟩) | h
  · exact .inl (.inl (s.at (fun z => by rw [z, e] at h; cases h) h))
  · exact .inl (.inr ⟨ob, s.at (fun z => by rw [z, e] at h; cases h) h⟩)
  · exact .inr h
theorem dp_butL {K : PySem.W.Frag} {H H' : Hp} {b : Addr} {ys : List V} (s : But b H H') (hb : H b = some (.lst ys)) : ∀ {e : Xp} {v : V}, Dp K H v e.dat → Dp K H' v e.dat
  | .nm z, v, h => by
    cases (dpS h)
    exact .str z
  | .ky e, v, h => by
    obtain ⟨p, x, y, rfl, hp, hx, hy⟩ := dp2 h
    cases (dpS hx)
    exact .tup (sqT_butL s hb hp) (.cons (.str _) (.cons (dp_butL s hb hy) .nil))
  | .lk a1 a2, v, h => by
    obtain ⟨p, x, y, z, rfl, hp, hx, hy, hz⟩ := dp3 h
    cases (dpS hx)
    exact .tup (sqT_butL s hb hp) (.cons (.str _) (.cons (dp_butL s hb hy) (.cons (dp_butL s hb hz) .nil)))
  | .op l a1 a2, v, h => by
    obtain ⟨p, x, y, z, rfl, hp, hx, hy, hz⟩ := dp3 h
    cases (dpS hx)
    exact .tup (sqT_butL s hb hp) (.cons (.str _) (.cons (dp_butL s hb hy) (.cons (dp_butL s hb hz) .nil)))
/-- the parts, when i of them are done -/
def wrs (a b : Xp) (i : Nat) : List V := [.str (if 0 < i then Xp.wrap (decide (a.lev < 5)) a.wr else a.wr), .str (if 1 < i then Xp.wrap (decide (b.lev < 5)) b.wr else b.wr)]
section
variable {P : Program} {w : World} {K : PySem.W.Frag} {mg : Str → Option Value} {base : Heap} {kw ka C CB : Addr}
theorem ok_writ1 (n : Nat) (B : Bl mg) (c_l_written : Cal P w K mg base (n + 1) "_law_written" (spWrit K n) []) (D : Df K mg "_law_written" s_l_written) : Cal P w K mg base (n + 2) "_law_written" (spWrit K (n + 1)) [] := by
  refine D.cal (k := n + 1) sc_l_written (fun _ _ _ _ _ _ us hl => match us, hl with | [_], _ => rfl) (fun vs H Q E h => ?_) (fun f cdv A out s H vs Q E hr h => ?_)
  · obtain ⟨v, e, rfl, _⟩ := h
    rfl
  · obtain ⟨v, e, rfl, hv, ok, hd, hs, q⟩ := h
    refine ⟨_, (pss_cons (ps_if (pt_val (pe_callB call_isi (by rfl) B.isinstance (by decide +kernel) (pa_cons (pv 0) (pa_cons (pe_bltn (v := .ty "str") (u := .type "str") (by rfl) B.str (by decide +kernel) rfl) pa_nil))))
(pss_one (ps_ret (pv 0)))
pss_nil)
(pss_cons (ps_setLc (i := 1) (own := [("_law_part", 3)]) (by rfl) sc_l_written.nd rfl rfl (sw_true rfl rfl rfl (by decide +kernel)) (pi_tup (pe_slice sl_tupA (pv 0) (po_some pe_int) po_none)) (blkOk_by (own := [("_law_part", 3)]) (N := ["_law_expression", "_law_parts", "_law_k", "_law_part"]) (sc := defScope s_l_written) (by decide +kernel)) (fun _ _ _ _ _ => (pg_name (i := 3) sc_l_written.nd rfl (Or.inl rfl))) (fun _ _ _ _ _ => pts_nil) (fun _ _ _ _ _ => (pe_c c_l_written hr (by omega) (by rfl) (pa_cons (pv 3) pa_nil))))
(pss_cons (ps_if (pt_cmpR op_in_seq (pe_ix ix_tup (pv 0) pe_int (fun _ _ => rfl)) (pe_lst (pa_cons pe_str (pa_cons pe_str pa_nil))) (by rfl))
(pss_one (ps_ret (pe_op op_add_str (pe_op op_add_str (pe_op op_add_str (pe_ix ix_tup (pv 0) pe_int (fun _ _ => rfl)) pe_str) (pe_join pe_str (pv 1))) pe_str)))
pss_nil)
(pss_cons (ps_for PassesOwn.never (by rfl) (pi_range1 (by rfl) B.range (pa_cons pe_int pa_nil)) (pg_name (i := 2) sc_l_written.nd rfl (Or.inl rfl))
(pss_cons (ps_set (i := 3) sc_l_written.nd rfl (Or.inl rfl) (pe_ix ix_tup (pv 0) (pe_op op_add pe_int (pv 2)) (fun _ _ => rfl)))
(pss_one (ps_if (PW.pt (pw_and (pt_not (pt_val (pe_callB call_isi (by rfl) B.isinstance (by decide +kernel) (pa_cons (pv 3) (pa_cons (pe_bltn (v := .ty "str") (u := .type "str") (by rfl) B.str (by decide +kernel) rfl) pa_nil))))) (pw_and1 (pt_cmpR op_notIn_seq (pe_ix ix_tup (pv 3) pe_int (fun _ _ => rfl)) (pe_lst (pa_cons pe_str (pa_cons pe_str pa_nil))) (by rfl)))))
(pss_one (ps_asg (pe_op op_add_str (pe_op op_add_str pe_str (pe_ix ix_list (pv 1) (pv 2) (fun _ _ => rfl))) pe_str) (pg_sub (pv 1) (pv 2) set_list)))
pss_nil))))
(pss_one (ps_ret (pe_op op_add_str (pe_op op_add_str (pe_ix ix_list (pv 1) pe_int (fun _ _ => rfl)) (pe_ix ix_tup (pv 0) pe_int (fun _ _ => rfl))) (pe_ix ix_list (pv 1) pe_int (fun _ _ => rfl))))))))), ?_⟩
    refine ⟨_, rfl, _, _, _, _, _, rfl, .ty _, tyx_dp hv, kit_ty (kit_str _), _, rfl, ?_⟩
    cases e with
    | nm z =>
      have ez := dpS hv
      subst ez
      exact iteT ⟨_, rfl, q H (Same.refl _)⟩
    | ky e =>
      obtain ⟨p, x, y, rfl, hp, hx, hy⟩ := dp2 hv
      have ex := dpS hx
      subst ex
      refine iteF ?_
      have hd' : e.deep < n := Nat.lt_of_succ_lt_succ hd
      have hs' : e.size ≤ 1000 := Nat.le_of_succ_le hs
      have hz1 := Xp.wr_len (e := e) ok
      have sl : 13000 ≤ sizeLine := by decide
      have e1 : ("(" : Str).length = 1 := rfl
      have e2 : (")" : Str).length = 1 := rfl
      have e3 : ("keys" : Str).length = 4 := rfl
      refine ⟨_, rfl, 1, rfl, p, _, rfl, hp, (fun h => absurd h.1 (show ¬ HT.sIx 2 0 (some 1) = 0 by decide)), fun _ t nt => ?_⟩
      refine ⟨t, rfl, ⟨_, .inl (.inl upd_same)⟩, fun Dn nD => ?_⟩
      have s1 := same_new (o := .tup [y]) nt
      refine lc_pure over_tup (fun v => some (.str e.wr)) nD (by show 1 ≤ sizeLine; decide) (fun H' s' => .inl (.inl (s' _ _ upd_same))) ?_ ?_
      · rintro x hx H2 v H3 Nx s2 ⟨rfl, rfl⟩ nx
        rw [List.mem_singleton.mp hx]
        refine ⟨rfl, lc_yes ?_⟩
        exact ⟨_, rfl, y, e, rfl, Same.dp s2 (Same.dp s1 hy), ok, hd', hs', fun H' s' => nx H' s'⟩
      intro H2 s2 h2
      have s02 := s1.trans s2
      have hp2 := Same.tup s02 hp
      refine ⟨_, rfl, p, _, _, _, rfl, rfl, hp2, at_of (j := 0) rfl rfl, by show 2 ≤ sizeLine; decide, fun t2 nt2 => ⟨t2, _, rfl, .inl (.inl (.inl upd_same)), rfl, rfl, _, rfl, ?_⟩⟩
      refine iteY (by decide +kernel) ?_
      have s23 := same_new (o := .lst [.str "keys", .str "look"]) nt2
      refine ⟨_, rfl, p, _, _, _, rfl, rfl, Same.tup s23 hp2, at_of (j := 0) rfl rfl, _, _, rfl, rfl, by omega, ⟨_, rfl⟩, _, rfl, ",", Dn, [e.wr], rfl, rfl, .inl (.inl (.inl (s23 _ _ h2))), by show e.wr.length + 0 + 1 * 1 ≤ 16777216; omega, _, _, rfl, rfl, ?_, _, _, rfl, rfl, ?_, ?_⟩
      · rw [TL.join_eq, join_one, strLen_append]; omega
      · rw [TL.join_eq, join_one, strLen_append, strLen_append]; omega
      · rw [TL.join_eq, join_one]
        exact q _ (s02.trans s23)
    | lk a b =>
      obtain ⟨p, x, y, z, rfl, hp, hx, hy, hz⟩ := dp3 hv
      have ex := dpS hx
      subst ex
      refine iteF ?_
      have hd1 : a.deep < n ∧ b.deep < n := by
        have : max a.deep b.deep + 1 < n + 1 := hd
        omega
      have hs1 : a.size + b.size + 1 ≤ 1000 := hs
      have hz1 := Xp.wr_len (e := a) ok.1
      have hz2 := Xp.wr_len (e := b) ok.2
      have sl : 13000 ≤ sizeLine := by decide
      have e1 : ("(" : Str).length = 1 := rfl
      have e2 : (")" : Str).length = 1 := rfl
      have e3 : ("look" : Str).length = 4 := rfl
      have e4 : ("," : Str).length = 1 := rfl
      refine ⟨_, rfl, 1, rfl, p, _, rfl, hp, (fun h => absurd h.1 (show ¬ HT.sIx 3 0 (some 1) = 0 by decide)), fun _ t nt => ?_⟩
      refine ⟨t, rfl, ⟨_, .inl (.inl upd_same)⟩, fun Dn nD => ?_⟩
      have s1 := same_new (o := .tup [y, z]) nt
      refine lc_over over_tup (fun i H2 => Same (upd H t (.tup [y, z])) H2 ∧ H2 Dn = some (.lst (([a.wr, b.wr].take i).map V.str))) ⟨same_new nD, upd_same⟩ (fun i H2 _ p2 => .inl (.inl (p2.1 _ _ upd_same))) ?_ ?_
      · rintro i v H2 v' H3 ei ⟨s2, h2⟩ ⟨rfl, rfl⟩
        have nxt : ∀ (e : Xp) (H4 : Hp), ([a.wr, b.wr].take (i + 1)).map V.str = ([a.wr, b.wr].take i).map V.str ++ [V.str e.wr] → Same H3 H4 → ∃ acc, H4 Dn = some (.lst acc) ∧ acc.length < sizeLine ∧ Same (upd H t (.tup [y, z])) (upd H4 Dn (.lst (acc ++ [V.str e.wr]))) ∧ (upd H4 Dn (.lst (acc ++ [V.str e.wr]))) Dn = some (.lst (([a.wr, b.wr].take (i + 1)).map V.str)) := fun e H4 ee s4 => by
          refine ⟨_, s4 _ _ h2, ?_, fun c o hc => ?_, by rw [upd_same, ee]⟩
          · rw [List.length_map, List.length_take]
            show min i 2 < _
            have : 2 < sizeLine := by decide
            omega
          · rw [upd_ne (ne_of_none hc nD)]
            exact s4 _ _ (s2 _ _ hc)
        refine ⟨rfl, lc_yes ?_⟩
        match i, ei with
        | 0, ei =>
          cases ei
          exact ⟨_, rfl, y, a, rfl, Same.dp s2 (Same.dp s1 hy), ok.1, hd1.1, by omega, fun H4 s4 => nxt a H4 rfl s4⟩
        | 1, ei =>
          cases ei
          exact ⟨_, rfl, z, b, rfl, Same.dp s2 (Same.dp s1 hz), ok.2, hd1.2, by omega, fun H4 s4 => nxt b H4 rfl s4⟩
      rintro H2 ⟨s2, h2⟩
      have s02 := s1.trans s2
      have nDH : H Dn = none := s1.free nD
      have hp2 := Same.tup s02 hp
      refine ⟨_, rfl, p, _, _, _, rfl, rfl, hp2, at_of (j := 0) rfl rfl, by show 2 ≤ sizeLine; decide, fun t2 nt2 => ⟨t2, _, rfl, .inl (.inl (.inl upd_same)), rfl, rfl, _, rfl, ?_⟩⟩
      refine iteY (by decide +kernel) ?_
      have s23 := same_new (o := .lst [.str "keys", .str "look"]) nt2
      have ej : Txt.join "," [a.wr, b.wr] = a.wr ++ "," ++ b.wr := by rw [TL.join_eq]; rfl
      refine ⟨_, rfl, p, _, _, _, rfl, rfl, Same.tup s23 hp2, at_of (j := 0) rfl rfl, _, _, rfl, rfl, by omega, ⟨_, rfl⟩, _, rfl, ",", Dn, [a.wr, b.wr], rfl, rfl, .inl (.inl (.inl (s23 _ _ h2))), by show a.wr.length + (b.wr.length + 0) + 2 * 1 ≤ 16777216; omega, _, _, rfl, rfl, ?_, _, _, rfl, rfl, ?_, ?_⟩
      · rw [ej]; simp only [strLen_append]; omega
      · rw [ej]; simp only [strLen_append]; omega
      · rw [ej]
        exact q _ (s02.trans s23)
    | op l a b =>
      obtain ⟨p, x, y, z, rfl, hp, hx, hy, hz⟩ := dp3 hv
      have ex := dpS hx
      subst ex
      refine iteF ?_
      have hl : l < 5 := ok.1
      have hd1 : a.deep < n ∧ b.deep < n := by
        have : max a.deep b.deep + 1 < n + 1 := hd
        omega
      have hs1 : a.size + b.size + 1 ≤ 1000 := hs
      have hz1 := Xp.wr_len (e := a) ok.2.1
      have hz2 := Xp.wr_len (e := b) ok.2.2
      have sl : 13000 ≤ sizeLine := by decide
      have e1 : ("(" : Str).length = 1 := rfl
      have e2 : (")" : Str).length = 1 := rfl
      have e3 : ("look" : Str).length = 4 := rfl
      have e4 : ("," : Str).length = 1 := rfl
      refine ⟨_, rfl, 1, rfl, p, _, rfl, hp, (fun h => absurd h.1 (show ¬ HT.sIx 3 0 (some 1) = 0 by decide)), fun _ t nt => ?_⟩
      refine ⟨t, rfl, ⟨_, .inl (.inl upd_same)⟩, fun Dn nD => ?_⟩
      have s1 := same_new (o := .tup [y, z]) nt
      refine lc_over over_tup (fun i H2 => Same (upd H t (.tup [y, z])) H2 ∧ H2 Dn = some (.lst (([a.wr, b.wr].take i).map V.str))) ⟨same_new nD, upd_same⟩ (fun i H2 _ p2 => .inl (.inl (p2.1 _ _ upd_same))) ?_ ?_
      · rintro i v H2 v' H3 ei ⟨s2, h2⟩ ⟨rfl, rfl⟩
        have nxt : ∀ (e : Xp) (H4 : Hp), ([a.wr, b.wr].take (i + 1)).map V.str = ([a.wr, b.wr].take i).map V.str ++ [V.str e.wr] → Same H3 H4 → ∃ acc, H4 Dn = some (.lst acc) ∧ acc.length < sizeLine ∧ Same (upd H t (.tup [y, z])) (upd H4 Dn (.lst (acc ++ [V.str e.wr]))) ∧ (upd H4 Dn (.lst (acc ++ [V.str e.wr]))) Dn = some (.lst (([a.wr, b.wr].take (i + 1)).map V.str)) := fun e H4 ee s4 => by
          refine ⟨_, s4 _ _ h2, ?_, fun c o hc => ?_, by rw [upd_same, ee]⟩
          · rw [List.length_map, List.length_take]
            show min i 2 < _
            have : 2 < sizeLine := by decide
            omega
          · rw [upd_ne (ne_of_none hc nD)]
            exact s4 _ _ (s2 _ _ hc)
        refine ⟨rfl, lc_yes ?_⟩
        match i, ei with
        | 0, ei =>
          cases ei
          exact ⟨_, rfl, y, a, rfl, Same.dp s2 (Same.dp s1 hy), ok.2.1, hd1.1, by omega, fun H4 s4 => nxt a H4 rfl s4⟩
        | 1, ei =>
          cases ei
          exact ⟨_, rfl, z, b, rfl, Same.dp s2 (Same.dp s1 hz), ok.2.2, hd1.2, by omega, fun H4 s4 => nxt b H4 rfl s4⟩
      rintro H2 ⟨s2, h2⟩
      have s02 := s1.trans s2
      have nDH : H Dn = none := s1.free nD
      have hp2 := Same.tup s02 hp
      refine ⟨_, rfl, p, _, _, _, rfl, rfl, hp2, at_of (j := 0) rfl rfl, by show 2 ≤ sizeLine; decide, fun t2 nt2 => ⟨t2, _, rfl, .inl (.inl (.inl upd_same)), rfl, rfl, _, rfl, ?_⟩⟩
      refine iteN (by rcases five hl with rfl | rfl | rfl | rfl | rfl <;> decide +kernel) ?_
      have s23 := same_new (o := .lst [.str "keys", .str "look"]) nt2
      have s02 := s02.trans s23
      have h2 : (upd H2 t2 (.lst [.str "keys", .str "look"])) Dn = some (.lst [.str a.wr, .str b.wr]) := s23 _ _ h2
      have hp2 := Same.tup s23 hp2
      generalize upd H2 t2 (.lst [.str "keys", .str "look"]) = H2 at s02 h2 hp2
      refine ⟨2, rfl, by decide, by decide, for_over over_range (fun i σ H' => ∃ x2 x3, σ = [some (.ref p), some (.ref Dn), x2, x3] ∧ But Dn H2 H' ∧ H' Dn = some (.lst (wrs a b i))) ⟨_, _, rfl, But.refl, h2⟩ (fun _ _ _ _ _ => trivial) ?_ ?_⟩
      · rintro i x0 σ H3 v3 H3' ei ⟨x2, x3, rfl, b3, h3⟩ ⟨rfl, rfl⟩
        have hp3 : SqT K H3' p [.str (opAt l), y, z] := sqT_butL b3 h2 hp2
        have ei := (nums_at ei)
        have hi2 : i < 2 := ei.1
        rcases (show i = 0 ∨ i = 1 by omega) with rfl | rfl
        · have ex0 : x0 = 0 := by have := ei.2; simpa using this
          subst ex0
          refine ⟨_, rfl, _, rfl, _, _, rfl, rfl, p, _, _, _, rfl, rfl, hp3, at_of (j := 1) rfl rfl, ?_⟩
          have hv3 := dp_butL b3 h2 (Same.dp s02 hy)
          refine ⟨_, rfl, _, _, _, _, _, rfl, .ty _, tyx_dp hv3, kit_ty (kit_str _), _, rfl, ?_⟩
          have keep : ∀ (H4 : Hp), Same H3' H4 → a.lev = 5 → ∃ x2 x3, [some (V.ref p), some (.ref Dn), some (.int 0), some y] = [some (V.ref p), some (.ref Dn), x2, x3] ∧ But Dn H2 H4 ∧ H4 Dn = some (.lst (wrs a b 1)) := fun H4 s4 h5 => by
            refine ⟨_, _, rfl, b3.trans (But.of_same s4), ?_⟩
            rw [s4 _ _ h3]
            unfold wrs
            rw [h5]
            rfl
          have okk := ok.2.1
          have lz : a.wr.length ≤ 12000 := by omega
          cases a with
          | nm z0 => exact iteF (keep _ (Same.refl _) rfl)
          | ky e0 =>
            obtain ⟨pp, x5, y5, ev, hpp, hx5, _⟩ := dp2 hv3
            have ex5 := dpS hx5
            subst ex5
            subst ev
            refine iteT ?_
            refine ⟨_, rfl, pp, _, _, _, rfl, rfl, hpp, at_of (j := 0) rfl rfl, by show 2 ≤ sizeLine; decide, fun t4 nt4 => ⟨t4, _, rfl, .inl (.inl (.inl upd_same)), rfl, rfl, _, rfl, ?_⟩⟩
            refine iteN (by decide +kernel) ?_
            exact keep _ (same_new nt4) rfl
          | lk e0 e9 =>
            obtain ⟨pp, x5, y5, z5, ev, hpp, hx5, _, _⟩ := dp3 hv3
            have ex5 := dpS hx5
            subst ex5
            subst ev
            refine iteT ?_
            refine ⟨_, rfl, pp, _, _, _, rfl, rfl, hpp, at_of (j := 0) rfl rfl, by show 2 ≤ sizeLine; decide, fun t4 nt4 => ⟨t4, _, rfl, .inl (.inl (.inl upd_same)), rfl, rfl, _, rfl, ?_⟩⟩
            refine iteN (by decide +kernel) ?_
            exact keep _ (same_new nt4) rfl
          | op mm e0 e9 =>
            have hmm : mm < 5 := okk.1
            obtain ⟨pp, x5, y5, z5, ev, hpp, hx5, _, _⟩ := dp3 hv3
            have ex5 := dpS hx5
            subst ex5
            subst ev
            refine iteT ?_
            refine ⟨_, rfl, pp, _, _, _, rfl, rfl, hpp, at_of (j := 0) rfl rfl, by show 2 ≤ sizeLine; decide, fun t4 nt4 => ⟨t4, _, rfl, .inl (.inl (.inl upd_same)), rfl, rfl, _, rfl, ?_⟩⟩
            refine iteY (by rcases five hmm with rfl | rfl | rfl | rfl | rfl <;> decide +kernel) ?_
            have s4 := same_new (o := .lst [.str "keys", .str "look"]) nt4
            have h4 := s4 _ _ h3
            refine ⟨_, rfl, _, rfl, Dn, _, _, _, rfl, rfl, .inl (.inl h4), at_of (j := 0) rfl rfl, _, _, rfl, rfl, ?_, _, _, rfl, rfl, ?_, ?_⟩
            · show 1 + (Xp.op mm e0 e9).wr.length ≤ sizeLine
              omega
            · show ("(" ++ (Xp.op mm e0 e9).wr : Str).length + 1 ≤ sizeLine
              rw [strLen_append]
              omega
            · refine ⟨_, rfl, _, rfl, Dn, _, _, 0, rfl, rfl, h4, rfl, ?_⟩
              refine ⟨some (.int 0), some (.ref pp), rfl, (b3.trans (But.of_same s4)).trans But.upd, ?_⟩
              rw [upd_same]
              have ew : Xp.wrap (decide ((Xp.op mm e0 e9).lev < 5)) (Xp.op mm e0 e9).wr = "(" ++ (Xp.op mm e0 e9).wr ++ ")" := by rw [decide_eq_true (show (Xp.op mm e0 e9).lev < 5 from hmm)]; rfl
              show some (HO.lst [V.str ("(" ++ (Xp.op mm e0 e9).wr ++ ")"), .str b.wr]) = some (HO.lst [V.str (Xp.wrap (decide ((Xp.op mm e0 e9).lev < 5)) (Xp.op mm e0 e9).wr), .str b.wr])
              rw [ew]
        · have ex0 : x0 = 1 := by have := ei.2; simpa using this
          subst ex0
          refine ⟨_, rfl, _, rfl, _, _, rfl, rfl, p, _, _, _, rfl, rfl, hp3, at_of (j := 2) rfl rfl, ?_⟩
          have hv3 := dp_butL b3 h2 (Same.dp s02 hz)
          refine ⟨_, rfl, _, _, _, _, _, rfl, .ty _, tyx_dp hv3, kit_ty (kit_str _), _, rfl, ?_⟩
          have keep : ∀ (H4 : Hp), Same H3' H4 → b.lev = 5 → ∃ x2 x3, [some (V.ref p), some (.ref Dn), some (.int 1), some z] = [some (V.ref p), some (.ref Dn), x2, x3] ∧ But Dn H2 H4 ∧ H4 Dn = some (.lst (wrs a b 2)) := fun H4 s4 h5 => by
            refine ⟨_, _, rfl, b3.trans (But.of_same s4), ?_⟩
            rw [s4 _ _ h3]
            unfold wrs
            rw [h5]
            rfl
          have okk := ok.2.2
          have lz : b.wr.length ≤ 12000 := by omega
          cases b with
          | nm z0 => exact iteF (keep _ (Same.refl _) rfl)
          | ky e0 =>
            obtain ⟨pp, x5, y5, ev, hpp, hx5, _⟩ := dp2 hv3
            have ex5 := dpS hx5
            subst ex5
            subst ev
            refine iteT ?_
            refine ⟨_, rfl, pp, _, _, _, rfl, rfl, hpp, at_of (j := 0) rfl rfl, by show 2 ≤ sizeLine; decide, fun t4 nt4 => ⟨t4, _, rfl, .inl (.inl (.inl upd_same)), rfl, rfl, _, rfl, ?_⟩⟩
            refine iteN (by decide +kernel) ?_
            exact keep _ (same_new nt4) rfl
          | lk e0 e9 =>
            obtain ⟨pp, x5, y5, z5, ev, hpp, hx5, _, _⟩ := dp3 hv3
            have ex5 := dpS hx5
            subst ex5
            subst ev
            refine iteT ?_
            refine ⟨_, rfl, pp, _, _, _, rfl, rfl, hpp, at_of (j := 0) rfl rfl, by show 2 ≤ sizeLine; decide, fun t4 nt4 => ⟨t4, _, rfl, .inl (.inl (.inl upd_same)), rfl, rfl, _, rfl, ?_⟩⟩
            refine iteN (by decide +kernel) ?_
            exact keep _ (same_new nt4) rfl
          | op mm e0 e9 =>
            have hmm : mm < 5 := okk.1
            obtain ⟨pp, x5, y5, z5, ev, hpp, hx5, _, _⟩ := dp3 hv3
            have ex5 := dpS hx5
            subst ex5
            subst ev
            refine iteT ?_
            refine ⟨_, rfl, pp, _, _, _, rfl, rfl, hpp, at_of (j := 0) rfl rfl, by show 2 ≤ sizeLine; decide, fun t4 nt4 => ⟨t4, _, rfl, .inl (.inl (.inl upd_same)), rfl, rfl, _, rfl, ?_⟩⟩
            refine iteY (by rcases five hmm with rfl | rfl | rfl | rfl | rfl <;> decide +kernel) ?_
            have s4 := same_new (o := .lst [.str "keys", .str "look"]) nt4
            have h4 := s4 _ _ h3
            refine ⟨_, rfl, _, rfl, Dn, _, _, _, rfl, rfl, .inl (.inl h4), at_of (j := 1) rfl rfl, _, _, rfl, rfl, ?_, _, _, rfl, rfl, ?_, ?_⟩
            · show 1 + (Xp.op mm e0 e9).wr.length ≤ sizeLine
              omega
            · show ("(" ++ (Xp.op mm e0 e9).wr : Str).length + 1 ≤ sizeLine
              rw [strLen_append]
              omega
            · refine ⟨_, rfl, _, rfl, Dn, _, _, 1, rfl, rfl, h4, rfl, ?_⟩
              refine ⟨some (.int 1), some (.ref pp), rfl, (b3.trans (But.of_same s4)).trans But.upd, ?_⟩
              rw [upd_same]
              have ew : Xp.wrap (decide ((Xp.op mm e0 e9).lev < 5)) (Xp.op mm e0 e9).wr = "(" ++ (Xp.op mm e0 e9).wr ++ ")" := by rw [decide_eq_true (show (Xp.op mm e0 e9).lev < 5 from hmm)]; rfl
              show some (HO.lst [V.str (Xp.wrap (decide (a.lev < 5)) a.wr), .str ("(" ++ (Xp.op mm e0 e9).wr ++ ")")]) = some (HO.lst [V.str (Xp.wrap (decide (a.lev < 5)) a.wr), .str (Xp.wrap (decide ((Xp.op mm e0 e9).lev < 5)) (Xp.op mm e0 e9).wr)])
              rw [ew]
      · rintro σ H3 ⟨x2, x3, rfl, b3, h3⟩
        have hp3 : SqT K H3 p [.str (opAt l), y, z] := sqT_butL b3 h2 hp2
        have h3' : H3 Dn = some (.lst [.str (Xp.wrap (decide (a.lev < 5)) a.wr), .str (Xp.wrap (decide (b.lev < 5)) b.wr)]) := h3
        have w1 := Xp.wrap_len (decide (a.lev < 5)) a.wr
        have w2 := Xp.wrap_len (decide (b.lev < 5)) b.wr
        have lo := Xp.len_op l
        refine ⟨_, rfl, Dn, _, _, _, rfl, rfl, .inl (.inl h3'), at_of (j := 0) rfl rfl, _, rfl, p, _, _, _, rfl, rfl, hp3, at_of (j := 0) rfl rfl, _, _, rfl, rfl, by omega, _, rfl, Dn, _, _, _, rfl, rfl, .inl (.inl h3'), at_of (j := 1) rfl rfl, _, _, rfl, rfl, by rw [strLen_append]; omega, ?_⟩
        exact q _ (b3.back s02 nDH)
theorem ok_writ (B : Bl mg) (D : Df K mg "_law_written" s_l_written) : ∀ n, Cal P w K mg base (n + 1) "_law_written" (spWrit K n) []
  | 0 => by
    refine D.cal (k := 0) sc_l_written (fun _ _ _ _ _ _ us hl => match us, hl with | [_], _ => rfl) (fun vs H Q E h => ?_) (fun f cdv A out s H vs Q E hr h => ?_)
    · obtain ⟨v, e, rfl, _⟩ := h
      rfl
    · obtain ⟨v, e, rfl, _, _, hd, _⟩ := h
      exact absurd hd (Nat.not_lt_zero _)
  | n + 1 => ok_writ1 n B (ok_writ B D n) D
end
end Eu
set_option Elab.async false
set_option linter.all false
set_option maxRecDepth 100000
set_option maxHeartbeats 4000000
set_option pp.maxSteps 3000
/-! Texts with some signs changed: how many of their signs make a reading deeper. -/
namespace Gr
open PySem PySem.Spec PyProof.Rows
open Eu (letter letters nameS repS revS)
open L2 (cutS)
def hvC (c : Nat) : Bool := decide (c = 40) || decide (c ∈ opC)
def hc (z : Str) : Nat := z.cps.toList.countP hvC
structure TB (z : Str) (m n : Nat) : Prop where
  len : z.length ≤ m
  hv : hc z ≤ n
  low : ∀ c ∈ z.cps.toList, c < 128
theorem TB.mono {z : Str} {m n m' n' : Nat} (h : TB z m n) (h1 : m ≤ m') (h2 : n ≤ n') : TB z m' n' := ⟨Nat.le_trans h.len h1, Nat.le_trans h.hv h2, h.low⟩
theorem TB.app {a b : Str} {m n m' n' : Nat} (h : TB a m n) (h' : TB b m' n') : TB (a ++ b) (m + m') (n + n') := by
  refine ⟨?_, ?_, fun c hc => ?_⟩
  · rw [strLen_append]; have := h.len; have := h'.len; omega
  · show (a ++ b).cps.toList.countP hvC ≤ _
    rw [app_cps, List.countP_append]
    have h1 : a.cps.toList.countP hvC ≤ n := h.hv
    have h2 : b.cps.toList.countP hvC ≤ n' := h'.hv
    omega
  · rw [app_cps] at hc
    rcases List.mem_append.mp hc with hc | hc
    · exact h.low c hc
    · exact h'.low c hc
theorem letter_hv {c : Nat} (h : letter c = true) : hvC c = false := by
  unfold letter at h
  simp only [Bool.and_eq_true, decide_eq_true_eq] at h
  unfold hvC
  rw [Bool.or_eq_false_iff]
  refine ⟨decide_eq_false (by omega), decide_eq_false fun hop => ?_⟩
  unfold opC at hop
  simp only [List.mem_cons, List.not_mem_nil, or_false] at hop
  omega
theorem TB.word {z : Str} {m : Nat} (h : letters z = true) (hl : z.length ≤ m) : TB z m 0 := by
  have ok := Xp.okS.word h hl
  refine ⟨hl, ?_, ok.low⟩
  show z.cps.toList.countP hvC ≤ 0
  rw [Nat.le_zero, List.countP_eq_zero]
  intro c hc
  rw [letter_hv (List.all_eq_true.mp h c hc)]
  exact Bool.false_ne_true
theorem TB.one {c : Nat} (h : c < 128) : TB (one c) 1 1 := by
  refine ⟨Nat.le_refl _, ?_, fun x hx => ?_⟩
  · show [c].countP hvC ≤ 1
    have := List.countP_le_length (p := hvC) (l := [c])
    exact this
  · have : x = c := by simpa using hx
    omega
theorem TB.gaps (n : Nat) : TB (repS " " n) n 0 := by
  have ok := Xp.okS.reps n
  refine ⟨ok.len, ?_, ok.low⟩
  show (repS " " n).cps.toList.countP hvC ≤ 0
  rw [Nat.le_zero, List.countP_eq_zero]
  intro c hc
  unfold repS at hc
  simp only [List.mem_flatten, List.mem_replicate] at hc
  obtain ⟨l, ⟨_, rfl⟩, hc⟩ := hc
  have e : (" " : Str).cps.toList = [32] := by decide +kernel
  rw [e, List.mem_singleton] at hc
  rw [hc]
  decide
/-! ### written expressions -/
namespace Xp
def inner : Xp → Nat
  | nm _ => 0
  | ky e => e.inner + 1
  | lk a b => a.inner + b.inner + 1
  | op _ a b => a.inner + b.inner + 1
theorem inner_le : ∀ e : Xp, e.inner + 1 ≤ 2 ^ e.deep
  | nm _ => by show 0 + 1 ≤ 2 ^ 0; decide
  | ky e => by
    have := inner_le e
    show e.inner + 1 + 1 ≤ 2 ^ (e.deep + 1)
    rw [Nat.pow_succ]
    omega
  | lk a b => by
    have h1 := inner_le a
    have h2 := inner_le b
    have m1 := Nat.pow_le_pow_right (show 0 < 2 by decide) (show a.deep ≤ max a.deep b.deep by omega)
    have m2 := Nat.pow_le_pow_right (show 0 < 2 by decide) (show b.deep ≤ max a.deep b.deep by omega)
    show a.inner + b.inner + 1 + 1 ≤ 2 ^ (max a.deep b.deep + 1)
    rw [Nat.pow_succ]
    omega
  | op _ a b => by
    have h1 := inner_le a
    have h2 := inner_le b
    have m1 := Nat.pow_le_pow_right (show 0 < 2 by decide) (show a.deep ≤ max a.deep b.deep by omega)
    have m2 := Nat.pow_le_pow_right (show 0 < 2 by decide) (show b.deep ≤ max a.deep b.deep by omega)
    show a.inner + b.inner + 1 + 1 ≤ 2 ^ (max a.deep b.deep + 1)
    rw [Nat.pow_succ]
    omega
theorem par_TB : TB "(" 1 1 ∧ TB ")" 1 0 ∧ TB "," 1 0 := ⟨⟨by decide, by decide +kernel, by decide +kernel⟩, ⟨by decide, by decide +kernel, by decide +kernel⟩, ⟨by decide, by decide +kernel, by decide +kernel⟩⟩
theorem op_TB {l : Nat} (h : l < 5) : TB (opAt l) 1 1 := by
  rcases five h with rfl | rfl | rfl | rfl | rfl <;> exact ⟨by decide +kernel, by decide +kernel, by decide +kernel⟩
theorem wrap_TB {z : Str} {m n : Nat} (c : Bool) (h : TB z m n) : TB (wrap c z) (m + 2) (n + if c = true then 1 else 0) := by
  cases c with
  | false => exact h.mono (by omega) (by omega)
  | true => exact ((par_TB.1.app h).app par_TB.2.1).mono (by omega) (by show 1 + n + 0 ≤ n + 1; omega)
theorem wr_TB : ∀ {e : Xp}, e.ok → TB e.wr (12 * e.size) (2 * e.inner - if e.lev < 5 then 1 else 0) ∧ (e.lev < 5 → 1 ≤ e.inner)
  | nm z, h => by
    have ok := name_okS h
    have w := name_word h
    exact ⟨(TB.word w.2 ok.len).mono (by show 4 ≤ 12 * 1; decide) (Nat.zero_le _), fun q => absurd (show (5 : Nat) < 5 from q) (by decide)⟩
  | ky e, h => by
    obtain ⟨h1, _⟩ := wr_TB (e := e) h
    have h5 : ¬ (ky e).lev < 5 := by show ¬ 5 < 5; decide
    refine ⟨?_, fun z => absurd z h5⟩
    rw [if_neg h5]
    refine (((((TB.word wrd.1.2 (m := 4) (by decide)).app par_TB.1).app h1).app par_TB.2.1)).mono ?_ ?_
    · show 4 + 1 + 12 * e.size + 1 ≤ 12 * (e.size + 1)
      omega
    · show 0 + 1 + _ + 0 ≤ 2 * (e.inner + 1) - 0
      omega
  | lk a b, h => by
    obtain ⟨h1, _⟩ := wr_TB (e := a) h.1
    obtain ⟨h2, _⟩ := wr_TB (e := b) h.2
    have h5 : ¬ (lk a b).lev < 5 := by show ¬ 5 < 5; decide
    refine ⟨?_, fun z => absurd z h5⟩
    rw [if_neg h5]
    refine (((((TB.word wrd.2.2 (m := 4) (by decide)).app par_TB.1).app ((h1.app par_TB.2.2).app h2)).app par_TB.2.1)).mono ?_ ?_
    · show 4 + 1 + (12 * a.size + 1 + 12 * b.size) + 1 ≤ 12 * (a.size + b.size + 1)
      omega
    · show 0 + 1 + _ + 0 ≤ 2 * (a.inner + b.inner + 1) - 0
      omega
  | op l a b, h => by
    obtain ⟨h1, g1⟩ := wr_TB (e := a) h.2.1
    obtain ⟨h2, g2⟩ := wr_TB (e := b) h.2.2
    have hl : (op l a b).lev < 5 := h.1
    refine ⟨?_, fun _ => by show 1 ≤ a.inner + b.inner + 1; omega⟩
    rw [if_pos hl]
    refine (((wrap_TB (decide (a.lev < 5)) h1).app (op_TB h.1)).app (wrap_TB (decide (b.lev < 5)) h2)).mono ?_ ?_
    · show 12 * a.size + 2 + 1 + (12 * b.size + 2) ≤ 12 * (a.size + b.size + 1)
      omega
    · show _ + 1 + _ ≤ 2 * (a.inner + b.inner + 1) - 1
      by_cases ha : a.lev < 5 <;> by_cases hb : b.lev < 5
      · have := g1 ha; have := g2 hb
        simp only [ha, hb, decide_true, if_true]; omega
      · have := g1 ha
        simp only [ha, hb, decide_true, decide_false, if_true, if_false, Bool.false_eq_true]; omega
      · have := g2 hb
        simp only [ha, hb, decide_true, decide_false, if_true, if_false, Bool.false_eq_true]; omega
      · simp only [ha, hb, decide_false, if_false, Bool.false_eq_true]; omega
end Xp
/-! ### bent texts -/
theorem cutS_to (z : Str) (k : Nat) : (cutS z none (some ((k : Nat) : Int))).cps.toList = z.cps.toList.take k := by
  have lz : z.length = z.cps.toList.length := by simp [Str.length]
  unfold cutS
  rw [HT.sIx_nat, show HT.sIx z.length 0 none = 0 from rfl, Nat.sub_zero, List.drop_zero, lz]
  simp only [List.toList_toArray]
  rw [List.take_eq_take_iff]
  omega
theorem cutS_from (z : Str) (k : Nat) : (cutS z (some ((k : Nat) : Int)) none).cps.toList = z.cps.toList.drop k := by
  have lz : z.length = z.cps.toList.length := by simp [Str.length]
  unfold cutS
  rw [HT.sIx_nat, show HT.sIx z.length z.length none = z.length from rfl, lz]
  simp only [List.toList_toArray]
  rw [List.take_of_length_le (by rw [List.length_drop]; exact Nat.le_refl _)]
  by_cases h : k ≤ z.cps.toList.length
  · rw [Nat.min_eq_left h]
  · rw [Nat.min_eq_right (by omega), List.drop_length, List.drop_eq_nil_of_le (by omega)]
theorem cutS_mid (z : Str) (k : Nat) (h : k ≤ z.length) : (cutS z (some ((k : Nat) : Int)) (some ((k + 2 : Nat) : Int))).cps.toList = (z.cps.toList.drop k).take 2 := by
  have lz : z.length = z.cps.toList.length := by simp [Str.length]
  unfold cutS
  rw [HT.sIx_nat, HT.sIx_nat, Nat.min_eq_left h]
  simp only [List.toList_toArray]
  rw [List.take_eq_take_iff, List.length_drop]
  omega
theorem TB.of {z : Str} {m n : Nat} (h1 : z.cps.toList.length ≤ m) (h2 : z.cps.toList.countP hvC ≤ n) (h3 : ∀ c ∈ z.cps.toList, c < 128) : TB z m n := by
  have lz : z.length = z.cps.toList.length := by simp [Str.length]
  exact ⟨by omega, h2, h3⟩
section
variable {z sg : Str} {m n k : Nat}
theorem TB.split (h : TB z m n) (k : Nat) : (z.cps.toList.take k).length + (z.cps.toList.drop k).length ≤ m ∧ (z.cps.toList.take k).countP hvC + (z.cps.toList.drop k).countP hvC ≤ n ∧ (∀ c ∈ z.cps.toList.take k, c < 128) ∧ (∀ c ∈ z.cps.toList.drop k, c < 128) := by
  have lz : z.length = z.cps.toList.length := by simp [Str.length]
  refine ⟨?_, ?_, fun c hc => h.low c (List.mem_of_mem_take hc), fun c hc => h.low c (List.mem_of_mem_drop hc)⟩
  · rw [← List.length_append, List.take_append_drop, ← lz]; exact h.len
  · rw [← List.countP_append, List.take_append_drop]; exact h.hv
theorem drop_more (cs : List Nat) (k j : Nat) : (cs.drop (k + j)).length ≤ (cs.drop k).length ∧ (cs.drop (k + j)).countP hvC ≤ (cs.drop k).countP hvC ∧ ∀ c ∈ cs.drop (k + j), c ∈ cs.drop k := by
  have e : cs.drop (k + j) = (cs.drop k).drop j := by rw [List.drop_drop]
  have s : (cs.drop (k + j)).Sublist (cs.drop k) := by rw [e]; exact List.drop_sublist _ _
  exact ⟨s.length_le, s.countP_le, fun c hc => s.subset hc⟩
theorem TB.put (h : TB z m n) (hs : TB sg 1 1) (k j : Nat) : TB (cutS z none (some ((k : Nat) : Int)) ++ sg ++ cutS z (some ((k + j : Nat) : Int)) none) (m + 1) (n + 1) := by
  obtain ⟨a1, a2, a3, a4⟩ := h.split k
  obtain ⟨b1, b2, b3⟩ := drop_more z.cps.toList k j
  have ls : sg.length = sg.cps.toList.length := by simp [Str.length]
  have hs1 := hs.len
  have hs2 : sg.cps.toList.countP hvC ≤ 1 := hs.hv
  refine TB.of ?_ ?_ fun c hc => ?_
  · rw [app_cps, app_cps, cutS_to, cutS_from, List.length_append, List.length_append]; omega
  · rw [app_cps, app_cps, cutS_to, cutS_from, List.countP_append, List.countP_append]; omega
  · rw [app_cps, app_cps, cutS_to, cutS_from] at hc
    rcases List.mem_append.mp hc with hc | hc
    · rcases List.mem_append.mp hc with hc | hc
      · exact a3 c hc
      · exact hs.low c hc
    · exact a4 c (b3 c hc)
theorem TB.less (h : TB z m n) (k j : Nat) : TB (cutS z none (some ((k : Nat) : Int)) ++ cutS z (some ((k + j : Nat) : Int)) none) m n := by
  obtain ⟨a1, a2, a3, a4⟩ := h.split k
  obtain ⟨b1, b2, b3⟩ := drop_more z.cps.toList k j
  refine TB.of ?_ ?_ fun c hc => ?_
  · rw [app_cps, cutS_to, cutS_from, List.length_append]; omega
  · rw [app_cps, cutS_to, cutS_from, List.countP_append]; omega
  · rw [app_cps, cutS_to, cutS_from] at hc
    rcases List.mem_append.mp hc with hc | hc
    · exact a3 c hc
    · exact a4 c (b3 c hc)
theorem TB.turn (h : TB z m n) (k : Nat) : TB (cutS z (some ((k : Nat) : Int)) none ++ cutS z none (some ((k : Nat) : Int))) m n := by
  obtain ⟨a1, a2, a3, a4⟩ := h.split k
  refine TB.of ?_ ?_ fun c hc => ?_
  · rw [app_cps, cutS_to, cutS_from, List.length_append]; omega
  · rw [app_cps, cutS_to, cutS_from, List.countP_append]; omega
  · rw [app_cps, cutS_to, cutS_from] at hc
    rcases List.mem_append.mp hc with hc | hc
    · exact a4 c hc
    · exact a3 c hc
theorem TB.swap (h : TB z m n) (hk : k ≤ z.length) : TB (cutS z none (some ((k : Nat) : Int)) ++ revS (cutS z (some ((k : Nat) : Int)) (some ((k + 2 : Nat) : Int))) ++ cutS z (some ((k + 2 : Nat) : Int)) none) m n := by
  obtain ⟨a1, a2, a3, a4⟩ := h.split k
  have er : (revS (cutS z (some ((k : Nat) : Int)) (some ((k + 2 : Nat) : Int)))).cps.toList = ((z.cps.toList.drop k).take 2).reverse := by
    show ((cutS z (some ((k : Nat) : Int)) (some ((k + 2 : Nat) : Int))).cps.toList.reverse.toArray).toList = _
    rw [cutS_mid z k hk]
  have ed : z.cps.toList.drop (k + 2) = (z.cps.toList.drop k).drop 2 := by rw [List.drop_drop]
  have et := List.take_append_drop 2 (z.cps.toList.drop k)
  have c1 : ((z.cps.toList.drop k).take 2).countP hvC + ((z.cps.toList.drop k).drop 2).countP hvC = (z.cps.toList.drop k).countP hvC := by rw [← List.countP_append, et]
  have c2 : ((z.cps.toList.drop k).take 2).length + ((z.cps.toList.drop k).drop 2).length = (z.cps.toList.drop k).length := by rw [← List.length_append, et]
  refine TB.of ?_ ?_ fun c hc => ?_
  · rw [app_cps, app_cps, cutS_to, cutS_from, er, ed, List.length_append, List.length_append, List.length_reverse]; omega
  · rw [app_cps, app_cps, cutS_to, cutS_from, er, ed, List.countP_append, List.countP_append, List.countP_reverse]; omega
  · rw [app_cps, app_cps, cutS_to, cutS_from, er, ed] at hc
    rcases List.mem_append.mp hc with hc | hc
    · rcases List.mem_append.mp hc with hc | hc
      · exact a3 c hc
      · exact a4 c (List.mem_of_mem_take (List.mem_reverse.mp hc))
    · exact a4 c (List.mem_of_mem_drop hc)
end
/-! ### tokens are no heavier than the text -/
theorem heavy_one {t : Str} (h : heavy t = true) : ∃ c, t = one c ∧ hvC c = true := by
  unfold heavy at h
  rw [Bool.or_eq_true] at h
  rcases h with h | h
  · have := of_decide_eq_true h
    exact ⟨40, by rw [this]; decide +kernel, by decide⟩
  · obtain ⟨o, ho⟩ := Option.isSome_iff_exists.mp h
    obtain ⟨o5, rfl⟩ := opLev_inv ho
    rcases five o5 with rfl | rfl | rfl | rfl | rfl
    · exact ⟨124, by decide +kernel, by decide⟩
    · exact ⟨94, by decide +kernel, by decide⟩
    · exact ⟨38, by decide +kernel, by decide⟩
    · exact ⟨45, by decide +kernel, by decide⟩
    · exact ⟨64, by decide +kernel, by decide⟩
theorem heavy_word {w : Str} (h : letters w = true) : heavy w = false := by
  cases hh : heavy w with
  | false => rfl
  | true =>
    obtain ⟨c, rfl, hc⟩ := heavy_one hh
    have : letter c = true := by
      have h' : [c].all letter = true := h
      simpa using h'
    rw [letter_hv this] at hc
    cases hc
theorem heavy_eq (t : Str) : heavy (t ++ one 61) = false := by
  cases hh : heavy (t ++ one 61) with
  | false => rfl
  | true =>
    obtain ⟨c, e, hc⟩ := heavy_one hh
    have e2 := congrArg (fun x : Str => x.cps.toList) e
    simp only [app_cps] at e2
    have : t.cps.toList = [] := by
      have := congrArg List.length e2
      simp at this
      simpa using this
    rw [this] at e2
    have : c = 61 := by simpa using e2.symm
    rw [this] at hc
    exact absurd hc (by decide)
theorem wt_one (c : Nat) : wt [one c] ≤ if hvC c = true then 1 else 0 := by
  rw [wt_cons]
  cases hh : heavy (one c) with
  | false => show 0 + 0 ≤ _; omega
  | true =>
    obtain ⟨c', e, hc⟩ := heavy_one hh
    have : c' = c := by
      have := Str.mk.inj e
      simpa using this.symm
    rw [this] at hc
    rw [if_pos hc]
    show 0 + 1 ≤ 1
    omega
theorem step_wt {p : Option Nat} {c : Nat} {f f' : List Str} {w w' : Str} (hw : letters w = true) (e : tokStep p c f w = some (f', w')) : wt f' ≤ wt f + (if hvC c = true then 1 else 0) ∧ letters w' = true := by
  unfold tokStep at e
  by_cases hl : letter c = true
  · rw [if_pos hl] at e
    cases e
    refine ⟨by omega, ?_⟩
    show ((w ++ one c).cps.toList.all letter) = true
    rw [app_cps, List.all_append]
    have h1 : w.cps.toList.all letter = true := hw
    rw [h1]
    simpa using hl
  · rw [if_neg hl] at e
    dsimp only at e
    have hf : wt (if w = "" then f else f ++ [w]) = wt f := by
      by_cases hw0 : w = ""
      · rw [if_pos hw0]
      · rw [if_neg hw0, wt_app, wt_cons, heavy_word hw]
        rfl
    have l0 : letters "" = true := by decide
    split at e
    · rename_i hP
      cases e
      refine ⟨?_, l0⟩
      rw [hP.1, wt_app, wt_cons, heavy_eq]
      have := (List.dropLast_sublist (if w = "" then f else f ++ [w])).countP_le (p := heavy)
      have h2 : wt (if w = "" then f else f ++ [w]).dropLast ≤ wt (if w = "" then f else f ++ [w]) := this
      show wt _ + (0 + 0) ≤ _
      omega
    · split at e
      · cases e
        refine ⟨?_, l0⟩
        rw [wt_app, hf]
        have := wt_one c
        omega
      · split at e
        · cases e
          exact ⟨by omega, l0⟩
        · cases e
theorem toksF_wt : ∀ {cs : List Nat} {p : Option Nat} {f ts : List Str} {w : Str}, letters w = true → toksF p cs f w = some ts → wt ts ≤ wt f + cs.countP hvC
  | [], p, f, ts, w, hw, e => by
    have e' : some (if w = "" then f else f ++ [w]) = some ts := e
    cases e'
    by_cases hw0 : w = ""
    · rw [if_pos hw0]; omega
    · rw [if_neg hw0, wt_app, wt_cons, heavy_word hw]
      show wt f + (0 + 0) ≤ _
      omega
  | c :: r, p, f, ts, w, hw, e => by
    have e' : (match tokStep p c f w with
      | none => none
      | some (f', w') => toksF (some c) r f' w') = some ts := e
    match hs : tokStep p c f w, e' with
    | none, e' => cases e'
    | some (f', w'), e' =>
      obtain ⟨h1, h2⟩ := step_wt hw hs
      have h3 := toksF_wt h2 e'
      rw [List.countP_cons]
      omega
theorem tokens_wt {z : Str} {ts : List Str} (h : tokens z = some ts) : wt ts ≤ hc z := by
  have := toksF_wt (by decide) h
  have e : wt ([] : List Str) = 0 := rfl
  unfold hc
  omega
end Gr
set_option Elab.async false
set_option linter.all false
set_option maxRecDepth 100000
set_option maxHeartbeats 4000000
set_option pp.maxSteps 3000
set_option pp.deepTerms false
/-! Texts, bent. -/
namespace Eu
open PySem PySem.Spec PyProof.Rows L2
open C8 (pe_gc pss_cut)
open Gr
abbrev s_l_bent : Stmt := top 26
theorem sc_l_bent : FnScope ["_law_bag_here", "_law_text", "_law_at", "_law_way", "_law_sign", "_law_pair"] ["_law_bag_here", "_law_text"] (defScope s_l_bent) :=
  ⟨rfl, rfl, rfl, by decide +kernel, rfl, by decide +kernel, by decide +kernel⟩
def spBent : Sp := fun vs H Q _ => ∃ (b : Addr) (z : Str) (m n c : Nat), vs = [.ref b, .str z] ∧ TB z m n ∧ m ≤ 2000 ∧ Bag H b c ∧ c ≤ 900000 ∧ ∀ z' H', But b H H' → Bag H' b (c + 3) → TB z' (m + 1) (n + 1) → Q (.str z') H'
def signs21 : Str := "abkz(),|^&-@= \nA1_.[+"
theorem at21 {d : Int} (h0 : 0 ≤ d) (h1 : d < 21) : ∃ c, atI signs21.cps.toList d = some c ∧ c < 128 := by
  have hl : signs21.cps.toList.length = 21 := by decide +kernel
  have hlow : ∀ c ∈ signs21.cps.toList, c < 128 := by decide +kernel
  obtain ⟨c, hc⟩ : ∃ c, signs21.cps.toList[d.toNat]? = some c := ⟨_, List.getElem?_eq_getElem (by omega)⟩
  refine ⟨c, ?_, hlow c (List.mem_of_getElem? hc)⟩
  have := atI_nat hc
  rw [show ((d.toNat : Nat) : Int) = d by omega] at this
  exact this
section
variable {P : Program} {w : World} {K : PySem.W.Frag} {mg : Str → Option Value} {base : Heap} {kw ka C CB : Addr}
theorem ok_bent (B : Bl mg) (c_l_take : Cal P w K mg base 1 "_law_take" spTake []) (D : Df K mg "_law_bent" s_l_bent) : Cal P w K mg base 2 "_law_bent" spBent [] := by
  refine D.cal (k := 1) sc_l_bent (fun _ _ _ _ _ _ us hl => match us, hl with | [_, _], _ => rfl) (fun vs H Q E h => ?_) (fun f cdv A out s H vs Q E hr h => ?_)
  · obtain ⟨b, z, m, n, c, rfl, _⟩ := h
    rfl
  · obtain ⟨b, z, m, n, c, rfl, tb, hm, bag, hc, q⟩ := h
    refine ⟨_, (pss_cons (ps_par (i := 2) (j := 3) (by rfl) sc_l_bent.nd rfl rfl (by decide) rfl rfl (pa_cons (pe_c c_l_take hr (by decide) (by rfl) (pa_cons (pv 0) (pa_cons (pe_op op_add (pe_callB call_len_str (by rfl) B.len (by decide +kernel) (pa_cons (pv 1) pa_nil)) pe_int) pa_nil))) (pa_cons (pe_c c_l_take hr (by decide) (by rfl) (pa_cons (pv 0) (pa_cons pe_int pa_nil))) pa_nil)) (by rfl))
(pss_cons (ps_set (i := 4) sc_l_bent.nd rfl (Or.inl rfl) (pe_ix ix_str pe_str (pe_c c_l_take hr (by decide) (by rfl) (pa_cons (pv 0) (pa_cons pe_int pa_nil))) (fun _ _ => rfl)))
(pss_cons (ps_if (pt_cmpR op_lt (pv 3) pe_int (nomark _))
(pss_one (ps_ret (pe_op op_add_str (pe_op op_add_str (pe_slice sl_str (pv 1) po_none (po_some (pv 2))) (pv 4)) (pe_slice sl_str (pv 1) (po_some (pv 2)) po_none))))
pss_nil)
(pss_cons (ps_if (pt_cmpR op_eq (pv 3) pe_int (nomark _))
(pss_one (ps_ret (pe_op op_add_str (pe_slice sl_str (pv 1) po_none (po_some (pv 2))) (pe_slice sl_str (pv 1) (po_some (pe_op op_add (pv 2) pe_int)) po_none))))
pss_nil)
(pss_cons (ps_if (pt_cmpR op_eq (pv 3) pe_int (nomark _))
(pss_one (ps_ret (pe_op op_add_str (pe_op op_add_str (pe_slice sl_str (pv 1) po_none (po_some (pv 2))) (pv 4)) (pe_slice sl_str (pv 1) (po_some (pe_op op_add (pv 2) pe_int)) po_none))))
pss_nil)
(pss_cons (ps_if (pt_cmpR op_eq (pv 3) pe_int (nomark _))
(pss_cons (ps_set (i := 5) sc_l_bent.nd rfl (Or.inl rfl) (pe_slice sl_str (pv 1) (po_some (pv 2)) (po_some (pe_op op_add (pv 2) pe_int))))
(pss_one (ps_ret (pe_op op_add_str (pe_op op_add_str (pe_slice sl_str (pv 1) po_none (po_some (pv 2))) (pe_revS (pv 5))) (pe_slice sl_str (pv 1) (po_some (pe_op op_add (pv 2) pe_int)) po_none)))))
pss_nil)
(pss_one (ps_ret (pe_op op_add_str (pe_slice sl_str (pv 1) (po_some (pv 2)) po_none) (pe_slice sl_str (pv 1) po_none (po_some (pv 2)))))))))))), ?_⟩
    have sl : 10000 ≤ sizeLine := by decide
    have zl := tb.len
    refine ⟨_, rfl, _, rfl, z, rfl, by omega, _, _, rfl, rfl, b, _, c, rfl, by omega, by omega, bag, by omega, fun d H1 d0 d1 b1 bag1 => ?_⟩
    refine ⟨_, rfl, b, 6, c + 1, rfl, by decide, by decide, bag1, by omega, fun y H2 y0 y1 b2 bag2 => ⟨_, _, rfl, ?_⟩⟩
    refine ⟨_, rfl, b, 21, c + 1 + 1, rfl, by decide, by decide, bag2, by omega, fun x H3 x0 x1 b3 bag3 => ?_⟩
    obtain ⟨sg, hsg, low⟩ := at21 x0 x1
    refine ⟨signs21, x, sg, rfl, rfl, by decide +kernel, hsg, ?_⟩
    obtain ⟨k, rfl⟩ : ∃ k : Nat, d = ((k : Nat) : Int) := ⟨d.toNat, by omega⟩
    have hk : k ≤ z.length := by omega
    have tsg : TB (one sg) 1 1 := TB.one low
    have bu := b1.trans (b2.trans b3)
    have fin : ∀ z', TB z' (m + 1) (n + 1) → Q (.str z') H3 := fun z' t => q z' H3 bu (bag3.mono (by omega)) t
    have l1 := cutS_length z none (some ((k : Nat) : Int))
    have l2 := cutS_length z (some ((k : Nat) : Int)) none
    have l3 := cutS_length z (some ((k + 1 : Nat) : Int)) none
    have l4 := cutS_length z (some ((k + 2 : Nat) : Int)) none
    have l5 := cutS_length z (some ((k : Nat) : Int)) (some ((k + 2 : Nat) : Int))
    have l6 : (⟨#[sg]⟩ : Str).length = 1 := rfl
    have e1 : ((k : Nat) : Int) + 1 = ((k + 1 : Nat) : Int) := by omega
    have e2 : ((k : Nat) : Int) + 2 = ((k + 2 : Nat) : Int) := by omega
    have zs : z.length ≤ sizeLine := by omega
    refine ⟨_, rfl, _, _, rfl, rfl, _, rfl, ?_⟩
    refine ite2 (fun _ => ?_) (fun _ => ?_)
    · refine ⟨_, rfl, _, rfl, _, rfl, z, rfl, zs, _, rfl, _, _, rfl, rfl, by omega, _, rfl, _, rfl, _, rfl, z, rfl, zs, _, _, rfl, rfl, by rw [strLen_append]; omega, ?_⟩
      exact fin _ (tb.put tsg k 0)
    refine ⟨_, rfl, rfl, _, rfl, ?_⟩
    refine ite2 (fun _ => ?_) (fun _ => ?_)
    · refine ⟨_, rfl, _, rfl, _, rfl, z, rfl, zs, _, rfl, _, rfl, _, _, rfl, rfl, _, rfl, z, rfl, zs, _, _, rfl, rfl, by rw [e1]; omega, ?_⟩
      rw [e1]
      exact fin _ ((tb.less k 1).mono (by omega) (by omega))
    refine ⟨_, rfl, rfl, _, rfl, ?_⟩
    refine ite2 (fun _ => ?_) (fun _ => ?_)
    · refine ⟨_, rfl, _, rfl, _, rfl, z, rfl, zs, _, rfl, _, _, rfl, rfl, by omega, _, rfl, _, rfl, _, _, rfl, rfl, _, rfl, z, rfl, zs, _, _, rfl, rfl, by rw [e1, strLen_append]; omega, ?_⟩
      rw [e1]
      exact fin _ (tb.put tsg k 1)
    refine ⟨_, rfl, rfl, _, rfl, ?_⟩
    refine ite2 (fun _ => ?_) (fun _ => ?_)
    · refine ⟨_, rfl, _, rfl, _, rfl, _, rfl, _, _, rfl, rfl, _, rfl, z, rfl, zs, ?_⟩
      rw [e2]
      refine ⟨_, rfl, _, rfl, _, rfl, z, rfl, zs, _, rfl, _, rfl, by omega, _, _, rfl, rfl, ?_, _, rfl, _, rfl, _, _, rfl, rfl, _, rfl, z, rfl, zs, _, _, rfl, rfl, ?_, ?_⟩
      · have : (revS (cutS z (some ((k : Nat) : Int)) (some ((k + 2 : Nat) : Int)))).length ≤ z.length := by
          show ((cutS z (some ((k : Nat) : Int)) (some ((k + 2 : Nat) : Int))).cps.toList.reverse.toArray).size ≤ _
          rw [List.size_toArray, List.length_reverse]
          have e : (cutS z (some ((k : Nat) : Int)) (some ((k + 2 : Nat) : Int))).length = (cutS z (some ((k : Nat) : Int)) (some ((k + 2 : Nat) : Int))).cps.toList.length := by simp [Str.length]
          omega
        omega
      · rw [e2, strLen_append]
        have : (revS (cutS z (some ((k : Nat) : Int)) (some ((k + 2 : Nat) : Int)))).length ≤ z.length := by
          show ((cutS z (some ((k : Nat) : Int)) (some ((k + 2 : Nat) : Int))).cps.toList.reverse.toArray).size ≤ _
          rw [List.size_toArray, List.length_reverse]
          have e : (cutS z (some ((k : Nat) : Int)) (some ((k + 2 : Nat) : Int))).length = (cutS z (some ((k : Nat) : Int)) (some ((k + 2 : Nat) : Int))).cps.toList.length := by simp [Str.length]
          omega
        omega
      · rw [e2]
        exact fin _ ((tb.swap hk).mono (by omega) (by omega))
    · refine ⟨_, rfl, _, rfl, _, rfl, z, rfl, zs, _, rfl, _, rfl, _, rfl, z, rfl, zs, _, _, rfl, rfl, by omega, ?_⟩
      exact fin _ ((tb.turn k).mono (by omega) (by omega))
end
end Eu
set_option Elab.async false
set_option linter.all false
set_option maxRecDepth 100000
set_option maxHeartbeats 4000000
set_option pp.maxSteps 800
set_option pp.deepTerms false
/-! The law's own reading; what is told of the program's. -/
namespace Gr
open PySem PySem.Spec
theorem whole_tot (ts : List Str) : wholeF 63 ts ≠ none := by
  unfold wholeF
  match ho : opF 63 0 0 ts with
  | none => exact absurd ho ((tot 63).1 0 0 ts (by decide) (by decide) (by decide))
  | some none => exact fun z => by cases z
  | some (some (e, r)) =>
    dsimp only
    split <;> exact fun z => by cases z
theorem read_ends (t : PyData) : readE 63 t ≠ none := by
  unfold readE
  split
  · exact fun z => by cases z
  · exact whole_tot _
end Gr
namespace Eu
open PySem PySem.Spec PyProof.Rows L2
open C8 (pe_gc pss_cut)
open Gr
abbrev s_l_read : Stmt := top 32
theorem sc_l_read : FnScope ["_law_text", "_law_tokens_here"] ["_law_text"] (defScope s_l_read) :=
  ⟨rfl, rfl, rfl, by decide +kernel, rfl, by decide +kernel, by decide +kernel⟩
abbrev s_l_told : Stmt := top 33
theorem sc_l_told : FnScope ["_law_thing", "e"] ["_law_thing"] (defScope s_l_told) :=
  ⟨rfl, rfl, rfl, by decide +kernel, rfl, by decide +kernel, by decide +kernel⟩
def spLRead (K : PySem.W.Frag) : Sp := fun vs H Q _ => ∃ (z : Str), vs = [.str z] ∧ z.length ≤ 5000 ∧ hc z ≤ 29 ∧ ∀ r, readE 63 (.str z) = some r → ∀ v H', Same H H' → Dp K H' v (orN (r.map Prod.fst)) → Q v H'
def spTold (K : PySem.W.Frag) : Sp := fun vs H Q _ => ∃ (x : V) (t : PyData), vs = [x] ∧ Th K H x t ∧ SmallT t ∧ ∀ r, readE 63 t = some r → ∀ v H', Same H H' → Dp K H' v (orN (r.map Prod.fst)) → Q v H'
theorem toks_few {z : Str} {ts : List Str} (hz : z.length ≤ 5000) (h : tokens z = some ts) : ts.length ≤ 5000 := by
  have e0 : ("" : Str).length = 0 := rfl
  have lim : Lim z.length z.cps.toList.length [] "" := ⟨⟨by rw [e0]; simp [Str.length], (fun x hx => by cases hx)⟩, (fun t ht => by cases ht), by rw [if_pos rfl]; simp [Str.length]⟩
  have := (toks_lim lim h).2
  omega
section
variable {P : Program} {w : World} {K : PySem.W.Frag} {mg : Str → Option Value} {base : Heap} {kw ka C CB CE CN : Addr}
theorem ok_told (B : Bl mg) (z_ValueError : mg "ValueError" = none) (e_BadRow : Exo P w K mg base "BadRow" CB "place") (XS_BadRow : XsC K CB) (n_BadRow_place : PySem.W.findIn K (.ref CB) "place" = some none) (xm : PySem.W.exmOne K (.ref CB) (.ref CB) = some true) (ve : PySem.W.kitOne K (.ref CB) (.type "ValueError") = some true) (g_BadElement : ∃ u, mg "BadElement" = some u ∧ RelV (.ref CE) u) (g_BadName : ∃ u, mg "BadName" = some u ∧ RelV (.ref CN) u) (kE : PySem.W.kitOne K (.ref CB) (.ref CE) = some false) (kN : PySem.W.kitOne K (.ref CB) (.ref CN) = some false)
    (c_read_expression : CalX P w K mg base 70 "read_expression" (spRead K C CB 63) []) (D : Df K mg "_law_told" s_l_told) : Cal P w K mg base 71 "_law_told" (spTold K) [] := by
  refine D.cal (k := 70) sc_l_told (fun _ _ _ _ _ _ us hl => match us, hl with | [_], _ => rfl) (fun vs H Q E h => ?_) (fun f cdv A out s H vs Q E hr h => ?_)
  · obtain ⟨x, t, rfl, _⟩ := h
    rfl
  · obtain ⟨x, t, rfl, hx, sm, q⟩ := h
    refine ⟨_, (pss_one (ps_try_as (i := 1) rfl rfl sc_l_told.nd rfl rfl ⟨rfl, by decide, .inl e_BadRow.hm⟩ noTakes (fun W pn xe tk _ => (pss_one (ps_ret (pe_cS c_read_expression hr (by decide) (fun σ => passAt tk σ) (by rfl) (pa_cons (pv 0) pa_nil)))))
(fun a oe cls d pn hz hf => (pss_cons (ps_if (PW.pt (pw_or (pt_val (pe_callB (call_isXT XS_BadRow hz hf) (by rfl) B.isinstance (by decide +kernel) (pa_cons (pv 1) (pa_cons (pe_tup (pa_cons (pe_gc (by rfl) g_BadElement) (pa_cons (pe_gc (by rfl) g_BadName) pa_nil))) pa_nil)))) (pw_or1 (pt_not (pt_val (pe_callB (call_isX XS_BadRow hz hf) (by rfl) B.isinstance (by decide +kernel) (pa_cons (pv 1) (pa_cons (pe_bltn (v := .ty "ValueError") (u := .type "ValueError") (by rfl) z_ValueError (by decide +kernel) rfl) pa_nil))))))))
(pss_one (ps_ret pe_str))
pss_nil)
(pss_one (ps_ret (pe_ifExp (pt_cmpR op_eq (pe_callB (call_reprS hr) (by rfl) B.repr (by decide +kernel) (pa_cons (pe_xf XS_BadRow.xf n_BadRow_place hz hf (pv 1)) pa_nil)) pe_str (nomark _)) pe_non pe_str))))))), ?_⟩
    refine ⟨_, rfl, x, t, rfl, hx, sm, read_ends t, fun hb dd H' s' hdd => ?_, fun e r he v H' s' hv => ?_⟩
    · refine ⟨true, xm, fun _ a ha => ?_, fun z => nomatch z⟩
      have es : (PyData.int 0).shown = "0" := by decide +kernel
      refine ⟨_, rfl, by show 2 ≤ sizeLine; decide, fun p1 n1 => ⟨rfl, .inr ⟨dd, _, rfl, same_new n1 _ _ hdd⟩, p1, _, _, false, rfl, upd_same, .cons (.own CE) (.cons (.own CN) .nil), kit_none2 kE kN, _, rfl, iteF ?_⟩⟩
      have s2 := same_new (o := .tup [.ref CE, .ref CN]) n1
      have hdd := s2 _ _ hdd
      refine ⟨_, rfl, rfl, .inr ⟨dd, _, rfl, hdd⟩, _, _, true, rfl, (fun u r => r), ve, _, rfl, iteF ?_⟩
      refine ⟨_, rfl, rfl, rfl, dd, _, _, rfl, hdd, rfl, _, .int 0, rfl, .int 0, by decide +kernel, by decide +kernel, by decide +kernel, rfl, _, rfl, ?_⟩
      refine iteD (by rw [es]) ?_
      exact q none hb _ _ (s'.trans s2) .non
    · exact q (some (e, r)) he v H' s' hv
theorem ok_lread (B : Bl mg) (c_l_tokens : Cal P w K mg base 1 "_law_tokens" spTokens []) (c_l_last : Cal P w K mg base 1 "_law_last" (spLLast K) []) (c_l_parsed : Cal P w K mg base 62 "_law_parsed" (spParsed K 30) []) (D : Df K mg "_law_read" s_l_read) : Cal P w K mg base 63 "_law_read" (spLRead K) [] := by
  refine D.cal (k := 62) sc_l_read (fun _ _ _ _ _ _ us hl => match us, hl with | [_], _ => rfl) (fun vs H Q E h => ?_) (fun f cdv A out s H vs Q E hr h => ?_)
  · obtain ⟨z, rfl, _⟩ := h
    rfl
  · obtain ⟨z, rfl, hz, hh, q⟩ := h
    refine ⟨_, (pss_cons (ps_if (PW.pt (pw_or (pt_not (pt_val (pe_callB call_isi (by rfl) B.isinstance (by decide +kernel) (pa_cons (pv 0) (pa_cons (pe_bltn (v := .ty "str") (u := .type "str") (by rfl) B.str (by decide +kernel) rfl) pa_nil))))) (pw_or1 (pt_cmpR op_gt (pe_op op_sub (pe_callB call_len_str (by rfl) B.len (by decide +kernel) (pa_cons (pv 0) pa_nil)) (pe_m1 PySem.F.slot_str_count PySem.F.type_str_count mt_count (pv 0) pe_str)) pe_int (nomark _)))))
(pss_one (ps_ret pe_non))
pss_nil)
(pss_cons (ps_set (i := 1) sc_l_read.nd rfl (Or.inl rfl) (pe_c c_l_tokens hr (by decide) (by rfl) (pa_cons (pv 0) pa_nil)))
(pss_one (ps_ret (pe_ifExp (PW.pt (pw_or (pt_cmpR op_isN (pv 1) pe_non (nomark _)) (pw_or1 (pt_cmpR op_isN (pe_c c_l_last hr (by decide) (by rfl) (pa_cons (pv 1) pa_nil)) pe_non (nomark _))))) pe_non (pe_c c_l_parsed hr (by decide) (by rfl) (pa_cons (pv 1) pa_nil))))))), ?_⟩
    have sl : 100002 ≤ sizeLine := by decide
    refine ⟨_, rfl, _, _, _, _, _, rfl, .ty _, tyx_dp (K := K) (H := H) (.str z), kit_ty (kit_str _), _, rfl, ?_⟩
    refine iteF ?_
    refine ⟨_, rfl, z, rfl, by omega, _, rfl, ⟨_, rfl⟩, z, " ", rfl, rfl, _, _, rfl, rfl, _, _, rfl, rfl, _, rfl, ?_⟩
    have et : toksOf (.str z) = if 200 < ((z.length : Nat) : Int) - Txt.count z " " then none else tokens z := rfl
    have bad : toksOf (.str z) = none → ∀ H', Same H H' → Q .non H' := fun e H' s' => q none (by unfold readE; rw [e]) _ _ s' .non
    by_cases h2 : 200 < ((z.length : Nat) : Int) - Txt.count z " "
    · rw [if_pos h2] at et
      refine iteD h2 ?_
      exact bad et _ (Same.refl _)
    rw [if_neg h2] at et
    refine iteDF h2 ?_
    refine ⟨_, rfl, z, rfl, by omega, fun hn H1 s1 => ?_, fun ts hts l H1 s1 nl hl => ?_⟩
    · refine ⟨_, rfl, rfl, _, rfl, iteD rfl (iteT ?_)⟩
      exact bad (et.trans hn) _ s1
    · have hT := tokens_T hts
      have hW := tokens_wt hts
      have tok := tokens_ok hz hts
      have hlen : ∀ t ∈ ts, t.length ≤ 100000 := fun t ht => (tok.sm t ht).len
      have few : ts.length ≤ 5000 := (toks_few hz hts)
      have hr1 : readE 63 (.str z) = some ((parsedF 30 ts).map fun e => (e, [])) := by
        unfold readE
        rw [et.trans hts]
        exact whole_parsed (by omega) (fun t ht => (hT t ht).ne)
      have q' := q _ hr1
      have eo : ((parsedF 30 ts).map fun e => (e, ([] : List Str))).map Prod.fst = parsedF 30 ts := by cases parsedF 30 ts <;> rfl
      rw [eo] at q'
      have T1 : Toks K H1 l ts 30 := ⟨.inl (.inl hl), by omega, fun t ht => ⟨hT t ht, hlen t ht⟩, by omega, by omega⟩
      refine ⟨_, rfl, rfl, _, rfl, iteDF (fun z => nomatch z) ?_⟩
      refine ⟨_, rfl, l, ts, rfl, T1.at_, by have := T1.few; omega, fun H4 s5 => ⟨rfl, _, rfl, ?_⟩⟩
      have s05 := s1.trans s5
      have T5 := T1.same s5
      cases hla : lastGo ts 0 0 (-1) 9 with
      | none =>
        rw [parsed_none hla] at q'
        refine iteD rfl ?_
        exact q' _ _ s05 .non
      | some a =>
        refine iteDF (fun z => nomatch z) ?_
        refine ⟨_, rfl, l, _, rfl, T5, fun v H5 s7 hv => ?_⟩
        exact q' _ _ (s05.trans s7) hv
end
end Eu
set_option Elab.async false
set_option linter.all false
set_option maxRecDepth 100000
set_option maxHeartbeats 4000000
set_option pp.maxSteps 500
set_option pp.deepTerms false
namespace Eu
open PySem PySem.Spec PyProof.Rows L2
open C8 (pe_gc pss_cut)
open Gr
theorem read_small {z : Str} {r : Option (PyData × List Str)} (h : readE 63 (.str z) = some r) (hz : z.length ≤ 700) (hh : hc z ≤ 29) : cost (orN (r.map Prod.fst)) ≤ 60000 ∧ fine (orN (r.map Prod.fst)) = true ∧ (orN (r.map Prod.fst)).depth ≤ 35 := by
  have triv : cost (orN none) ≤ 60000 ∧ fine (orN none) = true ∧ (orN none).depth ≤ 35 := ⟨by decide, rfl, by decide +kernel⟩
  cases ht : toksOf (.str z) with
  | none =>
    unfold readE at h
    rw [ht] at h
    cases h
    exact triv
  | some ts =>
    have hts : tokens z = some ts := by
      have et : (if 200 < ((z.length : Nat) : Int) - Txt.count z " " then none else tokens z) = some ts := ht
      split at et
      · cases et
      · exact et
    have hT := tokens_T hts
    have hW := tokens_wt hts
    have few : ts.length ≤ 700 := by
      have e0 : ("" : Str).length = 0 := rfl
      have lim : Lim z.length z.cps.toList.length [] "" := ⟨⟨by rw [e0]; simp [Str.length], (fun x hx => by cases hx)⟩, (fun t ht => by cases ht), by rw [if_pos rfl]; simp [Str.length]⟩
      have := (toks_lim lim hts).2
      omega
    unfold readE at h
    rw [ht] at h
    have h : wholeF 63 ts = some r := h
    rw [whole_parsed (n := 30) (by omega) (fun t ht => (hT t ht).ne)] at h
    cases h
    cases hp : parsedF 30 ts with
    | none => exact triv
    | some e =>
      obtain ⟨x, rfl, ho, hd, hs⟩ := parsed_xp hp
      obtain ⟨c1, f1⟩ := Xp.small ho
      have d1 := Xp.depth_le x
      show cost x.dat ≤ 60000 ∧ fine x.dat = true ∧ x.dat.depth ≤ 35
      exact ⟨by omega, f1, by omega⟩
theorem repr_parts {d : PyData} (c : cost d ≤ 60000 ∧ fine d = true ∧ d.depth ≤ 35) : d.showable = true ∧ d.depth ≤ 60 ∧ d.shown.length ≤ sizeLine := by
  refine ⟨fine_showable d c.2.1, by omega, ?_⟩
  have := shown_le d c.2.1
  have sl : 60000 ≤ sizeLine := by decide
  omega
/-- the values that are no expressions -/
def oddD : List PyData := [.none, .int 0, .bool true, .list [.str "a"], .tuple [.str "a"], .dict [], .str "", .str " ", .str "keys", .str "look", .str "self", .str "keys()", .str "look(a)", .str "look(a,b,c)", .str "keys a", .str "keys(a", .str "a b", .str "a,b", .str "a=b", .str "a|=b", .str "a||b", .str "(a", .str "a)", .str "()", .str "-a", .str "a-", .str "keys(a,b)", .str "abcde", .str "a\n", .str "A", .str "a & & b", .str "a + b", .str "look(,a)", .str "keysa", .str "selfs | a", .str "(a,b)", .str "a(b)"]
theorem odd_bad : ∀ d ∈ oddD, readE 63 d = some none := by
  have h : (oddD.all fun d => match readE 63 d with | some none => true | _ => false) = true := by decide +kernel
  intro d hd
  have := List.all_eq_true.mp h d hd
  match hr : readE 63 d with
  | some none => rfl
  | some (some e) => rw [hr] at this; cases this
  | none => rw [hr] at this; cases this
theorem odd_small : ∀ d ∈ oddD, SmallT d := by
  intro d hd
  unfold oddD at hd
  simp only [List.mem_cons, List.not_mem_nil, or_false] at hd
  have st : ∀ z : Str, z.length ≤ 100 → fine (.str z) = true → SmallT (.str z) := fun z h f => ⟨⟨by show 10 * z.length + 2 ≤ 100000; omega, f⟩, fun z' e => by cases e; omega⟩
  rcases hd with rfl | rfl | rfl | rfl | rfl | rfl | rfl | rfl | rfl | rfl | rfl | rfl | rfl | rfl | rfl | rfl | rfl | rfl | rfl | rfl | rfl | rfl | rfl | rfl | rfl | rfl | rfl | rfl | rfl | rfl | rfl | rfl | rfl | rfl | rfl | rfl | rfl
  · exact ⟨⟨by decide, rfl⟩, fun z e => by cases e⟩
  · exact ⟨⟨by decide, by decide +kernel⟩, fun z e => by cases e⟩
  · exact ⟨⟨by decide, rfl⟩, fun z e => by cases e⟩
  · exact ⟨⟨by decide +kernel, by decide +kernel⟩, fun z e => by cases e⟩
  · exact ⟨⟨by decide +kernel, by decide +kernel⟩, fun z e => by cases e⟩
  · exact ⟨⟨by decide +kernel, by decide +kernel⟩, fun z e => by cases e⟩
  all_goals exact st _ (by decide +kernel) (by decide +kernel)
theorem last_read : readE 63 (.str " ( (keys( look(a , b)))) ") = some (some (.tuple [.str "keys", .tuple [.str "look", .str "a", .str "b"]], [])) := by
  have ht : toksOf (.str " ( (keys( look(a , b)))) ") = some (["(", "(", "keys", "(", "look", "(", "a", ",", "b", ")", ")", ")", ")"] : List Str) := by decide +kernel
  have tk : tokens " ( (keys( look(a , b)))) " = some (["(", "(", "keys", "(", "look", "(", "a", ",", "b", ")", ")", ")", ")"] : List Str) := by decide +kernel
  have hT := tokens_T tk
  have na : nameS "a" = true := by decide +kernel
  have nb : nameS "b" = true := by decide +kernel
  have e1 := Ex.look ((Ex.nm na).down (j := 0) (by decide) (by decide)) ((Ex.nm nb).down (j := 0) (by decide) (by decide))
  have e2 := Ex.par ((Ex.par ((Ex.keys (e1.down (j := 0) (by decide) (by decide))).down (j := 0) (by decide) (by decide))).down (j := 0) (by decide) (by decide))
  have ex : Ex 0 (.tuple [.str "keys", .tuple [.str "look", .str "a", .str "b"]]) (["(", "(", "keys", "(", "look", "(", "a", ",", "b", ")", ")", ")", ")"] : List Str) 4 := e2.down (j := 0) (by decide) (by decide)
  have hp : parsedF 30 (["(", "(", "keys", "(", "look", "(", "a", ",", "b", ")", ")", ")", ")"] : List Str) = some (.tuple [.str "keys", .tuple [.str "look", .str "a", .str "b"]]) := parsed_of 30 ex (by decide) (by decide +kernel)
  unfold readE
  rw [ht]
  show wholeF 63 _ = _
  rw [whole_parsed (n := 30) (by decide +kernel) (fun t ht => (hT t ht).ne), hp]
  rfl
theorem last_shaped : SeqAt.shaped (.tuple [.str "keys", .tuple [.str "look", .str "a", .str "b"]]) = true := by decide +kernel
theorem last_eqv : PyData.eqv (.tuple [.str "keys", .tuple [.str "look", .str "a", .str "b"]]) (.tuple [.str "keys", .tuple [.str "look", .str "a", .str "b"]]) = true := by decide +kernel
inductive ThAll (K : PySem.W.Frag) (H : Hp) : List V → List PyData → Prop
  | nil : ThAll K H [] []
  | cons {x : V} {d : PyData} {xs : List V} {ds : List PyData} : Th K H x d → ThAll K H xs ds → ThAll K H (x :: xs) (d :: ds)
theorem ThAll.at {K : PySem.W.Frag} {H : Hp} : ∀ {xs : List V} {ds : List PyData}, ThAll K H xs ds → ∀ x ∈ xs, ∃ d ∈ ds, Th K H x d
  | _, _, .nil, x, hx => by cases hx
  | _, _, .cons h1 h2, x, hx => by
    rcases List.mem_cons.mp hx with rfl | hx
    · exact ⟨_, List.mem_cons_self .., h1⟩
    · obtain ⟨d, hd, h⟩ := ThAll.at h2 x hx
      exact ⟨d, List.mem_cons_of_mem _ hd, h⟩
end Eu
set_option Elab.async false
set_option linter.all false
set_option maxRecDepth 100000
set_option maxHeartbeats 4000000
set_option pp.maxSteps 500
set_option pp.deepTerms false
namespace Eu
open PySem PySem.Spec PyProof.Rows L2
open C8 (pe_gc pss_cut)
open Gr
abbrev s_law : Stmt := top 34
theorem sc_law : FnScope ["_law_script", "_law_at", "_law_bag_here", "_law_turn", "_law_thing", "_law_k", "_law_odd"] ["_law_script"] (defScope s_law) :=
  ⟨rfl, rfl, rfl, by decide +kernel, rfl, by decide +kernel, by decide +kernel⟩
section
variable {P : Program} {w : World} {K : PySem.W.Frag} {mg : Str → Option Value} {base : Heap} {kw ka C CB : Addr}
theorem body_law (B : Bl mg) (c_l_bag : Cal P w K mg base 1 "_law_bag" (spBag K) []) (c_l_take : Cal P w K mg base 1 "_law_take" spTake []) (c_l_drawn : Cal P w K mg base 6 "_law_drawn" (spDrawn K 5) []) (c_l_written : Cal P w K mg base 6 "_law_written" (spWrit K 5) []) (c_l_bent : Cal P w K mg base 2 "_law_bent" spBent [])
    (c_l_told : Cal P w K mg base 71 "_law_told" (spTold K) []) (c_l_read : Cal P w K mg base 63 "_law_read" (spLRead K) [])
    (f : Addr) (cdv : Value) (A : Around) (out : List Env) (s : Shared) (H : Hp) (vs : List V) (Q : VK) (E : XK) (hr : Rm 72 (A.deeper (envOfC "law" (defScope s_law) s.heap.objs.size f cdv))) (h : spLaw K vs H Q E) :
    ∃ t, PSs (cxOf CX0 P w K mg base ["_law_script", "_law_at", "_law_bag_here", "_law_turn", "_law_thing", "_law_k", "_law_odd"] "law" (defScope s_law) f cdv A out s H E).nox (defBody s_law) t ∧
        t { nx := fun _ H' => Q .non H', rt := Q } (start ["_law_script", "_law_at", "_law_bag_here", "_law_turn", "_law_thing", "_law_k", "_law_odd"] vs) H := by
  obtain ⟨a, ns, rfl, hS, hlen, q⟩ := h
  refine ⟨_, (pss_cons (ps_for PassesOwn.never (by rfl) (pi_range1 (by rfl) B.range (pa_cons (pe_callB (call_max2 rfl) (by rfl) B.max (by decide +kernel) (pa_cons pe_int (pa_cons (pe_callB (call_min2 rfl) (by rfl) B.min (by decide +kernel) (pa_cons pe_int (pa_cons (pe_callB call_len_seq (by rfl) B.len (by decide +kernel) (pa_cons (pv 0) pa_nil)) pa_nil))) pa_nil))) pa_nil)) (pg_name (i := 1) sc_law.nd rfl (Or.inl rfl))
(pss_cons (ps_set (i := 2) sc_law.nd rfl (Or.inl rfl) (pe_c c_l_bag hr (by decide) (by rfl) (pa_cons (pv 0) (pa_cons (pv 1) pa_nil))))
(pss_one (ps_for PassesOwn.never (by rfl) (pi_range1 (by rfl) B.range (pa_cons pe_int pa_nil)) (pg_name (i := 3) sc_law.nd rfl (Or.inl rfl))
(pss_cons (ps_set (i := 4) sc_law.nd rfl (Or.inl rfl) (pe_c c_l_written hr (by decide) (by rfl) (pa_cons (pe_c c_l_drawn hr (by decide) (by rfl) (pa_cons (pv 2) (pa_cons (pe_op op_add pe_int (pe_c c_l_take hr (by decide) (by rfl) (pa_cons (pv 2) (pa_cons pe_int pa_nil)))) pa_nil))) pa_nil)))
(pss_cons (ps_for PassesOwn.never (by rfl) (pi_range1 (by rfl) B.range (pa_cons (pe_c c_l_take hr (by decide) (by rfl) (pa_cons (pv 2) (pa_cons pe_int pa_nil))) pa_nil)) (pg_name (i := 5) sc_law.nd rfl (Or.inl rfl))
(pss_one (ps_set (i := 4) sc_law.nd rfl (Or.inl rfl) (pe_c c_l_bent hr (by decide) (by rfl) (pa_cons (pv 2) (pa_cons (pv 4) pa_nil))))))
(pss_one (ps_if (pt_cmpR op_ne (pe_callB (call_repr hr) (by rfl) B.repr (by decide +kernel) (pa_cons (pe_c c_l_told hr (by decide) (by rfl) (pa_cons (pv 4) pa_nil)) pa_nil)) (pe_callB (call_repr hr) (by rfl) B.repr (by decide +kernel) (pa_cons (pe_c c_l_read hr (by decide) (by rfl) (pa_cons (pv 4) pa_nil)) pa_nil)) (nomark _))
(pss_one (ps_ret pe_bl))
pss_nil))))))))
(pss_cons (ps_set (i := 6) sc_law.nd rfl (Or.inl rfl) (pe_lst (pa_cons pe_non (pa_cons pe_int (pa_cons pe_bl (pa_cons (pe_lst (pa_cons pe_str pa_nil)) (pa_cons (pe_tup (pa_cons pe_str pa_nil)) (pa_cons pe_dnewK (pa_cons pe_str (pa_cons pe_str (pa_cons pe_str (pa_cons pe_str (pa_cons pe_str (pa_cons pe_str (pa_cons pe_str (pa_cons pe_str pa_nil))))))))))))))))
(pss_cons (ps_set (i := 6) sc_law.nd rfl (Or.inl rfl) (pe_op op_cat (pv 6) (pe_lst (pa_cons pe_str (pa_cons pe_str (pa_cons pe_str (pa_cons pe_str (pa_cons pe_str (pa_cons pe_str (pa_cons pe_str (pa_cons pe_str (pa_cons pe_str (pa_cons pe_str pa_nil)))))))))))))
(pss_cons (ps_set (i := 6) sc_law.nd rfl (Or.inl rfl) (pe_op op_cat (pv 6) (pe_lst (pa_cons pe_str (pa_cons pe_str (pa_cons pe_str pa_nil))))))
(pss_cons (ps_set (i := 6) sc_law.nd rfl (Or.inl rfl) (pe_op op_cat (pv 6) (pe_lst (pa_cons pe_str (pa_cons pe_str (pa_cons pe_str (pa_cons pe_str (pa_cons pe_str (pa_cons pe_str (pa_cons pe_str (pa_cons pe_str (pa_cons pe_str (pa_cons pe_str pa_nil)))))))))))))
(pss_cons (ps_if (pt_val (pe_callB (cr_any rfl) (by rfl) B.any (by decide +kernel) (pa_cons (pe_lc (own := [("_law_thing", 4)]) (by rfl) sc_law.nd (pi_list (pv 6)) (blkOk_by (own := [("_law_thing", 4)]) (N := ["_law_script", "_law_at", "_law_bag_here", "_law_turn", "_law_thing", "_law_k", "_law_odd"]) (sc := defScope s_law) (by decide +kernel)) (fun _ _ _ _ _ => (pg_name (i := 4) sc_law.nd rfl (Or.inl rfl))) (fun _ _ _ _ _ => pts_nil) (fun _ _ _ _ _ => (pe_cmpR op_notN (pe_c c_l_told hr (by decide) (by rfl) (pa_cons (pv 4) pa_nil)) pe_non (nomark _)))) pa_nil)))
(pss_one (ps_ret pe_bl))
pss_nil)
(pss_one (ps_ret (pe_cmpR (op_eqD hr.rm.units) (pe_c c_l_told hr (by decide) (by rfl) (pa_cons pe_str pa_nil)) (pe_tup (pa_cons pe_str (pa_cons (pe_tup (pa_cons pe_str (pa_cons pe_str (pa_cons pe_str pa_nil)))) pa_nil))) (nomark _)))))))))), ?_⟩
  have sl : 100002 ≤ sizeLine := by decide
  refine ⟨_, rfl, a, _, rfl, .inl hS, 6, _, rfl, 2, _, rfl, _, rfl, ?_⟩
  obtain ⟨n, hn6, en⟩ : ∃ n : Nat, n ≤ 6 ∧ (if (if (((ns.map V.int).length : Nat) : Int) < 6 then (((ns.map V.int).length : Nat) : Int) else 6) > 2 then (if (((ns.map V.int).length : Nat) : Int) < 6 then (((ns.map V.int).length : Nat) : Int) else 6) else 2) = (n : Int) := by
    generalize (ns.map V.int).length = k
    by_cases h1 : (k : Int) < 6
    · rw [if_pos h1]
      by_cases h2 : (k : Int) > 2
      · rw [if_pos h2]; exact ⟨k, by omega, rfl⟩
      · rw [if_neg h2]; exact ⟨2, by omega, rfl⟩
    · rw [if_neg h1]
      exact ⟨6, by omega, rfl⟩
  rw [en]
  refine ⟨by omega, by omega, for_over over_range (fun i σ H' => ∃ x1 x2 x3 x4 x5, σ = [some (.ref a), x1, x2, x3, x4, x5, none] ∧ Same H H') ⟨none, none, none, none, none, rfl, Same.refl _⟩ (fun _ _ _ _ _ => trivial) ?_ ?_⟩
  · rintro i x σ H1 v H1' hx ⟨x1, x2, x3, x4, x5, rfl, s1⟩ ⟨rfl, rfl⟩
    obtain ⟨hi, ex⟩ := nums_at hx
    rw [show (((n : Nat) : Int)).toNat = n from Int.toNat_natCast n] at hi
    refine ⟨_, rfl, _, rfl, a, ns, x, rfl, s1.seq hS, by omega, by omega, fun b H2 s2 nb bag => ?_⟩
    have nbH : H b = none := s1.free nb
    have s02 : Same H H2 := s1.trans s2
    refine ⟨10, rfl, by decide, by decide, for_over over_range (fun j σ H' => ∃ y3 y4 y5, σ = [some (.ref a), some (.int x), some (.ref b), y3, y4, y5, none] ∧ But b H2 H' ∧ Bag H' b (2000 * j)) ⟨_, _, _, rfl, But.refl, bag.mono (Nat.zero_le _)⟩ (fun _ _ _ _ _ => trivial) ?_ ?_⟩
    · rintro j y σ H3 v H3' hy ⟨y3, y4, y5, rfl, b3, bag3⟩ ⟨rfl, rfl⟩
      obtain ⟨hj, ey⟩ := nums_at hy
      have hj10 : j < 10 := hj
      refine ⟨_, rfl, _, rfl, b, 3, 2000 * j, rfl, by decide, by decide, bag3, by omega, fun d3 H7 d30 d31 b7 bag7 => ?_⟩
      refine ⟨_, _, rfl, rfl, ?_⟩
      have p4 : ∀ k : Nat, k ≤ 3 → 2 ^ k ≤ 8 := fun k hk => Nat.pow_le_pow_right (by decide) hk
      have pd := p4 (d3.toNat + 1) (by omega)
      have ed : 1 + d3 = ((d3.toNat + 1 : Nat) : Int) := by omega
      refine ⟨b, d3.toNat + 1, _, congrArg (fun t => [V.ref b, V.int t]) ed, by omega, by omega, bag7, by omega, fun v e H8 b8 bag8 hv ok hd => ?_⟩
      have hsz : e.size ≤ 15 := by
        have h1 := Xp.size_le e
        have h2 : 2 ^ (e.deep + 1) ≤ 2 ^ 4 := Nat.pow_le_pow_right (by decide) (by omega)
        omega
      have hin : e.inner ≤ 7 := by
        have h1 := Xp.inner_le e
        have h2 : 2 ^ e.deep ≤ 2 ^ 3 := Nat.pow_le_pow_right (by decide) (by omega)
        omega
      obtain ⟨tw, _⟩ := Xp.wr_TB ok
      have tz2 : TB e.wr 180 14 := tw.mono (by omega) (by omega)
      refine ⟨v, e, rfl, hv, ok, by omega, by omega, fun H9 s9 => ?_⟩
      generalize e.wr = z2 at tz2
      have bag9 := bag8.same s9
      have b29 := b3.trans (b7.trans (b8.trans (But.of_same s9)))
      refine ⟨_, rfl, b, 4, _, rfl, by decide, by decide, bag9, by omega, fun d4 H11 d40 d41 b11 bag11 => ?_⟩
      have b211 := b29.trans b11
      have pow_pos : 1 ≤ 2 ^ (d3.toNat + 1) := Nat.one_le_two_pow
      have bag11 : Bag H11 b (2000 * j + 100) := bag11.mono (by omega)
      obtain ⟨t, ht2, ett⟩ : ∃ t : Nat, t ≤ 3 ∧ d4 = (t : Int) := ⟨d4.toNat, by omega, by omega⟩
      refine ⟨((t : Nat) : Int), congrArg (fun u => [V.int u]) ett, by omega, by omega, for_over over_range (fun i σ H' => ∃ z y8, σ = [some (.ref a), some (.int x), some (.ref b), some (.int y), some (.str z), y8, none] ∧ But b H2 H' ∧ Bag H' b (2000 * j + 100 + 3 * i) ∧ TB z (200 + i) (15 + i)) ⟨z2, _, rfl, b211, bag11, tz2.mono (by omega) (by omega)⟩ (fun _ _ _ _ _ => trivial) ?_ ?_⟩
      · rintro i0 x0 σ Hx v0 Hx' hx0 ⟨z, y8, rfl, bx, bgx, tz⟩ ⟨rfl, rfl⟩
        have hi0 := (nums_at hx0).1
        rw [Int.toNat_natCast] at hi0
        refine ⟨_, rfl, _, rfl, b, z, _, _, _, rfl, tz, by omega, bgx, by omega, fun z' H' b' bg' tz' => ?_⟩
        exact ⟨z', _, rfl, bx.trans b', bg'.mono (by omega), tz'.mono (by omega) (by omega)⟩
      · rintro σ H12 ⟨z, y8', rfl, b12, bag12, tz⟩
        rw [nums_len, Int.toNat_natCast] at bag12 tz
        have zl := tz.len
        have zh := tz.hv
        have sm : SmallT (.str z) := by
          refine ⟨⟨by show 10 * z.length + 2 ≤ 100000; omega, ?_⟩, fun z' e' => by cases e'; omega⟩
          show (z.cps.toList.all fun c => decide (c < 1114112)) = true
          rw [List.all_eq_true]
          intro c hc
          exact decide_eq_true (by have := tz.low c hc; omega)
        obtain ⟨r, hrow⟩ : ∃ r, readE 63 (.str z) = some r := by
          match h : readE 63 (.str z) with
          | none => exact absurd h (read_ends _)
          | some r => exact ⟨r, rfl⟩
        have rs := read_small hrow (by omega) (by omega)
        refine ⟨_, rfl, .str z, .str z, rfl, .inl (.str z), sm, fun r' hr' v1 H13 s13 hv1 => ?_⟩
        have er : r' = r := Option.some.inj (hr'.symm.trans hrow)
        subst er
        obtain ⟨g1, g2, g3⟩ := repr_parts rs
        refine ⟨_, _, rfl, hv1, g1, g2, g3, ?_⟩
        refine ⟨_, rfl, z, rfl, by omega, by omega, fun r2 hr2 v2 H14 s14 hv2 => ?_⟩
        have er : r2 = r' := Option.some.inj (hr2.symm.trans hrow)
        subst er
        refine ⟨_, _, rfl, hv2, g1, g2, g3, ?_⟩
        refine ⟨rfl, _, rfl, ?_⟩
        refine iteNS rfl ?_
        exact ⟨_, _, _, rfl, b12.trans (But.of_same (s13.trans s14)), (bag12.same (s13.trans s14)).mono (by omega)⟩
    · rintro σ H3 ⟨y3, y4, y5, rfl, b3, bag3⟩
      exact ⟨_, _, _, _, _, rfl, b3.back s02 nbH⟩
  · rintro σ H1 ⟨x1, x2, x3, x4, x5, rfl, s1⟩
    refine ⟨by show 1 ≤ sizeLine; decide, fun p1 n1 => ⟨by show 1 ≤ sizeLine; decide, fun p2 n2 => fun p3 n3 => ⟨by show 14 ≤ sizeLine; decide, fun q1 m1 => ?_⟩⟩⟩
    refine ⟨_, rfl, by show 10 ≤ sizeLine; decide, fun q2 m2 => ⟨q1, q2, _, _, rfl, rfl, same_new m2 _ _ upd_same, upd_same, by show 14 + 10 ≤ sizeLine; decide, fun q3 m3 => ?_⟩⟩
    refine ⟨_, rfl, by show 3 ≤ sizeLine; decide, fun q4 m4 => ⟨q3, q4, _, _, rfl, rfl, same_new m4 _ _ upd_same, upd_same, by show 24 + 3 ≤ sizeLine; decide, fun q5 m5 => ?_⟩⟩
    refine ⟨_, rfl, by show 10 ≤ sizeLine; decide, fun q6 m6 => ⟨q5, q6, _, _, rfl, rfl, same_new m6 _ _ upd_same, upd_same, by show 27 + 10 ≤ sizeLine; decide, fun q7 m7 => ?_⟩⟩
    have hp1 := upd_same (H := H1) (a := p1) (o := .lst [.str "a"])
    generalize upd H1 p1 (.lst [.str "a"]) = H2 at n2 n3 m1 m2 m3 m4 m5 m6 m7 hp1
    have hp2 := upd_same (H := H2) (a := p2) (o := .tup [.str "a"])
    have hp1 := same_new (o := .tup [.str "a"]) n2 _ _ hp1
    generalize upd H2 p2 (.tup [.str "a"]) = H3 at n3 m1 m2 m3 m4 m5 m6 m7 hp1 hp2
    have hp3 := upd_same (H := H3) (a := p3) (o := .dK [])
    have hp1 := same_new (o := .dK []) n3 _ _ hp1
    have hp2 := same_new (o := .dK []) n3 _ _ hp2
    generalize upd H3 p3 (.dK []) = H4 at m1 m2 m3 m4 m5 m6 m7 hp1 hp2 hp3
    have w1 := same_new (o := .lst ([.non, .int 0, .bl true, .ref p1, .ref p2, .ref p3, .str "", .str " ", .str "keys", .str "look", .str "self", .str "keys()", .str "look(a)", .str "look(a,b,c)"])) m1 _ _ hp1
    have w2 := same_new (o := .lst ([.non, .int 0, .bl true, .ref p1, .ref p2, .ref p3, .str "", .str " ", .str "keys", .str "look", .str "self", .str "keys()", .str "look(a)", .str "look(a,b,c)"])) m1 _ _ hp2
    have w3 := same_new (o := .lst ([.non, .int 0, .bl true, .ref p1, .ref p2, .ref p3, .str "", .str " ", .str "keys", .str "look", .str "self", .str "keys()", .str "look(a)", .str "look(a,b,c)"])) m1 _ _ hp3
    generalize upd H4 q1 (.lst ([.non, .int 0, .bl true, .ref p1, .ref p2, .ref p3, .str "", .str " ", .str "keys", .str "look", .str "self", .str "keys()", .str "look(a)", .str "look(a,b,c)"])) = H5 at m2 m3 m4 m5 m6 m7 w1 w2 w3
    clear hp1 hp2 hp3
    have hp1 := w1
    have hp2 := w2
    have hp3 := w3
    clear w1 w2 w3
    have w1 := same_new (o := .lst ([.str "keys a", .str "keys(a", .str "a b", .str "a,b", .str "a=b", .str "a|=b", .str "a||b", .str "(a", .str "a)", .str "()"])) m2 _ _ hp1
    have w2 := same_new (o := .lst ([.str "keys a", .str "keys(a", .str "a b", .str "a,b", .str "a=b", .str "a|=b", .str "a||b", .str "(a", .str "a)", .str "()"])) m2 _ _ hp2
    have w3 := same_new (o := .lst ([.str "keys a", .str "keys(a", .str "a b", .str "a,b", .str "a=b", .str "a|=b", .str "a||b", .str "(a", .str "a)", .str "()"])) m2 _ _ hp3
    generalize upd H5 q2 (.lst ([.str "keys a", .str "keys(a", .str "a b", .str "a,b", .str "a=b", .str "a|=b", .str "a||b", .str "(a", .str "a)", .str "()"])) = H6 at m3 m4 m5 m6 m7 w1 w2 w3
    clear hp1 hp2 hp3
    have hp1 := w1
    have hp2 := w2
    have hp3 := w3
    clear w1 w2 w3
    have w1 := same_new (o := .lst ([.non, .int 0, .bl true, .ref p1, .ref p2, .ref p3, .str "", .str " ", .str "keys", .str "look", .str "self", .str "keys()", .str "look(a)", .str "look(a,b,c)"] ++ [.str "keys a", .str "keys(a", .str "a b", .str "a,b", .str "a=b", .str "a|=b", .str "a||b", .str "(a", .str "a)", .str "()"])) m3 _ _ hp1
    have w2 := same_new (o := .lst ([.non, .int 0, .bl true, .ref p1, .ref p2, .ref p3, .str "", .str " ", .str "keys", .str "look", .str "self", .str "keys()", .str "look(a)", .str "look(a,b,c)"] ++ [.str "keys a", .str "keys(a", .str "a b", .str "a,b", .str "a=b", .str "a|=b", .str "a||b", .str "(a", .str "a)", .str "()"])) m3 _ _ hp2
    have w3 := same_new (o := .lst ([.non, .int 0, .bl true, .ref p1, .ref p2, .ref p3, .str "", .str " ", .str "keys", .str "look", .str "self", .str "keys()", .str "look(a)", .str "look(a,b,c)"] ++ [.str "keys a", .str "keys(a", .str "a b", .str "a,b", .str "a=b", .str "a|=b", .str "a||b", .str "(a", .str "a)", .str "()"])) m3 _ _ hp3
    generalize upd H6 q3 (.lst ([.non, .int 0, .bl true, .ref p1, .ref p2, .ref p3, .str "", .str " ", .str "keys", .str "look", .str "self", .str "keys()", .str "look(a)", .str "look(a,b,c)"] ++ [.str "keys a", .str "keys(a", .str "a b", .str "a,b", .str "a=b", .str "a|=b", .str "a||b", .str "(a", .str "a)", .str "()"])) = H7 at m4 m5 m6 m7 w1 w2 w3
    clear hp1 hp2 hp3
    have hp1 := w1
    have hp2 := w2
    have hp3 := w3
    clear w1 w2 w3
    have w1 := same_new (o := .lst ([.str "-a", .str "a-", .str "keys(a,b)"])) m4 _ _ hp1
    have w2 := same_new (o := .lst ([.str "-a", .str "a-", .str "keys(a,b)"])) m4 _ _ hp2
    have w3 := same_new (o := .lst ([.str "-a", .str "a-", .str "keys(a,b)"])) m4 _ _ hp3
    generalize upd H7 q4 (.lst ([.str "-a", .str "a-", .str "keys(a,b)"])) = H8 at m5 m6 m7 w1 w2 w3
    clear hp1 hp2 hp3
    have hp1 := w1
    have hp2 := w2
    have hp3 := w3
    clear w1 w2 w3
    have w1 := same_new (o := .lst ([.non, .int 0, .bl true, .ref p1, .ref p2, .ref p3, .str "", .str " ", .str "keys", .str "look", .str "self", .str "keys()", .str "look(a)", .str "look(a,b,c)"] ++ [.str "keys a", .str "keys(a", .str "a b", .str "a,b", .str "a=b", .str "a|=b", .str "a||b", .str "(a", .str "a)", .str "()"] ++ [.str "-a", .str "a-", .str "keys(a,b)"])) m5 _ _ hp1
    have w2 := same_new (o := .lst ([.non, .int 0, .bl true, .ref p1, .ref p2, .ref p3, .str "", .str " ", .str "keys", .str "look", .str "self", .str "keys()", .str "look(a)", .str "look(a,b,c)"] ++ [.str "keys a", .str "keys(a", .str "a b", .str "a,b", .str "a=b", .str "a|=b", .str "a||b", .str "(a", .str "a)", .str "()"] ++ [.str "-a", .str "a-", .str "keys(a,b)"])) m5 _ _ hp2
    have w3 := same_new (o := .lst ([.non, .int 0, .bl true, .ref p1, .ref p2, .ref p3, .str "", .str " ", .str "keys", .str "look", .str "self", .str "keys()", .str "look(a)", .str "look(a,b,c)"] ++ [.str "keys a", .str "keys(a", .str "a b", .str "a,b", .str "a=b", .str "a|=b", .str "a||b", .str "(a", .str "a)", .str "()"] ++ [.str "-a", .str "a-", .str "keys(a,b)"])) m5 _ _ hp3
    generalize upd H8 q5 (.lst ([.non, .int 0, .bl true, .ref p1, .ref p2, .ref p3, .str "", .str " ", .str "keys", .str "look", .str "self", .str "keys()", .str "look(a)", .str "look(a,b,c)"] ++ [.str "keys a", .str "keys(a", .str "a b", .str "a,b", .str "a=b", .str "a|=b", .str "a||b", .str "(a", .str "a)", .str "()"] ++ [.str "-a", .str "a-", .str "keys(a,b)"])) = H9 at m6 m7 w1 w2 w3
    clear hp1 hp2 hp3
    have hp1 := w1
    have hp2 := w2
    have hp3 := w3
    clear w1 w2 w3
    have w1 := same_new (o := .lst ([.str "abcde", .str "a\n", .str "A", .str "a & & b", .str "a + b", .str "look(,a)", .str "keysa", .str "selfs | a", .str "(a,b)", .str "a(b)"])) m6 _ _ hp1
    have w2 := same_new (o := .lst ([.str "abcde", .str "a\n", .str "A", .str "a & & b", .str "a + b", .str "look(,a)", .str "keysa", .str "selfs | a", .str "(a,b)", .str "a(b)"])) m6 _ _ hp2
    have w3 := same_new (o := .lst ([.str "abcde", .str "a\n", .str "A", .str "a & & b", .str "a + b", .str "look(,a)", .str "keysa", .str "selfs | a", .str "(a,b)", .str "a(b)"])) m6 _ _ hp3
    generalize upd H9 q6 (.lst ([.str "abcde", .str "a\n", .str "A", .str "a & & b", .str "a + b", .str "look(,a)", .str "keysa", .str "selfs | a", .str "(a,b)", .str "a(b)"])) = H10 at m7 w1 w2 w3
    clear hp1 hp2 hp3
    have hp1 := w1
    have hp2 := w2
    have hp3 := w3
    clear w1 w2 w3
    have w1 := same_new (o := .lst ([.non, .int 0, .bl true, .ref p1, .ref p2, .ref p3, .str "", .str " ", .str "keys", .str "look", .str "self", .str "keys()", .str "look(a)", .str "look(a,b,c)"] ++ [.str "keys a", .str "keys(a", .str "a b", .str "a,b", .str "a=b", .str "a|=b", .str "a||b", .str "(a", .str "a)", .str "()"] ++ [.str "-a", .str "a-", .str "keys(a,b)"] ++ [.str "abcde", .str "a\n", .str "A", .str "a & & b", .str "a + b", .str "look(,a)", .str "keysa", .str "selfs | a", .str "(a,b)", .str "a(b)"])) m7 _ _ hp1
    have w2 := same_new (o := .lst ([.non, .int 0, .bl true, .ref p1, .ref p2, .ref p3, .str "", .str " ", .str "keys", .str "look", .str "self", .str "keys()", .str "look(a)", .str "look(a,b,c)"] ++ [.str "keys a", .str "keys(a", .str "a b", .str "a,b", .str "a=b", .str "a|=b", .str "a||b", .str "(a", .str "a)", .str "()"] ++ [.str "-a", .str "a-", .str "keys(a,b)"] ++ [.str "abcde", .str "a\n", .str "A", .str "a & & b", .str "a + b", .str "look(,a)", .str "keysa", .str "selfs | a", .str "(a,b)", .str "a(b)"])) m7 _ _ hp2
    have w3 := same_new (o := .lst ([.non, .int 0, .bl true, .ref p1, .ref p2, .ref p3, .str "", .str " ", .str "keys", .str "look", .str "self", .str "keys()", .str "look(a)", .str "look(a,b,c)"] ++ [.str "keys a", .str "keys(a", .str "a b", .str "a,b", .str "a=b", .str "a|=b", .str "a||b", .str "(a", .str "a)", .str "()"] ++ [.str "-a", .str "a-", .str "keys(a,b)"] ++ [.str "abcde", .str "a\n", .str "A", .str "a & & b", .str "a + b", .str "look(,a)", .str "keysa", .str "selfs | a", .str "(a,b)", .str "a(b)"])) m7 _ _ hp3
    have hp7 := upd_same (H := H10) (a := q7) (o := .lst ([.non, .int 0, .bl true, .ref p1, .ref p2, .ref p3, .str "", .str " ", .str "keys", .str "look", .str "self", .str "keys()", .str "look(a)", .str "look(a,b,c)"] ++ [.str "keys a", .str "keys(a", .str "a b", .str "a,b", .str "a=b", .str "a|=b", .str "a||b", .str "(a", .str "a)", .str "()"] ++ [.str "-a", .str "a-", .str "keys(a,b)"] ++ [.str "abcde", .str "a\n", .str "A", .str "a & & b", .str "a + b", .str "look(,a)", .str "keysa", .str "selfs | a", .str "(a,b)", .str "a(b)"]))
    generalize upd H10 q7 (.lst ([.non, .int 0, .bl true, .ref p1, .ref p2, .ref p3, .str "", .str " ", .str "keys", .str "look", .str "self", .str "keys()", .str "look(a)", .str "look(a,b,c)"] ++ [.str "keys a", .str "keys(a", .str "a b", .str "a,b", .str "a=b", .str "a|=b", .str "a||b", .str "(a", .str "a)", .str "()"] ++ [.str "-a", .str "a-", .str "keys(a,b)"] ++ [.str "abcde", .str "a\n", .str "A", .str "a & & b", .str "a + b", .str "look(,a)", .str "keysa", .str "selfs | a", .str "(a,b)", .str "a(b)"])) = H11 at  w1 w2 w3 hp7
    clear hp1 hp2 hp3
    have hp1 := w1
    have hp2 := w2
    have hp3 := w3
    clear w1 w2 w3
    have da : ∀ x ∈ ([.non, .int 0, .bl true, .ref p1, .ref p2, .ref p3, .str "", .str " ", .str "keys", .str "look", .str "self", .str "keys()", .str "look(a)", .str "look(a,b,c)"] ++ [.str "keys a", .str "keys(a", .str "a b", .str "a,b", .str "a=b", .str "a|=b", .str "a||b", .str "(a", .str "a)", .str "()"] ++ [.str "-a", .str "a-", .str "keys(a,b)"] ++ [.str "abcde", .str "a\n", .str "A", .str "a & & b", .str "a + b", .str "look(,a)", .str "keysa", .str "selfs | a", .str "(a,b)", .str "a(b)"] : List V), ∃ d ∈ oddD, Th K H11 x d := by
      intro x hx
      have all : ThAll K H11 ([.non, .int 0, .bl true, .ref p1, .ref p2, .ref p3, .str "", .str " ", .str "keys", .str "look", .str "self", .str "keys()", .str "look(a)", .str "look(a,b,c)"] ++ [.str "keys a", .str "keys(a", .str "a b", .str "a,b", .str "a=b", .str "a|=b", .str "a||b", .str "(a", .str "a)", .str "()"] ++ [.str "-a", .str "a-", .str "keys(a,b)"] ++ [.str "abcde", .str "a\n", .str "A", .str "a & & b", .str "a + b", .str "look(,a)", .str "keysa", .str "selfs | a", .str "(a,b)", .str "a(b)"]) oddD := by
        refine .cons (.inl .non) (.cons (.inl (.int 0)) (.cons (.inl (.bl true)) (.cons (.inl (.lst (.inl (.inl hp1)) (.cons (.str _) .nil))) (.cons (.inl (.tup (.inl (.inl hp2)) (.cons (.str _) .nil))) (.cons (.inr ⟨p3, _, _, rfl, hp3, rfl⟩) ?_)))))
        exact .cons (.inl (.str _)) (.cons (.inl (.str _)) (.cons (.inl (.str _)) (.cons (.inl (.str _)) (.cons (.inl (.str _)) (.cons (.inl (.str _)) (.cons (.inl (.str _)) (.cons (.inl (.str _)) (.cons (.inl (.str _)) (.cons (.inl (.str _)) (.cons (.inl (.str _)) (.cons (.inl (.str _)) (.cons (.inl (.str _)) (.cons (.inl (.str _)) (.cons (.inl (.str _)) (.cons (.inl (.str _)) (.cons (.inl (.str _)) (.cons (.inl (.str _)) (.cons (.inl (.str _)) (.cons (.inl (.str _)) (.cons (.inl (.str _)) (.cons (.inl (.str _)) (.cons (.inl (.str _)) (.cons (.inl (.str _)) (.cons (.inl (.str _)) (.cons (.inl (.str _)) (.cons (.inl (.str _)) (.cons (.inl (.str _)) (.cons (.inl (.str _)) (.cons (.inl (.str _)) (.cons (.inl (.str _)) (.nil)))))))))))))))))))))))))))))))
      exact all.at x hx
    generalize hxs : ([.non, .int 0, .bl true, .ref p1, .ref p2, .ref p3, .str "", .str " ", .str "keys", .str "look", .str "self", .str "keys()", .str "look(a)", .str "look(a,b,c)"] ++ [.str "keys a", .str "keys(a", .str "a b", .str "a,b", .str "a=b", .str "a|=b", .str "a||b", .str "(a", .str "a)", .str "()"] ++ [.str "-a", .str "a-", .str "keys(a,b)"] ++ [.str "abcde", .str "a\n", .str "A", .str "a & & b", .str "a + b", .str "look(,a)", .str "keysa", .str "selfs | a", .str "(a,b)", .str "a(b)"] : List V) = xs at hp7 da
    have hxl : xs.length = 37 := by rw [← hxs]; rfl
    refine ⟨_, rfl, q7, rfl, ⟨_, .inl (.inl hp7)⟩, fun Dn nD => ?_⟩
    refine lc_pure over_list (fun x => some (.bl false)) nD (by rw [hxl]; decide) (fun H' s' => .inl (.inl (s' _ _ hp7))) ?_ ?_
    · rintro x hx H9 v H9' Nx s9 ⟨rfl, rfl⟩ k
      obtain ⟨d, hd, hdp⟩ := da v hx
      refine ⟨rfl, lc_yes ?_⟩
      refine ⟨_, rfl, v, d, rfl, hdp.same s9, odd_small d hd, fun r hr v' H10 s10 hv' => ⟨rfl, ?_⟩⟩
      rw [odd_bad d hd] at hr
      cases hr
      cases hv'
      exact k H10 s10
    intro H9 s9 hD
    refine ⟨Dn, List.replicate 37 false, rfl, .inl (.inl ?_), _, rfl, ?_⟩
    · rw [hD]
      congr 2
      have : ∀ (l : List V), l.filterMap (fun x => some (V.bl false)) = (List.replicate l.length false).map V.bl := by
        intro l
        induction l with
        | nil => rfl
        | cons a r ih => rw [List.filterMap_cons]; show V.bl false :: _ = _; rw [ih]; rfl
      rw [this, hxl]
    refine iteN (by decide) ?_
    have sm : SmallT (.str " ( (keys( look(a , b)))) ") := ⟨⟨by decide +kernel, by decide +kernel⟩, fun z e => by cases e; decide +kernel⟩
    refine ⟨.str " ( (keys( look(a , b)))) ", .str " ( (keys( look(a , b)))) ", rfl, .inl (.str _), sm, fun r hr v H10 s10 hv => ?_⟩
    rw [last_read] at hr
    cases hr
    refine ⟨by show 3 ≤ sizeLine; decide, fun t1 m1 => ⟨by show 2 ≤ sizeLine; decide, fun t2 m2 => ?_⟩⟩
    have u1 := same_new (o := .tup [.str "look", .str "a", .str "b"]) m1
    have u2 := same_new (o := .tup [.str "keys", .ref t1]) m2
    have w1 : Dp K (upd H10 t1 (.tup [.str "look", .str "a", .str "b"])) (.ref t1) (.tuple [.str "look", .str "a", .str "b"]) := .tup (.inl (.inl upd_same)) (.cons (.str _) (.cons (.str _) (.cons (.str _) .nil)))
    refine ⟨_, _, Same.dp (u1.trans u2) hv, .tup (.inl (.inl upd_same)) (.cons (.str _) (.cons (Same.dp u2 w1) .nil)), last_shaped, last_shaped, ?_⟩
    have e1 : PyData.eqv (orN ((some ((.tuple [.str "keys", .tuple [.str "look", .str "a", .str "b"]] : PyData), ([] : List Str))).map Prod.fst)) (.tuple [.str "keys", .tuple [.str "look", .str "a", .str "b"]]) = true := last_eqv
    rw [e1]
    exact q _
end
end Eu
set_option Elab.async false
set_option linter.all false
set_option maxRecDepth 100000
set_option maxHeartbeats 4000000
namespace Eu
open PySem PySem.Spec PyProof.Rows L2
theorem tops_mk {l : PySem.W.OpenLaw} {w : World} {K : PySem.W.Frag} {h : Heap} {mg : Str → Option Value} {fa : Addr}
    {f1 : Addr} {oc1 kV1 dc1 pm1 cd1 ct1 : Value} {od1 an1 : Option Addr} {sl1 : Array (Option Value)}
    {f2 : Addr} {oc2 kV2 dc2 pm2 cd2 ct2 : Value} {od2 an2 : Option Addr} {sl2 : Array (Option Value)}
    {f3 : Addr} {oc3 kV3 dc3 pm3 cd3 ct3 : Value} {od3 an3 : Option Addr} {sl3 : Array (Option Value)}
    {f4 : Addr} {oc4 kV4 dc4 pm4 cd4 ct4 : Value} {od4 an4 : Option Addr} {sl4 : Array (Option Value)}
    {f5 : Addr} {oc5 kV5 dc5 pm5 cd5 ct5 : Value} {od5 an5 : Option Addr} {sl5 : Array (Option Value)}
    {f6 : Addr} {oc6 kV6 dc6 pm6 cd6 ct6 : Value} {od6 an6 : Option Addr} {sl6 : Array (Option Value)}
    {f7 : Addr} {oc7 kV7 dc7 pm7 cd7 ct7 : Value} {od7 an7 : Option Addr} {sl7 : Array (Option Value)}
    {f8 : Addr} {oc8 kV8 dc8 pm8 cd8 ct8 : Value} {od8 an8 : Option Addr} {sl8 : Array (Option Value)}
    {f9 : Addr} {oc9 kV9 dc9 pm9 cd9 ct9 : Value} {od9 an9 : Option Addr} {sl9 : Array (Option Value)}
    {f10 : Addr} {oc10 kV10 dc10 pm10 cd10 ct10 : Value} {od10 an10 : Option Addr} {sl10 : Array (Option Value)}
    {f11 : Addr} {oc11 kV11 dc11 pm11 cd11 ct11 : Value} {od11 an11 : Option Addr} {sl11 : Array (Option Value)}
    {f12 : Addr} {oc12 kV12 dc12 pm12 cd12 ct12 : Value} {od12 an12 : Option Addr} {sl12 : Array (Option Value)}
    {f13 : Addr} {oc13 kV13 dc13 pm13 cd13 ct13 : Value} {od13 an13 : Option Addr} {sl13 : Array (Option Value)}
    {f14 : Addr} {oc14 kV14 dc14 pm14 cd14 ct14 : Value} {od14 an14 : Option Addr} {sl14 : Array (Option Value)}
    {f15 : Addr} {oc15 kV15 dc15 pm15 cd15 ct15 : Value} {od15 an15 : Option Addr} {sl15 : Array (Option Value)}
    {f16 : Addr} {oc16 kV16 dc16 pm16 cd16 ct16 : Value} {od16 an16 : Option Addr} {sl16 : Array (Option Value)}
    {f17 : Addr} {oc17 kV17 dc17 pm17 cd17 ct17 : Value} {od17 an17 : Option Addr} {sl17 : Array (Option Value)}
    {f18 : Addr} {oc18 kV18 dc18 pm18 cd18 ct18 : Value} {od18 an18 : Option Addr} {sl18 : Array (Option Value)}
    {gt1 : Tok}
    {gt2 : Tok}
    {gt3 : Tok}
    {gt4 : Tok}
    {gt5 : Tok}
    {gt6 : Tok}
    {gt7 : Tok}
    {ta1 : Addr} {td1 : Option Addr} {tn1 : Nat} {ts1 : Array (Option Value)} {tk1_0 tk1_1 tk1_2 : Tok}
    {ta2 : Addr} {tn2 : Nat} {ts2 : Array (Option Value)} {tk2_0 tk2_1 tk2_2 tk2_3 tk2_4 : Tok}
    {C1 : Addr}
    {mf1_1 : Addr} {moc1_1 mkV1_1 mdc1_1 mpm1_1 mcd1_1 mct1_1 : Value} {mod1_1 man1_1 : Option Addr} {msl1_1 : Array (Option Value)}
    {mf1_2 : Addr} {moc1_2 mkV1_2 mdc1_2 mpm1_2 mcd1_2 mct1_2 : Value} {mod1_2 man1_2 : Option Addr} {msl1_2 : Array (Option Value)}
    {mf1_3 : Addr} {moc1_3 mkV1_3 mdc1_3 mpm1_3 mcd1_3 mct1_3 : Value} {mod1_3 man1_3 : Option Addr} {msl1_3 : Array (Option Value)}
    {mf1_4 : Addr} {moc1_4 mkV1_4 mdc1_4 mpm1_4 mcd1_4 mct1_4 : Value} {mod1_4 man1_4 : Option Addr} {msl1_4 : Array (Option Value)}
    {mf1_5 : Addr} {moc1_5 mkV1_5 mdc1_5 mpm1_5 mcd1_5 mct1_5 : Value} {mod1_5 man1_5 : Option Addr} {msl1_5 : Array (Option Value)}
    {mf1_6 : Addr} {moc1_6 mkV1_6 mdc1_6 mpm1_6 mcd1_6 mct1_6 : Value} {mod1_6 man1_6 : Option Addr} {msl1_6 : Array (Option Value)}
    {mf1_7 : Addr} {moc1_7 mkV1_7 mdc1_7 mpm1_7 mcd1_7 mct1_7 : Value} {mod1_7 man1_7 : Option Addr} {msl1_7 : Array (Option Value)}
    {EC1 eN1 ef1 : Addr} {enm1 eq1 : Str} {ebs1 : List Value} {esn1 : List Str} {esub1 : List Value} {eab1 : Bool} {ecol1 : Option Bool} {edd1 : Option Addr} {em01 em11 em21 em31 em51 : Option Value} {eoc1 ekV1 edc1 epm1 ecd1 ect1 : Value} {eod1 ean1 : Option Addr} {esl1 : Array (Option Value)}
    {OC1 : Addr}
    {OC2 : Addr}
    (X : K.In h) (G : h.Ns mainGlobals mg) (hfa : mg "law" = some (.ref fa))
    (a1 : PySem.W.nsIn K mainGlobals "is_letters" = some (some (.ref f1)))
    (l1 : K.lookup f1 = some ⟨oc1, od1, .func (PySem.W.fnOf "is_letters" "is_letters" (defArgs s_is_letters) (defBody s_is_letters) (defScope s_is_letters) .none kV1 dc1 pm1 an1 cd1 ct1), sl1⟩)
    (c1 : PySem.W.codeIn K cd1 "is_letters" = true) (k1 : PySem.W.keepIn K (.ref f1) = true)
    (a2 : PySem.W.nsIn K mainGlobals "is_name" = some (some (.ref f2)))
    (l2 : K.lookup f2 = some ⟨oc2, od2, .func (PySem.W.fnOf "is_name" "is_name" (defArgs s_is_name) (defBody s_is_name) (defScope s_is_name) .none kV2 dc2 pm2 an2 cd2 ct2), sl2⟩)
    (c2 : PySem.W.codeIn K cd2 "is_name" = true) (k2 : PySem.W.keepIn K (.ref f2) = true)
    (a3 : PySem.W.nsIn K mainGlobals "tokens_of" = some (some (.ref f3)))
    (l3 : K.lookup f3 = some ⟨oc3, od3, .func (PySem.W.fnOf "tokens_of" "tokens_of" (defArgs s_tokens_of) (defBody s_tokens_of) (defScope s_tokens_of) .none kV3 dc3 pm3 an3 cd3 ct3), sl3⟩)
    (c3 : PySem.W.codeIn K cd3 "tokens_of" = true) (k3 : PySem.W.keepIn K (.ref f3) = true)
    (a4 : PySem.W.nsIn K mainGlobals "reader_of" = some (some (.ref f4)))
    (l4 : K.lookup f4 = some ⟨oc4, od4, .func (PySem.W.fnOf "reader_of" "reader_of" (defArgs s_reader_of) (defBody s_reader_of) (defScope s_reader_of) .none kV4 dc4 pm4 an4 cd4 ct4), sl4⟩)
    (c4 : PySem.W.codeIn K cd4 "reader_of" = true) (k4 : PySem.W.keepIn K (.ref f4) = true)
    (a5 : PySem.W.nsIn K mainGlobals "read_expression" = some (some (.ref f5)))
    (l5 : K.lookup f5 = some ⟨oc5, od5, .func (PySem.W.fnOf "read_expression" "read_expression" (defArgs s_read_expression) (defBody s_read_expression) (defScope s_read_expression) .none kV5 dc5 pm5 an5 cd5 ct5), sl5⟩)
    (c5 : PySem.W.codeIn K cd5 "read_expression" = true) (k5 : PySem.W.keepIn K (.ref f5) = true)
    (a6 : PySem.W.nsIn K mainGlobals "_law_bag" = some (some (.ref f6)))
    (l6 : K.lookup f6 = some ⟨oc6, od6, .func (PySem.W.fnOf "_law_bag" "_law_bag" (defArgs s_l_bag) (defBody s_l_bag) (defScope s_l_bag) .none kV6 dc6 pm6 an6 cd6 ct6), sl6⟩)
    (c6 : PySem.W.codeIn K cd6 "_law_bag" = true) (k6 : PySem.W.keepIn K (.ref f6) = true)
    (a7 : PySem.W.nsIn K mainGlobals "_law_take" = some (some (.ref f7)))
    (l7 : K.lookup f7 = some ⟨oc7, od7, .func (PySem.W.fnOf "_law_take" "_law_take" (defArgs s_l_take) (defBody s_l_take) (defScope s_l_take) .none kV7 dc7 pm7 an7 cd7 ct7), sl7⟩)
    (c7 : PySem.W.codeIn K cd7 "_law_take" = true) (k7 : PySem.W.keepIn K (.ref f7) = true)
    (a8 : PySem.W.nsIn K mainGlobals "_law_drawn" = some (some (.ref f8)))
    (l8 : K.lookup f8 = some ⟨oc8, od8, .func (PySem.W.fnOf "_law_drawn" "_law_drawn" (defArgs s_l_drawn) (defBody s_l_drawn) (defScope s_l_drawn) .none kV8 dc8 pm8 an8 cd8 ct8), sl8⟩)
    (c8 : PySem.W.codeIn K cd8 "_law_drawn" = true) (k8 : PySem.W.keepIn K (.ref f8) = true)
    (a9 : PySem.W.nsIn K mainGlobals "_law_written" = some (some (.ref f9)))
    (l9 : K.lookup f9 = some ⟨oc9, od9, .func (PySem.W.fnOf "_law_written" "_law_written" (defArgs s_l_written) (defBody s_l_written) (defScope s_l_written) .none kV9 dc9 pm9 an9 cd9 ct9), sl9⟩)
    (c9 : PySem.W.codeIn K cd9 "_law_written" = true) (k9 : PySem.W.keepIn K (.ref f9) = true)
    (a10 : PySem.W.nsIn K mainGlobals "_law_bent" = some (some (.ref f10)))
    (l10 : K.lookup f10 = some ⟨oc10, od10, .func (PySem.W.fnOf "_law_bent" "_law_bent" (defArgs s_l_bent) (defBody s_l_bent) (defScope s_l_bent) .none kV10 dc10 pm10 an10 cd10 ct10), sl10⟩)
    (c10 : PySem.W.codeIn K cd10 "_law_bent" = true) (k10 : PySem.W.keepIn K (.ref f10) = true)
    (a11 : PySem.W.nsIn K mainGlobals "_law_tokens" = some (some (.ref f11)))
    (l11 : K.lookup f11 = some ⟨oc11, od11, .func (PySem.W.fnOf "_law_tokens" "_law_tokens" (defArgs s_l_tokens) (defBody s_l_tokens) (defScope s_l_tokens) .none kV11 dc11 pm11 an11 cd11 ct11), sl11⟩)
    (c11 : PySem.W.codeIn K cd11 "_law_tokens" = true) (k11 : PySem.W.keepIn K (.ref f11) = true)
    (a12 : PySem.W.nsIn K mainGlobals "_law_is_name" = some (some (.ref f12)))
    (l12 : K.lookup f12 = some ⟨oc12, od12, .func (PySem.W.fnOf "_law_is_name" "_law_is_name" (defArgs s_l_is_name) (defBody s_l_is_name) (defScope s_l_is_name) .none kV12 dc12 pm12 an12 cd12 ct12), sl12⟩)
    (c12 : PySem.W.codeIn K cd12 "_law_is_name" = true) (k12 : PySem.W.keepIn K (.ref f12) = true)
    (a13 : PySem.W.nsIn K mainGlobals "_law_last" = some (some (.ref f13)))
    (l13 : K.lookup f13 = some ⟨oc13, od13, .func (PySem.W.fnOf "_law_last" "_law_last" (defArgs s_l_last) (defBody s_l_last) (defScope s_l_last) .none kV13 dc13 pm13 an13 cd13 ct13), sl13⟩)
    (c13 : PySem.W.codeIn K cd13 "_law_last" = true) (k13 : PySem.W.keepIn K (.ref f13) = true)
    (a14 : PySem.W.nsIn K mainGlobals "_law_parsed" = some (some (.ref f14)))
    (l14 : K.lookup f14 = some ⟨oc14, od14, .func (PySem.W.fnOf "_law_parsed" "_law_parsed" (defArgs s_l_parsed) (defBody s_l_parsed) (defScope s_l_parsed) .none kV14 dc14 pm14 an14 cd14 ct14), sl14⟩)
    (c14 : PySem.W.codeIn K cd14 "_law_parsed" = true) (k14 : PySem.W.keepIn K (.ref f14) = true)
    (a15 : PySem.W.nsIn K mainGlobals "_law_called" = some (some (.ref f15)))
    (l15 : K.lookup f15 = some ⟨oc15, od15, .func (PySem.W.fnOf "_law_called" "_law_called" (defArgs s_l_called) (defBody s_l_called) (defScope s_l_called) .none kV15 dc15 pm15 an15 cd15 ct15), sl15⟩)
    (c15 : PySem.W.codeIn K cd15 "_law_called" = true) (k15 : PySem.W.keepIn K (.ref f15) = true)
    (a16 : PySem.W.nsIn K mainGlobals "_law_read" = some (some (.ref f16)))
    (l16 : K.lookup f16 = some ⟨oc16, od16, .func (PySem.W.fnOf "_law_read" "_law_read" (defArgs s_l_read) (defBody s_l_read) (defScope s_l_read) .none kV16 dc16 pm16 an16 cd16 ct16), sl16⟩)
    (c16 : PySem.W.codeIn K cd16 "_law_read" = true) (k16 : PySem.W.keepIn K (.ref f16) = true)
    (a17 : PySem.W.nsIn K mainGlobals "_law_told" = some (some (.ref f17)))
    (l17 : K.lookup f17 = some ⟨oc17, od17, .func (PySem.W.fnOf "_law_told" "_law_told" (defArgs s_l_told) (defBody s_l_told) (defScope s_l_told) .none kV17 dc17 pm17 an17 cd17 ct17), sl17⟩)
    (c17 : PySem.W.codeIn K cd17 "_law_told" = true) (k17 : PySem.W.keepIn K (.ref f17) = true)
    (a18 : PySem.W.nsIn K mainGlobals "law" = some (some (.ref f18)))
    (l18 : K.lookup f18 = some ⟨oc18, od18, .func (PySem.W.fnOf "law" "law" (defArgs s_law) (defBody s_law) (defScope s_law) .none kV18 dc18 pm18 an18 cd18 ct18), sl18⟩)
    (c18 : PySem.W.codeIn K cd18 "law" = true) (k18 : PySem.W.keepIn K (.ref f18) = true)
    (g1 : PySem.W.nsIn K mainGlobals "LONGEST_NAME" = some (some (.int 4 gt1)))
    (g2 : PySem.W.nsIn K mainGlobals "LONGEST_ROW" = some (some (.int 200 gt2)))
    (g3 : PySem.W.nsIn K mainGlobals "MOST_OPEN" = some (some (.int 8 gt3)))
    (g4 : PySem.W.nsIn K mainGlobals "SIGNS" = some (some (.str "()=," gt4)))
    (g5 : PySem.W.nsIn K mainGlobals "KEYS" = some (some (.str "keys" gt5)))
    (g6 : PySem.W.nsIn K mainGlobals "LOOK" = some (some (.str "look" gt6)))
    (g7 : PySem.W.nsIn K mainGlobals "END" = some (some (.str "" gt7)))
    (h1 : PySem.W.nsIn K mainGlobals "KEPT_WORDS" = some (some (.ref ta1)))
    (j1 : K.lookup ta1 = some ⟨.type "tuple", td1, .seq #[.str "keys" tk1_0, .str "look" tk1_1, .str "self" tk1_2] tn1, ts1⟩)
    (h2 : PySem.W.nsIn K mainGlobals "OPERATORS" = some (some (.ref ta2)))
    (j2 : K.lookup ta2 = some ⟨.type "tuple", none, .seq #[.str "|" tk2_0, .str "^" tk2_1, .str "&" tk2_2, .str "-" tk2_3, .str "@" tk2_4] tn2, ts2⟩)
    (aC1 : PySem.W.nsIn K mainGlobals "Reader" = some (some (.ref C1)))
    (ma1_1 : PySem.W.findIn K (.ref C1) "__init__" = some (some (.ref mf1_1))) (mi1_1 : PySem.W.isFn K (.ref mf1_1) = true)
    (ml1_1 : K.lookup mf1_1 = some ⟨moc1_1, mod1_1, .func (PySem.W.fnOf "__init__" "Reader.__init__" (defArgs s_Reader___init__) (defBody s_Reader___init__) (defScope s_Reader___init__) .none mkV1_1 mdc1_1 mpm1_1 man1_1 mcd1_1 mct1_1), msl1_1⟩)
    (mc1_1 : PySem.W.codeIn K mcd1_1 "Reader.__init__" = true) (mk1_1 : PySem.W.keepIn K (.ref mf1_1) = true)
    (ma1_2 : PySem.W.findIn K (.ref C1) "next_token" = some (some (.ref mf1_2))) (mi1_2 : PySem.W.isFn K (.ref mf1_2) = true)
    (ml1_2 : K.lookup mf1_2 = some ⟨moc1_2, mod1_2, .func (PySem.W.fnOf "next_token" "Reader.next_token" (defArgs s_Reader_next_token) (defBody s_Reader_next_token) (defScope s_Reader_next_token) .none mkV1_2 mdc1_2 mpm1_2 man1_2 mcd1_2 mct1_2), msl1_2⟩)
    (mc1_2 : PySem.W.codeIn K mcd1_2 "Reader.next_token" = true) (mk1_2 : PySem.W.keepIn K (.ref mf1_2) = true)
    (ma1_3 : PySem.W.findIn K (.ref C1) "step" = some (some (.ref mf1_3))) (mi1_3 : PySem.W.isFn K (.ref mf1_3) = true)
    (ml1_3 : K.lookup mf1_3 = some ⟨moc1_3, mod1_3, .func (PySem.W.fnOf "step" "Reader.step" (defArgs s_Reader_step) (defBody s_Reader_step) (defScope s_Reader_step) .none mkV1_3 mdc1_3 mpm1_3 man1_3 mcd1_3 mct1_3), msl1_3⟩)
    (mc1_3 : PySem.W.codeIn K mcd1_3 "Reader.step" = true) (mk1_3 : PySem.W.keepIn K (.ref mf1_3) = true)
    (ma1_4 : PySem.W.findIn K (.ref C1) "expect" = some (some (.ref mf1_4))) (mi1_4 : PySem.W.isFn K (.ref mf1_4) = true)
    (ml1_4 : K.lookup mf1_4 = some ⟨moc1_4, mod1_4, .func (PySem.W.fnOf "expect" "Reader.expect" (defArgs s_Reader_expect) (defBody s_Reader_expect) (defScope s_Reader_expect) .none mkV1_4 mdc1_4 mpm1_4 man1_4 mcd1_4 mct1_4), msl1_4⟩)
    (mc1_4 : PySem.W.codeIn K mcd1_4 "Reader.expect" = true) (mk1_4 : PySem.W.keepIn K (.ref mf1_4) = true)
    (ma1_5 : PySem.W.findIn K (.ref C1) "operation" = some (some (.ref mf1_5))) (mi1_5 : PySem.W.isFn K (.ref mf1_5) = true)
    (ml1_5 : K.lookup mf1_5 = some ⟨moc1_5, mod1_5, .func (PySem.W.fnOf "operation" "Reader.operation" (defArgs s_Reader_operation) (defBody s_Reader_operation) (defScope s_Reader_operation) .none mkV1_5 mdc1_5 mpm1_5 man1_5 mcd1_5 mct1_5), msl1_5⟩)
    (mc1_5 : PySem.W.codeIn K mcd1_5 "Reader.operation" = true) (mk1_5 : PySem.W.keepIn K (.ref mf1_5) = true)
    (ma1_6 : PySem.W.findIn K (.ref C1) "part" = some (some (.ref mf1_6))) (mi1_6 : PySem.W.isFn K (.ref mf1_6) = true)
    (ml1_6 : K.lookup mf1_6 = some ⟨moc1_6, mod1_6, .func (PySem.W.fnOf "part" "Reader.part" (defArgs s_Reader_part) (defBody s_Reader_part) (defScope s_Reader_part) .none mkV1_6 mdc1_6 mpm1_6 man1_6 mcd1_6 mct1_6), msl1_6⟩)
    (mc1_6 : PySem.W.codeIn K mcd1_6 "Reader.part" = true) (mk1_6 : PySem.W.keepIn K (.ref mf1_6) = true)
    (ma1_7 : PySem.W.findIn K (.ref C1) "whole" = some (some (.ref mf1_7))) (mi1_7 : PySem.W.isFn K (.ref mf1_7) = true)
    (ml1_7 : K.lookup mf1_7 = some ⟨moc1_7, mod1_7, .func (PySem.W.fnOf "whole" "Reader.whole" (defArgs s_Reader_whole) (defBody s_Reader_whole) (defScope s_Reader_whole) .none mkV1_7 mdc1_7 mpm1_7 man1_7 mcd1_7 mct1_7), msl1_7⟩)
    (mc1_7 : PySem.W.codeIn K mcd1_7 "Reader.whole" = true) (mk1_7 : PySem.W.keepIn K (.ref mf1_7) = true)
    (pg1 : PySem.W.plainGet K C1 Str.empty = true)
    (hd1 : PySem.W.hasDictIn K C1 = true)
    (po1 : PySem.W.plainOver K C1 = true)
    (sa1 : PySem.W.findIn K (.ref C1) "__setattr__" = some (some (.builtin "object.__setattr__")))
    (mk1 : PySem.W.makesIn K C1 = true)
    (kc1 : PySem.W.keepIn K (.ref C1) = true)
    (na1_1 : PySem.W.findIn K (.ref C1) "tokens" = some none)
    (na2_1 : PySem.W.findIn K (.ref C1) "place" = some none)
    (na3_1 : PySem.W.findIn K (.ref C1) "depth" = some none)
    (sf1 : PySem.W.selfFirst K C1 = true)
    (mr1 : PySem.W.mroIn K C1 (.type "object") = some true)
    (ne1 : PySem.W.findIn K (.ref C1) "__ne__" = some (some (.builtin "object.__ne__")))
    (ha1 : PySem.W.findIn K (.ref C1) "__class__" = some (some (.builtin "object.__class__")))
    (hn1 : PySem.W.specialIn K (.builtin "object.__class__") "__get__" = some (some (.builtin "getset_descriptor.__get__")))
    (ht1 : PySem.W.takesIn K (.builtin "object.__class__") = some true)
    (ea1 : PySem.W.nsIn K mainGlobals "BadRow" = some (some (.ref EC1)))
    (ex1 : K.lookup EC1 = some (excClassObj enm1 eq1 EC1 eN1 ebs1 [.type "ValueError", .type "Exception", .type "BaseException", .type "object"] true esn1 esub1 eab1 ecol1 edd1 em01 em11 em21 em31 em51 "ValueError.__new__"))
    (es1 : PySem.W.findIn K (.ref EC1) "__setattr__" = some (some (.builtin "object.__setattr__"))) (en1 : PySem.W.findIn K (.ref EC1) "place" = some none)
    (ei1 : PySem.W.findIn K (.ref EC1) "__init__" = some (some (.ref ef1))) (et1 : PySem.W.typeIn K (.ref ef1) = some (.type "function"))
    (el1 : K.lookup ef1 = some ⟨eoc1, eod1, .func (PySem.W.fnOf "__init__" "BadRow.__init__" (defArgs s_BadRow___init__) (defBody s_BadRow___init__) (defScope s_BadRow___init__) .none ekV1 edc1 epm1 ean1 ecd1 ect1), esl1⟩)
    (ec1 : PySem.W.codeIn K ecd1 "BadRow.__init__" = true) (ek1 : PySem.W.keepIn K (.ref EC1) = true) (eb1 : PySem.W.subIn K (.ref EC1) (.type "BaseException") = some true) (ey1 : PySem.W.typeIn K (.ref EC1) = some (.type "type"))
    (ve : PySem.W.findCls K (.type "ValueError") (.type "type") "__init__" = some (.val (.builtin "ValueError.__init__"))) (vz : PySem.W.nsIn K mainGlobals "ValueError" = some none)
    (ej1 : PySem.W.isClsIn K EC1 = true) (eo1 : PySem.W.subIn K (.ref EC1) (.ref EC1) = some true)
    (ega1 : PySem.W.findIn K (.ref EC1) "__getattribute__" = some (some (.builtin "BaseException.__getattribute__"))) (egg1 : PySem.W.findIn K (.ref EC1) "__getattr__" = some none) (ehd1 : PySem.W.hasDictIn K EC1 = true)
    (eha1 : PySem.W.findIn K (.ref EC1) "__class__" = some (some (.builtin "object.__class__"))) (ehm1 : PySem.W.mroIn K EC1 (.type "object") = some true)
    (ehn : PySem.W.specialIn K (.builtin "object.__class__") "__get__" = some (some (.builtin "getset_descriptor.__get__"))) (eht : PySem.W.takesIn K (.builtin "object.__class__") = some true)
    (oa1 : PySem.W.nsIn K mainGlobals "BadElement" = some (some (.ref OC1))) (oj1 : PySem.W.isClsIn K OC1 = true) (oy1 : PySem.W.typeIn K (.ref OC1) = some (.type "type")) (on1 : PySem.W.subIn K (.ref EC1) (.ref OC1) = some false)
    (oa2 : PySem.W.nsIn K mainGlobals "BadName" = some (some (.ref OC2))) (oj2 : PySem.W.isClsIn K OC2 = true) (oy2 : PySem.W.typeIn K (.ref OC2) = some (.type "type")) (on2 : PySem.W.subIn K (.ref EC1) (.ref OC2) = some false)
    (ov_ValueError : PySem.W.subIn K (.ref EC1) (.type "ValueError") = some true)
    (z1 : PySem.W.nsIn K mainGlobals "len" = some none)
    (z2 : PySem.W.nsIn K mainGlobals "abs" = some none)
    (z3 : PySem.W.nsIn K mainGlobals "isinstance" = some none)
    (z4 : PySem.W.nsIn K mainGlobals "int" = some none)
    (z5 : PySem.W.nsIn K mainGlobals "bool" = some none)
    (z6 : PySem.W.nsIn K mainGlobals "str" = some none)
    (z7 : PySem.W.nsIn K mainGlobals "tuple" = some none)
    (z8 : PySem.W.nsIn K mainGlobals "all" = some none)
    (z9 : PySem.W.nsIn K mainGlobals "any" = some none)
    (z10 : PySem.W.nsIn K mainGlobals "repr" = some none)
    (z11 : PySem.W.nsIn K mainGlobals "range" = some none)
    (z12 : PySem.W.nsIn K mainGlobals "max" = some none)
    (z13 : PySem.W.nsIn K mainGlobals "min" = some none)
    (z14 : PySem.W.nsIn K mainGlobals "list" = some none)
    (z15 : PySem.W.nsIn K mainGlobals "dict" = some none)
    (z16 : PySem.W.nsIn K mainGlobals "set" = some none)
    (z17 : PySem.W.nsIn K mainGlobals "sorted" = some none)
    (z18 : PySem.W.nsIn K mainGlobals "reversed" = some none)
    (z19 : PySem.W.nsIn K mainGlobals "enumerate" = some none)
    (z20 : PySem.W.nsIn K mainGlobals "zip" = some none)
    (z21 : PySem.W.nsIn K mainGlobals "sum" = some none)
    (z22 : PySem.W.nsIn K mainGlobals "type" = some none) :
    ∃ fd : FuncData, (∀ (s : Shared) (u : Value), BindsTo s fd ⟨[u], []⟩ [("_law_script", u)]) ∧
      ∀ base : Heap, K.In base → base.Ns mainGlobals mg → Ok l.prog w K mg base CX0 73 fa fd ["_law_script"] (spLaw K) := by
  have D_is_letters : Df K mg "is_letters" s_is_letters := df_mk X G a1 l1 c1 k1
  have D_is_name : Df K mg "is_name" s_is_name := df_mk X G a2 l2 c2 k2
  have D_tokens_of : Df K mg "tokens_of" s_tokens_of := df_mk X G a3 l3 c3 k3
  have D_reader_of : Df K mg "reader_of" s_reader_of := df_mk X G a4 l4 c4 k4
  have D_read_expression : Df K mg "read_expression" s_read_expression := df_mk X G a5 l5 c5 k5
  have D_l_bag : Df K mg "_law_bag" s_l_bag := df_mk X G a6 l6 c6 k6
  have D_l_take : Df K mg "_law_take" s_l_take := df_mk X G a7 l7 c7 k7
  have D_l_drawn : Df K mg "_law_drawn" s_l_drawn := df_mk X G a8 l8 c8 k8
  have D_l_written : Df K mg "_law_written" s_l_written := df_mk X G a9 l9 c9 k9
  have D_l_bent : Df K mg "_law_bent" s_l_bent := df_mk X G a10 l10 c10 k10
  have D_l_tokens : Df K mg "_law_tokens" s_l_tokens := df_mk X G a11 l11 c11 k11
  have D_l_is_name : Df K mg "_law_is_name" s_l_is_name := df_mk X G a12 l12 c12 k12
  have D_l_last : Df K mg "_law_last" s_l_last := df_mk X G a13 l13 c13 k13
  have D_l_parsed : Df K mg "_law_parsed" s_l_parsed := df_mk X G a14 l14 c14 k14
  have D_l_called : Df K mg "_law_called" s_l_called := df_mk X G a15 l15 c15 k15
  have D_l_read : Df K mg "_law_read" s_l_read := df_mk X G a16 l16 c16 k16
  have D_l_told : Df K mg "_law_told" s_l_told := df_mk X G a17 l17 c17 k17
  have D_law : Df K mg "law" s_law := df_mk X G a18 l18 c18 k18
  have G_LONGEST_NAME : ∃ u, mg "LONGEST_NAME" = some u ∧ RelV (.int 4) u := ⟨_, PySem.W.mg_of X G g1, _, rfl⟩
  have G_LONGEST_ROW : ∃ u, mg "LONGEST_ROW" = some u ∧ RelV (.int 200) u := ⟨_, PySem.W.mg_of X G g2, _, rfl⟩
  have G_MOST_OPEN : ∃ u, mg "MOST_OPEN" = some u ∧ RelV (.int 8) u := ⟨_, PySem.W.mg_of X G g3, _, rfl⟩
  have G_SIGNS : ∃ u, mg "SIGNS" = some u ∧ RelV (.str "()=,") u := ⟨_, PySem.W.mg_of X G g4, _, rfl⟩
  have G_KEYS : ∃ u, mg "KEYS" = some u ∧ RelV (.str "keys") u := ⟨_, PySem.W.mg_of X G g5, _, rfl⟩
  have G_LOOK : ∃ u, mg "LOOK" = some u ∧ RelV (.str "look") u := ⟨_, PySem.W.mg_of X G g6, _, rfl⟩
  have G_END : ∃ u, mg "END" = some u ∧ RelV (.str "") u := ⟨_, PySem.W.mg_of X G g7, _, rfl⟩
  have G_KEPT_WORDS : ∃ u, mg "KEPT_WORDS" = some u ∧ RelV (.ref ta1) u := ⟨_, PySem.W.mg_of X G h1, rfl⟩
  have S_KEPT_WORDS : ∀ H, SqT K H ta1 [.str "keys", .str "look", .str "self"] := fun H => .inr ⟨_, _, _, j1, rfl, rfl, (by show 3 ≤ sizeLine; decide), .cons ⟨_, rfl⟩ (.cons ⟨_, rfl⟩ (.cons ⟨_, rfl⟩ (.nil)))⟩
  have O_OPERATORS : ∃ o, K.lookup ta2 = some o ∧ o.cls = .type "tuple" ∧ o.dict = none := ⟨_, j2, rfl, rfl⟩
  have G_OPERATORS : ∃ u, mg "OPERATORS" = some u ∧ RelV (.ref ta2) u := ⟨_, PySem.W.mg_of X G h2, rfl⟩
  have S_OPERATORS : ∀ H, SqT K H ta2 [.str "|", .str "^", .str "&", .str "-", .str "@"] := fun H => .inr ⟨_, _, _, j2, rfl, rfl, (by show 5 ≤ sizeLine; decide), .cons ⟨_, rfl⟩ (.cons ⟨_, rfl⟩ (.cons ⟨_, rfl⟩ (.cons ⟨_, rfl⟩ (.cons ⟨_, rfl⟩ (.nil)))))⟩
  have D_Reader___init__ : Dm K C1 "__init__" "Reader.__init__" s_Reader___init__ [] := ⟨mf1_1, _, _, _, _, _, _, _, _, _, _, ml1_1, mc1_1, ⟨ma1_1, mi1_1, mk1_1⟩, .inl ⟨rfl, rfl⟩⟩
  have D_Reader_next_token : Dm K C1 "next_token" "Reader.next_token" s_Reader_next_token [] := ⟨mf1_2, _, _, _, _, _, _, _, _, _, _, ml1_2, mc1_2, ⟨ma1_2, mi1_2, mk1_2⟩, .inl ⟨rfl, rfl⟩⟩
  have D_Reader_step : Dm K C1 "step" "Reader.step" s_Reader_step [] := ⟨mf1_3, _, _, _, _, _, _, _, _, _, _, ml1_3, mc1_3, ⟨ma1_3, mi1_3, mk1_3⟩, .inl ⟨rfl, rfl⟩⟩
  have D_Reader_expect : Dm K C1 "expect" "Reader.expect" s_Reader_expect [] := ⟨mf1_4, _, _, _, _, _, _, _, _, _, _, ml1_4, mc1_4, ⟨ma1_4, mi1_4, mk1_4⟩, .inl ⟨rfl, rfl⟩⟩
  have D_Reader_operation : Dm K C1 "operation" "Reader.operation" s_Reader_operation [] := ⟨mf1_5, _, _, _, _, _, _, _, _, _, _, ml1_5, mc1_5, ⟨ma1_5, mi1_5, mk1_5⟩, .inl ⟨rfl, rfl⟩⟩
  have D_Reader_part : Dm K C1 "part" "Reader.part" s_Reader_part [] := ⟨mf1_6, _, _, _, _, _, _, _, _, _, _, ml1_6, mc1_6, ⟨ma1_6, mi1_6, mk1_6⟩, .inl ⟨rfl, rfl⟩⟩
  have D_Reader_whole : Dm K C1 "whole" "Reader.whole" s_Reader_whole [] := ⟨mf1_7, _, _, _, _, _, _, _, _, _, _, ml1_7, mc1_7, ⟨ma1_7, mi1_7, mk1_7⟩, .inl ⟨rfl, rfl⟩⟩
  have M_Reader : mg "Reader" = some (.ref C1) := PySem.W.mg_of X G aC1
  have F_Reader : Frc K mg C1 := ⟨⟨_, M_Reader, rfl⟩, ⟨pg1, hd1, po1, sa1⟩, na1_1, na2_1, na3_1, sf1, mr1, ne1, ha1, hn1, ht1⟩
  have em1 : PySem.W.exmOne K (.ref EC1) (.ref EC1) = some true := exm_own eb1 ej1 ey1 eo1
  have XS_BadRow : XsC K EC1 := ⟨⟨ega1, egg1, eb1, ehd1⟩, eha1, ehn, eht, ehm1, ej1⟩
  have X_BadRow : OexC K EC1 := ⟨⟨_, _, _, _, _, _, _, _, _, _, _, _, _, _, _, ex1, by decide +kernel⟩, es1, eb1, ey1, ek1⟩
  have e_BadRow : ∀ {base : Heap}, Exo l.prog w K mg base "BadRow" EC1 "place" := ok_bad X_BadRow (PySem.W.mg_of X G ea1) (PySem.W.mg_none_of X G vz) ve ei1 et1 el1 ec1 en1
  have g_BadElement : ∃ u, mg "BadElement" = some u ∧ RelV (.ref OC1) u := ⟨_, PySem.W.mg_of X G oa1, rfl⟩
  have k_BadElement : PySem.W.kitOne K (.ref EC1) (.ref OC1) = some false := kit_no oj1 oy1 eo1 on1
  have g_BadName : ∃ u, mg "BadName" = some u ∧ RelV (.ref OC2) u := ⟨_, PySem.W.mg_of X G oa2, rfl⟩
  have k_BadName : PySem.W.kitOne K (.ref EC1) (.ref OC2) = some false := kit_no oj2 oy2 eo1 on2
  have k_ValueError : PySem.W.kitOne K (.ref EC1) (.type "ValueError") = some true := kit_over ov_ValueError (by decide +kernel)
  have m0 : ∀ {x : Str}, PySem.W.nsIn K mainGlobals x = some none → mg x = none := fun e => PySem.W.mg_none_of X G e
  have B : Bl mg := ⟨m0 z1, m0 z2, m0 z3, m0 z4, m0 z5, m0 z6, m0 z7, m0 z8, m0 z9, m0 z10, m0 z11, m0 z12, m0 z13, m0 z14, m0 z15, m0 z16, m0 z17, m0 z18, m0 z19, m0 z20, m0 z21, m0 z22⟩
  have N : Gn K mg ta1 := ⟨G_LONGEST_NAME, G_KEPT_WORDS, S_KEPT_WORDS⟩
  have T : Gg K mg ta2 := ⟨G_OPERATORS, G_SIGNS, G_LONGEST_ROW, G_MOST_OPEN, G_KEYS, G_LOOK, G_END, S_OPERATORS, O_OPERATORS⟩
  refine law_fn D_law hfa sc_law (fun _ _ _ _ _ _ us hl => match us, hl with | [_], _ => rfl) (fun vs H Q E h => ?_) ?_
  · obtain ⟨a, ns, rfl, _⟩ := h
    rfl
  · intro base hb1 hb2 f cdv A out s H vs Q E hr hs
    have c1 := ok_is_letters (P := l.prog) (w := w) (base := base) B D_is_letters
    have c2 := ok_is_name B N c1 D_is_name
    have c3 := ok_tokens B T c1 D_tokens_of
    have m0' := ok_rinit (P := l.prog) (w := w) (base := base) F_Reader D_Reader___init__ mk1 kc1 M_Reader
    have m1 := ok_next (P := l.prog) (w := w) (base := base) B T F_Reader D_Reader_next_token
    have m2 := ok_step F_Reader m1 D_Reader_step
    have m3 := ok_expect F_Reader e_BadRow m2 D_Reader_expect
    have m4 := (ok_ops B T F_Reader e_BadRow c2 m1 m2 m3 D_Reader_operation D_Reader_part 63).1
    have m5 := ok_whole T F_Reader 63 m3 m4 D_Reader_whole
    have c4 := ok_reader B T F_Reader e_BadRow c3 m0' D_reader_of
    obtain ⟨c5, c5k⟩ := ok_read 63 c4 m5 D_read_expression
    have c8 := ok_bag (P := l.prog) (w := w) (base := base) B D_l_bag
    have c9 := ok_take (P := l.prog) (w := w) (base := base) D_l_take
    have c10 := ok_drawn c9 D_l_drawn 5
    have c11 := ok_writ (P := l.prog) (w := w) (base := base) B D_l_written 5
    have c12 := ok_bent B c9 D_l_bent
    have c13 := ok_ltok (P := l.prog) (w := w) (base := base) B D_l_tokens
    have c14 := ok_lname (P := l.prog) (w := w) (base := base) B D_l_is_name
    have c15 := ok_llast (P := l.prog) (w := w) (base := base) B D_l_last
    have c16 := ok_parse B c15 c14 D_l_parsed D_l_called 30
    have c17 := ok_lread B c13 c15 c16 D_l_read
    have c18 := ok_told B (PySem.W.mg_none_of X G vz) e_BadRow XS_BadRow en1 em1 k_ValueError g_BadElement g_BadName k_BadElement k_BadName c5 D_l_told
    exact body_law B c8 c9 c10 c11 c12 c18 c17 f cdv A out s H vs Q E hr hs
end Eu
open PySem PySem.W PyProof.Rows
set_option maxRecDepth 100000 in
set_option maxHeartbeats 0 in
theorem PySem.Challenge.cw_equalunlike_k11_texts_that_are_no_expres_holds : PySem.Challenge.rw_equalunlike_k11_texts_that_are_no_expres.Holds := by
  w_on; o_law; k_head; (case hw => w_witness2)
  k_fill
  refine Eu.walk_ok (l := PySem.Challenge.rw_equalunlike_k11_texts_that_are_no_expres) (k := 73) (x := "_law_script") rfl rfl ⟨⟨rfl, by decide, by decide⟩, rfl⟩ (fun w h Y => PySem.W.kIn_of Y) ?F
  case F =>
    intro w mg fa h KX G hmg
    refine' Eu.tops_mk KX G hmg ?a1 ?l1 ?c1 ?k1 ?a2 ?l2 ?c2 ?k2 ?a3 ?l3 ?c3 ?k3 ?a4 ?l4 ?c4 ?k4 ?a5 ?l5 ?c5 ?k5 ?a6 ?l6 ?c6 ?k6 ?a7 ?l7 ?c7 ?k7 ?a8 ?l8 ?c8 ?k8 ?a9 ?l9 ?c9 ?k9 ?a10 ?l10 ?c10 ?k10 ?a11 ?l11 ?c11 ?k11 ?a12 ?l12 ?c12 ?k12 ?a13 ?l13 ?c13 ?k13 ?a14 ?l14 ?c14 ?k14 ?a15 ?l15 ?c15 ?k15 ?a16 ?l16 ?c16 ?k16 ?a17 ?l17 ?c17 ?k17 ?a18 ?l18 ?c18 ?k18 ?g1 ?g2 ?g3 ?g4 ?g5 ?g6 ?g7 ?h1 ?j1 ?h2 ?j2 ?aC1 ?ma1_1 ?mi1_1 ?ml1_1 ?mc1_1 ?mk1_1 ?ma1_2 ?mi1_2 ?ml1_2 ?mc1_2 ?mk1_2 ?ma1_3 ?mi1_3 ?ml1_3 ?mc1_3 ?mk1_3 ?ma1_4 ?mi1_4 ?ml1_4 ?mc1_4 ?mk1_4 ?ma1_5 ?mi1_5 ?ml1_5 ?mc1_5 ?mk1_5 ?ma1_6 ?mi1_6 ?ml1_6 ?mc1_6 ?mk1_6 ?ma1_7 ?mi1_7 ?ml1_7 ?mc1_7 ?mk1_7 ?pg1 ?hd1 ?po1 ?sa1 ?mk1 ?kc1 ?na1_1 ?na2_1 ?na3_1 ?sf1 ?mr1 ?ne1 ?ha1 ?hn1 ?ht1 ?ea1 ?ex1 ?es1 ?en1 ?ei1 ?et1 ?el1 ?ec1 ?ek1 ?eb1 ?ey1 ?ve ?vz ?ej1 ?eo1 ?ega1 ?egg1 ?ehd1 ?eha1 ?ehm1 ?ehn ?eht ?oa1 ?oj1 ?oy1 ?on1 ?oa2 ?oj2 ?oy2 ?on2 ?ov_ValueError ?z1 ?z2 ?z3 ?z4 ?z5 ?z6 ?z7 ?z8 ?z9 ?z10 ?z11 ?z12 ?z13 ?z14 ?z15 ?z16 ?z17 ?z18 ?z19 ?z20 ?z21 ?z22
    (case a1 => k_is); (case l1 => k_is); (case c1 => k_is); (case k1 => k_is); (case a2 => k_is); (case l2 => k_is)
    (case c2 => k_is); (case k2 => k_is); (case a3 => k_is); (case l3 => k_is); (case c3 => k_is); (case k3 => k_is)
    (case a4 => k_is); (case l4 => k_is); (case c4 => k_is); (case k4 => k_is); (case a5 => k_is); (case l5 => k_is)
    (case c5 => k_is); (case k5 => k_is); (case a6 => k_is); (case l6 => k_is); (case c6 => k_is); (case k6 => k_is)
    (case a7 => k_is); (case l7 => k_is); (case c7 => k_is); (case k7 => k_is); (case a8 => k_is); (case l8 => k_is)
    (case c8 => k_is); (case k8 => k_is); (case a9 => k_is); (case l9 => k_is); (case c9 => k_is); (case k9 => k_is)
    (case a10 => k_is); (case l10 => k_is); (case c10 => k_is); (case k10 => k_is); (case a11 => k_is); (case l11 => k_is)
    (case c11 => k_is); (case k11 => k_is); (case a12 => k_is); (case l12 => k_is); (case c12 => k_is); (case k12 => k_is)
    (case a13 => k_is); (case l13 => k_is); (case c13 => k_is); (case k13 => k_is); (case a14 => k_is); (case l14 => k_is)
    (case c14 => k_is); (case k14 => k_is); (case a15 => k_is); (case l15 => k_is); (case c15 => k_is); (case k15 => k_is)
    (case a16 => k_is); (case l16 => k_is); (case c16 => k_is); (case k16 => k_is); (case a17 => k_is); (case l17 => k_is)
    (case c17 => k_is); (case k17 => k_is); (case a18 => k_is); (case l18 => k_is); (case c18 => k_is); (case k18 => k_is)
    (case g1 => k_is); (case g2 => k_is); (case g3 => k_is); (case g4 => k_is); (case g5 => k_is); (case g6 => k_is)
    (case g7 => k_is); (case h1 => k_is); (case j1 => k_is); (case h2 => k_is); (case j2 => k_is); (case aC1 => k_is)
    (case ma1_1 => k_is); (case mi1_1 => k_is); (case ml1_1 => k_is); (case mc1_1 => k_is); (case mk1_1 => k_is); (case ma1_2 => k_is)
    (case mi1_2 => k_is); (case ml1_2 => k_is); (case mc1_2 => k_is); (case mk1_2 => k_is); (case ma1_3 => k_is); (case mi1_3 => k_is)
    (case ml1_3 => k_is); (case mc1_3 => k_is); (case mk1_3 => k_is); (case ma1_4 => k_is); (case mi1_4 => k_is); (case ml1_4 => k_is)
    (case mc1_4 => k_is); (case mk1_4 => k_is); (case ma1_5 => k_is); (case mi1_5 => k_is); (case ml1_5 => k_is); (case mc1_5 => k_is)
    (case mk1_5 => k_is); (case ma1_6 => k_is); (case mi1_6 => k_is); (case ml1_6 => k_is); (case mc1_6 => k_is); (case mk1_6 => k_is)
    (case ma1_7 => k_is); (case mi1_7 => k_is); (case ml1_7 => k_is); (case mc1_7 => k_is); (case mk1_7 => k_is); (case pg1 => k_is)
    (case hd1 => k_is); (case po1 => k_is); (case sa1 => k_is); (case mk1 => k_is); (case kc1 => k_is); (case na1_1 => k_is)
    (case na2_1 => k_is); (case na3_1 => k_is); (case sf1 => k_is); (case mr1 => k_is); (case ne1 => k_is); (case ha1 => k_is)
    (case hn1 => k_is); (case ht1 => k_is); (case ea1 => k_is); (case ex1 => k_is); (case es1 => k_is); (case en1 => k_is)
    (case ei1 => k_is); (case et1 => k_is); (case el1 => k_is); (case ec1 => k_is); (case ek1 => k_is); (case eb1 => k_is)
    (case ey1 => k_is); (case ve => k_is); (case vz => k_is); (case ej1 => k_is); (case eo1 => first | rfl | k_is); (case ega1 => k_is)
    (case egg1 => k_is); (case ehd1 => k_is); (case eha1 => k_is); (case ehm1 => k_is); (case ehn => k_is); (case eht => k_is)
    (case oa1 => k_is); (case oj1 => k_is); (case oy1 => k_is); (case on1 => k_is); (case oa2 => k_is); (case oj2 => k_is)
    (case oy2 => k_is); (case on2 => k_is); (case ov_ValueError => k_is); (case z1 => k_is); (case z2 => k_is); (case z3 => k_is)
    (case z4 => k_is); (case z5 => k_is); (case z6 => k_is); (case z7 => k_is); (case z8 => k_is); (case z9 => k_is)
    (case z10 => k_is); (case z11 => k_is); (case z12 => k_is); (case z13 => k_is); (case z14 => k_is); (case z15 => k_is)
    (case z16 => k_is); (case z17 => k_is); (case z18 => k_is); (case z19 => k_is); (case z20 => k_is); (case z21 => k_is)
    (case z22 => k_is)
