import PyProof.Rows.All
import Wide.All
import OpenK.AllK
import Wide.FinOn
import PyProof.ReprRoads
import HandS.ForMost
import HandS.IsInst
import HandS.Codes
import HandS.Star
import HandS.FStr
import HandS.TupAny
import KE.KDictWalk
import HandS.Defaults
import HandS.DictComp
import HandS.Sort
import HandS.Rev
import KE.KSortTupG
import HandS.More
import PyProof.InstNe
import KE.KDictMeth
import HandS.ListItems
import HandS.WordsDict
import KE.KOpsOwn
import HandS.ClsMeth
import HandS.ExcInit
import PyProof.Draws
import PyProof.EnumMake
import KE.KUnpackStar
import HandS.Strs
import HandS.DeepEq
import HandS.TryOnly
import HandS.ExcOwn
import HandS.Style
import KE.KRevSl
import PyProof.SliceStr2
import HandS.ExcField
import HandS.ExcIs
import KE.KExcIs
import HandS.Wide
import HandS.SetFor
import HandS.Conv
import KE.DatumOrd
import PySem.Challenge.RW_equalunlike_k36_answers_by_hand
set_option Elab.async false
set_option linter.all false
set_option maxRecDepth 100000
set_option maxHeartbeats 4000000
/-! A layer of ours: defs that are called where no repr is under way. -/
namespace Eu
open PySem PySem.Spec PyProof.Rows L2

/-- room, and no repr under way -/
structure Rm (k : Nat) (A : Around) : Prop where
  rm : Room k A
  gd : A.guards = some []
theorem Rm.mono {j k : Nat} {A : Around} (r : Rm k A) (h : j ≤ k) : Rm j A := ⟨r.rm.mono h, r.gd⟩
theorem Rm.deeper {k : Nat} {A : Around} (r : Rm (k + 1) A) (v : Env) : Rm k (A.deeper v) := ⟨r.rm.deeper v, r.gd⟩
theorem Rm.in1 {k : Nat} {A : Around} (r : Rm (k + 1) A) : Rm k A.in1 := ⟨r.rm.in1, r.gd⟩

/-- a def that keeps a promise wherever no repr is under way -/
structure Ok (P : Program) (w : World) (K : PySem.W.Frag) (mg : Str → Option Value)
    (base : Heap) (CX : CXT) (k : Nat) (f : Addr) (fd : FuncData) (ps : List Str) (sp : Sp) : Prop where
  len : ∀ vs H Q E, sp vs H Q E → vs.length = ps.length
  go : ∀ (A : Around) (out : List Env) (s : Shared) (H : Hp) (ar : Args) (us : List Value) (vs : List V) (Q : VK) (E : XK),
    Rm k A → Env0 P w K mg base A out s H → BindsTo s fd ar (ps.zip us) → Vals vs us → sp vs H Q E →
    codeAny (model P w) A (.call (.ref f) ar) (CR CX out P w H s Q E) s

section
variable {P : Program} {w : World} {K : PySem.W.Frag} {mg : Str → Option Value} {base : Heap} {CX : CXT}
theorem Ok.mono {j k : Nat} {f : Addr} {fd : FuncData} {ps : List Str} {sp : Sp}
    (o : Ok P w K mg base CX j f fd ps sp) (h : j ≤ k) : Ok P w K mg base CX k f fd ps sp :=
  ⟨o.len, fun A out s H ar us vs Q E r => o.go A out s H ar us vs Q E (r.mono h)⟩
theorem Ok.imp {k : Nat} {f : Addr} {fd : FuncData} {ps : List Str} {sp sp' : Sp}
    (o : Ok P w K mg base CX k f fd ps sp) (h : ∀ vs H Q E, sp' vs H Q E → sp vs H Q E) :
    Ok P w K mg base CX k f fd ps sp' :=
  ⟨fun vs H Q E q => o.len vs H Q E (h _ _ _ _ q),
   fun A out s H ar us vs Q E r e b v q => o.go A out s H ar us vs Q E r e b v (h _ _ _ _ q)⟩

/-- a def by its body -/
theorem ok_body {k : Nat} {f : Addr} {nm qual : Str} {pr : Arguments} {body : List Stmt} {sc : Scope}
    {dV kV doc pm cdv ct oc : Value} {an od : Option Addr} {osl : Array (Option Value)} {N ps : List Str} {sp : Sp}
    (lk : K.lookup f = some ⟨oc, od, .func (PySem.W.fnOf nm qual pr body sc dV kV doc pm an cdv ct), osl⟩)
    (hcd : PySem.W.codeIn K cdv qual = true) (S : FnScope N ps sc)
    (len : ∀ vs H Q E, sp vs H Q E → vs.length = ps.length)
    (hb : ∀ (A : Around) (out : List Env) (s : Shared) (H : Hp) (vs : List V) (Q : VK) (E : XK),
      Rm k (A.deeper (envOfC qual sc s.heap.objs.size f cdv)) → sp vs H Q E →
      ∃ t, PSs (cxOf CX P w K mg base N qual sc f cdv A out s H E) body t ∧
        t { nx := fun _ H' => Q .non H', rt := Q } (start N vs) H) :
    Ok P w K mg base CX (k + 1) f (PySem.W.fnOf nm qual pr body sc dV kV doc pm an cdv ct) ps sp := by
  constructor
  · exact len
  intro A out s H ar us vs Q E hr e0 bt rl hsp
  have keep : ∀ b o, base.get? b = some o → s.heap.get? b = some o := fun b o e => (e0.bs b o e).1
  have KX : K.In s.heap := e0.mod.kin.keeps keep
  have hkind : ∀ y ∈ ps.zip us, sc.names.lookup y.1 = some .local ∨
      (sc.names.lookup y.1 = some .cell ∧ ((cellsFrom (s.heap.objs.size + 1) sc.names []).lookup y.1).isSome = true) := by
    rintro ⟨n, v⟩ hy
    cases S.par n (List.of_mem_zip hy).1 with
    | inl q => exact .inl q
    | inr q => exact .inr ⟨q, PySem.W.cellsFrom_some _ _ _ (.inl q)⟩
  apply codeAny_call_function hr.rm.depth (KX _ _ lk) rfl S.co S.gen rfl (PySem.W.codeRec_of KX hcd)
  apply bt
  apply wpAny_newFunctionEnv_cells S.kind hkind
  intro env he s1 x
  subst he
  refine ⟨(e0.mod.nolimit.keeps keep).keeps x.toInCall.keep, codeAny_func ?_⟩
  obtain ⟨t, ht, hq⟩ := hb A out s H vs Q E (hr.deeper _) hsp
  have J := inv_start (CX := CX) (E := E) (f := f) (cd := cdv) (qual := qual) S hr.rm.hd e0 (len _ _ _ _ hsp) rl x
  refine wpAny_mono (ht.run [] s1 (start N vs) H _ J hq) ?_ (fun e s' hs => hs)
  intro fl s' hs
  cases fl with
  | ret u =>
    obtain ⟨v, σ', H', J', rv, q⟩ := hs
    exact ⟨v, H', J'.os, J'.bare, J'.base, J'.hok, rv, q⟩
  | next =>
    obtain ⟨σ', H', J', q⟩ := hs
    exact ⟨V.non, H', J'.os, J'.bare, J'.base, J'.hok, rfl, q⟩
  | brk =>
    obtain ⟨_, _, _, q⟩ := hs
    exact False.elim q
  | cont =>
    obtain ⟨_, _, _, q⟩ := hs
    exact False.elim q
end

section
variable {X : Cx} {CX : CXT} {k : Nat} {f : Addr} {fd : FuncData} {ps : List Str} {sp : Sp} {dvs : List V} {ds : List Value} {E : XK}
/-- the callee runs -/
theorem run_ok {pins : List (Addr × Obj)} {σ : L2.St} {H : Hp} {s : Shared} {Q : VK} {us : List Value} {vs : List V}
    (o : Ok X.prog X.w X.K X.mg X.base CX k f fd ps sp) (hr : Rm k X.A) (hb : Binds X.K fd ps ds) (hd : Vals dvs ds)
    (hx : Passes CX X E) (I : Inv X pins σ H s) (r : Vals vs us) (h : sp (vs ++ dvs) H Q E) :
    wpAny (model X.prog X.w) X.A (call (.ref f) us) (EP X pins σ Q) X.xe s := by
  have rr := r.append hd
  have hl : (us ++ ds).length = ps.length := rr.length ▸ o.len _ _ _ _ h
  refine wpAny_call (codeAny_mono (o.go X.A X.stack s H ⟨us, []⟩ (us ++ ds) (vs ++ dvs) Q E hr I.env0 (hb s us I.kIn hl) rr h) ?_)
  intro res s' hq
  match res, hq with
  | .error e, hq => exact hx pins σ H s e s' I hq
  | .ok (.ret u), hq => exact I.after hq
  | .ok .next, hq => exact False.elim hq
  | .ok .brk, hq => exact False.elim hq
  | .ok .cont, hq => exact False.elim hq
end
end Eu
set_option Elab.async false
set_option linter.all false
set_option maxRecDepth 100000
set_option maxHeartbeats 4000000
namespace Eu
open PySem PySem.Spec PyProof.Rows L2

/-! ### defs called by their names -/
structure Cal (P : Program) (w : World) (K : PySem.W.Frag) (mg : Str → Option Value) (base : Heap)
    (k : Nat) (x : Str) (sp : Sp) (dvs : List V) : Prop where
  ex : ∃ (f : Addr) (fd : FuncData) (ps : List Str) (ds : List Value),
    Ok P w K mg base CX0 k f fd ps sp ∧ mg x = some (.ref f) ∧
    PySem.W.keepIn K (.ref f) = true ∧ Binds K fd ps ds ∧ Vals dvs ds

/-- a def of the top, as it stands behind the top's run -/
structure Df (K : PySem.W.Frag) (mg : Str → Option Value) (x : Str) (st : Stmt) : Prop where
  ex : ∃ (f : Addr) (oc : Value) (od : Option Addr) (kV doc pm : Value) (an : Option Addr) (cdv ct : Value) (osl : Array (Option Value)),
    K.lookup f = some ⟨oc, od, .func (PySem.W.fnOf x x (defArgs st) (defBody st) (defScope st) .none kV doc pm an cdv ct), osl⟩ ∧
    PySem.W.codeIn K cdv x = true ∧ PySem.W.keepIn K (.ref f) = true ∧ mg x = some (.ref f)

theorem df_mk {K : PySem.W.Frag} {h : Heap} {mg : Str → Option Value} {x : Str} {st : Stmt} (X : K.In h) (G : h.Ns mainGlobals mg)
    {f : Addr} {oc : Value} {od an : Option Addr} {osl : Array (Option Value)} {kV doc pm cdv ct : Value}
    (a : PySem.W.nsIn K mainGlobals x = some (some (.ref f)))
    (l : K.lookup f = some ⟨oc, od, .func (PySem.W.fnOf x x (defArgs st) (defBody st) (defScope st) .none kV doc pm an cdv ct), osl⟩)
    (c : PySem.W.codeIn K cdv x = true) (k : PySem.W.keepIn K (.ref f) = true) : Df K mg x st :=
  ⟨f, oc, od, kV, doc, pm, an, cdv, ct, osl, l, c, k, PySem.W.mg_of X G a⟩

section
variable {P : Program} {w : World} {K : PySem.W.Frag} {mg : Str → Option Value} {base : Heap}
theorem Df.cal {x : Str} {st : Stmt} {N ps : List Str} {k : Nat} {sp : Sp} (D : Df K mg x st) (S : FnScope N ps (defScope st))
    (hbd : ∀ (kV doc pm : Value) (an : Option Addr) (cdv ct : Value) (us : List Value), us.length = ps.length →
      bindArgs (PySem.W.fnOf x x (defArgs st) (defBody st) (defScope st) .none kV doc pm an cdv ct) ⟨us, []⟩ = pure (ps.zip us))
    (len : ∀ vs H Q E, sp vs H Q E → vs.length = ps.length)
    (hb : ∀ (f : Addr) (cdv : Value) (A : Around) (out : List Env) (s : Shared) (H : Hp) (vs : List V) (Q : VK) (E : XK),
      Rm k (A.deeper (envOfC x (defScope st) s.heap.objs.size f cdv)) → sp vs H Q E →
      ∃ t, PSs (cxOf CX0 P w K mg base N x (defScope st) f cdv A out s H E).nox (defBody st) t ∧
        t { nx := fun _ H' => Q .non H', rt := Q } (start N vs) H) : Cal P w K mg base (k + 1) x sp [] := by
  obtain ⟨f, oc, od, kV, doc, pm, an, cdv, ct, osl, l, c, kp, m⟩ := D.ex
  refine ⟨f, _, ps, [], ok_body l c S len ?_, m, kp, .all (hbd kV doc pm an cdv ct), .nil⟩
  intro A out s H vs Q E hr hs
  obtain ⟨t, h, q⟩ := hb f cdv A out s H vs Q E hr hs
  exact ⟨t, h.nox, q⟩
end

section
variable {X : Cx} {k j : Nat} {x : Str} {sp : Sp} {dvs : List V} {p pos : Pos} {e : Expr} {es : List Expr} {t : TA}
theorem pe_c (c : Cal X.prog X.w X.K X.mg X.base k x sp dvs) (hr : Rm j X.A) (hk : k ≤ j) (hg : Gl X x) (ha : PA X (e :: es) t)
    (hdb : (x == ("__debug__" : Str)) = false := by decide)
    (he : starEach (e :: es) X.env = (false, eval e X.env) :: starEach es X.env := by rfl)
    (hpl : (backTo pos (starEach es X.env)).any (·.1) = false := by rfl) :
    PE X (.Call (.Name x p) (e :: es) [] pos) (tCall sp dvs E0 t) := by
  obtain ⟨f, fd, ps, ds, o, hm, kp, b, d⟩ := c.ex
  constructor
  intro pins s σ H Q I h
  apply wpAny_Call_Name_kw
  apply ld_glob I hg hm _ hdb
  refine PySem.W.callWith_K (h₀ := X.base) I.ok.mod.kin kp (thn (ha.run pos pins s σ H _ I h) ?_) he hpl
  rintro us s1 ⟨vs, H1, I1, r, q⟩
  exact ⟨I1.kIn, run_ok o (hr.mono hk) b d pass0 I1 r q⟩
theorem pe_c0 (c : Cal X.prog X.w X.K X.mg X.base k x sp dvs) (hr : Rm j X.A) (hk : k ≤ j) (hg : Gl X x)
    (hdb : (x == ("__debug__" : Str)) = false := by decide) :
    PE X (.Call (.Name x p) [] [] pos) (tCall sp dvs E0 tNil) := by
  obtain ⟨f, fd, ps, ds, o, hm, kp, b, d⟩ := c.ex
  constructor
  intro pins s σ H Q I h
  apply wpAny_Call_Name_kw
  apply ld_glob I hg hm _ hdb
  exact PySem.W.callWith_K0 I.kIn kp (run_ok (us := []) o (hr.mono hk) b d pass0 I .nil h)
end

/-! ### repr of data -/
section
variable {X : Cx}
def rRepr (K : PySem.W.Frag) : List V → Hp → VK → Prop := fun xs H Q =>
  ∃ (x : V) (d : PyData), xs = [x] ∧ Dp K H x d ∧ d.showable = true ∧ d.depth ≤ 60 ∧ d.shown.length ≤ sizeLine ∧ Q (.str d.shown) H
mutual
theorem noDict {K : PySem.W.Frag} {H : Hp} : ∀ {d : PyData} {v : V}, Dp K H v d → d.hasDict = false
  | .none, _, _ => rfl
  | .bool _, _, _ => rfl
  | .int _, _, _ => rfl
  | .str _, _, _ => rfl
  | .list ds, _, .lst _ h => noDicts h
  | .tuple ds, _, .tup _ h => noDicts h
theorem noDicts {K : PySem.W.Frag} {H : Hp} : ∀ {ds : List PyData} {vs : List V}, DpAll K H vs ds → PyData.hasDictAll ds = false
  | [], _, _ => rfl
  | d :: ds, _, .cons h1 h2 => by
    show (d.hasDict || PyData.hasDictAll ds) = false
    rw [noDict h1, noDicts h2]
    rfl
end
theorem call_repr {j : Nat} (hr : Rm j X.A) : CallR X (.builtin "repr") (rRepr X.K) := by
  intro pins s σ H xs us Q I r h
  obtain ⟨x, d, rfl, hd, hs, hdp, hz, q⟩ := h
  obtain ⟨u, rfl, rx⟩ := vals1 r
  have hu := hr.rm.un
  cases hd with
  | non =>
    cases rx
    exact PySem.P.repr_of_none ⟨.str _, H, I.tok _, ⟨_, rfl⟩, q⟩
  | bl b =>
    cases rx
    exact PySem.P.repr_of_bool ⟨.str _, H, I.tok _, ⟨_, rfl⟩, q⟩
  | int i =>
    obtain ⟨t, rfl⟩ := rx
    exact PySem.P.repr_of_int (of_decide_eq_true hs) ⟨.str _, H, I.tok _, ⟨_, rfl⟩, q⟩
  | str y =>
    obtain ⟨t, rfl⟩ := rx
    exact PySem.P.repr_of_str ⟨.str _, H, I.tok _, ⟨_, rfl⟩, q⟩ hz
  | @lst a ys ds h1 h2 =>
    cases (show u = Value.ref a from rx)
    obtain ⟨as, rd⟩ := Dp.reads I _ _ _ (Dp.lst h1 h2) (show RelV (.ref a) (.ref a) from rfl)
    refine repr_of_reads' rd hs (PyData.noDict_hsm (noDict (Dp.lst h1 h2))) hr.gd (by omega) (fun _ _ z => z) ?_ hz
    intro h' u tk hk
    exact ⟨.str _, H, I.kept hk, ⟨_, rfl⟩, q⟩
  | @tup a ys ds h1 h2 =>
    cases (show u = Value.ref a from rx)
    obtain ⟨as, rd⟩ := Dp.reads I _ _ _ (Dp.tup h1 h2) (show RelV (.ref a) (.ref a) from rfl)
    refine repr_of_reads' rd hs (PyData.noDict_hsm (noDict (Dp.tup h1 h2))) hr.gd (by omega) (fun _ _ z => z) ?_ hz
    intro h' u tk hk
    exact ⟨.str _, H, I.kept hk, ⟨_, rfl⟩, q⟩
end
end Eu
set_option Elab.async false
set_option linter.all false
set_option maxRecDepth 100000
set_option maxHeartbeats 4000000
namespace Eu
open PySem PySem.Spec PyProof.Rows L2

/-! ### how long a repr may be -/
mutual
def cost : PyData → Nat
  | .none => 4
  | .bool _ => 5
  | .int _ => 1921
  | .str x => 10 * x.length + 2
  | .list xs => costs xs + 3
  | .tuple xs => costs xs + 3
  | .dict kvs => costKv kvs + 2
def costs : List PyData → Nat
  | [] => 0
  | x :: xs => cost x + 2 + costs xs
def costKv : List (PyData × PyData) → Nat
  | [] => 0
  | (k, v) :: r => cost k + 2 + cost v + 2 + costKv r
end
mutual
def fine : PyData → Bool
  | .none | .bool _ => true
  | .str x => x.cps.toList.all fun c => decide (c < 1114112)
  | .int i => decide (i.natAbs.log2 < 1920)
  | .list xs | .tuple xs => fines xs
  | .dict kvs => fineKv kvs
def fines : List PyData → Bool
  | [] => true
  | x :: xs => fine x && fines xs
def fineKv : List (PyData × PyData) → Bool
  | [] => true
  | (k, v) :: r => fine k && fine v && fineKv r
end
theorem listText_le (ts : List Str) : (listText ts).length ≤ piled ts + 3 := by
  unfold listText
  rw [strLen_append]
  have e2 : ((("]" : String) : Str)).length = 1 := rfl
  have e1 : ((("[" : String) : Str)).length = 1 := rfl
  cases ts with
  | nil => show (("[" : String) : Str).length + _ ≤ _; omega
  | cons t r =>
    show (textFrom 1 ((("[" : String) : Str) ++ ((if 0 > 0 then ", " else "" : String) : Str) ++ t) r).length + _ ≤ _
    rw [textFrom_length_pos _ _ _ (by decide), strLen_append, strLen_append, piled_cons]
    have e3 : (((if 0 > 0 then ", " else "" : String) : Str)).length = 0 := rfl
    omega
theorem joined_le (ts : List Str) : (Str.join ", " ts).length ≤ piled ts := by
  by_cases h : ts = []
  · subst h; decide
  · have := join_length_add ts h
    omega
theorem tupleText_le (ts : List Str) : (tupleText ts).length ≤ piled ts + 3 := by
  unfold tupleText
  rw [strLen_append, strLen_append]
  have e1 : ((("(" : String) : Str)).length = 1 := rfl
  have e3 : (((if ts.length == 1 then ",)" else ")" : String) : Str)).length ≤ 2 := by split <;> decide +kernel
  have := joined_le ts
  omega
theorem dictText_le (ts : List Str) : (dictText ts).length ≤ piled ts + 2 := by
  unfold dictText
  rw [strLen_append, strLen_append]
  have e1 : ((("{" : String) : Str)).length = 1 := rfl
  have e3 : ((("}" : String) : Str)).length = 1 := rfl
  have := joined_le ts
  omega
mutual
theorem shown_le : ∀ d : PyData, fine d = true → d.shown.length ≤ cost d
  | .none, _ => by decide +kernel
  | .bool b, _ => by cases b <;> decide +kernel
  | .int i, h => by
    have h' : i.natAbs.log2 < 1920 := of_decide_eq_true h
    have := int_text_length_le (a := i) (k := 1920) (by decide) h'
    show (Str.ofString (toString i)).length ≤ 1921
    rw [PySem.ofString_length]
    exact this
  | .str x, h => by
    refine StrLaws.reprText_len x fun c hc => ?_
    have h' : c < 1114112 := of_decide_eq_true (List.all_eq_true.mp h c hc)
    exact Nat.lt_of_lt_of_le h' (by decide)
  | .list xs, h => by
    have := listText_le (PyData.shownAll xs)
    have := shownAll_le xs h
    show (listText (PyData.shownAll xs)).length ≤ costs xs + 3
    omega
  | .tuple xs, h => by
    have := tupleText_le (PyData.shownAll xs)
    have := shownAll_le xs h
    show (tupleText (PyData.shownAll xs)).length ≤ costs xs + 3
    omega
  | .dict kvs, h => by
    have := dictText_le (PyData.shownKv kvs)
    have := shownKv_le kvs h
    show (dictText (PyData.shownKv kvs)).length ≤ costKv kvs + 2
    omega
theorem shownAll_le : ∀ xs : List PyData, fines xs = true → piled (PyData.shownAll xs) ≤ costs xs
  | [], _ => Nat.le_refl _
  | x :: xs, h => by
    have h' : (fine x && fines xs) = true := h
    rw [Bool.and_eq_true] at h'
    have a := shown_le x h'.1
    have b := shownAll_le xs h'.2
    show piled (x.shown :: PyData.shownAll xs) ≤ cost x + 2 + costs xs
    rw [piled_cons]
    omega
theorem shownKv_le : ∀ kvs : List (PyData × PyData), fineKv kvs = true → piled (PyData.shownKv kvs) ≤ costKv kvs
  | [], _ => Nat.le_refl _
  | (k, v) :: r, h => by
    have h' : (fine k && fine v && fineKv r) = true := h
    rw [Bool.and_eq_true, Bool.and_eq_true] at h'
    have a := shown_le k h'.1.1
    have b := shown_le v h'.1.2
    have c := shownKv_le r h'.2
    show piled ((k.shown ++ ": " ++ v.shown) :: PyData.shownKv r) ≤ cost k + 2 + cost v + 2 + costKv r
    have e : (((": " : String) : Str)).length = 2 := rfl
    rw [piled_cons, strLen_append, strLen_append, e]
    omega
end
mutual
theorem fine_showable : ∀ d : PyData, fine d = true → d.showable = true
  | .none, _ => rfl
  | .bool _, _ => rfl
  | .int i, h => h
  | .str _, _ => rfl
  | .list xs, h => fines_showable xs h
  | .tuple xs, h => fines_showable xs h
  | .dict kvs, h => fineKv_showable kvs h
theorem fines_showable : ∀ xs : List PyData, fines xs = true → PyData.showableAll xs = true
  | [], _ => rfl
  | x :: xs, h => by
    have h' : (fine x && fines xs) = true := h
    rw [Bool.and_eq_true] at h'
    show (x.showable && PyData.showableAll xs) = true
    rw [fine_showable x h'.1, fines_showable xs h'.2]
    rfl
theorem fineKv_showable : ∀ kvs : List (PyData × PyData), fineKv kvs = true → PyData.showableKv kvs = true
  | [], _ => rfl
  | (k, v) :: r, h => by
    have h' : (fine k && fine v && fineKv r) = true := h
    rw [Bool.and_eq_true, Bool.and_eq_true] at h'
    show (k.showable && v.showable && PyData.showableKv r) = true
    rw [fine_showable k h'.1.1, fine_showable v h'.1.2, fineKv_showable r h'.2]
    rfl
end

/-- small data -/
def Small (d : PyData) : Prop := cost d ≤ 100000 ∧ fine d = true
theorem Small.two {a b : PyData} (h : Small (.tuple [a, b])) : Small a ∧ Small b := by
  obtain ⟨h1, h2⟩ := h
  have h1' : cost a + 2 + (cost b + 2 + 0) + 3 ≤ 100000 := h1
  have h2' : (fine a && (fine b && true)) = true := h2
  rw [Bool.and_eq_true, Bool.and_eq_true] at h2'
  exact ⟨⟨by omega, h2'.1⟩, ⟨by omega, h2'.2.1⟩⟩
theorem Small.three {a b c : PyData} (h : Small (.tuple [a, b, c])) : Small a ∧ Small b ∧ Small c ∧ Small (.tuple [a, b]) := by
  obtain ⟨h1, h2⟩ := h
  have h1' : cost a + 2 + (cost b + 2 + (cost c + 2 + 0)) + 3 ≤ 100000 := h1
  have h2' : (fine a && (fine b && (fine c && true))) = true := h2
  rw [Bool.and_eq_true, Bool.and_eq_true, Bool.and_eq_true] at h2'
  refine ⟨⟨by omega, h2'.1⟩, ⟨by omega, h2'.2.1⟩, ⟨by omega, h2'.2.2.1⟩, ?_, ?_⟩
  · show cost a + 2 + (cost b + 2 + 0) + 3 ≤ 100000
    omega
  · show (fine a && (fine b && true)) = true
    rw [h2'.1, h2'.2.1]; rfl
theorem Small.len {z : Str} (h : Small (.str z)) : z.length ≤ 100000 := by
  have : 10 * z.length + 2 ≤ 100000 := h.1
  omega
/-! ### heaps that grow -/
theorem same_new {H : Hp} {p : Addr} {o : HO} (h : H p = none) : Same H (upd H p o) := fun b x e => by
  rw [upd_ne (ne_of_none e h)]
  exact e
theorem Same.tup {K : PySem.W.Frag} {H H' : Hp} {a : Addr} {xs : List V} (e : Same H H') (h : SqT K H a xs) : SqT K H' a xs := by
  rcases h with (h | ⟨o, h⟩) | h
  · exact .inl (.inl (e _ _ h))
  · exact .inl (.inr ⟨o, e _ _ h⟩)
  · exact .inr h
mutual
theorem Same.dp {K : PySem.W.Frag} {H H' : Hp} (e : Same H H') : ∀ {d : PyData} {v : V}, Dp K H v d → Dp K H' v d
  | .none, _, .non => .non
  | .bool _, _, .bl b => .bl b
  | .int _, _, .int i => .int i
  | .str _, _, .str x => .str x
  | .list ds, _, .lst h1 h2 => .lst (e.seq h1) (Same.dps e h2)
  | .tuple ds, _, .tup h1 h2 => .tup (Same.tup e h1) (Same.dps e h2)
theorem Same.dps {K : PySem.W.Frag} {H H' : Hp} (e : Same H H') : ∀ {ds : List PyData} {vs : List V}, DpAll K H vs ds → DpAll K H' vs ds
  | [], _, .nil => .nil
  | d :: ds, _, .cons h1 h2 => .cons (Same.dp e h1) (Same.dps e h2)
end
/-- without the object at b -/
def hid (H : Hp) (b : Addr) : Hp := fun c => if c = b then none else H c
theorem hid_at {H : Hp} {b : Addr} : hid H b b = none := if_pos rfl
theorem hid_ne {H : Hp} {b c : Addr} (h : c ≠ b) : hid H b c = H c := if_neg h
theorem hid_some {H : Hp} {b c : Addr} {o : HO} (h : hid H b c = some o) : c ≠ b ∧ H c = some o := by
  by_cases e : c = b
  · rw [e, hid_at] at h; cases h
  · rw [hid_ne e] at h; exact ⟨e, h⟩
theorem hid_same {H : Hp} {b : Addr} : Same (hid H b) H := fun c o h => (hid_some h).2
theorem hid_upd {H : Hp} {b : Addr} {o : HO} : hid (upd H b o) b = hid H b := by
  funext c
  by_cases e : c = b
  · rw [e, hid_at, hid_at]
  · rw [hid_ne e, hid_ne e, upd_ne e]
/-- all but b stays -/
def But (b : Addr) (H H' : Hp) : Prop := Same (hid H b) (hid H' b)
theorem But.refl {b : Addr} {H : Hp} : But b H H := Same.refl _
theorem But.trans {b : Addr} {H H1 H2 : Hp} (p : But b H H1) (q : But b H1 H2) : But b H H2 := Same.trans p q
theorem But.of_same {b : Addr} {H H' : Hp} (h : Same H H') : But b H H' := fun c o e => by
  obtain ⟨n, e'⟩ := hid_some e
  rw [hid_ne n]
  exact h c o e'
theorem But.upd {b : Addr} {H : Hp} {o : HO} : But b H (upd H b o) := by
  unfold But
  rw [hid_upd]
  exact Same.refl _
theorem But.free {b : Addr} {H H' : Hp} (h : But b H H') {l : Addr} (n : l ≠ b) (e : H' l = none) : H l = none := by
  have := Same.free h (l := l) (by rw [hid_ne n]; exact e)
  rw [hid_ne n] at this
  exact this
end Eu
set_option Elab.async false
set_option linter.all false
set_option maxRecDepth 100000
set_option maxHeartbeats 4000000
namespace Eu
open PySem PySem.Spec PyProof.Rows L2

/-- an iterator that gives the items xs one by one, as Y says, while S holds -/
structure Over {α : Type} (J : It) (xs : List α) (Y : α → Hp → V → Hp → Prop) (S : Hp → Prop) : Prop where
  go : ∀ i x H, xs[i]? = some x → S H → J.go i H
  st : ∀ H, S H → J.stop xs.length H
  yl : ∀ i x H v H', xs[i]? = some x → S H → J.yld i H v H' → Y x H v H'

theorem over_list {K : PySem.W.Frag} {a : Addr} {xs : List V} : Over (Itl K a) xs (fun x H v H' => H' = H ∧ v = x) (fun H => SqL K H a xs) where
  go := fun i x H e s => ⟨xs, x, s, e⟩
  st := fun H s => ⟨xs, s, Nat.le_refl _⟩
  yl := fun i x H v H' e s y => ⟨y.1, Option.some.inj ((y.2 xs s).symm.trans e)⟩
theorem over_tup {K : PySem.W.Frag} {a : Addr} {xs : List V} : Over (Itt K a) xs (fun x H v H' => H' = H ∧ v = x) (fun H => SqT K H a xs) where
  go := fun i x H e s => ⟨xs, x, s, e⟩
  st := fun H s => ⟨xs, s, Nat.le_refl _⟩
  yl := fun i x H v H' e s y => ⟨y.1, Option.some.inj ((y.2 xs s).symm.trans e)⟩
theorem over_str {z : Str} : Over (Its z) z.cps.toList (fun c H v H' => H' = H ∧ v = .str ⟨#[c]⟩) (fun _ => True) where
  go := fun i x H e _ => by
    have := (List.getElem?_eq_some_iff.mp e).1
    show i < z.cps.size
    simpa using this
  st := fun H _ => by
    show z.cps.size ≤ z.cps.toList.length
    simp
  yl := fun i x H v H' e _ y => by
    obtain ⟨y1, c, y2, y3⟩ := y
    refine ⟨y1, ?_⟩
    rw [← Array.getElem?_toList, e] at y2
    cases y2
    exact y3
theorem over_rev {K : PySem.W.Frag} {a : Addr} {xs : List V} : Over (Itv K a xs.length) xs.reverse (fun x H v H' => H' = H ∧ v = x) (fun H => SqL K H a xs) where
  go := fun i x H e s => by
    have hi := (List.getElem?_eq_some_iff.mp e).1
    rw [List.length_reverse] at hi
    rw [List.getElem?_reverse hi] at e
    exact ⟨hi, xs, x, s, e⟩
  st := fun H s => by
    show xs.length ≤ xs.reverse.length
    rw [List.length_reverse]
    exact Nat.le_refl _
  yl := fun i x H v H' e s y => by
    have hi := (List.getElem?_eq_some_iff.mp e).1
    rw [List.length_reverse] at hi
    rw [List.getElem?_reverse hi] at e
    exact ⟨y.1, Option.some.inj ((y.2 xs s).symm.trans e)⟩
/-- lo, lo + 1, .. -/
def nums (lo : Int) (n : Nat) : List Int := (List.range n).map fun i : Nat => lo + (i : Int)
theorem nums_len (lo : Int) (n : Nat) : (nums lo n).length = n := by unfold nums; rw [List.length_map, List.length_range]
theorem nums_at {lo : Int} {n i : Nat} {x : Int} (h : (nums lo n)[i]? = some x) : i < n ∧ x = lo + (i : Int) := by
  have hi := (List.getElem?_eq_some_iff.mp h).1
  rw [nums_len] at hi
  refine ⟨hi, ?_⟩
  unfold nums at h
  rw [List.getElem?_map, List.getElem?_range hi] at h
  exact (Option.some.inj h).symm
theorem over_range {lo : Int} {n : Nat} : Over (Itr lo n) (nums lo n) (fun x H v H' => H' = H ∧ v = .int x) (fun _ => True) where
  go := fun i x H e _ => (nums_at e).1
  st := fun H _ => by
    show n ≤ (nums lo n).length
    rw [nums_len]
    exact Nat.le_refl _
  yl := fun i x H v H' e _ y => ⟨y.1, by rw [y.2, (nums_at e).2]⟩
/-- d.items() -/
theorem over_items {d : Addr} {o : Obj} {kvs : List (Key × V)} : Over (Iti d o kvs) kvs (fun p H v H' => ∃ T, v = .ref T ∧ H T = none ∧ H' = upd H T (.tup [kV p.1, p.2])) (fun H => H d = some (.frz o (.dK kvs))) where
  go := fun i x H e s => ⟨s, (List.getElem?_eq_some_iff.mp e).1⟩
  st := fun H s => ⟨s, Nat.le_refl _⟩
  yl := fun i x H v H' e s y => by
    obtain ⟨T, k, u, y1, y2, y3, y4⟩ := y
    rw [e] at y1
    cases y1
    exact ⟨T, y2, y3, y4⟩
theorem over_keys {d : Addr} {o : Obj} {kvs : List (Key × V)} : Over (Itk d o kvs) kvs (fun p H v H' => H' = H ∧ v = kV p.1) (fun H => H d = some (.frz o (.dK kvs))) where
  go := fun i x H e s => ⟨s, (List.getElem?_eq_some_iff.mp e).1⟩
  st := fun H s => ⟨s, Nat.le_refl _⟩
  yl := fun i x H v H' e s y => by
    obtain ⟨y0, k, u, y1, y2⟩ := y
    rw [e] at y1
    cases y1
    exact ⟨y0, y2⟩
/-- enumerate(list) -/
theorem over_enum {K : PySem.W.Frag} {a : Addr} {xs : List V} : Over (Ite K a) xs.zipIdx (fun p H v H' => ∃ T, v = .ref T ∧ H T = none ∧ H' = upd H T (.tup [.int (p.2 : Nat), p.1])) (fun H => SqL K H a xs) where
  go := fun i x H e s => by
    rw [List.getElem?_zipIdx] at e
    cases h : xs[i]? with
    | none => rw [h] at e; cases e
    | some y => exact ⟨xs, y, s, h⟩
  st := fun H s => ⟨xs, s, by rw [List.length_zipIdx]; exact Nat.le_refl _⟩
  yl := fun i x H v H' e s y => by
    obtain ⟨T, u, y1, y2, y3, y4⟩ := y
    have := y4 xs s
    rw [List.getElem?_zipIdx, this] at e
    cases e
    refine ⟨T, y1, y2, ?_⟩
    rw [y3]
    simp
/-- zip of two lists -/
theorem over_zip {K : PySem.W.Frag} {a b : Addr} {xs ys : List V} : Over (Itz K a b) (xs.zip ys) (fun p H v H' => ∃ T, v = .ref T ∧ H T = none ∧ H' = upd H T (.tup [p.1, p.2])) (fun H => SqL K H a xs ∧ SqL K H b ys) where
  go := fun i p H e s => by
    obtain ⟨h1, h2⟩ := List.getElem?_zip_eq_some.mp e
    exact ⟨xs, ys, p.1, p.2, s.1, s.2, h1, h2⟩
  st := fun H s => ⟨xs, ys, s.1, s.2, by rw [List.length_zip]; omega⟩
  yl := fun i p H v H' e s y => by
    obtain ⟨T, u, u', y1, y2, y3, y4, y5⟩ := y
    obtain ⟨h1, h2⟩ := List.getElem?_zip_eq_some.mp e
    have e1 := Option.some.inj ((y4 xs s.1).symm.trans h1)
    have e2 := Option.some.inj ((y5 ys s.2).symm.trans h2)
    subst e1 e2
    exact ⟨T, y1, y2, y3⟩

theorem sign_lt (c d : Nat) : decide (([c] : List Nat) < [d]) = decide (c < d) := by
  refine decide_eq_decide.mpr ⟨fun h => ?_, fun h => List.Lex.rel h⟩
  cases h with
  | rel h => exact h
  | cons h => cases h
/-- a comprehension without a test -/
theorem lc_yes {σ : L2.St} {H : Hp} {A B : Hp → Prop} (h : A H) : tYes σ H (fun b H3 => if b = true then A H3 else B H3) := by
  show if true = true then A H else B H
  rw [if_pos rfl]
  exact h
section
variable {α : Type} {J : It} {xs : List α} {Y : α → Hp → V → Hp → Prop} {S : Hp → Prop} {g : TG}
/-- a for loop by an invariant -/
theorem for_over {tb : TS} {D : Ends} {σ : L2.St} {H : Hp} (o : Over J xs Y S) (Pv : Nat → L2.St → Hp → Prop) (h0 : Pv 0 σ H)
    (hS : ∀ i σ H, i ≤ xs.length → Pv i σ H → S H)
    (hs : ∀ i x σ H v H', xs[i]? = some x → Pv i σ H → Y x H v H' → g v σ H' fun σ2 H2 => tb { D with nx := Pv (i + 1), ct := Pv (i + 1), bk := D.nx } σ2 H2)
    (hd : ∀ σ H, Pv xs.length σ H → D.nx σ H) :
    ∃ W : Nat → Nat → L2.St → Hp → Prop, (∃ m, W 0 m σ H) ∧ ∀ i m σ H, W i m σ H → (J.stop i H ∧ D.nx σ H) ∨ (J.go i H ∧
      ∃ N : L2.St → Hp → Prop, (∀ σ' H', N σ' H' → ∃ m', m' < m ∧ W (i + 1) m' σ' H') ∧
        ∀ x H', J.yld i H x H' → g x σ H' fun σ2 H2 => tb { D with nx := N, ct := N, bk := D.nx } σ2 H2) := by
  refine ⟨fun i m σ H => m = xs.length - i ∧ i ≤ xs.length ∧ Pv i σ H, ⟨xs.length, rfl, Nat.zero_le _, h0⟩, ?_⟩
  rintro i m σ H ⟨rfl, hi, p⟩
  have s := hS i σ H hi p
  by_cases hl : i < xs.length
  · have e : xs[i]? = some xs[i] := List.getElem?_eq_getElem hl
    refine .inr ⟨o.go i _ H e s, Pv (i + 1), fun σ' H' p' => ⟨xs.length - (i + 1), by omega, rfl, hl, p'⟩, fun v H' y => ?_⟩
    exact hs i _ σ H v H' e p (o.yl i _ H v H' e s y)
  · have e : i = xs.length := by omega
    subst e
    exact .inl ⟨o.st H s, hd σ H p⟩
/-- a comprehension by an invariant -/
theorem lc_over {tt : TT} {te : TE} {vs : List Nat} {σ : L2.St} {H1 : Hp} {D : Addr} {Qd : Hp → Prop} (o : Over J xs Y S) (Pv : Nat → Hp → Prop)
    (h0 : Pv 0 (upd H1 D (.lst []))) (hS : ∀ i H, i ≤ xs.length → Pv i H → S H)
    (hs : ∀ i x H v H', xs[i]? = some x → Pv i H → Y x H v H' → g v (wipe σ vs) H' fun σ2 H2 => wipe σ2 vs = wipe σ vs ∧ tt σ2 H2 fun b H3 =>
      if b = true then te σ2 H3 fun y H4 => ∃ acc, H4 D = some (.lst acc) ∧ acc.length < sizeLine ∧ Pv (i + 1) (upd H4 D (.lst (acc ++ [y]))) else Pv (i + 1) H3)
    (hd : ∀ H, Pv xs.length H → Qd H) :
    ∃ W : Nat → Nat → Hp → Prop, (∃ m, W 0 m (upd H1 D (.lst []))) ∧ ∀ i m H, W i m H → (J.stop i H ∧ Qd H) ∨ (J.go i H ∧
      ∃ Nx : Hp → Prop, (∀ H', Nx H' → ∃ m', m' < m ∧ W (i + 1) m' H') ∧ ∀ x H', J.yld i H x H' → g x (wipe σ vs) H' fun σ2 H2 => wipe σ2 vs = wipe σ vs ∧ tt σ2 H2 fun b H3 =>
        if b = true then te σ2 H3 fun y H4 => ∃ acc, H4 D = some (.lst acc) ∧ acc.length < sizeLine ∧ Nx (upd H4 D (.lst (acc ++ [y]))) else Nx H3) := by
  refine ⟨fun i m H => m = xs.length - i ∧ i ≤ xs.length ∧ Pv i H, ⟨xs.length, rfl, Nat.zero_le _, h0⟩, ?_⟩
  rintro i m H ⟨rfl, hi, p⟩
  have s := hS i H hi p
  by_cases hl : i < xs.length
  · have e : xs[i]? = some xs[i] := List.getElem?_eq_getElem hl
    refine .inr ⟨o.go i _ H e s, Pv (i + 1), fun H' p' => ⟨xs.length - (i + 1), by omega, rfl, hl, p'⟩, fun v H' y => ?_⟩
    exact hs i _ H v H' e p (o.yl i _ H v H' e s y)
  · have e : i = xs.length := by omega
    subst e
    exact .inl ⟨o.st H s, hd H p⟩
theorem take_map_succ {β : Type} {f : α → Option β} {i : Nat} {x : α} (e : xs[i]? = some x) :
    (xs.take (i + 1)).filterMap f = (xs.take i).filterMap f ++ (f x).toList := by
  rw [List.take_add_one, e, List.filterMap_append]
  cases h : f x <;> simp [h]
/-- a comprehension whose element (and test) changes nothing that stood: the i-th item gives f x -/
theorem lc_pure {tt : TT} {te : TE} {vs : List Nat} {σ : L2.St} {H1 : Hp} {D : Addr} {Qd : Hp → Prop} (o : Over J xs Y S) (f : α → Option V)
    (nD : H1 D = none) (hn : xs.length ≤ sizeLine) (hS : ∀ H, Same H1 H → S H)
    (hs : ∀ x ∈ xs, ∀ H v H' (Nx : Option V → Hp → Prop), Same H1 H → Y x H v H' → (∀ H'', Same H H'' → Nx (f x) H'') →
      g v (wipe σ vs) H' fun σ2 H2 => wipe σ2 vs = wipe σ vs ∧ tt σ2 H2 fun b H3 => if b = true then te σ2 H3 fun y H4 => Nx (some y) H4 else Nx none H3)
    (hd : ∀ H, Same H1 H → H D = some (.lst (xs.filterMap f)) → Qd H) :
    ∃ W : Nat → Nat → Hp → Prop, (∃ m, W 0 m (upd H1 D (.lst []))) ∧ ∀ i m H, W i m H → (J.stop i H ∧ Qd H) ∨ (J.go i H ∧
      ∃ Nx : Hp → Prop, (∀ H', Nx H' → ∃ m', m' < m ∧ W (i + 1) m' H') ∧ ∀ x H', J.yld i H x H' → g x (wipe σ vs) H' fun σ2 H2 => wipe σ2 vs = wipe σ vs ∧ tt σ2 H2 fun b H3 =>
        if b = true then te σ2 H3 fun y H4 => ∃ acc, H4 D = some (.lst acc) ∧ acc.length < sizeLine ∧ Nx (upd H4 D (.lst (acc ++ [y]))) else Nx H3) := by
  refine lc_over o (fun i H => Same H1 H ∧ H D = some (.lst ((xs.take i).filterMap f))) ⟨same_new nD, upd_same⟩ (fun i H _ p => hS H p.1) ?_ ?_
  · rintro i x H v H' e ⟨s, hD⟩ y
    have hi := (List.getElem?_eq_some_iff.mp e).1
    refine hs x (List.mem_of_getElem? e) H v H' (fun oy H4 => match oy with
      | some y => ∃ acc, H4 D = some (.lst acc) ∧ acc.length < sizeLine ∧ (Same H1 (upd H4 D (.lst (acc ++ [y]))) ∧ (upd H4 D (.lst (acc ++ [y]))) D = some (.lst ((xs.take (i + 1)).filterMap f)))
      | none => Same H1 H4 ∧ H4 D = some (.lst ((xs.take (i + 1)).filterMap f))) s y ?_
    intro H4 s4
    cases hf : f x with
    | none =>
      refine ⟨s.trans s4, ?_⟩
      rw [s4 _ _ hD, take_map_succ e, hf]
      simp
    | some y =>
      refine ⟨_, s4 _ _ hD, ?_, fun b u z => ?_, ?_⟩
      · have := List.length_filterMap_le f (xs.take i)
        rw [List.length_take] at this
        omega
      · rw [upd_ne (ne_of_none z nD)]
        exact s4 _ _ (s _ _ z)
      · rw [upd_same, take_map_succ e, hf]
        rfl
  · rintro H ⟨s, hD⟩
    rw [List.take_length] at hD
    exact hd H s hD
end
end Eu
set_option Elab.async false
set_option linter.all false
set_option maxRecDepth 100000
set_option maxHeartbeats 4000000
namespace Eu
open PySem PySem.Spec PyProof.Rows L2
/-- a text n times -/
def repS (z : Str) (n : Nat) : Str := ⟨(List.replicate n z.cps.toList).flatten.toArray⟩
theorem repS_len (z : Str) (n : Nat) : (repS z n).length = n * z.length := by
  show (List.replicate n z.cps.toList).flatten.toArray.size = n * z.cps.size
  rw [List.size_toArray]
  simp [List.length_flatten]
theorem repS_fold (z : Str) (n : Nat) : (⟨(List.replicate n z.cps).foldl (· ++ ·) #[]⟩ : Str) = repS z n := by
  have gen : ∀ (n : Nat) (acc : Array Nat), ((List.replicate n z.cps).foldl (· ++ ·) acc).toList = acc.toList ++ (List.replicate n z.cps.toList).flatten := by
    intro n
    induction n with
    | zero => intro acc; simp
    | succ n ih =>
      intro acc
      rw [List.replicate_succ, List.foldl_cons, ih, List.replicate_succ, List.flatten_cons, Array.toList_append, List.append_assoc]
  have e := gen n #[]
  unfold repS
  congr 1
  apply Array.ext'
  rw [e]
  simp
section
variable {X : Cx}
def rRepS : R2 := fun x y H Q => ∃ (z : Str) (k : Int), x = .str z ∧ y = .int k ∧ 0 ≤ k ∧ k ≤ 10000 ∧ z.length ≤ 1000 ∧ Q (.str (repS z k.toNat)) H
theorem op_rep_str : OpR X (binaryOp .Mult) rRepS := by
  intro pins s σ H x y v u Q I rx ry h
  obtain ⟨z, k, rfl, rfl, k0, k1, hz, q⟩ := h
  obtain ⟨t, rfl⟩ := rx
  obtain ⟨t', rfl⟩ := ry
  have hl := sizeLine_eq
  have fin : ∀ m : Str, m = repS z k.toNat → EP X pins σ Q (.str m s.toks) { s with toks := s.toks + 1 } := fun m e => by
    rw [e]
    exact ⟨.str _, H, I.tok _, ⟨_, rfl⟩, q⟩
  have hm : z.length * k.toNat ≤ 10000000 := by
    have : k.toNat ≤ 10000 := by omega
    calc z.length * k.toNat ≤ 1000 * 10000 := Nat.mul_le_mul hz this
      _ = 10000000 := by decide
  refine PySem.P.mul_str (by rw [decide_eq_false (by omega), decide_eq_false (by omega)]; rfl) ?_ ?_ ?_
  · intro h1 h2
    have : (1000 : Int) ≤ (2 ^ 63 - 1) / k := by
      apply Int.le_ediv_of_mul_le (by omega)
      omega
    omega
  · intro h1 h2
    unfold Builtin.Str.tooLong
    exact decide_eq_false (by omega)
  · split
    · rename_i h1
      have e : k = 0 := by omega
      subst e
      exact ⟨by decide, fin _ rfl⟩
    · split
      · rename_i h1 h2
        refine ⟨.str z, H, I, ⟨_, rfl⟩, ?_⟩
        have e : repS z k.toNat = z := by
          rw [Bool.or_eq_true, beq_iff_eq, beq_iff_eq] at h2
          rcases h2 with e | e
          · subst e
            show (⟨(List.replicate 1 z.cps.toList).flatten.toArray⟩ : Str) = z
            simp
          · have ez : z.cps = #[] := Array.eq_empty_of_size_eq_zero e
            unfold repS
            obtain ⟨zc⟩ := z
            have ez' : zc = #[] := ez
            subst ez'
            simp
        rw [e] at q
        exact q
      · refine ⟨?_, fin _ (repS_fold z _)⟩
        rw [repS_fold, repS_len, Nat.mul_comm]
        omega
end
end Eu
set_option Elab.async false
set_option linter.all false
set_option maxRecDepth 100000
set_option maxHeartbeats 4000000
namespace Eu
open PySem PySem.Spec PyProof.Rows L2

/-! ### the law's own call -/
section
variable {P : Program} {w : World} {K : PySem.W.Frag} {mg mb : Str → Option Value} {k : Nat} {fa a : Addr} {fd : FuncData} {x : Str}
  {sp : Sp} {s1 : Shared} {vs : List Value} {ns : List Int}
/-- what the caller wants -/
abbrev Wish (s1 : Shared) : Result → Shared → Prop := fun r s' =>
  r = .ok (.ret (.bool true)) ∧ OldK s1.heap s'.heap ∧ s'.os = s1.os ∧ AllBare s'.gens

theorem call_core (KX : K.In s1.heap) (hns : s1.heap.Ns mainGlobals mg) (hb : s1.heap.Ns builtinsNs mb)
    (hbb : ∀ x : Str, x ≠ "__name__" → mb x = bootBuiltins x) (hlim : s1.heap.NoLimit) (hg : s1.gens = #[])
    (ha : s1.heap.get? a = some { cls := .type "list", data := .seq vs.toArray }) (hr : Rm k callerA)
    (F : ∀ base : Heap, K.In base → base.Ns mainGlobals mg → Ok P w K mg base CX0 k fa fd [x] sp)
    (hbind : ∀ (s : Shared) (u : Value), BindsTo s fd ⟨[u], []⟩ [(x, u)])
    (H : Hp) (hO : Only H) (hok : HOk P w H s1.heap) (hA : ∀ b, H b ≠ none → b = a) (hK : H a ≠ none → K.lookup a = none)
    (hsp : sp [.ref a] H (fun v _ => v = .bl true) fun _ _ _ => False) :
    codeAny (model P w) callerA (.call (.ref fa) ⟨[.ref a], []⟩) (Wish s1) s1 := by
  have only_a : ∀ {b : Addr} {u : HO}, H b = some u → b = a := fun {b u} e => hA b (by rw [e]; exact fun z => nomatch z)
  have dict_free : ∀ {b : Addr} {o : Obj} {es : Array DictEntry} {ep : Nat}, s1.heap.get? b = some o → o.data = .dict es ep → H b = none := by
    intro b o es ep e d
    cases q : H b with
    | none => rfl
    | some u =>
      have e' := only_a q
      subst e'
      rw [ha] at e
      cases e
      have : Data.seq vs.toArray _ = Data.dict es ep := d
      cases this
  have ns_keep : ∀ {b : Addr} {m : Str → Option Value}, s1.heap.Ns b m → (hidT s1.heap H).Ns b m := by
    rintro b m ⟨o, es, ep, e, d, r⟩
    exact ⟨o, es, ep, hidT_get e (dict_free e d), d, r⟩
  have kb : K.In (hidT s1.heap H) := by
    intro b o e
    refine hidT_get (KX b o e) ?_
    cases q : H b with
    | none => rfl
    | some u =>
      have e' := only_a q
      subst e'
      have := hK (by rw [q]; exact fun z => nomatch z)
      rw [this] at e
      cases e
  have lim : (hidT s1.heap H).NoLimit := by
    obtain ⟨mc, h1, h2⟩ := hlim
    exact ⟨mc, ns_keep h1, h2⟩
  have md : Mod K mg (hidT s1.heap H) := ⟨kb, ns_keep hns, ⟨mb, ns_keep hb, hbb⟩, lim⟩
  have e0 : Env0 P w K mg (hidT s1.heap H) callerA [] s1 H := by
    refine ⟨rfl, md, fun b o e => of_hidT e, Nat.le_of_eq (hidT_size _ _), trivial, ?_, hok, .of_eq hg⟩
    intro b hb
    cases hb
  have run := (F _ kb (ns_keep hns)).go callerA [] s1 H ⟨[.ref a], []⟩ [.ref a] [.ref a] _ _ hr e0 (hbind s1 (.ref a)) (.cons rfl .nil) hsp
  refine codeAny_mono run ?_
  intro r s' h
  match r, h with
  | .error e, h => exact False.elim h
  | .ok .next, h => exact False.elim h
  | .ok .brk, h => exact False.elim h
  | .ok .cont, h => exact False.elim h
  | .ok (.ret u), h =>
    obtain ⟨v, H', os, bare, un, hok', r', q⟩ := h
    have q' : v = .bl true := q
    subst q'
    have r2 : u = Value.bool true := r'
    subst r2
    refine ⟨rfl, OldK.of_keep ?_, os, bare⟩
    intro b o e
    cases q : H b with
    | none => exact un.keep b o e q (fun z => by cases z) (fun z => by cases z)
    | some u =>
      cases hO b with
      | inl z => rw [q] at z; cases z
      | inr z =>
        obtain ⟨ob, xs, z⟩ := z
        have z2 := un.frzs b ob _ z
        have e1 := (hok b _ z).1
        rw [e] at e1
        cases e1
        exact (hok' b _ z2).1

theorem call_law (KX : K.In s1.heap) (hns : s1.heap.Ns mainGlobals mg) (hb : s1.heap.Ns builtinsNs mb)
    (hbb : ∀ x : Str, x ≠ "__name__" → mb x = bootBuiltins x) (hlim : s1.heap.NoLimit) (hg : s1.gens = #[])
    (ha : s1.heap.get? a = some { cls := .type "list", data := .seq vs.toArray }) (hi : IntsAre vs ns) (hl : ns.length ≤ sizeLine) (hr : Rm k callerA)
    (F : ∀ base : Heap, K.In base → base.Ns mainGlobals mg → Ok P w K mg base CX0 k fa fd [x] sp)
    (hbind : ∀ (s : Shared) (u : Value), BindsTo s fd ⟨[u], []⟩ [(x, u)])
    (hsp : ∀ H : Hp, SqL K H a (ns.map V.int) → sp [.ref a] H (fun v _ => v = .bl true) fun _ _ _ => False) :
    codeAny (model P w) callerA (.call (.ref fa) ⟨[.ref a], []⟩) (Wish s1) s1 := by
  have rv := vals_ints hi
  have lenV := hi.length
  cases hk : K.lookup a with
  | some o =>
    have e := KX a o hk
    rw [ha] at e
    cases e
    refine call_core KX hns hb hbb hlim hg ha hr F hbind (fun _ => none) (fun _ => .inl rfl) ?_ (fun b z => absurd rfl z) (fun z => absurd rfl z) (hsp _ ?_)
    · intro b u z
      cases z
    · refine .inr ⟨_, vs.toArray, _, hk, rfl, rfl, rfl, ?_, ?_⟩
      · rw [List.size_toArray, lenV]; exact hl
      · rw [show vs.toArray.toList = vs from rfl]; exact rv
  | none =>
    let o : Obj := { cls := .type "list", data := .seq vs.toArray }
    let H : Hp := fun b => if b = a then some (.frz o (.lst (ns.map V.int))) else none
    have Ha : H a = some (.frz o (.lst (ns.map V.int))) := if_pos rfl
    have Hn : ∀ {b}, b ≠ a → H b = none := fun hb => if_neg hb
    refine call_core KX hns hb hbb hlim hg ha hr F hbind H ?_ ?_ ?_ (fun _ => hk) (hsp _ (.inl (.inr ⟨o, Ha⟩)))
    · intro b
      by_cases e : b = a
      · subst e; exact .inr ⟨_, _, Ha⟩
      · exact .inl (Hn e)
    · intro b u z
      by_cases e : b = a
      · subst e
        rw [Ha] at z
        cases z
        refine ⟨ha, ?_, vs, _, rv, ha⟩
        rw [List.length_map]; exact hl
      · rw [Hn e] at z
        cases z
    · intro b z
      by_cases e : b = a
      · exact e
      · exact absurd (Hn e) z
end
/-- a law's promise: any script of at most 63 ints, True comes out -/
def spLaw (K : PySem.W.Frag) : Sp := fun vs H Q _ => ∃ (a : Addr) (ns : List Int), vs = [.ref a] ∧ SqL K H a (ns.map V.int) ∧ ns.length ≤ 63 ∧ ∀ H', Q (.bl true) H'
theorem walk_ok {l : PySem.W.OpenLaw} {k : Nat} {q : Program} {loose : List Str} {XP : (Str → Option Value) → Heap → Prop} {YP : World → Heap → Prop}
    {d : DefRec} {K : Params → PySem.W.Frag} {x : Str} (hn : l.most = some 63) (hdf : d.params.defaults = []) (hr : Rm k callerA)
    (hY : ∀ (w : World) (h : Heap), YP w h → (K w.params).In h)
    (F : ∀ (w : World) (mg : Str → Option Value) (fa : Addr) (h : Heap), (K w.params).In h → h.Ns mainGlobals mg → mg d.name = some (.ref fa) →
      ∃ fd : FuncData, (∀ (s : Shared) (u : Value), BindsTo s fd ⟨[u], []⟩ [(x, u)]) ∧
        ∀ base : Heap, (K w.params).In base → base.Ns mainGlobals mg → Ok l.prog w (K w.params) mg base CX0 k fa fd [x] (spLaw (K w.params))) :
    PySem.W.WalkO q loose XP YP l.row.toRowW d [] (fun f vs => PySem.call f vs) := by
  refine Att.attach_call hn hdf ?_
  intro w s0 s1 mg mb fa o pm cd doc a vs ns G Y ho hd hcd hmg hobj hints hlen hg
  have KX := hY w _ Y
  obtain ⟨fd, hb, hF⟩ := F w mg fa _ KX G.T.g hmg
  exact call_law KX G.T.g G.T.b G.T.builtins G.T.nolimit hg hobj hints (Nat.le_trans hlen (by decide)) hr hF hb fun H hS => ⟨a, ns, rfl, hS, hlen, fun _ => rfl⟩
/-- from a def's place to what walk_ok wants -/
theorem law_fn {P : Program} {w : World} {K : PySem.W.Frag} {mg : Str → Option Value} {k : Nat} {x : Str} {st : Stmt} {N : List Str} {sp : Sp} {nm : Str} {fa : Addr}
    (D : Df K mg nm st) (hfa : mg nm = some (.ref fa)) (S : FnScope N [x] (defScope st))
    (hbd : ∀ (kV doc pm : Value) (an : Option Addr) (cdv ct : Value) (us : List Value), us.length = 1 →
      bindArgs (PySem.W.fnOf nm nm (defArgs st) (defBody st) (defScope st) .none kV doc pm an cdv ct) ⟨us, []⟩ = pure ([x].zip us))
    (len : ∀ vs H Q E, sp vs H Q E → vs.length = 1)
    (hb : ∀ (base : Heap), K.In base → base.Ns mainGlobals mg → ∀ (f : Addr) (cdv : Value) (A : Around) (out : List Env) (s : Shared) (H : Hp) (vs : List V) (Q : VK) (E : XK),
      Rm k (A.deeper (envOfC nm (defScope st) s.heap.objs.size f cdv)) → sp vs H Q E →
      ∃ t, PSs (cxOf CX0 P w K mg base N nm (defScope st) f cdv A out s H E).nox (defBody st) t ∧
        t { nx := fun _ H' => Q .non H', rt := Q } (start N vs) H) :
    ∃ fd : FuncData, (∀ (s : Shared) (u : Value), BindsTo s fd ⟨[u], []⟩ [(x, u)]) ∧
      ∀ base : Heap, K.In base → base.Ns mainGlobals mg → Ok P w K mg base CX0 (k + 1) fa fd [x] sp := by
  obtain ⟨f, oc, od, kV, doc, pm, an, cdv, ct, osl, l, c, kp, m⟩ := D.ex
  have e := hfa.symm.trans m
  cases e
  refine ⟨_, fun s u => .of_eq (hbd kV doc pm an cdv ct [u] rfl), fun base h1 h2 => ok_body l c S len ?_⟩
  intro A out s H vs Q E hr hs
  obtain ⟨t, h, q⟩ := hb base h1 h2 fa cdv A out s H vs Q E hr hs
  exact ⟨t, h.nox, q⟩

/-! ### repr of a dict with one entry -/
section
variable {X : Cx}
def rReprD : List V → Hp → VK → Prop := fun xs H Q =>
  ∃ (a : Addr) (i : Int) (z : Str), xs = [.ref a] ∧ H a = some (.dK [(Sum.inl i, .str z)]) ∧ fine (.dict [(.int i, .str z)]) = true ∧ z.length ≤ 100000 ∧ Q (.str (PyData.dict [(.int i, .str z)]).shown) H
theorem call_reprD {j : Nat} (hr : Rm j X.A) : CallR X (.builtin "repr") rReprD := by
  intro pins s σ H xs us Q I r h
  obtain ⟨a, i, z, rfl, ha, hf, hz, q⟩ := h
  obtain ⟨u, rfl, rx⟩ := vals1 r
  have hu := hr.rm.un
  cases (show u = Value.ref a from rx)
  obtain ⟨_, hsys, vs, kv, dof⟩ := (show ObjOk X.prog X.w H s.heap a (.dK [(Sum.inl i, .str z)]) from I.hok a _ ha)
  cases kv with
  | @cons p q1 ps qs h1 h2 =>
    cases h2
    obtain ⟨k0, v0⟩ := q1
    obtain ⟨e1, t, e2⟩ := h1
    simp only at e1 e2
    subst e1 e2
    obtain ⟨es, ep, ⟨o, ho, hc, hd⟩, hsz, hat⟩ := PySem.Heap.DictOf.raw dof
    have h0 : 0 < es.size := by rw [hsz]; exact Nat.one_pos
    obtain ⟨hk, hv⟩ := hat 0 h0 _ _ rfl
    have hkey : ∃ t', es[0].key = Value.int i t' := by
      rcases keyIs_shape (show keyIs (Sum.inl i) es[0].key = true from hk) with ⟨i', t', e, e'⟩ | ⟨x, t', e, e'⟩
      · cases e; exact ⟨t', e'⟩
      · cases e
    obtain ⟨t', hkey⟩ := hkey
    have el : es.toList = [es[0]] := by
      apply List.ext_getElem
      · simpa using hsz
      · intro n h1 h2
        have : n = 0 := by simpa using h2
        subst this
        simp
    have rd : Reads s.heap (.ref a) (.dict [(.int i, .str z)]) (a :: [] ++ []) := by
      refine Reads.dict ho hc.1 hd ?_ ?_
      · rw [el]
        show ReadsAll s.heap [es[0].key] [.int i] ([] ++ [])
        rw [hkey]
        exact .cons (.int _ _) .nil
      · rw [el]
        show ReadsAll s.heap [es[0].val] [.str z] ([] ++ [])
        rw [hv]
        exact .cons (.str _ _) .nil
    have hsm : sysModules ∉ a :: [] ++ [] := by
      intro hm
      have : sysModules = a := by simpa using hm
      rw [this] at hsys
      simp at hsys
    have hlen : (PyData.dict [(.int i, .str z)]).shown.length ≤ sizeLine := by
      have := shown_le _ hf
      have e : cost (.dict [(.int i, .str z)]) = 1921 + 2 + (10 * z.length + 2) + 2 + 0 + 2 := rfl
      rw [sizeLine_eq]
      omega
    refine repr_of_reads' rd (fine_showable _ hf) (fun _ => hsm) hr.gd ?_ (fun _ _ z => z) ?_ hlen
    · show X.A.units + (max (max 0 0) 0 + 1 + 1) < cLine
      omega
    · intro h' u tk hk
      exact ⟨.str _, H, I.kept hk, ⟨_, rfl⟩, q⟩
end
/-! ### items of lists of data -/
theorem dpAll_at {K : PySem.W.Frag} {H : Hp} : ∀ {xs : List V} {ds : List PyData}, DpAll K H xs ds → ∀ {n : Nat}, n < ds.length → ∃ x d, xs[n]? = some x ∧ d ∈ ds ∧ Dp K H x d
  | _, _, .nil, n, h => absurd h (Nat.not_lt_zero _)
  | _, _, .cons h1 _, 0, _ => ⟨_, _, rfl, List.mem_cons_self, h1⟩
  | _, _, .cons _ h2, n + 1, h => by
    obtain ⟨x, d, e, m, p⟩ := dpAll_at h2 (n := n) (by simpa using h)
    exact ⟨x, d, by simpa using e, List.mem_cons_of_mem _ m, p⟩
theorem dp_item {K : PySem.W.Frag} {H : Hp} {xs : List V} {ds : List PyData} (h : DpAll K H xs ds) {i : Int} (h0 : 0 ≤ i) (h1 : i < (ds.length : Int)) :
    ∃ x d, atI xs i = some x ∧ d ∈ ds ∧ Dp K H x d := by
  obtain ⟨x, d, e, m, p⟩ := dpAll_at h (n := i.toNat) (by omega)
  exact ⟨x, d, at_of (j := i.toNat) (by omega) e, m, p⟩
end Eu
set_option Elab.async false
set_option linter.all false
set_option maxRecDepth 100000
set_option maxHeartbeats 4000000
namespace Eu
open PySem PySem.Spec PyProof.Rows L2

/-! ### methods, and objects made -/
theorem Rm.make {k : Nat} {A : Around} (r : Rm (k + 1) A) (C : Addr) (us : List Value) (kw : List (Str × Value)) : Rm k (A.under (.builtin "type.__call__" ⟨.ref C :: us, kw⟩)) := by
  refine ⟨r.rm.make C us kw, ?_⟩
  have e : (Code.builtin "type.__call__" ⟨.ref C :: us, kw⟩).guards = [] := by
    first | rfl | simp [Code.guards, Code.isGuard, guardIds]
  show pushGuards (Code.builtin "type.__call__" ⟨.ref C :: us, kw⟩).guards A.guards = some []
  rw [e, r.gd]
  rfl

structure Met (P : Program) (w : World) (K : PySem.W.Frag) (mg : Str → Option Value) (base : Heap) (k : Nat) (C : Addr) (m : Str) (sp : Sp) (dvs : List V) : Prop where
  ex : ∃ (f : Addr) (fd : FuncData) (ps : List Str) (ds : List Value), Cls K C ∧ Meth K C m f ∧ Ok P w K mg base CX0 k f fd ps sp ∧ Binds K fd ps ds ∧ Vals dvs ds
structure Mak (P : Program) (w : World) (K : PySem.W.Frag) (mg : Str → Option Value) (base : Heap) (k : Nat) (x : Str) (C : Addr) (sp : Sp) (dvs : List V) : Prop where
  ex : ∃ (f : Addr) (fd : FuncData) (ps : List Str) (ds : List Value), Mk K C f ∧ Ok P w K mg base CX0 k f fd ps sp ∧ mg x = some (.ref C) ∧ Binds K fd ps ds ∧ Vals dvs ds
/-- a method of the class at C, as the top has left it -/
structure Dm (K : PySem.W.Frag) (C : Addr) (m qual : Str) (st : Stmt) (dvs : List V) : Prop where
  ex : ∃ (f : Addr) (oc : Value) (od : Option Addr) (dV kV doc pm : Value) (an : Option Addr) (cdv ct : Value) (osl : Array (Option Value)),
    K.lookup f = some ⟨oc, od, .func (PySem.W.fnOf m qual (defArgs st) (defBody st) (defScope st) dV kV doc pm an cdv ct), osl⟩ ∧
    PySem.W.codeIn K cdv qual = true ∧ Meth K C m f ∧ DflV K dV dvs

section
variable {P : Program} {w : World} {K : PySem.W.Frag} {mg : Str → Option Value} {base : Heap}
theorem Dm.met {C : Addr} {m qual : Str} {st : Stmt} {N ps : List Str} {k : Nat} {sp : Sp} (D : Dm K C m qual st []) (c : Cls K C) (S : FnScope N ps (defScope st))
    (hbd : ∀ (kV doc pm : Value) (an : Option Addr) (cdv ct : Value) (us : List Value), us.length = ps.length →
      bindArgs (PySem.W.fnOf m qual (defArgs st) (defBody st) (defScope st) .none kV doc pm an cdv ct) ⟨us, []⟩ = pure (ps.zip us))
    (len : ∀ vs H Q E, sp vs H Q E → vs.length = ps.length)
    (hb : ∀ (f : Addr) (cdv : Value) (A : Around) (out : List Env) (s : Shared) (H : Hp) (vs : List V) (Q : VK) (E : XK),
      Rm k (A.deeper (envOfC qual (defScope st) s.heap.objs.size f cdv)) → sp vs H Q E →
      ∃ t, PSs (cxOf CX0 P w K mg base N qual (defScope st) f cdv A out s H E).nox (defBody st) t ∧
        t { nx := fun _ H' => Q .non H', rt := Q } (start N vs) H) : Met P w K mg base (k + 1) C m sp [] := by
  obtain ⟨f, oc, od, dV, kV, doc, pm, an, cdv, ct, osl, l, cd, me, dd⟩ := D.ex
  rcases dd with ⟨_, e⟩ | ⟨e, _⟩
  · subst e
    refine ⟨f, _, ps, [], c, me, ok_body l cd S len ?_, .all (hbd kV doc pm an cdv ct), .nil⟩
    intro A out s H vs Q E hr hs
    obtain ⟨t, h, q⟩ := hb f cdv A out s H vs Q E hr hs
    exact ⟨t, h.nox, q⟩
  · exact absurd rfl e
/-- an __init__ with one default (the last parameter): called with n values, or with all but the last -/
theorem Dm.mak1 {C : Addr} {x qual : Str} {st : Stmt} {N ps : List Str} {k n : Nat} {sp : Sp} {dv : V} (D : Dm K C "__init__" qual st [dv]) (mkC : PySem.W.makesIn K C = true) (kpC : PySem.W.keepIn K (.ref C) = true) (hm : mg x = some (.ref C))
    (S : FnScope N ps (defScope st)) (hn : n + 1 = ps.length)
    (hall : ∀ (T : Addr) (kV doc pm : Value) (an : Option Addr) (cdv ct : Value) (us its : List Value), us.length = n + 1 → its.length = 1 →
      ∃ k, bindArgs (PySem.W.fnOf "__init__" qual (defArgs st) (defBody st) (defScope st) (.ref T) kV doc pm an cdv ct) ⟨us, []⟩ = seqItems? (.ref T) >>= k ∧ k (some its.toArray) = pure (ps.zip (us ++ its.drop 1)))
    (hone : ∀ (T : Addr) (kV doc pm : Value) (an : Option Addr) (cdv ct : Value) (us its : List Value), us.length = n → its.length = 1 →
      ∃ k, bindArgs (PySem.W.fnOf "__init__" qual (defArgs st) (defBody st) (defScope st) (.ref T) kV doc pm an cdv ct) ⟨us, []⟩ = seqItems? (.ref T) >>= k ∧ k (some its.toArray) = pure (ps.zip (us ++ its.drop 0)))
    (len : ∀ vs H Q E, sp vs H Q E → vs.length = ps.length)
    (hb : ∀ (f : Addr) (cdv : Value) (A : Around) (out : List Env) (s : Shared) (H : Hp) (vs : List V) (Q : VK) (E : XK),
      Rm k (A.deeper (envOfC qual (defScope st) s.heap.objs.size f cdv)) → sp vs H Q E →
      ∃ t, PSs (cxOf CX0 P w K mg base N qual (defScope st) f cdv A out s H E).nox (defBody st) t ∧
        t { nx := fun _ H' => Q .non H', rt := Q } (start N vs) H) : Mak P w K mg base (k + 1) x C sp [] ∧ Mak P w K mg base (k + 1) x C sp [dv] := by
  obtain ⟨f, oc, od, dV, kV, doc, pm, an, cdv, ct, osl, l, cd, me, dd⟩ := D.ex
  have F : FunD K "__init__" qual (defArgs st) (defBody st) (defScope st) [dv] [] f (PySem.W.fnOf "__init__" qual (defArgs st) (defBody st) (defScope st) dV kV doc pm an cdv ct) :=
    ⟨⟨oc, od, dV, kV, doc, pm, an, cdv, ct, osl, rfl, l, cd, dd, .inl rfl⟩, me.kp⟩
  obtain ⟨d1, v1, b1⟩ := F.binds1 (n + 1) 1 (by simp) (by simpa using hn) hall
  obtain ⟨d2, v2, b2⟩ := F.binds1 n 0 (by simp) (by simpa using hn) hone
  have o : Ok P w K mg base CX0 (k + 1) f (PySem.W.fnOf "__init__" qual (defArgs st) (defBody st) (defScope st) dV kV doc pm an cdv ct) ps sp := by
    refine ok_body l cd S len ?_
    intro A out s H vs Q E hr hs
    obtain ⟨t, h, q⟩ := hb f cdv A out s H vs Q E hr hs
    exact ⟨t, h.nox, q⟩
  have M : Mk K C f := ⟨mkC, me.at_, me.fn, kpC⟩
  exact ⟨⟨f, _, ps, d1, M, o, hm, b1, v1⟩, ⟨f, _, ps, d2, M, o, hm, b2, v2⟩⟩
end

section
variable {X : Cx} {k j : Nat} {C f : Addr} {fd : FuncData} {ps : List Str} {x m : Str} {sp : Sp} {dvs : List V} {ds : List Value} {p pos apos : Pos} {e o : Expr} {es : List Expr} {ta : TE} {t : TA}
theorem pe_mt {pl : Sem Bool} (c : Met X.prog X.w X.K X.mg X.base k C m sp dvs) (hr : Rm j X.A) (hk : k ≤ j) (he : PE X o ta) (ha : PA X (e :: es) t)
    (hst : starEach (e :: es) X.env = (false, eval e X.env) :: starEach es X.env := by rfl)
    (hpl : (backTo pos (starEach es X.env)).any (·.1) = false := by rfl)
    (ht : eval (.Call (.Attribute o m apos) (e :: es) [] pos) X.env = (do
      let v ← eval o X.env
      standAt apos.atName
      let (g, l) ← holding [v] (getMethod v m pl)
      callWith pos g l (backTo pos (starEach (e :: es) X.env)) (backToKw pos (keywordEach [] X.env))) := by rfl) :
    PE X (.Call (.Attribute o m apos) (e :: es) [] pos) (tMeth C m sp dvs E0 ta t) := by
  obtain ⟨f, fd, ps, ds, hc, hm, ok, b, d⟩ := c.ex
  constructor
  intro pins s σ H Q I h
  refine PySem.W.methodCall_KW (pl := pl) (thn (he.run pins s σ H _ I h) ?_) ht
  rintro u s1 ⟨y, H1, I1, ry, a, dx, fs, ey, ea, l, q⟩
  subst ey
  have eu : u = Value.ref a := ry
  subst eu
  refine getmeth_ok I1 ea hc hm l ?_
  refine PySem.W.callWith_K (first := [.ref a]) (h₀ := X.base) I.ok.mod.kin hm.kp (thn (ha.run pos pins s1 σ H1 _ I1 q) ?_) hst hpl
  rintro us s2 ⟨vs, H2, I2, r, q2⟩
  exact ⟨I2.kIn, run_ok (us := .ref a :: us) (vs := .ref a :: vs) ok (hr.mono hk) b d pass0 I2 (.cons rfl r) q2⟩
theorem pe_mt0 {pl : Sem Bool} (c : Met X.prog X.w X.K X.mg X.base k C m sp dvs) (hr : Rm j X.A) (hk : k ≤ j) (he : PE X o ta)
    (ht : eval (.Call (.Attribute o m apos) [] [] pos) X.env = (do
      let v ← eval o X.env
      standAt apos.atName
      let (g, l) ← holding [v] (getMethod v m pl)
      callWith pos g l (backTo pos (starEach [] X.env)) (backToKw pos (keywordEach [] X.env))) := by rfl) :
    PE X (.Call (.Attribute o m apos) [] [] pos) (tMeth C m sp dvs E0 ta tNil) := by
  obtain ⟨f, fd, ps, ds, hc, hm, ok, b, d⟩ := c.ex
  constructor
  intro pins s σ H Q I h
  refine PySem.W.methodCall_KW (pl := pl) (thn (he.run pins s σ H _ I h) ?_) ht
  rintro u s1 ⟨y, H1, I1, ry, a, dx, fs, ey, ea, l, q⟩
  subst ey
  have eu : u = Value.ref a := ry
  subst eu
  refine getmeth_ok I1 ea hc hm l ?_
  exact PySem.W.callWith_K0 (first := [.ref a]) I1.kIn hm.kp (run_ok (us := [.ref a]) (vs := [.ref a]) ok (hr.mono hk) b d pass0 I1 (.cons rfl .nil) q)
theorem run_mk {pins : List (Addr × Obj)} {σ : L2.St} {H : Hp} {s : Shared} {Q : VK} {us : List Value} {vs : List V} (M : Mk X.K C f) (o : Ok X.prog X.w X.K X.mg X.base CX0 k f fd ps sp)
    (hr : Rm (k + 1) X.A) (hb : Binds X.K fd ps ds) (hd : Vals dvs ds) (I : Inv X pins σ H s) (r : Vals vs us)
    (h : ∀ x dx, H x = none → H dx = none → dx ≠ x → sp (.ref x :: (vs ++ dvs)) (upd (upd H dx (.own x)) x (.ins C dx [])) (fun v H2 => v = .non ∧ Q (.ref x) H2) E0) :
    wpAny (model X.prog X.w) X.A (call (.ref C) us) (EP X pins σ Q) X.xe s := by
  have hq := h (s.heap.objs.size + 1) s.heap.objs.size (I.hok.fresh (Nat.le_succ _)) (I.hok.fresh (Nat.le_refl _)) (Nat.ne_of_lt (Nat.lt_succ_self _))
  have I2 := Inv.made (C := C) I
  have rr : Vals (V.ref (s.heap.objs.size + 1) :: (vs ++ dvs)) (Value.ref (s.heap.objs.size + 1) :: (us ++ ds)) := .cons rfl (r.append hd)
  have hl : (Value.ref (s.heap.objs.size + 1) :: us ++ ds).length = ps.length := by
    have e := rr.length
    rw [o.len _ _ _ _ hq] at e
    exact e.symm
  have b2 := hb _ (Value.ref (s.heap.objs.size + 1) :: us) I2.kIn hl
  have go := o.go _ X.stack _ _ ⟨Value.ref (s.heap.objs.size + 1) :: us, []⟩ (Value.ref (s.heap.objs.size + 1) :: (us ++ ds)) _ _ E0 (hr.make C us []) (I2.env0.make C us []) b2 rr hq
  refine wpAny_call (make_map (f := f) I.kIn M.makes M.init (beq_iff_eq.mp M.fn) (codeAny_mono go ?_))
  intro res s' hq'
  match res, hq' with
  | .error e, hq' => exact False.elim hq'
  | .ok .next, hq' => exact False.elim hq'
  | .ok .brk, hq' => exact False.elim hq'
  | .ok .cont, hq' => exact False.elim hq'
  | .ok (.ret u), hq' =>
    obtain ⟨v, H', I3, rv, ev, q3⟩ := I2.after hq'
    subst ev
    exact ⟨rv, ⟨V.ref (s.heap.objs.size + 1), H', I3, rfl, q3⟩⟩
theorem pe_mk (c : Mak X.prog X.w X.K X.mg X.base k x C sp dvs) (hr : Rm j X.A) (hk : k + 1 ≤ j) (hg : Gl X x) (ha : PA X (e :: es) t)
    (hdb : (x == ("__debug__" : Str)) = false := by decide)
    (he : starEach (e :: es) X.env = (false, eval e X.env) :: starEach es X.env := by rfl)
    (hpl : (backTo pos (starEach es X.env)).any (·.1) = false := by rfl) :
    PE X (.Call (.Name x p) (e :: es) [] pos) (tMake C sp dvs E0 t) := by
  obtain ⟨f, fd, ps, ds, M, o, hm, b, d⟩ := c.ex
  constructor
  intro pins s σ H Q I h
  apply wpAny_Call_Name_kw
  apply ld_glob I hg hm _ hdb
  refine PySem.W.callWith_K (h₀ := X.base) I.ok.mod.kin M.kp (thn (ha.run pos pins s σ H _ I h) ?_) he hpl
  rintro us s1 ⟨vs, H1, I1, r, q⟩
  exact ⟨I1.kIn, run_mk M o (hr.mono hk) b d I1 r q⟩
theorem pe_mk0 (c : Mak X.prog X.w X.K X.mg X.base k x C sp dvs) (hr : Rm j X.A) (hk : k + 1 ≤ j) (hg : Gl X x)
    (hdb : (x == ("__debug__" : Str)) = false := by decide) : PE X (.Call (.Name x p) [] [] pos) (tMake C sp dvs E0 tNil) := by
  obtain ⟨f, fd, ps, ds, M, o, hm, b, d⟩ := c.ex
  constructor
  intro pins s σ H Q I h
  apply wpAny_Call_Name_kw
  apply ld_glob I hg hm _ hdb
  exact PySem.W.callWith_K0 I.kIn M.kp (run_mk (us := []) M o (hr.mono hk) b d I .nil h)

/-! ### operators that a class defines -/
/-- the callee runs one unit deeper -/
theorem run_in1 {pins : List (Addr × Obj)} {σ : L2.St} {H : Hp} {s : Shared} {Q : VK} {us : List Value} {vs : List V}
    (o : Ok X.prog X.w X.K X.mg X.base CX0 k f fd ps sp) (hr : Rm (k + 1) X.A) (hb : Binds X.K fd ps ds) (hd : Vals dvs ds)
    (I : Inv X pins σ H s) (r : Vals vs us) (h : sp (vs ++ dvs) H Q E0) :
    wpAny (model X.prog X.w) X.A.in1 (call (.ref f) us) (EP X pins σ Q) X.xe s := by
  have rr := r.append hd
  have hl : (us ++ ds).length = ps.length := rr.length ▸ o.len _ _ _ _ h
  refine wpAny_call (codeAny_mono (o.go X.A.in1 X.stack s H ⟨us, []⟩ (us ++ ds) (vs ++ dvs) Q E0 hr.in1 I.env0.in1 (hb s us I.kIn hl) rr h) ?_)
  intro res s' hq
  match res, hq with
  | .error e, hq => exact False.elim hq
  | .ok (.ret u), hq => exact I.after hq
  | .ok .next, hq => exact False.elim hq
  | .ok .brk, hq => exact False.elim hq
  | .ok .cont, hq => exact False.elim hq
theorem inst_of {pins : List (Addr × Obj)} {σ : L2.St} {H : Hp} {s : Shared} {a dx : Addr} {fs : List (Str × V)} (I : Inv X pins σ H s) (e : H a = some (.ins C dx fs)) :
    ∃ od, PySem.W.InstAt s.heap a (PySem.W.instObj C dx) C (some od) := by
  obtain ⟨mA, O, _⟩ := ins_get I.hok e
  obtain ⟨od, J, _⟩ := O.look
  exact ⟨od, J⟩
/-- a op b, both of the class at C -/
def rOwn (C : Addr) (sp : Sp) (dvs : List V) : R2 := fun x y H Q => ∃ a b dx dy fs gs, x = .ref a ∧ y = .ref b ∧ H a = some (.ins C dx fs) ∧ H b = some (.ins C dy gs) ∧
  sp ([x, y] ++ dvs) H (fun v H' => (∀ u, RelV v u → u ≠ .notImplemented) ∧ Q v H') E0
theorem op_own {op : Operator} (c : Met X.prog X.w X.K X.mg X.base k C (PySem.dunder op.info.2) sp dvs) (hr : Rm j X.A) (hk : k ≤ j) (hsf : PySem.W.selfFirst X.K C = true) :
    OpR X (binaryOp op) (rOwn C sp dvs) := by
  obtain ⟨f, fd, ps, ds, hc, hm, o, b', d⟩ := c.ex
  intro pins s σ H x y v u Q I rx ry h
  obtain ⟨a, b, dx, dy, fs, gs, rfl, rfl, ha, hb, q⟩ := h
  cases rx
  cases ry
  obtain ⟨od, J⟩ := inst_of I ha
  obtain ⟨od2, J2⟩ := inst_of I hb
  obtain ⟨m, fr⟩ := I.fr
  refine PySem.W.binop_K fr I.ok.mod.kin J J2.type hsf hm.at_ hm.fn ?_
  refine wpAny_mono (run_ok (us := [.ref a, .ref b]) (vs := [.ref a, .ref b]) o (hr.mono hk) b' d pass0 I (.cons rfl (.cons rfl .nil)) q) ?_ (fun _ _ z => z)
  rintro r s' ⟨z, H', I', rz, nz, q'⟩
  have := nz r rz
  unfold PySem.W.CmpBack
  cases r <;> first | exact absurd rfl this | exact ⟨z, H', I', rz, q'⟩
/-- x in a, x not in a -/
def rOwnIn (C : Addr) (neg : Bool) (sp : Sp) (dvs : List V) : R2 := fun x y H Q => ∃ b dy gs, y = .ref b ∧ H b = some (.ins C dy gs) ∧
  sp ([y, x] ++ dvs) H (fun v H' => ∃ t, v = .bl t ∧ Q (.bl (if neg then !t else t)) H') E0
theorem op_ownIn (c : Met X.prog X.w X.K X.mg X.base k C "__contains__" sp dvs) (hr : Rm j X.A) (hk : k ≤ j) : OpR X (compareOp .In) (rOwnIn C false sp dvs) := by
  obtain ⟨f, fd, ps, ds, hc, hm, o, b', d⟩ := c.ex
  intro pins s σ H x y v u Q I rx ry h
  obtain ⟨b, dy, gs, rfl, hb, q⟩ := h
  cases ry
  obtain ⟨od, J⟩ := inst_of I hb
  obtain ⟨m, fr⟩ := I.fr
  refine PySem.W.in_K fr I.ok.mod.kin J hm.at_ hm.fn ?_
  refine wpAny_mono (run_ok (us := [.ref b, v]) (vs := [.ref b, x]) o (hr.mono hk) b' d pass0 I (.cons rfl (.cons rx .nil)) q) ?_ (fun _ _ z => z)
  rintro r s' ⟨z, H', I', rz, t, rfl, q'⟩
  cases rz
  exact wpAny_truthy_bool ⟨.bl t, H', I', rfl, q'⟩
theorem op_ownNotIn (c : Met X.prog X.w X.K X.mg X.base k C "__contains__" sp dvs) (hr : Rm j X.A) (hk : k ≤ j) : OpR X (compareOp .NotIn) (rOwnIn C true sp dvs) := by
  obtain ⟨f, fd, ps, ds, hc, hm, o, b', d⟩ := c.ex
  intro pins s σ H x y v u Q I rx ry h
  obtain ⟨b, dy, gs, rfl, hb, q⟩ := h
  cases ry
  obtain ⟨od, J⟩ := inst_of I hb
  obtain ⟨m, fr⟩ := I.fr
  refine PySem.W.notIn_K fr I.ok.mod.kin J hm.at_ hm.fn ?_
  refine wpAny_mono (run_ok (us := [.ref b, v]) (vs := [.ref b, x]) o (hr.mono hk) b' d pass0 I (.cons rfl (.cons rx .nil)) q) ?_ (fun _ _ z => z)
  rintro r s' ⟨z, H', I', rz, t, rfl, q'⟩
  cases rz
  exact wpAny_truthy_bool ⟨.bl (!t), H', I', rfl, q'⟩
/-- len(a) -/
def rOwnLen (C : Addr) (sp : Sp) (dvs : List V) : List V → Hp → VK → Prop := fun xs H Q => ∃ a dx fs, xs = [.ref a] ∧ H a = some (.ins C dx fs) ∧
  sp ([.ref a] ++ dvs) H (fun v H' => ∃ n : Nat, v = .int (n : Int) ∧ n ≤ sizeLine ∧ Q (.int (n : Int)) H') E0
theorem call_ownLen (c : Met X.prog X.w X.K X.mg X.base k C "__len__" sp dvs) (hr : Rm j X.A) (hk : k + 1 ≤ j) : CallR X (.builtin "len") (rOwnLen C sp dvs) := by
  obtain ⟨f, fd, ps, ds, hc, hm, o, b', d⟩ := c.ex
  intro pins s σ H xs us Q I r h
  obtain ⟨a, dx, fs, rfl, ha, q⟩ := h
  obtain ⟨u, rfl, ru⟩ := vals1 r
  cases ru
  obtain ⟨od, J⟩ := inst_of I ha
  obtain ⟨m, fr⟩ := I.fr
  refine PySem.W.len_K fr I.ok.mod.kin J hm.at_ hm.fn ?_
  refine wpAny_mono (run_in1 (us := [.ref a]) (vs := [.ref a]) o (hr.mono hk) b' d I (.cons rfl .nil) q) ?_ (fun _ _ z => z)
  rintro r s' ⟨z, H', I', rz, n, rfl, hn, q'⟩
  obtain ⟨t, rfl⟩ := rz
  have := sizeLine_eq
  exact ⟨⟨by omega, by omega⟩, .int _, H', I'.tok _, ⟨_, rfl⟩, q'⟩
/-- a == b, both of the class at C -/
theorem op_ownEq (c : Met X.prog X.w X.K X.mg X.base k C "__eq__" sp dvs) (hr : Rm j X.A) (hk : k ≤ j) : OpR X (compareOp .Eq) (rOwn C sp dvs) := by
  obtain ⟨f, fd, ps, ds, hc, hm, o, b', d⟩ := c.ex
  intro pins s σ H x y v u Q I rx ry h
  obtain ⟨a, b, dx, dy, fs, gs, rfl, rfl, ha, hb, q⟩ := h
  cases rx
  cases ry
  obtain ⟨od, J⟩ := inst_of I ha
  obtain ⟨od2, J2⟩ := inst_of I hb
  obtain ⟨m, fr⟩ := I.fr
  refine PySem.W.cmp_ofEq (PySem.W.cmp_K hr.rm.units0 fr I.ok.mod.kin J J2.type ?_ hm.at_ hm.fn ?_)
  · unfold PySem.W.notFirst
    simp
  refine wpAny_mono (run_ok (us := [.ref a, .ref b]) (vs := [.ref a, .ref b]) o (hr.mono hk) b' d pass0 I (.cons rfl (.cons rfl .nil)) q) ?_ (fun _ _ z => z)
  rintro r s' ⟨z, H', I', rz, nz, q'⟩
  have := nz r rz
  unfold PySem.W.CmpBack
  cases r <;> first | exact absurd rfl this | exact ⟨z, H', I', rz, q'⟩
end
end Eu
set_option Elab.async false
set_option linter.all false
set_option maxRecDepth 100000
set_option maxHeartbeats 4000000
namespace Eu
open PySem PySem.Spec PyProof.Rows L2

/-! ### sorted of tuples (int, text, ints ..) by their first items -/
def shp (i : Nat) : Bool := i == 1
theorem tups_of {h : Heap} {shape : Nat → Bool} : ∀ {vs : List Value}, (∀ v ∈ vs, ∃ f, TupOf h shape v f) → ∃ fs, TupsOf h shape vs fs
  | [], _ => ⟨[], .nil⟩
  | v :: vs, hv => by
    obtain ⟨f, hf⟩ := hv v List.mem_cons_self
    obtain ⟨fs, hfs⟩ := tups_of (vs := vs) fun u hu => hv u (List.mem_cons_of_mem _ hu)
    exact ⟨f :: fs, .cons hf hfs⟩
theorem ints_items : ∀ {xs : List V} {us : List Value} {i : Nat}, Vals xs us → (∀ x ∈ xs, ∃ n, x = V.int n) → 2 ≤ i → ∃ l, tupItems shp i us = some l
  | _, _, _, .nil, _, _ => ⟨[], rfl⟩
  | x :: xs, u :: us, i, .cons r t, h, hi => by
    obtain ⟨n, rfl⟩ := h x List.mem_cons_self
    obtain ⟨tk, rfl⟩ := r
    obtain ⟨l, e⟩ := ints_items (i := i + 1) t (fun y hy => h y (List.mem_cons_of_mem _ hy)) (by omega)
    refine ⟨Sum.inl n :: l, ?_⟩
    show (if shp i = true then none else (tupItems shp (i + 1) us).map (Sum.inl n :: ·)) = _
    rw [if_neg (by unfold shp; simp; omega), e]
    rfl
/-- x is a tuple with the first item k x, then a text, then ints -/
def TupK (H : Hp) (k : V → Int) (x : V) : Prop := ∃ (t : Addr) (z : Str) (r : List V), x = .ref t ∧ H t = some (.tup (.int (k x) :: .str z :: r)) ∧ ∀ y ∈ r, ∃ n, y = V.int n
theorem key_of {X : Cx} {pins : List (Addr × Obj)} {σ : L2.St} {H : Hp} {s : Shared} {k : V → Int} {u : Value} (I : Inv X pins σ H s) (h : TupK H k (backV u)) (hu : ∃ a, u = .ref a) :
    (∃ f, TupOf s.heap shp u f) ∧ ∃ l, PyProof.Rows.G.tupKeyC s.heap shp u = some (Sum.inl (k (backV u)) :: l) := by
  obtain ⟨a, rfl⟩ := hu
  obtain ⟨t, z, r, e, ht, hr⟩ := h
  cases e
  obtain ⟨_, its, rv, o, ho, hc, n, hd⟩ := I.hok _ _ ht
  cases rv with
  | cons r1 rv =>
    cases rv with
    | cons r2 rv =>
      obtain ⟨t1, rfl⟩ := r1
      obtain ⟨t2, rfl⟩ := r2
      rename_i us
      obtain ⟨l, el⟩ := ints_items (i := 2) rv hr (Nat.le_refl _)
      refine ⟨⟨_, a, o, _, n, rfl, ho, hc, hd, rfl, fun _ => ⟨_, _, rfl⟩, fun q => by cases q⟩, Sum.inr z.cps.toList :: l, ?_⟩
      unfold PyProof.Rows.G.tupKeyC
      have ht : PyProof.Rows.G.isTupObj s.heap (.ref a) = true := by
        unfold PyProof.Rows.G.isTupObj
        simp only [ho, hc]
        rfl
      rw [if_pos ht]
      unfold tupKey
      simp only [ho, hd]
      show (if shp 0 = true then none else (tupItems shp 1 (.str z t2 :: us)).map (Sum.inl (k (backV (.ref a))) :: ·)) = _
      rw [if_neg (by decide)]
      show ((if shp 1 = true then (tupItems shp 2 us).map (Sum.inr z.cps.toList :: ·) else none).map (Sum.inl (k (backV (.ref a))) :: ·)) = _
      rw [if_pos (show shp 1 = true from rfl), el]
      rfl
def rSortedTS (K : PySem.W.Frag) : List V → Hp → VK → Prop := fun vs H Q => ∃ (a : Addr) (xs : List V) (k : V → Int), vs = [V.ref a] ∧ SqL K H a xs ∧ (∀ x ∈ xs, TupK H k x) ∧
  ∀ (ys : List V) (p : Addr), ys.Perm xs → ys.Pairwise (fun x y => k x ≤ k y) → H p = none → Q (.ref p) (upd H p (.lst ys))
section
variable {X : Cx}
theorem cr_sortedTS : CallR X (.builtin "sorted") (rSortedTS X.K) := by
  intro pins s σ H vs us Q I r h
  obtain ⟨a, xs, k, rfl, hs, hx, q⟩ := h
  obtain ⟨its, rv, hl, hz⟩ := I.list hs
  obtain ⟨u, rfl, ru⟩ := vals1 r
  cases (show u = Value.ref a from ru)
  obtain ⟨e1, e2⟩ := refs_back rv fun x m => by
    obtain ⟨t, _, _, e, _⟩ := hx x m
    exact ⟨t, e⟩
  have hk : ∀ v ∈ its, (∃ f, TupOf s.heap shp v f) ∧ ∃ l, PyProof.Rows.G.tupKeyC s.heap shp v = some (Sum.inl (k (backV v)) :: l) := fun v hv =>
    key_of I (hx _ (by rw [e1]; exact List.mem_map.mpr ⟨v, hv, rfl⟩)) (e2 v hv)
  obtain ⟨fs, ht⟩ := tups_of fun v hv => (hk v hv).1
  refine PyProof.Rows.G.sorted_tups (shape := shp) hl.isList ht (fun v hv => ?_) (by rw [← rv.length]; exact hz) ?_
  · obtain ⟨l, e⟩ := (hk v hv).2
    exact ⟨_, e⟩
  · intro st' hp hso hst
    have pl : (arrOf st').toList.Perm (its.zip its) := by
      have := hp.toList
      rwa [pairsOf_toList] at this
    have eq12 : ∀ p ∈ (arrOf st').toList, p.1 = p.2 ∧ p.1 ∈ its := fun p hm => mem_zip_self (pl.mem_iff.mp hm)
    have outP : ((arrOf st').toList.map (·.2)).Perm its := by
      have := pl.map (·.2)
      rwa [show (its.zip its).map (·.2) = its from List.map_snd_zip (Nat.le_refl _)] at this
    have oe : ((arrOf st').map (·.2)).toList = (arrOf st').toList.map (·.2) := by simp
    have h3 : ∀ v ∈ (arrOf st').toList.map (·.2), ∃ a, v = Value.ref a := fun v hv => e2 v (outP.mem_iff.mp hv)
    obtain ⟨n, hn⟩ := sortedAll_at s.heap its ((arrOf st').map (·.2))
    have hd : s.heap.objs.size ≤ s.heap.objs.size + 1 := Nat.le_succ _
    have perm : (((arrOf st').toList.map (·.2)).map backV).Perm xs := by
      rw [e1]
      exact outP.map backV
    refine ⟨.ref (s.heap.objs.size + 1), upd H (s.heap.objs.size + 1) (.lst (((arrOf st').toList.map (·.2)).map backV)), I.laid (t' := s.toks) (fun b o e => sortedAll_old e) hd ⟨?_, (arrOf st').toList.map (·.2), n, vals_back h3, ?_⟩, rfl, q _ _ perm ?_ (I.hok.fresh hd)⟩
    · rw [perm.length_eq]
      exact hz
    · rw [hn]
      congr 2
      rw [← oe]
    · rw [List.pairwise_iff_getElem]
      intro i j hi hj hij
      have hjs : j < (arrOf st').size := by simpa using hj
      have his : i < (arrOf st').size := by omega
      have hle := hso i j (Nat.le_of_lt hij) (by
        have e := pl.length_eq
        rw [Array.length_toList, List.length_zip, Nat.min_self] at e
        rw [pairsOf_size, ← e]
        exact hjs)
      have kk : ∀ n (hn : n < (arrOf st').size), ∃ l, KK (PyProof.Rows.G.tupKindC s.heap shp) (arrOf st') n = (Sum.inl (k (backV (arrOf st')[n].2)) :: l : List (Int ⊕ List Nat)) := by
        intro n hn
        obtain ⟨c1, c2⟩ := eq12 (arrOf st')[n] (by simp)
        obtain ⟨l, e⟩ := (hk _ c2).2
        refine ⟨l, ?_⟩
        unfold KK
        rw [Array.getElem?_eq_getElem hn]
        show (PyProof.Rows.G.tupKeyC s.heap shp (arrOf st')[n].1).getD [] = _
        rw [e, c1]
        rfl
      obtain ⟨l1, k1⟩ := kk i his
      obtain ⟨l2, k2⟩ := kk j hjs
      rw [k1, k2] at hle
      have hle' : (decide (k (backV (arrOf st')[j].2) < k (backV (arrOf st')[i].2)) || (!decide (k (backV (arrOf st')[i].2) < k (backV (arrOf st')[j].2)) && lexLt itemOrd l2 l1)) = false := hle
      rw [Bool.or_eq_false_iff] at hle'
      have := of_decide_eq_false hle'.1
      simp only [List.getElem_map, Array.getElem_toList]
      omega
end
end Eu
set_option Elab.async false
set_option linter.all false
set_option maxRecDepth 100000
set_option maxHeartbeats 4000000
namespace Eu
open PySem PySem.Spec PyProof.Rows L2
/-! ### dict comprehensions -/
section
variable {α : Type} {J : It} {xs : List α} {Y : α → Hp → V → Hp → Prop} {S : Hp → Prop} {g : TG}
theorem dc_over {tt : TT} {tk tv : TE} {vs : List Nat} {σ : L2.St} {H1 : Hp} {D : Addr} {Qd : Hp → Prop} (o : Over J xs Y S) (Pv : Nat → Hp → Prop)
    (h0 : Pv 0 (upd H1 D (.dK []))) (hS : ∀ i H, i ≤ xs.length → Pv i H → S H)
    (hs : ∀ i x H v H', xs[i]? = some x → Pv i H → Y x H v H' → g v (wipe σ vs) H' fun σ2 H2 => wipe σ2 vs = wipe σ vs ∧ tt σ2 H2 fun b H3 =>
      if b = true then tk σ2 H3 fun y H4 => tv σ2 H4 fun z H5 => ∃ kvs k, y = kV k ∧ H5 D = some (.dK kvs) ∧ kvs.length < sizeLine ∧ Pv (i + 1) (upd H5 D (.dK (putK kvs k z))) else Pv (i + 1) H3)
    (hd : ∀ H, Pv xs.length H → Qd H) :
    ∃ W : Nat → Nat → Hp → Prop, (∃ m, W 0 m (upd H1 D (.dK []))) ∧ ∀ i m H, W i m H → (J.stop i H ∧ Qd H) ∨ (J.go i H ∧
      ∃ Nx : Hp → Prop, (∀ H', Nx H' → ∃ m', m' < m ∧ W (i + 1) m' H') ∧ ∀ x H', J.yld i H x H' → g x (wipe σ vs) H' fun σ2 H2 => wipe σ2 vs = wipe σ vs ∧ tt σ2 H2 fun b H3 =>
        if b = true then tk σ2 H3 fun y H4 => tv σ2 H4 fun z H5 => ∃ kvs k, y = kV k ∧ H5 D = some (.dK kvs) ∧ kvs.length < sizeLine ∧ Nx (upd H5 D (.dK (putK kvs k z))) else Nx H3) := by
  refine ⟨fun i m H => m = xs.length - i ∧ i ≤ xs.length ∧ Pv i H, ⟨xs.length, rfl, Nat.zero_le _, h0⟩, ?_⟩
  rintro i m H ⟨rfl, hi, p⟩
  have s := hS i H hi p
  by_cases hl : i < xs.length
  · have e : xs[i]? = some xs[i] := List.getElem?_eq_getElem hl
    refine .inr ⟨o.go i _ H e s, Pv (i + 1), fun H' p' => ⟨xs.length - (i + 1), by omega, rfl, hl, p'⟩, fun v H' y => ?_⟩
    exact hs i _ H v H' e p (o.yl i _ H v H' e s y)
  · have e : i = xs.length := by omega
    subst e
    exact .inl ⟨o.st H s, hd H p⟩
theorem length_merge : ∀ (more kvs : List (Key × V)), (mergeK kvs more).length ≤ kvs.length + more.length
  | [], kvs => Nat.le_refl _
  | q :: r, kvs => by
    have := length_merge r (putK kvs q.1 q.2)
    have := length_putK kvs q.1 q.2
    show (mergeK (putK kvs q.1 q.2) r).length ≤ kvs.length + (r.length + 1)
    omega
theorem merge_snoc (kvs more : List (Key × V)) (q : Key × V) : mergeK kvs (more ++ [q]) = putK (mergeK kvs more) q.1 q.2 := by
  unfold mergeK
  rw [List.foldl_append]
  rfl
/-- a dict comprehension without a test whose parts change nothing that stood: the i-th item gives f x -/
theorem dc_pure {tk tv : TE} {vs : List Nat} {σ : L2.St} {H1 : Hp} {D : Addr} {Qd : Hp → Prop} (o : Over J xs Y S) (f : α → Key × V)
    (nD : H1 D = none) (hn : xs.length ≤ sizeLine) (hS : ∀ H, Same H1 H → S H)
    (hs : ∀ x ∈ xs, ∀ H v H' (Nx : V → V → Hp → Prop), Same H1 H → Y x H v H' → (∀ H'', Same H H'' → Nx (kV (f x).1) (f x).2 H'') →
      g v (wipe σ vs) H' fun σ2 H2 => wipe σ2 vs = wipe σ vs ∧ tk σ2 H2 fun y H4 => tv σ2 H4 fun z H5 => Nx y z H5)
    (hd : ∀ H, Same H1 H → H D = some (.dK (mergeK [] (xs.map f))) → Qd H) (hg : ∀ (v : V) (σ : L2.St) (H : Hp) (A B : L2.St → Hp → Prop), (∀ σ H, A σ H → B σ H) → g v σ H A → g v σ H B) :
    ∃ W : Nat → Nat → Hp → Prop, (∃ m, W 0 m (upd H1 D (.dK []))) ∧ ∀ i m H, W i m H → (J.stop i H ∧ Qd H) ∨ (J.go i H ∧
      ∃ Nx : Hp → Prop, (∀ H', Nx H' → ∃ m', m' < m ∧ W (i + 1) m' H') ∧ ∀ x H', J.yld i H x H' → g x (wipe σ vs) H' fun σ2 H2 => wipe σ2 vs = wipe σ vs ∧ tYes σ2 H2 fun b H3 =>
        if b = true then tk σ2 H3 fun y H4 => tv σ2 H4 fun z H5 => ∃ kvs k, y = kV k ∧ H5 D = some (.dK kvs) ∧ kvs.length < sizeLine ∧ Nx (upd H5 D (.dK (putK kvs k z))) else Nx H3) := by
  refine dc_over o (fun i H => Same H1 H ∧ H D = some (.dK (mergeK [] ((xs.take i).map f)))) ⟨same_new nD, upd_same⟩ (fun i H _ p => hS H p.1) ?_ ?_
  · rintro i x H v H' e ⟨s, hD⟩ y
    have hi := (List.getElem?_eq_some_iff.mp e).1
    have key := hs x (List.mem_of_getElem? e) H v H' (fun y z H5 => ∃ kvs k, y = kV k ∧ H5 D = some (.dK kvs) ∧ kvs.length < sizeLine ∧
      (Same H1 (upd H5 D (.dK (putK kvs k z))) ∧ (upd H5 D (.dK (putK kvs k z))) D = some (.dK (mergeK [] ((xs.take (i + 1)).map f))))) s y ?_
    · refine hg _ _ _ _ _ ?_ key
      rintro σ2 H2 ⟨w, q⟩
      exact ⟨w, lc_yes q⟩
    · intro H4 s4
      refine ⟨_, _, rfl, s4 _ _ hD, ?_, fun b u z => ?_, ?_⟩
      · have := length_merge ((xs.take i).map f) []
        rw [List.length_map, List.length_take] at this
        have h0 : ([] : List (Key × V)).length = 0 := rfl
        omega
      · rw [upd_ne (ne_of_none z nD)]
        exact s4 _ _ (s _ _ z)
      · rw [upd_same, List.take_add_one, e, List.map_append]
        show _ = some (HO.dK (mergeK [] ((xs.take i).map f ++ [f x])))
        rw [merge_snoc]
  · rintro H ⟨s, hD⟩
    rw [List.take_length] at hD
    exact hd H s hD
end
/-- targets: names and pairs of names let what is wanted grow -/
theorem gName_mono {i : Nat} : ∀ (v : V) (σ : L2.St) (H : Hp) (A B : L2.St → Hp → Prop), (∀ σ H, A σ H → B σ H) → gName i v σ H A → gName i v σ H B := fun v σ H A B h k => h _ _ k

/-! ### what may be a list or a tuple -/
section
variable {X : Cx} {tg it : Expr} {w1 w2 : TI}
theorem pi_or (a : PI X tg it w1) (b : PI X tg it w2) : PI X tg it (fun σ H R => w1 σ H R ∨ w2 σ H R) :=
  ⟨fun pins s σ H R I h => h.elim (a.run pins s σ H R I) (b.run pins s σ H R I)⟩
end
end Eu
set_option Elab.async false
set_option linter.all false
set_option maxRecDepth 100000
set_option maxHeartbeats 4000000
namespace Eu
open PySem PySem.Spec PyProof.Rows L2

/-! ### != of a class that has __eq__ alone -/
section
variable {prog : Program} {w : World} {A : Around} {E : Value → Shared → Prop} {s : Shared} {K : PySem.W.Frag} {x C f : Addr} {ox : Obj} {od : Option Obj} {b : Value}
theorem ne_entry (hu : A.units < cLine) (X : K.In s.heap) (I : PySem.W.InstAt s.heap x ox C od) (hs : PySem.W.findIn K (.ref C) "__eq__" = some (some (.ref f))) (hf : PySem.W.isFn K (.ref f) = true) {Q : Fin → Shared → Prop}
    (h : wpAny (model prog w) A (call (.ref f) [.ref x, b]) (fun v s' => ∃ t, v = .bool t ∧ Q (.done (.ret (.bool (!t)))) s') E s) :
    wpAny (model prog w) A (Builtin.«object.__ne__» ⟨[.ref x, b], []⟩) Q E s := by
  unfold Builtin.«object.__ne__»
  refine wpAny_bind (m := slotArgs "__ne__" 1 ⟨[.ref x, b], []⟩) (wpAny_pure ?_)
  refine wpAny_bind (wpAny_cRoomFor hu ?_)
  refine wpAny_bind (PySem.W.ifBound_K X I hs hf (wpAny_mono h ?_ fun _ _ e => e))
  rintro v s' ⟨t, rfl, q⟩
  exact wpAny_bind (wpAny_truthy_bool (wpAny_pure q))
theorem ne_K {L : Addr} {h₀ : Heap} {m : Str → Option Value} {tb : Value} {Q : Value → Shared → Prop} (hu : A.units + 1 < cLine) (FR : Fr h₀ L s.heap m) (X₀ : K.In h₀) (I : PySem.W.InstAt s.heap x ox C od)
    (hb : PySem.W.Looks (model prog w) s.heap (typeOf b) (.ref C))
    (hm : PySem.W.mroIn K C (.type "object") = some true) (hn : PySem.W.findIn K (.ref C) "__ne__" = some (some (.builtin "object.__ne__")))
    (hs : PySem.W.findIn K (.ref C) "__eq__" = some (some (.ref f))) (hf : PySem.W.isFn K (.ref f) = true)
    (h : wpAny (model prog w) A.in1 (call (.ref f) [.ref x, b]) (fun v s' => ∃ t, v = .bool t ∧ Q (.bool (!t)) s') E s) :
    wpAny (model prog w) A (richCompare .NotEq (.ref x) b) Q E s := by
  have X := X₀.keeps FR.keep
  have one : wpAny (model prog w) A (tryCompare (.ref x) "__ne__" b) (fun r s' => ∃ v, r = some v ∧ Q v s') E s := by
    unfold tryCompare
    simp only [callSpecialIfBound?, bindSpecialIfBound?]
    refine wpAny_bind (wpAny_holding (wpAny_bind (wpAny_bind (wpAny_bind (I.type.here ((PySem.W.looks_findIn X hn).here ?_))))))
    refine wpAny_bind (wpAny_askSetting (wpAny_ite ?_))
    have fin : wpAny (model prog w) A (call (.builtin "object.__ne__") ([.ref x] ++ [b]) >>= fun v => pure (some v)) (fun r s' => ∃ v, r = some v ∧ v ≠ .notImplemented ∧ Q v s') E s := by
      refine wpAny_bind (wpAny_call (codeAny_call_builtin PySem.F.cmp_object.ne.plain PySem.F.cmpEntry_ne (PySem.W.check_slot PySem.F.cmpKind_ne PySem.F.cmpSplit_ne (I.type.andThen (PySem.W.looks_mroIn X hm)) (F.cmpArgs_ne _ _) ?_)))
      refine ne_entry (A := A.in1) hu X I hs hf (wpAny_mono h ?_ fun _ _ e => e)
      rintro v s' ⟨t, rfl, q⟩
      exact ⟨t, rfl, wpAny_pure ⟨_, rfl, (fun z => nomatch z), q⟩⟩
    simp only [PySem.F.cmp_object.ne.bind]
    split
    · refine wpAny_bind (wpAny_pure (wpAny_pure ?_))
      exact wpAny_mono fin (fun r s' z => by obtain ⟨v, rfl, nv, q⟩ := z; cases v <;> first | exact absurd rfl nv | exact wpAny_pure ⟨_, rfl, q⟩) fun _ _ e => e
    · refine wpAny_tryCatch (wpAny_bind (wpAny_pure (wpAny_pure ?_)))
      exact wpAny_mono fin (fun r s' z => by obtain ⟨v, rfl, nv, q⟩ := z; cases v <;> first | exact absurd rfl nv | exact wpAny_pure ⟨_, rfl, q⟩) fun _ _ e => e
  unfold richCompare
  simp only [oneThing_ref]
  refine wpAny_holding (wpAny_bind (wpAny_cRoomFor (Nat.lt_of_succ_lt hu) ?_))
  refine wpAny_bind (I.type.here (wpAny_bind (hb.here ?_)))
  rw [show (Value.ref C != Value.ref C) = false from by simp]
  simp only [Bool.false_eq_true, if_false]
  refine wpAny_bind (wpAny_pure ?_)
  simp only [Bool.false_eq_true, if_false]
  refine wpAny_bind (wpAny_mono one (fun r s' z => ?_) fun _ _ e => e)
  obtain ⟨v, rfl, hq⟩ := z
  exact wpAny_pure hq
end
section
variable {X : Cx} {k j : Nat} {C : Addr} {sp : Sp} {dvs : List V}
/-- a != b, both of the class at C -/
def rOwnNe (C : Addr) (sp : Sp) (dvs : List V) : R2 := fun x y H Q => ∃ a b dx dy fs gs, x = .ref a ∧ y = .ref b ∧ H a = some (.ins C dx fs) ∧ H b = some (.ins C dy gs) ∧
  sp ([x, y] ++ dvs) H (fun v H' => ∃ t, v = .bl t ∧ Q (.bl (!t)) H') E0
theorem op_ownNe (c : Met X.prog X.w X.K X.mg X.base k C "__eq__" sp dvs) (hr : Rm j X.A) (hk : k + 1 ≤ j) (hm : PySem.W.mroIn X.K C (.type "object") = some true)
    (hn : PySem.W.findIn X.K (.ref C) "__ne__" = some (some (.builtin "object.__ne__"))) : OpR X (compareOp .NotEq) (rOwnNe C sp dvs) := by
  obtain ⟨f, fd, ps, ds, hc, me, o, b', d⟩ := c.ex
  intro pins s σ H x y v u Q I rx ry h
  obtain ⟨a, b, dx, dy, fs, gs, rfl, rfl, ha, hb, q⟩ := h
  cases rx
  cases ry
  obtain ⟨od, J⟩ := inst_of I ha
  obtain ⟨od2, J2⟩ := inst_of I hb
  obtain ⟨m, fr⟩ := I.fr
  refine PySem.W.cmp_ofNotEq (ne_K (tb := .ref C) (by have := hr.rm.units; omega) fr I.ok.mod.kin J J2.type hm hn me.at_ me.fn ?_)
  refine wpAny_mono (run_in1 (us := [.ref a, .ref b]) (vs := [.ref a, .ref b]) o (hr.mono hk) b' d I (.cons rfl (.cons rfl .nil)) q) ?_ (fun _ _ z => z)
  rintro r s' ⟨z, H', I', rz, t, rfl, q'⟩
  cases rz
  exact ⟨t, rfl, .bl (!t), H', I', rfl, q'⟩
end

/-! ### methods with *others -/
def OkR (P : Program) (w : World) (K : PySem.W.Frag) (mg : Str → Option Value) (base : Heap) (k : Nat) (f : Addr) (sp : Sp) : Prop :=
  ∀ (A : Around) (out : List Env) (s : Shared) (H : Hp) (us : List Value) (vs : List V) (Q : VK) (E : XK),
    Rm k A → Env0 P w K mg base A out s H → Vals vs us → sp vs H Q E → codeAny (model P w) A (.call (.ref f) ⟨us, []⟩) (CR CX0 out P w H s Q E) s
structure MetS (P : Program) (w : World) (K : PySem.W.Frag) (mg : Str → Option Value) (base : Heap) (k : Nat) (C : Addr) (m : Str) (sp : Sp) : Prop where
  ex : ∃ f : Addr, Cls K C ∧ Meth K C m f ∧ OkR P w K mg base k f sp
section
variable {P : Program} {w : World} {K : PySem.W.Frag} {mg : Str → Option Value} {base : Heap}
/-- a method (self, *rest) -/
theorem Dm.star {C : Addr} {m qual p1 pv : Str} {st : Stmt} {N : List Str} {k : Nat} {sp : Sp} (D : Dm K C m qual st []) (c : Cls K C) (S : FnScope N [p1, pv] (defScope st))
    (hbd : ∀ (kV doc pm : Value) (an : Option Addr) (cdv ct : Value) (us rest : List Value), us.length = [p1].length →
      bindArgs (PySem.W.fnOf m qual (defArgs st) (defBody st) (defScope st) .none kV doc pm an cdv ct) ⟨us ++ rest, []⟩ = (newTuple rest >>= fun t => pure ([p1].zip us ++ [(pv, t)])))
    (hb : ∀ (f : Addr) (cdv : Value) (A : Around) (out : List Env) (s : Shared) (H : Hp) (vs : List V) (Q : VK) (E : XK),
      Rm k (A.deeper (envOfC qual (defScope st) s.heap.objs.size f cdv)) → sp vs H Q E →
      ∃ t, PSs (cxOf CX0 P w K mg base N qual (defScope st) f cdv A out s H E).nox (defBody st) t ∧
        t { nx := fun _ H' => Q .non H', rt := Q } (start N vs) H) :
    MetS P w K mg base (k + 1) C m (fun vs H Q E => ∃ x rest, vs = x :: rest ∧ rest.length ≤ sizeLine ∧ ∀ p, H p = none → sp [x, .ref p] (upd H p (.tup rest)) Q E) := by
  obtain ⟨f, oc, od, dV, kV, doc, pm, an, cdv, ct, osl, l, cd, me, dd⟩ := D.ex
  rcases dd with ⟨_, e⟩ | ⟨e, _⟩
  · subst e
    refine ⟨f, c, me, ?_⟩
    intro A outer s H us vs Q E hr e0 r hsp
    obtain ⟨x, rest, ev, hz, hq⟩ := hsp
    subst ev
    obtain ⟨u1, u2, eu, r1, r2⟩ := StX.vals_split (ws := [x]) (rest := rest) r
    subst eu
    have hn : H s.heap.objs.size = Option.none := e0.hok.fresh (Nat.le_refl _)
    have hl1 : u1.length = [p1].length := by rw [← r1.length]; rfl
    have hl2 : u2.length ≤ sizeLine := by rw [← r2.length]; exact hz
    refine StX.run_bnd l cd S hr.rm e0 (G := fun xs H2 => ∃ p, H p = Option.none ∧ xs = [x, V.ref p] ∧ H2 = upd H p (.tup rest)) (fun A' Ex Q' h => ?_) fun s2 H2 xs ⟨p, hp, ex, eH⟩ hr' => ?_
    · rw [hbd kV doc pm an cdv ct u1 u2 hl1]
      refine wpAny_bind (wpAny_newTuple (wpAny_pure ?_) hl2)
      have new : ObjOk P w (upd H s.heap.objs.size (.tup rest)) (s.heap.push ({ cls := .type "tuple", data := .seq u2.toArray } : Obj)) s.heap.objs.size (.tup rest) := ⟨hz, u2, r2, ⟨_, Heap.get?_push_size _ rfl, rfl, _, rfl⟩⟩
      have un := StX.un_laid (fs := frs outer) (s := s) (o := ({ cls := .type "tuple", data := .seq u2.toArray } : Obj)) (u := .tup rest) hn
      have z := h _ _ ([x] ++ [V.ref s.heap.objs.size]) (u1 ++ [Value.ref s.heap.objs.size]) (StX.env0_laid e0 new) un rfl (fun e s' z => False.elim z) (r1.append (.cons rfl .nil)) rfl ⟨_, hn, rfl, rfl⟩
      have e2 : [p1, pv].zip (u1 ++ [Value.ref s.heap.objs.size]) = [p1].zip u1 ++ [(pv, Value.ref s.heap.objs.size)] := List.zip_append (l₁ := [p1]) hl1.symm
      rw [e2] at z
      exact z
    · subst ex eH
      obtain ⟨t, h, q⟩ := hb f cdv A outer s2 _ _ Q E (hr.deeper _) (hq p hp)
      exact ⟨t, h.nox, q⟩
  · exact absurd rfl e
end
section
variable {X : Cx} {k j : Nat} {C : Addr} {m : Str} {sp : Sp} {pos apos : Pos} {e o : Expr} {es : List Expr} {ta : TE} {t : TA}
theorem run_okR {pins : List (Addr × Obj)} {σ : L2.St} {H : Hp} {s : Shared} {Q : VK} {us : List Value} {vs : List V} {f : Addr}
    (F : OkR X.prog X.w X.K X.mg X.base k f sp) (hr : Rm k X.A) (I : Inv X pins σ H s) (r : Vals vs us) (h : sp vs H Q E0) :
    wpAny (model X.prog X.w) X.A (call (.ref f) us) (EP X pins σ Q) X.xe s := by
  refine wpAny_call (codeAny_mono (F X.A X.stack s H us vs Q E0 hr I.env0 r h) ?_)
  intro res s' hq
  match res, hq with
  | .error e, hq => exact False.elim hq
  | .ok (.ret u), hq => exact I.after hq
  | .ok .next, hq => exact False.elim hq
  | .ok .brk, hq => exact False.elim hq
  | .ok .cont, hq => exact False.elim hq
theorem pe_mtS {pl : Sem Bool} (c : MetS X.prog X.w X.K X.mg X.base k C m sp) (hr : Rm j X.A) (hk : k ≤ j) (he : PE X o ta) (ha : PA X (e :: es) t)
    (hst : starEach (e :: es) X.env = (false, eval e X.env) :: starEach es X.env := by rfl)
    (hpl : (backTo pos (starEach es X.env)).any (·.1) = false := by rfl)
    (ht : eval (.Call (.Attribute o m apos) (e :: es) [] pos) X.env = (do
      let v ← eval o X.env
      standAt apos.atName
      let (g, l) ← holding [v] (getMethod v m pl)
      callWith pos g l (backTo pos (starEach (e :: es) X.env)) (backToKw pos (keywordEach [] X.env))) := by rfl) :
    PE X (.Call (.Attribute o m apos) (e :: es) [] pos) (tMeth C m sp [] E0 ta t) := by
  obtain ⟨f, hc, hm, ok⟩ := c.ex
  constructor
  intro pins s σ H Q I h
  refine PySem.W.methodCall_KW (pl := pl) (thn (he.run pins s σ H _ I h) ?_) ht
  rintro u s1 ⟨y, H1, I1, ry, a, dx, fs, ey, ea, l, q⟩
  subst ey
  have eu : u = Value.ref a := ry
  subst eu
  refine getmeth_ok I1 ea hc hm l ?_
  refine PySem.W.callWith_K (first := [.ref a]) (h₀ := X.base) I.ok.mod.kin hm.kp (thn (ha.run pos pins s1 σ H1 _ I1 q) ?_) hst hpl
  rintro us s2 ⟨vs, H2, I2, r, q2⟩
  rw [List.append_nil] at q2
  exact ⟨I2.kIn, run_okR (us := .ref a :: us) (vs := .ref a :: vs) (fun A out s H us vs Q E hr => ok A out s H us vs Q E hr) (hr.mono hk) I2 (.cons rfl r) q2⟩
theorem pe_mtS0 {pl : Sem Bool} (c : MetS X.prog X.w X.K X.mg X.base k C m sp) (hr : Rm j X.A) (hk : k ≤ j) (he : PE X o ta)
    (ht : eval (.Call (.Attribute o m apos) [] [] pos) X.env = (do
      let v ← eval o X.env
      standAt apos.atName
      let (g, l) ← holding [v] (getMethod v m pl)
      callWith pos g l (backTo pos (starEach [] X.env)) (backToKw pos (keywordEach [] X.env))) := by rfl) :
    PE X (.Call (.Attribute o m apos) [] [] pos) (tMeth C m sp [] E0 ta tNil) := by
  obtain ⟨f, hc, hm, ok⟩ := c.ex
  constructor
  intro pins s σ H Q I h
  refine PySem.W.methodCall_KW (pl := pl) (thn (he.run pins s σ H _ I h) ?_) ht
  rintro u s1 ⟨y, H1, I1, ry, a, dx, fs, ey, ea, l, q⟩
  subst ey
  have eu : u = Value.ref a := ry
  subst eu
  refine getmeth_ok I1 ea hc hm l ?_
  exact PySem.W.callWith_K0 (first := [.ref a]) I1.kIn hm.kp (run_okR (us := [.ref a]) (vs := [.ref a]) ok (hr.mono hk) I1 (.cons rfl .nil) q)
end
end Eu
set_option Elab.async false
set_option linter.all false
set_option maxRecDepth 100000
set_option maxHeartbeats 4000000
namespace Eu
open PySem PySem.Spec PyProof.Rows L2
open C8 (pe_gc pss_cut)
/-- the builtins' names are the builtins' -/
structure Bl (mg : Str → Option Value) : Prop where
  len : mg "len" = none
  abs : mg "abs" = none
  isinstance : mg "isinstance" = none
  int : mg "int" = none
  bool : mg "bool" = none
  str : mg "str" = none
  tuple : mg "tuple" = none
  all : mg "all" = none
  any : mg "any" = none
  repr : mg "repr" = none
  range : mg "range" = none
  max : mg "max" = none
  min : mg "min" = none
  list : mg "list" = none
  dict : mg "dict" = none
  set : mg "set" = none
  sorted : mg "sorted" = none
  reversed : mg "reversed" = none
  enumerate : mg "enumerate" = none
  zip : mg "zip" = none
  sum : mg "sum" = none
  type : mg "type" = none
/-! ### things -/
def tyD : PyData → String
  | .none => "NoneType"
  | .bool _ => "bool"
  | .int _ => "int"
  | .str _ => "str"
  | .list _ => "list"
  | .tuple _ => "tuple"
  | .dict _ => "dict"
/-- data, or a dict at the top -/
def Th (K : PySem.W.Frag) (H : Hp) (x : V) (d : PyData) : Prop := Dp K H x d ∨ ∃ a kvs l, x = .ref a ∧ H a = some (.dK kvs) ∧ d = .dict l
theorem Th.same {K : PySem.W.Frag} {H H' : Hp} {x : V} {d : PyData} (h : Th K H x d) (s : Same H H') : Th K H' x d := by
  rcases h with h | ⟨a, kvs, l, e, h, e'⟩
  · exact .inl (Same.dp s h)
  · exact .inr ⟨a, kvs, l, e, s _ _ h, e'⟩
theorem tyx_dp {K : PySem.W.Frag} {H : Hp} : ∀ {d : PyData} {x : V}, Dp K H x d → TyX K H x (.type (tyD d))
  | .none, _, .non => .base .non
  | .bool _, _, .bl b => .base (.bl b)
  | .int _, _, .int i => .base (.int i)
  | .str _, _, .str z => .base (.str z)
  | .list _, _, .lst h _ => by
    rcases h with (h | ⟨o, h⟩) | ⟨o, its, n, h, hc, _⟩
    · exact .base (.lst h)
    · exact .base (.frz h)
    · exact .kList h hc
  | .tuple _, _, .tup h _ => by
    rcases h with (h | ⟨o, h⟩) | ⟨o, its, n, h, hc, _⟩
    · exact .base (.tup h)
    · exact .fTuple h
    · exact .kTuple h hc
theorem tyx_th {K : PySem.W.Frag} {H : Hp} {d : PyData} {x : V} (h : Th K H x d) : TyX K H x (.type (tyD d)) := by
  rcases h with h | ⟨a, kvs, l, rfl, h, rfl⟩
  · exact tyx_dp h
  · exact .base (.dK h)
def isI : PyData → Bool
  | .int _ => true
  | .bool _ => true
  | _ => false
def isB : PyData → Bool
  | .bool _ => true
  | _ => false
def isS : PyData → Bool
  | .str _ => true
  | _ => false
def isT : PyData → Bool
  | .tuple _ => true
  | _ => false
theorem kit_int : ∀ d : PyData, kitB (tyD d) "int" = some (isI d)
  | .none => (by decide +kernel : kitB "NoneType" "int" = some false)
  | .bool _ => (by decide +kernel : kitB "bool" "int" = some true)
  | .int _ => (by decide +kernel : kitB "int" "int" = some true)
  | .str _ => (by decide +kernel : kitB "str" "int" = some false)
  | .list _ => (by decide +kernel : kitB "list" "int" = some false)
  | .tuple _ => (by decide +kernel : kitB "tuple" "int" = some false)
  | .dict _ => (by decide +kernel : kitB "dict" "int" = some false)
theorem kit_bool : ∀ d : PyData, kitB (tyD d) "bool" = some (isB d)
  | .none => (by decide +kernel : kitB "NoneType" "bool" = some false)
  | .bool _ => (by decide +kernel : kitB "bool" "bool" = some true)
  | .int _ => (by decide +kernel : kitB "int" "bool" = some false)
  | .str _ => (by decide +kernel : kitB "str" "bool" = some false)
  | .list _ => (by decide +kernel : kitB "list" "bool" = some false)
  | .tuple _ => (by decide +kernel : kitB "tuple" "bool" = some false)
  | .dict _ => (by decide +kernel : kitB "dict" "bool" = some false)
theorem kit_str : ∀ d : PyData, kitB (tyD d) "str" = some (isS d)
  | .none => (by decide +kernel : kitB "NoneType" "str" = some false)
  | .bool _ => (by decide +kernel : kitB "bool" "str" = some false)
  | .int _ => (by decide +kernel : kitB "int" "str" = some false)
  | .str _ => (by decide +kernel : kitB "str" "str" = some true)
  | .list _ => (by decide +kernel : kitB "list" "str" = some false)
  | .tuple _ => (by decide +kernel : kitB "tuple" "str" = some false)
  | .dict _ => (by decide +kernel : kitB "dict" "str" = some false)
theorem kit_tuple : ∀ d : PyData, kitB (tyD d) "tuple" = some (isT d)
  | .none => (by decide +kernel : kitB "NoneType" "tuple" = some false)
  | .bool _ => (by decide +kernel : kitB "bool" "tuple" = some false)
  | .int _ => (by decide +kernel : kitB "int" "tuple" = some false)
  | .str _ => (by decide +kernel : kitB "str" "tuple" = some false)
  | .list _ => (by decide +kernel : kitB "list" "tuple" = some false)
  | .tuple _ => (by decide +kernel : kitB "tuple" "tuple" = some true)
  | .dict _ => (by decide +kernel : kitB "dict" "tuple" = some false)

/-! ### what the functions tell -/
def whole : PyData → Bool
  | .int _ => true
  | _ => false
def between (lo hi : Int) : PyData → Bool
  | .int i => decide (lo ≤ i) && decide (i ≤ hi)
  | _ => false
def letter (c : Nat) : Bool := decide (97 ≤ c) && decide (c ≤ 122)
def letters (z : Str) : Bool := z.cps.toList.all letter
def kept : List Str := ["keys", "look", "self"]
def nameS (z : Str) : Bool := decide (1 ≤ z.length) && decide (z.length ≤ 4) && letters z && !(kept.contains z)
def nameD : PyData → Bool
  | .str z => nameS z
  | _ => false
def valueD : PyData → Bool
  | .int i => decide (i.natAbs < 10 ^ 40)
  | _ => false
def elemD : PyData → Bool
  | .tuple [k, n] => between 0 999999 k && nameD n
  | _ => false
def entryD : PyData → Bool
  | .tuple [k, n, v] => between 0 999999 k && nameD n && valueD v
  | _ => false
/-- a def of one thing that tells a bool -/
def spB (K : PySem.W.Frag) (f : PyData → Bool) : Sp := fun vs H Q _ => ∃ (x : V) (d : PyData), vs = [x] ∧ Th K H x d ∧ Small d ∧ ∀ H', Same H H' → Q (.bl (f d)) H'
/-- .. within bounds -/
def spR (K : PySem.W.Frag) : Sp := fun vs H Q _ => ∃ (x : V) (d : PyData) (lo hi : Int), vs = [x, .int lo, .int hi] ∧ Th K H x d ∧ Small d ∧ ∀ H', Same H H' → Q (.bl (between lo hi d)) H'
def spLetters : Sp := fun vs H Q _ => ∃ z : Str, vs = [.str z] ∧ z.length ≤ 100000 ∧ ∀ H', Same H H' → Q (.bl (letters z)) H'
theorem th_str {K : PySem.W.Frag} {H : Hp} {x : V} {z : Str} (h : Th K H x (.str z)) : x = .str z := by
  rcases h with h | ⟨a, kvs, l, e, h, e'⟩
  · cases h; rfl
  · cases e'
theorem th_int {K : PySem.W.Frag} {H : Hp} {x : V} {i : Int} (h : Th K H x (.int i)) : x = .int i := by
  rcases h with h | ⟨a, kvs, l, e, h, e'⟩
  · cases h; rfl
  · cases e'
theorem th_tuple {K : PySem.W.Frag} {H : Hp} {x : V} {ds : List PyData} (h : Th K H x (.tuple ds)) : ∃ a xs, x = .ref a ∧ SqT K H a xs ∧ DpAll K H xs ds := by
  rcases h with h | ⟨a, kvs, l, e, h, e'⟩
  · cases h with
    | tup h1 h2 => exact ⟨_, _, rfl, h1, h2⟩
  · cases e'
theorem dpAll_len {K : PySem.W.Frag} {H : Hp} : ∀ {xs : List V} {ds : List PyData}, DpAll K H xs ds → xs.length = ds.length
  | _, _, .nil => rfl
  | _, _, .cons _ h => congrArg (· + 1) (dpAll_len h)
theorem in_kept (z : Str) : inV (.str z) (kept.map V.str) = kept.contains z := by
  unfold inV kept
  simp only [List.map_cons, List.map_nil, List.any_cons, List.any_nil, List.contains_cons, List.contains_nil, eqV]
  congr 1
  · exact BEq.comm
  congr 1
  · exact BEq.comm
  congr 1
  exact BEq.comm
theorem len2 {α : Type} : ∀ {l : List α}, l.length = 2 → ∃ a b, l = [a, b]
  | [a, b], _ => ⟨a, b, rfl⟩
theorem len3 {α : Type} : ∀ {l : List α}, l.length = 3 → ∃ a b c, l = [a, b, c]
  | [a, b, c], _ => ⟨a, b, c, rfl⟩
theorem elem_no : ∀ {ds : List PyData}, ¬ ds.length = 2 → elemD (.tuple ds) = false
  | [], _ => rfl
  | [_], _ => rfl
  | [_, _], h => absurd rfl h
  | _ :: _ :: _ :: _, _ => rfl
theorem entry_no : ∀ {ds : List PyData}, ¬ ds.length = 3 → entryD (.tuple ds) = false
  | [], _ => rfl
  | [_], _ => rfl
  | [_, _], _ => rfl
  | [_, _, _], h => absurd rfl h
  | _ :: _ :: _ :: _ :: _, _ => rfl
theorem len_line {n : Nat} (h : n ≤ 100000) : n ≤ sizeLine := Nat.le_of_lt (Nat.lt_of_le_of_lt h (by decide))

/-! ### the bag -/
def Bag (H : Hp) (b : Addr) (n : Nat) : Prop := ∃ far mix cnt : Int, H b = some (.lst [.int far, .int mix, .int cnt]) ∧
  0 ≤ far ∧ 0 ≤ mix ∧ mix < 2305843009213693951 ∧ 0 ≤ cnt ∧ cnt ≤ n
theorem Bag.mono {H : Hp} {b : Addr} {n m : Nat} (h : Bag H b n) (l : n ≤ m) : Bag H b m := by
  obtain ⟨f, x, c, e, h1, h2, h3, h4, h5⟩ := h
  exact ⟨f, x, c, e, h1, h2, h3, h4, by omega⟩
theorem Bag.same {H H' : Hp} {b : Addr} {n : Nat} (h : Bag H b n) (s : Same H H') : Bag H' b n := by
  obtain ⟨f, x, c, e, h1⟩ := h
  exact ⟨f, x, c, s _ _ e, h1⟩
theorem Bag.some {H : Hp} {b : Addr} {n : Nat} (h : Bag H b n) : ∃ o, H b = some o := by
  obtain ⟨f, x, c, e, h1⟩ := h
  exact ⟨_, e⟩

def spTake : Sp := fun vs H Q _ => ∃ (b : Addr) (m : Int) (n : Nat), vs = [.ref b, .int m] ∧ 0 < m ∧ m < 1073741824 ∧ Bag H b n ∧ n ≤ 1000000 ∧
  ∀ (d : Int) (H' : Hp), 0 ≤ d → d < m → But b H H' → Bag H' b (n + 1) → Q (.int d) H'

def spBag (K : PySem.W.Frag) : Sp := fun vs H Q _ => ∃ (a : Addr) (ns : List Int) (i : Int), vs = [.ref a, .int i] ∧ SqL K H a (ns.map V.int) ∧ 0 ≤ i ∧ i ≤ 1000 ∧
  ∀ (p : Addr) (H' : Hp), Same H H' → H p = none → Bag H' p 0 → Q (.ref p) H'
theorem but_new {b p : Addr} {H : Hp} {o : HO} (h : H p = none) : But b H (upd H p o) := But.of_same (same_new h)
theorem Bag.new {b p : Addr} {H : Hp} {o : HO} {n : Nat} (h : Bag H b n) (e : H p = none) : Bag (upd H p o) b n := h.same (same_new e)
theorem Bag.ne {b p : Addr} {H : Hp} {n : Nat} (h : Bag H b n) (e : H p = none) : p ≠ b := fun z => by
  obtain ⟨o, ho⟩ := h.some
  rw [z, ho] at e
  cases e
theorem But.at {b c : Addr} {H H' : Hp} {o : HO} (h : But b H H') (n : c ≠ b) (e : H c = some o) : H' c = some o := by
  have := h c o (by rw [hid_ne n]; exact e)
  rw [hid_ne n] at this
  exact this
theorem But.put {b p : Addr} {H H' : Hp} {o : HO} (h : But b H H') (n : H p = none) : But b H (L2.upd H' p o) := fun c u e => by
  obtain ⟨nb, e'⟩ := hid_some e
  rw [hid_ne nb, upd_ne (ne_of_none e' n)]
  exact h.at nb e'
theorem Bag.put {b p : Addr} {H : Hp} {o : HO} {n : Nat} (h : Bag H b n) (e : p ≠ b) : Bag (upd H p o) b n := by
  obtain ⟨f, x, c, h1, h2⟩ := h
  exact ⟨f, x, c, by rw [upd_ne e.symm]; exact h1, h2⟩
theorem But.back {b : Addr} {H H1 H2 : Hp} (h : But b H1 H2) (s : Same H H1) (n : H b = none) : Same H H2 := fun c o e =>
  h.at (ne_of_none e n) (s c o e)
theorem Th.out {K : PySem.W.Frag} {b : Addr} {H : Hp} {x : V} {d : PyData} (h : Th K (hid H b) x d) : Th K H x d := h.same hid_same
end Eu
set_option Elab.async false
set_option linter.all false
set_option maxRecDepth 100000
set_option maxHeartbeats 4000000
namespace Eu
open PySem PySem.Spec PyProof.Rows L2
/-- item by item -/
def Rel2 {α : Type} (R : α → V → Hp → Prop) (H : Hp) (xs : List α) (ys : List V) : Prop := xs.length = ys.length ∧ ∀ (i : Nat) (x : α) (y : V), xs[i]? = some x → ys[i]? = some y → R x y H
theorem Rel2.snoc {α : Type} {R : α → V → Hp → Prop} {H : Hp} {xs : List α} {ys : List V} {x : α} {y : V} (h : Rel2 R H xs ys) (r : R x y H) : Rel2 R H (xs ++ [x]) (ys ++ [y]) := by
  obtain ⟨hl, h⟩ := h
  refine ⟨by simp [hl], fun i a b ea eb => ?_⟩
  by_cases hi : i < xs.length
  · rw [List.getElem?_append_left hi] at ea
    rw [List.getElem?_append_left (by omega)] at eb
    exact h i a b ea eb
  · have hi' : i = xs.length := by
      have := (List.getElem?_eq_some_iff.mp ea).1
      rw [List.length_append, List.length_singleton] at this
      omega
    subst hi'
    rw [List.getElem?_append_right (Nat.le_refl _)] at ea
    rw [List.getElem?_append_right (by omega)] at eb
    simp at ea
    simp [hl] at eb
    subst ea eb
    exact r
section
variable {α : Type} {J : It} {xs : List α} {Y : α → Hp → V → Hp → Prop} {S : Hp → Prop} {g : TG}
/-- a comprehension without a test: each item gives something new that R tells -/
theorem lc_rel {te : TE} {vs : List Nat} {σ : L2.St} {H1 : Hp} {D : Addr} {Qd : Hp → Prop} (o : Over J xs Y S) (R : α → V → Hp → Prop)
    (nD : H1 D = none) (hn : xs.length ≤ sizeLine) (hS : ∀ H, Same H1 H → S H)
    (hR : ∀ x y H H' acc, H D = some (.lst acc) → R x y H → But D H H' → R x y H')
    (hs : ∀ x ∈ xs, ∀ H v H' (Nx : V → Hp → Prop), Same H1 H → Y x H v H' → (∀ y H'', Same H H'' → R x y H'' → Nx y H'') →
      g v (wipe σ vs) H' fun σ2 H2 => wipe σ2 vs = wipe σ vs ∧ te σ2 H2 fun y H4 => Nx y H4)
    (hg : ∀ (v : V) (σ : L2.St) (H : Hp) (A B : L2.St → Hp → Prop), (∀ σ H, A σ H → B σ H) → g v σ H A → g v σ H B)
    (hd : ∀ H ys, Same H1 H → H D = some (.lst ys) → Rel2 R H xs ys → Qd H) :
    ∃ W : Nat → Nat → Hp → Prop, (∃ m, W 0 m (upd H1 D (.lst []))) ∧ ∀ i m H, W i m H → (J.stop i H ∧ Qd H) ∨ (J.go i H ∧
      ∃ Nx : Hp → Prop, (∀ H', Nx H' → ∃ m', m' < m ∧ W (i + 1) m' H') ∧ ∀ x H', J.yld i H x H' → g x (wipe σ vs) H' fun σ2 H2 => wipe σ2 vs = wipe σ vs ∧ tYes σ2 H2 fun b H3 =>
        if b = true then te σ2 H3 fun y H4 => ∃ acc, H4 D = some (.lst acc) ∧ acc.length < sizeLine ∧ Nx (upd H4 D (.lst (acc ++ [y]))) else Nx H3) := by
  refine lc_over o (fun i H => Same H1 H ∧ ∃ ys, H D = some (.lst ys) ∧ Rel2 R H (xs.take i) ys) ⟨same_new nD, [], upd_same, ?_⟩ (fun i H _ p => hS H p.1) ?_ ?_
  · exact ⟨rfl, fun i x y e => by simp at e⟩
  · rintro i x H v H' e ⟨s, ys, hD, hr⟩ y
    have hi := (List.getElem?_eq_some_iff.mp e).1
    have key := hs x (List.mem_of_getElem? e) H v H' (fun y H4 => ∃ acc, H4 D = some (.lst acc) ∧ acc.length < sizeLine ∧
      (Same H1 (upd H4 D (.lst (acc ++ [y]))) ∧ ∃ ys, (upd H4 D (.lst (acc ++ [y]))) D = some (.lst ys) ∧ Rel2 R (upd H4 D (.lst (acc ++ [y]))) (xs.take (i + 1)) ys)) s y ?_
    · refine hg _ _ _ _ _ ?_ key
      rintro σ2 H2 ⟨w, q⟩
      exact ⟨w, lc_yes q⟩
    · intro y H4 s4 r
      have hD4 := s4 _ _ hD
      refine ⟨ys, hD4, ?_, fun b u z => ?_, _, upd_same, ?_⟩
      · have := hr.1
        rw [List.length_take] at this
        omega
      · rw [upd_ne (ne_of_none z nD)]
        exact s4 _ _ (s _ _ z)
      · rw [List.take_add_one, e]
        refine Rel2.snoc ⟨hr.1, fun j a b ea eb => ?_⟩ (hR _ _ _ _ _ hD4 r But.upd)
        exact hR _ _ _ _ _ hD (hr.2 j a b ea eb) ((But.of_same s4).trans But.upd)
  · rintro H ⟨s, ys, hD, hr⟩
    rw [List.take_length] at hr
    exact hd H ys s hD hr
end
/-- a dict read while it is locked, and then opened again -/
theorem same_open {H H' : Hp} {d : Addr} {od : Obj} {u : HO} (hd : H d = some u) (s : Same (upd H d (.frz od u)) H') : Same H (upd H' d u) := fun c o e => by
  by_cases hc : c = d
  · subst hc
    rw [hd] at e
    rw [upd_same]
    exact e
  · rw [upd_ne hc]
    exact s _ _ (by rw [upd_ne hc]; exact e)
end Eu
set_option Elab.async false
set_option linter.all false
set_option maxRecDepth 100000
set_option maxHeartbeats 4000000
namespace Eu
open PySem PySem.Spec PyProof.Rows L2
section
variable {X : Cx}
/-- d.update(o), another dict -/
def rUpdate : V → List V → Hp → VK → Prop := fun x vs H Q => ∃ (d o : Addr) (kvs more : List (Key × V)), x = .ref d ∧ vs = [.ref o] ∧ H d = some (.dK kvs) ∧ Rd H o (.dK more) ∧ d ≠ o ∧ kvs.length + more.length ≤ sizeLine ∧
  Q .non (upd H d (.dK (mergeK kvs more)))
theorem mt_update : MtR X "dict.update" rUpdate := by
  intro pins s σ H x vs v us Q I rx rv h
  obtain ⟨d, o, kvs, more, rfl, rfl, hd, ho, hne, hz, q⟩ := h
  cases rx
  obtain ⟨u, rfl, ru⟩ := vals1 rv
  cases ru
  obtain ⟨z1, lo1, vs1, rel1, dd1⟩ := dk_of I.hok hd
  obtain ⟨z2, lo2, vs2, rel2, dd2⟩ := dk_rd I.hok ho
  have hl : (mergeK kvs more).length ≤ sizeLine := Nat.le_trans (length_mergeK more kvs) hz
  refine call_meetsIn PySem.F.slot_dict_update dd1.typeIs PySem.F.entry_dict_update (PySem.F.args_dict_update_2 _ _) (meets_dict_update (mixKind X.prog X.w) d o hne lo2)
    ⟨vs1, vs2, dd1, dd2, by rw [← rel1.length, ← rel2.length]; exact hz, fun h' dd' _ hs => ?_⟩
  have he : ∃ q, h'.get? d = some q := let ⟨q, _, _, hq, _⟩ := dd'; ⟨q, hq⟩
  exact ⟨.non, _, d_write I (by rw [hd]; exact True.intro) hs he (dk_new hl lo1 (KV.merge rel2 rel1) dd'), rfl, q⟩
theorem call_dictPK {K : PySem.W.Frag} (hcalm : X.calm = true) (h : X.K = K := by rfl) : CallR X (.type "dict") (fun xs H Q => ∃ (a : Addr) (ps : List Addr) (kvs : List (Key × V)), xs = [.ref a] ∧ SqL K H a (ps.map V.ref) ∧ Paired (fun p kv => SqT K H p [kV kv.1, kv.2]) ps kvs ∧
    ∀ p, H p = none → Q (.ref p) (upd H p (.dK (mergeK [] kvs)))) := by
  subst h
  exact call_dictP hcalm
theorem sl_listK {K : PySem.W.Frag} (h : X.K = K := by rfl) : SlR X (rSlL K) := by subst h; exact sl_list
end
section
variable {α : Type} {J : It} {xs : List α} {Y : α → Hp → V → Hp → Prop} {S : Hp → Prop} {g : TG}
/-- a comprehension: the items with f give something new that R tells -/
theorem lc_relF {tt : TT} {te : TE} {vs : List Nat} {σ : L2.St} {H1 : Hp} {D : Addr} {Qd : Hp → Prop} (o : Over J xs Y S) (f : α → Bool) (R : α → V → Hp → Prop)
    (nD : H1 D = none) (hn : xs.length ≤ sizeLine) (hS : ∀ H, Same H1 H → S H)
    (hR : ∀ x y H H' acc, H D = some (.lst acc) → R x y H → But D H H' → R x y H')
    (hs : ∀ x ∈ xs, ∀ H v H' (Nx : Option V → Hp → Prop), Same H1 H → Y x H v H' → (∀ y H'', f x = true → Same H H'' → R x y H'' → Nx (some y) H'') → (∀ H'', f x = false → Same H H'' → Nx none H'') →
      g v (wipe σ vs) H' fun σ2 H2 => wipe σ2 vs = wipe σ vs ∧ tt σ2 H2 fun b H3 => if b = true then te σ2 H3 fun y H4 => Nx (some y) H4 else Nx none H3)
    (hd : ∀ H ys, Same H1 H → H D = some (.lst ys) → Rel2 R H (xs.filter f) ys → Qd H) :
    ∃ W : Nat → Nat → Hp → Prop, (∃ m, W 0 m (upd H1 D (.lst []))) ∧ ∀ i m H, W i m H → (J.stop i H ∧ Qd H) ∨ (J.go i H ∧
      ∃ Nx : Hp → Prop, (∀ H', Nx H' → ∃ m', m' < m ∧ W (i + 1) m' H') ∧ ∀ x H', J.yld i H x H' → g x (wipe σ vs) H' fun σ2 H2 => wipe σ2 vs = wipe σ vs ∧ tt σ2 H2 fun b H3 =>
        if b = true then te σ2 H3 fun y H4 => ∃ acc, H4 D = some (.lst acc) ∧ acc.length < sizeLine ∧ Nx (upd H4 D (.lst (acc ++ [y]))) else Nx H3) := by
  refine lc_over o (fun i H => Same H1 H ∧ ∃ ys, H D = some (.lst ys) ∧ Rel2 R H ((xs.take i).filter f) ys) ⟨same_new nD, [], upd_same, ?_⟩ (fun i H _ p => hS H p.1) ?_ ?_
  · exact ⟨rfl, fun i x y e => by simp at e⟩
  · rintro i x H v H' e ⟨s, ys, hD, hr⟩ y
    have hi := (List.getElem?_eq_some_iff.mp e).1
    refine hs x (List.mem_of_getElem? e) H v H' (fun oy H4 => match oy with
      | some y => ∃ acc, H4 D = some (.lst acc) ∧ acc.length < sizeLine ∧ (Same H1 (upd H4 D (.lst (acc ++ [y]))) ∧ ∃ ys, (upd H4 D (.lst (acc ++ [y]))) D = some (.lst ys) ∧ Rel2 R (upd H4 D (.lst (acc ++ [y]))) ((xs.take (i + 1)).filter f) ys)
      | none => Same H1 H4 ∧ ∃ ys, H4 D = some (.lst ys) ∧ Rel2 R H4 ((xs.take (i + 1)).filter f) ys) s y ?_ ?_
    · intro y H4 hf s4 r
      have hD4 := s4 _ _ hD
      refine ⟨ys, hD4, ?_, fun b u z => ?_, _, upd_same, ?_⟩
      · have h1 := hr.1
        have h2 := List.length_filter_le f (xs.take i)
        rw [List.length_take] at h2
        omega
      · rw [upd_ne (ne_of_none z nD)]
        exact s4 _ _ (s _ _ z)
      · rw [List.take_add_one, e, List.filter_append]
        have : (Option.toList (some x)).filter f = [x] := by
          show [x].filter f = [x]
          rw [List.filter_cons, if_pos hf]
          rfl
        rw [this]
        refine Rel2.snoc ⟨hr.1, fun j a b ea eb => ?_⟩ (hR _ _ _ _ _ hD4 r But.upd)
        exact hR _ _ _ _ _ hD (hr.2 j a b ea eb) ((But.of_same s4).trans But.upd)
    · intro H4 hf s4
      refine ⟨s.trans s4, ys, s4 _ _ hD, ?_⟩
      rw [List.take_add_one, e, List.filter_append]
      have : (Option.toList (some x)).filter f = [] := by
        show [x].filter f = []
        rw [List.filter_cons, if_neg (by rw [hf]; exact Bool.false_ne_true)]
        rfl
      rw [this, List.append_nil]
      exact ⟨hr.1, fun j a b ea eb => hR _ _ _ _ _ hD (hr.2 j a b ea eb) (But.of_same s4)⟩
  · rintro H ⟨s, ys, hD, hr⟩
    rw [List.take_length] at hr
    exact hd H ys s hD hr
end
end Eu
set_option Elab.async false
set_option linter.all false
set_option maxRecDepth 100000
set_option maxHeartbeats 4000000
namespace Eu
open PySem PySem.Spec PyProof.Rows L2

/-! ### a op b of two classes of one's own -/
/-- both have the operator, none has the reflected one, the right one is no subclass of the left one -/
structure TwoC (K : PySem.W.Frag) (C C2 : Addr) (nm : String) : Prop where
  ne : C ≠ C2
  sf : PySem.W.selfFirst K C = true
  sf2 : PySem.W.selfFirst K C2 = true
  hs2 : ∃ f2 : Addr, PySem.W.findIn K (.ref C2) (PySem.dunder nm) = some (some (.ref f2))
  hr : PySem.W.findIn K (.ref C) (PySem.dunderR nm) = some none
  hr2 : PySem.W.findIn K (.ref C2) (PySem.dunderR nm) = some none
  sub : PySem.W.subIn K (.ref C2) (.ref C) = some false
section
open PySem.W
variable {prog : Program} {w : World} {A : Around} {E : Value → Shared → Prop} {s : Shared} {K : PySem.W.Frag} {x C C2 L f : Addr} {h₀ : Heap} {m : Str → Option Value} {ox : Obj} {od : Option Obj}
theorem binop_K2 {op : Operator} {b : Value} {Q : Value → Shared → Prop} (F : Fr h₀ L s.heap m) (X₀ : K.In h₀) (I : InstAt s.heap x ox C od) (hb : Looks (model prog w) s.heap (typeOf b) (.ref C2)) (T : TwoC K C C2 op.info.2)
    (hs : findIn K (.ref C) (PySem.dunder op.info.2) = some (some (.ref f))) (hf : isFn K (.ref f) = true)
    (h : wpAny (model prog w) A (call (.ref f) [.ref x, b]) (PySem.W.CmpBack Q) E s) : wpAny (model prog w) A (binaryOp op (.ref x) b) Q E s := by
  have X := X₀.keeps F.keep
  obtain ⟨cd, rest, hcd, hm⟩ := ksp_first T.sf
  obtain ⟨cd2, rest2, hcd2, hm2⟩ := ksp_first T.sf2
  obtain ⟨f2, hs2⟩ := T.hs2
  have hr := T.hr
  have hr2 := T.hr2
  rcases hi : op.info with ⟨sym, nm'⟩
  rw [hi] at hs hs2 hr hr2
  dsimp only at hs hs2 hr hr2
  have one := ksp_try X I hs hf h
  obtain ⟨hh, g, d, tt, os⟩ := s
  have L1 : Looks (model prog w) hh (typeOf (.ref x)) (.ref C) := I.type
  have L2 : Looks (model prog w) hh (typeOf b) (.ref C2) := hb
  have L3 : Looks (model prog w) hh (fillsNumberSlot (.ref C) nm') true := fills_K X hcd hm hs
  have L4 : Looks (model prog w) hh (fillsNumberSlot (.ref C2) nm') true := fills_K X hcd2 hm2 hs2
  have L5 : Looks (model prog w) hh (isSubtype (.ref C2) (.ref C)) false := looks_subIn X T.sub
  have L6 : Looks (model prog w) hh (numberSlotInPython (.ref C) nm') true := ksp_inPy X hs hr (.inl rfl)
  have L7 : Looks (model prog w) hh (numberSlotInPython (.ref C2) nm') true := ksp_inPy X hs2 hr2 (.inl rfl)
  have hne : (Value.ref C == Value.ref C2) = false := Bool.eq_false_iff.mpr fun q => by cases beq_iff_eq.mp q; exact T.ne rfl
  simp only [binaryOp, hi]
  refine wpAny_holding (wpAny_bind ?_)
  unfold binaryOp1
  refine wpAny_bind (L1.at (wpAny_bind (L2.at (wpAny_bind (L3.at ?_)))))
  simp only [hne, Bool.false_eq_true, if_false]
  ksp_lk
  refine wpAny_mono one (fun r s' hr' => ?_) fun _ _ e => e
  obtain ⟨v, rfl, hq⟩ := hr'
  ksp_lk
  exact hq
end
section
variable {X : Cx} {k j : Nat} {C C2 : Addr} {sp : Sp} {dvs : List V}
/-- a op b, a of the class at C, b of that at C2 -/
def rOwn2 (C C2 : Addr) (sp : Sp) (dvs : List V) : R2 := fun x y H Q => ∃ a b dx dy fs gs, x = .ref a ∧ y = .ref b ∧ H a = some (.ins C dx fs) ∧ H b = some (.ins C2 dy gs) ∧
  sp ([x, y] ++ dvs) H (fun v H' => (∀ u, RelV v u → u ≠ .notImplemented) ∧ Q v H') E0
theorem op_own2 {op : Operator} {m : Str} (e : PySem.dunder op.info.2 = m) (c : Met X.prog X.w X.K X.mg X.base k C m sp dvs) (hr : Rm j X.A) (hk : k ≤ j) (T : TwoC X.K C C2 op.info.2) :
    OpR X (binaryOp op) (rOwn2 C C2 sp dvs) := by
  subst e
  obtain ⟨f, fd, ps, ds, hc, hm, o, b', d⟩ := c.ex
  intro pins s σ H x y v u Q I rx ry h
  obtain ⟨a, b, dx, dy, fs, gs, rfl, rfl, ha, hb, q⟩ := h
  cases rx
  cases ry
  obtain ⟨od, J⟩ := inst_of I ha
  obtain ⟨od2, J2⟩ := inst_of I hb
  obtain ⟨m, fr⟩ := I.fr
  refine binop_K2 fr I.ok.mod.kin J J2.type T hm.at_ hm.fn ?_
  refine wpAny_mono (run_ok (us := [.ref a, .ref b]) (vs := [.ref a, .ref b]) o (hr.mono hk) b' d pass0 I (.cons rfl (.cons rfl .nil)) q) ?_ (fun _ _ z => z)
  rintro r s' ⟨z, H', I', rz, nz, q'⟩
  have := nz r rz
  unfold PySem.W.CmpBack
  cases r <;> first | exact absurd rfl this | exact ⟨z, H', I', rz, q'⟩

/-! ### o[k], by the class's own __getitem__ -/
def rOwnIx (C : Addr) (sp : Sp) (dvs : List V) : R2 := fun x y H Q => ∃ a dx fs, x = .ref a ∧ H a = some (.ins C dx fs) ∧ sp ([x, y] ++ dvs) H Q E0
/-- a method is a def -/
def FnI (K : PySem.W.Frag) (C : Addr) (m : Str) : Prop := ∀ f, PySem.W.findIn K (.ref C) m = some (some (.ref f)) → PySem.W.fnIn K f = true
theorem Dm.fni {K : PySem.W.Frag} {C : Addr} {m qual : Str} {st : Stmt} {dvs : List V} (D : Dm K C m qual st dvs) : FnI K C m := fun f e => by
  obtain ⟨f', oc, od, dV, kV, doc, pm, an, cdv, ct, osl, l, cd, me, dd⟩ := D.ex
  have e2 := me.at_
  rw [e] at e2
  cases e2
  unfold PySem.W.fnIn
  rw [l]
end
section
variable {X : Cx} {k j : Nat} {C : Addr} {sp : Sp} {dvs : List V} {a b : Expr} {ta tb : TE} {pos : Pos}
/-- o[k] -/
theorem pe_ownIx (c : Met X.prog X.w X.K X.mg X.base k C "__getitem__" sp dvs) (hF : FnI X.K C "__getitem__") (hr : Rm j X.A) (hk : k + 1 ≤ j) (ha : PE X a ta) (hb : PE X b tb)
    (hs : ∀ o i, subscripted b true o i = runValue (.builtin "lifetime.subscript" ⟨[o, i], []⟩) := by intro _ _; rfl) : PE X (.Subscript a b pos) (tOp (rOwnIx C sp dvs) ta tb) := by
  obtain ⟨f, fd, ps, ds, hc, hm, o, b', d⟩ := c.ex
  refine ⟨fun pins s σ H Q I h => ?_⟩
  refine Subscript_ (binT ha hb I h fun v u s2 x y H2 I2 rx ry q => ?_)
  obtain ⟨a', dx, fs, rfl, hx, q⟩ := q
  cases rx
  obtain ⟨od, J⟩ := inst_of I2 hx
  obtain ⟨m, fr⟩ := I2.fr
  have hfn : PySem.W.fnIn X.K f = true := hF f hm.at_
  refine PySem.W.sub_K fr I2.ok.mod.kin J hm.at_ hfn hm.fn ?_ (hs _ _)
  exact run_in1 (us := [.ref a', u]) (vs := [.ref a', y]) o (hr.mono hk) b' d I2 (.cons rfl (.cons ry .nil)) q
end

theorem pe_fldK {X : Cx} {K : PySem.W.Frag} {e : Expr} {f : Str} {ta : TE} {pos : Pos} (he : PE X e ta) (hb : attributeBase e f X.env (eval e X.env) = eval e X.env) (h : X.K = K := by rfl) : PE X (.Attribute e f pos) (tFld K ta f) := by
  subst h
  exact pe_fld he hb
/-! ### C.m(..), m a staticmethod -/
structure Sta (P : Program) (w : World) (K : PySem.W.Frag) (mg : Str → Option Value) (base : Heap) (k : Nat) (C : Addr) (m : Str) (ps : List Str) (sp : Sp) : Prop where
  ex : ∃ (mc : Value) (p f : Addr) (fd : FuncData), ClX.CRead K C mc ∧ PySem.W.findCls K (.ref C) mc m = some (.get (.builtin "staticmethod.__get__") (.ref p) .none (.ref C)) ∧
    (∃ rest, PySem.W.recIn K p "staticmethod" = some (.ref f :: rest)) ∧ PySem.W.keepIn K (.ref f) = true ∧ Ok P w K mg base CX0 k f fd ps sp ∧
    (∀ (s : Shared) (us : List Value) (ws : List Value) (ks : List Str), K.In s.heap → us.length + ws.length = ps.length → ks = ps.drop us.length → BindsTo s fd ⟨us, ks.zip ws⟩ (ps.zip (us ++ ws)))
def tStat (C : Addr) (sp : Sp) (ta : TE) (t tk : TA) : TE := fun σ H Q => ta σ H fun x H1 => x = .ref C ∧ t σ H1 fun vs H2 => tk σ H2 fun zs H3 => sp (vs ++ zs) H3 Q E0
section
variable {X : Cx} {k j : Nat} {C : Addr} {m : Str} {sp : Sp} {ps : List Str} {pos apos : Pos} {e o : Expr} {es : List Expr} {kws : List Keyword} {ta : TE} {t tk : TA}
theorem run_stat {pins : List (Addr × Obj)} {σ : L2.St} {H : Hp} {s : Shared} {Q : VK} {us ws : List Value} {vs zs : List V} {ks : List Str} {f : Addr} {fd : FuncData}
    (o : Ok X.prog X.w X.K X.mg X.base CX0 k f fd ps sp) (hr : Rm k X.A) (I : Inv X pins σ H s) (r : Vals vs us) (rz : Vals zs ws)
    (hb : us.length + ws.length = ps.length → BindsTo s fd ⟨us, ks.zip ws⟩ (ps.zip (us ++ ws))) (h : sp (vs ++ zs) H Q E0) :
    wpAny (model X.prog X.w) X.A (call (.ref f) us (ks.zip ws)) (EP X pins σ Q) X.xe s := by
  have rr := r.append rz
  have hl : us.length + ws.length = ps.length := by
    rw [← List.length_append, ← rr.length]
    exact o.len _ _ _ _ h
  refine wpAny_call (codeAny_mono (o.go X.A X.stack s H ⟨us, ks.zip ws⟩ (us ++ ws) (vs ++ zs) Q E0 hr I.env0 (hb hl) rr h) ?_)
  intro res s' hq
  match res, hq with
  | .error e, hq => exact False.elim hq
  | .ok (.ret u), hq => exact I.after hq
  | .ok .next, hq => exact False.elim hq
  | .ok .brk, hq => exact False.elim hq
  | .ok .cont, hq => exact False.elim hq
theorem pe_stat {pl : Sem Bool} (c : Sta X.prog X.w X.K X.mg X.base k C m ps sp) (hr : Rm j X.A) (hk : k ≤ j) (he : PE X o ta) (ha : PA X (e :: es) t)
    (hst : starEach (e :: es) X.env = (false, eval e X.env) :: starEach es X.env := by rfl)
    (hpl : (backTo pos (starEach es X.env)).any (·.1) = false := by rfl)
    (ht : eval (.Call (.Attribute o m apos) (e :: es) [] pos) X.env = (do
      let v ← eval o X.env
      standAt apos.atName
      let (g, l) ← holding [v] (getMethod v m pl)
      callWith pos g l (backTo pos (starEach (e :: es) X.env)) (backToKw pos (keywordEach [] X.env))) := by rfl) :
    PE X (.Call (.Attribute o m apos) (e :: es) [] pos) (tStat C sp ta t tNil) := by
  obtain ⟨mc, p, f, fd, cr, at_, ⟨rest, rc⟩, kp, ok, b⟩ := c.ex
  constructor
  intro pins s σ H Q I h
  refine PySem.W.methodCall_KW (pl := pl) (thn (he.run pins s σ H _ I h) ?_) ht
  rintro u s1 ⟨y, H1, I1, ry, ey, q⟩
  subst ey
  have eu : u = Value.ref C := ry
  subst eu
  refine PySem.W.method_cls I1.kIn cr.ga (PySem.W.cls_bind I1.kIn cr.rd at_ (wpAny_call (PySem.W.sm_get (s := { s1 with toks := s1.toks + 1 }) I1.kIn rc (PySem.W.handed_on rfl ?_))))
  have I1' := I1.tok (s1.toks + 1)
  refine PySem.W.callWith_K (first := []) (h₀ := X.base) I.ok.mod.kin kp (thn (ha.run pos pins _ σ H1 _ I1' q) ?_) hst hpl
  rintro us s2 ⟨vs, H2, I2, r, q2⟩
  exact ⟨I2.kIn, run_stat (us := us) (ws := []) (zs := []) (ks := []) ok (hr.mono hk) I2 r .nil (fun hl => b _ us [] [] I2.kIn hl (by
    have hl' : us.length = ps.length := hl
    rw [hl', List.drop_length])) q2⟩
/-- C.m(e, .., k = v, ..) -/
theorem pe_statK {pl : Sem Bool} {ks : List Str} {n : Nat} (c : Sta X.prog X.w X.K X.mg X.base k C m ps sp) (hr : Rm j X.A) (hk : k ≤ j) (he : PE X o ta) (ha : PA X (e :: es) t) (hkw : PK X kws tk)
    (hn : (e :: es).length = n) (hd : ps.drop n = ks)
    (hst : starEach (e :: es) X.env = (false, eval e X.env) :: starEach es X.env := by rfl)
    (hall : (backToKw pos (keywordEach kws X.env)).all (·.1.isSome) = true := by rfl) (hks : (backToKw pos (keywordEach kws X.env)).filterMap (·.1) = ks := by rfl)
    (hpl : ((backTo pos (starEach (e :: es) X.env)).any (·.1) || (backToKw pos (keywordEach kws X.env)).any (·.1.isNone)) = false := by rfl)
    (ht : eval (.Call (.Attribute o m apos) (e :: es) kws pos) X.env = (do
      let v ← eval o X.env
      standAt apos.atName
      let (g, l) ← holding [v] (getMethod v m pl)
      callWith pos g l (backTo pos (starEach (e :: es) X.env)) (backToKw pos (keywordEach kws X.env))) := by rfl) :
    PE X (.Call (.Attribute o m apos) (e :: es) kws pos) (fun σ H Q => ta σ H fun x H1 => x = .ref C ∧ t σ H1 fun vs H2 => tk σ H2 fun zs H3 => vs.length = n ∧ sp (vs ++ zs) H3 Q E0) := by
  obtain ⟨mc, p, f, fd, cr, at_, ⟨rest, rc⟩, kp, ok, b⟩ := c.ex
  constructor
  intro pins s σ H Q I h
  refine PySem.W.methodCall_KW (pl := pl) (thn (he.run pins s σ H _ I h) ?_) ht
  rintro u s1 ⟨y, H1, I1, ry, ey, q⟩
  subst ey
  have eu : u = Value.ref C := ry
  subst eu
  refine PySem.W.method_cls I1.kIn cr.ga (PySem.W.cls_bind I1.kIn cr.rd at_ (wpAny_call (PySem.W.sm_get (s := { s1 with toks := s1.toks + 1 }) I1.kIn rc (PySem.W.handed_on rfl ?_))))
  have I1' := I1.tok (s1.toks + 1)
  refine PySem.W.callWith_KW (first := []) (h₀ := X.base) I.ok.mod.kin kp hall (thn (ha.run pos pins _ σ H1 _ I1' q) fun us s2 ⟨vs, H2, I2, r, q2⟩ => ?_) hpl hst
  refine thn (hkw.run pos pins s2 σ H2 _ I2 q2) fun ws s3 ⟨zs, H3, I3, rz, l1, q3⟩ => ⟨I3.kIn, ?_⟩
  rw [hks]
  exact run_stat (us := us) (ws := ws) ok (hr.mono hk) I3 r rz (fun hl => b _ us ws ks I3.kIn hl (by rw [← r.length, l1, hd])) q3
end
end Eu
set_option Elab.async false
set_option linter.all false
set_option maxRecDepth 100000
set_option maxHeartbeats 4000000
set_option pp.maxSteps 3000
namespace Eu
open PySem PySem.Spec PyProof.Rows L2
/-! ### defs that may raise -/
structure CalX (P : Program) (w : World) (K : PySem.W.Frag) (mg : Str → Option Value) (base : Heap) (k : Nat) (x : Str) (sp : Sp) (dvs : List V) : Prop where
  ex : ∃ (f : Addr) (fd : FuncData) (ps : List Str) (ds : List Value),
    Ok P w K mg base (L2.CX P w) k f fd ps sp ∧ mg x = some (.ref f) ∧ PySem.W.keepIn K (.ref f) = true ∧ Binds K fd ps ds ∧ Vals dvs ds
structure MetX (P : Program) (w : World) (K : PySem.W.Frag) (mg : Str → Option Value) (base : Heap) (k : Nat) (C : Addr) (m : Str) (sp : Sp) (dvs : List V) : Prop where
  ex : ∃ (f : Addr) (fd : FuncData) (ps : List Str) (ds : List Value), Cls K C ∧ Meth K C m f ∧ Ok P w K mg base (L2.CX P w) k f fd ps sp ∧ Binds K fd ps ds ∧ Vals dvs ds
section
variable {P : Program} {w : World} {K : PySem.W.Frag} {mg : Str → Option Value} {base : Heap}
theorem CalX.mono {j k : Nat} {x : Str} {sp : Sp} {dvs : List V} (c : CalX P w K mg base j x sp dvs) (h : j ≤ k) : CalX P w K mg base k x sp dvs := by
  obtain ⟨f, fd, ps, ds, o, r⟩ := c.ex
  exact ⟨f, fd, ps, ds, o.mono h, r⟩
theorem MetX.mono {j k : Nat} {C : Addr} {x : Str} {sp : Sp} {dvs : List V} (c : MetX P w K mg base j C x sp dvs) (h : j ≤ k) : MetX P w K mg base k C x sp dvs := by
  obtain ⟨f, fd, ps, ds, c1, c2, o, r⟩ := c.ex
  exact ⟨f, fd, ps, ds, c1, c2, o.mono h, r⟩
theorem MetX.imp {k : Nat} {C : Addr} {x : Str} {sp sp' : Sp} {dvs : List V} (c : MetX P w K mg base k C x sp dvs) (h : ∀ vs H Q E, sp' vs H Q E → sp vs H Q E) : MetX P w K mg base k C x sp' dvs := by
  obtain ⟨f, fd, ps, ds, c1, c2, o, r⟩ := c.ex
  exact ⟨f, fd, ps, ds, c1, c2, o.imp h, r⟩
theorem Df.calX {x : Str} {st : Stmt} {N ps : List Str} {k : Nat} {sp : Sp} (D : Df K mg x st) (S : FnScope N ps (defScope st))
    (hbd : ∀ (kV doc pm : Value) (an : Option Addr) (cdv ct : Value) (us : List Value), us.length = ps.length →
      bindArgs (PySem.W.fnOf x x (defArgs st) (defBody st) (defScope st) .none kV doc pm an cdv ct) ⟨us, []⟩ = pure (ps.zip us))
    (len : ∀ vs H Q E, sp vs H Q E → vs.length = ps.length)
    (hb : ∀ (f : Addr) (cdv : Value) (A : Around) (out : List Env) (s : Shared) (H : Hp) (vs : List V) (Q : VK) (E : XK),
      Rm k (A.deeper (envOfC x (defScope st) s.heap.objs.size f cdv)) → sp vs H Q E →
      ∃ t, PSs (cxOf (L2.CX P w) P w K mg base N x (defScope st) f cdv A out s H E) (defBody st) t ∧
        t { nx := fun _ H' => Q .non H', rt := Q } (start N vs) H) : CalX P w K mg base (k + 1) x sp [] := by
  obtain ⟨f, oc, od, kV, doc, pm, an, cdv, ct, osl, l, c, kp, m⟩ := D.ex
  exact ⟨f, _, ps, [], ok_body l c S len (fun A out s H vs Q E hr hs => hb f cdv A out s H vs Q E hr hs), m, kp, .all (hbd kV doc pm an cdv ct), .nil⟩
theorem Dm.metX {C : Addr} {m qual : Str} {st : Stmt} {N ps : List Str} {k : Nat} {sp : Sp} (D : Dm K C m qual st []) (c : Cls K C) (S : FnScope N ps (defScope st))
    (hbd : ∀ (kV doc pm : Value) (an : Option Addr) (cdv ct : Value) (us : List Value), us.length = ps.length →
      bindArgs (PySem.W.fnOf m qual (defArgs st) (defBody st) (defScope st) .none kV doc pm an cdv ct) ⟨us, []⟩ = pure (ps.zip us))
    (len : ∀ vs H Q E, sp vs H Q E → vs.length = ps.length)
    (hb : ∀ (f : Addr) (cdv : Value) (A : Around) (out : List Env) (s : Shared) (H : Hp) (vs : List V) (Q : VK) (E : XK),
      Rm k (A.deeper (envOfC qual (defScope st) s.heap.objs.size f cdv)) → sp vs H Q E →
      ∃ t, PSs (cxOf (L2.CX P w) P w K mg base N qual (defScope st) f cdv A out s H E) (defBody st) t ∧
        t { nx := fun _ H' => Q .non H', rt := Q } (start N vs) H) : MetX P w K mg base (k + 1) C m sp [] := by
  obtain ⟨f, oc, od, dV, kV, doc, pm, an, cdv, ct, osl, l, cd, me, dd⟩ := D.ex
  rcases dd with ⟨_, e⟩ | ⟨e, _⟩
  · subst e
    exact ⟨f, _, ps, [], c, me, ok_body l cd S len (fun A out s H vs Q E hr hs => hb f cdv A out s H vs Q E hr hs), .all (hbd kV doc pm an cdv ct), .nil⟩
  · exact absurd rfl e
/-- what a callee lets out leaves the def -/
theorem passX {N : List Str} {qual : Str} {scope : Scope} {f : Addr} {cd : Value} {A : Around} {outer : List Env} {s : Shared} {H : Hp} {E : XK} :
    Passes (L2.CX P w) (cxOf (L2.CX P w) P w K mg base N qual scope f cd A outer s H E) E := passes_call (takes_of rfl rfl rfl rfl) fun _ _ _ _ h => h
/-- loops let it out -/
theorem ownX {N : List Str} {qual : Str} {scope : Scope} {f : Addr} {cd : Value} {A : Around} {outer : List Env} {s : Shared} {H : Hp} {E : XK} :
    PassesOwn (model P w) (cxOf (L2.CX P w) P w K mg base N qual scope f cd A outer s H E).A (cxOf (L2.CX P w) P w K mg base N qual scope f cd A outer s H E).env (cxOf (L2.CX P w) P w K mg base N qual scope f cd A outer s H E).xe := passes_of rfl
end
/-- nothing is let out -/
theorem passE0 {X : Cx} {P : Program} {w : World} : Passes (L2.CX P w) X E0 := fun pins σ H s e s' I h => by
  obtain ⟨a, B, H', cls, d, z1, fl, z2, ub, z3, z4, z5, z6⟩ := h
  exact False.elim z6
section
variable {X : Cx} {k j : Nat} {C : Addr} {x m : Str} {sp : Sp} {dvs : List V} {p pos apos : Pos} {e o : Expr} {es : List Expr} {ta : TE} {t : TA} {E : XK}
theorem pe_cX (c : CalX X.prog X.w X.K X.mg X.base k x sp dvs) (hr : Rm j X.A) (hk : k ≤ j) (hx : Passes (L2.CX X.prog X.w) X E) (hg : Gl X x) (ha : PA X (e :: es) t)
    (hdb : (x == ("__debug__" : Str)) = false := by decide)
    (he : starEach (e :: es) X.env = (false, eval e X.env) :: starEach es X.env := by rfl)
    (hpl : (backTo pos (starEach es X.env)).any (·.1) = false := by rfl) :
    PE X (.Call (.Name x p) (e :: es) [] pos) (tCall sp dvs E t) := by
  obtain ⟨f, fd, ps, ds, ok, hm, kp, b, d⟩ := c.ex
  constructor
  intro pins s σ H Q I h
  apply wpAny_Call_Name_kw
  apply ld_glob I hg hm _ hdb
  refine PySem.W.callWith_K (h₀ := X.base) I.ok.mod.kin kp (thn (ha.run pos pins s σ H _ I h) ?_) he hpl
  rintro us s1 ⟨vs, H1, I1, r, q⟩
  exact ⟨I1.kIn, run_ok ok (hr.mono hk) b d hx I1 r q⟩
theorem pe_mtX {pl : Sem Bool} (c : MetX X.prog X.w X.K X.mg X.base k C m sp dvs) (hr : Rm j X.A) (hk : k ≤ j) (hx : Passes (L2.CX X.prog X.w) X E) (he : PE X o ta) (ha : PA X (e :: es) t)
    (hst : starEach (e :: es) X.env = (false, eval e X.env) :: starEach es X.env := by rfl)
    (hpl : (backTo pos (starEach es X.env)).any (·.1) = false := by rfl)
    (ht : eval (.Call (.Attribute o m apos) (e :: es) [] pos) X.env = (do
      let v ← eval o X.env
      standAt apos.atName
      let (g, l) ← holding [v] (getMethod v m pl)
      callWith pos g l (backTo pos (starEach (e :: es) X.env)) (backToKw pos (keywordEach [] X.env))) := by rfl) :
    PE X (.Call (.Attribute o m apos) (e :: es) [] pos) (tMeth C m sp dvs E ta t) := by
  obtain ⟨f, fd, ps, ds, hc, hm, ok, b, d⟩ := c.ex
  constructor
  intro pins s σ H Q I h
  refine PySem.W.methodCall_KW (pl := pl) (thn (he.run pins s σ H _ I h) ?_) ht
  rintro u s1 ⟨y, H1, I1, ry, a, dx, fs, ey, ea, l, q⟩
  subst ey
  have eu : u = Value.ref a := ry
  subst eu
  refine getmeth_ok I1 ea hc hm l ?_
  refine PySem.W.callWith_K (first := [.ref a]) (h₀ := X.base) I.ok.mod.kin hm.kp (thn (ha.run pos pins s1 σ H1 _ I1 q) ?_) hst hpl
  rintro us s2 ⟨vs, H2, I2, r, q2⟩
  exact ⟨I2.kIn, run_ok (us := .ref a :: us) (vs := .ref a :: vs) ok (hr.mono hk) b d hx I2 (.cons rfl r) q2⟩
theorem pe_mt0X {pl : Sem Bool} (c : MetX X.prog X.w X.K X.mg X.base k C m sp dvs) (hr : Rm j X.A) (hk : k ≤ j) (hx : Passes (L2.CX X.prog X.w) X E) (he : PE X o ta)
    (ht : eval (.Call (.Attribute o m apos) [] [] pos) X.env = (do
      let v ← eval o X.env
      standAt apos.atName
      let (g, l) ← holding [v] (getMethod v m pl)
      callWith pos g l (backTo pos (starEach [] X.env)) (backToKw pos (keywordEach [] X.env))) := by rfl) :
    PE X (.Call (.Attribute o m apos) [] [] pos) (tMeth C m sp dvs E ta tNil) := by
  obtain ⟨f, fd, ps, ds, hc, hm, ok, b, d⟩ := c.ex
  constructor
  intro pins s σ H Q I h
  refine PySem.W.methodCall_KW (pl := pl) (thn (he.run pins s σ H _ I h) ?_) ht
  rintro u s1 ⟨y, H1, I1, ry, a, dx, fs, ey, ea, l, q⟩
  subst ey
  have eu : u = Value.ref a := ry
  subst eu
  refine getmeth_ok I1 ea hc hm l ?_
  exact PySem.W.callWith_K0 (first := [.ref a]) I1.kIn hm.kp (run_ok (us := [.ref a]) (vs := [.ref a]) ok (hr.mono hk) b d hx I1 (.cons rfl .nil) q)
end
/-! ### an error class over ValueError with one field -/
/-- its __init__ -/
def spErr (C : Addr) (fld : Str) : Sp := fun vs H Q _ => ∃ (a : Addr) (v : V), vs = [.ref a, v] ∧ H a = some (exo a C none) ∧ ∀ dx, H dx = none → dx ≠ a → Q .non (upd (upd H dx (exd dx [(fld, v)])) a (exo a C (some dx)))
structure Exo (P : Program) (w : World) (K : PySem.W.Frag) (mg : Str → Option Value) (base : Heap) (x : Str) (C : Addr) (fld : Str) : Prop where
  oex : OexC K C
  hm : mg x = some (.ref C)
  ini : ∃ (fI : Addr) (fd : FuncData) (ps : List Str), PySem.W.findIn K (.ref C) "__init__" = some (some (.ref fI)) ∧ PySem.W.typeIn K (.ref fI) = some (.type "function") ∧ FnOk P w K mg base CX0 1 fI fd ps (spErr C fld) ∧ Binds K fd ps []
section
variable {X : Cx} {C : Addr} {x fld : Str} {p pos : Pos} {e : Expr} {te : TE} {j : Nat}
theorem pmk_B (T : Exo X.prog X.w X.K X.mg X.base x C fld) (hr : Rm j X.A) (hk : 2 ≤ j) (hg : Gl X x) (he : PE X e te)
    (hdb : (x == ("__debug__" : Str)) = false := by decide) (hst : starEach [e] X.env = (false, eval e X.env) :: starEach [] X.env := by rfl) (hpl : (backTo pos (starEach [] X.env)).any (·.1) = false := by rfl) :
    PMk X (.Call (.Name x p) [e] [] pos) (tMkO C (spErr C fld) [] (tCons te tNil)) := by
  obtain ⟨fI, fd, ps, iC, tI, F1, b⟩ := T.ini
  exact pmk_oex (X := X) (CX := CX0) (x := x) (p := p) (pos := pos) (dvs := []) T.oex iC tI F1 (hr.rm.mono hk) b .nil pass0 hg T.hm (pa_cons he pa_nil hst) hdb hst hpl
/-- what is asked where it is raised -/
theorem use_err {H : Hp} {v : V} {Q : XK} (q : ∀ d H', H d = none → Same H H' → H' d = some (.xd [(fld, v)]) → Q (.ref C) (some d) H') :
    [v].length ≤ 1000 ∧ ∀ a, H a = none → spErr C fld (.ref a :: ([v] ++ [])) (upd H a (exo a C none))
      (fun u H2 => u = .non ∧ ∃ (d : Addr) (fs : List (Str × V)), H2 a = some (exo a C (some d)) ∧ H2 d = some (exd d fs) ∧ H d = none ∧ Q (.ref C) (some d) (upd (del H2 a) d (.xd fs))) (fun _ _ _ => False) := by
  refine ⟨by show 1 ≤ 1000; decide, fun a na => ⟨a, v, rfl, upd_same, fun dx ndx nda => ⟨rfl, dx, [(fld, v)], upd_same, ?_, ?_, ?_⟩⟩⟩
  · rw [upd_ne nda, upd_same]
  · rw [upd_ne nda] at ndx
    exact ndx
  · rw [upd_ne nda] at ndx
    refine q dx _ ndx (fun c o e => ?_) upd_same
    have n1 : c ≠ dx := ne_of_none e ndx
    have n2 : c ≠ a := ne_of_none e na
    rw [upd_ne n1, del_ne n2, upd_ne n2, upd_ne n1, upd_ne n2]
    exact e
end
end Eu
set_option Elab.async false
set_option linter.all false
set_option maxRecDepth 100000
set_option maxHeartbeats 4000000
set_option pp.maxSteps 3000
namespace Eu
open PySem PySem.Spec PyProof.Rows L2
/-! ### enumerate(text) -/
def TextP (x : Str) (i : Nat) (v : Value) : Prop := ∃ c u, x.cps[i]? = some c ∧ v = Value.str ⟨#[c]⟩ u
theorem draws_text {prog : Program} {w : World} {A : Around} (ha : A.handled = none) (it : Addr) (x : Str) (t : Tok) :
    Draws prog w A it [it] x.cps.size (TextP x) (fun i h => h.IsStrIter it (strIterType x) x t i) := by
  by_cases hc : x.cps.all (· < 128) = true
  · have e : strIterType x = "str_ascii_iterator" := by unfold strIterType; rw [hc]; rfl
    rw [e]
    exact Draws.strAscii ha it x t
  · have e : strIterType x = "str_iterator" := by unfold strIterType; rw [eq_false_of_ne_true hc]; rfl
    rw [e]
    exact Draws.strWide ha it x t
/-- the signs of a text, each in a new pair with its place -/
def ItS (x : Str) : It :=
  ⟨fun i _ => i < x.cps.size, fun i H v H' => ∃ T c, v = .ref T ∧ H T = none ∧ x.cps[i]? = some c ∧ H' = upd H T (.tup [.int (i : Nat), .str ⟨#[c]⟩]), fun i _ => i = x.cps.size⟩
theorem turn_text {P : Program} {w : World} {K : PySem.W.Frag} {elts : List Expr} {kk : Nat} {tpos : Pos} (x : Str) (t : Tok) (e it : Addr) :
    Turn P w K (.Tuple elts kk tpos) (ItS x) [e, it] e (fun i h => (∃ was, IsEnum h e it (i : Int) was) ∧ h.IsStrIter it (strIterType x) x t i ∧ e ≠ it) where
  mem := List.mem_cons_self
  obj := by
    rintro i h ⟨⟨was, h1⟩, ⟨o, h2, h3, h4⟩, _⟩ b hb
    rcases List.mem_cons.mp hb with rfl | hb
    · exact ⟨_, h1, fun v z => nomatch z⟩
    · rw [List.mem_singleton.mp hb]
      exact ⟨o, h2, fun v z => by rw [h4] at z; cases z⟩
  keep := by
    rintro i h h' ⟨⟨was, h1⟩, ⟨o, h2, h3⟩, hn⟩ k
    exact ⟨⟨was, k e List.mem_cons_self _ h1⟩, ⟨o, k it (List.mem_cons_of_mem _ List.mem_cons_self) _ h2, h3⟩, hn⟩
  item := by
    rintro X rfl rfl rfl hc i pins s σ H E I hf ⟨⟨was, h1⟩, h2, hn⟩ hg
    have ha : X.A.in1.handled = none := I.ok.hd hc
    have le : e < s.heap.objs.size := Heap.lt_size h1
    have li : it < s.heap.objs.size := by
      obtain ⟨o, q, _⟩ := h2
      exact Heap.lt_size q
    have nef : e ∉ [it] := fun z => hn (List.mem_singleton.mp z)
    refine wpAny_pyNext_enum_itemD (draws_text ha it x t) h1 h2 hg hn nef ?_
    rintro v h' tk ⟨c, u, hcp, rfl⟩ ho hs hT hz kp
    refine ⟨_, rfl, wpAny_letOwnedTupleGo_enum (s := { s with heap := h', toks := tk + 1 }) ho fun h'' he' sb => ?_⟩
    have hT' := (sb.2 _ (Nat.ne_of_gt le)).trans hT
    have okT : ObjOk X.prog X.w (upd H s.heap.objs.size (.tup [.int (i : Nat), .str ⟨#[c]⟩])) h'' s.heap.objs.size (.tup [.int (i : Nat), .str ⟨#[c]⟩]) :=
      ⟨by show 2 ≤ sizeLine; decide, [.int i tk, .str ⟨#[c]⟩ u], .cons ⟨_, rfl⟩ (.cons ⟨_, rfl⟩ .nil), ⟨_, hT', rfl, _, rfl⟩⟩
    have J : Inv X pins σ (upd H s.heap.objs.size (.tup [.int (i : Nat), .str ⟨#[c]⟩])) { s with heap := h'', toks := tk + 1 } := by
      refine I.turnedNew (ch := [e, it]) (fun b ob hb q => ?_) hf (Nat.le_refl _) okT
      have n1 : b ≠ e := fun z => hb (by rw [z]; exact List.mem_cons_self)
      have n2 : b ≠ it := fun z => hb (by rw [z]; exact List.mem_cons_of_mem _ List.mem_cons_self)
      exact (sb.2 b n1).trans (kp b ob n1 n2 q)
    obtain ⟨os, q1, q2⟩ := hs
    refine ⟨.ref s.heap.objs.size, _, J, rfl, ⟨_, c, rfl, I.hok.fresh (Nat.le_refl _), hcp, rfl⟩, ⟨⟨.str ⟨#[c]⟩ u, ?_⟩, ⟨os, (sb.2 it (Ne.symm hn)).trans q1, q2⟩, hn⟩, fun b hb => ?_⟩
    · rw [show ((i + 1 : Nat) : Int) = (i : Int) + 1 by omega]
      exact he'
    · have lb : b < s.heap.objs.size := by
        rcases List.mem_cons.mp hb with z | z
        · rw [z]; exact le
        · rw [List.mem_singleton.mp z]; exact li
      rw [upd_ne (Nat.ne_of_lt lb)]
      exact (hf b hb).1
  done := by
    rintro X rfl rfl rfl hc i pins s σ H E I hf ⟨⟨was, h1⟩, h2, hn⟩ hg
    have hg' : i = x.cps.size := hg
    subst hg'
    have ha : X.A.in1.handled = none := I.ok.hd hc
    obtain ⟨f0, f1, f2, f3, f4, f5⟩ := hf it (List.mem_cons_of_mem _ List.mem_cons_self)
    exact wpAny_pyNext_enum_endD (draws_text ha it x t) h1 h2 fun h' eb => ⟨rfl, I.turned (t' := s.toks) (fun b o hb q => eb b o hb q) f0 f1 f3 f4 f5⟩
  self := by
    rintro A i s Q E ⟨⟨was, h1⟩, _⟩ h
    exact wpAny_pyIter_enum h1 h
def iEnumS (ta : TA) : TI := fun σ H R => ta σ H fun vs H1 => ∃ x, vs = [.str x] ∧ R (ItS x) H1
theorem pi_enumS {X : Cx} {e : Expr} {ta : TA} {p pos tpos : Pos} {elts : List Expr} {kk : Nat} (hg : Gl X "enumerate") (hm : X.mg "enumerate" = none) (ha : PA X [e] ta) (hs : starEach [e] X.env = [(false, eval e X.env)] := by rfl) :
    PI X (.Tuple elts kk tpos) (.Call (.Name "enumerate" p) [e] [] pos) (iEnumS ta) := by
  constructor
  intro pins s σ H R I h
  refine Call_ (ld_blt I hg hm boot_enumerate (PyProof.Rows.callWith_type1 (thn (ha.run pos pins s σ H _ I h) ?_) hs rfl))
  rintro us s1 ⟨vs, H1, I1, r1, x, rfl, q⟩
  obtain ⟨u, rfl, ru⟩ := vals1 r1
  obtain ⟨t, rfl⟩ := ru
  refine call_enumerate_str ?_
  intro h' he hit hsz hk
  refine wpAny_pyIter_enum he ?_
  have I2 : Inv X pins σ H1 { s1 with heap := h' } := I1.kept (t' := s1.toks) hk
  refine ⟨_, [s1.heap.objs.size + 1, s1.heap.objs.size], _, _, H1, rfl, I2, turn_text x t _ _, ⟨⟨_, he⟩, hit, Nat.succ_ne_self _⟩, ?_, q⟩
  intro b hb
  have le : s1.heap.objs.size ≤ b := by
    rcases List.mem_cons.mp hb with z | z
    · rw [z]; exact Nat.le_succ _
    · rw [List.mem_singleton.mp z]; exact Nat.le_refl _
  exact I1.fpOk le (I1.hok.fresh le)
theorem over_enumS {x : Str} : Over (ItS x) x.cps.toList.zipIdx (fun p H v H' => ∃ T, v = .ref T ∧ H T = none ∧ H' = upd H T (.tup [.int (p.2 : Nat), .str ⟨#[p.1]⟩])) (fun _ => True) where
  go := fun i p H e _ => by
    have := (List.getElem?_eq_some_iff.mp e).1
    show i < x.cps.size
    simpa using this
  st := fun H _ => by
    show x.cps.toList.zipIdx.length = x.cps.size
    simp
  yl := fun i p H v H' e _ y => by
    obtain ⟨T, c, y1, y2, y3, y4⟩ := y
    rw [List.getElem?_zipIdx, Array.getElem?_toList, y3] at e
    cases e
    refine ⟨T, y1, y2, ?_⟩
    rw [y4]
    simp
end Eu
set_option Elab.async false
set_option linter.all false
set_option maxRecDepth 100000
set_option maxHeartbeats 4000000
set_option pp.maxSteps 3000
/-! Lay16: x, *y = a tuple. -/
namespace Eu
open PySem PySem.Spec PySem.Calls PyProof.Rows L2
section
variable {prog : Program} {w : World} {A : Around} {E : Value → Shared → Prop} {s : Shared}
/-- the first item, and a list of the others -/
theorem unpack_first {p : Addr} {v : Value} {vs : List Value} {Q : List Value → Shared → Prop} (ht : IsTup s.heap p (v :: vs).toArray) (calm : A.handled = none) (few : vs.length ≤ 16000)
    (q : ∀ (g : Heap) (tk : Nat), (∀ b o, s.heap.get? b = some o → g.get? b = some o) → Q [v, .ref g.objs.size] { s with heap := g.push { cls := .type "list", data := .seq vs.toArray }, toks := tk }) :
    wpAny (model prog w) A (unpackItems (.ref p) 2 (some 1)) Q E s := by
  have hp : p < s.heap.objs.size := by
    obtain ⟨o, h1, _⟩ := ht
    exact Heap.lt_size h1
  have hne : p ≠ s.heap.objs.size := fun z => Nat.lt_irrefl _ (z ▸ hp)
  have hsz : (v :: vs).toArray.size = vs.length + 1 := by simp
  unfold unpackItems notIterableAtAll
  refine wpAny_bind (wpAny_bind (wpAny_specialOf ht.typeIs slot_tuple_iter.lookup (wpAny_pure ?_)))
  rw [if_neg (by exact Bool.false_ne_true)]
  refine wpAny_bind (wpAny_holding (iter_tuple ht ?_))
  refine wpAny_bind (wpAny_holding (draw_tuple hne 1 0 _ _ ⟨_, Heap.get?_push_size _ rfl, rfl, rfl⟩ (ht.push _) (by omega) fun g1 hi1 sb1 => ?_))
  have ht1 := (ht.push (o := _)).extBut sb1.extBut hne
  have lt1 : s.heap.objs.size < g1.objs.size := by
    obtain ⟨o, h1, _⟩ := hi1
    exact Heap.lt_size h1
  have lt2 : p < g1.objs.size := by
    obtain ⟨o, h1, _⟩ := ht1
    exact Heap.lt_size h1
  show wpAny _ _ (if ((v :: vs).take 1).length < 1 then _ else _) _ _ _
  rw [if_neg (by rw [show ((v :: vs).take 1).length = 1 from rfl]; omega)]
  refine wpAny_bind (wpAny_holding (PySem.W.kun_collect (s := { s with heap := g1 }) (k := 1) (T := "tuple_iterator") (.inr (.inr (.inr rfl))) (Walks.tuple (A := A.in1) calm s.heap.objs.size p hne _) (fun _ _ st => st.1.typeIs) (by omega) ⟨hi1, ht1⟩ lt1 lt2 (fun g2 tk k2 => ?_) (by rw [sizeLine_eq]; omega)))
  show wpAny _ _ (if vs.length < 0 then _ else newList (vs.take (vs.length - 0)) >>= fun d => pure ([v] ++ [d] ++ vs.drop (vs.length - 0))) _ _ _
  rw [if_neg (by omega), Nat.sub_zero, List.take_length, List.drop_length]
  refine wpAny_bind (wpAny_newList (wpAny_pure ?_) (by rw [sizeLine_eq]; omega))
  exact q g2 tk fun b o e => by
    have hb : b ≠ s.heap.objs.size := fun z => Nat.lt_irrefl _ (z ▸ Heap.lt_size e)
    exact k2 b o hb (sb1.extBut b o hb (Heap.get?_push_of_some _ e))
end
section
variable {X : Cx}
/-- x, *y = a tuple -/
def gHead (K : PySem.W.Frag) (i j : Nat) : TG := fun v σ H Q => ∃ a x xs, v = .ref a ∧ SqT K H a (x :: xs) ∧ xs.length ≤ 16000 ∧ ∀ p, H p = none → Q ((σ.set i (some x)).set j (some (.ref p))) (upd H p (.lst xs))
theorem pg_head {i j k : Nat} {x y : Str} {pos p1 p2 p3 : Pos} (hc : X.calm = true) (hN : X.N.Nodup) (hi : X.N[i]? = some x) (hj : X.N[j]? = some y) (hx : Loc X.env.scope x) (hy : Loc X.env.scope y) (fx : X.fn x = true ∨ X.env.scope.names.lookup x = some .local := by first | exact .inl rfl | exact .inr rfl) (fy : X.fn y = true ∨ X.env.scope.names.lookup y = some .local := by first | exact .inl rfl | exact .inr rfl)
    (hst : assignEach [.Name x p1, .Starred (.Name y p2) p3] X.env = [(false, assign (.Name x p1) X.env), (true, assign (.Name y p2) X.env)] := by rfl) : PG X (.Tuple [.Name x p1, .Starred (.Name y p2) p3] k pos) (gHead X.K i j) := by
  refine ⟨fun pins s σ H v u Q I r hw => ?_⟩
  obtain ⟨a, x0, xs, rfl, hq, few, q⟩ := hw
  cases r
  obtain ⟨its, rv, ht, hz⟩ := I.tuple hq
  cases rv with
  | @cons _ v0 _ vs r0 rv =>
    rw [assign_Tuple, hst]
    refine wpAny_bind (wpAny_standAt ?_)
    unfold unpack
    have hl := rv.length
    refine wpAny_bind (wpAny_holding (unpack_first ht (I.ok.hd hc) (by omega) fun g tk kp => ?_))
    have I1 : Inv X pins σ H { s with heap := g, toks := tk } := I.kept kp
    have hf := I1.hok.fresh (Nat.le_refl _)
    have I2 : Inv X pins σ (upd H g.objs.size (.lst xs)) { s with heap := g.push { cls := .type "list", data := .seq vs.toArray }, toks := tk } :=
      I1.laid (t' := tk) (fun b u e => Heap.get?_push_of_some _ e) (Nat.le_refl _) ⟨by rw [sizeLine_eq]; omega, vs, 0, rv, Heap.get?_push_size _ rfl⟩
    refine assignInOrder_cons (wpAny_assign_Name (store_ok I2 hN hi hx r0 (fun s3 I3 => ?_) fx))
    refine assignInOrder_cons (wpAny_assign_Name (store_ok I3 hN hj hy (show RelV (.ref g.objs.size) _ from rfl) (fun s4 I4 => ?_) fy))
    exact assignInOrder_nil ⟨_, _, I4, q _ hf⟩
end
end Eu
set_option Elab.async false
set_option linter.all false
set_option maxRecDepth 100000
set_option maxHeartbeats 4000000
set_option pp.maxSteps 3000
/-! Lay17: f(k = v, ..), all parameters by keyword, in their order; f may raise. -/
namespace Eu
open PySem PySem.Spec PyProof.Rows L2
structure CalXk (P : Program) (w : World) (K : PySem.W.Frag) (mg : Str → Option Value) (base : Heap) (k : Nat) (x : Str) (ps : List Str) (sp : Sp) : Prop where
  ex : ∃ (f : Addr) (fd : FuncData), Ok P w K mg base (L2.CX P w) k f fd ps sp ∧ mg x = some (.ref f) ∧ PySem.W.keepIn K (.ref f) = true ∧
    ∀ (s : Shared) (ws : List Value), ws.length = ps.length → BindsTo s fd ⟨[], ps.zip ws⟩ (ps.zip ws)
section
variable {P : Program} {w : World} {K : PySem.W.Frag} {mg : Str → Option Value} {base : Heap}
theorem Df.calXk {x : Str} {st : Stmt} {N ps : List Str} {k : Nat} {sp : Sp} (D : Df K mg x st) (S : FnScope N ps (defScope st))
    (hbd : ∀ (kV doc pm : Value) (an : Option Addr) (cdv ct : Value) (us : List Value), us.length = ps.length →
      bindArgs (PySem.W.fnOf x x (defArgs st) (defBody st) (defScope st) .none kV doc pm an cdv ct) ⟨us, []⟩ = pure (ps.zip us))
    (hbk : ∀ (kV doc pm : Value) (an : Option Addr) (cdv ct : Value) (us : List Value), us.length = ps.length →
      bindArgs (PySem.W.fnOf x x (defArgs st) (defBody st) (defScope st) .none kV doc pm an cdv ct) ⟨[], ps.zip us⟩ = pure (ps.zip us))
    (len : ∀ vs H Q E, sp vs H Q E → vs.length = ps.length)
    (hb : ∀ (f : Addr) (cdv : Value) (A : Around) (out : List Env) (s : Shared) (H : Hp) (vs : List V) (Q : VK) (E : XK),
      Rm k (A.deeper (envOfC x (defScope st) s.heap.objs.size f cdv)) → sp vs H Q E →
      ∃ t, PSs (cxOf (L2.CX P w) P w K mg base N x (defScope st) f cdv A out s H E) (defBody st) t ∧
        t { nx := fun _ H' => Q .non H', rt := Q } (start N vs) H) : CalX P w K mg base (k + 1) x sp [] ∧ CalXk P w K mg base (k + 1) x ps sp := by
  obtain ⟨f, oc, od, kV, doc, pm, an, cdv, ct, osl, l, c, kp, m⟩ := D.ex
  have o := ok_body l c S len (fun A out s H vs Q E hr hs => hb f cdv A out s H vs Q E hr hs)
  exact ⟨⟨f, _, ps, [], o, m, kp, .all (hbd kV doc pm an cdv ct), .nil⟩, ⟨f, _, o, m, kp, fun s ws hl => .of_eq (hbk kV doc pm an cdv ct ws hl)⟩⟩
end
section
variable {X : Cx} {k j : Nat} {x : Str} {sp : Sp} {ps : List Str} {p pos : Pos} {kws : List Keyword} {tk : TA} {E : XK}
theorem pe_cXk (c : CalXk X.prog X.w X.K X.mg X.base k x ps sp) (hr : Rm j X.A) (hk : k ≤ j) (hx : Passes (L2.CX X.prog X.w) X E) (hg : Gl X x) (hkw : PK X kws tk)
    (hks : (backToKw pos (keywordEach kws X.env)).filterMap (·.1) = ps := by rfl)
    (hall : (backToKw pos (keywordEach kws X.env)).all (·.1.isSome) = true := by rfl)
    (hdb : (x == ("__debug__" : Str)) = false := by decide)
    (hpl : ((backTo pos (starEach [] X.env)).any (·.1) || (backToKw pos (keywordEach kws X.env)).any (·.1.isNone)) = false := by rfl) :
    PE X (.Call (.Name x p) [] kws pos) (tCall sp [] E tk) := by
  obtain ⟨f, fd, ok, hm, kp, b⟩ := c.ex
  constructor
  intro pins s σ H Q I h
  apply wpAny_Call_Name_kw
  apply ld_glob I hg hm _ hdb
  refine PySem.W.callWith_KW0 (h₀ := X.base) (first := []) I.ok.mod.kin kp hall (thn (hkw.run pos pins s σ H _ I h) fun ws s1 ⟨zs, H1, I1, r, q⟩ => ⟨I1.kIn, ?_⟩) hpl
  rw [hks]
  have q : sp (zs ++ []) H1 Q E := q
  rw [List.append_nil] at q
  have hl : ws.length = ps.length := by rw [← r.length]; exact ok.len _ _ _ _ q
  refine wpAny_call (codeAny_mono (ok.go X.A X.stack s1 H1 ⟨[], ps.zip ws⟩ ws zs Q E (hr.mono hk) I1.env0 (b s1 ws hl) r q) ?_)
  intro res s' hq
  match res, hq with
  | .error e, hq => exact hx pins σ H1 s1 e s' I1 hq
  | .ok (.ret u), hq => exact I1.after hq
  | .ok .next, hq => exact False.elim hq
  | .ok .brk, hq => exact False.elim hq
  | .ok .cont, hq => exact False.elim hq
end
end Eu
set_option Elab.async false
set_option linter.all false
set_option maxRecDepth 100000
set_option maxHeartbeats 4000000
set_option pp.maxSteps 3000
/-! Lay18: a def that may raise, called within a try. -/
namespace Eu
open PySem PySem.Spec PyProof.Rows L2
section
variable {X : Cx} {k j : Nat} {x : Str} {sp : Sp} {p pos : Pos} {e : Expr} {es : List Expr} {t : TA} {E : L2.St → XK}
theorem pe_cS (c : CalX X.prog X.w X.K X.mg X.base k x sp []) (hr : Rm j X.A) (hk : k ≤ j) (hx : ∀ σ, PassesAt (L2.CX X.prog X.w) X σ (E σ)) (hg : Gl X x) (ha : PA X (e :: es) t)
    (hdb : (x == ("__debug__" : Str)) = false := by decide)
    (he : starEach (e :: es) X.env = (false, eval e X.env) :: starEach es X.env := by rfl)
    (hpl : (backTo pos (starEach es X.env)).any (·.1) = false := by rfl) :
    PE X (.Call (.Name x p) (e :: es) [] pos) (tCallS sp E t) := by
  obtain ⟨f, fd, ps, ds, ok, hm, kp, b, d⟩ := c.ex
  cases d
  constructor
  intro pins s σ H Q I h
  apply wpAny_Call_Name_kw
  apply ld_glob I hg hm _ hdb
  refine PySem.W.callWith_K (h₀ := X.base) I.ok.mod.kin kp (thn (ha.run pos pins s σ H _ I h) ?_) he hpl
  rintro us s1 ⟨vs, H1, I1, r, q⟩
  refine ⟨I1.kIn, ?_⟩
  have hl : us.length = ps.length := by rw [← r.length]; exact ok.len _ _ _ _ q
  have bt := b s1 us I1.kIn (by rw [List.append_nil]; exact hl)
  rw [List.append_nil] at bt
  refine wpAny_call (codeAny_mono (ok.go X.A X.stack s1 H1 ⟨us, []⟩ us vs Q (E σ) (hr.mono hk) I1.env0 bt r q) ?_)
  intro res s' hq
  match res, hq with
  | .error e, hq => exact hx σ pins H1 s1 e s' I1 hq
  | .ok (.ret u), hq => exact I1.after hq
  | .ok .next, hq => exact False.elim hq
  | .ok .brk, hq => exact False.elim hq
  | .ok .cont, hq => exact False.elim hq
end
theorem noTakes {X : Cx} : Takes X (fun _ _ _ _ => False) := fun _ _ x => by
  obtain ⟨_, _, _, _, _, _, _, _, _, _, _, _, _, _, _, _, z⟩ := x
  exact z.elim
end Eu
namespace Eu
open PySem PySem.Spec
/-- an error's own class names it -/
theorem exm_own {K : PySem.W.Frag} {C : Addr} (base : PySem.W.subIn K (.ref C) (.type "BaseException") = some true) (cls : PySem.W.isClsIn K C = true) (ty : PySem.W.typeIn K (.ref C) = some (.type "type")) (own : PySem.W.subIn K (.ref C) (.ref C) = some true) : PySem.W.exmOne K (.ref C) (.ref C) = some true := by
  have c' : (PySem.W.clsIn K C).isSome = true := cls
  simp [PySem.W.exmOne, PySem.W.kitCls, base, c', ty, own]
end Eu
set_option Elab.async false
set_option linter.all false
set_option maxRecDepth 100000
set_option maxHeartbeats 4000000
set_option pp.maxSteps 3000
/-! Lay19: z[::-1] of a text. -/
namespace Eu
open PySem PySem.Spec PyProof.Rows L2
open Builtin Builtin.Str
def revS (z : Str) : Str := ⟨z.cps.toList.reverse.toArray⟩
theorem all_of (xs : Array Nat) : (List.range xs.size).filterMap (xs[·]?) = xs.toList := by
  have : ∀ (l : List Nat), (List.range l.length).filterMap (l[·]?) = l := by
    intro l
    induction l with
    | nil => rfl
    | cons a r ih =>
      rw [List.length_cons, List.range_succ_eq_map, List.filterMap_cons]
      simp only [List.getElem?_cons_zero, List.filterMap_map]
      congr 1
  have h := this xs.toList
  rw [Array.length_toList] at h
  simpa using h
theorem rev_idx (n : Nat) : strSliceIndices none none (-1) n = (List.range n).reverse := by
  show sliceRange (if (-1 : Int) > 0 then 0 else (n : Int) - 1) (if (-1 : Int) > 0 then (n : Int) else -1) (-1) = _
  rw [if_neg (by decide), if_neg (by decide), PySem.W.krv_sliceRange, PySem.W.krv_range]
theorem rev_made (z : Str) (t : Tok) (u : Tok) : sliceMade z t none none (some (-1, u)) = .str (revS z) := by
  unfold sliceMade
  have e1 : (((some ((-1 : Int), u)).map (·.1)).getD 1 == 1) = false := rfl
  rw [e1]
  show Made.str ⟨((strSliceIndices none none (-1) z.length).filterMap (z.cps[·]?)).toArray⟩ = _
  rw [rev_idx, List.filterMap_reverse]
  have := all_of z.cps
  rw [show z.length = z.cps.size from rfl, this]
  rfl
def tRevS (te : TE) : TE := fun σ H Q => te σ H fun x H1 => ∃ z, x = .str z ∧ z.length ≤ sizeLine ∧ Q (.str (revS z)) H1
theorem pe_revS {X : Cx} {e : Expr} {te : TE} {k : Nat} {p1 p2 p3 pos : Pos} (he : PE X e te) : PE X (.Subscript e (.Slice none none (some (.UnaryOp .USub (.Constant (.int 1) k p1) p2)) p3) pos) (tRevS te) := by
  refine ⟨fun pins s σ H Q I h => ?_⟩
  refine Subscript_ (thn (he.run pins s σ H _ I h) fun v s1 ⟨x, H1, I1, r1, q1⟩ => ?_)
  obtain ⟨z, ex, hz, q⟩ := q1
  subst ex
  obtain ⟨t, rfl⟩ := r1
  have hst : PO X (some (.UnaryOp .USub (.Constant (.int 1) k p1) p2)) (tPart (tUn (rU fun i => .int (-i)) (tC (.int 1)))) := po_some (pe_un un_neg pe_int)
  refine wpAny_Slice (thn (po_none.run pins s1 σ H1 (fun o H2 => o = none ∧ H2 = H1) I1 ⟨rfl, rfl⟩) fun vl s2 ⟨l, H2, I2, pl, el, e2⟩ => ?_)
  subst el e2
  refine thn (po_none.run pins s2 σ H2 (fun o H3 => o = none ∧ H3 = H2) I2 ⟨rfl, rfl⟩) fun vu s3 ⟨u, H3, I3, pu, eu, e3⟩ => ?_
  subst eu e3
  refine thn (hst.run pins s3 σ H3 (fun o H4 => o = some (-1) ∧ H4 = H3) I3 ⟨1, rfl, -1, rfl, rfl, rfl⟩) fun vs s4 ⟨o, H4, I4, ps, eo, e4⟩ => ?_
  subst eo e4
  have I5 : Inv X pins σ H4 { s4 with heap := s4.heap.push { cls := .type "slice", data := .fields #[vl, vu, vs] } } := I4.kept (t' := s4.toks) fun b ob q => Heap.get?_push_of_some _ q
  have hs5 := Heap.IsSliceOf.new s4.heap vl vu vs
  show wpAny (model X.prog X.w) X.A (subscriptTail e (.Slice none none (some (.UnaryOp .USub (.Constant (.int 1) k p1) p2)) p3) (.str z t) (.ref s4.heap.objs.size)) (EP X pins σ Q) X.xe { s4 with heap := s4.heap.push { cls := .type "slice", data := .fields #[vl, vu, vs] } }
  obtain ⟨l', rfl, el'⟩ := IsPart.raw pl
  obtain ⟨u', rfl, eu'⟩ := IsPart.raw pu
  obtain ⟨st', rfl, es'⟩ := IsPart.raw ps
  have e1 : l' = none := by cases l' with | none => rfl | some a => cases el'
  have e2 : u' = none := by cases u' with | none => rfl | some a => cases eu'
  subst e1 e2
  obtain ⟨tk, e3⟩ : ∃ tk, st' = some (-1, tk) := by
    cases st' with
    | none => cases es'
    | some a =>
      obtain ⟨a1, a2⟩ := a
      have : a1 = -1 := by simpa using es'
      exact ⟨a2, by rw [this]⟩
  subst e3
  refine tail_any (ops := [.ref s4.heap.objs.size, .str z t]) (typeIs_str _ _ _) F.slot_str_getitem.lookup ?_ (by with_unfolding_all rfl)
  obtain ⟨os, hos, hcs, hds⟩ := hs5
  refine wpAny_getItem_str_slice (l := none) (u := none) (st := some (-1, tk)) ⟨os, hos, hcs, hds⟩ rfl ?_
  rw [rev_made]
  refine ⟨?_, .str _, H4, I5.tok _, ⟨_, rfl⟩, q⟩
  show (z.cps.toList.reverse.toArray).size ≤ sizeLine
  rw [List.size_toArray, List.length_reverse]
  exact Nat.le_trans (Nat.le_of_eq (by simp [Str.length])) hz
end Eu
set_option Elab.async false
set_option linter.all false
set_option maxRecDepth 100000
set_option maxHeartbeats 4000000
set_option pp.maxSteps 3000
/-! Lay20: in an except suite: repr, a field of the error, isinstance. -/
namespace Eu
open PySem PySem.Spec PyProof.Rows L2
theorem Rm.u200 {k : Nat} {A : Around} (r : Rm k A) : A.units + 200 < cLine := by have := r.rm.un; omega
/-- repr of data, wherever no repr is under way -/
theorem call_reprG {X : Cx} (hu : X.A.units + 200 < cLine) (hg : X.A.guards = some []) : CallR X (.builtin "repr") (rRepr X.K) := by
  intro pins s σ H xs us Q I r h
  obtain ⟨x, d, rfl, hd, hs, hdp, hz, q⟩ := h
  obtain ⟨u, rfl, rx⟩ := vals1 r
  cases hd with
  | non =>
    cases rx
    exact PySem.P.repr_of_none ⟨.str _, H, I.tok _, ⟨_, rfl⟩, q⟩
  | bl b =>
    cases rx
    exact PySem.P.repr_of_bool ⟨.str _, H, I.tok _, ⟨_, rfl⟩, q⟩
  | int i =>
    obtain ⟨t, rfl⟩ := rx
    exact PySem.P.repr_of_int (of_decide_eq_true hs) ⟨.str _, H, I.tok _, ⟨_, rfl⟩, q⟩
  | str y =>
    obtain ⟨t, rfl⟩ := rx
    exact PySem.P.repr_of_str ⟨.str _, H, I.tok _, ⟨_, rfl⟩, q⟩ hz
  | @lst a ys ds h1 h2 =>
    cases (show u = Value.ref a from rx)
    obtain ⟨as, rd⟩ := Dp.reads I _ _ _ (Dp.lst h1 h2) (show RelV (.ref a) (.ref a) from rfl)
    refine repr_of_reads' rd hs (PyData.noDict_hsm (noDict (Dp.lst h1 h2))) hg (by omega) (fun _ _ z => z) ?_ hz
    intro h' u tk hk
    exact ⟨.str _, H, I.kept hk, ⟨_, rfl⟩, q⟩
  | @tup a ys ds h1 h2 =>
    cases (show u = Value.ref a from rx)
    obtain ⟨as, rd⟩ := Dp.reads I _ _ _ (Dp.tup h1 h2) (show RelV (.ref a) (.ref a) from rfl)
    refine repr_of_reads' rd hs (PyData.noDict_hsm (noDict (Dp.tup h1 h2))) hg (by omega) (fun _ _ z => z) ?_ hz
    intro h' u tk hk
    exact ⟨.str _, H, I.kept hk, ⟨_, rfl⟩, q⟩
theorem call_reprS {X : Cx} {j : Nat} {a : Addr} {pn : List (Addr × Obj)} (hr : Rm j X.A) : CallR (X.suite a pn) (.builtin "repr") (rRepr X.K) :=
  call_reprG (X := X.suite a pn) hr.u200 hr.gd
/-- what an error's class says where its instances are asked -/
structure XsC (K : PySem.W.Frag) (C : Addr) : Prop where
  xf : XfC K C
  ha : PySem.W.findIn K (.ref C) "__class__" = some (some (.builtin "object.__class__"))
  hn : PySem.W.specialIn K (.builtin "object.__class__") "__get__" = some (some (.builtin "getset_descriptor.__get__"))
  ht : PySem.W.takesIn K (.builtin "object.__class__") = some true
  hm : PySem.W.mroIn K C (.type "object") = some true
  cl : PySem.W.isClsIn K C = true
def rIsX (K : PySem.W.Frag) (a : Addr) (cls : Value) (d : Option Addr) (D : Addr) : List V → Hp → VK → Prop := fun xs H Q => cls = .ref D ∧ (d = none ∨ ∃ dd fs, d = some dd ∧ H dd = some (.xd fs)) ∧
  ∃ (c : V) (cv : Value) (b : Bool), xs = [.ref a, c] ∧ (∀ u, RelV c u → u = cv) ∧ PySem.W.kitOne K (.ref D) cv = some b ∧ Q (.bl b) H
theorem call_isX {X : Cx} {a D : Addr} {oe : Obj} {cls : Value} {d : Option Addr} {pn : List (Addr × Obj)} (C : XsC X.K D) (hz : Zc cls d oe) (hf : ∃ vs, oe.data = .fields vs) : CallR (X.suite a ((a, oe) :: pn)) (.builtin "isinstance") (rIsX X.K a cls d D) := by
  intro pins s σ H xs us Q I r h
  obtain ⟨rfl, hd, c, cv, b, rfl, hcv, e, q⟩ := h
  cases r with
  | cons rx rr =>
    cases rr with
    | cons rt rr =>
      cases rr
      cases rx
      have ec := hcv _ rt
      subst ec
      obtain ⟨hget, _⟩ := I.pin (a, oe) (List.mem_append.mpr (.inl List.mem_cons_self))
      obtain ⟨vs, hv⟩ := hf
      obtain ⟨od, J⟩ : ∃ od, PySem.W.InstAt s.heap a oe D od := by
        rcases hd with rfl | ⟨dd, fs, rfl, hdd⟩
        · refine ⟨none, ?_⟩
          obtain ⟨oc, od, oda, osl⟩ := oe
          obtain ⟨h1, h2⟩ := hz
          dsimp only at h1 h2 hv
          subst h1 h2 hv
          exact ⟨hget, rfl, rfl, trivial⟩
        · have hx : ObjOk X.prog X.w H s.heap dd (.xd fs) := I.hok dd _ hdd
          obtain ⟨mA, hns, hr⟩ := hx
          obtain ⟨od, ho, hl⟩ := lookIn_ns hns
          exact ⟨some od, ⟨hget, hz.1, by unfold PySem.W.notCls; rw [hv] <;> rfl, by rw [hz.2]; exact ho⟩⟩
      exact PySem.W.kia_one (PySem.W.kitx_exc C.cl C.xf.ga C.xf.gg C.xf.exC C.ha C.hn C.ht C.hm) I.kIn J e (fun z => nomatch z) fun tk => ⟨.bl b, H, I.kept (t' := tk) fun _ _ z => z, rfl, q⟩
end Eu
set_option Elab.async false
set_option linter.all false
set_option maxRecDepth 100000
set_option maxHeartbeats 4000000
set_option pp.maxSteps 3000
/-! Lay21: in an except suite: isinstance of the error and a tuple of classes. -/
namespace Eu
open PySem PySem.Spec PyProof.Rows L2
theorem inst_xs {X : Cx} {pins : List (Addr × Obj)} {s : Shared} {H : Hp} {a D : Addr} {oe : Obj} {d : Option Addr} (hget : s.heap.get? a = some oe) (hok : ∀ p o, H p = some o → ObjOk X.prog X.w H s.heap p o) (hz : Zc (.ref D) d oe) (hf : ∃ vs, oe.data = .fields vs) (hd : d = none ∨ ∃ dd fs, d = some dd ∧ H dd = some (.xd fs)) : ∃ od, PySem.W.InstAt s.heap a oe D od := by
  obtain ⟨vs, hv⟩ := hf
  rcases hd with rfl | ⟨dd, fs, rfl, hdd⟩
  · refine ⟨none, ?_⟩
    obtain ⟨oc, od, oda, osl⟩ := oe
    obtain ⟨h1, h2⟩ := hz
    dsimp only at h1 h2 hv
    subst h1 h2 hv
    exact ⟨hget, rfl, rfl, trivial⟩
  · have hx : ObjOk X.prog X.w H s.heap dd (.xd fs) := hok dd _ hdd
    obtain ⟨mA, hns, hr⟩ := hx
    obtain ⟨od, ho, hl⟩ := lookIn_ns hns
    exact ⟨some od, ⟨hget, hz.1, by unfold PySem.W.notCls; rw [hv] <;> rfl, by rw [hz.2]; exact ho⟩⟩
def rIsXT (K : PySem.W.Frag) (a : Addr) (cls : Value) (d : Option Addr) (D : Addr) : List V → Hp → VK → Prop := fun xs H Q => cls = .ref D ∧ (d = none ∨ ∃ dd fs, d = some dd ∧ H dd = some (.xd fs)) ∧
  ∃ (tp : Addr) (cs : List V) (ws : List Value) (b : Bool), xs = [.ref a, .ref tp] ∧ H tp = some (.tup cs) ∧ Paired ClsV cs ws ∧ PySem.W.kitAny K (.ref D) ws = some b ∧ Q (.bl b) H
theorem call_isXT {X : Cx} {a D : Addr} {oe : Obj} {cls : Value} {d : Option Addr} {pn : List (Addr × Obj)} (C : XsC X.K D) (hz : Zc cls d oe) (hf : ∃ vs, oe.data = .fields vs) : CallR (X.suite a ((a, oe) :: pn)) (.builtin "isinstance") (rIsXT X.K a cls d D) := by
  intro pins s σ H xs us Q I r h
  obtain ⟨rfl, hd, tp, cs, ws, b, rfl, hT, k, e, q⟩ := h
  obtain ⟨u1, u2, rfl, r1, r2⟩ := vals2 r
  cases r1
  cases (show u2 = Value.ref tp from r2)
  obtain ⟨hget, _⟩ := I.pin (a, oe) (List.mem_append.mpr (.inl List.mem_cons_self))
  obtain ⟨od, J⟩ := inst_xs (X := X.suite a ((a, oe) :: pn)) (pins := pins) hget I.hok hz hf hd
  obtain ⟨_, its, rv, o, h1, h2, n, h3⟩ := (show ObjOk X.prog X.w H s.heap tp (.tup cs) from I.hok tp _ hT)
  have e3 := ClsV.all k rv
  subst e3
  obtain ⟨oc, od', dt, sl⟩ := o
  simp only at h2 h3
  subst h2 h3
  exact PySem.W.kia_tup (PySem.W.kitx_exc C.cl C.xf.ga C.xf.gg C.xf.exC C.ha C.hn C.ht C.hm) I.kIn J h1 e (fun z => nomatch z) fun tk => ⟨.bl b, H, I.kept (t' := tk) fun _ _ z => z, rfl, q⟩
/-- another own class, of which the error is none -/
theorem kit_no {K : PySem.W.Frag} {D C : Addr} (hj : PySem.W.isClsIn K C = true) (hy : PySem.W.typeIn K (.ref C) = some (.type "type")) (hs : PySem.W.subIn K (.ref D) (.ref D) = some true) (hn : PySem.W.subIn K (.ref D) (.ref C) = some false) : PySem.W.kitOne K (.ref D) (.ref C) = some false := by
  have ne : (Value.ref D == Value.ref C) = false := by
    refine Bool.eq_false_iff.mpr fun q => ?_
    have e : D = C := Value.ref.inj (beq_iff_eq.mp q)
    subst e
    rw [hs] at hn
    cases hn
  unfold PySem.W.kitOne
  rw [ne]
  show (if ((PySem.W.clsIn K C).isSome && PySem.W.typeIn K (.ref C) == some (.type "type")) = true then PySem.W.subIn K (.ref D) (.ref C) else none) = some false
  rw [if_pos, hn]
  rw [hy, Bool.and_eq_true]
  exact ⟨hj, by decide +kernel⟩
theorem kit_over {K : PySem.W.Frag} {D : Addr} {n : String} (hs : PySem.W.subIn K (.ref D) (.type n) = some true) (hm : PySem.W.kitMeta n = true) : PySem.W.kitOne K (.ref D) (.type n) = some true := by
  have ne : (Value.ref D == Value.type n) = false := Bool.eq_false_iff.mpr fun q => nomatch beq_iff_eq.mp q
  unfold PySem.W.kitOne
  rw [ne]
  show (if PySem.W.kitMeta n = true then PySem.W.subIn K (.ref D) (.type n) else none) = some true
  rw [if_pos hm, hs]
theorem kit_none2 {K : PySem.W.Frag} {D A B : Addr} (h1 : PySem.W.kitOne K (.ref D) (.ref A) = some false) (h2 : PySem.W.kitOne K (.ref D) (.ref B) = some false) : PySem.W.kitAny K (.ref D) [.ref A, .ref B] = some false := by
  unfold PySem.W.kitAny
  rw [h1]
  unfold PySem.W.kitAny
  rw [h2]
  rfl
end Eu
set_option Elab.async false
set_option linter.all false
set_option maxRecDepth 100000
set_option maxHeartbeats 4000000
/-! Lay22: zip(xs, ys, strict=True) of two lists of one length. -/
namespace PySem
open Sem (wp)
abbrev IsZipS (h : Heap) (z TI TO : Addr) (f0 : Value) : Prop :=
  h.get? z = some { cls := .type "zip", dict := none, data := .fields #[f0, .bool false, .bool true, .ref TI, .ref TO], slots := #[] }
section
variable {prog : Program} {w : World} {A : Around} {E : Value → Shared → Prop} {s : Shared}
theorem nextOrEnd_item {it : Value} {Q : Option Value → Shared → Prop} (h : wpAny (model prog w) A (Builtin.SmallTypes.nextOf it) (fun v s => Q (some v) s) (fun _ _ => False) s) :
    wpAny (model prog w) A (Builtin.SmallTypes.nextOrEnd it) Q E s := by
  unfold Builtin.SmallTypes.nextOrEnd
  refine wpAny_bind (wpAny_attempt (wpAny_mono h (fun v s' q => wpAny_pure q) fun _ _ z => z.elim))
theorem nextOrEnd_end {it : Value} {Q : Option Value → Shared → Prop} (h : wpAny (model prog w) A (Builtin.SmallTypes.nextOf it) (fun _ _ => False) (fun e s => (∃ a, e = .ref a ∧ ∃ o, s.heap.get? a = some o ∧ o.cls = .type "StopIteration") ∧ Q none s) s) :
    wpAny (model prog w) A (Builtin.SmallTypes.nextOrEnd it) Q E s := by
  unfold Builtin.SmallTypes.nextOrEnd
  refine wpAny_bind (wpAny_attempt (wpAny_mono h (fun v s' q => q.elim) fun e s' q => ?_))
  obtain ⟨⟨a, rfl, o, ho, hc⟩, q⟩ := q
  refine wpAny_bind (wpAny_isInstance (T := "StopIteration") (b := true) ⟨o, ho, hc⟩ isSubtype_stop ?_)
  exact wpAny_pure q
theorem zipS_next_item {z TI TO i1 i2 l1 l2 : Addr} {k1 k2 : Nat} {xs ys : Array Value} {x y a b : Value} {Q : Value → Shared → Prop} (D : ZipApart z TI TO i1 i2 l1 l2)
    (hz : IsZipS s.heap z TI TO .none) (hTI : IsPair s.heap TI (.ref i1) (.ref i2)) (hTO : IsPair s.heap TO a b)
    (h1 : s.heap.IsListIter i1 l1 k1) (h2 : s.heap.IsListIter i2 l2 k2) (hl1 : s.heap.IsList l1 xs) (hl2 : s.heap.IsList l2 ys) (hx : xs[k1]? = some x) (hy : ys[k2]? = some y)
    (hQ : ∀ h', IsZipS h' z TI TO (rawInt s.heap.objs.size) → IsPair h' TO x y → h'.IsListIter i1 l1 (k1 + 1) → h'.IsListIter i2 l2 (k2 + 1) → IsPair h' s.heap.objs.size x y → h'.objs.size = s.heap.objs.size + 1 →
      (∀ c o, c ≠ z → c ≠ TO → c ≠ i1 → c ≠ i2 → s.heap.get? c = some o → h'.get? c = some o) → Q (.ref s.heap.objs.size) { s with heap := h' }) :
    wpAny (model prog w) A (Builtin.«zip.__next__» ⟨[.ref z], []⟩) (fun fin s' => ∃ v, fin = .done (.ret v) ∧ Q v s') E s := by
  show wpAny _ _ (field (.ref z) 2 >>= _) _ _ _
  refine wpAny_bind (wpAny_field hz rfl (x := .bool true) rfl ?_)
  show wpAny _ _ (field (.ref z) 3 >>= _) _ _ _
  refine wpAny_bind (wpAny_field hz rfl (x := .ref TI) rfl ?_)
  refine wpAny_bind (wpAny_seqItems hTI rfl ?_)
  show wpAny _ _ (Builtin.SmallTypes.ownedTupleIsFree (.ref z) >>= _) _ _ _
  refine wpAny_bind ?_
  unfold Builtin.SmallTypes.ownedTupleIsFree
  refine wpAny_bind (wpAny_field hz rfl (x := .none) rfl (wpAny_pure ?_))
  simp only [if_true]
  refine wpAny_bind (wpAny_rule ?_)
  refine wpAny_bind (wpAny_field hz rfl (x := .ref TO) rfl ?_)
  refine wpAny_bind (wpAny_setField_rec hz (by simp) fun h₁ hz₁ hs₁ => ?_)
  replace hz₁ : IsZipS h₁ z TI TO .ellipsis := hz₁
  refine wpAny_bind ?_
  simp only [List.zipIdx_cons, List.zipIdx_nil, List.forIn_cons, List.forIn_nil]

  refine wpAny_bind (wpAny_bind (wpAny_onRaise ?_))
  show wpAny _ _ (Builtin.SmallTypes.nextOrEnd (.ref i1)) _ _ _
  refine nextOrEnd_item (wpAny_nextOf_list_item (h1.extBut hs₁.extBut D.i1z) (hl1.extBut hs₁.extBut D.l1z) hx fun h₂ h1₂ hs₂ => ?_)
  have hTO₂ : IsPair h₂ TO a b := hs₂.extBut _ _ D.TOi1 (hs₁.extBut _ _ D.TOz hTO)
  refine wpAny_bind (wpAny_seqItems hTO₂ rfl ?_)
  refine wpAny_bind (wpAny_updateSeq_pair hTO₂ fun h₃ hTO₃ hs₃ => ?_)
  replace hTO₃ : IsPair h₃ TO x b := hTO₃
  refine wpAny_bind (wpAny_letGo (wpAny_pure ?_))

  refine wpAny_bind (wpAny_bind (wpAny_onRaise ?_))
  show wpAny _ _ (Builtin.SmallTypes.nextOrEnd (.ref i2)) _ _ _
  refine nextOrEnd_item (wpAny_nextOf_list_item (((h2.extBut hs₁.extBut D.i2z).extBut hs₂.extBut D.i12.symm).extBut hs₃.extBut D.TOi2.symm)
    (((hl2.extBut hs₁.extBut D.l2z).extBut hs₂.extBut D.l2i1).extBut hs₃.extBut D.l2TO) hy fun h₄ h2₄ hs₄ => ?_)
  have hTO₄ : IsPair h₄ TO x b := hs₄.extBut _ _ D.TOi2 hTO₃
  refine wpAny_bind (wpAny_seqItems hTO₄ rfl ?_)
  refine wpAny_bind (wpAny_updateSeq_pair hTO₄ fun h₅ hTO₅ hs₅ => ?_)
  replace hTO₅ : IsPair h₅ TO x y := hTO₅
  refine wpAny_bind (wpAny_letGo (wpAny_pure (wpAny_pure ?_)))

  refine wpAny_bind (wpAny_seqItems hTO₅ rfl ?_)
  refine wpAny_bind (wpAny_newTuple ?_)
  have hsz : h₅.objs.size = s.heap.objs.size := by rw [hs₅.1, hs₄.1, hs₃.1, hs₂.1, hs₁.1]
  have hz₅ : IsZipS h₅ z TI TO .ellipsis := hs₅.extBut _ _ D.TOz.symm (hs₄.extBut _ _ D.i2z.symm (hs₃.extBut _ _ D.TOz.symm (hs₂.extBut _ _ D.i1z.symm hz₁)))
  have hk₅ : ∀ c o, c ≠ z → c ≠ TO → c ≠ i1 → c ≠ i2 → s.heap.get? c = some o → h₅.get? c = some o := fun c o c1 c2 c3 c4 e =>
    hs₅.extBut _ _ c2 (hs₄.extBut _ _ c4 (hs₃.extBut _ _ c2 (hs₂.extBut _ _ c3 (hs₁.extBut _ _ c1 e))))
  have h1₅ : h₅.IsListIter i1 l1 (k1 + 1) := ((h1₂.extBut hs₃.extBut D.TOi1.symm).extBut hs₄.extBut D.i12).extBut hs₅.extBut D.TOi1.symm
  have h2₅ : h₅.IsListIter i2 l2 (k2 + 1) := h2₄.extBut hs₅.extBut D.TOi2.symm
  have hzlt : z < h₅.objs.size := Heap.lt_size hz₅
  have hTOlt : TO < h₅.objs.size := Heap.lt_size hTO₅
  have hi1lt : i1 < h₅.objs.size := by obtain ⟨_, e, _⟩ := h1₅; exact Heap.lt_size e
  have hi2lt : i2 < h₅.objs.size := by obtain ⟨_, e, _⟩ := h2₅; exact Heap.lt_size e
  show wpAny _ _ (Builtin.SmallTypes.ownedTupleHandOut (.ref z) (.ref h₅.objs.size) >>= _) _ _ _
  refine wpAny_bind ?_
  unfold Builtin.SmallTypes.ownedTupleHandOut
  have hz₆ : IsZipS (h₅.push { cls := .type "tuple", data := .seq #[x, y] }) z TI TO .ellipsis := Heap.get?_push_of_some _ hz₅
  refine wpAny_bind (wpAny_setField_rec hz₆ (by simp) fun h₇ hz₇ hs₇ => ?_)
  replace hz₇ : IsZipS h₇ z TI TO (rawInt h₅.objs.size) := hz₇
  refine wpAny_setField_rec hz₇ (by simp) fun h₈ hz₈ hs₈ => ?_
  replace hz₈ : IsZipS h₈ z TI TO (rawInt h₅.objs.size) := hz₈
  have up : ∀ c o, c ≠ z → h₅.get? c = some o → h₈.get? c = some o := fun c o c1 e => hs₈.extBut _ _ c1 (hs₇.extBut _ _ c1 (Heap.get?_push_of_some _ e))
  have hT₈ : IsPair h₈ h₅.objs.size x y := hs₈.extBut _ _ (Nat.ne_of_gt hzlt) (hs₇.extBut _ _ (Nat.ne_of_gt hzlt) (Heap.get?_push_size _ rfl))
  have hz8 : h₈.objs.size = h₅.objs.size + 1 := by rw [hs₈.1, hs₇.1, Heap.size_push]
  rw [hsz] at hz₈ hT₈ hz8
  refine wpAny_pure ⟨_, rfl, ?_⟩
  show Q (.ref h₅.objs.size) _
  rw [hsz]
  exact hQ h₈ hz₈ (up _ _ D.TOz hTO₅) (h1₅.at fun o e => up _ o D.i1z e) (h2₅.at fun o e => up _ o D.i2z e) hT₈ hz8 fun c o c1 c2 c3 c4 e => up c o c1 (hk₅ c o c1 c2 c3 c4 e)

theorem zipS_next_end {z TI TO i1 i2 l1 l2 : Addr} {k1 k2 : Nat} {xs ys : Array Value} {a b : Value} {Q : Fin → Shared → Prop} (hh : A.handled = none) (D : ZipApart z TI TO i1 i2 l1 l2)
    (hz : IsZipS s.heap z TI TO .none) (hTI : IsPair s.heap TI (.ref i1) (.ref i2)) (hTO : IsPair s.heap TO a b)
    (h1 : s.heap.IsListIter i1 l1 k1) (h2 : s.heap.IsListIter i2 l2 k2) (hl1 : s.heap.IsList l1 xs) (hl2 : s.heap.IsList l2 ys) (hx : xs[k1]? = none) (hy : ys[k2]? = none)
    (hE : ∀ h' e, (∀ c o, c ≠ z → c ≠ TO → c ≠ i1 → c ≠ i2 → s.heap.get? c = some o → h'.get? c = some o) → (∃ o, h'.get? e = some o ∧ o.cls = .type "StopIteration") → E (.ref e) { s with heap := h' }) :
    wpAny (model prog w) A (Builtin.«zip.__next__» ⟨[.ref z], []⟩) Q E s := by
  show wpAny _ _ (field (.ref z) 2 >>= _) _ _ _
  refine wpAny_bind (wpAny_field hz rfl (x := .bool true) rfl ?_)
  show wpAny _ _ (field (.ref z) 3 >>= _) _ _ _
  refine wpAny_bind (wpAny_field hz rfl (x := .ref TI) rfl ?_)
  refine wpAny_bind (wpAny_seqItems hTI rfl ?_)
  show wpAny _ _ (Builtin.SmallTypes.ownedTupleIsFree (.ref z) >>= _) _ _ _
  refine wpAny_bind ?_
  unfold Builtin.SmallTypes.ownedTupleIsFree
  refine wpAny_bind (wpAny_field hz rfl (x := .none) rfl (wpAny_pure ?_))
  simp only [if_true]
  refine wpAny_bind (wpAny_rule ?_)
  refine wpAny_bind (wpAny_field hz rfl (x := .ref TO) rfl ?_)
  refine wpAny_bind (wpAny_setField_rec hz (by simp) fun h₁ hz₁ hs₁ => ?_)
  replace hz₁ : IsZipS h₁ z TI TO .ellipsis := hz₁
  refine wpAny_bind ?_
  simp only [List.zipIdx_cons, List.zipIdx_nil, List.forIn_cons, List.forIn_nil]
  refine wpAny_bind (wpAny_bind (wpAny_onRaise ?_))
  show wpAny _ _ (Builtin.SmallTypes.nextOrEnd (.ref i1)) _ _ _
  refine nextOrEnd_end (wpAny_nextOf_list_end hh (h1.extBut hs₁.extBut D.i1z) (hl1.extBut hs₁.extBut D.l1z) hx fun h₂ e hs₂ he => ⟨⟨e, rfl, he⟩, ?_⟩)
  have hz₂ : IsZipS h₂ z TI TO .ellipsis := hs₂ _ _ D.i1z.symm hz₁
  refine wpAny_bind (wpAny_setField_rec hz₂ (by simp) fun h₃ hz₃ hs₃ => ?_)
  replace hz₃ : IsZipS h₃ z TI TO .none := hz₃
  refine wpAny_bind ?_
  show wpAny _ _ (forIn [((.ref i2 : Value), 1)] PUnit.unit _ >>= _) _ _ _
  refine wpAny_bind ?_
  simp only [List.forIn_cons, List.forIn_nil]
  refine wpAny_bind (wpAny_bind ?_)
  have k2 : h₃.IsListIter i2 l2 k2 := ((h2.extBut hs₁.extBut D.i2z).extBut hs₂ D.i12.symm).extBut hs₃.extBut D.i2z
  have m2 : h₃.IsList l2 ys := ((hl2.extBut hs₁.extBut D.l2z).extBut hs₂ D.l2i1).extBut hs₃.extBut D.l2z
  refine nextOrEnd_end (wpAny_nextOf_list_end hh k2 m2 hy fun h₄ e2 hs₄ he2 => ⟨⟨e2, rfl, he2⟩, ?_⟩)
  simp only [Option.isSome_none, Bool.false_eq_true, if_false]
  refine wpAny_pure (wpAny_pure ?_)
  refine wpAny_bind (wpAny_rule ?_)
  show wpAny _ _ (newExc (.type "StopIteration") [] >>= _) _ _ _
  refine wpAny_bind ?_
  simp only [newExc, newTuple]
  refine wpAny_bind (wpAny_newObj_type ?_ (by size_fits))
  refine wpAny_bind (m := firstArgMember _ _) (wpAny_of_eq (a := Value.none) (by first | rfl | (simp only [firstArgMember]; rfl)) ?_)
  refine wpAny_newObj_type ?_ (by size_fits)
  simp only [raiseNew]
  refine wpAny_bind (wpAny_handled ?_)
  first | rw [show A.in1.handled = none from hh] | rw [hh]
  refine wpAny_bind (wpAny_pure (wpAny_throw ?_))
  refine hE _ _ (fun c o c1 c2 c3 c4 x => Heap.get?_push_of_some _ (Heap.get?_push_of_some _ (hs₄ _ _ c4 (hs₃.extBut _ _ c1 (hs₂ _ _ c3 (hs₁.extBut _ _ c1 x)))))) ⟨_, Heap.get?_push_size _ rfl, rfl⟩
end
end PySem
set_option Elab.async false
set_option linter.all false
set_option maxRecDepth 100000
set_option maxHeartbeats 4000000
namespace PySem
open Sem (wp)
section
variable {prog : Program} {w : World} {A : Around} {E : Value → Shared → Prop} {s : Shared}
theorem pyNext_zipS_item {z TI TO i1 i2 l1 l2 : Addr} {k1 k2 : Nat} {xs ys : Array Value} {x y a b : Value} {Q : Option Value → Shared → Prop} (D : ZipApart z TI TO i1 i2 l1 l2)
    (hz : IsZipS s.heap z TI TO .none) (hTI : IsPair s.heap TI (.ref i1) (.ref i2)) (hTO : IsPair s.heap TO a b)
    (h1 : s.heap.IsListIter i1 l1 k1) (h2 : s.heap.IsListIter i2 l2 k2) (hl1 : s.heap.IsList l1 xs) (hl2 : s.heap.IsList l2 ys) (hx : xs[k1]? = some x) (hy : ys[k2]? = some y)
    (hQ : ∀ h', IsZipS h' z TI TO (rawInt s.heap.objs.size) → IsPair h' TO x y → h'.IsListIter i1 l1 (k1 + 1) → h'.IsListIter i2 l2 (k2 + 1) → IsPair h' s.heap.objs.size x y → h'.objs.size = s.heap.objs.size + 1 →
      (∀ c o, c ≠ z → c ≠ TO → c ≠ i1 → c ≠ i2 → s.heap.get? c = some o → h'.get? c = some o) → Q (some (.ref s.heap.objs.size)) { s with heap := h' }) :
    wpAny (model prog w) A (pyNext (.ref z)) Q E s := by
  have hT : s.TypeIs (.ref z) "zip" := ⟨_, hz, rfl⟩
  unfold pyNext
  exact wpAny_bind (wpAny_attempt (wpAny_callSpecial?_slot (name := Str.ofString "__next__") hT F.slot_zip_next
    (wpAny_call_entry F.slot_zip_next hT F.entry_zip_next
      (zipS_next_item D hz hTI hTO h1 h2 hl1 hl2 hx hy fun h' a1 a2 a3 a4 a5 a6 a7 => wpAny_pure (hQ h' a1 a2 a3 a4 a5 a6 a7)) (F.args_zip_next_1 _))))
theorem pyNext_zipS_end {z TI TO i1 i2 l1 l2 : Addr} {k1 k2 : Nat} {xs ys : Array Value} {a b : Value} {Q : Option Value → Shared → Prop} (hh : A.handled = none) (D : ZipApart z TI TO i1 i2 l1 l2)
    (hz : IsZipS s.heap z TI TO .none) (hTI : IsPair s.heap TI (.ref i1) (.ref i2)) (hTO : IsPair s.heap TO a b)
    (h1 : s.heap.IsListIter i1 l1 k1) (h2 : s.heap.IsListIter i2 l2 k2) (hl1 : s.heap.IsList l1 xs) (hl2 : s.heap.IsList l2 ys) (hx : xs[k1]? = none) (hy : ys[k2]? = none)
    (hQ : ∀ h', (∀ c o, c ≠ z → c ≠ TO → c ≠ i1 → c ≠ i2 → s.heap.get? c = some o → h'.get? c = some o) → Q none { s with heap := h' }) : wpAny (model prog w) A (pyNext (.ref z)) Q E s := by
  have hT : s.TypeIs (.ref z) "zip" := ⟨_, hz, rfl⟩
  unfold pyNext
  refine wpAny_bind (wpAny_attempt (wpAny_callSpecial?_slot (name := Str.ofString "__next__") hT F.slot_zip_next
    (wpAny_call_entry F.slot_zip_next hT F.entry_zip_next (zipS_next_end hh D hz hTI hTO h1 h2 hl1 hl2 hx hy fun h' e hk he => ?_) (F.args_zip_next_1 _))))
  obtain ⟨o, ho, hc⟩ := he
  refine wpAny_bind (wpAny_isInstance (T := "StopIteration") (b := true) ⟨o, ho, hc⟩ isSubtype_stop ?_)
  exact wpAny_pure (hQ _ hk)
theorem letOwnedTupleGo_zipS {elts : List Expr} {x1} {pos : Pos} {z TI TO T : Addr} {Q : Unit → Shared → Prop} (hz : IsZipS s.heap z TI TO (rawInt T))
    (hQ : ∀ h', IsZipS h' z TI TO .none → Heap.SameBut z s.heap h' → Q () { s with heap := h' }) :
    wpAny (model prog w) A (letOwnedTupleGo (.Tuple elts x1 pos) (.ref z) (.ref T)) Q E s := by
  unfold letOwnedTupleGo
  refine wpAny_bind (wpAny_load hz ?_)
  show wpAny _ _ (if (["enumerate", "zip", "dict_itemiterator", "dict_reverseitemiterator", "odict_iterator", "itertools.zip_longest", "itertools.pairwise"].contains "zip" &&
      (#[rawInt T, .bool false, .bool true, .ref TI, .ref TO] : Array Value)[0]? == some (rawInt T)) = true then _ else _) Q E s
  rw [if_pos (by simp)]
  refine wpAny_bind (wpAny_rule ?_)
  show wpAny _ _ (setField (.ref z) 0 .none) Q E s
  exact wpAny_setField_rec hz (by simp) fun h' hz' hs' => hQ h' hz' hs'
theorem pyIter_zipS {z TI TO : Addr} {f0 : Value} {Q : Value → Shared → Prop} (hz : IsZipS s.heap z TI TO f0) (h : Q (.ref z) s) : wpAny (model prog w) A (pyIter (.ref z)) Q E s := by
  have hT : s.TypeIs (.ref z) "zip" := ⟨_, hz, rfl⟩
  refine wpAny_pyIter_slot hT F.slot_zip_iter (wpAny_call_entry F.slot_zip_iter hT F.entry_zip_iter ?_ (F.args_zip_iter_1 _))
  show wpAny _ _ (ret (.ref z)) _ _ s
  exact wpAny_pure ⟨_, rfl, "zip", _, hT, F.slot_zip_next.lookup, h⟩
end
abbrev zipS5 (h : Heap) (l1 l2 : Addr) : Heap := (zipH4 h l1 l2).push { cls := .type "zip", data := .fields #[.none, .bool false, .bool true, .ref (zipH2 h l1 l2).objs.size, .ref (zipH3 h l1 l2).objs.size] }
abbrev kStrict : List (Str × Value) := [(Str.ofString "strict", .bool true)]
theorem meets_zipS_new (l1 l2 : Addr) (xs ys : Array Value) :
    Meets (Builtin.«zip.__new__» ⟨[.type "zip", .ref l1, .ref l2], kStrict⟩) (fun _ R s => s.heap.IsList l1 xs ∧ s.heap.IsList l2 ys ∧
      R (.ok (.ret (.ref (zipH4 s.heap l1 l2).objs.size))) { s with heap := zipS5 s.heap l1 l2 }) :=
  .of_wp fun prog w A R s h => by
    obtain ⟨hp, g, d, tk, os⟩ := s; obtain ⟨hl1, hl2, h⟩ := h
    have hsub := sub_zip
    have hL1 : Heap.IsList (Shared.heap ⟨hp, g, d, tk, os⟩) l1 xs := hl1
    have hL2 : Heap.IsList (Shared.heap ⟨hp.push { cls := .type "list_iterator", data := .fields #[.ref l1, .int 0 0] }, g, d, tk, os⟩) l2 ys := Heap.IsList.push hl2 _
    wp_walk using wpAny_pyIter_list hL1, wpAny_pyIter_list hL2
    exact ⟨_, rfl, h⟩
theorem typeCall_zipS (a b : Value) : checkTypeCall "zip" ⟨[a, b], kStrict⟩ = pure () := by kernel_rfl
theorem newCall_zipS (a b : Value) : checkBuiltinCall "zip.__new__" ⟨[.type "zip", a, b], kStrict⟩ = pure () := by kernel_rfl
theorem args_object_initS (a b c : Value) : argsOk "object.__init__" ⟨[a, b, c], kStrict⟩ := by
  unfold argsOk; rw [signature?_of (id := "object.__init__") (n := ['_', '_', 't', 'i', 'n', 'i', '_', '_']) (o := ['t', 'c', 'e', 'j', 'b', 'o']) (by kernel_rfl) F.owner_object]; kernel_rfl
end PySem
set_option Elab.async false
set_option linter.all false
set_option maxRecDepth 100000
set_option maxHeartbeats 4000000
namespace PySem
open Sem (wp)
section
variable {prog : Program} {w : World} {A : Around} {E : Value → Shared → Prop} {s : Shared}
theorem object_init_meetsK {T newId : String} {self : Value} {rest : List Value} {kw : List (Str × Value)} (hl : typeLookup (.type T) "__init__" = pure (some (.builtin "object.__init__")))
    (hm : Bind.madeBy (.type T) = pure (some newId)) (hne : (some newId != some "object.__new__") = true) (hr : rest ≠ []) :
    Meets (Builtin.«object.__init__» ⟨self :: rest, kw⟩) (fun _ R s => s.TypeIs self T ∧ R (.ok (.ret .none)) s) := by
  refine Meets.of_wp fun prog w A R s hs => ?_
  obtain ⟨hT, hq⟩ := hs
  cases rest with
  | nil => exact absurd rfl hr
  | cons a rest =>
    repeat (any_goals (first | assumption | wp_step))
    exact ⟨_, rfl, hq⟩
theorem callType_meetsK {T newId initId : String} {Bn Bi : Builtin} {args : List Value} {kw : List (Str × Value)} {S : Spec} {Q Q₁ : Value → Shared → Prop} (ft : TypeCalled T newId initId)
    (hct : checkTypeCall T ⟨args, kw⟩ = pure ()) (hcn : checkBuiltinCall newId ⟨.type T :: args, kw⟩ = pure ())
    (entryN : entryFor table newId = some Bn) (entryI : entryFor table initId = some Bi) (g : Meets (Bn ⟨.type T :: args, kw⟩) S)
    (h : S A.in1 (wants Q₁ E) s)
    (hnext : ∀ obj s₁, Q₁ obj s₁ → s₁.TypeIs obj T ∧ argsOk initId ⟨obj :: args, kw⟩ ∧ ∃ Si, Meets (Bi ⟨obj :: args, kw⟩) Si ∧ Si A.in1 (wants (fun r s₂ => r = .none ∧ Q obj s₂) E) s₁) :
    wpAny (model prog w) A (call (.type T) args kw) Q E s := by
  obtain ⟨c, tl, hmro⟩ := ft.mro
  have hmade := ft.made
  have hsub := ft.sub
  refine wpAny_call (codeAny_of_tree ?_)
  show wpAny _ _ (callAny (.type T) _) _ _ _
  refine wpAny_pure ⟨Code.quiet_builtin _ (by decide +kernel), codeAny_builtin F.entry_type_call ?_⟩
  rw [Around.under_plain (weight_type_call_type T args kw) (units_type_call_type T args kw)]
  have h1 := ft.notType
  have h2 := ft.canCreate
  repeat (any_goals (first | assumption | wp_step))

  refine codeAny_mono (codeAny_call_builtin ft.plain entryN (wpAny_of_eq hcn (g prog w A.in1 _ s h))) fun r s₁ hr => ?_
  cases r with
  | error e => exact hr
  | ok fl =>
    cases fl with
    | ret obj =>
      obtain ⟨hT, hok, Si, gi, hsi⟩ := hnext _ _ hr
      have hli := ft.init.lookup
      have hbi := ft.init.bind obj
      repeat (any_goals (first | assumption | wp_step))

      refine codeAny_mono (codeAny_call_builtin ft.init.plain entryI (ft.init.check _ _ _ _ _ _ _ _ hT hok (gi prog w A.in1 _ s₁ hsi))) fun r₂ s₂ hr₂ => ?_
      cases r₂ with
      | error e => exact hr₂
      | ok fl₂ =>
        cases fl₂ with
        | ret r =>
          obtain ⟨rfl, hq⟩ := hr₂
          repeat (any_goals (first | assumption | wp_step))
        | _ => exact hr₂.elim
    | _ => exact hr.elim
theorem call_zipS {l1 l2 : Addr} {xs ys : Array Value} {Q : Value → Shared → Prop} (hl1 : s.heap.IsList l1 xs) (hl2 : s.heap.IsList l2 ys)
    (h : ∀ h', IsZipS h' (s.heap.objs.size + 4) (s.heap.objs.size + 2) (s.heap.objs.size + 3) .none → IsPair h' (s.heap.objs.size + 2) (.ref s.heap.objs.size) (.ref (s.heap.objs.size + 1)) →
      IsPair h' (s.heap.objs.size + 3) .none .none → h'.IsListIter s.heap.objs.size l1 0 → h'.IsListIter (s.heap.objs.size + 1) l2 0 → h'.objs.size = s.heap.objs.size + 5 →
      (∀ c o, s.heap.get? c = some o → h'.get? c = some o) → Q (.ref (s.heap.objs.size + 4)) { s with heap := h' }) :
    wpAny (model prog w) A (call (.type "zip") [.ref l1, .ref l2] kStrict) Q E s := by
  refine callType_meetsK (Q₁ := fun obj s₁ => s₁.TypeIs obj "zip" ∧ Q obj s₁) F.called_zip (typeCall_zipS _ _) (newCall_zipS _ _) F.entry_zip_new F.entry_object_init
    (meets_zipS_new l1 l2 xs ys) ⟨hl1, hl2, ?_⟩ fun obj _ hq => ⟨hq.1, args_object_initS obj _ _, _, object_init_meetsK F.called_zip.init.lookup F.called_zip.made (by decide) (by simp), hq.1, rfl, hq.2⟩
  have z1 : (zipH1 s.heap l1).objs.size = s.heap.objs.size + 1 := Heap.size_push ..
  have z2 : (zipH2 s.heap l1 l2).objs.size = s.heap.objs.size + 2 := by rw [Heap.size_push, z1]
  have z3 : (zipH3 s.heap l1 l2).objs.size = s.heap.objs.size + 3 := by rw [Heap.size_push, z2]
  have z4 : (zipH4 s.heap l1 l2).objs.size = s.heap.objs.size + 4 := by rw [Heap.size_push, z3]
  have z5 : (zipS5 s.heap l1 l2).objs.size = s.heap.objs.size + 5 := by rw [Heap.size_push, z4]
  have g5 : (zipS5 s.heap l1 l2).get? (zipH4 s.heap l1 l2).objs.size = some _ := Heap.get?_push_size _ rfl
  have g4 : (zipS5 s.heap l1 l2).get? (zipH3 s.heap l1 l2).objs.size = some _ := Heap.get?_push_of_some _ (Heap.get?_push_size _ rfl)
  have g3 : (zipS5 s.heap l1 l2).get? (zipH2 s.heap l1 l2).objs.size = some _ := Heap.get?_push_of_some _ (Heap.get?_push_of_some _ (Heap.get?_push_size _ rfl))
  have g2 : (zipS5 s.heap l1 l2).get? (zipH1 s.heap l1).objs.size = some _ := Heap.get?_push_of_some _ (Heap.get?_push_of_some _ (Heap.get?_push_of_some _ (Heap.get?_push_size _ rfl)))
  have g1 : (zipS5 s.heap l1 l2).get? s.heap.objs.size = some _ := Heap.get?_push_of_some _ (Heap.get?_push_of_some _ (Heap.get?_push_of_some _ (Heap.get?_push_of_some _ (Heap.get?_push_size _ rfl))))
  show _ ∧ _
  rw [z2, z3, z4] at g5
  rw [z1, z2] at g3
  rw [z3] at g4
  rw [z1] at g2
  rw [z4]
  exact ⟨⟨_, g5, rfl⟩, h _ g5 g3 g4 ⟨_, g1, rfl, rfl⟩ ⟨_, g2, rfl, rfl⟩ z5 fun c o x =>
    Heap.get?_push_of_some _ (Heap.get?_push_of_some _ (Heap.get?_push_of_some _ (Heap.get?_push_of_some _ (Heap.get?_push_of_some _ x))))⟩
end
section
variable {M : Model} {A : Around} {E : Value → Shared → Prop} {s : Shared} {env : Env}
open PyProof.Rows in
theorem callWith_typeK {pos : Pos} {T : String} {e : Expr} {rest : List Expr} {kws : List Keyword} {Q : Value → Shared → Prop}
    (h : wpAny M A (spliced (backTo pos (starEach (e :: rest) env))) (fun vs s₁ => wpAny M A (evalAll ((backToKw pos (keywordEach kws env)).map (·.2)))
      (fun kvs s₂ => wpAny M A (call (.type T) vs (((backToKw pos (keywordEach kws env)).filterMap (·.1)).zip kvs)) Q E s₂) E s₁) E s)
    (he : backTo pos (starEach (e :: rest) env) = (false, eval e env) :: backTo pos (starEach rest env) := by rfl)
    (hplain : (backTo pos (starEach (e :: rest) env)).any (·.1) = false := by rfl)
    (hall : (backToKw pos (keywordEach kws env)).all (·.1.isSome) = true := by rfl)
    (hkw : (backToKw pos (keywordEach kws env)).any (·.1.isNone) = false := by rfl) :
    wpAny M A (callWith pos (.type T) [] (backTo pos (starEach (e :: rest) env)) (backToKw pos (keywordEach kws env))) Q E s := by
  unfold callWith
  rw [he] at h ⊢
  refine wpAny_bind (wpAny_holding (wpAny_mono (evalArgs_kwB (f := .type T) (Q := fun a s₁ => wpAny M A (call (.type T) ([] ++ a.pos) a.kw) Q E s₁) hall h) (fun a s₁ h₁ => wpAny_bind (wpAny_standAt ?_)) fun _ _ x => x))
  rw [he] at hplain
  simp only [hplain, hkw, Bool.or_false]
  refine wpAny_bind (wpAny_pure ?_)
  exact wpAny_bind (wpAny_mono h₁ (fun r s₂ hr => wpAny_bind (wpAny_holding (wpAny_point (wpAny_pure hr)))) fun _ _ x => x)
end
end PySem
set_option Elab.async false
set_option linter.all false
set_option maxRecDepth 100000
set_option maxHeartbeats 4000000
namespace L2
open PySem PySem.Spec PyProof.Rows
/-- two lists of one length, item by item in new pairs -/
def ItzS (K : PySem.W.Frag) (a b : Addr) : It :=
  ⟨fun i H => ∃ (xs ys : List V) (x y : V), SqL K H a xs ∧ SqL K H b ys ∧ xs[i]? = some x ∧ ys[i]? = some y,
    fun i H v H' => ∃ T x y, v = .ref T ∧ H T = none ∧ H' = upd H T (.tup [x, y]) ∧ (∀ xs, SqL K H a xs → xs[i]? = some x) ∧ ∀ ys, SqL K H b ys → ys[i]? = some y,
    fun i H => ∃ xs ys : List V, SqL K H a xs ∧ SqL K H b ys ∧ xs.length ≤ i ∧ ys.length ≤ i⟩
theorem turn_zipS {P : Program} {w : World} {K : PySem.W.Frag} {elts : List Expr} {kk : Nat} {tpos : Pos} {a b z TI TO i1 i2 : Addr} (D : ZipApart z TI TO i1 i2 a b) :
    Turn P w K (.Tuple elts kk tpos) (ItzS K a b) [z, TI, TO, i1, i2] z (fun i h => IsZipS h z TI TO .none ∧ IsPair h TI (.ref i1) (.ref i2) ∧ (∃ x y, IsPair h TO x y) ∧ h.IsListIter i1 a i ∧ h.IsListIter i2 b i) where
  mem := by simp
  obj := fun i h st c hc => by
    obtain ⟨hz, hTI, ⟨x, y, hTO⟩, ⟨o1, e1, _, d1⟩, ⟨o2, e2, _, d2⟩⟩ := st
    have e' : c = z ∨ c = TI ∨ c = TO ∨ c = i1 ∨ c = i2 := by simpa using hc
    rcases e' with q | q | q | q | q
    · rw [q]; exact ⟨_, hz, fun v q => nomatch q⟩
    · rw [q]; exact ⟨_, hTI, fun v q => nomatch q⟩
    · rw [q]; exact ⟨_, hTO, fun v q => nomatch q⟩
    · rw [q]; exact ⟨o1, e1, fun v q => by rw [d1] at q; cases q⟩
    · rw [q]; exact ⟨o2, e2, fun v q => by rw [d2] at q; cases q⟩
  keep := fun i h h' st k => by
    obtain ⟨hz, hTI, ⟨x, y, hTO⟩, h1, h2⟩ := st
    exact ⟨k z (by simp) _ hz, k TI (by simp) _ hTI, ⟨x, y, k TO (by simp) _ hTO⟩, h1.at fun o q => k i1 (by simp) o q, h2.at fun o q => k i2 (by simp) o q⟩
  item := by
    intro X hP hw hK hc i pins s σ H E I hf st hg
    subst hP hw hK
    obtain ⟨hz, hTI, ⟨x0, y0, hTO⟩, h1, h2⟩ := st
    obtain ⟨xs, ys, x, y, hqx, hqy, hx, hy⟩ := hg
    obtain ⟨its, rv, p, _⟩ := I.list hqx
    obtain ⟨its2, rv2, p2, _⟩ := I.list hqy
    obtain ⟨u, hu, ru⟩ := rv.get hx
    obtain ⟨u2, hu2, ru2⟩ := rv2.get hy
    have hzl : z < s.heap.objs.size := Heap.lt_size hz
    refine pyNext_zipS_item D hz hTI hTO h1 h2 p.isList p2.isList (x := u) (y := u2) (by simpa using hu) (by simpa using hu2) fun h' z' TO' h1' h2' hT hsz hk => ?_
    refine ⟨_, rfl, letOwnedTupleGo_zipS (s := { s with heap := h' }) z' fun h'' z'' sb => ?_⟩
    have hT2 : h''.get? s.heap.objs.size = some { cls := .type "tuple", data := .seq #[u, u2] } := (sb.2 _ (Nat.ne_of_gt hzl)).trans hT
    have new : ObjOk X.prog X.w (upd H s.heap.objs.size (.tup [x, y])) h'' s.heap.objs.size (.tup [x, y]) :=
      ⟨by show 2 ≤ sizeLine; decide, [u, u2], .cons ru (.cons ru2 .nil), ⟨_, hT2, rfl, _, rfl⟩⟩
    have I1 : Inv X pins σ (upd H s.heap.objs.size (.tup [x, y])) { s with heap := h'' } :=
      I.turnedNew (t' := s.toks) (ch := [z, TI, TO, i1, i2]) (fun c o hb q => (sb.2 c (fun q' => hb (by simp [q']))).trans (hk c o (fun q' => hb (by simp [q'])) (fun q' => hb (by simp [q'])) (fun q' => hb (by simp [q'])) (fun q' => hb (by simp [q'])) q)) hf (Nat.le_refl _) new
    refine ⟨.ref s.heap.objs.size, _, I1, rfl, ⟨_, x, y, rfl, I.hok.fresh (Nat.le_refl _), rfl, fun l hl => by rw [I.list_inj hl hqx]; exact hx, fun l hl => by rw [I.list_inj hl hqy]; exact hy⟩, ⟨z'', ?_, ⟨u, u2, ?_⟩, ?_, ?_⟩, fun c hcm => ?_⟩
    · exact (sb.2 _ D.TIz).trans (hk _ _ D.TIz D.TITO D.TIi1 D.TIi2 hTI)
    · exact (sb.2 _ D.TOz).trans TO'
    · exact h1'.at fun o q => (sb.2 _ D.i1z).trans q
    · exact h2'.at fun o q => (sb.2 _ D.i2z).trans q
    · have hlt : c < s.heap.objs.size := by
        have e' : c = z ∨ c = TI ∨ c = TO ∨ c = i1 ∨ c = i2 := by simpa using hcm
        rcases e' with q | q | q | q | q
        · rw [q]; exact hzl
        · rw [q]; exact Heap.lt_size hTI
        · rw [q]; exact Heap.lt_size hTO
        · rw [q]; obtain ⟨_, e1, _⟩ := h1; exact Heap.lt_size e1
        · rw [q]; obtain ⟨_, e2, _⟩ := h2; exact Heap.lt_size e2
      rw [upd_ne (Nat.ne_of_lt hlt)]
      exact (hf c hcm).1
  done := by
    intro X hP hw hK hc i pins s σ H E I hf st hg
    subst hP hw hK
    obtain ⟨hz, hTI, ⟨x0, y0, hTO⟩, h1, h2⟩ := st
    obtain ⟨xs, ys, hqx, hqy, g1, g2⟩ := hg
    obtain ⟨its, rv, p, _⟩ := I.list hqx
    obtain ⟨its2, rv2, p2, _⟩ := I.list hqy
    have l1 := rv.length
    have l2 := rv2.length
    exact pyNext_zipS_end (I.ok.hd hc) D hz hTI hTO h1 h2 p.isList p2.isList (by simp; omega) (by simp; omega) fun h' hk => ⟨rfl, I.turnedL (t' := s.toks) (ch := [z, TI, TO, i1, i2]) (fun c o hb q =>
      hk c o (fun q' => hb (by simp [q'])) (fun q' => hb (by simp [q'])) (fun q' => hb (by simp [q'])) (fun q' => hb (by simp [q'])) q) hf⟩
  self := fun A i s Q E st h => pyIter_zipS st.1 h
def iZipS (K : PySem.W.Frag) (ta : TA) : TI := fun σ H R => ta σ H fun vs H1 => ∃ a b xs ys, vs = [.ref a, .ref b] ∧ SqL K H1 a xs ∧ SqL K H1 b ys ∧ R (ItzS K a b) H1
theorem pi_zipS {X : Cx} {e e2 : Expr} {ta : TA} {p pos tpos kp cp : Pos} {elts : List Expr} {kk j : Nat} (hg : Gl X "zip") (hm : X.mg "zip" = none) (ha : PA X [e, e2] ta)
    (hs : backTo pos (starEach [e, e2] X.env) = (false, eval e X.env) :: backTo pos (starEach [e2] X.env) := by rfl) (hpl : (backTo pos (starEach [e, e2] X.env)).any (·.1) = false := by rfl) :
    PI X (.Tuple elts kk tpos) (.Call (.Name "zip" p) [e, e2] [⟨some (Str.ofString "strict"), .Constant (.bool true) j cp, kp⟩] pos) (iZipS X.K ta) := by
  refine ⟨fun pins s σ H R I h => ?_⟩
  refine wpAny_Call_Name_kw (ld_blt I hg hm PyProof.Rows.boot_zip (callWith_typeK (thn (ha.run pos pins s σ H _ I h) fun us s1 ⟨vs, H1, I1, r1, q1⟩ => ?_) hs hpl))
  refine PyProof.Rows.kws_cons ?_
  refine Constant_bool (PyProof.Rows.kws_nil ?_)
  obtain ⟨a, b, xs, ys, ex, hqx, hqy, q⟩ := q1
  subst ex
  cases r1 with
  | cons r rr =>
    cases rr with
    | cons r' rr =>
      cases rr
      cases r
      cases r'
      obtain ⟨its, rv, p1, _⟩ := I1.list hqx
      obtain ⟨its2, rv2, p2, _⟩ := I1.list hqy
      have la : a < s1.heap.objs.size := p1.lt
      have lb : b < s1.heap.objs.size := p2.lt
      refine call_zipS p1.isList p2.isList fun h' hz hTI hTO h1 h2 hsz hk => pyIter_zipS hz ?_
      have I2 : Inv X pins σ H1 { s1 with heap := h' } := I1.kept (t' := s1.toks) hk
      refine ⟨s1.heap.objs.size + 4, [s1.heap.objs.size + 4, s1.heap.objs.size + 2, s1.heap.objs.size + 3, s1.heap.objs.size, s1.heap.objs.size + 1], _, _, H1, rfl, I2, turn_zipS (PySem.W.ktu_apart s1.heap.objs.size a b la lb), ⟨hz, hTI, ⟨_, _, hTO⟩, h1, h2⟩, fun c hcm => ?_, q⟩
      have e' : c = s1.heap.objs.size + 4 ∨ c = s1.heap.objs.size + 2 ∨ c = s1.heap.objs.size + 3 ∨ c = s1.heap.objs.size ∨ c = s1.heap.objs.size + 1 := by simpa using hcm
      have hle : s1.heap.objs.size ≤ c := by
        rcases e' with z | z | z | z | z
        · rw [z]; exact Nat.le_add_right _ _
        · rw [z]; exact Nat.le_add_right _ _
        · rw [z]; exact Nat.le_add_right _ _
        · rw [z]; exact Nat.le_refl _
        · rw [z]; exact Nat.le_add_right _ _
      exact I1.fpOk hle (I1.hok.fresh hle)
end L2
namespace Dv
open PySem PySem.Spec PyProof.Rows L2 Eu
end Dv
set_option Elab.async false
set_option linter.all false
set_option maxRecDepth 100000
set_option maxHeartbeats 4000000
/-! Dv1: plain data of a heap; heaps that are the same up to locks; slots of data; what a reading over the heap has to do with one over data. -/
namespace Dv
open PySem PySem.Spec PyProof.Rows L2 Eu
inductive D where
  | non | bl (b : Bool) | int (i : Int) | str (x : Str) | ty (n : String) | cls (a : Addr)
  | lst (xs : List D) | tup (xs : List D) | dct (kvs : List (Key × D)) | obj (C : Addr) (fs : List (Str × D)) | bag (m : Nat) | scr (ns : List Int) | exn (a C dd : Addr) (fs : List (Str × D))
mutual
inductive Rp (K : PySem.W.Frag) (H : Hp) : V → D → Prop
  | non : Rp K H .non .non
  | bl (b : Bool) : Rp K H (.bl b) (.bl b)
  | int (i : Int) : Rp K H (.int i) (.int i)
  | str (x : Str) : Rp K H (.str x) (.str x)
  | ty (n : String) : Rp K H (.ty n) (.ty n)
  | cls (a : Addr) : Rp K H (.ref a) (.cls a)
  | scr {a : Addr} {ns : List Int} : SqL K H a (ns.map V.int) → Rp K H (.ref a) (.scr ns)
  | lst {a : Addr} {vs : List V} {ds : List D} : H a = some (.lst vs) → Rps K H vs ds → Rp K H (.ref a) (.lst ds)
  | tup {a : Addr} {vs : List V} {ds : List D} : SqT K H a vs → Rps K H vs ds → Rp K H (.ref a) (.tup ds)
  | dct {a : Addr} {kvs : List (Key × V)} {ds : List (Key × D)} : Rd H a (.dK kvs) → Rpk K H kvs ds → Rp K H (.ref a) (.dct ds)
  | obj {a C dx : Addr} {fs : List (Str × V)} {ds : List (Str × D)} : H a = some (.ins C dx fs) → Rpf K H fs ds → Rp K H (.ref a) (.obj C ds)
  | exn {a C dd : Addr} {fs : List (Str × V)} {ds : List (Str × D)} : H dd = some (.xd fs) → Rpf K H fs ds → Rp K H (.ref a) (.exn a C dd ds)
inductive Rps (K : PySem.W.Frag) (H : Hp) : List V → List D → Prop
  | nil : Rps K H [] []
  | cons {v : V} {vs : List V} {d : D} {ds : List D} : Rp K H v d → Rps K H vs ds → Rps K H (v :: vs) (d :: ds)
inductive Rpk (K : PySem.W.Frag) (H : Hp) : List (Key × V) → List (Key × D) → Prop
  | nil : Rpk K H [] []
  | cons {k : Key} {v : V} {vs : List (Key × V)} {d : D} {ds : List (Key × D)} : Rp K H v d → Rpk K H vs ds → Rpk K H ((k, v) :: vs) ((k, d) :: ds)
inductive Rpf (K : PySem.W.Frag) (H : Hp) : List (Str × V) → List (Str × D) → Prop
  | nil : Rpf K H [] []
  | cons {k : Str} {v : V} {vs : List (Str × V)} {d : D} {ds : List (Str × D)} : Rp K H v d → Rpf K H vs ds → Rpf K H ((k, v) :: vs) ((k, d) :: ds)
end
/-- without its lock -/
def core : HO → HO
  | .frz _ (.dK kvs) => .dK kvs
  | o => o
/-- the same, but for locks of dicts -/
def Lc (H H' : Hp) : Prop := ∀ b o, H b = some o → ∃ o', H' b = some o' ∧ core o' = core o
theorem Lc.refl (H : Hp) : Lc H H := fun _ o h => ⟨o, h, rfl⟩
theorem Lc.trans {H H1 H2 : Hp} (a : Lc H H1) (b : Lc H1 H2) : Lc H H2 := fun c o h => by
  obtain ⟨o1, h1, e1⟩ := a c o h
  obtain ⟨o2, h2, e2⟩ := b c o1 h1
  exact ⟨o2, h2, e2.trans e1⟩
theorem Lc.of {H H' : Hp} (s : Same H H') : Lc H H' := fun _ o h => ⟨o, s _ _ h, rfl⟩
theorem Lc.free {H H' : Hp} (e : Lc H H') {l : Addr} (h : H' l = none) : H l = none := by
  cases q : H l with
  | none => rfl
  | some o =>
    obtain ⟨o', h', _⟩ := e l o q
    rw [h'] at h
    cases h
theorem core_lst {o : HO} {xs : List V} (h : core o = .lst xs) : o = .lst xs := by
  unfold core at h
  split at h
  · cases h
  · exact h
theorem core_tup {o : HO} {xs : List V} (h : core o = .tup xs) : o = .tup xs := by
  unfold core at h
  split at h
  · cases h
  · exact h
theorem core_ins {o : HO} {C dx : Addr} {fs : List (Str × V)} (h : core o = .ins C dx fs) : o = .ins C dx fs := by
  unfold core at h
  split at h
  · cases h
  · exact h
theorem core_xd {o : HO} {fs : List (Str × V)} (h : core o = .xd fs) : o = .xd fs := by
  unfold core at h
  split at h
  · cases h
  · exact h
theorem core_frzL {o : HO} {ob : Obj} {u : HO} (hu : ∀ kvs, u ≠ .dK kvs) (h : core o = .frz ob u) : o = .frz ob u := by
  unfold core at h
  split at h
  · cases h
  · exact h
theorem core_dK {o : HO} {kvs : List (Key × V)} (h : core o = .dK kvs) : o = .dK kvs ∨ ∃ ob, o = .frz ob (.dK kvs) := by
  unfold core at h
  split at h
  · cases h; exact .inr ⟨_, rfl⟩
  · exact .inl h
theorem Lc.seq {K : PySem.W.Frag} {H H' : Hp} {a : Addr} {xs : List V} (e : Lc H H') (h : SqL K H a xs) : SqL K H' a xs := by
  rcases h with (h | ⟨o, h⟩) | h
  · obtain ⟨o', h', c⟩ := e _ _ h
    rw [core_lst c] at h'
    exact .inl (.inl h')
  · obtain ⟨o', h', c⟩ := e _ _ h
    rw [core_frzL (by intro _ z; cases z) c] at h'
    exact .inl (.inr ⟨o, h'⟩)
  · exact .inr h
theorem Lc.tup {K : PySem.W.Frag} {H H' : Hp} {a : Addr} {xs : List V} (e : Lc H H') (h : SqT K H a xs) : SqT K H' a xs := by
  rcases h with (h | ⟨o, h⟩) | h
  · obtain ⟨o', h', c⟩ := e _ _ h
    rw [core_tup c] at h'
    exact .inl (.inl h')
  · obtain ⟨o', h', c⟩ := e _ _ h
    rw [core_frzL (by intro _ z; cases z) c] at h'
    exact .inl (.inr ⟨o, h'⟩)
  · exact .inr h
theorem Lc.dK {H H' : Hp} {a : Addr} {kvs : List (Key × V)} (e : Lc H H') (h : Rd H a (.dK kvs)) : Rd H' a (.dK kvs) := by
  have k : ∃ o, H a = some o ∧ core o = .dK kvs := by
    rcases h with h | ⟨o, h⟩
    · exact ⟨_, h, rfl⟩
    · exact ⟨_, h, rfl⟩
  obtain ⟨o, h, c⟩ := k
  obtain ⟨o', h', c'⟩ := e _ _ h
  rcases core_dK (c'.trans c) with r | ⟨ob, r⟩
  · rw [r] at h'; exact .inl h'
  · rw [r] at h'; exact .inr ⟨ob, h'⟩
theorem Lc.lst {H H' : Hp} {a : Addr} {xs : List V} (e : Lc H H') (h : H a = some (.lst xs)) : H' a = some (.lst xs) := by
  obtain ⟨o', h', c⟩ := e _ _ h
  rw [core_lst c] at h'
  exact h'
theorem Lc.ins {H H' : Hp} {a C dx : Addr} {fs : List (Str × V)} (e : Lc H H') (h : H a = some (.ins C dx fs)) : H' a = some (.ins C dx fs) := by
  obtain ⟨o', h', c⟩ := e _ _ h
  rw [core_ins c] at h'
  exact h'
theorem Lc.xd {H H' : Hp} {a : Addr} {fs : List (Str × V)} (e : Lc H H') (h : H a = some (.xd fs)) : H' a = some (.xd fs) := by
  obtain ⟨o', h', c⟩ := e _ _ h
  rw [core_xd c] at h'
  exact h'
mutual
theorem Rp.lc {K : PySem.W.Frag} {H H' : Hp} (e : Lc H H') : ∀ {v : V} {d : D}, Rp K H v d → Rp K H' v d
  | _, _, .non => .non
  | _, _, .bl b => .bl b
  | _, _, .int i => .int i
  | _, _, .str x => .str x
  | _, _, .ty n => .ty n
  | _, _, .cls a => .cls a
  | _, _, .scr h1 => .scr (e.seq h1)
  | _, _, .lst h1 h2 => .lst (e.lst h1) (Rps.lc e h2)
  | _, _, .tup h1 h2 => .tup (e.tup h1) (Rps.lc e h2)
  | _, _, .dct h1 h2 => .dct (e.dK h1) (Rpk.lc e h2)
  | _, _, .obj h1 h2 => .obj (e.ins h1) (Rpf.lc e h2)
  | _, _, .exn h1 h2 => .exn (e.xd h1) (Rpf.lc e h2)
theorem Rps.lc {K : PySem.W.Frag} {H H' : Hp} (e : Lc H H') : ∀ {v : List V} {d : List D}, Rps K H v d → Rps K H' v d
  | _, _, .nil => .nil
  | _, _, .cons h1 h2 => .cons (Rp.lc e h1) (Rps.lc e h2)
theorem Rpk.lc {K : PySem.W.Frag} {H H' : Hp} (e : Lc H H') : ∀ {v : List (Key × V)} {d : List (Key × D)}, Rpk K H v d → Rpk K H' v d
  | _, _, .nil => .nil
  | _, _, .cons h1 h2 => .cons (Rp.lc e h1) (Rpk.lc e h2)
theorem Rpf.lc {K : PySem.W.Frag} {H H' : Hp} (e : Lc H H') : ∀ {v : List (Str × V)} {d : List (Str × D)}, Rpf K H v d → Rpf K H' v d
  | _, _, .nil => .nil
  | _, _, .cons h1 h2 => .cons (Rp.lc e h1) (Rpf.lc e h2)
end
theorem Rps.length {K : PySem.W.Frag} {H : Hp} : ∀ {v : List V} {d : List D}, Rps K H v d → v.length = d.length
  | _, _, .nil => rfl
  | _, _, .cons _ h => congrArg (· + 1) (Rps.length h)
theorem Rpk.length {K : PySem.W.Frag} {H : Hp} : ∀ {v : List (Key × V)} {d : List (Key × D)}, Rpk K H v d → v.length = d.length
  | _, _, .nil => rfl
  | _, _, .cons _ h => congrArg (· + 1) (Rpk.length h)
theorem Rps.append {K : PySem.W.Frag} {H : Hp} : ∀ {v v' : List V} {d d' : List D}, Rps K H v d → Rps K H v' d' → Rps K H (v ++ v') (d ++ d')
  | _, _, _, _, .nil, h => h
  | _, _, _, _, .cons h1 h2, h => .cons h1 (Rps.append h2 h)
theorem Rps.at {K : PySem.W.Frag} {H : Hp} : ∀ {v : List V} {d : List D} {i : Nat} {x : D}, Rps K H v d → d[i]? = some x → ∃ y, v[i]? = some y ∧ Rp K H y x
  | _, _, _, _, .nil, e => by simp at e
  | _, _, 0, _, .cons h _, e => by simp at e; subst e; exact ⟨_, rfl, h⟩
  | _, _, i + 1, x, .cons _ h, e => by
    obtain ⟨y, h1, h2⟩ := Rps.at (i := i) (x := x) h (by simpa using e)
    exact ⟨y, by simpa using h1, h2⟩
/-- without the objects at A -/
def hidL (H : Hp) (A : List Addr) : Hp := fun c => if c ∈ A then none else H c
theorem hidL_in {H : Hp} {A : List Addr} {c : Addr} (h : c ∈ A) : hidL H A c = none := if_pos h
theorem hidL_out {H : Hp} {A : List Addr} {c : Addr} (h : c ∉ A) : hidL H A c = H c := if_neg h
theorem hidL_some {H : Hp} {A : List Addr} {c : Addr} {o : HO} (h : hidL H A c = some o) : c ∉ A ∧ H c = some o := by
  by_cases e : c ∈ A
  · rw [hidL_in e] at h; cases h
  · rw [hidL_out e] at h; exact ⟨e, h⟩
/-- the same, but that dicts may be locked now -/
def Le (H H' : Hp) : Prop := ∀ b o, H b = some o → H' b = some o ∨ ∃ ob kvs, o = .dK kvs ∧ H' b = some (.frz ob (.dK kvs))
theorem Le.lc {H H' : Hp} (e : Le H H') : Lc H H' := fun b o h => by
  rcases e b o h with q | ⟨ob, kvs, rfl, q⟩
  · exact ⟨o, q, rfl⟩
  · exact ⟨_, q, rfl⟩
theorem Le.refl (H : Hp) : Le H H := fun _ o h => .inl h
theorem Le.of {H H' : Hp} (s : Same H H') : Le H H' := fun _ o h => .inl (s _ _ h)
theorem Le.trans {H H1 H2 : Hp} (a : Le H H1) (b : Le H1 H2) : Le H H2 := fun c o h => by
  rcases a c o h with q | ⟨ob, kvs, rfl, q⟩
  · exact b c o q
  · rcases b c _ q with r | ⟨ob', kvs', e, r⟩
    · exact .inr ⟨ob, kvs, rfl, r⟩
    · cases e
theorem Le.free {H H' : Hp} (e : Le H H') {l : Addr} (h : H' l = none) : H l = none := e.lc.free h
theorem Rp.le {K : PySem.W.Frag} {H H' : Hp} {v : V} {d : D} (r : Rp K H v d) (e : Le H H') : Rp K H' v d := Rp.lc e.lc r
theorem Rps.le {K : PySem.W.Frag} {H H' : Hp} {v : List V} {d : List D} (r : Rps K H v d) (e : Le H H') : Rps K H' v d := Rps.lc e.lc r
theorem Rpk.le {K : PySem.W.Frag} {H H' : Hp} {v : List (Key × V)} {d : List (Key × D)} (r : Rpk K H v d) (e : Le H H') : Rpk K H' v d := Rpk.lc e.lc r
theorem Rpf.le {K : PySem.W.Frag} {H H' : Hp} {v : List (Str × V)} {d : List (Str × D)} (r : Rpf K H v d) (e : Le H H') : Rpf K H' v d := Rpf.lc e.lc r
theorem hidL_le {H : Hp} {A : List Addr} : Le (hidL H A) H := fun _ o h => .inl (hidL_some h).2
theorem hidL_nil {H : Hp} : hidL H [] = H := by funext c; exact hidL_out (by simp)
theorem Le.hid {H H' : Hp} {A B : List Addr} (e : Le (hidL H A) (hidL H' A)) (s : ∀ a ∈ A, a ∈ B) : Le (hidL H B) (hidL H' B) := fun c o h => by
  obtain ⟨n, h⟩ := hidL_some h
  rcases e c o (by rw [hidL_out (fun q => n (s c q))]; exact h) with q | ⟨ob, kvs, r, q⟩
  · exact .inl (by rw [hidL_out n]; exact (hidL_some q).2)
  · exact .inr ⟨ob, kvs, r, by rw [hidL_out n]; exact (hidL_some q).2⟩
theorem Le.hide {H H' : Hp} {A : List Addr} (e : Le H H') : Le (hidL H A) (hidL H' A) := fun c o h => by
  obtain ⟨n, h⟩ := hidL_some h
  rcases e c o h with q | ⟨ob, kvs, r, q⟩
  · exact .inl (by rw [hidL_out n]; exact q)
  · exact .inr ⟨ob, kvs, r, by rw [hidL_out n]; exact q⟩
/-- less is hidden -/
theorem Le.less {H : Hp} {A B : List Addr} (s : ∀ a ∈ B, a ∈ A) : Le (hidL H A) (hidL H B) := fun c o h => by
  obtain ⟨n, h⟩ := hidL_some h
  exact .inl (by rw [hidL_out (fun q => n (s c q))]; exact h)
/-- a new object outside of what is hidden -/
theorem Le.new {H : Hp} {A : List Addr} {p : Addr} {o : HO} (np : H p = none) : Le (hidL H A) (hidL (upd H p o) A) := (Le.of (same_new np)).hide
end Dv
set_option Elab.async false
set_option linter.all false
set_option maxRecDepth 100000
set_option maxHeartbeats 4000000
/-! Dv2: slots of data beside the slots of values. O: the slots whose list or dict the def alone holds. -/
namespace Dv
open PySem PySem.Spec PyProof.Rows L2 Eu
abbrev Sl := List (Option D)
def adrOf : Option (Option V) → Option Addr
  | some (some (.ref a)) => some a
  | _ => none
def oA (σ : L2.St) (O : List Nat) : List Addr := O.filterMap fun i => adrOf σ[i]?
theorem adrOf_some {x : Option (Option V)} {a : Addr} (h : adrOf x = some a) : x = some (some (.ref a)) := by
  unfold adrOf at h
  split at h
  · cases h; rfl
  · cases h
theorem mem_oA {σ : L2.St} {O : List Nat} {a : Addr} : a ∈ oA σ O ↔ ∃ i ∈ O, σ[i]? = some (some (.ref a)) := by
  unfold oA
  rw [List.mem_filterMap]
  constructor
  · rintro ⟨i, hi, e⟩
    exact ⟨i, hi, adrOf_some e⟩
  · rintro ⟨i, hi, e⟩
    exact ⟨i, hi, by rw [e]; rfl⟩
theorem oA_nil {σ : L2.St} : oA σ [] = [] := rfl
/-- what an owned slot holds -/
def Own (K : PySem.W.Frag) (Hh H : Hp) (a : Addr) : D → Prop
  | .lst ds => ∃ vs, H a = some (.lst vs) ∧ Rps K Hh vs ds
  | .dct ds => ∃ kvs, H a = some (.dK kvs) ∧ Rpk K Hh kvs ds
  | .bag m => Bag H a m
  | .obj C ds => ∃ dx fs, H a = some (.ins C dx fs) ∧ Rpf K Hh fs ds
  | _ => False
theorem Own.some {K : PySem.W.Frag} {Hh H : Hp} {a : Addr} {d : D} (h : Own K Hh H a d) : H a ≠ none := by
  cases d <;> first | exact False.elim h | skip
  · obtain ⟨_, e, _⟩ := h; rw [e]; exact fun z => nomatch z
  · obtain ⟨_, e, _⟩ := h; rw [e]; exact fun z => nomatch z
  · obtain ⟨_, _, e, _⟩ := h; rw [e]; exact fun z => nomatch z
  · obtain ⟨_, _, _, e, _⟩ := h; rw [e]; exact fun z => nomatch z
theorem Own.mono {K : PySem.W.Frag} {Hh Hh' H H' : Hp} {a : Addr} {d : D} (h : Own K Hh H a d) (e : H' a = H a) (l : Le Hh Hh') : Own K Hh' H' a d := by
  cases d <;> first | exact False.elim h | skip
  · obtain ⟨vs, e1, r⟩ := h; exact ⟨vs, e.trans e1, r.le l⟩
  · obtain ⟨vs, e1, r⟩ := h; exact ⟨vs, e.trans e1, r.le l⟩
  · obtain ⟨dx, fs, e1, r⟩ := h; exact ⟨dx, fs, e.trans e1, r.le l⟩
  · obtain ⟨x, y, z, e1, r⟩ := h; exact ⟨x, y, z, e.trans e1, r⟩
/-- it may be read as a value once it is not owned any more -/
theorem Own.rp {K : PySem.W.Frag} {Hh H H' : Hp} {a : Addr} {d : D} (h : Own K Hh H a d) (nb : ∀ m, d ≠ .bag m) (e : H' a = H a) (l : Le Hh H') : Rp K H' (.ref a) d := by
  cases d <;> first | exact False.elim h | skip
  · obtain ⟨vs, e1, r⟩ := h; exact .lst (e.trans e1) (r.le l)
  · obtain ⟨vs, e1, r⟩ := h; exact .dct (.inl (e.trans e1)) (r.le l)
  · obtain ⟨dx, fs, e1, r⟩ := h; exact .obj (e.trans e1) (r.le l)
  · exact absurd rfl (nb _)
/-- hidden things, as they stand -/
abbrev Zs := List (Addr × HO)
def zA (Z : Zs) : List Addr := Z.map (·.1)
abbrev hO (H : Hp) (σ : L2.St) (O : List Nat) (Z : Zs) : Hp := hidL H (oA σ O ++ zA Z)
/-- the first heap, and the slots whose address is fixed -/
structure Bs where
  hp : Hp
  ad : List (Nat × Addr)
theorem hO_out {H : Hp} {σ : L2.St} {O : List Nat} {Z : Zs} {c : Addr} (h : c ∉ oA σ O ++ zA Z) : hO H σ O Z c = H c := hidL_out h
structure En (K : PySem.W.Frag) (B : Bs) (Z : Zs) (O : List Nat) (σ : L2.St) (H : Hp) (Γ : Sl) : Prop where
  len : σ.length = Γ.length
  val : ∀ i d, i ∉ O → Γ[i]? = some (some d) → ∃ v, σ[i]? = some (some v) ∧ Rp K (hO H σ O Z) v d
  own : ∀ i ∈ O, ∃ a d, σ[i]? = some (some (.ref a)) ∧ Γ[i]? = some (some d) ∧ Own K (hO H σ O Z) H a d
  ne : ∀ i ∈ O, ∀ j ∈ O, i ≠ j → ∀ a, σ[i]? = some (some (.ref a)) → σ[j]? ≠ some (some (.ref a))
  zs : ∀ p ∈ Z, H p.1 = some p.2
  zo : ∀ p ∈ Z, p.1 ∉ oA σ O
  bs : Le B.hp (hO H σ O Z)
  ad : ∀ p ∈ B.ad, σ[p.1]? = some (some (.ref p.2))
section
variable {K : PySem.W.Frag} {B : Bs} {Z : Zs} {O : List Nat} {σ : L2.St} {H H' : Hp} {Γ Γ' : Sl}
theorem En.oa (e : En K B Z O σ H Γ) {a : Addr} (h : a ∈ oA σ O) : H a ≠ none := by
  obtain ⟨i, hi, q⟩ := mem_oA.mp h
  obtain ⟨b, d, q1, _, w⟩ := e.own i hi
  rw [q] at q1
  cases q1
  exact w.some
theorem En.live (e : En K B Z O σ H Γ) {a : Addr} (h : a ∈ oA σ O ++ zA Z) : H a ≠ none := by
  rcases List.mem_append.mp h with h | h
  · exact e.oa h
  · obtain ⟨p, hp, rfl⟩ := List.mem_map.mp h
    rw [e.zs p hp]
    exact fun z => nomatch z
theorem En.fresh (e : En K B Z O σ H Γ) {p : Addr} (np : H p = none) : p ∉ oA σ O ++ zA Z := fun h => e.live h np
theorem En.same (e : En K B Z O σ H Γ) (s : Same H H') : En K B Z O σ H' Γ := by
  have l : Le (hO H σ O Z) (hO H' σ O Z) := (Le.of s).hide
  refine ⟨e.len, fun i d hi q => ?_, fun i hi => ?_, e.ne, fun p hp => s _ _ (e.zs p hp), e.zo, e.bs.trans l, e.ad⟩
  · obtain ⟨v, h1, h2⟩ := e.val i d hi q
    exact ⟨v, h1, h2.le l⟩
  · obtain ⟨a, d, h1, h2, h3⟩ := e.own i hi
    refine ⟨a, d, h1, h2, h3.mono ?_ l⟩
    cases q : H a with
    | none => exact absurd q h3.some
    | some o => exact s _ _ q
/-- the first heap may be less -/
theorem En.base {B' : Bs} (e : En K B Z O σ H Γ) (h : Le B'.hp B.hp) (ha : ∀ p ∈ B'.ad, p ∈ B.ad) : En K B' Z O σ H Γ := ⟨e.len, e.val, e.own, e.ne, e.zs, e.zo, h.trans e.bs, fun p hp => e.ad p (ha p hp)⟩
/-- the state itself as the first heap -/
theorem En.self (e : En K B Z O σ H Γ) : En K ⟨hO H σ O Z, B.ad⟩ Z O σ H Γ := ⟨e.len, e.val, e.own, e.ne, e.zs, e.zo, Le.refl _, e.ad⟩
theorem En.back {O' : List Nat} {σ' : L2.St} (e : En K B Z O σ H Γ) (e' : En K ⟨hO H σ O Z, B.ad⟩ Z O' σ' H' Γ') : En K B Z O' σ' H' Γ' := e'.base e.bs fun _ h => h
theorem En.le {O' : List Nat} {σ' : L2.St} {ad : List (Nat × Addr)} (e' : En K ⟨hO H σ O Z, ad⟩ Z O' σ' H' Γ') : Le (hO H σ O Z) (hO H' σ' O' Z) := e'.bs
theorem oA_set {i : Nat} {v : Option V} (hi : i ∉ O) : oA (σ.set i v) O = oA σ O := by
  unfold oA
  induction O with
  | nil => rfl
  | cons j O ih =>
    have h1 : i ≠ j := fun z => hi (z ▸ List.mem_cons_self)
    rw [List.filterMap_cons, List.filterMap_cons, List.getElem?_set_ne h1, ih fun z => hi (List.mem_cons_of_mem _ z)]
theorem hO_set {i : Nat} {v : Option V} (hi : i ∉ O) : hO H (σ.set i v) O Z = hO H σ O Z := by unfold hO; rw [oA_set hi]
/-- a value is stored -/
theorem En.set (e : En K B Z O σ H Γ) {i : Nat} {v : V} {d : D} (hi : i ∉ O) (hb : ∀ p ∈ B.ad, p.1 ≠ i) (r : Rp K (hO H σ O Z) v d) : En K B Z O (σ.set i (some v)) H (Γ.set i (some d)) := by
  have q : oA (σ.set i (some v)) O = oA σ O := oA_set hi
  have q' : hO H (σ.set i (some v)) O Z = hO H σ O Z := hO_set hi
  refine ⟨by simp [e.len], fun j x hj hx => ?_, fun j hj => ?_, fun j hj k hk n a h => ?_, e.zs, ?_, ?_, fun p hp => by rw [List.getElem?_set_ne (Ne.symm (hb p hp))]; exact e.ad p hp⟩
  · rw [q']
    by_cases h : i = j
    · subst h
      by_cases hl : i < Γ.length
      · rw [List.getElem?_set_self hl] at hx
        cases hx
        exact ⟨v, List.getElem?_set_self (by rw [e.len]; exact hl), r⟩
      · rw [List.getElem?_eq_none (by rw [List.length_set]; omega)] at hx
        cases hx
    · rw [List.getElem?_set_ne h] at hx ⊢
      exact e.val j x hj hx
  · have h : i ≠ j := fun z => hi (z ▸ hj)
    rw [q', List.getElem?_set_ne h, List.getElem?_set_ne h]
    exact e.own j hj
  · have h1 : i ≠ j := fun z => hi (z ▸ hj)
    have h2 : i ≠ k := fun z => hi (z ▸ hk)
    rw [List.getElem?_set_ne h1] at h
    rw [List.getElem?_set_ne h2]
    exact e.ne j hj k hk n a h
  · rw [q]; exact e.zo
  · rw [q']; exact e.bs
/-- a slot is forgotten -/
theorem En.drop (e : En K B Z O σ H Γ) {i : Nat} (hi : i ∉ O) (hb : ∀ p ∈ B.ad, p.1 ≠ i) : En K B Z O (σ.set i none) H (Γ.set i none) := by
  have q : oA (σ.set i none) O = oA σ O := oA_set hi
  have q' : hO H (σ.set i none) O Z = hO H σ O Z := hO_set hi
  refine ⟨by simp [e.len], fun j x hj hx => ?_, fun j hj => ?_, fun j hj k hk n a h => ?_, e.zs, ?_, ?_, fun p hp => by rw [List.getElem?_set_ne (Ne.symm (hb p hp))]; exact e.ad p hp⟩
  · rw [q']
    by_cases h : i = j
    · subst h
      by_cases hl : i < Γ.length
      · rw [List.getElem?_set_self hl] at hx
        cases hx
      · rw [List.getElem?_eq_none (by rw [List.length_set]; omega)] at hx
        cases hx
    · rw [List.getElem?_set_ne h] at hx ⊢
      exact e.val j x hj hx
  · have h : i ≠ j := fun z => hi (z ▸ hj)
    rw [q', List.getElem?_set_ne h, List.getElem?_set_ne h]
    exact e.own j hj
  · have h1 : i ≠ j := fun z => hi (z ▸ hj)
    have h2 : i ≠ k := fun z => hi (z ▸ hk)
    rw [List.getElem?_set_ne h1] at h
    rw [List.getElem?_set_ne h2]
    exact e.ne j hj k hk n a h
  · rw [q]; exact e.zo
  · rw [q']; exact e.bs
/-- fewer slots are known -/
theorem En.weak (e : En K B Z O σ H Γ) (hl : Γ'.length = Γ.length) (h : ∀ i d, i ∉ O → Γ'[i]? = some (some d) → Γ[i]? = some (some d)) (ho : ∀ i ∈ O, Γ'[i]? = Γ[i]?) : En K B Z O σ H Γ' :=
  ⟨e.len.trans hl.symm, fun i d hi q => e.val i d hi (h i d hi q), fun i hi => by rw [ho i hi]; exact e.own i hi, e.ne, e.zs, e.zo, e.bs, e.ad⟩
/-- an owned slot is owned no more -/
theorem En.freeze (e : En K B Z O σ H Γ) {O' : List Nat} (sub : ∀ i ∈ O', i ∈ O) (nb : ∀ i ∈ O, i ∉ O' → ∀ m, Γ[i]? ≠ some (some (.bag m))) : En K B Z O' σ H Γ := by
  have hs : ∀ a ∈ oA σ O', a ∈ oA σ O := fun a h => by
    obtain ⟨i, hi, q⟩ := mem_oA.mp h
    exact mem_oA.mpr ⟨i, sub i hi, q⟩
  have l : Le (hO H σ O Z) (hO H σ O' Z) := fun c o h => by
    obtain ⟨n, h⟩ := hidL_some h
    refine .inl ?_
    rw [hO_out]
    · exact h
    · intro z
      apply n
      rcases List.mem_append.mp z with z | z
      · exact List.mem_append_left _ (hs _ z)
      · exact List.mem_append_right _ z
  refine ⟨e.len, fun i d hi q => ?_, fun i hi => ?_, fun i hi j hj => e.ne i (sub i hi) j (sub j hj), e.zs, fun z hz q => e.zo z hz (hs _ q), e.bs.trans l, e.ad⟩
  · by_cases ho : i ∈ O
    · obtain ⟨a, d', h1, h2, h3⟩ := e.own i ho
      rw [q] at h2
      cases h2
      refine ⟨_, h1, h3.rp (fun m z => nb i ho hi m (by rw [q, z])) ?_ l⟩
      rw [hO_out]
      intro z
      rcases List.mem_append.mp z with z | z
      · obtain ⟨j, hj, q'⟩ := mem_oA.mp z
        exact e.ne i ho j (sub j hj) (fun z => hi (z ▸ hj)) a h1 q'
      · obtain ⟨p, hp, rfl⟩ := List.mem_map.mp z
        exact e.zo p hp (mem_oA.mpr ⟨i, ho, h1⟩)
    · obtain ⟨v, h1, h2⟩ := e.val i d ho q
      exact ⟨v, h1, h2.le l⟩
  · obtain ⟨a, d, h1, h2, h3⟩ := e.own i (sub i hi)
    exact ⟨a, d, h1, h2, h3.mono rfl l⟩
/-- a new list or dict, held by slot i alone -/
theorem En.lay (e : En K B Z O σ H Γ) {i : Nat} {p : Addr} {o : HO} {d : D} {O' : List Nat} (hi : i < Γ.length) (hb : ∀ p ∈ B.ad, p.1 ≠ i) (np : H p = none) (hO' : ∀ j, j ∈ O' ↔ j = i ∨ j ∈ O) (w : Own K (hO H σ O Z) (upd H p o) p d) :
    En K B Z O' (σ.set i (some (.ref p))) (upd H p o) (Γ.set i (some d)) := by
  have hil : i < σ.length := by rw [e.len]; exact hi
  have getn : ∀ {j}, j ≠ i → (σ.set i (some (.ref p)))[j]? = σ[j]? := fun {j} h => List.getElem?_set_ne (Ne.symm h)
  have hp : ∀ {a}, H a ≠ none → a ≠ p := fun {a} h z => h (z ▸ np)
  have fr := e.fresh np
  have l : Le (hO H σ O Z) (hO (upd H p o) (σ.set i (some (.ref p))) O' Z) := fun c x h => by
    obtain ⟨n, h⟩ := hidL_some h
    have hc : c ≠ p := hp (by rw [h]; exact fun z => nomatch z)
    refine .inl ?_
    rw [hO_out, upd_ne hc]
    · exact h
    · intro z
      rcases List.mem_append.mp z with z | z
      · obtain ⟨j, hj, q⟩ := mem_oA.mp z
        by_cases hji : j = i
        · subst hji
          rw [List.getElem?_set_self hil] at q
          cases q
          exact hc rfl
        · rw [getn hji] at q
          rcases (hO' j).mp hj with r | r
          · exact hji r
          · exact n (List.mem_append_left _ (mem_oA.mpr ⟨j, r, q⟩))
      · exact n (List.mem_append_right _ z)
  refine ⟨by simp [e.len], fun j x hj hx => ?_, fun j hj => ?_, fun j hj k hk n a h => ?_, fun z hz => ?_, fun z hz q => ?_, e.bs.trans l, fun p hp => by rw [List.getElem?_set_ne (Ne.symm (hb p hp))]; exact e.ad p hp⟩
  · have hji : j ≠ i := fun z => hj ((hO' j).mpr (.inl z))
    have hjO : j ∉ O := fun z => hj ((hO' j).mpr (.inr z))
    rw [List.getElem?_set_ne (Ne.symm hji)] at hx
    obtain ⟨v, h1, h2⟩ := e.val j x hjO hx
    exact ⟨v, by rw [getn hji]; exact h1, h2.le l⟩
  · by_cases hji : j = i
    · subst hji
      exact ⟨p, d, List.getElem?_set_self hil, List.getElem?_set_self hi, w.mono rfl l⟩
    · rcases (hO' j).mp hj with r | r
      · exact absurd r hji
      · obtain ⟨a, x, h1, h2, h3⟩ := e.own j r
        exact ⟨a, x, by rw [getn hji]; exact h1, by rw [List.getElem?_set_ne (Ne.symm hji)]; exact h2, h3.mono (upd_ne (hp h3.some)) l⟩
  · have old : ∀ {q b}, q ∈ O → σ[q]? = some (some (.ref b)) → b ≠ p := fun {q b} hq hb => hp (e.oa (mem_oA.mpr ⟨q, hq, hb⟩))
    by_cases h1 : j = i
    · subst h1
      rw [List.getElem?_set_self hil] at h
      cases h
      rw [getn (Ne.symm n)]
      intro z
      rcases (hO' k).mp hk with r | r
      · exact n r.symm
      · exact old r z rfl
    · rw [getn h1] at h
      rcases (hO' j).mp hj with r | r
      · exact absurd r h1
      by_cases h2 : k = i
      · subst h2
        rw [List.getElem?_set_self hil]
        intro z
        cases z
        exact old r h rfl
      · rw [getn h2]
        rcases (hO' k).mp hk with r2 | r2
        · exact absurd r2 h2
        · exact e.ne j r k r2 n a h
  · have hz' := e.zs z hz
    rw [upd_ne (hp (by rw [hz']; exact fun z => nomatch z))]
    exact hz'
  · obtain ⟨j, hj, q⟩ := mem_oA.mp q
    by_cases hji : j = i
    · subst hji
      rw [List.getElem?_set_self hil] at q
      have e1 : z.1 = p := by cases q; rfl
      have := e.zs z hz
      rw [e1, np] at this
      cases this
    · rw [getn hji] at q
      rcases (hO' j).mp hj with r | r
      · exact hji r
      · exact e.zo z hz (mem_oA.mpr ⟨j, r, q⟩)
/-- what an owned slot holds changes -/
theorem En.put (e : En K B Z O σ H Γ) {i : Nat} {a : Addr} {d : D} (hi : i ∈ O) (ha : σ[i]? = some (some (.ref a))) (f : Le (hidL H [a]) (hidL H' [a])) (ow : ∀ b, b ≠ a → b ∈ oA σ O ++ zA Z → H' b = H b) (w : Own K (hO H' σ O Z) H' a d) : En K B Z O σ H' (Γ.set i (some d)) := by
  have hil : i < Γ.length := by rw [← e.len]; exact (List.getElem?_eq_some_iff.mp ha).1
  have ain : a ∈ oA σ O := mem_oA.mpr ⟨i, hi, ha⟩
  have l : Le (hO H σ O Z) (hO H' σ O Z) := Le.hid f fun b hb => by
    rw [List.mem_singleton.mp hb]; exact List.mem_append_left _ ain
  refine ⟨by simp [e.len], fun j x hj hx => ?_, fun j hj => ?_, e.ne, fun z hz => ?_, e.zo, e.bs.trans l, e.ad⟩
  · have hji : j ≠ i := fun z => hj (z ▸ hi)
    rw [List.getElem?_set_ne (Ne.symm hji)] at hx
    obtain ⟨v, h1, h2⟩ := e.val j x hj hx
    exact ⟨v, h1, h2.le l⟩
  · by_cases hji : j = i
    · subst hji
      exact ⟨a, d, ha, List.getElem?_set_self hil, w⟩
    · obtain ⟨b, x, h1, h2, h3⟩ := e.own j hj
      refine ⟨b, x, h1, by rw [List.getElem?_set_ne (Ne.symm hji)]; exact h2, h3.mono (ow b (fun z => ?_) (List.mem_append_left _ (mem_oA.mpr ⟨j, hj, h1⟩))) l⟩
      subst z
      exact e.ne j hj i hi hji b h1 ha
  · have hza : z.1 ≠ a := fun q => e.zo z hz (q ▸ ain)
    rw [ow z.1 hza (List.mem_append_right _ (List.mem_map.mpr ⟨z, hz, rfl⟩))]
    exact e.zs z hz
end
end Dv
set_option Elab.async false
set_option linter.all false
set_option maxRecDepth 100000
set_option maxHeartbeats 4000000
/-! Dv3: readings over data, and the judgements DE (expressions), DT (tests), DA (arguments), DS (statements), DB (blocks). -/
namespace Dv
open PySem PySem.Spec PyProof.Rows L2 Eu
abbrev XD := Addr × List (Str × D)
abbrev UX := XD → Sl → Prop
abbrev UE := Sl → (D → Sl → Prop) → UX → Prop
abbrev UT := Sl → (Bool → Sl → Prop) → UX → Prop
abbrev UA := Sl → (List D → Sl → Prop) → UX → Prop
structure EndsD where
  nx : Sl → Prop
  rt : D → Sl → Prop
  ex : UX
  bk : Sl → Prop := fun _ => False
  ct : Sl → Prop := fun _ => False
abbrev US := EndsD → Sl → Prop
/-- an exception that is wanted of the data is wanted of the heap -/
structure ExO (K : PySem.W.Frag) (B : Bs) (Z : Zs) (Ox : List Nat) (W : WX) (Ex : UX) : Prop where
  ad : ∀ p ∈ B.ad, p.1 ∈ Ox
  go : ∀ σ H Γ C fs dd fs', En K B Z Ox σ H Γ → hO H σ Ox Z dd = some (.xd fs') → Rpf K (hO H σ Ox Z) fs' fs → Ex (C, fs) Γ → W (.ref C) (some dd) σ H
theorem ExO.up {K : PySem.W.Frag} {B B' : Bs} {Z : Zs} {Ox : List Nat} {W : WX} {Ex : UX} (h : ExO K B Z Ox W Ex) (l : Le B.hp B'.hp) (ha : B'.ad = B.ad) : ExO K B' Z Ox W Ex :=
  ⟨by rw [ha]; exact h.ad, fun σ H Γ C fs dd fs' e => h.go σ H Γ C fs dd fs' (e.base l fun p hp => by rw [ha]; exact hp)⟩
theorem ExO.at {K : PySem.W.Frag} {B : Bs} {Z : Zs} {O Ox : List Nat} {W : WX} {Ex : UX} {σ : L2.St} {H : Hp} {Γ : Sl} (h : ExO K B Z Ox W Ex) (e : En K B Z O σ H Γ) : ExO K ⟨hO H σ O Z, B.ad⟩ Z Ox W Ex := h.up e.bs rfl
section
variable (K : PySem.W.Frag) (Ox O : List Nat) (W : WX)
def RfE (t : TE) (u : UE) : Prop := ∀ B Z σ H Γ (Q : VK) (Qd : D → Sl → Prop) (Ex : UX), En K B Z O σ H Γ → ExO K B Z Ox W Ex → u Γ Qd Ex →
  (∀ v H' d Γ', En K B Z O σ H' Γ' → Rp K (hO H' σ O Z) v d → Qd d Γ' → Q v H') → t σ H Q
def RfT (t : TT) (u : UT) : Prop := ∀ B Z σ H Γ (Q : Bool → Hp → Prop) (Qd : Bool → Sl → Prop) (Ex : UX), En K B Z O σ H Γ → ExO K B Z Ox W Ex → u Γ Qd Ex →
  (∀ b H' Γ', En K B Z O σ H' Γ' → Qd b Γ' → Q b H') → t σ H Q
def RfA (t : TA) (u : UA) : Prop := ∀ B Z σ H Γ (Q : List V → Hp → Prop) (Qd : List D → Sl → Prop) (Ex : UX), En K B Z O σ H Γ → ExO K B Z Ox W Ex → u Γ Qd Ex →
  (∀ vs H' ds Γ', En K B Z O σ H' Γ' → Rps K (hO H' σ O Z) vs ds → Qd ds Γ' → Q vs H') → t σ H Q
/-- Ol: what is owned at the head of the loop around -/
def RfS (Ol O' : List Nat) (t : TS) (u : US) : Prop := ∀ B Z σ H Γ (D : Ends) (ED : EndsD), (∀ p ∈ B.ad, p.1 ∈ Ox) → En K B Z O σ H Γ → ExO K B Z Ox W ED.ex → u ED Γ →
  (∀ σ' H' Γ', En K B Z O' σ' H' Γ' → ED.nx Γ' → D.nx σ' H') →
  (∀ v σ' H' d Γ', En K B Z Ox σ' H' Γ' → Rp K (hO H' σ' Ox Z) v d → ED.rt d Γ' → D.rt v H') →
  (∀ σ' H' Γ', En K B Z Ol σ' H' Γ' → ED.bk Γ' → D.bk σ' H') →
  (∀ σ' H' Γ', En K B Z Ol σ' H' Γ' → ED.ct Γ' → D.ct σ' H') → t D σ H
end
/-- what leaves the code is taken by W -/
structure Lt (X : Cx) (W : WX) : Prop where
  pass : ∀ σ, PassesAt (L2.CX X.prog X.w) X σ (fun cls d H => W cls d σ H)
  tk : Takes X W
/-- loops let it out -/
abbrev Po (X : Cx) : Prop := PassesOwn (model X.prog X.w) X.A X.env X.xe
structure DE (K : PySem.W.Frag) (Ox O : List Nat) (W : WX) (X : Cx) (e : Expr) (t : TE) (u : UE) : Prop where
  p : Lt X W → PE X e t
  r : RfE K Ox O W t u
structure DT (K : PySem.W.Frag) (Ox O : List Nat) (W : WX) (X : Cx) (e : Expr) (t : TT) (u : UT) : Prop where
  p : Lt X W → PT X e t
  r : RfT K Ox O W t u
structure DW (K : PySem.W.Frag) (Ox O : List Nat) (W : WX) (X : Cx) (e : Expr) (t : TT) (u : UT) : Prop where
  p : Lt X W → PW X e t
  r : RfT K Ox O W t u
structure DA (K : PySem.W.Frag) (Ox O : List Nat) (W : WX) (X : Cx) (es : List Expr) (t : TA) (u : UA) : Prop where
  p : Lt X W → PA X es t
  r : RfA K Ox O W t u
structure DS (K : PySem.W.Frag) (Ox O : List Nat) (W : WX) (Ol O' : List Nat) (X : Cx) (st : Stmt) (t : TS) (u : US) : Prop where
  p : Lt X W → Po X → PS X st t
  r : RfS K Ox O W Ol O' t u
structure DB (K : PySem.W.Frag) (Ox O : List Nat) (W : WX) (Ol O' : List Nat) (X : Cx) (st : List Stmt) (t : TS) (u : US) : Prop where
  p : Lt X W → Po X → PSs X st t
  r : RfS K Ox O W Ol O' t u
section
variable {K : PySem.W.Frag} {Ox O O1 O2 Ol : List Nat} {W : WX} {X : Cx} {a b c : Expr} {ta tb : TE} {ua ub : UE} {pos : Pos}
/-! ### names and constants -/
def uVar (i : Nat) : UE := fun Γ Q _ => ∃ d, Γ[i]? = some (some d) ∧ Q d Γ
def uC (d : D) : UE := fun Γ Q _ => Q d Γ
theorem rf_var {i : Nat} (hi : i ∉ O) : RfE K Ox O W (tVar i) (uVar i) := by
  rintro B Z σ H Γ Q Qd Ex e ex ⟨d, h, q⟩ k
  obtain ⟨v, h1, h2⟩ := e.val i d hi h
  exact ⟨v, h1, k v H d Γ e h2 q⟩
theorem rf_c {v : V} {d : D} (h : ∀ H, Rp K H v d) : RfE K Ox O W (tC v) (uC d) := by
  intro B Z σ H Γ Q Qd Ex e ex q k
  exact k v H d Γ e (h _) q
theorem de_var {i : Nat} {x : Str} (hN : X.N[i]? = some x) (hv : Vis X.env.scope x) (hi : i ∉ O) (hd : (x == ("__debug__" : Str)) = false := by decide) (hcd : (x == ("__classdict__" : Str)) = false := by decide) : DE K Ox O W X (.Name x pos) (tVar i) (uVar i) :=
  ⟨fun g => pe_var hN hv hd hcd, rf_var hi⟩
theorem de_int {i j} : DE K Ox O W X (.Constant (.int i) j pos) (tC (.int i)) (uC (.int i)) := ⟨fun g => pe_int, rf_c fun _ => .int i⟩
theorem de_bl {i j} : DE K Ox O W X (.Constant (.bool i) j pos) (tC (.bl i)) (uC (.bl i)) := ⟨fun g => pe_bl, rf_c fun _ => .bl i⟩
theorem de_non {j} : DE K Ox O W X (.Constant .none j pos) (tC .non) (uC .non) := ⟨fun g => pe_non, rf_c fun _ => .non⟩
theorem de_str {x j} : DE K Ox O W X (.Constant (.str x) j pos) (tC (.str x)) (uC (.str x)) := ⟨fun g => pe_str, rf_c fun _ => .str x⟩
/-! ### operations of two values -/
/-- r of the heap does f of data; A: what is hidden -/
def RfOp (K : PySem.W.Frag) (r : R2) (f : D → D → Option D) : Prop := ∀ A H x y dx dy d (Q : VK), (∀ a ∈ A, H a ≠ none) → Rp K (hidL H A) x dx → Rp K (hidL H A) y dy → f dx dy = some d → (∀ v H', Same H H' → Rp K (hidL H' A) v d → Q v H') → r x y H Q
def uOp (f : D → D → Option D) (ua ub : UE) : UE := fun Γ Q Ex => ua Γ (fun x Γ1 => ub Γ1 (fun y Γ2 => ∃ d, f x y = some d ∧ Q d Γ2) Ex) Ex
theorem rf_op {r : R2} {f : D → D → Option D} (h : RfOp K r f) (ha : RfE K Ox O W ta ua) (hb : RfE K Ox O W tb ub) : RfE K Ox O W (tOp r ta tb) (uOp f ua ub) := by
  intro B Z σ H Γ Q Qd Ex e ex hu k
  refine ha B Z σ H Γ _ _ Ex e ex hu fun x H1 dx Γ1 e1 r1 q1 => ?_
  refine hb _ Z σ H1 Γ1 _ _ Ex e1.self (ex.at e1) q1 fun y H2 dy Γ2 e2 r2 q2 => ?_
  obtain ⟨d, hf, q⟩ := q2
  refine h _ H2 x y dx dy d Q (fun a ha => e2.live ha) (r1.le e2.le) r2 hf fun v H3 s3 r3 => ?_
  exact k v H3 d Γ2 ((e1.back e2).same s3) r3 q
theorem de_op {op : Operator} {r : R2} {f : D → D → Option D} (ho : OpR X (binaryOp op) r) (hf : RfOp K r f) (ha : DE K Ox O W X a ta ua) (hb : DE K Ox O W X b tb ub) : DE K Ox O W X (.BinOp a op b pos) (tOp r ta tb) (uOp f ua ub) :=
  ⟨fun g => pe_op ho (ha.p g) (hb.p g), rf_op hf ha.r hb.r⟩
theorem de_cmp {op : CmpOp} {r : R2} {f : D → D → Option D} (ho : OpR X (compareOp op) r) (hf : RfOp K r f) (ha : DE K Ox O W X a ta ua) (hb : DE K Ox O W X b tb ub) (hm : behindInMarks op b = false) : DE K Ox O W X (.Compare a [op] [b] pos) (tOp r ta tb) (uOp f ua ub) :=
  ⟨fun g => pe_cmpR ho (ha.p g) (hb.p g) hm, rf_op hf ha.r hb.r⟩
/-- a bool as a test -/
def uB (u : UE) : UT := fun Γ Q Ex => u Γ (fun d Γ1 => ∃ b, d = .bl b ∧ Q b Γ1) Ex
theorem rf_b (ha : RfE K Ox O W ta ua) : RfT K Ox O W (L2.tB ta) (uB ua) := by
  intro B Z σ H Γ Q Qd Ex e ex hu k
  refine ha B Z σ H Γ _ _ Ex e ex hu fun x H1 dx Γ1 e1 r1 q1 => ?_
  obtain ⟨b, rfl, q⟩ := q1
  cases r1
  exact ⟨b, rfl, k b H1 Γ1 e1 q⟩
theorem dt_val (h : DE K Ox O W X a ta ua) (he : ∀ whole, isTrue a X.env whole = (do let v ← whole; standAt a.pos; holding [v] (truthy v)) := by intro _; rfl) : DT K Ox O W X a (L2.tB ta) (uB ua) := ⟨fun g => pt_val (h.p g) he, rf_b h.r⟩
theorem dt_cmp {op : CmpOp} {r : R2} {f : D → D → Option D} (ho : OpR X (compareOp op) r) (hf : RfOp K r f) (ha : DE K Ox O W X a ta ua) (hb : DE K Ox O W X b tb ub) (hm : behindInMarks op b = false) : DT K Ox O W X (.Compare a [op] [b] pos) (tTest (tOp r ta tb)) (uB (uOp f ua ub)) :=
  ⟨fun g => pt_cmpR ho (ha.p g) (hb.p g) hm, rf_b (rf_op hf ha.r hb.r)⟩
/-! ### and, or, not -/
variable {tc tc' : TT} {uc uc' : UT} {rest : List Expr}
def uAnd (t u : UT) : UT := fun Γ Q Ex => t Γ (fun c Γ1 => if c = true then u Γ1 Q Ex else Q false Γ1) Ex
def uOr (t u : UT) : UT := fun Γ Q Ex => t Γ (fun c Γ1 => if c = true then Q true Γ1 else u Γ1 Q Ex) Ex
def uNot (t : UT) : UT := fun Γ Q Ex => t Γ (fun c Γ1 => Q (!c) Γ1) Ex
theorem rf_and (ha : RfT K Ox O W tc uc) (hb : RfT K Ox O W tc' uc') : RfT K Ox O W (tAnd tc tc') (uAnd uc uc') := by
  intro B Z σ H Γ Q Qd Ex e ex hu k
  refine ha B Z σ H Γ _ _ Ex e ex hu fun c H1 Γ1 e1 q1 => ?_
  cases c with
  | true =>
    refine hb B Z σ H1 Γ1 Q Qd Ex e1 ex q1 fun c2 H2 Γ2 e2 q2 => k c2 H2 Γ2 e2 q2
  | false => exact k false H1 Γ1 e1 q1
theorem rf_or (ha : RfT K Ox O W tc uc) (hb : RfT K Ox O W tc' uc') : RfT K Ox O W (tOr tc tc') (uOr uc uc') := by
  intro B Z σ H Γ Q Qd Ex e ex hu k
  refine ha B Z σ H Γ _ _ Ex e ex hu fun c H1 Γ1 e1 q1 => ?_
  cases c with
  | false =>
    refine hb B Z σ H1 Γ1 Q Qd Ex e1 ex q1 fun c2 H2 Γ2 e2 q2 => k c2 H2 Γ2 e2 q2
  | true => exact k true H1 Γ1 e1 q1
theorem dw_and1 (ha : DT K Ox O W X a tc uc) : DW K Ox O W X (.BoolOp .And [a] pos) tc uc := ⟨fun g => pw_and1 (ha.p g), ha.r⟩
theorem dw_or1 (ha : DT K Ox O W X a tc uc) : DW K Ox O W X (.BoolOp .Or [a] pos) tc uc := ⟨fun g => pw_or1 (ha.p g), ha.r⟩
theorem dw_and (ha : DT K Ox O W X a tc uc) (hb : DW K Ox O W X (.BoolOp .And (b :: rest) pos) tc' uc') : DW K Ox O W X (.BoolOp .And (a :: b :: rest) pos) (tAnd tc tc') (uAnd uc uc') := ⟨fun g => pw_and (ha.p g) (hb.p g), rf_and ha.r hb.r⟩
theorem dw_or (ha : DT K Ox O W X a tc uc) (hb : DW K Ox O W X (.BoolOp .Or (b :: rest) pos) tc' uc') : DW K Ox O W X (.BoolOp .Or (a :: b :: rest) pos) (tOr tc tc') (uOr uc uc') := ⟨fun g => pw_or (ha.p g) (hb.p g), rf_or ha.r hb.r⟩
theorem dw_t (h : DW K Ox O W X a tc uc) : DT K Ox O W X a tc uc := ⟨fun g => (h.p g).pt, h.r⟩
theorem dt_not (ha : DT K Ox O W X a tc uc) : DT K Ox O W X (.UnaryOp .Not a pos) (tNot tc) (uNot uc) := ⟨fun g => pt_not (ha.p g), by
  intro B Z σ H Γ Q Qd Ex e ex hu k
  exact ha.r B Z σ H Γ _ _ Ex e ex hu fun c H1 Γ1 e1 q1 => k (!c) H1 Γ1 e1 q1⟩
/-- as values (bools) -/
def uAndV (ua ub : UE) : UE := fun Γ Q Ex => ua Γ (fun x Γ1 => ∃ c, x = .bl c ∧ if c = true then ub Γ1 Q Ex else Q (.bl false) Γ1) Ex
def uOrV (ua ub : UE) : UE := fun Γ Q Ex => ua Γ (fun x Γ1 => ∃ c, x = .bl c ∧ if c = true then Q (.bl true) Γ1 else ub Γ1 Q Ex) Ex
def uNotV (ua : UE) : UE := fun Γ Q Ex => ua Γ (fun x Γ1 => ∃ c, x = .bl c ∧ Q (.bl (!c)) Γ1) Ex
theorem de_one {op} (h : DE K Ox O W X a ta ua) : DE K Ox O W X (.BoolOp op [a] pos) ta ua := ⟨fun g => pe_one (h.p g), h.r⟩
theorem de_and (ha : DE K Ox O W X a ta ua) (hb : DE K Ox O W X (.BoolOp .And (b :: rest) pos) tb ub) : DE K Ox O W X (.BoolOp .And (a :: b :: rest) pos) (tAndV ta tb) (uAndV ua ub) := ⟨fun g => pe_and (ha.p g) (hb.p g), by
  intro B Z σ H Γ Q Qd Ex e ex hu k
  refine ha.r B Z σ H Γ _ _ Ex e ex hu fun x H1 dx Γ1 e1 r1 q1 => ?_
  obtain ⟨c, rfl, q1⟩ := q1
  cases r1
  refine ⟨c, rfl, ?_⟩
  cases c with
  | true => exact hb.r B Z σ H1 Γ1 Q Qd Ex e1 ex q1 fun v H2 d Γ2 e2 r2 q2 => k v H2 d Γ2 e2 r2 q2
  | false => exact k _ H1 _ Γ1 e1 (.bl false) q1⟩
theorem de_or (ha : DE K Ox O W X a ta ua) (hb : DE K Ox O W X (.BoolOp .Or (b :: rest) pos) tb ub) : DE K Ox O W X (.BoolOp .Or (a :: b :: rest) pos) (tOrV ta tb) (uOrV ua ub) := ⟨fun g => pe_or (ha.p g) (hb.p g), by
  intro B Z σ H Γ Q Qd Ex e ex hu k
  refine ha.r B Z σ H Γ _ _ Ex e ex hu fun x H1 dx Γ1 e1 r1 q1 => ?_
  obtain ⟨c, rfl, q1⟩ := q1
  cases r1
  refine ⟨c, rfl, ?_⟩
  cases c with
  | false => exact hb.r B Z σ H1 Γ1 Q Qd Ex e1 ex q1 fun v H2 d Γ2 e2 r2 q2 => k v H2 d Γ2 e2 r2 q2
  | true => exact k _ H1 _ Γ1 e1 (.bl true) q1⟩
theorem de_not (ha : DE K Ox O W X a ta ua) : DE K Ox O W X (.UnaryOp .Not a pos) (tNotV ta) (uNotV ua) := ⟨fun g => pe_not (ha.p g), by
  intro B Z σ H Γ Q Qd Ex e ex hu k
  refine ha.r B Z σ H Γ _ _ Ex e ex hu fun x H1 dx Γ1 e1 r1 q1 => ?_
  obtain ⟨c, rfl, q1⟩ := q1
  cases r1
  exact ⟨c, rfl, k _ H1 _ Γ1 e1 (.bl _) q1⟩⟩
def uIf (t : UT) (ua ub : UE) : UE := fun Γ Q Ex => t Γ (fun c Γ1 => if c = true then ua Γ1 Q Ex else ub Γ1 Q Ex) Ex
theorem de_if (hc : DT K Ox O W X c tc uc) (ha : DE K Ox O W X a ta ua) (hb : DE K Ox O W X b tb ub) : DE K Ox O W X (.IfExp c a b pos) (tIf tc ta tb) (uIf uc ua ub) := ⟨fun g => pe_ifExp (hc.p g) (ha.p g) (hb.p g), by
  intro B Z σ H Γ Q Qd Ex e ex hu k
  refine hc.r B Z σ H Γ _ _ Ex e ex hu fun c H1 Γ1 e1 q1 => ?_
  cases c with
  | true => exact ha.r B Z σ H1 Γ1 Q Qd Ex e1 ex q1 fun v H2 d Γ2 e2 r2 q2 => k v H2 d Γ2 e2 r2 q2
  | false => exact hb.r B Z σ H1 Γ1 Q Qd Ex e1 ex q1 fun v H2 d Γ2 e2 r2 q2 => k v H2 d Γ2 e2 r2 q2⟩
/-! ### argument lists, displays -/
variable {es : List Expr} {tr : TA} {ur : UA}
def uNil : UA := fun Γ Q _ => Q [] Γ
def uCons (ua : UE) (ur : UA) : UA := fun Γ Q Ex => ua Γ (fun d Γ1 => ur Γ1 (fun ds Γ2 => Q (d :: ds) Γ2) Ex) Ex
theorem da_nil : DA K Ox O W X [] tNil uNil := ⟨fun g => pa_nil, fun B Z σ H Γ Q Qd Ex e ex hu k => k [] H [] Γ e .nil hu⟩
theorem da_cons (ha : DE K Ox O W X a ta ua) (hr : DA K Ox O W X es tr ur) (hs : starEach (a :: es) X.env = (false, eval a X.env) :: starEach es X.env := by rfl) : DA K Ox O W X (a :: es) (tCons ta tr) (uCons ua ur) := ⟨fun g => pa_cons (ha.p g) (hr.p g) hs, by
  intro B Z σ H Γ Q Qd Ex e ex hu k
  refine ha.r B Z σ H Γ _ _ Ex e ex hu fun x H1 dx Γ1 e1 r1 q1 => ?_
  refine hr.r _ Z σ H1 Γ1 _ _ Ex e1.self (ex.at e1) q1 fun xs H2 ds Γ2 e2 r2 q2 => ?_
  exact k _ H2 _ Γ2 (e1.back e2) (.cons (r1.le e2.le) r2) q2⟩
def uTup (ur : UA) : UE := fun Γ Q Ex => ur Γ (fun ds Γ1 => ds.length ≤ sizeLine ∧ Q (.tup ds) Γ1) Ex
def uLst (ur : UA) : UE := fun Γ Q Ex => ur Γ (fun ds Γ1 => ds.length ≤ sizeLine ∧ Q (.lst ds) Γ1) Ex
theorem de_tup {x1} (h : DA K Ox O W X es tr ur) : DE K Ox O W X (.Tuple es x1 pos) (tTup tr) (uTup ur) := ⟨fun g => pe_tup (h.p g), by
  intro B Z σ H Γ Q Qd Ex e ex hu k
  refine h.r B Z σ H Γ _ _ Ex e ex hu fun xs H1 ds Γ1 e1 r1 q1 => ⟨by rw [r1.length]; exact q1.1, fun p np => ?_⟩
  refine k _ _ _ Γ1 (e1.same (same_new np)) (.tup (.inl (.inl ?_)) (r1.le (Le.new np))) q1.2
  rw [hO_out (e1.fresh np), upd_same]⟩
theorem de_lst (h : DA K Ox O W X es tr ur) : DE K Ox O W X (.List es pos) (tLst tr) (uLst ur) := ⟨fun g => pe_lst (h.p g), by
  intro B Z σ H Γ Q Qd Ex e ex hu k
  refine h.r B Z σ H Γ _ _ Ex e ex hu fun xs H1 ds Γ1 e1 r1 q1 => ⟨by rw [r1.length]; exact q1.1, fun p np => ?_⟩
  refine k _ _ _ Γ1 (e1.same (same_new np)) (.lst ?_ (r1.le (Le.new np))) q1.2
  rw [hO_out (e1.fresh np), upd_same]⟩
end
end Dv
set_option Elab.async false
set_option linter.all false
set_option maxRecDepth 100000
set_option maxHeartbeats 4000000
/-! Dv4: statements, loops. -/
namespace Dv
open PySem PySem.Spec PyProof.Rows L2 Eu
/-- the slots of O that are not of Ox are forgotten -/
def cut (Ox : List Nat) : List Nat → Sl → Sl
  | [], Γ => Γ
  | i :: O, Γ => if i ∈ Ox then cut Ox O Γ else (cut Ox O Γ).set i none
theorem cut_len {Ox : List Nat} {Γ : Sl} : ∀ O : List Nat, (cut Ox O Γ).length = Γ.length
  | [] => rfl
  | i :: O => by
    unfold cut
    split
    · exact cut_len O
    · rw [List.length_set]; exact cut_len O
theorem cut_in {Ox : List Nat} {Γ : Sl} {i : Nat} (h : i ∈ Ox) : ∀ O : List Nat, (cut Ox O Γ)[i]? = Γ[i]?
  | [] => rfl
  | j :: O => by
    unfold cut
    split
    · exact cut_in h O
    · rename_i n
      rw [List.getElem?_set_ne (show j ≠ i from fun z => n (by rw [z]; exact h))]
      exact cut_in h O
theorem cut_some {Ox : List Nat} {Γ : Sl} {i : Nat} {d : D} (h : i ∉ Ox) : ∀ O : List Nat, (cut Ox O Γ)[i]? = some (some d) → i ∉ O ∧ Γ[i]? = some (some d)
  | [], e => ⟨by simp, e⟩
  | j :: O, e => by
    unfold cut at e
    split at e
    · rename_i q
      obtain ⟨h1, h2⟩ := cut_some h O e
      refine ⟨fun z => ?_, h2⟩
      rcases List.mem_cons.mp z with z | z
      · exact h (z ▸ q)
      · exact h1 z
    · by_cases hj : j = i
      · subst hj
        by_cases hl : j < (cut Ox O Γ).length
        · rw [List.getElem?_set_self hl] at e; cases e
        · rw [List.getElem?_eq_none (by rw [List.length_set]; omega)] at e; cases e
      · rw [List.getElem?_set_ne hj] at e
        obtain ⟨h1, h2⟩ := cut_some h O e
        refine ⟨fun z => ?_, h2⟩
        rcases List.mem_cons.mp z with z | z
        · exact hj z.symm
        · exact h1 z
section
variable {K : PySem.W.Frag} {B : Bs} {Z : Zs} {O Ox : List Nat} {σ : L2.St} {H H' : Hp} {Γ Γ' : Sl}
theorem oA_sub {O' : List Nat} (sub : ∀ i ∈ O', i ∈ O) : ∀ a ∈ oA σ O', a ∈ oA σ O := fun a h => by
  obtain ⟨i, hi, q⟩ := mem_oA.mp h
  exact mem_oA.mpr ⟨i, sub i hi, q⟩
theorem hO_sub {O' : List Nat} (sub : ∀ i ∈ O', i ∈ O) : Le (hO H σ O Z) (hO H σ O' Z) := Le.less fun a h => by
  rcases List.mem_append.mp h with h | h
  · exact List.mem_append_left _ (oA_sub sub a h)
  · exact List.mem_append_right _ h
theorem En.cut (e : En K B Z O σ H Γ) (sub : ∀ i ∈ Ox, i ∈ O) : En K B Z Ox σ H (cut Ox O Γ) := by
  have l : Le (hO H σ O Z) (hO H σ Ox Z) := hO_sub sub
  refine ⟨e.len.trans (cut_len O).symm, fun i d hi q => ?_, fun i hi => ?_, fun i hi j hj => e.ne i (sub i hi) j (sub j hj), e.zs, fun z hz q => e.zo z hz (oA_sub sub _ q), e.bs.trans l, e.ad⟩
  · obtain ⟨h1, h2⟩ := cut_some hi O q
    obtain ⟨v, h3, h4⟩ := e.val i d h1 h2
    exact ⟨v, h3, h4.le l⟩
  · obtain ⟨a, d, h1, h2, h3⟩ := e.own i (sub i hi)
    exact ⟨a, d, h1, by rw [cut_in hi]; exact h2, h3.mono rfl l⟩
/-- a hidden thing is hidden no more -/
theorem En.unz {p : Addr × HO} (e : En K B (p :: Z) O σ H Γ) : En K B Z O σ H Γ := by
  have l : Le (hO H σ O (p :: Z)) (hO H σ O Z) := Le.less fun a h => by
    rcases List.mem_append.mp h with h | h
    · exact List.mem_append_left _ h
    · exact List.mem_append_right _ (List.mem_cons_of_mem _ h)
  refine ⟨e.len, fun i d hi q => ?_, fun i hi => ?_, e.ne, fun q hq => e.zs q (List.mem_cons_of_mem _ hq), fun q hq => e.zo q (List.mem_cons_of_mem _ hq), e.bs.trans l, e.ad⟩
  · obtain ⟨v, h1, h2⟩ := e.val i d hi q
    exact ⟨v, h1, h2.le l⟩
  · obtain ⟨a, d, h1, h2, h3⟩ := e.own i hi
    exact ⟨a, d, h1, h2, h3.mono rfl l⟩
/-- a new object, hidden -/
theorem En.newz (e : En K B Z O σ H Γ) {p : Addr} {o : HO} (np : H p = none) : En K B ((p, o) :: Z) O σ (upd H p o) Γ := by
  have fr := e.fresh np
  have hp : ∀ {a}, H a ≠ none → a ≠ p := fun {a} h z => h (z ▸ np)
  have l : Le (hO H σ O Z) (hO (upd H p o) σ O ((p, o) :: Z)) := fun c x h => by
    obtain ⟨n, h⟩ := hidL_some h
    have hc : c ≠ p := hp (by rw [h]; exact fun z => nomatch z)
    refine .inl ?_
    rw [hO_out, upd_ne hc]
    · exact h
    · intro z
      rcases List.mem_append.mp z with z | z
      · exact n (List.mem_append_left _ z)
      · rcases List.mem_cons.mp z with z | z
        · exact hc z
        · exact n (List.mem_append_right _ z)
  refine ⟨e.len, fun i d hi q => ?_, fun i hi => ?_, e.ne, fun q hq => ?_, fun q hq => ?_, e.bs.trans l, e.ad⟩
  · obtain ⟨v, h1, h2⟩ := e.val i d hi q
    exact ⟨v, h1, h2.le l⟩
  · obtain ⟨a, d, h1, h2, h3⟩ := e.own i hi
    exact ⟨a, d, h1, h2, h3.mono (upd_ne (hp h3.some)) l⟩
  · rcases List.mem_cons.mp hq with rfl | hq
    · exact upd_same
    · have := e.zs q hq
      rw [upd_ne (hp (by rw [this]; exact fun z => nomatch z))]
      exact this
  · rcases List.mem_cons.mp hq with rfl | hq
    · exact fun z => fr (List.mem_append_left _ z)
    · exact e.zo q hq
/-- a hidden thing comes to be held by slot i -/
theorem En.take (e : En K B ((p, o) :: Z) O σ H Γ) {i : Nat} {d : D} {O' : List Nat} (hi : i < Γ.length) (hb : ∀ q ∈ B.ad, q.1 ≠ i) (hO' : ∀ j, j ∈ O' ↔ j = i ∨ j ∈ O) (nz : p ∉ zA Z) (w : Own K (hO H σ O ((p, o) :: Z)) H p d) :
    En K B Z O' (σ.set i (some (.ref p))) H (Γ.set i (some d)) := by
  have hil : i < σ.length := by rw [e.len]; exact hi
  have getn : ∀ {j}, j ≠ i → (σ.set i (some (.ref p)))[j]? = σ[j]? := fun {j} h => List.getElem?_set_ne (Ne.symm h)
  have po : p ∉ oA σ O := e.zo (p, o) List.mem_cons_self
  have l : Le (hO H σ O ((p, o) :: Z)) (hO H (σ.set i (some (.ref p))) O' Z) := Le.less fun a h => by
    rcases List.mem_append.mp h with h | h
    · obtain ⟨j, hj, q⟩ := mem_oA.mp h
      by_cases hji : j = i
      · subst hji
        rw [List.getElem?_set_self hil] at q
        cases q
        exact List.mem_append_right _ List.mem_cons_self
      · rw [getn hji] at q
        rcases (hO' j).mp hj with r | r
        · exact absurd r hji
        · exact List.mem_append_left _ (mem_oA.mpr ⟨j, r, q⟩)
    · exact List.mem_append_right _ (List.mem_cons_of_mem _ h)
  refine ⟨by simp [e.len], fun j x hj hx => ?_, fun j hj => ?_, fun j hj k hk n a h => ?_, fun q hq => e.zs q (List.mem_cons_of_mem _ hq), fun z hz q => ?_, e.bs.trans l, fun q hq => by rw [getn (hb q hq)]; exact e.ad q hq⟩
  · have hji : j ≠ i := fun z => hj ((hO' j).mpr (.inl z))
    have hjO : j ∉ O := fun z => hj ((hO' j).mpr (.inr z))
    rw [List.getElem?_set_ne (Ne.symm hji)] at hx
    obtain ⟨v, h1, h2⟩ := e.val j x hjO hx
    exact ⟨v, by rw [getn hji]; exact h1, h2.le l⟩
  · by_cases hji : j = i
    · subst hji
      exact ⟨p, d, List.getElem?_set_self hil, List.getElem?_set_self hi, w.mono rfl l⟩
    · rcases (hO' j).mp hj with r | r
      · exact absurd r hji
      · obtain ⟨a, x, h1, h2, h3⟩ := e.own j r
        exact ⟨a, x, by rw [getn hji]; exact h1, by rw [List.getElem?_set_ne (Ne.symm hji)]; exact h2, h3.mono rfl l⟩
  · have old : ∀ {q b}, q ∈ O → σ[q]? = some (some (.ref b)) → b ≠ p := fun {q b} hq hb z => po (z ▸ mem_oA.mpr ⟨q, hq, hb⟩)
    by_cases h1 : j = i
    · subst h1
      rw [List.getElem?_set_self hil] at h
      cases h
      rw [getn (Ne.symm n)]
      intro z
      rcases (hO' k).mp hk with r | r
      · exact n r.symm
      · exact old r z rfl
    · rw [getn h1] at h
      rcases (hO' j).mp hj with r | r
      · exact absurd r h1
      by_cases h2 : k = i
      · subst h2
        rw [List.getElem?_set_self hil]
        intro z
        cases z
        exact old r h rfl
      · rw [getn h2]
        rcases (hO' k).mp hk with r2 | r2
        · exact absurd r2 h2
        · exact e.ne j r k r2 n a h
  · obtain ⟨j, hj, q⟩ := mem_oA.mp q
    by_cases hji : j = i
    · subst hji
      rw [List.getElem?_set_self hil] at q
      have : p = z.1 := by cases q; rfl
      exact nz (this ▸ List.mem_map.mpr ⟨z, hz, rfl⟩)
    · rw [getn hji] at q
      rcases (hO' j).mp hj with r | r
      · exact hji r
      · exact e.zo z (List.mem_cons_of_mem _ hz) (mem_oA.mpr ⟨j, r, q⟩)
end
section
variable {K : PySem.W.Frag} {Ox O O' O1 O2 Ol Ol' : List Nat} {W : WX} {X : Cx} {a b c : Expr} {ta tb : TE} {ua ub : UE} {pos : Pos} {tc : TT} {uc : UT} {st : Stmt} {rest s1 s2 : List Stmt} {t t1 t2 : TS} {u u1 u2 : US}
/-! ### blocks -/
def uNext : US := fun ED Γ => ED.nx Γ
def uSeq (u1 u2 : US) : US := fun ED Γ => u1 { ED with nx := u2 ED } Γ
theorem rs_seq (h1 : RfS K Ox O W Ol O1 t1 u1) (h2 : RfS K Ox O1 W Ol O2 t2 u2) : RfS K Ox O W Ol O2 (tSeq t1 t2) (uSeq u1 u2) := by
  intro B Z σ H Γ D ED hB e ex hu nx rt bk ct
  exact h1 B Z σ H Γ { D with nx := t2 D } { ED with nx := u2 ED } hB e ex hu (fun σ' H' Γ' e' q => h2 B Z σ' H' Γ' D ED hB e' ex q nx rt bk ct) rt bk ct
theorem db_nil : DB K Ox O W Ol O X [] tNext uNext := ⟨fun g po => pss_nil, fun B Z σ H Γ D ED hB e ex hu nx rt bk ct => nx σ H Γ e hu⟩
theorem db_one (h : DS K Ox O W Ol O1 X st t u) : DB K Ox O W Ol O1 X [st] t u := ⟨fun g po => pss_one (h.p g po), h.r⟩
theorem db_cons (h1 : DS K Ox O W Ol O1 X st t1 u1) (h2 : DB K Ox O1 W Ol O2 X rest t2 u2) : DB K Ox O W Ol O2 X (st :: rest) (tSeq t1 t2) (uSeq u1 u2) := ⟨fun g po => pss_cons (h1.p g po) (h2.p g po), rs_seq h1.r h2.r⟩
/-- slots are owned no more: F -/
def noBag (Γ : Sl) : List Nat → Bool
  | [] => true
  | i :: F => (match Γ[i]? with
    | some (some (.bag _)) => false
    | _ => true) && noBag Γ F
theorem noBag_at {Γ : Sl} {i : Nat} : ∀ {F : List Nat}, noBag Γ F = true → i ∈ F → ∀ m, Γ[i]? ≠ some (some (.bag m))
  | j :: F, h, hi, m => by
    rw [noBag, Bool.and_eq_true] at h
    rcases List.mem_cons.mp hi with rfl | hi
    · intro z
      rw [z] at h
      exact Bool.noConfusion h.1
    · exact noBag_at h.2 hi m
def uFz (F : List Nat) (u : US) : US := fun ED Γ => noBag Γ F = true ∧ u ED Γ
theorem rs_fz {F : List Nat} (h : RfS K Ox O1 W Ol O2 t u) (h1 : ∀ i ∈ O1, i ∈ O) (h2 : ∀ i ∈ O, i ∉ O1 → i ∈ F) : RfS K Ox O W Ol O2 t (uFz F u) := by
  intro B Z σ H Γ D ED hB e ex hu nx rt bk ct
  exact h B Z σ H Γ D ED hB (e.freeze h1 fun i hi n m => noBag_at hu.1 (h2 i hi n) m) ex hu.2 nx rt bk ct
theorem db_fz {F : List Nat} (h : DB K Ox O1 W Ol O2 X rest t u) (h1 : ∀ i ∈ O1, i ∈ O) (h2 : ∀ i ∈ O, i ∉ O1 → i ∈ F) : DB K Ox O W Ol O2 X rest t (uFz F u) := ⟨fun g po => (h.p g po), rs_fz h.r h1 h2⟩
/-- behind a block: slots are forgotten -/
def uCut (Ox O : List Nat) (u : US) : US := fun ED Γ => u { ED with nx := fun Γ' => ED.nx (cut Ox O Γ') } Γ
theorem db_cut (h : DB K Ox O W Ol O1 X rest t u) (hs : ∀ i ∈ O2, i ∈ O1) : DB K Ox O W Ol O2 X rest t (uCut O2 O1 u) := ⟨fun g po => (h.p g po), by
  intro B Z σ H Γ D ED hB e ex hu nx rt bk ct
  exact h.r B Z σ H Γ D { ED with nx := fun Γ' => ED.nx (cut O2 O1 Γ') } hB e ex hu (fun σ' H' Γ' e' q => nx σ' H' _ (e'.cut hs) q) rt bk ct⟩
/-! ### small statements -/
def uDrop (ua : UE) : US := fun ED Γ => ua Γ (fun _ Γ1 => ED.nx Γ1) ED.ex
theorem ds_expr (h : DE K Ox O W X a ta ua) (hs : swapsWith a none pos.line X.env = pure false := by rfl) : DS K Ox O W Ol O X (.Expr a pos) (tDrop ta) (uDrop ua) := ⟨fun g po => ps_expr (h.p g) hs, by
  intro B Z σ H Γ D ED hB e ex hu nx rt bk ct
  exact h.r B Z σ H Γ _ _ _ e ex hu fun v H' d Γ' e' r' q' => nx σ H' Γ' e' q'⟩
theorem ds_pass : DS K Ox O W Ol O X (.Pass pos) tNext uNext := ⟨fun g po => ps_pass, fun B Z σ H Γ D ED hB e ex hu nx rt bk ct => nx σ H Γ e hu⟩
theorem ds_doc {x j pos'} : DS K Ox O W Ol O X (.Expr (.Constant (.str x) j pos) pos') tNext uNext := ⟨fun g po => ps_doc, fun B Z σ H Γ D ED hB e ex hu nx rt bk ct => nx σ H Γ e hu⟩
def uRet (Ox O : List Nat) (ua : UE) : US := fun ED Γ => ua Γ (fun d Γ1 => ED.rt d (cut Ox O Γ1)) ED.ex
theorem ds_ret (h : DE K Ox O W X a ta ua) (hs : ∀ i ∈ Ox, i ∈ O) : DS K Ox O W Ol O1 X (.Return (some a) pos) (tRet ta) (uRet Ox O ua) := ⟨fun g po => ps_ret (h.p g), by
  intro B Z σ H Γ D ED hB e ex hu nx rt bk ct
  exact h.r B Z σ H Γ _ _ _ e ex hu fun v H' d Γ' e' r' q' => rt v σ H' d _ (e'.cut hs) (r'.le (hO_sub hs)) q'⟩
def uRetN (Ox O : List Nat) : US := fun ED Γ => ED.rt .non (cut Ox O Γ)
theorem ds_retN (hs : ∀ i ∈ Ox, i ∈ O) : DS K Ox O W Ol O1 X (.Return none pos) tRetN (uRetN Ox O) := ⟨fun g po => ps_retN, fun B Z σ H Γ D ED hB e ex hu nx rt bk ct => rt .non σ H .non _ (e.cut hs) .non hu⟩
def uBreak (Ol O : List Nat) : US := fun ED Γ => ED.bk (cut Ol O Γ)
def uCont (Ol O : List Nat) : US := fun ED Γ => ED.ct (cut Ol O Γ)
theorem ds_break (hs : ∀ i ∈ Ol, i ∈ O) : DS K Ox O W Ol O1 X (.Break pos) tBreak (uBreak Ol O) := ⟨fun g po => ps_break, fun B Z σ H Γ D ED hB e ex hu nx rt bk ct => bk σ H _ (e.cut hs) hu⟩
theorem ds_cont (hs : ∀ i ∈ Ol, i ∈ O) : DS K Ox O W Ol O1 X (.Continue pos) tCont (uCont Ol O) := ⟨fun g po => ps_continue, fun B Z σ H Γ D ED hB e ex hu nx rt bk ct => ct σ H _ (e.cut hs) hu⟩
def uIfS (uc : UT) (u1 u2 : US) : US := fun ED Γ => uc Γ (fun c Γ1 => if c = true then u1 ED Γ1 else u2 ED Γ1) ED.ex
theorem ds_if (hc : DT K Ox O W X c tc uc) (h1 : DB K Ox O W Ol O1 X s1 t1 u1) (h2 : DB K Ox O W Ol O1 X s2 t2 u2) : DS K Ox O W Ol O1 X (.If c s1 s2 pos) (tIfS tc t1 t2) (uIfS uc u1 u2) := ⟨fun g po => ps_if (hc.p g) (h1.p g po) (h2.p g po), by
  intro B Z σ H Γ D ED hB e ex hu nx rt bk ct
  refine hc.r B Z σ H Γ _ _ _ e ex hu fun c H1 Γ1 e1 q1 => ?_
  cases c with
  | true => exact h1.r B Z σ H1 Γ1 D ED hB e1 ex q1 nx rt bk ct
  | false => exact h2.r B Z σ H1 Γ1 D ED hB e1 ex q1 nx rt bk ct⟩
/-! ### targets -/
abbrev UG := D → Sl → (Sl → Prop) → Prop
/-- a target of no owned slot -/
structure DG (K : PySem.W.Frag) (Ox O : List Nat) (X : Cx) (e : Expr) (g : TG) (ug : UG) : Prop where
  p : PG X e g
  r : ∀ B Z σ H Γ v d (Q : L2.St → Hp → Prop) (Qd : Sl → Prop), (∀ p ∈ B.ad, p.1 ∈ Ox) → En K B Z O σ H Γ → Rp K (hO H σ O Z) v d → ug d Γ Qd → (∀ σ' H' Γ', En K B Z O σ' H' Γ' → Qd Γ' → Q σ' H') → g v σ H Q
def ugName (i : Nat) : UG := fun d Γ Q => Q (Γ.set i (some d))
theorem dg_name {i : Nat} {x : Str} (hN : X.N.Nodup) (hi : X.N[i]? = some x) (hx : Loc X.env.scope x) (h1 : i ∉ O) (h2 : i ∉ Ox) (hf : X.fn x = true ∨ X.env.scope.names.lookup x = some .local := by first | exact .inl rfl | exact .inr rfl | assumption) : DG K Ox O X (.Name x pos) (gName i) (ugName i) :=
  ⟨pg_name hN hi hx hf, fun B Z σ H Γ v d Q Qd hB e r q k => k _ H _ (e.set h1 (fun p hp z => h2 (z ▸ hB p hp)) r) q⟩
def uAsg (ua : UE) (ug : UG) : US := fun ED Γ => ua Γ (fun d Γ1 => ug d Γ1 ED.nx) ED.ex
theorem rs_asg {g : TG} {ug : UG} {tg : Expr} (h : DE K Ox O W X a ta ua) (hg : DG K Ox O X tg g ug) : RfS K Ox O W Ol O (tAsg ta g) (uAsg ua ug) := by
  intro B Z σ H Γ D ED hB e ex hu nx rt bk ct
  exact h.r B Z σ H Γ _ _ _ e ex hu fun v H' d Γ' e' r' q' => hg.r B Z σ H' Γ' v d _ _ hB e' r' q' nx
theorem ds_asg {g : TG} {ug : UG} {tg : Expr} (h : DE K Ox O W X a ta ua) (hg : DG K Ox O X tg g ug) (hs : swapsWithSole [tg] a pos.line X.env = pure false := by rfl) (hw : swappedStores [tg] a X.env = pure none := by rfl)
    (h1 : (assignEach [tg] X.env).map (·.2) = [assign tg X.env] := by rfl) : DS K Ox O W Ol O X (.Assign [tg] a pos) (tAsg ta g) (uAsg ua ug) := ⟨fun g po => ps_asg (h.p g) hg.p hs hw h1, rs_asg h hg⟩
theorem ds_set {i : Nat} {x : Str} {pos' : Pos} (hN : X.N.Nodup) (hi : X.N[i]? = some x) (hx : Loc X.env.scope x) (h1 : i ∉ O) (h2 : i ∉ Ox) (he : DE K Ox O W X a ta ua) (hs : swapsWith a (some (.Name x pos')) pos.line X.env = pure false := by rfl) (hf : X.fn x = true ∨ X.env.scope.names.lookup x = some .local := by first | exact .inl rfl | exact .inr rfl | assumption) :
    DS K Ox O W Ol O X (.Assign [.Name x pos'] a pos) (tAsg ta (gName i)) (uAsg ua (ugName i)) := ⟨fun g po => ps_set hN hi hx (he.p g) hs hf, rs_asg he (dg_name (pos := pos') hN hi hx h1 h2 hf)⟩
/-! ### new lists and dicts -/
/-- the value is new: no one else has it -/
def RfF (K : PySem.W.Frag) (Ox O : List Nat) (W : WX) (t : TE) (u : UE) : Prop := ∀ B Z σ H Γ (Q : VK) (Qd : D → Sl → Prop) (Ex : UX), En K B Z O σ H Γ → ExO K B Z Ox W Ex → u Γ Qd Ex →
  (∀ p o H' d Γ', En K B ((p, o) :: Z) O σ H' Γ' → p ∉ zA Z → Own K (hO H' σ O ((p, o) :: Z)) H' p d → Qd d Γ' → Q (.ref p) H') → t σ H Q
structure DF (K : PySem.W.Frag) (Ox O : List Nat) (W : WX) (X : Cx) (e : Expr) (t : TE) (u : UE) : Prop where
  p : Lt X W → PE X e t
  r : RfF K Ox O W t u
/-- .. and no bag -/
def RfL (K : PySem.W.Frag) (Ox O : List Nat) (W : WX) (t : TE) (u : UE) : Prop := ∀ B Z σ H Γ (Q : VK) (Qd : D → Sl → Prop) (Ex : UX), En K B Z O σ H Γ → ExO K B Z Ox W Ex → u Γ Qd Ex →
  (∀ p o H' d Γ', En K B ((p, o) :: Z) O σ H' Γ' → p ∉ zA Z → Own K (hO H' σ O ((p, o) :: Z)) H' p d → (∀ m, d ≠ .bag m) → Qd d Γ' → Q (.ref p) H') → t σ H Q
structure DL (K : PySem.W.Frag) (Ox O : List Nat) (W : WX) (X : Cx) (e : Expr) (t : TE) (u : UE) : Prop where
  p : Lt X W → PE X e t
  r : RfL K Ox O W t u
theorem DL.f (h : DL K Ox O W X a ta ua) : DF K Ox O W X a ta ua := ⟨fun g => (h.p g), fun B Z σ H Γ Q Qd Ex e ex hu k => h.r B Z σ H Γ Q Qd Ex e ex hu fun p o H' d Γ' e' nz w _ q => k p o H' d Γ' e' nz w q⟩
theorem DL.e (h : DL K Ox O W X a ta ua) : DE K Ox O W X a ta ua := ⟨fun g => (h.p g), by
  intro B Z σ H Γ Q Qd Ex e ex hu k
  refine h.r B Z σ H Γ _ _ _ e ex hu fun p o H' d Γ' e' nz w nb q => ?_
  have l : Le (hO H' σ O ((p, o) :: Z)) (hO H' σ O Z) := Le.less fun a h => by
    rcases List.mem_append.mp h with h | h
    · exact List.mem_append_left _ h
    · exact List.mem_append_right _ (List.mem_cons_of_mem _ h)
  refine k _ H' d Γ' e'.unz (w.rp nb ?_ l) q
  rw [hO_out]
  intro z
  rcases List.mem_append.mp z with z | z
  · exact e'.zo (p, o) List.mem_cons_self z
  · exact nz z⟩
theorem dl_lst {es : List Expr} {tr : TA} {ur : UA} (h : DA K Ox O W X es tr ur) : DL K Ox O W X (.List es pos) (tLst tr) (uLst ur) := ⟨fun g => pe_lst (h.p g), by
  intro B Z σ H Γ Q Qd Ex e ex hu k
  refine h.r B Z σ H Γ _ _ Ex e ex hu fun xs H1 ds Γ1 e1 r1 q1 => ⟨by rw [r1.length]; exact q1.1, fun p np => ?_⟩
  have fr := e1.fresh np
  have e2 := e1.newz (o := .lst xs) np
  refine k p (.lst xs) _ (.lst ds) Γ1 e2 (fun z => fr (List.mem_append_right _ z)) ⟨xs, upd_same, r1.le ?_⟩ (fun m z => nomatch z) q1.2
  intro c x hc
  obtain ⟨n, hc⟩ := hidL_some hc
  have hcp : c ≠ p := fun z => by rw [z, np] at hc; cases hc
  refine .inl ?_
  rw [hO_out, upd_ne hcp]
  · exact hc
  · intro z
    rcases List.mem_append.mp z with z | z
    · exact n (List.mem_append_left _ z)
    · rcases List.mem_cons.mp z with z | z
      · exact hcp z
      · exact n (List.mem_append_right _ z)⟩
theorem dl_dict : DL K Ox O W X (.Dict [] [] pos) tDNewK (uC (.dct [])) := ⟨fun g => pe_dnewK, by
  intro B Z σ H Γ Q Qd Ex e ex hu k
  intro p np
  have fr := e.fresh np
  exact k p (.dK []) _ (.dct []) Γ (e.newz np) (fun z => fr (List.mem_append_right _ z)) ⟨[], upd_same, .nil⟩ (fun m z => nomatch z) hu⟩
/-- name = what is new -/
theorem ds_own {i : Nat} {x : Str} {pos' : Pos} (hN : X.N.Nodup) (hi : X.N[i]? = some x) (hx : Loc X.env.scope x) (h2 : i ∉ Ox) (hO1 : (∀ j ∈ O', j = i ∨ j ∈ O) ∧ i ∈ O' ∧ ∀ j ∈ O, j ∈ O') (he : DF K Ox O W X a ta ua) (hs : swapsWith a (some (.Name x pos')) pos.line X.env = pure false := by rfl) (hf : X.fn x = true ∨ X.env.scope.names.lookup x = some .local := by first | exact .inl rfl | exact .inr rfl | assumption) :
    DS K Ox O W Ol O' X (.Assign [.Name x pos'] a pos) (tAsg ta (gName i)) (fun ED Γ => ua Γ (fun d Γ1 => i < Γ1.length ∧ ED.nx (Γ1.set i (some d))) ED.ex) := ⟨fun g po => ps_set hN hi hx (he.p g) hs hf, by
  intro B Z σ H Γ D ED hB e ex hu nx rt bk ct
  refine he.r B Z σ H Γ _ _ _ e ex hu fun p o H' d Γ' e' nz w q => ?_
  have hO' : ∀ j, j ∈ O' ↔ j = i ∨ j ∈ O := fun j => ⟨hO1.1 j, fun h => h.elim (fun z => z ▸ hO1.2.1) (hO1.2.2 j)⟩
  exact nx _ H' _ (e'.take q.1 (fun p hp z => h2 (z ▸ hB p hp)) hO' nz w) q.2⟩
end
end Dv
set_option Elab.async false
set_option linter.all false
set_option maxRecDepth 100000
set_option maxHeartbeats 4000000
/-! Dv5: targets that are tuples, loops, what they walk. -/
namespace Dv
open PySem PySem.Spec PyProof.Rows L2 Eu
abbrev UGs := List D → Sl → (Sl → Prop) → Prop
structure DGs (K : PySem.W.Frag) (Ox O : List Nat) (X : Cx) (es : List Expr) (g : TGs) (ug : UGs) : Prop where
  p : PGs X es g
  r : ∀ B Z σ H Γ vs ds (Q : L2.St → Hp → Prop) (Qd : Sl → Prop), (∀ p ∈ B.ad, p.1 ∈ Ox) → En K B Z O σ H Γ → Rps K (hO H σ O Z) vs ds → ug ds Γ Qd → (∀ σ' H' Γ', En K B Z O σ' H' Γ' → Qd Γ' → Q σ' H') → g vs σ H Q
def ugNil : UGs := fun ds Γ Q => ds = [] ∧ Q Γ
def ugCons (u : UG) (r : UGs) : UGs := fun ds Γ Q => ∃ d ds', ds = d :: ds' ∧ u d Γ fun Γ1 => r ds' Γ1 Q
section
variable {K : PySem.W.Frag} {Ox O O' O1 O2 Ol Ol' : List Nat} {W : WX} {X : Cx} {a b c tg iter : Expr} {es : List Expr} {ta tb : TE} {ua ub : UE} {pos : Pos} {tc : TT} {uc : UT} {st : Stmt} {body rest s1 s2 : List Stmt} {t t1 t2 : TS} {u u1 u2 : US} {g : TG} {ug : UG} {gs : TGs} {ugs : UGs}
theorem dgs_nil : DGs K Ox O X [] gNil ugNil := ⟨pgs_nil, by
  rintro B Z σ H Γ vs ds Q Qd hB e r ⟨rfl, q⟩ k
  cases r
  exact ⟨rfl, k σ H Γ e q⟩⟩
theorem dgs_cons (h1 : DG K Ox O X a g ug) (h2 : DGs K Ox O X es gs ugs) (hs : (assignEach (a :: es) X.env).map (·.2) = assign a X.env :: (assignEach es X.env).map (·.2) := by rfl) : DGs K Ox O X (a :: es) (gCons g gs) (ugCons ug ugs) := ⟨pgs_cons h1.p h2.p hs, by
  rintro B Z σ H Γ vs ds Q Qd hB e r ⟨d, ds', rfl, q⟩ k
  cases r with
  | cons r1 r2 =>
    refine ⟨_, _, rfl, ?_⟩
    refine h1.r ⟨hO H σ O Z, B.ad⟩ Z σ H Γ _ _ _ _ hB e.self r1 q fun σ' H' Γ' e' q' => ?_
    exact h2.r B Z σ' H' Γ' _ _ _ _ hB (e.back e') (r2.le e'.le) q' k⟩
def ugTup (n : Nat) (u : UGs) : UG := fun d Γ Q => ∃ ds, d = .tup ds ∧ ds.length = n ∧ u ds Γ Q
theorem dg_tup {k n : Nat} (hc : X.calm = true) (h : DGs K Ox O X es gs ugs) (hK : X.K = K := by rfl) (hn : (assignEach es X.env).length = n := by rfl) (hst : (assignEach es X.env).findIdx? (·.1) = none := by rfl) : DG K Ox O X (.Tuple es k pos) (gTup K n gs) (ugTup n ugs) := ⟨by subst hK; exact pg_tup hc h.p hn hst, by
  rintro B Z σ H Γ v d Q Qd hB e r ⟨ds, rfl, hl, q⟩ kk
  cases r with
  | tup s r2 =>
    refine ⟨_, _, rfl, hidL_le.lc.tup s, by rw [r2.length]; exact hl, ?_⟩
    exact h.r B Z σ H Γ _ _ _ _ hB e r2 q kk⟩
/-! ### what is walked -/
def ItD (K : PySem.W.Frag) (Bp : Hp) (J : It) (ds : List D) : Prop :=
  (∀ i d H, ds[i]? = some d → Le Bp H → J.go i H) ∧ (∀ H, Le Bp H → J.stop ds.length H) ∧
  (∀ i d H x H', ds[i]? = some d → Le Bp H → J.yld i H x H' → Same H H' ∧ ∀ A, (∀ a ∈ A, H a ≠ none) → Le Bp (hidL H A) → Rp K (hidL H' A) x d)
def RfI (K : PySem.W.Frag) (Ox O : List Nat) (W : WX) (wi : TI) (ui : UA) : Prop := ∀ B Z σ H Γ (R : It → Hp → Prop) (Qd : List D → Sl → Prop) (Ex : UX), En K B Z O σ H Γ → ExO K B Z Ox W Ex → ui Γ Qd Ex →
  (∀ J H' ds Γ', En K B Z O σ H' Γ' → ItD K (hO H' σ O Z) J ds → Qd ds Γ' → R J H') → wi σ H R
structure DI (K : PySem.W.Frag) (Ox O : List Nat) (W : WX) (X : Cx) (tg iter : Expr) (wi : TI) (ui : UA) : Prop where
  p : Lt X W → PI X tg iter wi
  r : RfI K Ox O W wi ui
def uForL (ug : UG) (ub : US) (ED : EndsD) : List D → Sl → Prop
  | [], Γ => ED.nx Γ
  | d :: ds, Γ => ug d Γ fun Γ1 => ub { ED with nx := uForL ug ub ED ds, ct := uForL ug ub ED ds, bk := ED.nx } Γ1
def uFor (ui : UA) (ug : UG) (ub : US) : US := fun ED Γ => ui Γ (fun ds Γ1 => uForL ug ub ED ds Γ1) ED.ex
theorem ds_for {wi : TI} {ui : UA} (hc : X.calm = true) (hi : DI K Ox O W X tg iter wi ui) (hg : DG K Ox O X tg g ug) (hb : DB K Ox O W O O X body t u)
    (hs : ∀ x, foldedSetIterable iter X.env x = pure x := by intro _; rfl) : DS K Ox O W Ol O X (.For tg iter body [] pos) (tFor wi g t) (uFor ui ug u) := ⟨fun g po => ps_for po hc (hi.p g) hg.p (hb.p g po) hs, by
  intro B Z σ H Γ D ED hB e ex hu nx rt bk ct
  refine hi.r B Z σ H Γ _ _ _ e ex hu fun J H1 ds Γ1 e1 J1 q1 => ?_
  obtain ⟨Jg, Js, Jy⟩ := J1
  refine ⟨fun i m σ' H' => m = ds.length - i ∧ i ≤ ds.length ∧ ∃ Γ', En K ⟨hO H1 σ O Z, B.ad⟩ Z O σ' H' Γ' ∧ uForL ug u ED (ds.drop i) Γ', ⟨ds.length, rfl, Nat.zero_le _, Γ1, e1.self, q1⟩, ?_⟩
  rintro i m σ' H' ⟨rfl, hi, Γ', e', q'⟩
  by_cases hl : i < ds.length
  · have ed : ds.drop i = ds[i] :: ds.drop (i + 1) := List.drop_eq_getElem_cons hl
    have eg : ds[i]? = some ds[i] := List.getElem?_eq_getElem hl
    rw [ed] at q'
    have l0 : Le (hO H1 σ O Z) H' := e'.bs.trans hidL_le
    refine .inr ⟨Jg i _ H' eg l0, fun σ2 H2 => ∃ Γ2, En K ⟨hO H1 σ O Z, B.ad⟩ Z O σ2 H2 Γ2 ∧ uForL ug u ED (ds.drop (i + 1)) Γ2, fun σ2 H2 ⟨Γ2, e2, q2⟩ => ⟨_, by omega, rfl, hl, Γ2, e2, q2⟩, fun x H2 y => ?_⟩
    obtain ⟨s2, r2⟩ := Jy i _ H' x H2 eg l0 y
    have r2 := r2 _ (fun a ha => e'.live ha) e'.bs
    refine hg.r ⟨hO H1 σ O Z, B.ad⟩ Z σ' H2 Γ' x _ _ _ hB (e'.same s2) r2 q' fun σ3 H3 Γ3 e3 q3 => ?_
    exact hb.r ⟨hO H1 σ O Z, B.ad⟩ Z σ3 H3 Γ3 _ { ED with nx := uForL ug u ED (ds.drop (i + 1)), ct := uForL ug u ED (ds.drop (i + 1)), bk := ED.nx } hB e3 (ex.at e1) q3 (fun σ4 H4 Γ4 e4 q4 => ⟨Γ4, e4, q4⟩) (fun v σ4 H4 d Γ4 e4 r4 q4 => rt v σ4 H4 d Γ4 (e1.back e4) r4 q4)
      (fun σ4 H4 Γ4 e4 q4 => nx σ4 H4 Γ4 (e1.back e4) q4) (fun σ4 H4 Γ4 e4 q4 => ⟨Γ4, e4, q4⟩)
  · have ei : i = ds.length := by omega
    subst ei
    rw [List.drop_length] at q'
    exact .inl ⟨Js H' (e'.bs.trans hidL_le), nx σ' H' Γ' (e1.back e') q'⟩⟩
/-- a loop, by what holds with the rest still to go -/
theorem for_rest {ED : EndsD} {Pv : List D → Sl → Prop} (h0 : ∀ Γ, Pv [] Γ → ED.nx Γ) (h1 : ∀ d ds Γ, Pv (d :: ds) Γ → ug d Γ fun Γ1 => u { ED with nx := Pv ds, ct := Pv ds, bk := ED.nx } Γ1)
    (mono : ∀ (E1 E2 : EndsD) Γ, (∀ Γ, E1.nx Γ → E2.nx Γ) → (∀ Γ, E1.ct Γ → E2.ct Γ) → E1.rt = E2.rt → E1.bk = E2.bk → E1.ex = E2.ex → u E1 Γ → u E2 Γ) (monog : ∀ d Γ (A B : Sl → Prop), (∀ Γ, A Γ → B Γ) → ug d Γ A → ug d Γ B) :
    ∀ ds Γ, Pv ds Γ → uForL ug u ED ds Γ
  | [], Γ, p => h0 Γ p
  | d :: ds, Γ, p => by
    show ug d Γ fun Γ1 => u { ED with nx := uForL ug u ED ds, ct := uForL ug u ED ds, bk := ED.nx } Γ1
    refine monog d Γ (fun Γ1 => u { ED with nx := Pv ds, ct := Pv ds, bk := ED.nx } Γ1) _ (fun Γ1 q => ?_) (h1 d ds Γ p)
    exact mono { ED with nx := Pv ds, ct := Pv ds, bk := ED.nx } _ Γ1 (fun Γ2 => for_rest h0 h1 mono monog ds Γ2) (fun Γ2 => for_rest h0 h1 mono monog ds Γ2) rfl rfl rfl q
/-! lists, tuples, ranges -/
def uIt (ua : UE) : UA := fun Γ Q Ex => ua Γ (fun d Γ1 => ∃ ds, d = .lst ds ∧ Q ds Γ1) Ex
def uItT (ua : UE) : UA := fun Γ Q Ex => ua Γ (fun d Γ1 => ∃ ds, d = .tup ds ∧ Q ds Γ1) Ex
theorem it_list {Bp : Hp} {a : Addr} {vs : List V} {ds : List D} (s : Bp a = some (.lst vs)) (r : Rps K Bp vs ds) : ItD K Bp (Itl K a) ds := by
  have s : SqL K Bp a vs := .inl (.inl s)
  refine ⟨fun i d H e l => ?_, fun H l => ⟨vs, l.lc.seq s, by rw [r.length]; exact Nat.le_refl _⟩, fun i d H x H' e l y => ?_⟩
  · obtain ⟨v, h1, h2⟩ := r.at e
    exact ⟨vs, v, l.lc.seq s, h1⟩
  · obtain ⟨v, h1, h2⟩ := r.at e
    obtain ⟨rfl, y⟩ := y
    have : v = x := Option.some.inj (h1.symm.trans (y vs (l.lc.seq s)))
    subst this
    exact ⟨Same.refl _, fun A _ l => h2.le l⟩
theorem it_tup {Bp : Hp} {a : Addr} {vs : List V} {ds : List D} (s : SqT K Bp a vs) (r : Rps K Bp vs ds) : ItD K Bp (Itt K a) ds := by
  refine ⟨fun i d H e l => ?_, fun H l => ⟨vs, l.lc.tup s, by rw [r.length]; exact Nat.le_refl _⟩, fun i d H x H' e l y => ?_⟩
  · obtain ⟨v, h1, h2⟩ := r.at e
    exact ⟨vs, v, l.lc.tup s, h1⟩
  · obtain ⟨v, h1, h2⟩ := r.at e
    obtain ⟨rfl, y⟩ := y
    have : v = x := Option.some.inj (h1.symm.trans (y vs (l.lc.tup s)))
    subst this
    exact ⟨Same.refl _, fun A _ l => h2.le l⟩
theorem di_list (h : DE K Ox O W X a ta ua) (hK : X.K = K := by rfl) : DI K Ox O W X tg a (iList K ta) (uIt ua) := ⟨fun g => by subst hK; exact pi_list (h.p g), by
  intro B Z σ H Γ R Qd Ex e ex hu k
  refine h.r B Z σ H Γ _ _ _ e ex hu fun v H' d Γ' e' r' q' => ?_
  obtain ⟨ds, rfl, q⟩ := q'
  cases r' with
  | lst s r => exact ⟨_, rfl, ⟨_, .inl (.inl (hidL_le.lc.lst s))⟩, k _ H' ds Γ' e' (it_list s r) q⟩⟩
theorem di_tup (h : DE K Ox O W X a ta ua) (hK : X.K = K := by rfl) : DI K Ox O W X tg a (iTup K ta) (uItT ua) := ⟨fun g => by subst hK; exact pi_tup (h.p g), by
  intro B Z σ H Γ R Qd Ex e ex hu k
  refine h.r B Z σ H Γ _ _ _ e ex hu fun v H' d Γ' e' r' q' => ?_
  obtain ⟨ds, rfl, q⟩ := q'
  cases r' with
  | tup s r => exact ⟨_, rfl, ⟨_, hidL_le.lc.tup s⟩, k _ H' ds Γ' e' (it_tup s r) q⟩⟩
/-- lo, lo + 1, .. -/
def rng (lo : Int) (n : Nat) : List D := (List.range n).map fun i : Nat => D.int (lo + (i : Int))
theorem rng_len (lo : Int) (n : Nat) : (rng lo n).length = n := by unfold rng; rw [List.length_map, List.length_range]
theorem rng_at {lo : Int} {n i : Nat} {x : D} (h : (rng lo n)[i]? = some x) : i < n ∧ x = .int (lo + (i : Int)) := by
  have hi := (List.getElem?_eq_some_iff.mp h).1
  rw [rng_len] at hi
  refine ⟨hi, ?_⟩
  unfold rng at h
  rw [List.getElem?_map, List.getElem?_range hi] at h
  exact (Option.some.inj h).symm
theorem it_rng {Bp : Hp} {lo : Int} {n : Nat} : ItD K Bp (Itr lo n) (rng lo n) := by
  refine ⟨fun i d H e l => (rng_at e).1, fun H l => by show n ≤ _; rw [rng_len]; exact Nat.le_refl _, fun i d H x H' e l y => ?_⟩
  obtain ⟨rfl, rfl⟩ := y
  rw [(rng_at e).2]
  exact ⟨Same.refl _, fun A _ _ => .int _⟩
variable {p : Pos} {tr : TA} {ur : UA}
def uRng1 (ur : UA) : UA := fun Γ Q Ex => ur Γ (fun ds Γ1 => ∃ j : Int, ds = [.int j] ∧ -(2 ^ 62) ≤ j ∧ j < 2 ^ 62 ∧ Q (rng 0 j.toNat) Γ1) Ex
def uRng2 (ur : UA) : UA := fun Γ Q Ex => ur Γ (fun ds Γ1 => ∃ i j : Int, ds = [.int i, .int j] ∧ (-(2 ^ 62) ≤ i ∧ i < 2 ^ 62 ∧ -(2 ^ 62) ≤ j ∧ j < 2 ^ 62) ∧ Q (rng i (j - i).toNat) Γ1) Ex
theorem Rps.one {H : Hp} {vs : List V} {i : Int} (h : Rps K H vs [.int i]) : vs = [.int i] := by
  cases h with
  | cons h1 h2 => cases h1; cases h2; rfl
theorem Rps.two {H : Hp} {vs : List V} {i j : Int} (h : Rps K H vs [.int i, .int j]) : vs = [.int i, .int j] := by
  cases h with
  | cons h1 h2 =>
    cases h1
    rw [Rps.one h2]
theorem di_range1 (hg : Gl X "range") (hm : X.mg "range" = none) (ha : DA K Ox O W X [a] tr ur) (hs : starEach [a] X.env = [(false, eval a X.env)] := by rfl) : DI K Ox O W X tg (.Call (.Name "range" p) [a] [] pos) (iRng1 tr) (uRng1 ur) := ⟨fun g => pi_range1 hg hm (ha.p g) hs, by
  intro B Z σ H Γ R Qd Ex e ex hu k
  refine ha.r B Z σ H Γ _ _ _ e ex hu fun vs H' ds Γ' e' r' q' => ?_
  obtain ⟨j, rfl, q1, q2, q⟩ := q'
  exact ⟨j, Rps.one r', q1, q2, k _ H' _ Γ' e' it_rng q⟩⟩
theorem di_range2 (hg : Gl X "range") (hm : X.mg "range" = none) (ha : DA K Ox O W X [a, b] tr ur) (hs : starEach [a, b] X.env = [(false, eval a X.env), (false, eval b X.env)] := by rfl) (hs2 : starEach [b] X.env = [(false, eval b X.env)] := by rfl) : DI K Ox O W X tg (.Call (.Name "range" p) [a, b] [] pos) (iRng2 tr) (uRng2 ur) := ⟨fun g => pi_range2 hg hm (ha.p g) hs hs2, by
  intro B Z σ H Γ R Qd Ex e ex hu k
  refine ha.r B Z σ H Γ _ _ _ e ex hu fun vs H' ds Γ' e' r' q' => ?_
  obtain ⟨i, j, rfl, q1, q⟩ := q'
  exact ⟨i, j, Rps.two r', q1, k _ H' _ Γ' e' it_rng q⟩⟩
/-! ### while -/
def uWhile (uc : UT) (ub : US) : US := fun ED Γ => ∃ Wd : Nat → Sl → Prop, (∃ m, Wd m Γ) ∧ ∀ m Γ, Wd m Γ → uc Γ (fun b Γ1 => if b = true then ∃ N : Sl → Prop, (∀ Γ', N Γ' → ∃ m', m' < m ∧ Wd m' Γ') ∧ ub { ED with nx := N, ct := N, bk := ED.nx } Γ1 else ED.nx Γ1) ED.ex
theorem ds_while (hc : DT K Ox O W X c tc uc) (hb : DB K Ox O W O O X body t u) : DS K Ox O W Ol O X (.While c body [] pos) (tWhile tc t) (uWhile uc u) := ⟨fun g po => ps_while po (hc.p g) (hb.p g po), by
  rintro B Z σ H Γ D ED hB e ex ⟨Wd, ⟨m0, w0⟩, turn⟩ nx rt bk ct
  refine ⟨fun m σ' H' => ∃ Γ', En K B Z O σ' H' Γ' ∧ Wd m Γ', ⟨m0, Γ, e, w0⟩, ?_⟩
  rintro m σ' H' ⟨Γ', e', w'⟩
  refine hc.r B Z σ' H' Γ' _ _ _ e' ex (turn m Γ' w') fun c H1 Γ1 e1 q1 => ?_
  cases c with
  | false => exact nx σ' H1 Γ1 e1 q1
  | true =>
    obtain ⟨N, hN, q1⟩ := q1
    refine ⟨fun σ2 H2 => ∃ Γ2, En K B Z O σ2 H2 Γ2 ∧ N Γ2, fun σ2 H2 ⟨Γ2, e2, n2⟩ => ?_, ?_⟩
    · obtain ⟨m', h1, h2⟩ := hN Γ2 n2
      exact ⟨m', h1, Γ2, e2, h2⟩
    · exact hb.r B Z σ' H1 Γ1 _ { ED with nx := N, ct := N, bk := ED.nx } hB e1 ex q1 (fun σ4 H4 Γ4 e4 q4 => ⟨Γ4, e4, q4⟩) rt (fun σ4 H4 Γ4 e4 q4 => nx σ4 H4 Γ4 e4 q4) (fun σ4 H4 Γ4 e4 q4 => ⟨Γ4, e4, q4⟩)⟩
end
end Dv
set_option Elab.async false
set_option linter.all false
set_option maxRecDepth 100000
set_option maxHeartbeats 4000000
/-! Dv6: defs and their calls. An argument is a value, or an owned slot that the callee may change. -/
namespace Dv
open PySem PySem.Spec PyProof.Rows L2 Eu
inductive Ar where
  | v (d : D) | s (i : Nat)
abbrev UAr := Sl → (List Ar → Sl → Prop) → UX → Prop
def slotsOf : List Ar → List Nat
  | [] => []
  | .v _ :: r => slotsOf r
  | .s i :: r => i :: slotsOf r
def ioOf (n : Nat) : List Ar → List Nat
  | [] => []
  | .v _ :: r => ioOf (n + 1) r
  | .s _ :: r => n :: ioOf (n + 1) r
def deref (Γ : Sl) : List Ar → Option (List D)
  | [] => some []
  | .v d :: r => match deref Γ r with
    | some ds => some (d :: ds)
    | none => none
  | .s i :: r => match Γ[i]? with
    | some (some d) => (match deref Γ r with
      | some ds => some (d :: ds)
      | none => none)
    | _ => none
def putB : Sl → List Ar → List D → Sl
  | Γ, .s i :: r, d :: ds => putB (Γ.set i (some d)) r ds
  | Γ, .v _ :: r, _ :: ds => putB Γ r ds
  | Γ, _, _ => Γ
theorem io_mem {k : Nat} : ∀ {ars : List Ar} {n : Nat}, k ∈ ioOf n ars ↔ ∃ (j i : Nat), k = n + j ∧ ars[j]? = some (Ar.s i)
  | [], n => by simp [ioOf]
  | .v d :: r, n => by
    rw [ioOf, io_mem]
    constructor
    · rintro ⟨j, i, rfl, e⟩
      exact ⟨j + 1, i, by omega, by simpa using e⟩
    · rintro ⟨j, i, rfl, e⟩
      cases j with
      | zero => simp at e
      | succ j => exact ⟨j, i, by omega, by simpa using e⟩
  | .s q :: r, n => by
    rw [ioOf, List.mem_cons, io_mem]
    constructor
    · rintro (rfl | ⟨j, i, rfl, e⟩)
      · exact ⟨0, q, by omega, rfl⟩
      · exact ⟨j + 1, i, by omega, by simpa using e⟩
    · rintro ⟨j, i, rfl, e⟩
      cases j with
      | zero => exact .inl (by omega)
      | succ j => exact .inr ⟨j, i, by omega, by simpa using e⟩
theorem slots_mem {i : Nat} : ∀ {ars : List Ar}, i ∈ slotsOf ars ↔ ∃ j : Nat, ars[j]? = some (Ar.s i)
  | [] => by simp [slotsOf]
  | .v d :: r => by
    rw [slotsOf, slots_mem]
    constructor
    · rintro ⟨j, e⟩
      exact ⟨j + 1, by simpa using e⟩
    · rintro ⟨j, e⟩
      cases j with
      | zero => simp at e
      | succ j => exact ⟨j, by simpa using e⟩
  | .s q :: r => by
    rw [slotsOf, List.mem_cons, slots_mem]
    constructor
    · rintro (rfl | ⟨j, e⟩)
      · exact ⟨0, rfl⟩
      · exact ⟨j + 1, by simpa using e⟩
    · rintro ⟨j, e⟩
      cases j with
      | zero => left; simp at e; exact e.symm
      | succ j => exact .inr ⟨j, by simpa using e⟩
theorem deref_len {Γ : Sl} : ∀ {ars : List Ar} {ds : List D}, deref Γ ars = some ds → ds.length = ars.length
  | [], ds, e => by cases e; rfl
  | .v d :: r, ds, e => by
    rw [deref] at e
    cases h : deref Γ r with
    | none => rw [h] at e; cases e
    | some x => rw [h] at e; cases e; simp [deref_len h]
  | .s i :: r, ds, e => by
    rw [deref] at e
    split at e
    · cases h : deref Γ r with
      | none => rw [h] at e; cases e
      | some x => rw [h] at e; cases e; simp [deref_len h]
    · cases e
theorem deref_v {Γ : Sl} : ∀ {ars : List Ar} {ds : List D} {k : Nat} {d : D}, deref Γ ars = some ds → ars[k]? = some (.v d) → ds[k]? = some d
  | .v q :: r, ds, k, d, e, h => by
    rw [deref] at e
    cases hh : deref Γ r with
    | none => rw [hh] at e; cases e
    | some x =>
      rw [hh] at e; cases e
      cases k with
      | zero => simp at h; simp [h]
      | succ k => simpa using deref_v hh (by simpa using h)
  | .s i :: r, ds, k, d, e, h => by
    rw [deref] at e
    split at e
    · cases hh : deref Γ r with
      | none => rw [hh] at e; cases e
      | some x =>
        rw [hh] at e; cases e
        cases k with
        | zero => simp at h
        | succ k => simpa using deref_v hh (by simpa using h)
    · cases e
theorem deref_s {Γ : Sl} : ∀ {ars : List Ar} {ds : List D} {k i : Nat}, deref Γ ars = some ds → ars[k]? = some (.s i) → ∃ d, ds[k]? = some d ∧ Γ[i]? = some (some d)
  | .v q :: r, ds, k, i, e, h => by
    rw [deref] at e
    cases hh : deref Γ r with
    | none => rw [hh] at e; cases e
    | some x =>
      rw [hh] at e; cases e
      cases k with
      | zero => simp at h
      | succ k => simpa using deref_s hh (by simpa using h)
  | .s j :: r, ds, k, i, e, h => by
    rw [deref] at e
    split at e
    · rename_i d hd
      cases hh : deref Γ r with
      | none => rw [hh] at e; cases e
      | some x =>
        rw [hh] at e; cases e
        cases k with
        | zero => simp at h; subst h; exact ⟨d, rfl, hd⟩
        | succ k => simpa using deref_s hh (by simpa using h)
    · cases e
theorem putB_len : ∀ {ars : List Ar} {ds : List D} {Γ : Sl}, (putB Γ ars ds).length = Γ.length
  | [], ds, Γ => by cases ds <;> rfl
  | .v d :: r, [], Γ => rfl
  | .s i :: r, [], Γ => rfl
  | .v d :: r, x :: ds, Γ => by rw [putB]; exact putB_len
  | .s i :: r, x :: ds, Γ => by rw [putB, putB_len, List.length_set]
theorem putB_out {i : Nat} : ∀ {ars : List Ar} {ds : List D} {Γ : Sl}, i ∉ slotsOf ars → (putB Γ ars ds)[i]? = Γ[i]?
  | [], ds, Γ, _ => by cases ds <;> rfl
  | .v d :: r, [], Γ, _ => rfl
  | .s j :: r, [], Γ, _ => rfl
  | .v d :: r, x :: ds, Γ, h => by rw [putB]; exact putB_out h
  | .s j :: r, x :: ds, Γ, h => by
    rw [putB, putB_out (fun z => h (List.mem_cons_of_mem _ z)), List.getElem?_set_ne (show j ≠ i from fun z => h (by rw [z]; exact List.mem_cons_self))]
theorem putB_in {i : Nat} {d : D} : ∀ {ars : List Ar} {ds : List D} {Γ : Sl} {k : Nat}, (slotsOf ars).Nodup → ars[k]? = some (.s i) → ds[k]? = some d → i < Γ.length → (putB Γ ars ds)[i]? = some (some d)
  | .v q :: r, x :: ds, Γ, 0, _, h, _, _ => by simp at h
  | .s j :: r, x :: ds, Γ, 0, n, h, e, hl => by
    simp at h e
    subst h e
    rw [putB, putB_out (List.nodup_cons.mp n).1, List.getElem?_set_self hl]
  | .v q :: r, x :: ds, Γ, k + 1, n, h, e, hl => by
    rw [putB]
    exact putB_in n (by simpa using h) (by simpa using e) hl
  | .s j :: r, x :: ds, Γ, k + 1, n, h, e, hl => by
    rw [putB]
    exact putB_in (List.nodup_cons.mp n).2 (by simpa using h) (by simpa using e) (by rw [List.length_set]; exact hl)
  | _, [], Γ, k, _, _, e, _ => by simp at e
/-- an argument as it is handed over -/
def RpA (K : PySem.W.Frag) (O : List Nat) (σ : L2.St) (Hh : Hp) (v : V) : Ar → Prop
  | .v d => Rp K Hh v d
  | .s i => i ∈ O ∧ σ[i]? = some (some v)
inductive RpAs (K : PySem.W.Frag) (O : List Nat) (σ : L2.St) (Hh : Hp) : List V → List Ar → Prop
  | nil : RpAs K O σ Hh [] []
  | cons {v : V} {vs : List V} {a : Ar} {as : List Ar} : RpA K O σ Hh v a → RpAs K O σ Hh vs as → RpAs K O σ Hh (v :: vs) (a :: as)
section
variable {K : PySem.W.Frag} {O : List Nat} {σ : L2.St} {Hh Hh' : Hp}
theorem RpAs.le : ∀ {vs : List V} {as : List Ar}, RpAs K O σ Hh vs as → Le Hh Hh' → RpAs K O σ Hh' vs as
  | _, _, .nil, _ => .nil
  | _, .v d :: _, .cons h1 h2, l => .cons (show Rp K Hh' _ d from Rp.le h1 l) (RpAs.le h2 l)
  | _, .s i :: _, .cons h1 h2, l => .cons h1 (RpAs.le h2 l)
theorem RpAs.length : ∀ {vs : List V} {as : List Ar}, RpAs K O σ Hh vs as → vs.length = as.length
  | _, _, .nil => rfl
  | _, _, .cons _ h => congrArg (· + 1) (RpAs.length h)
theorem RpAs.at : ∀ {vs : List V} {as : List Ar} {k : Nat} {a : Ar}, RpAs K O σ Hh vs as → as[k]? = some a → ∃ v, vs[k]? = some v ∧ RpA K O σ Hh v a
  | _, _, 0, _, .cons h _, e => by simp at e; subst e; exact ⟨_, rfl, h⟩
  | _, _, k + 1, _, .cons _ h, e => by
    obtain ⟨v, h1, h2⟩ := RpAs.at (k := k) h (by simpa using e)
    exact ⟨v, by simpa using h1, h2⟩
theorem mapSome {α : Type} {l : List α} {k : Nat} {x : α} : (l.map some)[k]? = some (some x) ↔ l[k]? = some x := by
  rw [List.getElem?_map]
  cases l[k]? <;> simp
end
abbrev SpD := List D → (D → List D → Prop) → (XD → List D → Prop) → Prop
def lift (K : PySem.W.Frag) (io : List Nat) (sp : SpD) : Sp := fun vs H Q E => ∃ B Z ds, B.ad = [] ∧ En K B Z io (vs.map some) H (ds.map some) ∧
  sp ds (fun r ds' => ds'.length = ds.length → ∀ v H', En K B Z io (vs.map some) H' (ds'.map some) → Rp K (hO H' (vs.map some) io Z) v r → Q v H')
    (fun x ds' => ds'.length = ds.length → ∀ dd fs' H', En K B Z io (vs.map some) H' (ds'.map some) → hO H' (vs.map some) io Z dd = some (.xd fs') → Rpf K (hO H' (vs.map some) io Z) fs' x.2 → E (.ref x.1) (some dd) H')
/-- the callee's slots -/
theorem call_en {K : PySem.W.Frag} {B : Bs} {Z : Zs} {O : List Nat} {σ : L2.St} {H : Hp} {Γ : Sl} {vs : List V} {ars : List Ar} {ds : List D} (e : En K B Z O σ H Γ) (r : RpAs K O σ (hO H σ O Z) vs ars) (hd : deref Γ ars = some ds) (nd : (slotsOf ars).Nodup) :
    ∃ Zc, En K ⟨hO H σ O Z, []⟩ Zc (ioOf 0 ars) (vs.map some) H (ds.map some) ∧
      (∀ H' (ds' : List D), ds'.length = ds.length → En K ⟨hO H σ O Z, []⟩ Zc (ioOf 0 ars) (vs.map some) H' (ds'.map some) → En K B Z O σ H' (putB Γ ars ds')) ∧
      (∀ H', Le (hO H' (vs.map some) (ioOf 0 ars) Zc) (hO H' σ O Z)) := by
  have slO : ∀ {i}, i ∈ slotsOf ars → i ∈ O := fun {i} h => by
    obtain ⟨k, hk⟩ := slots_mem.mp h
    obtain ⟨v, _, h2⟩ := r.at hk
    exact h2.1
  have ioA : ∀ {a}, a ∈ oA (vs.map some) (ioOf 0 ars) ↔ ∃ i ∈ slotsOf ars, σ[i]? = some (some (.ref a)) := fun {a} => by
    rw [mem_oA]
    constructor
    · rintro ⟨k, hk, q⟩
      obtain ⟨j, i, rfl, hj⟩ := io_mem.mp hk
      rw [Nat.zero_add] at q
      obtain ⟨v, h1, h2⟩ := r.at hj
      rw [mapSome, h1] at q
      cases q
      exact ⟨i, slots_mem.mpr ⟨j, hj⟩, h2.2⟩
    · rintro ⟨i, hi, q⟩
      obtain ⟨k, hk⟩ := slots_mem.mp hi
      obtain ⟨v, h1, h2⟩ := r.at hk
      refine ⟨k, io_mem.mpr ⟨k, i, by omega, hk⟩, ?_⟩
      rw [mapSome, h1]
      rw [h2.2] at q
      cases q
      rfl
  let Oth := O.filter fun i => decide (i ∉ slotsOf ars)
  let Zc : Zs := (oA σ Oth).map (fun a => (a, (H a).getD (.lst []))) ++ Z
  have othO : ∀ {i}, i ∈ Oth ↔ i ∈ O ∧ i ∉ slotsOf ars := fun {i} => by
    show i ∈ O.filter _ ↔ _
    rw [List.mem_filter]
    simp
  have zcA : ∀ {a}, a ∈ zA Zc ↔ a ∈ oA σ Oth ∨ a ∈ zA Z := fun {a} => by
    show a ∈ List.map (·.1) (_ ++ Z) ↔ _
    rw [List.map_append, List.mem_append, List.map_map]
    constructor
    · rintro (h | h)
      · obtain ⟨b, hb, rfl⟩ := List.mem_map.mp h
        exact .inl hb
      · exact .inr h
    · rintro (h | h)
      · exact .inl (List.mem_map.mpr ⟨a, h, rfl⟩)
      · exact .inr h
  have hid : ∀ {a}, a ∈ oA (vs.map some) (ioOf 0 ars) ++ zA Zc ↔ a ∈ oA σ O ++ zA Z := fun {a} => by
    rw [List.mem_append, List.mem_append, ioA, zcA]
    constructor
    · rintro (⟨i, hi, q⟩ | h | h)
      · exact .inl (mem_oA.mpr ⟨i, slO hi, q⟩)
      · exact .inl (oA_sub (fun i hi => (othO.mp hi).1) a h)
      · exact .inr h
    · rintro (h | h)
      · obtain ⟨i, hi, q⟩ := mem_oA.mp h
        by_cases hs : i ∈ slotsOf ars
        · exact .inl ⟨i, hs, q⟩
        · exact .inr (.inl (mem_oA.mpr ⟨i, othO.mpr ⟨hi, hs⟩, q⟩))
      · exact .inr (.inr h)
  have l1 : ∀ H', Le (hO H' σ O Z) (hO H' (vs.map some) (ioOf 0 ars) Zc) := fun H' => Le.less fun a h => hid.mp h
  have l2 : ∀ H', Le (hO H' (vs.map some) (ioOf 0 ars) Zc) (hO H' σ O Z) := fun H' => Le.less fun a h => hid.mpr h
  refine ⟨Zc, ⟨?_, fun k d hk q => ?_, fun k hk => ?_, fun k hk j hj n a h1 h2 => ?_, fun p hp => ?_, fun p hp q => ?_, l1 H, fun p hp => nomatch hp⟩, fun H' ds' hl ec => ?_, l2⟩
  · rw [List.length_map, List.length_map, r.length, deref_len hd]
  · rw [mapSome] at q
    have hkl : k < ars.length := by rw [← deref_len hd]; exact (List.getElem?_eq_some_iff.mp q).1
    have hk' : ars[k]? = some ars[k] := List.getElem?_eq_getElem hkl
    cases ha : ars[k] with
    | s i =>
      rw [ha] at hk'
      exact absurd (io_mem.mpr ⟨k, i, by omega, hk'⟩) hk
    | v x =>
      rw [ha] at hk'
      obtain ⟨v, h1, h2⟩ := r.at hk'
      have := deref_v hd hk'
      rw [this] at q
      cases q
      exact ⟨v, mapSome.mpr h1, Rp.le h2 (l1 H)⟩
  · obtain ⟨j, i, rfl, hj⟩ := io_mem.mp hk
    rw [Nat.zero_add]
    obtain ⟨v, h1, h2⟩ := r.at hj
    obtain ⟨d, h3, h4⟩ := deref_s hd hj
    obtain ⟨a, d', h5, h6, h7⟩ := e.own i h2.1
    rw [h4] at h6
    cases h6
    rw [h2.2] at h5
    cases h5
    exact ⟨a, d, mapSome.mpr h1, mapSome.mpr h3, h7.mono rfl (l1 H)⟩
  · obtain ⟨k', i, e1, hk'⟩ := io_mem.mp hk
    obtain ⟨j', i', e2, hj'⟩ := io_mem.mp hj
    have e1 : k = k' := by omega
    have e2 : j = j' := by omega
    subst e1 e2
    obtain ⟨v, g1, g2⟩ := r.at hk'
    obtain ⟨v', g3, g4⟩ := r.at hj'
    rw [mapSome, g1] at h1
    rw [mapSome, g3] at h2
    cases h1
    cases h2
    by_cases hii : i = i'
    · subst hii
      exact n (by
        -- two places of one slot
        have : ∀ {l : List Ar} {k j : Nat}, (slotsOf l).Nodup → l[k]? = some (.s i) → l[j]? = some (.s i) → k = j := by
          intro l
          induction l with
          | nil => intro k j _ h; simp at h
          | cons x l ih =>
            intro k j nd hk hj
            cases x with
            | v d =>
              cases k with
              | zero => simp at hk
              | succ k =>
                cases j with
                | zero => simp at hj
                | succ j => exact congrArg (· + 1) (ih nd (by simpa using hk) (by simpa using hj))
            | s q =>
              have nd' := List.nodup_cons.mp nd
              cases k with
              | zero =>
                cases j with
                | zero => rfl
                | succ j =>
                  simp at hk
                  subst hk
                  exact absurd (slots_mem.mpr ⟨j, by simpa using hj⟩) nd'.1
              | succ k =>
                cases j with
                | zero =>
                  simp at hj
                  subst hj
                  exact absurd (slots_mem.mpr ⟨k, by simpa using hk⟩) nd'.1
                | succ j => exact congrArg (· + 1) (ih nd'.2 (by simpa using hk) (by simpa using hj))
        exact this nd hk' hj')
    · exact e.ne i g2.1 i' g4.1 hii a g2.2 g4.2
  · rcases List.mem_append.mp hp with hp | hp
    · obtain ⟨a, ha, rfl⟩ := List.mem_map.mp hp
      have : H a ≠ none := e.oa (oA_sub (fun i hi => (othO.mp hi).1) a ha)
      show H a = some ((H a).getD (.lst []))
      cases h : H a with
      | none => exact absurd h this
      | some o => rfl
    · exact e.zs p hp
  · obtain ⟨i, hi, hq⟩ := ioA.mp q
    rcases List.mem_append.mp hp with hp | hp
    · obtain ⟨a, ha, rfl⟩ := List.mem_map.mp hp
      obtain ⟨j, hj, hq'⟩ := mem_oA.mp ha
      obtain ⟨hj1, hj2⟩ := othO.mp hj
      exact e.ne i (slO hi) j hj1 (fun z => hj2 (z ▸ hi)) a hq hq'
    · exact e.zo p hp (mem_oA.mpr ⟨i, slO hi, hq⟩)
  · have lb : Le (hO H σ O Z) (hO H' σ O Z) := ec.bs.trans (l2 H')
    refine ⟨e.len.trans putB_len.symm, fun i d hi q => ?_, fun i hi => ?_, e.ne, fun p hp => ec.zs p (List.mem_append_right _ hp), e.zo, e.bs.trans lb, e.ad⟩
    · rw [putB_out (fun z => hi (slO z))] at q
      obtain ⟨v, h1, h2⟩ := e.val i d hi q
      exact ⟨v, h1, h2.le lb⟩
    · obtain ⟨a, d, h1, h2, h3⟩ := e.own i hi
      by_cases hs : i ∈ slotsOf ars
      · obtain ⟨k, hk⟩ := slots_mem.mp hs
        obtain ⟨v, g1, g2⟩ := r.at hk
        obtain ⟨b, x, q1, q2, q3⟩ := ec.own k (io_mem.mpr ⟨k, i, by omega, hk⟩)
        rw [mapSome, g1] at q1
        cases q1
        have : a = b := by
          have := g2.2
          rw [h1] at this
          cases this
          rfl
        subst this
        exact ⟨a, x, h1, putB_in nd hk (mapSome.mp q2) (by rw [← e.len]; exact (List.getElem?_eq_some_iff.mp h1).1), q3.mono rfl (l2 H')⟩
      · refine ⟨a, d, h1, by rw [putB_out hs]; exact h2, h3.mono ?_ lb⟩
        have hz := ec.zs (a, (H a).getD (.lst [])) (List.mem_append_left _ (List.mem_map.mpr ⟨a, mem_oA.mpr ⟨i, othO.mpr ⟨hi, hs⟩, h1⟩, rfl⟩))
        show H' a = H a
        have hz' : H' a = some ((H a).getD (.lst [])) := hz
        rw [hz']
        cases h : H a with
        | none => exact absurd h h3.some
        | some o => rfl
end Dv
set_option Elab.async false
set_option linter.all false
set_option maxRecDepth 100000
set_option maxHeartbeats 4000000
/-! Dv7: calls of defs by their names; a def by its body. -/
namespace Dv
open PySem PySem.Spec PyProof.Rows L2 Eu
abbrev W0 : WX := fun _ _ _ _ => False
theorem lt0 {X : Cx} : Lt X W0 := ⟨fun σ pins H s e s' I h => by
  obtain ⟨a, B, H', cls, d, z1, fl, z2, ub, z3, z4, z5, z6⟩ := h
  exact False.elim z6, noTakes⟩
abbrev WE (E : XK) : WX := fun cls d _ H => E cls d H
theorem ltX {P : Program} {w : World} {K : PySem.W.Frag} {mg : Str → Option Value} {base : Heap} {N : List Str} {qual : Str} {scope : Scope} {f : Addr} {cd : Value} {A : Around} {outer : List Env} {s : Shared} {H : Hp} {E : XK} :
    Lt (cxOf (L2.CX P w) P w K mg base N qual scope f cd A outer s H E) (WE E) :=
  ⟨fun σ pins H s e s' I h => passX pins σ H s e s' I h, takes_of rfl rfl rfl rfl⟩
structure DAr (K : PySem.W.Frag) (Ox O : List Nat) (W : WX) (X : Cx) (es : List Expr) (t : TA) (u : UAr) : Prop where
  p : Lt X W → PA X es t
  r : ∀ B Z σ H Γ (Q : List V → Hp → Prop) (Qd : List Ar → Sl → Prop) (Ex : UX), En K B Z O σ H Γ → ExO K B Z Ox W Ex → u Γ Qd Ex →
    (∀ vs H' ars Γ', En K B Z O σ H' Γ' → RpAs K O σ (hO H' σ O Z) vs ars → Qd ars Γ' → Q vs H') → t σ H Q
section
variable {K : PySem.W.Frag} {Ox O io : List Nat} {W : WX} {X : Cx} {a : Expr} {es : List Expr} {ta : TE} {ua : UE} {pos p : Pos} {t : TA} {u : UAr} {x : Str} {sp : SpD} {k j : Nat}
def rNil : UAr := fun Γ Q _ => Q [] Γ
def rVal (ua : UE) (r : UAr) : UAr := fun Γ Q Ex => ua Γ (fun d Γ1 => r Γ1 (fun as Γ2 => Q (.v d :: as) Γ2) Ex) Ex
def rOwn (i : Nat) (r : UAr) : UAr := fun Γ Q Ex => r Γ (fun as Γ2 => Q (.s i :: as) Γ2) Ex
theorem dr_nil : DAr K Ox O W X [] tNil rNil := ⟨fun g => pa_nil, fun B Z σ H Γ Q Qd Ex e ex hu k => k [] H [] Γ e .nil hu⟩
theorem dr_val (ha : DE K Ox O W X a ta ua) (hr : DAr K Ox O W X es t u) (hs : starEach (a :: es) X.env = (false, eval a X.env) :: starEach es X.env := by rfl) : DAr K Ox O W X (a :: es) (tCons ta t) (rVal ua u) := ⟨fun g => pa_cons (ha.p g) (hr.p g) hs, by
  intro B Z σ H Γ Q Qd Ex e ex hu k
  refine ha.r B Z σ H Γ _ _ Ex e ex hu fun x H1 dx Γ1 e1 r1 q1 => ?_
  refine hr.r ⟨hO H1 σ O Z, B.ad⟩ Z σ H1 Γ1 _ _ Ex e1.self (ex.at e1) q1 fun xs H2 ds Γ2 e2 r2 q2 => ?_
  exact k _ H2 (.v dx :: ds) Γ2 (e1.back e2) (.cons (a := .v dx) (r1.le e2.le) r2) q2⟩
theorem dr_own {i : Nat} (hN : X.N[i]? = some x) (hv : Vis X.env.scope x) (hi : i ∈ O) (hr : DAr K Ox O W X es t u) (hd : (x == ("__debug__" : Str)) = false := by decide) (hcd : (x == ("__classdict__" : Str)) = false := by decide) (hs : starEach (.Name x p :: es) X.env = (false, eval (.Name x p) X.env) :: starEach es X.env := by rfl) : DAr K Ox O W X (.Name x p :: es) (tCons (tVar i) t) (rOwn i u) := ⟨fun g => pa_cons (pe_var hN hv hd hcd) (hr.p g) hs, by
  intro B Z σ H Γ Q Qd Ex e ex hu k
  obtain ⟨a, d, h1, h2, h3⟩ := e.own i hi
  refine ⟨.ref a, h1, ?_⟩
  refine hr.r B Z σ H Γ _ _ Ex e ex hu fun xs H2 ds Γ2 e2 r2 q2 => ?_
  exact k _ H2 (.s i :: ds) Γ2 e2 (.cons (a := .s i) ⟨hi, h1⟩ r2) q2⟩
def uCall (Ox O : List Nat) (sp : SpD) (io : List Nat) (u : UAr) : UE := fun Γ Q Ex => u Γ (fun ars Γ1 => ∃ ds, deref Γ1 ars = some ds ∧ ioOf 0 ars = io ∧ (slotsOf ars).Nodup ∧
  sp ds (fun r ds' => Q r (putB Γ1 ars ds')) (fun x ds' => Ex x (cut Ox O (putB Γ1 ars ds')))) Ex
/-- a contract whose wish may grow -/
def SpD.Mono (sp : SpD) : Prop := ∀ ds (Q Q' : D → List D → Prop) (E E' : XD → List D → Prop), (∀ r ds', Q r ds' → Q' r ds') → (∀ r ds', E r ds' → E' r ds') → sp ds Q E → sp ds Q' E'
theorem rf_call (hx : ∀ i ∈ Ox, i ∈ O) (mono : sp.Mono) {t : TA} (hr : DAr K Ox O W X es t u) :
    RfE K Ox O W (fun σ H Q => t σ H fun vs H1 => lift K io sp vs H1 Q (fun cls d H' => W cls d σ H')) (uCall Ox O sp io u) := by
  intro B Z σ H Γ Q Qd Ex e ex hu kk
  refine hr.r B Z σ H Γ _ _ Ex e ex hu fun vs H1 ars Γ1 e1 r1 q1 => ?_
  obtain ⟨ds, hd, hio, nd, q⟩ := q1
  obtain ⟨Zc, ec, back, l2⟩ := call_en e1 r1 hd nd
  rw [hio] at ec back l2
  refine ⟨_, Zc, ds, rfl, ec, mono _ _ _ _ _ (fun r ds' q' hl v H' ec' rv => ?_) (fun xd ds' q' hl dd fs' H' ec' hdd rv => ?_) q⟩
  · exact kk v H' r _ (back H' ds' hl ec') (rv.le (l2 H')) q'
  · have e2 := back H' ds' hl ec'
    exact ex.go σ H' _ xd.1 xd.2 dd fs' (e2.cut hx) ((hO_sub hx).lc.xd ((l2 H').lc.xd hdd)) ((rv.le (l2 H')).le (hO_sub hx)) q'
structure CalD (P : Program) (w : World) (K : PySem.W.Frag) (mg : Str → Option Value) (base : Heap) (k : Nat) (x : Str) (io : List Nat) (sp : SpD) : Prop where
  c : CalX P w K mg base k x (lift K io sp) []
  mono : sp.Mono
theorem tCallS_eq {sp : Sp} {E : L2.St → XK} {t : TA} : tCallS sp E t = fun σ H Q => t σ H fun vs H1 => sp vs H1 Q (E σ) := rfl
theorem de_call (c : CalD X.prog X.w K X.mg X.base k x io sp) (hr : Rm j X.A) (hk : k ≤ j) (hg : Gl X x) (hx : ∀ i ∈ Ox, i ∈ O) (ha : DAr K Ox O W X (a :: es) t u) (hK : X.K = K := by rfl)
    (hdb : (x == ("__debug__" : Str)) = false := by decide)
    (he : starEach (a :: es) X.env = (false, eval a X.env) :: starEach es X.env := by rfl)
    (hpl : (backTo pos (starEach es X.env)).any (·.1) = false := by rfl) :
    DE K Ox O W X (.Call (.Name x p) (a :: es) [] pos) (tCallS (lift K io sp) (fun σ cls d H => W cls d σ H) t) (uCall Ox O sp io u) := ⟨fun g => by
  subst hK
  exact pe_cS c.c hr hk g.pass hg (ha.p g) hdb he hpl, rf_call hx c.mono ha⟩
end
/-! ### a def -/
def nones (n : Nat) : List (Option D) := List.replicate n none
/-- the slots at a def's start -/
def startD (n : Nat) (ds : List D) : Sl := ds.map some ++ nones (n - ds.length)
/-- the arguments behind the def -/
def backD (io : List Nat) (ds : List D) (Γ : Sl) : List D := ds.mapIdx fun i d => if i ∈ io then (match Γ[i]? with
  | some (some x) => x
  | _ => d) else d
theorem backD_len {io : List Nat} {ds : List D} {Γ : Sl} : (backD io ds Γ).length = ds.length := by unfold backD; rw [List.length_mapIdx]
theorem backD_out {io : List Nat} {ds : List D} {Γ : Sl} {i : Nat} (h : i ∉ io) : (backD io ds Γ)[i]? = ds[i]? := by
  unfold backD
  rw [List.getElem?_mapIdx]
  cases ds[i]? with
  | none => rfl
  | some d => simp [h]
theorem backD_in {io : List Nat} {ds : List D} {Γ : Sl} {i : Nat} {x : D} (h : i ∈ io) (hl : i < ds.length) (hx : Γ[i]? = some (some x)) : (backD io ds Γ)[i]? = some x := by
  unfold backD
  rw [List.getElem?_mapIdx, List.getElem?_eq_getElem hl]
  simp [h, hx]
theorem start_at {α : Type} {l : List α} {n i : Nat} {x : α} : (l.map some ++ List.replicate n none)[i]? = some (some x) ↔ l[i]? = some x := by
  by_cases h : i < l.length
  · rw [List.getElem?_append_left (by rw [List.length_map]; exact h), List.getElem?_map]
    cases l[i]? <;> simp
  · have h1 : l[i]? = none := List.getElem?_eq_none (by omega)
    rw [h1, List.getElem?_append_right (by rw [List.length_map]; omega)]
    constructor
    · intro e
      rw [List.getElem?_replicate] at e
      split at e <;> cases e
    · intro e; cases e
section
variable {K : PySem.W.Frag} {B : Bs} {Z : Zs} {io : List Nat} {H H' : Hp} {vs : List V} {ds : List D} {N : List Str} {σ' : L2.St} {Γ' : Sl}
/-- the slots whose address is fixed -/
def pinned (vs : List V) (io : List Nat) : List (Nat × Addr) := io.filterMap fun i => (adrOf (vs[i]?.map some)).map fun a => (i, a)
theorem pinned_mem {p : Nat × Addr} : p ∈ pinned vs io ↔ p.1 ∈ io ∧ vs[p.1]? = some (.ref p.2) := by
  unfold pinned
  rw [List.mem_filterMap]
  constructor
  · rintro ⟨i, hi, e⟩
    cases h : adrOf (vs[i]?.map some) with
    | none => rw [h] at e; cases e
    | some a =>
      rw [h] at e
      cases e
      have := adrOf_some h
      refine ⟨hi, ?_⟩
      cases hv : vs[i]? with
      | none => rw [hv] at this; cases this
      | some v => rw [hv] at this; cases this; rfl
  · rintro ⟨h1, h2⟩
    exact ⟨p.1, h1, by rw [h2]; rfl⟩
theorem oA_start : oA (start N vs) io = oA (vs.map some) io := by
  unfold oA
  congr 1
  funext i
  have : ∀ v, (start N vs)[i]? = some (some v) ↔ (vs.map some)[i]? = some (some v) := fun v => by
    rw [mapSome]; exact start_at
  cases h : adrOf (vs.map some)[i]? with
  | some a => rw [(this _).mpr (adrOf_some h)]; rfl
  | none =>
    cases h2 : adrOf (start N vs)[i]? with
    | none => rfl
    | some a =>
      rw [(this _).mp (adrOf_some h2)] at h
      cases h
theorem hO_start : hO H (start N vs) io Z = hO H (vs.map some) io Z := by unfold hO; rw [oA_start]
theorem en_start (e : En K B Z io (vs.map some) H (ds.map some)) (hl : vs.length ≤ N.length) : En K ⟨hO H (vs.map some) io Z, pinned vs io⟩ Z io (start N vs) H (startD N.length ds) := by
  have hlen : vs.length = ds.length := by have := e.len; rwa [List.length_map, List.length_map] at this
  refine ⟨?_, fun i d hi q => ?_, fun i hi => ?_, fun i hi j hj n a h1 h2 => ?_, e.zs, ?_, ?_, fun p hp => ?_⟩
  · unfold L2.start startD nones
    rw [List.length_append, List.length_append, List.length_map, List.length_map, List.length_replicate, List.length_replicate, hlen]
  · obtain ⟨v, h1, h2⟩ := e.val i d hi (mapSome.mpr (start_at.mp q))
    exact ⟨v, start_at.mpr (mapSome.mp h1), by rw [hO_start]; exact h2⟩
  · obtain ⟨a, d, h1, h2, h3⟩ := e.own i hi
    exact ⟨a, d, start_at.mpr (mapSome.mp h1), start_at.mpr (mapSome.mp h2), by rw [hO_start]; exact h3⟩
  · exact e.ne i hi j hj n a (mapSome.mpr (start_at.mp h1)) (mapSome.mpr (start_at.mp h2))
  · rw [oA_start]; exact e.zo
  · rw [hO_start]; exact Le.refl _
  · exact start_at.mpr (pinned_mem.mp hp).2
theorem en_end (e : En K B Z io (vs.map some) H (ds.map some)) (hB : B.ad = []) (e' : En K ⟨hO H (vs.map some) io Z, pinned vs io⟩ Z io σ' H' Γ') :
    En K B Z io (vs.map some) H' ((backD io ds Γ').map some) ∧ ∀ H, Le (hO H σ' io Z) (hO H (vs.map some) io Z) := by
  have hlen : vs.length = ds.length := by have := e.len; rwa [List.length_map, List.length_map] at this
  have pin : ∀ {i a}, i ∈ io → (vs.map some)[i]? = some (some (.ref a)) → σ'[i]? = some (some (.ref a)) := fun {i a} hi q => e'.ad (i, a) (pinned_mem.mpr ⟨hi, mapSome.mp q⟩)
  have mem : ∀ {a}, a ∈ oA σ' io ↔ a ∈ oA (vs.map some) io := fun {a} => by
    rw [mem_oA, mem_oA]
    constructor
    · rintro ⟨i, hi, q⟩
      obtain ⟨b, d, h1, _⟩ := e.own i hi
      have := pin hi h1
      rw [q] at this
      cases this
      exact ⟨i, hi, h1⟩
    · rintro ⟨i, hi, q⟩
      exact ⟨i, hi, pin hi q⟩
  have l1 : ∀ H, Le (hO H σ' io Z) (hO H (vs.map some) io Z) := fun H => Le.less fun a h => by
    rcases List.mem_append.mp h with h | h
    · exact List.mem_append_left _ (mem.mpr h)
    · exact List.mem_append_right _ h
  have lb : Le (hO H (vs.map some) io Z) (hO H' (vs.map some) io Z) := e'.bs.trans (l1 H')
  refine ⟨⟨by rw [List.length_map, List.length_map, backD_len]; exact hlen, fun i d hi q => ?_, fun i hi => ?_, e.ne, e'.zs, e.zo, e.bs.trans lb, fun p hp => by rw [hB] at hp; cases hp⟩, l1⟩
  · rw [mapSome, backD_out hi] at q
    obtain ⟨v, h1, h2⟩ := e.val i d hi (mapSome.mpr q)
    exact ⟨v, h1, h2.le lb⟩
  · obtain ⟨a, d, h1, h2, h3⟩ := e.own i hi
    obtain ⟨b, x, g1, g2, g3⟩ := e'.own i hi
    have := pin hi h1
    rw [g1] at this
    cases this
    exact ⟨a, x, h1, mapSome.mpr (backD_in hi (List.getElem?_eq_some_iff.mp (mapSome.mp h2)).1 g2), g3.mono rfl (l1 H')⟩
end
section
variable {P : Program} {w : World} {K : PySem.W.Frag} {mg : Str → Option Value} {base : Heap}
/-- what is asked of a def's body -/
def Asks (io : List Nat) (n : Nat) (sp : SpD) (u : US) : Prop := ∀ ds Q Ed, sp ds Q Ed → u { nx := fun Γ => Q .non (backD io ds Γ), rt := fun d Γ => Q d (backD io ds Γ), ex := fun x Γ => Ed x (backD io ds Γ) } (startD n ds)
theorem body_d {X : Cx} {body : List Stmt} {t : TS} {u : US} {io O' : List Nat} {sp : SpD} {E : XK} {vs : List V} {H : Hp} {Q : VK} {N : List Str} (h : DB K io io (WE E) [] O' X body t u) (hO' : ∀ i ∈ io, i ∈ O') (ha : Asks io N.length sp u) (hs : lift K io sp vs H Q E) (hl : vs.length ≤ N.length) :
    t { nx := fun _ H' => Q .non H', rt := Q } (start N vs) H := by
  obtain ⟨B, Z, ds, hB, e, q⟩ := hs
  have e0 := en_start (N := N) e hl
  refine h.r _ Z _ H _ _ _ (fun p hp => (pinned_mem.mp hp).1) e0 ?_ (ha ds _ _ q) ?_ ?_ (fun _ _ _ _ z => z.elim) (fun _ _ _ _ z => z.elim)
  · refine ⟨fun p hp => (pinned_mem.mp hp).1, ?_⟩
    intro σ' H' Γ' C fs dd fs' e' hdd r x
    obtain ⟨e1, l1⟩ := en_end e hB e'
    exact x backD_len dd fs' H' e1 ((l1 H').lc.xd hdd) (r.le (l1 H'))
  · intro σ' H' Γ' e' x
    obtain ⟨e1, l1⟩ := en_end e hB (e'.cut hO')
    have eq : backD io ds (cut io O' Γ') = backD io ds Γ' := by
      unfold backD
      congr 1
      funext i d
      by_cases hi : i ∈ io
      · rw [if_pos hi, if_pos hi, cut_in hi]
      · rw [if_neg hi, if_neg hi]
    rw [eq] at e1
    exact x backD_len .non H' e1 .non
  · intro v σ' H' d Γ' e' r x
    obtain ⟨e1, l1⟩ := en_end e hB e'
    exact x backD_len v H' e1 (r.le (l1 H'))
theorem calD {x : Str} {st : Stmt} {N ps : List Str} {k : Nat} {io : List Nat} {sp : SpD} (D : Df K mg x st) (S : FnScope N ps (defScope st))
    (hbd : ∀ (kV doc pm : Value) (an : Option Addr) (cdv ct : Value) (us : List Value), us.length = ps.length →
      bindArgs (PySem.W.fnOf x x (defArgs st) (defBody st) (defScope st) .none kV doc pm an cdv ct) ⟨us, []⟩ = pure (ps.zip us))
    (mono : sp.Mono) (len : ∀ ds Q E, sp ds Q E → ds.length = ps.length) (hl : ps.length ≤ N.length)
    (hb : ∀ (f : Addr) (cdv : Value) (A : Around) (out : List Env) (s : Shared) (H : Hp) (E : XK),
      Rm k (A.deeper (envOfC x (defScope st) s.heap.objs.size f cdv)) →
      ∃ t u O', DB K io io (WE E) [] O' (cxOf (L2.CX P w) P w K mg base N x (defScope st) f cdv A out s H E) (defBody st) t u ∧ (∀ i ∈ io, i ∈ O') ∧ Asks io N.length sp u) : CalD P w K mg base (k + 1) x io sp := by
  have vl : ∀ vs H Q E, lift K io sp vs H Q E → vs.length = ps.length := fun vs H Q E h => by
    obtain ⟨B, Z, ds, hB, e, q⟩ := h
    have := e.len
    rw [List.length_map, List.length_map] at this
    rw [this]
    exact len _ _ _ q
  refine ⟨D.calX S hbd vl fun f cdv A out s H vs Q E hr hs => ?_, mono⟩
  obtain ⟨t, u, O', h, hO', ha⟩ := hb f cdv A out s H E hr
  exact ⟨t, h.p ltX ownX, body_d h hO' ha hs (by rw [vl _ _ _ _ hs]; exact hl)⟩
end
end Dv
set_option Elab.async false
set_option linter.all false
set_option maxRecDepth 100000
set_option maxHeartbeats 4000000
/-! Dv8: operations of two values. -/
namespace Dv
open PySem PySem.Spec PyProof.Rows L2 Eu
/-! ### data as the kit's data -/
mutual
def D.py : D → Option PyData
  | .non => some .none
  | .bl b => some (.bool b)
  | .int i => some (.int i)
  | .str x => some (.str x)
  | .lst ds => match pys ds with
    | some ps => some (.list ps)
    | none => none
  | .tup ds => match pys ds with
    | some ps => some (.tuple ps)
    | none => none
  | _ => none
def pys : List D → Option (List PyData)
  | [] => some []
  | d :: ds => match D.py d, pys ds with
    | some p, some ps => some (p :: ps)
    | _, _ => none
end
mutual
theorem Rp.dp {K : PySem.W.Frag} {H : Hp} : ∀ {v : V} {d : D} {p : PyData}, Rp K H v d → d.py = some p → Dp K H v p
  | _, _, _, .non, e => by rw [D.py] at e; cases e; exact .non
  | _, _, _, .bl b, e => by rw [D.py] at e; cases e; exact .bl b
  | _, _, _, .int i, e => by rw [D.py] at e; cases e; exact .int i
  | _, _, _, .str x, e => by rw [D.py] at e; cases e; exact .str x
  | _, _, _, .lst (ds := ds) h1 h2, e => by
    rw [D.py] at e
    cases h : pys ds with
    | none => rw [h] at e; cases e
    | some ps => rw [h] at e; cases e; exact .lst (.inl (.inl h1)) (Rps.dp h2 h)
  | _, _, _, .tup (ds := ds) h1 h2, e => by
    rw [D.py] at e
    cases h : pys ds with
    | none => rw [h] at e; cases e
    | some ps => rw [h] at e; cases e; exact .tup h1 (Rps.dp h2 h)
  | _, _, _, .ty n, e => by simp [D.py] at e
  | _, _, _, .cls n, e => by simp [D.py] at e
  | _, _, _, .scr n, e => by simp [D.py] at e
  | _, _, _, .dct _ _, e => by simp [D.py] at e
  | _, _, _, .obj _ _, e => by simp [D.py] at e
  | _, _, _, .exn _ _, e => by simp [D.py] at e
theorem Rps.dp {K : PySem.W.Frag} {H : Hp} : ∀ {v : List V} {d : List D} {p : List PyData}, Rps K H v d → pys d = some p → DpAll K H v p
  | _, _, _, .nil, e => by rw [pys] at e; cases e; exact .nil
  | _, _, _, .cons (d := d) (ds := ds) h1 h2, e => by
    rw [pys] at e
    cases h : d.py with
    | none => rw [h] at e; cases e
    | some p =>
      cases h' : pys ds with
      | none => rw [h, h'] at e; cases e
      | some ps => rw [h, h'] at e; cases e; exact .cons (Rp.dp h1 h) (Rps.dp h2 h')
end
theorem Rp.up {K : PySem.W.Frag} {H : Hp} {A : List Addr} {v : V} {d : D} (r : Rp K (hidL H A) v d) : Rp K H v d := r.le hidL_le
theorem Rps.up {K : PySem.W.Frag} {H : Hp} {A : List Addr} {v : List V} {d : List D} (r : Rps K (hidL H A) v d) : Rps K H v d := r.le hidL_le
theorem out_of {A : List Addr} {H : Hp} (h : ∀ a ∈ A, H a ≠ none) {p : Addr} (np : H p = none) : p ∉ A := fun z => h p z np
section
variable {K : PySem.W.Frag} {X : Cx} {f : Value → Value → Sem Value} {r r' : R2} {g g' : D → D → Option D}
theorem or_op (h : OpR X f r) (h' : OpR X f r') : OpR X f (fun x y H Q => r x y H Q ∨ r' x y H Q) := fun pins s σ H x y v u Q I rx ry q =>
  q.elim (h pins s σ H x y v u Q I rx ry) (h' pins s σ H x y v u Q I rx ry)
/-! ### + -/
def dAdd : D → D → Option D
  | .int a, .int b => some (.int (a + b))
  | .str a, .str b => if a.length + b.length ≤ sizeLine then some (.str (a ++ b)) else none
  | .lst a, .lst b => if a.length + b.length ≤ sizeLine then some (.lst (a ++ b)) else none
  | .tup a, .tup b => if a.length + b.length ≤ sizeLine then some (.tup (a ++ b)) else none
  | _, _ => none
def rAddD (K : PySem.W.Frag) : R2 := fun x y H Q => ((rI0 fun i j => V.int (i + j)) x y H Q ∨ (∃ i j, x = V.str i ∧ y = V.str j ∧ i.length + j.length ≤ sizeLine ∧ Q (V.str (i ++ j)) H)) ∨ (rCat x y H Q ∨ rCatA K x y H Q)
theorem op_addD (hK : X.K = K := by rfl) : OpR X (binaryOp .Add) (rAddD K) := by
  subst hK
  exact or_op (or_op op_add op_add_str) (or_op op_cat op_catA)
theorem new_lst {A : List Addr} {H : Hp} {p : Addr} {vs : List V} {ds : List D} (np : H p = none) (n : p ∉ A) (h : Rps K (hidL H A) vs ds) : Rp K (hidL (upd H p (.lst vs)) A) (.ref p) (.lst ds) :=
  .lst (by rw [hidL_out n, upd_same]) (h.le (Le.new np))
theorem new_tup {A : List Addr} {H : Hp} {p : Addr} {vs : List V} {ds : List D} (np : H p = none) (n : p ∉ A) (h : Rps K (hidL H A) vs ds) : Rp K (hidL (upd H p (.tup vs)) A) (.ref p) (.tup ds) :=
  .tup (.inl (.inl (by rw [hidL_out n, upd_same]))) (h.le (Le.new np))
theorem rf_add : RfOp K (rAddD K) dAdd := by
  intro A H x y dx dy d Q hA rx ry e k
  cases rx <;> cases ry <;> first | (simp only [dAdd] at e; cases e; done) | skip
  · simp only [dAdd] at e; cases e
    exact .inl (.inl ⟨_, _, rfl, rfl, k _ H (Same.refl _) (.int _)⟩)
  · rename_i a b
    simp only [dAdd] at e
    split at e
    · rename_i hl
      cases e
      exact .inl (.inr ⟨_, _, rfl, rfl, hl, k _ H (Same.refl _) (.str _)⟩)
    · cases e
  · rename_i a vs ds h1 h2 b ws es g1 g2
    simp only [dAdd] at e
    split at e
    · rename_i hl
      cases e
      refine .inr (.inl ⟨a, b, vs, ws, rfl, rfl, (hidL_some h1).2, (hidL_some g1).2, by rw [h2.length, g2.length]; exact hl, fun p np => ?_⟩)
      exact k _ _ (same_new np) (new_lst np (out_of hA np) (h2.append g2))
    · cases e
  · rename_i a vs ds h1 h2 b ws es g1 g2
    simp only [dAdd] at e
    split at e
    · rename_i hl
      cases e
      refine .inr (.inr ⟨a, b, vs, ws, rfl, rfl, hidL_le.lc.tup h1, hidL_le.lc.tup g1, by rw [h2.length, g2.length]; exact hl, fun z => ?_, fun z z' => ?_, fun _ _ p np => ?_⟩)
      · subst z
        have : ds = [] := by cases h2; rfl
        subst this
        exact k _ H (Same.refl _) (.tup g1 g2)
      · subst z'
        have : es = [] := by cases g2; rfl
        subst this
        refine k _ H (Same.refl _) ?_
        rw [List.append_nil]
        exact .tup h1 h2
      · exact k _ _ (same_new np) (new_tup np (out_of hA np) (h2.append g2))
    · cases e
/-! ### -, *, %, // of ints -/
def dInt (C : Int → Int → Bool) (g : Int → Int → Int) : D → D → Option D
  | .int a, .int b => if C a b = true then some (.int (g a b)) else none
  | _, _ => none
theorem rf_int {C : Int → Int → Prop} {Cb : Int → Int → Bool} {g : Int → Int → Int} (hC : ∀ a b, Cb a b = true → C a b) : RfOp K (rI C fun i j => V.int (g i j)) (dInt Cb g) := by
  intro A H x y dx dy d Q hA rx ry e k
  cases rx <;> cases ry <;> first | (simp only [dInt] at e; cases e; done) | skip
  simp only [dInt] at e
  split at e
  · rename_i hc
    cases e
    exact ⟨_, _, rfl, rfl, hC _ _ hc, k _ H (Same.refl _) (.int _)⟩
  · cases e
def dSub : D → D → Option D
  | .int a, .int b => some (.int (a - b))
  | _, _ => none
theorem rf_sub : RfOp K (rI0 fun i j => V.int (i - j)) dSub := by
  intro A H x y dx dy d Q hA rx ry e k
  cases rx <;> cases ry <;> first | (simp only [dSub] at e; cases e; done) | skip
  simp only [dSub] at e
  cases e
  exact ⟨_, _, rfl, rfl, k _ H (Same.refl _) (.int _)⟩
def cMulB (i j : Int) : Bool := (decide (-2 ^ 64 < i) && decide (i < 2 ^ 64)) || (decide (-2 ^ 64 < j) && decide (j < 2 ^ 64))
theorem cMulB_ok : ∀ a b, cMulB a b = true → CMul a b := fun a b h => by
  unfold cMulB at h
  rw [Bool.or_eq_true, Bool.and_eq_true, Bool.and_eq_true, decide_eq_true_iff, decide_eq_true_iff, decide_eq_true_iff, decide_eq_true_iff] at h
  exact h
theorem rf_mul : RfOp K (rI CMul fun i j => V.int (i * j)) (dInt cMulB fun i j => i * j) := rf_int cMulB_ok
theorem rf_mod : RfOp K (rI (fun _ j => 0 < j) fun i j => V.int (i % j)) (dInt (fun _ j => decide (0 < j)) fun i j => i % j) := rf_int fun a b h => of_decide_eq_true h
theorem rf_fdiv : RfOp K (rI CDiv fun i j => V.int (i / j)) (dInt (fun _ j => decide (0 < j) && decide (j < 1073741824)) fun i j => i / j) := rf_int fun a b h => by
  rw [Bool.and_eq_true, decide_eq_true_iff, decide_eq_true_iff] at h
  exact h
/-! ### comparisons of ints -/
def dCmp (p : Int → Int → Bool) : D → D → Option D
  | .int a, .int b => some (.bl (p a b))
  | _, _ => none
theorem rf_cmp {p : Int → Int → Bool} : RfOp K (rI0 fun i j => V.bl (p i j)) (dCmp p) := by
  intro A H x y dx dy d Q hA rx ry e k
  cases rx <;> cases ry <;> first | (simp only [dCmp] at e; cases e; done) | skip
  simp only [dCmp] at e
  cases e
  exact ⟨_, _, rfl, rfl, k _ H (Same.refl _) (.bl _)⟩
/-! ### == of data -/
def dEqB (dx dy : D) : Option Bool := match dx.py, dy.py with
  | some p, some q => if (SeqAt.shaped p && SeqAt.shaped q) = true then some (PyData.eqv p q) else none
  | _, _ => none
def dEq (dx dy : D) : Option D := (dEqB dx dy).map .bl
def dNe (dx dy : D) : Option D := (dEqB dx dy).map fun b => .bl (!b)
theorem dEqB_some {dx dy : D} {b : Bool} (h : dEqB dx dy = some b) : ∃ p q, dx.py = some p ∧ dy.py = some q ∧ SeqAt.shaped p = true ∧ SeqAt.shaped q = true ∧ b = PyData.eqv p q := by
  unfold dEqB at h
  split at h
  · rename_i p q h1 h2
    split at h
    · rename_i hs
      rw [Bool.and_eq_true] at hs
      cases h
      exact ⟨p, q, h1, h2, hs.1, hs.2, rfl⟩
    · cases h
  · cases h
theorem rf_eq : RfOp K (rEqD K) dEq := by
  intro A H x y dx dy d Q hA rx ry e k
  unfold dEq at e
  cases h : dEqB dx dy with
  | none => rw [h] at e; cases e
  | some b =>
    rw [h] at e
    cases e
    obtain ⟨p, q, h1, h2, s1, s2, rfl⟩ := dEqB_some h
    exact ⟨p, q, rx.up.dp h1, ry.up.dp h2, s1, s2, k _ H (Same.refl _) (.bl _)⟩
theorem rf_ne : RfOp K (rNeD K) dNe := by
  intro A H x y dx dy d Q hA rx ry e k
  unfold dNe at e
  cases h : dEqB dx dy with
  | none => rw [h] at e; cases e
  | some b =>
    rw [h] at e
    cases e
    obtain ⟨p, q, h1, h2, s1, s2, rfl⟩ := dEqB_some h
    exact ⟨p, q, rx.up.dp h1, ry.up.dp h2, s1, s2, k _ H (Same.refl _) (.bl _)⟩
end
end Dv
set_option Elab.async false
set_option linter.all false
set_option maxRecDepth 100000
set_option maxHeartbeats 4000000
/-! Dv9: list comprehensions. -/
namespace Dv
open PySem PySem.Spec PyProof.Rows L2 Eu
def wipeD (Γ : Sl) : List Nat → Sl
  | [] => Γ
  | v :: vs => (wipeD Γ vs).set v none
/-- behind the block: its own slots are as they were -/
def unwipe (Γ Γb : Sl) : List Nat → Sl
  | [] => Γb
  | v :: vs => match Γ[v]? with
    | some x => (unwipe Γ Γb vs).set v x
    | none => unwipe Γ Γb vs
theorem wipeD_len {Γ : Sl} : ∀ vs : List Nat, (wipeD Γ vs).length = Γ.length
  | [] => rfl
  | v :: vs => by rw [wipeD, List.length_set, wipeD_len vs]
theorem unwipe_len {Γ Γb : Sl} (h : Γb.length = Γ.length) : ∀ vs : List Nat, (unwipe Γ Γb vs).length = Γ.length
  | [] => h
  | v :: vs => by
    rw [unwipe]
    split
    · rw [List.length_set, unwipe_len h vs]
    · exact unwipe_len h vs
theorem wipeD_out {Γ : Sl} {i : Nat} : ∀ {vs : List Nat}, i ∉ vs → (wipeD Γ vs)[i]? = Γ[i]?
  | [], _ => rfl
  | v :: vs, h => by
    rw [wipeD, List.getElem?_set_ne (show v ≠ i from fun z => h (z ▸ List.mem_cons_self)), wipeD_out fun z => h (List.mem_cons_of_mem _ z)]
theorem wipe_out {σ : L2.St} {i : Nat} : ∀ {vs : List Nat}, i ∉ vs → (wipe σ vs)[i]? = σ[i]?
  | [], _ => rfl
  | v :: vs, h => by
    rw [wipe, List.getElem?_set_ne (show v ≠ i from fun z => h (z ▸ List.mem_cons_self)), wipe_out fun z => h (List.mem_cons_of_mem _ z)]
theorem unwipe_out {Γ Γb : Sl} {i : Nat} : ∀ {vs : List Nat}, i ∉ vs → (unwipe Γ Γb vs)[i]? = Γb[i]?
  | [], _ => rfl
  | v :: vs, h => by
    rw [unwipe]
    split
    · rw [List.getElem?_set_ne (show v ≠ i from fun z => h (z ▸ List.mem_cons_self)), unwipe_out fun z => h (List.mem_cons_of_mem _ z)]
    · exact unwipe_out fun z => h (List.mem_cons_of_mem _ z)
theorem unwipe_in {Γ Γb : Sl} (hl : Γb.length = Γ.length) {i : Nat} : ∀ {vs : List Nat}, i ∈ vs → (unwipe Γ Γb vs)[i]? = Γ[i]?
  | v :: vs, h => by
    rw [unwipe]
    by_cases hv : v = i
    · subst hv
      split
      · rename_i x hx
        rw [List.getElem?_set_self (by rw [unwipe_len hl]; exact (List.getElem?_eq_some_iff.mp hx).1), hx]
      · rename_i hx
        have : Γ.length ≤ v := List.getElem?_eq_none_iff.mp hx
        rw [List.getElem?_eq_none (by rw [unwipe_len hl]; exact this), hx]
    · have hi : i ∈ vs := (List.mem_cons.mp h).resolve_left (Ne.symm hv)
      split
      · rw [List.getElem?_set_ne hv, unwipe_in hl hi]
      · exact unwipe_in hl hi
section
variable {K : PySem.W.Frag} {B : Bs} {Z : Zs} {O : List Nat} {σ : L2.St} {H H' : Hp} {Γ Γ' : Sl} {vs : List Nat}
theorem En.wiped (e : En K B Z O σ H Γ) : ∀ {vs : List Nat}, (∀ v ∈ vs, v ∉ O) → (∀ v ∈ vs, ∀ p ∈ B.ad, p.1 ≠ v) → En K B Z O (wipe σ vs) H (wipeD Γ vs)
  | [], _, _ => e
  | v :: vs, h1, h2 => (En.wiped e (fun x hx => h1 x (List.mem_cons_of_mem _ hx)) (fun x hx => h2 x (List.mem_cons_of_mem _ hx))).drop (h1 v List.mem_cons_self) (h2 v List.mem_cons_self)
theorem oA_wipe (h : ∀ v ∈ vs, v ∉ O) {a : Addr} : a ∈ oA (wipe σ vs) O ↔ a ∈ oA σ O := by
  rw [mem_oA, mem_oA]
  constructor
  · rintro ⟨i, hi, q⟩
    exact ⟨i, hi, by rw [← wipe_out (fun z => h i z hi)]; exact q⟩
  · rintro ⟨i, hi, q⟩
    exact ⟨i, hi, by rw [wipe_out (fun z => h i z hi)]; exact q⟩
theorem hO_wipe (h : ∀ v ∈ vs, v ∉ O) : hO H (wipe σ vs) O Z = hO H σ O Z := by
  funext c
  unfold hO
  have : (c ∈ oA (wipe σ vs) O ++ zA Z) ↔ (c ∈ oA σ O ++ zA Z) := by rw [List.mem_append, List.mem_append, oA_wipe h]
  by_cases hc : c ∈ oA σ O ++ zA Z
  · rw [hidL_in hc, hidL_in (this.mpr hc)]
  · rw [hidL_out hc, hidL_out (fun z => hc (this.mp z))]
/-- behind the block -/
theorem En.unwiped (e : En K B Z O σ H Γ) (h : ∀ v ∈ vs, v ∉ O) (e' : En K ⟨hO H σ O Z, B.ad⟩ Z O (wipe σ vs) H' Γ') : En K B Z O σ H' (unwipe Γ Γ' vs) := by
  have hl : Γ'.length = Γ.length := by rw [← e'.len, wipe_length, e.len]
  have q' : hO H' (wipe σ vs) O Z = hO H' σ O Z := hO_wipe h
  have l : Le (hO H σ O Z) (hO H' σ O Z) := by rw [← q']; exact e'.bs
  refine ⟨by rw [unwipe_len hl]; exact e.len, fun i d hi q => ?_, fun i hi => ?_, e.ne, e'.zs, e.zo, e.bs.trans l, e.ad⟩
  · by_cases hv : i ∈ vs
    · rw [unwipe_in hl hv] at q
      obtain ⟨v, h1, h2⟩ := e.val i d hi q
      exact ⟨v, h1, h2.le l⟩
    · rw [unwipe_out hv] at q
      obtain ⟨v, h1, h2⟩ := e'.val i d hi q
      rw [wipe_out hv] at h1
      exact ⟨v, h1, by rw [← q']; exact h2⟩
  · have hv : i ∉ vs := fun z => h i z hi
    obtain ⟨a, d, h1, h2, h3⟩ := e'.own i hi
    rw [wipe_out hv] at h1
    exact ⟨a, d, h1, by rw [unwipe_out hv]; exact h2, by rw [← q']; exact h3⟩
theorem hO_rez {p : Addr} {o o' : HO} : hO (upd H p o') σ O ((p, o') :: Z) = hO H σ O ((p, o) :: Z) := by
  funext c
  unfold hO
  have e : zA ((p, o') :: Z) = zA ((p, o) :: Z) := rfl
  rw [e]
  by_cases hc : c ∈ oA σ O ++ zA ((p, o) :: Z)
  · rw [hidL_in hc, hidL_in hc]
  · rw [hidL_out hc, hidL_out hc, upd_ne]
    intro z
    exact hc (List.mem_append_right _ (z ▸ List.mem_cons_self))
/-- what is hidden changes -/
theorem En.rez {p : Addr} {o o' : HO} (e : En K B ((p, o) :: Z) O σ H Γ) (nz : p ∉ zA Z) : En K B ((p, o') :: Z) O σ (upd H p o') Γ := by
  have po : p ∉ oA σ O := e.zo (p, o) List.mem_cons_self
  have q : hO (upd H p o') σ O ((p, o') :: Z) = hO H σ O ((p, o) :: Z) := hO_rez
  refine ⟨e.len, fun i d hi h => by rw [q]; exact e.val i d hi h, fun i hi => ?_, e.ne, fun x hx => ?_, fun x hx => ?_, by rw [q]; exact e.bs, e.ad⟩
  · obtain ⟨a, d, h1, h2, h3⟩ := e.own i hi
    refine ⟨a, d, h1, h2, ?_⟩
    rw [q]
    exact h3.mono (upd_ne fun z => po (z ▸ mem_oA.mpr ⟨i, hi, h1⟩)) (Le.refl _)
  · rcases List.mem_cons.mp hx with rfl | hx
    · exact upd_same
    · rw [upd_ne (show x.1 ≠ p from fun z => nz (by rw [← z]; exact List.mem_map.mpr ⟨x, hx, rfl⟩))]
      exact e.zs x (List.mem_cons_of_mem _ hx)
  · rcases List.mem_cons.mp hx with rfl | hx
    · exact po
    · exact e.zo x (List.mem_cons_of_mem _ hx)
end
theorem hO_newz {H : Hp} {σ : L2.St} {O : List Nat} {Z : Zs} {p : Addr} {o : HO} (np : H p = none) : hO (upd H p o) σ O ((p, o) :: Z) = hO H σ O Z := by
  funext c
  by_cases hc : c = p
  · subst hc
    rw [show hO (upd H c o) σ O ((c, o) :: Z) c = none from hidL_in (List.mem_append_right _ List.mem_cons_self)]
    by_cases h : c ∈ oA σ O ++ zA Z
    · exact (hidL_in h).symm
    · exact (np.symm.trans (hidL_out h).symm)
  · by_cases h : c ∈ oA σ O ++ zA Z
    · rw [show hO H σ O Z c = none from hidL_in h]
      refine hidL_in ?_
      rcases List.mem_append.mp h with h | h
      · exact List.mem_append_left _ h
      · exact List.mem_append_right _ (List.mem_cons_of_mem _ h)
    · rw [show hO H σ O Z c = H c from hidL_out h]
      refine (hidL_out ?_).trans (upd_ne hc)
      intro z
      rcases List.mem_append.mp z with z | z
      · exact h (List.mem_append_left _ z)
      · rcases List.mem_cons.mp z with z | z
        · exact hc z
        · exact h (List.mem_append_right _ z)
/-- a target that sets slots of vs alone -/
structure GOnly (g : TG) (vs : List Nat) : Prop where
  only : ∀ v σ H (Q : L2.St → Hp → Prop), g v σ H Q → g v σ H fun σ2 H2 => wipe σ2 vs = wipe σ vs ∧ Q σ2 H2
  mono : ∀ v σ H (A B : L2.St → Hp → Prop), (∀ σ H, A σ H → B σ H) → g v σ H A → g v σ H B
structure GsOnly (g : TGs) (vs : List Nat) : Prop where
  only : ∀ xs σ H (Q : L2.St → Hp → Prop), g xs σ H Q → g xs σ H fun σ2 H2 => wipe σ2 vs = wipe σ vs ∧ Q σ2 H2
  mono : ∀ v σ H (A B : L2.St → Hp → Prop), (∀ σ H, A σ H → B σ H) → g v σ H A → g v σ H B
theorem wipe_push {σ : L2.St} {i : Nat} {x : Option V} : ∀ {ws : List Nat}, i ∉ ws → wipe (σ.set i x) ws = (wipe σ ws).set i x
  | [], _ => rfl
  | w :: ws, h => by
    rw [wipe, wipe, wipe_push fun z => h (List.mem_cons_of_mem _ z), List.set_comm]
    exact fun z => h (z ▸ List.mem_cons_self)
theorem wipe_set {σ : L2.St} {i : Nat} {x : Option V} : ∀ {vs : List Nat}, i ∈ vs → wipe (σ.set i x) vs = wipe σ vs
  | v :: vs, h => by
    rw [wipe, wipe]
    by_cases hi : i ∈ vs
    · rw [wipe_set hi]
    · have hv : i = v := (List.mem_cons.mp h).resolve_right hi
      subst hv
      rw [wipe_push hi, List.set_set]
theorem wipe_wipe {σ : L2.St} : ∀ {vs ws : List Nat}, (∀ v ∈ ws, v ∈ vs) → wipe (wipe σ ws) vs = wipe σ vs
  | vs, [], _ => rfl
  | vs, w :: ws, h => by
    rw [wipe, wipe_set (h w List.mem_cons_self), wipe_wipe fun v hv => h v (List.mem_cons_of_mem _ hv)]
theorem go_name {i : Nat} {vs : List Nat} (h : i ∈ vs) : GOnly (gName i) vs := ⟨fun v σ H Q q => ⟨wipe_set h, q⟩, fun _ _ _ _ _ h q => h _ _ q⟩
theorem gos_nil {vs : List Nat} : GsOnly gNil vs := ⟨fun xs σ H Q q => ⟨q.1, rfl, q.2⟩, fun _ _ _ _ _ h q => ⟨q.1, h _ _ q.2⟩⟩
theorem gos_cons {g : TG} {gs : TGs} {vs : List Nat} (h1 : GOnly g vs) (h2 : GsOnly gs vs) : GsOnly (gCons g gs) vs := ⟨fun xs σ H Q q => by
  obtain ⟨v, r, e, q⟩ := q
  refine ⟨v, r, e, ?_⟩
  refine h1.mono _ _ _ _ _ (fun σ1 H1 h => ?_) (h1.only _ _ _ _ q)
  refine h2.mono _ _ _ _ _ (fun σ2 H2 h' => ⟨h'.1.trans h.1, h'.2⟩) (h2.only _ _ _ _ h.2), fun v σ H A B h q => by
  obtain ⟨v, r, e, q⟩ := q
  exact ⟨v, r, e, h1.mono _ _ _ _ _ (fun σ1 H1 z => h2.mono _ _ _ _ _ h z) q⟩⟩
theorem go_tup {K : PySem.W.Frag} {n : Nat} {gs : TGs} {vs : List Nat} (h : GsOnly gs vs) : GOnly (gTup K n gs) vs := ⟨fun v σ H Q q => by
  obtain ⟨a, xs, e1, e2, e3, q⟩ := q
  exact ⟨a, xs, e1, e2, e3, h.only _ _ _ _ q⟩, fun v σ H A B hm q => by
  obtain ⟨a, xs, e1, e2, e3, q⟩ := q
  exact ⟨a, xs, e1, e2, e3, h.mono _ _ _ _ _ hm q⟩⟩
abbrev Ex0 : UX := fun _ _ => False
theorem exo0 {K : PySem.W.Frag} {B : Bs} {Z : Zs} {Ox : List Nat} {W : WX} (h : ∀ p ∈ B.ad, p.1 ∈ Ox) : ExO K B Z Ox W Ex0 := ⟨h, fun _ _ _ _ _ _ _ _ _ _ z => z.elim⟩
def uYes : UT := fun Γ Q _ => Q true Γ
def uLcL (vs : List Nat) (ug : UG) (ut : UT) (ue : UE) (Q : List D → Sl → Prop) : List D → List D → Sl → Prop
  | [], acc, Γ => Q acc Γ
  | d :: ds, acc, Γ => ug d Γ fun Γ1 => ut Γ1 (fun b Γ2 => if b = true then ue Γ2 (fun y Γ3 => uLcL vs ug ut ue Q ds (acc ++ [y]) (wipeD Γ3 vs)) Ex0 else uLcL vs ug ut ue Q ds acc (wipeD Γ2 vs)) Ex0
def uLc (vs : List Nat) (ui : UA) (ug : UG) (ut : UT) (ue : UE) : UE := fun Γ Q Ex => ui Γ (fun ds Γ1 => ds.length ≤ sizeLine ∧ uLcL vs ug ut ue (fun ys Γ2 => Q (.lst ys) (unwipe Γ1 Γ2 vs)) ds [] (wipeD Γ1 vs)) Ex
structure DTs (K : PySem.W.Frag) (Ox O : List Nat) (W : WX) (X : Cx) (es : List Expr) (t : TT) (u : UT) : Prop where
  p : Lt X W → PTs X es t
  r : RfT K Ox O W t u
section
variable {K : PySem.W.Frag} {Ox O : List Nat} {W : WX} {X : Cx} {c elt tg iter : Expr} {ifs : List Expr} {scope : Scope} {own : List (Str × Nat)} {pos : Pos} {wi : TI} {ui : UA} {g : TG} {ug : UG} {tt : TT} {ut : UT} {te : TE} {ue : UE}
theorem dts_nil : DTs K Ox O W X [] tYes uYes := ⟨fun g => pts_nil, fun B Z σ H Γ Q Qd Ex e ex hu k => k true H Γ e hu⟩
theorem dts_one (h : DT K Ox O W X c tt ut) : DTs K Ox O W X [c] tt ut := ⟨fun g => pts_one (h.p g), h.r⟩
theorem En.rezero {K : PySem.W.Frag} {B : Bs} {Z : Zs} {O : List Nat} {σ : L2.St} {H : Hp} {Γ : Sl} {vs : List Nat} (e : En K B Z O σ H Γ) (hvO : ∀ v ∈ vs, v ∉ O) (hBv : ∀ v ∈ vs, ∀ p ∈ B.ad, p.1 ≠ v) {σ0 : L2.St} (hw : wipe σ vs = wipe σ0 vs) : En K B Z O (wipe σ0 vs) H (wipeD Γ vs) := by
  rw [← hw]
  exact e.wiped hvO hBv
theorem lc_coreD {vs : List Nat} {B : Bs} {Z : Zs} {σ : L2.St} {H1 : Hp} {Γ1 : Sl} {Q : VK} {Qd : D → Sl → Prop} {J : It} {ds : List D} (hvO : ∀ v ∈ vs, v ∉ O) (hvX : ∀ v ∈ vs, v ∉ Ox)
    (hg : ∀ B Z σ H Γ v d (Q : L2.St → Hp → Prop) (Qd : Sl → Prop), (∀ p ∈ B.ad, p.1 ∈ Ox) → En K B Z O σ H Γ → Rp K (hO H σ O Z) v d → ug d Γ Qd → (∀ σ' H' Γ', En K B Z O σ' H' Γ' → Qd Γ' → Q σ' H') → g v σ H Q)
    (hgo : GOnly g vs) (ht : RfT K Ox O W0 tt ut) (he : RfE K Ox O W0 te ue) (hB : ∀ p ∈ B.ad, p.1 ∈ Ox) (e1 : En K B Z O σ H1 Γ1) (J1 : ItD K (hO H1 σ O Z) J ds) (hsz : ds.length ≤ sizeLine) (q1 : uLcL vs ug ut ue (fun ys Γ2 => Qd (.lst ys) (unwipe Γ1 Γ2 vs)) ds [] (wipeD Γ1 vs))
    (k : ∀ p o H' d Γ', En K B ((p, o) :: Z) O σ H' Γ' → p ∉ zA Z → Own K (hO H' σ O ((p, o) :: Z)) H' p d → (∀ m, d ≠ .bag m) → Qd d Γ' → Q (.ref p) H') :
    ∀ D, H1 D = none → ∃ W : Nat → Nat → Hp → Prop, (∃ m, W 0 m (upd H1 D (.lst []))) ∧ ∀ i m H, W i m H →
      (J.stop i H ∧ Q (.ref D) H) ∨ (J.go i H ∧ ∃ Nx : Hp → Prop, (∀ H', Nx H' → ∃ m', m' < m ∧ W (i + 1) m' H') ∧ ∀ x H', J.yld i H x H' → g x (wipe σ vs) H' fun σ2 H2 => wipe σ2 vs = wipe σ vs ∧ tt σ2 H2 fun b H3 =>
        if b = true then te σ2 H3 fun y H4 => ∃ acc, H4 D = some (.lst acc) ∧ acc.length < sizeLine ∧ Nx (upd H4 D (.lst (acc ++ [y]))) else Nx H3) := by
  obtain ⟨Jg, Js, Jy⟩ := J1
  intro Dn nD
  have fr := e1.fresh nD
  have nz : Dn ∉ zA Z := fun z => fr (List.mem_append_right _ z)
  have hBv : ∀ v ∈ vs, ∀ p ∈ B.ad, p.1 ≠ v := fun v hv p hp z => hvX v hv (z ▸ hB p hp)
  let B1 : Bs := ⟨hO H1 σ O Z, B.ad⟩
  have e2 : En K B1 ((Dn, .lst []) :: Z) O (wipe σ vs) (upd H1 Dn (.lst [])) (wipeD Γ1 vs) := (e1.self.newz nD).wiped hvO hBv
  let Qe : List D → Sl → Prop := fun ys Γ2 => Qd (.lst ys) (unwipe Γ1 Γ2 vs)
  let St : Nat → Hp → Prop := fun i H' => ∃ Γ' ys acc, acc.length ≤ i ∧ En K B1 ((Dn, .lst ys) :: Z) O (wipe σ vs) H' Γ' ∧ Rps K (hO H' (wipe σ vs) O ((Dn, .lst ys) :: Z)) ys acc ∧ uLcL vs ug ut ue Qe (ds.drop i) acc Γ'
  refine ⟨fun i m H' => m = ds.length - i ∧ i ≤ ds.length ∧ St i H', ⟨ds.length, rfl, Nat.zero_le _, _, [], [], Nat.le_refl _, e2, .nil, q1⟩, ?_⟩
  rintro i m H' ⟨rfl, hi, Γ', ys, acc, hacc, e', ry, q'⟩
  by_cases hl : i < ds.length
  · have ed : ds.drop i = ds[i] :: ds.drop (i + 1) := List.drop_eq_getElem_cons hl
    have eg : ds[i]? = some ds[i] := List.getElem?_eq_getElem hl
    rw [ed] at q'
    have l0 : Le (hO H1 σ O Z) H' := e'.bs.trans hidL_le
    refine .inr ⟨Jg i _ H' eg l0, St (i + 1), fun H2 x => ⟨_, by omega, rfl, hl, x⟩, fun x H2 y => ?_⟩
    obtain ⟨s2, r2⟩ := Jy i _ H' x H2 eg l0 y
    have r2 := r2 _ (fun a ha => e'.live ha) e'.bs
    have e3 := e'.same s2
    have ry2 : Rps K (hO H2 (wipe σ vs) O ((Dn, .lst ys) :: Z)) ys acc := ry.le ((Le.of s2).hide)
    have step := hg ⟨hO H2 (wipe σ vs) O ((Dn, .lst ys) :: Z), B.ad⟩ _ (wipe σ vs) H2 Γ' x _ (fun σ3 H3 => ∃ Γ3, En K ⟨hO H2 (wipe σ vs) O ((Dn, .lst ys) :: Z), B.ad⟩ ((Dn, .lst ys) :: Z) O σ3 H3 Γ3 ∧ ut Γ3 (fun b Γ2 => if b = true then ue Γ2 (fun y Γ3 => uLcL vs ug ut ue Qe (ds.drop (i + 1)) (acc ++ [y]) (wipeD Γ3 vs)) Ex0 else uLcL vs ug ut ue Qe (ds.drop (i + 1)) acc (wipeD Γ2 vs)) Ex0) _ hB e3.self r2 q' (fun σ3 H3 Γ3 e4 q4 => ⟨Γ3, e4, q4⟩)
    refine hgo.mono _ _ _ _ _ (fun σ3 H3 h => ?_) (hgo.only _ _ _ _ step)
    obtain ⟨hw, Γ3, e4, q4⟩ := h
    have hw : wipe σ3 vs = wipe σ vs := hw.trans (wipe_wipe fun v hv => hv)
    refine ⟨hw, ?_⟩
    have ry3 := ry2.le e4.le
    refine ht ⟨hO H3 σ3 O ((Dn, .lst ys) :: Z), B.ad⟩ _ σ3 H3 Γ3 _ _ _ e4.self (exo0 hB) q4 fun b H4 Γ4 e5 q5 => ?_
    have ry4 := ry3.le e5.le
    have hq : ∀ {H : Hp} {ys : List V}, hO H σ3 O ((Dn, .lst ys) :: Z) = hO H (wipe σ vs) O ((Dn, .lst ys) :: Z) := fun {H ys} => by rw [← hw, hO_wipe hvO]
    cases b with
    | false =>
      rw [if_neg (by decide)] at q5
      rw [if_neg (by decide)]
      refine ⟨_, ys, acc, by omega, ?_, by rw [← hq]; exact ry4, q5⟩
      exact (e3.back (e4.back e5)).rezero hvO hBv hw
    | true =>
      rw [if_pos rfl] at q5
      rw [if_pos rfl]
      refine he ⟨hO H4 σ3 O ((Dn, .lst ys) :: Z), B.ad⟩ _ σ3 H4 Γ4 _ _ _ e5.self (exo0 hB) q5 fun y' H5 dy Γ5 e6 r6 q6 => ?_
      have ry5 := ry4.le e6.le
      have e7 := (e3.back (e4.back (e5.back e6)))
      refine ⟨ys, e7.zs (Dn, .lst ys) List.mem_cons_self, by have := ry5.length; omega, ?_⟩
      refine ⟨_, ys ++ [y'], acc ++ [dy], by rw [List.length_append, List.length_singleton]; omega, (e7.rezero hvO hBv hw).rez nz, ?_, q6⟩
      rw [hO_rez, ← hq]
      exact ry5.append (.cons r6 .nil)
  · have ei : i = ds.length := by omega
    subst ei
    rw [List.drop_length] at q'
    refine .inl ⟨Js H' (e'.bs.trans hidL_le), ?_⟩
    have e8 := e1.newz (o := .lst ys) nD
    have e9 := e8.unwiped (vs := vs) (H' := H') (Γ' := Γ') hvO (by rw [hO_newz nD]; exact e')
    refine k Dn (.lst ys) H' (.lst acc) _ e9 nz ⟨ys, e'.zs (Dn, .lst ys) List.mem_cons_self, ?_⟩ (fun m z => nomatch z) q'
    rw [← hO_wipe hvO]
    exact ry
theorem rf_lc {vs : List Nat} (hvO : ∀ v ∈ vs, v ∉ O) (hvX : ∀ v ∈ vs, v ∉ Ox) (hi : RfI K Ox O W wi ui)
    (hg : ∀ B Z σ H Γ v d (Q : L2.St → Hp → Prop) (Qd : Sl → Prop), (∀ p ∈ B.ad, p.1 ∈ Ox) → En K B Z O σ H Γ → Rp K (hO H σ O Z) v d → ug d Γ Qd → (∀ σ' H' Γ', En K B Z O σ' H' Γ' → Qd Γ' → Q σ' H') → g v σ H Q)
    (hgo : GOnly g vs) (ht : RfT K Ox O W0 tt ut) (he : RfE K Ox O W0 te ue) : RfL K Ox O W (tLc wi g tt te vs) (uLc vs ui ug ut ue) := by
  intro B Z σ H Γ Q Qd Ex e ex hu k
  refine hi B Z σ H Γ _ _ Ex e ex hu fun J H1 ds Γ1 e1 J1 q1 => ?_
  exact lc_coreD hvO hvX hg hgo ht he ex.ad e1 J1 q1.1 q1.2 k
theorem dl_lc (hc : X.calm = true) (hN : X.N.Nodup) (hvO : ∀ v ∈ own.map (·.2), v ∉ O) (hvX : ∀ v ∈ own.map (·.2), v ∉ Ox) (hi : DI K Ox O W X tg iter wi ui) (ok : BlkOk X.N X.env.scope scope own)
    (hg : ∀ (s : Shared) (H : Hp) (C : Addr) (cl : List (Str × Addr)) (fp : List Addr), DG K Ox O (X.blk s H scope (compEnvC scope cl C X.env) fp) tg g ug) (hgo : GOnly g (own.map (·.2)))
    (ht : ∀ (s : Shared) (H : Hp) (C : Addr) (cl : List (Str × Addr)) (fp : List Addr), DTs K Ox O W0 (X.blk s H scope (compEnvC scope cl C X.env) fp) ifs tt ut)
    (he : ∀ (s : Shared) (H : Hp) (C : Addr) (cl : List (Str × Addr)) (fp : List Addr), DE K Ox O W0 (X.blk s H scope (compEnvC scope cl C X.env) fp) elt te ue) (hs : ∀ x, foldedSetIterable iter X.env x = pure x := by intro _; rfl) :
    DL K Ox O W X (.ListComp elt [⟨tg, iter, ifs, 0⟩] scope pos) (tLc wi g tt te (own.map (·.2))) (uLc (own.map (·.2)) ui ug ut ue) :=
  ⟨fun g => pe_lc hc hN (hi.p g) ok (fun s H C cl fp => (hg s H C cl fp).p) (fun s H C cl fp => (ht s H C cl fp).p lt0) (fun s H C cl fp => (he s H C cl fp).p lt0) hs,
    rf_lc hvO hvX hi.r (hg X.s_0 X.H_0 0 [] []).r hgo (ht X.s_0 X.H_0 0 [] []).r (he X.s_0 X.H_0 0 [] []).r⟩
theorem lcL_mono {vs : List Nat} {Q Q' : List D → Sl → Prop} (hm : ∀ Γ (A B : Bool → Sl → Prop), (∀ b Γ, A b Γ → B b Γ) → ut Γ A Ex0 → ut Γ B Ex0) (he : ∀ Γ (A B : D → Sl → Prop), (∀ b Γ, A b Γ → B b Γ) → ue Γ A Ex0 → ue Γ B Ex0) (hg : ∀ d Γ (A B : Sl → Prop), (∀ Γ, A Γ → B Γ) → ug d Γ A → ug d Γ B)
    (hQ : ∀ ys Γ, Q ys Γ → Q' ys Γ) : ∀ ds acc Γ, uLcL vs ug ut ue Q ds acc Γ → uLcL vs ug ut ue Q' ds acc Γ
  | [], acc, Γ, q => hQ _ _ q
  | d :: ds, acc, Γ, q => by
    refine hg d Γ _ _ (fun Γ1 q1 => hm Γ1 _ _ (fun b Γ2 q2 => ?_) q1) q
    cases b with
    | true =>
      rw [if_pos rfl] at q2 ⊢
      exact he Γ2 _ _ (fun y Γ3 q3 => lcL_mono hm he hg hQ ds _ _ q3) q2
    | false =>
      rw [if_neg (by decide)] at q2 ⊢
      exact lcL_mono hm he hg hQ ds _ _ q2
end
end Dv
set_option Elab.async false
set_option linter.all false
set_option maxRecDepth 100000
set_option maxHeartbeats 4000000
/-! Dv10: places, members, dicts, built-in functions; owned lists and dicts read and changed. -/
namespace Dv
open PySem PySem.Spec PyProof.Rows L2 Eu
section
variable {K : PySem.W.Frag} {Ox O O1 Ol : List Nat} {W : WX} {X : Cx} {a b c : Expr} {es : List Expr} {ta tb tc : TE} {ua ub uc : UE} {pos p apos cpos : Pos} {r r' : R2} {f f' : D → D → Option D} {tr : TA} {ur : UA} {i : Nat} {x : Str}
/-! ### -x, is None -/
def uNeg (ua : UE) : UE := fun Γ Q Ex => ua Γ (fun d Γ1 => ∃ n, d = .int n ∧ Q (.int (-n)) Γ1) Ex
theorem de_neg (h : DE K Ox O W X a ta ua) : DE K Ox O W X (.UnaryOp .USub a pos) (tUn (rU fun i => V.int (-i)) ta) (uNeg ua) := ⟨fun g => pe_un un_neg (h.p g), by
  intro B Z σ H Γ Q Qd Ex e ex hu k
  refine h.r B Z σ H Γ _ _ Ex e ex hu fun v H1 d Γ1 e1 r1 q1 => ?_
  obtain ⟨n, rfl, q⟩ := q1
  cases r1
  exact ⟨n, rfl, k _ H1 _ Γ1 e1 (.int _) q⟩⟩
def isNon : D → Bool
  | .non => true
  | _ => false
theorem Rp.isNon {H : Hp} {v : V} {d : D} (h : Rp K H v d) : decide (v = .non) = Dv.isNon d := by cases h <;> rfl
def dIsN : D → D → Option D
  | d, .non => some (.bl (isNon d))
  | _, _ => none
def dNotN : D → D → Option D
  | d, .non => some (.bl (!isNon d))
  | _, _ => none
theorem rf_isN : RfOp K (fun x y H Q => y = V.non ∧ Q (V.bl (decide (x = V.non))) H) dIsN := by
  intro A H x y dx dy d Q hA rx ry e k
  cases ry <;> first | (simp only [dIsN] at e; cases e; done) | skip
  simp only [dIsN] at e
  cases e
  refine ⟨rfl, ?_⟩
  rw [rx.isNon]
  exact k _ H (Same.refl _) (.bl _)
theorem rf_notN : RfOp K (fun x y H Q => y = V.non ∧ Q (V.bl !decide (x = V.non)) H) dNotN := by
  intro A H x y dx dy d Q hA rx ry e k
  cases ry <;> first | (simp only [dNotN] at e; cases e; done) | skip
  simp only [dNotN] at e
  cases e
  refine ⟨rfl, ?_⟩
  rw [rx.isNon]
  exact k _ H (Same.refl _) (.bl _)
/-! ### a < b < c -/
def uChain (f f' : D → D → Option D) (ua ub uc : UE) : UE := fun Γ Q Ex => ua Γ (fun x Γ1 => ub Γ1 (fun y Γ2 => ∃ k, f x y = some (.bl k) ∧ if k = true then uc Γ2 (fun z Γ3 => ∃ d, f' y z = some d ∧ Q d Γ3) Ex else Q (.bl false) Γ2) Ex) Ex
theorem rf_chain (h : RfOp K r f) (h' : RfOp K r' f') (ha : RfE K Ox O W ta ua) (hb : RfE K Ox O W tb ub) (hc : RfE K Ox O W tc uc) : RfE K Ox O W (tChain r r' ta tb tc) (uChain f f' ua ub uc) := by
  intro B Z σ H Γ Q Qd Ex e ex hu kk
  refine ha B Z σ H Γ _ _ Ex e ex hu fun x H1 dx Γ1 e1 r1 q1 => ?_
  refine hb ⟨hO H1 σ O Z, B.ad⟩ Z σ H1 Γ1 _ _ Ex e1.self (ex.at e1) q1 fun y H2 dy Γ2 e2 r2 q2 => ?_
  obtain ⟨k, hf, q⟩ := q2
  refine h _ H2 x y dx dy _ _ (fun a ha => e2.live ha) (r1.le e2.le) r2 hf fun v H3 s3 r3 => ?_
  cases r3
  refine ⟨k, rfl, ?_⟩
  have e3 := (e1.back e2).same s3
  cases k with
  | false => exact kk _ H3 _ Γ2 e3 (.bl false) q
  | true =>
    refine hc ⟨hO H3 σ O Z, B.ad⟩ Z σ H3 Γ2 _ _ Ex e3.self (ex.at e3) q fun z H4 dz Γ4 e4 r4 q4 => ?_
    obtain ⟨d, hf', q⟩ := q4
    refine h' _ H4 y z dy dz d Q (fun a ha => e4.live ha) ((r2.le ((Le.of s3).hide)).le e4.le) r4 hf' fun v H5 s5 r5 => ?_
    exact kk v H5 d Γ4 ((e3.back e4).same s5) r5 q
theorem de_chain {op op' : CmpOp} (ho : OpR X (compareOp op) r) (ho' : OpR X (compareOp op') r') (hf : RfOp K r f) (hf' : RfOp K r' f') (ha : DE K Ox O W X a ta ua) (hb : DE K Ox O W X b tb ub) (hc : DE K Ox O W X c tc uc) (hm : lastMarks [op, op'] [b, c] = false := by first | rfl | decide) : DE K Ox O W X (.Compare a [op, op'] [b, c] pos) (tChain r r' ta tb tc) (uChain f f' ua ub uc) :=
  ⟨fun g => pe_chain ho ho' (ha.p g) (hb.p g) (hc.p g) hm, rf_chain hf hf' ha.r hb.r hc.r⟩
theorem dt_chain {op op' : CmpOp} (ho : OpR X (compareOp op) r) (ho' : OpR X (compareOp op') r') (hf : RfOp K r f) (hf' : RfOp K r' f') (ha : DE K Ox O W X a ta ua) (hb : DE K Ox O W X b tb ub) (hc : DE K Ox O W X c tc uc) (hm : lastMarks [op, op'] [b, c] = false := by first | rfl | decide) : DT K Ox O W X (.Compare a [op, op'] [b, c] pos) (tTest (tChain r r' ta tb tc)) (uB (uChain f f' ua ub uc)) :=
  ⟨fun g => pt_chain ho ho' (ha.p g) (hb.p g) (hc.p g) hm, rf_b (rf_chain hf hf' ha.r hb.r hc.r)⟩
/-! ### xs[i] -/
def dIx : D → D → Option D
  | .lst xs, .int i => atI xs i
  | .tup xs, .int i => atI xs i
  | .scr ns, .int i => (atI ns i).map .int
  | .str z, .int i => if z.length ≤ sizeLine then (atI z.cps.toList i).map fun c => .str ⟨#[c]⟩ else none
  | _, _ => none
def rIxD (K : PySem.W.Frag) : R2 := fun x y H Q => (rIxL K x y H Q ∨ rIxT K x y H Q) ∨ rIxS x y H Q
theorem ix_D (hK : X.K = K := by rfl) : IxR X (rIxD K) := by
  subst hK
  exact IxR.or (IxR.or ix_list ix_tup) ix_str
theorem at_rel {H : Hp} {vs : List V} {ds : List D} {i : Int} {d : D} (h : Rps K H vs ds) (e : atI ds i = some d) : ∃ v, atI vs i = some v ∧ Rp K H v d := by
  unfold atI at e ⊢
  rw [h.length]
  cases hn : ixN ds.length i with
  | none => rw [hn] at e; cases e
  | some j =>
    rw [hn] at e
    exact h.at e
theorem rf_ix : RfOp K (rIxD K) dIx := by
  intro A H x y dx dy d Q hA rx ry e k
  cases rx <;> cases ry <;> first | (simp only [dIx] at e; cases e; done) | skip
  · rename_i z i
    simp only [dIx] at e
    split at e
    · rename_i hl
      cases h : atI z.cps.toList i with
      | none => rw [h] at e; cases e
      | some c =>
        rw [h] at e; cases e
        exact .inr ⟨z, i, c, rfl, rfl, hl, h, k _ H (Same.refl _) (.str _)⟩
    · cases e
  · rename_i a ns s i
    simp only [dIx] at e
    cases h : atI ns i with
    | none => rw [h] at e; cases e
    | some c =>
      rw [h] at e; cases e
      refine .inl (.inl ⟨a, ns.map V.int, i, .int c, rfl, rfl, hidL_le.lc.seq s, ?_, k _ H (Same.refl _) (.int _)⟩)
      unfold atI at h ⊢
      rw [List.length_map]
      cases hn : ixN ns.length i with
      | none => rw [hn] at h; cases h
      | some j =>
        rw [hn] at h
        show (List.map V.int ns)[j]? = _
        rw [List.getElem?_map, show ns[j]? = some c from h]
        rfl
  · rename_i a vs ds h1 h2 i
    simp only [dIx] at e
    obtain ⟨v, g1, g2⟩ := at_rel h2 e
    exact .inl (.inl ⟨a, vs, i, v, rfl, rfl, .inl (.inl (hidL_some h1).2), g1, k _ H (Same.refl _) g2⟩)
  · rename_i a vs ds h1 h2 i
    simp only [dIx] at e
    obtain ⟨v, g1, g2⟩ := at_rel h2 e
    exact .inl (.inr ⟨a, vs, i, v, rfl, rfl, hidL_le.lc.tup h1, g1, k _ H (Same.refl _) g2⟩)
theorem de_ix (ha : DE K Ox O W X a ta ua) (hb : DE K Ox O W X b tb ub) (hs : PlainIx b := by exact fun _ _ => rfl) (hK : X.K = K := by rfl) : DE K Ox O W X (.Subscript a b pos) (tOp (rIxD K) ta tb) (uOp dIx ua ub) :=
  ⟨fun g => pe_ix (ix_D hK) (ha.p g) (hb.p g) hs, rf_op rf_ix ha.r hb.r⟩
/-! ### owned operands, read -/
/-- the left one is owned -/
def RfOpL (K : PySem.W.Frag) (r : R2) (f : D → D → Option D) : Prop := ∀ A H l y dx dy d (Q : VK), (∀ a ∈ A, H a ≠ none) → Own K (hidL H A) H l dx → Rp K (hidL H A) y dy → f dx dy = some d → (∀ v H', Same H H' → Rp K (hidL H' A) v d → Q v H') → r (.ref l) y H Q
def RfOpR (K : PySem.W.Frag) (r : R2) (f : D → D → Option D) : Prop := ∀ A H x l dx dy d (Q : VK), (∀ a ∈ A, H a ≠ none) → Rp K (hidL H A) x dx → Own K (hidL H A) H l dy → f dx dy = some d → (∀ v H', Same H H' → Rp K (hidL H' A) v d → Q v H') → r x (.ref l) H Q
def uOpL (f : D → D → Option D) (i : Nat) (ub : UE) : UE := fun Γ Q Ex => ub Γ (fun y Γ1 => ∃ x d, Γ1[i]? = some (some x) ∧ f x y = some d ∧ Q d Γ1) Ex
def uOpR (f : D → D → Option D) (ua : UE) (i : Nat) : UE := fun Γ Q Ex => ua Γ (fun x Γ1 => ∃ y d, Γ1[i]? = some (some y) ∧ f x y = some d ∧ Q d Γ1) Ex
theorem rf_opL (h : RfOpL K r f) (hi : i ∈ O) (hb : RfE K Ox O W tb ub) : RfE K Ox O W (tOp r (tVar i) tb) (uOpL f i ub) := by
  intro B Z σ H Γ Q Qd Ex e ex hu k
  obtain ⟨l, d0, h1, h2, h3⟩ := e.own i hi
  refine ⟨.ref l, h1, ?_⟩
  refine hb B Z σ H Γ _ _ Ex e ex hu fun y H2 dy Γ2 e2 r2 q2 => ?_
  obtain ⟨x, d, hx, hf, q⟩ := q2
  obtain ⟨l', d', g1, g2, g3⟩ := e2.own i hi
  rw [h1] at g1
  cases g1
  rw [hx] at g2
  cases g2
  exact h _ H2 l y x dy d Q (fun a ha => e2.live ha) g3 r2 hf fun v H3 s3 r3 => k v H3 d Γ2 (e2.same s3) r3 q
theorem rf_opR (h : RfOpR K r f) (hi : i ∈ O) (ha : RfE K Ox O W ta ua) : RfE K Ox O W (tOp r ta (tVar i)) (uOpR f ua i) := by
  intro B Z σ H Γ Q Qd Ex e ex hu k
  refine ha B Z σ H Γ _ _ Ex e ex hu fun x H2 dx Γ2 e2 r2 q2 => ?_
  obtain ⟨y, d, hy, hf, q⟩ := q2
  obtain ⟨l', d', g1, g2, g3⟩ := e2.own i hi
  rw [hy] at g2
  cases g2
  exact ⟨.ref l', g1, h _ H2 x l' dx y d Q (fun a ha => e2.live ha) r2 g3 hf fun v H3 s3 r3 => k v H3 d Γ2 (e2.same s3) r3 q⟩
theorem rf_ixL : RfOpL K (rIxD K) dIx := by
  intro A H l y dx dy d Q hA ow ry e k
  cases dx <;> first | exact False.elim ow | (cases ry <;> first | (simp only [dIx] at e; cases e; done) | skip)
  obtain ⟨vs, h1, h2⟩ := ow
  simp only [dIx] at e
  obtain ⟨v, g1, g2⟩ := at_rel h2 e
  exact .inl (.inl ⟨l, vs, _, v, rfl, rfl, .inl (.inl h1), g1, k _ H (Same.refl _) g2⟩)
theorem de_ixO (hN : X.N[i]? = some x) (hv : Vis X.env.scope x) (hi : i ∈ O) (hb : DE K Ox O W X b tb ub) (hs : PlainIx b := by exact fun _ _ => rfl) (hK : X.K = K := by rfl) (hd : (x == ("__debug__" : Str)) = false := by decide) (hcd : (x == ("__classdict__" : Str)) = false := by decide) : DE K Ox O W X (.Subscript (.Name x p) b pos) (tOp (rIxD K) (tVar i) tb) (uOpL dIx i ub) :=
  ⟨fun g => pe_ix (ix_D hK) (pe_var hN hv hd hcd) (hb.p g) hs, rf_opL rf_ixL hi hb.r⟩
/-! ### dicts -/
def keyD : D → Option Key
  | .int i => some (.inl i)
  | .str x => some (.inr x)
  | _ => none
theorem key_v {H : Hp} {v : V} {d : D} {k : Key} (h : Rp K H v d) (e : keyD d = some k) : v = kV k := by
  cases h <;> simp only [keyD] at e <;> cases e <;> rfl
def getK (kvs : List (Key × D)) (k : Key) : Option D := (kvs.find? fun kv => decide (kv.1 = k)).map (·.2)
def putKD (kvs : List (Key × D)) (k : Key) (d : D) : List (Key × D) := if (kvs.any fun kv => decide (kv.1 = k)) = true then kvs.map fun kv => if kv.1 = k then (kv.1, d) else kv else kvs ++ [(k, d)]
theorem getK_rel {H : Hp} {k : Key} : ∀ {kvs : List (Key × V)} {ds : List (Key × D)}, Rpk K H kvs ds → (getK ds k = none ∧ valV kvs k = none) ∨ ∃ d v, getK ds k = some d ∧ valV kvs k = some v ∧ Rp K H v d
  | _, _, .nil => .inl ⟨rfl, rfl⟩
  | _, _, .cons (k := k') (v := v) (d := d) h1 h2 => by
    unfold getK valV
    rw [List.find?_cons, List.find?_cons]
    by_cases h : k' = k
    · subst h
      simp only [decide_true]
      exact .inr ⟨d, v, rfl, rfl, h1⟩
    · simp only [h, decide_false]
      exact getK_rel h2
theorem putK_rel {H : Hp} {k : Key} {v : V} {d : D} (hv : Rp K H v d) {kvs : List (Key × V)} {ds : List (Key × D)} (h : Rpk K H kvs ds) : Rpk K H (putK kvs k v) (putKD ds k d) := by
  have hany : ∀ {kvs : List (Key × V)} {ds : List (Key × D)}, Rpk K H kvs ds → (kvs.any fun kv => decide (kv.1 = k)) = (ds.any fun kv => decide (kv.1 = k)) := by
    intro kvs
    induction kvs with
    | nil => intro ds h; cases h; rfl
    | cons p r ih =>
      intro ds h
      cases h with
      | cons h1 h2 => rw [List.any_cons, List.any_cons, ih h2]
  have hmap : ∀ {kvs : List (Key × V)} {ds : List (Key × D)}, Rpk K H kvs ds → Rpk K H (kvs.map fun kv => if kv.1 = k then (kv.1, v) else kv) (ds.map fun kv => if kv.1 = k then (kv.1, d) else kv) := by
    intro kvs
    induction kvs with
    | nil => intro ds h; cases h; exact .nil
    | cons p r ih =>
      intro ds h
      cases h with
      | cons h1 h2 =>
        rw [List.map_cons, List.map_cons]
        dsimp only
        split
        · exact .cons hv (ih h2)
        · exact .cons h1 (ih h2)
  have happ : ∀ {kvs : List (Key × V)} {ds : List (Key × D)}, Rpk K H kvs ds → Rpk K H (kvs ++ [(k, v)]) (ds ++ [(k, d)]) := by
    intro kvs
    induction kvs with
    | nil => intro ds h; cases h; exact .cons hv .nil
    | cons p r ih =>
      intro ds h
      cases h with
      | cons h1 h2 => exact .cons h1 (ih h2)
  unfold putK putKD
  rw [hany h]
  split
  · exact hmap h
  · exact happ h
def dDGet : D → D → Option D
  | .dct kvs, y => match keyD y with
    | some k => getK kvs k
    | none => none
  | _, _ => none
def dDIn : D → D → Option D
  | y, .dct kvs => match keyD y with
    | some k => some (.bl (getK kvs k).isSome)
    | none => none
  | _, _ => none
def dDNotIn (y x : D) : Option D := match dDIn y x with
  | some (.bl b) => some (.bl (!b))
  | _ => none
def rDGet : R2 := fun x y H Q => ∃ a v, x = V.ref a ∧ DGet H a y (some v) ∧ Q v H
def rDIn : R2 := fun y x H Q => ∃ a o, x = V.ref a ∧ DGet H a y o ∧ Q (V.bl o.isSome) H
def rDNotIn : R2 := fun y x H Q => ∃ a o, x = V.ref a ∧ DGet H a y o ∧ Q (V.bl (!o.isSome)) H
theorem dget_core {H : Hp} {a : Addr} {kvs : List (Key × V)} {ds : List (Key × D)} {k : Key} {Hh : Hp} (h1 : Rd H a (.dK kvs)) (h2 : Rpk K Hh kvs ds) : ∃ o, DGet H a (kV k) o ∧ o.isSome = (getK ds k).isSome ∧ ∀ d, getK ds k = some d → ∃ v, o = some v ∧ Rp K Hh v d := by
  rcases getK_rel (k := k) h2 with ⟨g1, g2⟩ | ⟨d, v, g1, g2, g3⟩
  · exact ⟨none, .inl ⟨kvs, k, h1, rfl, g2.symm⟩, by rw [g1]; rfl, fun d z => by rw [g1] at z; cases z⟩
  · exact ⟨some v, .inl ⟨kvs, k, h1, rfl, g2.symm⟩, by rw [g1]; rfl, fun d' z => by rw [g1] at z; cases z; exact ⟨v, rfl, g3⟩⟩
theorem rd_up {H : Hp} {A : List Addr} {a : Addr} {u : HO} (h : Rd (hidL H A) a u) : Rd H a u := by
  rcases h with h | ⟨o, h⟩
  · exact .inl (hidL_some h).2
  · exact .inr ⟨o, (hidL_some h).2⟩
theorem rf_dget : RfOp K rDGet dDGet := by
  intro A H x y dx dy d Q hA rx ry e k
  cases rx <;> first | (simp only [dDGet] at e; cases e; done) | skip
  rename_i a kvs ds h1 h2
  simp only [dDGet] at e
  cases hk : keyD dy with
  | none => rw [hk] at e; cases e
  | some q =>
    rw [hk] at e
    obtain ⟨o, g1, _, g3⟩ := dget_core (k := q) (rd_up h1) h2
    obtain ⟨v, rfl, rv⟩ := g3 d e
    rw [key_v ry hk]
    exact ⟨a, v, rfl, g1, k v H (Same.refl _) rv⟩
theorem rf_din : RfOp K rDIn dDIn := by
  intro A H x y dx dy d Q hA rx ry e k
  cases ry <;> first | (simp only [dDIn] at e; cases e; done) | skip
  rename_i a kvs ds h1 h2
  simp only [dDIn] at e
  cases hk : keyD dx with
  | none => rw [hk] at e; cases e
  | some q =>
    rw [hk] at e
    cases e
    obtain ⟨o, g1, g2, _⟩ := dget_core (k := q) (rd_up h1) h2
    rw [key_v rx hk]
    exact ⟨a, o, rfl, g1, by rw [g2]; exact k _ H (Same.refl _) (.bl _)⟩
theorem rf_dnotin : RfOp K rDNotIn dDNotIn := by
  intro A H x y dx dy d Q hA rx ry e k
  unfold dDNotIn at e
  cases ry <;> first | (simp only [dDIn] at e; cases e; done) | skip
  rename_i a kvs ds h1 h2
  simp only [dDIn] at e
  cases hk : keyD dx with
  | none => rw [hk] at e; cases e
  | some q =>
    rw [hk] at e
    cases e
    obtain ⟨o, g1, g2, _⟩ := dget_core (k := q) (rd_up h1) h2
    rw [key_v rx hk]
    exact ⟨a, o, rfl, g1, by rw [g2]; exact k _ H (Same.refl _) (.bl _)⟩
theorem rf_dgetL : RfOpL K rDGet dDGet := by
  intro A H l y dx dy d Q hA ow ry e k
  cases dx <;> first | exact False.elim ow | (simp only [dDGet] at e; cases e; done) | skip
  obtain ⟨kvs, h1, h2⟩ := ow
  simp only [dDGet] at e
  cases hk : keyD dy with
  | none => rw [hk] at e; cases e
  | some q =>
    rw [hk] at e
    obtain ⟨o, g1, _, g3⟩ := dget_core (k := q) (.inl h1) h2
    obtain ⟨v, rfl, rv⟩ := g3 d e
    rw [key_v ry hk]
    exact ⟨l, v, rfl, g1, k v H (Same.refl _) rv⟩
theorem rf_dinR : RfOpR K rDIn dDIn := by
  intro A H x l dx dy d Q hA rx ow e k
  cases dy <;> first | exact False.elim ow | (simp only [dDIn] at e; cases e; done) | skip
  obtain ⟨kvs, h1, h2⟩ := ow
  simp only [dDIn] at e
  cases hk : keyD dx with
  | none => rw [hk] at e; cases e
  | some q =>
    rw [hk] at e
    cases e
    obtain ⟨o, g1, g2, _⟩ := dget_core (k := q) (.inl h1) h2
    rw [key_v rx hk]
    exact ⟨l, o, rfl, g1, by rw [g2]; exact k _ H (Same.refl _) (.bl _)⟩
theorem rf_dnotinR : RfOpR K rDNotIn dDNotIn := by
  intro A H x l dx dy d Q hA rx ow e k
  unfold dDNotIn at e
  cases dy <;> first | exact False.elim ow | (simp only [dDIn] at e; cases e; done) | skip
  obtain ⟨kvs, h1, h2⟩ := ow
  simp only [dDIn] at e
  cases hk : keyD dx with
  | none => rw [hk] at e; cases e
  | some q =>
    rw [hk] at e
    cases e
    obtain ⟨o, g1, g2, _⟩ := dget_core (k := q) (.inl h1) h2
    rw [key_v rx hk]
    exact ⟨l, o, rfl, g1, by rw [g2]; exact k _ H (Same.refl _) (.bl _)⟩
end
end Dv
set_option Elab.async false
set_option linter.all false
set_option maxRecDepth 100000
set_option maxHeartbeats 4000000
/-! Dv11: dicts read; owned things changed; built-in functions. -/
namespace Dv
open PySem PySem.Spec PyProof.Rows L2 Eu
section
variable {K : PySem.W.Frag} {Ox O O1 Ol : List Nat} {W : WX} {X : Cx} {a b c : Expr} {es : List Expr} {ta tb tc : TE} {ua ub uc : UE} {pos p apos cpos pos' : Pos} {r r' : R2} {f f' : D → D → Option D} {tr : TA} {ur : UA} {i : Nat} {x : Str}
theorem de_dget (hu : X.A.units + 1 < cLine) (ha : DE K Ox O W X a ta ua) (hb : DE K Ox O W X b tb ub) (hs : NoSl b := by exact fun _ _ => rfl) : DE K Ox O W X (.Subscript a b pos) (tOp rDGet ta tb) (uOp dDGet ua ub) := ⟨fun g => pe_dget hu (ha.p g) (hb.p g) hs, rf_op rf_dget ha.r hb.r⟩
theorem de_din (hu : X.A.units + 1 < cLine) (ha : DE K Ox O W X a ta ua) (hb : DE K Ox O W X b tb ub) (h1 : behindInMarks .In b = false := by rfl) : DE K Ox O W X (.Compare a [.In] [b] pos) (tOp rDIn ta tb) (uOp dDIn ua ub) := ⟨fun g => pe_cmp (pc_din hu (ha.p g) (hb.p g)) h1, rf_op rf_din ha.r hb.r⟩
theorem de_dnotin (hu : X.A.units + 1 < cLine) (ha : DE K Ox O W X a ta ua) (hb : DE K Ox O W X b tb ub) (h1 : behindInMarks .NotIn b = false := by rfl) : DE K Ox O W X (.Compare a [.NotIn] [b] pos) (tOp rDNotIn ta tb) (uOp dDNotIn ua ub) := ⟨fun g => pe_cmp (pc_dnotin hu (ha.p g) (hb.p g)) h1, rf_op rf_dnotin ha.r hb.r⟩
theorem dt_din (hu : X.A.units + 1 < cLine) (ha : DE K Ox O W X a ta ua) (hb : DE K Ox O W X b tb ub) (h1 : behindInMarks .In b = false := by rfl) : DT K Ox O W X (.Compare a [.In] [b] pos) (L2.tB (tOp rDIn ta tb)) (uB (uOp dDIn ua ub)) := ⟨fun g => pt_cmp (pc_din hu (ha.p g) (hb.p g)) h1, rf_b (rf_op rf_din ha.r hb.r)⟩
theorem dt_dnotin (hu : X.A.units + 1 < cLine) (ha : DE K Ox O W X a ta ua) (hb : DE K Ox O W X b tb ub) (h1 : behindInMarks .NotIn b = false := by rfl) : DT K Ox O W X (.Compare a [.NotIn] [b] pos) (L2.tB (tOp rDNotIn ta tb)) (uB (uOp dDNotIn ua ub)) := ⟨fun g => pt_cmp (pc_dnotin hu (ha.p g) (hb.p g)) h1, rf_b (rf_op rf_dnotin ha.r hb.r)⟩
section
variable (hN : X.N[i]? = some x) (hv : Vis X.env.scope x) (hi : i ∈ O)
include hN hv hi
theorem de_dgetO (hu : X.A.units + 1 < cLine) (hb : DE K Ox O W X b tb ub) (hs : NoSl b := by exact fun _ _ => rfl) (hd : (x == ("__debug__" : Str)) = false := by decide) (hcd : (x == ("__classdict__" : Str)) = false := by decide) : DE K Ox O W X (.Subscript (.Name x p) b pos) (tOp rDGet (tVar i) tb) (uOpL dDGet i ub) := ⟨fun g => pe_dget hu (pe_var hN hv hd hcd) (hb.p g) hs, rf_opL rf_dgetL hi hb.r⟩
theorem de_dinO (hu : X.A.units + 1 < cLine) (ha : DE K Ox O W X a ta ua) (h1 : behindInMarks .In (.Name x p) = false := by rfl) (hd : (x == ("__debug__" : Str)) = false := by decide) (hcd : (x == ("__classdict__" : Str)) = false := by decide) : DE K Ox O W X (.Compare a [.In] [.Name x p] pos) (tOp rDIn ta (tVar i)) (uOpR dDIn ua i) := ⟨fun g => pe_cmp (pc_din hu (ha.p g) (pe_var hN hv hd hcd)) h1, rf_opR rf_dinR hi ha.r⟩
theorem de_dnotinO (hu : X.A.units + 1 < cLine) (ha : DE K Ox O W X a ta ua) (h1 : behindInMarks .NotIn (.Name x p) = false := by rfl) (hd : (x == ("__debug__" : Str)) = false := by decide) (hcd : (x == ("__classdict__" : Str)) = false := by decide) : DE K Ox O W X (.Compare a [.NotIn] [.Name x p] pos) (tOp rDNotIn ta (tVar i)) (uOpR dDNotIn ua i) := ⟨fun g => pe_cmp (pc_dnotin hu (ha.p g) (pe_var hN hv hd hcd)) h1, rf_opR rf_dnotinR hi ha.r⟩
theorem dt_dinO (hu : X.A.units + 1 < cLine) (ha : DE K Ox O W X a ta ua) (h1 : behindInMarks .In (.Name x p) = false := by rfl) (hd : (x == ("__debug__" : Str)) = false := by decide) (hcd : (x == ("__classdict__" : Str)) = false := by decide) : DT K Ox O W X (.Compare a [.In] [.Name x p] pos) (L2.tB (tOp rDIn ta (tVar i))) (uB (uOpR dDIn ua i)) := ⟨fun g => pt_cmp (pc_din hu (ha.p g) (pe_var hN hv hd hcd)) h1, rf_b (rf_opR rf_dinR hi ha.r)⟩
theorem dt_dnotinO (hu : X.A.units + 1 < cLine) (ha : DE K Ox O W X a ta ua) (h1 : behindInMarks .NotIn (.Name x p) = false := by rfl) (hd : (x == ("__debug__" : Str)) = false := by decide) (hcd : (x == ("__classdict__" : Str)) = false := by decide) : DT K Ox O W X (.Compare a [.NotIn] [.Name x p] pos) (L2.tB (tOp rDNotIn ta (tVar i))) (uB (uOpR dDNotIn ua i)) := ⟨fun g => pt_cmp (pc_dnotin hu (ha.p g) (pe_var hN hv hd hcd)) h1, rf_b (rf_opR rf_dnotinR hi ha.r)⟩
end
/-! ### owned things, changed -/
theorem put_le {H : Hp} {l : Addr} {o : HO} : Le (hidL H [l]) (hidL (upd H l o) [l]) := fun c q h => by
  obtain ⟨n, h⟩ := hidL_some h
  have hc : c ≠ l := fun z => n (by rw [z]; exact List.mem_cons_self)
  exact .inl (by rw [hidL_out n, upd_ne hc]; exact h)
theorem put_hO {B : Bs} {Z : Zs} {σ : L2.St} {H : Hp} {Γ : Sl} {l : Addr} {o : HO} (e : En K B Z O σ H Γ) (hi : i ∈ O) (ha : σ[i]? = some (some (.ref l))) : Le (hO H σ O Z) (hO (upd H l o) σ O Z) :=
  Le.hid put_le fun c hc => by rw [List.mem_singleton.mp hc]; exact List.mem_append_left _ (mem_oA.mpr ⟨i, hi, ha⟩)
theorem en_put {B : Bs} {Z : Zs} {σ : L2.St} {H : Hp} {Γ : Sl} {l : Addr} {o : HO} {d : D} (e : En K B Z O σ H Γ) (hi : i ∈ O) (ha : σ[i]? = some (some (.ref l))) (w : Own K (hO H σ O Z) (upd H l o) l d) : En K B Z O σ (upd H l o) (Γ.set i (some d)) :=
  e.put hi ha put_le (fun b hb _ => upd_ne hb) (w.mono rfl (put_hO e hi ha))
def uAppend (i : Nat) (ua : UE) : US := fun ED Γ => (∃ xs, Γ[i]? = some (some (.lst xs))) ∧ ua Γ (fun d Γ1 => ∃ xs, Γ1[i]? = some (some (.lst xs)) ∧ xs.length < sizeLine ∧ ED.nx (Γ1.set i (some (.lst (xs ++ [d]))))) ED.ex
theorem ds_append (hN : X.N[i]? = some x) (hv : Vis X.env.scope x) (hi : i ∈ O) (h : DE K Ox O W X a ta ua) (hK : X.K = K := by rfl) (hd : (x == ("__debug__" : Str)) = false := by decide) (hcd : (x == ("__classdict__" : Str)) = false := by decide)
    (hbase : attributeBase (.Name x p) "append" X.env (eval (.Name x p) X.env) = eval (.Name x p) X.env := by rfl)
    (hfew : ((backTo cpos (starEach [a] X.env)).all (fun x => !x.1) && (backToKw cpos (keywordEach [] X.env)).all (fun x => x.1.isSome)
      && decide (([a] : List Expr).length + ([] : List Keyword).length + (if ([] : List Keyword).isEmpty then 0 else 1) < 30)) = true := by rfl)
    (hline : (apos.endLine == cpos.line) = true := by rfl) (hs : starEach [a] X.env = (false, eval a X.env) :: starEach [] X.env := by rfl) (hplain : (backTo cpos (starEach [] X.env)).any (·.1) = false := by rfl)
    (hsw : swapsWith (.Call (.Attribute (.Name x p) "append" apos) [a] [] cpos) none pos.line X.env = pure false := by rfl) :
    DS K Ox O W Ol O X (.Expr (.Call (.Attribute (.Name x p) "append" apos) [a] [] cpos) pos) (tDrop (tBM K "list" rAppend (tVar i) (tCons ta tNil))) (uAppend i ua) := ⟨fun g po => by
  subst hK
  exact ps_expr (pe_bm PySem.F.plainAttrs_list PySem.F.slot_list_append PySem.F.type_list_append mt_append (pe_var hN hv hd hcd) (pa_cons (h.p g) pa_nil hs) hbase hfew hline hs hplain) hsw, by
  intro B Z σ H Γ D ED hB e ex hu nx rt bk ct
  obtain ⟨l, d0, h1, h2, h3⟩ := e.own i hi
  -- what stands there must be a list: the reading says so behind the argument
  have isL : ∀ {H' Γ'}, En K B Z O σ H' Γ' → ∀ xs, Γ'[i]? = some (some (.lst xs)) → ∃ vs, H' l = some (.lst vs) ∧ Rps K (hO H' σ O Z) vs xs := fun {H' Γ'} e' xs hx => by
    obtain ⟨l', d', g1, g2, g3⟩ := e'.own i hi
    rw [h1] at g1
    cases g1
    rw [hx] at g2
    cases g2
    exact g3
  obtain ⟨⟨xs0, hx0⟩, hu⟩ := hu
  obtain ⟨vs0, g0, _⟩ := isL e xs0 hx0
  refine ⟨.ref l, h1, .inl ⟨rfl, vs0, .inl (.inl g0)⟩, ?_⟩
  · refine h.r B Z σ H Γ _ _ _ e ex hu fun v H' d Γ' e' r' q' => ?_
    obtain ⟨xs, hx, hl, q⟩ := q'
    obtain ⟨vs, g1, g2⟩ := isL e' xs hx
    refine ⟨l, vs, v, rfl, rfl, g1, by rw [g2.length]; exact hl, ?_⟩
    exact nx _ _ _ (en_put (d := .lst (xs ++ [d])) e' hi h1 ⟨_, upd_same, g2.append (.cons r' .nil)⟩) q⟩
def uDPut (i : Nat) (uk uv : UE) : US := fun ED Γ => uv Γ (fun dv Γ1 => uk Γ1 (fun dk Γ2 => ∃ kvs k, Γ2[i]? = some (some (.dct kvs)) ∧ keyD dk = some k ∧ kvs.length < sizeLine ∧ ED.nx (Γ2.set i (some (.dct (putKD kvs k dv))))) ED.ex) ED.ex
theorem ds_dput (hu : X.A.units + 1 < cLine) (hN : X.N[i]? = some x) (hv : Vis X.env.scope x) (hi : i ∈ O) (hb : DE K Ox O W X b tb ub) (ha : DE K Ox O W X a ta ua) (hs : swapsWith a (some (.Subscript (.Name x p) b pos')) pos.line X.env = pure false := by rfl) (hd : (x == ("__debug__" : Str)) = false := by decide) (hcd : (x == ("__classdict__" : Str)) = false := by decide) :
    DS K Ox O W Ol O X (.Assign [.Subscript (.Name x p) b pos'] a pos) (sDPut (tVar i) tb ta) (uDPut i ub ua) := ⟨fun g po => ps_dput hu (pe_var hN hv hd hcd) (hb.p g) (ha.p g) hs, by
  intro B Z σ H Γ D ED hB e ex hu nx rt bk ct
  refine ha.r B Z σ H Γ _ _ _ e ex hu fun v H1 dv Γ1 e1 r1 q1 => ?_
  obtain ⟨l, d0, h1, h2, h3⟩ := e1.own i hi
  refine ⟨.ref l, h1, ?_⟩
  refine hb.r ⟨hO H1 σ O Z, B.ad⟩ Z σ H1 Γ1 _ _ _ e1.self (ex.at e1) q1 fun y H2 dk Γ2 e2 r2 q2 => ?_
  obtain ⟨kvs, k, g1, g2, g3, q⟩ := q2
  obtain ⟨l', d', z1, z2, z3⟩ := e2.own i hi
  rw [h1] at z1
  cases z1
  rw [g1] at z2
  cases z2
  obtain ⟨ws, w1, w2⟩ := z3
  refine ⟨l, _, rfl, by rw [key_v r2 g2]; exact DPut.k w1 (by rw [w2.length]; exact g3), ?_⟩
  have e3 := e1.back e2
  exact nx _ _ _ (en_put (d := .dct (putKD kvs k dv)) e3 hi h1 ⟨_, upd_same, putK_rel (r1.le e2.le) w2⟩) q⟩
/-- xs[j] = e of an owned list -/
def uSetI (i : Nat) (uk uv : UE) : US := fun ED Γ => uv Γ (fun dv Γ1 => uk Γ1 (fun dk Γ2 => ∃ xs n j, Γ2[i]? = some (some (.lst xs)) ∧ dk = .int n ∧ ixN xs.length n = some j ∧ ED.nx (Γ2.set i (some (.lst (xs.set j dv))))) ED.ex) ED.ex
theorem Rps.set {H : Hp} {v : V} {d : D} (h : Rp K H v d) : ∀ {vs : List V} {ds : List D} (j : Nat), Rps K H vs ds → Rps K H (vs.set j v) (ds.set j d)
  | _, _, _, .nil => .nil
  | _, _, 0, .cons _ t => .cons h t
  | _, _, j + 1, .cons q t => .cons q (Rps.set h j t)
theorem ds_seti (hN : X.N[i]? = some x) (hv : Vis X.env.scope x) (hi : i ∈ O) (hb : DE K Ox O W X b tb ub) (ha : DE K Ox O W X a ta ua)
    (hsub : ∀ v : Value, assign (.Subscript (.Name x p) b pos') X.env v = (do
      let ov ← holding [v] (eval (.Name x p) X.env)
      let iv ← holding [v, ov] (eval b X.env)
      standAt pos'
      holding [v, ov, iv] (setItem ov iv v)
      release [v, ov, iv] []) := by intro _; rfl)
    (hs : swapsWithSole [.Subscript (.Name x p) b pos'] a pos.line X.env = pure false := by rfl) (hw : swappedStores [.Subscript (.Name x p) b pos'] a X.env = pure none := by rfl)
    (h1 : (assignEach [.Subscript (.Name x p) b pos'] X.env).map (·.2) = [assign (.Subscript (.Name x p) b pos') X.env] := by rfl) (hd : (x == ("__debug__" : Str)) = false := by decide) (hcd : (x == ("__classdict__" : Str)) = false := by decide) :
    DS K Ox O W Ol O X (.Assign [.Subscript (.Name x p) b pos'] a pos) (tAsg ta (gSub (tVar i) tb rSetL)) (uSetI i ub ua) := ⟨fun g po => ps_asg (ha.p g) (pg_sub (pe_var hN hv hd hcd) (hb.p g) set_list hsub) hs hw h1, by
  intro B Z σ H Γ D ED hB e ex hu nx rt bk ct
  refine ha.r B Z σ H Γ _ _ _ e ex hu fun v H1 dv Γ1 e1 r1 q1 => ?_
  obtain ⟨l, d0, h1, h2, h3⟩ := e1.own i hi
  refine ⟨.ref l, h1, ?_⟩
  refine hb.r ⟨hO H1 σ O Z, B.ad⟩ Z σ H1 Γ1 _ _ _ e1.self (ex.at e1) q1 fun y H2 dk Γ2 e2 r2 q2 => ?_
  obtain ⟨xs, n, j, g1, rfl, g3, q⟩ := q2
  obtain ⟨l', d', z1, z2, z3⟩ := e2.own i hi
  rw [h1] at z1
  cases z1
  rw [g1] at z2
  cases z2
  obtain ⟨ws, w1, w2⟩ := z3
  cases r2
  refine ⟨l, ws, n, j, rfl, rfl, w1, by rw [w2.length]; exact g3, ?_⟩
  have e3 := e1.back e2
  exact nx _ _ _ (en_put (d := .lst (xs.set j dv)) e3 hi h1 ⟨_, upd_same, Rps.set (r1.le e2.le) j w2⟩) q⟩
/-! ### built-in functions -/
def RfC (K : PySem.W.Frag) (r : List V → Hp → VK → Prop) (g : List D → Option D) : Prop := ∀ A H vs ds d (Q : VK), (∀ a ∈ A, H a ≠ none) → Rps K (hidL H A) vs ds → g ds = some d → (∀ v H', Same H H' → Rp K (hidL H' A) v d → Q v H') → r vs H Q
def uCB (g : List D → Option D) (ur : UA) : UE := fun Γ Q Ex => ur Γ (fun ds Γ1 => ∃ d, g ds = some d ∧ Q d Γ1) Ex
theorem rf_cb {r : List V → Hp → VK → Prop} {g : List D → Option D} (h : RfC K r g) (ha : RfA K Ox O W tr ur) : RfE K Ox O W (tCB r tr) (uCB g ur) := by
  intro B Z σ H Γ Q Qd Ex e ex hu k
  refine ha B Z σ H Γ _ _ Ex e ex hu fun vs H1 ds Γ1 e1 r1 q1 => ?_
  obtain ⟨d, hf, q⟩ := q1
  exact h _ H1 vs ds d Q (fun a ha => e1.live ha) r1 hf fun v H3 s3 r3 => k v H3 d Γ1 (e1.same s3) r3 q
theorem de_cb {id : String} {r : List V → Hp → VK → Prop} {g : List D → Option D} (hc : CallR X (.builtin id) r) (hf : RfC K r g) (hg : Gl X x) (hm : X.mg x = none) (hv : bootBuiltins x = some (.builtin id)) (ha : DA K Ox O W X (a :: es) tr ur) (hn : x ≠ "__name__" := by decide) (hdb : (x == ("__debug__" : Str)) = false := by decide)
    (he : starEach (a :: es) X.env = (false, eval a X.env) :: starEach es X.env := by rfl) (hpl : (backTo pos (starEach es X.env)).any (·.1) = false := by rfl) : DE K Ox O W X (.Call (.Name x p) (a :: es) [] pos) (tCB r tr) (uCB g ur) :=
  ⟨fun g => pe_callB hc hg hm hv (ha.p g) hn hdb he hpl, rf_cb hf ha.r⟩
theorem de_ct {T : String} {r : List V → Hp → VK → Prop} {g : List D → Option D} (hc : CallR X (.type T) r) (hf : RfC K r g) (hg : Gl X x) (hm : X.mg x = none) (hv : bootBuiltins x = some (.type T)) (ha : DA K Ox O W X (a :: es) tr ur) (hn : x ≠ "__name__" := by decide) (hdb : (x == ("__debug__" : Str)) = false := by decide)
    (he : starEach (a :: es) X.env = (false, eval a X.env) :: starEach es X.env := by rfl) (hpl : (backTo pos (starEach es X.env)).any (·.1) = false := by rfl) : DE K Ox O W X (.Call (.Name x p) (a :: es) [] pos) (tCB r tr) (uCB g ur) :=
  ⟨fun g => pe_callTy hc hg hm hv (ha.p g) hn hdb he hpl, rf_cb hf ha.r⟩
theorem or_call {fv : Value} {r r' : List V → Hp → VK → Prop} (h : CallR X fv r) (h' : CallR X fv r') : CallR X fv (fun xs H Q => r xs H Q ∨ r' xs H Q) := fun pins s σ H xs us Q I rx q => q.elim (h pins s σ H xs us Q I rx) (h' pins s σ H xs us Q I rx)
theorem Rps.inv1 {H : Hp} {vs : List V} {d : D} (h : Rps K H vs [d]) : ∃ v, vs = [v] ∧ Rp K H v d := by
  cases h with
  | cons h1 h2 => cases h2; exact ⟨_, rfl, h1⟩
theorem Rps.inv2 {H : Hp} {vs : List V} {d e : D} (h : Rps K H vs [d, e]) : ∃ v w, vs = [v, w] ∧ Rp K H v d ∧ Rp K H w e := by
  cases h with
  | cons h1 h2 =>
    obtain ⟨w, rfl, h3⟩ := Rps.inv1 h2
    exact ⟨_, w, rfl, h1, h3⟩
def one (g : D → Option D) : List D → Option D
  | [d] => g d
  | _ => none
def two (g : D → D → Option D) : List D → Option D
  | [d, e] => g d e
  | _ => none
theorem rfc_one {r : List V → Hp → VK → Prop} {g : D → Option D} (h : ∀ A H v dx d (Q : VK), (∀ a ∈ A, H a ≠ none) → Rp K (hidL H A) v dx → g dx = some d → (∀ v H', Same H H' → Rp K (hidL H' A) v d → Q v H') → r [v] H Q) : RfC K r (one g) := by
  intro A H vs ds d Q hA rs e k
  unfold one at e
  split at e
  · obtain ⟨v, rfl, rx⟩ := Rps.inv1 rs
    exact h A H v _ d Q hA rx e k
  · cases e
theorem rfc_two {r : List V → Hp → VK → Prop} {g : D → D → Option D} (h : ∀ A H v w dx dy d (Q : VK), (∀ a ∈ A, H a ≠ none) → Rp K (hidL H A) v dx → Rp K (hidL H A) w dy → g dx dy = some d → (∀ v H', Same H H' → Rp K (hidL H' A) v d → Q v H') → r [v, w] H Q) : RfC K r (two g) := by
  intro A H vs ds d Q hA rs e k
  unfold two at e
  split at e
  · obtain ⟨v, w, rfl, rx, ry⟩ := Rps.inv2 rs
    exact h A H v w _ _ d Q hA rx ry e k
  · cases e
/-! len -/
def dLen : D → Option D
  | .lst xs => some (.int xs.length)
  | .tup xs => some (.int xs.length)
  | .scr xs => some (.int xs.length)
  | .str z => if z.length ≤ sizeLine then some (.int z.length) else none
  | _ => none
def rLenD (K : PySem.W.Frag) : List V → Hp → VK → Prop := fun xs H Q => (∃ p ys, xs = [V.ref p] ∧ (SqL K H p ys ∨ SqT K H p ys) ∧ Q (V.int ys.length) H) ∨ ∃ z, xs = [V.str z] ∧ z.length ≤ sizeLine ∧ Q (V.int z.length) H
theorem call_lenDD (hK : X.K = K := by rfl) : CallR X (.builtin "len") (rLenD K) := by
  subst hK
  exact or_call call_len_seq call_len_str
theorem rf_len : RfC K (rLenD K) (one dLen) := by
  refine rfc_one ?_
  intro A H v dx d Q hA rx e k
  · skip
    cases rx <;> first | (simp only [dLen] at e; cases e; done) | skip
    · rename_i z
      simp only [dLen] at e
      split at e
      · rename_i hl
        cases e
        exact .inr ⟨z, rfl, hl, k _ H (Same.refl _) (.int _)⟩
      · cases e
    · rename_i l ns s
      simp only [dLen] at e
      cases e
      refine .inl ⟨l, ns.map V.int, rfl, .inl (hidL_le.lc.seq s), ?_⟩
      rw [List.length_map]
      exact k _ H (Same.refl _) (.int _)
    · rename_i l ws es h1 h2
      simp only [dLen] at e
      cases e
      refine .inl ⟨l, ws, rfl, .inl (.inl (.inl (hidL_some h1).2)), ?_⟩
      rw [h2.length]
      exact k _ H (Same.refl _) (.int _)
    · rename_i l ws es h1 h2
      simp only [dLen] at e
      cases e
      refine .inl ⟨l, ws, rfl, .inr (hidL_le.lc.tup h1), ?_⟩
      rw [h2.length]
      exact k _ H (Same.refl _) (.int _)
/-! int, abs, two of max and min -/
def dInt1 : D → Option D
  | .int i => some (.int i)
  | .bl b => some (.int (if b = true then 1 else 0))
  | _ => none
theorem rf_int1 : RfC K (fun xs H Q => (∃ i, xs = [V.int i] ∧ Q (V.int i) H) ∨ ∃ k, xs = [V.bl k] ∧ Q (V.int (if k = true then 1 else 0)) H) (one dInt1) := by
  refine rfc_one ?_
  intro A H v dx d Q hA rx e k
  · skip
    cases rx <;> first | (simp only [dInt1] at e; cases e; done) | skip
    · simp only [dInt1] at e; cases e
      exact .inr ⟨_, rfl, k _ H (Same.refl _) (.int _)⟩
    · simp only [dInt1] at e; cases e
      exact .inl ⟨_, rfl, k _ H (Same.refl _) (.int _)⟩
def dAbs : D → Option D
  | .int i => some (.int (if i < 0 then -i else i))
  | _ => none
theorem rf_abs : RfC K (fun xs H Q => ∃ i, xs = [V.int i] ∧ Q (V.int (if i < 0 then -i else i)) H) (one dAbs) := by
  refine rfc_one ?_
  intro A H v dx d Q hA rx e k
  · skip
    cases rx <;> first | (simp only [dAbs] at e; cases e; done) | skip
    simp only [dAbs] at e; cases e
    exact ⟨_, rfl, k _ H (Same.refl _) (.int _)⟩
def dTwo (g : Int → Int → Int) : D → D → Option D
  | .int i, .int j => some (.int (g i j))
  | _, _ => none
theorem rf_two {g : Int → Int → Int} : RfC K (fun xs H Q => ∃ i j, xs = [V.int i, V.int j] ∧ Q (V.int (g i j)) H) (two (dTwo g)) := by
  refine rfc_two ?_
  intro A H v w dx dy d Q hA rx ry e k
  · skip
    cases rx <;> cases ry <;> first | (simp only [dTwo] at e; cases e; done) | skip
    simp only [dTwo] at e; cases e
    exact ⟨_, _, rfl, k _ H (Same.refl _) (.int _)⟩
/-! all, any, sum of new lists -/
def blsOf : List D → Option (List Bool)
  | [] => some []
  | .bl b :: r => (blsOf r).map (b :: ·)
  | _ => none
def intsOf : List D → Option (List Int)
  | [] => some []
  | .int b :: r => (intsOf r).map (b :: ·)
  | _ => none
theorem bls_rel {H : Hp} : ∀ {vs : List V} {ds : List D} {bs : List Bool}, Rps K H vs ds → blsOf ds = some bs → vs = bs.map V.bl
  | _, _, _, .nil, e => by cases e; rfl
  | _, _, _, .cons (ds := ds) h1 h2, e => by
    cases h1 <;> simp only [blsOf] at e <;> try cases e
    cases h : blsOf ds with
    | none => rw [h] at e; cases e
    | some b => rw [h] at e; cases e; rw [bls_rel h2 h]; rfl
theorem ints_rel {H : Hp} : ∀ {vs : List V} {ds : List D} {bs : List Int}, Rps K H vs ds → intsOf ds = some bs → vs = bs.map V.int
  | _, _, _, .nil, e => by cases e; rfl
  | _, _, _, .cons (ds := ds) h1 h2, e => by
    cases h1 <;> simp only [intsOf] at e <;> try cases e
    cases h : intsOf ds with
    | none => rw [h] at e; cases e
    | some b => rw [h] at e; cases e; rw [ints_rel h2 h]; rfl
def dBls (g : List Bool → D) : D → Option D
  | .lst xs => (blsOf xs).map g
  | _ => none
def dInts (g : List Int → D) : D → Option D
  | .lst xs => (intsOf xs).map g
  | _ => none
theorem rf_bls {g : List Bool → V} {g' : List Bool → D} (hg : ∀ H bs, Rp K H (g bs) (g' bs)) : RfC K (fun vs H Q => ∃ a bs, vs = [V.ref a] ∧ SqL K H a (List.map V.bl bs) ∧ Q (g bs) H) (one (dBls g')) := by
  refine rfc_one ?_
  intro A H v dx d Q hA rx e k
  · skip
    cases rx <;> first | (simp only [dBls] at e; cases e; done) | skip
    rename_i l ws es h1 h2
    simp only [dBls] at e
    cases h : blsOf es with
    | none => rw [h] at e; cases e
    | some bs =>
      rw [h] at e; cases e
      have := bls_rel h2 h
      subst this
      exact ⟨l, bs, rfl, .inl (.inl (hidL_some h1).2), k _ H (Same.refl _) (hg _ _)⟩
theorem rf_all : RfC K (rAll K) (one (dBls fun bs => .bl (bs.all id))) := rf_bls fun _ _ => .bl _
theorem rf_any : RfC K (rAny K) (one (dBls fun bs => .bl (bs.any id))) := rf_bls fun _ _ => .bl _
theorem cr_allD (hc : X.calm = true) (hK : X.K = K := by rfl) : CallR X (.builtin "all") (rAll K) := by subst hK; exact cr_all hc
theorem cr_anyD (hc : X.calm = true) (hK : X.K = K := by rfl) : CallR X (.builtin "any") (rAny K) := by subst hK; exact cr_any hc
theorem cr_sumD (hc : X.calm = true) (hK : X.K = K := by rfl) : CallR X (.builtin "sum") (rSum K) := by subst hK; exact cr_sum hc
theorem rf_sum : RfC K (rSum K) (one (dInts fun bs => .int bs.sum)) := by
  refine rfc_one ?_
  intro A H v dx d Q hA rx e k
  · skip
    cases rx <;> first | (simp only [dInts] at e; cases e; done) | skip
    rename_i l ws es h1 h2
    simp only [dInts] at e
    cases h : intsOf es with
    | none => rw [h] at e; cases e
    | some bs =>
      rw [h] at e; cases e
      have := ints_rel h2 h
      subst this
      exact ⟨l, bs, rfl, .inl (.inl (hidL_some h1).2), k _ H (Same.refl _) (.int _)⟩
end
end Dv
set_option Elab.async false
set_option linter.all false
set_option maxRecDepth 100000
set_option maxHeartbeats 4000000
/-! Dv12: isinstance, names of the module, membership, the bag. -/
namespace Dv
open PySem PySem.Spec PyProof.Rows L2 Eu
section
variable {K : PySem.W.Frag} {Ox O O1 Ol : List Nat} {W : WX} {X : Cx} {a b c : Expr} {es : List Expr} {ta tb tc : TE} {ua ub uc : UE} {pos p apos cpos pos' : Pos} {tr : TA} {ur : UA} {i : Nat} {x : Str}
/-! ### names of the module -/
theorem de_gc {v : V} {d : D} (hg : Gl X x) (h : ∃ u, X.mg x = some u ∧ RelV v u) (hr : ∀ H, Rp K H v d) (hd : (x == ("__debug__" : Str)) = false := by decide) : DE K Ox O W X (.Name x pos) (tC v) (uC d) := by
  obtain ⟨u, hm, r⟩ := h
  exact ⟨fun g => pe_glob hg hm r hd, rf_c hr⟩
theorem de_ty {n : String} (hg : Gl X x) (hm : X.mg x = none) (hv : bootBuiltins x = some (.type n)) (hn : x ≠ "__name__" := by decide) (hd : (x == ("__debug__" : Str)) = false := by decide) : DE K Ox O W X (.Name x pos) (tC (.ty n)) (uC (.ty n)) :=
  ⟨fun g => pe_bltn hg hm hv rfl hn hd, rf_c fun _ => .ty n⟩
/-! ### isinstance -/
def tyn : D → Option String
  | .non => some "NoneType"
  | .bl _ => some "bool"
  | .int _ => some "int"
  | .str _ => some "str"
  | .lst _ => some "list"
  | .tup _ => some "tuple"
  | .dct _ => some "dict"
  | _ => none
def tys : List String := ["int", "bool", "str", "tuple", "list", "dict"]
def isTyS (n t : String) : Bool := t == n || (t == "bool" && n == "int")
def isTy (n : String) (d : D) : Bool := match tyn d with
  | some t => isTyS n t
  | none => false
theorem kit_all : (["NoneType", "bool", "int", "str", "list", "tuple", "dict"].all fun t => tys.all fun n => kitB t n == some (isTyS n t)) = true := by decide +kernel
theorem tyx_rp {H : Hp} {v : V} {d : D} {t : String} (h : Rp K H v d) (e : tyn d = some t) : TyX K H v (.type t) := by
  cases h <;> simp only [tyn] at e <;> cases e
  · exact .base .non
  · exact .base (.bl _)
  · exact .base (.int _)
  · exact .base (.str _)
  · rename_i h _
    exact .base (.lst h)
  · rename_i h _
    rcases h with (h | ⟨o, h⟩) | ⟨o, its, n, h, hc, _⟩
    · exact .base (.tup h)
    · exact .fTuple h
    · exact .kTuple h hc
  · rename_i h _
    rcases h with h | ⟨o, h⟩
    · exact .base (.dK h)
    · exact .fDict h
theorem kit_rp {d : D} {t n : String} (e : tyn d = some t) (hn : n ∈ tys) : kitB t n = some (isTy n d) := by
  have ht : t ∈ ["NoneType", "bool", "int", "str", "list", "tuple", "dict"] := by
    cases d <;> simp only [tyn] at e <;> cases e <;> decide
  have := List.all_eq_true.mp (List.all_eq_true.mp kit_all t ht) n hn
  unfold isTy
  rw [e]
  exact beq_iff_eq.mp this
def dIsi : D → D → Option D
  | d, .ty n => if (tyn d).isSome = true ∧ n ∈ tys then some (.bl (isTy n d)) else none
  | _, _ => none
theorem call_isiD (hK : X.K = K := by rfl) : CallR X (.builtin "isinstance") (rIsi K) := by subst hK; exact call_isi
theorem rf_isi : RfC K (rIsi K) (two dIsi) := by
  refine rfc_two ?_
  intro A H v w dx dy d Q hA rx ry e k
  cases ry <;> first | (simp only [dIsi] at e; cases e; done) | skip
  rename_i n
  simp only [dIsi] at e
  split at e
  · rename_i hc
    cases e
    cases ht : tyn dx with
    | none => rw [ht] at hc; exact absurd hc.1 (by decide)
    | some t => exact ⟨v, .ty n, .type t, .type n, _, rfl, .ty n, tyx_rp rx.up ht, kit_ty (kit_rp ht hc.2), k _ H (Same.refl _) (.bl _)⟩
  · cases e
/-- isinstance(x, (T1, T2)) -/
def uIsi2 (n1 n2 : String) (ua : UE) : UE := fun Γ Q Ex => ua Γ (fun d Γ1 => (tyn d).isSome = true ∧ Q (.bl (isTy n1 d || isTy n2 d)) Γ1) Ex
theorem de_isi2 {x1 x2 : Str} {n1 n2 : String} {px p1 p2 pt : Pos} {kt : Nat} (hi : X.mg "isinstance" = none) (hg : Gl X "isinstance") (ha : DE K Ox O W X a ta ua)
    (g1 : Gl X x1) (m1 : X.mg x1 = none) (b1 : bootBuiltins x1 = some (.type n1)) (g2 : Gl X x2) (m2 : X.mg x2 = none) (b2 : bootBuiltins x2 = some (.type n2)) (t1 : n1 ∈ tys) (t2 : n2 ∈ tys) (hK : X.K = K := by rfl)
    (hn1 : x1 ≠ "__name__" := by decide) (hd1 : (x1 == ("__debug__" : Str)) = false := by decide) (hn2 : x2 ≠ "__name__" := by decide) (hd2 : (x2 == ("__debug__" : Str)) = false := by decide)
    (s1 : starEach [.Name x1 p1, .Name x2 p2] X.env = (false, eval (.Name x1 p1) X.env) :: starEach [.Name x2 p2] X.env := by rfl) (s2 : starEach [.Name x2 p2] X.env = (false, eval (.Name x2 p2) X.env) :: starEach [] X.env := by rfl)
    (s3 : starEach [.Tuple [.Name x1 p1, .Name x2 p2] kt pt] X.env = (false, eval (.Tuple [.Name x1 p1, .Name x2 p2] kt pt) X.env) :: starEach [] X.env := by rfl)
    (he : starEach [a, .Tuple [.Name x1 p1, .Name x2 p2] kt pt] X.env = (false, eval a X.env) :: starEach [.Tuple [.Name x1 p1, .Name x2 p2] kt pt] X.env := by rfl) (hpl : (backTo pos (starEach [.Tuple [.Name x1 p1, .Name x2 p2] kt pt] X.env)).any (·.1) = false := by rfl) :
    DE K Ox O W X (.Call (.Name "isinstance" px) [a, .Tuple [.Name x1 p1, .Name x2 p2] kt pt] [] pos) (tCB (rIsiT K) (tCons ta (tCons (tTup (tCons (tC (.ty n1)) (tCons (tC (.ty n2)) tNil))) tNil))) (uIsi2 n1 n2 ua) := ⟨fun g => by
  subst hK
  exact pe_callB call_isiT hg hi (by decide +kernel) (pa_cons (ha.p g) (pa_cons (pe_tup (pa_cons (pe_bltn g1 m1 b1 rfl hn1 hd1) (pa_cons (pe_bltn g2 m2 b2 rfl hn2 hd2) pa_nil s2) s1)) pa_nil s3) he) (by decide) (by decide) he hpl, by
  intro B Z σ H Γ Q Qd Ex e ex hu k
  refine ha.r B Z σ H Γ _ _ Ex e ex hu fun v H1 d Γ1 e1 r1 q1 => ⟨by show 2 ≤ sizeLine; decide, fun q nq => ?_⟩
  obtain ⟨ht, q1⟩ := q1
  cases h : tyn d with
  | none => rw [h] at ht; cases ht
  | some t =>
    have r2 : Rp K (hO (upd H1 q (.tup [.ty n1, .ty n2])) σ O Z) v d := r1.le (Le.new nq)
    refine ⟨v, q, [.ty n1, .ty n2], .type t, [.type n1, .type n2], _, rfl, upd_same, .cons (.ty n1) (.cons (.ty n2) .nil), tyx_rp r2.up h, ?_, k _ _ _ Γ1 (e1.same (same_new nq)) (.bl _) q1⟩
    have k1 : PySem.W.kitOne K (.type t) (.type n1) = some (isTy n1 d) := kit_ty (kit_rp h t1)
    have k2 : PySem.W.kitOne K (.type t) (.type n2) = some (isTy n2 d) := kit_ty (kit_rp h t2)
    unfold PySem.W.kitAny
    rw [k1]
    cases isTy n1 d with
    | true => rfl
    | false =>
      unfold PySem.W.kitAny
      rw [k2]
      cases isTy n2 d <;> rfl⟩
/-! ### in, of flat values -/
def flatD : D → Bool
  | .non => true
  | .bl _ => true
  | .int _ => true
  | .str _ => true
  | _ => false
def toV : D → V
  | .bl b => .bl b
  | .int i => .int i
  | .str x => .str x
  | _ => .non
theorem flat_rel {H : Hp} {v : V} {d : D} (h : Rp K H v d) (f : flatD d = true) : v = toV d ∧ flatV v = true := by
  cases h <;> simp only [flatD] at f <;> first | exact ⟨rfl, rfl⟩ | cases f
theorem flats_rel {H : Hp} : ∀ {vs : List V} {ds : List D}, Rps K H vs ds → ds.all flatD = true → vs = ds.map toV ∧ vs.all flatV = true
  | _, _, .nil, _ => ⟨rfl, rfl⟩
  | _, _, .cons h1 h2, f => by
    rw [List.all_cons, Bool.and_eq_true] at f
    obtain ⟨e1, f1⟩ := flat_rel h1 f.1
    obtain ⟨e2, f2⟩ := flats_rel h2 f.2
    subst e1 e2
    exact ⟨rfl, by rw [List.all_cons, f1, f2]; rfl⟩
/-- x == y of flat values -/
def eqF (x y : D) : Bool := eqV (toV x) (toV y)
def inD (x : D) (ds : List D) : Bool := ds.any fun y => eqF y x
theorem in_eq {x : D} {ds : List D} : inV (toV x) (ds.map toV) = inD x ds := by
  unfold inV inD
  rw [List.any_map]
  rfl
def dIn : D → D → Option D
  | x, .lst ds => if flatD x = true ∧ ds.all flatD = true then some (.bl (inD x ds)) else none
  | x, .tup ds => if flatD x = true ∧ ds.all flatD = true then some (.bl (inD x ds)) else none
  | _, _ => none
def dNotIn : D → D → Option D
  | x, .lst ds => if flatD x = true ∧ ds.all flatD = true then some (.bl (!inD x ds)) else none
  | x, .tup ds => if flatD x = true ∧ ds.all flatD = true then some (.bl (!inD x ds)) else none
  | _, _ => none
theorem op_inK (hK : X.K = K := by rfl) : OpR X (compareOp .In) (rIn K false) := by subst hK; exact op_in_seq
theorem op_notInK (hK : X.K = K := by rfl) : OpR X (compareOp .NotIn) (rIn K true) := by subst hK; exact op_notIn_seq
theorem rf_in : RfOp K (rIn K false) dIn := by
  intro A H x y dx dy d Q hA rx ry e k
  cases ry <;> first | (simp only [dIn] at e; cases e; done) | skip
  all_goals
    rename_i l vs ds h1 h2
    simp only [dIn] at e
    split at e
    · rename_i hf
      cases e
      obtain ⟨e1, f1⟩ := flat_rel rx hf.1
      obtain ⟨e2, f2⟩ := flats_rel h2 hf.2
      subst e1 e2
      first
        | exact ⟨l, _, rfl, .inl (.inl (.inl (hidL_some h1).2)), f1, f2, by rw [if_neg (by decide), in_eq]; exact k _ H (Same.refl _) (.bl _)⟩
        | exact ⟨l, _, rfl, .inr (hidL_le.lc.tup h1), f1, f2, by rw [if_neg (by decide), in_eq]; exact k _ H (Same.refl _) (.bl _)⟩
    · cases e
theorem rf_notIn : RfOp K (rIn K true) dNotIn := by
  intro A H x y dx dy d Q hA rx ry e k
  cases ry <;> first | (simp only [dNotIn] at e; cases e; done) | skip
  all_goals
    rename_i l vs ds h1 h2
    simp only [dNotIn] at e
    split at e
    · rename_i hf
      cases e
      obtain ⟨e1, f1⟩ := flat_rel rx hf.1
      obtain ⟨e2, f2⟩ := flats_rel h2 hf.2
      subst e1 e2
      first
        | exact ⟨l, _, rfl, .inl (.inl (.inl (hidL_some h1).2)), f1, f2, by rw [if_pos rfl, in_eq]; exact k _ H (Same.refl _) (.bl _)⟩
        | exact ⟨l, _, rfl, .inr (hidL_le.lc.tup h1), f1, f2, by rw [if_pos rfl, in_eq]; exact k _ H (Same.refl _) (.bl _)⟩
    · cases e
/-! ### data compared -/
theorem op_eqK (hu : X.A.units + 64 < cLine) (hK : X.K = K := by rfl) : OpR X (compareOp .Eq) (rEqD K) := by subst hK; exact op_eqD hu
theorem op_neK (hu : X.A.units + 64 < cLine) (hK : X.K = K := by rfl) : OpR X (compareOp .NotEq) (rNeD K) := by subst hK; exact op_neD hu
end
/-! ### defs that raise nothing, as defs of this layer -/
section
variable {P : Program} {w : World} {K : PySem.W.Frag} {mg : Str → Option Value} {base : Heap} {k : Nat} {x : Str} {io : List Nat} {sp : SpD} {sp0 : Sp}
theorem toX (c : Cal P w K mg base k x sp0 []) : CalX P w K mg base k x sp0 [] := by
  obtain ⟨f, fd, ps, ds, o, r⟩ := c.ex
  refine ⟨f, fd, ps, ds, ⟨o.len, fun A out s H ar us vs Q E hr e b v q => ?_⟩, r⟩
  refine codeAny_mono (o.go A out s H ar us vs Q E hr e b v q) fun res s' h => ?_
  cases res with
  | error e => exact False.elim h
  | ok fl => cases fl <;> exact h
theorem CalX.imp' {sp1 : Sp} (c : CalX P w K mg base k x sp0 []) (h : ∀ vs H Q E, sp1 vs H Q E → sp0 vs H Q E) : CalX P w K mg base k x sp1 [] := by
  obtain ⟨f, fd, ps, ds, o, r⟩ := c.ex
  exact ⟨f, fd, ps, ds, o.imp h, r⟩
/-! ### the bag -/
def spTakeD : SpD := fun ds Q _ => ∃ m n, ds = [.bag m, .int n] ∧ 0 < n ∧ n < 1073741824 ∧ m ≤ 1000000 ∧ ∀ d, 0 ≤ d → d < n → Q (.int d) [.bag (m + 1), .int n]
theorem takeD (c : Cal P w K mg base k "_law_take" spTake []) : CalD P w K mg base k "_law_take" [0] spTakeD := by
  refine ⟨CalX.imp' (toX c) fun vs H Q E h => ?_, fun ds Q Q' E E' hq he h => ?_⟩
  · obtain ⟨B, Z, ds, hB, e, m, n, rfl, n0, n1, hm, q⟩ := h
    obtain ⟨l, d0, h1, h2, h3⟩ := e.own 0 List.mem_cons_self
    cases h2
    have hlen := e.len
    rw [List.length_map, List.length_map] at hlen
    match vs, hlen, h1, e, q with
    | [v0, v1], _, h1, e, q =>
      have ev0 : v0 = .ref l := by
        have : (some (some v0) : Option (Option V)) = some (some (.ref l)) := h1
        cases this
        rfl
      subst ev0
      obtain ⟨v, g1, g2⟩ := e.val 1 (.int n) (by decide) rfl
      have ev1 : v1 = .int n := by
        have : (some (some v1) : Option (Option V)) = some (some v) := g1
        cases this
        cases g2
        rfl
      subst ev1
      refine ⟨l, n, m, rfl, n0, n1, h3, hm, fun d H' d0 d1 bu bg => ?_⟩
      refine q d d0 d1 rfl _ H' ?_ (.int _)
      refine e.put (i := 0) List.mem_cons_self rfl ?_ (fun b hb hm => ?_) bg
      · intro c o hc
        obtain ⟨nc, hc⟩ := hidL_some hc
        have ncl : c ≠ l := fun z => nc (by rw [z]; exact List.mem_cons_self)
        exact .inl (by rw [hidL_out nc]; exact bu.at ncl hc)
      · cases hh : H b with
        | none => exact absurd hh (e.live hm)
        | some o => exact bu.at hb hh
  · obtain ⟨m, n, h0, h1, h2, h3, h4⟩ := h
    exact ⟨m, n, h0, h1, h2, h3, fun d d0 d1 => hq _ _ (h4 d d0 d1)⟩
end
section
variable {K : PySem.W.Frag} {Ox O : List Nat} {W : WX} {X : Cx} {a : Expr} {es : List Expr} {tr : TA} {ur : UA} {pos p : Pos} {x : Str} {k j : Nat}
theorem En.samez {B : Bs} {Z : Zs} {σ : L2.St} {H H' : Hp} {Γ : Sl} (e : En K B Z O σ H Γ) (s : Same H H') {q : Addr} {o : HO} (nq : H q = none) (hq : H' q = some o) : En K B ((q, o) :: Z) O σ H' Γ := by
  have hp : ∀ {a}, H a ≠ none → a ≠ q := fun {a} h z => h (z ▸ nq)
  have l : Le (hO H σ O Z) (hO H' σ O ((q, o) :: Z)) := fun c x h => by
    obtain ⟨n, h⟩ := hidL_some h
    have hc : c ≠ q := hp (by rw [h]; exact fun z => nomatch z)
    refine .inl ?_
    rw [hO_out]
    · exact s _ _ h
    · intro z
      rcases List.mem_append.mp z with z | z
      · exact n (List.mem_append_left _ z)
      · rcases List.mem_cons.mp z with z | z
        · exact hc z
        · exact n (List.mem_append_right _ z)
  have same : ∀ {a}, H a ≠ none → H' a = H a := fun {a} h => by
    cases hh : H a with
    | none => exact absurd hh h
    | some u => exact s _ _ hh
  refine ⟨e.len, fun i d hi h => ?_, fun i hi => ?_, e.ne, fun y hy => ?_, fun y hy => ?_, e.bs.trans l, e.ad⟩
  · obtain ⟨v, h1, h2⟩ := e.val i d hi h
    exact ⟨v, h1, h2.le l⟩
  · obtain ⟨a, d, h1, h2, h3⟩ := e.own i hi
    exact ⟨a, d, h1, h2, h3.mono (same h3.some) l⟩
  · rcases List.mem_cons.mp hy with rfl | hy
    · exact hq
    · exact s _ _ (e.zs y hy)
  · rcases List.mem_cons.mp hy with rfl | hy
    · exact fun z => e.fresh nq (List.mem_append_left _ z)
    · exact e.zo y hy
def uBag (ur : UA) : UE := fun Γ Q Ex => ur Γ (fun ds Γ1 => ∃ ns i, ds = [.scr ns, .int i] ∧ 0 ≤ i ∧ i ≤ 1000 ∧ Q (.bag 0) Γ1) Ex
theorem df_bag (c : Cal X.prog X.w K X.mg X.base k "_law_bag" (spBag K) []) (hr : Rm j X.A) (hk : k ≤ j) (hg : Gl X "_law_bag") (ha : DA K Ox O W X (a :: es) tr ur) (hK : X.K = K := by rfl)
    (he : starEach (a :: es) X.env = (false, eval a X.env) :: starEach es X.env := by rfl)
    (hpl : (backTo pos (starEach es X.env)).any (·.1) = false := by rfl) :
    DF K Ox O W X (.Call (.Name "_law_bag" p) (a :: es) [] pos) (tCall (spBag K) [] E0 tr) (uBag ur) := ⟨fun g => by
  subst hK
  exact pe_c c hr hk hg (ha.p g) (by decide) he hpl, by
  intro B Z σ H Γ Q Qd Ex e ex hu kk
  refine ha.r B Z σ H Γ _ _ Ex e ex hu fun vs H1 ds Γ1 e1 r1 q1 => ?_
  obtain ⟨ns, i, rfl, i0, i1, q⟩ := q1
  obtain ⟨v, w, rfl, rv, rw_⟩ := Rps.inv2 r1
  cases rw_
  cases rv with
  | scr s =>
    refine ⟨_, ns, i, rfl, hidL_le.lc.seq s, i0, i1, fun b H' s' nb bg => ?_⟩
    obtain ⟨o, ho⟩ := bg.some
    exact kk b o H' (.bag 0) Γ1 (e1.samez s' nb ho) (fun z => e1.fresh nb (List.mem_append_right _ z)) bg q⟩
end
end Dv
set_option Elab.async false
set_option linter.all false
set_option maxRecDepth 100000
set_option maxHeartbeats 4000000
/-! Dv13: loops and comprehensions over data, by what holds with the rest to go. -/
namespace Dv
open PySem PySem.Spec PyProof.Rows L2 Eu
section
variable {α : Type} {ug : UG} {u : US} {ED : EndsD} {Γ : Sl}
theorem for_go {f : α → D} {xs : List α} (P : List α → Sl → Prop) (hP : P xs Γ) (h0 : ∀ Γ, P [] Γ → ED.nx Γ)
    (h1 : ∀ x xs Γ, P (x :: xs) Γ → (∀ Γ', P xs Γ' → uForL ug u ED (xs.map f) Γ') → ug (f x) Γ fun Γ1 => u { ED with nx := uForL ug u ED (xs.map f), ct := uForL ug u ED (xs.map f), bk := ED.nx } Γ1) : uForL ug u ED (xs.map f) Γ := by
  induction xs generalizing Γ with
  | nil => exact h0 Γ hP
  | cons x xs ih => exact h1 x xs Γ hP fun Γ' h => ih h
theorem for_goN {lo : Int} {n : Nat} (P : Nat → Sl → Prop) (hP : P 0 Γ) (h0 : ∀ Γ, P n Γ → ED.nx Γ)
    (h1 : ∀ i Γ (N : Sl → Prop), i < n → P i Γ → (∀ Γ', P (i + 1) Γ' → N Γ') → ug (.int (lo + (i : Int))) Γ fun Γ1 => u { ED with nx := N, ct := N, bk := ED.nx } Γ1) : uForL ug u ED (rng lo n) Γ := by
  have gen : ∀ k i Γ, i + k = n → P i Γ → uForL ug u ED ((List.range' i k).map fun j : Nat => D.int (lo + (j : Int))) Γ := by
    intro k
    induction k with
    | zero =>
      intro i Γ e p
      have : i = n := by omega
      subst this
      exact h0 Γ p
    | succ k ih =>
      intro i Γ e p
      rw [List.range'_succ, List.map_cons]
      exact h1 i Γ _ (by omega) p fun Γ' p' => ih (i + 1) Γ' (by omega) p'
  have := gen n 0 Γ (by omega) hP
  unfold rng
  rw [List.range_eq_range']
  exact this
variable {vs : List Nat} {ut : UT} {ue : UE} {Q : List D → Sl → Prop} {acc : List D}
theorem lc_go {f : α → D} {xs : List α} (P : List α → List D → Sl → Prop) (hP : P xs acc Γ) (h0 : ∀ acc Γ, P [] acc Γ → Q acc Γ)
    (h1 : ∀ x xs acc Γ, P (x :: xs) acc Γ → (∀ acc' Γ', P xs acc' Γ' → uLcL vs ug ut ue Q (xs.map f) acc' Γ') →
      ug (f x) Γ fun Γ1 => ut Γ1 (fun b Γ2 => if b = true then ue Γ2 (fun y Γ3 => uLcL vs ug ut ue Q (xs.map f) (acc ++ [y]) (wipeD Γ3 vs)) Ex0 else uLcL vs ug ut ue Q (xs.map f) acc (wipeD Γ2 vs)) Ex0) : uLcL vs ug ut ue Q (xs.map f) acc Γ := by
  induction xs generalizing Γ acc with
  | nil => exact h0 acc Γ hP
  | cons x xs ih => exact h1 x xs acc Γ hP fun acc' Γ' h => ih h
theorem lc_goN {lo : Int} {n : Nat} (P : Nat → List D → Sl → Prop) (hP : P 0 acc Γ) (h0 : ∀ acc Γ, P n acc Γ → Q acc Γ)
    (h1 : ∀ i acc Γ (N : List D → Sl → Prop), i < n → P i acc Γ → (∀ acc' Γ', P (i + 1) acc' Γ' → N acc' Γ') →
      ug (.int (lo + (i : Int))) Γ fun Γ1 => ut Γ1 (fun b Γ2 => if b = true then ue Γ2 (fun y Γ3 => N (acc ++ [y]) (wipeD Γ3 vs)) Ex0 else N acc (wipeD Γ2 vs)) Ex0) : uLcL vs ug ut ue Q (rng lo n) acc Γ := by
  have gen : ∀ k i acc Γ, i + k = n → P i acc Γ → uLcL vs ug ut ue Q ((List.range' i k).map fun j : Nat => D.int (lo + (j : Int))) acc Γ := by
    intro k
    induction k with
    | zero =>
      intro i acc Γ e p
      have : i = n := by omega
      subst this
      exact h0 acc Γ p
    | succ k ih =>
      intro i acc Γ e p
      rw [List.range'_succ, List.map_cons]
      exact h1 i acc Γ _ (by omega) p fun acc' Γ' p' => ih (i + 1) acc' Γ' (by omega) p'
  have := gen n 0 acc Γ (by omega) hP
  unfold rng
  rw [List.range_eq_range']
  exact this
end
theorem ite2D {b : Bool} {A B : Prop} (h1 : b = true → A) (h2 : b = false → B) : if b = true then A else B := by
  cases b
  · exact h2 rfl
  · exact h1 rfl
end Dv
set_option Elab.async false
set_option linter.all false
set_option maxRecDepth 100000
set_option maxHeartbeats 4000000
/-! Dv14: objects: fields, methods, making them. -/
namespace Dv
open PySem PySem.Spec PyProof.Rows L2 Eu
section
variable {K : PySem.W.Frag} {Ox O io : List Nat} {W : WX} {sp : SpD}
/-- a call, from what stands ahead of it -/
theorem lift_of {B : Bs} {Z : Zs} {σ : L2.St} {H : Hp} {Γ : Sl} {vs : List V} {ars : List Ar} {ds : List D} {Q : VK} {Qd : D → Sl → Prop} {Ex : UX} (hx : ∀ i ∈ Ox, i ∈ O) (mono : sp.Mono) (e1 : En K B Z O σ H Γ) (ex : ExO K B Z Ox W Ex) (r1 : RpAs K O σ (hO H σ O Z) vs ars) (hd : deref Γ ars = some ds) (hio : ioOf 0 ars = io) (nd : (slotsOf ars).Nodup)
    (q : sp ds (fun r ds' => Qd r (putB Γ ars ds')) (fun x ds' => Ex x (cut Ox O (putB Γ ars ds')))) (kk : ∀ v H' d Γ', En K B Z O σ H' Γ' → Rp K (hO H' σ O Z) v d → Qd d Γ' → Q v H') : lift K io sp vs H Q (fun cls d H' => W cls d σ H') := by
  obtain ⟨Zc, ec, back, l2⟩ := call_en e1 r1 hd nd
  rw [hio] at ec back l2
  refine ⟨_, Zc, ds, rfl, ec, mono _ _ _ _ _ (fun r ds' q' hl v H' ec' rv => ?_) (fun xd ds' q' hl dd fs' H' ec' hdd rv => ?_) q⟩
  · exact kk v H' r _ (back H' ds' hl ec') (rv.le (l2 H')) q'
  · have e2 := back H' ds' hl ec'
    exact ex.go σ H' _ xd.1 xd.2 dd fs' (e2.cut hx) ((hO_sub hx).lc.xd ((l2 H').lc.xd hdd)) ((rv.le (l2 H')).le (hO_sub hx)) q'
theorem RpAs.append {σ : L2.St} {Hh : Hp} : ∀ {vs ws : List V} {as bs : List Ar}, RpAs K O σ Hh vs as → RpAs K O σ Hh ws bs → RpAs K O σ Hh (vs ++ ws) (as ++ bs)
  | _, _, _, _, .nil, h => h
  | _, _, _, _, .cons h1 h2, h => .cons h1 (RpAs.append h2 h)
theorem RpAs.vals {σ : L2.St} {Hh : Hp} : ∀ {vs : List V} {ds : List D}, Rps K Hh vs ds → RpAs K O σ Hh vs (ds.map Ar.v)
  | _, _, .nil => .nil
  | _, _, .cons h1 h2 => .cons (a := .v _) h1 (RpAs.vals h2)
theorem lookup_rel {H : Hp} {f : Str} : ∀ {fs : List (Str × V)} {ds : List (Str × D)}, Rpf K H fs ds → (ds.lookup f = none ∧ fs.lookup f = none) ∨ ∃ d v, ds.lookup f = some d ∧ fs.lookup f = some v ∧ Rp K H v d
  | _, _, .nil => .inl ⟨rfl, rfl⟩
  | _, _, .cons (k := k') (v := v) (d := d) h1 h2 => by
    rw [List.lookup_cons, List.lookup_cons]
    cases h : f == k' with
    | true => exact .inr ⟨d, v, rfl, rfl, h1⟩
    | false => exact lookup_rel h2
def putFD (f : Str) (d : D) : List (Str × D) → List (Str × D)
  | [] => [(f, d)]
  | (g, x) :: r => if g = f then (g, d) :: r else (g, x) :: putFD f d r
end
section
variable {K : PySem.W.Frag} {Ox O io Ol : List Nat} {W : WX} {X : Cx} {o e a b : Expr} {es : List Expr} {ta to tv : TE} {ua uo uv : UE} {pos p apos pos' : Pos} {t : TA} {u : UAr} {x f m : Str} {sp : SpD} {spV : Sp} {k j i : Nat} {C : Addr} {E : L2.St → XK}
/-! ### o.f -/
def uFld (C : Addr) (f : Str) (ua : UE) : UE := fun Γ Q Ex => ua Γ (fun d Γ1 => ∃ fs v, d = .obj C fs ∧ fs.lookup f = some v ∧ Q v Γ1) Ex
theorem de_fld (cl : Cls K C) (na : NoAttr K C f) (h : DE K Ox O W X a ta ua) (hb : attributeBase a f X.env (eval a X.env) = eval a X.env := by rfl) (hK : X.K = K := by rfl) : DE K Ox O W X (.Attribute a f pos) (tFld K ta f) (uFld C f ua) := ⟨fun g => by subst hK; exact pe_fld (h.p g) hb, by
  intro B Z σ H Γ Q Qd Ex e ex hu kk
  refine h.r B Z σ H Γ _ _ Ex e ex hu fun v H1 d Γ1 e1 r1 q1 => ?_
  obtain ⟨fs, y, rfl, hl, q⟩ := q1
  cases r1 with
  | obj h1 h2 =>
    rcases lookup_rel (f := f) h2 with ⟨z, _⟩ | ⟨d, v, g1, g2, g3⟩
    · rw [hl] at z; cases z
    · rw [hl] at g1
      cases g1
      exact ⟨_, C, _, _, v, rfl, (hidL_some h1).2, cl, na, g2, kk _ H1 _ Γ1 e1 g3 q⟩⟩
/-- of an owned object -/
def uFldO (C : Addr) (f : Str) (i : Nat) : UE := fun Γ Q _ => ∃ fs v, Γ[i]? = some (some (.obj C fs)) ∧ fs.lookup f = some v ∧ Q v Γ
theorem de_fldO (cl : Cls K C) (na : NoAttr K C f) (hN : X.N[i]? = some x) (hv : Vis X.env.scope x) (hi : i ∈ O) (hb : attributeBase (.Name x p) f X.env (eval (.Name x p) X.env) = eval (.Name x p) X.env := by rfl) (hK : X.K = K := by rfl) (hd : (x == ("__debug__" : Str)) = false := by decide) (hcd : (x == ("__classdict__" : Str)) = false := by decide) : DE K Ox O W X (.Attribute (.Name x p) f pos) (tFld K (tVar i) f) (uFldO C f i) := ⟨fun g => by subst hK; exact pe_fld (pe_var hN hv hd hcd) hb, by
  rintro B Z σ H Γ Q Qd Ex e ex ⟨fs, y, hg, hl, q⟩ kk
  obtain ⟨l, d, h1, h2, h3⟩ := e.own i hi
  rw [hg] at h2
  cases h2
  obtain ⟨dx, fs', w1, w2⟩ := h3
  rcases lookup_rel (f := f) w2 with ⟨z, _⟩ | ⟨d, v, g1, g2, g3⟩
  · rw [hl] at z; cases z
  · rw [hl] at g1
    cases g1
    exact ⟨.ref l, h1, l, C, dx, fs', v, rfl, w1, cl, na, g2, kk _ H _ Γ e g3 q⟩⟩
theorem putF_rel {H : Hp} {v : V} {d : D} (h : Rp K H v d) : ∀ {fs : List (Str × V)} {ds : List (Str × D)}, Rpf K H fs ds → Rpf K H (putF f v fs) (putFD f d ds)
  | _, _, .nil => .cons h .nil
  | _, _, .cons (k := g) h1 h2 => by
    rw [putF, putFD]
    split
    · exact .cons h h2
    · exact .cons h1 (putF_rel h h2)
theorem Rpf.length {H : Hp} : ∀ {v : List (Str × V)} {d : List (Str × D)}, Rpf K H v d → v.length = d.length
  | _, _, .nil => rfl
  | _, _, .cons _ h => congrArg (· + 1) (Rpf.length h)
/-- self.f = e -/
def uSetF (C : Addr) (f : Str) (i : Nat) (uv : UE) : US := fun ED Γ => uv Γ (fun d Γ1 => ∃ fs, Γ1[i]? = some (some (.obj C fs)) ∧ fs.length < 1000 ∧ ED.nx (Γ1.set i (some (.obj C (putFD f d fs))))) ED.ex
theorem ds_setf (cl : Cls K C) (na : NoAttr K C f) (hN : X.N[i]? = some x) (hv : Vis X.env.scope x) (hi : i ∈ O) (h : DE K Ox O W X a ta ua) (hs : swapsWith a (some (.Attribute (.Name x p) f pos')) pos.line X.env = pure false := by rfl) (hK : X.K = K := by rfl) (hd : (x == ("__debug__" : Str)) = false := by decide) (hcd : (x == ("__classdict__" : Str)) = false := by decide) :
    DS K Ox O W Ol O X (.Assign [.Attribute (.Name x p) f pos'] a pos) (sFld K (tVar i) ta f) (uSetF C f i ua) := ⟨fun g po => by subst hK; exact ps_fld (pe_var hN hv hd hcd) (h.p g) hs, by
  intro B Z σ H Γ D ED hB e ex hu nx rt bk ct
  refine h.r B Z σ H Γ _ _ _ e ex hu fun v H1 d Γ1 e1 r1 q1 => ?_
  obtain ⟨fs, g1, g2, q⟩ := q1
  obtain ⟨l, d', h1, h2, h3⟩ := e1.own i hi
  rw [g1] at h2
  cases h2
  obtain ⟨dx, fs', w1, w2⟩ := h3
  refine ⟨.ref l, h1, l, C, dx, fs', rfl, w1, cl, na, by rw [w2.length]; exact g2, ?_⟩
  exact nx _ _ _ (en_put (d := .obj C (putFD f d fs)) e1 hi h1 ⟨dx, _, upd_same, putF_rel r1 w2⟩) q⟩
/-! ### methods -/
def tMethW (C : Addr) (m : Str) (sp : Sp) (E : L2.St → XK) (ta : TE) (t : TA) : TE := fun σ H Q => ta σ H fun x H1 => ∃ a dx fs, x = V.ref a ∧ H1 a = some (.ins C dx fs) ∧ fs.lookup m = none ∧ t σ H1 fun vs H2 => sp (x :: vs) H2 Q (E σ)
theorem run_okW {pins : List (Addr × Obj)} {σ : L2.St} {H : Hp} {s : Shared} {Q : VK} {us : List Value} {vs : List V} {f : Addr} {fd : FuncData} {ps : List Str} {sp : Sp} {ds : List Value} {dvs : List V} {E : XK} {CX : CXT}
    (o : Ok X.prog X.w X.K X.mg X.base CX k f fd ps sp) (hr : Rm k X.A) (hb : Binds X.K fd ps ds) (hd : Vals dvs ds)
    (hx : PassesAt CX X σ E) (I : Inv X pins σ H s) (r : Vals vs us) (h : sp (vs ++ dvs) H Q E) :
    wpAny (model X.prog X.w) X.A (call (.ref f) us) (EP X pins σ Q) X.xe s := by
  have rr := r.append hd
  have hl : (us ++ ds).length = ps.length := rr.length ▸ o.len _ _ _ _ h
  refine wpAny_call (codeAny_mono (o.go X.A X.stack s H ⟨us, []⟩ (us ++ ds) (vs ++ dvs) Q E hr I.env0 (hb s us I.kIn hl) rr h) ?_)
  intro res s' hq
  match res, hq with
  | .error e, hq => exact hx pins H s e s' I hq
  | .ok (.ret u), hq => exact I.after hq
  | .ok .next, hq => exact False.elim hq
  | .ok .brk, hq => exact False.elim hq
  | .ok .cont, hq => exact False.elim hq
theorem pe_mtW {pl : Sem Bool} (c : MetX X.prog X.w X.K X.mg X.base k C m spV []) (hr : Rm j X.A) (hk : k ≤ j) (hx : ∀ σ, PassesAt (L2.CX X.prog X.w) X σ (E σ)) (he : PE X o ta) (ha : PA X (e :: es) t)
    (hst : starEach (e :: es) X.env = (false, eval e X.env) :: starEach es X.env := by rfl)
    (hpl : (backTo pos (starEach es X.env)).any (·.1) = false := by rfl)
    (ht : eval (.Call (.Attribute o m apos) (e :: es) [] pos) X.env = (do
      let v ← eval o X.env
      standAt apos.atName
      let (g, l) ← holding [v] (getMethod v m pl)
      callWith pos g l (backTo pos (starEach (e :: es) X.env)) (backToKw pos (keywordEach [] X.env))) := by rfl) :
    PE X (.Call (.Attribute o m apos) (e :: es) [] pos) (tMethW C m spV E ta t) := by
  obtain ⟨f, fd, ps, ds, hc, hm, ok, b, d⟩ := c.ex
  constructor
  intro pins s σ H Q I h
  refine PySem.W.methodCall_KW (pl := pl) (thn (he.run pins s σ H _ I h) ?_) ht
  rintro u s1 ⟨y, H1, I1, ry, a, dx, fs, ey, ea, l, q⟩
  subst ey
  have eu : u = Value.ref a := ry
  subst eu
  refine getmeth_ok I1 ea hc hm l ?_
  refine PySem.W.callWith_K (first := [.ref a]) (h₀ := X.base) I.ok.mod.kin hm.kp (thn (ha.run pos pins s1 σ H1 _ I1 q) ?_) hst hpl
  rintro us s2 ⟨vs, H2, I2, r, q2⟩
  exact ⟨I2.kIn, run_okW (us := .ref a :: us) (vs := .ref a :: vs) ok (hr.mono hk) b d (hx σ) I2 (.cons rfl r) (by cases d; rw [List.append_nil]; exact q2)⟩
theorem pe_mt0W {pl : Sem Bool} (c : MetX X.prog X.w X.K X.mg X.base k C m spV []) (hr : Rm j X.A) (hk : k ≤ j) (hx : ∀ σ, PassesAt (L2.CX X.prog X.w) X σ (E σ)) (he : PE X o ta)
    (ht : eval (.Call (.Attribute o m apos) [] [] pos) X.env = (do
      let v ← eval o X.env
      standAt apos.atName
      let (g, l) ← holding [v] (getMethod v m pl)
      callWith pos g l (backTo pos (starEach [] X.env)) (backToKw pos (keywordEach [] X.env))) := by rfl) :
    PE X (.Call (.Attribute o m apos) [] [] pos) (tMethW C m spV E ta tNil) := by
  obtain ⟨f, fd, ps, ds, hc, hm, ok, b, d⟩ := c.ex
  constructor
  intro pins s σ H Q I h
  refine PySem.W.methodCall_KW (pl := pl) (thn (he.run pins s σ H _ I h) ?_) ht
  rintro u s1 ⟨y, H1, I1, ry, a, dx, fs, ey, ea, l, q⟩
  subst ey
  have eu : u = Value.ref a := ry
  subst eu
  refine getmeth_ok I1 ea hc hm l ?_
  exact PySem.W.callWith_K0 (first := [.ref a]) I1.kIn hm.kp (run_okW (us := [.ref a]) (vs := [.ref a]) ok (hr.mono hk) b d (hx σ) I1 (.cons rfl .nil) (by cases d; rw [List.append_nil]; exact q))
structure MetD (P : Program) (w : World) (K : PySem.W.Frag) (mg : Str → Option Value) (base : Heap) (k : Nat) (C : Addr) (m : Str) (io : List Nat) (sp : SpD) : Prop where
  c : MetX P w K mg base k C m (lift K io sp) []
  mono : sp.Mono
/-- the object is a value -/
def uMeth (Ox O : List Nat) (C : Addr) (m : Str) (sp : SpD) (io : List Nat) (ua : UE) (u : UAr) : UE := fun Γ Q Ex => ua Γ (fun d Γ1 => ∃ fs, d = .obj C fs ∧ fs.lookup m = none ∧ u Γ1 (fun ars Γ2 => ∃ ds, deref Γ2 ars = some ds ∧ ioOf 1 ars = io ∧ (slotsOf ars).Nodup ∧
  sp (d :: ds) (fun r ds' => Q r (putB Γ2 (.v d :: ars) ds')) (fun x ds' => Ex x (cut Ox O (putB Γ2 (.v d :: ars) ds')))) Ex) Ex
theorem rf_meth {es : List Expr} (hx : ∀ i ∈ Ox, i ∈ O) (mono : sp.Mono) (ha : RfE K Ox O W ta ua) (hr : DAr K Ox O W X es t u) : RfE K Ox O W (tMethW C m (lift K io sp) (fun σ cls d H => W cls d σ H) ta t) (uMeth Ox O C m sp io ua u) := by
  intro B Z σ H Γ Q Qd Ex e ex hu kk
  refine ha B Z σ H Γ _ _ Ex e ex hu fun x H1 d Γ1 e1 r1 q1 => ?_
  obtain ⟨fs, rfl, hl, q1⟩ := q1
  cases r1 with
  | obj h1 h2 =>
    rename_i l dx fs'
    have hl' : fs'.lookup m = none := by
      rcases lookup_rel (f := m) h2 with ⟨_, z⟩ | ⟨d, v, g1, _⟩
      · exact z
      · rw [hl] at g1; cases g1
    refine ⟨l, dx, fs', rfl, (hidL_some h1).2, hl', ?_⟩
    refine hr.r ⟨hO H1 σ O Z, B.ad⟩ Z σ H1 Γ1 _ _ Ex e1.self (ex.at e1) q1 fun vs H2 ars Γ2 e2 r2 q2 => ?_
    obtain ⟨ds, hd, hio, nd, q⟩ := q2
    have rx : Rp K (hO H2 σ O Z) (.ref l) (.obj C fs) := (Rp.obj h1 h2).le e2.le
    refine lift_of (ars := .v (.obj C fs) :: ars) (ds := .obj C fs :: ds) hx mono (e1.back e2) ex (.cons (a := .v _) rx r2) ?_ hio nd q kk
    rw [deref, hd]
theorem de_meth (c : MetD X.prog X.w K X.mg X.base k C m io sp) (hr : Rm j X.A) (hk : k ≤ j) (hx : ∀ i ∈ Ox, i ∈ O) (he : DE K Ox O W X o ta ua) (ha : DAr K Ox O W X (e :: es) t u) (hK : X.K = K := by rfl) {pl : Sem Bool}
    (hst : starEach (e :: es) X.env = (false, eval e X.env) :: starEach es X.env := by rfl)
    (hpl : (backTo pos (starEach es X.env)).any (·.1) = false := by rfl)
    (ht : eval (.Call (.Attribute o m apos) (e :: es) [] pos) X.env = (do
      let v ← eval o X.env
      standAt apos.atName
      let (g, l) ← holding [v] (getMethod v m pl)
      callWith pos g l (backTo pos (starEach (e :: es) X.env)) (backToKw pos (keywordEach [] X.env))) := by rfl) :
    DE K Ox O W X (.Call (.Attribute o m apos) (e :: es) [] pos) (tMethW C m (lift K io sp) (fun σ cls d H => W cls d σ H) ta t) (uMeth Ox O C m sp io ua u) := ⟨fun g => by
  subst hK
  exact pe_mtW (pl := pl) c.c hr hk g.pass (he.p g) (ha.p g) hst hpl ht, rf_meth hx c.mono he.r ha⟩
theorem de_meth0 (c : MetD X.prog X.w K X.mg X.base k C m io sp) (hr : Rm j X.A) (hk : k ≤ j) (hx : ∀ i ∈ Ox, i ∈ O) (he : DE K Ox O W X o ta ua) (hK : X.K = K := by rfl) {pl : Sem Bool}
    (ht : eval (.Call (.Attribute o m apos) [] [] pos) X.env = (do
      let v ← eval o X.env
      standAt apos.atName
      let (g, l) ← holding [v] (getMethod v m pl)
      callWith pos g l (backTo pos (starEach [] X.env)) (backToKw pos (keywordEach [] X.env))) := by rfl) :
    DE K Ox O W X (.Call (.Attribute o m apos) [] [] pos) (tMethW C m (lift K io sp) (fun σ cls d H => W cls d σ H) ta tNil) (uMeth Ox O C m sp io ua rNil) := ⟨fun g => by
  subst hK
  exact pe_mt0W (pl := pl) c.c hr hk g.pass (he.p g) ht, rf_meth (X := X) hx c.mono he.r dr_nil⟩
/-! ### C(..) -/
structure MakX (P : Program) (w : World) (K : PySem.W.Frag) (mg : Str → Option Value) (base : Heap) (k : Nat) (x : Str) (C : Addr) (sp : Sp) (dvs : List V) : Prop where
  ex : ∃ (f : Addr) (fd : FuncData) (ps : List Str) (ds : List Value), Mk K C f ∧ Ok P w K mg base (L2.CX P w) k f fd ps sp ∧ mg x = some (.ref C) ∧ Binds K fd ps ds ∧ Vals dvs ds
def tMakeW (C : Addr) (sp : Sp) (dvs : List V) (E : L2.St → XK) (t : TA) : TE := fun σ H Q => t σ H fun vs H1 => ∀ x dx, H1 x = none → H1 dx = none → dx ≠ x →
  sp (.ref x :: (vs ++ dvs)) (upd (upd H1 dx (.own x)) x (.ins C dx [])) (fun v H2 => v = .non ∧ Q (.ref x) H2) (E σ)
theorem run_mkW {pins : List (Addr × Obj)} {σ : L2.St} {H : Hp} {s : Shared} {Q : VK} {us : List Value} {vs : List V} {f : Addr} {fd : FuncData} {ps : List Str} {sp : Sp} {ds : List Value} {dvs : List V} {E : XK} {CX : CXT} (M : Mk X.K C f) (o : Ok X.prog X.w X.K X.mg X.base CX k f fd ps sp)
    (hr : Rm (k + 1) X.A) (hb : Binds X.K fd ps ds) (hd : Vals dvs ds) (hx : PassesAt CX X σ E) (I : Inv X pins σ H s) (r : Vals vs us)
    (h : ∀ x dx, H x = none → H dx = none → dx ≠ x → sp (.ref x :: (vs ++ dvs)) (upd (upd H dx (.own x)) x (.ins C dx [])) (fun v H2 => v = .non ∧ Q (.ref x) H2) E) :
    wpAny (model X.prog X.w) X.A (call (.ref C) us) (EP X pins σ Q) X.xe s := by
  have hq := h (s.heap.objs.size + 1) s.heap.objs.size (I.hok.fresh (Nat.le_succ _)) (I.hok.fresh (Nat.le_refl _)) (Nat.ne_of_lt (Nat.lt_succ_self _))
  have I2 := Inv.made (C := C) I
  have rr : Vals (V.ref (s.heap.objs.size + 1) :: (vs ++ dvs)) (Value.ref (s.heap.objs.size + 1) :: (us ++ ds)) := .cons rfl (r.append hd)
  have hl : (Value.ref (s.heap.objs.size + 1) :: us ++ ds).length = ps.length := by
    have e := rr.length
    rw [o.len _ _ _ _ hq] at e
    exact e.symm
  have b2 := hb _ (Value.ref (s.heap.objs.size + 1) :: us) I2.kIn hl
  have go := o.go _ X.stack _ _ ⟨Value.ref (s.heap.objs.size + 1) :: us, []⟩ (Value.ref (s.heap.objs.size + 1) :: (us ++ ds)) _ _ E (hr.make C us []) (I2.env0.make C us []) b2 rr hq
  refine wpAny_call (make_map (f := f) I.kIn M.makes M.init (beq_iff_eq.mp M.fn) (codeAny_mono go ?_))
  intro res s' hq'
  match res, hq' with
  | .error e, hq' => exact hx pins _ _ e s' I2 hq'
  | .ok .next, hq' => exact False.elim hq'
  | .ok .brk, hq' => exact False.elim hq'
  | .ok .cont, hq' => exact False.elim hq'
  | .ok (.ret u), hq' =>
    obtain ⟨v, H', I3, rv, ev, q3⟩ := I2.after hq'
    subst ev
    exact ⟨rv, ⟨V.ref (s.heap.objs.size + 1), H', I3, rfl, q3⟩⟩
theorem pe_mkW {dvs : List V} (c : MakX X.prog X.w X.K X.mg X.base k x C spV dvs) (hr : Rm j X.A) (hk : k + 1 ≤ j) (hx : ∀ σ, PassesAt (L2.CX X.prog X.w) X σ (E σ)) (hg : Gl X x) (ha : PA X (e :: es) t)
    (hdb : (x == ("__debug__" : Str)) = false := by decide)
    (he : starEach (e :: es) X.env = (false, eval e X.env) :: starEach es X.env := by rfl)
    (hpl : (backTo pos (starEach es X.env)).any (·.1) = false := by rfl) :
    PE X (.Call (.Name x p) (e :: es) [] pos) (tMakeW C spV dvs E t) := by
  obtain ⟨f, fd, ps, ds, M, o, hm, b, d⟩ := c.ex
  constructor
  intro pins s σ H Q I h
  apply wpAny_Call_Name_kw
  apply ld_glob I hg hm _ hdb
  refine PySem.W.callWith_K (h₀ := X.base) I.ok.mod.kin M.kp (thn (ha.run pos pins s σ H _ I h) ?_) he hpl
  rintro us s1 ⟨vs, H1, I1, r, q⟩
  exact ⟨I1.kIn, run_mkW M o (hr.mono hk) b d (hx σ) I1 r q⟩
theorem pe_mk0W {dvs : List V} (c : MakX X.prog X.w X.K X.mg X.base k x C spV dvs) (hr : Rm j X.A) (hk : k + 1 ≤ j) (hx : ∀ σ, PassesAt (L2.CX X.prog X.w) X σ (E σ)) (hg : Gl X x)
    (hdb : (x == ("__debug__" : Str)) = false := by decide) : PE X (.Call (.Name x p) [] [] pos) (tMakeW C spV dvs E tNil) := by
  obtain ⟨f, fd, ps, ds, M, o, hm, b, d⟩ := c.ex
  constructor
  intro pins s σ H Q I h
  apply wpAny_Call_Name_kw
  apply ld_glob I hg hm _ hdb
  exact PySem.W.callWith_K0 I.kIn M.kp (run_mkW (us := []) M o (hr.mono hk) b d (hx σ) I .nil h)
structure MakD (P : Program) (w : World) (K : PySem.W.Frag) (mg : Str → Option Value) (base : Heap) (k : Nat) (x : Str) (C : Addr) (sp : SpD) (dvs : List V) (dds : List D) : Prop where
  c : MakX P w K mg base k x C (lift K [0] sp) dvs
  mono : sp.Mono
  dfl : ∀ H, Rps K H dvs dds
/-- __init__ gets the new object, and changes it; what is handed over besides are values -/
def uMake (Ox O : List Nat) (C : Addr) (sp : SpD) (dds : List D) (ur : UA) : UE := fun Γ Q Ex => ur Γ (fun ds Γ1 => sp (.obj C [] :: (ds ++ dds)) (fun r ds' => r = .non ∧ ∃ fs ds'', ds' = .obj C fs :: ds'' ∧ Q (.obj C fs) Γ1) (fun x _ => Ex x (cut Ox O Γ1))) Ex
end
end Dv
set_option Elab.async false
set_option linter.all false
set_option maxRecDepth 100000
set_option maxHeartbeats 4000000
/-! Dv15: objects made. -/
namespace Dv
open PySem PySem.Spec PyProof.Rows L2 Eu
section
variable {K : PySem.W.Frag} {B : Bs} {Z : Zs} {O : List Nat} {σ : L2.St} {H H1 H2 H' : Hp} {Γ : Sl}
/-- what the slots of O hold, hidden -/
def ownZ (σ : L2.St) (O : List Nat) (H : Hp) (Z : Zs) : Zs := (oA σ O).map (fun a => (a, (H a).getD (.lst []))) ++ Z
theorem ownZ_mem {a : Addr} : a ∈ zA (ownZ σ O H Z) ↔ a ∈ oA σ O ++ zA Z := by
  unfold ownZ zA
  rw [List.map_append, List.mem_append, List.mem_append, List.map_map]
  constructor
  · rintro (h | h)
    · obtain ⟨b, hb, rfl⟩ := List.mem_map.mp h
      exact .inl hb
    · exact .inr h
  · rintro (h | h)
    · exact .inl (List.mem_map.mpr ⟨a, h, rfl⟩)
    · exact .inr h
theorem make_en {x : Addr} {o : HO} {d : D} {vs : List V} {ds : List D} (e : En K B Z O σ H1 Γ) (s : Same H1 H2) (nx : H1 x = none) (hx : H2 x = some o) (w : Own K (hidL H2 (x :: (oA σ O ++ zA Z))) H2 x d) (r : Rps K (hO H1 σ O Z) vs ds) :
    En K ⟨hO H1 σ O Z, []⟩ (ownZ σ O H1 Z) [0] ((V.ref x :: vs).map some) H2 ((d :: ds).map some) ∧
    ∀ H' (d' : D) (ds' : List D), En K ⟨hO H1 σ O Z, []⟩ (ownZ σ O H1 Z) [0] ((V.ref x :: vs).map some) H' ((d' :: ds').map some) →
      ∃ o', En K B ((x, o') :: Z) O σ H' Γ ∧ Own K (hO H' σ O ((x, o') :: Z)) H' x d' := by
  have hp : ∀ {a}, H1 a ≠ none → a ≠ x := fun {a} h z => h (z ▸ nx)
  have fr := e.fresh nx
  have oA0 : ∀ {a}, a ∈ oA ((V.ref x :: vs).map some) [0] ↔ a = x := fun {a} => by
    rw [mem_oA]
    constructor
    · rintro ⟨i, hi, q⟩
      rw [List.mem_singleton.mp hi] at q
      have : (some (some (V.ref x)) : Option (Option V)) = some (some (.ref a)) := q
      cases this
      rfl
    · rintro rfl
      exact ⟨0, List.mem_cons_self, rfl⟩
  have hid : ∀ {a}, a ∈ oA ((V.ref x :: vs).map some) [0] ++ zA (ownZ σ O H1 Z) ↔ a = x ∨ a ∈ oA σ O ++ zA Z := fun {a} => by
    rw [List.mem_append, oA0, ownZ_mem]
  have hidE : ∀ H, hO H ((V.ref x :: vs).map some) [0] (ownZ σ O H1 Z) = hidL H (x :: (oA σ O ++ zA Z)) := fun H => by
    funext c
    have : c ∈ oA ((V.ref x :: vs).map some) [0] ++ zA (ownZ σ O H1 Z) ↔ c ∈ x :: (oA σ O ++ zA Z) := by rw [hid, List.mem_cons]
    by_cases h : c ∈ x :: (oA σ O ++ zA Z)
    · exact (hidL_in (this.mpr h)).trans (hidL_in h).symm
    · exact (hidL_out (fun z => h (this.mp z))).trans (hidL_out h).symm
  have l1 : Le (hO H1 σ O Z) (hidL H2 (x :: (oA σ O ++ zA Z))) := fun c u h => by
    obtain ⟨n, h⟩ := hidL_some h
    have hc : c ≠ x := hp (by rw [h]; exact fun z => nomatch z)
    refine .inl ?_
    rw [hidL_out]
    · exact s _ _ h
    · intro z
      rcases List.mem_cons.mp z with z | z
      · exact hc z
      · exact n z
  refine ⟨⟨by rw [List.length_map, List.length_map, List.length_cons, List.length_cons, r.length], fun i q hi h => ?_, fun i hi => ?_, fun i hi j hj n => absurd ((List.mem_singleton.mp hi).trans (List.mem_singleton.mp hj).symm) n, fun p hp' => ?_, fun p hp' q => ?_, by rw [hidE]; exact l1, fun p hp' => nomatch hp'⟩, ?_⟩
  · cases i with
    | zero => exact absurd List.mem_cons_self hi
    | succ i =>
      rw [mapSome] at h
      obtain ⟨v, h1, h2⟩ := r.at (i := i) (x := q) (by simpa using h)
      exact ⟨v, mapSome.mpr (by simpa using h1), by rw [hidE]; exact h2.le l1⟩
  · rw [List.mem_singleton.mp hi]
    exact ⟨x, d, rfl, rfl, by rw [hidE]; exact w⟩
  · rcases List.mem_append.mp hp' with hp' | hp'
    · obtain ⟨a, ha, rfl⟩ := List.mem_map.mp hp'
      have := e.oa ha
      show H2 a = some ((H1 a).getD (.lst []))
      cases h : H1 a with
      | none => exact absurd h this
      | some u => exact s _ _ h
    · exact s _ _ (e.zs p hp')
  · rw [oA0] at q
    have : p.1 ∈ zA (ownZ σ O H1 Z) := List.mem_map.mpr ⟨p, hp', rfl⟩
    rw [ownZ_mem, q] at this
    exact fr this
  · intro H' d' ds' ec
    obtain ⟨a, q, g1, g2, g3⟩ := ec.own 0 List.mem_cons_self
    have ea : x = a := by
      have : (some (some (V.ref x)) : Option (Option V)) = some (some (.ref a)) := g1
      cases this
      rfl
    subst ea
    have eq : d' = q := by
      have : (some (some d') : Option (Option D)) = some (some q) := g2
      cases this
      rfl
    subst eq
    obtain ⟨o', ho'⟩ : ∃ o', H' x = some o' := by
      cases h : H' x with
      | none => exact absurd h g3.some
      | some o' => exact ⟨o', rfl⟩
    have hz : hO H' σ O ((x, o') :: Z) = hidL H' (x :: (oA σ O ++ zA Z)) := by
      funext c
      have : c ∈ oA σ O ++ zA ((x, o') :: Z) ↔ c ∈ x :: (oA σ O ++ zA Z) := by
        rw [List.mem_append, List.mem_cons, List.mem_append]
        constructor
        · rintro (h | h)
          · exact .inr (.inl h)
          · rcases List.mem_cons.mp h with h | h
            · exact .inl h
            · exact .inr (.inr h)
        · rintro (h | h | h)
          · exact .inr (List.mem_cons.mpr (.inl h))
          · exact .inl h
          · exact .inr (List.mem_cons_of_mem _ h)
      by_cases h : c ∈ x :: (oA σ O ++ zA Z)
      · exact (hidL_in (this.mpr h)).trans (hidL_in h).symm
      · exact (hidL_out (fun z => h (this.mp z))).trans (hidL_out h).symm
    have bs := ec.bs
    rw [hidE] at bs
    refine ⟨o', ⟨e.len, fun i q hi h => ?_, fun i hi => ?_, e.ne, fun p hp' => ?_, fun p hp' => ?_, by rw [hz]; exact e.bs.trans bs, e.ad⟩, by rw [hz, ← hidE]; exact g3⟩
    · obtain ⟨v, h1, h2⟩ := e.val i q hi h
      exact ⟨v, h1, by rw [hz]; exact h2.le bs⟩
    · obtain ⟨a, q, h1, h2, h3⟩ := e.own i hi
      refine ⟨a, q, h1, h2, ?_⟩
      rw [hz]
      refine h3.mono ?_ bs
      have := ec.zs (a, (H1 a).getD (.lst [])) (List.mem_append_left _ (List.mem_map.mpr ⟨a, mem_oA.mpr ⟨i, hi, h1⟩, rfl⟩))
      have this' : H' a = some ((H1 a).getD (.lst [])) := this
      rw [this']
      cases h : H1 a with
      | none => exact absurd h h3.some
      | some u => rfl
    · rcases List.mem_cons.mp hp' with rfl | hp'
      · exact ho'
      · exact ec.zs p (List.mem_append_right _ hp')
    · rcases List.mem_cons.mp hp' with rfl | hp'
      · exact fun z => fr (List.mem_append_left _ z)
      · exact e.zo p hp'
end
section
variable {K : PySem.W.Frag} {Ox O : List Nat} {W : WX} {X : Cx} {e : Expr} {es : List Expr} {pos p : Pos} {t : TA} {ur : UA} {x : Str} {sp : SpD} {k j : Nat} {C : Addr} {dvs : List V} {dds : List D}
theorem rf_make (hx : ∀ i ∈ Ox, i ∈ O) (mono : sp.Mono) (dfl : ∀ H, Rps K H dvs dds) (ha : RfA K Ox O W t ur) : RfL K Ox O W (tMakeW C (lift K [0] sp) dvs (fun σ cls d H => W cls d σ H) t) (uMake Ox O C sp dds ur) := by
  intro B Z σ H Γ Q Qd Ex e ex hu kk
  refine ha B Z σ H Γ _ _ Ex e ex hu fun vs H1 ds Γ1 e1 r1 q1 => ?_
  intro a dx na ndx nda
  let H2 := upd (upd H1 dx (.own a)) a (.ins C dx [])
  have s : Same H1 H2 := fun b u h => by
    show upd (upd H1 dx (.own a)) a (.ins C dx []) b = some u
    rw [upd_ne (ne_of_none h na), upd_ne (ne_of_none h ndx)]
    exact h
  obtain ⟨ec, back⟩ := make_en (x := a) (o := .ins C dx []) (d := .obj C []) (vs := vs ++ dvs) (ds := ds ++ dds) e1 s na upd_same ⟨dx, [], upd_same, .nil⟩ (r1.append (dfl _))
  refine ⟨_, _, _, rfl, ec, mono _ _ _ _ _ (fun r ds' q' hl v H' ec' rv => ?_) (fun xd ds' q' hl dd fs' H' ec' hdd rv => ?_) q1⟩
  · obtain ⟨rfl, fs, ds'', rfl, q'⟩ := q'
    obtain ⟨o', e2, w⟩ := back H' _ _ ec'
    cases rv
    exact ⟨rfl, kk a o' H' _ Γ1 e2 (fun z => e1.fresh na (List.mem_append_right _ z)) w (fun m z => nomatch z) q'⟩
  · match ds', ec' with
    | d' :: ds'', ec' =>
      obtain ⟨o', e2, w⟩ := back H' _ _ ec'
      have ll : Le (hO H' ((V.ref a :: (vs ++ dvs)).map some) [0] (ownZ σ O H1 Z)) (hO H' σ Ox Z) := Le.less fun b hb => by
        rw [List.mem_append, ownZ_mem]
        right
        rcases List.mem_append.mp hb with hb | hb
        · exact List.mem_append_left _ (oA_sub hx _ hb)
        · exact List.mem_append_right _ hb
      exact ex.go σ H' _ xd.1 xd.2 dd fs' (e2.unz.cut hx) (ll.lc.xd hdd) (rv.le ll) q'
    | [], ec' =>
      have := ec'.len
      simp at this
theorem dl_make (c : MakD X.prog X.w K X.mg X.base k x C sp dvs dds) (hr : Rm j X.A) (hk : k + 1 ≤ j) (hg : Gl X x) (hx : ∀ i ∈ Ox, i ∈ O) (ha : DA K Ox O W X (e :: es) t ur) (hK : X.K = K := by rfl)
    (hdb : (x == ("__debug__" : Str)) = false := by decide)
    (he : starEach (e :: es) X.env = (false, eval e X.env) :: starEach es X.env := by rfl)
    (hpl : (backTo pos (starEach es X.env)).any (·.1) = false := by rfl) : DL K Ox O W X (.Call (.Name x p) (e :: es) [] pos) (tMakeW C (lift K [0] sp) dvs (fun σ cls d H => W cls d σ H) t) (uMake Ox O C sp dds ur) := ⟨fun g => by
  subst hK
  exact pe_mkW c.c hr hk g.pass hg (ha.p g) hdb he hpl, rf_make hx c.mono c.dfl ha.r⟩
theorem dl_make0 (c : MakD X.prog X.w K X.mg X.base k x C sp dvs dds) (hr : Rm j X.A) (hk : k + 1 ≤ j) (hg : Gl X x) (hx : ∀ i ∈ Ox, i ∈ O) (hK : X.K = K := by rfl)
    (hdb : (x == ("__debug__" : Str)) = false := by decide) : DL K Ox O W X (.Call (.Name x p) [] [] pos) (tMakeW C (lift K [0] sp) dvs (fun σ cls d H => W cls d σ H) tNil) (uMake Ox O C sp dds uNil) := ⟨fun g => by
  subst hK
  exact pe_mk0W c.c hr hk g.pass hg hdb, rf_make hx c.mono c.dfl (da_nil (X := X)).r⟩
end
/-! ### methods by their bodies -/
section
variable {P : Program} {w : World} {K : PySem.W.Frag} {mg : Str → Option Value} {base : Heap}
theorem lift_len {io : List Nat} {sp : SpD} {n : Nat} (len : ∀ ds Q E, sp ds Q E → ds.length = n) : ∀ vs H Q E, lift K io sp vs H Q E → vs.length = n := fun vs H Q E h => by
  obtain ⟨B, Z, ds, hB, e, q⟩ := h
  have := e.len
  rw [List.length_map, List.length_map] at this
  rw [this]
  exact len _ _ _ q
theorem metD {C : Addr} {m qual : Str} {st : Stmt} {N ps : List Str} {k : Nat} {io : List Nat} {sp : SpD} (D : Dm K C m qual st []) (c : Cls K C) (S : FnScope N ps (defScope st))
    (hbd : ∀ (kV doc pm : Value) (an : Option Addr) (cdv ct : Value) (us : List Value), us.length = ps.length →
      bindArgs (PySem.W.fnOf m qual (defArgs st) (defBody st) (defScope st) .none kV doc pm an cdv ct) ⟨us, []⟩ = pure (ps.zip us))
    (mono : sp.Mono) (len : ∀ ds Q E, sp ds Q E → ds.length = ps.length) (hl : ps.length ≤ N.length)
    (hb : ∀ (f : Addr) (cdv : Value) (A : Around) (out : List Env) (s : Shared) (H : Hp) (E : XK),
      Rm k (A.deeper (envOfC qual (defScope st) s.heap.objs.size f cdv)) →
      ∃ t u O', DB K io io (WE E) [] O' (cxOf (L2.CX P w) P w K mg base N qual (defScope st) f cdv A out s H E) (defBody st) t u ∧ (∀ i ∈ io, i ∈ O') ∧ Asks io N.length sp u) : MetD P w K mg base (k + 1) C m io sp := by
  refine ⟨D.metX c S hbd (lift_len len) fun f cdv A out s H vs Q E hr hs => ?_, mono⟩
  obtain ⟨t, u, O', h, hO', ha⟩ := hb f cdv A out s H E hr
  exact ⟨t, h.p ltX ownX, body_d h hO' ha hs (by rw [lift_len len _ _ _ _ hs]; exact hl)⟩
end
end Dv
set_option Elab.async false
set_option linter.all false
set_option maxRecDepth 100000
set_option maxHeartbeats 4000000
/-! Dv16: errors raised and caught. -/
namespace Dv
open PySem PySem.Spec PyProof.Rows L2 Eu
section
variable {K : PySem.W.Frag} {Ox O Ol O1 : List Nat} {W : WX} {X : Cx} {a : Expr} {ta : TE} {ua : UE} {pos p rpos : Pos} {x fld : Str} {j : Nat} {C : Addr}
def uRaise (Ox O : List Nat) (C : Addr) (fld : Str) (ua : UE) : US := fun ED Γ => ua Γ (fun d Γ1 => ED.ex (C, [(fld, d)]) (cut Ox O Γ1)) ED.ex
theorem ds_raise (T : Exo X.prog X.w X.K X.mg X.base x C fld) (hr : Rm j X.A) (hk : 2 ≤ j) (hc : X.calm = true) (hg : Gl X x) (hx : ∀ i ∈ Ox, i ∈ O) (he : DE K Ox O W X a ta ua)
    (hdb : (x == ("__debug__" : Str)) = false := by decide) (hst : starEach [a] X.env = (false, eval a X.env) :: starEach [] X.env := by rfl) (hpl : (backTo pos (starEach [] X.env)).any (·.1) = false := by rfl) :
    DS K Ox O W Ol O1 X (.Raise (some (.Call (.Name x p) [a] [] pos)) none rpos) (fun _ σ H => tMkO C (spErr C fld) [] (tCons ta tNil) σ H fun cls d H' => W cls d σ H') (uRaise Ox O C fld ua) := ⟨fun g po => ps_raise hc g.tk (pmk_B T hr hk hg (he.p g) hdb hst hpl), by
  intro B Z σ H Γ D ED hB e ex hu nx rt bk ct
  refine he.r B Z σ H Γ _ _ _ e ex hu fun v H1 d Γ1 e1 r1 q1 => ?_
  refine use_err (C := C) (fld := fld) (H := H1) (v := v) (Q := fun cls d H' => W cls d σ H') fun dd H' ndd s hdd => ?_
  have fr := e1.fresh ndd
  have e2 := e1.same s
  have frX : dd ∉ oA σ Ox ++ zA Z := fun z => fr (by
    rcases List.mem_append.mp z with z | z
    · exact List.mem_append_left _ (oA_sub hx _ z)
    · exact List.mem_append_right _ z)
  refine ex.go σ H' _ C [(fld, d)] dd [(fld, v)] (e2.cut hx) (by rw [hO_out frX]; exact hdd) (.cons ?_ .nil) q1
  exact (r1.le (Le.of s).hide).le (hO_sub hx)⟩
end
section
variable {K : PySem.W.Frag} {Ox O Ol : List Nat} {W : WX} {X : Cx} {x n : Str} {c : Value} {i : Nat} {body suite : List Stmt} {b₀ : Stmt} {np pos pos' : Pos} {tb : WX → TS} {ub : US} {ts : Addr → Value → Option Addr → TS} {us : Addr → Value → Option Addr → US}
/-- try: .. except X as n: .. -/
def uTryAs (K : PySem.W.Frag) (Ox O : List Nat) (c : Value) (i : Nat) (ub : US) (us : Addr → Value → Option Addr → US) : US := fun ED Γ =>
  ub { ED with ex := fun x Γ' => ∃ b, PySem.W.exmOne K (.ref x.1) c = some b ∧
    (b = true → ∀ a dd, us a (.ref x.1) (some dd) { ED with nx := fun Γ2 => ED.nx (Γ2.set i none), bk := fun Γ2 => ED.bk (Γ2.set i none), ct := fun Γ2 => ED.ct (Γ2.set i none), ex := Ex0 } (Γ'.set i (some (.exn a x.1 dd x.2)))) ∧
    (b = false → ED.ex x (cut Ox O Γ')), rt := fun d Γ' => ED.rt d (cut Ox O Γ') } Γ
theorem ds_try_as (hs : X.stack = X.env :: X.outer) (hf : X.env.frame = some X.env.locals) (hN : X.N.Nodup) (hi : X.N[i]? = some n) (hln : X.env.kindOf n = some .local) (hc : Names X x c) (hiO : i ∉ O) (hiX : i ∉ Ox) (hiL : i ∉ Ol) (hx : ∀ i ∈ Ox, i ∈ O)
    (hb : ∀ (W' : WX) (pn : List (Addr × Obj)) (xe : Value → Shared → Prop), DB K O O W' Ol O (X.tr pn xe) body (tb W') ub)
    (hsu : ∀ (a : Addr) (oe : Obj) (cls : Value) (d : Option Addr) (pn : List (Addr × Obj)), Zc cls d oe → (∃ vs, oe.data = .fields vs) → DB K Ox O W0 Ol O (X.suite a ((a, oe) :: pn)) (b₀ :: suite) (ts a cls d) (us a cls d)) (hK : X.K = K := by rfl) :
    DS K Ox O W Ol O X (.Try body [.ExceptHandler (some (.Name x np)) (some n) (b₀ :: suite) pos'] [] [] pos) (fun D σ H => tb (wAs K c i ts W D) D σ H) (uTryAs K Ox O c i ub us) := ⟨fun g po => by
  subst hK
  exact ps_try_as hs hf hN hi hln hc g.tk (fun W' pn xe tk po => (hb W' pn xe).p ⟨fun σ => passAt tk σ, tk⟩ po) (fun a oe cls d pn hz hff => (hsu a oe cls d pn hz hff).p lt0 PassesOwn.never), by
  intro B Z σ H Γ D ED hB e ex hu nx rt bk ct
  have hBO : ∀ p ∈ B.ad, p.1 ∈ O := fun p hp => hx _ (hB p hp)
  have hbi : ∀ p ∈ B.ad, p.1 ≠ i := fun p hp z => hiX (z ▸ hB p hp)
  refine (hb (wAs K c i ts W D) [] (fun _ _ => True)).r B Z σ H Γ D _ hBO e ⟨hBO, ?_⟩ hu nx (fun v σ' H' d Γ' e' r' q' => rt v σ' H' d _ (e'.cut hx) (r'.le (hO_sub hx)) q') bk ct
  intro σ' H' Γ' C fs dd fs' e' hdd rf q
  obtain ⟨b, hm, q1, q2⟩ := q
  refine ⟨b, hm, fun hbt a na => ?_, fun hbf => ?_⟩
  · let oe0 : Obj := { cls := .ref C, dict := some dd, data := .fields #[] }
    refine (hsu a oe0 (.ref C) (some dd) [] ⟨rfl, rfl⟩ ⟨_, rfl⟩).r B Z _ H' _ _ _ hB (e'.set hiO hbi (Rp.exn (C := C) hdd rf)) (exo0 hB) (q1 hbt a dd) (fun σ2 H2 Γ2 e2 z => nx _ H2 _ (e2.drop hiO hbi) z) rt ?_ ?_
    · exact fun σ2 H2 Γ2 e2 z => bk _ H2 _ (e2.drop hiL hbi) z
    · exact fun σ2 H2 Γ2 e2 z => ct _ H2 _ (e2.drop hiL hbi) z
  · exact ex.go σ' H' _ C fs dd fs' (e'.cut hx) ((hO_sub hx).lc.xd hdd) (rf.le (hO_sub hx)) (q2 hbf)⟩
/-- try: .. except X: .. -/
def uTryOnly (K : PySem.W.Frag) (Ox O : List Nat) (c : Value) (ub : US) (us : Addr → Value → Option Addr → US) : US := fun ED Γ =>
  ub { ED with ex := fun x Γ' => ∃ b, PySem.W.exmOne K (.ref x.1) c = some b ∧
    (b = true → ∀ a dd, us a (.ref x.1) (some dd) { ED with ex := Ex0 } Γ') ∧
    (b = false → ED.ex x (cut Ox O Γ')), rt := fun d Γ' => ED.rt d (cut Ox O Γ') } Γ
theorem ds_try (hs : X.stack = X.env :: X.outer) (hf : X.env.frame = some X.env.locals) (hc : Names X x c) (hx : ∀ i ∈ Ox, i ∈ O)
    (hb : ∀ (W' : WX) (pn : List (Addr × Obj)) (xe : Value → Shared → Prop), DB K O O W' Ol O (X.tr pn xe) body (tb W') ub)
    (hsu : ∀ (a : Addr) (oe : Obj) (cls : Value) (d : Option Addr) (pn : List (Addr × Obj)), Zc cls d oe → (∃ vs, oe.data = .fields vs) → DB K Ox O W0 Ol O (X.suite a ((a, oe) :: pn)) (b₀ :: suite) (ts a cls d) (us a cls d)) (hK : X.K = K := by rfl) :
    DS K Ox O W Ol O X (.Try body [.ExceptHandler (some (.Name x np)) none (b₀ :: suite) pos'] [] [] pos) (fun D σ H => tb (wOnly K c ts W D) D σ H) (uTryOnly K Ox O c ub us) := ⟨fun g po => by
  subst hK
  exact ps_try_only hs hf hc g.tk (fun W' pn xe tk po => (hb W' pn xe).p ⟨fun σ => passAt tk σ, tk⟩ po) (fun a oe cls d pn hz hff => (hsu a oe cls d pn hz hff).p lt0 PassesOwn.never), by
  intro B Z σ H Γ D ED hB e ex hu nx rt bk ct
  have hBO : ∀ p ∈ B.ad, p.1 ∈ O := fun p hp => hx _ (hB p hp)
  refine (hb (wOnly K c ts W D) [] (fun _ _ => True)).r B Z σ H Γ D _ hBO e ⟨hBO, ?_⟩ hu nx (fun v σ' H' d Γ' e' r' q' => rt v σ' H' d _ (e'.cut hx) (r'.le (hO_sub hx)) q') bk ct
  intro σ' H' Γ' C fs dd fs' e' hdd rf q
  obtain ⟨b, hm, q1, q2⟩ := q
  refine ⟨b, hm, fun hbt a na => ?_, fun hbf => ?_⟩
  · let oe0 : Obj := { cls := .ref C, dict := some dd, data := .fields #[] }
    exact (hsu a oe0 (.ref C) (some dd) [] ⟨rfl, rfl⟩ ⟨_, rfl⟩).r B Z _ H' _ _ _ hB e' (exo0 hB) (q1 hbt a dd) nx rt bk ct
  · exact ex.go σ' H' _ C fs dd fs' (e'.cut hx) ((hO_sub hx).lc.xd hdd) (rf.le (hO_sub hx)) (q2 hbf)⟩
end
end Dv
set_option Elab.async false
set_option linter.all false
set_option maxRecDepth 100000
set_option maxHeartbeats 4000000
/-! Dv17: slices, list(), tuple(), bool(), str(), repr, sorted, join, f-strings. -/
namespace Dv
open PySem PySem.Spec PyProof.Rows L2 Eu
section
variable {K : PySem.W.Frag} {Ox O : List Nat} {W : WX} {X : Cx} {a b c : Expr} {ta tb tc : TE} {ua ub uc : UE} {pos p p2 : Pos} {lo hi : Option Expr} {tl th : TO}
/-! ### parts of a slice -/
abbrev UO := Sl → (Option Int → Sl → Prop) → UX → Prop
structure DO (K : PySem.W.Frag) (Ox O : List Nat) (W : WX) (X : Cx) (e : Option Expr) (t : TO) (u : UO) : Prop where
  p : Lt X W → PO X e t
  r : ∀ B Z σ H Γ (Q : Option Int → Hp → Prop) (Qd : Option Int → Sl → Prop) (Ex : UX), En K B Z O σ H Γ → ExO K B Z Ox W Ex → u Γ Qd Ex → (∀ o H' Γ', En K B Z O σ H' Γ' → Qd o Γ' → Q o H') → t σ H Q
def uNone : UO := fun Γ Q _ => Q none Γ
def uPart (ua : UE) : UO := fun Γ Q Ex => ua Γ (fun d Γ1 => ∃ i, d = .int i ∧ Q (some i) Γ1) Ex
theorem dp_none : DO K Ox O W X none tNoPart uNone := ⟨fun g => po_none, fun B Z σ H Γ Q Qd Ex e ex hu k => k none H Γ e hu⟩
theorem dp_some (h : DE K Ox O W X a ta ua) : DO K Ox O W X (some a) (tPart ta) (uPart ua) := ⟨fun g => po_some (h.p g), by
  intro B Z σ H Γ Q Qd Ex e ex hu k
  refine h.r B Z σ H Γ _ _ _ e ex hu fun v H1 d Γ1 e1 r1 q1 => ?_
  obtain ⟨i, rfl, q⟩ := q1
  cases r1
  exact ⟨i, rfl, k _ H1 Γ1 e1 q⟩⟩
variable {ul uh : UO}
def cutD (xs : List D) (lo hi : Option Int) : List D := (xs.drop (HT.sIx xs.length 0 lo)).take (HT.sIx xs.length xs.length hi - HT.sIx xs.length 0 lo)
theorem Rps.drop {H : Hp} : ∀ {vs : List V} {ds : List D} (n : Nat), Rps K H vs ds → Rps K H (vs.drop n) (ds.drop n)
  | _, _, 0, h => h
  | _, _, _ + 1, .nil => .nil
  | _, _, n + 1, .cons _ h => Rps.drop n h
theorem Rps.take {H : Hp} : ∀ {vs : List V} {ds : List D} (n : Nat), Rps K H vs ds → Rps K H (vs.take n) (ds.take n)
  | _, _, 0, _ => .nil
  | _, _, _ + 1, .nil => .nil
  | _, _, n + 1, .cons h1 h => .cons h1 (Rps.take n h)
theorem Rps.cut {H : Hp} {vs : List V} {ds : List D} {lo hi : Option Int} (h : Rps K H vs ds) : Rps K H (cutV vs lo hi) (cutD ds lo hi) := by
  unfold cutV cutD
  rw [h.length]
  exact (h.drop _).take _
def dSlice : D → Option Int → Option Int → Option D
  | .lst xs, lo, hi => some (.lst (cutD xs lo hi))
  | .tup xs, lo, hi => some (.tup (cutD xs lo hi))
  | .str z, lo, hi => if z.length ≤ sizeLine then some (.str (cutS z lo hi)) else none
  | _, _, _ => none
def rSlD (K : PySem.W.Frag) : V → Option Int → Option Int → Hp → VK → Prop := fun x lo hi H Q => (rSlL K x lo hi H Q ∨ rSlA K x lo hi H Q) ∨ rSlS x lo hi H Q
theorem sl_D (hK : X.K = K := by rfl) : SlR X (rSlD K) := by subst hK; exact SlR.or (SlR.or sl_list sl_tupA) sl_str
def uSlice (ua : UE) (ul uh : UO) : UE := fun Γ Q Ex => ua Γ (fun d Γ1 => ul Γ1 (fun l Γ2 => uh Γ2 (fun h Γ3 => ∃ r, dSlice d l h = some r ∧ Q r Γ3) Ex) Ex) Ex
theorem de_slice (he : DE K Ox O W X a ta ua) (hl : DO K Ox O W X lo tl ul) (hh : DO K Ox O W X hi th uh) (hK : X.K = K := by rfl) : DE K Ox O W X (.Subscript a (.Slice lo hi none p2) pos) (tSl (rSlD K) ta tl th) (uSlice ua ul uh) := ⟨fun g => pe_slice (sl_D hK) (he.p g) (hl.p g) (hh.p g), by
  intro B Z σ H Γ Q Qd Ex e ex hu k
  refine he.r B Z σ H Γ _ _ _ e ex hu fun v H1 d Γ1 e1 r1 q1 => ?_
  refine hl.r ⟨hO H1 σ O Z, B.ad⟩ Z σ H1 Γ1 _ _ _ e1.self (ex.at e1) q1 fun l H2 Γ2 e2 q2 => ?_
  refine hh.r ⟨hO H2 σ O Z, B.ad⟩ Z σ H2 Γ2 _ _ _ e2.self ((ex.at e1).at e2) q2 fun h H3 Γ3 e3 q3 => ?_
  obtain ⟨r, hr, q⟩ := q3
  have r3 : Rp K (hO H3 σ O Z) v d := (r1.le e2.le).le e3.le
  have eb := e1.back (e2.back e3)
  cases r3 <;> first | (simp only [dSlice] at hr; cases hr; done) | skip
  · rename_i z
    simp only [dSlice] at hr
    split at hr
    · rename_i hz
      cases hr
      exact .inr ⟨z, rfl, hz, k _ H3 _ Γ3 eb (.str _) q⟩
    · cases hr
  · rename_i l vs ds g1 g2
    simp only [dSlice] at hr
    cases hr
    refine .inl (.inl ⟨l, vs, rfl, .inl (.inl (hidL_some g1).2), fun p np => ?_⟩)
    exact k _ _ _ Γ3 (eb.same (same_new np)) (new_lst np (eb.fresh np) g2.cut) q
  · rename_i l vs ds g1 g2
    simp only [dSlice] at hr
    cases hr
    refine .inl (.inr ⟨l, vs, rfl, hidL_le.lc.tup g1, fun hw => ?_, fun _ p np => ?_⟩)
    · refine k _ H3 _ Γ3 eb ?_ q
      unfold cutD
      rw [g2.length] at hw
      rw [hw.1, hw.2, List.drop_zero, Nat.sub_zero, List.take_length]
      exact .tup g1 g2
    · exact k _ _ _ Γ3 (eb.same (same_new np)) (new_tup np (eb.fresh np) g2.cut) q⟩
/-! ### list(), tuple(), bool() -/
def dList : D → Option D
  | .lst xs => some (.lst xs)
  | .tup xs => some (.lst xs)
  | _ => none
def dTuple : D → Option D
  | .lst xs => some (.tup xs)
  | .tup xs => some (.tup xs)
  | _ => none
def rListOf (K : PySem.W.Frag) : List V → Hp → VK → Prop := fun xs H Q => ∃ p ys, xs = [V.ref p] ∧ (SqL K H p ys ∨ SqT K H p ys) ∧ ∀ l, H l = none → Q (V.ref l) (upd H l (.lst ys))
def rTupleOf (K : PySem.W.Frag) : List V → Hp → VK → Prop := fun xs H Q => ∃ p ys, xs = [V.ref p] ∧ ((SqL K H p ys ∧ ∀ l, H l = none → Q (V.ref l) (upd H l (.tup ys))) ∨ SqT K H p ys ∧ Q (V.ref p) H)
theorem call_listK (hK : X.K = K := by rfl) : CallR X (.type "list") (rListOf K) := by subst hK; exact call_list_of
theorem call_tupleK (hK : X.K = K := by rfl) : CallR X (.type "tuple") (rTupleOf K) := by subst hK; exact call_tuple_of
theorem rf_list : RfC K (rListOf K) (one dList) := by
  refine rfc_one ?_
  intro A H v dx d Q hA rx e k
  cases rx <;> first | (simp only [dList] at e; cases e; done) | skip
  · rename_i l vs ds h1 h2
    simp only [dList] at e
    cases e
    exact ⟨l, vs, rfl, .inl (.inl (.inl (hidL_some h1).2)), fun q nq => k _ _ (same_new nq) (new_lst nq (out_of hA nq) h2)⟩
  · rename_i l vs ds h1 h2
    simp only [dList] at e
    cases e
    exact ⟨l, vs, rfl, .inr (hidL_le.lc.tup h1), fun q nq => k _ _ (same_new nq) (new_lst nq (out_of hA nq) h2)⟩
theorem rf_tuple : RfC K (rTupleOf K) (one dTuple) := by
  refine rfc_one ?_
  intro A H v dx d Q hA rx e k
  cases rx <;> first | (simp only [dTuple] at e; cases e; done) | skip
  · rename_i l vs ds h1 h2
    simp only [dTuple] at e
    cases e
    exact ⟨l, vs, rfl, .inl ⟨.inl (.inl (hidL_some h1).2), fun q nq => k _ _ (same_new nq) (new_tup nq (out_of hA nq) h2)⟩⟩
  · rename_i l vs ds h1 h2
    simp only [dTuple] at e
    cases e
    exact ⟨l, vs, rfl, .inr ⟨hidL_le.lc.tup h1, k _ H (Same.refl _) (.tup h1 h2)⟩⟩
def dBool1 : D → Option D
  | .int i => some (.bl (i != 0))
  | .bl b => some (.bl b)
  | _ => none
theorem rf_bool1 : RfC K (fun xs H Q => (∃ i, xs = [V.int i] ∧ Q (V.bl (i != 0)) H) ∨ ∃ k, xs = [V.bl k] ∧ Q (V.bl k) H) (one dBool1) := by
  refine rfc_one ?_
  intro A H v dx d Q hA rx e k
  cases rx <;> first | (simp only [dBool1] at e; cases e; done) | skip
  · simp only [dBool1] at e; cases e
    exact .inr ⟨_, rfl, k _ H (Same.refl _) (.bl _)⟩
  · simp only [dBool1] at e; cases e
    exact .inl ⟨_, rfl, k _ H (Same.refl _) (.bl _)⟩
def dStrI : D → Option D
  | .int i => if i.natAbs.log2 < 1920 then some (.str (Str.ofString (toString i))) else none
  | _ => none
theorem rf_strI : RfC K (fun xs H Q => ∃ i : Int, xs = [V.int i] ∧ i.natAbs.log2 < 1920 ∧ Q (V.str (Str.ofString (toString i))) H) (one dStrI) := by
  refine rfc_one ?_
  intro A H v dx d Q hA rx e k
  cases rx <;> first | (simp only [dStrI] at e; cases e; done) | skip
  simp only [dStrI] at e
  split at e
  · rename_i h
    cases e
    exact ⟨_, rfl, h, k _ H (Same.refl _) (.str _)⟩
  · cases e
/-! ### repr of data -/
def dRepr (d : D) : Option D := match d.py with
  | some q => if (q.showable && decide (q.depth ≤ 60) && decide (q.shown.length ≤ sizeLine)) = true then some (.str q.shown) else none
  | none => none
theorem call_reprK {j : Nat} (hr : Rm j X.A) (hK : X.K = K := by rfl) : CallR X (.builtin "repr") (rRepr K) := by subst hK; exact call_repr hr
theorem rf_repr : RfC K (rRepr K) (one dRepr) := by
  refine rfc_one ?_
  intro A H v dx d Q hA rx e k
  unfold dRepr at e
  cases h : dx.py with
  | none => rw [h] at e; cases e
  | some q =>
    rw [h] at e
    dsimp only at e
    split at e
    · rename_i hc
      rw [Bool.and_eq_true, Bool.and_eq_true, decide_eq_true_iff, decide_eq_true_iff] at hc
      cases e
      exact ⟨v, q, rfl, rx.up.dp h, hc.1.1, hc.1.2, hc.2, k _ H (Same.refl _) (.str _)⟩
    · cases e
end
end Dv
set_option Elab.async false
set_option linter.all false
set_option maxRecDepth 100000
set_option maxHeartbeats 4000000
/-! Dv18: enumerate, zip, reversed, texts walked; dicts walked; pairs stored. -/
namespace Dv
open PySem PySem.Spec PyProof.Rows L2 Eu
section
variable {K : PySem.W.Frag} {Ox O O1 Ol : List Nat} {W : WX} {X : Cx} {a b c tg : Expr} {ta tb tc : TE} {ua ub uc : UE} {pos p tpos apos cpos : Pos} {tr : TA} {ur : UA} {elts : List Expr} {kk : Nat}
theorem tup2 {H : Hp} {T : Addr} {A : List Addr} {x y : V} {d e : D} (nT : H T = none) (hA : ∀ a ∈ A, H a ≠ none) (r1 : Rp K (hidL H A) x d) (r2 : Rp K (hidL H A) y e) : Rp K (hidL (upd H T (.tup [x, y])) A) (.ref T) (.tup [d, e]) :=
  new_tup nT (out_of hA nT) (.cons r1 (.cons r2 .nil))
/-! ### enumerate -/
def enumD (ds : List D) : List D := ds.zipIdx.map fun q => .tup [.int (q.2 : Nat), q.1]
theorem enumD_at {ds : List D} {i : Nat} {x : D} (h : (enumD ds)[i]? = some x) : ∃ d, ds[i]? = some d ∧ x = .tup [.int (i : Nat), d] := by
  unfold enumD at h
  rw [List.getElem?_map, List.getElem?_zipIdx] at h
  cases hd : ds[i]? with
  | none => rw [hd] at h; cases h
  | some d =>
    rw [hd] at h
    refine ⟨d, rfl, ?_⟩
    have := Option.some.inj h
    rw [← this]
    simp
theorem enumD_len (ds : List D) : (enumD ds).length = ds.length := by unfold enumD; rw [List.length_map, List.length_zipIdx]
theorem it_enum {Bp : Hp} {l : Addr} {vs : List V} {ds : List D} (s : Bp l = some (.lst vs)) (r : Rps K Bp vs ds) : ItD K Bp (Ite K l) (enumD ds) := by
  have sq : ∀ {H}, Le Bp H → SqL K H l vs := fun {H} le => .inl (.inl (le.lc.lst s))
  refine ⟨fun i x H e le => ?_, fun H le => ?_, fun i x H y H' e le yl => ?_⟩
  · obtain ⟨d, hd, _⟩ := enumD_at e
    obtain ⟨v, hv, _⟩ := r.at hd
    exact (over_enum (K := K) (a := l) (xs := vs)).go i (v, i) H (by rw [List.getElem?_zipIdx, hv]; simp) (sq le)
  · have := (over_enum (K := K) (a := l) (xs := vs)).st H (sq le)
    rwa [List.length_zipIdx, r.length, ← enumD_len] at this
  · obtain ⟨d, hd, rfl⟩ := enumD_at e
    obtain ⟨v, hv, rv⟩ := r.at hd
    obtain ⟨T, rfl, nT, rfl⟩ := (over_enum (K := K) (a := l) (xs := vs)).yl i (v, i) H y H' (by rw [List.getElem?_zipIdx, hv]; simp) (sq le) yl
    exact ⟨same_new nT, fun A hA lA => tup2 nT hA (.int _) (rv.le lA)⟩
def uEnum (ur : UA) : UA := fun Γ Q Ex => ur Γ (fun ds Γ1 => ∃ xs, ds = [.lst xs] ∧ Q (enumD xs) Γ1) Ex
theorem di_enum (hg : Gl X "enumerate") (hm : X.mg "enumerate" = none) (ha : DA K Ox O W X [a] tr ur) (hK : X.K = K := by rfl) (hs : starEach [a] X.env = [(false, eval a X.env)] := by rfl) : DI K Ox O W X (.Tuple elts kk tpos) (.Call (.Name "enumerate" p) [a] [] pos) (iEnum K tr) (uEnum ur) := ⟨fun g => by subst hK; exact pi_enum hg hm (ha.p g) hs, by
  intro B Z σ H Γ R Qd Ex e ex hu k
  refine ha.r B Z σ H Γ _ _ _ e ex hu fun vs H' ds Γ' e' r' q' => ?_
  obtain ⟨xs, rfl, q⟩ := q'
  obtain ⟨v, rfl, rv⟩ := Rps.inv1 r'
  cases rv with
  | lst s r => exact ⟨_, _, rfl, .inl (.inl (hidL_some s).2), k _ H' _ Γ' e' (it_enum s r) q⟩⟩
/-! ### zip -/
def zipD (xs ys : List D) : List D := (xs.zip ys).map fun q => .tup [q.1, q.2]
theorem zipD_at {xs ys : List D} {i : Nat} {x : D} (h : (zipD xs ys)[i]? = some x) : ∃ d e, xs[i]? = some d ∧ ys[i]? = some e ∧ x = .tup [d, e] := by
  unfold zipD at h
  rw [List.getElem?_map] at h
  cases hz : (xs.zip ys)[i]? with
  | none => rw [hz] at h; cases h
  | some q =>
    rw [hz] at h
    obtain ⟨h1, h2⟩ := List.getElem?_zip_eq_some.mp hz
    exact ⟨q.1, q.2, h1, h2, (Option.some.inj h).symm⟩
theorem it_zip {Bp : Hp} {l m : Addr} {vs ws : List V} {ds es : List D} (s : Bp l = some (.lst vs)) (r : Rps K Bp vs ds) (s2 : Bp m = some (.lst ws)) (r2 : Rps K Bp ws es) : ItD K Bp (Itz K l m) (zipD ds es) := by
  have sq : ∀ {H}, Le Bp H → SqL K H l vs ∧ SqL K H m ws := fun {H} le => ⟨.inl (.inl (le.lc.lst s)), .inl (.inl (le.lc.lst s2))⟩
  have zl : (vs.zip ws).length = (zipD ds es).length := by unfold zipD; rw [List.length_map, List.length_zip, List.length_zip, r.length, r2.length]
  refine ⟨fun i x H e le => ?_, fun H le => ?_, fun i x H y H' e le yl => ?_⟩
  · obtain ⟨d, e', h1, h2, _⟩ := zipD_at e
    obtain ⟨v, hv, _⟩ := r.at h1
    obtain ⟨w, hw, _⟩ := r2.at h2
    exact (over_zip (K := K) (a := l) (b := m) (xs := vs) (ys := ws)).go i (v, w) H (List.getElem?_zip_eq_some.mpr ⟨hv, hw⟩) (sq le)
  · have := (over_zip (K := K) (a := l) (b := m) (xs := vs) (ys := ws)).st H (sq le)
    rwa [zl] at this
  · obtain ⟨d, e', h1, h2, rfl⟩ := zipD_at e
    obtain ⟨v, hv, rv⟩ := r.at h1
    obtain ⟨w, hw, rw_⟩ := r2.at h2
    obtain ⟨T, rfl, nT, rfl⟩ := (over_zip (K := K) (a := l) (b := m) (xs := vs) (ys := ws)).yl i (v, w) H y H' (List.getElem?_zip_eq_some.mpr ⟨hv, hw⟩) (sq le) yl
    exact ⟨same_new nT, fun A hA lA => tup2 nT hA (rv.le lA) (rw_.le lA)⟩
def uZip (ur : UA) : UA := fun Γ Q Ex => ur Γ (fun ds Γ1 => ∃ xs ys, ds = [.lst xs, .lst ys] ∧ Q (zipD xs ys) Γ1) Ex
theorem di_zip (hg : Gl X "zip") (hm : X.mg "zip" = none) (ha : DA K Ox O W X [a, b] tr ur) (hK : X.K = K := by rfl) (hs : starEach [a, b] X.env = (false, eval a X.env) :: starEach [b] X.env := by rfl) (hpl : (backTo pos (starEach [b] X.env)).any (·.1) = false := by rfl) : DI K Ox O W X (.Tuple elts kk tpos) (.Call (.Name "zip" p) [a, b] [] pos) (iZip K tr) (uZip ur) := ⟨fun g => by subst hK; exact pi_zip hg hm (ha.p g) hs hpl, by
  intro B Z σ H Γ R Qd Ex e ex hu k
  refine ha.r B Z σ H Γ _ _ _ e ex hu fun vs H' ds Γ' e' r' q' => ?_
  obtain ⟨xs, ys, rfl, q⟩ := q'
  obtain ⟨v, w, rfl, rv, rw_⟩ := Rps.inv2 r'
  cases rv with
  | lst s r =>
    cases rw_ with
    | lst s2 r2 => exact ⟨_, _, _, _, rfl, .inl (.inl (hidL_some s).2), .inl (.inl (hidL_some s2).2), k _ H' _ Γ' e' (it_zip s r s2 r2) q⟩⟩
/-! ### reversed -/
theorem Rps.reverse {H : Hp} : ∀ {vs : List V} {ds : List D}, Rps K H vs ds → Rps K H vs.reverse ds.reverse
  | _, _, .nil => .nil
  | _, _, .cons h1 h2 => by
    rw [List.reverse_cons, List.reverse_cons]
    exact (Rps.reverse h2).append (.cons h1 .nil)
theorem it_rev {Bp : Hp} {l : Addr} {vs : List V} {ds : List D} (s : Bp l = some (.lst vs)) (r : Rps K Bp vs ds) : ItD K Bp (Itv K l vs.length) ds.reverse := by
  have sq : ∀ {H}, Le Bp H → SqL K H l vs := fun {H} le => .inl (.inl (le.lc.lst s))
  have rr := r.reverse
  refine ⟨fun i x H e le => ?_, fun H le => ?_, fun i x H y H' e le yl => ?_⟩
  · obtain ⟨v, hv, _⟩ := rr.at e
    exact (over_rev (K := K) (a := l) (xs := vs)).go i v H hv (sq le)
  · have := (over_rev (K := K) (a := l) (xs := vs)).st H (sq le)
    rwa [rr.length] at this
  · obtain ⟨v, hv, rv⟩ := rr.at e
    obtain ⟨rfl, rfl⟩ := (over_rev (K := K) (a := l) (xs := vs)).yl i v H y H' hv (sq le) yl
    exact ⟨Same.refl _, fun A _ lA => rv.le lA⟩
def uRev (ur : UA) : UA := fun Γ Q Ex => ur Γ (fun ds Γ1 => ∃ xs, ds = [.lst xs] ∧ Q xs.reverse Γ1) Ex
theorem di_rev (hg : Gl X "reversed") (hm : X.mg "reversed" = none) (ha : DA K Ox O W X [a] tr ur) (hK : X.K = K := by rfl) (hs : starEach [a] X.env = [(false, eval a X.env)] := by rfl) : DI K Ox O W X tg (.Call (.Name "reversed" p) [a] [] pos) (iRev K tr) (uRev ur) := ⟨fun g => by subst hK; exact pi_reversed hg hm (ha.p g) hs, by
  intro B Z σ H Γ R Qd Ex e ex hu k
  refine ha.r B Z σ H Γ _ _ _ e ex hu fun vs H' ds Γ' e' r' q' => ?_
  obtain ⟨xs, rfl, q⟩ := q'
  obtain ⟨v, rfl, rv⟩ := Rps.inv1 r'
  cases rv with
  | lst s r => exact ⟨_, _, rfl, .inl (.inl (hidL_some s).2), k _ H' _ Γ' e' (it_rev s r) q⟩⟩
/-! ### a text -/
def signsD (z : Str) : List D := z.cps.toList.map fun c => .str ⟨#[c]⟩
theorem it_str {Bp : Hp} {z : Str} : ItD K Bp (Its z) (signsD z) := by
  have at_ : ∀ {i : Nat} {x : D}, (signsD z)[i]? = some x → ∃ c, z.cps.toList[i]? = some c ∧ x = D.str ⟨#[c]⟩ := fun {i x} h => by
    unfold signsD at h
    rw [List.getElem?_map] at h
    cases hc : z.cps.toList[i]? with
    | none => rw [hc] at h; cases h
    | some c => rw [hc] at h; exact ⟨c, rfl, (Option.some.inj h).symm⟩
  refine ⟨fun i x H e le => ?_, fun H le => ?_, fun i x H y H' e le yl => ?_⟩
  · obtain ⟨c, hc, _⟩ := at_ e
    exact (over_str (z := z)).go i c H hc trivial
  · have := (over_str (z := z)).st H trivial
    unfold signsD
    rwa [List.length_map]
  · obtain ⟨c, hc, rfl⟩ := at_ e
    obtain ⟨rfl, rfl⟩ := (over_str (z := z)).yl i c H y H' hc trivial yl
    exact ⟨Same.refl _, fun A _ _ => .str _⟩
def uItS (ua : UE) : UA := fun Γ Q Ex => ua Γ (fun d Γ1 => ∃ z, d = .str z ∧ Q (signsD z) Γ1) Ex
theorem di_str (h : DE K Ox O W X a ta ua) : DI K Ox O W X tg a (iStr ta) (uItS ua) := ⟨fun g => pi_str (h.p g), by
  intro B Z σ H Γ R Qd Ex e ex hu k
  refine h.r B Z σ H Γ _ _ _ e ex hu fun v H' d Γ' e' r' q' => ?_
  obtain ⟨z, rfl, q⟩ := q'
  cases r'
  exact ⟨z, rfl, k _ H' _ Γ' e' it_str q⟩⟩
end
/-! ### a, b = x, y -/
section
variable {K : PySem.W.Frag} {Ox O Ol : List Nat} {W : WX} {X : Cx} {a b c : Expr} {pos px py pz pt pt2 : Pos} {tr : TA} {ur : UA} {kt k2 : Nat} {i j l : Nat} {x y z : Str}
def uPar (i j : Nat) (ur : UA) : US := fun ED Γ => ur Γ (fun ds Γ1 => ∃ d e, ds = [d, e] ∧ ED.nx ((Γ1.set i (some d)).set j (some e))) ED.ex
theorem ds_par2 (hc : X.calm = true) (hN : X.N.Nodup) (hi : X.N[i]? = some x) (hj : X.N[j]? = some y) (hij : i ≠ j)
    (hx : X.env.scope.names.lookup x = some .local) (hy : X.env.scope.names.lookup y = some .local) (iO : i ∉ O) (iX : i ∉ Ox) (jO : j ∉ O) (jX : j ∉ Ox) (ha : DA K Ox O W X [a, b] tr ur)
    (hw : swappedStores [.Tuple [.Name x px, .Name y py] kt pt] (.Tuple [a, b] k2 pt2) X.env = pure (some [x, y]) := by rfl)
    (hs : swapsWithSole [.Tuple [.Name x px, .Name y py] kt pt] (.Tuple [a, b] k2 pt2) pos.line X.env = pure false := by rfl) :
    DS K Ox O W Ol O X (.Assign [.Tuple [.Name x px, .Name y py] kt pt] (.Tuple [a, b] k2 pt2) pos) (tPar i j tr) (uPar i j ur) := ⟨fun g po => ps_par hc hN hi hj hij hx hy (ha.p g) hw hs, by
  intro B Z σ H Γ D ED hB e ex hu nx rt bk ct
  refine ha.r B Z σ H Γ _ _ _ e ex hu fun vs H1 ds Γ1 e1 r1 q1 => ?_
  obtain ⟨d, e', rfl, q⟩ := q1
  obtain ⟨v, w, rfl, rv, rw_⟩ := Rps.inv2 r1
  refine ⟨v, w, rfl, nx _ H1 _ ?_ q⟩
  have e2 := e1.set iO (fun p hp z => iX (z ▸ hB p hp)) rv
  refine e2.set jO (fun p hp z => jX (z ▸ hB p hp)) ?_
  rw [hO_set iO]
  exact rw_⟩
end
end Dv
set_option Elab.async false
set_option linter.all false
set_option maxRecDepth 100000
set_option maxHeartbeats 4000000
/-! Dv19: dicts walked: the dict is locked meanwhile. -/
namespace Dv
open PySem PySem.Spec PyProof.Rows L2 Eu
section
variable {K : PySem.W.Frag} {Ox O O' Ol : List Nat} {W : WX} {B : Bs} {Z : Zs} {σ σ' : L2.St} {H H1 H' : Hp} {Γ Γ1 Γ' : Sl} {g : TG} {ug : UG} {t : TS} {u : US}
/-- a loop over what J gives -/
theorem for_core {D : Ends} {ED : EndsD} {J : It} {ds : List Dv.D} (hB : ∀ p ∈ B.ad, p.1 ∈ Ox)
    (hg : ∀ B Z σ H Γ v d (Q : L2.St → Hp → Prop) (Qd : Sl → Prop), (∀ p ∈ B.ad, p.1 ∈ Ox) → En K B Z O σ H Γ → Rp K (hO H σ O Z) v d → ug d Γ Qd → (∀ σ' H' Γ', En K B Z O σ' H' Γ' → Qd Γ' → Q σ' H') → g v σ H Q)
    (hb : RfS K Ox O W O O t u) (e1 : En K B Z O σ H1 Γ1) (ex : ExO K ⟨hO H1 σ O Z, B.ad⟩ Z Ox W ED.ex) (J1 : ItD K (hO H1 σ O Z) J ds) (q1 : uForL ug u ED ds Γ1)
    (nx : ∀ σ' H' Γ', En K ⟨hO H1 σ O Z, B.ad⟩ Z O σ' H' Γ' → ED.nx Γ' → D.nx σ' H')
    (rt : ∀ v σ' H' d Γ', En K ⟨hO H1 σ O Z, B.ad⟩ Z Ox σ' H' Γ' → Rp K (hO H' σ' Ox Z) v d → ED.rt d Γ' → D.rt v H') :
    ∃ W : Nat → Nat → L2.St → Hp → Prop, (∃ m, W 0 m σ H1) ∧ ∀ i m σ H, W i m σ H → (J.stop i H ∧ D.nx σ H) ∨ (J.go i H ∧ ∃ N : L2.St → Hp → Prop, (∀ σ' H', N σ' H' → ∃ m', m' < m ∧ W (i + 1) m' σ' H') ∧ ∀ x H', J.yld i H x H' → g x σ H' fun σ2 H2 => t { D with nx := N, ct := N, bk := D.nx } σ2 H2) := by
  obtain ⟨Jg, Js, Jy⟩ := J1
  refine ⟨fun i m σ' H' => m = ds.length - i ∧ i ≤ ds.length ∧ ∃ Γ', En K ⟨hO H1 σ O Z, B.ad⟩ Z O σ' H' Γ' ∧ uForL ug u ED (ds.drop i) Γ', ⟨ds.length, rfl, Nat.zero_le _, Γ1, e1.self, q1⟩, ?_⟩
  rintro i m σ' H' ⟨rfl, hi, Γ', e', q'⟩
  by_cases hl : i < ds.length
  · have ed : ds.drop i = ds[i] :: ds.drop (i + 1) := List.drop_eq_getElem_cons hl
    have eg : ds[i]? = some ds[i] := List.getElem?_eq_getElem hl
    rw [ed] at q'
    have l0 : Le (hO H1 σ O Z) H' := e'.bs.trans hidL_le
    refine .inr ⟨Jg i _ H' eg l0, fun σ2 H2 => ∃ Γ2, En K ⟨hO H1 σ O Z, B.ad⟩ Z O σ2 H2 Γ2 ∧ uForL ug u ED (ds.drop (i + 1)) Γ2, fun σ2 H2 ⟨Γ2, e2, q2⟩ => ⟨_, by omega, rfl, hl, Γ2, e2, q2⟩, fun x H2 y => ?_⟩
    obtain ⟨s2, r2⟩ := Jy i _ H' x H2 eg l0 y
    have r2 := r2 _ (fun a ha => e'.live ha) e'.bs
    refine hg ⟨hO H1 σ O Z, B.ad⟩ Z σ' H2 Γ' x _ _ _ hB (e'.same s2) r2 q' fun σ3 H3 Γ3 e3 q3 => ?_
    exact hb ⟨hO H1 σ O Z, B.ad⟩ Z σ3 H3 Γ3 _ { ED with nx := uForL ug u ED (ds.drop (i + 1)), ct := uForL ug u ED (ds.drop (i + 1)), bk := ED.nx } hB e3 ex q3 (fun σ4 H4 Γ4 e4 q4 => ⟨Γ4, e4, q4⟩) rt
      (fun σ4 H4 Γ4 e4 q4 => nx σ4 H4 Γ4 e4 q4) (fun σ4 H4 Γ4 e4 q4 => ⟨Γ4, e4, q4⟩)
  · have ei : i = ds.length := by omega
    subst ei
    rw [List.drop_length] at q'
    exact .inl ⟨Js H' (e'.bs.trans hidL_le), nx σ' H' Γ' e' q'⟩
/-- a dict outside of what is hidden is locked -/
theorem En.lock (e : En K B Z O σ H Γ) {l : Addr} {kvs : List (Key × V)} {od : Obj} (hl : H l = some (.dK kvs)) (nh : l ∉ oA σ O ++ zA Z) : En K B Z O σ (upd H l (.frz od (.dK kvs))) Γ := by
  have le : Le (hO H σ O Z) (hO (upd H l (.frz od (.dK kvs))) σ O Z) := fun c o h => by
    obtain ⟨n, h⟩ := hidL_some h
    by_cases hc : c = l
    · subst hc
      rw [hl] at h
      cases h
      exact .inr ⟨od, kvs, rfl, by rw [hO_out n, upd_same]⟩
    · exact .inl (by rw [hO_out n, upd_ne hc]; exact h)
  have hid : ∀ {a}, a ∈ oA σ O ++ zA Z → a ≠ l := fun {a} h z => nh (z ▸ h)
  refine ⟨e.len, fun i d hi q => ?_, fun i hi => ?_, e.ne, fun p hp => ?_, e.zo, e.bs.trans le, e.ad⟩
  · obtain ⟨v, h1, h2⟩ := e.val i d hi q
    exact ⟨v, h1, h2.le le⟩
  · obtain ⟨a, d, h1, h2, h3⟩ := e.own i hi
    exact ⟨a, d, h1, h2, h3.mono (upd_ne (hid (List.mem_append_left _ (mem_oA.mpr ⟨i, hi, h1⟩)))) le⟩
  · rw [upd_ne (hid (List.mem_append_right _ (List.mem_map.mpr ⟨p, hp, rfl⟩)))]
    exact e.zs p hp
/-- .. and open again -/
theorem En.open' {B1 : Bs} (e : En K B1 Z O σ H Γ) {l : Addr} {kvs : List (Key × V)} {od : Obj} (hl : H l = some (.frz od (.dK kvs))) (nh : l ∉ oA σ O ++ zA Z) (hb : Le B.hp B1.hp) (had : B.ad = B1.ad) (hbl : ∀ o, B.hp l = some o → o = .dK kvs) : En K B Z O σ (upd H l (.dK kvs)) Γ := by
  have lc : Lc (hO H σ O Z) (hO (upd H l (.dK kvs)) σ O Z) := fun c o h => by
    obtain ⟨n, h⟩ := hidL_some h
    by_cases hc : c = l
    · subst hc
      rw [hl] at h
      cases h
      exact ⟨.dK kvs, by rw [hO_out n, upd_same], rfl⟩
    · exact ⟨o, by rw [hO_out n, upd_ne hc]; exact h, rfl⟩
  have hid : ∀ {a}, a ∈ oA σ O ++ zA Z → a ≠ l := fun {a} h z => nh (z ▸ h)
  have ownLc : ∀ {a d}, a ≠ l → Own K (hO H σ O Z) H a d → Own K (hO (upd H l (.dK kvs)) σ O Z) (upd H l (.dK kvs)) a d := fun {a d} ha h => by
    cases d <;> first | exact False.elim h | skip
    · obtain ⟨vs, e1, r⟩ := h; exact ⟨vs, by rw [upd_ne ha]; exact e1, Rps.lc lc r⟩
    · obtain ⟨vs, e1, r⟩ := h; exact ⟨vs, by rw [upd_ne ha]; exact e1, Rpk.lc lc r⟩
    · obtain ⟨dx, fs, e1, r⟩ := h; exact ⟨dx, fs, by rw [upd_ne ha]; exact e1, Rpf.lc lc r⟩
    · obtain ⟨x, y, z, e1, r⟩ := h; exact ⟨x, y, z, by rw [upd_ne ha]; exact e1, r⟩
  refine ⟨e.len, fun i d hi q => ?_, fun i hi => ?_, e.ne, fun p hp => ?_, e.zo, fun c o h => ?_, fun p hp => e.ad p (had ▸ hp)⟩
  · obtain ⟨v, h1, h2⟩ := e.val i d hi q
    exact ⟨v, h1, Rp.lc lc h2⟩
  · obtain ⟨a, d, h1, h2, h3⟩ := e.own i hi
    exact ⟨a, d, h1, h2, ownLc (hid (List.mem_append_left _ (mem_oA.mpr ⟨i, hi, h1⟩))) h3⟩
  · rw [upd_ne (hid (List.mem_append_right _ (List.mem_map.mpr ⟨p, hp, rfl⟩)))]
    exact e.zs p hp
  · by_cases hc : c = l
    · subst hc
      rw [hbl o h]
      exact .inl (by rw [hO_out nh, upd_same])
    · rcases (hb.trans e.bs) c o h with z | ⟨ob, ks, z1, z2⟩
      · obtain ⟨n, z⟩ := hidL_some z
        exact .inl (by rw [hO_out n, upd_ne hc]; exact z)
      · obtain ⟨n, z2⟩ := hidL_some z2
        exact .inr ⟨ob, ks, z1, by rw [hO_out n, upd_ne hc]; exact z2⟩
theorem ps_or2 {X : Cx} {st : Stmt} {t t' : TS} (h : PS X st t) (h' : PS X st t') : PS X st (fun D σ H => t D σ H ∨ t' D σ H) := ⟨fun pins s σ H D I q => q.elim (h.run pins s σ H D I) (h'.run pins s σ H D I)⟩
theorem pe_or2 {X : Cx} {e : Expr} {t t' : TE} (h : PE X e t) (h' : PE X e t') : PE X e (fun σ H Q => t σ H Q ∨ t' σ H Q) := ⟨fun pins s σ H Q I q => q.elim (h.run pins s σ H Q I) (h'.run pins s σ H Q I)⟩
/-! ### items, keys, values -/
def itemsD (kvs : List (Key × Dv.D)) : List Dv.D := kvs.map fun q => .tup [match q.1 with
  | .inl i => .int i
  | .inr x => .str x, q.2]
def keyOf : Key → Dv.D
  | .inl i => .int i
  | .inr x => .str x
theorem Rp.key {H : Hp} (k : Key) : Rp K H (kV k) (keyOf k) := by
  cases k
  · exact .int _
  · exact .str _
def keysD (kvs : List (Key × Dv.D)) : List Dv.D := kvs.map fun q => keyOf q.1
theorem Rpk.at {H : Hp} : ∀ {v : List (Key × V)} {d : List (Key × Dv.D)} {i : Nat} {x : Key × Dv.D}, Rpk K H v d → d[i]? = some x → ∃ y, v[i]? = some (x.1, y) ∧ Rp K H y x.2
  | _, _, _, _, .nil, e => by simp at e
  | _, _, 0, _, .cons h _, e => by simp at e; subst e; exact ⟨_, rfl, h⟩
  | _, _, i + 1, x, .cons _ h, e => by
    obtain ⟨y, h1, h2⟩ := Rpk.at (i := i) (x := x) h (by simpa using e)
    exact ⟨y, by simpa using h1, h2⟩
theorem le_frz {Bp H : Hp} {l : Addr} {od : Obj} {u : HO} (h : Bp l = some (.frz od u)) (le : Le Bp H) : H l = some (.frz od u) := by
  rcases le _ _ h with q | ⟨_, _, z, _⟩
  · exact q
  · cases z
theorem it_keys {Bp : Hp} {l : Addr} {od : Obj} {kvs : List (Key × V)} {ds : List (Key × Dv.D)} (s : Bp l = some (.frz od (.dK kvs))) (r : Rpk K Bp kvs ds) : ItD K Bp (Itk l od kvs) (keysD ds) := by
  have at_ : ∀ {i : Nat} {x : Dv.D}, (keysD ds)[i]? = some x → ∃ q y, ds[i]? = some q ∧ x = keyOf q.1 ∧ kvs[i]? = some (q.1, y) := fun {i x} h => by
    unfold keysD at h
    rw [List.getElem?_map] at h
    cases hc : ds[i]? with
    | none => rw [hc] at h; cases h
    | some q =>
      rw [hc] at h
      obtain ⟨y, h1, _⟩ := r.at hc
      exact ⟨q, y, rfl, (Option.some.inj h).symm, h1⟩
  refine ⟨fun i x H e le => ?_, fun H le => ?_, fun i x H y H' e le yl => ?_⟩
  · obtain ⟨q, w, _, _, h1⟩ := at_ e
    exact (over_keys (d := l) (o := od) (kvs := kvs)).go i _ H h1 (le_frz s le)
  · have := (over_keys (d := l) (o := od) (kvs := kvs)).st H (le_frz s le)
    unfold keysD
    rwa [List.length_map, ← r.length]
  · obtain ⟨q, w, _, rfl, h1⟩ := at_ e
    obtain ⟨rfl, rfl⟩ := (over_keys (d := l) (o := od) (kvs := kvs)).yl i _ H y H' h1 (le_frz s le) yl
    exact ⟨Same.refl _, fun A _ _ => .key _⟩
def itemsOf (kvs : List (Key × Dv.D)) : List Dv.D := kvs.map fun q => .tup [keyOf q.1, q.2]
theorem it_items {Bp : Hp} {l : Addr} {od : Obj} {kvs : List (Key × V)} {ds : List (Key × Dv.D)} (s : Bp l = some (.frz od (.dK kvs))) (r : Rpk K Bp kvs ds) : ItD K Bp (Iti l od kvs) (itemsOf ds) := by
  have at_ : ∀ {i : Nat} {x : Dv.D}, (itemsOf ds)[i]? = some x → ∃ q y, ds[i]? = some q ∧ x = .tup [keyOf q.1, q.2] ∧ kvs[i]? = some (q.1, y) ∧ Rp K Bp y q.2 := fun {i x} h => by
    unfold itemsOf at h
    rw [List.getElem?_map] at h
    cases hc : ds[i]? with
    | none => rw [hc] at h; cases h
    | some q =>
      rw [hc] at h
      obtain ⟨y, h1, h2⟩ := r.at hc
      exact ⟨q, y, rfl, (Option.some.inj h).symm, h1, h2⟩
  refine ⟨fun i x H e le => ?_, fun H le => ?_, fun i x H y H' e le yl => ?_⟩
  · obtain ⟨q, w, _, _, h1, _⟩ := at_ e
    exact (over_items (d := l) (o := od) (kvs := kvs)).go i _ H h1 (le_frz s le)
  · have := (over_items (d := l) (o := od) (kvs := kvs)).st H (le_frz s le)
    unfold itemsOf
    rwa [List.length_map, ← r.length]
  · obtain ⟨q, w, _, rfl, h1, rw_⟩ := at_ e
    obtain ⟨T, rfl, nT, rfl⟩ := (over_items (d := l) (o := od) (kvs := kvs)).yl i _ H y H' h1 (le_frz s le) yl
    exact ⟨same_new nT, fun A hA lA => tup2 nT hA (.key _) (rw_.le lA)⟩
end
end Dv
set_option Elab.async false
set_option linter.all false
set_option maxRecDepth 100000
set_option maxHeartbeats 4000000
/-! Dv20: for and comprehensions over dicts that a name, or a field of a name, holds. -/
namespace Dv
open PySem PySem.Spec PyProof.Rows L2 Eu
/-- an expression that only reads: its data by f -/
structure DP (K : PySem.W.Frag) (O : List Nat) (X : Cx) (e : Expr) (t : TE) (f : Sl → Option D) : Prop where
  p : PE X e t
  r : ∀ B Z σ H Γ d, En K B Z O σ H Γ → f Γ = some d → ∃ v, Rp K (hO H σ O Z) v d ∧ ∀ H' (Q : VK), Le H H' → Q v H' → t σ H' Q
section
variable {K : PySem.W.Frag} {Ox O Ol : List Nat} {W : WX} {X : Cx} {a c tg elt iter : Expr} {es ifs elts : List Expr} {ta te : TE} {pos p tpos apos cpos : Pos} {i kk : Nat} {x fl : Str} {C : Addr} {f : Sl → Option D} {g : TG} {ug : UG} {t : TS} {u : US} {tt : TT} {ut : UT} {ue : UE} {body : List Stmt} {scope : Scope} {own : List (Str × Nat)}
def atS (i : Nat) (Γ : Sl) : Option D := match Γ[i]? with
  | some (some d) => some d
  | _ => none
theorem dp_var (hN : X.N[i]? = some x) (hv : Vis X.env.scope x) (hi : i ∉ O) (hd : (x == ("__debug__" : Str)) = false := by decide) (hcd : (x == ("__classdict__" : Str)) = false := by decide) : DP K O X (.Name x pos) (tVar i) (atS i) :=
  ⟨pe_var hN hv hd hcd, fun B Z σ H Γ d e h => by
    unfold atS at h
    split at h
    · rename_i d' hd'
      cases h
      obtain ⟨v, h1, h2⟩ := e.val i _ hi hd'
      exact ⟨v, h2, fun H' Q _ q => ⟨v, h1, q⟩⟩
    · cases h⟩
def fldS (C : Addr) (fl : Str) (f : Sl → Option D) (Γ : Sl) : Option D := match f Γ with
  | some (.obj C' fs) => if C' = C then fs.lookup fl else none
  | _ => none
theorem dp_fld (cl : Cls K C) (na : NoAttr K C fl) (h : DP K O X a ta f) (hb : attributeBase a fl X.env (eval a X.env) = eval a X.env := by rfl) (hK : X.K = K := by rfl) : DP K O X (.Attribute a fl pos) (tFld K ta fl) (fldS C fl f) :=
  ⟨by subst hK; exact pe_fld h.p hb, fun B Z σ H Γ d e hd => by
    unfold fldS at hd
    split at hd
    · rename_i C' fs hf
      split at hd
      · rename_i hC
        subst hC
        obtain ⟨v, r, go⟩ := h.r B Z σ H Γ _ e hf
        cases r with
        | obj h1 h2 =>
          rcases lookup_rel (f := fl) h2 with ⟨z, _⟩ | ⟨d', v', g1, g2, g3⟩
          · rw [hd] at z; cases z
          · rw [hd] at g1
            cases g1
            refine ⟨v', g3, fun H' Q le q => go H' _ le ?_⟩
            exact ⟨_, _, _, _, v', rfl, le.lc.ins (hidL_some h1).2, cl, na, g2, q⟩
      · cases hd
    · cases hd⟩
/-- what is walked of a dict, and how -/
structure Walk (X : Cx) (tg iter : Expr) (td : TE) (wi : TI) (J : Addr → Obj → List (Key × V) → It) (ds : List (Key × D) → List D) (K : PySem.W.Frag) : Prop where
  p : PI X tg iter wi
  w : ∀ σ H (R : It → Hp → Prop) l o kvs, (∀ Q : VK, Q (.ref l) H → td σ H Q) → H l = some (.frz o (.dK kvs)) → R (J l o kvs) H → wi σ H R
  i : ∀ {Bp : Hp} {l : Addr} {od : Obj} {kvs : List (Key × V)} {es : List (Key × D)}, Bp l = some (.frz od (.dK kvs)) → Rpk K Bp kvs es → ItD K Bp (J l od kvs) (ds es)
theorem wk_keys (h : PE X a ta) : Walk X tg a ta (iKeys ta) Itk keysD K := ⟨pi_keys h, fun σ H R l o kvs go hl q => go _ ⟨l, o, rfl, .inl ⟨kvs, hl, q⟩⟩, it_keys⟩
theorem wk_items (h : PE X a ta) (hbase : attributeBase a "items" X.env (eval a X.env) = eval a X.env := by rfl) (hline : (apos.endLine == cpos.line) = true := by rfl) : Walk X (.Tuple elts kk tpos) (.Call (.Attribute a "items" apos) [] [] cpos) ta (iItems ta) Iti itemsOf K := ⟨pi_items h hbase hline, fun σ H R l o kvs go hl q => go _ ⟨l, o, kvs, rfl, hl, q⟩, it_items⟩
variable {wi : TI} {J : Addr → Obj → List (Key × V) → It} {dsf : List (Key × D) → List D}
def uForD (f : Sl → Option D) (dsf : List (Key × D) → List D) (ug : UG) (u : US) : US := fun ED Γ => ∃ kvs, f Γ = some (.dct kvs) ∧ uForL ug u ED (dsf kvs) Γ
theorem ds_forD (hc : X.calm = true) (hd : DP K O X a ta f) (hw : Walk X tg iter ta wi J dsf K) (hg : DG K Ox O X tg g ug) (hb : DB K Ox O W O O X body t u) (hx : ∀ i ∈ Ox, i ∈ O)
    (hs : ∀ x, foldedSetIterable iter X.env x = pure x := by intro _; rfl) : DS K Ox O W Ol O X (.For tg iter body [] pos) (fun D σ H => tLock (tFor wi g t) D σ H ∨ tFor wi g t D σ H) (uForD f dsf ug u) := ⟨fun gg po => by
  have h := ps_for po hc hw.p hg.p (hb.p gg po) hs (pos := pos)
  exact ps_or2 (ps_lock h) h, by
  rintro B Z σ H Γ D ED hB e ex ⟨kvs, hf, hu⟩ nx rt bk ct
  obtain ⟨v, rv, go⟩ := hd.r B Z σ H Γ _ e hf
  cases rv with
  | dct h1 h2 =>
    rename_i l ks
    have nh : l ∉ oA σ O ++ zA Z := by
      rcases h1 with h1 | ⟨o, h1⟩
      · exact (hidL_some h1).1
      · exact (hidL_some h1).1
    rcases h1 with h1 | ⟨o, h1⟩
    · have hl := (hidL_some h1).2
      refine .inl ⟨l, .dK ks, hl, trivial, fun od => ?_⟩
      have e2 := e.lock (od := od) hl nh
      have hl2 : upd H l (.frz od (.dK ks)) l = some (.frz od (.dK ks)) := upd_same
      have hO2 : hO (upd H l (.frz od (.dK ks))) σ O Z l = some (.frz od (.dK ks)) := by rw [hO_out nh, upd_same]
      have le1 : Le H (upd H l (.frz od (.dK ks))) := fun c o h => by
        by_cases hc : c = l
        · subst hc
          rw [hl] at h
          cases h
          exact .inr ⟨od, ks, rfl, upd_same⟩
        · exact .inl (by rw [upd_ne hc]; exact h)
      have hbl : ∀ o, B.hp l = some o → o = .dK ks := fun o h => by
        rcases e.bs l o h with z | ⟨_, _, _, z⟩
        · rw [h1] at z; exact (Option.some.inj z).symm
        · rw [h1] at z; cases z
      have open1 : ∀ {O' σ' H' Γ'}, (∀ i ∈ O', i ∈ O') → En K ⟨hO (upd H l (.frz od (.dK ks))) σ O Z, B.ad⟩ Z O' σ' H' Γ' → H' l = some (.frz od (.dK ks)) ∧ En K B Z O' σ' (upd H' l (.dK ks)) Γ' ∧ ∀ {v d}, Rp K (hO H' σ' O' Z) v d → Rp K (hO (upd H' l (.dK ks)) σ' O' Z) v d := fun {O' σ' H' Γ'} _ e' => by
        have q := le_frz hO2 e'.bs
        obtain ⟨n', q'⟩ := hidL_some q
        refine ⟨q', e'.open' q' n' e2.bs rfl hbl, fun {v d} r => Rp.lc (fun c o h => ?_) r⟩
        obtain ⟨n, h⟩ := hidL_some h
        by_cases hc : c = l
        · subst hc
          rw [q'] at h
          cases h
          exact ⟨.dK ks, by rw [hO_out n, upd_same], rfl⟩
        · exact ⟨o, by rw [hO_out n, upd_ne hc]; exact h, rfl⟩
      refine hw.w σ _ _ l od ks (fun Q q => go _ Q le1 q) hl2 ?_
      refine for_core (B := B) hB hg.r hb.r e2 (ex.up e2.bs rfl) (hw.i hO2 (h2.le (le1.hide))) hu (fun σ' H' Γ' e' q => ?_) (fun v σ' H' d Γ' e' r' q => ?_)
      · obtain ⟨a1, a2, _⟩ := open1 (fun _ h => h) e'
        exact ⟨a1, nx _ _ _ a2 q⟩
      · obtain ⟨a1, a2, a3⟩ := open1 (fun _ h => h) e'
        exact ⟨a1, rt v σ' _ d Γ' a2 (a3 r') q⟩
    · have hl := (hidL_some h1).2
      refine .inr (hw.w σ _ _ l o ks (fun Q q => go _ Q (Le.refl _) q) hl ?_)
      exact for_core (B := B) hB hg.r hb.r e (ex.at e) (hw.i h1 h2) hu (fun σ' H' Γ' e' q => nx _ _ _ (e.back e') q) (fun v σ' H' d Γ' e' r' q => rt v σ' H' d Γ' (e.back e') r' q)⟩
/-- a comprehension over a dict -/
def uLcD (vs : List Nat) (f : Sl → Option D) (dsf : List (Key × D) → List D) (ug : UG) (ut : UT) (ue : UE) : UE := fun Γ Q Ex => ∃ kvs, f Γ = some (.dct kvs) ∧ (dsf kvs).length ≤ sizeLine ∧ uLcL vs ug ut ue (fun ys Γ2 => Q (.lst ys) (unwipe Γ Γ2 vs)) (dsf kvs) [] (wipeD Γ vs)
theorem dl_lcD (hc : X.calm = true) (hN : X.N.Nodup) (hvO : ∀ v ∈ own.map (·.2), v ∉ O) (hvX : ∀ v ∈ own.map (·.2), v ∉ Ox) (hd : DP K O X a ta f) (hw : Walk X tg iter ta wi J dsf K) (ok : BlkOk X.N X.env.scope scope own)
    (hg : ∀ (s : Shared) (H : Hp) (C : Addr) (cl : List (Str × Addr)) (fp : List Addr), DG K Ox O (X.blk s H scope (compEnvC scope cl C X.env) fp) tg g ug) (hgo : GOnly g (own.map (·.2)))
    (ht : ∀ (s : Shared) (H : Hp) (C : Addr) (cl : List (Str × Addr)) (fp : List Addr), DTs K Ox O W0 (X.blk s H scope (compEnvC scope cl C X.env) fp) ifs tt ut)
    (he : ∀ (s : Shared) (H : Hp) (C : Addr) (cl : List (Str × Addr)) (fp : List Addr), DE K Ox O W0 (X.blk s H scope (compEnvC scope cl C X.env) fp) elt te ue) (hs : ∀ x, foldedSetIterable iter X.env x = pure x := by intro _; rfl) :
    DE K Ox O W X (.ListComp elt [⟨tg, iter, ifs, 0⟩] scope pos) (fun σ H Q => tLockE (tLc wi g tt te (own.map (·.2))) σ H Q ∨ tLc wi g tt te (own.map (·.2)) σ H Q) (uLcD (own.map (·.2)) f dsf ug ut ue) := ⟨fun gg => by
  have h := pe_lc hc hN hw.p ok (fun s H C cl fp => (hg s H C cl fp).p) (fun s H C cl fp => (ht s H C cl fp).p lt0) (fun s H C cl fp => (he s H C cl fp).p lt0) hs (pos := pos)
  exact pe_or2 (pe_lock h) h, by
  rintro B Z σ H Γ Q Qd Ex e ex ⟨kvs, hf, hsz, hu⟩ k
  have hB := ex.ad
  obtain ⟨v, rv, go⟩ := hd.r B Z σ H Γ _ e hf
  have toE : ∀ {B' : Bs} {p o H' d Γ'}, En K B' ((p, o) :: Z) O σ H' Γ' → p ∉ zA Z → Own K (hO H' σ O ((p, o) :: Z)) H' p d → (∀ m, d ≠ .bag m) → En K B' Z O σ H' Γ' ∧ Rp K (hO H' σ O Z) (.ref p) d := fun {B' p o H' d Γ'} e' nz w nb => by
    have l : Le (hO H' σ O ((p, o) :: Z)) (hO H' σ O Z) := Le.less fun a h => by
      rcases List.mem_append.mp h with h | h
      · exact List.mem_append_left _ h
      · exact List.mem_append_right _ (List.mem_cons_of_mem _ h)
    refine ⟨e'.unz, w.rp nb ?_ l⟩
    rw [hO_out]
    intro z
    rcases List.mem_append.mp z with z | z
    · exact e'.zo (p, o) List.mem_cons_self z
    · exact nz z
  cases rv with
  | dct h1 h2 =>
    rename_i l ks
    have nh : l ∉ oA σ O ++ zA Z := by
      rcases h1 with h1 | ⟨o, h1⟩
      · exact (hidL_some h1).1
      · exact (hidL_some h1).1
    rcases h1 with h1 | ⟨o, h1⟩
    · have hl := (hidL_some h1).2
      refine .inl ⟨l, .dK ks, hl, trivial, fun od => ?_⟩
      have e2 := e.lock (od := od) hl nh
      have hO2 : hO (upd H l (.frz od (.dK ks))) σ O Z l = some (.frz od (.dK ks)) := by rw [hO_out nh, upd_same]
      have le1 : Le H (upd H l (.frz od (.dK ks))) := fun c o h => by
        by_cases hc : c = l
        · subst hc
          rw [hl] at h
          cases h
          exact .inr ⟨od, ks, rfl, upd_same⟩
        · exact .inl (by rw [upd_ne hc]; exact h)
      have hbl : ∀ o, B.hp l = some o → o = .dK ks := fun o h => by
        rcases e.bs l o h with z | ⟨_, _, _, z⟩
        · rw [h1] at z; exact (Option.some.inj z).symm
        · rw [h1] at z; cases z
      refine hw.w σ _ _ l od ks (fun Q q => go _ Q le1 q) upd_same ?_
      refine lc_coreD (B := ⟨hO (upd H l (.frz od (.dK ks))) σ O Z, B.ad⟩) (Q := fun v H' => H' l = some (.frz od (.dK ks)) ∧ Q v (upd H' l (.dK ks))) hvO hvX (hg X.s_0 X.H_0 0 [] []).r hgo (ht X.s_0 X.H_0 0 [] []).r (he X.s_0 X.H_0 0 [] []).r hB e2.self (hw.i hO2 (h2.le le1.hide)) hsz hu ?_
      intro p o H' d Γ' e' nz w nb q
      obtain ⟨e3, r3⟩ := toE e' nz w nb
      have q1 := le_frz hO2 e3.bs
      obtain ⟨n', q'⟩ := hidL_some q1
      refine ⟨q', k _ _ d Γ' (e3.open' q' n' e2.bs rfl hbl) (Rp.lc (fun c o h => ?_) r3) q⟩
      obtain ⟨n, h⟩ := hidL_some h
      by_cases hc : c = l
      · subst hc
        rw [q'] at h
        cases h
        exact ⟨.dK ks, by rw [hO_out n, upd_same], rfl⟩
      · exact ⟨o, by rw [hO_out n, upd_ne hc]; exact h, rfl⟩
    · have hl := (hidL_some h1).2
      refine .inr (hw.w σ _ _ l o ks (fun Q q => go _ Q (Le.refl _) q) hl ?_)
      refine lc_coreD hvO hvX (hg X.s_0 X.H_0 0 [] []).r hgo (ht X.s_0 X.H_0 0 [] []).r (he X.s_0 X.H_0 0 [] []).r hB e (hw.i h1 h2) hsz hu ?_
      intro p o H' d Γ' e' nz w nb q
      obtain ⟨e3, r3⟩ := toE e' nz w nb
      exact k _ _ d Γ' e3 r3 q⟩
end
end Dv
set_option Elab.async false
set_option linter.all false
set_option maxRecDepth 100000
set_option maxHeartbeats 4000000
/-! Dv21: dict comprehensions. -/
namespace Dv
open PySem PySem.Spec PyProof.Rows L2 Eu
theorem putKD_len (kvs : List (Key × D)) (k : Key) (d : D) : (putKD kvs k d).length ≤ kvs.length + 1 := by
  unfold putKD
  split
  · rw [List.length_map]; omega
  · rw [List.length_append]; exact Nat.le_refl _
def uDcL (vs : List Nat) (ug : UG) (ut : UT) (uk uv : UE) (Q : List (Key × D) → Sl → Prop) : List D → List (Key × D) → Sl → Prop
  | [], acc, Γ => Q acc Γ
  | d :: ds, acc, Γ => ug d Γ fun Γ1 => ut Γ1 (fun b Γ2 => if b = true then uk Γ2 (fun dk Γ3 => uv Γ3 (fun dv Γ4 => ∃ k, keyD dk = some k ∧ uDcL vs ug ut uk uv Q ds (putKD acc k dv) (wipeD Γ4 vs)) Ex0) Ex0 else uDcL vs ug ut uk uv Q ds acc (wipeD Γ2 vs)) Ex0
section
variable {K : PySem.W.Frag} {Ox O : List Nat} {W : WX} {X : Cx} {a kx vx tg iter : Expr} {ifs : List Expr} {scope : Scope} {own : List (Str × Nat)} {pos : Pos} {wi : TI} {ui : UA} {g : TG} {ug : UG} {tt : TT} {ut : UT} {ta tk tv : TE} {uk uv : UE} {f : Sl → Option D} {J : Addr → Obj → List (Key × V) → It} {dsf : List (Key × D) → List D}
theorem dc_coreD {vs : List Nat} {B : Bs} {Z : Zs} {σ : L2.St} {H1 : Hp} {Γ1 : Sl} {Q : VK} {Qd : D → Sl → Prop} {J : It} {ds : List D} {tk tv : TE} {uk uv : UE} (hvO : ∀ v ∈ vs, v ∉ O) (hvX : ∀ v ∈ vs, v ∉ Ox)
    (hg : ∀ B Z σ H Γ v d (Q : L2.St → Hp → Prop) (Qd : Sl → Prop), (∀ p ∈ B.ad, p.1 ∈ Ox) → En K B Z O σ H Γ → Rp K (hO H σ O Z) v d → ug d Γ Qd → (∀ σ' H' Γ', En K B Z O σ' H' Γ' → Qd Γ' → Q σ' H') → g v σ H Q)
    (hgo : GOnly g vs) (ht : RfT K Ox O W0 tt ut) (hk : RfE K Ox O W0 tk uk) (hv : RfE K Ox O W0 tv uv) (hB : ∀ p ∈ B.ad, p.1 ∈ Ox) (e1 : En K B Z O σ H1 Γ1) (J1 : ItD K (hO H1 σ O Z) J ds) (hsz : ds.length ≤ sizeLine) (q1 : uDcL vs ug ut uk uv (fun ys Γ2 => Qd (.dct ys) (unwipe Γ1 Γ2 vs)) ds [] (wipeD Γ1 vs))
    (k : ∀ p o H' d Γ', En K B ((p, o) :: Z) O σ H' Γ' → p ∉ zA Z → Own K (hO H' σ O ((p, o) :: Z)) H' p d → (∀ m, d ≠ .bag m) → Qd d Γ' → Q (.ref p) H') :
    ∀ D, H1 D = none → ∃ W : Nat → Nat → Hp → Prop, (∃ m, W 0 m (upd H1 D (.dK []))) ∧ ∀ i m H, W i m H →
      (J.stop i H ∧ Q (.ref D) H) ∨ (J.go i H ∧ ∃ Nx : Hp → Prop, (∀ H', Nx H' → ∃ m', m' < m ∧ W (i + 1) m' H') ∧ ∀ x H', J.yld i H x H' → g x (wipe σ vs) H' fun σ2 H2 => wipe σ2 vs = wipe σ vs ∧ tt σ2 H2 fun b H3 =>
        if b = true then tk σ2 H3 fun y H4 => tv σ2 H4 fun z H5 => ∃ kvs k, y = kV k ∧ H5 D = some (.dK kvs) ∧ kvs.length < sizeLine ∧ Nx (upd H5 D (.dK (putK kvs k z))) else Nx H3) := by
  obtain ⟨Jg, Js, Jy⟩ := J1
  intro Dn nD
  have fr := e1.fresh nD
  have nz : Dn ∉ zA Z := fun z => fr (List.mem_append_right _ z)
  have hBv : ∀ v ∈ vs, ∀ p ∈ B.ad, p.1 ≠ v := fun v hv p hp z => hvX v hv (z ▸ hB p hp)
  let B1 : Bs := ⟨hO H1 σ O Z, B.ad⟩
  have e2 : En K B1 ((Dn, .dK []) :: Z) O (wipe σ vs) (upd H1 Dn (.dK [])) (wipeD Γ1 vs) := (e1.self.newz nD).wiped hvO hBv
  let Qe : List (Key × D) → Sl → Prop := fun ys Γ2 => Qd (.dct ys) (unwipe Γ1 Γ2 vs)
  let St : Nat → Hp → Prop := fun i H' => ∃ Γ' ys acc, acc.length ≤ i ∧ En K B1 ((Dn, .dK ys) :: Z) O (wipe σ vs) H' Γ' ∧ Rpk K (hO H' (wipe σ vs) O ((Dn, .dK ys) :: Z)) ys acc ∧ uDcL vs ug ut uk uv Qe (ds.drop i) acc Γ'
  refine ⟨fun i m H' => m = ds.length - i ∧ i ≤ ds.length ∧ St i H', ⟨ds.length, rfl, Nat.zero_le _, _, [], [], Nat.le_refl _, e2, .nil, q1⟩, ?_⟩
  rintro i m H' ⟨rfl, hi, Γ', ys, acc, hacc, e', ry, q'⟩
  by_cases hl : i < ds.length
  · have ed : ds.drop i = ds[i] :: ds.drop (i + 1) := List.drop_eq_getElem_cons hl
    have eg : ds[i]? = some ds[i] := List.getElem?_eq_getElem hl
    rw [ed] at q'
    have l0 : Le (hO H1 σ O Z) H' := e'.bs.trans hidL_le
    refine .inr ⟨Jg i _ H' eg l0, St (i + 1), fun H2 x => ⟨_, by omega, rfl, hl, x⟩, fun x H2 y => ?_⟩
    obtain ⟨s2, r2⟩ := Jy i _ H' x H2 eg l0 y
    have r2 := r2 _ (fun a ha => e'.live ha) e'.bs
    have e3 := e'.same s2
    have ry2 : Rpk K (hO H2 (wipe σ vs) O ((Dn, .dK ys) :: Z)) ys acc := ry.le ((Le.of s2).hide)
    have step := hg ⟨hO H2 (wipe σ vs) O ((Dn, .dK ys) :: Z), B.ad⟩ _ (wipe σ vs) H2 Γ' x _ (fun σ3 H3 => ∃ Γ3, En K ⟨hO H2 (wipe σ vs) O ((Dn, .dK ys) :: Z), B.ad⟩ ((Dn, .dK ys) :: Z) O σ3 H3 Γ3 ∧ ut Γ3 (fun b Γ2 => if b = true then uk Γ2 (fun dk Γ3 => uv Γ3 (fun dv Γ4 => ∃ k, keyD dk = some k ∧ uDcL vs ug ut uk uv Qe (ds.drop (i + 1)) (putKD acc k dv) (wipeD Γ4 vs)) Ex0) Ex0 else uDcL vs ug ut uk uv Qe (ds.drop (i + 1)) acc (wipeD Γ2 vs)) Ex0) _ hB e3.self r2 q' (fun σ3 H3 Γ3 e4 q4 => ⟨Γ3, e4, q4⟩)
    refine hgo.mono _ _ _ _ _ (fun σ3 H3 h => ?_) (hgo.only _ _ _ _ step)
    obtain ⟨hw, Γ3, e4, q4⟩ := h
    have hw : wipe σ3 vs = wipe σ vs := hw.trans (wipe_wipe fun v hv => hv)
    refine ⟨hw, ?_⟩
    have ry3 := ry2.le e4.le
    refine ht ⟨hO H3 σ3 O ((Dn, .dK ys) :: Z), B.ad⟩ _ σ3 H3 Γ3 _ _ _ e4.self (exo0 hB) q4 fun b H4 Γ4 e5 q5 => ?_
    have ry4 := ry3.le e5.le
    have hq : ∀ {H : Hp} {ys : List (Key × V)}, hO H σ3 O ((Dn, .dK ys) :: Z) = hO H (wipe σ vs) O ((Dn, .dK ys) :: Z) := fun {H ys} => by rw [← hw, hO_wipe hvO]
    cases b with
    | false =>
      rw [if_neg (by decide)] at q5
      rw [if_neg (by decide)]
      refine ⟨_, ys, acc, by omega, ?_, by rw [← hq]; exact ry4, q5⟩
      exact (e3.back (e4.back e5)).rezero hvO hBv hw
    | true =>
      rw [if_pos rfl] at q5
      rw [if_pos rfl]
      refine hk ⟨hO H4 σ3 O ((Dn, .dK ys) :: Z), B.ad⟩ _ σ3 H4 Γ4 _ _ _ e5.self (exo0 hB) q5 fun y' H5 dy Γ5 e6 r6 q6 => ?_
      refine hv ⟨hO H5 σ3 O ((Dn, .dK ys) :: Z), B.ad⟩ _ σ3 H5 Γ5 _ _ _ e6.self (exo0 hB) q6 fun z' H6 dz Γ6 e7 r7 q7 => ?_
      obtain ⟨kk, hkk, q7⟩ := q7
      have ry5 := (ry4.le e6.le).le e7.le
      have e8 := (e3.back (e4.back (e5.back (e6.back e7))))
      refine ⟨ys, kk, key_v r6 hkk, e8.zs (Dn, .dK ys) List.mem_cons_self, by have := ry5.length; omega, ?_⟩
      refine ⟨_, putK ys kk z', putKD acc kk dz, by have := putKD_len acc kk dz; omega, (e8.rezero hvO hBv hw).rez nz, ?_, q7⟩
      rw [hO_rez, ← hq]
      exact putK_rel r7 ry5
  · have ei : i = ds.length := by omega
    subst ei
    rw [List.drop_length] at q'
    refine .inl ⟨Js H' (e'.bs.trans hidL_le), ?_⟩
    have e8 := e1.newz (o := .dK ys) nD
    have e9 := e8.unwiped (vs := vs) (H' := H') (Γ' := Γ') hvO (by rw [hO_newz nD]; exact e')
    refine k Dn (.dK ys) H' (.dct acc) _ e9 nz ⟨ys, e'.zs (Dn, .dK ys) List.mem_cons_self, ?_⟩ (fun m z => nomatch z) q'
    rw [← hO_wipe hvO]
    exact ry

def uDc (vs : List Nat) (ui : UA) (ug : UG) (ut : UT) (uk uv : UE) : UE := fun Γ Q Ex => ui Γ (fun ds Γ1 => ds.length ≤ sizeLine ∧ uDcL vs ug ut uk uv (fun ys Γ2 => Q (.dct ys) (unwipe Γ1 Γ2 vs)) ds [] (wipeD Γ1 vs)) Ex
theorem dl_dc (hc : X.calm = true) (hN : X.N.Nodup) (hvO : ∀ v ∈ own.map (·.2), v ∉ O) (hvX : ∀ v ∈ own.map (·.2), v ∉ Ox) (hi : DI K Ox O W X tg iter wi ui) (ok : BlkOk X.N X.env.scope scope own)
    (hg : ∀ (s : Shared) (H : Hp) (C : Addr) (cl : List (Str × Addr)) (fp : List Addr), DG K Ox O (X.blk s H scope (compEnvC scope cl C X.env) fp) tg g ug) (hgo : GOnly g (own.map (·.2)))
    (ht : ∀ (s : Shared) (H : Hp) (C : Addr) (cl : List (Str × Addr)) (fp : List Addr), DTs K Ox O W0 (X.blk s H scope (compEnvC scope cl C X.env) fp) ifs tt ut)
    (hk : ∀ (s : Shared) (H : Hp) (C : Addr) (cl : List (Str × Addr)) (fp : List Addr), DE K Ox O W0 (X.blk s H scope (compEnvC scope cl C X.env) fp) kx tk uk)
    (hv : ∀ (s : Shared) (H : Hp) (C : Addr) (cl : List (Str × Addr)) (fp : List Addr), DE K Ox O W0 (X.blk s H scope (compEnvC scope cl C X.env) fp) vx tv uv) (hs : ∀ x, foldedSetIterable iter X.env x = pure x := by intro _; rfl) :
    DL K Ox O W X (.DictComp kx vx [⟨tg, iter, ifs, 0⟩] scope pos) (tDc wi g tt tk tv (own.map (·.2))) (uDc (own.map (·.2)) ui ug ut uk uv) :=
  ⟨fun gg => pe_dc hc hN (hi.p gg) ok (fun s H C cl fp => (hg s H C cl fp).p) (fun s H C cl fp => (ht s H C cl fp).p lt0) (fun s H C cl fp => (hk s H C cl fp).p lt0) (fun s H C cl fp => (hv s H C cl fp).p lt0) hs, by
    intro B Z σ H Γ Q Qd Ex e ex hu k
    refine hi.r B Z σ H Γ _ _ Ex e ex hu fun J H1 ds Γ1 e1 J1 q1 => ?_
    exact dc_coreD hvO hvX (hg X.s_0 X.H_0 0 [] []).r hgo (ht X.s_0 X.H_0 0 [] []).r (hk X.s_0 X.H_0 0 [] []).r (hv X.s_0 X.H_0 0 [] []).r ex.ad e1 J1 q1.1 q1.2 k⟩
end
end Dv
set_option Elab.async false
set_option linter.all false
set_option maxRecDepth 100000
set_option maxHeartbeats 4000000
/-! Dv22: starred items of displays; x, *y = a tuple. -/
namespace Dv
open PySem PySem.Spec PyProof.Rows L2 Eu
section
variable {K : PySem.W.Frag} {Ox O : List Nat} {W : WX} {X : Cx} {a : Expr} {es : List Expr} {ta : TE} {ua : UE} {pos p : Pos} {tr : TA} {ur : UA}
/-- the items of a list or tuple -/
def D.items : D → Option (List D)
  | .lst ds => some ds
  | .tup ds => some ds
  | _ => none
def uStar (ua : UE) (ur : UA) : UA := fun Γ Q Ex => ua Γ (fun d Γ1 => ∃ ds, d.items = some ds ∧ ur Γ1 (fun ds' Γ2 => Q (ds ++ ds') Γ2) Ex) Ex
theorem da_star (ha : DE K Ox O W X a ta ua) (hr : DA K Ox O W X es tr ur) (hK : X.K = K := by rfl) (hs : starEach (.Starred a p :: es) X.env = (true, eval a X.env) :: starEach es X.env := by rfl) : DA K Ox O W X (.Starred a p :: es) (StX.tStar K ta tr) (uStar ua ur) := ⟨fun g => by subst hK; exact StX.pa_star (ha.p g) (hr.p g) hs, by
  intro B Z σ H Γ Q Qd Ex e ex hu k
  refine ha.r B Z σ H Γ _ _ Ex e ex hu fun x H1 dx Γ1 e1 r1 q1 => ?_
  obtain ⟨ds, hd, q1⟩ := q1
  cases dx <;> try cases hd
  · cases r1 with
    | lst h1 h2 =>
      refine ⟨_, _, rfl, .inr (.inl (.inl (hidL_some h1).2)), ?_⟩
      refine hr.r _ Z σ H1 Γ1 _ _ Ex e1.self (ex.at e1) q1 fun xs H2 ds' Γ2 e2 r2 q2 => ?_
      exact k _ H2 _ Γ2 (e1.back e2) ((h2.le e2.le).append r2) q2
  · cases r1 with
    | tup h1 h2 =>
      refine ⟨_, _, rfl, .inl (hidL_le.lc.tup h1), ?_⟩
      refine hr.r _ Z σ H1 Γ1 _ _ Ex e1.self (ex.at e1) q1 fun xs H2 ds' Γ2 e2 r2 q2 => ?_
      exact k _ H2 _ Γ2 (e1.back e2) ((h2.le e2.le).append r2) q2⟩
def ugHead (i j : Nat) : UG := fun d Γ Q => ∃ x xs, d = .tup (x :: xs) ∧ xs.length ≤ 16000 ∧ Q ((Γ.set i (some x)).set j (some (.lst xs)))
theorem dg_head {i j k : Nat} {x y : Str} {p1 p2 p3 : Pos} (hc : X.calm = true) (hN : X.N.Nodup) (hi : X.N[i]? = some x) (hj : X.N[j]? = some y) (hx : Loc X.env.scope x) (hy : Loc X.env.scope y) (i1 : i ∉ O) (i2 : i ∉ Ox) (j1 : j ∉ O) (j2 : j ∉ Ox) (hK : X.K = K := by rfl) (fx : X.fn x = true ∨ X.env.scope.names.lookup x = some .local := by first | exact .inl rfl | exact .inr rfl) (fy : X.fn y = true ∨ X.env.scope.names.lookup y = some .local := by first | exact .inl rfl | exact .inr rfl)
    (hst : assignEach [.Name x p1, .Starred (.Name y p2) p3] X.env = [(false, assign (.Name x p1) X.env), (true, assign (.Name y p2) X.env)] := by rfl) : DG K Ox O X (.Tuple [.Name x p1, .Starred (.Name y p2) p3] k pos) (gHead K i j) (ugHead i j) := ⟨by subst hK; exact pg_head hc hN hi hj hx hy fx fy hst, by
  rintro B Z σ H Γ v d Q Qd hB e r ⟨x0, xs, rfl, few, q⟩ kk
  cases r with
  | tup s r2 =>
    cases r2 with
    | @cons v3 vs3 _ _ r3 r4 =>
      refine ⟨_, _, _, rfl, hidL_le.lc.tup s, by rw [r4.length]; exact few, fun l nl => ?_⟩
      have e1 := e.set i1 (fun p hp z => i2 (z ▸ hB p hp)) r3
      have e2 := e1.same (same_new (o := .lst vs3) nl)
      have hq : hO H (σ.set i (some v3)) O Z = hO H σ O Z := hO_set i1
      refine kk _ _ _ (e2.set (v := .ref l) (d := .lst xs) j1 (fun p hp z => j2 (z ▸ hB p hp)) ?_) q
      refine .lst ?_ ((hq.symm ▸ r4 : Rps K (hO H (σ.set i (some v3)) O Z) vs3 xs).le (Le.new nl))
      rw [hO_out (e1.fresh nl), upd_same]⟩
end
end Dv
set_option Elab.async false
set_option linter.all false
set_option maxRecDepth 100000
set_option maxHeartbeats 4000000
namespace Dv
open PySem PySem.Spec PyProof.Rows L2 Eu
theorem huR {k : Nat} {A : Around} (hr : Rm k A) : A.units + 1 < cLine := hu_of hr.rm
end Dv
namespace Eu
open PySem
def top (i : Nat) : Stmt := PySem.Challenge.pw_equalunlike_k36_answers_by_hand.main.body.getD i (.Pass ⟨0, 0, 0, 0⟩)
end Eu
set_option Elab.async false
set_option linter.all false
set_option maxRecDepth 100000
set_option maxHeartbeats 4000000
/-! Fv1: what a piece of code computes, as a function over slots of data; a function carries a reading over data (Cu, CuS). -/
namespace Dv
open PySem PySem.Spec PyProof.Rows L2 Eu
inductive R (S α : Type) where
  | ok (a : α) (s : S)
  | ex (x : XD) (s : S)
  | no
def R.wp {S α : Type} (r : R S α) (Q : α → S → Prop) (Ex : XD → S → Prop) : Prop := match r with
  | .ok a s => Q a s
  | .ex x s => Ex x s
  | .no => False
def R.bind {S α β : Type} (r : R S α) (f : α → S → R S β) : R S β := match r with
  | .ok a s => f a s
  | .ex x s => .ex x s
  | .no => .no
/-- without an error -/
def R.calm {S α : Type} (r : R S α) : R S α := match r with
  | .ex _ _ => .no
  | r => r
def R.opt {S α : Type} (o : Option α) (s : S) : R S α := match o with
  | some a => .ok a s
  | none => .no
section
variable {S α β : Type} {a : α} {s : S} {x : XD}
@[simp] theorem R.bind_ok {f : α → S → R S β} : (R.ok a s).bind f = f a s := rfl
@[simp] theorem R.bind_ex {f : α → S → R S β} : (R.ex x s).bind f = .ex x s := rfl
@[simp] theorem R.bind_no {f : α → S → R S β} : (R.no : R S α).bind f = .no := rfl
@[simp] theorem R.calm_ok : (R.ok a s).calm = .ok a s := rfl
@[simp] theorem R.opt_some : R.opt (some a) s = .ok a s := rfl
@[simp] theorem R.opt_none : R.opt (none : Option α) s = .no := rfl
theorem R.wp_bind {r : R S α} {f : α → S → R S β} {Q : β → S → Prop} {Ex : XD → S → Prop} : (r.bind f).wp Q Ex ↔ r.wp (fun a s => (f a s).wp Q Ex) Ex := by cases r <;> rfl
theorem R.wp_calm {r : R S α} {Q : α → S → Prop} {Ex : XD → S → Prop} (h : r.calm.wp Q Ex) (Ex' : XD → S → Prop) : r.wp Q Ex' := by
  cases r with
  | ok a s => exact h
  | ex x s => exact h.elim
  | no => exact h
theorem R.wp_opt {o : Option α} {Q : α → S → Prop} {Ex : XD → S → Prop} (h : (R.opt o s).wp Q Ex) : ∃ d, o = some d ∧ Q d s := by
  cases o with
  | none => exact h.elim
  | some d => exact ⟨d, rfl, h⟩
theorem R.wp_mono {r : R S α} {Q Q' : α → S → Prop} {E E' : XD → S → Prop} (h : r.wp Q E) (hq : ∀ a s, Q a s → Q' a s) (he : ∀ a s, E a s → E' a s) : r.wp Q' E' := by
  cases r with
  | ok a s => exact hq _ _ h
  | ex x s => exact he _ _ h
  | no => exact h
end
abbrev Re := R Sl D
abbrev Rt := R Sl Bool
abbrev Ra := R Sl (List D)
abbrev Fe := Sl → Re
abbrev Ft := Sl → Rt
abbrev Fa := Sl → Ra
/-- f carries u -/
class Cu {α : Type} (f : Sl → R Sl α) (u : Sl → (α → Sl → Prop) → UX → Prop) : Prop where
  h : ∀ Γ Q Ex, (f Γ).wp Q Ex → u Γ Q Ex
inductive SR where
  | nx (Γ : Sl) | rt (d : D) (Γ : Sl) | ex (x : XD) (Γ : Sl) | bk (Γ : Sl) | ct (Γ : Sl) | no
abbrev Fs := Sl → SR
def SR.wp (r : SR) (ED : EndsD) : Prop := match r with
  | .nx Γ => ED.nx Γ
  | .rt d Γ => ED.rt d Γ
  | .ex x Γ => ED.ex x Γ
  | .bk Γ => ED.bk Γ
  | .ct Γ => ED.ct Γ
  | .no => False
class CuS (f : Fs) (u : US) : Prop where
  h : ∀ ED Γ, (f Γ).wp ED → u ED Γ
/-- a value, then a statement -/
def R.then {α : Type} (r : R Sl α) (f : α → Sl → SR) : SR := match r with
  | .ok a s => f a s
  | .ex x s => .ex x s
  | .no => .no
section
variable {α : Type} {a : α} {s : Sl} {x : XD} {f : α → Sl → SR}
@[simp] theorem R.then_ok : (R.ok a s).then f = f a s := rfl
@[simp] theorem R.then_ex : (R.ex x s).then f = .ex x s := rfl
@[simp] theorem R.then_no : (R.no : R Sl α).then f = .no := rfl
theorem R.wp_then {r : R Sl α} {ED : EndsD} : (r.then f).wp ED ↔ r.wp (fun a s => (f a s).wp ED) ED.ex := by cases r <;> rfl
end
/-! ### expressions -/
def fVar (i : Nat) : Fe := fun Γ => match Γ[i]? with
  | some (some d) => .ok d Γ
  | _ => .no
def fC (d : D) : Fe := fun Γ => .ok d Γ
def fOp (g : D → D → Option D) (fa fb : Fe) : Fe := fun Γ => (fa Γ).bind fun x Γ1 => (fb Γ1).bind fun y Γ2 => .opt (g x y) Γ2
def R.bl (r : Re) : Rt := match r with
  | .ok (.bl b) s => .ok b s
  | .ex x s => .ex x s
  | _ => .no
@[simp] theorem R.bl_ok {b : Bool} {s : Sl} : (R.ok (D.bl b) s).bl = .ok b s := rfl
@[simp] theorem R.bl_ex {x : XD} {s : Sl} : (R.ex x s : Re).bl = .ex x s := rfl
def fB (fa : Fe) : Ft := fun Γ => (fa Γ).bl
def fAnd (f g : Ft) : Ft := fun Γ => (f Γ).bind fun c Γ1 => if c = true then g Γ1 else .ok false Γ1
def fOr (f g : Ft) : Ft := fun Γ => (f Γ).bind fun c Γ1 => if c = true then .ok true Γ1 else g Γ1
def fNot (f : Ft) : Ft := fun Γ => (f Γ).bind fun c Γ1 => .ok (!c) Γ1
def fAndV (fa fb : Fe) : Fe := fun Γ => (fa Γ).bl.bind fun c Γ1 => if c = true then fb Γ1 else .ok (.bl false) Γ1
def fOrV (fa fb : Fe) : Fe := fun Γ => (fa Γ).bl.bind fun c Γ1 => if c = true then .ok (.bl true) Γ1 else fb Γ1
def fNotV (fa : Fe) : Fe := fun Γ => (fa Γ).bl.bind fun c Γ1 => .ok (.bl (!c)) Γ1
def fIf (c : Ft) (fa fb : Fe) : Fe := fun Γ => (c Γ).bind fun c Γ1 => if c = true then fa Γ1 else fb Γ1
def fNil : Fa := fun Γ => .ok [] Γ
def fCons (fa : Fe) (fr : Fa) : Fa := fun Γ => (fa Γ).bind fun d Γ1 => (fr Γ1).bind fun ds Γ2 => .ok (d :: ds) Γ2
def fTup (fr : Fa) : Fe := fun Γ => (fr Γ).bind fun ds Γ1 => if ds.length ≤ sizeLine then .ok (.tup ds) Γ1 else .no
def fLst (fr : Fa) : Fe := fun Γ => (fr Γ).bind fun ds Γ1 => if ds.length ≤ sizeLine then .ok (.lst ds) Γ1 else .no
theorem wp_bl {r : Re} {Q : Bool → Sl → Prop} {Ex : UX} (h : r.bl.wp Q Ex) : r.wp (fun d Γ1 => ∃ b, d = .bl b ∧ Q b Γ1) Ex := by
  cases r with
  | ok d s => cases d <;> first | exact ⟨_, rfl, h⟩ | exact h.elim
  | ex x s => exact h
  | no => exact h
theorem wp_ite {α : Type} {c : Prop} [Decidable c] {r : R Sl α} {Q : α → Sl → Prop} {Ex : UX} (h : (if c then r else .no).wp Q Ex) : c ∧ r.wp Q Ex := by
  by_cases hc : c
  · rw [if_pos hc] at h; exact ⟨hc, h⟩
  · rw [if_neg hc] at h; exact h.elim
section
variable {fa fb : Fe} {ua ub : UE} {f f' : Ft} {u u' : UT} {fr : Fa} {ur : UA}
instance cu_var {i : Nat} : Cu (fVar i) (uVar i) := ⟨fun Γ Q Ex h => by
  unfold fVar at h
  split at h
  · exact ⟨_, by assumption, h⟩
  · exact h.elim⟩
instance cu_c {d : D} : Cu (fC d) (uC d) := ⟨fun Γ Q Ex h => h⟩
instance cu_op {g : D → D → Option D} [ha : Cu fa ua] [hb : Cu fb ub] : Cu (fOp g fa fb) (uOp g ua ub) := ⟨fun Γ Q Ex h => by
  refine ha.h _ _ _ (R.wp_mono (R.wp_bind.mp h) (fun x Γ1 h => ?_) fun _ _ h => h)
  exact hb.h _ _ _ (R.wp_mono (R.wp_bind.mp h) (fun y Γ2 h => R.wp_opt h) fun _ _ h => h)⟩
instance cu_b [ha : Cu fa ua] : Cu (fB fa) (uB ua) := ⟨fun Γ Q Ex h => ha.h _ _ _ (wp_bl h)⟩
instance cu_and [h1 : Cu f u] [h2 : Cu f' u'] : Cu (fAnd f f') (uAnd u u') := ⟨fun Γ Q Ex h => h1.h _ _ _ (R.wp_mono (R.wp_bind.mp h) (fun c Γ1 h => by
  cases c with
  | true => exact h2.h _ _ _ h
  | false => exact h) fun _ _ h => h)⟩
instance cu_or [h1 : Cu f u] [h2 : Cu f' u'] : Cu (fOr f f') (uOr u u') := ⟨fun Γ Q Ex h => h1.h _ _ _ (R.wp_mono (R.wp_bind.mp h) (fun c Γ1 h => by
  cases c with
  | false => exact h2.h _ _ _ h
  | true => exact h) fun _ _ h => h)⟩
instance cu_not [h1 : Cu f u] : Cu (fNot f) (uNot u) := ⟨fun Γ Q Ex h => h1.h _ _ _ (R.wp_bind.mp h)⟩
instance cu_andV [ha : Cu fa ua] [hb : Cu fb ub] : Cu (fAndV fa fb) (uAndV ua ub) := ⟨fun Γ Q Ex h => ha.h _ _ _ (R.wp_mono (wp_bl (R.wp_bind.mp h)) (fun x Γ1 h => by
  obtain ⟨b, rfl, h⟩ := h
  refine ⟨b, rfl, ?_⟩
  cases b with
  | true => exact hb.h _ _ _ h
  | false => exact h) fun _ _ h => h)⟩
instance cu_orV [ha : Cu fa ua] [hb : Cu fb ub] : Cu (fOrV fa fb) (uOrV ua ub) := ⟨fun Γ Q Ex h => ha.h _ _ _ (R.wp_mono (wp_bl (R.wp_bind.mp h)) (fun x Γ1 h => by
  obtain ⟨b, rfl, h⟩ := h
  refine ⟨b, rfl, ?_⟩
  cases b with
  | false => exact hb.h _ _ _ h
  | true => exact h) fun _ _ h => h)⟩
instance cu_notV [ha : Cu fa ua] : Cu (fNotV fa) (uNotV ua) := ⟨fun Γ Q Ex h => ha.h _ _ _ (R.wp_mono (wp_bl (R.wp_bind.mp h)) (fun x Γ1 h => h) fun _ _ h => h)⟩
instance cu_if [h1 : Cu f u] [ha : Cu fa ua] [hb : Cu fb ub] : Cu (fIf f fa fb) (uIf u ua ub) := ⟨fun Γ Q Ex h => h1.h _ _ _ (R.wp_mono (R.wp_bind.mp h) (fun c Γ1 h => by
  cases c with
  | true => exact ha.h _ _ _ h
  | false => exact hb.h _ _ _ h) fun _ _ h => h)⟩
instance cu_nil : Cu fNil uNil := ⟨fun Γ Q Ex h => h⟩
instance cu_cons [ha : Cu fa ua] [hr : Cu fr ur] : Cu (fCons fa fr) (uCons ua ur) := ⟨fun Γ Q Ex h => ha.h _ _ _ (R.wp_mono (R.wp_bind.mp h) (fun d Γ1 h => hr.h _ _ _ (R.wp_bind.mp h)) fun _ _ h => h)⟩
instance cu_tup [hr : Cu fr ur] : Cu (fTup fr) (uTup ur) := ⟨fun Γ Q Ex h => hr.h _ _ _ (R.wp_mono (R.wp_bind.mp h) (fun ds Γ1 h => wp_ite h) fun _ _ h => h)⟩
instance cu_lst [hr : Cu fr ur] : Cu (fLst fr) (uLst ur) := ⟨fun Γ Q Ex h => hr.h _ _ _ (R.wp_mono (R.wp_bind.mp h) (fun ds Γ1 h => wp_ite h) fun _ _ h => h)⟩
end
/-! ### statements -/
def fNext : Fs := fun Γ => .nx Γ
def SR.seq (r : SR) (f : Fs) : SR := match r with
  | .nx Γ => f Γ
  | r => r
@[simp] theorem SR.seq_nx {Γ : Sl} {f : Fs} : (SR.nx Γ).seq f = f Γ := rfl
@[simp] theorem SR.seq_rt {d : D} {Γ : Sl} {f : Fs} : (SR.rt d Γ).seq f = .rt d Γ := rfl
@[simp] theorem SR.seq_ex {x : XD} {Γ : Sl} {f : Fs} : (SR.ex x Γ).seq f = .ex x Γ := rfl
@[simp] theorem SR.seq_bk {Γ : Sl} {f : Fs} : (SR.bk Γ).seq f = .bk Γ := rfl
@[simp] theorem SR.seq_ct {Γ : Sl} {f : Fs} : (SR.ct Γ).seq f = .ct Γ := rfl
@[simp] theorem SR.seq_no {f : Fs} : SR.no.seq f = .no := rfl
def fSeq (f g : Fs) : Fs := fun Γ => (f Γ).seq g
def fFz (F : List Nat) (f : Fs) : Fs := fun Γ => if noBag Γ F = true then f Γ else .no
def fCut (Ox O : List Nat) (f : Fs) : Fs := fun Γ => (f Γ).seq fun Γ1 => .nx (cut Ox O Γ1)
def fDrop (fa : Fe) : Fs := fun Γ => (fa Γ).then fun _ Γ1 => .nx Γ1
def fRet (Ox O : List Nat) (fa : Fe) : Fs := fun Γ => (fa Γ).then fun d Γ1 => .rt d (cut Ox O Γ1)
def fRetN (Ox O : List Nat) : Fs := fun Γ => .rt .non (cut Ox O Γ)
def fBreak (Ol O : List Nat) : Fs := fun Γ => .bk (cut Ol O Γ)
def fCont (Ol O : List Nat) : Fs := fun Γ => .ct (cut Ol O Γ)
def fIfS (c : Ft) (f g : Fs) : Fs := fun Γ => (c Γ).then fun c Γ1 => if c = true then f Γ1 else g Γ1
/-- targets -/
abbrev Fg := D → Sl → Option Sl
class CuG (f : Fg) (u : UG) : Prop where
  h : ∀ d Γ Γ' (Q : Sl → Prop), f d Γ = some Γ' → Q Γ' → u d Γ Q
abbrev Fgs := List D → Sl → Option Sl
class CuGs (f : Fgs) (u : UGs) : Prop where
  h : ∀ d Γ Γ' (Q : Sl → Prop), f d Γ = some Γ' → Q Γ' → u d Γ Q
def fgName (i : Nat) : Fg := fun d Γ => some (Γ.set i (some d))
def fgNil : Fgs := fun ds Γ => match ds with
  | [] => some Γ
  | _ => none
def fgCons (f : Fg) (g : Fgs) : Fgs := fun ds Γ => match ds with
  | d :: ds => (f d Γ).bind fun Γ1 => g ds Γ1
  | _ => none
def fgTup (n : Nat) (g : Fgs) : Fg := fun d Γ => match d with
  | .tup ds => if ds.length = n then g ds Γ else none
  | _ => none
def fAsg (fa : Fe) (g : Fg) : Fs := fun Γ => (fa Γ).then fun d Γ1 => match g d Γ1 with
  | some Γ2 => .nx Γ2
  | none => .no
def fForL (g : Fg) (b : Fs) : List D → Sl → SR
  | [], Γ => .nx Γ
  | d :: ds, Γ => match g d Γ with
    | none => .no
    | some Γ1 => match b Γ1 with
      | .nx Γ2 => fForL g b ds Γ2
      | .ct Γ2 => fForL g b ds Γ2
      | .bk Γ2 => .nx Γ2
      | r => r
def fFor (fi : Fa) (g : Fg) (b : Fs) : Fs := fun Γ => (fi Γ).then fun ds Γ1 => fForL g b ds Γ1
def fIt (fa : Fe) : Fa := fun Γ => (fa Γ).bind fun d Γ1 => match d with
  | .lst ds => .ok ds Γ1
  | _ => .no
def fItT (fa : Fe) : Fa := fun Γ => (fa Γ).bind fun d Γ1 => match d with
  | .tup ds => .ok ds Γ1
  | _ => .no
def fRng1 (fr : Fa) : Fa := fun Γ => (fr Γ).bind fun ds Γ1 => match ds with
  | [.int j] => if -(2 ^ 62) ≤ j ∧ j < 2 ^ 62 then .ok (rng 0 j.toNat) Γ1 else .no
  | _ => .no
def fRng2 (fr : Fa) : Fa := fun Γ => (fr Γ).bind fun ds Γ1 => match ds with
  | [.int i, .int j] => if -(2 ^ 62) ≤ i ∧ i < 2 ^ 62 ∧ -(2 ^ 62) ≤ j ∧ j < 2 ^ 62 then .ok (rng i (j - i).toNat) Γ1 else .no
  | _ => .no
def fWhile (c : Ft) (b : Fs) : Nat → Fs
  | 0 => fun _ => .no
  | m + 1 => fun Γ => (c Γ).then fun k Γ1 => if k = true then (match b Γ1 with
      | .nx Γ2 => fWhile c b m Γ2
      | .ct Γ2 => fWhile c b m Γ2
      | .bk Γ2 => .nx Γ2
      | r => r) else .nx Γ1
section
variable {fa fb : Fe} {ua ub : UE} {c : Ft} {uc : UT} {fr fi : Fa} {ur ui : UA} {f f1 f2 : Fs} {u u1 u2 : US} {g : Fg} {ug : UG} {gs : Fgs} {ugs : UGs}
theorem wp_seq {r : SR} {ED : EndsD} : (r.seq f).wp ED ↔ r.wp { ED with nx := fun Γ => (f Γ).wp ED } := by cases r <;> rfl
theorem SR.wp_mono {r : SR} {ED ED' : EndsD} (h : r.wp ED) (h1 : ∀ Γ, ED.nx Γ → ED'.nx Γ) (h2 : ∀ d Γ, ED.rt d Γ → ED'.rt d Γ) (h3 : ∀ x Γ, ED.ex x Γ → ED'.ex x Γ) (h4 : ∀ Γ, ED.bk Γ → ED'.bk Γ) (h5 : ∀ Γ, ED.ct Γ → ED'.ct Γ) : r.wp ED' := by
  cases r with
  | nx Γ => exact h1 _ h
  | rt d Γ => exact h2 _ _ h
  | ex x Γ => exact h3 _ _ h
  | bk Γ => exact h4 _ h
  | ct Γ => exact h5 _ h
  | no => exact h
instance cs_next : CuS fNext uNext := ⟨fun ED Γ h => h⟩
instance cs_seq [h1 : CuS f1 u1] [h2 : CuS f2 u2] : CuS (fSeq f1 f2) (uSeq u1 u2) := ⟨fun ED Γ h => h1.h _ _ (SR.wp_mono (wp_seq.mp h) (fun Γ h => h2.h _ _ h) (fun _ _ h => h) (fun _ _ h => h) (fun _ h => h) fun _ h => h)⟩
instance cs_fz {F : List Nat} [h1 : CuS f u] : CuS (fFz F f) (uFz F u) := ⟨fun ED Γ h => by
  unfold fFz at h
  split at h
  · exact ⟨by assumption, h1.h _ _ h⟩
  · exact h.elim⟩
instance cs_cut {Ox O : List Nat} [h1 : CuS f u] : CuS (fCut Ox O f) (uCut Ox O u) := ⟨fun ED Γ h => h1.h _ _ (wp_seq.mp h)⟩
instance cs_drop [ha : Cu fa ua] : CuS (fDrop fa) (uDrop ua) := ⟨fun ED Γ h => ha.h _ _ _ (R.wp_then.mp h)⟩
instance cs_ret {Ox O : List Nat} [ha : Cu fa ua] : CuS (fRet Ox O fa) (uRet Ox O ua) := ⟨fun ED Γ h => ha.h _ _ _ (R.wp_then.mp h)⟩
instance cs_retN {Ox O : List Nat} : CuS (fRetN Ox O) (uRetN Ox O) := ⟨fun ED Γ h => h⟩
instance cs_break {Ox O : List Nat} : CuS (fBreak Ox O) (uBreak Ox O) := ⟨fun ED Γ h => h⟩
instance cs_cont {Ox O : List Nat} : CuS (fCont Ox O) (uCont Ox O) := ⟨fun ED Γ h => h⟩
instance cs_if [hc : Cu c uc] [h1 : CuS f1 u1] [h2 : CuS f2 u2] : CuS (fIfS c f1 f2) (uIfS uc u1 u2) := ⟨fun ED Γ h => hc.h _ _ _ (R.wp_mono (R.wp_then.mp h) (fun k Γ1 h => by
  cases k with
  | true => exact h1.h _ _ h
  | false => exact h2.h _ _ h) fun _ _ h => h)⟩
instance cg_name {i : Nat} : CuG (fgName i) (ugName i) := ⟨fun d Γ Γ' Q e q => by cases e; exact q⟩
instance cg_nil : CuGs fgNil ugNil := ⟨fun d Γ Γ' Q e q => by
  cases d with
  | nil => cases e; exact ⟨rfl, q⟩
  | cons _ _ => cases e⟩
instance cg_cons [h1 : CuG g ug] [h2 : CuGs gs ugs] : CuGs (fgCons g gs) (ugCons ug ugs) := ⟨fun d Γ Γ' Q e q => by
  cases d with
  | nil => cases e
  | cons d ds =>
    obtain ⟨Γ1, e1, e2⟩ := Option.bind_eq_some_iff.mp e
    exact ⟨d, ds, rfl, h1.h _ _ _ _ e1 (h2.h _ _ _ _ e2 q)⟩⟩
instance cg_tup {n : Nat} [h : CuGs gs ugs] : CuG (fgTup n gs) (ugTup n ugs) := ⟨fun d Γ Γ' Q e q => by
  unfold fgTup at e
  split at e
  · split at e
    · exact ⟨_, rfl, by assumption, h.h _ _ _ _ e q⟩
    · cases e
  · cases e⟩
instance cs_asg [ha : Cu fa ua] [hg : CuG g ug] : CuS (fAsg fa g) (uAsg ua ug) := ⟨fun ED Γ h => ha.h _ _ _ (R.wp_mono (R.wp_then.mp h) (fun d Γ1 h => by
  split at h
  · exact hg.h _ _ _ _ (by assumption) h
  · exact h.elim) fun _ _ h => h)⟩
theorem forL_carry [hg : CuG g ug] [hb : CuS f u] {ED : EndsD} : ∀ (ds : List D) (Γ : Sl), (fForL g f ds Γ).wp ED → uForL ug u ED ds Γ
  | [], Γ, h => h
  | d :: ds, Γ, h => by
    unfold fForL at h
    split at h
    · exact h.elim
    · rename_i Γ1 e
      refine hg.h _ _ _ _ e (hb.h _ _ ?_)
      cases q : f Γ1 <;> rw [q] at h
      · exact forL_carry ds _ h
      · exact h
      · exact h
      · exact h
      · exact forL_carry ds _ h
      · exact h
instance cs_for [hi : Cu fi ui] [hg : CuG g ug] [hb : CuS f u] : CuS (fFor fi g f) (uFor ui ug u) := ⟨fun ED Γ h => hi.h _ _ _ (R.wp_mono (R.wp_then.mp h) (fun ds Γ1 h => forL_carry ds Γ1 h) fun _ _ h => h)⟩
instance cu_it [ha : Cu fa ua] : Cu (fIt fa) (uIt ua) := ⟨fun Γ Q Ex h => ha.h _ _ _ (R.wp_mono (R.wp_bind.mp h) (fun d Γ1 h => by
  cases d <;> first | exact ⟨_, rfl, h⟩ | exact h.elim) fun _ _ h => h)⟩
instance cu_itT [ha : Cu fa ua] : Cu (fItT fa) (uItT ua) := ⟨fun Γ Q Ex h => ha.h _ _ _ (R.wp_mono (R.wp_bind.mp h) (fun d Γ1 h => by
  cases d <;> first | exact ⟨_, rfl, h⟩ | exact h.elim) fun _ _ h => h)⟩
instance cu_rng1 [hr : Cu fr ur] : Cu (fRng1 fr) (uRng1 ur) := ⟨fun Γ Q Ex h => hr.h _ _ _ (R.wp_mono (R.wp_bind.mp h) (fun ds Γ1 h => by
  split at h
  · obtain ⟨⟨a, b⟩, h⟩ := wp_ite h
    exact ⟨_, rfl, a, b, h⟩
  · exact h.elim) fun _ _ h => h)⟩
instance cu_rng2 [hr : Cu fr ur] : Cu (fRng2 fr) (uRng2 ur) := ⟨fun Γ Q Ex h => hr.h _ _ _ (R.wp_mono (R.wp_bind.mp h) (fun ds Γ1 h => by
  split at h
  · obtain ⟨a, h⟩ := wp_ite h
    exact ⟨_, _, rfl, a, h⟩
  · exact h.elim) fun _ _ h => h)⟩
instance cs_while {m : Nat} [hc : Cu c uc] [hb : CuS f u] : CuS (fWhile c f m) (uWhile uc u) := ⟨fun ED Γ h => by
  refine ⟨fun m Γ => (fWhile c f m Γ).wp ED, ⟨m, h⟩, fun m Γ h => ?_⟩
  cases m with
  | zero => exact h.elim
  | succ m =>
    refine hc.h _ _ _ (R.wp_mono (R.wp_then.mp h) (fun k Γ1 h => ?_) fun _ _ h => h)
    cases k with
    | false => exact h
    | true =>
      refine ⟨fun Γ' => (fWhile c f m Γ').wp ED, fun Γ' h => ⟨m, by omega, h⟩, hb.h _ _ ?_⟩
      simp only [if_true] at h
      cases q : f Γ1 <;> rw [q] at h <;> exact h⟩
end
end Dv
set_option Elab.async false
set_option linter.all false
set_option maxRecDepth 100000
set_option maxHeartbeats 4000000
/-! Fv2: comprehensions, calls, objects, errors, walks as functions over data. -/
namespace Dv
open PySem PySem.Spec PyProof.Rows L2 Eu
/-! ### calls -/
abbrev Fn := List D → R (List D) D
def spF (g : Fn) : SpD := fun ds Q E => (g ds).wp Q E
theorem spF_mono (g : Fn) : (spF g).Mono := fun ds Q Q' E E' hq he h => R.wp_mono h hq he
class CuAV (f : Fa) (u : UAr) : Prop where
  h : ∀ Γ Q Ex, (f Γ).wp (fun ds Γ1 => Q (ds.map Ar.v) Γ1) Ex → u Γ Q Ex
/-- what a call leaves behind -/
def R.back {α β S : Type} (r : R S α) (s : β) (f : β → β) : R β α := match r with
  | .ok a _ => .ok a s
  | .ex x _ => .ex x (f s)
  | .no => .no
@[simp] theorem R.back_ok {α β S : Type} {a : α} {s : S} {b : β} {f : β → β} : (R.ok a s).back b f = .ok a b := rfl
@[simp] theorem R.back_ex {α β S : Type} {a : XD} {s : S} {b : β} {f : β → β} : (R.ex a s : R S α).back b f = .ex a (f b) := rfl
@[simp] theorem R.back_no {α β S : Type} {b : β} {f : β → β} : (R.no : R S α).back b f = .no := rfl
/-- a call with values alone -/
def fCallV (Ox O : List Nat) (g : Fn) (fa : Fa) : Fe := fun Γ => (fa Γ).bind fun ds Γ1 => (g ds).back Γ1 (cut Ox O)
abbrev Fr := Sl → R Sl (List Ar)
def frNil : Fr := fun Γ => .ok [] Γ
def frVal (fa : Fe) (fr : Fr) : Fr := fun Γ => (fa Γ).bind fun d Γ1 => (fr Γ1).bind fun as Γ2 => .ok (.v d :: as) Γ2
def frOwn (i : Nat) (fr : Fr) : Fr := fun Γ => (fr Γ).bind fun as Γ1 => .ok (.s i :: as) Γ1
/-- a call that changes what some of the arguments hold -/
def fCall (Ox O : List Nat) (io : List Nat) (g : Fn) (fr : Fr) : Fe := fun Γ => (fr Γ).bind fun ars Γ1 => match deref Γ1 ars with
  | some ds => if ioOf 0 ars = io ∧ (slotsOf ars).Nodup then (match g ds with
      | .ok r ds' => .ok r (putB Γ1 ars ds')
      | .ex x ds' => .ex x (cut Ox O (putB Γ1 ars ds'))
      | .no => .no) else .no
  | none => .no
def fMethV (C : Addr) (m : Str) (Ox O : List Nat) (g : Fn) (fa : Fe) (fr : Fa) : Fe := fun Γ => (fa Γ).bind fun d Γ1 => match d with
  | .obj C' fs => if C' = C ∧ (fs.lookup m).isNone = true then (fr Γ1).bind fun ds Γ2 => (g (d :: ds)).back Γ2 (cut Ox O) else .no
  | _ => .no
def fMake (C : Addr) (Ox O : List Nat) (g : Fn) (dds : List D) (fr : Fa) : Fe := fun Γ => (fr Γ).bind fun ds Γ1 => match g (.obj C [] :: (ds ++ dds)) with
  | .ok .non (.obj C' fs :: _) => if C' = C then .ok (.obj C fs) Γ1 else .no
  | .ex x _ => .ex x (cut Ox O Γ1)
  | _ => .no
section
variable {fa : Fe} {ua : UE} {fr : Fa} {ur : UAr} {urA : UA} {f : Fr} {g : Fn} {Ox O io : List Nat} {C : Addr} {m : Str} {dds : List D}
instance cv_nil : CuAV fNil rNil := ⟨fun Γ Q Ex h => h⟩
instance cv_cons [ha : Cu fa ua] [hr : CuAV fr ur] : CuAV (fCons fa fr) (rVal ua ur) := ⟨fun Γ Q Ex h => ha.h _ _ _ (R.wp_mono (R.wp_bind.mp h) (fun d Γ1 h => hr.h _ _ _ (R.wp_bind.mp h)) fun _ _ h => h)⟩
instance cr_nil : Cu frNil rNil := ⟨fun Γ Q Ex h => h⟩
instance cr_val [ha : Cu fa ua] [hr : Cu f ur] : Cu (frVal fa f) (rVal ua ur) := ⟨fun Γ Q Ex h => ha.h _ _ _ (R.wp_mono (R.wp_bind.mp h) (fun d Γ1 h => hr.h _ _ _ (R.wp_bind.mp h)) fun _ _ h => h)⟩
instance cr_own {i : Nat} [hr : Cu f ur] : Cu (frOwn i f) (rOwn i ur) := ⟨fun Γ Q Ex h => hr.h _ _ _ (R.wp_bind.mp h)⟩
theorem deref_v' {Γ : Sl} : ∀ {ds : List D}, deref Γ (ds.map Ar.v) = some ds
  | [] => rfl
  | d :: ds => by simp [deref, deref_v' (ds := ds)]
theorem slots_v : ∀ {ds : List D}, slotsOf (ds.map Ar.v) = []
  | [] => rfl
  | d :: ds => slots_v (ds := ds)
theorem io_v : ∀ {ds : List D} {n : Nat}, ioOf n (ds.map Ar.v) = []
  | [], _ => rfl
  | d :: ds, n => io_v (ds := ds) (n := n + 1)
theorem putB_v {Γ : Sl} : ∀ {ds ds' : List D}, putB Γ (ds.map Ar.v) ds' = Γ
  | [], ds' => by cases ds' <;> rfl
  | d :: ds, [] => rfl
  | d :: ds, e :: ds' => putB_v (ds := ds) (ds' := ds')
theorem wp_back {α β S : Type} {r : R S α} {s : β} {f : β → β} {Q : α → β → Prop} {Ex : XD → β → Prop} (h : (r.back s f).wp Q Ex) : r.wp (fun a _ => Q a s) (fun x _ => Ex x (f s)) := by cases r <;> exact h
instance cu_callV [hr : CuAV fr ur] : Cu (fCallV Ox O g fr) (uCall Ox O (spF g) [] ur) := ⟨fun Γ Q Ex h => hr.h _ _ _ (R.wp_mono (R.wp_bind.mp h) (fun ds Γ1 h => by
  refine ⟨ds, deref_v', io_v, by rw [slots_v]; exact List.nodup_nil, ?_⟩
  refine R.wp_mono (wp_back h) (fun r ds' h => ?_) fun r ds' h => ?_
  · rw [putB_v]; exact h
  · rw [putB_v]; exact h) fun _ _ h => h)⟩
instance cu_call [hr : Cu f ur] : Cu (fCall Ox O io g f) (uCall Ox O (spF g) io ur) := ⟨fun Γ Q Ex h => hr.h _ _ _ (R.wp_mono (R.wp_bind.mp h) (fun ars Γ1 h => by
  split at h
  · obtain ⟨⟨a, b⟩, h⟩ := wp_ite h
    refine ⟨_, by assumption, a, b, ?_⟩
    unfold spF
    revert h
    cases g _ <;> exact fun h => h
  · exact h.elim) fun _ _ h => h)⟩
instance cu_methV [ha : Cu fa ua] [hr : CuAV fr ur] : Cu (fMethV C m Ox O g fa fr) (uMeth Ox O C m (spF g) [] ua ur) := ⟨fun Γ Q Ex h => ha.h _ _ _ (R.wp_mono (R.wp_bind.mp h) (fun d Γ1 h => by
  cases d <;> first | exact h.elim | skip
  obtain ⟨⟨e, n⟩, h'⟩ := wp_ite h
  subst e
  refine ⟨_, rfl, Option.isNone_iff_eq_none.mp n, ?_⟩
  refine hr.h _ _ _ (R.wp_mono (R.wp_bind.mp h') (fun ds Γ2 h => ?_) fun _ _ h => h)
  refine ⟨ds, deref_v', io_v, by rw [slots_v]; exact List.nodup_nil, ?_⟩
  refine R.wp_mono (wp_back h) (fun r ds' h => ?_) fun r ds' h => ?_
  · show Q r (putB Γ2 ((_ :: ds).map Ar.v) ds')
    rw [putB_v]; exact h
  · show Ex r (cut Ox O (putB Γ2 ((_ :: ds).map Ar.v) ds'))
    rw [putB_v]; exact h) fun _ _ h => h)⟩
instance cu_make [hr : Cu fr urA] : Cu (fMake C Ox O g dds fr) (uMake Ox O C (spF g) dds urA) := ⟨fun Γ Q Ex h => hr.h _ _ _ (R.wp_mono (R.wp_bind.mp h) (fun ds Γ1 h => by
  unfold spF
  split at h
  · rename_i e
    rw [e]
    obtain ⟨e, h'⟩ := wp_ite h
    subst e
    exact ⟨rfl, _, _, rfl, h'⟩
  · rename_i e
    rw [e]
    exact h
  · exact h.elim) fun _ _ h => h)⟩
end
/-! ### comprehensions -/
def fYes : Ft := fun Γ => .ok true Γ
def fLcL (vs : List Nat) (g : Fg) (t : Ft) (e : Fe) : List D → List D → Sl → Ra
  | [], acc, Γ => .ok acc Γ
  | d :: ds, acc, Γ => match g d Γ with
    | none => .no
    | some Γ1 => (t Γ1).calm.bind fun b Γ2 => if b = true then (e Γ2).calm.bind fun y Γ3 => fLcL vs g t e ds (acc ++ [y]) (wipeD Γ3 vs) else fLcL vs g t e ds acc (wipeD Γ2 vs)
def fLc (vs : List Nat) (fi : Fa) (g : Fg) (t : Ft) (e : Fe) : Fe := fun Γ => (fi Γ).bind fun ds Γ1 => if ds.length ≤ sizeLine then (fLcL vs g t e ds [] (wipeD Γ1 vs)).calm.bind fun ys Γ2 => .ok (.lst ys) (unwipe Γ1 Γ2 vs) else .no
def fLcD (vs : List Nat) (f : Sl → Option D) (dsf : List (Key × D) → List D) (g : Fg) (t : Ft) (e : Fe) : Fe := fun Γ => match f Γ with
  | some (.dct kvs) => if (dsf kvs).length ≤ sizeLine then (fLcL vs g t e (dsf kvs) [] (wipeD Γ vs)).calm.bind fun ys Γ2 => .ok (.lst ys) (unwipe Γ Γ2 vs) else .no
  | _ => .no
def fForD (f : Sl → Option D) (dsf : List (Key × D) → List D) (g : Fg) (b : Fs) : Fs := fun Γ => match f Γ with
  | some (.dct kvs) => fForL g b (dsf kvs) Γ
  | _ => .no
def fDcL (vs : List Nat) (g : Fg) (t : Ft) (ek ev : Fe) : List D → List (Key × D) → Sl → R Sl (List (Key × D))
  | [], acc, Γ => .ok acc Γ
  | d :: ds, acc, Γ => match g d Γ with
    | none => .no
    | some Γ1 => (t Γ1).calm.bind fun b Γ2 => if b = true then (ek Γ2).calm.bind fun dk Γ3 => (ev Γ3).calm.bind fun dv Γ4 => (match keyD dk with
        | some k => fDcL vs g t ek ev ds (putKD acc k dv) (wipeD Γ4 vs)
        | none => .no) else fDcL vs g t ek ev ds acc (wipeD Γ2 vs)
def fDc (vs : List Nat) (fi : Fa) (g : Fg) (t : Ft) (ek ev : Fe) : Fe := fun Γ => (fi Γ).bind fun ds Γ1 => if ds.length ≤ sizeLine then (fDcL vs g t ek ev ds [] (wipeD Γ1 vs)).calm.bind fun ys Γ2 => .ok (.dct ys) (unwipe Γ1 Γ2 vs) else .no
section
variable {fa fb fe ek ev : Fe} {ua ub ue uk uv : UE} {fi : Fa} {ui : UA} {t : Ft} {ut : UT} {g : Fg} {ug : UG} {vs : List Nat} {f : Fs} {u : US} {sel : Sl → Option D} {dsf : List (Key × D) → List D}
theorem calm_calm {S α : Type} {r : R S α} : r.calm.calm = r.calm := by cases r <;> rfl
theorem wp_calmB {S α β : Type} {r : R S α} {f : α → S → R S β} {Q : β → S → Prop} {Ex Ex' : XD → S → Prop} (h : (r.calm.bind f).wp Q Ex) : r.wp (fun a s => (f a s).wp Q Ex) Ex' := by
  cases r with
  | ok a s => exact h
  | ex x s => exact h.elim
  | no => exact h
instance cu_yes : Cu fYes uYes := ⟨fun Γ Q Ex h => h⟩
theorem lcL_carry [hg : CuG g ug] [ht : Cu t ut] [he : Cu fe ue] {Q : List D → Sl → Prop} {Ex : UX} : ∀ (ds acc : List D) (Γ : Sl), (fLcL vs g t fe ds acc Γ).wp Q Ex → uLcL vs ug ut ue Q ds acc Γ
  | [], acc, Γ, h => h
  | d :: ds, acc, Γ, h => by
    unfold fLcL at h
    split at h
    · exact h.elim
    · rename_i Γ1 e
      refine hg.h _ _ _ _ e (ht.h _ _ _ (R.wp_mono (wp_calmB h) (fun b Γ2 h => ?_) fun _ _ h => h))
      cases b with
      | false => exact lcL_carry ds acc _ h
      | true => exact he.h _ _ _ (R.wp_mono (wp_calmB h) (fun y Γ3 h => lcL_carry ds _ _ h) fun _ _ h => h)
instance cu_lc [hi : Cu fi ui] [hg : CuG g ug] [ht : Cu t ut] [he : Cu fe ue] : Cu (fLc vs fi g t fe) (uLc vs ui ug ut ue) := ⟨fun Γ Q Ex h => hi.h _ _ _ (R.wp_mono (R.wp_bind.mp h) (fun ds Γ1 h => by
  obtain ⟨l, h⟩ := wp_ite h
  exact ⟨l, lcL_carry (Ex := Ex) ds [] _ (wp_calmB h)⟩) fun _ _ h => h)⟩
instance cu_lcD [hg : CuG g ug] [ht : Cu t ut] [he : Cu fe ue] : Cu (fLcD vs sel dsf g t fe) (uLcD vs sel dsf ug ut ue) := ⟨fun Γ Q Ex h => by
  unfold fLcD at h
  split at h
  · obtain ⟨l, h⟩ := wp_ite h
    exact ⟨_, by assumption, l, lcL_carry (Ex := Ex) _ [] _ (wp_calmB h)⟩
  · exact h.elim⟩
instance cs_forD [hg : CuG g ug] [hb : CuS f u] : CuS (fForD sel dsf g f) (uForD sel dsf ug u) := ⟨fun ED Γ h => by
  unfold fForD at h
  split at h
  · exact ⟨_, by assumption, forL_carry _ _ h⟩
  · exact h.elim⟩
theorem dcL_carry [hg : CuG g ug] [ht : Cu t ut] [hk : Cu ek uk] [hv : Cu ev uv] {Q : List (Key × D) → Sl → Prop} {Ex : UX} : ∀ (ds : List D) (acc : List (Key × D)) (Γ : Sl), (fDcL vs g t ek ev ds acc Γ).wp Q Ex → uDcL vs ug ut uk uv Q ds acc Γ
  | [], acc, Γ, h => h
  | d :: ds, acc, Γ, h => by
    unfold fDcL at h
    split at h
    · exact h.elim
    · rename_i Γ1 e
      refine hg.h _ _ _ _ e (ht.h _ _ _ (R.wp_mono (wp_calmB h) (fun b Γ2 h => ?_) fun _ _ h => h))
      cases b with
      | false => exact dcL_carry ds acc _ h
      | true =>
        refine hk.h _ _ _ (R.wp_mono (wp_calmB h) (fun dk Γ3 h => ?_) fun _ _ h => h)
        refine hv.h _ _ _ (R.wp_mono (wp_calmB h) (fun dv Γ4 h => ?_) fun _ _ h => h)
        split at h
        · exact ⟨_, by assumption, dcL_carry ds _ _ h⟩
        · exact h.elim
instance cu_dc [hi : Cu fi ui] [hg : CuG g ug] [ht : Cu t ut] [hk : Cu ek uk] [hv : Cu ev uv] : Cu (fDc vs fi g t ek ev) (uDc vs ui ug ut uk uv) := ⟨fun Γ Q Ex h => hi.h _ _ _ (R.wp_mono (R.wp_bind.mp h) (fun ds Γ1 h => by
  obtain ⟨l, h⟩ := wp_ite h
  exact ⟨l, dcL_carry (Ex := Ex) ds [] _ (wp_calmB h)⟩) fun _ _ h => h)⟩
end
/-! ### a function -/
def bkD (io : List Nat) (ds : List D) (Γ : Sl) : List D := if io = [] then ds else backD io ds Γ
theorem bk_eq {io : List Nat} {ds : List D} {Γ : Sl} : bkD io ds Γ = backD io ds Γ := by
  unfold bkD
  split
  · rename_i h
    subst h
    refine List.ext_getElem? fun i => ?_
    rw [backD_out (by simp)]
  · rfl
def SR.fn (r : SR) (io : List Nat) (ds : List D) : R (List D) D := match r with
  | .nx Γ => .ok .non (bkD io ds Γ)
  | .rt d Γ => .ok d (bkD io ds Γ)
  | .ex x Γ => .ex x (bkD io ds Γ)
  | _ => .no
@[simp] theorem SR.fn_nx {Γ : Sl} {io : List Nat} {ds : List D} : (SR.nx Γ).fn io ds = .ok .non (bkD io ds Γ) := rfl
@[simp] theorem SR.fn_rt {d : D} {Γ : Sl} {io : List Nat} {ds : List D} : (SR.rt d Γ).fn io ds = .ok d (bkD io ds Γ) := rfl
@[simp] theorem SR.fn_ex {d : XD} {Γ : Sl} {io : List Nat} {ds : List D} : (SR.ex d Γ).fn io ds = .ex d (bkD io ds Γ) := rfl
@[simp] theorem bkD_nil {Γ : Sl} {ds : List D} : bkD [] ds Γ = ds := rfl
def fDef (np nn : Nat) (io : List Nat) (b : Fs) : Fn := fun ds => if ds.length = np then (b (startD nn ds)).fn io ds else .no
theorem fDef_asks {np nn : Nat} {io : List Nat} {b : Fs} {u : US} [h : CuS b u] : Asks io nn (spF (fDef np nn io b)) u := fun ds Q Ed q => by
  unfold spF fDef at q
  obtain ⟨_, q⟩ : _ ∧ _ := by
    by_cases hc : ds.length = np
    · rw [if_pos hc] at q; exact ⟨hc, q⟩
    · rw [if_neg hc] at q; exact q.elim
  refine h.h _ _ ?_
  cases e : b (startD nn ds) <;> rw [e] at q
  · have q : Q .non (bkD io ds _) := q
    rw [bk_eq] at q; exact q
  · have q : Q _ (bkD io ds _) := q
    rw [bk_eq] at q; exact q
  · have q : Ed _ (bkD io ds _) := q
    rw [bk_eq] at q; exact q
  · exact q.elim
  · exact q.elim
  · exact q.elim
theorem fDef_len {np nn : Nat} {io : List Nat} {b : Fs} : ∀ ds Q E, spF (fDef np nn io b) ds Q E → ds.length = np := fun ds Q E h => by
  unfold spF fDef at h
  by_cases hc : ds.length = np
  · exact hc
  · rw [if_neg hc] at h; exact h.elim
section
variable {P : Program} {w : World} {K : PySem.W.Frag} {mg : Str → Option Value} {base : Heap}
theorem calF {x : Str} {st : Stmt} {N ps : List Str} {k : Nat} {io : List Nat} {b : Fs} (D : Df K mg x st) (S : FnScope N ps (defScope st))
    (hbd : ∀ (kV doc pm : Value) (an : Option Addr) (cdv ct : Value) (us : List Value), us.length = ps.length →
      bindArgs (PySem.W.fnOf x x (defArgs st) (defBody st) (defScope st) .none kV doc pm an cdv ct) ⟨us, []⟩ = pure (ps.zip us))
    (hl : ps.length ≤ N.length)
    (hb : ∀ (f : Addr) (cdv : Value) (A : Around) (out : List Env) (s : Shared) (H : Hp) (E : XK),
      Rm k (A.deeper (envOfC x (defScope st) s.heap.objs.size f cdv)) →
      ∃ t u O', DB K io io (WE E) [] O' (cxOf (L2.CX P w) P w K mg base N x (defScope st) f cdv A out s H E) (defBody st) t u ∧ (∀ i ∈ io, i ∈ O') ∧ CuS b u) : CalD P w K mg base (k + 1) x io (spF (fDef ps.length N.length io b)) :=
  calD D S hbd (spF_mono _) fDef_len hl fun f cdv A out s H E hr => by
    obtain ⟨t, u, O', h, hO, c⟩ := hb f cdv A out s H E hr
    exact ⟨t, u, O', h, hO, fDef_asks⟩
end
end Dv
set_option Elab.async false
set_option linter.all false
set_option maxRecDepth 100000
set_option maxHeartbeats 4000000
/-! Fv3: operators on owned slots, fields, errors, slices, walks as functions over data. -/
namespace Dv
open PySem PySem.Spec PyProof.Rows L2 Eu
def fNeg (fa : Fe) : Fe := fun Γ => (fa Γ).bind fun d Γ1 => match d with
  | .int n => .ok (.int (-n)) Γ1
  | _ => .no
def fChain (f f' : D → D → Option D) (fa fb fc : Fe) : Fe := fun Γ => (fa Γ).bind fun x Γ1 => (fb Γ1).bind fun y Γ2 => match f x y with
  | some (.bl k) => if k = true then (fc Γ2).bind fun z Γ3 => .opt (f' y z) Γ3 else .ok (.bl false) Γ2
  | _ => .no
def fOpL (f : D → D → Option D) (i : Nat) (fb : Fe) : Fe := fun Γ => (fb Γ).bind fun y Γ1 => match Γ1[i]? with
  | some (some x) => .opt (f x y) Γ1
  | _ => .no
def fOpR (f : D → D → Option D) (fa : Fe) (i : Nat) : Fe := fun Γ => (fa Γ).bind fun x Γ1 => match Γ1[i]? with
  | some (some y) => .opt (f x y) Γ1
  | _ => .no
def fAppend (i : Nat) (fa : Fe) : Fs := fun Γ => match Γ[i]? with
  | some (some (.lst _)) => (fa Γ).then fun d Γ1 => match Γ1[i]? with
    | some (some (.lst xs)) => if xs.length < sizeLine then .nx (Γ1.set i (some (.lst (xs ++ [d])))) else .no
    | _ => .no
  | _ => .no
def fDPut (i : Nat) (fk fv : Fe) : Fs := fun Γ => (fv Γ).then fun dv Γ1 => (fk Γ1).then fun dk Γ2 => match Γ2[i]?, keyD dk with
  | some (some (.dct kvs)), some k => if kvs.length < sizeLine then .nx (Γ2.set i (some (.dct (putKD kvs k dv)))) else .no
  | _, _ => .no
def fSetI (i : Nat) (fk fv : Fe) : Fs := fun Γ => (fv Γ).then fun dv Γ1 => (fk Γ1).then fun dk Γ2 => match Γ2[i]?, dk with
  | some (some (.lst xs)), .int n => (match ixN xs.length n with
    | some j => .nx (Γ2.set i (some (.lst (xs.set j dv))))
    | none => .no)
  | _, _ => .no
def fCB (g : List D → Option D) (fr : Fa) : Fe := fun Γ => (fr Γ).bind fun ds Γ1 => .opt (g ds) Γ1
def fIsi2 (n1 n2 : String) (fa : Fe) : Fe := fun Γ => (fa Γ).bind fun d Γ1 => if (tyn d).isSome = true then .ok (.bl (isTy n1 d || isTy n2 d)) Γ1 else .no
def fFld (C : Addr) (f : Str) (fa : Fe) : Fe := fun Γ => (fa Γ).bind fun d Γ1 => match d with
  | .obj C' fs => if C' = C then .opt (fs.lookup f) Γ1 else .no
  | _ => .no
def fFldO (C : Addr) (f : Str) (i : Nat) : Fe := fun Γ => match Γ[i]? with
  | some (some (.obj C' fs)) => if C' = C then .opt (fs.lookup f) Γ else .no
  | _ => .no
def fSetF (C : Addr) (f : Str) (i : Nat) (fv : Fe) : Fs := fun Γ => (fv Γ).then fun d Γ1 => match Γ1[i]? with
  | some (some (.obj C' fs)) => if C' = C ∧ fs.length < 1000 then .nx (Γ1.set i (some (.obj C (putFD f d fs)))) else .no
  | _ => .no
def fRaise (Ox O : List Nat) (C : Addr) (fld : Str) (fa : Fe) : Fs := fun Γ => (fa Γ).then fun d Γ1 => .ex (C, [(fld, d)]) (cut Ox O Γ1)
/-- a statement that is never reached -/
def fNo : Fs := fun _ => .no
abbrev Fo := Sl → R Sl (Option Int)
def fNone : Fo := fun Γ => .ok none Γ
def fPart (fa : Fe) : Fo := fun Γ => (fa Γ).bind fun d Γ1 => match d with
  | .int i => .ok (some i) Γ1
  | _ => .no
def fSlice (fa : Fe) (fl fh : Fo) : Fe := fun Γ => (fa Γ).bind fun d Γ1 => (fl Γ1).bind fun l Γ2 => (fh Γ2).bind fun h Γ3 => .opt (dSlice d l h) Γ3
def fEnum (fr : Fa) : Fa := fun Γ => (fr Γ).bind fun ds Γ1 => match ds with
  | [.lst xs] => .ok (enumD xs) Γ1
  | _ => .no
def fZip (fr : Fa) : Fa := fun Γ => (fr Γ).bind fun ds Γ1 => match ds with
  | [.lst xs, .lst ys] => .ok (zipD xs ys) Γ1
  | _ => .no
def fRev (fr : Fa) : Fa := fun Γ => (fr Γ).bind fun ds Γ1 => match ds with
  | [.lst xs] => .ok xs.reverse Γ1
  | _ => .no
def fItS (fa : Fe) : Fa := fun Γ => (fa Γ).bind fun d Γ1 => match d with
  | .str z => .ok (signsD z) Γ1
  | _ => .no
def fPar (i j : Nat) (fr : Fa) : Fs := fun Γ => (fr Γ).then fun ds Γ1 => match ds with
  | [d, e] => .nx ((Γ1.set i (some d)).set j (some e))
  | _ => .no
def fStar (fa : Fe) (fr : Fa) : Fa := fun Γ => (fa Γ).bind fun d Γ1 => match d.items with
  | some ds => (fr Γ1).bind fun ds' Γ2 => .ok (ds ++ ds') Γ2
  | none => .no
def fgHead (i j : Nat) : Fg := fun d Γ => match d with
  | .tup (x :: xs) => if xs.length ≤ 16000 then some ((Γ.set i (some x)).set j (some (.lst xs))) else none
  | _ => none
section
variable {fa fb fc : Fe} {ua ub uc : UE} {fr : Fa} {ur : UA} {f g : D → D → Option D} {i j : Nat} {fl fh : Fo} {ul uh : UO}
instance cu_neg [ha : Cu fa ua] : Cu (fNeg fa) (uNeg ua) := ⟨fun Γ Q Ex h => ha.h _ _ _ (R.wp_mono (R.wp_bind.mp h) (fun d Γ1 h => by
  cases d <;> first | exact ⟨_, rfl, h⟩ | exact h.elim) fun _ _ h => h)⟩
instance cu_chain [ha : Cu fa ua] [hb : Cu fb ub] [hc : Cu fc uc] : Cu (fChain f g fa fb fc) (uChain f g ua ub uc) := ⟨fun Γ Q Ex h => ha.h _ _ _ (R.wp_mono (R.wp_bind.mp h) (fun x Γ1 h => hb.h _ _ _ (R.wp_mono (R.wp_bind.mp h) (fun y Γ2 h => by
  split at h
  · rename_i k e
    refine ⟨k, e, ?_⟩
    cases k with
    | false => exact h
    | true => exact hc.h _ _ _ (R.wp_mono (R.wp_bind.mp h) (fun z Γ3 h => R.wp_opt h) fun _ _ h => h)
  · exact h.elim) fun _ _ h => h)) fun _ _ h => h)⟩
instance cu_opL [hb : Cu fb ub] : Cu (fOpL f i fb) (uOpL f i ub) := ⟨fun Γ Q Ex h => hb.h _ _ _ (R.wp_mono (R.wp_bind.mp h) (fun y Γ1 h => by
  split at h
  · obtain ⟨d, e, h⟩ := R.wp_opt h
    exact ⟨_, d, by assumption, e, h⟩
  · exact h.elim) fun _ _ h => h)⟩
instance cu_opR [ha : Cu fa ua] : Cu (fOpR f fa i) (uOpR f ua i) := ⟨fun Γ Q Ex h => ha.h _ _ _ (R.wp_mono (R.wp_bind.mp h) (fun y Γ1 h => by
  split at h
  · obtain ⟨d, e, h⟩ := R.wp_opt h
    exact ⟨_, d, by assumption, e, h⟩
  · exact h.elim) fun _ _ h => h)⟩
theorem wp_iteS {c : Prop} [Decidable c] {r : SR} {ED : EndsD} (h : (if c then r else .no).wp ED) : c ∧ r.wp ED := by
  by_cases hc : c
  · rw [if_pos hc] at h; exact ⟨hc, h⟩
  · rw [if_neg hc] at h; exact h.elim
instance cs_append [ha : Cu fa ua] : CuS (fAppend i fa) (uAppend i ua) := ⟨fun ED Γ h => by
  unfold fAppend at h
  split at h
  · refine ⟨⟨_, by assumption⟩, ha.h _ _ _ (R.wp_mono (R.wp_then.mp h) (fun d Γ1 h => ?_) fun _ _ h => h)⟩
    split at h
    · obtain ⟨l, h⟩ := wp_iteS h
      exact ⟨_, by assumption, l, h⟩
    · exact h.elim
  · exact h.elim⟩
instance cs_dput {fk fv : Fe} {uk uv : UE} [hk : Cu fk uk] [hv : Cu fv uv] : CuS (fDPut i fk fv) (uDPut i uk uv) := ⟨fun ED Γ h => hv.h _ _ _ (R.wp_mono (R.wp_then.mp h) (fun dv Γ1 h => hk.h _ _ _ (R.wp_mono (R.wp_then.mp h) (fun dk Γ2 h => by
  split at h
  · obtain ⟨l, h⟩ := wp_iteS h
    exact ⟨_, _, by assumption, by assumption, l, h⟩
  · exact h.elim) fun _ _ h => h)) fun _ _ h => h)⟩
instance cs_seti {fk fv : Fe} {uk uv : UE} [hk : Cu fk uk] [hv : Cu fv uv] : CuS (fSetI i fk fv) (uSetI i uk uv) := ⟨fun ED Γ h => hv.h _ _ _ (R.wp_mono (R.wp_then.mp h) (fun dv Γ1 h => hk.h _ _ _ (R.wp_mono (R.wp_then.mp h) (fun dk Γ2 h => by
  split at h
  · split at h
    · exact ⟨_, _, _, by assumption, rfl, by assumption, h⟩
    · exact h.elim
  · exact h.elim) fun _ _ h => h)) fun _ _ h => h)⟩
instance cu_cb {g : List D → Option D} [hr : Cu fr ur] : Cu (fCB g fr) (uCB g ur) := ⟨fun Γ Q Ex h => hr.h _ _ _ (R.wp_mono (R.wp_bind.mp h) (fun ds Γ1 h => R.wp_opt h) fun _ _ h => h)⟩
instance cu_isi2 {n1 n2 : String} [ha : Cu fa ua] : Cu (fIsi2 n1 n2 fa) (uIsi2 n1 n2 ua) := ⟨fun Γ Q Ex h => ha.h _ _ _ (R.wp_mono (R.wp_bind.mp h) (fun d Γ1 h => wp_ite h) fun _ _ h => h)⟩
instance cu_fld {C : Addr} {x : Str} [ha : Cu fa ua] : Cu (fFld C x fa) (uFld C x ua) := ⟨fun Γ Q Ex h => ha.h _ _ _ (R.wp_mono (R.wp_bind.mp h) (fun d Γ1 h => by
  cases d <;> first | exact h.elim | skip
  obtain ⟨e, h'⟩ := wp_ite h
  subst e
  obtain ⟨v, e, h'⟩ := R.wp_opt h'
  exact ⟨_, v, rfl, e, h'⟩) fun _ _ h => h)⟩
instance cu_fldO {C : Addr} {x : Str} : Cu (fFldO C x i) (uFldO C x i) := ⟨fun Γ Q Ex h => by
  unfold fFldO at h
  split at h
  · rename_i q
    obtain ⟨e, h'⟩ := wp_ite h
    subst e
    obtain ⟨v, e, h'⟩ := R.wp_opt h'
    exact ⟨_, v, q, e, h'⟩
  · exact h.elim⟩
instance cs_setf {C : Addr} {x : Str} [ha : Cu fa ua] : CuS (fSetF C x i fa) (uSetF C x i ua) := ⟨fun ED Γ h => ha.h _ _ _ (R.wp_mono (R.wp_then.mp h) (fun d Γ1 h => by
  split at h
  · rename_i q
    obtain ⟨⟨e, l⟩, h'⟩ := wp_iteS h
    subst e
    exact ⟨_, q, l, h'⟩
  · exact h.elim) fun _ _ h => h)⟩
instance cs_raise {Ox O : List Nat} {C : Addr} {x : Str} [ha : Cu fa ua] : CuS (fRaise Ox O C x fa) (uRaise Ox O C x ua) := ⟨fun ED Γ h => ha.h _ _ _ (R.wp_then.mp h)⟩
instance cu_none : Cu fNone uNone := ⟨fun Γ Q Ex h => h⟩
instance cu_part [ha : Cu fa ua] : Cu (fPart fa) (uPart ua) := ⟨fun Γ Q Ex h => ha.h _ _ _ (R.wp_mono (R.wp_bind.mp h) (fun d Γ1 h => by
  cases d <;> first | exact ⟨_, rfl, h⟩ | exact h.elim) fun _ _ h => h)⟩
instance cu_slice [ha : Cu fa ua] [hl : Cu fl ul] [hh : Cu fh uh] : Cu (fSlice fa fl fh) (uSlice ua ul uh) := ⟨fun Γ Q Ex h => ha.h _ _ _ (R.wp_mono (R.wp_bind.mp h) (fun d Γ1 h => hl.h _ _ _ (R.wp_mono (R.wp_bind.mp h) (fun l Γ2 h => hh.h _ _ _ (R.wp_mono (R.wp_bind.mp h) (fun k Γ3 h => R.wp_opt h) fun _ _ h => h)) fun _ _ h => h)) fun _ _ h => h)⟩
instance cu_enum [hr : Cu fr ur] : Cu (fEnum fr) (uEnum ur) := ⟨fun Γ Q Ex h => hr.h _ _ _ (R.wp_mono (R.wp_bind.mp h) (fun ds Γ1 h => by
  split at h
  · exact ⟨_, rfl, h⟩
  · exact h.elim) fun _ _ h => h)⟩
instance cu_zip [hr : Cu fr ur] : Cu (fZip fr) (uZip ur) := ⟨fun Γ Q Ex h => hr.h _ _ _ (R.wp_mono (R.wp_bind.mp h) (fun ds Γ1 h => by
  split at h
  · exact ⟨_, _, rfl, h⟩
  · exact h.elim) fun _ _ h => h)⟩
instance cu_rev [hr : Cu fr ur] : Cu (fRev fr) (uRev ur) := ⟨fun Γ Q Ex h => hr.h _ _ _ (R.wp_mono (R.wp_bind.mp h) (fun ds Γ1 h => by
  split at h
  · exact ⟨_, rfl, h⟩
  · exact h.elim) fun _ _ h => h)⟩
instance cu_itS [ha : Cu fa ua] : Cu (fItS fa) (uItS ua) := ⟨fun Γ Q Ex h => ha.h _ _ _ (R.wp_mono (R.wp_bind.mp h) (fun d Γ1 h => by
  cases d <;> first | exact ⟨_, rfl, h⟩ | exact h.elim) fun _ _ h => h)⟩
instance cs_par [hr : Cu fr ur] : CuS (fPar i j fr) (uPar i j ur) := ⟨fun ED Γ h => hr.h _ _ _ (R.wp_mono (R.wp_then.mp h) (fun ds Γ1 h => by
  split at h
  · exact ⟨_, _, rfl, h⟩
  · exact h.elim) fun _ _ h => h)⟩
instance cu_star [ha : Cu fa ua] [hr : Cu fr ur] : Cu (fStar fa fr) (uStar ua ur) := ⟨fun Γ Q Ex h => ha.h _ _ _ (R.wp_mono (R.wp_bind.mp h) (fun d Γ1 h => by
  split at h
  · exact ⟨_, by assumption, hr.h _ _ _ (R.wp_bind.mp h)⟩
  · exact h.elim) fun _ _ h => h)⟩
instance cg_head : CuG (fgHead i j) (ugHead i j) := ⟨fun d Γ Γ' Q e q => by
  unfold fgHead at e
  split at e
  · split at e
    · cases e
      exact ⟨_, _, rfl, by assumption, q⟩
    · cases e
  · cases e⟩
end
/-! ### try -/
open Classical in
/-- what does not depend on where the error lies -/
noncomputable def col (f : Addr → Addr → SR) : SR := if h : ∃ r, ∀ a b, f a b = r then Classical.choose h else .no
@[simp] theorem col_const {r : SR} : col (fun _ _ => r) = r := by
  unfold col
  have h : ∃ q, ∀ (a b : Addr), r = q := ⟨r, fun _ _ => rfl⟩
  rw [dif_pos h]
  exact (Classical.choose_spec h 0 0).symm
theorem col_wp {f : Addr → Addr → SR} {ED : EndsD} (h : (col f).wp ED) (a b : Addr) : (f a b).wp ED := by
  unfold col at h
  split at h
  · rename_i q
    rw [Classical.choose_spec q a b]
    exact h
  · exact h.elim
class Em (K : PySem.W.Frag) (c : Value) (em : Addr → Option Bool) : Prop where
  h : ∀ C b, em C = some b → PySem.W.exmOne K (.ref C) c = some b
/-- behind an except suite: no error leaves it; the slot of the error is empty -/
def SR.shut (r : SR) (f : Sl → Sl) : SR := match r with
  | .nx Γ => .nx (f Γ)
  | .bk Γ => .bk (f Γ)
  | .ct Γ => .ct (f Γ)
  | .rt d Γ => .rt d Γ
  | _ => .no
@[simp] theorem SR.shut_nx {Γ : Sl} {f : Sl → Sl} : (SR.nx Γ).shut f = .nx (f Γ) := rfl
@[simp] theorem SR.shut_rt {d : D} {Γ : Sl} {f : Sl → Sl} : (SR.rt d Γ).shut f = .rt d Γ := rfl
@[simp] theorem SR.shut_bk {Γ : Sl} {f : Sl → Sl} : (SR.bk Γ).shut f = .bk (f Γ) := rfl
@[simp] theorem SR.shut_ct {Γ : Sl} {f : Sl → Sl} : (SR.ct Γ).shut f = .ct (f Γ) := rfl
noncomputable def fTryAs (em : Addr → Option Bool) (Ox O : List Nat) (i : Nat) (fb fh : Fs) : Fs := fun Γ => match fb Γ with
  | .ex x Γ' => (match em x.1 with
    | some true => col fun a dd => (fh (Γ'.set i (some (.exn a x.1 dd x.2)))).shut fun Γ2 => Γ2.set i none
    | some false => .ex x (cut Ox O Γ')
    | none => .no)
  | .rt d Γ' => .rt d (cut Ox O Γ')
  | r => r
def fTryOnly (em : Addr → Option Bool) (Ox O : List Nat) (fb fh : Fs) : Fs := fun Γ => match fb Γ with
  | .ex x Γ' => (match em x.1 with
    | some true => (fh Γ').shut id
    | some false => .ex x (cut Ox O Γ')
    | none => .no)
  | .rt d Γ' => .rt d (cut Ox O Γ')
  | r => r
theorem wp_shut {r : SR} {f : Sl → Sl} {ED : EndsD} (h : (r.shut f).wp ED) : r.wp { ED with nx := fun Γ => ED.nx (f Γ), bk := fun Γ => ED.bk (f Γ), ct := fun Γ => ED.ct (f Γ), ex := Ex0 } := by cases r <;> exact h
instance cs_tryAs {K : PySem.W.Frag} {Ox O : List Nat} {c : Value} {i : Nat} {em : Addr → Option Bool} {fb fh : Fs} {ub : US} {us : Addr → Value → Option Addr → US} [he : Em K c em] [hb : CuS fb ub] [hh : ∀ a v d, CuS fh (us a v d)] : CuS (fTryAs em Ox O i fb fh) (uTryAs K Ox O c i ub us) := ⟨fun ED Γ h => by
  refine hb.h _ _ ?_
  unfold fTryAs at h
  cases e : fb Γ <;> rw [e] at h <;> try exact h
  rename_i x Γ'
  have h : (match em x.1 with
    | some true => col fun a dd => (fh (Γ'.set i (some (.exn a x.1 dd x.2)))).shut fun Γ2 => Γ2.set i none
    | some false => .ex x (cut Ox O Γ')
    | none => .no).wp ED := h
  split at h
  · rename_i q
    refine ⟨true, he.h _ _ q, fun _ a dd => (hh _ _ _).h _ _ (wp_shut (col_wp h a dd)), fun z => nomatch z⟩
  · rename_i q
    exact ⟨false, he.h _ _ q, fun z => (nomatch z), fun _ => h⟩
  · exact h.elim⟩
instance cs_tryOnly {K : PySem.W.Frag} {Ox O : List Nat} {c : Value} {em : Addr → Option Bool} {fb fh : Fs} {ub : US} {us : Addr → Value → Option Addr → US} [he : Em K c em] [hb : CuS fb ub] [hh : ∀ a v d, CuS fh (us a v d)] : CuS (fTryOnly em Ox O fb fh) (uTryOnly K Ox O c ub us) := ⟨fun ED Γ h => by
  refine hb.h _ _ ?_
  unfold fTryOnly at h
  cases e : fb Γ <;> rw [e] at h <;> try exact h
  rename_i x Γ'
  have h : (match em x.1 with
    | some true => (fh Γ').shut id
    | some false => .ex x (cut Ox O Γ')
    | none => .no).wp ED := h
  split at h
  · rename_i q
    refine ⟨true, he.h _ _ q, fun _ a dd => (hh _ _ _).h _ _ (wp_shut h), fun z => nomatch z⟩
  · rename_i q
    exact ⟨false, he.h _ _ q, fun z => (nomatch z), fun _ => h⟩
  · exact h.elim⟩
end Dv
set_option Elab.async false
set_option linter.all false
set_option maxRecDepth 100000
set_option maxHeartbeats 4000000
/-! Fv4: numbers, max with default, sorted(set(..)), zip strict, repeated lists. -/
namespace Dv
open PySem PySem.Spec PyProof.Rows L2 Eu
section
variable {K : PySem.W.Frag} {X : Cx} {Ox O Ol : List Nat} {W : WX}
/-! ### numbers -/
def dMulI : D → D → Option D := dInt (fun i j => cMulB i j || decide (i.natAbs.log2 + j.natAbs.log2 < 1000000)) fun i j => i * j
theorem op_mulA : OpR X (binaryOp .Mult) (fun x y H Q => rI CMul (fun i j => V.int (i * j)) x y H Q ∨ rI CMulW (fun i j => V.int (i * j)) x y H Q) := or_op op_mul op_mulW
theorem rf_mulI : RfOp K (fun x y H Q => rI CMul (fun i j => V.int (i * j)) x y H Q ∨ rI CMulW (fun i j => V.int (i * j)) x y H Q) dMulI := by
  intro A H x y dx dy d Q hA rx ry e k
  cases dx <;> cases dy <;> first | (cases e; done) | skip
  unfold dMulI dInt at e
  dsimp only at e
  split at e
  · rename_i h
    cases e
    rw [Bool.or_eq_true] at h
    cases rx; cases ry
    rcases h with h | h
    · exact .inl ⟨_, _, rfl, rfl, cMulB_ok _ _ h, k _ H (fun _ _ h => h) (.int _)⟩
    · exact .inr ⟨_, _, rfl, rfl, (by unfold CMulW; exact of_decide_eq_true h), k _ H (fun _ _ h => h) (.int _)⟩
  · cases e
def dModI : D → D → Option D := dInt (fun _ j => decide (0 < j)) fun i j => i % j
theorem rf_modI : RfOp K (rI (fun _ j => 0 < j) fun i j => V.int (i % j)) dModI := rf_mod
def dFdivI : D → D → Option D := dInt (fun _ j => decide (0 < j) && decide (j.natAbs.log2 < 9000)) fun i j => i / j
theorem rf_fdivI : RfOp K (rI CDivW fun i j => V.int (i / j)) dFdivI := rf_int fun a b h => by
  rw [Bool.and_eq_true] at h
  exact ⟨of_decide_eq_true h.1, of_decide_eq_true h.2⟩
def dPowI : D → D → Option D := dInt (fun i j => decide (0 ≤ j) && (decide (j ≤ 1000000) && decide (i.natAbs < 2 ^ 64))) fun i j => i ^ j.toNat
theorem cpow {a b : Int} (h : (decide (0 ≤ b) && (decide (b ≤ 1000000) && decide (a.natAbs < 2 ^ 64))) = true) : CPow a b := by
  rw [Bool.and_eq_true, Bool.and_eq_true] at h
  exact ⟨of_decide_eq_true h.1, of_decide_eq_true h.2.1, of_decide_eq_true h.2.2⟩
theorem rf_powI : RfOp K (rI CPow fun i j => V.int (i ^ j.toNat)) dPowI := rf_int fun a b h => cpow h
def dShlI : D → D → Option D := dInt (fun i j => decide (0 ≤ j) && (decide (j ≤ 1000000) && decide (i.natAbs < 2 ^ 64))) fun i j => i * 2 ^ j.toNat
theorem rf_shlI : RfOp K (rI CPow fun i j => V.int (i * 2 ^ j.toNat)) dShlI := rf_int fun a b h => cpow h
def dShrI : D → D → Option D := dInt (fun _ j => decide (0 ≤ j)) fun i j => i / 2 ^ j.toNat
theorem rf_shrI : RfOp K (rI (fun _ j => 0 ≤ j) fun i j => V.int (i / 2 ^ j.toNat)) dShrI := rf_int fun a b h => of_decide_eq_true h
def dAndI : D → D → Option D
  | .int a, .int b => some (.int (Builtin.bitAnd a b))
  | _, _ => none
theorem rf_andI : RfOp K (rI0 fun i j => V.int (Builtin.bitAnd i j)) dAndI := by
  intro A H x y dx dy d Q hA rx ry e k
  cases dx <;> cases dy <;> first | (cases e; done) | skip
  cases e
  cases rx; cases ry
  exact ⟨_, _, rfl, rfl, k _ H (fun _ _ h => h) (.int _)⟩
def dLtI : D → D → Option D := dCmp fun i j => decide (i < j)
def dLeI : D → D → Option D := dCmp fun i j => decide (i ≤ j)
def dGtI : D → D → Option D := dCmp fun i j => decide (j < i)
def dGeI : D → D → Option D := dCmp fun i j => decide (j ≤ i)
theorem rf_ltI : RfOp K (rI0 fun i j => V.bl (decide (i < j))) dLtI := rf_cmp
theorem rf_leI : RfOp K (rI0 fun i j => V.bl (decide (i ≤ j))) dLeI := rf_cmp
theorem rf_gtI : RfOp K (rI0 fun i j => V.bl (decide (j < i))) dGtI := rf_cmp
theorem rf_geI : RfOp K (rI0 fun i j => V.bl (decide (j ≤ i))) dGeI := rf_cmp
def dMax2 (i j : Int) : Int := if j > i then j else i
def dMin2 (i j : Int) : Int := if j < i then j else i
theorem rf_max2 : RfC K (fun xs H Q => ∃ i j, xs = [V.int i, V.int j] ∧ Q (V.int (if j > i then j else i)) H) (two (dTwo dMax2)) := rf_two
theorem rf_min2 : RfC K (fun xs H Q => ∃ i j, xs = [V.int i, V.int j] ∧ Q (V.int (if j < i then j else i)) H) (two (dTwo dMin2)) := rf_two
/-! ### max of a list -/
def iMax (y : Int) (ys : List Int) : Int := ys.foldl (fun a k => if a < k then k else a) y
def iMin (y : Int) (ys : List Int) : Int := ys.foldl (fun a k => if k < a then k else a) y
theorem iMax_spec : ∀ (ys : List Int) (y : Int), iMax y ys ∈ y :: ys ∧ ∀ k ∈ y :: ys, k ≤ iMax y ys
  | [], y => ⟨by simp [iMax], by simp [iMax]⟩
  | z :: ys, y => by
    have e : iMax y (z :: ys) = iMax (if y < z then z else y) ys := rfl
    rw [e]
    obtain ⟨h1, h2⟩ := iMax_spec ys (if y < z then z else y)
    have h3 := h2 _ List.mem_cons_self
    refine ⟨?_, fun k hk => ?_⟩
    · rcases List.mem_cons.mp h1 with h | h
      · rw [h]; split <;> simp
      · exact List.mem_cons_of_mem _ (List.mem_cons_of_mem _ h)
    · by_cases c : y < z
      · rw [if_pos c] at h3 h2 ⊢
        rcases List.mem_cons.mp hk with q | hk
        · rw [q]; omega
        · rcases List.mem_cons.mp hk with q | hk
          · rw [q]; omega
          · exact h2 _ (List.mem_cons_of_mem _ hk)
      · rw [if_neg c] at h3 h2 ⊢
        rcases List.mem_cons.mp hk with q | hk
        · rw [q]; omega
        · rcases List.mem_cons.mp hk with q | hk
          · rw [q]; omega
          · exact h2 _ (List.mem_cons_of_mem _ hk)
theorem iMin_spec : ∀ (ys : List Int) (y : Int), iMin y ys ∈ y :: ys ∧ ∀ k ∈ y :: ys, iMin y ys ≤ k
  | [], y => ⟨by simp [iMin], by simp [iMin]⟩
  | z :: ys, y => by
    have e : iMin y (z :: ys) = iMin (if z < y then z else y) ys := rfl
    rw [e]
    obtain ⟨h1, h2⟩ := iMin_spec ys (if z < y then z else y)
    have h3 := h2 _ List.mem_cons_self
    refine ⟨?_, fun k hk => ?_⟩
    · rcases List.mem_cons.mp h1 with h | h
      · rw [h]; split <;> simp
      · exact List.mem_cons_of_mem _ (List.mem_cons_of_mem _ h)
    · by_cases c : z < y
      · rw [if_pos c] at h3 h2 ⊢
        rcases List.mem_cons.mp hk with q | hk
        · rw [q]; omega
        · rcases List.mem_cons.mp hk with q | hk
          · rw [q]; omega
          · exact h2 _ (List.mem_cons_of_mem _ hk)
      · rw [if_neg c] at h3 h2 ⊢
        rcases List.mem_cons.mp hk with q | hk
        · rw [q]; omega
        · rcases List.mem_cons.mp hk with q | hk
          · rw [q]; omega
          · exact h2 _ (List.mem_cons_of_mem _ hk)
def dMax1 : D → Option D
  | .lst ds => match intsOf ds with
    | some (y :: ys) => some (.int (iMax y ys))
    | _ => none
  | _ => none
def dMin1 : D → Option D
  | .lst ds => match intsOf ds with
    | some (y :: ys) => some (.int (iMin y ys))
    | _ => none
  | _ => none
theorem cr_maxD (hc : X.calm = true) (hK : X.K = K := by rfl) : CallR X (.builtin "max") (rMax K) := by subst hK; exact cr_max hc
theorem cr_minD (hc : X.calm = true) (hK : X.K = K := by rfl) : CallR X (.builtin "min") (rMin K) := by subst hK; exact cr_min hc
theorem rf_max1 : RfC K (rMax K) (one dMax1) := rfc_one fun A H v dx d Q hA rx e k => by
  cases dx <;> first | (cases e; done) | skip
  unfold dMax1 at e
  dsimp only at e
  split at e <;> cases e
  rename_i y ys q
  cases rx with
  | lst h r =>
    have hv := ints_rel r q
    subst hv
    refine ⟨_, y :: ys, rfl, .inl (.inl (hidL_some h).2), by simp, fun m hm hle => ?_⟩
    obtain ⟨h1, h2⟩ := iMax_spec ys y
    have : m = iMax y ys := Int.le_antisymm (h2 m hm) (hle _ h1)
    rw [this]
    exact k _ H (fun _ _ h => h) (.int _)
theorem rf_min1 : RfC K (rMin K) (one dMin1) := rfc_one fun A H v dx d Q hA rx e k => by
  cases dx <;> first | (cases e; done) | skip
  unfold dMin1 at e
  dsimp only at e
  split at e <;> cases e
  rename_i y ys q
  cases rx with
  | lst h r =>
    have hv := ints_rel r q
    subst hv
    refine ⟨_, y :: ys, rfl, .inl (.inl (hidL_some h).2), by simp, fun m hm hle => ?_⟩
    obtain ⟨h1, h2⟩ := iMin_spec ys y
    have : m = iMin y ys := Int.le_antisymm (hle _ h1) (h2 m hm)
    rw [this]
    exact k _ H (fun _ _ h => h) (.int _)
end
/-! ### max(xs, default=d) -/
section
variable {X : Cx} {e e2 : Expr} {ta tb : TE} {p pos kp : Pos}
def tMaxD (K : PySem.W.Frag) (ta tb : TE) : TE := fun σ H Q => ta σ H fun x H1 => tb σ H1 fun y H2 => ∃ (a : Addr) (ns : List Int), x = .ref a ∧ SqL K H2 a (ns.map V.int) ∧
  (ns = [] → Q y H2) ∧ ∀ z zs, ns = z :: zs → Q (.int (iMax z zs)) H2
theorem iMax_of (z : Int) (zs : List Int) : PySem.W.maxOf z zs = iMax z zs := by
  unfold PySem.W.maxOf iMax
  congr 1
  funext a k
  show (if decide (a < k) = true then k else a) = _
  by_cases h : a < k <;> simp [h]
theorem reads_int {h : Heap} : ∀ {us : List Value} {ns : List Int}, IntsAre us ns → ∃ as, ReadsAll h us (ns.map PySem.W.Datum.toD) as
  | _, _, .nil => ⟨_, .nil⟩
  | _, _, .cons n t r => by
    obtain ⟨as, q⟩ := reads_int r
    exact ⟨_, .cons (.int n t) q⟩
theorem pe_maxd (hc : X.calm = true) (hu : X.A.units + 64 < cLine) (hg : Gl X "max") (hm : X.mg "max" = none) (ha : PE X e ta) (hb : PE X e2 tb)
    (hs : starEach [e] X.env = (false, eval e X.env) :: starEach [] X.env := by rfl) (hs2 : backTo pos (starEach [e] X.env) = (false, eval e X.env) :: backTo pos (starEach [] X.env) := by rfl) (hp2 : (backTo pos (starEach [e] X.env)).any (·.1) = false := by rfl) :
    PE X (.Call (.Name "max" p) [e] [⟨some (Str.ofString "default"), e2, kp⟩] pos) (tMaxD X.K ta tb) := by
  refine ⟨fun pins s σ H Q I h => ?_⟩
  have hh := I.ok.hd hc
  refine wpAny_Call_Name_kw (ld_blt I hg hm PyProof.Rows.boot_max (PyProof.Rows.callWith_kw (one_arg ha I h (fun v s1 x H1 I1 r1 q1 => ?_) hs) hs2 hp2))
  refine PyProof.Rows.kws_cons (thn (hb.run pins s1 σ H1 _ I1 q1) fun u s2 ⟨y, H2, I2, r2, q2⟩ => PyProof.Rows.kws_nil ?_)
  obtain ⟨a, ns, rfl, hq, q0, q3⟩ := q2
  cases r1
  obtain ⟨its, rv, hl, _⟩ := I2.list hq
  refine PySem.W.max_list_datum_default (α := Int) (xs := ns) hh hl.isList (reads_int rv.ints) (by have : PySem.W.Datum.depth Int = 0 := rfl; show X.A.units + 1 + _ < _; omega) (fun e h' tk k => ?_) fun y' ys i v h' tk e hi ho k => ?_
  · exact ⟨y, H2, I2.kept k, r2, q0 e⟩
  · obtain ⟨as, ro⟩ := ho
    have ro : Reads h' v (.int (PySem.W.maxOf y' ys)) as := ro
    rw [iMax_of] at ro
    cases ro
    exact ⟨.int _, H2, I2.kept k, ⟨_, rfl⟩, q3 _ _ e⟩
end
def uMaxD (ua ub : UE) : UE := fun Γ Q Ex => ua Γ (fun d Γ1 => ub Γ1 (fun e Γ2 => ∃ ds ns, d = .lst ds ∧ intsOf ds = some ns ∧ Q (match ns with
  | [] => e
  | y :: ys => .int (iMax y ys)) Γ2) Ex) Ex
def fMaxD (fa fb : Fe) : Fe := fun Γ => (fa Γ).bind fun d Γ1 => (fb Γ1).bind fun e Γ2 => match d with
  | .lst ds => (match intsOf ds with
    | some [] => .ok e Γ2
    | some (y :: ys) => .ok (.int (iMax y ys)) Γ2
    | none => .no)
  | _ => .no
section
variable {K : PySem.W.Frag} {X : Cx} {Ox O Ol : List Nat} {W : WX} {a b tg : Expr} {ta tb : TE} {ua ub : UE} {fa fb : Fe} {pos p kp cp tpos : Pos} {tr : TA} {ur : UA} {fr : Fa} {elts : List Expr} {kk j : Nat}
instance cu_maxD [ha : Cu fa ua] [hb : Cu fb ub] : Cu (fMaxD fa fb) (uMaxD ua ub) := ⟨fun Γ Q Ex h => ha.h _ _ _ (R.wp_mono (R.wp_bind.mp h) (fun d Γ1 h => hb.h _ _ _ (R.wp_mono (R.wp_bind.mp h) (fun e Γ2 h => by
  split at h
  · split at h
    · rename_i q; exact ⟨_, _, rfl, q, h⟩
    · rename_i q; exact ⟨_, _, rfl, q, h⟩
    · exact h.elim
  · exact h.elim) fun _ _ h => h)) fun _ _ h => h)⟩
theorem de_maxd (hc : X.calm = true) (hu : X.A.units + 64 < cLine) (hg : Gl X "max") (hm : X.mg "max" = none) (ha : DE K Ox O W X a ta ua) (hb : DE K Ox O W X b tb ub) (hK : X.K = K := by rfl)
    (hs : starEach [a] X.env = (false, eval a X.env) :: starEach [] X.env := by rfl) (hs2 : backTo pos (starEach [a] X.env) = (false, eval a X.env) :: backTo pos (starEach [] X.env) := by rfl) (hp2 : (backTo pos (starEach [a] X.env)).any (·.1) = false := by rfl) :
    DE K Ox O W X (.Call (.Name "max" p) [a] [⟨some (Str.ofString "default"), b, kp⟩] pos) (tMaxD K ta tb) (uMaxD ua ub) := ⟨fun g => by subst hK; exact pe_maxd hc hu hg hm (ha.p g) (hb.p g) hs hs2 hp2, by
  intro B Z σ H Γ Q Qd Ex e ex hu k
  refine ha.r B Z σ H Γ _ _ Ex e ex hu fun x H1 dx Γ1 e1 r1 q1 => ?_
  refine hb.r _ Z σ H1 Γ1 _ _ Ex e1.self (ex.at e1) q1 fun y H2 dy Γ2 e2 r2 q2 => ?_
  obtain ⟨ds, ns, rfl, hi, q⟩ := q2
  have r1 := r1.le e2.le
  cases r1 with
  | lst h r =>
    have hv := ints_rel r hi
    subst hv
    refine ⟨_, ns, rfl, .inl (.inl (hidL_some h).2), fun z => ?_, fun z zs hz => ?_⟩
    · subst z
      exact k _ H2 _ Γ2 (e1.back e2) r2 q
    · subst hz
      exact k _ H2 _ Γ2 (e1.back e2) (.int _) q⟩
/-! ### zip(xs, ys, strict=True) -/
def uZipS (ur : UA) : UA := fun Γ Q Ex => ur Γ (fun ds Γ1 => ∃ xs ys, ds = [.lst xs, .lst ys] ∧ xs.length = ys.length ∧ Q (zipD xs ys) Γ1) Ex
def fZipS (fr : Fa) : Fa := fun Γ => (fr Γ).bind fun ds Γ1 => match ds with
  | [.lst xs, .lst ys] => if xs.length = ys.length then .ok (zipD xs ys) Γ1 else .no
  | _ => .no
instance cu_zipS [hr : Cu fr ur] : Cu (fZipS fr) (uZipS ur) := ⟨fun Γ Q Ex h => hr.h _ _ _ (R.wp_mono (R.wp_bind.mp h) (fun ds Γ1 h => by
  split at h
  · obtain ⟨l, h⟩ := wp_ite h
    exact ⟨_, _, rfl, l, h⟩
  · exact h.elim) fun _ _ h => h)⟩
theorem it_zipS {Bp : Hp} {l m : Addr} {vs ws : List V} {ds es : List D} (hl : ds.length = es.length) (s : Bp l = some (.lst vs)) (r : Rps K Bp vs ds) (s2 : Bp m = some (.lst ws)) (r2 : Rps K Bp ws es) : ItD K Bp (ItzS K l m) (zipD ds es) := by
  have zl : (zipD ds es).length = ds.length := by unfold zipD; rw [List.length_map, List.length_zip]; omega
  obtain ⟨g1, _, g3⟩ := it_zip s r s2 r2
  refine ⟨g1, fun H le => ?_, g3⟩
  exact ⟨vs, ws, .inl (.inl (le.lc.lst s)), .inl (.inl (le.lc.lst s2)), by rw [zl, r.length]; exact Nat.le_refl _, by rw [zl, r2.length, hl]; exact Nat.le_refl _⟩
theorem di_zipS (hg : Gl X "zip") (hm : X.mg "zip" = none) (ha : DA K Ox O W X [a, b] tr ur) (hK : X.K = K := by rfl) (hs : backTo pos (starEach [a, b] X.env) = (false, eval a X.env) :: backTo pos (starEach [b] X.env) := by rfl) (hpl : (backTo pos (starEach [a, b] X.env)).any (·.1) = false := by rfl) :
    DI K Ox O W X (.Tuple elts kk tpos) (.Call (.Name "zip" p) [a, b] [⟨some (Str.ofString "strict"), .Constant (.bool true) j cp, kp⟩] pos) (iZipS K tr) (uZipS ur) := ⟨fun g => by subst hK; exact pi_zipS hg hm (ha.p g) hs hpl, by
  intro B Z σ H Γ R Qd Ex e ex hu k
  refine ha.r B Z σ H Γ _ _ _ e ex hu fun vs H' ds Γ' e' r' q' => ?_
  obtain ⟨xs, ys, rfl, hl, q⟩ := q'
  obtain ⟨v, w, rfl, rv, rw_⟩ := Rps.inv2 r'
  cases rv with
  | lst s r =>
    cases rw_ with
    | lst s2 r2 => exact ⟨_, _, _, _, rfl, .inl (.inl (hidL_some s).2), .inl (.inl (hidL_some s2).2), k _ H' _ Γ' e' (it_zipS hl s r s2 r2) q⟩⟩
/-! ### [x] * n -/
def dRep : D → D → Option D
  | .lst xs, .int k => if -(2 ^ 63) ≤ k ∧ k < 2 ^ 63 ∧ xs.length * k.toNat ≤ sizeLine then some (.lst (List.replicate k.toNat xs).flatten) else none
  | _, _ => none
theorem Rps.rep {H : Hp} {vs : List V} {ds : List D} (r : Rps K H vs ds) : ∀ n : Nat, Rps K H (List.replicate n vs).flatten (List.replicate n ds).flatten
  | 0 => .nil
  | n + 1 => by
    rw [List.replicate_succ, List.replicate_succ, List.flatten_cons, List.flatten_cons]
    exact r.append (Rps.rep r n)
theorem rf_rep : RfOp K rRep dRep := by
  intro A H x y dx dy d Q hA rx ry e k
  cases dx <;> cases dy <;> first | (cases e; done) | skip
  unfold dRep at e
  dsimp only at e
  split at e
  · rename_i h
    cases e
    cases rx with
    | lst h1 r =>
      cases ry
      refine ⟨_, _, _, rfl, rfl, (hidL_some h1).2, h.1, h.2.1, by rw [r.length]; exact h.2.2, fun p np => ?_⟩
      exact k _ _ (same_new np) (new_lst np (out_of hA np) (Rps.rep r _))
  · cases e
theorem op_repD : OpR X (binaryOp .Mult) rRep := op_rep
theorem ds_never {st : Stmt} {O1 : List Nat} : DS K Ox O W Ol O1 X st tNever (fun _ _ => False) := ⟨fun g po => ps_never, fun B Z σ H Γ D ED hB e ex hu nx rt bk ct => hu.elim⟩
instance cs_no : CuS fNo (fun _ _ => False) := ⟨fun ED Γ h => h⟩
end
end Dv
set_option Elab.async false
set_option linter.all false
set_option maxRecDepth 100000
set_option maxHeartbeats 4000000
/-! Fv5: sorted(set(t)) of a tuple of ints. -/
namespace L2
open PySem PySem.Spec PyProof.Rows
section
variable {X : Cx}
/-- set(t), t a tuple of ints -/
def rSetTup (K : PySem.W.Frag) (w : World) : List V → Hp → VK → Prop := fun vs H Q => ∃ (p : Addr) (ns : List Int), vs = [.ref p] ∧ SqT K H p (ns.map V.int) ∧ ns.length ≤ 1000 ∧
  ∀ (a : Addr) (c : Nat), c ≤ ns.length → H a = none → Q (.ref a) (upd H a (SetO w a (fun j => decide (j ∈ ns)) c))
theorem cr_setTup (hc : X.calm = true) : CallR X (.type "set") (rSetTup X.K X.w) := by
  intro pins s σ H xs us Q I r h
  obtain ⟨p, ns, rfl, hq, hl, q⟩ := h
  rw [Vals.ref1 r]
  obtain ⟨its, rv, pt, hz⟩ := I.tuple hq
  have hi : IntsAre its.toArray.toList ns := ints_of_vals rv
  refine call_set_tupI ns (I.ok.hd hc) (show s.heap.IsTuple p its.toArray from pt) hi (by unfold scanBound; omega) fun h' tk c R1 hcn k => ?_
  exact ⟨.ref _, upd H s.heap.objs.size (SetO X.w s.heap.objs.size (fun j => decide (j ∈ ns)) c), I.laid (t' := tk) k (Nat.le_refl _) (setO_new R1), rfl, q _ c hcn (I.hok.fresh (Nat.le_refl _))⟩
end
end L2
namespace Dv
open PySem PySem.Spec PyProof.Rows L2 Eu
/-- ascending, without doubles -/
def insAsc (x : Int) : List Int → List Int
  | [] => [x]
  | y :: ys => if x < y then x :: y :: ys else if x = y then y :: ys else y :: insAsc x ys
def ascOf (ns : List Int) : List Int := ns.foldr insAsc []
theorem ins_mem {x k : Int} : ∀ {ys : List Int}, k ∈ insAsc x ys ↔ k = x ∨ k ∈ ys
  | [] => by simp [insAsc]
  | y :: ys => by
    unfold insAsc
    split
    · simp
    · split
      · rename_i h; subst h; simp
      · rw [List.mem_cons, ins_mem, List.mem_cons]
        exact ⟨fun h => by rcases h with h | h | h <;> simp [h], fun h => by rcases h with h | h | h <;> simp [h]⟩
theorem ins_asc {x : Int} : ∀ {ys : List Int}, ys.Pairwise (· < ·) → (insAsc x ys).Pairwise (· < ·)
  | [], _ => by simp [insAsc]
  | y :: ys, h => by
    unfold insAsc
    rw [List.pairwise_cons] at h
    split
    · rename_i c
      rw [List.pairwise_cons, List.pairwise_cons]
      refine ⟨fun k hk => ?_, h⟩
      rcases List.mem_cons.mp hk with rfl | hk
      · exact c
      · have := h.1 k hk; omega
    · split
      · rw [List.pairwise_cons]; exact h
      · rw [List.pairwise_cons]
        refine ⟨fun k hk => ?_, ins_asc h.2⟩
        rcases ins_mem.mp hk with rfl | hk
        · omega
        · exact h.1 k hk
theorem asc_mem {k : Int} : ∀ {ns : List Int}, k ∈ ascOf ns ↔ k ∈ ns
  | [] => by simp [ascOf]
  | n :: ns => by
    show k ∈ insAsc n (ascOf ns) ↔ _
    rw [ins_mem, asc_mem, List.mem_cons]
theorem asc_asc : ∀ {ns : List Int}, (ascOf ns).Pairwise (· < ·)
  | [] => by simp [ascOf]
  | n :: ns => ins_asc asc_asc
theorem asc_unique : ∀ {xs ys : List Int}, xs.Pairwise (· < ·) → ys.Pairwise (· < ·) → (∀ k, k ∈ xs ↔ k ∈ ys) → xs = ys
  | [], [], _, _, _ => rfl
  | [], y :: ys, _, _, h => by have := (h y).mpr (by simp); simp at this
  | x :: xs, [], _, _, h => by have := (h x).mp (by simp); simp at this
  | x :: xs, y :: ys, h1, h2, h => by
    rw [List.pairwise_cons] at h1 h2
    have e : x = y := by
      have a := (h x).mp (by simp)
      have b := (h y).mpr (by simp)
      rcases List.mem_cons.mp a with a | a
      · exact a
      · rcases List.mem_cons.mp b with b | b
        · exact b.symm
        · have := h1.1 y b; have := h2.1 x a; omega
    subst e
    congr 1
    refine asc_unique h1.2 h2.2 fun k => ⟨fun hk => ?_, fun hk => ?_⟩
    · rcases List.mem_cons.mp ((h k).mp (List.mem_cons_of_mem _ hk)) with z | z
      · subst z; have := h1.1 _ hk; omega
      · exact z
    · rcases List.mem_cons.mp ((h k).mpr (List.mem_cons_of_mem _ hk)) with z | z
      · subst z; have := h2.1 _ hk; omega
      · exact z
def dSortedSet : D → Option D
  | .tup ds => match intsOf ds with
    | some ns => if ns.length < 64 then some (.lst ((ascOf ns).map .int)) else none
    | none => none
  | _ => none
section
variable {K : PySem.W.Frag} {X : Cx} {Ox O Ol : List Nat} {W : WX} {a : Expr} {ta : TE} {ua : UE} {pos p p2 pos2 : Pos} {tr : TA} {ur : UA}
theorem rps_ints {H : Hp} : ∀ ns : List Int, Rps K H (ns.map V.int) (ns.map Dv.D.int)
  | [] => .nil
  | n :: ns => .cons (.int n) (rps_ints ns)
theorem rf_sortedSet {w : World} (hr : RfA K Ox O W tr ur) : RfE K Ox O W (tCB (rSortedSet w) (tCons (tCB (rSetTup K w) tr) tNil)) (uCB (one dSortedSet) ur) := by
  intro B Z σ H Γ Q Qd Ex e ex hu k
  refine hr B Z σ H Γ _ _ Ex e ex hu fun vs H1 ds Γ1 e1 r1 q1 => ?_
  obtain ⟨d, hd, q⟩ := q1
  have one1 : ∃ x, ds = [x] ∧ dSortedSet x = some d := by
    match ds, hd with
    | [x], hd => exact ⟨x, rfl, hd⟩
  obtain ⟨x, rfl, hx⟩ := one1
  clear hd
  obtain ⟨v, rfl, rv⟩ := Rps.inv1 r1
  cases x <;> first | (cases hx; done) | skip
  unfold dSortedSet at hx
  dsimp only at hx
  split at hx
  · rename_i ns hi
    split at hx
    · rename_i h64
      cases hx
      cases rv with
      | tup h r =>
        have hv := ints_rel r hi
        subst hv
        refine ⟨_, ns, rfl, hidL_le.lc.tup h, by omega, fun a c hc np => ?_⟩
        refine ⟨a, _, c, rfl, upd_same, by omega, fun ms p asc mem len np2 => ?_⟩
        have em : ms = ascOf ns := asc_unique asc asc_asc fun k => by rw [mem, asc_mem]; exact decide_eq_true_iff
        subst em
        have npa : p ≠ a := fun z => by rw [z, upd_same] at np2; cases np2
        have e2 : En K B Z O σ (upd (upd H1 a (SetO w a (fun j => decide (j ∈ ns)) c)) p (.lst ((ascOf ns).map V.int))) Γ1 := (e1.same (same_new np)).same (same_new np2)
        refine k _ _ _ Γ1 e2 (.lst ?_ (rps_ints _)) q
        rw [hO_out ((e1.same (same_new np)).fresh np2), upd_same]
    · cases hx
  · cases hx
theorem de_sortedSet (hc : X.calm = true) (hg1 : Gl X "sorted") (hm1 : X.mg "sorted" = none) (hg2 : Gl X "set") (hm2 : X.mg "set" = none) (ha : DA K Ox O W X [a] tr ur) (hK : X.K = K := by rfl)
    (he : starEach [a] X.env = (false, eval a X.env) :: starEach [] X.env := by rfl)
    (hs : starEach [.Call (.Name "set" p2) [a] [] pos2] X.env = (false, eval (.Call (.Name "set" p2) [a] [] pos2) X.env) :: starEach [] X.env := by rfl)
    :
    DE K Ox O W X (.Call (.Name "sorted" p) [.Call (.Name "set" p2) [a] [] pos2] [] pos) (tCB (rSortedSet X.w) (tCons (tCB (rSetTup K X.w) tr) tNil)) (uCB (one dSortedSet) ur) := ⟨fun g => by
  subst hK
  exact pe_callB (cr_sortedSet hc) hg1 hm1 (by decide +kernel) (pa_cons (pe_callTy (cr_setTup hc) hg2 hm2 (by decide +kernel) (ha.p g) (he := he)) pa_nil hs) (he := hs), rf_sortedSet ha.r⟩
end
end Dv
set_option Elab.async false
set_option linter.all false
set_option maxRecDepth 100000
set_option maxHeartbeats 4000000
/-! Fv6: defs whose result is new; calls that hand over a new thing. -/
namespace Dv
open PySem PySem.Spec PyProof.Rows L2 Eu
theorem call_enX {K : PySem.W.Frag} {B : Bs} {Z : Zs} {O : List Nat} {σ : L2.St} {H : Hp} {Γ : Sl} {vs : List V} {ars : List Ar} {ds : List D} (e : En K B Z O σ H Γ) (r : RpAs K O σ (hO H σ O Z) vs ars) (hd : deref Γ ars = some ds) (nd : (slotsOf ars).Nodup) :
    ∃ Zc, En K ⟨hO H σ O Z, []⟩ Zc (ioOf 0 ars) (vs.map some) H (ds.map some) ∧
      (∀ (Zx : Zs) H' (ds' : List D), (∀ q ∈ Zx, q.1 ∉ zA Zc) → ds'.length = ds.length → En K ⟨hO H σ O Z, []⟩ (Zx ++ Zc) (ioOf 0 ars) (vs.map some) H' (ds'.map some) → En K B (Zx ++ Z) O σ H' (putB Γ ars ds')) ∧
      (∀ (Zx : Zs) H', Le (hO H' (vs.map some) (ioOf 0 ars) (Zx ++ Zc)) (hO H' σ O (Zx ++ Z))) ∧ ∀ a, a ∈ zA Z → a ∈ zA Zc := by
  have slO : ∀ {i}, i ∈ slotsOf ars → i ∈ O := fun {i} h => by
    obtain ⟨k, hk⟩ := slots_mem.mp h
    obtain ⟨v, _, h2⟩ := r.at hk
    exact h2.1
  have ioA : ∀ {a}, a ∈ oA (vs.map some) (ioOf 0 ars) ↔ ∃ i ∈ slotsOf ars, σ[i]? = some (some (.ref a)) := fun {a} => by
    rw [mem_oA]
    constructor
    · rintro ⟨k, hk, q⟩
      obtain ⟨j, i, rfl, hj⟩ := io_mem.mp hk
      rw [Nat.zero_add] at q
      obtain ⟨v, h1, h2⟩ := r.at hj
      rw [mapSome, h1] at q
      cases q
      exact ⟨i, slots_mem.mpr ⟨j, hj⟩, h2.2⟩
    · rintro ⟨i, hi, q⟩
      obtain ⟨k, hk⟩ := slots_mem.mp hi
      obtain ⟨v, h1, h2⟩ := r.at hk
      refine ⟨k, io_mem.mpr ⟨k, i, by omega, hk⟩, ?_⟩
      rw [mapSome, h1]
      rw [h2.2] at q
      cases q
      rfl
  let Oth := O.filter fun i => decide (i ∉ slotsOf ars)
  let Zc : Zs := (oA σ Oth).map (fun a => (a, (H a).getD (.lst []))) ++ Z
  have othO : ∀ {i}, i ∈ Oth ↔ i ∈ O ∧ i ∉ slotsOf ars := fun {i} => by
    show i ∈ O.filter _ ↔ _
    rw [List.mem_filter]
    simp
  have zcA : ∀ {a}, a ∈ zA Zc ↔ a ∈ oA σ Oth ∨ a ∈ zA Z := fun {a} => by
    show a ∈ List.map (·.1) (_ ++ Z) ↔ _
    rw [List.map_append, List.mem_append, List.map_map]
    constructor
    · rintro (h | h)
      · obtain ⟨b, hb, rfl⟩ := List.mem_map.mp h
        exact .inl hb
      · exact .inr h
    · rintro (h | h)
      · exact .inl (List.mem_map.mpr ⟨a, h, rfl⟩)
      · exact .inr h
  have hid : ∀ {a}, a ∈ oA (vs.map some) (ioOf 0 ars) ++ zA Zc ↔ a ∈ oA σ O ++ zA Z := fun {a} => by
    rw [List.mem_append, List.mem_append, ioA, zcA]
    constructor
    · rintro (⟨i, hi, q⟩ | h | h)
      · exact .inl (mem_oA.mpr ⟨i, slO hi, q⟩)
      · exact .inl (oA_sub (fun i hi => (othO.mp hi).1) a h)
      · exact .inr h
    · rintro (h | h)
      · obtain ⟨i, hi, q⟩ := mem_oA.mp h
        by_cases hs : i ∈ slotsOf ars
        · exact .inl ⟨i, hs, q⟩
        · exact .inr (.inl (mem_oA.mpr ⟨i, othO.mpr ⟨hi, hs⟩, q⟩))
      · exact .inr (.inr h)
  have l1 : ∀ H', Le (hO H' σ O Z) (hO H' (vs.map some) (ioOf 0 ars) Zc) := fun H' => Le.less fun a h => hid.mp h
  have zAm : ∀ (x y : Zs) (a : Addr), a ∈ zA (x ++ y) ↔ a ∈ zA x ∨ a ∈ zA y := fun x y a => by unfold zA; rw [List.map_append, List.mem_append]
  have hidx : ∀ {Zx : Zs} {a}, a ∈ oA (vs.map some) (ioOf 0 ars) ++ zA (Zx ++ Zc) ↔ a ∈ oA σ O ++ zA (Zx ++ Z) := fun {Zx a} => by
    have h := @hid a
    rw [List.mem_append, List.mem_append] at h
    rw [List.mem_append, List.mem_append, zAm Zx Zc a, zAm Zx Z a]
    generalize (a ∈ oA (vs.map some) (ioOf 0 ars)) = p1 at h ⊢
    generalize (a ∈ zA Zc) = p2 at h ⊢
    generalize (a ∈ oA σ O) = p3 at h ⊢
    generalize (a ∈ zA Z) = p4 at h ⊢
    generalize (a ∈ zA Zx) = p5
    constructor
    · rintro (q | q | q)
      · exact (h.mp (.inl q)).elim .inl fun z => .inr (.inr z)
      · exact .inr (.inl q)
      · exact (h.mp (.inr q)).elim .inl fun z => .inr (.inr z)
    · rintro (q | q | q)
      · exact (h.mpr (.inl q)).elim .inl fun z => .inr (.inr z)
      · exact .inr (.inl q)
      · exact (h.mpr (.inr q)).elim .inl fun z => .inr (.inr z)
  have l2 : ∀ (Zx : Zs) H', Le (hO H' (vs.map some) (ioOf 0 ars) (Zx ++ Zc)) (hO H' σ O (Zx ++ Z)) := fun Zx H' => Le.less fun a h => hidx.mpr h
  refine ⟨Zc, ⟨?_, fun k d hk q => ?_, fun k hk => ?_, fun k hk j hj n a h1 h2 => ?_, fun p hp => ?_, fun p hp q => ?_, l1 H, fun p hp => nomatch hp⟩, fun Zx H' ds' hZx hl ec => ?_, l2, fun a h => zcA.mpr (.inr h)⟩
  · rw [List.length_map, List.length_map, r.length, deref_len hd]
  · rw [mapSome] at q
    have hkl : k < ars.length := by rw [← deref_len hd]; exact (List.getElem?_eq_some_iff.mp q).1
    have hk' : ars[k]? = some ars[k] := List.getElem?_eq_getElem hkl
    cases ha : ars[k] with
    | s i =>
      rw [ha] at hk'
      exact absurd (io_mem.mpr ⟨k, i, by omega, hk'⟩) hk
    | v x =>
      rw [ha] at hk'
      obtain ⟨v, h1, h2⟩ := r.at hk'
      have := deref_v hd hk'
      rw [this] at q
      cases q
      exact ⟨v, mapSome.mpr h1, Rp.le h2 (l1 H)⟩
  · obtain ⟨j, i, rfl, hj⟩ := io_mem.mp hk
    rw [Nat.zero_add]
    obtain ⟨v, h1, h2⟩ := r.at hj
    obtain ⟨d, h3, h4⟩ := deref_s hd hj
    obtain ⟨a, d', h5, h6, h7⟩ := e.own i h2.1
    rw [h4] at h6
    cases h6
    rw [h2.2] at h5
    cases h5
    exact ⟨a, d, mapSome.mpr h1, mapSome.mpr h3, h7.mono rfl (l1 H)⟩
  · obtain ⟨k', i, e1, hk'⟩ := io_mem.mp hk
    obtain ⟨j', i', e2, hj'⟩ := io_mem.mp hj
    have e1 : k = k' := by omega
    have e2 : j = j' := by omega
    subst e1 e2
    obtain ⟨v, g1, g2⟩ := r.at hk'
    obtain ⟨v', g3, g4⟩ := r.at hj'
    rw [mapSome, g1] at h1
    rw [mapSome, g3] at h2
    cases h1
    cases h2
    by_cases hii : i = i'
    · subst hii
      exact n (by
        -- two places of one slot
        have : ∀ {l : List Ar} {k j : Nat}, (slotsOf l).Nodup → l[k]? = some (.s i) → l[j]? = some (.s i) → k = j := by
          intro l
          induction l with
          | nil => intro k j _ h; simp at h
          | cons x l ih =>
            intro k j nd hk hj
            cases x with
            | v d =>
              cases k with
              | zero => simp at hk
              | succ k =>
                cases j with
                | zero => simp at hj
                | succ j => exact congrArg (· + 1) (ih nd (by simpa using hk) (by simpa using hj))
            | s q =>
              have nd' := List.nodup_cons.mp nd
              cases k with
              | zero =>
                cases j with
                | zero => rfl
                | succ j =>
                  simp at hk
                  subst hk
                  exact absurd (slots_mem.mpr ⟨j, by simpa using hj⟩) nd'.1
              | succ k =>
                cases j with
                | zero =>
                  simp at hj
                  subst hj
                  exact absurd (slots_mem.mpr ⟨k, by simpa using hk⟩) nd'.1
                | succ j => exact congrArg (· + 1) (ih nd'.2 (by simpa using hk) (by simpa using hj))
        exact this nd hk' hj')
    · exact e.ne i g2.1 i' g4.1 hii a g2.2 g4.2
  · rcases List.mem_append.mp hp with hp | hp
    · obtain ⟨a, ha, rfl⟩ := List.mem_map.mp hp
      have : H a ≠ none := e.oa (oA_sub (fun i hi => (othO.mp hi).1) a ha)
      show H a = some ((H a).getD (.lst []))
      cases h : H a with
      | none => exact absurd h this
      | some o => rfl
    · exact e.zs p hp
  · obtain ⟨i, hi, hq⟩ := ioA.mp q
    rcases List.mem_append.mp hp with hp | hp
    · obtain ⟨a, ha, rfl⟩ := List.mem_map.mp hp
      obtain ⟨j, hj, hq'⟩ := mem_oA.mp ha
      obtain ⟨hj1, hj2⟩ := othO.mp hj
      exact e.ne i (slO hi) j hj1 (fun z => hj2 (z ▸ hi)) a hq hq'
    · exact e.zo p hp (mem_oA.mpr ⟨i, slO hi, hq⟩)
  · have lb : Le (hO H σ O Z) (hO H' σ O (Zx ++ Z)) := ec.bs.trans (l2 Zx H')
    refine ⟨e.len.trans putB_len.symm, fun i d hi q => ?_, fun i hi => ?_, e.ne, fun p hp => ?_, fun p hp q => ?_, e.bs.trans lb, e.ad⟩
    rotate_left 2
    · rcases List.mem_append.mp hp with hp | hp
      · exact ec.zs p (List.mem_append_left _ hp)
      · exact ec.zs p (List.mem_append_right _ (List.mem_append_right _ hp))
    · rcases List.mem_append.mp hp with hp | hp
      · obtain ⟨i, hi, hq⟩ := mem_oA.mp q
        by_cases hs : i ∈ slotsOf ars
        · exact ec.zo p (List.mem_append_left _ hp) (ioA.mpr ⟨i, hs, hq⟩)
        · exact hZx p hp (zcA.mpr (.inl (mem_oA.mpr ⟨i, othO.mpr ⟨hi, hs⟩, hq⟩)))
      · exact e.zo p hp q
    · rw [putB_out (fun z => hi (slO z))] at q
      obtain ⟨v, h1, h2⟩ := e.val i d hi q
      exact ⟨v, h1, h2.le lb⟩
    · obtain ⟨a, d, h1, h2, h3⟩ := e.own i hi
      by_cases hs : i ∈ slotsOf ars
      · obtain ⟨k, hk⟩ := slots_mem.mp hs
        obtain ⟨v, g1, g2⟩ := r.at hk
        obtain ⟨b, x, q1, q2, q3⟩ := ec.own k (io_mem.mpr ⟨k, i, by omega, hk⟩)
        rw [mapSome, g1] at q1
        cases q1
        have : a = b := by
          have := g2.2
          rw [h1] at this
          cases this
          rfl
        subst this
        exact ⟨a, x, h1, putB_in nd hk (mapSome.mp q2) (by rw [← e.len]; exact (List.getElem?_eq_some_iff.mp h1).1), q3.mono rfl (l2 Zx H')⟩
      · refine ⟨a, d, h1, by rw [putB_out hs]; exact h2, h3.mono ?_ lb⟩
        have hz := ec.zs (a, (H a).getD (.lst [])) (List.mem_append_right _ (List.mem_append_left _ (List.mem_map.mpr ⟨a, mem_oA.mpr ⟨i, othO.mpr ⟨hi, hs⟩, h1⟩, rfl⟩)))
        show H' a = H a
        have hz' : H' a = some ((H a).getD (.lst [])) := hz
        rw [hz']
        cases h : H a with
        | none => exact absurd h h3.some
        | some o => rfl

/-- a contract whose result is new -/
def liftN (K : PySem.W.Frag) (io : List Nat) (sp : SpD) : Sp := fun vs H Q E => ∃ B Z ds, B.ad = [] ∧ En K B Z io (vs.map some) H (ds.map some) ∧
  sp ds (fun r ds' => ds'.length = ds.length → ∀ p o H', En K B ((p, o) :: Z) io (vs.map some) H' (ds'.map some) → p ∉ zA Z → Own K (hO H' (vs.map some) io ((p, o) :: Z)) H' p r → Q (.ref p) H')
    (fun x ds' => ds'.length = ds.length → ∀ dd fs' H', En K B Z io (vs.map some) H' (ds'.map some) → hO H' (vs.map some) io Z dd = some (.xd fs') → Rpf K (hO H' (vs.map some) io Z) fs' x.2 → E (.ref x.1) (some dd) H')
structure CalN (P : Program) (w : World) (K : PySem.W.Frag) (mg : Str → Option Value) (base : Heap) (k : Nat) (x : Str) (io : List Nat) (sp : SpD) : Prop where
  c : CalX P w K mg base k x (liftN K io sp) []
  mono : sp.Mono
section
variable {K : PySem.W.Frag} {Ox O io : List Nat} {W : WX} {X : Cx} {a b : Expr} {es : List Expr} {ta : TE} {ua : UE} {pos p : Pos} {t : TA} {u : UAr} {x : Str} {sp : SpD} {k j : Nat}
theorem rf_callN (hx : ∀ i ∈ Ox, i ∈ O) (mono : sp.Mono) {t : TA} (hr : DAr K Ox O W X es t u) :
    RfF K Ox O W (fun σ H Q => t σ H fun vs H1 => liftN K io sp vs H1 Q (fun cls d H' => W cls d σ H')) (uCall Ox O sp io u) := by
  intro B Z σ H Γ Q Qd Ex e ex hu kk
  refine hr.r B Z σ H Γ _ _ Ex e ex hu fun vs H1 ars Γ1 e1 r1 q1 => ?_
  obtain ⟨ds, hd, hio, nd, q⟩ := q1
  obtain ⟨Zc, ec, back, l2, zc⟩ := call_enX e1 r1 hd nd
  rw [hio] at ec back l2
  refine ⟨_, Zc, ds, rfl, ec, mono _ _ _ _ _ (fun r ds' q' hl p o H' ec' np w => ?_) (fun xd ds' q' hl dd fs' H' ec' hdd rv => ?_) q⟩
  · exact kk p o H' r _ (back [(p, o)] H' ds' (by simpa using np) hl ec') (fun z => np (zc _ z)) (w.mono rfl (l2 [(p, o)] H')) q'
  · have e2 := back [] H' ds' (by simp) hl ec'
    exact ex.go σ H' _ xd.1 xd.2 dd fs' (e2.cut hx) ((hO_sub hx).lc.xd ((l2 [] H').lc.xd hdd)) ((rv.le (l2 [] H')).le (hO_sub hx)) q'
theorem df_callN (c : CalN X.prog X.w K X.mg X.base k x io sp) (hr : Rm j X.A) (hk : k ≤ j) (hg : Gl X x) (hx : ∀ i ∈ Ox, i ∈ O) (ha : DAr K Ox O W X (a :: es) t u) (hK : X.K = K := by rfl)
    (hdb : (x == ("__debug__" : Str)) = false := by decide)
    (he : starEach (a :: es) X.env = (false, eval a X.env) :: starEach es X.env := by rfl)
    (hpl : (backTo pos (starEach es X.env)).any (·.1) = false := by rfl) :
    DF K Ox O W X (.Call (.Name x p) (a :: es) [] pos) (tCallS (liftN K io sp) (fun σ cls d H => W cls d σ H) t) (uCall Ox O sp io u) := ⟨fun g => by
  subst hK
  exact pe_cS c.c hr hk g.pass hg (ha.p g) hdb he hpl, rf_callN hx c.mono ha⟩
end
/-! ### a block that ends by returning something new -/
def RfR (K : PySem.W.Frag) (Ox O : List Nat) (W : WX) (t : TS) (u : US) : Prop := ∀ B Z σ H Γ (D : Ends) (ED : EndsD), (∀ p ∈ B.ad, p.1 ∈ Ox) → En K B Z O σ H Γ → ExO K B Z Ox W ED.ex → u ED Γ →
  (∀ p o σ' H' d Γ', En K B ((p, o) :: Z) Ox σ' H' Γ' → p ∉ zA Z → Own K (hO H' σ' Ox ((p, o) :: Z)) H' p d → ED.rt d Γ' → D.rt (.ref p) H') → t D σ H
structure DR (K : PySem.W.Frag) (Ox O : List Nat) (W : WX) (X : Cx) (st : List Stmt) (t : TS) (u : US) : Prop where
  p : Lt X W → Po X → PSs X st t
  r : RfR K Ox O W t u
def uSeqR (u1 u2 : US) : US := fun ED Γ => u1 { nx := u2 ED, rt := fun _ _ => False, ex := ED.ex } Γ
def fSeqR (f g : Fs) : Fs := fun Γ => match f Γ with
  | .nx Γ1 => g Γ1
  | .ex x Γ1 => .ex x Γ1
  | _ => .no
section
variable {K : PySem.W.Frag} {Ox O O1 io : List Nat} {W : WX} {X : Cx} {a : Expr} {ta : TE} {ua : UE} {pos : Pos} {st : Stmt} {rest : List Stmt} {t1 t2 : TS} {u1 u2 : US} {f1 f2 : Fs}
theorem dr_ret (h : DF K Ox O W X a ta ua) (hs : ∀ i ∈ Ox, i ∈ O) : DR K Ox O W X [.Return (some a) pos] (tRet ta) (uRet Ox O ua) := ⟨fun g po => pss_one (ps_ret (h.p g)), by
  intro B Z σ H Γ D ED hB e ex hu rt
  refine h.r B Z σ H Γ _ _ ED.ex e ex hu fun p o H' d Γ' e' np w q => ?_
  refine rt p o σ H' d _ (e'.cut hs) np (w.mono rfl (hO_sub hs)) q⟩
theorem dr_cons (h1 : DS K Ox O W [] O1 X st t1 u1) (h2 : DR K Ox O1 W X rest t2 u2) : DR K Ox O W X (st :: rest) (tSeq t1 t2) (uSeqR u1 u2) := ⟨fun g po => pss_cons (h1.p g po) (h2.p g po), by
  intro B Z σ H Γ D ED hB e ex hu rt
  refine h1.r B Z σ H Γ _ { nx := u2 ED, rt := fun _ _ => False, ex := ED.ex } hB e ex hu (fun σ' H' Γ' e' q => ?_) (fun _ _ _ _ _ _ _ z => z.elim) (fun _ _ _ _ z => z.elim) (fun _ _ _ _ z => z.elim)
  exact h2.r B Z σ' H' Γ' D ED hB e' ex q rt⟩
instance cs_seqR [h1 : CuS f1 u1] [h2 : CuS f2 u2] : CuS (fSeqR f1 f2) (uSeqR u1 u2) := ⟨fun ED Γ h => h1.h _ _ (by
  unfold fSeqR at h
  cases q : f1 Γ <;> rw [q] at h <;> first | exact h2.h _ _ h | exact h)⟩
end
section
variable {P : Program} {w : World} {K : PySem.W.Frag} {mg : Str → Option Value} {base : Heap}
theorem en_endX {K : PySem.W.Frag} {B : Bs} {Z Zx : Zs} {io : List Nat} {H H' : Hp} {vs : List V} {ds : List D} {σ' : L2.St} {Γ' : Sl} (e : En K B Z io (vs.map some) H (ds.map some)) (hB : B.ad = []) (e' : En K ⟨hO H (vs.map some) io Z, pinned vs io⟩ (Zx ++ Z) io σ' H' Γ') :
    En K B (Zx ++ Z) io (vs.map some) H' ((backD io ds Γ').map some) ∧ ∀ H, Le (hO H σ' io (Zx ++ Z)) (hO H (vs.map some) io (Zx ++ Z)) := by
  have hlen : vs.length = ds.length := by have := e.len; rwa [List.length_map, List.length_map] at this
  have pin : ∀ {i a}, i ∈ io → (vs.map some)[i]? = some (some (.ref a)) → σ'[i]? = some (some (.ref a)) := fun {i a} hi q => e'.ad (i, a) (pinned_mem.mpr ⟨hi, mapSome.mp q⟩)
  have mem : ∀ {a}, a ∈ oA σ' io ↔ a ∈ oA (vs.map some) io := fun {a} => by
    rw [mem_oA, mem_oA]
    constructor
    · rintro ⟨i, hi, q⟩
      obtain ⟨b, d, h1, _⟩ := e.own i hi
      have := pin hi h1
      rw [q] at this
      cases this
      exact ⟨i, hi, h1⟩
    · rintro ⟨i, hi, q⟩
      exact ⟨i, hi, pin hi q⟩
  have l1 : ∀ H, Le (hO H σ' io (Zx ++ Z)) (hO H (vs.map some) io (Zx ++ Z)) := fun H => Le.less fun a h => by
    rcases List.mem_append.mp h with h | h
    · exact List.mem_append_left _ (mem.mpr h)
    · exact List.mem_append_right _ h
  have lb : Le (hO H (vs.map some) io Z) (hO H' (vs.map some) io (Zx ++ Z)) := e'.bs.trans (l1 H')
  refine ⟨⟨by rw [List.length_map, List.length_map, backD_len]; exact hlen, fun i d hi q => ?_, fun i hi => ?_, e.ne, e'.zs, fun p hp q => e'.zo p hp (mem.mpr q), e.bs.trans lb, fun p hp => by rw [hB] at hp; cases hp⟩, l1⟩
  · rw [mapSome, backD_out hi] at q
    obtain ⟨v, h1, h2⟩ := e.val i d hi (mapSome.mpr q)
    exact ⟨v, h1, h2.le lb⟩
  · obtain ⟨a, d, h1, h2, h3⟩ := e.own i hi
    obtain ⟨b, x, g1, g2, g3⟩ := e'.own i hi
    have := pin hi h1
    rw [g1] at this
    cases this
    exact ⟨a, x, h1, mapSome.mpr (backD_in hi (List.getElem?_eq_some_iff.mp (mapSome.mp h2)).1 g2), g3.mono rfl (l1 H')⟩

theorem body_n {X : Cx} {body : List Stmt} {t : TS} {u : US} {io : List Nat} {sp : SpD} {E : XK} {vs : List V} {H : Hp} {Q : VK} {N : List Str} (h : DR K io io (WE E) X body t u) (ha : Asks io N.length sp u) (hs : liftN K io sp vs H Q E) (hl : vs.length ≤ N.length) :
    t { nx := fun _ H' => Q .non H', rt := Q } (start N vs) H := by
  obtain ⟨B, Z, ds, hB, e, q⟩ := hs
  have e0 := en_start (N := N) e hl
  refine h.r _ Z _ H _ _ _ (fun p hp => (pinned_mem.mp hp).1) e0 ?_ (ha ds _ _ q) ?_
  · refine ⟨fun p hp => (pinned_mem.mp hp).1, ?_⟩
    intro σ' H' Γ' C fs dd fs' e' hdd r x
    obtain ⟨e1, l1⟩ := en_end e hB e'
    exact x backD_len dd fs' H' e1 ((l1 H').lc.xd hdd) (r.le (l1 H'))
  · intro p o σ' H' d Γ' e' np w x
    obtain ⟨e1, l1⟩ := en_endX (Zx := [(p, o)]) e hB e'
    exact x backD_len p o H' e1 np (w.mono rfl (l1 H'))
/-- a def whose result is new -/
theorem calFN {x : Str} {st : Stmt} {N ps : List Str} {k : Nat} {io : List Nat} {b : Fs} (D : Df K mg x st) (S : FnScope N ps (defScope st))
    (hbd : ∀ (kV doc pm : Value) (an : Option Addr) (cdv ct : Value) (us : List Value), us.length = ps.length →
      bindArgs (PySem.W.fnOf x x (defArgs st) (defBody st) (defScope st) .none kV doc pm an cdv ct) ⟨us, []⟩ = pure (ps.zip us))
    (hl : ps.length ≤ N.length)
    (hb : ∀ (f : Addr) (cdv : Value) (A : Around) (out : List Env) (s : Shared) (H : Hp) (E : XK),
      Rm k (A.deeper (envOfC x (defScope st) s.heap.objs.size f cdv)) →
      ∃ t u, DR K io io (WE E) (cxOf (L2.CX P w) P w K mg base N x (defScope st) f cdv A out s H E) (defBody st) t u ∧ CuS b u) : CalN P w K mg base (k + 1) x io (spF (fDef ps.length N.length io b)) := by
  have vl : ∀ vs H Q E, liftN K io (spF (fDef ps.length N.length io b)) vs H Q E → vs.length = ps.length := fun vs H Q E h => by
    obtain ⟨B, Z, ds, hB, e, q⟩ := h
    have := e.len
    rw [List.length_map, List.length_map] at this
    rw [this]
    exact fDef_len _ _ _ q
  refine ⟨D.calX S hbd vl fun f cdv A out s H vs Q E hr hs => ?_, spF_mono _⟩
  obtain ⟨t, u, h, c⟩ := hb f cdv A out s H E hr
  exact ⟨t, h.p ltX ownX, body_n h fDef_asks hs (by rw [vl _ _ _ _ hs]; exact hl)⟩
end
/-! ### f(new, e, ..): the first argument is new, and the callee may change it -/
section
variable {K : PySem.W.Frag} {B : Bs} {Z : Zs} {O : List Nat} {σ : L2.St} {H H' : Hp} {Γ Γ' : Sl} {p : Addr} {o : HO} {d : D}
theorem oA_pad {x : Option V} : ∀ {O : List Nat}, (∀ i ∈ O, i < σ.length) → oA (σ ++ [x]) O = oA σ O
  | [], _ => rfl
  | i :: O, h => by
    have q := oA_pad (x := x) (O := O) fun j hj => h j (List.mem_cons_of_mem _ hj)
    unfold oA at q ⊢
    rw [List.filterMap_cons, List.filterMap_cons, List.getElem?_append_left (h i List.mem_cons_self), q]
theorem En.lt (e : En K B Z O σ H Γ) {i : Nat} (hi : i ∈ O) : i < σ.length := by
  obtain ⟨a, d, h, _⟩ := e.own i hi
  exact (List.getElem?_eq_some_iff.mp h).1
theorem En.pad (e : En K B Z O σ H Γ) : En K B Z O (σ ++ [none]) H (Γ ++ [none]) := by
  have hA : oA (σ ++ [none]) O = oA σ O := oA_pad fun i hi => e.lt hi
  have hh : ∀ H, hO H (σ ++ [none]) O Z = hO H σ O Z := fun H => by unfold hO; rw [hA]
  refine ⟨by simp [e.len], fun i x hi q => ?_, fun i hi => ?_, fun i hi j hj n a h1 h2 => ?_, e.zs, fun q hq z => e.zo q hq (hA ▸ z), by rw [hh]; exact e.bs, fun q hq => ?_⟩
  · by_cases hl : i < Γ.length
    · rw [List.getElem?_append_left hl] at q
      obtain ⟨v, h1, h2⟩ := e.val i x hi q
      refine ⟨v, ?_, by rw [hh]; exact h2⟩
      rw [List.getElem?_append_left (by rw [e.len]; exact hl)]
      exact h1
    · rw [List.getElem?_append_right (Nat.le_of_not_lt hl)] at q
      cases hk : i - Γ.length with
      | zero => rw [hk] at q; simp at q
      | succ k => rw [hk] at q; simp at q
  · obtain ⟨a, x, h1, h2, h3⟩ := e.own i hi
    have l := e.lt hi
    exact ⟨a, x, by rw [List.getElem?_append_left l]; exact h1, by rw [List.getElem?_append_left (by rw [← e.len]; exact l)]; exact h2, by rw [hh]; exact h3⟩
  · rw [List.getElem?_append_left (e.lt hi)] at h1
    rw [List.getElem?_append_left (e.lt hj)] at h2
    exact e.ne i hi j hj n a h1 h2
  · have := e.ad q hq
    rw [List.getElem?_append_left (List.getElem?_eq_some_iff.mp this).1]
    exact this
/-- without the slot behind the others -/
theorem En.unpad {x : Option V} {y : Option D} {σ0 : L2.St} {Γ0 : Sl} (e : En K B Z (Γ0.length :: O) (σ0 ++ [x]) H (Γ0 ++ [y])) (hO : ∀ i ∈ O, i < Γ0.length) (hB : ∀ q ∈ B.ad, q.1 < Γ0.length) : En K B Z O σ0 H Γ0 := by
  have hl : σ0.length = Γ0.length := by have := e.len; simpa using this
  have sub : ∀ H, Le (Dv.hO H (σ0 ++ [x]) (Γ0.length :: O) Z) (Dv.hO H σ0 O Z) := fun H => Le.less fun a h => by
    rcases List.mem_append.mp h with h | h
    · obtain ⟨i, hi, q⟩ := mem_oA.mp h
      refine List.mem_append_left _ (mem_oA.mpr ⟨i, List.mem_cons_of_mem _ hi, ?_⟩)
      rw [List.getElem?_append_left (by rw [hl]; exact hO i hi)]
      exact q
    · exact List.mem_append_right _ h
  refine ⟨hl, fun i d hi q => ?_, fun i hi => ?_, fun i hi j hj n a h1 h2 => ?_, e.zs, fun p hp z => ?_, e.bs.trans (sub H), fun p hp => ?_⟩
  · have hil : i < Γ0.length := (List.getElem?_eq_some_iff.mp q).1
    obtain ⟨v, h1, h2⟩ := e.val i d (fun z => by rcases List.mem_cons.mp z with z | z; omega; exact hi z) (by rw [List.getElem?_append_left hil]; exact q)
    rw [List.getElem?_append_left (by rw [hl]; exact hil)] at h1
    exact ⟨v, h1, h2.le (sub H)⟩
  · obtain ⟨a, d, h1, h2, h3⟩ := e.own i (List.mem_cons_of_mem _ hi)
    rw [List.getElem?_append_left (by rw [hl]; exact hO i hi)] at h1
    rw [List.getElem?_append_left (hO i hi)] at h2
    exact ⟨a, d, h1, h2, h3.mono rfl (sub H)⟩
  · exact e.ne i (List.mem_cons_of_mem _ hi) j (List.mem_cons_of_mem _ hj) n a (by rw [List.getElem?_append_left (by rw [hl]; exact hO i hi)]; exact h1) (by rw [List.getElem?_append_left (by rw [hl]; exact hO j hj)]; exact h2)
  · obtain ⟨i, hi, q⟩ := mem_oA.mp z
    exact e.zo p hp (mem_oA.mpr ⟨i, List.mem_cons_of_mem _ hi, by rw [List.getElem?_append_left (by rw [hl]; exact hO i hi)]; exact q⟩)
  · have := e.ad p hp
    rw [List.getElem?_append_left (by rw [hl]; exact hB p hp)] at this
    exact this
theorem ExO.hid {Ox : List Nat} {W : WX} {Ex : UX} (h : ExO K B Z Ox W Ex) : ExO K B ((p, o) :: Z) Ox W Ex := ⟨h.ad, fun σ H Γ C fs dd fs' e hd r x => by
  have l : Le (hO H σ Ox ((p, o) :: Z)) (hO H σ Ox Z) := Le.less fun a h => by
    rcases List.mem_append.mp h with h | h
    · exact List.mem_append_left _ h
    · exact List.mem_append_right _ (List.mem_cons_of_mem _ h)
  exact h.go σ H Γ C fs dd fs' e.unz (l.lc.xd hd) (r.le l) x⟩
end
def uCallT (Ox O : List Nat) (g : Fn) (ua : UE) (ur : UA) : UE := fun Γ Q Ex => ua Γ (fun d Γ1 => ur Γ1 (fun ds Γ2 => (g (d :: ds)).wp (fun r _ => Q r Γ2) (fun x _ => Ex x (cut Ox O Γ2))) Ex) Ex
def fCallT (Ox O : List Nat) (g : Fn) (fa : Fe) (fr : Fa) : Fe := fun Γ => (fa Γ).bind fun d Γ1 => (fr Γ1).bind fun ds Γ2 => (g (d :: ds)).back Γ2 (cut Ox O)
section
variable {K : PySem.W.Frag} {Ox O : List Nat} {W : WX} {X : Cx} {a : Expr} {es : List Expr} {ta : TE} {ua : UE} {tr : TA} {ur : UA} {pos p : Pos} {x : Str} {g : Fn} {k j : Nat} {fa : Fe} {fr : Fa}
instance cu_callT [ha : Cu fa ua] [hr : Cu fr ur] : Cu (fCallT Ox O g fa fr) (uCallT Ox O g ua ur) := ⟨fun Γ Q Ex h => ha.h _ _ _ (R.wp_mono (R.wp_bind.mp h) (fun d Γ1 h => hr.h _ _ _ (R.wp_mono (R.wp_bind.mp h) (fun ds Γ2 h => wp_back h) fun _ _ h => h)) fun _ _ h => h)⟩
theorem rf_callT (hx : ∀ i ∈ Ox, i ∈ O) (ha : RfF K Ox O W ta ua) (hr : RfA K Ox O W tr ur) :
    RfE K Ox O W (fun σ H Q => tCons ta tr σ H fun vs H1 => lift K [0] (spF g) vs H1 Q (fun cls d H' => W cls d σ H')) (uCallT Ox O g ua ur) := by
  intro B Z σ H Γ Q Qd Ex e ex hu kk
  refine ha B Z σ H Γ _ _ Ex e ex hu fun p o H1 d Γ1 e1 np w q1 => ?_
  refine hr ⟨hO H1 σ O ((p, o) :: Z), B.ad⟩ ((p, o) :: Z) σ H1 Γ1 _ _ Ex e1.self (ex.hid.at e1) q1 fun xs H2 ds Γ2 e2 r2 q2 => ?_
  have e3 : En K B ((p, o) :: Z) O σ H2 Γ2 := e1.back e2
  have hp1 : H1 p = some o := e1.zs (p, o) List.mem_cons_self
  have hp2 : H2 p = some o := e3.zs (p, o) List.mem_cons_self
  have w2 : Own K (hO H2 σ O ((p, o) :: Z)) H2 p d := w.mono (by rw [hp1, hp2]) e2.le
  have hl : σ.length = Γ2.length := e3.len
  have adl : ∀ q ∈ B.ad, q.1 < Γ2.length := fun q hq => by rw [← hl]; exact (List.getElem?_eq_some_iff.mp (e3.ad q hq)).1
  have olt : ∀ i ∈ O, i < Γ2.length := fun i hi => by rw [← hl]; exact e3.lt hi
  have hA : oA (σ ++ [none]) O = oA σ O := oA_pad fun i hi => e3.lt hi
  have e4 := En.take (e3.pad) (i := Γ2.length) (d := d) (O' := Γ2.length :: O) (by simp) (fun q hq z => by have := adl q hq; omega) (fun j => List.mem_cons) np (by
    have : hO H2 (σ ++ [none]) O ((p, o) :: Z) = hO H2 σ O ((p, o) :: Z) := by unfold hO; rw [hA]
    rw [this]; exact w2)
  have es1 : (σ ++ [none]).set Γ2.length (some (V.ref p)) = σ ++ [some (V.ref p)] := by rw [← hl]; simp
  have es2 : ∀ y : Option D, (Γ2 ++ [none]).set Γ2.length y = Γ2 ++ [y] := fun y => by simp
  rw [es1, es2] at e4
  have r4 : RpAs K (Γ2.length :: O) (σ ++ [some (V.ref p)]) (hO H2 (σ ++ [some (V.ref p)]) (Γ2.length :: O) Z) (.ref p :: xs) (.s Γ2.length :: ds.map Ar.v) := by
    refine .cons ⟨List.mem_cons_self, by rw [← hl]; simp⟩ (RpAs.vals (r2.le (Le.less fun a h => ?_)))
    rcases List.mem_append.mp h with h | h
    · obtain ⟨i, hi, q⟩ := mem_oA.mp h
      rcases List.mem_cons.mp hi with z | hi
      · subst z
        rw [← hl] at q
        simp at q
        subst q
        exact List.mem_append_right _ List.mem_cons_self
      · refine List.mem_append_left _ (mem_oA.mpr ⟨i, hi, ?_⟩)
        rwa [List.getElem?_append_left (e3.lt hi)] at q
    · exact List.mem_append_right _ (List.mem_cons_of_mem _ h)
  have hd : deref (Γ2 ++ [some d]) (.s Γ2.length :: ds.map Ar.v) = some (d :: ds) := by
    simp [deref, deref_v']
  have nd : (slotsOf (.s Γ2.length :: ds.map Ar.v)).Nodup := by
    show (Γ2.length :: slotsOf (ds.map Ar.v)).Nodup
    rw [slots_v]; simp
  have hio : ioOf 0 (.s Γ2.length :: ds.map Ar.v) = [0] := by
    show 0 :: ioOf 1 (ds.map Ar.v) = [0]
    rw [io_v]
  obtain ⟨Zc, ec, back, l2, _⟩ := call_enX e4 r4 hd nd
  rw [hio] at ec back l2
  have bk : ∀ H' (ds' : List D), ds'.length = (d :: ds).length → En K ⟨hO H2 (σ ++ [some (V.ref p)]) (Γ2.length :: O) Z, []⟩ Zc [0] ((V.ref p :: xs).map some) H' (ds'.map some) → En K B Z O σ H' Γ2 := fun H' ds' hlen ec' => by
    have e5 := back [] H' ds' (by simp) hlen ec'
    match ds', hlen with
    | y :: ys, _ =>
      have : putB (Γ2 ++ [some d]) (.s Γ2.length :: ds.map Ar.v) (y :: ys) = Γ2 ++ [some y] := by
        rw [putB, putB_v]; simp
      rw [this] at e5
      exact En.unpad e5 olt adl
  have lx : ∀ H', Le (hO H' ((V.ref p :: xs).map some) [0] Zc) (hO H' σ O Z) := fun H' => (l2 [] H').trans (Le.less fun a h => by
    rcases List.mem_append.mp h with h | h
    · obtain ⟨i, hi, q⟩ := mem_oA.mp h
      exact List.mem_append_left _ (mem_oA.mpr ⟨i, List.mem_cons_of_mem _ hi, by rw [List.getElem?_append_left (e3.lt hi)]; exact q⟩)
    · exact List.mem_append_right _ h)
  refine ⟨_, Zc, d :: ds, rfl, ec, R.wp_mono q2 (fun r ds' q' hlen v H' ec' rv => ?_) (fun xd ds' q' hlen dd fs' H' ec' hdd rv => ?_)⟩
  · exact kk v H' r _ (bk H' ds' hlen ec') (rv.le (lx H')) q'
  · have e2' := bk H' ds' hlen ec'
    exact ex.go σ H' _ xd.1 xd.2 dd fs' (e2'.cut hx) ((hO_sub hx).lc.xd ((lx H').lc.xd hdd)) ((rv.le (lx H')).le (hO_sub hx)) q'
theorem de_callT (c : CalD X.prog X.w K X.mg X.base k x [0] (spF g)) (hr : Rm j X.A) (hk : k ≤ j) (hg : Gl X x) (hx : ∀ i ∈ Ox, i ∈ O) (ha : DF K Ox O W X a ta ua) (hes : DA K Ox O W X es tr ur) (hK : X.K = K := by rfl)
    (hdb : (x == ("__debug__" : Str)) = false := by decide)
    (he : starEach (a :: es) X.env = (false, eval a X.env) :: starEach es X.env := by rfl)
    (hpl : (backTo pos (starEach es X.env)).any (·.1) = false := by rfl) :
    DE K Ox O W X (.Call (.Name x p) (a :: es) [] pos) (tCallS (lift K [0] (spF g)) (fun σ cls d H => W cls d σ H) (tCons ta tr)) (uCallT Ox O g ua ur) := ⟨fun g' => by
  subst hK
  exact pe_cS c.c hr hk g'.pass hg (pa_cons (ha.p g') (hes.p g') he) hdb he hpl, rf_callT hx ha.r hes.r⟩
end
end Dv
namespace Dv
open PySem PySem.Spec PyProof.Rows L2 Eu
section
variable {P : Program} {w : World} {K : PySem.W.Frag} {mg : Str → Option Value} {base : Heap}
theorem calF2 {x : Str} {st : Stmt} {N ps : List Str} {k np nn : Nat} {io : List Nat} {b : Fs} (D : Df K mg x st) (S : FnScope N ps (defScope st)) (hp : ps.length = np) (hn : N.length = nn)
    (hbd : ∀ (kV doc pm : Value) (an : Option Addr) (cdv ct : Value) (us : List Value), us.length = ps.length →
      bindArgs (PySem.W.fnOf x x (defArgs st) (defBody st) (defScope st) .none kV doc pm an cdv ct) ⟨us, []⟩ = pure (ps.zip us))
    (hl : ps.length ≤ N.length)
    (hb : ∀ (f : Addr) (cdv : Value) (A : Around) (out : List Env) (s : Shared) (H : Hp) (E : XK),
      Rm k (A.deeper (envOfC x (defScope st) s.heap.objs.size f cdv)) →
      ∃ t u O', DB K io io (WE E) [] O' (cxOf (L2.CX P w) P w K mg base N x (defScope st) f cdv A out s H E) (defBody st) t u ∧ (∀ i ∈ io, i ∈ O') ∧ CuS b u) : CalD P w K mg base (k + 1) x io (spF (fDef np nn io b)) := by
  subst hp hn
  exact calF D S hbd hl hb
theorem calFN2 {x : Str} {st : Stmt} {N ps : List Str} {k np nn : Nat} {io : List Nat} {b : Fs} (D : Df K mg x st) (S : FnScope N ps (defScope st)) (hp : ps.length = np) (hn : N.length = nn)
    (hbd : ∀ (kV doc pm : Value) (an : Option Addr) (cdv ct : Value) (us : List Value), us.length = ps.length →
      bindArgs (PySem.W.fnOf x x (defArgs st) (defBody st) (defScope st) .none kV doc pm an cdv ct) ⟨us, []⟩ = pure (ps.zip us))
    (hl : ps.length ≤ N.length)
    (hb : ∀ (f : Addr) (cdv : Value) (A : Around) (out : List Env) (s : Shared) (H : Hp) (E : XK),
      Rm k (A.deeper (envOfC x (defScope st) s.heap.objs.size f cdv)) →
      ∃ t u, DR K io io (WE E) (cxOf (L2.CX P w) P w K mg base N x (defScope st) f cdv A out s H E) (defBody st) t u ∧ CuS b u) : CalN P w K mg base (k + 1) x io (spF (fDef np nn io b)) := by
  subst hp hn
  exact calFN D S hbd hl hb
end
/-- the classes of the package -/
structure Pk where
  c : String → Nat
  errs : List Nat
end Dv
set_option Elab.async false
set_option linter.all false
set_option maxRecDepth 100000
set_option maxHeartbeats 4000000
/-! Fv7: comprehensions with their slots written out, stored into a name; owned slots. -/
namespace Dv
open PySem PySem.Spec PyProof.Rows L2 Eu
def uOwn (i : Nat) (ua : UE) : US := fun ED Γ => ua Γ (fun d Γ1 => i < Γ1.length ∧ ED.nx (Γ1.set i (some d))) ED.ex
def fOwn (i : Nat) (fa : Fe) : Fs := fun Γ => (fa Γ).then fun d Γ1 => if i < Γ1.length then .nx (Γ1.set i (some d)) else .no
instance cs_own {i : Nat} {fa : Fe} {ua : UE} [ha : Cu fa ua] : CuS (fOwn i fa) (uOwn i ua) := ⟨fun ED Γ h => ha.h _ _ _ (R.wp_mono (R.wp_then.mp h) (fun d Γ1 h => wp_iteS h) fun _ _ h => h)⟩
section
variable {K : PySem.W.Frag} {Ox O O' Ol : List Nat} {W : WX} {X : Cx} {a c elt tg iter : Expr} {ifs : List Expr} {scope : Scope} {own : List (Str × Nat)} {pos spos py pos' : Pos} {wi : TI} {ui : UA} {g : TG} {ug : UG} {tt : TT} {ut : UT} {ta te : TE} {ua ue : UE} {vs : List Nat} {i : Nat} {x y : Str} {st : Stmt}
theorem ds_own2 (hN : X.N.Nodup) (hi : X.N[i]? = some x) (hx : Loc X.env.scope x) (h2 : i ∉ Ox) (hO1 : (∀ j ∈ O', j = i ∨ j ∈ O) ∧ i ∈ O' ∧ ∀ j ∈ O, j ∈ O') (he : DF K Ox O W X a ta ua) (hs : swapsWith a (some (.Name x pos')) pos.line X.env = pure false := by rfl) (hf : X.fn x = true ∨ X.env.scope.names.lookup x = some .local := by first | exact .inl rfl | exact .inr rfl | assumption) :
    DS K Ox O W Ol O' X (.Assign [.Name x pos'] a pos) (tAsg ta (gName i)) (uOwn i ua) := ds_own hN hi hx h2 hO1 he hs hf
theorem rs_own (h2 : i ∉ Ox) (hO1 : (∀ j ∈ O', j = i ∨ j ∈ O) ∧ i ∈ O' ∧ ∀ j ∈ O, j ∈ O') (he : RfF K Ox O W ta ua) : RfS K Ox O W Ol O' (tAsg ta (gName i)) (uOwn i ua) := by
  intro B Z σ H Γ D ED hB e ex hu nx rt bk ct
  refine he B Z σ H Γ _ _ _ e ex hu fun p o H' d Γ' e' nz w q => ?_
  have hO' : ∀ j, j ∈ O' ↔ j = i ∨ j ∈ O := fun j => ⟨hO1.1 j, fun h => h.elim (fun z => z ▸ hO1.2.1) (hO1.2.2 j)⟩
  exact nx _ H' _ (e'.take q.1 (fun p hp z => h2 (z ▸ hB p hp)) hO' nz w) q.2
variable (hvs : own.map (·.2) = vs) (hc : X.calm = true) (hN : X.N.Nodup) (hvO : ∀ v ∈ vs, v ∉ O) (hvX : ∀ v ∈ vs, v ∉ Ox) (hi : DI K Ox O W X tg iter wi ui) (ok : BlkOk X.N X.env.scope scope own)
    (hg : ∀ (s : Shared) (H : Hp) (C : Addr) (cl : List (Str × Addr)) (fp : List Addr), DG K Ox O (X.blk s H scope (compEnvC scope cl C X.env) fp) tg g ug) (hgo : GOnly g vs)
    (ht : ∀ (s : Shared) (H : Hp) (C : Addr) (cl : List (Str × Addr)) (fp : List Addr), DTs K Ox O W0 (X.blk s H scope (compEnvC scope cl C X.env) fp) ifs tt ut)
    (he : ∀ (s : Shared) (H : Hp) (C : Addr) (cl : List (Str × Addr)) (fp : List Addr), DE K Ox O W0 (X.blk s H scope (compEnvC scope cl C X.env) fp) elt te ue)
include hvs hc hN hvO hvX hi ok hg hgo ht he
theorem dl_lc2 (hs : ∀ x, foldedSetIterable iter X.env x = pure x := by intro _; rfl) :
    DL K Ox O W X (.ListComp elt [⟨tg, iter, ifs, 0⟩] scope pos) (tLc wi g tt te vs) (uLc vs ui ug ut ue) := by
  subst hvs
  exact dl_lc hc hN hvO hvX hi ok hg hgo ht he hs
theorem ps_lcS (hy : X.N[i]? = some y) (hyl : X.env.scope.names.lookup y = some .local) (hsw : swapsWith (.ListComp elt [⟨tg, iter, ifs, 0⟩] scope pos) (some (.Name y py)) spos.line X.env = pure true) (hs : ∀ x, foldedSetIterable iter X.env x = pure x) (gl : Lt X W) :
    PS X (.Assign [.Name y py] (.ListComp elt [⟨tg, iter, ifs, 0⟩] scope pos) spos) (tAsg (tLc wi g tt te vs) (gName i)) := by
  subst hvs
  exact ps_setLc hc hN hy hyl hsw (hi.p gl) ok (fun s H C cl fp => (hg s H C cl fp).p) (fun s H C cl fp => (ht s H C cl fp).p lt0) (fun s H C cl fp => (he s H C cl fp).p lt0) hs
theorem ds_setLc (hy : X.N[i]? = some y) (hyl : X.env.scope.names.lookup y = some .local) (hsw : swapsWith (.ListComp elt [⟨tg, iter, ifs, 0⟩] scope pos) (some (.Name y py)) spos.line X.env = pure true) (h1 : i ∉ O) (h2 : i ∉ Ox) (hs : ∀ x, foldedSetIterable iter X.env x = pure x := by intro _; rfl) :
    DS K Ox O W Ol O X (.Assign [.Name y py] (.ListComp elt [⟨tg, iter, ifs, 0⟩] scope pos) spos) (tAsg (tLc wi g tt te vs) (gName i)) (uAsg (uLc vs ui ug ut ue) (ugName i)) :=
  ⟨fun gl po => ps_lcS hvs hc hN hvO hvX hi ok hg hgo ht he hy hyl hsw hs gl, rs_asg (dl_lc2 hvs hc hN hvO hvX hi ok hg hgo ht he hs (pos := pos)).e (dg_name (pos := py) hN hy (.inl hyl) h1 h2 (.inr hyl))⟩
theorem ds_ownLc (hy : X.N[i]? = some y) (hyl : X.env.scope.names.lookup y = some .local) (hsw : swapsWith (.ListComp elt [⟨tg, iter, ifs, 0⟩] scope pos) (some (.Name y py)) spos.line X.env = pure true) (h2 : i ∉ Ox) (hO1 : (∀ j ∈ O', j = i ∨ j ∈ O) ∧ i ∈ O' ∧ ∀ j ∈ O, j ∈ O') (hs : ∀ x, foldedSetIterable iter X.env x = pure x := by intro _; rfl) :
    DS K Ox O W Ol O' X (.Assign [.Name y py] (.ListComp elt [⟨tg, iter, ifs, 0⟩] scope pos) spos) (tAsg (tLc wi g tt te vs) (gName i)) (uOwn i (uLc vs ui ug ut ue)) :=
  ⟨fun gl po => ps_lcS hvs hc hN hvO hvX hi ok hg hgo ht he hy hyl hsw hs gl, rs_own h2 hO1 (dl_lc2 hvs hc hN hvO hvX hi ok hg hgo ht he hs (pos := pos)).f.r⟩
end
section
variable {K : PySem.W.Frag} {Ox O io : List Nat} {W : WX} {X : Cx} {pos p : Pos} {x : Str} {sp : Sp} {spd : SpD} {k j : Nat} {E : L2.St → XK}
theorem pe_cS0 (c : CalX X.prog X.w X.K X.mg X.base k x sp []) (hr : Rm j X.A) (hk : k ≤ j) (hx : ∀ σ, PassesAt (L2.CX X.prog X.w) X σ (E σ)) (hg : Gl X x)
    (hdb : (x == ("__debug__" : Str)) = false := by decide) : PE X (.Call (.Name x p) [] [] pos) (tCallS sp E tNil) := by
  obtain ⟨f, fd, ps, ds, ok, hm, kp, b, d⟩ := c.ex
  cases d
  constructor
  intro pins s σ H Q I h
  apply wpAny_Call_Name_kw
  apply ld_glob I hg hm _ hdb
  refine PySem.W.callWith_K0 I.kIn kp ?_
  have h : sp [] H Q (E σ) := h
  have hl : ([] : List Value).length = ps.length := ok.len _ _ _ _ h
  have bt := b s [] I.kIn (by rw [List.append_nil]; exact hl)
  rw [List.append_nil] at bt
  refine wpAny_call (codeAny_mono (ok.go X.A X.stack s H ⟨[], []⟩ [] [] Q (E σ) (hr.mono hk) I.env0 bt .nil h) ?_)
  intro res s' hq
  match res, hq with
  | .error e, hq => exact hx σ pins H s e s' I hq
  | .ok (.ret u), hq => exact I.after hq
  | .ok .next, hq => exact False.elim hq
  | .ok .brk, hq => exact False.elim hq
  | .ok .cont, hq => exact False.elim hq
theorem de_call0 (c : CalD X.prog X.w K X.mg X.base k x [] spd) (hr : Rm j X.A) (hk : k ≤ j) (hg : Gl X x) (hx : ∀ i ∈ Ox, i ∈ O) (hK : X.K = K := by rfl)
    (hdb : (x == ("__debug__" : Str)) = false := by decide) :
    DE K Ox O W X (.Call (.Name x p) [] [] pos) (tCallS (lift K [] spd) (fun σ cls d H => W cls d σ H) tNil) (uCall Ox O spd [] rNil) := ⟨fun g => by
  subst hK
  exact pe_cS0 c.c hr hk g.pass hg hdb, rf_call (es := []) (X := X) hx c.mono dr_nil⟩
end
end Dv
set_option Elab.async false
set_option linter.all false
set_option maxRecDepth 100000
set_option maxHeartbeats 4000000
/-! Fv8: equations for evaluation. -/
namespace Dv
open PySem PySem.Spec PyProof.Rows L2 Eu
@[simp] theorem dEqB_int {a b : Int} : dEqB (.int a) (.int b) = some (a == b) := rfl
@[simp] theorem dEq_int {a b : Int} : dEq (.int a) (.int b) = some (.bl (a == b)) := rfl
@[simp] theorem dNe_int {a b : Int} : dNe (.int a) (.int b) = some (.bl (!(a == b))) := rfl
@[simp] theorem dEq_bl {a b : Bool} : dEq (.bl a) (.bl b) = some (.bl (a == b)) := rfl
@[simp] theorem dNe_bl {a b : Bool} : dNe (.bl a) (.bl b) = some (.bl (!(a == b))) := rfl
@[simp] theorem dEqB_bl {a b : Bool} : dEqB (.bl a) (.bl b) = some (a == b) := rfl
/-- equal whatever is computed: two ways of one test -/
theorem ite_bool {α : Type} {b : Bool} {x y z : α} (h1 : b = true → x = z) (h2 : b = false → y = z) : (if b = true then x else y) = z := by
  cases b with
  | true => exact h1 rfl
  | false => exact h2 rfl
theorem dMulI_r {a b : Int} (h : -18446744073709551616 < b ∧ b < 18446744073709551616) : dMulI (.int a) (.int b) = some (.int (a * b)) := by
  unfold dMulI dInt cMulB
  exact if_pos (by simp; omega)
theorem dMulI_l {a b : Int} (h : -18446744073709551616 < a ∧ a < 18446744073709551616) : dMulI (.int a) (.int b) = some (.int (a * b)) := by
  unfold dMulI dInt cMulB
  exact if_pos (by simp; omega)
theorem dModI_p {a b : Int} (h : 0 < b) : dModI (.int a) (.int b) = some (.int (a % b)) := by
  unfold dModI dInt
  exact if_pos (by simpa using h)
theorem dFdivI_p {a b : Int} (h : 0 < b) (h' : b.natAbs.log2 < 9000) : dFdivI (.int a) (.int b) = some (.int (a / b)) := by
  unfold dFdivI dInt
  exact if_pos (by simp; exact ⟨h, h'⟩)
theorem dPowI_p {a b : Int} (h : 0 ≤ b ∧ b ≤ 1000000) (h' : a.natAbs < 18446744073709551616) : dPowI (.int a) (.int b) = some (.int (a ^ b.toNat)) := by
  unfold dPowI dInt
  exact if_pos (by simp; omega)
@[simp] theorem dAdd_int {a b : Int} : dAdd (.int a) (.int b) = some (.int (a + b)) := rfl
@[simp] theorem dSub_int {a b : Int} : dSub (.int a) (.int b) = some (.int (a - b)) := rfl
@[simp] theorem dLtI_int {a b : Int} : dLtI (.int a) (.int b) = some (.bl (decide (a < b))) := rfl
@[simp] theorem dLeI_int {a b : Int} : dLeI (.int a) (.int b) = some (.bl (decide (a ≤ b))) := rfl
@[simp] theorem dGtI_int {a b : Int} : dGtI (.int a) (.int b) = some (.bl (decide (b < a))) := rfl
@[simp] theorem dGeI_int {a b : Int} : dGeI (.int a) (.int b) = some (.bl (decide (b ≤ a))) := rfl
@[simp] theorem dIx_l0 {x : D} {xs : List D} : dIx (.lst (x :: xs)) (.int 0) = some x := by
  unfold dIx
  exact atI_nat (j := 0) rfl
@[simp] theorem dIx_l1 {x y : D} {xs : List D} : dIx (.lst (x :: y :: xs)) (.int 1) = some y := by
  unfold dIx
  exact atI_nat (j := 1) rfl
theorem dIx_scr {ns : List Int} {i : Nat} (h : i < ns.length) : dIx (.scr ns) (.int i) = some (.int ns[i]) := by
  show Option.map D.int (atI ns i) = _
  rw [atI_nat (List.getElem?_eq_getElem h)]
  rfl
theorem fDef_eq {np nn : Nat} {io : List Nat} {b : Fs} {ds : List D} (h : ds.length = np) : fDef np nn io b ds = (b (startD nn ds)).fn io ds := if_pos h
theorem fSeqR_nx {f g : Fs} {Γ Γ1 : Sl} (h : f Γ = .nx Γ1) : fSeqR f g Γ = g Γ1 := by unfold fSeqR; rw [h]
theorem fSeq_nx {f g : Fs} {Γ Γ1 : Sl} (h : f Γ = .nx Γ1) : fSeq f g Γ = g Γ1 := by unfold fSeq; rw [h]; rfl
theorem fSeq_rt {f g : Fs} {Γ Γ1 : Sl} {d : D} (h : f Γ = .rt d Γ1) : fSeq f g Γ = .rt d Γ1 := by unfold fSeq; rw [h]; rfl
theorem forL_inv {g : Fg} {b : Fs} (I : Sl → Prop) : ∀ (xs : List D) (Γ : Sl), I Γ → (∀ x ∈ xs, ∀ Γ, I Γ → ∃ Γ1 Γ2, g x Γ = some Γ1 ∧ b Γ1 = .nx Γ2 ∧ I Γ2) → ∃ Γ', fForL g b xs Γ = .nx Γ' ∧ I Γ'
  | [], Γ, h0, _ => ⟨Γ, rfl, h0⟩
  | x :: xs, Γ, h0, hs => by
    obtain ⟨Γ1, Γ2, e1, e2, h2⟩ := hs x List.mem_cons_self Γ h0
    obtain ⟨Γ', e, h⟩ := forL_inv I xs Γ2 h2 fun y hy => hs y (List.mem_cons_of_mem _ hy)
    refine ⟨Γ', ?_, h⟩
    unfold fForL
    rw [e1]
    dsimp only
    rw [e2]
    exact e
theorem mem_rng {lo : Int} {n : Nat} {x : D} (h : x ∈ rng lo n) : ∃ i : Nat, i < n ∧ x = .int (lo + (i : Int)) := by
  unfold rng at h
  obtain ⟨i, hi, rfl⟩ := List.mem_map.mp h
  exact ⟨i, List.mem_range.mp hi, rfl⟩
end Dv
set_option Elab.async false
set_option linter.all false
set_option maxRecDepth 100000
set_option maxHeartbeats 4000000
/-! Fv9: the law's end. -/
namespace Dv
open PySem PySem.Spec PyProof.Rows L2 Eu
theorem law_lift {K : PySem.W.Frag} {g : Fn} (hg : ∀ ns : List Int, ns.length ≤ 63 → ∃ z, g [.scr ns] = .ok (.bl true) z) {vs : List V} {H : Hp} {Q : VK} {E : XK} (h : spLaw K vs H Q E) : lift K [] (spF g) vs H Q E0 := by
  obtain ⟨a, ns, rfl, s, hl, q⟩ := h
  obtain ⟨z, e⟩ := hg ns hl
  have hh : hO H [some (.ref a)] [] [] = H := hidL_nil
  refine ⟨⟨H, []⟩, [], [.scr ns], rfl, ⟨rfl, fun i d _ hd => ?_, fun i hi => absurd hi (by simp), fun i hi => absurd hi (by simp), fun p hp => absurd hp (by simp), fun p hp => absurd hp (by simp), ?_, fun p hp => absurd hp (by simp)⟩, ?_⟩
  · cases i with
    | zero =>
      have hd : some (some (D.scr ns)) = some (some d) := hd
      cases hd
      exact ⟨.ref a, rfl, by rw [show ([V.ref a].map some) = [some (.ref a)] from rfl, hh]; exact .scr s⟩
    | succ i =>
      have hd : ([] : List (Option D))[i]? = some (some d) := hd
      simp at hd
  · rw [show ([V.ref a].map some) = [some (.ref a)] from rfl, hh]
    exact Le.refl H
  · unfold spF
    rw [e]
    intro _ v H' _ r
    cases r
    exact q H'
theorem lawF {P : Program} {w : World} {K : PySem.W.Frag} {mg : Str → Option Value} {k np nn : Nat} {x : Str} {st : Stmt} {N : List Str} {fa : Addr} {b : Fs}
    (D : Df K mg "law" st) (hfa : mg "law" = some (.ref fa)) (S : FnScope N [x] (defScope st)) (hp : np = 1) (hn : N.length = nn)
    (hbd : ∀ (kV doc pm : Value) (an : Option Addr) (cdv ct : Value) (us : List Value), us.length = 1 →
      bindArgs (PySem.W.fnOf "law" "law" (defArgs st) (defBody st) (defScope st) .none kV doc pm an cdv ct) ⟨us, []⟩ = pure ([x].zip us))
    (hl : 1 ≤ N.length)
    (hg : ∀ ns : List Int, ns.length ≤ 63 → ∃ z, fDef np nn [] b [.scr ns] = .ok (.bl true) z)
    (hb : ∀ (base : Heap), K.In base → base.Ns mainGlobals mg → ∀ (f : Addr) (cdv : Value) (A : Around) (out : List Env) (s : Shared) (H : Hp) (E : XK),
      Rm k (A.deeper (envOfC "law" (defScope st) s.heap.objs.size f cdv)) →
      ∃ t u O', DB K [] [] W0 [] O' (cxOf CX0 P w K mg base N "law" (defScope st) f cdv A out s H E).nox (defBody st) t u ∧ CuS b u) :
    ∃ fd : FuncData, (∀ (s : Shared) (u : Value), BindsTo s fd ⟨[u], []⟩ [(x, u)]) ∧
      ∀ base : Heap, K.In base → base.Ns mainGlobals mg → Ok P w K mg base CX0 (k + 1) fa fd [x] (spLaw K) := by
  subst hp hn
  refine law_fn D hfa S hbd (fun vs H Q E h => ?_) fun base h1 h2 f cdv A out s H vs Q E hr hs => ?_
  · obtain ⟨a, ns, rfl, _⟩ := h
    rfl
  · obtain ⟨t, u, O', h, c⟩ := hb base h1 h2 f cdv A out s H E hr
    have hv : vs.length = 1 := by
      obtain ⟨a, ns, rfl, _⟩ := hs
      rfl
    exact ⟨t, h.p lt0 PassesOwn.never, body_d (E := E0) (sp := spF (fDef 1 N.length [] b)) h (fun _ z => absurd z (by simp)) fDef_asks (law_lift hg hs) (by omega)⟩
end Dv
set_option Elab.async false
set_option linter.all false
set_option maxRecDepth 100000
set_option maxHeartbeats 8000000
set_option synthInstance.maxHeartbeats 4000000
set_option synthInstance.maxSize 100000
namespace Eu
open PySem PySem.Spec PyProof.Rows L2 Dv
abbrev s_is_integer : Stmt := top 3
theorem sc_is_integer : FnScope ["thing"] ["thing"] (defScope s_is_integer) :=
  ⟨rfl, rfl, rfl, by decide +kernel, rfl, by decide +kernel, by decide +kernel⟩
def f_is_integer (p : Pk) (n m : Nat) : Fn := fDef 1 1 []
  (fRet [] [] (fAndV (fCB (two dIsi) (fCons (fVar 0) (fCons (fC (D.ty "int")) fNil))) (fNotV (fCB (two dIsi) (fCons (fVar 0) (fCons (fC (D.ty "bool")) fNil))))))
abbrev s_in_range : Stmt := top 4
theorem sc_in_range : FnScope ["thing", "least", "most"] ["thing", "least", "most"] (defScope s_in_range) :=
  ⟨rfl, rfl, rfl, by decide +kernel, rfl, by decide +kernel, by decide +kernel⟩
def f_in_range (p : Pk) (n m : Nat) : Fn := fDef 3 3 []
  (fRet [] [] (fAndV (fCallV [] [] (f_is_integer p n m) (fCons (fVar 0) fNil)) (fChain dLeI dLeI (fVar 1) (fVar 0) (fVar 2))))
abbrev s_are_patterns : Stmt := top 10
theorem sc_are_patterns : FnScope ["patterns", "thing", "pattern"] ["patterns", "thing"] (defScope s_are_patterns) :=
  ⟨rfl, rfl, rfl, by decide +kernel, rfl, by decide +kernel, by decide +kernel⟩
def f_are_patterns (p : Pk) (n m : Nat) : Fn := fDef 2 3 []
  (fSeq (fIfS (fOr (fNot (fB (fCB (two dIsi) (fCons (fVar 1) (fCons (fC (D.ty "tuple")) fNil))))) (fNot (fB (fCB (one (dBls fun bs => D.bl (bs.all id))) (fCons (fLc [2] (fItT (fVar 1)) (fgName 2) fYes (fCallV [] [] (f_in_range p n m) (fCons (fVar 2) (fCons (fC (D.int 1)) (fCons (fVar 0) fNil))))) fNil)))))
  (fRet [] [] (fC (D.bl false)))
  fNext)
  (fRet [] [] (fOp dEq (fCB (one dList) (fCons (fVar 1) fNil)) (fCB (one dSortedSet) (fCons (fVar 1) fNil)))))
abbrev s_is_condition : Stmt := top 11
theorem sc_is_condition : FnScope ["patterns", "thing", "less", "more", "side"] ["patterns", "thing"] (defScope s_is_condition) :=
  ⟨rfl, rfl, rfl, by decide +kernel, rfl, by decide +kernel, by decide +kernel⟩
def f_is_condition (p : Pk) (n m : Nat) : Fn := fDef 2 5 []
  (fSeq (fIfS (fOr (fNot (fB (fCB (two dIsi) (fCons (fVar 1) (fCons (fC (D.ty "tuple")) fNil))))) (fB (fOp dNe (fCB (one dLen) (fCons (fVar 1) fNil)) (fC (D.int 3)))))
  (fRet [] [] (fC (D.bl false)))
  fNext)
  (fSeq (fAsg (fVar 1) (fgTup 3 (fgCons (fgName 2) (fgCons (fgName 3) (fgCons (fgName 4) fgNil)))))
  (fSeq (fIfS (fOr (fNot (fB (fCallV [] [] (f_are_patterns p n m) (fCons (fVar 0) (fCons (fVar 2) fNil))))) (fNot (fB (fCallV [] [] (f_are_patterns p n m) (fCons (fVar 0) (fCons (fVar 3) fNil))))))
  (fRet [] [] (fC (D.bl false)))
  fNext)
  (fRet [] [] (fAndV (fCB (two dIsi) (fCons (fVar 4) (fCons (fC (D.ty "str")) fNil))) (fOp dIn (fVar 4) (fTup (fCons (fC (D.str "left")) (fCons (fC (D.str "right")) fNil)))))))))
abbrev s_check_question : Stmt := top 12
theorem sc_check_question : FnScope ["patterns", "conditions", "pattern", "condition"] ["patterns", "conditions", "pattern"] (defScope s_check_question) :=
  ⟨rfl, rfl, rfl, by decide +kernel, rfl, by decide +kernel, by decide +kernel⟩
def f_check_question (p : Pk) (n m : Nat) : Fn := fDef 3 4 []
  (fSeq (fIfS (fOr (fNot (fB (fCallV [] [] (f_is_integer p n m) (fCons (fVar 0) fNil)))) (fB (fOp dNotIn (fVar 0) (fC (D.tup [(D.int 1), (D.int 3), (D.int 7)])))))
  fNo
  fNext)
  (fSeq (fIfS (fOr (fNot (fB (fCB (two dIsi) (fCons (fVar 1) (fCons (fC (D.ty "list")) fNil))))) (fB (fOp dGtI (fCB (one dLen) (fCons (fVar 1) fNil)) (fC (D.int 8)))))
  fNo
  fNext)
  (fSeq (fIfS (fNot (fB (fCB (one (dBls fun bs => D.bl (bs.all id))) (fCons (fLc [3] (fIt (fVar 1)) (fgName 3) fYes (fCallV [] [] (f_is_condition p n m) (fCons (fVar 0) (fCons (fVar 3) fNil)))) fNil))))
  fNo
  fNext)
  (fIfS (fNot (fB (fCallV [] [] (f_in_range p n m) (fCons (fVar 2) (fCons (fC (D.int 1)) (fCons (fVar 0) fNil))))))
  fNo
  fNext))))
abbrev s_weights_of : Stmt := top 13
theorem sc_weights_of : FnScope ["patterns", "condition", "less", "more", "side", "weights", "pattern", "weight"] ["patterns", "condition"] (defScope s_weights_of) :=
  ⟨rfl, rfl, rfl, by decide +kernel, rfl, by decide +kernel, by decide +kernel⟩
def f_weights_of (p : Pk) (n m : Nat) : Fn := fDef 2 8 []
  (fSeq (fAsg (fVar 1) (fgTup 3 (fgCons (fgName 2) (fgCons (fgName 3) (fgCons (fgName 4) fgNil)))))
  (fSeq (fAsg (fLc [6] (fRng2 (fCons (fC (D.int 1)) (fCons (fOp dAdd (fVar 0) (fC (D.int 1))) fNil))) (fgName 6) fYes (fOp dSub (fCB (one dInt1) (fCons (fOp dIn (fVar 6) (fVar 3)) fNil)) (fCB (one dInt1) (fCons (fOp dIn (fVar 6) (fVar 2)) fNil)))) (fgName 5))
  (fRet [] [] (fIf (fB (fOp dEq (fVar 4) (fC (D.str "left")))) (fVar 5) (fLc [7] (fIt (fVar 5)) (fgName 7) fYes (fNeg (fVar 7)))))))
abbrev s_satisfies : Stmt := top 14
theorem sc_satisfies : FnScope ["counts", "condition", "less", "more", "side", "is_less", "pattern"] ["counts", "condition"] (defScope s_satisfies) :=
  ⟨rfl, rfl, rfl, by decide +kernel, rfl, by decide +kernel, by decide +kernel⟩
def f_satisfies (p : Pk) (n m : Nat) : Fn := fDef 2 7 []
  (fSeq (fAsg (fVar 1) (fgTup 3 (fgCons (fgName 2) (fgCons (fgName 3) (fgCons (fgName 4) fgNil)))))
  (fSeq (fAsg (fOp dLtI (fCB (one (dInts fun bs => D.int bs.sum)) (fCons (fLc [6] (fItT (fVar 2)) (fgName 6) fYes (fOp dIx (fVar 0) (fOp dSub (fVar 6) (fC (D.int 1))))) fNil)) (fCB (one (dInts fun bs => D.int bs.sum)) (fCons (fLc [6] (fItT (fVar 3)) (fgName 6) fYes (fOp dIx (fVar 0) (fOp dSub (fVar 6) (fC (D.int 1))))) fNil))) (fgName 5))
  (fRet [] [] (fOp dEq (fVar 5) (fOp dEq (fVar 4) (fC (D.str "left")))))))
abbrev s_are_counts : Stmt := top 15
theorem sc_are_counts : FnScope ["patterns", "thing", "count"] ["patterns", "thing"] (defScope s_are_counts) :=
  ⟨rfl, rfl, rfl, by decide +kernel, rfl, by decide +kernel, by decide +kernel⟩
def f_are_counts (p : Pk) (n m : Nat) : Fn := fDef 2 3 []
  (fSeq (fIfS (fOr (fNot (fB (fCB (two dIsi) (fCons (fVar 1) (fCons (fC (D.ty "tuple")) fNil))))) (fB (fOp dNe (fCB (one dLen) (fCons (fVar 1) fNil)) (fVar 0))))
  (fRet [] [] (fC (D.bl false)))
  fNext)
  (fRet [] [] (fCB (one (dBls fun bs => D.bl (bs.all id))) (fCons (fLc [2] (fItT (fVar 1)) (fgName 2) fYes (fAndV (fCallV [] [] (f_is_integer p n m) (fCons (fVar 2) fNil)) (fOp dGeI (fVar 2) (fC (D.int 0))))) fNil))))
abbrev s_solves : Stmt := top 16
theorem sc_solves : FnScope ["patterns", "conditions", "pattern", "thing", "condition"] ["patterns", "conditions", "pattern", "thing"] (defScope s_solves) :=
  ⟨rfl, rfl, rfl, by decide +kernel, rfl, by decide +kernel, by decide +kernel⟩
def f_solves (p : Pk) (n m : Nat) : Fn := fDef 4 5 []
  (fSeq (fIfS (fOr (fNot (fB (fCallV [] [] (f_are_counts p n m) (fCons (fVar 0) (fCons (fVar 3) fNil))))) (fB (fOp dEq (fOp dIx (fVar 3) (fOp dSub (fVar 2) (fC (D.int 1)))) (fC (D.int 0)))))
  (fRet [] [] (fC (D.bl false)))
  fNext)
  (fRet [] [] (fCB (one (dBls fun bs => D.bl (bs.all id))) (fCons (fLc [4] (fIt (fVar 1)) (fgName 4) fYes (fCallV [] [] (f_satisfies p n m) (fCons (fVar 3) (fCons (fVar 4) fNil)))) fNil))))
abbrev s_refutes : Stmt := top 17
theorem sc_refutes : FnScope ["patterns", "conditions", "pattern", "thing", "total", "factor", "condition", "strict", "known", "more"] ["patterns", "conditions", "pattern", "thing"] (defScope s_refutes) :=
  ⟨rfl, rfl, rfl, by decide +kernel, rfl, by decide +kernel, by decide +kernel⟩
def f_refutes (p : Pk) (n m : Nat) : Fn := fDef 4 10 []
  (fSeq (fIfS (fOr (fNot (fB (fCB (two dIsi) (fCons (fVar 3) (fCons (fC (D.ty "list")) fNil))))) (fB (fOp dNe (fCB (one dLen) (fCons (fVar 3) fNil)) (fCB (one dLen) (fCons (fVar 1) fNil)))))
  (fRet [] [] (fC (D.bl false)))
  fNext)
  (fSeq (fIfS (fNot (fB (fCB (one (dBls fun bs => D.bl (bs.all id))) (fCons (fLc [5] (fIt (fVar 3)) (fgName 5) fYes (fAndV (fCallV [] [] (f_is_integer p n m) (fCons (fVar 5) fNil)) (fOp dGeI (fVar 5) (fC (D.int 0))))) fNil))))
  (fRet [] [] (fC (D.bl false)))
  fNext)
  (fSeq (fAsg (fOp dRep (fLst (fCons (fC (D.int 0)) fNil)) (fVar 0)) (fgName 4))
  (fSeq (fFor (fZipS (fCons (fVar 3) (fCons (fVar 1) fNil))) (fgTup 2 (fgCons (fgName 5) (fgCons (fgName 6) fgNil)))
  (fAsg (fLc [8, 9] (fZipS (fCons (fVar 4) (fCons (fCallV [] [] (f_weights_of p n m) (fCons (fVar 0) (fCons (fVar 6) fNil))) fNil))) (fgTup 2 (fgCons (fgName 8) (fgCons (fgName 9) fgNil))) fYes (fOp dAdd (fVar 8) (fOp dMulI (fVar 5) (fVar 9)))) (fgName 4)))
  (fSeq (fIfS (fB (fOp dGtI (fCB (one dMax1) (fCons (fVar 4) fNil)) (fC (D.int 0))))
  (fRet [] [] (fC (D.bl false)))
  fNext)
  (fSeq (fAsg (fLc [5, 6] (fZipS (fCons (fVar 3) (fCons (fVar 1) fNil))) (fgTup 2 (fgCons (fgName 5) (fgCons (fgName 6) fgNil))) (fB (fOp dEq (fOp dIx (fVar 6) (fC (D.int 2))) (fC (D.str "left")))) (fVar 5)) (fgName 7))
  (fRet [] [] (fOrV (fOp dGtI (fMaxD (fVar 7) (fC (D.int 0))) (fC (D.int 0))) (fOp dLtI (fOp dIx (fVar 4) (fOp dSub (fVar 2) (fC (D.int 1)))) (fC (D.int 0)))))))))))
abbrev s_is_answer : Stmt := top 19
theorem sc_is_answer : FnScope ["patterns", "conditions", "pattern", "answer"] ["patterns", "conditions", "pattern", "answer"] (defScope s_is_answer) :=
  ⟨rfl, rfl, rfl, by decide +kernel, rfl, by decide +kernel, by decide +kernel⟩
def f_is_answer (p : Pk) (n m : Nat) : Fn := fDef 4 4 []
  (fSeq (fDrop (fCallV [] [] (f_check_question p n m) (fCons (fVar 0) (fCons (fVar 1) (fCons (fVar 2) fNil)))))
  (fSeq (fIfS (fOr (fNot (fB (fCB (two dIsi) (fCons (fVar 3) (fCons (fC (D.ty "tuple")) fNil))))) (fOr (fB (fOp dNe (fCB (one dLen) (fCons (fVar 3) fNil)) (fC (D.int 2)))) (fNot (fB (fCB (two dIsi) (fCons (fOp dIx (fVar 3) (fC (D.int 0))) (fCons (fC (D.ty "str")) fNil)))))))
  (fRet [] [] (fC (D.bl false)))
  fNext)
  (fSeq (fIfS (fB (fOp dEq (fOp dIx (fVar 3) (fC (D.int 0))) (fC (D.str "possible"))))
  (fRet [] [] (fCallV [] [] (f_solves p n m) (fCons (fVar 0) (fCons (fVar 1) (fCons (fVar 2) (fCons (fOp dIx (fVar 3) (fC (D.int 1))) fNil))))))
  fNext)
  (fRet [] [] (fAndV (fOp dEq (fOp dIx (fVar 3) (fC (D.int 0))) (fC (D.str "impossible"))) (fCallV [] [] (f_refutes p n m) (fCons (fVar 0) (fCons (fVar 1) (fCons (fVar 2) (fCons (fOp dIx (fVar 3) (fC (D.int 1))) fNil))))))))))
abbrev s_l_bag : Stmt := top 21
theorem sc_l_bag : FnScope ["_law_script", "_law_at", "_law_cell", "_law_digits"] ["_law_script", "_law_at"] (defScope s_l_bag) :=
  ⟨rfl, rfl, rfl, by decide +kernel, rfl, by decide +kernel, by decide +kernel⟩
def f_l_bag (p : Pk) (n m : Nat) : Fn := fDef 2 4 []
  (fSeqR (fAsg (fC (D.int 0)) (fgName 2))
  (fSeqR (fIfS (fB (fOp dLtI (fVar 1) (fCB (one dLen) (fCons (fVar 0) fNil))))
  (fAsg (fOp dIx (fVar 0) (fVar 1)) (fgName 2))
  fNext)
  (fSeqR (fAsg (fOp dMulI (fCB (one dAbs) (fCons (fVar 2) fNil)) (fCB (one dInt1) (fCons (fOp dGeI (fCB (one dAbs) (fCons (fVar 2) fNil)) (fOp dPowI (fC (D.int 10)) (fC (D.int 18)))) fNil))) (fgName 3))
  (fRet [] [] (fLst (fCons (fVar 3) (fCons (fOp dAdd (fOp dModI (fOp dAdd (fOp dAdd (fOp dMulI (fOp dModI (fVar 2) (fC (D.int 2147483629))) (fC (D.int 48271))) (fOp dMulI (fC (D.int 6211)) (fVar 1))) (fC (D.int 211))) (fC (D.int 2147483587))) (fC (D.int 1))) fNil)))))))
abbrev s_l_take : Stmt := top 22
theorem sc_l_take : FnScope ["_law_bag_here", "_law_many", "_law_digit"] ["_law_bag_here", "_law_many"] (defScope s_l_take) :=
  ⟨rfl, rfl, rfl, by decide +kernel, rfl, by decide +kernel, by decide +kernel⟩
def f_l_take (p : Pk) (n m : Nat) : Fn := fDef 2 3 [0]
  (fSeq (fIfS (fB (fOp dGtI (fOpL dIx 0 (fC (D.int 0))) (fC (D.int 0))))
  (fSeq (fAsg (fOp dModI (fOpL dIx 0 (fC (D.int 0))) (fVar 1)) (fgName 2))
  (fSeq (fSetI 0 (fC (D.int 0)) (fOp dFdivI (fOpL dIx 0 (fC (D.int 0))) (fVar 1)))
  (fRet [0] [0] (fVar 2))))
  fNext)
  (fSeq (fSetI 0 (fC (D.int 1)) (fOp dModI (fOp dMulI (fOpL dIx 0 (fC (D.int 1))) (fC (D.int 69621))) (fC (D.int 2147483647))))
  (fRet [0] [0] (fOp dModI (fOp dFdivI (fOp dModI (fOp dMulI (fOpL dIx 0 (fC (D.int 1))) (fOp dAdd (fOp dFdivI (fOpL dIx 0 (fC (D.int 1))) (fC (D.int 32768))) (fC (D.int 7)))) (fC (D.int 2147483587))) (fC (D.int 64))) (fVar 1)))))
abbrev s_l_of : Stmt := top 23
theorem sc_l_of : FnScope ["_law_some", "_law_shape", "_law_word", "_law_things", "_law_thing"] ["_law_some", "_law_shape", "_law_word", "_law_things"] (defScope s_l_of) :=
  ⟨rfl, rfl, rfl, by decide +kernel, rfl, by decide +kernel, by decide +kernel⟩
def f_l_of (p : Pk) (n m : Nat) : Fn := fDef 4 5 []
  (fRet [] [] (fLc [4] (fIt (fVar 3)) (fgName 4) fYes (fCallV [] [] (f_is_answer p n m) (fCons (fC (D.int 3)) (fCons (fVar 0) (fCons (fVar 1) (fCons (fTup (fCons (fVar 2) (fCons (fVar 4) fNil))) fNil)))))))
abbrev s_l_possible_right : Stmt := top 24
theorem sc_l_possible_right : FnScope ["_law_some", "_law_good", "_law_bad"] [] (defScope s_l_possible_right) :=
  ⟨rfl, rfl, rfl, by decide +kernel, rfl, by decide +kernel, by decide +kernel⟩
def f_l_possible_right (p : Pk) (n m : Nat) : Fn := fDef 0 3 []
  (fSeq (fAsg (fLst (fCons (fTup (fCons (fTup (fCons (fC (D.int 1)) fNil)) (fCons (fTup (fCons (fC (D.int 2)) fNil)) (fCons (fC (D.str "left")) fNil)))) (fCons (fTup (fCons (fTup (fCons (fC (D.int 2)) fNil)) (fCons (fTup (fCons (fC (D.int 3)) fNil)) (fCons (fC (D.str "right")) fNil)))) fNil))) (fgName 0))
  (fSeq (fAsg (fLst (fCons (fTup (fCons (fC (D.int 0)) (fCons (fC (D.int 1)) (fCons (fC (D.int 1)) fNil)))) (fCons (fTup (fCons (fC (D.int 1)) (fCons (fC (D.int 2)) (fCons (fC (D.int 2)) fNil)))) (fCons (fTup (fCons (fC (D.int 0)) (fCons (fC (D.int 1)) (fCons (fC (D.int 1)) fNil)))) (fCons (fTup (fCons (fOp dPowI (fC (D.int 10)) (fC (D.int 50))) (fCons (fOp dAdd (fOp dPowI (fC (D.int 10)) (fC (D.int 50))) (fC (D.int 1))) (fCons (fC (D.int 1)) fNil)))) (fCons (fTup (fCons (fC (D.int 0)) (fCons (fC (D.int 5)) (fCons (fC (D.int 5)) fNil)))) fNil)))))) (fgName 1))
  (fSeq (fAsg (fLst (fCons (fTup (fCons (fC (D.int 0)) (fCons (fC (D.int 1)) (fCons (fC (D.int 0)) fNil)))) (fCons (fTup (fCons (fC (D.int 1)) (fCons (fC (D.int 1)) (fCons (fC (D.int 1)) fNil)))) (fCons (fTup (fCons (fC (D.int 0)) (fCons (fC (D.int 0)) (fCons (fC (D.int 1)) fNil)))) (fCons (fTup (fCons (fC (D.int 0)) (fCons (fC (D.int 1)) (fCons (fC (D.int 2)) fNil)))) (fCons (fLst (fCons (fC (D.int 0)) (fCons (fC (D.int 1)) (fCons (fC (D.int 1)) fNil)))) (fCons (fTup (fCons (fC (D.int 0)) (fCons (fC (D.int 1)) fNil))) (fCons (fTup (fCons (fC (D.int 0)) (fCons (fC (D.int 1)) (fCons (fC (D.int 1)) (fCons (fC (D.int 0)) fNil))))) (fCons (fTup (fCons (fC (D.int 0)) (fCons (fC (D.bl true)) (fCons (fC (D.int 1)) fNil)))) (fCons (fTup (fCons (fC (D.bl false)) (fCons (fC (D.int 1)) (fCons (fC (D.int 1)) fNil)))) fNil)))))))))) (fgName 2))
  (fSeq (fAsg (fOp dAdd (fVar 2) (fLst (fCons (fTup (fCons (fNeg (fC (D.int 1))) (fCons (fC (D.int 1)) (fCons (fC (D.int 1)) fNil)))) (fCons (fC D.non) (fCons (fTup fNil) (fCons (fTup (fCons (fC (D.str "0")) (fCons (fC (D.int 1)) (fCons (fC (D.int 1)) fNil)))) (fCons (fTup (fCons (fC (D.int 0)) (fCons (fC (D.int 1)) (fCons (fC D.non) fNil)))) fNil))))))) (fgName 2))
  (fRet [] [] (fAndV (fOp dEq (fCallV [] [] (f_l_of p n m) (fCons (fVar 0) (fCons (fC (D.int 3)) (fCons (fC (D.str "possible")) (fCons (fVar 1) fNil))))) (fOp dRep (fLst (fCons (fC (D.bl true)) fNil)) (fC (D.int 5)))) (fOp dNotIn (fC (D.bl true)) (fCallV [] [] (f_l_of p n m) (fCons (fVar 0) (fCons (fC (D.int 3)) (fCons (fC (D.str "possible")) (fCons (fVar 2) fNil))))))))))))
abbrev s_l_strict_right : Stmt := top 25
theorem sc_l_strict_right : FnScope ["_law_many", "_law_some", "_law_good", "_law_bad"] ["_law_many"] (defScope s_l_strict_right) :=
  ⟨rfl, rfl, rfl, by decide +kernel, rfl, by decide +kernel, by decide +kernel⟩
def f_l_strict_right (p : Pk) (n m : Nat) : Fn := fDef 1 4 []
  (fSeq (fAsg (fLst (fCons (fTup (fCons (fTup (fCons (fC (D.int 1)) fNil)) (fCons (fTup (fCons (fC (D.int 2)) fNil)) (fCons (fC (D.str "left")) fNil)))) (fCons (fTup (fCons (fTup (fCons (fC (D.int 2)) fNil)) (fCons (fTup (fCons (fC (D.int 1)) (fCons (fC (D.int 3)) fNil))) (fCons (fC (D.str "left")) fNil)))) (fCons (fTup (fCons (fTup fNil) (fCons (fTup (fCons (fC (D.int 3)) fNil)) (fCons (fC (D.str "right")) fNil)))) fNil)))) (fgName 1))
  (fSeq (fAsg (fLst (fCons (fLst (fCons (fVar 0) (fCons (fVar 0) (fCons (fVar 0) fNil)))) (fCons (fLst (fCons (fC (D.int 1)) (fCons (fC (D.int 1)) (fCons (fC (D.int 1)) fNil)))) (fCons (fLst (fCons (fC (D.int 2)) (fCons (fC (D.int 2)) (fCons (fC (D.int 2)) fNil)))) (fCons (fLst (fCons (fC (D.int 1)) (fCons (fC (D.int 1)) (fCons (fC (D.int 2)) fNil)))) fNil))))) (fgName 2))
  (fSeq (fAsg (fLst (fCons (fLst (fCons (fC (D.int 0)) (fCons (fC (D.int 0)) (fCons (fC (D.int 0)) fNil)))) (fCons (fLst (fCons (fC (D.int 1)) (fCons (fC (D.int 0)) (fCons (fC (D.int 0)) fNil)))) (fCons (fLst (fCons (fC (D.int 0)) (fCons (fC (D.int 1)) (fCons (fC (D.int 0)) fNil)))) (fCons (fLst (fCons (fC (D.int 1)) (fCons (fC (D.int 1)) (fCons (fC (D.int 0)) fNil)))) (fCons (fLst (fCons (fC (D.int 2)) (fCons (fC (D.int 1)) (fCons (fC (D.int 1)) fNil)))) (fCons (fTup (fCons (fC (D.int 1)) (fCons (fC (D.int 1)) (fCons (fC (D.int 1)) fNil)))) (fCons (fLst (fCons (fC (D.int 1)) (fCons (fC (D.int 1)) fNil))) (fCons (fLst (fCons (fC (D.int 1)) (fCons (fC (D.int 1)) (fCons (fC (D.int 1)) (fCons (fC (D.int 0)) fNil))))) (fCons (fLst (fCons (fC (D.bl true)) (fCons (fC (D.int 1)) (fCons (fC (D.int 1)) fNil)))) fNil)))))))))) (fgName 3))
  (fSeq (fAsg (fOp dAdd (fVar 3) (fLst (fCons (fLst (fCons (fC (D.int 1)) (fCons (fC (D.int 1)) (fCons (fNeg (fC (D.int 1))) fNil)))) (fCons (fLst (fCons (fC (D.int 1)) (fCons (fC (D.int 1)) (fCons (fC (D.str "1")) fNil)))) (fCons (fC D.non) (fCons (fLst (fCons (fLst (fCons (fC (D.int 1)) (fCons (fC (D.int 1)) (fCons (fC (D.int 1)) fNil)))) fNil)) (fCons (fLst (fCons (fC (D.int 1)) (fCons (fC (D.int 1)) (fCons (fC D.non) fNil)))) fNil))))))) (fgName 3))
  (fRet [] [] (fAndV (fOp dEq (fCallV [] [] (f_l_of p n m) (fCons (fVar 1) (fCons (fC (D.int 1)) (fCons (fC (D.str "impossible")) (fCons (fVar 2) fNil))))) (fOp dRep (fLst (fCons (fC (D.bl true)) fNil)) (fC (D.int 4)))) (fOp dNotIn (fC (D.bl true)) (fCallV [] [] (f_l_of p n m) (fCons (fVar 1) (fCons (fC (D.int 1)) (fCons (fC (D.str "impossible")) (fCons (fVar 3) fNil))))))))))))
abbrev s_l_weak_right : Stmt := top 26
theorem sc_l_weak_right : FnScope ["_law_many", "_law_some"] ["_law_many"] (defScope s_l_weak_right) :=
  ⟨rfl, rfl, rfl, by decide +kernel, rfl, by decide +kernel, by decide +kernel⟩
def f_l_weak_right (p : Pk) (n m : Nat) : Fn := fDef 1 2 []
  (fSeq (fAsg (fLst (fCons (fTup (fCons (fTup (fCons (fC (D.int 1)) fNil)) (fCons (fTup (fCons (fC (D.int 1)) (fCons (fC (D.int 2)) fNil))) (fCons (fC (D.str "right")) fNil)))) (fCons (fTup (fCons (fTup (fCons (fC (D.int 3)) fNil)) (fCons (fTup (fCons (fC (D.int 1)) (fCons (fC (D.int 3)) fNil))) (fCons (fC (D.str "right")) fNil)))) fNil))) (fgName 1))
  (fSeq (fIfS (fB (fOp dNe (fCallV [] [] (f_l_of p n m) (fCons (fVar 1) (fCons (fC (D.int 2)) (fCons (fC (D.str "impossible")) (fCons (fLst (fCons (fLst (fCons (fVar 0) (fCons (fC (D.int 0)) fNil))) (fCons (fLst (fCons (fC (D.int 1)) (fCons (fC (D.int 1)) fNil))) (fCons (fLst (fCons (fC (D.int 0)) (fCons (fC (D.int 1)) fNil))) (fCons (fLst (fCons (fC (D.int 0)) (fCons (fC (D.int 0)) fNil))) fNil))))) fNil))))) (fLst (fCons (fC (D.bl true)) (fCons (fC (D.bl true)) (fCons (fC (D.bl false)) (fCons (fC (D.bl false)) fNil)))))))
  (fRet [] [] (fC (D.bl false)))
  fNext)
  (fRet [] [] (fOp dEq (fCallV [] [] (f_l_of p n m) (fCons (fVar 1) (fCons (fC (D.int 1)) (fCons (fC (D.str "impossible")) (fCons (fLst (fCons (fLst (fCons (fVar 0) (fCons (fC (D.int 0)) fNil))) (fCons (fLst (fCons (fC (D.int 1)) (fCons (fC (D.int 1)) fNil))) (fCons (fLst (fCons (fC (D.int 0)) (fCons (fC (D.int 1)) fNil))) (fCons (fLst (fCons (fC (D.int 0)) (fCons (fC (D.int 0)) fNil))) fNil))))) fNil))))) (fLst (fCons (fC (D.bl false)) (fCons (fC (D.bl true)) (fCons (fC (D.bl true)) (fCons (fC (D.bl false)) fNil)))))))))
abbrev s_law : Stmt := top 27
theorem sc_law : FnScope ["_law_script", "_law_at", "_law_many", "_law_some", "_law_odd", "_law_thing"] ["_law_script"] (defScope s_law) :=
  ⟨rfl, rfl, rfl, by decide +kernel, rfl, by decide +kernel, by decide +kernel⟩
def b_law (p : Pk) (n m : Nat) : Fs := (fSeq (fFor (fRng1 (fCons (fCB (two (dTwo dMax2)) (fCons (fC (D.int 2)) (fCons (fCB (two (dTwo dMin2)) (fCons (fC (D.int 4)) (fCons (fCB (one dLen) (fCons (fVar 0) fNil)) fNil))) fNil))) fNil)) (fgName 1)
  (fSeq (fAsg (fOp dAdd (fC (D.int 1)) (fCallT [] [] (f_l_take p n m) (fCallV [] [] (f_l_bag p n m) (fCons (fVar 0) (fCons (fVar 1) fNil))) (fCons (fOp dPowI (fC (D.int 10)) (fC (D.int 30))) fNil))) (fgName 2))
  (fSeq (fIfS (fOr (fNot (fB (fCallV [] [] (f_l_possible_right p n m) fNil))) (fOr (fNot (fB (fCallV [] [] (f_l_strict_right p n m) (fCons (fVar 2) fNil)))) (fNot (fB (fCallV [] [] (f_l_weak_right p n m) (fCons (fVar 2) fNil))))))
  (fRet [] [] (fC (D.bl false)))
  fNext)
  (fIfS (fNot (fB (fOp dIx (fCallV [] [] (f_l_of p n m) (fCons (fLst (fCons (fTup (fCons (fTup (fCons (fC (D.int 2)) fNil)) (fCons (fTup (fCons (fC (D.int 2)) fNil)) (fCons (fC (D.str "left")) fNil)))) fNil)) (fCons (fC (D.int 2)) (fCons (fC (D.str "impossible")) (fCons (fLst (fCons (fLst (fCons (fVar 2) fNil)) fNil)) fNil))))) (fC (D.int 0)))))
  (fRet [] [] (fC (D.bl false)))
  fNext))))
  (fSeq (fAsg (fLst (fCons (fTup (fCons (fTup fNil) (fCons (fTup fNil) (fCons (fC (D.str "left")) fNil)))) fNil)) (fgName 3))
  (fSeq (fIfS (fB (fOp dNe (fLst (fCons (fCallV [] [] (f_is_answer p n m) (fCons (fC (D.int 3)) (fCons (fVar 3) (fCons (fC (D.int 3)) (fCons (fTup (fCons (fC (D.str "impossible")) (fCons (fLst (fCons (fC (D.int 1)) fNil)) fNil))) fNil))))) (fCons (fCallV [] [] (f_is_answer p n m) (fCons (fC (D.int 3)) (fCons (fVar 3) (fCons (fC (D.int 3)) (fCons (fTup (fCons (fC (D.str "possible")) (fCons (fTup (fCons (fC (D.int 0)) (fCons (fC (D.int 0)) (fCons (fC (D.int 1)) fNil)))) fNil))) fNil))))) fNil))) (fLst (fCons (fC (D.bl true)) (fCons (fC (D.bl false)) fNil)))))
  (fRet [] [] (fC (D.bl false)))
  fNext)
  (fSeq (fAsg (fLst (fCons (fTup (fCons (fC (D.str "Possible")) (fCons (fTup (fCons (fC (D.int 0)) (fCons (fC (D.int 0)) (fCons (fC (D.int 1)) fNil)))) fNil))) (fCons (fLst (fCons (fC (D.str "possible")) (fCons (fTup (fCons (fC (D.int 0)) (fCons (fC (D.int 0)) (fCons (fC (D.int 1)) fNil)))) fNil))) (fCons (fTup (fCons (fC (D.str "possible")) fNil)) (fCons (fTup (fCons (fC (D.str "possible")) (fCons (fTup (fCons (fC (D.int 0)) (fCons (fC (D.int 0)) (fCons (fC (D.int 1)) fNil)))) (fCons (fC (D.int 0)) fNil)))) (fCons (fTup (fCons (fC (D.int 1)) (fCons (fTup (fCons (fC (D.int 0)) (fCons (fC (D.int 0)) (fCons (fC (D.int 1)) fNil)))) fNil))) fNil)))))) (fgName 4))
  (fRet [] [] (fOp dNotIn (fC (D.bl true)) (fLc [5] (fIt (fOp dAdd (fVar 4) (fLst (fCons (fTup (fCons (fC (D.str "impossible")) (fCons (fLst fNil) fNil))) fNil)))) (fgName 5) fYes (fCallV [] [] (f_is_answer p n m) (fCons (fC (D.int 3)) (fCons (fLst fNil) (fCons (fC (D.int 3)) (fCons (fVar 5) fNil))))))))))))
def f_law (p : Pk) (n m : Nat) : Fn := fDef 1 6 [] (b_law p n m)
/-- the constants of the top -/
structure Tg (K : PySem.W.Frag) (mg : Str → Option Value) where
  g_LEFT : ∃ u, mg "LEFT" = some u ∧ RelV (.str "left") u
  r_LEFT : ∀ H, Rp K H (.str "left") (D.str "left")
  g_MOST_CONDITIONS : ∃ u, mg "MOST_CONDITIONS" = some u ∧ RelV (.int 8) u
  r_MOST_CONDITIONS : ∀ H, Rp K H (.int 8) (D.int 8)
  a_NUMBERS_OF_PATTERNS : Addr
  g_NUMBERS_OF_PATTERNS : ∃ u, mg "NUMBERS_OF_PATTERNS" = some u ∧ RelV (.ref a_NUMBERS_OF_PATTERNS) u
  r_NUMBERS_OF_PATTERNS : ∀ H, Rp K H (.ref a_NUMBERS_OF_PATTERNS) (D.tup [(D.int 1), (D.int 3), (D.int 7)])
  g_RIGHT : ∃ u, mg "RIGHT" = some u ∧ RelV (.str "right") u
  r_RIGHT : ∀ H, Rp K H (.str "right") (D.str "right")
section
variable {P : Program} {w : World} {K : PySem.W.Frag} {mg : Str → Option Value} {base : Heap} (p : Pk) (n m : Nat) (B : Bl mg) (T : Tg K mg)
include B T
theorem cx_is_integer  (D : Df K mg "is_integer" s_is_integer) : CalD P w K mg base 1 "is_integer" [] (spF (f_is_integer p n m))  := by
  unfold f_is_integer
  refine calF2 (k := 0) (io := []) D sc_is_integer (by rfl) (by rfl) (fun _ _ _ _ _ _ us hl => match us, hl with | [_], _ => rfl) (by decide) fun f cdv A out s H E hr => ⟨_, _, [],
(db_one (ds_ret (de_and (de_cb call_isiD rf_isi (by rfl) B.isinstance (by decide +kernel) (da_cons (de_var (i := 0) rfl (by first | exact Or.inl rfl | exact Or.inr (Or.inl rfl) | exact Or.inr (Or.inr rfl)) (by decide)) (da_cons (de_ty (n := "int") (by rfl) B.int (by decide +kernel)) da_nil))) (de_one (de_not (de_cb call_isiD rf_isi (by rfl) B.isinstance (by decide +kernel) (da_cons (de_var (i := 0) rfl (by first | exact Or.inl rfl | exact Or.inr (Or.inl rfl) | exact Or.inr (Or.inr rfl)) (by decide)) (da_cons (de_ty (n := "bool") (by rfl) B.bool (by decide +kernel)) da_nil)))))) (by decide))), by decide, ?_⟩
  infer_instance
theorem cx_in_range (c_is_integer : CalD P w K mg base 1 "is_integer" [] (spF (f_is_integer p n m))) (D : Df K mg "in_range" s_in_range) : CalD P w K mg base 2 "in_range" [] (spF (f_in_range p n m))  := by
  unfold f_in_range
  refine calF2 (k := 1) (io := []) D sc_in_range (by rfl) (by rfl) (fun _ _ _ _ _ _ us hl => match us, hl with | [_, _, _], _ => rfl) (by decide) fun f cdv A out s H E hr => ⟨_, _, [],
(db_one (ds_ret (de_and (de_call c_is_integer hr (by omega) (by rfl) (by decide) (dr_val (de_var (i := 0) rfl (by first | exact Or.inl rfl | exact Or.inr (Or.inl rfl) | exact Or.inr (Or.inr rfl)) (by decide)) dr_nil)) (de_one (de_chain op_le op_le rf_leI rf_leI (de_var (i := 1) rfl (by first | exact Or.inl rfl | exact Or.inr (Or.inl rfl) | exact Or.inr (Or.inr rfl)) (by decide)) (de_var (i := 0) rfl (by first | exact Or.inl rfl | exact Or.inr (Or.inl rfl) | exact Or.inr (Or.inr rfl)) (by decide)) (de_var (i := 2) rfl (by first | exact Or.inl rfl | exact Or.inr (Or.inl rfl) | exact Or.inr (Or.inr rfl)) (by decide))))) (by decide))), by decide, ?_⟩
  infer_instance
theorem cx_are_patterns (c_in_range : CalD P w K mg base 2 "in_range" [] (spF (f_in_range p n m))) (D : Df K mg "are_patterns" s_are_patterns) : CalD P w K mg base 3 "are_patterns" [] (spF (f_are_patterns p n m))  := by
  unfold f_are_patterns
  refine calF2 (k := 2) (io := []) D sc_are_patterns (by rfl) (by rfl) (fun _ _ _ _ _ _ us hl => match us, hl with | [_, _], _ => rfl) (by decide) fun f cdv A out s H E hr => ⟨_, _, [],
(db_cons (ds_if (dw_t (dw_or (dt_not (dt_val (de_cb call_isiD rf_isi (by rfl) B.isinstance (by decide +kernel) (da_cons (de_var (i := 1) rfl (by first | exact Or.inl rfl | exact Or.inr (Or.inl rfl) | exact Or.inr (Or.inr rfl)) (by decide)) (da_cons (de_ty (n := "tuple") (by rfl) B.tuple (by decide +kernel)) da_nil))))) (dw_or1 (dt_not (dt_val (de_cb (cr_allD rfl) rf_all (by rfl) B.all (by decide +kernel) (da_cons (dl_lc2 (own := [("pattern", 2)]) (vs := [2]) (by rfl) (by rfl) sc_are_patterns.nd (by decide) (by decide) (di_tup (de_var (i := 1) rfl (by first | exact Or.inl rfl | exact Or.inr (Or.inl rfl) | exact Or.inr (Or.inr rfl)) (by decide))) (blkOk_by (own := [("pattern", 2)]) (N := ["patterns", "thing", "pattern"]) (sc := defScope s_are_patterns) (by decide +kernel)) (fun _ _ _ _ _ => (dg_name (i := 2) sc_are_patterns.nd rfl (Or.inl rfl) (by decide) (by decide))) (go_name (by decide)) (fun _ _ _ _ _ => dts_nil) (fun _ _ _ _ _ => (de_call c_in_range hr (by omega) (by rfl) (by decide) (dr_val (de_var (i := 2) rfl (by first | exact Or.inl rfl | exact Or.inr (Or.inl rfl) | exact Or.inr (Or.inr rfl)) (by decide)) (dr_val de_int (dr_val (de_var (i := 0) rfl (by first | exact Or.inl rfl | exact Or.inr (Or.inl rfl) | exact Or.inr (Or.inr rfl)) (by decide)) dr_nil)))))).e da_nil)))))))
(db_one (ds_ret de_bl (by decide)))
db_nil)
(db_one (ds_ret (de_cmp (op_eqK hr.rm.units) rf_eq (de_ct call_listK rf_list (by rfl) B.list (by decide +kernel) (da_cons (de_var (i := 1) rfl (by first | exact Or.inl rfl | exact Or.inr (Or.inl rfl) | exact Or.inr (Or.inr rfl)) (by decide)) da_nil)) (de_sortedSet (by rfl) (by rfl) B.sorted (by rfl) B.set (da_cons (de_var (i := 1) rfl (by first | exact Or.inl rfl | exact Or.inr (Or.inl rfl) | exact Or.inr (Or.inr rfl)) (by decide)) da_nil)) (nomark _)) (by decide)))), by decide, ?_⟩
  infer_instance
theorem cx_is_condition (c_are_patterns : CalD P w K mg base 3 "are_patterns" [] (spF (f_are_patterns p n m))) (D : Df K mg "is_condition" s_is_condition) : CalD P w K mg base 4 "is_condition" [] (spF (f_is_condition p n m))  := by
  unfold f_is_condition
  refine calF2 (k := 3) (io := []) D sc_is_condition (by rfl) (by rfl) (fun _ _ _ _ _ _ us hl => match us, hl with | [_, _], _ => rfl) (by decide) fun f cdv A out s H E hr => ⟨_, _, [],
(db_cons (ds_if (dw_t (dw_or (dt_not (dt_val (de_cb call_isiD rf_isi (by rfl) B.isinstance (by decide +kernel) (da_cons (de_var (i := 1) rfl (by first | exact Or.inl rfl | exact Or.inr (Or.inl rfl) | exact Or.inr (Or.inr rfl)) (by decide)) (da_cons (de_ty (n := "tuple") (by rfl) B.tuple (by decide +kernel)) da_nil))))) (dw_or1 (dt_cmp (op_neK hr.rm.units) rf_ne (de_cb call_lenDD rf_len (by rfl) B.len (by decide +kernel) (da_cons (de_var (i := 1) rfl (by first | exact Or.inl rfl | exact Or.inr (Or.inl rfl) | exact Or.inr (Or.inr rfl)) (by decide)) da_nil)) de_int (nomark _)))))
(db_one (ds_ret de_bl (by decide)))
db_nil)
(db_cons (ds_asg (de_var (i := 1) rfl (by first | exact Or.inl rfl | exact Or.inr (Or.inl rfl) | exact Or.inr (Or.inr rfl)) (by decide)) (dg_tup (n := 3) (by rfl) (dgs_cons (dg_name (i := 2) sc_is_condition.nd rfl (Or.inl rfl) (by decide) (by decide)) (dgs_cons (dg_name (i := 3) sc_is_condition.nd rfl (Or.inl rfl) (by decide) (by decide)) (dgs_cons (dg_name (i := 4) sc_is_condition.nd rfl (Or.inl rfl) (by decide) (by decide)) dgs_nil)))))
(db_cons (ds_if (dw_t (dw_or (dt_not (dt_val (de_call c_are_patterns hr (by omega) (by rfl) (by decide) (dr_val (de_var (i := 0) rfl (by first | exact Or.inl rfl | exact Or.inr (Or.inl rfl) | exact Or.inr (Or.inr rfl)) (by decide)) (dr_val (de_var (i := 2) rfl (by first | exact Or.inl rfl | exact Or.inr (Or.inl rfl) | exact Or.inr (Or.inr rfl)) (by decide)) dr_nil))))) (dw_or1 (dt_not (dt_val (de_call c_are_patterns hr (by omega) (by rfl) (by decide) (dr_val (de_var (i := 0) rfl (by first | exact Or.inl rfl | exact Or.inr (Or.inl rfl) | exact Or.inr (Or.inr rfl)) (by decide)) (dr_val (de_var (i := 3) rfl (by first | exact Or.inl rfl | exact Or.inr (Or.inl rfl) | exact Or.inr (Or.inr rfl)) (by decide)) dr_nil))))))))
(db_one (ds_ret de_bl (by decide)))
db_nil)
(db_one (ds_ret (de_and (de_cb call_isiD rf_isi (by rfl) B.isinstance (by decide +kernel) (da_cons (de_var (i := 4) rfl (by first | exact Or.inl rfl | exact Or.inr (Or.inl rfl) | exact Or.inr (Or.inr rfl)) (by decide)) (da_cons (de_ty (n := "str") (by rfl) B.str (by decide +kernel)) da_nil))) (de_one (de_cmp op_inK rf_in (de_var (i := 4) rfl (by first | exact Or.inl rfl | exact Or.inr (Or.inl rfl) | exact Or.inr (Or.inr rfl)) (by decide)) (de_tup (da_cons (de_gc (by rfl) T.g_LEFT T.r_LEFT) (da_cons (de_gc (by rfl) T.g_RIGHT T.r_RIGHT) da_nil))) (by rfl)))) (by decide)))))), by decide, ?_⟩
  infer_instance
theorem cx_check_question (c_is_integer : CalD P w K mg base 1 "is_integer" [] (spF (f_is_integer p n m))) (c_is_condition : CalD P w K mg base 4 "is_condition" [] (spF (f_is_condition p n m))) (c_in_range : CalD P w K mg base 2 "in_range" [] (spF (f_in_range p n m))) (D : Df K mg "check_question" s_check_question) : CalD P w K mg base 5 "check_question" [] (spF (f_check_question p n m))  := by
  unfold f_check_question
  refine calF2 (k := 4) (io := []) D sc_check_question (by rfl) (by rfl) (fun _ _ _ _ _ _ us hl => match us, hl with | [_, _, _], _ => rfl) (by decide) fun f cdv A out s H E hr => ⟨_, _, [],
(db_cons (ds_if (dw_t (dw_or (dt_not (dt_val (de_call c_is_integer hr (by omega) (by rfl) (by decide) (dr_val (de_var (i := 0) rfl (by first | exact Or.inl rfl | exact Or.inr (Or.inl rfl) | exact Or.inr (Or.inr rfl)) (by decide)) dr_nil)))) (dw_or1 (dt_cmp op_notInK rf_notIn (de_var (i := 0) rfl (by first | exact Or.inl rfl | exact Or.inr (Or.inl rfl) | exact Or.inr (Or.inr rfl)) (by decide)) (de_gc (by rfl) T.g_NUMBERS_OF_PATTERNS T.r_NUMBERS_OF_PATTERNS) (by rfl)))))
(db_one ds_never)
db_nil)
(db_cons (ds_if (dw_t (dw_or (dt_not (dt_val (de_cb call_isiD rf_isi (by rfl) B.isinstance (by decide +kernel) (da_cons (de_var (i := 1) rfl (by first | exact Or.inl rfl | exact Or.inr (Or.inl rfl) | exact Or.inr (Or.inr rfl)) (by decide)) (da_cons (de_ty (n := "list") (by rfl) B.list (by decide +kernel)) da_nil))))) (dw_or1 (dt_cmp op_gt rf_gtI (de_cb call_lenDD rf_len (by rfl) B.len (by decide +kernel) (da_cons (de_var (i := 1) rfl (by first | exact Or.inl rfl | exact Or.inr (Or.inl rfl) | exact Or.inr (Or.inr rfl)) (by decide)) da_nil)) (de_gc (by rfl) T.g_MOST_CONDITIONS T.r_MOST_CONDITIONS) (nomark _)))))
(db_one ds_never)
db_nil)
(db_cons (ds_if (dt_not (dt_val (de_cb (cr_allD rfl) rf_all (by rfl) B.all (by decide +kernel) (da_cons (dl_lc2 (own := [("condition", 3)]) (vs := [3]) (by rfl) (by rfl) sc_check_question.nd (by decide) (by decide) (di_list (de_var (i := 1) rfl (by first | exact Or.inl rfl | exact Or.inr (Or.inl rfl) | exact Or.inr (Or.inr rfl)) (by decide))) (blkOk_by (own := [("condition", 3)]) (N := ["patterns", "conditions", "pattern", "condition"]) (sc := defScope s_check_question) (by decide +kernel)) (fun _ _ _ _ _ => (dg_name (i := 3) sc_check_question.nd rfl (Or.inl rfl) (by decide) (by decide))) (go_name (by decide)) (fun _ _ _ _ _ => dts_nil) (fun _ _ _ _ _ => (de_call c_is_condition hr (by omega) (by rfl) (by decide) (dr_val (de_var (i := 0) rfl (by first | exact Or.inl rfl | exact Or.inr (Or.inl rfl) | exact Or.inr (Or.inr rfl)) (by decide)) (dr_val (de_var (i := 3) rfl (by first | exact Or.inl rfl | exact Or.inr (Or.inl rfl) | exact Or.inr (Or.inr rfl)) (by decide)) dr_nil))))).e da_nil))))
(db_one ds_never)
db_nil)
(db_one (ds_if (dt_not (dt_val (de_call c_in_range hr (by omega) (by rfl) (by decide) (dr_val (de_var (i := 2) rfl (by first | exact Or.inl rfl | exact Or.inr (Or.inl rfl) | exact Or.inr (Or.inr rfl)) (by decide)) (dr_val de_int (dr_val (de_var (i := 0) rfl (by first | exact Or.inl rfl | exact Or.inr (Or.inl rfl) | exact Or.inr (Or.inr rfl)) (by decide)) dr_nil))))))
(db_one ds_never)
db_nil))))), by decide, ?_⟩
  infer_instance
theorem cx_weights_of  (D : Df K mg "weights_of" s_weights_of) : CalD P w K mg base 1 "weights_of" [] (spF (f_weights_of p n m))  := by
  unfold f_weights_of
  refine calF2 (k := 0) (io := []) D sc_weights_of (by rfl) (by rfl) (fun _ _ _ _ _ _ us hl => match us, hl with | [_, _], _ => rfl) (by decide) fun f cdv A out s H E hr => ⟨_, _, [],
(db_cons (ds_asg (de_var (i := 1) rfl (by first | exact Or.inl rfl | exact Or.inr (Or.inl rfl) | exact Or.inr (Or.inr rfl)) (by decide)) (dg_tup (n := 3) (by rfl) (dgs_cons (dg_name (i := 2) sc_weights_of.nd rfl (Or.inr rfl) (by decide) (by decide)) (dgs_cons (dg_name (i := 3) sc_weights_of.nd rfl (Or.inr rfl) (by decide) (by decide)) (dgs_cons (dg_name (i := 4) sc_weights_of.nd rfl (Or.inl rfl) (by decide) (by decide)) dgs_nil)))))
(db_cons (ds_setLc (own := [("pattern", 6)]) (vs := [6]) (by rfl) (by rfl) sc_weights_of.nd (by decide) (by decide) (di_range2 (by rfl) B.range (da_cons de_int (da_cons (de_op op_addD rf_add (de_var (i := 0) rfl (by first | exact Or.inl rfl | exact Or.inr (Or.inl rfl) | exact Or.inr (Or.inr rfl)) (by decide)) de_int) da_nil))) (blkOk_by (own := [("pattern", 6)]) (N := ["patterns", "condition", "less", "more", "side", "weights", "pattern", "weight"]) (sc := defScope s_weights_of) (by decide +kernel)) (fun _ _ _ _ _ => (dg_name (i := 6) sc_weights_of.nd rfl (Or.inl rfl) (by decide) (by decide))) (go_name (by decide)) (fun _ _ _ _ _ => dts_nil) (fun _ _ _ _ _ => (de_op op_sub rf_sub (de_ct call_int1 rf_int1 (by rfl) B.int (by decide +kernel) (da_cons (de_cmp op_inK rf_in (de_var (i := 6) rfl (by first | exact Or.inl rfl | exact Or.inr (Or.inl rfl) | exact Or.inr (Or.inr rfl)) (by decide)) (de_var (i := 3) rfl (by first | exact Or.inl rfl | exact Or.inr (Or.inl rfl) | exact Or.inr (Or.inr rfl)) (by decide)) (by rfl)) da_nil)) (de_ct call_int1 rf_int1 (by rfl) B.int (by decide +kernel) (da_cons (de_cmp op_inK rf_in (de_var (i := 6) rfl (by first | exact Or.inl rfl | exact Or.inr (Or.inl rfl) | exact Or.inr (Or.inr rfl)) (by decide)) (de_var (i := 2) rfl (by first | exact Or.inl rfl | exact Or.inr (Or.inl rfl) | exact Or.inr (Or.inr rfl)) (by decide)) (by rfl)) da_nil)))) (i := 5) rfl rfl (sw_true rfl rfl rfl (by decide +kernel)) (by decide) (by decide))
(db_one (ds_ret (de_if (dt_cmp (op_eqK hr.rm.units) rf_eq (de_var (i := 4) rfl (by first | exact Or.inl rfl | exact Or.inr (Or.inl rfl) | exact Or.inr (Or.inr rfl)) (by decide)) (de_gc (by rfl) T.g_LEFT T.r_LEFT) (nomark _)) (de_var (i := 5) rfl (by first | exact Or.inl rfl | exact Or.inr (Or.inl rfl) | exact Or.inr (Or.inr rfl)) (by decide)) (dl_lc2 (own := [("weight", 7)]) (vs := [7]) (by rfl) (by rfl) sc_weights_of.nd (by decide) (by decide) (di_list (de_var (i := 5) rfl (by first | exact Or.inl rfl | exact Or.inr (Or.inl rfl) | exact Or.inr (Or.inr rfl)) (by decide))) (blkOk_by (own := [("weight", 7)]) (N := ["patterns", "condition", "less", "more", "side", "weights", "pattern", "weight"]) (sc := defScope s_weights_of) (by decide +kernel)) (fun _ _ _ _ _ => (dg_name (i := 7) sc_weights_of.nd rfl (Or.inl rfl) (by decide) (by decide))) (go_name (by decide)) (fun _ _ _ _ _ => dts_nil) (fun _ _ _ _ _ => (de_neg (de_var (i := 7) rfl (by first | exact Or.inl rfl | exact Or.inr (Or.inl rfl) | exact Or.inr (Or.inr rfl)) (by decide))))).e) (by decide))))), by decide, ?_⟩
  infer_instance
theorem cx_satisfies  (D : Df K mg "satisfies" s_satisfies) : CalD P w K mg base 1 "satisfies" [] (spF (f_satisfies p n m))  := by
  unfold f_satisfies
  refine calF2 (k := 0) (io := []) D sc_satisfies (by rfl) (by rfl) (fun _ _ _ _ _ _ us hl => match us, hl with | [_, _], _ => rfl) (by decide) fun f cdv A out s H E hr => ⟨_, _, [],
(db_cons (ds_asg (de_var (i := 1) rfl (by first | exact Or.inl rfl | exact Or.inr (Or.inl rfl) | exact Or.inr (Or.inr rfl)) (by decide)) (dg_tup (n := 3) (by rfl) (dgs_cons (dg_name (i := 2) sc_satisfies.nd rfl (Or.inl rfl) (by decide) (by decide)) (dgs_cons (dg_name (i := 3) sc_satisfies.nd rfl (Or.inl rfl) (by decide) (by decide)) (dgs_cons (dg_name (i := 4) sc_satisfies.nd rfl (Or.inl rfl) (by decide) (by decide)) dgs_nil)))))
(db_cons (ds_set (i := 5) sc_satisfies.nd rfl (Or.inl rfl) (by decide) (by decide) (de_cmp op_lt rf_ltI (de_cb (cr_sumD rfl) rf_sum (by rfl) B.sum (by decide +kernel) (da_cons (dl_lc2 (own := [("pattern", 6)]) (vs := [6]) (by rfl) (by rfl) sc_satisfies.nd (by decide) (by decide) (di_tup (de_var (i := 2) rfl (by first | exact Or.inl rfl | exact Or.inr (Or.inl rfl) | exact Or.inr (Or.inr rfl)) (by decide))) (blkOk_by (own := [("pattern", 6)]) (N := ["counts", "condition", "less", "more", "side", "is_less", "pattern"]) (sc := defScope s_satisfies) (by decide +kernel)) (fun _ _ _ _ _ => (dg_name (i := 6) sc_satisfies.nd rfl (Or.inl rfl) (by decide) (by decide))) (go_name (by decide)) (fun _ _ _ _ _ => dts_nil) (fun _ _ _ _ _ => (de_ix (de_var (i := 0) rfl (by first | exact Or.inl rfl | exact Or.inr (Or.inl rfl) | exact Or.inr (Or.inr rfl)) (by decide)) (de_op op_sub rf_sub (de_var (i := 6) rfl (by first | exact Or.inl rfl | exact Or.inr (Or.inl rfl) | exact Or.inr (Or.inr rfl)) (by decide)) de_int)))).e da_nil)) (de_cb (cr_sumD rfl) rf_sum (by rfl) B.sum (by decide +kernel) (da_cons (dl_lc2 (own := [("pattern", 6)]) (vs := [6]) (by rfl) (by rfl) sc_satisfies.nd (by decide) (by decide) (di_tup (de_var (i := 3) rfl (by first | exact Or.inl rfl | exact Or.inr (Or.inl rfl) | exact Or.inr (Or.inr rfl)) (by decide))) (blkOk_by (own := [("pattern", 6)]) (N := ["counts", "condition", "less", "more", "side", "is_less", "pattern"]) (sc := defScope s_satisfies) (by decide +kernel)) (fun _ _ _ _ _ => (dg_name (i := 6) sc_satisfies.nd rfl (Or.inl rfl) (by decide) (by decide))) (go_name (by decide)) (fun _ _ _ _ _ => dts_nil) (fun _ _ _ _ _ => (de_ix (de_var (i := 0) rfl (by first | exact Or.inl rfl | exact Or.inr (Or.inl rfl) | exact Or.inr (Or.inr rfl)) (by decide)) (de_op op_sub rf_sub (de_var (i := 6) rfl (by first | exact Or.inl rfl | exact Or.inr (Or.inl rfl) | exact Or.inr (Or.inr rfl)) (by decide)) de_int)))).e da_nil)) (nomark _)))
(db_one (ds_ret (de_cmp (op_eqK hr.rm.units) rf_eq (de_var (i := 5) rfl (by first | exact Or.inl rfl | exact Or.inr (Or.inl rfl) | exact Or.inr (Or.inr rfl)) (by decide)) (de_cmp (op_eqK hr.rm.units) rf_eq (de_var (i := 4) rfl (by first | exact Or.inl rfl | exact Or.inr (Or.inl rfl) | exact Or.inr (Or.inr rfl)) (by decide)) (de_gc (by rfl) T.g_LEFT T.r_LEFT) (nomark _)) (nomark _)) (by decide))))), by decide, ?_⟩
  infer_instance
theorem cx_are_counts (c_is_integer : CalD P w K mg base 1 "is_integer" [] (spF (f_is_integer p n m))) (D : Df K mg "are_counts" s_are_counts) : CalD P w K mg base 2 "are_counts" [] (spF (f_are_counts p n m))  := by
  unfold f_are_counts
  refine calF2 (k := 1) (io := []) D sc_are_counts (by rfl) (by rfl) (fun _ _ _ _ _ _ us hl => match us, hl with | [_, _], _ => rfl) (by decide) fun f cdv A out s H E hr => ⟨_, _, [],
(db_cons (ds_if (dw_t (dw_or (dt_not (dt_val (de_cb call_isiD rf_isi (by rfl) B.isinstance (by decide +kernel) (da_cons (de_var (i := 1) rfl (by first | exact Or.inl rfl | exact Or.inr (Or.inl rfl) | exact Or.inr (Or.inr rfl)) (by decide)) (da_cons (de_ty (n := "tuple") (by rfl) B.tuple (by decide +kernel)) da_nil))))) (dw_or1 (dt_cmp (op_neK hr.rm.units) rf_ne (de_cb call_lenDD rf_len (by rfl) B.len (by decide +kernel) (da_cons (de_var (i := 1) rfl (by first | exact Or.inl rfl | exact Or.inr (Or.inl rfl) | exact Or.inr (Or.inr rfl)) (by decide)) da_nil)) (de_var (i := 0) rfl (by first | exact Or.inl rfl | exact Or.inr (Or.inl rfl) | exact Or.inr (Or.inr rfl)) (by decide)) (nomark _)))))
(db_one (ds_ret de_bl (by decide)))
db_nil)
(db_one (ds_ret (de_cb (cr_allD rfl) rf_all (by rfl) B.all (by decide +kernel) (da_cons (dl_lc2 (own := [("count", 2)]) (vs := [2]) (by rfl) (by rfl) sc_are_counts.nd (by decide) (by decide) (di_tup (de_var (i := 1) rfl (by first | exact Or.inl rfl | exact Or.inr (Or.inl rfl) | exact Or.inr (Or.inr rfl)) (by decide))) (blkOk_by (own := [("count", 2)]) (N := ["patterns", "thing", "count"]) (sc := defScope s_are_counts) (by decide +kernel)) (fun _ _ _ _ _ => (dg_name (i := 2) sc_are_counts.nd rfl (Or.inl rfl) (by decide) (by decide))) (go_name (by decide)) (fun _ _ _ _ _ => dts_nil) (fun _ _ _ _ _ => (de_and (de_call c_is_integer hr (by omega) (by rfl) (by decide) (dr_val (de_var (i := 2) rfl (by first | exact Or.inl rfl | exact Or.inr (Or.inl rfl) | exact Or.inr (Or.inr rfl)) (by decide)) dr_nil)) (de_one (de_cmp op_ge rf_geI (de_var (i := 2) rfl (by first | exact Or.inl rfl | exact Or.inr (Or.inl rfl) | exact Or.inr (Or.inr rfl)) (by decide)) de_int (nomark _)))))).e da_nil)) (by decide)))), by decide, ?_⟩
  infer_instance
theorem cx_solves (c_are_counts : CalD P w K mg base 2 "are_counts" [] (spF (f_are_counts p n m))) (c_satisfies : CalD P w K mg base 1 "satisfies" [] (spF (f_satisfies p n m))) (D : Df K mg "solves" s_solves) : CalD P w K mg base 3 "solves" [] (spF (f_solves p n m))  := by
  unfold f_solves
  refine calF2 (k := 2) (io := []) D sc_solves (by rfl) (by rfl) (fun _ _ _ _ _ _ us hl => match us, hl with | [_, _, _, _], _ => rfl) (by decide) fun f cdv A out s H E hr => ⟨_, _, [],
(db_cons (ds_if (dw_t (dw_or (dt_not (dt_val (de_call c_are_counts hr (by omega) (by rfl) (by decide) (dr_val (de_var (i := 0) rfl (by first | exact Or.inl rfl | exact Or.inr (Or.inl rfl) | exact Or.inr (Or.inr rfl)) (by decide)) (dr_val (de_var (i := 3) rfl (by first | exact Or.inl rfl | exact Or.inr (Or.inl rfl) | exact Or.inr (Or.inr rfl)) (by decide)) dr_nil))))) (dw_or1 (dt_cmp (op_eqK hr.rm.units) rf_eq (de_ix (de_var (i := 3) rfl (by first | exact Or.inl rfl | exact Or.inr (Or.inl rfl) | exact Or.inr (Or.inr rfl)) (by decide)) (de_op op_sub rf_sub (de_var (i := 2) rfl (by first | exact Or.inl rfl | exact Or.inr (Or.inl rfl) | exact Or.inr (Or.inr rfl)) (by decide)) de_int)) de_int (nomark _)))))
(db_one (ds_ret de_bl (by decide)))
db_nil)
(db_one (ds_ret (de_cb (cr_allD rfl) rf_all (by rfl) B.all (by decide +kernel) (da_cons (dl_lc2 (own := [("condition", 4)]) (vs := [4]) (by rfl) (by rfl) sc_solves.nd (by decide) (by decide) (di_list (de_var (i := 1) rfl (by first | exact Or.inl rfl | exact Or.inr (Or.inl rfl) | exact Or.inr (Or.inr rfl)) (by decide))) (blkOk_by (own := [("condition", 4)]) (N := ["patterns", "conditions", "pattern", "thing", "condition"]) (sc := defScope s_solves) (by decide +kernel)) (fun _ _ _ _ _ => (dg_name (i := 4) sc_solves.nd rfl (Or.inl rfl) (by decide) (by decide))) (go_name (by decide)) (fun _ _ _ _ _ => dts_nil) (fun _ _ _ _ _ => (de_call c_satisfies hr (by omega) (by rfl) (by decide) (dr_val (de_var (i := 3) rfl (by first | exact Or.inl rfl | exact Or.inr (Or.inl rfl) | exact Or.inr (Or.inr rfl)) (by decide)) (dr_val (de_var (i := 4) rfl (by first | exact Or.inl rfl | exact Or.inr (Or.inl rfl) | exact Or.inr (Or.inr rfl)) (by decide)) dr_nil))))).e da_nil)) (by decide)))), by decide, ?_⟩
  infer_instance
theorem cx_refutes (c_is_integer : CalD P w K mg base 1 "is_integer" [] (spF (f_is_integer p n m))) (c_weights_of : CalD P w K mg base 1 "weights_of" [] (spF (f_weights_of p n m))) (D : Df K mg "refutes" s_refutes) : CalD P w K mg base 2 "refutes" [] (spF (f_refutes p n m))  := by
  unfold f_refutes
  refine calF2 (k := 1) (io := []) D sc_refutes (by rfl) (by rfl) (fun _ _ _ _ _ _ us hl => match us, hl with | [_, _, _, _], _ => rfl) (by decide) fun f cdv A out s H E hr => ⟨_, _, [],
(db_cons (ds_if (dw_t (dw_or (dt_not (dt_val (de_cb call_isiD rf_isi (by rfl) B.isinstance (by decide +kernel) (da_cons (de_var (i := 3) rfl (by first | exact Or.inl rfl | exact Or.inr (Or.inl rfl) | exact Or.inr (Or.inr rfl)) (by decide)) (da_cons (de_ty (n := "list") (by rfl) B.list (by decide +kernel)) da_nil))))) (dw_or1 (dt_cmp (op_neK hr.rm.units) rf_ne (de_cb call_lenDD rf_len (by rfl) B.len (by decide +kernel) (da_cons (de_var (i := 3) rfl (by first | exact Or.inl rfl | exact Or.inr (Or.inl rfl) | exact Or.inr (Or.inr rfl)) (by decide)) da_nil)) (de_cb call_lenDD rf_len (by rfl) B.len (by decide +kernel) (da_cons (de_var (i := 1) rfl (by first | exact Or.inl rfl | exact Or.inr (Or.inl rfl) | exact Or.inr (Or.inr rfl)) (by decide)) da_nil)) (nomark _)))))
(db_one (ds_ret de_bl (by decide)))
db_nil)
(db_cons (ds_if (dt_not (dt_val (de_cb (cr_allD rfl) rf_all (by rfl) B.all (by decide +kernel) (da_cons (dl_lc2 (own := [("factor", 5)]) (vs := [5]) (by rfl) (by rfl) sc_refutes.nd (by decide) (by decide) (di_list (de_var (i := 3) rfl (by first | exact Or.inl rfl | exact Or.inr (Or.inl rfl) | exact Or.inr (Or.inr rfl)) (by decide))) (blkOk_by (own := [("factor", 5)]) (N := ["patterns", "conditions", "pattern", "thing", "total", "factor", "condition", "strict", "known", "more"]) (sc := defScope s_refutes) (by decide +kernel)) (fun _ _ _ _ _ => (dg_name (i := 5) sc_refutes.nd rfl (Or.inl rfl) (by decide) (by decide))) (go_name (by decide)) (fun _ _ _ _ _ => dts_nil) (fun _ _ _ _ _ => (de_and (de_call c_is_integer hr (by omega) (by rfl) (by decide) (dr_val (de_var (i := 5) rfl (by first | exact Or.inl rfl | exact Or.inr (Or.inl rfl) | exact Or.inr (Or.inr rfl)) (by decide)) dr_nil)) (de_one (de_cmp op_ge rf_geI (de_var (i := 5) rfl (by first | exact Or.inl rfl | exact Or.inr (Or.inl rfl) | exact Or.inr (Or.inr rfl)) (by decide)) de_int (nomark _)))))).e da_nil))))
(db_one (ds_ret de_bl (by decide)))
db_nil)
(db_cons (ds_set (i := 4) sc_refutes.nd rfl (Or.inl rfl) (by decide) (by decide) (de_op op_repD rf_rep (dl_lst (da_cons de_int da_nil)).e (de_var (i := 0) rfl (by first | exact Or.inl rfl | exact Or.inr (Or.inl rfl) | exact Or.inr (Or.inr rfl)) (by decide))))
(db_cons (ds_for (by rfl) (di_zipS (by rfl) B.zip (da_cons (de_var (i := 3) rfl (by first | exact Or.inl rfl | exact Or.inr (Or.inl rfl) | exact Or.inr (Or.inr rfl)) (by decide)) (da_cons (de_var (i := 1) rfl (by first | exact Or.inl rfl | exact Or.inr (Or.inl rfl) | exact Or.inr (Or.inr rfl)) (by decide)) da_nil))) (dg_tup (n := 2) (by rfl) (dgs_cons (dg_name (i := 5) sc_refutes.nd rfl (Or.inr rfl) (by decide) (by decide)) (dgs_cons (dg_name (i := 6) sc_refutes.nd rfl (Or.inl rfl) (by decide) (by decide)) dgs_nil)))
(db_one (ds_setLc (own := [("known", 8), ("more", 9)]) (vs := [8, 9]) (by rfl) (by rfl) sc_refutes.nd (by decide) (by decide) (di_zipS (by rfl) B.zip (da_cons (de_var (i := 4) rfl (by first | exact Or.inl rfl | exact Or.inr (Or.inl rfl) | exact Or.inr (Or.inr rfl)) (by decide)) (da_cons (de_call c_weights_of hr (by omega) (by rfl) (by decide) (dr_val (de_var (i := 0) rfl (by first | exact Or.inl rfl | exact Or.inr (Or.inl rfl) | exact Or.inr (Or.inr rfl)) (by decide)) (dr_val (de_var (i := 6) rfl (by first | exact Or.inl rfl | exact Or.inr (Or.inl rfl) | exact Or.inr (Or.inr rfl)) (by decide)) dr_nil))) da_nil))) (blkOk_by (own := [("known", 8), ("more", 9)]) (N := ["patterns", "conditions", "pattern", "thing", "total", "factor", "condition", "strict", "known", "more"]) (sc := defScope s_refutes) (by decide +kernel)) (fun _ _ _ _ _ => (dg_tup (n := 2) (by rfl) (dgs_cons (dg_name (i := 8) sc_refutes.nd rfl (Or.inl rfl) (by decide) (by decide)) (dgs_cons (dg_name (i := 9) sc_refutes.nd rfl (Or.inl rfl) (by decide) (by decide)) dgs_nil)))) (go_tup (gos_cons (go_name (by decide)) (gos_cons (go_name (by decide)) gos_nil))) (fun _ _ _ _ _ => dts_nil) (fun _ _ _ _ _ => (de_op op_addD rf_add (de_var (i := 8) rfl (by first | exact Or.inl rfl | exact Or.inr (Or.inl rfl) | exact Or.inr (Or.inr rfl)) (by decide)) (de_op op_mulA rf_mulI (de_var (i := 5) rfl (by first | exact Or.inl rfl | exact Or.inr (Or.inl rfl) | exact Or.inr (Or.inr rfl)) (by decide)) (de_var (i := 9) rfl (by first | exact Or.inl rfl | exact Or.inr (Or.inl rfl) | exact Or.inr (Or.inr rfl)) (by decide))))) (i := 4) rfl rfl (sw_true rfl rfl rfl (by decide +kernel)) (by decide) (by decide))))
(db_cons (ds_if (dt_cmp op_gt rf_gtI (de_cb (cr_maxD rfl) rf_max1 (by rfl) B.max (by decide +kernel) (da_cons (de_var (i := 4) rfl (by first | exact Or.inl rfl | exact Or.inr (Or.inl rfl) | exact Or.inr (Or.inr rfl)) (by decide)) da_nil)) de_int (nomark _))
(db_one (ds_ret de_bl (by decide)))
db_nil)
(db_cons (ds_setLc (own := [("factor", 5), ("condition", 6)]) (vs := [5, 6]) (by rfl) (by rfl) sc_refutes.nd (by decide) (by decide) (di_zipS (by rfl) B.zip (da_cons (de_var (i := 3) rfl (by first | exact Or.inl rfl | exact Or.inr (Or.inl rfl) | exact Or.inr (Or.inr rfl)) (by decide)) (da_cons (de_var (i := 1) rfl (by first | exact Or.inl rfl | exact Or.inr (Or.inl rfl) | exact Or.inr (Or.inr rfl)) (by decide)) da_nil))) (blkOk_by (own := [("factor", 5), ("condition", 6)]) (N := ["patterns", "conditions", "pattern", "thing", "total", "factor", "condition", "strict", "known", "more"]) (sc := defScope s_refutes) (by decide +kernel)) (fun _ _ _ _ _ => (dg_tup (n := 2) (by rfl) (dgs_cons (dg_name (i := 5) sc_refutes.nd rfl (Or.inl rfl) (by decide) (by decide)) (dgs_cons (dg_name (i := 6) sc_refutes.nd rfl (Or.inl rfl) (by decide) (by decide)) dgs_nil)))) (go_tup (gos_cons (go_name (by decide)) (gos_cons (go_name (by decide)) gos_nil))) (fun _ _ _ _ _ => (dts_one (dt_cmp (op_eqK hr.rm.units) rf_eq (de_ix (de_var (i := 6) rfl (by first | exact Or.inl rfl | exact Or.inr (Or.inl rfl) | exact Or.inr (Or.inr rfl)) (by decide)) de_int) (de_gc (by rfl) T.g_LEFT T.r_LEFT) (nomark _)))) (fun _ _ _ _ _ => (de_var (i := 5) rfl (by first | exact Or.inl rfl | exact Or.inr (Or.inl rfl) | exact Or.inr (Or.inr rfl)) (by decide))) (i := 7) rfl rfl (sw_true rfl rfl rfl (by decide +kernel)) (by decide) (by decide))
(db_one (ds_ret (de_or (de_cmp op_gt rf_gtI (de_maxd (by rfl) hr.rm.units (by rfl) B.max (de_var (i := 7) rfl (by first | exact Or.inl rfl | exact Or.inr (Or.inl rfl) | exact Or.inr (Or.inr rfl)) (by decide)) de_int) de_int (nomark _)) (de_one (de_cmp op_lt rf_ltI (de_ix (de_var (i := 4) rfl (by first | exact Or.inl rfl | exact Or.inr (Or.inl rfl) | exact Or.inr (Or.inr rfl)) (by decide)) (de_op op_sub rf_sub (de_var (i := 2) rfl (by first | exact Or.inl rfl | exact Or.inr (Or.inl rfl) | exact Or.inr (Or.inr rfl)) (by decide)) de_int)) de_int (nomark _)))) (by decide))))))))), by decide, ?_⟩
  infer_instance
theorem cx_is_answer (c_check_question : CalD P w K mg base 5 "check_question" [] (spF (f_check_question p n m))) (c_solves : CalD P w K mg base 3 "solves" [] (spF (f_solves p n m))) (c_refutes : CalD P w K mg base 2 "refutes" [] (spF (f_refutes p n m))) (D : Df K mg "is_answer" s_is_answer) : CalD P w K mg base 6 "is_answer" [] (spF (f_is_answer p n m))  := by
  unfold f_is_answer
  refine calF2 (k := 5) (io := []) D sc_is_answer (by rfl) (by rfl) (fun _ _ _ _ _ _ us hl => match us, hl with | [_, _, _, _], _ => rfl) (by decide) fun f cdv A out s H E hr => ⟨_, _, [],
(db_cons (ds_expr (de_call c_check_question hr (by omega) (by rfl) (by decide) (dr_val (de_var (i := 0) rfl (by first | exact Or.inl rfl | exact Or.inr (Or.inl rfl) | exact Or.inr (Or.inr rfl)) (by decide)) (dr_val (de_var (i := 1) rfl (by first | exact Or.inl rfl | exact Or.inr (Or.inl rfl) | exact Or.inr (Or.inr rfl)) (by decide)) (dr_val (de_var (i := 2) rfl (by first | exact Or.inl rfl | exact Or.inr (Or.inl rfl) | exact Or.inr (Or.inr rfl)) (by decide)) dr_nil)))))
(db_cons (ds_if (dw_t (dw_or (dt_not (dt_val (de_cb call_isiD rf_isi (by rfl) B.isinstance (by decide +kernel) (da_cons (de_var (i := 3) rfl (by first | exact Or.inl rfl | exact Or.inr (Or.inl rfl) | exact Or.inr (Or.inr rfl)) (by decide)) (da_cons (de_ty (n := "tuple") (by rfl) B.tuple (by decide +kernel)) da_nil))))) (dw_or (dt_cmp (op_neK hr.rm.units) rf_ne (de_cb call_lenDD rf_len (by rfl) B.len (by decide +kernel) (da_cons (de_var (i := 3) rfl (by first | exact Or.inl rfl | exact Or.inr (Or.inl rfl) | exact Or.inr (Or.inr rfl)) (by decide)) da_nil)) de_int (nomark _)) (dw_or1 (dt_not (dt_val (de_cb call_isiD rf_isi (by rfl) B.isinstance (by decide +kernel) (da_cons (de_ix (de_var (i := 3) rfl (by first | exact Or.inl rfl | exact Or.inr (Or.inl rfl) | exact Or.inr (Or.inr rfl)) (by decide)) de_int) (da_cons (de_ty (n := "str") (by rfl) B.str (by decide +kernel)) da_nil)))))))))
(db_one (ds_ret de_bl (by decide)))
db_nil)
(db_cons (ds_if (dt_cmp (op_eqK hr.rm.units) rf_eq (de_ix (de_var (i := 3) rfl (by first | exact Or.inl rfl | exact Or.inr (Or.inl rfl) | exact Or.inr (Or.inr rfl)) (by decide)) de_int) de_str (nomark _))
(db_one (ds_ret (de_call c_solves hr (by omega) (by rfl) (by decide) (dr_val (de_var (i := 0) rfl (by first | exact Or.inl rfl | exact Or.inr (Or.inl rfl) | exact Or.inr (Or.inr rfl)) (by decide)) (dr_val (de_var (i := 1) rfl (by first | exact Or.inl rfl | exact Or.inr (Or.inl rfl) | exact Or.inr (Or.inr rfl)) (by decide)) (dr_val (de_var (i := 2) rfl (by first | exact Or.inl rfl | exact Or.inr (Or.inl rfl) | exact Or.inr (Or.inr rfl)) (by decide)) (dr_val (de_ix (de_var (i := 3) rfl (by first | exact Or.inl rfl | exact Or.inr (Or.inl rfl) | exact Or.inr (Or.inr rfl)) (by decide)) de_int) dr_nil))))) (by decide)))
db_nil)
(db_one (ds_ret (de_and (de_cmp (op_eqK hr.rm.units) rf_eq (de_ix (de_var (i := 3) rfl (by first | exact Or.inl rfl | exact Or.inr (Or.inl rfl) | exact Or.inr (Or.inr rfl)) (by decide)) de_int) de_str (nomark _)) (de_one (de_call c_refutes hr (by omega) (by rfl) (by decide) (dr_val (de_var (i := 0) rfl (by first | exact Or.inl rfl | exact Or.inr (Or.inl rfl) | exact Or.inr (Or.inr rfl)) (by decide)) (dr_val (de_var (i := 1) rfl (by first | exact Or.inl rfl | exact Or.inr (Or.inl rfl) | exact Or.inr (Or.inr rfl)) (by decide)) (dr_val (de_var (i := 2) rfl (by first | exact Or.inl rfl | exact Or.inr (Or.inl rfl) | exact Or.inr (Or.inr rfl)) (by decide)) (dr_val (de_ix (de_var (i := 3) rfl (by first | exact Or.inl rfl | exact Or.inr (Or.inl rfl) | exact Or.inr (Or.inr rfl)) (by decide)) de_int) dr_nil))))))) (by decide)))))), by decide, ?_⟩
  infer_instance
theorem cx_l_bag  (D : Df K mg "_law_bag" s_l_bag) : CalN P w K mg base 1 "_law_bag" [] (spF (f_l_bag p n m))   := by
  unfold f_l_bag
  refine calFN2 (k := 0) (io := []) D sc_l_bag (by rfl) (by rfl) (fun _ _ _ _ _ _ us hl => match us, hl with | [_, _], _ => rfl) (by decide) fun f cdv A out s H E hr => ⟨_, _,
(dr_cons (ds_set (i := 2) sc_l_bag.nd rfl (Or.inl rfl) (by decide) (by decide) de_int)
(dr_cons (ds_if (dt_cmp op_lt rf_ltI (de_var (i := 1) rfl (by first | exact Or.inl rfl | exact Or.inr (Or.inl rfl) | exact Or.inr (Or.inr rfl)) (by decide)) (de_cb call_lenDD rf_len (by rfl) B.len (by decide +kernel) (da_cons (de_var (i := 0) rfl (by first | exact Or.inl rfl | exact Or.inr (Or.inl rfl) | exact Or.inr (Or.inr rfl)) (by decide)) da_nil)) (nomark _))
(db_one (ds_set (i := 2) sc_l_bag.nd rfl (Or.inl rfl) (by decide) (by decide) (de_ix (de_var (i := 0) rfl (by first | exact Or.inl rfl | exact Or.inr (Or.inl rfl) | exact Or.inr (Or.inr rfl)) (by decide)) (de_var (i := 1) rfl (by first | exact Or.inl rfl | exact Or.inr (Or.inl rfl) | exact Or.inr (Or.inr rfl)) (by decide)))))
db_nil)
(dr_cons (ds_set (i := 3) sc_l_bag.nd rfl (Or.inl rfl) (by decide) (by decide) (de_op op_mulA rf_mulI (de_cb call_abs rf_abs (by rfl) B.abs (by decide +kernel) (da_cons (de_var (i := 2) rfl (by first | exact Or.inl rfl | exact Or.inr (Or.inl rfl) | exact Or.inr (Or.inr rfl)) (by decide)) da_nil)) (de_ct call_int1 rf_int1 (by rfl) B.int (by decide +kernel) (da_cons (de_cmp op_ge rf_geI (de_cb call_abs rf_abs (by rfl) B.abs (by decide +kernel) (da_cons (de_var (i := 2) rfl (by first | exact Or.inl rfl | exact Or.inr (Or.inl rfl) | exact Or.inr (Or.inr rfl)) (by decide)) da_nil)) (de_op op_pow rf_powI de_int de_int) (nomark _)) da_nil))))
(dr_ret (dl_lst (da_cons (de_var (i := 3) rfl (by first | exact Or.inl rfl | exact Or.inr (Or.inl rfl) | exact Or.inr (Or.inr rfl)) (by decide)) (da_cons (de_op op_addD rf_add (de_op op_mod rf_modI (de_op op_addD rf_add (de_op op_addD rf_add (de_op op_mulA rf_mulI (de_op op_mod rf_modI (de_var (i := 2) rfl (by first | exact Or.inl rfl | exact Or.inr (Or.inl rfl) | exact Or.inr (Or.inr rfl)) (by decide)) de_int) de_int) (de_op op_mulA rf_mulI de_int (de_var (i := 1) rfl (by first | exact Or.inl rfl | exact Or.inr (Or.inl rfl) | exact Or.inr (Or.inr rfl)) (by decide)))) de_int) de_int) de_int) da_nil))).f (by decide))))), ?_⟩
  infer_instance
theorem cx_l_take  (D : Df K mg "_law_take" s_l_take) : CalD P w K mg base 1 "_law_take" [0] (spF (f_l_take p n m))  := by
  unfold f_l_take
  refine calF2 (k := 0) (io := [0]) D sc_l_take (by rfl) (by rfl) (fun _ _ _ _ _ _ us hl => match us, hl with | [_, _], _ => rfl) (by decide) fun f cdv A out s H E hr => ⟨_, _, [0],
(db_cons (ds_if (dt_cmp op_gt rf_gtI (de_ixO (i := 0) rfl (by first | exact Or.inl rfl | exact Or.inr (Or.inl rfl) | exact Or.inr (Or.inr rfl)) (by decide) de_int) de_int (nomark _))
(db_cons (ds_set (i := 2) sc_l_take.nd rfl (Or.inl rfl) (by decide) (by decide) (de_op op_mod rf_modI (de_ixO (i := 0) rfl (by first | exact Or.inl rfl | exact Or.inr (Or.inl rfl) | exact Or.inr (Or.inr rfl)) (by decide) de_int) (de_var (i := 1) rfl (by first | exact Or.inl rfl | exact Or.inr (Or.inl rfl) | exact Or.inr (Or.inr rfl)) (by decide))))
(db_cons (ds_seti (i := 0) rfl (by first | exact Or.inl rfl | exact Or.inr (Or.inl rfl) | exact Or.inr (Or.inr rfl)) (by decide) de_int (de_op op_fdivW rf_fdivI (de_ixO (i := 0) rfl (by first | exact Or.inl rfl | exact Or.inr (Or.inl rfl) | exact Or.inr (Or.inr rfl)) (by decide) de_int) (de_var (i := 1) rfl (by first | exact Or.inl rfl | exact Or.inr (Or.inl rfl) | exact Or.inr (Or.inr rfl)) (by decide))))
(db_one (ds_ret (de_var (i := 2) rfl (by first | exact Or.inl rfl | exact Or.inr (Or.inl rfl) | exact Or.inr (Or.inr rfl)) (by decide)) (by decide)))))
db_nil)
(db_cons (ds_seti (i := 0) rfl (by first | exact Or.inl rfl | exact Or.inr (Or.inl rfl) | exact Or.inr (Or.inr rfl)) (by decide) de_int (de_op op_mod rf_modI (de_op op_mulA rf_mulI (de_ixO (i := 0) rfl (by first | exact Or.inl rfl | exact Or.inr (Or.inl rfl) | exact Or.inr (Or.inr rfl)) (by decide) de_int) de_int) de_int))
(db_one (ds_ret (de_op op_mod rf_modI (de_op op_fdivW rf_fdivI (de_op op_mod rf_modI (de_op op_mulA rf_mulI (de_ixO (i := 0) rfl (by first | exact Or.inl rfl | exact Or.inr (Or.inl rfl) | exact Or.inr (Or.inr rfl)) (by decide) de_int) (de_op op_addD rf_add (de_op op_fdivW rf_fdivI (de_ixO (i := 0) rfl (by first | exact Or.inl rfl | exact Or.inr (Or.inl rfl) | exact Or.inr (Or.inr rfl)) (by decide) de_int) de_int) de_int)) de_int) de_int) (de_var (i := 1) rfl (by first | exact Or.inl rfl | exact Or.inr (Or.inl rfl) | exact Or.inr (Or.inr rfl)) (by decide))) (by decide))))), by decide, ?_⟩
  infer_instance
theorem cx_l_of (c_is_answer : CalD P w K mg base 6 "is_answer" [] (spF (f_is_answer p n m))) (D : Df K mg "_law_of" s_l_of) : CalD P w K mg base 7 "_law_of" [] (spF (f_l_of p n m))  := by
  unfold f_l_of
  refine calF2 (k := 6) (io := []) D sc_l_of (by rfl) (by rfl) (fun _ _ _ _ _ _ us hl => match us, hl with | [_, _, _, _], _ => rfl) (by decide) fun f cdv A out s H E hr => ⟨_, _, [],
(db_one (ds_ret (dl_lc2 (own := [("_law_thing", 4)]) (vs := [4]) (by rfl) (by rfl) sc_l_of.nd (by decide) (by decide) (di_list (de_var (i := 3) rfl (by first | exact Or.inl rfl | exact Or.inr (Or.inl rfl) | exact Or.inr (Or.inr rfl)) (by decide))) (blkOk_by (own := [("_law_thing", 4)]) (N := ["_law_some", "_law_shape", "_law_word", "_law_things", "_law_thing"]) (sc := defScope s_l_of) (by decide +kernel)) (fun _ _ _ _ _ => (dg_name (i := 4) sc_l_of.nd rfl (Or.inl rfl) (by decide) (by decide))) (go_name (by decide)) (fun _ _ _ _ _ => dts_nil) (fun _ _ _ _ _ => (de_call c_is_answer hr (by omega) (by rfl) (by decide) (dr_val de_int (dr_val (de_var (i := 0) rfl (by first | exact Or.inl rfl | exact Or.inr (Or.inl rfl) | exact Or.inr (Or.inr rfl)) (by decide)) (dr_val (de_var (i := 1) rfl (by first | exact Or.inl rfl | exact Or.inr (Or.inl rfl) | exact Or.inr (Or.inr rfl)) (by decide)) (dr_val (de_tup (da_cons (de_var (i := 2) rfl (by first | exact Or.inl rfl | exact Or.inr (Or.inl rfl) | exact Or.inr (Or.inr rfl)) (by decide)) (da_cons (de_var (i := 4) rfl (by first | exact Or.inl rfl | exact Or.inr (Or.inl rfl) | exact Or.inr (Or.inr rfl)) (by decide)) da_nil))) dr_nil))))))).e (by decide))), by decide, ?_⟩
  infer_instance
theorem cx_l_possible_right (c_l_of : CalD P w K mg base 7 "_law_of" [] (spF (f_l_of p n m))) (D : Df K mg "_law_possible_right" s_l_possible_right) : CalD P w K mg base 8 "_law_possible_right" [] (spF (f_l_possible_right p n m))  := by
  unfold f_l_possible_right
  refine calF2 (k := 7) (io := []) D sc_l_possible_right (by rfl) (by rfl) (fun _ _ _ _ _ _ us hl => match us, hl with | [], _ => rfl) (by decide) fun f cdv A out s H E hr => ⟨_, _, [],
(db_cons (ds_set (i := 0) sc_l_possible_right.nd rfl (Or.inl rfl) (by decide) (by decide) (dl_lst (da_cons (de_tup (da_cons (de_tup (da_cons de_int da_nil)) (da_cons (de_tup (da_cons de_int da_nil)) (da_cons de_str da_nil)))) (da_cons (de_tup (da_cons (de_tup (da_cons de_int da_nil)) (da_cons (de_tup (da_cons de_int da_nil)) (da_cons de_str da_nil)))) da_nil))).e)
(db_cons (ds_set (i := 1) sc_l_possible_right.nd rfl (Or.inl rfl) (by decide) (by decide) (dl_lst (da_cons (de_tup (da_cons de_int (da_cons de_int (da_cons de_int da_nil)))) (da_cons (de_tup (da_cons de_int (da_cons de_int (da_cons de_int da_nil)))) (da_cons (de_tup (da_cons de_int (da_cons de_int (da_cons de_int da_nil)))) (da_cons (de_tup (da_cons (de_op op_pow rf_powI de_int de_int) (da_cons (de_op op_addD rf_add (de_op op_pow rf_powI de_int de_int) de_int) (da_cons de_int da_nil)))) (da_cons (de_tup (da_cons de_int (da_cons de_int (da_cons de_int da_nil)))) da_nil)))))).e)
(db_cons (ds_set (i := 2) sc_l_possible_right.nd rfl (Or.inl rfl) (by decide) (by decide) (dl_lst (da_cons (de_tup (da_cons de_int (da_cons de_int (da_cons de_int da_nil)))) (da_cons (de_tup (da_cons de_int (da_cons de_int (da_cons de_int da_nil)))) (da_cons (de_tup (da_cons de_int (da_cons de_int (da_cons de_int da_nil)))) (da_cons (de_tup (da_cons de_int (da_cons de_int (da_cons de_int da_nil)))) (da_cons (dl_lst (da_cons de_int (da_cons de_int (da_cons de_int da_nil)))).e (da_cons (de_tup (da_cons de_int (da_cons de_int da_nil))) (da_cons (de_tup (da_cons de_int (da_cons de_int (da_cons de_int (da_cons de_int da_nil))))) (da_cons (de_tup (da_cons de_int (da_cons de_bl (da_cons de_int da_nil)))) (da_cons (de_tup (da_cons de_bl (da_cons de_int (da_cons de_int da_nil)))) da_nil)))))))))).e)
(db_cons (ds_set (i := 2) sc_l_possible_right.nd rfl (Or.inl rfl) (by decide) (by decide) (de_op op_addD rf_add (de_var (i := 2) rfl (by first | exact Or.inl rfl | exact Or.inr (Or.inl rfl) | exact Or.inr (Or.inr rfl)) (by decide)) (dl_lst (da_cons (de_tup (da_cons (de_neg de_int) (da_cons de_int (da_cons de_int da_nil)))) (da_cons de_non (da_cons (de_tup da_nil) (da_cons (de_tup (da_cons de_str (da_cons de_int (da_cons de_int da_nil)))) (da_cons (de_tup (da_cons de_int (da_cons de_int (da_cons de_non da_nil)))) da_nil)))))).e))
(db_one (ds_ret (de_and (de_cmp (op_eqK hr.rm.units) rf_eq (de_call c_l_of hr (by omega) (by rfl) (by decide) (dr_val (de_var (i := 0) rfl (by first | exact Or.inl rfl | exact Or.inr (Or.inl rfl) | exact Or.inr (Or.inr rfl)) (by decide)) (dr_val de_int (dr_val de_str (dr_val (de_var (i := 1) rfl (by first | exact Or.inl rfl | exact Or.inr (Or.inl rfl) | exact Or.inr (Or.inr rfl)) (by decide)) dr_nil))))) (de_op op_repD rf_rep (dl_lst (da_cons de_bl da_nil)).e de_int) (nomark _)) (de_one (de_cmp op_notInK rf_notIn de_bl (de_call c_l_of hr (by omega) (by rfl) (by decide) (dr_val (de_var (i := 0) rfl (by first | exact Or.inl rfl | exact Or.inr (Or.inl rfl) | exact Or.inr (Or.inr rfl)) (by decide)) (dr_val de_int (dr_val de_str (dr_val (de_var (i := 2) rfl (by first | exact Or.inl rfl | exact Or.inr (Or.inl rfl) | exact Or.inr (Or.inr rfl)) (by decide)) dr_nil))))) (by rfl)))) (by decide))))))), by decide, ?_⟩
  infer_instance
theorem cx_l_strict_right (c_l_of : CalD P w K mg base 7 "_law_of" [] (spF (f_l_of p n m))) (D : Df K mg "_law_strict_right" s_l_strict_right) : CalD P w K mg base 8 "_law_strict_right" [] (spF (f_l_strict_right p n m))  := by
  unfold f_l_strict_right
  refine calF2 (k := 7) (io := []) D sc_l_strict_right (by rfl) (by rfl) (fun _ _ _ _ _ _ us hl => match us, hl with | [_], _ => rfl) (by decide) fun f cdv A out s H E hr => ⟨_, _, [],
(db_cons (ds_set (i := 1) sc_l_strict_right.nd rfl (Or.inl rfl) (by decide) (by decide) (dl_lst (da_cons (de_tup (da_cons (de_tup (da_cons de_int da_nil)) (da_cons (de_tup (da_cons de_int da_nil)) (da_cons de_str da_nil)))) (da_cons (de_tup (da_cons (de_tup (da_cons de_int da_nil)) (da_cons (de_tup (da_cons de_int (da_cons de_int da_nil))) (da_cons de_str da_nil)))) (da_cons (de_tup (da_cons (de_tup da_nil) (da_cons (de_tup (da_cons de_int da_nil)) (da_cons de_str da_nil)))) da_nil)))).e)
(db_cons (ds_set (i := 2) sc_l_strict_right.nd rfl (Or.inl rfl) (by decide) (by decide) (dl_lst (da_cons (dl_lst (da_cons (de_var (i := 0) rfl (by first | exact Or.inl rfl | exact Or.inr (Or.inl rfl) | exact Or.inr (Or.inr rfl)) (by decide)) (da_cons (de_var (i := 0) rfl (by first | exact Or.inl rfl | exact Or.inr (Or.inl rfl) | exact Or.inr (Or.inr rfl)) (by decide)) (da_cons (de_var (i := 0) rfl (by first | exact Or.inl rfl | exact Or.inr (Or.inl rfl) | exact Or.inr (Or.inr rfl)) (by decide)) da_nil)))).e (da_cons (dl_lst (da_cons de_int (da_cons de_int (da_cons de_int da_nil)))).e (da_cons (dl_lst (da_cons de_int (da_cons de_int (da_cons de_int da_nil)))).e (da_cons (dl_lst (da_cons de_int (da_cons de_int (da_cons de_int da_nil)))).e da_nil))))).e)
(db_cons (ds_set (i := 3) sc_l_strict_right.nd rfl (Or.inl rfl) (by decide) (by decide) (dl_lst (da_cons (dl_lst (da_cons de_int (da_cons de_int (da_cons de_int da_nil)))).e (da_cons (dl_lst (da_cons de_int (da_cons de_int (da_cons de_int da_nil)))).e (da_cons (dl_lst (da_cons de_int (da_cons de_int (da_cons de_int da_nil)))).e (da_cons (dl_lst (da_cons de_int (da_cons de_int (da_cons de_int da_nil)))).e (da_cons (dl_lst (da_cons de_int (da_cons de_int (da_cons de_int da_nil)))).e (da_cons (de_tup (da_cons de_int (da_cons de_int (da_cons de_int da_nil)))) (da_cons (dl_lst (da_cons de_int (da_cons de_int da_nil))).e (da_cons (dl_lst (da_cons de_int (da_cons de_int (da_cons de_int (da_cons de_int da_nil))))).e (da_cons (dl_lst (da_cons de_bl (da_cons de_int (da_cons de_int da_nil)))).e da_nil)))))))))).e)
(db_cons (ds_set (i := 3) sc_l_strict_right.nd rfl (Or.inl rfl) (by decide) (by decide) (de_op op_addD rf_add (de_var (i := 3) rfl (by first | exact Or.inl rfl | exact Or.inr (Or.inl rfl) | exact Or.inr (Or.inr rfl)) (by decide)) (dl_lst (da_cons (dl_lst (da_cons de_int (da_cons de_int (da_cons (de_neg de_int) da_nil)))).e (da_cons (dl_lst (da_cons de_int (da_cons de_int (da_cons de_str da_nil)))).e (da_cons de_non (da_cons (dl_lst (da_cons (dl_lst (da_cons de_int (da_cons de_int (da_cons de_int da_nil)))).e da_nil)).e (da_cons (dl_lst (da_cons de_int (da_cons de_int (da_cons de_non da_nil)))).e da_nil)))))).e))
(db_one (ds_ret (de_and (de_cmp (op_eqK hr.rm.units) rf_eq (de_call c_l_of hr (by omega) (by rfl) (by decide) (dr_val (de_var (i := 1) rfl (by first | exact Or.inl rfl | exact Or.inr (Or.inl rfl) | exact Or.inr (Or.inr rfl)) (by decide)) (dr_val de_int (dr_val de_str (dr_val (de_var (i := 2) rfl (by first | exact Or.inl rfl | exact Or.inr (Or.inl rfl) | exact Or.inr (Or.inr rfl)) (by decide)) dr_nil))))) (de_op op_repD rf_rep (dl_lst (da_cons de_bl da_nil)).e de_int) (nomark _)) (de_one (de_cmp op_notInK rf_notIn de_bl (de_call c_l_of hr (by omega) (by rfl) (by decide) (dr_val (de_var (i := 1) rfl (by first | exact Or.inl rfl | exact Or.inr (Or.inl rfl) | exact Or.inr (Or.inr rfl)) (by decide)) (dr_val de_int (dr_val de_str (dr_val (de_var (i := 3) rfl (by first | exact Or.inl rfl | exact Or.inr (Or.inl rfl) | exact Or.inr (Or.inr rfl)) (by decide)) dr_nil))))) (by rfl)))) (by decide))))))), by decide, ?_⟩
  infer_instance
theorem cx_l_weak_right (c_l_of : CalD P w K mg base 7 "_law_of" [] (spF (f_l_of p n m))) (D : Df K mg "_law_weak_right" s_l_weak_right) : CalD P w K mg base 8 "_law_weak_right" [] (spF (f_l_weak_right p n m))  := by
  unfold f_l_weak_right
  refine calF2 (k := 7) (io := []) D sc_l_weak_right (by rfl) (by rfl) (fun _ _ _ _ _ _ us hl => match us, hl with | [_], _ => rfl) (by decide) fun f cdv A out s H E hr => ⟨_, _, [],
(db_cons (ds_set (i := 1) sc_l_weak_right.nd rfl (Or.inl rfl) (by decide) (by decide) (dl_lst (da_cons (de_tup (da_cons (de_tup (da_cons de_int da_nil)) (da_cons (de_tup (da_cons de_int (da_cons de_int da_nil))) (da_cons de_str da_nil)))) (da_cons (de_tup (da_cons (de_tup (da_cons de_int da_nil)) (da_cons (de_tup (da_cons de_int (da_cons de_int da_nil))) (da_cons de_str da_nil)))) da_nil))).e)
(db_cons (ds_if (dt_cmp (op_neK hr.rm.units) rf_ne (de_call c_l_of hr (by omega) (by rfl) (by decide) (dr_val (de_var (i := 1) rfl (by first | exact Or.inl rfl | exact Or.inr (Or.inl rfl) | exact Or.inr (Or.inr rfl)) (by decide)) (dr_val de_int (dr_val de_str (dr_val (dl_lst (da_cons (dl_lst (da_cons (de_var (i := 0) rfl (by first | exact Or.inl rfl | exact Or.inr (Or.inl rfl) | exact Or.inr (Or.inr rfl)) (by decide)) (da_cons de_int da_nil))).e (da_cons (dl_lst (da_cons de_int (da_cons de_int da_nil))).e (da_cons (dl_lst (da_cons de_int (da_cons de_int da_nil))).e (da_cons (dl_lst (da_cons de_int (da_cons de_int da_nil))).e da_nil))))).e dr_nil))))) (dl_lst (da_cons de_bl (da_cons de_bl (da_cons de_bl (da_cons de_bl da_nil))))).e (nomark _))
(db_one (ds_ret de_bl (by decide)))
db_nil)
(db_one (ds_ret (de_cmp (op_eqK hr.rm.units) rf_eq (de_call c_l_of hr (by omega) (by rfl) (by decide) (dr_val (de_var (i := 1) rfl (by first | exact Or.inl rfl | exact Or.inr (Or.inl rfl) | exact Or.inr (Or.inr rfl)) (by decide)) (dr_val de_int (dr_val de_str (dr_val (dl_lst (da_cons (dl_lst (da_cons (de_var (i := 0) rfl (by first | exact Or.inl rfl | exact Or.inr (Or.inl rfl) | exact Or.inr (Or.inr rfl)) (by decide)) (da_cons de_int da_nil))).e (da_cons (dl_lst (da_cons de_int (da_cons de_int da_nil))).e (da_cons (dl_lst (da_cons de_int (da_cons de_int da_nil))).e (da_cons (dl_lst (da_cons de_int (da_cons de_int da_nil))).e da_nil))))).e dr_nil))))) (dl_lst (da_cons de_bl (da_cons de_bl (da_cons de_bl (da_cons de_bl da_nil))))).e (nomark _)) (by decide))))), by decide, ?_⟩
  infer_instance
theorem cx_law (c_l_take : CalD P w K mg base 1 "_law_take" [0] (spF (f_l_take p n m))) (c_l_bag : CalN P w K mg base 1 "_law_bag" [] (spF (f_l_bag p n m))) (c_l_weak_right : CalD P w K mg base 8 "_law_weak_right" [] (spF (f_l_weak_right p n m))) (c_l_strict_right : CalD P w K mg base 8 "_law_strict_right" [] (spF (f_l_strict_right p n m))) (c_l_possible_right : CalD P w K mg base 8 "_law_possible_right" [] (spF (f_l_possible_right p n m))) (c_l_of : CalD P w K mg base 7 "_law_of" [] (spF (f_l_of p n m))) (c_is_answer : CalD P w K mg base 6 "is_answer" [] (spF (f_is_answer p n m))) : ∀ (f : Addr) (cdv : Value) (A : Around) (out : List Env) (s : Shared) (H : Hp) (E : XK), Rm 8 (A.deeper (envOfC "law" (defScope s_law) s.heap.objs.size f cdv)) →
  ∃ t u O', DB K [] [] W0 [] O' (cxOf CX0 P w K mg base ["_law_script", "_law_at", "_law_many", "_law_some", "_law_odd", "_law_thing"] "law" (defScope s_law) f cdv A out s H E).nox (defBody s_law) t u ∧ CuS (b_law p n m) u := by
  intro f cdv A out s H E hr
  unfold b_law
  refine ⟨_, _, [],
(db_cons (ds_for (by rfl) (di_range1 (by rfl) B.range (da_cons (de_cb (call_max2 rfl) rf_max2 (by rfl) B.max (by decide +kernel) (da_cons de_int (da_cons (de_cb (call_min2 rfl) rf_min2 (by rfl) B.min (by decide +kernel) (da_cons de_int (da_cons (de_cb call_lenDD rf_len (by rfl) B.len (by decide +kernel) (da_cons (de_var (i := 0) rfl (by first | exact Or.inl rfl | exact Or.inr (Or.inl rfl) | exact Or.inr (Or.inr rfl)) (by decide)) da_nil)) da_nil))) da_nil))) da_nil)) (dg_name (i := 1) sc_law.nd rfl (Or.inl rfl) (by decide) (by decide))
(db_cons (ds_set (i := 2) sc_law.nd rfl (Or.inl rfl) (by decide) (by decide) (de_op op_addD rf_add de_int (de_callT c_l_take hr (by omega) (by rfl) (by decide) (df_callN c_l_bag hr (by omega) (by rfl) (by decide) (dr_val (de_var (i := 0) rfl (by first | exact Or.inl rfl | exact Or.inr (Or.inl rfl) | exact Or.inr (Or.inr rfl)) (by decide)) (dr_val (de_var (i := 1) rfl (by first | exact Or.inl rfl | exact Or.inr (Or.inl rfl) | exact Or.inr (Or.inr rfl)) (by decide)) dr_nil))) (da_cons (de_op op_pow rf_powI de_int de_int) da_nil))))
(db_cons (ds_if (dw_t (dw_or (dt_not (dt_val (de_call0 c_l_possible_right hr (by omega) (by rfl) (by decide)))) (dw_or (dt_not (dt_val (de_call c_l_strict_right hr (by omega) (by rfl) (by decide) (dr_val (de_var (i := 2) rfl (by first | exact Or.inl rfl | exact Or.inr (Or.inl rfl) | exact Or.inr (Or.inr rfl)) (by decide)) dr_nil)))) (dw_or1 (dt_not (dt_val (de_call c_l_weak_right hr (by omega) (by rfl) (by decide) (dr_val (de_var (i := 2) rfl (by first | exact Or.inl rfl | exact Or.inr (Or.inl rfl) | exact Or.inr (Or.inr rfl)) (by decide)) dr_nil))))))))
(db_one (ds_ret de_bl (by decide)))
db_nil)
(db_one (ds_if (dt_not (dt_val (de_ix (de_call c_l_of hr (by omega) (by rfl) (by decide) (dr_val (dl_lst (da_cons (de_tup (da_cons (de_tup (da_cons de_int da_nil)) (da_cons (de_tup (da_cons de_int da_nil)) (da_cons de_str da_nil)))) da_nil)).e (dr_val de_int (dr_val de_str (dr_val (dl_lst (da_cons (dl_lst (da_cons (de_var (i := 2) rfl (by first | exact Or.inl rfl | exact Or.inr (Or.inl rfl) | exact Or.inr (Or.inr rfl)) (by decide)) da_nil)).e da_nil)).e dr_nil))))) de_int)))
(db_one (ds_ret de_bl (by decide)))
db_nil)))))
(db_cons (ds_set (i := 3) sc_law.nd rfl (Or.inl rfl) (by decide) (by decide) (dl_lst (da_cons (de_tup (da_cons (de_tup da_nil) (da_cons (de_tup da_nil) (da_cons de_str da_nil)))) da_nil)).e)
(db_cons (ds_if (dt_cmp (op_neK hr.rm.units) rf_ne (dl_lst (da_cons (de_call c_is_answer hr (by omega) (by rfl) (by decide) (dr_val de_int (dr_val (de_var (i := 3) rfl (by first | exact Or.inl rfl | exact Or.inr (Or.inl rfl) | exact Or.inr (Or.inr rfl)) (by decide)) (dr_val de_int (dr_val (de_tup (da_cons de_str (da_cons (dl_lst (da_cons de_int da_nil)).e da_nil))) dr_nil))))) (da_cons (de_call c_is_answer hr (by omega) (by rfl) (by decide) (dr_val de_int (dr_val (de_var (i := 3) rfl (by first | exact Or.inl rfl | exact Or.inr (Or.inl rfl) | exact Or.inr (Or.inr rfl)) (by decide)) (dr_val de_int (dr_val (de_tup (da_cons de_str (da_cons (de_tup (da_cons de_int (da_cons de_int (da_cons de_int da_nil)))) da_nil))) dr_nil))))) da_nil))).e (dl_lst (da_cons de_bl (da_cons de_bl da_nil))).e (nomark _))
(db_one (ds_ret de_bl (by decide)))
db_nil)
(db_cons (ds_set (i := 4) sc_law.nd rfl (Or.inl rfl) (by decide) (by decide) (dl_lst (da_cons (de_tup (da_cons de_str (da_cons (de_tup (da_cons de_int (da_cons de_int (da_cons de_int da_nil)))) da_nil))) (da_cons (dl_lst (da_cons de_str (da_cons (de_tup (da_cons de_int (da_cons de_int (da_cons de_int da_nil)))) da_nil))).e (da_cons (de_tup (da_cons de_str da_nil)) (da_cons (de_tup (da_cons de_str (da_cons (de_tup (da_cons de_int (da_cons de_int (da_cons de_int da_nil)))) (da_cons de_int da_nil)))) (da_cons (de_tup (da_cons de_int (da_cons (de_tup (da_cons de_int (da_cons de_int (da_cons de_int da_nil)))) da_nil))) da_nil)))))).e)
(db_one (ds_ret (de_cmp op_notInK rf_notIn de_bl (dl_lc2 (own := [("_law_thing", 5)]) (vs := [5]) (by rfl) (by rfl) sc_law.nd (by decide) (by decide) (di_list (de_op op_addD rf_add (de_var (i := 4) rfl (by first | exact Or.inl rfl | exact Or.inr (Or.inl rfl) | exact Or.inr (Or.inr rfl)) (by decide)) (dl_lst (da_cons (de_tup (da_cons de_str (da_cons (dl_lst da_nil).e da_nil))) da_nil)).e)) (blkOk_by (own := [("_law_thing", 5)]) (N := ["_law_script", "_law_at", "_law_many", "_law_some", "_law_odd", "_law_thing"]) (sc := defScope s_law) (by decide +kernel)) (fun _ _ _ _ _ => (dg_name (i := 5) sc_law.nd rfl (Or.inl rfl) (by decide) (by decide))) (go_name (by decide)) (fun _ _ _ _ _ => dts_nil) (fun _ _ _ _ _ => (de_call c_is_answer hr (by omega) (by rfl) (by decide) (dr_val de_int (dr_val (dl_lst da_nil).e (dr_val de_int (dr_val (de_var (i := 5) rfl (by first | exact Or.inl rfl | exact Or.inr (Or.inl rfl) | exact Or.inr (Or.inr rfl)) (by decide)) dr_nil))))))).e (by rfl)) (by decide))))))), ?_⟩
  infer_instance
end
end Eu
set_option Elab.async false
set_option linter.all false
set_option maxRecDepth 100000
set_option maxHeartbeats 8000000
namespace Eu
open PySem Dv L2
theorem sl {k : Nat} (h : k ≤ 100000) : k ≤ sizeLine := len_line h
section
variable (p : Pk) (n m : Nat)
theorem w1 : f_weights_of p n m [.int 3, .tup [.tup [.int 1], .tup [.int 2], .str (Str.ofString "left")]] = .ok (.lst [.int (-1), .int (1), .int (0)]) [.int 3, .tup [.tup [.int 1], .tup [.int 2], .str (Str.ofString "left")]] := by kernel_rfl
theorem w2 : f_weights_of p n m [.int 3, .tup [.tup [.int 2], .tup [.int 1, .int 3], .str (Str.ofString "left")]] = .ok (.lst [.int (1), .int (-1), .int (1)]) [.int 3, .tup [.tup [.int 2], .tup [.int 1, .int 3], .str (Str.ofString "left")]] := by kernel_rfl
theorem w3 : f_weights_of p n m [.int 3, .tup [.tup [], .tup [.int 3], .str (Str.ofString "right")]] = .ok (.lst [.int (0), .int (0), .int (-1)]) [.int 3, .tup [.tup [], .tup [.int 3], .str (Str.ofString "right")]] := by kernel_rfl
theorem w4 : f_weights_of p n m [.int 3, .tup [.tup [.int 1], .tup [.int 1, .int 2], .str (Str.ofString "right")]] = .ok (.lst [.int (0), .int (-1), .int (0)]) [.int 3, .tup [.tup [.int 1], .tup [.int 1, .int 2], .str (Str.ofString "right")]] := by kernel_rfl
theorem w5 : f_weights_of p n m [.int 3, .tup [.tup [.int 3], .tup [.int 1, .int 3], .str (Str.ofString "right")]] = .ok (.lst [.int (-1), .int (0), .int (0)]) [.int 3, .tup [.tup [.int 3], .tup [.int 1, .int 3], .str (Str.ofString "right")]] := by kernel_rfl
theorem w6 : f_weights_of p n m [.int 3, .tup [.tup [.int 2], .tup [.int 2], .str (Str.ofString "left")]] = .ok (.lst [.int (0), .int (0), .int (0)]) [.int 3, .tup [.tup [.int 2], .tup [.int 2], .str (Str.ofString "left")]] := by kernel_rfl
theorem isI' (k : Int) : f_is_integer p n m [.int k] = .ok (.bl true) [.int k] := by kernel_rfl
theorem d1 (x y z : D) : dIx (.tup [x, y, z]) (.int 2) = some z := rfl
theorem q1 : dEq (.str (Str.ofString "left")) (.str (Str.ofString "left")) = some (.bl true) := by kernel_rfl
theorem q2 : dEq (.str (Str.ofString "right")) (.str (Str.ofString "left")) = some (.bl false) := by kernel_rfl
theorem q3 : dEq (.str (Str.ofString "impossible")) (.str (Str.ofString "possible")) = some (.bl false) := by kernel_rfl
theorem q4 : dEq (.str (Str.ofString "impossible")) (.str (Str.ofString "impossible")) = some (.bl true) := by kernel_rfl
abbrev cs1 : D := .lst [.tup [.tup [.int 1], .tup [.int 2], .str (Str.ofString "left")], .tup [.tup [.int 2], .tup [.int 1, .int 3], .str (Str.ofString "left")], .tup [.tup [], .tup [.int 3], .str (Str.ofString "right")]]
abbrev cs2 : D := .lst [.tup [.tup [.int 1], .tup [.int 1, .int 2], .str (Str.ofString "right")], .tup [.tup [.int 3], .tup [.int 1, .int 3], .str (Str.ofString "right")]]
abbrev cs3 : D := .lst [.tup [.tup [.int 2], .tup [.int 2], .str (Str.ofString "left")]]
theorem ck1 : f_check_question p n m [.int 3, cs1, .int 1] = .ok .non [.int 3, cs1, .int 1] := by kernel_rfl
theorem ck2 : f_check_question p n m [.int 3, cs2, .int 2] = .ok .non [.int 3, cs2, .int 2] := by kernel_rfl
theorem ck2' : f_check_question p n m [.int 3, cs2, .int 1] = .ok .non [.int 3, cs2, .int 1] := by kernel_rfl
theorem ck3 : f_check_question p n m [.int 3, cs3, .int 2] = .ok .non [.int 3, cs3, .int 2] := by kernel_rfl
/-- an answer that is told to be impossible -/
theorem ans {cs : D} {s : Int} {t : D} {b : Bool} (h1 : f_check_question p n m [.int 3, cs, .int s] = .ok .non [.int 3, cs, .int s]) (h2 : ∃ z, f_refutes p n m [.int 3, cs, .int s, t] = .ok (.bl b) z) :
    f_is_answer p n m [.int 3, cs, .int s, .tup [.str (Str.ofString "impossible"), t]] = .ok (.bl b) [.int 3, cs, .int s, .tup [.str (Str.ofString "impossible"), t]] := by
  obtain ⟨z, h2⟩ := h2
  have i0 : dIx (.tup [.str (Str.ofString "impossible"), t]) (.int 0) = some (.str (Str.ofString "impossible")) := rfl
  have i1 : dIx (.tup [.str (Str.ofString "impossible"), t]) (.int 1) = some t := rfl
  simp [f_is_answer, fDef, startD, nones, fSeq, fIfS, fOr, fAnd, fNot, fB, fCB, one, two, dIsi, tyn, tys, isTy, isTyS, fCons, fNil, fVar, fC, fOp, dLen, fLc, fLcL, fIt, fgName, fYes, wipeD, unwipe, fAndV, fCallV, isI', dGeI, dCmp, dBls, blsOf, fNext, fRet, fAsg, dRep, fLst, fFor, fForL, fZipS, zipD, fgTup, fgCons, fgNil, dMulI, dInt, dAdd, cMulB, intsOf, dMax1, iMax, fMaxD, fOrV, dGtI, dLtI, d1, q1, q2, cut, fTup, fDrop, sl, Int.add_left_neg, Int.add_right_neg, fNotV, fIf, fNeg, h1, h2, i0, i1, q3, q4]
theorem r1 (k : Int) (h : 1 ≤ k) : ∃ z, f_refutes p n m [.int 3, cs1, .int 1, .lst [.int k, .int k, .int k]] = .ok (.bl true) z := by
  have h0 : 0 ≤ k := by omega
  have hk : 0 < k := by omega
  exact ⟨_, by simp [f_refutes, fDef, startD, nones, fSeq, fIfS, fOr, fAnd, fNot, fB, fCB, one, two, dIsi, tyn, tys, isTy, isTyS, fCons, fNil, fVar, fC, fOp, dLen, fLc, fLcL, fIt, fgName, fYes, wipeD, unwipe, fAndV, fCallV, isI', dGeI, dCmp, dBls, blsOf, fNext, fRet, fAsg, dRep, fLst, fFor, fForL, fZipS, zipD, fgTup, fgCons, fgNil, dMulI, dInt, dAdd, cMulB, intsOf, dMax1, iMax, fMaxD, fOrV, dGtI, dLtI, d1, q1, q2, cut, fTup, fDrop, sl, Int.add_left_neg, Int.add_right_neg, fNotV, fIf, fNeg, w1, w2, w3, h0, hk]; rfl⟩
theorem r2 (k : Int) (h : 1 ≤ k) : ∃ z, f_refutes p n m [.int 3, cs2, .int 2, .lst [.int k, .int 0]] = .ok (.bl true) z := by
  have h0 : 0 ≤ k := by omega
  have hk : 0 < k := by omega
  have hn : ¬ k < 0 := by omega
  have i0 : dIx (.lst [.int 0, .int (-k), .int 0]) (.int 1) = some (.int (-k)) := rfl
  exact ⟨_, by simp [f_refutes, fDef, startD, nones, fSeq, fIfS, fOr, fAnd, fNot, fB, fCB, one, two, dIsi, tyn, tys, isTy, isTyS, fCons, fNil, fVar, fC, fOp, dLen, fLc, fLcL, fIt, fgName, fYes, wipeD, unwipe, fAndV, fCallV, isI', dGeI, dCmp, dBls, blsOf, fNext, fRet, fAsg, dRep, fLst, fFor, fForL, fZipS, zipD, fgTup, fgCons, fgNil, dMulI, dInt, dAdd, cMulB, intsOf, dMax1, iMax, fMaxD, fOrV, dGtI, dLtI, d1, q1, q2, cut, fTup, fDrop, sl, Int.add_left_neg, Int.add_right_neg, fNotV, fIf, fNeg, dSub, w4, w5, h0, hk, hn, i0]; rfl⟩
theorem r2' (k : Int) (h : 1 ≤ k) : ∃ z, f_refutes p n m [.int 3, cs2, .int 1, .lst [.int k, .int 0]] = .ok (.bl false) z := by
  have h0 : 0 ≤ k := by omega
  have hk : 0 < k := by omega
  have hn : ¬ k < 0 := by omega
  have i0 : dIx (.lst [.int 0, .int (-k), .int 0]) (.int 0) = some (.int 0) := rfl
  exact ⟨_, by simp [f_refutes, fDef, startD, nones, fSeq, fIfS, fOr, fAnd, fNot, fB, fCB, one, two, dIsi, tyn, tys, isTy, isTyS, fCons, fNil, fVar, fC, fOp, dLen, fLc, fLcL, fIt, fgName, fYes, wipeD, unwipe, fAndV, fCallV, isI', dGeI, dCmp, dBls, blsOf, fNext, fRet, fAsg, dRep, fLst, fFor, fForL, fZipS, zipD, fgTup, fgCons, fgNil, dMulI, dInt, dAdd, cMulB, intsOf, dMax1, iMax, fMaxD, fOrV, dGtI, dLtI, d1, q1, q2, cut, fTup, fDrop, sl, Int.add_left_neg, Int.add_right_neg, fNotV, fIf, fNeg, dSub, w4, w5, h0, hk, hn, i0]; rfl⟩
theorem r3 (k : Int) (h : 1 ≤ k) : ∃ z, f_refutes p n m [.int 3, cs3, .int 2, .lst [.int k]] = .ok (.bl true) z := by
  have h0 : 0 ≤ k := by omega
  have hk : 0 < k := by omega
  exact ⟨_, by simp [f_refutes, fDef, startD, nones, fSeq, fIfS, fOr, fAnd, fNot, fB, fCB, one, two, dIsi, tyn, tys, isTy, isTyS, fCons, fNil, fVar, fC, fOp, dLen, fLc, fLcL, fIt, fgName, fYes, wipeD, unwipe, fAndV, fCallV, isI', dGeI, dCmp, dBls, blsOf, fNext, fRet, fAsg, dRep, fLst, fFor, fForL, fZipS, zipD, fgTup, fgCons, fgNil, dMulI, dInt, dAdd, cMulB, intsOf, dMax1, iMax, fMaxD, fOrV, dGtI, dLtI, d1, q1, q2, cut, fTup, fDrop, sl, Int.add_left_neg, Int.add_right_neg, fNotV, fIf, fNeg, w6, h0, hk]; rfl⟩
/-- many answers -/
theorem of_ok {cs : D} {s : Int} {w : D} : ∀ (ts : List (D × Bool)), ts.length ≤ 1000 → (∀ t ∈ ts, f_is_answer p n m [.int 3, cs, .int s, .tup [w, t.1]] = .ok (.bl t.2) [.int 3, cs, .int s, .tup [w, t.1]]) →
    f_l_of p n m [cs, .int s, w, .lst (ts.map (·.1))] = .ok (.lst (ts.map fun t => .bl t.2)) [cs, .int s, w, .lst (ts.map (·.1))] := by
  intro ts hl h
  have go : ∀ (us : List (D × Bool)) (acc : List D), (∀ t ∈ us, t ∈ ts) → fLcL [4] (fgName 4) fYes (fCallV [] [] (f_is_answer p n m) (fCons (fC (D.int 3)) (fCons (fVar 0) (fCons (fVar 1) (fCons (fTup (fCons (fVar 2) (fCons (fVar 4) fNil))) fNil))))) (us.map (·.1)) acc [some cs, some (.int s), some w, some (.lst (ts.map (·.1))), none] = .ok (acc ++ us.map fun t => .bl t.2) [some cs, some (.int s), some w, some (.lst (ts.map (·.1))), none] := by
    intro us
    induction us with
    | nil => intro acc _; simp [fLcL]
    | cons t us ih =>
      intro acc hu
      have e := h t (hu t List.mem_cons_self)
      have i := ih (acc ++ [.bl t.2]) fun x hx => hu x (List.mem_cons_of_mem _ hx)
      simp only [List.map_cons]
      unfold fLcL
      simp [fgName, fYes, fCallV, fCons, fC, fVar, fTup, fNil, sl, e, wipeD]
      simpa using i
  have g := go ts [] fun t h => h
  simp only [List.nil_append] at g
  have hs : ts.length ≤ sizeLine := len_line (by omega)
  simp [f_l_of, fDef, startD, nones, fRet, fLc, fIt, fVar, wipeD, g, hs, unwipe, cut]
abbrev imp : D := .str (Str.ofString "impossible")
theorem o1 (k : Int) (h : 1 ≤ k) : f_l_of p n m [cs1, .int 1, imp, .lst [.lst [.int k, .int k, .int k], .lst [.int 1, .int 1, .int 1], .lst [.int 2, .int 2, .int 2], .lst [.int 1, .int 1, .int 2]]] = .ok (.lst [.bl true, .bl true, .bl true, .bl true]) [cs1, .int 1, imp, .lst [.lst [.int k, .int k, .int k], .lst [.int 1, .int 1, .int 1], .lst [.int 2, .int 2, .int 2], .lst [.int 1, .int 1, .int 2]]] := by
  refine of_ok p n m [(.lst [.int k, .int k, .int k], true), (.lst [.int 1, .int 1, .int 1], true), (.lst [.int 2, .int 2, .int 2], true), (.lst [.int 1, .int 1, .int 2], true)] (by simp) fun t ht => ?_
  rcases List.mem_cons.mp ht with rfl | ht
  · exact ans p n m (ck1 p n m) (r1 p n m k h)
  · rcases List.mem_cons.mp ht with rfl | ht
    · kernel_rfl
    · rcases List.mem_cons.mp ht with rfl | ht
      · kernel_rfl
      · rcases List.mem_cons.mp ht with rfl | ht
        · kernel_rfl
        · simp at ht
theorem o2 : f_l_of p n m [cs1, .int 1, imp, .lst [.lst [.int 0, .int 0, .int 0], .lst [.int 1, .int 0, .int 0], .lst [.int 0, .int 1, .int 0], .lst [.int 1, .int 1, .int 0], .lst [.int 2, .int 1, .int 1], .tup [.int 1, .int 1, .int 1], .lst [.int 1, .int 1], .lst [.int 1, .int 1, .int 1, .int 0], .lst [.bl true, .int 1, .int 1], .lst [.int 1, .int 1, .int (-1)], .lst [.int 1, .int 1, .str (Str.ofString "1")], .non, .lst [.lst [.int 1, .int 1, .int 1]], .lst [.int 1, .int 1, .non]]] = .ok (.lst (List.replicate 14 (.bl false))) [cs1, .int 1, imp, .lst [.lst [.int 0, .int 0, .int 0], .lst [.int 1, .int 0, .int 0], .lst [.int 0, .int 1, .int 0], .lst [.int 1, .int 1, .int 0], .lst [.int 2, .int 1, .int 1], .tup [.int 1, .int 1, .int 1], .lst [.int 1, .int 1], .lst [.int 1, .int 1, .int 1, .int 0], .lst [.bl true, .int 1, .int 1], .lst [.int 1, .int 1, .int (-1)], .lst [.int 1, .int 1, .str (Str.ofString "1")], .non, .lst [.lst [.int 1, .int 1, .int 1]], .lst [.int 1, .int 1, .non]]] := by kernel_rfl
theorem o3 (k : Int) (h : 1 ≤ k) : f_l_of p n m [cs2, .int 2, imp, .lst [.lst [.int k, .int 0], .lst [.int 1, .int 1], .lst [.int 0, .int 1], .lst [.int 0, .int 0]]] = .ok (.lst [.bl true, .bl true, .bl false, .bl false]) [cs2, .int 2, imp, .lst [.lst [.int k, .int 0], .lst [.int 1, .int 1], .lst [.int 0, .int 1], .lst [.int 0, .int 0]]] := by
  refine of_ok p n m [(.lst [.int k, .int 0], true), (.lst [.int 1, .int 1], true), (.lst [.int 0, .int 1], false), (.lst [.int 0, .int 0], false)] (by simp) fun t ht => ?_
  rcases List.mem_cons.mp ht with rfl | ht
  · exact ans p n m (ck2 p n m) (r2 p n m k h)
  · rcases List.mem_cons.mp ht with rfl | ht
    · kernel_rfl
    · rcases List.mem_cons.mp ht with rfl | ht
      · kernel_rfl
      · rcases List.mem_cons.mp ht with rfl | ht
        · kernel_rfl
        · simp at ht
theorem o4 (k : Int) (h : 1 ≤ k) : f_l_of p n m [cs2, .int 1, imp, .lst [.lst [.int k, .int 0], .lst [.int 1, .int 1], .lst [.int 0, .int 1], .lst [.int 0, .int 0]]] = .ok (.lst [.bl false, .bl true, .bl true, .bl false]) [cs2, .int 1, imp, .lst [.lst [.int k, .int 0], .lst [.int 1, .int 1], .lst [.int 0, .int 1], .lst [.int 0, .int 0]]] := by
  refine of_ok p n m [(.lst [.int k, .int 0], false), (.lst [.int 1, .int 1], true), (.lst [.int 0, .int 1], true), (.lst [.int 0, .int 0], false)] (by simp) fun t ht => ?_
  rcases List.mem_cons.mp ht with rfl | ht
  · exact ans p n m (ck2' p n m) (r2' p n m k h)
  · rcases List.mem_cons.mp ht with rfl | ht
    · kernel_rfl
    · rcases List.mem_cons.mp ht with rfl | ht
      · kernel_rfl
      · rcases List.mem_cons.mp ht with rfl | ht
        · kernel_rfl
        · simp at ht
theorem o5 (k : Int) (h : 1 ≤ k) : f_l_of p n m [cs3, .int 2, imp, .lst [.lst [.int k]]] = .ok (.lst [.bl true]) [cs3, .int 2, imp, .lst [.lst [.int k]]] := by
  refine of_ok p n m [(.lst [.int k], true)] (by simp) fun t ht => ?_
  rcases List.mem_cons.mp ht with rfl | ht
  · exact ans p n m (ck3 p n m) (r3 p n m k h)
  · simp at ht
theorem e1 : dEq (.lst [.bl true, .bl true, .bl true, .bl true]) (.lst [.bl true, .bl true, .bl true, .bl true]) = some (.bl true) := by kernel_rfl
theorem e2 : dNotIn (.bl true) (.lst (List.replicate 14 (.bl false))) = some (.bl true) := by kernel_rfl
theorem e3 : dNe (.lst [.bl true, .bl true, .bl false, .bl false]) (.lst [.bl true, .bl true, .bl false, .bl false]) = some (.bl false) := by kernel_rfl
theorem e4 : dEq (.lst [.bl false, .bl true, .bl true, .bl false]) (.lst [.bl false, .bl true, .bl true, .bl false]) = some (.bl true) := by kernel_rfl
theorem e2' : dNotIn (.bl true) (.lst [.bl false, .bl false, .bl false, .bl false, .bl false, .bl false, .bl false, .bl false, .bl false, .bl false, .bl false, .bl false, .bl false, .bl false]) = some (.bl true) := by kernel_rfl
theorem s1 (k : Int) (h : 1 ≤ k) : f_l_strict_right p n m [.int k] = .ok (.bl true) [.int k] := by
  simp [f_l_strict_right, fDef, startD, nones, fSeq, fIfS, fOr, fAnd, fNot, fB, fCB, one, two, dIsi, tyn, tys, isTy, isTyS, fCons, fNil, fVar, fC, fOp, dLen, fLc, fLcL, fIt, fgName, fYes, wipeD, unwipe, fAndV, fCallV, isI', dGeI, dCmp, dBls, blsOf, fNext, fRet, fAsg, dRep, fLst, fFor, fForL, fZipS, zipD, fgTup, fgCons, fgNil, dMulI, dInt, dAdd, cMulB, intsOf, dMax1, iMax, fMaxD, fOrV, dGtI, dLtI, d1, q1, q2, cut, fTup, fDrop, sl, Int.add_left_neg, Int.add_right_neg, fNotV, fIf, fNeg, o1 p n m k h, o2 p n m, e1, e2']
theorem s2 (k : Int) (h : 1 ≤ k) : f_l_weak_right p n m [.int k] = .ok (.bl true) [.int k] := by
  simp [f_l_weak_right, fDef, startD, nones, fSeq, fIfS, fOr, fAnd, fNot, fB, fCB, one, two, dIsi, tyn, tys, isTy, isTyS, fCons, fNil, fVar, fC, fOp, dLen, fLc, fLcL, fIt, fgName, fYes, wipeD, unwipe, fAndV, fCallV, isI', dGeI, dCmp, dBls, blsOf, fNext, fRet, fAsg, dRep, fLst, fFor, fForL, fZipS, zipD, fgTup, fgCons, fgNil, dMulI, dInt, dAdd, cMulB, intsOf, dMax1, iMax, fMaxD, fOrV, dGtI, dLtI, d1, q1, q2, cut, fTup, fDrop, sl, Int.add_left_neg, Int.add_right_neg, fNotV, fIf, fNeg, o3 p n m k h, o4 p n m k h, e3, e4]
theorem s0 : f_l_possible_right p n m [] = .ok (.bl true) [] := by kernel_rfl
theorem pw18 : dPowI (.int 10) (.int 18) = some (.int 1000000000000000000) := by kernel_rfl
theorem pw30 : dPowI (.int 10) (.int 30) = some (.int 1000000000000000000000000000000) := by kernel_rfl
theorem bag_ok (ns : List Int) (i : Nat) : ∃ a b : Int, 0 ≤ a ∧ 0 ≤ b ∧ b < 2147483648 ∧ f_l_bag p n m [.scr ns, .int i] = .ok (.lst [.int a, .int b]) [.scr ns, .int i] := by
  have rest : ∀ c : Int, ∃ a b : Int, 0 ≤ a ∧ 0 ≤ b ∧ b < 2147483648 ∧ (fSeqR (fAsg (fOp dMulI (fCB (one dAbs) (fCons (fVar 2) fNil)) (fCB (one dInt1) (fCons (fOp dGeI (fCB (one dAbs) (fCons (fVar 2) fNil)) (fOp dPowI (fC (D.int 10)) (fC (D.int 18)))) fNil))) (fgName 3))
    (fRet [] [] (fLst (fCons (fVar 3) (fCons (fOp dAdd (fOp dModI (fOp dAdd (fOp dAdd (fOp dMulI (fOp dModI (fVar 2) (fC (D.int 2147483629))) (fC (D.int 48271))) (fOp dMulI (fC (D.int 6211)) (fVar 1))) (fC (D.int 211))) (fC (D.int 2147483587))) (fC (D.int 1))) fNil))))) [some (.scr ns), some (.int i), some (.int c), none] = .rt (.lst [.int a, .int b]) [some (.scr ns), some (.int i), some (.int c), some (.int a)] := fun c => by
    have hx : ∃ x : Int, 0 ≤ x ∧ one dAbs [.int c] = some (.int x) := ⟨if c < 0 then -c else c, by split <;> omega, rfl⟩
    obtain ⟨x, x0, ex⟩ := hx
    have hu : ∃ u : Int, 0 ≤ u ∧ u ≤ 1 ∧ one dInt1 [.bl (decide ((1000000000000000000 : Int) ≤ x))] = some (.int u) := ⟨if decide ((1000000000000000000 : Int) ≤ x) = true then 1 else 0, by split <;> omega, by split <;> omega, rfl⟩
    obtain ⟨u, u0, u1, eu⟩ := hu
    have em : dMulI (.int x) (.int u) = some (.int (x * u)) := dMulI_r ⟨by omega, by omega⟩
    have e1 : dModI (.int c) (.int 2147483629) = some (.int (c % 2147483629)) := dModI_p (by decide)
    have e2 : dMulI (.int (c % 2147483629)) (.int 48271) = some (.int (c % 2147483629 * 48271)) := dMulI_r (by decide)
    have e3 : dMulI (.int 6211) (.int i) = some (.int (6211 * (i : Int))) := dMulI_l (by decide)
    have e4 : dModI (.int (c % 2147483629 * 48271 + 6211 * (i : Int) + 211)) (.int 2147483587) = some (.int ((c % 2147483629 * 48271 + 6211 * (i : Int) + 211) % 2147483587)) := dModI_p (by decide)
    refine ⟨x * u, (c % 2147483629 * 48271 + 6211 * (i : Int) + 211) % 2147483587 + 1, Int.mul_nonneg x0 u0, ?_, ?_, ?_⟩
    · have := Int.emod_nonneg (c % 2147483629 * 48271 + 6211 * (i : Int) + 211) (show (2147483587 : Int) ≠ 0 by decide)
      omega
    · have := Int.emod_lt_of_pos (c % 2147483629 * 48271 + 6211 * (i : Int) + 211) (show (0 : Int) < 2147483587 by decide)
      omega
    · simp [fSeqR, fAsg, fOp, fCB, ex, fCons, fVar, fNil, pw18, eu, em, fC, fgName, fRet, fLst, e1, e2, e3, e4, sl, cut]
  by_cases hi : i < ns.length
  · obtain ⟨a, b, h1, h2, h3, e⟩ := rest ns[i]
    refine ⟨a, b, h1, h2, h3, ?_⟩
    have hi' : decide ((i : Int) < (ns.length : Int)) = true := by simpa using hi
    have ln : one dLen [.scr ns] = some (.int ns.length) := rfl
    have s2 : fIfS (fB (fOp dLtI (fVar 1) (fCB (one dLen) (fCons (fVar 0) fNil)))) (fAsg (fOp dIx (fVar 0) (fVar 1)) (fgName 2)) fNext [some (.scr ns), some (.int i), some (.int 0), none] = .nx [some (.scr ns), some (.int i), some (.int ns[i]), none] := by
      simp [fIfS, fB, fOp, fVar, fCB, fCons, fNil, ln, hi', hi, dIx_scr hi, fAsg, fgName]
    unfold f_l_bag
    rw [fDef_eq (by rfl)]
    refine (congrArg (fun r => SR.fn r [] [.scr ns, .int i]) (fSeqR_nx (show fAsg (fC (D.int 0)) (fgName 2) (startD 4 [.scr ns, .int i]) = .nx [some (.scr ns), some (.int i), some (.int 0), none] from rfl))).trans ?_
    rw [fSeqR_nx s2, e]
    rfl
  · obtain ⟨a, b, h1, h2, h3, e⟩ := rest 0
    refine ⟨a, b, h1, h2, h3, ?_⟩
    have ln : one dLen [.scr ns] = some (.int ns.length) := rfl
    have s2 : fIfS (fB (fOp dLtI (fVar 1) (fCB (one dLen) (fCons (fVar 0) fNil)))) (fAsg (fOp dIx (fVar 0) (fVar 1)) (fgName 2)) fNext [some (.scr ns), some (.int i), some (.int 0), none] = .nx [some (.scr ns), some (.int i), some (.int 0), none] := by
      simp [fIfS, fB, fOp, fVar, fCB, fCons, fNil, ln, hi, fNext]
    unfold f_l_bag
    rw [fDef_eq (by rfl)]
    refine (congrArg (fun r => SR.fn r [] [.scr ns, .int i]) (fSeqR_nx (show fAsg (fC (D.int 0)) (fgName 2) (startD 4 [.scr ns, .int i]) = .nx [some (.scr ns), some (.int i), some (.int 0), none] from rfl))).trans ?_
    rw [fSeqR_nx s2, e]
    rfl
theorem take_ok (a b q : Int) (ha : 0 ≤ a) (hb : 0 ≤ b) (hb2 : b < 2147483648) (hq : 0 < q) (hl : q.natAbs.log2 < 9000) : ∃ d x y : Int, 0 ≤ d ∧ d < q ∧ f_l_take p n m [.lst [.int a, .int b], .int q] = .ok (.int d) [.lst [.int x, .int y], .int q] := by
  have k0 : ixN 2 0 = some 0 := rfl
  have k1 : ixN 2 1 = some 1 := rfl
  by_cases h : 0 < a
  · refine ⟨a % q, a / q, b, Int.emod_nonneg _ (by omega), Int.emod_lt_of_pos _ hq, ?_⟩
    simp [f_l_take, fDef, startD, nones, fSeq, fIfS, fB, fOp, fOpL, fC, h, fAsg, fVar, fgName, dModI_p hq, dFdivI_p hq hl, fSetI, k0, fRet, cut, bkD, backD, List.mapIdx_cons]
  · have r1 := Int.emod_nonneg (b * 69621) (show (2147483647 : Int) ≠ 0 by decide)
    have r2 := Int.emod_lt_of_pos (b * 69621) (show (0 : Int) < 2147483647 by decide)
    generalize hr : b * 69621 % 2147483647 = r at r1 r2
    have e1 : dMulI (.int b) (.int 69621) = some (.int (b * 69621)) := dMulI_r (by decide)
    have e2 : dModI (.int (b * 69621)) (.int 2147483647) = some (.int r) := by rw [dModI_p (by decide), hr]
    have e3 : dFdivI (.int r) (.int 32768) = some (.int (r / 32768)) := dFdivI_p (by decide) (by decide)
    have e4 : dMulI (.int r) (.int (r / 32768 + 7)) = some (.int (r * (r / 32768 + 7))) := dMulI_l ⟨by omega, by omega⟩
    have e5 : dModI (.int (r * (r / 32768 + 7))) (.int 2147483587) = some (.int (r * (r / 32768 + 7) % 2147483587)) := dModI_p (by decide)
    have e6 : dFdivI (.int (r * (r / 32768 + 7) % 2147483587)) (.int 64) = some (.int (r * (r / 32768 + 7) % 2147483587 / 64)) := dFdivI_p (by decide) (by decide)
    have e7 : dModI (.int (r * (r / 32768 + 7) % 2147483587 / 64)) (.int q) = some (.int (r * (r / 32768 + 7) % 2147483587 / 64 % q)) := dModI_p hq
    refine ⟨_, a, r, Int.emod_nonneg (r * (r / 32768 + 7) % 2147483587 / 64) (by omega), Int.emod_lt_of_pos _ hq, ?_⟩
    simp [f_l_take, fDef, startD, nones, fSeq, fIfS, fB, fOp, fOpL, fC, h, fAsg, fVar, fgName, fNext, e1, e2, e3, e4, e5, e6, e7, fSetI, k1, fRet, cut, bkD, backD, List.mapIdx_cons]
theorem law_ok (ns : List Int) (hn : ns.length ≤ 1000) : f_law p n m [.scr ns] = .ok (.bl true) [.scr ns] := by
  have hr : ∃ k : Nat, k ≤ 4 ∧ fRng1 (fCons (fCB (two (dTwo dMax2)) (fCons (fC (D.int 2)) (fCons (fCB (two (dTwo dMin2)) (fCons (fC (D.int 4)) (fCons (fCB (one dLen) (fCons (fVar 0) fNil)) fNil))) fNil))) fNil) [some (.scr ns), none, none, none, none, none] = .ok (rng 0 k) [some (.scr ns), none, none, none, none, none] := by
    have ln : one dLen [.scr ns] = some (.int ns.length) := rfl
    have e1 : two (dTwo dMin2) [.int 4, .int ns.length] = some (.int (dMin2 4 ns.length)) := rfl
    have e2 : two (dTwo dMax2) [.int 2, .int (dMin2 4 ns.length)] = some (.int (dMax2 2 (dMin2 4 ns.length))) := rfl
    have b : 2 ≤ dMax2 2 (dMin2 4 ns.length) ∧ dMax2 2 (dMin2 4 ns.length) ≤ 4 := by
      unfold dMax2 dMin2
      constructor
      · split <;> split <;> omega
      · split <;> split <;> omega
    refine ⟨(dMax2 2 (dMin2 4 ns.length)).toNat, by omega, ?_⟩
    generalize hz : dMax2 2 (dMin2 4 ns.length) = z at b e2
    have g1 : -4611686018427387904 ≤ z ∧ z < 4611686018427387904 := by omega
    simp [fRng1, fCB, fCons, fNil, fC, fVar, ln, e1, e2, g1]
  obtain ⟨k, hk, er⟩ := hr
  unfold f_law b_law
  rw [fDef_eq (by rfl)]
  have lp := forL_inv (g := fgName 1) (b := fSeq (fAsg (fOp dAdd (fC (D.int 1)) (fCallT [] [] (f_l_take p n m) (fCallV [] [] (f_l_bag p n m) (fCons (fVar 0) (fCons (fVar 1) fNil))) (fCons (fOp dPowI (fC (D.int 10)) (fC (D.int 30))) fNil))) (fgName 2))
  (fSeq (fIfS (fOr (fNot (fB (fCallV [] [] (f_l_possible_right p n m) fNil))) (fOr (fNot (fB (fCallV [] [] (f_l_strict_right p n m) (fCons (fVar 2) fNil)))) (fNot (fB (fCallV [] [] (f_l_weak_right p n m) (fCons (fVar 2) fNil))))))
  (fRet [] [] (fC (D.bl false)))
  fNext)
  (fIfS (fNot (fB (fOp dIx (fCallV [] [] (f_l_of p n m) (fCons (fLst (fCons (fTup (fCons (fTup (fCons (fC (D.int 2)) fNil)) (fCons (fTup (fCons (fC (D.int 2)) fNil)) (fCons (fC (D.str "left")) fNil)))) fNil)) (fCons (fC (D.int 2)) (fCons (fC (D.str "impossible")) (fCons (fLst (fCons (fLst (fCons (fVar 2) fNil)) fNil)) fNil))))) (fC (D.int 0)))))
  (fRet [] [] (fC (D.bl false)))
  fNext))) (fun Γ => ∃ x y, Γ = [some (.scr ns), x, y, none, none, none]) (rng 0 k) [some (.scr ns), none, none, none, none, none] ⟨none, none, rfl⟩ (fun x hx Γ hI => by
    obtain ⟨u, v, rfl⟩ := hI
    obtain ⟨i, hi, rfl⟩ := mem_rng hx
    have ez : (0 : Int) + (i : Int) = i := by omega
    rw [ez]
    obtain ⟨a, b, h1, h2, h3, eb⟩ := bag_ok p n m ns i
    obtain ⟨d, x, y, d0, d1', et⟩ := take_ok p n m a b 1000000000000000000000000000000 h1 h2 h3 (by decide) (by decide)
    have hk : (1 : Int) ≤ 1 + d := by omega
    refine ⟨[some (.scr ns), some (.int i), v, none, none, none], [some (.scr ns), some (.int i), some (.int (1 + d)), none, none, none], rfl, ?_, _, _, rfl⟩
    simp [fSeq, fAsg, fOp, fC, fCallT, fCallV, fCons, fNil, fVar, eb, et, pw30, fgName, fIfS, fOr, fNot, fB, s0, s1 p n m _ hk, s2 p n m _ hk, fLst, fTup, sl, o5 p n m _ hk, fNext])
  obtain ⟨Γ', el, x, y, rfl⟩ := lp
  have st : startD 6 [.scr ns] = [some (.scr ns), none, none, none, none, none] := rfl
  rw [st]
  refine (congrArg (fun r => SR.fn r [] [.scr ns]) (fSeq_nx (Γ1 := [some (.scr ns), x, y, none, none, none]) ?_)).trans ?_
  · unfold fFor
    rw [er]
    exact el
  · kernel_rfl
end
end Eu
set_option Elab.async false
set_option linter.all false
set_option maxRecDepth 100000
set_option maxHeartbeats 8000000
namespace Eu
open PySem PySem.Spec PyProof.Rows L2 Dv
theorem tops_mk {l : PySem.W.OpenLaw} {w : World} {K : PySem.W.Frag} {h : Heap} {mg : Str → Option Value} {fa : Addr}
    {f1 : Addr} {oc1 kV1 dc1 pm1 cd1 ct1 : Value} {od1 an1 : Option Addr} {sl1 : Array (Option Value)}
    {f2 : Addr} {oc2 kV2 dc2 pm2 cd2 ct2 : Value} {od2 an2 : Option Addr} {sl2 : Array (Option Value)}
    {f3 : Addr} {oc3 kV3 dc3 pm3 cd3 ct3 : Value} {od3 an3 : Option Addr} {sl3 : Array (Option Value)}
    {f4 : Addr} {oc4 kV4 dc4 pm4 cd4 ct4 : Value} {od4 an4 : Option Addr} {sl4 : Array (Option Value)}
    {f5 : Addr} {oc5 kV5 dc5 pm5 cd5 ct5 : Value} {od5 an5 : Option Addr} {sl5 : Array (Option Value)}
    {f6 : Addr} {oc6 kV6 dc6 pm6 cd6 ct6 : Value} {od6 an6 : Option Addr} {sl6 : Array (Option Value)}
    {f7 : Addr} {oc7 kV7 dc7 pm7 cd7 ct7 : Value} {od7 an7 : Option Addr} {sl7 : Array (Option Value)}
    {f8 : Addr} {oc8 kV8 dc8 pm8 cd8 ct8 : Value} {od8 an8 : Option Addr} {sl8 : Array (Option Value)}
    {f9 : Addr} {oc9 kV9 dc9 pm9 cd9 ct9 : Value} {od9 an9 : Option Addr} {sl9 : Array (Option Value)}
    {f10 : Addr} {oc10 kV10 dc10 pm10 cd10 ct10 : Value} {od10 an10 : Option Addr} {sl10 : Array (Option Value)}
    {f11 : Addr} {oc11 kV11 dc11 pm11 cd11 ct11 : Value} {od11 an11 : Option Addr} {sl11 : Array (Option Value)}
    {f12 : Addr} {oc12 kV12 dc12 pm12 cd12 ct12 : Value} {od12 an12 : Option Addr} {sl12 : Array (Option Value)}
    {f13 : Addr} {oc13 kV13 dc13 pm13 cd13 ct13 : Value} {od13 an13 : Option Addr} {sl13 : Array (Option Value)}
    {f14 : Addr} {oc14 kV14 dc14 pm14 cd14 ct14 : Value} {od14 an14 : Option Addr} {sl14 : Array (Option Value)}
    {f15 : Addr} {oc15 kV15 dc15 pm15 cd15 ct15 : Value} {od15 an15 : Option Addr} {sl15 : Array (Option Value)}
    {f16 : Addr} {oc16 kV16 dc16 pm16 cd16 ct16 : Value} {od16 an16 : Option Addr} {sl16 : Array (Option Value)}
    {f17 : Addr} {oc17 kV17 dc17 pm17 cd17 ct17 : Value} {od17 an17 : Option Addr} {sl17 : Array (Option Value)}
    {f18 : Addr} {oc18 kV18 dc18 pm18 cd18 ct18 : Value} {od18 an18 : Option Addr} {sl18 : Array (Option Value)}
    {gt1 : Tok}
    {gt2 : Tok}
    {gt3 : Tok}
    {ta1 : Addr} {td1 : Option Addr} {tn1 : Nat} {ts1 : Array (Option Value)} {tk1_0 tk1_1 tk1_2 : Tok}
    (X : K.In h) (G : h.Ns mainGlobals mg) (hfa : mg "law" = some (.ref fa))
    (a1 : PySem.W.nsIn K mainGlobals "is_integer" = some (some (.ref f1)))
    (l1 : K.lookup f1 = some ⟨oc1, od1, .func (PySem.W.fnOf "is_integer" "is_integer" (defArgs s_is_integer) (defBody s_is_integer) (defScope s_is_integer) .none kV1 dc1 pm1 an1 cd1 ct1), sl1⟩)
    (c1 : PySem.W.codeIn K cd1 "is_integer" = true) (k1 : PySem.W.keepIn K (.ref f1) = true)
    (a2 : PySem.W.nsIn K mainGlobals "in_range" = some (some (.ref f2)))
    (l2 : K.lookup f2 = some ⟨oc2, od2, .func (PySem.W.fnOf "in_range" "in_range" (defArgs s_in_range) (defBody s_in_range) (defScope s_in_range) .none kV2 dc2 pm2 an2 cd2 ct2), sl2⟩)
    (c2 : PySem.W.codeIn K cd2 "in_range" = true) (k2 : PySem.W.keepIn K (.ref f2) = true)
    (a3 : PySem.W.nsIn K mainGlobals "are_patterns" = some (some (.ref f3)))
    (l3 : K.lookup f3 = some ⟨oc3, od3, .func (PySem.W.fnOf "are_patterns" "are_patterns" (defArgs s_are_patterns) (defBody s_are_patterns) (defScope s_are_patterns) .none kV3 dc3 pm3 an3 cd3 ct3), sl3⟩)
    (c3 : PySem.W.codeIn K cd3 "are_patterns" = true) (k3 : PySem.W.keepIn K (.ref f3) = true)
    (a4 : PySem.W.nsIn K mainGlobals "is_condition" = some (some (.ref f4)))
    (l4 : K.lookup f4 = some ⟨oc4, od4, .func (PySem.W.fnOf "is_condition" "is_condition" (defArgs s_is_condition) (defBody s_is_condition) (defScope s_is_condition) .none kV4 dc4 pm4 an4 cd4 ct4), sl4⟩)
    (c4 : PySem.W.codeIn K cd4 "is_condition" = true) (k4 : PySem.W.keepIn K (.ref f4) = true)
    (a5 : PySem.W.nsIn K mainGlobals "check_question" = some (some (.ref f5)))
    (l5 : K.lookup f5 = some ⟨oc5, od5, .func (PySem.W.fnOf "check_question" "check_question" (defArgs s_check_question) (defBody s_check_question) (defScope s_check_question) .none kV5 dc5 pm5 an5 cd5 ct5), sl5⟩)
    (c5 : PySem.W.codeIn K cd5 "check_question" = true) (k5 : PySem.W.keepIn K (.ref f5) = true)
    (a6 : PySem.W.nsIn K mainGlobals "weights_of" = some (some (.ref f6)))
    (l6 : K.lookup f6 = some ⟨oc6, od6, .func (PySem.W.fnOf "weights_of" "weights_of" (defArgs s_weights_of) (defBody s_weights_of) (defScope s_weights_of) .none kV6 dc6 pm6 an6 cd6 ct6), sl6⟩)
    (c6 : PySem.W.codeIn K cd6 "weights_of" = true) (k6 : PySem.W.keepIn K (.ref f6) = true)
    (a7 : PySem.W.nsIn K mainGlobals "satisfies" = some (some (.ref f7)))
    (l7 : K.lookup f7 = some ⟨oc7, od7, .func (PySem.W.fnOf "satisfies" "satisfies" (defArgs s_satisfies) (defBody s_satisfies) (defScope s_satisfies) .none kV7 dc7 pm7 an7 cd7 ct7), sl7⟩)
    (c7 : PySem.W.codeIn K cd7 "satisfies" = true) (k7 : PySem.W.keepIn K (.ref f7) = true)
    (a8 : PySem.W.nsIn K mainGlobals "are_counts" = some (some (.ref f8)))
    (l8 : K.lookup f8 = some ⟨oc8, od8, .func (PySem.W.fnOf "are_counts" "are_counts" (defArgs s_are_counts) (defBody s_are_counts) (defScope s_are_counts) .none kV8 dc8 pm8 an8 cd8 ct8), sl8⟩)
    (c8 : PySem.W.codeIn K cd8 "are_counts" = true) (k8 : PySem.W.keepIn K (.ref f8) = true)
    (a9 : PySem.W.nsIn K mainGlobals "solves" = some (some (.ref f9)))
    (l9 : K.lookup f9 = some ⟨oc9, od9, .func (PySem.W.fnOf "solves" "solves" (defArgs s_solves) (defBody s_solves) (defScope s_solves) .none kV9 dc9 pm9 an9 cd9 ct9), sl9⟩)
    (c9 : PySem.W.codeIn K cd9 "solves" = true) (k9 : PySem.W.keepIn K (.ref f9) = true)
    (a10 : PySem.W.nsIn K mainGlobals "refutes" = some (some (.ref f10)))
    (l10 : K.lookup f10 = some ⟨oc10, od10, .func (PySem.W.fnOf "refutes" "refutes" (defArgs s_refutes) (defBody s_refutes) (defScope s_refutes) .none kV10 dc10 pm10 an10 cd10 ct10), sl10⟩)
    (c10 : PySem.W.codeIn K cd10 "refutes" = true) (k10 : PySem.W.keepIn K (.ref f10) = true)
    (a11 : PySem.W.nsIn K mainGlobals "is_answer" = some (some (.ref f11)))
    (l11 : K.lookup f11 = some ⟨oc11, od11, .func (PySem.W.fnOf "is_answer" "is_answer" (defArgs s_is_answer) (defBody s_is_answer) (defScope s_is_answer) .none kV11 dc11 pm11 an11 cd11 ct11), sl11⟩)
    (c11 : PySem.W.codeIn K cd11 "is_answer" = true) (k11 : PySem.W.keepIn K (.ref f11) = true)
    (a12 : PySem.W.nsIn K mainGlobals "_law_bag" = some (some (.ref f12)))
    (l12 : K.lookup f12 = some ⟨oc12, od12, .func (PySem.W.fnOf "_law_bag" "_law_bag" (defArgs s_l_bag) (defBody s_l_bag) (defScope s_l_bag) .none kV12 dc12 pm12 an12 cd12 ct12), sl12⟩)
    (c12 : PySem.W.codeIn K cd12 "_law_bag" = true) (k12 : PySem.W.keepIn K (.ref f12) = true)
    (a13 : PySem.W.nsIn K mainGlobals "_law_take" = some (some (.ref f13)))
    (l13 : K.lookup f13 = some ⟨oc13, od13, .func (PySem.W.fnOf "_law_take" "_law_take" (defArgs s_l_take) (defBody s_l_take) (defScope s_l_take) .none kV13 dc13 pm13 an13 cd13 ct13), sl13⟩)
    (c13 : PySem.W.codeIn K cd13 "_law_take" = true) (k13 : PySem.W.keepIn K (.ref f13) = true)
    (a14 : PySem.W.nsIn K mainGlobals "_law_of" = some (some (.ref f14)))
    (l14 : K.lookup f14 = some ⟨oc14, od14, .func (PySem.W.fnOf "_law_of" "_law_of" (defArgs s_l_of) (defBody s_l_of) (defScope s_l_of) .none kV14 dc14 pm14 an14 cd14 ct14), sl14⟩)
    (c14 : PySem.W.codeIn K cd14 "_law_of" = true) (k14 : PySem.W.keepIn K (.ref f14) = true)
    (a15 : PySem.W.nsIn K mainGlobals "_law_possible_right" = some (some (.ref f15)))
    (l15 : K.lookup f15 = some ⟨oc15, od15, .func (PySem.W.fnOf "_law_possible_right" "_law_possible_right" (defArgs s_l_possible_right) (defBody s_l_possible_right) (defScope s_l_possible_right) .none kV15 dc15 pm15 an15 cd15 ct15), sl15⟩)
    (c15 : PySem.W.codeIn K cd15 "_law_possible_right" = true) (k15 : PySem.W.keepIn K (.ref f15) = true)
    (a16 : PySem.W.nsIn K mainGlobals "_law_strict_right" = some (some (.ref f16)))
    (l16 : K.lookup f16 = some ⟨oc16, od16, .func (PySem.W.fnOf "_law_strict_right" "_law_strict_right" (defArgs s_l_strict_right) (defBody s_l_strict_right) (defScope s_l_strict_right) .none kV16 dc16 pm16 an16 cd16 ct16), sl16⟩)
    (c16 : PySem.W.codeIn K cd16 "_law_strict_right" = true) (k16 : PySem.W.keepIn K (.ref f16) = true)
    (a17 : PySem.W.nsIn K mainGlobals "_law_weak_right" = some (some (.ref f17)))
    (l17 : K.lookup f17 = some ⟨oc17, od17, .func (PySem.W.fnOf "_law_weak_right" "_law_weak_right" (defArgs s_l_weak_right) (defBody s_l_weak_right) (defScope s_l_weak_right) .none kV17 dc17 pm17 an17 cd17 ct17), sl17⟩)
    (c17 : PySem.W.codeIn K cd17 "_law_weak_right" = true) (k17 : PySem.W.keepIn K (.ref f17) = true)
    (a18 : PySem.W.nsIn K mainGlobals "law" = some (some (.ref f18)))
    (l18 : K.lookup f18 = some ⟨oc18, od18, .func (PySem.W.fnOf "law" "law" (defArgs s_law) (defBody s_law) (defScope s_law) .none kV18 dc18 pm18 an18 cd18 ct18), sl18⟩)
    (c18 : PySem.W.codeIn K cd18 "law" = true) (k18 : PySem.W.keepIn K (.ref f18) = true)
    (g1 : PySem.W.nsIn K mainGlobals "LEFT" = some (some (.str "left" gt1)))
    (g2 : PySem.W.nsIn K mainGlobals "MOST_CONDITIONS" = some (some (.int 8 gt2)))
    (g3 : PySem.W.nsIn K mainGlobals "RIGHT" = some (some (.str "right" gt3)))
    (h1 : PySem.W.nsIn K mainGlobals "NUMBERS_OF_PATTERNS" = some (some (.ref ta1)))
    (j1 : K.lookup ta1 = some ⟨.type "tuple", td1, .seq #[.int 1 tk1_0, .int 3 tk1_1, .int 7 tk1_2] tn1, ts1⟩)
    (z1 : PySem.W.nsIn K mainGlobals "len" = some none)
    (z2 : PySem.W.nsIn K mainGlobals "abs" = some none)
    (z3 : PySem.W.nsIn K mainGlobals "isinstance" = some none)
    (z4 : PySem.W.nsIn K mainGlobals "int" = some none)
    (z5 : PySem.W.nsIn K mainGlobals "bool" = some none)
    (z6 : PySem.W.nsIn K mainGlobals "str" = some none)
    (z7 : PySem.W.nsIn K mainGlobals "tuple" = some none)
    (z8 : PySem.W.nsIn K mainGlobals "all" = some none)
    (z9 : PySem.W.nsIn K mainGlobals "any" = some none)
    (z10 : PySem.W.nsIn K mainGlobals "repr" = some none)
    (z11 : PySem.W.nsIn K mainGlobals "range" = some none)
    (z12 : PySem.W.nsIn K mainGlobals "max" = some none)
    (z13 : PySem.W.nsIn K mainGlobals "min" = some none)
    (z14 : PySem.W.nsIn K mainGlobals "list" = some none)
    (z15 : PySem.W.nsIn K mainGlobals "dict" = some none)
    (z16 : PySem.W.nsIn K mainGlobals "set" = some none)
    (z17 : PySem.W.nsIn K mainGlobals "sorted" = some none)
    (z18 : PySem.W.nsIn K mainGlobals "reversed" = some none)
    (z19 : PySem.W.nsIn K mainGlobals "enumerate" = some none)
    (z20 : PySem.W.nsIn K mainGlobals "zip" = some none)
    (z21 : PySem.W.nsIn K mainGlobals "sum" = some none)
    (z22 : PySem.W.nsIn K mainGlobals "type" = some none) :
    ∃ fd : FuncData, (∀ (s : Shared) (u : Value), BindsTo s fd ⟨[u], []⟩ [("_law_script", u)]) ∧
      ∀ base : Heap, K.In base → base.Ns mainGlobals mg → Ok l.prog w K mg base CX0 9 fa fd ["_law_script"] (spLaw K) := by
  have D_is_integer : Df K mg "is_integer" s_is_integer := df_mk X G a1 l1 c1 k1
  have D_in_range : Df K mg "in_range" s_in_range := df_mk X G a2 l2 c2 k2
  have D_are_patterns : Df K mg "are_patterns" s_are_patterns := df_mk X G a3 l3 c3 k3
  have D_is_condition : Df K mg "is_condition" s_is_condition := df_mk X G a4 l4 c4 k4
  have D_check_question : Df K mg "check_question" s_check_question := df_mk X G a5 l5 c5 k5
  have D_weights_of : Df K mg "weights_of" s_weights_of := df_mk X G a6 l6 c6 k6
  have D_satisfies : Df K mg "satisfies" s_satisfies := df_mk X G a7 l7 c7 k7
  have D_are_counts : Df K mg "are_counts" s_are_counts := df_mk X G a8 l8 c8 k8
  have D_solves : Df K mg "solves" s_solves := df_mk X G a9 l9 c9 k9
  have D_refutes : Df K mg "refutes" s_refutes := df_mk X G a10 l10 c10 k10
  have D_is_answer : Df K mg "is_answer" s_is_answer := df_mk X G a11 l11 c11 k11
  have D_l_bag : Df K mg "_law_bag" s_l_bag := df_mk X G a12 l12 c12 k12
  have D_l_take : Df K mg "_law_take" s_l_take := df_mk X G a13 l13 c13 k13
  have D_l_of : Df K mg "_law_of" s_l_of := df_mk X G a14 l14 c14 k14
  have D_l_possible_right : Df K mg "_law_possible_right" s_l_possible_right := df_mk X G a15 l15 c15 k15
  have D_l_strict_right : Df K mg "_law_strict_right" s_l_strict_right := df_mk X G a16 l16 c16 k16
  have D_l_weak_right : Df K mg "_law_weak_right" s_l_weak_right := df_mk X G a17 l17 c17 k17
  have D_law : Df K mg "law" s_law := df_mk X G a18 l18 c18 k18
  have G_LEFT : ∃ u, mg "LEFT" = some u ∧ RelV (.str "left") u := ⟨_, PySem.W.mg_of X G g1, _, rfl⟩
  have G_MOST_CONDITIONS : ∃ u, mg "MOST_CONDITIONS" = some u ∧ RelV (.int 8) u := ⟨_, PySem.W.mg_of X G g2, _, rfl⟩
  have G_RIGHT : ∃ u, mg "RIGHT" = some u ∧ RelV (.str "right") u := ⟨_, PySem.W.mg_of X G g3, _, rfl⟩
  have G_NUMBERS_OF_PATTERNS : ∃ u, mg "NUMBERS_OF_PATTERNS" = some u ∧ RelV (.ref ta1) u := ⟨_, PySem.W.mg_of X G h1, rfl⟩
  have S_NUMBERS_OF_PATTERNS : ∀ H, SqT K H ta1 [.int 1, .int 3, .int 7] := fun H => .inr ⟨_, _, _, j1, rfl, rfl, (by show 3 ≤ sizeLine; decide), .cons ⟨_, rfl⟩ (.cons ⟨_, rfl⟩ (.cons ⟨_, rfl⟩ (.nil)))⟩
  have m0 : ∀ {x : Str}, PySem.W.nsIn K mainGlobals x = some none → mg x = none := fun e => PySem.W.mg_none_of X G e
  have B : Bl mg := ⟨m0 z1, m0 z2, m0 z3, m0 z4, m0 z5, m0 z6, m0 z7, m0 z8, m0 z9, m0 z10, m0 z11, m0 z12, m0 z13, m0 z14, m0 z15, m0 z16, m0 z17, m0 z18, m0 z19, m0 z20, m0 z21, m0 z22⟩
  let T : Tg K mg := { g_LEFT := G_LEFT, r_LEFT := fun H => .str _, g_MOST_CONDITIONS := G_MOST_CONDITIONS, r_MOST_CONDITIONS := fun H => .int _, a_NUMBERS_OF_PATTERNS := _, g_NUMBERS_OF_PATTERNS := G_NUMBERS_OF_PATTERNS, r_NUMBERS_OF_PATTERNS := fun H => .tup (S_NUMBERS_OF_PATTERNS H) (.cons (.int _) (.cons (.int _) (.cons (.int _) (.nil)))), g_RIGHT := G_RIGHT, r_RIGHT := fun H => .str _ }
  refine lawF (np := 1) (k := 8) D_law hfa sc_law rfl rfl (fun _ _ _ _ _ _ us hl => match us, hl with | [_], _ => rfl) (by decide) (fun ns hn => ⟨_, law_ok ⟨fun _ => 0, []⟩ 0 0 ns (by omega)⟩) ?_
  intro base hb1 hb2
  have c_is_integer := cx_is_integer (P := l.prog) (w := w) (base := base) ⟨fun _ => 0, []⟩ 0 0 B T  D_is_integer
  have c_in_range := cx_in_range (P := l.prog) (w := w) (base := base) ⟨fun _ => 0, []⟩ 0 0 B T c_is_integer D_in_range
  have c_are_patterns := cx_are_patterns (P := l.prog) (w := w) (base := base) ⟨fun _ => 0, []⟩ 0 0 B T c_in_range D_are_patterns
  have c_is_condition := cx_is_condition (P := l.prog) (w := w) (base := base) ⟨fun _ => 0, []⟩ 0 0 B T c_are_patterns D_is_condition
  have c_check_question := cx_check_question (P := l.prog) (w := w) (base := base) ⟨fun _ => 0, []⟩ 0 0 B T c_is_integer c_is_condition c_in_range D_check_question
  have c_weights_of := cx_weights_of (P := l.prog) (w := w) (base := base) ⟨fun _ => 0, []⟩ 0 0 B T  D_weights_of
  have c_satisfies := cx_satisfies (P := l.prog) (w := w) (base := base) ⟨fun _ => 0, []⟩ 0 0 B T  D_satisfies
  have c_are_counts := cx_are_counts (P := l.prog) (w := w) (base := base) ⟨fun _ => 0, []⟩ 0 0 B T c_is_integer D_are_counts
  have c_solves := cx_solves (P := l.prog) (w := w) (base := base) ⟨fun _ => 0, []⟩ 0 0 B T c_are_counts c_satisfies D_solves
  have c_refutes := cx_refutes (P := l.prog) (w := w) (base := base) ⟨fun _ => 0, []⟩ 0 0 B T c_is_integer c_weights_of D_refutes
  have c_is_answer := cx_is_answer (P := l.prog) (w := w) (base := base) ⟨fun _ => 0, []⟩ 0 0 B T c_check_question c_solves c_refutes D_is_answer
  have c_l_bag := cx_l_bag (P := l.prog) (w := w) (base := base) ⟨fun _ => 0, []⟩ 0 0 B T  D_l_bag
  have c_l_take := cx_l_take (P := l.prog) (w := w) (base := base) ⟨fun _ => 0, []⟩ 0 0 B T  D_l_take
  have c_l_of := cx_l_of (P := l.prog) (w := w) (base := base) ⟨fun _ => 0, []⟩ 0 0 B T c_is_answer D_l_of
  have c_l_possible_right := cx_l_possible_right (P := l.prog) (w := w) (base := base) ⟨fun _ => 0, []⟩ 0 0 B T c_l_of D_l_possible_right
  have c_l_strict_right := cx_l_strict_right (P := l.prog) (w := w) (base := base) ⟨fun _ => 0, []⟩ 0 0 B T c_l_of D_l_strict_right
  have c_l_weak_right := cx_l_weak_right (P := l.prog) (w := w) (base := base) ⟨fun _ => 0, []⟩ 0 0 B T c_l_of D_l_weak_right
  exact cx_law ⟨fun _ => 0, []⟩ 0 0 B T c_l_take c_l_bag c_l_weak_right c_l_strict_right c_l_possible_right c_l_of c_is_answer
end Eu
open PySem PySem.W PyProof.Rows
set_option maxRecDepth 100000 in
set_option maxHeartbeats 0 in
theorem PySem.Challenge.cw_equalunlike_k36_answers_by_hand_holds : PySem.Challenge.rw_equalunlike_k36_answers_by_hand.Holds := by
  w_on; o_law; k_head; (case hw => w_witness2)
  k_fill
  refine Eu.walk_ok (l := PySem.Challenge.rw_equalunlike_k36_answers_by_hand) (k := 9) (x := "_law_script") rfl rfl ⟨⟨rfl, by decide, by decide⟩, rfl⟩ (fun w h Y => PySem.W.kIn_of Y) ?F
  case F =>
    intro w mg fa h KX G hmg
    refine' Eu.tops_mk KX G hmg ?a1 ?l1 ?c1 ?k1 ?a2 ?l2 ?c2 ?k2 ?a3 ?l3 ?c3 ?k3 ?a4 ?l4 ?c4 ?k4 ?a5 ?l5 ?c5 ?k5 ?a6 ?l6 ?c6 ?k6 ?a7 ?l7 ?c7 ?k7 ?a8 ?l8 ?c8 ?k8 ?a9 ?l9 ?c9 ?k9 ?a10 ?l10 ?c10 ?k10 ?a11 ?l11 ?c11 ?k11 ?a12 ?l12 ?c12 ?k12 ?a13 ?l13 ?c13 ?k13 ?a14 ?l14 ?c14 ?k14 ?a15 ?l15 ?c15 ?k15 ?a16 ?l16 ?c16 ?k16 ?a17 ?l17 ?c17 ?k17 ?a18 ?l18 ?c18 ?k18 ?g1 ?g2 ?g3 ?h1 ?j1 ?z1 ?z2 ?z3 ?z4 ?z5 ?z6 ?z7 ?z8 ?z9 ?z10 ?z11 ?z12 ?z13 ?z14 ?z15 ?z16 ?z17 ?z18 ?z19 ?z20 ?z21 ?z22
    (case a1 => k_is); (case l1 => k_is); (case c1 => k_is); (case k1 => k_is); (case a2 => k_is); (case l2 => k_is)
    (case c2 => k_is); (case k2 => k_is); (case a3 => k_is); (case l3 => k_is); (case c3 => k_is); (case k3 => k_is)
    (case a4 => k_is); (case l4 => k_is); (case c4 => k_is); (case k4 => k_is); (case a5 => k_is); (case l5 => k_is)
    (case c5 => k_is); (case k5 => k_is); (case a6 => k_is); (case l6 => k_is); (case c6 => k_is); (case k6 => k_is)
    (case a7 => k_is); (case l7 => k_is); (case c7 => k_is); (case k7 => k_is); (case a8 => k_is); (case l8 => k_is)
    (case c8 => k_is); (case k8 => k_is); (case a9 => k_is); (case l9 => k_is); (case c9 => k_is); (case k9 => k_is)
    (case a10 => k_is); (case l10 => k_is); (case c10 => k_is); (case k10 => k_is); (case a11 => k_is); (case l11 => k_is)
    (case c11 => k_is); (case k11 => k_is); (case a12 => k_is); (case l12 => k_is); (case c12 => k_is); (case k12 => k_is)
    (case a13 => k_is); (case l13 => k_is); (case c13 => k_is); (case k13 => k_is); (case a14 => k_is); (case l14 => k_is)
    (case c14 => k_is); (case k14 => k_is); (case a15 => k_is); (case l15 => k_is); (case c15 => k_is); (case k15 => k_is)
    (case a16 => k_is); (case l16 => k_is); (case c16 => k_is); (case k16 => k_is); (case a17 => k_is); (case l17 => k_is)
    (case c17 => k_is); (case k17 => k_is); (case a18 => k_is); (case l18 => k_is); (case c18 => k_is); (case k18 => k_is)
    (case g1 => k_is); (case g2 => k_is); (case g3 => k_is); (case h1 => k_is); (case j1 => k_is); (case z1 => k_is)
    (case z2 => k_is); (case z3 => k_is); (case z4 => k_is); (case z5 => k_is); (case z6 => k_is); (case z7 => k_is)
    (case z8 => k_is); (case z9 => k_is); (case z10 => k_is); (case z11 => k_is); (case z12 => k_is); (case z13 => k_is)
    (case z14 => k_is); (case z15 => k_is); (case z16 => k_is); (case z17 => k_is); (case z18 => k_is); (case z19 => k_is)
    (case z20 => k_is); (case z21 => k_is); (case z22 => k_is)
