import PyProof.Rows.All
import Wide.All
import OpenK.AllK
import Wide.FinOn
import PyProof.ReprRoads
import HandS.ForMost
import HandS.IsInst
import HandS.Codes
import HandS.Star
import HandS.FStr
import HandS.TupAny
import KE.KDictWalk
import HandS.Defaults
import HandS.DictComp
import HandS.Sort
import HandS.Rev
import KE.KSortTupG
import HandS.More
import PyProof.InstNe
import KE.KDictMeth
import HandS.ListItems
import HandS.WordsDict
import KE.KOpsOwn
import HandS.ClsMeth
import HandS.Style
import KE.KEqSeq
import PySem.Challenge.RW_equalunlike_k07_operations_on_dicts
set_option Elab.async false
set_option linter.all false
set_option maxRecDepth 100000
set_option maxHeartbeats 4000000
/-! A layer of ours: defs that are called where no repr is under way. -/
namespace Eu
open PySem PySem.Spec PyProof.Rows L2

/-- room, and no repr under way -/
structure Rm (k : Nat) (A : Around) : Prop where
  rm : Room k A
  gd : A.guards = some []
theorem Rm.mono {j k : Nat} {A : Around} (r : Rm k A) (h : j ≤ k) : Rm j A := ⟨r.rm.mono h, r.gd⟩
theorem Rm.deeper {k : Nat} {A : Around} (r : Rm (k + 1) A) (v : Env) : Rm k (A.deeper v) := ⟨r.rm.deeper v, r.gd⟩
theorem Rm.in1 {k : Nat} {A : Around} (r : Rm (k + 1) A) : Rm k A.in1 := ⟨r.rm.in1, r.gd⟩

/-- a def that keeps a promise wherever no repr is under way -/
structure Ok (P : Program) (w : World) (K : PySem.W.Frag) (mg : Str → Option Value)
    (base : Heap) (CX : CXT) (k : Nat) (f : Addr) (fd : FuncData) (ps : List Str) (sp : Sp) : Prop where
  len : ∀ vs H Q E, sp vs H Q E → vs.length = ps.length
  go : ∀ (A : Around) (out : List Env) (s : Shared) (H : Hp) (ar : Args) (us : List Value) (vs : List V) (Q : VK) (E : XK),
    Rm k A → Env0 P w K mg base A out s H → BindsTo s fd ar (ps.zip us) → Vals vs us → sp vs H Q E →
    codeAny (model P w) A (.call (.ref f) ar) (CR CX out P w H s Q E) s

section
variable {P : Program} {w : World} {K : PySem.W.Frag} {mg : Str → Option Value} {base : Heap} {CX : CXT}
theorem Ok.mono {j k : Nat} {f : Addr} {fd : FuncData} {ps : List Str} {sp : Sp}
    (o : Ok P w K mg base CX j f fd ps sp) (h : j ≤ k) : Ok P w K mg base CX k f fd ps sp :=
  ⟨o.len, fun A out s H ar us vs Q E r => o.go A out s H ar us vs Q E (r.mono h)⟩
theorem Ok.imp {k : Nat} {f : Addr} {fd : FuncData} {ps : List Str} {sp sp' : Sp}
    (o : Ok P w K mg base CX k f fd ps sp) (h : ∀ vs H Q E, sp' vs H Q E → sp vs H Q E) :
    Ok P w K mg base CX k f fd ps sp' :=
  ⟨fun vs H Q E q => o.len vs H Q E (h _ _ _ _ q),
   fun A out s H ar us vs Q E r e b v q => o.go A out s H ar us vs Q E r e b v (h _ _ _ _ q)⟩

/-- a def by its body -/
theorem ok_body {k : Nat} {f : Addr} {nm qual : Str} {pr : Arguments} {body : List Stmt} {sc : Scope}
    {dV kV doc pm cdv ct oc : Value} {an od : Option Addr} {osl : Array (Option Value)} {N ps : List Str} {sp : Sp}
    (lk : K.lookup f = some ⟨oc, od, .func (PySem.W.fnOf nm qual pr body sc dV kV doc pm an cdv ct), osl⟩)
    (hcd : PySem.W.codeIn K cdv qual = true) (S : FnScope N ps sc)
    (len : ∀ vs H Q E, sp vs H Q E → vs.length = ps.length)
    (hb : ∀ (A : Around) (out : List Env) (s : Shared) (H : Hp) (vs : List V) (Q : VK) (E : XK),
      Rm k (A.deeper (envOfC qual sc s.heap.objs.size f cdv)) → sp vs H Q E →
      ∃ t, PSs (cxOf CX P w K mg base N qual sc f cdv A out s H E) body t ∧
        t { nx := fun _ H' => Q .non H', rt := Q } (start N vs) H) :
    Ok P w K mg base CX (k + 1) f (PySem.W.fnOf nm qual pr body sc dV kV doc pm an cdv ct) ps sp := by
  constructor
  · exact len
  intro A out s H ar us vs Q E hr e0 bt rl hsp
  have keep : ∀ b o, base.get? b = some o → s.heap.get? b = some o := fun b o e => (e0.bs b o e).1
  have KX : K.In s.heap := e0.mod.kin.keeps keep
  have hkind : ∀ y ∈ ps.zip us, sc.names.lookup y.1 = some .local ∨
      (sc.names.lookup y.1 = some .cell ∧ ((cellsFrom (s.heap.objs.size + 1) sc.names []).lookup y.1).isSome = true) := by
    rintro ⟨n, v⟩ hy
    cases S.par n (List.of_mem_zip hy).1 with
    | inl q => exact .inl q
    | inr q => exact .inr ⟨q, PySem.W.cellsFrom_some _ _ _ (.inl q)⟩
  apply codeAny_call_function hr.rm.depth (KX _ _ lk) rfl S.co S.gen rfl (PySem.W.codeRec_of KX hcd)
  apply bt
  apply wpAny_newFunctionEnv_cells S.kind hkind
  intro env he s1 x
  subst he
  refine ⟨(e0.mod.nolimit.keeps keep).keeps x.toInCall.keep, codeAny_func ?_⟩
  obtain ⟨t, ht, hq⟩ := hb A out s H vs Q E (hr.deeper _) hsp
  have J := inv_start (CX := CX) (E := E) (f := f) (cd := cdv) (qual := qual) S hr.rm.hd e0 (len _ _ _ _ hsp) rl x
  refine wpAny_mono (ht.run [] s1 (start N vs) H _ J hq) ?_ (fun e s' hs => hs)
  intro fl s' hs
  cases fl with
  | ret u =>
    obtain ⟨v, σ', H', J', rv, q⟩ := hs
    exact ⟨v, H', J'.os, J'.bare, J'.base, J'.hok, rv, q⟩
  | next =>
    obtain ⟨σ', H', J', q⟩ := hs
    exact ⟨V.non, H', J'.os, J'.bare, J'.base, J'.hok, rfl, q⟩
  | brk =>
    obtain ⟨_, _, _, q⟩ := hs
    exact False.elim q
  | cont =>
    obtain ⟨_, _, _, q⟩ := hs
    exact False.elim q
end

section
variable {X : Cx} {CX : CXT} {k : Nat} {f : Addr} {fd : FuncData} {ps : List Str} {sp : Sp} {dvs : List V} {ds : List Value} {E : XK}
/-- the callee runs -/
theorem run_ok {pins : List (Addr × Obj)} {σ : L2.St} {H : Hp} {s : Shared} {Q : VK} {us : List Value} {vs : List V}
    (o : Ok X.prog X.w X.K X.mg X.base CX k f fd ps sp) (hr : Rm k X.A) (hb : Binds X.K fd ps ds) (hd : Vals dvs ds)
    (hx : Passes CX X E) (I : Inv X pins σ H s) (r : Vals vs us) (h : sp (vs ++ dvs) H Q E) :
    wpAny (model X.prog X.w) X.A (call (.ref f) us) (EP X pins σ Q) X.xe s := by
  have rr := r.append hd
  have hl : (us ++ ds).length = ps.length := rr.length ▸ o.len _ _ _ _ h
  refine wpAny_call (codeAny_mono (o.go X.A X.stack s H ⟨us, []⟩ (us ++ ds) (vs ++ dvs) Q E hr I.env0 (hb s us I.kIn hl) rr h) ?_)
  intro res s' hq
  match res, hq with
  | .error e, hq => exact hx pins σ H s e s' I hq
  | .ok (.ret u), hq => exact I.after hq
  | .ok .next, hq => exact False.elim hq
  | .ok .brk, hq => exact False.elim hq
  | .ok .cont, hq => exact False.elim hq
end
end Eu
set_option Elab.async false
set_option linter.all false
set_option maxRecDepth 100000
set_option maxHeartbeats 4000000
namespace Eu
open PySem PySem.Spec PyProof.Rows L2

/-! ### defs called by their names -/
structure Cal (P : Program) (w : World) (K : PySem.W.Frag) (mg : Str → Option Value) (base : Heap)
    (k : Nat) (x : Str) (sp : Sp) (dvs : List V) : Prop where
  ex : ∃ (f : Addr) (fd : FuncData) (ps : List Str) (ds : List Value),
    Ok P w K mg base CX0 k f fd ps sp ∧ mg x = some (.ref f) ∧
    PySem.W.keepIn K (.ref f) = true ∧ Binds K fd ps ds ∧ Vals dvs ds

/-- a def of the top, as it stands behind the top's run -/
structure Df (K : PySem.W.Frag) (mg : Str → Option Value) (x : Str) (st : Stmt) : Prop where
  ex : ∃ (f : Addr) (oc : Value) (od : Option Addr) (kV doc pm : Value) (an : Option Addr) (cdv ct : Value) (osl : Array (Option Value)),
    K.lookup f = some ⟨oc, od, .func (PySem.W.fnOf x x (defArgs st) (defBody st) (defScope st) .none kV doc pm an cdv ct), osl⟩ ∧
    PySem.W.codeIn K cdv x = true ∧ PySem.W.keepIn K (.ref f) = true ∧ mg x = some (.ref f)

theorem df_mk {K : PySem.W.Frag} {h : Heap} {mg : Str → Option Value} {x : Str} {st : Stmt} (X : K.In h) (G : h.Ns mainGlobals mg)
    {f : Addr} {oc : Value} {od an : Option Addr} {osl : Array (Option Value)} {kV doc pm cdv ct : Value}
    (a : PySem.W.nsIn K mainGlobals x = some (some (.ref f)))
    (l : K.lookup f = some ⟨oc, od, .func (PySem.W.fnOf x x (defArgs st) (defBody st) (defScope st) .none kV doc pm an cdv ct), osl⟩)
    (c : PySem.W.codeIn K cdv x = true) (k : PySem.W.keepIn K (.ref f) = true) : Df K mg x st :=
  ⟨f, oc, od, kV, doc, pm, an, cdv, ct, osl, l, c, k, PySem.W.mg_of X G a⟩

section
variable {P : Program} {w : World} {K : PySem.W.Frag} {mg : Str → Option Value} {base : Heap}
theorem Df.cal {x : Str} {st : Stmt} {N ps : List Str} {k : Nat} {sp : Sp} (D : Df K mg x st) (S : FnScope N ps (defScope st))
    (hbd : ∀ (kV doc pm : Value) (an : Option Addr) (cdv ct : Value) (us : List Value), us.length = ps.length →
      bindArgs (PySem.W.fnOf x x (defArgs st) (defBody st) (defScope st) .none kV doc pm an cdv ct) ⟨us, []⟩ = pure (ps.zip us))
    (len : ∀ vs H Q E, sp vs H Q E → vs.length = ps.length)
    (hb : ∀ (f : Addr) (cdv : Value) (A : Around) (out : List Env) (s : Shared) (H : Hp) (vs : List V) (Q : VK) (E : XK),
      Rm k (A.deeper (envOfC x (defScope st) s.heap.objs.size f cdv)) → sp vs H Q E →
      ∃ t, PSs (cxOf CX0 P w K mg base N x (defScope st) f cdv A out s H E).nox (defBody st) t ∧
        t { nx := fun _ H' => Q .non H', rt := Q } (start N vs) H) : Cal P w K mg base (k + 1) x sp [] := by
  obtain ⟨f, oc, od, kV, doc, pm, an, cdv, ct, osl, l, c, kp, m⟩ := D.ex
  refine ⟨f, _, ps, [], ok_body l c S len ?_, m, kp, .all (hbd kV doc pm an cdv ct), .nil⟩
  intro A out s H vs Q E hr hs
  obtain ⟨t, h, q⟩ := hb f cdv A out s H vs Q E hr hs
  exact ⟨t, h.nox, q⟩
end

section
variable {X : Cx} {k j : Nat} {x : Str} {sp : Sp} {dvs : List V} {p pos : Pos} {e : Expr} {es : List Expr} {t : TA}
theorem pe_c (c : Cal X.prog X.w X.K X.mg X.base k x sp dvs) (hr : Rm j X.A) (hk : k ≤ j) (hg : Gl X x) (ha : PA X (e :: es) t)
    (hdb : (x == ("__debug__" : Str)) = false := by decide)
    (he : starEach (e :: es) X.env = (false, eval e X.env) :: starEach es X.env := by rfl)
    (hpl : (backTo pos (starEach es X.env)).any (·.1) = false := by rfl) :
    PE X (.Call (.Name x p) (e :: es) [] pos) (tCall sp dvs E0 t) := by
  obtain ⟨f, fd, ps, ds, o, hm, kp, b, d⟩ := c.ex
  constructor
  intro pins s σ H Q I h
  apply wpAny_Call_Name_kw
  apply ld_glob I hg hm _ hdb
  refine PySem.W.callWith_K (h₀ := X.base) I.ok.mod.kin kp (thn (ha.run pos pins s σ H _ I h) ?_) he hpl
  rintro us s1 ⟨vs, H1, I1, r, q⟩
  exact ⟨I1.kIn, run_ok o (hr.mono hk) b d pass0 I1 r q⟩
theorem pe_c0 (c : Cal X.prog X.w X.K X.mg X.base k x sp dvs) (hr : Rm j X.A) (hk : k ≤ j) (hg : Gl X x)
    (hdb : (x == ("__debug__" : Str)) = false := by decide) :
    PE X (.Call (.Name x p) [] [] pos) (tCall sp dvs E0 tNil) := by
  obtain ⟨f, fd, ps, ds, o, hm, kp, b, d⟩ := c.ex
  constructor
  intro pins s σ H Q I h
  apply wpAny_Call_Name_kw
  apply ld_glob I hg hm _ hdb
  exact PySem.W.callWith_K0 I.kIn kp (run_ok (us := []) o (hr.mono hk) b d pass0 I .nil h)
end

/-! ### repr of data -/
section
variable {X : Cx}
def rRepr (K : PySem.W.Frag) : List V → Hp → VK → Prop := fun xs H Q =>
  ∃ (x : V) (d : PyData), xs = [x] ∧ Dp K H x d ∧ d.showable = true ∧ d.depth ≤ 60 ∧ d.shown.length ≤ sizeLine ∧ Q (.str d.shown) H
mutual
theorem noDict {K : PySem.W.Frag} {H : Hp} : ∀ {d : PyData} {v : V}, Dp K H v d → d.hasDict = false
  | .none, _, _ => rfl
  | .bool _, _, _ => rfl
  | .int _, _, _ => rfl
  | .str _, _, _ => rfl
  | .list ds, _, .lst _ h => noDicts h
  | .tuple ds, _, .tup _ h => noDicts h
theorem noDicts {K : PySem.W.Frag} {H : Hp} : ∀ {ds : List PyData} {vs : List V}, DpAll K H vs ds → PyData.hasDictAll ds = false
  | [], _, _ => rfl
  | d :: ds, _, .cons h1 h2 => by
    show (d.hasDict || PyData.hasDictAll ds) = false
    rw [noDict h1, noDicts h2]
    rfl
end
theorem call_repr {j : Nat} (hr : Rm j X.A) : CallR X (.builtin "repr") (rRepr X.K) := by
  intro pins s σ H xs us Q I r h
  obtain ⟨x, d, rfl, hd, hs, hdp, hz, q⟩ := h
  obtain ⟨u, rfl, rx⟩ := vals1 r
  have hu := hr.rm.un
  cases hd with
  | non =>
    cases rx
    exact PySem.P.repr_of_none ⟨.str _, H, I.tok _, ⟨_, rfl⟩, q⟩
  | bl b =>
    cases rx
    exact PySem.P.repr_of_bool ⟨.str _, H, I.tok _, ⟨_, rfl⟩, q⟩
  | int i =>
    obtain ⟨t, rfl⟩ := rx
    exact PySem.P.repr_of_int (of_decide_eq_true hs) ⟨.str _, H, I.tok _, ⟨_, rfl⟩, q⟩
  | str y =>
    obtain ⟨t, rfl⟩ := rx
    exact PySem.P.repr_of_str ⟨.str _, H, I.tok _, ⟨_, rfl⟩, q⟩ hz
  | @lst a ys ds h1 h2 =>
    cases (show u = Value.ref a from rx)
    obtain ⟨as, rd⟩ := Dp.reads I _ _ _ (Dp.lst h1 h2) (show RelV (.ref a) (.ref a) from rfl)
    refine repr_of_reads' rd hs (PyData.noDict_hsm (noDict (Dp.lst h1 h2))) hr.gd (by omega) (fun _ _ z => z) ?_ hz
    intro h' u tk hk
    exact ⟨.str _, H, I.kept hk, ⟨_, rfl⟩, q⟩
  | @tup a ys ds h1 h2 =>
    cases (show u = Value.ref a from rx)
    obtain ⟨as, rd⟩ := Dp.reads I _ _ _ (Dp.tup h1 h2) (show RelV (.ref a) (.ref a) from rfl)
    refine repr_of_reads' rd hs (PyData.noDict_hsm (noDict (Dp.tup h1 h2))) hr.gd (by omega) (fun _ _ z => z) ?_ hz
    intro h' u tk hk
    exact ⟨.str _, H, I.kept hk, ⟨_, rfl⟩, q⟩
end
end Eu
set_option Elab.async false
set_option linter.all false
set_option maxRecDepth 100000
set_option maxHeartbeats 4000000
namespace Eu
open PySem PySem.Spec PyProof.Rows L2

/-! ### how long a repr may be -/
mutual
def cost : PyData → Nat
  | .none => 4
  | .bool _ => 5
  | .int _ => 1921
  | .str x => 10 * x.length + 2
  | .list xs => costs xs + 3
  | .tuple xs => costs xs + 3
  | .dict kvs => costKv kvs + 2
def costs : List PyData → Nat
  | [] => 0
  | x :: xs => cost x + 2 + costs xs
def costKv : List (PyData × PyData) → Nat
  | [] => 0
  | (k, v) :: r => cost k + 2 + cost v + 2 + costKv r
end
mutual
def fine : PyData → Bool
  | .none | .bool _ => true
  | .str x => x.cps.toList.all fun c => decide (c < 1114112)
  | .int i => decide (i.natAbs.log2 < 1920)
  | .list xs | .tuple xs => fines xs
  | .dict kvs => fineKv kvs
def fines : List PyData → Bool
  | [] => true
  | x :: xs => fine x && fines xs
def fineKv : List (PyData × PyData) → Bool
  | [] => true
  | (k, v) :: r => fine k && fine v && fineKv r
end
theorem listText_le (ts : List Str) : (listText ts).length ≤ piled ts + 3 := by
  unfold listText
  rw [strLen_append]
  have e2 : ((("]" : String) : Str)).length = 1 := rfl
  have e1 : ((("[" : String) : Str)).length = 1 := rfl
  cases ts with
  | nil => show (("[" : String) : Str).length + _ ≤ _; omega
  | cons t r =>
    show (textFrom 1 ((("[" : String) : Str) ++ ((if 0 > 0 then ", " else "" : String) : Str) ++ t) r).length + _ ≤ _
    rw [textFrom_length_pos _ _ _ (by decide), strLen_append, strLen_append, piled_cons]
    have e3 : (((if 0 > 0 then ", " else "" : String) : Str)).length = 0 := rfl
    omega
theorem joined_le (ts : List Str) : (Str.join ", " ts).length ≤ piled ts := by
  by_cases h : ts = []
  · subst h; decide
  · have := join_length_add ts h
    omega
theorem tupleText_le (ts : List Str) : (tupleText ts).length ≤ piled ts + 3 := by
  unfold tupleText
  rw [strLen_append, strLen_append]
  have e1 : ((("(" : String) : Str)).length = 1 := rfl
  have e3 : (((if ts.length == 1 then ",)" else ")" : String) : Str)).length ≤ 2 := by split <;> decide +kernel
  have := joined_le ts
  omega
theorem dictText_le (ts : List Str) : (dictText ts).length ≤ piled ts + 2 := by
  unfold dictText
  rw [strLen_append, strLen_append]
  have e1 : ((("{" : String) : Str)).length = 1 := rfl
  have e3 : ((("}" : String) : Str)).length = 1 := rfl
  have := joined_le ts
  omega
mutual
theorem shown_le : ∀ d : PyData, fine d = true → d.shown.length ≤ cost d
  | .none, _ => by decide +kernel
  | .bool b, _ => by cases b <;> decide +kernel
  | .int i, h => by
    have h' : i.natAbs.log2 < 1920 := of_decide_eq_true h
    have := int_text_length_le (a := i) (k := 1920) (by decide) h'
    show (Str.ofString (toString i)).length ≤ 1921
    rw [PySem.ofString_length]
    exact this
  | .str x, h => by
    refine StrLaws.reprText_len x fun c hc => ?_
    have h' : c < 1114112 := of_decide_eq_true (List.all_eq_true.mp h c hc)
    exact Nat.lt_of_lt_of_le h' (by decide)
  | .list xs, h => by
    have := listText_le (PyData.shownAll xs)
    have := shownAll_le xs h
    show (listText (PyData.shownAll xs)).length ≤ costs xs + 3
    omega
  | .tuple xs, h => by
    have := tupleText_le (PyData.shownAll xs)
    have := shownAll_le xs h
    show (tupleText (PyData.shownAll xs)).length ≤ costs xs + 3
    omega
  | .dict kvs, h => by
    have := dictText_le (PyData.shownKv kvs)
    have := shownKv_le kvs h
    show (dictText (PyData.shownKv kvs)).length ≤ costKv kvs + 2
    omega
theorem shownAll_le : ∀ xs : List PyData, fines xs = true → piled (PyData.shownAll xs) ≤ costs xs
  | [], _ => Nat.le_refl _
  | x :: xs, h => by
    have h' : (fine x && fines xs) = true := h
    rw [Bool.and_eq_true] at h'
    have a := shown_le x h'.1
    have b := shownAll_le xs h'.2
    show piled (x.shown :: PyData.shownAll xs) ≤ cost x + 2 + costs xs
    rw [piled_cons]
    omega
theorem shownKv_le : ∀ kvs : List (PyData × PyData), fineKv kvs = true → piled (PyData.shownKv kvs) ≤ costKv kvs
  | [], _ => Nat.le_refl _
  | (k, v) :: r, h => by
    have h' : (fine k && fine v && fineKv r) = true := h
    rw [Bool.and_eq_true, Bool.and_eq_true] at h'
    have a := shown_le k h'.1.1
    have b := shown_le v h'.1.2
    have c := shownKv_le r h'.2
    show piled ((k.shown ++ ": " ++ v.shown) :: PyData.shownKv r) ≤ cost k + 2 + cost v + 2 + costKv r
    have e : (((": " : String) : Str)).length = 2 := rfl
    rw [piled_cons, strLen_append, strLen_append, e]
    omega
end
mutual
theorem fine_showable : ∀ d : PyData, fine d = true → d.showable = true
  | .none, _ => rfl
  | .bool _, _ => rfl
  | .int i, h => h
  | .str _, _ => rfl
  | .list xs, h => fines_showable xs h
  | .tuple xs, h => fines_showable xs h
  | .dict kvs, h => fineKv_showable kvs h
theorem fines_showable : ∀ xs : List PyData, fines xs = true → PyData.showableAll xs = true
  | [], _ => rfl
  | x :: xs, h => by
    have h' : (fine x && fines xs) = true := h
    rw [Bool.and_eq_true] at h'
    show (x.showable && PyData.showableAll xs) = true
    rw [fine_showable x h'.1, fines_showable xs h'.2]
    rfl
theorem fineKv_showable : ∀ kvs : List (PyData × PyData), fineKv kvs = true → PyData.showableKv kvs = true
  | [], _ => rfl
  | (k, v) :: r, h => by
    have h' : (fine k && fine v && fineKv r) = true := h
    rw [Bool.and_eq_true, Bool.and_eq_true] at h'
    show (k.showable && v.showable && PyData.showableKv r) = true
    rw [fine_showable k h'.1.1, fine_showable v h'.1.2, fineKv_showable r h'.2]
    rfl
end

/-- small data -/
def Small (d : PyData) : Prop := cost d ≤ 100000 ∧ fine d = true
theorem Small.two {a b : PyData} (h : Small (.tuple [a, b])) : Small a ∧ Small b := by
  obtain ⟨h1, h2⟩ := h
  have h1' : cost a + 2 + (cost b + 2 + 0) + 3 ≤ 100000 := h1
  have h2' : (fine a && (fine b && true)) = true := h2
  rw [Bool.and_eq_true, Bool.and_eq_true] at h2'
  exact ⟨⟨by omega, h2'.1⟩, ⟨by omega, h2'.2.1⟩⟩
theorem Small.three {a b c : PyData} (h : Small (.tuple [a, b, c])) : Small a ∧ Small b ∧ Small c ∧ Small (.tuple [a, b]) := by
  obtain ⟨h1, h2⟩ := h
  have h1' : cost a + 2 + (cost b + 2 + (cost c + 2 + 0)) + 3 ≤ 100000 := h1
  have h2' : (fine a && (fine b && (fine c && true))) = true := h2
  rw [Bool.and_eq_true, Bool.and_eq_true, Bool.and_eq_true] at h2'
  refine ⟨⟨by omega, h2'.1⟩, ⟨by omega, h2'.2.1⟩, ⟨by omega, h2'.2.2.1⟩, ?_, ?_⟩
  · show cost a + 2 + (cost b + 2 + 0) + 3 ≤ 100000
    omega
  · show (fine a && (fine b && true)) = true
    rw [h2'.1, h2'.2.1]; rfl
theorem Small.len {z : Str} (h : Small (.str z)) : z.length ≤ 100000 := by
  have : 10 * z.length + 2 ≤ 100000 := h.1
  omega
/-! ### heaps that grow -/
theorem same_new {H : Hp} {p : Addr} {o : HO} (h : H p = none) : Same H (upd H p o) := fun b x e => by
  rw [upd_ne (ne_of_none e h)]
  exact e
theorem Same.tup {K : PySem.W.Frag} {H H' : Hp} {a : Addr} {xs : List V} (e : Same H H') (h : SqT K H a xs) : SqT K H' a xs := by
  rcases h with (h | ⟨o, h⟩) | h
  · exact .inl (.inl (e _ _ h))
  · exact .inl (.inr ⟨o, e _ _ h⟩)
  · exact .inr h
mutual
theorem Same.dp {K : PySem.W.Frag} {H H' : Hp} (e : Same H H') : ∀ {d : PyData} {v : V}, Dp K H v d → Dp K H' v d
  | .none, _, .non => .non
  | .bool _, _, .bl b => .bl b
  | .int _, _, .int i => .int i
  | .str _, _, .str x => .str x
  | .list ds, _, .lst h1 h2 => .lst (e.seq h1) (Same.dps e h2)
  | .tuple ds, _, .tup h1 h2 => .tup (Same.tup e h1) (Same.dps e h2)
theorem Same.dps {K : PySem.W.Frag} {H H' : Hp} (e : Same H H') : ∀ {ds : List PyData} {vs : List V}, DpAll K H vs ds → DpAll K H' vs ds
  | [], _, .nil => .nil
  | d :: ds, _, .cons h1 h2 => .cons (Same.dp e h1) (Same.dps e h2)
end
/-- without the object at b -/
def hid (H : Hp) (b : Addr) : Hp := fun c => if c = b then none else H c
theorem hid_at {H : Hp} {b : Addr} : hid H b b = none := if_pos rfl
theorem hid_ne {H : Hp} {b c : Addr} (h : c ≠ b) : hid H b c = H c := if_neg h
theorem hid_some {H : Hp} {b c : Addr} {o : HO} (h : hid H b c = some o) : c ≠ b ∧ H c = some o := by
  by_cases e : c = b
  · rw [e, hid_at] at h; cases h
  · rw [hid_ne e] at h; exact ⟨e, h⟩
theorem hid_same {H : Hp} {b : Addr} : Same (hid H b) H := fun c o h => (hid_some h).2
theorem hid_upd {H : Hp} {b : Addr} {o : HO} : hid (upd H b o) b = hid H b := by
  funext c
  by_cases e : c = b
  · rw [e, hid_at, hid_at]
  · rw [hid_ne e, hid_ne e, upd_ne e]
/-- all but b stays -/
def But (b : Addr) (H H' : Hp) : Prop := Same (hid H b) (hid H' b)
theorem But.refl {b : Addr} {H : Hp} : But b H H := Same.refl _
theorem But.trans {b : Addr} {H H1 H2 : Hp} (p : But b H H1) (q : But b H1 H2) : But b H H2 := Same.trans p q
theorem But.of_same {b : Addr} {H H' : Hp} (h : Same H H') : But b H H' := fun c o e => by
  obtain ⟨n, e'⟩ := hid_some e
  rw [hid_ne n]
  exact h c o e'
theorem But.upd {b : Addr} {H : Hp} {o : HO} : But b H (upd H b o) := by
  unfold But
  rw [hid_upd]
  exact Same.refl _
theorem But.free {b : Addr} {H H' : Hp} (h : But b H H') {l : Addr} (n : l ≠ b) (e : H' l = none) : H l = none := by
  have := Same.free h (l := l) (by rw [hid_ne n]; exact e)
  rw [hid_ne n] at this
  exact this
end Eu
set_option Elab.async false
set_option linter.all false
set_option maxRecDepth 100000
set_option maxHeartbeats 4000000
namespace Eu
open PySem PySem.Spec PyProof.Rows L2

/-- an iterator that gives the items xs one by one, as Y says, while S holds -/
structure Over {α : Type} (J : It) (xs : List α) (Y : α → Hp → V → Hp → Prop) (S : Hp → Prop) : Prop where
  go : ∀ i x H, xs[i]? = some x → S H → J.go i H
  st : ∀ H, S H → J.stop xs.length H
  yl : ∀ i x H v H', xs[i]? = some x → S H → J.yld i H v H' → Y x H v H'

theorem over_list {K : PySem.W.Frag} {a : Addr} {xs : List V} : Over (Itl K a) xs (fun x H v H' => H' = H ∧ v = x) (fun H => SqL K H a xs) where
  go := fun i x H e s => ⟨xs, x, s, e⟩
  st := fun H s => ⟨xs, s, Nat.le_refl _⟩
  yl := fun i x H v H' e s y => ⟨y.1, Option.some.inj ((y.2 xs s).symm.trans e)⟩
theorem over_tup {K : PySem.W.Frag} {a : Addr} {xs : List V} : Over (Itt K a) xs (fun x H v H' => H' = H ∧ v = x) (fun H => SqT K H a xs) where
  go := fun i x H e s => ⟨xs, x, s, e⟩
  st := fun H s => ⟨xs, s, Nat.le_refl _⟩
  yl := fun i x H v H' e s y => ⟨y.1, Option.some.inj ((y.2 xs s).symm.trans e)⟩
theorem over_str {z : Str} : Over (Its z) z.cps.toList (fun c H v H' => H' = H ∧ v = .str ⟨#[c]⟩) (fun _ => True) where
  go := fun i x H e _ => by
    have := (List.getElem?_eq_some_iff.mp e).1
    show i < z.cps.size
    simpa using this
  st := fun H _ => by
    show z.cps.size ≤ z.cps.toList.length
    simp
  yl := fun i x H v H' e _ y => by
    obtain ⟨y1, c, y2, y3⟩ := y
    refine ⟨y1, ?_⟩
    rw [← Array.getElem?_toList, e] at y2
    cases y2
    exact y3
theorem over_rev {K : PySem.W.Frag} {a : Addr} {xs : List V} : Over (Itv K a xs.length) xs.reverse (fun x H v H' => H' = H ∧ v = x) (fun H => SqL K H a xs) where
  go := fun i x H e s => by
    have hi := (List.getElem?_eq_some_iff.mp e).1
    rw [List.length_reverse] at hi
    rw [List.getElem?_reverse hi] at e
    exact ⟨hi, xs, x, s, e⟩
  st := fun H s => by
    show xs.length ≤ xs.reverse.length
    rw [List.length_reverse]
    exact Nat.le_refl _
  yl := fun i x H v H' e s y => by
    have hi := (List.getElem?_eq_some_iff.mp e).1
    rw [List.length_reverse] at hi
    rw [List.getElem?_reverse hi] at e
    exact ⟨y.1, Option.some.inj ((y.2 xs s).symm.trans e)⟩
/-- lo, lo + 1, .. -/
def nums (lo : Int) (n : Nat) : List Int := (List.range n).map fun i : Nat => lo + (i : Int)
theorem nums_len (lo : Int) (n : Nat) : (nums lo n).length = n := by unfold nums; rw [List.length_map, List.length_range]
theorem nums_at {lo : Int} {n i : Nat} {x : Int} (h : (nums lo n)[i]? = some x) : i < n ∧ x = lo + (i : Int) := by
  have hi := (List.getElem?_eq_some_iff.mp h).1
  rw [nums_len] at hi
  refine ⟨hi, ?_⟩
  unfold nums at h
  rw [List.getElem?_map, List.getElem?_range hi] at h
  exact (Option.some.inj h).symm
theorem over_range {lo : Int} {n : Nat} : Over (Itr lo n) (nums lo n) (fun x H v H' => H' = H ∧ v = .int x) (fun _ => True) where
  go := fun i x H e _ => (nums_at e).1
  st := fun H _ => by
    show n ≤ (nums lo n).length
    rw [nums_len]
    exact Nat.le_refl _
  yl := fun i x H v H' e _ y => ⟨y.1, by rw [y.2, (nums_at e).2]⟩
/-- d.items() -/
theorem over_items {d : Addr} {o : Obj} {kvs : List (Key × V)} : Over (Iti d o kvs) kvs (fun p H v H' => ∃ T, v = .ref T ∧ H T = none ∧ H' = upd H T (.tup [kV p.1, p.2])) (fun H => H d = some (.frz o (.dK kvs))) where
  go := fun i x H e s => ⟨s, (List.getElem?_eq_some_iff.mp e).1⟩
  st := fun H s => ⟨s, Nat.le_refl _⟩
  yl := fun i x H v H' e s y => by
    obtain ⟨T, k, u, y1, y2, y3, y4⟩ := y
    rw [e] at y1
    cases y1
    exact ⟨T, y2, y3, y4⟩
theorem over_keys {d : Addr} {o : Obj} {kvs : List (Key × V)} : Over (Itk d o kvs) kvs (fun p H v H' => H' = H ∧ v = kV p.1) (fun H => H d = some (.frz o (.dK kvs))) where
  go := fun i x H e s => ⟨s, (List.getElem?_eq_some_iff.mp e).1⟩
  st := fun H s => ⟨s, Nat.le_refl _⟩
  yl := fun i x H v H' e s y => by
    obtain ⟨y0, k, u, y1, y2⟩ := y
    rw [e] at y1
    cases y1
    exact ⟨y0, y2⟩
/-- enumerate(list) -/
theorem over_enum {K : PySem.W.Frag} {a : Addr} {xs : List V} : Over (Ite K a) xs.zipIdx (fun p H v H' => ∃ T, v = .ref T ∧ H T = none ∧ H' = upd H T (.tup [.int (p.2 : Nat), p.1])) (fun H => SqL K H a xs) where
  go := fun i x H e s => by
    rw [List.getElem?_zipIdx] at e
    cases h : xs[i]? with
    | none => rw [h] at e; cases e
    | some y => exact ⟨xs, y, s, h⟩
  st := fun H s => ⟨xs, s, by rw [List.length_zipIdx]; exact Nat.le_refl _⟩
  yl := fun i x H v H' e s y => by
    obtain ⟨T, u, y1, y2, y3, y4⟩ := y
    have := y4 xs s
    rw [List.getElem?_zipIdx, this] at e
    cases e
    refine ⟨T, y1, y2, ?_⟩
    rw [y3]
    simp
/-- zip of two lists -/
theorem over_zip {K : PySem.W.Frag} {a b : Addr} {xs ys : List V} : Over (Itz K a b) (xs.zip ys) (fun p H v H' => ∃ T, v = .ref T ∧ H T = none ∧ H' = upd H T (.tup [p.1, p.2])) (fun H => SqL K H a xs ∧ SqL K H b ys) where
  go := fun i p H e s => by
    obtain ⟨h1, h2⟩ := List.getElem?_zip_eq_some.mp e
    exact ⟨xs, ys, p.1, p.2, s.1, s.2, h1, h2⟩
  st := fun H s => ⟨xs, ys, s.1, s.2, by rw [List.length_zip]; omega⟩
  yl := fun i p H v H' e s y => by
    obtain ⟨T, u, u', y1, y2, y3, y4, y5⟩ := y
    obtain ⟨h1, h2⟩ := List.getElem?_zip_eq_some.mp e
    have e1 := Option.some.inj ((y4 xs s.1).symm.trans h1)
    have e2 := Option.some.inj ((y5 ys s.2).symm.trans h2)
    subst e1 e2
    exact ⟨T, y1, y2, y3⟩

theorem sign_lt (c d : Nat) : decide (([c] : List Nat) < [d]) = decide (c < d) := by
  refine decide_eq_decide.mpr ⟨fun h => ?_, fun h => List.Lex.rel h⟩
  cases h with
  | rel h => exact h
  | cons h => cases h
/-- a comprehension without a test -/
theorem lc_yes {σ : L2.St} {H : Hp} {A B : Hp → Prop} (h : A H) : tYes σ H (fun b H3 => if b = true then A H3 else B H3) := by
  show if true = true then A H else B H
  rw [if_pos rfl]
  exact h
section
variable {α : Type} {J : It} {xs : List α} {Y : α → Hp → V → Hp → Prop} {S : Hp → Prop} {g : TG}
/-- a for loop by an invariant -/
theorem for_over {tb : TS} {D : Ends} {σ : L2.St} {H : Hp} (o : Over J xs Y S) (Pv : Nat → L2.St → Hp → Prop) (h0 : Pv 0 σ H)
    (hS : ∀ i σ H, i ≤ xs.length → Pv i σ H → S H)
    (hs : ∀ i x σ H v H', xs[i]? = some x → Pv i σ H → Y x H v H' → g v σ H' fun σ2 H2 => tb { D with nx := Pv (i + 1), ct := Pv (i + 1), bk := D.nx } σ2 H2)
    (hd : ∀ σ H, Pv xs.length σ H → D.nx σ H) :
    ∃ W : Nat → Nat → L2.St → Hp → Prop, (∃ m, W 0 m σ H) ∧ ∀ i m σ H, W i m σ H → (J.stop i H ∧ D.nx σ H) ∨ (J.go i H ∧
      ∃ N : L2.St → Hp → Prop, (∀ σ' H', N σ' H' → ∃ m', m' < m ∧ W (i + 1) m' σ' H') ∧
        ∀ x H', J.yld i H x H' → g x σ H' fun σ2 H2 => tb { D with nx := N, ct := N, bk := D.nx } σ2 H2) := by
  refine ⟨fun i m σ H => m = xs.length - i ∧ i ≤ xs.length ∧ Pv i σ H, ⟨xs.length, rfl, Nat.zero_le _, h0⟩, ?_⟩
  rintro i m σ H ⟨rfl, hi, p⟩
  have s := hS i σ H hi p
  by_cases hl : i < xs.length
  · have e : xs[i]? = some xs[i] := List.getElem?_eq_getElem hl
    refine .inr ⟨o.go i _ H e s, Pv (i + 1), fun σ' H' p' => ⟨xs.length - (i + 1), by omega, rfl, hl, p'⟩, fun v H' y => ?_⟩
    exact hs i _ σ H v H' e p (o.yl i _ H v H' e s y)
  · have e : i = xs.length := by omega
    subst e
    exact .inl ⟨o.st H s, hd σ H p⟩
/-- a comprehension by an invariant -/
theorem lc_over {tt : TT} {te : TE} {vs : List Nat} {σ : L2.St} {H1 : Hp} {D : Addr} {Qd : Hp → Prop} (o : Over J xs Y S) (Pv : Nat → Hp → Prop)
    (h0 : Pv 0 (upd H1 D (.lst []))) (hS : ∀ i H, i ≤ xs.length → Pv i H → S H)
    (hs : ∀ i x H v H', xs[i]? = some x → Pv i H → Y x H v H' → g v (wipe σ vs) H' fun σ2 H2 => wipe σ2 vs = wipe σ vs ∧ tt σ2 H2 fun b H3 =>
      if b = true then te σ2 H3 fun y H4 => ∃ acc, H4 D = some (.lst acc) ∧ acc.length < sizeLine ∧ Pv (i + 1) (upd H4 D (.lst (acc ++ [y]))) else Pv (i + 1) H3)
    (hd : ∀ H, Pv xs.length H → Qd H) :
    ∃ W : Nat → Nat → Hp → Prop, (∃ m, W 0 m (upd H1 D (.lst []))) ∧ ∀ i m H, W i m H → (J.stop i H ∧ Qd H) ∨ (J.go i H ∧
      ∃ Nx : Hp → Prop, (∀ H', Nx H' → ∃ m', m' < m ∧ W (i + 1) m' H') ∧ ∀ x H', J.yld i H x H' → g x (wipe σ vs) H' fun σ2 H2 => wipe σ2 vs = wipe σ vs ∧ tt σ2 H2 fun b H3 =>
        if b = true then te σ2 H3 fun y H4 => ∃ acc, H4 D = some (.lst acc) ∧ acc.length < sizeLine ∧ Nx (upd H4 D (.lst (acc ++ [y]))) else Nx H3) := by
  refine ⟨fun i m H => m = xs.length - i ∧ i ≤ xs.length ∧ Pv i H, ⟨xs.length, rfl, Nat.zero_le _, h0⟩, ?_⟩
  rintro i m H ⟨rfl, hi, p⟩
  have s := hS i H hi p
  by_cases hl : i < xs.length
  · have e : xs[i]? = some xs[i] := List.getElem?_eq_getElem hl
    refine .inr ⟨o.go i _ H e s, Pv (i + 1), fun H' p' => ⟨xs.length - (i + 1), by omega, rfl, hl, p'⟩, fun v H' y => ?_⟩
    exact hs i _ H v H' e p (o.yl i _ H v H' e s y)
  · have e : i = xs.length := by omega
    subst e
    exact .inl ⟨o.st H s, hd H p⟩
theorem take_map_succ {β : Type} {f : α → Option β} {i : Nat} {x : α} (e : xs[i]? = some x) :
    (xs.take (i + 1)).filterMap f = (xs.take i).filterMap f ++ (f x).toList := by
  rw [List.take_add_one, e, List.filterMap_append]
  cases h : f x <;> simp [h]
/-- a comprehension whose element (and test) changes nothing that stood: the i-th item gives f x -/
theorem lc_pure {tt : TT} {te : TE} {vs : List Nat} {σ : L2.St} {H1 : Hp} {D : Addr} {Qd : Hp → Prop} (o : Over J xs Y S) (f : α → Option V)
    (nD : H1 D = none) (hn : xs.length ≤ sizeLine) (hS : ∀ H, Same H1 H → S H)
    (hs : ∀ x ∈ xs, ∀ H v H' (Nx : Option V → Hp → Prop), Same H1 H → Y x H v H' → (∀ H'', Same H H'' → Nx (f x) H'') →
      g v (wipe σ vs) H' fun σ2 H2 => wipe σ2 vs = wipe σ vs ∧ tt σ2 H2 fun b H3 => if b = true then te σ2 H3 fun y H4 => Nx (some y) H4 else Nx none H3)
    (hd : ∀ H, Same H1 H → H D = some (.lst (xs.filterMap f)) → Qd H) :
    ∃ W : Nat → Nat → Hp → Prop, (∃ m, W 0 m (upd H1 D (.lst []))) ∧ ∀ i m H, W i m H → (J.stop i H ∧ Qd H) ∨ (J.go i H ∧
      ∃ Nx : Hp → Prop, (∀ H', Nx H' → ∃ m', m' < m ∧ W (i + 1) m' H') ∧ ∀ x H', J.yld i H x H' → g x (wipe σ vs) H' fun σ2 H2 => wipe σ2 vs = wipe σ vs ∧ tt σ2 H2 fun b H3 =>
        if b = true then te σ2 H3 fun y H4 => ∃ acc, H4 D = some (.lst acc) ∧ acc.length < sizeLine ∧ Nx (upd H4 D (.lst (acc ++ [y]))) else Nx H3) := by
  refine lc_over o (fun i H => Same H1 H ∧ H D = some (.lst ((xs.take i).filterMap f))) ⟨same_new nD, upd_same⟩ (fun i H _ p => hS H p.1) ?_ ?_
  · rintro i x H v H' e ⟨s, hD⟩ y
    have hi := (List.getElem?_eq_some_iff.mp e).1
    refine hs x (List.mem_of_getElem? e) H v H' (fun oy H4 => match oy with
      | some y => ∃ acc, H4 D = some (.lst acc) ∧ acc.length < sizeLine ∧ (Same H1 (upd H4 D (.lst (acc ++ [y]))) ∧ (upd H4 D (.lst (acc ++ [y]))) D = some (.lst ((xs.take (i + 1)).filterMap f)))
      | none => Same H1 H4 ∧ H4 D = some (.lst ((xs.take (i + 1)).filterMap f))) s y ?_
    intro H4 s4
    cases hf : f x with
    | none =>
      refine ⟨s.trans s4, ?_⟩
      rw [s4 _ _ hD, take_map_succ e, hf]
      simp
    | some y =>
      refine ⟨_, s4 _ _ hD, ?_, fun b u z => ?_, ?_⟩
      · have := List.length_filterMap_le f (xs.take i)
        rw [List.length_take] at this
        omega
      · rw [upd_ne (ne_of_none z nD)]
        exact s4 _ _ (s _ _ z)
      · rw [upd_same, take_map_succ e, hf]
        rfl
  · rintro H ⟨s, hD⟩
    rw [List.take_length] at hD
    exact hd H s hD
end
end Eu
set_option Elab.async false
set_option linter.all false
set_option maxRecDepth 100000
set_option maxHeartbeats 4000000
namespace Eu
open PySem PySem.Spec PyProof.Rows L2
/-- a text n times -/
def repS (z : Str) (n : Nat) : Str := ⟨(List.replicate n z.cps.toList).flatten.toArray⟩
theorem repS_len (z : Str) (n : Nat) : (repS z n).length = n * z.length := by
  show (List.replicate n z.cps.toList).flatten.toArray.size = n * z.cps.size
  rw [List.size_toArray]
  simp [List.length_flatten]
theorem repS_fold (z : Str) (n : Nat) : (⟨(List.replicate n z.cps).foldl (· ++ ·) #[]⟩ : Str) = repS z n := by
  have gen : ∀ (n : Nat) (acc : Array Nat), ((List.replicate n z.cps).foldl (· ++ ·) acc).toList = acc.toList ++ (List.replicate n z.cps.toList).flatten := by
    intro n
    induction n with
    | zero => intro acc; simp
    | succ n ih =>
      intro acc
      rw [List.replicate_succ, List.foldl_cons, ih, List.replicate_succ, List.flatten_cons, Array.toList_append, List.append_assoc]
  have e := gen n #[]
  unfold repS
  congr 1
  apply Array.ext'
  rw [e]
  simp
section
variable {X : Cx}
def rRepS : R2 := fun x y H Q => ∃ (z : Str) (k : Int), x = .str z ∧ y = .int k ∧ 0 ≤ k ∧ k ≤ 10000 ∧ z.length ≤ 1000 ∧ Q (.str (repS z k.toNat)) H
theorem op_rep_str : OpR X (binaryOp .Mult) rRepS := by
  intro pins s σ H x y v u Q I rx ry h
  obtain ⟨z, k, rfl, rfl, k0, k1, hz, q⟩ := h
  obtain ⟨t, rfl⟩ := rx
  obtain ⟨t', rfl⟩ := ry
  have hl := sizeLine_eq
  have fin : ∀ m : Str, m = repS z k.toNat → EP X pins σ Q (.str m s.toks) { s with toks := s.toks + 1 } := fun m e => by
    rw [e]
    exact ⟨.str _, H, I.tok _, ⟨_, rfl⟩, q⟩
  have hm : z.length * k.toNat ≤ 10000000 := by
    have : k.toNat ≤ 10000 := by omega
    calc z.length * k.toNat ≤ 1000 * 10000 := Nat.mul_le_mul hz this
      _ = 10000000 := by decide
  refine PySem.P.mul_str (by rw [decide_eq_false (by omega), decide_eq_false (by omega)]; rfl) ?_ ?_ ?_
  · intro h1 h2
    have : (1000 : Int) ≤ (2 ^ 63 - 1) / k := by
      apply Int.le_ediv_of_mul_le (by omega)
      omega
    omega
  · intro h1 h2
    unfold Builtin.Str.tooLong
    exact decide_eq_false (by omega)
  · split
    · rename_i h1
      have e : k = 0 := by omega
      subst e
      exact ⟨by decide, fin _ rfl⟩
    · split
      · rename_i h1 h2
        refine ⟨.str z, H, I, ⟨_, rfl⟩, ?_⟩
        have e : repS z k.toNat = z := by
          rw [Bool.or_eq_true, beq_iff_eq, beq_iff_eq] at h2
          rcases h2 with e | e
          · subst e
            show (⟨(List.replicate 1 z.cps.toList).flatten.toArray⟩ : Str) = z
            simp
          · have ez : z.cps = #[] := Array.eq_empty_of_size_eq_zero e
            unfold repS
            obtain ⟨zc⟩ := z
            have ez' : zc = #[] := ez
            subst ez'
            simp
        rw [e] at q
        exact q
      · refine ⟨?_, fin _ (repS_fold z _)⟩
        rw [repS_fold, repS_len, Nat.mul_comm]
        omega
end
end Eu
set_option Elab.async false
set_option linter.all false
set_option maxRecDepth 100000
set_option maxHeartbeats 4000000
namespace Eu
open PySem PySem.Spec PyProof.Rows L2

/-! ### the law's own call -/
section
variable {P : Program} {w : World} {K : PySem.W.Frag} {mg mb : Str → Option Value} {k : Nat} {fa a : Addr} {fd : FuncData} {x : Str}
  {sp : Sp} {s1 : Shared} {vs : List Value} {ns : List Int}
/-- what the caller wants -/
abbrev Wish (s1 : Shared) : Result → Shared → Prop := fun r s' =>
  r = .ok (.ret (.bool true)) ∧ OldK s1.heap s'.heap ∧ s'.os = s1.os ∧ AllBare s'.gens

theorem call_core (KX : K.In s1.heap) (hns : s1.heap.Ns mainGlobals mg) (hb : s1.heap.Ns builtinsNs mb)
    (hbb : ∀ x : Str, x ≠ "__name__" → mb x = bootBuiltins x) (hlim : s1.heap.NoLimit) (hg : s1.gens = #[])
    (ha : s1.heap.get? a = some { cls := .type "list", data := .seq vs.toArray }) (hr : Rm k callerA)
    (F : ∀ base : Heap, K.In base → base.Ns mainGlobals mg → Ok P w K mg base CX0 k fa fd [x] sp)
    (hbind : ∀ (s : Shared) (u : Value), BindsTo s fd ⟨[u], []⟩ [(x, u)])
    (H : Hp) (hO : Only H) (hok : HOk P w H s1.heap) (hA : ∀ b, H b ≠ none → b = a) (hK : H a ≠ none → K.lookup a = none)
    (hsp : sp [.ref a] H (fun v _ => v = .bl true) fun _ _ _ => False) :
    codeAny (model P w) callerA (.call (.ref fa) ⟨[.ref a], []⟩) (Wish s1) s1 := by
  have only_a : ∀ {b : Addr} {u : HO}, H b = some u → b = a := fun {b u} e => hA b (by rw [e]; exact fun z => nomatch z)
  have dict_free : ∀ {b : Addr} {o : Obj} {es : Array DictEntry} {ep : Nat}, s1.heap.get? b = some o → o.data = .dict es ep → H b = none := by
    intro b o es ep e d
    cases q : H b with
    | none => rfl
    | some u =>
      have e' := only_a q
      subst e'
      rw [ha] at e
      cases e
      have : Data.seq vs.toArray _ = Data.dict es ep := d
      cases this
  have ns_keep : ∀ {b : Addr} {m : Str → Option Value}, s1.heap.Ns b m → (hidT s1.heap H).Ns b m := by
    rintro b m ⟨o, es, ep, e, d, r⟩
    exact ⟨o, es, ep, hidT_get e (dict_free e d), d, r⟩
  have kb : K.In (hidT s1.heap H) := by
    intro b o e
    refine hidT_get (KX b o e) ?_
    cases q : H b with
    | none => rfl
    | some u =>
      have e' := only_a q
      subst e'
      have := hK (by rw [q]; exact fun z => nomatch z)
      rw [this] at e
      cases e
  have lim : (hidT s1.heap H).NoLimit := by
    obtain ⟨mc, h1, h2⟩ := hlim
    exact ⟨mc, ns_keep h1, h2⟩
  have md : Mod K mg (hidT s1.heap H) := ⟨kb, ns_keep hns, ⟨mb, ns_keep hb, hbb⟩, lim⟩
  have e0 : Env0 P w K mg (hidT s1.heap H) callerA [] s1 H := by
    refine ⟨rfl, md, fun b o e => of_hidT e, Nat.le_of_eq (hidT_size _ _), trivial, ?_, hok, .of_eq hg⟩
    intro b hb
    cases hb
  have run := (F _ kb (ns_keep hns)).go callerA [] s1 H ⟨[.ref a], []⟩ [.ref a] [.ref a] _ _ hr e0 (hbind s1 (.ref a)) (.cons rfl .nil) hsp
  refine codeAny_mono run ?_
  intro r s' h
  match r, h with
  | .error e, h => exact False.elim h
  | .ok .next, h => exact False.elim h
  | .ok .brk, h => exact False.elim h
  | .ok .cont, h => exact False.elim h
  | .ok (.ret u), h =>
    obtain ⟨v, H', os, bare, un, hok', r', q⟩ := h
    have q' : v = .bl true := q
    subst q'
    have r2 : u = Value.bool true := r'
    subst r2
    refine ⟨rfl, OldK.of_keep ?_, os, bare⟩
    intro b o e
    cases q : H b with
    | none => exact un.keep b o e q (fun z => by cases z) (fun z => by cases z)
    | some u =>
      cases hO b with
      | inl z => rw [q] at z; cases z
      | inr z =>
        obtain ⟨ob, xs, z⟩ := z
        have z2 := un.frzs b ob _ z
        have e1 := (hok b _ z).1
        rw [e] at e1
        cases e1
        exact (hok' b _ z2).1

theorem call_law (KX : K.In s1.heap) (hns : s1.heap.Ns mainGlobals mg) (hb : s1.heap.Ns builtinsNs mb)
    (hbb : ∀ x : Str, x ≠ "__name__" → mb x = bootBuiltins x) (hlim : s1.heap.NoLimit) (hg : s1.gens = #[])
    (ha : s1.heap.get? a = some { cls := .type "list", data := .seq vs.toArray }) (hi : IntsAre vs ns) (hl : ns.length ≤ sizeLine) (hr : Rm k callerA)
    (F : ∀ base : Heap, K.In base → base.Ns mainGlobals mg → Ok P w K mg base CX0 k fa fd [x] sp)
    (hbind : ∀ (s : Shared) (u : Value), BindsTo s fd ⟨[u], []⟩ [(x, u)])
    (hsp : ∀ H : Hp, SqL K H a (ns.map V.int) → sp [.ref a] H (fun v _ => v = .bl true) fun _ _ _ => False) :
    codeAny (model P w) callerA (.call (.ref fa) ⟨[.ref a], []⟩) (Wish s1) s1 := by
  have rv := vals_ints hi
  have lenV := hi.length
  cases hk : K.lookup a with
  | some o =>
    have e := KX a o hk
    rw [ha] at e
    cases e
    refine call_core KX hns hb hbb hlim hg ha hr F hbind (fun _ => none) (fun _ => .inl rfl) ?_ (fun b z => absurd rfl z) (fun z => absurd rfl z) (hsp _ ?_)
    · intro b u z
      cases z
    · refine .inr ⟨_, vs.toArray, _, hk, rfl, rfl, rfl, ?_, ?_⟩
      · rw [List.size_toArray, lenV]; exact hl
      · rw [show vs.toArray.toList = vs from rfl]; exact rv
  | none =>
    let o : Obj := { cls := .type "list", data := .seq vs.toArray }
    let H : Hp := fun b => if b = a then some (.frz o (.lst (ns.map V.int))) else none
    have Ha : H a = some (.frz o (.lst (ns.map V.int))) := if_pos rfl
    have Hn : ∀ {b}, b ≠ a → H b = none := fun hb => if_neg hb
    refine call_core KX hns hb hbb hlim hg ha hr F hbind H ?_ ?_ ?_ (fun _ => hk) (hsp _ (.inl (.inr ⟨o, Ha⟩)))
    · intro b
      by_cases e : b = a
      · subst e; exact .inr ⟨_, _, Ha⟩
      · exact .inl (Hn e)
    · intro b u z
      by_cases e : b = a
      · subst e
        rw [Ha] at z
        cases z
        refine ⟨ha, ?_, vs, _, rv, ha⟩
        rw [List.length_map]; exact hl
      · rw [Hn e] at z
        cases z
    · intro b z
      by_cases e : b = a
      · exact e
      · exact absurd (Hn e) z
end
/-- a law's promise: any script of at most 63 ints, True comes out -/
def spLaw (K : PySem.W.Frag) : Sp := fun vs H Q _ => ∃ (a : Addr) (ns : List Int), vs = [.ref a] ∧ SqL K H a (ns.map V.int) ∧ ns.length ≤ 63 ∧ ∀ H', Q (.bl true) H'
theorem walk_ok {l : PySem.W.OpenLaw} {k : Nat} {q : Program} {loose : List Str} {XP : (Str → Option Value) → Heap → Prop} {YP : World → Heap → Prop}
    {d : DefRec} {K : Params → PySem.W.Frag} {x : Str} (hn : l.most = some 63) (hdf : d.params.defaults = []) (hr : Rm k callerA)
    (hY : ∀ (w : World) (h : Heap), YP w h → (K w.params).In h)
    (F : ∀ (w : World) (mg : Str → Option Value) (fa : Addr) (h : Heap), (K w.params).In h → h.Ns mainGlobals mg → mg d.name = some (.ref fa) →
      ∃ fd : FuncData, (∀ (s : Shared) (u : Value), BindsTo s fd ⟨[u], []⟩ [(x, u)]) ∧
        ∀ base : Heap, (K w.params).In base → base.Ns mainGlobals mg → Ok l.prog w (K w.params) mg base CX0 k fa fd [x] (spLaw (K w.params))) :
    PySem.W.WalkO q loose XP YP l.row.toRowW d [] (fun f vs => PySem.call f vs) := by
  refine Att.attach_call hn hdf ?_
  intro w s0 s1 mg mb fa o pm cd doc a vs ns G Y ho hd hcd hmg hobj hints hlen hg
  have KX := hY w _ Y
  obtain ⟨fd, hb, hF⟩ := F w mg fa _ KX G.T.g hmg
  exact call_law KX G.T.g G.T.b G.T.builtins G.T.nolimit hg hobj hints (Nat.le_trans hlen (by decide)) hr hF hb fun H hS => ⟨a, ns, rfl, hS, hlen, fun _ => rfl⟩
/-- from a def's place to what walk_ok wants -/
theorem law_fn {P : Program} {w : World} {K : PySem.W.Frag} {mg : Str → Option Value} {k : Nat} {x : Str} {st : Stmt} {N : List Str} {sp : Sp} {nm : Str} {fa : Addr}
    (D : Df K mg nm st) (hfa : mg nm = some (.ref fa)) (S : FnScope N [x] (defScope st))
    (hbd : ∀ (kV doc pm : Value) (an : Option Addr) (cdv ct : Value) (us : List Value), us.length = 1 →
      bindArgs (PySem.W.fnOf nm nm (defArgs st) (defBody st) (defScope st) .none kV doc pm an cdv ct) ⟨us, []⟩ = pure ([x].zip us))
    (len : ∀ vs H Q E, sp vs H Q E → vs.length = 1)
    (hb : ∀ (base : Heap), K.In base → base.Ns mainGlobals mg → ∀ (f : Addr) (cdv : Value) (A : Around) (out : List Env) (s : Shared) (H : Hp) (vs : List V) (Q : VK) (E : XK),
      Rm k (A.deeper (envOfC nm (defScope st) s.heap.objs.size f cdv)) → sp vs H Q E →
      ∃ t, PSs (cxOf CX0 P w K mg base N nm (defScope st) f cdv A out s H E).nox (defBody st) t ∧
        t { nx := fun _ H' => Q .non H', rt := Q } (start N vs) H) :
    ∃ fd : FuncData, (∀ (s : Shared) (u : Value), BindsTo s fd ⟨[u], []⟩ [(x, u)]) ∧
      ∀ base : Heap, K.In base → base.Ns mainGlobals mg → Ok P w K mg base CX0 (k + 1) fa fd [x] sp := by
  obtain ⟨f, oc, od, kV, doc, pm, an, cdv, ct, osl, l, c, kp, m⟩ := D.ex
  have e := hfa.symm.trans m
  cases e
  refine ⟨_, fun s u => .of_eq (hbd kV doc pm an cdv ct [u] rfl), fun base h1 h2 => ok_body l c S len ?_⟩
  intro A out s H vs Q E hr hs
  obtain ⟨t, h, q⟩ := hb base h1 h2 fa cdv A out s H vs Q E hr hs
  exact ⟨t, h.nox, q⟩

/-! ### repr of a dict with one entry -/
section
variable {X : Cx}
def rReprD : List V → Hp → VK → Prop := fun xs H Q =>
  ∃ (a : Addr) (i : Int) (z : Str), xs = [.ref a] ∧ H a = some (.dK [(Sum.inl i, .str z)]) ∧ fine (.dict [(.int i, .str z)]) = true ∧ z.length ≤ 100000 ∧ Q (.str (PyData.dict [(.int i, .str z)]).shown) H
theorem call_reprD {j : Nat} (hr : Rm j X.A) : CallR X (.builtin "repr") rReprD := by
  intro pins s σ H xs us Q I r h
  obtain ⟨a, i, z, rfl, ha, hf, hz, q⟩ := h
  obtain ⟨u, rfl, rx⟩ := vals1 r
  have hu := hr.rm.un
  cases (show u = Value.ref a from rx)
  obtain ⟨_, hsys, vs, kv, dof⟩ := (show ObjOk X.prog X.w H s.heap a (.dK [(Sum.inl i, .str z)]) from I.hok a _ ha)
  cases kv with
  | @cons p q1 ps qs h1 h2 =>
    cases h2
    obtain ⟨k0, v0⟩ := q1
    obtain ⟨e1, t, e2⟩ := h1
    simp only at e1 e2
    subst e1 e2
    obtain ⟨es, ep, ⟨o, ho, hc, hd⟩, hsz, hat⟩ := PySem.Heap.DictOf.raw dof
    have h0 : 0 < es.size := by rw [hsz]; exact Nat.one_pos
    obtain ⟨hk, hv⟩ := hat 0 h0 _ _ rfl
    have hkey : ∃ t', es[0].key = Value.int i t' := by
      rcases keyIs_shape (show keyIs (Sum.inl i) es[0].key = true from hk) with ⟨i', t', e, e'⟩ | ⟨x, t', e, e'⟩
      · cases e; exact ⟨t', e'⟩
      · cases e
    obtain ⟨t', hkey⟩ := hkey
    have el : es.toList = [es[0]] := by
      apply List.ext_getElem
      · simpa using hsz
      · intro n h1 h2
        have : n = 0 := by simpa using h2
        subst this
        simp
    have rd : Reads s.heap (.ref a) (.dict [(.int i, .str z)]) (a :: [] ++ []) := by
      refine Reads.dict ho hc.1 hd ?_ ?_
      · rw [el]
        show ReadsAll s.heap [es[0].key] [.int i] ([] ++ [])
        rw [hkey]
        exact .cons (.int _ _) .nil
      · rw [el]
        show ReadsAll s.heap [es[0].val] [.str z] ([] ++ [])
        rw [hv]
        exact .cons (.str _ _) .nil
    have hsm : sysModules ∉ a :: [] ++ [] := by
      intro hm
      have : sysModules = a := by simpa using hm
      rw [this] at hsys
      simp at hsys
    have hlen : (PyData.dict [(.int i, .str z)]).shown.length ≤ sizeLine := by
      have := shown_le _ hf
      have e : cost (.dict [(.int i, .str z)]) = 1921 + 2 + (10 * z.length + 2) + 2 + 0 + 2 := rfl
      rw [sizeLine_eq]
      omega
    refine repr_of_reads' rd (fine_showable _ hf) (fun _ => hsm) hr.gd ?_ (fun _ _ z => z) ?_ hlen
    · show X.A.units + (max (max 0 0) 0 + 1 + 1) < cLine
      omega
    · intro h' u tk hk
      exact ⟨.str _, H, I.kept hk, ⟨_, rfl⟩, q⟩
end
/-! ### items of lists of data -/
theorem dpAll_at {K : PySem.W.Frag} {H : Hp} : ∀ {xs : List V} {ds : List PyData}, DpAll K H xs ds → ∀ {n : Nat}, n < ds.length → ∃ x d, xs[n]? = some x ∧ d ∈ ds ∧ Dp K H x d
  | _, _, .nil, n, h => absurd h (Nat.not_lt_zero _)
  | _, _, .cons h1 _, 0, _ => ⟨_, _, rfl, List.mem_cons_self, h1⟩
  | _, _, .cons _ h2, n + 1, h => by
    obtain ⟨x, d, e, m, p⟩ := dpAll_at h2 (n := n) (by simpa using h)
    exact ⟨x, d, by simpa using e, List.mem_cons_of_mem _ m, p⟩
theorem dp_item {K : PySem.W.Frag} {H : Hp} {xs : List V} {ds : List PyData} (h : DpAll K H xs ds) {i : Int} (h0 : 0 ≤ i) (h1 : i < (ds.length : Int)) :
    ∃ x d, atI xs i = some x ∧ d ∈ ds ∧ Dp K H x d := by
  obtain ⟨x, d, e, m, p⟩ := dpAll_at h (n := i.toNat) (by omega)
  exact ⟨x, d, at_of (j := i.toNat) (by omega) e, m, p⟩
end Eu
set_option Elab.async false
set_option linter.all false
set_option maxRecDepth 100000
set_option maxHeartbeats 4000000
namespace Eu
open PySem PySem.Spec PyProof.Rows L2

/-! ### methods, and objects made -/
theorem Rm.make {k : Nat} {A : Around} (r : Rm (k + 1) A) (C : Addr) (us : List Value) (kw : List (Str × Value)) : Rm k (A.under (.builtin "type.__call__" ⟨.ref C :: us, kw⟩)) := by
  refine ⟨r.rm.make C us kw, ?_⟩
  have e : (Code.builtin "type.__call__" ⟨.ref C :: us, kw⟩).guards = [] := by
    first | rfl | simp [Code.guards, Code.isGuard, guardIds]
  show pushGuards (Code.builtin "type.__call__" ⟨.ref C :: us, kw⟩).guards A.guards = some []
  rw [e, r.gd]
  rfl

structure Met (P : Program) (w : World) (K : PySem.W.Frag) (mg : Str → Option Value) (base : Heap) (k : Nat) (C : Addr) (m : Str) (sp : Sp) (dvs : List V) : Prop where
  ex : ∃ (f : Addr) (fd : FuncData) (ps : List Str) (ds : List Value), Cls K C ∧ Meth K C m f ∧ Ok P w K mg base CX0 k f fd ps sp ∧ Binds K fd ps ds ∧ Vals dvs ds
structure Mak (P : Program) (w : World) (K : PySem.W.Frag) (mg : Str → Option Value) (base : Heap) (k : Nat) (x : Str) (C : Addr) (sp : Sp) (dvs : List V) : Prop where
  ex : ∃ (f : Addr) (fd : FuncData) (ps : List Str) (ds : List Value), Mk K C f ∧ Ok P w K mg base CX0 k f fd ps sp ∧ mg x = some (.ref C) ∧ Binds K fd ps ds ∧ Vals dvs ds
/-- a method of the class at C, as the top has left it -/
structure Dm (K : PySem.W.Frag) (C : Addr) (m qual : Str) (st : Stmt) (dvs : List V) : Prop where
  ex : ∃ (f : Addr) (oc : Value) (od : Option Addr) (dV kV doc pm : Value) (an : Option Addr) (cdv ct : Value) (osl : Array (Option Value)),
    K.lookup f = some ⟨oc, od, .func (PySem.W.fnOf m qual (defArgs st) (defBody st) (defScope st) dV kV doc pm an cdv ct), osl⟩ ∧
    PySem.W.codeIn K cdv qual = true ∧ Meth K C m f ∧ DflV K dV dvs

section
variable {P : Program} {w : World} {K : PySem.W.Frag} {mg : Str → Option Value} {base : Heap}
theorem Dm.met {C : Addr} {m qual : Str} {st : Stmt} {N ps : List Str} {k : Nat} {sp : Sp} (D : Dm K C m qual st []) (c : Cls K C) (S : FnScope N ps (defScope st))
    (hbd : ∀ (kV doc pm : Value) (an : Option Addr) (cdv ct : Value) (us : List Value), us.length = ps.length →
      bindArgs (PySem.W.fnOf m qual (defArgs st) (defBody st) (defScope st) .none kV doc pm an cdv ct) ⟨us, []⟩ = pure (ps.zip us))
    (len : ∀ vs H Q E, sp vs H Q E → vs.length = ps.length)
    (hb : ∀ (f : Addr) (cdv : Value) (A : Around) (out : List Env) (s : Shared) (H : Hp) (vs : List V) (Q : VK) (E : XK),
      Rm k (A.deeper (envOfC qual (defScope st) s.heap.objs.size f cdv)) → sp vs H Q E →
      ∃ t, PSs (cxOf CX0 P w K mg base N qual (defScope st) f cdv A out s H E).nox (defBody st) t ∧
        t { nx := fun _ H' => Q .non H', rt := Q } (start N vs) H) : Met P w K mg base (k + 1) C m sp [] := by
  obtain ⟨f, oc, od, dV, kV, doc, pm, an, cdv, ct, osl, l, cd, me, dd⟩ := D.ex
  rcases dd with ⟨_, e⟩ | ⟨e, _⟩
  · subst e
    refine ⟨f, _, ps, [], c, me, ok_body l cd S len ?_, .all (hbd kV doc pm an cdv ct), .nil⟩
    intro A out s H vs Q E hr hs
    obtain ⟨t, h, q⟩ := hb f cdv A out s H vs Q E hr hs
    exact ⟨t, h.nox, q⟩
  · exact absurd rfl e
/-- an __init__ with one default (the last parameter): called with n values, or with all but the last -/
theorem Dm.mak1 {C : Addr} {x qual : Str} {st : Stmt} {N ps : List Str} {k n : Nat} {sp : Sp} {dv : V} (D : Dm K C "__init__" qual st [dv]) (mkC : PySem.W.makesIn K C = true) (kpC : PySem.W.keepIn K (.ref C) = true) (hm : mg x = some (.ref C))
    (S : FnScope N ps (defScope st)) (hn : n + 1 = ps.length)
    (hall : ∀ (T : Addr) (kV doc pm : Value) (an : Option Addr) (cdv ct : Value) (us its : List Value), us.length = n + 1 → its.length = 1 →
      ∃ k, bindArgs (PySem.W.fnOf "__init__" qual (defArgs st) (defBody st) (defScope st) (.ref T) kV doc pm an cdv ct) ⟨us, []⟩ = seqItems? (.ref T) >>= k ∧ k (some its.toArray) = pure (ps.zip (us ++ its.drop 1)))
    (hone : ∀ (T : Addr) (kV doc pm : Value) (an : Option Addr) (cdv ct : Value) (us its : List Value), us.length = n → its.length = 1 →
      ∃ k, bindArgs (PySem.W.fnOf "__init__" qual (defArgs st) (defBody st) (defScope st) (.ref T) kV doc pm an cdv ct) ⟨us, []⟩ = seqItems? (.ref T) >>= k ∧ k (some its.toArray) = pure (ps.zip (us ++ its.drop 0)))
    (len : ∀ vs H Q E, sp vs H Q E → vs.length = ps.length)
    (hb : ∀ (f : Addr) (cdv : Value) (A : Around) (out : List Env) (s : Shared) (H : Hp) (vs : List V) (Q : VK) (E : XK),
      Rm k (A.deeper (envOfC qual (defScope st) s.heap.objs.size f cdv)) → sp vs H Q E →
      ∃ t, PSs (cxOf CX0 P w K mg base N qual (defScope st) f cdv A out s H E).nox (defBody st) t ∧
        t { nx := fun _ H' => Q .non H', rt := Q } (start N vs) H) : Mak P w K mg base (k + 1) x C sp [] ∧ Mak P w K mg base (k + 1) x C sp [dv] := by
  obtain ⟨f, oc, od, dV, kV, doc, pm, an, cdv, ct, osl, l, cd, me, dd⟩ := D.ex
  have F : FunD K "__init__" qual (defArgs st) (defBody st) (defScope st) [dv] [] f (PySem.W.fnOf "__init__" qual (defArgs st) (defBody st) (defScope st) dV kV doc pm an cdv ct) :=
    ⟨⟨oc, od, dV, kV, doc, pm, an, cdv, ct, osl, rfl, l, cd, dd, .inl rfl⟩, me.kp⟩
  obtain ⟨d1, v1, b1⟩ := F.binds1 (n + 1) 1 (by simp) (by simpa using hn) hall
  obtain ⟨d2, v2, b2⟩ := F.binds1 n 0 (by simp) (by simpa using hn) hone
  have o : Ok P w K mg base CX0 (k + 1) f (PySem.W.fnOf "__init__" qual (defArgs st) (defBody st) (defScope st) dV kV doc pm an cdv ct) ps sp := by
    refine ok_body l cd S len ?_
    intro A out s H vs Q E hr hs
    obtain ⟨t, h, q⟩ := hb f cdv A out s H vs Q E hr hs
    exact ⟨t, h.nox, q⟩
  have M : Mk K C f := ⟨mkC, me.at_, me.fn, kpC⟩
  exact ⟨⟨f, _, ps, d1, M, o, hm, b1, v1⟩, ⟨f, _, ps, d2, M, o, hm, b2, v2⟩⟩
end

section
variable {X : Cx} {k j : Nat} {C f : Addr} {fd : FuncData} {ps : List Str} {x m : Str} {sp : Sp} {dvs : List V} {ds : List Value} {p pos apos : Pos} {e o : Expr} {es : List Expr} {ta : TE} {t : TA}
theorem pe_mt {pl : Sem Bool} (c : Met X.prog X.w X.K X.mg X.base k C m sp dvs) (hr : Rm j X.A) (hk : k ≤ j) (he : PE X o ta) (ha : PA X (e :: es) t)
    (hst : starEach (e :: es) X.env = (false, eval e X.env) :: starEach es X.env := by rfl)
    (hpl : (backTo pos (starEach es X.env)).any (·.1) = false := by rfl)
    (ht : eval (.Call (.Attribute o m apos) (e :: es) [] pos) X.env = (do
      let v ← eval o X.env
      standAt apos.atName
      let (g, l) ← holding [v] (getMethod v m pl)
      callWith pos g l (backTo pos (starEach (e :: es) X.env)) (backToKw pos (keywordEach [] X.env))) := by rfl) :
    PE X (.Call (.Attribute o m apos) (e :: es) [] pos) (tMeth C m sp dvs E0 ta t) := by
  obtain ⟨f, fd, ps, ds, hc, hm, ok, b, d⟩ := c.ex
  constructor
  intro pins s σ H Q I h
  refine PySem.W.methodCall_KW (pl := pl) (thn (he.run pins s σ H _ I h) ?_) ht
  rintro u s1 ⟨y, H1, I1, ry, a, dx, fs, ey, ea, l, q⟩
  subst ey
  have eu : u = Value.ref a := ry
  subst eu
  refine getmeth_ok I1 ea hc hm l ?_
  refine PySem.W.callWith_K (first := [.ref a]) (h₀ := X.base) I.ok.mod.kin hm.kp (thn (ha.run pos pins s1 σ H1 _ I1 q) ?_) hst hpl
  rintro us s2 ⟨vs, H2, I2, r, q2⟩
  exact ⟨I2.kIn, run_ok (us := .ref a :: us) (vs := .ref a :: vs) ok (hr.mono hk) b d pass0 I2 (.cons rfl r) q2⟩
theorem pe_mt0 {pl : Sem Bool} (c : Met X.prog X.w X.K X.mg X.base k C m sp dvs) (hr : Rm j X.A) (hk : k ≤ j) (he : PE X o ta)
    (ht : eval (.Call (.Attribute o m apos) [] [] pos) X.env = (do
      let v ← eval o X.env
      standAt apos.atName
      let (g, l) ← holding [v] (getMethod v m pl)
      callWith pos g l (backTo pos (starEach [] X.env)) (backToKw pos (keywordEach [] X.env))) := by rfl) :
    PE X (.Call (.Attribute o m apos) [] [] pos) (tMeth C m sp dvs E0 ta tNil) := by
  obtain ⟨f, fd, ps, ds, hc, hm, ok, b, d⟩ := c.ex
  constructor
  intro pins s σ H Q I h
  refine PySem.W.methodCall_KW (pl := pl) (thn (he.run pins s σ H _ I h) ?_) ht
  rintro u s1 ⟨y, H1, I1, ry, a, dx, fs, ey, ea, l, q⟩
  subst ey
  have eu : u = Value.ref a := ry
  subst eu
  refine getmeth_ok I1 ea hc hm l ?_
  exact PySem.W.callWith_K0 (first := [.ref a]) I1.kIn hm.kp (run_ok (us := [.ref a]) (vs := [.ref a]) ok (hr.mono hk) b d pass0 I1 (.cons rfl .nil) q)
theorem run_mk {pins : List (Addr × Obj)} {σ : L2.St} {H : Hp} {s : Shared} {Q : VK} {us : List Value} {vs : List V} (M : Mk X.K C f) (o : Ok X.prog X.w X.K X.mg X.base CX0 k f fd ps sp)
    (hr : Rm (k + 1) X.A) (hb : Binds X.K fd ps ds) (hd : Vals dvs ds) (I : Inv X pins σ H s) (r : Vals vs us)
    (h : ∀ x dx, H x = none → H dx = none → dx ≠ x → sp (.ref x :: (vs ++ dvs)) (upd (upd H dx (.own x)) x (.ins C dx [])) (fun v H2 => v = .non ∧ Q (.ref x) H2) E0) :
    wpAny (model X.prog X.w) X.A (call (.ref C) us) (EP X pins σ Q) X.xe s := by
  have hq := h (s.heap.objs.size + 1) s.heap.objs.size (I.hok.fresh (Nat.le_succ _)) (I.hok.fresh (Nat.le_refl _)) (Nat.ne_of_lt (Nat.lt_succ_self _))
  have I2 := Inv.made (C := C) I
  have rr : Vals (V.ref (s.heap.objs.size + 1) :: (vs ++ dvs)) (Value.ref (s.heap.objs.size + 1) :: (us ++ ds)) := .cons rfl (r.append hd)
  have hl : (Value.ref (s.heap.objs.size + 1) :: us ++ ds).length = ps.length := by
    have e := rr.length
    rw [o.len _ _ _ _ hq] at e
    exact e.symm
  have b2 := hb _ (Value.ref (s.heap.objs.size + 1) :: us) I2.kIn hl
  have go := o.go _ X.stack _ _ ⟨Value.ref (s.heap.objs.size + 1) :: us, []⟩ (Value.ref (s.heap.objs.size + 1) :: (us ++ ds)) _ _ E0 (hr.make C us []) (I2.env0.make C us []) b2 rr hq
  refine wpAny_call (make_map (f := f) I.kIn M.makes M.init (beq_iff_eq.mp M.fn) (codeAny_mono go ?_))
  intro res s' hq'
  match res, hq' with
  | .error e, hq' => exact False.elim hq'
  | .ok .next, hq' => exact False.elim hq'
  | .ok .brk, hq' => exact False.elim hq'
  | .ok .cont, hq' => exact False.elim hq'
  | .ok (.ret u), hq' =>
    obtain ⟨v, H', I3, rv, ev, q3⟩ := I2.after hq'
    subst ev
    exact ⟨rv, ⟨V.ref (s.heap.objs.size + 1), H', I3, rfl, q3⟩⟩
theorem pe_mk (c : Mak X.prog X.w X.K X.mg X.base k x C sp dvs) (hr : Rm j X.A) (hk : k + 1 ≤ j) (hg : Gl X x) (ha : PA X (e :: es) t)
    (hdb : (x == ("__debug__" : Str)) = false := by decide)
    (he : starEach (e :: es) X.env = (false, eval e X.env) :: starEach es X.env := by rfl)
    (hpl : (backTo pos (starEach es X.env)).any (·.1) = false := by rfl) :
    PE X (.Call (.Name x p) (e :: es) [] pos) (tMake C sp dvs E0 t) := by
  obtain ⟨f, fd, ps, ds, M, o, hm, b, d⟩ := c.ex
  constructor
  intro pins s σ H Q I h
  apply wpAny_Call_Name_kw
  apply ld_glob I hg hm _ hdb
  refine PySem.W.callWith_K (h₀ := X.base) I.ok.mod.kin M.kp (thn (ha.run pos pins s σ H _ I h) ?_) he hpl
  rintro us s1 ⟨vs, H1, I1, r, q⟩
  exact ⟨I1.kIn, run_mk M o (hr.mono hk) b d I1 r q⟩
theorem pe_mk0 (c : Mak X.prog X.w X.K X.mg X.base k x C sp dvs) (hr : Rm j X.A) (hk : k + 1 ≤ j) (hg : Gl X x)
    (hdb : (x == ("__debug__" : Str)) = false := by decide) : PE X (.Call (.Name x p) [] [] pos) (tMake C sp dvs E0 tNil) := by
  obtain ⟨f, fd, ps, ds, M, o, hm, b, d⟩ := c.ex
  constructor
  intro pins s σ H Q I h
  apply wpAny_Call_Name_kw
  apply ld_glob I hg hm _ hdb
  exact PySem.W.callWith_K0 I.kIn M.kp (run_mk (us := []) M o (hr.mono hk) b d I .nil h)

/-! ### operators that a class defines -/
/-- the callee runs one unit deeper -/
theorem run_in1 {pins : List (Addr × Obj)} {σ : L2.St} {H : Hp} {s : Shared} {Q : VK} {us : List Value} {vs : List V}
    (o : Ok X.prog X.w X.K X.mg X.base CX0 k f fd ps sp) (hr : Rm (k + 1) X.A) (hb : Binds X.K fd ps ds) (hd : Vals dvs ds)
    (I : Inv X pins σ H s) (r : Vals vs us) (h : sp (vs ++ dvs) H Q E0) :
    wpAny (model X.prog X.w) X.A.in1 (call (.ref f) us) (EP X pins σ Q) X.xe s := by
  have rr := r.append hd
  have hl : (us ++ ds).length = ps.length := rr.length ▸ o.len _ _ _ _ h
  refine wpAny_call (codeAny_mono (o.go X.A.in1 X.stack s H ⟨us, []⟩ (us ++ ds) (vs ++ dvs) Q E0 hr.in1 I.env0.in1 (hb s us I.kIn hl) rr h) ?_)
  intro res s' hq
  match res, hq with
  | .error e, hq => exact False.elim hq
  | .ok (.ret u), hq => exact I.after hq
  | .ok .next, hq => exact False.elim hq
  | .ok .brk, hq => exact False.elim hq
  | .ok .cont, hq => exact False.elim hq
theorem inst_of {pins : List (Addr × Obj)} {σ : L2.St} {H : Hp} {s : Shared} {a dx : Addr} {fs : List (Str × V)} (I : Inv X pins σ H s) (e : H a = some (.ins C dx fs)) :
    ∃ od, PySem.W.InstAt s.heap a (PySem.W.instObj C dx) C (some od) := by
  obtain ⟨mA, O, _⟩ := ins_get I.hok e
  obtain ⟨od, J, _⟩ := O.look
  exact ⟨od, J⟩
/-- a op b, both of the class at C -/
def rOwn (C : Addr) (sp : Sp) (dvs : List V) : R2 := fun x y H Q => ∃ a b dx dy fs gs, x = .ref a ∧ y = .ref b ∧ H a = some (.ins C dx fs) ∧ H b = some (.ins C dy gs) ∧
  sp ([x, y] ++ dvs) H (fun v H' => (∀ u, RelV v u → u ≠ .notImplemented) ∧ Q v H') E0
theorem op_own {op : Operator} (c : Met X.prog X.w X.K X.mg X.base k C (PySem.dunder op.info.2) sp dvs) (hr : Rm j X.A) (hk : k ≤ j) (hsf : PySem.W.selfFirst X.K C = true) :
    OpR X (binaryOp op) (rOwn C sp dvs) := by
  obtain ⟨f, fd, ps, ds, hc, hm, o, b', d⟩ := c.ex
  intro pins s σ H x y v u Q I rx ry h
  obtain ⟨a, b, dx, dy, fs, gs, rfl, rfl, ha, hb, q⟩ := h
  cases rx
  cases ry
  obtain ⟨od, J⟩ := inst_of I ha
  obtain ⟨od2, J2⟩ := inst_of I hb
  obtain ⟨m, fr⟩ := I.fr
  refine PySem.W.binop_K fr I.ok.mod.kin J J2.type hsf hm.at_ hm.fn ?_
  refine wpAny_mono (run_ok (us := [.ref a, .ref b]) (vs := [.ref a, .ref b]) o (hr.mono hk) b' d pass0 I (.cons rfl (.cons rfl .nil)) q) ?_ (fun _ _ z => z)
  rintro r s' ⟨z, H', I', rz, nz, q'⟩
  have := nz r rz
  unfold PySem.W.CmpBack
  cases r <;> first | exact absurd rfl this | exact ⟨z, H', I', rz, q'⟩
/-- x in a, x not in a -/
def rOwnIn (C : Addr) (neg : Bool) (sp : Sp) (dvs : List V) : R2 := fun x y H Q => ∃ b dy gs, y = .ref b ∧ H b = some (.ins C dy gs) ∧
  sp ([y, x] ++ dvs) H (fun v H' => ∃ t, v = .bl t ∧ Q (.bl (if neg then !t else t)) H') E0
theorem op_ownIn (c : Met X.prog X.w X.K X.mg X.base k C "__contains__" sp dvs) (hr : Rm j X.A) (hk : k ≤ j) : OpR X (compareOp .In) (rOwnIn C false sp dvs) := by
  obtain ⟨f, fd, ps, ds, hc, hm, o, b', d⟩ := c.ex
  intro pins s σ H x y v u Q I rx ry h
  obtain ⟨b, dy, gs, rfl, hb, q⟩ := h
  cases ry
  obtain ⟨od, J⟩ := inst_of I hb
  obtain ⟨m, fr⟩ := I.fr
  refine PySem.W.in_K fr I.ok.mod.kin J hm.at_ hm.fn ?_
  refine wpAny_mono (run_ok (us := [.ref b, v]) (vs := [.ref b, x]) o (hr.mono hk) b' d pass0 I (.cons rfl (.cons rx .nil)) q) ?_ (fun _ _ z => z)
  rintro r s' ⟨z, H', I', rz, t, rfl, q'⟩
  cases rz
  exact wpAny_truthy_bool ⟨.bl t, H', I', rfl, q'⟩
theorem op_ownNotIn (c : Met X.prog X.w X.K X.mg X.base k C "__contains__" sp dvs) (hr : Rm j X.A) (hk : k ≤ j) : OpR X (compareOp .NotIn) (rOwnIn C true sp dvs) := by
  obtain ⟨f, fd, ps, ds, hc, hm, o, b', d⟩ := c.ex
  intro pins s σ H x y v u Q I rx ry h
  obtain ⟨b, dy, gs, rfl, hb, q⟩ := h
  cases ry
  obtain ⟨od, J⟩ := inst_of I hb
  obtain ⟨m, fr⟩ := I.fr
  refine PySem.W.notIn_K fr I.ok.mod.kin J hm.at_ hm.fn ?_
  refine wpAny_mono (run_ok (us := [.ref b, v]) (vs := [.ref b, x]) o (hr.mono hk) b' d pass0 I (.cons rfl (.cons rx .nil)) q) ?_ (fun _ _ z => z)
  rintro r s' ⟨z, H', I', rz, t, rfl, q'⟩
  cases rz
  exact wpAny_truthy_bool ⟨.bl (!t), H', I', rfl, q'⟩
/-- len(a) -/
def rOwnLen (C : Addr) (sp : Sp) (dvs : List V) : List V → Hp → VK → Prop := fun xs H Q => ∃ a dx fs, xs = [.ref a] ∧ H a = some (.ins C dx fs) ∧
  sp ([.ref a] ++ dvs) H (fun v H' => ∃ n : Nat, v = .int (n : Int) ∧ n ≤ sizeLine ∧ Q (.int (n : Int)) H') E0
theorem call_ownLen (c : Met X.prog X.w X.K X.mg X.base k C "__len__" sp dvs) (hr : Rm j X.A) (hk : k + 1 ≤ j) : CallR X (.builtin "len") (rOwnLen C sp dvs) := by
  obtain ⟨f, fd, ps, ds, hc, hm, o, b', d⟩ := c.ex
  intro pins s σ H xs us Q I r h
  obtain ⟨a, dx, fs, rfl, ha, q⟩ := h
  obtain ⟨u, rfl, ru⟩ := vals1 r
  cases ru
  obtain ⟨od, J⟩ := inst_of I ha
  obtain ⟨m, fr⟩ := I.fr
  refine PySem.W.len_K fr I.ok.mod.kin J hm.at_ hm.fn ?_
  refine wpAny_mono (run_in1 (us := [.ref a]) (vs := [.ref a]) o (hr.mono hk) b' d I (.cons rfl .nil) q) ?_ (fun _ _ z => z)
  rintro r s' ⟨z, H', I', rz, n, rfl, hn, q'⟩
  obtain ⟨t, rfl⟩ := rz
  have := sizeLine_eq
  exact ⟨⟨by omega, by omega⟩, .int _, H', I'.tok _, ⟨_, rfl⟩, q'⟩
/-- a == b, both of the class at C -/
theorem op_ownEq (c : Met X.prog X.w X.K X.mg X.base k C "__eq__" sp dvs) (hr : Rm j X.A) (hk : k ≤ j) : OpR X (compareOp .Eq) (rOwn C sp dvs) := by
  obtain ⟨f, fd, ps, ds, hc, hm, o, b', d⟩ := c.ex
  intro pins s σ H x y v u Q I rx ry h
  obtain ⟨a, b, dx, dy, fs, gs, rfl, rfl, ha, hb, q⟩ := h
  cases rx
  cases ry
  obtain ⟨od, J⟩ := inst_of I ha
  obtain ⟨od2, J2⟩ := inst_of I hb
  obtain ⟨m, fr⟩ := I.fr
  refine PySem.W.cmp_ofEq (PySem.W.cmp_K hr.rm.units0 fr I.ok.mod.kin J J2.type ?_ hm.at_ hm.fn ?_)
  · unfold PySem.W.notFirst
    simp
  refine wpAny_mono (run_ok (us := [.ref a, .ref b]) (vs := [.ref a, .ref b]) o (hr.mono hk) b' d pass0 I (.cons rfl (.cons rfl .nil)) q) ?_ (fun _ _ z => z)
  rintro r s' ⟨z, H', I', rz, nz, q'⟩
  have := nz r rz
  unfold PySem.W.CmpBack
  cases r <;> first | exact absurd rfl this | exact ⟨z, H', I', rz, q'⟩
end
end Eu
set_option Elab.async false
set_option linter.all false
set_option maxRecDepth 100000
set_option maxHeartbeats 4000000
namespace Eu
open PySem PySem.Spec PyProof.Rows L2

/-! ### sorted of tuples (int, text, ints ..) by their first items -/
def shp (i : Nat) : Bool := i == 1
theorem tups_of {h : Heap} {shape : Nat → Bool} : ∀ {vs : List Value}, (∀ v ∈ vs, ∃ f, TupOf h shape v f) → ∃ fs, TupsOf h shape vs fs
  | [], _ => ⟨[], .nil⟩
  | v :: vs, hv => by
    obtain ⟨f, hf⟩ := hv v List.mem_cons_self
    obtain ⟨fs, hfs⟩ := tups_of (vs := vs) fun u hu => hv u (List.mem_cons_of_mem _ hu)
    exact ⟨f :: fs, .cons hf hfs⟩
theorem ints_items : ∀ {xs : List V} {us : List Value} {i : Nat}, Vals xs us → (∀ x ∈ xs, ∃ n, x = V.int n) → 2 ≤ i → ∃ l, tupItems shp i us = some l
  | _, _, _, .nil, _, _ => ⟨[], rfl⟩
  | x :: xs, u :: us, i, .cons r t, h, hi => by
    obtain ⟨n, rfl⟩ := h x List.mem_cons_self
    obtain ⟨tk, rfl⟩ := r
    obtain ⟨l, e⟩ := ints_items (i := i + 1) t (fun y hy => h y (List.mem_cons_of_mem _ hy)) (by omega)
    refine ⟨Sum.inl n :: l, ?_⟩
    show (if shp i = true then none else (tupItems shp (i + 1) us).map (Sum.inl n :: ·)) = _
    rw [if_neg (by unfold shp; simp; omega), e]
    rfl
/-- x is a tuple with the first item k x, then a text, then ints -/
def TupK (H : Hp) (k : V → Int) (x : V) : Prop := ∃ (t : Addr) (z : Str) (r : List V), x = .ref t ∧ H t = some (.tup (.int (k x) :: .str z :: r)) ∧ ∀ y ∈ r, ∃ n, y = V.int n
theorem key_of {X : Cx} {pins : List (Addr × Obj)} {σ : L2.St} {H : Hp} {s : Shared} {k : V → Int} {u : Value} (I : Inv X pins σ H s) (h : TupK H k (backV u)) (hu : ∃ a, u = .ref a) :
    (∃ f, TupOf s.heap shp u f) ∧ ∃ l, PyProof.Rows.G.tupKeyC s.heap shp u = some (Sum.inl (k (backV u)) :: l) := by
  obtain ⟨a, rfl⟩ := hu
  obtain ⟨t, z, r, e, ht, hr⟩ := h
  cases e
  obtain ⟨_, its, rv, o, ho, hc, n, hd⟩ := I.hok _ _ ht
  cases rv with
  | cons r1 rv =>
    cases rv with
    | cons r2 rv =>
      obtain ⟨t1, rfl⟩ := r1
      obtain ⟨t2, rfl⟩ := r2
      rename_i us
      obtain ⟨l, el⟩ := ints_items (i := 2) rv hr (Nat.le_refl _)
      refine ⟨⟨_, a, o, _, n, rfl, ho, hc, hd, rfl, fun _ => ⟨_, _, rfl⟩, fun q => by cases q⟩, Sum.inr z.cps.toList :: l, ?_⟩
      unfold PyProof.Rows.G.tupKeyC
      have ht : PyProof.Rows.G.isTupObj s.heap (.ref a) = true := by
        unfold PyProof.Rows.G.isTupObj
        simp only [ho, hc]
        rfl
      rw [if_pos ht]
      unfold tupKey
      simp only [ho, hd]
      show (if shp 0 = true then none else (tupItems shp 1 (.str z t2 :: us)).map (Sum.inl (k (backV (.ref a))) :: ·)) = _
      rw [if_neg (by decide)]
      show ((if shp 1 = true then (tupItems shp 2 us).map (Sum.inr z.cps.toList :: ·) else none).map (Sum.inl (k (backV (.ref a))) :: ·)) = _
      rw [if_pos (show shp 1 = true from rfl), el]
      rfl
def rSortedTS (K : PySem.W.Frag) : List V → Hp → VK → Prop := fun vs H Q => ∃ (a : Addr) (xs : List V) (k : V → Int), vs = [V.ref a] ∧ SqL K H a xs ∧ (∀ x ∈ xs, TupK H k x) ∧
  ∀ (ys : List V) (p : Addr), ys.Perm xs → ys.Pairwise (fun x y => k x ≤ k y) → H p = none → Q (.ref p) (upd H p (.lst ys))
section
variable {X : Cx}
theorem cr_sortedTS : CallR X (.builtin "sorted") (rSortedTS X.K) := by
  intro pins s σ H vs us Q I r h
  obtain ⟨a, xs, k, rfl, hs, hx, q⟩ := h
  obtain ⟨its, rv, hl, hz⟩ := I.list hs
  obtain ⟨u, rfl, ru⟩ := vals1 r
  cases (show u = Value.ref a from ru)
  obtain ⟨e1, e2⟩ := refs_back rv fun x m => by
    obtain ⟨t, _, _, e, _⟩ := hx x m
    exact ⟨t, e⟩
  have hk : ∀ v ∈ its, (∃ f, TupOf s.heap shp v f) ∧ ∃ l, PyProof.Rows.G.tupKeyC s.heap shp v = some (Sum.inl (k (backV v)) :: l) := fun v hv =>
    key_of I (hx _ (by rw [e1]; exact List.mem_map.mpr ⟨v, hv, rfl⟩)) (e2 v hv)
  obtain ⟨fs, ht⟩ := tups_of fun v hv => (hk v hv).1
  refine PyProof.Rows.G.sorted_tups (shape := shp) hl.isList ht (fun v hv => ?_) (by rw [← rv.length]; exact hz) ?_
  · obtain ⟨l, e⟩ := (hk v hv).2
    exact ⟨_, e⟩
  · intro st' hp hso hst
    have pl : (arrOf st').toList.Perm (its.zip its) := by
      have := hp.toList
      rwa [pairsOf_toList] at this
    have eq12 : ∀ p ∈ (arrOf st').toList, p.1 = p.2 ∧ p.1 ∈ its := fun p hm => mem_zip_self (pl.mem_iff.mp hm)
    have outP : ((arrOf st').toList.map (·.2)).Perm its := by
      have := pl.map (·.2)
      rwa [show (its.zip its).map (·.2) = its from List.map_snd_zip (Nat.le_refl _)] at this
    have oe : ((arrOf st').map (·.2)).toList = (arrOf st').toList.map (·.2) := by simp
    have h3 : ∀ v ∈ (arrOf st').toList.map (·.2), ∃ a, v = Value.ref a := fun v hv => e2 v (outP.mem_iff.mp hv)
    obtain ⟨n, hn⟩ := sortedAll_at s.heap its ((arrOf st').map (·.2))
    have hd : s.heap.objs.size ≤ s.heap.objs.size + 1 := Nat.le_succ _
    have perm : (((arrOf st').toList.map (·.2)).map backV).Perm xs := by
      rw [e1]
      exact outP.map backV
    refine ⟨.ref (s.heap.objs.size + 1), upd H (s.heap.objs.size + 1) (.lst (((arrOf st').toList.map (·.2)).map backV)), I.laid (t' := s.toks) (fun b o e => sortedAll_old e) hd ⟨?_, (arrOf st').toList.map (·.2), n, vals_back h3, ?_⟩, rfl, q _ _ perm ?_ (I.hok.fresh hd)⟩
    · rw [perm.length_eq]
      exact hz
    · rw [hn]
      congr 2
      rw [← oe]
    · rw [List.pairwise_iff_getElem]
      intro i j hi hj hij
      have hjs : j < (arrOf st').size := by simpa using hj
      have his : i < (arrOf st').size := by omega
      have hle := hso i j (Nat.le_of_lt hij) (by
        have e := pl.length_eq
        rw [Array.length_toList, List.length_zip, Nat.min_self] at e
        rw [pairsOf_size, ← e]
        exact hjs)
      have kk : ∀ n (hn : n < (arrOf st').size), ∃ l, KK (PyProof.Rows.G.tupKindC s.heap shp) (arrOf st') n = (Sum.inl (k (backV (arrOf st')[n].2)) :: l : List (Int ⊕ List Nat)) := by
        intro n hn
        obtain ⟨c1, c2⟩ := eq12 (arrOf st')[n] (by simp)
        obtain ⟨l, e⟩ := (hk _ c2).2
        refine ⟨l, ?_⟩
        unfold KK
        rw [Array.getElem?_eq_getElem hn]
        show (PyProof.Rows.G.tupKeyC s.heap shp (arrOf st')[n].1).getD [] = _
        rw [e, c1]
        rfl
      obtain ⟨l1, k1⟩ := kk i his
      obtain ⟨l2, k2⟩ := kk j hjs
      rw [k1, k2] at hle
      have hle' : (decide (k (backV (arrOf st')[j].2) < k (backV (arrOf st')[i].2)) || (!decide (k (backV (arrOf st')[i].2) < k (backV (arrOf st')[j].2)) && lexLt itemOrd l2 l1)) = false := hle
      rw [Bool.or_eq_false_iff] at hle'
      have := of_decide_eq_false hle'.1
      simp only [List.getElem_map, Array.getElem_toList]
      omega
end
end Eu
set_option Elab.async false
set_option linter.all false
set_option maxRecDepth 100000
set_option maxHeartbeats 4000000
namespace Eu
open PySem PySem.Spec PyProof.Rows L2
/-! ### dict comprehensions -/
section
variable {α : Type} {J : It} {xs : List α} {Y : α → Hp → V → Hp → Prop} {S : Hp → Prop} {g : TG}
theorem dc_over {tt : TT} {tk tv : TE} {vs : List Nat} {σ : L2.St} {H1 : Hp} {D : Addr} {Qd : Hp → Prop} (o : Over J xs Y S) (Pv : Nat → Hp → Prop)
    (h0 : Pv 0 (upd H1 D (.dK []))) (hS : ∀ i H, i ≤ xs.length → Pv i H → S H)
    (hs : ∀ i x H v H', xs[i]? = some x → Pv i H → Y x H v H' → g v (wipe σ vs) H' fun σ2 H2 => wipe σ2 vs = wipe σ vs ∧ tt σ2 H2 fun b H3 =>
      if b = true then tk σ2 H3 fun y H4 => tv σ2 H4 fun z H5 => ∃ kvs k, y = kV k ∧ H5 D = some (.dK kvs) ∧ kvs.length < sizeLine ∧ Pv (i + 1) (upd H5 D (.dK (putK kvs k z))) else Pv (i + 1) H3)
    (hd : ∀ H, Pv xs.length H → Qd H) :
    ∃ W : Nat → Nat → Hp → Prop, (∃ m, W 0 m (upd H1 D (.dK []))) ∧ ∀ i m H, W i m H → (J.stop i H ∧ Qd H) ∨ (J.go i H ∧
      ∃ Nx : Hp → Prop, (∀ H', Nx H' → ∃ m', m' < m ∧ W (i + 1) m' H') ∧ ∀ x H', J.yld i H x H' → g x (wipe σ vs) H' fun σ2 H2 => wipe σ2 vs = wipe σ vs ∧ tt σ2 H2 fun b H3 =>
        if b = true then tk σ2 H3 fun y H4 => tv σ2 H4 fun z H5 => ∃ kvs k, y = kV k ∧ H5 D = some (.dK kvs) ∧ kvs.length < sizeLine ∧ Nx (upd H5 D (.dK (putK kvs k z))) else Nx H3) := by
  refine ⟨fun i m H => m = xs.length - i ∧ i ≤ xs.length ∧ Pv i H, ⟨xs.length, rfl, Nat.zero_le _, h0⟩, ?_⟩
  rintro i m H ⟨rfl, hi, p⟩
  have s := hS i H hi p
  by_cases hl : i < xs.length
  · have e : xs[i]? = some xs[i] := List.getElem?_eq_getElem hl
    refine .inr ⟨o.go i _ H e s, Pv (i + 1), fun H' p' => ⟨xs.length - (i + 1), by omega, rfl, hl, p'⟩, fun v H' y => ?_⟩
    exact hs i _ H v H' e p (o.yl i _ H v H' e s y)
  · have e : i = xs.length := by omega
    subst e
    exact .inl ⟨o.st H s, hd H p⟩
theorem length_merge : ∀ (more kvs : List (Key × V)), (mergeK kvs more).length ≤ kvs.length + more.length
  | [], kvs => Nat.le_refl _
  | q :: r, kvs => by
    have := length_merge r (putK kvs q.1 q.2)
    have := length_putK kvs q.1 q.2
    show (mergeK (putK kvs q.1 q.2) r).length ≤ kvs.length + (r.length + 1)
    omega
theorem merge_snoc (kvs more : List (Key × V)) (q : Key × V) : mergeK kvs (more ++ [q]) = putK (mergeK kvs more) q.1 q.2 := by
  unfold mergeK
  rw [List.foldl_append]
  rfl
/-- a dict comprehension without a test whose parts change nothing that stood: the i-th item gives f x -/
theorem dc_pure {tk tv : TE} {vs : List Nat} {σ : L2.St} {H1 : Hp} {D : Addr} {Qd : Hp → Prop} (o : Over J xs Y S) (f : α → Key × V)
    (nD : H1 D = none) (hn : xs.length ≤ sizeLine) (hS : ∀ H, Same H1 H → S H)
    (hs : ∀ x ∈ xs, ∀ H v H' (Nx : V → V → Hp → Prop), Same H1 H → Y x H v H' → (∀ H'', Same H H'' → Nx (kV (f x).1) (f x).2 H'') →
      g v (wipe σ vs) H' fun σ2 H2 => wipe σ2 vs = wipe σ vs ∧ tk σ2 H2 fun y H4 => tv σ2 H4 fun z H5 => Nx y z H5)
    (hd : ∀ H, Same H1 H → H D = some (.dK (mergeK [] (xs.map f))) → Qd H) (hg : ∀ (v : V) (σ : L2.St) (H : Hp) (A B : L2.St → Hp → Prop), (∀ σ H, A σ H → B σ H) → g v σ H A → g v σ H B) :
    ∃ W : Nat → Nat → Hp → Prop, (∃ m, W 0 m (upd H1 D (.dK []))) ∧ ∀ i m H, W i m H → (J.stop i H ∧ Qd H) ∨ (J.go i H ∧
      ∃ Nx : Hp → Prop, (∀ H', Nx H' → ∃ m', m' < m ∧ W (i + 1) m' H') ∧ ∀ x H', J.yld i H x H' → g x (wipe σ vs) H' fun σ2 H2 => wipe σ2 vs = wipe σ vs ∧ tYes σ2 H2 fun b H3 =>
        if b = true then tk σ2 H3 fun y H4 => tv σ2 H4 fun z H5 => ∃ kvs k, y = kV k ∧ H5 D = some (.dK kvs) ∧ kvs.length < sizeLine ∧ Nx (upd H5 D (.dK (putK kvs k z))) else Nx H3) := by
  refine dc_over o (fun i H => Same H1 H ∧ H D = some (.dK (mergeK [] ((xs.take i).map f)))) ⟨same_new nD, upd_same⟩ (fun i H _ p => hS H p.1) ?_ ?_
  · rintro i x H v H' e ⟨s, hD⟩ y
    have hi := (List.getElem?_eq_some_iff.mp e).1
    have key := hs x (List.mem_of_getElem? e) H v H' (fun y z H5 => ∃ kvs k, y = kV k ∧ H5 D = some (.dK kvs) ∧ kvs.length < sizeLine ∧
      (Same H1 (upd H5 D (.dK (putK kvs k z))) ∧ (upd H5 D (.dK (putK kvs k z))) D = some (.dK (mergeK [] ((xs.take (i + 1)).map f))))) s y ?_
    · refine hg _ _ _ _ _ ?_ key
      rintro σ2 H2 ⟨w, q⟩
      exact ⟨w, lc_yes q⟩
    · intro H4 s4
      refine ⟨_, _, rfl, s4 _ _ hD, ?_, fun b u z => ?_, ?_⟩
      · have := length_merge ((xs.take i).map f) []
        rw [List.length_map, List.length_take] at this
        have h0 : ([] : List (Key × V)).length = 0 := rfl
        omega
      · rw [upd_ne (ne_of_none z nD)]
        exact s4 _ _ (s _ _ z)
      · rw [upd_same, List.take_add_one, e, List.map_append]
        show _ = some (HO.dK (mergeK [] ((xs.take i).map f ++ [f x])))
        rw [merge_snoc]
  · rintro H ⟨s, hD⟩
    rw [List.take_length] at hD
    exact hd H s hD
end
/-- targets: names and pairs of names let what is wanted grow -/
theorem gName_mono {i : Nat} : ∀ (v : V) (σ : L2.St) (H : Hp) (A B : L2.St → Hp → Prop), (∀ σ H, A σ H → B σ H) → gName i v σ H A → gName i v σ H B := fun v σ H A B h k => h _ _ k

/-! ### what may be a list or a tuple -/
section
variable {X : Cx} {tg it : Expr} {w1 w2 : TI}
theorem pi_or (a : PI X tg it w1) (b : PI X tg it w2) : PI X tg it (fun σ H R => w1 σ H R ∨ w2 σ H R) :=
  ⟨fun pins s σ H R I h => h.elim (a.run pins s σ H R I) (b.run pins s σ H R I)⟩
end
end Eu
set_option Elab.async false
set_option linter.all false
set_option maxRecDepth 100000
set_option maxHeartbeats 4000000
namespace Eu
open PySem PySem.Spec PyProof.Rows L2

/-! ### != of a class that has __eq__ alone -/
section
variable {prog : Program} {w : World} {A : Around} {E : Value → Shared → Prop} {s : Shared} {K : PySem.W.Frag} {x C f : Addr} {ox : Obj} {od : Option Obj} {b : Value}
theorem ne_entry (hu : A.units < cLine) (X : K.In s.heap) (I : PySem.W.InstAt s.heap x ox C od) (hs : PySem.W.findIn K (.ref C) "__eq__" = some (some (.ref f))) (hf : PySem.W.isFn K (.ref f) = true) {Q : Fin → Shared → Prop}
    (h : wpAny (model prog w) A (call (.ref f) [.ref x, b]) (fun v s' => ∃ t, v = .bool t ∧ Q (.done (.ret (.bool (!t)))) s') E s) :
    wpAny (model prog w) A (Builtin.«object.__ne__» ⟨[.ref x, b], []⟩) Q E s := by
  unfold Builtin.«object.__ne__»
  refine wpAny_bind (m := slotArgs "__ne__" 1 ⟨[.ref x, b], []⟩) (wpAny_pure ?_)
  refine wpAny_bind (wpAny_cRoomFor hu ?_)
  refine wpAny_bind (PySem.W.ifBound_K X I hs hf (wpAny_mono h ?_ fun _ _ e => e))
  rintro v s' ⟨t, rfl, q⟩
  exact wpAny_bind (wpAny_truthy_bool (wpAny_pure q))
theorem ne_K {L : Addr} {h₀ : Heap} {m : Str → Option Value} {tb : Value} {Q : Value → Shared → Prop} (hu : A.units + 1 < cLine) (FR : Fr h₀ L s.heap m) (X₀ : K.In h₀) (I : PySem.W.InstAt s.heap x ox C od)
    (hb : PySem.W.Looks (model prog w) s.heap (typeOf b) (.ref C))
    (hm : PySem.W.mroIn K C (.type "object") = some true) (hn : PySem.W.findIn K (.ref C) "__ne__" = some (some (.builtin "object.__ne__")))
    (hs : PySem.W.findIn K (.ref C) "__eq__" = some (some (.ref f))) (hf : PySem.W.isFn K (.ref f) = true)
    (h : wpAny (model prog w) A.in1 (call (.ref f) [.ref x, b]) (fun v s' => ∃ t, v = .bool t ∧ Q (.bool (!t)) s') E s) :
    wpAny (model prog w) A (richCompare .NotEq (.ref x) b) Q E s := by
  have X := X₀.keeps FR.keep
  have one : wpAny (model prog w) A (tryCompare (.ref x) "__ne__" b) (fun r s' => ∃ v, r = some v ∧ Q v s') E s := by
    unfold tryCompare
    simp only [callSpecialIfBound?, bindSpecialIfBound?]
    refine wpAny_bind (wpAny_holding (wpAny_bind (wpAny_bind (wpAny_bind (I.type.here ((PySem.W.looks_findIn X hn).here ?_))))))
    refine wpAny_bind (wpAny_askSetting (wpAny_ite ?_))
    have fin : wpAny (model prog w) A (call (.builtin "object.__ne__") ([.ref x] ++ [b]) >>= fun v => pure (some v)) (fun r s' => ∃ v, r = some v ∧ v ≠ .notImplemented ∧ Q v s') E s := by
      refine wpAny_bind (wpAny_call (codeAny_call_builtin PySem.F.cmp_object.ne.plain PySem.F.cmpEntry_ne (PySem.W.check_slot PySem.F.cmpKind_ne PySem.F.cmpSplit_ne (I.type.andThen (PySem.W.looks_mroIn X hm)) (F.cmpArgs_ne _ _) ?_)))
      refine ne_entry (A := A.in1) hu X I hs hf (wpAny_mono h ?_ fun _ _ e => e)
      rintro v s' ⟨t, rfl, q⟩
      exact ⟨t, rfl, wpAny_pure ⟨_, rfl, (fun z => nomatch z), q⟩⟩
    simp only [PySem.F.cmp_object.ne.bind]
    split
    · refine wpAny_bind (wpAny_pure (wpAny_pure ?_))
      exact wpAny_mono fin (fun r s' z => by obtain ⟨v, rfl, nv, q⟩ := z; cases v <;> first | exact absurd rfl nv | exact wpAny_pure ⟨_, rfl, q⟩) fun _ _ e => e
    · refine wpAny_tryCatch (wpAny_bind (wpAny_pure (wpAny_pure ?_)))
      exact wpAny_mono fin (fun r s' z => by obtain ⟨v, rfl, nv, q⟩ := z; cases v <;> first | exact absurd rfl nv | exact wpAny_pure ⟨_, rfl, q⟩) fun _ _ e => e
  unfold richCompare
  simp only [oneThing_ref]
  refine wpAny_holding (wpAny_bind (wpAny_cRoomFor (Nat.lt_of_succ_lt hu) ?_))
  refine wpAny_bind (I.type.here (wpAny_bind (hb.here ?_)))
  rw [show (Value.ref C != Value.ref C) = false from by simp]
  simp only [Bool.false_eq_true, if_false]
  refine wpAny_bind (wpAny_pure ?_)
  simp only [Bool.false_eq_true, if_false]
  refine wpAny_bind (wpAny_mono one (fun r s' z => ?_) fun _ _ e => e)
  obtain ⟨v, rfl, hq⟩ := z
  exact wpAny_pure hq
end
section
variable {X : Cx} {k j : Nat} {C : Addr} {sp : Sp} {dvs : List V}
/-- a != b, both of the class at C -/
def rOwnNe (C : Addr) (sp : Sp) (dvs : List V) : R2 := fun x y H Q => ∃ a b dx dy fs gs, x = .ref a ∧ y = .ref b ∧ H a = some (.ins C dx fs) ∧ H b = some (.ins C dy gs) ∧
  sp ([x, y] ++ dvs) H (fun v H' => ∃ t, v = .bl t ∧ Q (.bl (!t)) H') E0
theorem op_ownNe (c : Met X.prog X.w X.K X.mg X.base k C "__eq__" sp dvs) (hr : Rm j X.A) (hk : k + 1 ≤ j) (hm : PySem.W.mroIn X.K C (.type "object") = some true)
    (hn : PySem.W.findIn X.K (.ref C) "__ne__" = some (some (.builtin "object.__ne__"))) : OpR X (compareOp .NotEq) (rOwnNe C sp dvs) := by
  obtain ⟨f, fd, ps, ds, hc, me, o, b', d⟩ := c.ex
  intro pins s σ H x y v u Q I rx ry h
  obtain ⟨a, b, dx, dy, fs, gs, rfl, rfl, ha, hb, q⟩ := h
  cases rx
  cases ry
  obtain ⟨od, J⟩ := inst_of I ha
  obtain ⟨od2, J2⟩ := inst_of I hb
  obtain ⟨m, fr⟩ := I.fr
  refine PySem.W.cmp_ofNotEq (ne_K (tb := .ref C) (by have := hr.rm.units; omega) fr I.ok.mod.kin J J2.type hm hn me.at_ me.fn ?_)
  refine wpAny_mono (run_in1 (us := [.ref a, .ref b]) (vs := [.ref a, .ref b]) o (hr.mono hk) b' d I (.cons rfl (.cons rfl .nil)) q) ?_ (fun _ _ z => z)
  rintro r s' ⟨z, H', I', rz, t, rfl, q'⟩
  cases rz
  exact ⟨t, rfl, .bl (!t), H', I', rfl, q'⟩
end

/-! ### methods with *others -/
def OkR (P : Program) (w : World) (K : PySem.W.Frag) (mg : Str → Option Value) (base : Heap) (k : Nat) (f : Addr) (sp : Sp) : Prop :=
  ∀ (A : Around) (out : List Env) (s : Shared) (H : Hp) (us : List Value) (vs : List V) (Q : VK) (E : XK),
    Rm k A → Env0 P w K mg base A out s H → Vals vs us → sp vs H Q E → codeAny (model P w) A (.call (.ref f) ⟨us, []⟩) (CR CX0 out P w H s Q E) s
structure MetS (P : Program) (w : World) (K : PySem.W.Frag) (mg : Str → Option Value) (base : Heap) (k : Nat) (C : Addr) (m : Str) (sp : Sp) : Prop where
  ex : ∃ f : Addr, Cls K C ∧ Meth K C m f ∧ OkR P w K mg base k f sp
section
variable {P : Program} {w : World} {K : PySem.W.Frag} {mg : Str → Option Value} {base : Heap}
/-- a method (self, *rest) -/
theorem Dm.star {C : Addr} {m qual p1 pv : Str} {st : Stmt} {N : List Str} {k : Nat} {sp : Sp} (D : Dm K C m qual st []) (c : Cls K C) (S : FnScope N [p1, pv] (defScope st))
    (hbd : ∀ (kV doc pm : Value) (an : Option Addr) (cdv ct : Value) (us rest : List Value), us.length = [p1].length →
      bindArgs (PySem.W.fnOf m qual (defArgs st) (defBody st) (defScope st) .none kV doc pm an cdv ct) ⟨us ++ rest, []⟩ = (newTuple rest >>= fun t => pure ([p1].zip us ++ [(pv, t)])))
    (hb : ∀ (f : Addr) (cdv : Value) (A : Around) (out : List Env) (s : Shared) (H : Hp) (vs : List V) (Q : VK) (E : XK),
      Rm k (A.deeper (envOfC qual (defScope st) s.heap.objs.size f cdv)) → sp vs H Q E →
      ∃ t, PSs (cxOf CX0 P w K mg base N qual (defScope st) f cdv A out s H E).nox (defBody st) t ∧
        t { nx := fun _ H' => Q .non H', rt := Q } (start N vs) H) :
    MetS P w K mg base (k + 1) C m (fun vs H Q E => ∃ x rest, vs = x :: rest ∧ rest.length ≤ sizeLine ∧ ∀ p, H p = none → sp [x, .ref p] (upd H p (.tup rest)) Q E) := by
  obtain ⟨f, oc, od, dV, kV, doc, pm, an, cdv, ct, osl, l, cd, me, dd⟩ := D.ex
  rcases dd with ⟨_, e⟩ | ⟨e, _⟩
  · subst e
    refine ⟨f, c, me, ?_⟩
    intro A outer s H us vs Q E hr e0 r hsp
    obtain ⟨x, rest, ev, hz, hq⟩ := hsp
    subst ev
    obtain ⟨u1, u2, eu, r1, r2⟩ := StX.vals_split (ws := [x]) (rest := rest) r
    subst eu
    have hn : H s.heap.objs.size = Option.none := e0.hok.fresh (Nat.le_refl _)
    have hl1 : u1.length = [p1].length := by rw [← r1.length]; rfl
    have hl2 : u2.length ≤ sizeLine := by rw [← r2.length]; exact hz
    refine StX.run_bnd l cd S hr.rm e0 (G := fun xs H2 => ∃ p, H p = Option.none ∧ xs = [x, V.ref p] ∧ H2 = upd H p (.tup rest)) (fun A' Ex Q' h => ?_) fun s2 H2 xs ⟨p, hp, ex, eH⟩ hr' => ?_
    · rw [hbd kV doc pm an cdv ct u1 u2 hl1]
      refine wpAny_bind (wpAny_newTuple (wpAny_pure ?_) hl2)
      have new : ObjOk P w (upd H s.heap.objs.size (.tup rest)) (s.heap.push ({ cls := .type "tuple", data := .seq u2.toArray } : Obj)) s.heap.objs.size (.tup rest) := ⟨hz, u2, r2, ⟨_, Heap.get?_push_size _ rfl, rfl, _, rfl⟩⟩
      have un := StX.un_laid (fs := frs outer) (s := s) (o := ({ cls := .type "tuple", data := .seq u2.toArray } : Obj)) (u := .tup rest) hn
      have z := h _ _ ([x] ++ [V.ref s.heap.objs.size]) (u1 ++ [Value.ref s.heap.objs.size]) (StX.env0_laid e0 new) un rfl (fun e s' z => False.elim z) (r1.append (.cons rfl .nil)) rfl ⟨_, hn, rfl, rfl⟩
      have e2 : [p1, pv].zip (u1 ++ [Value.ref s.heap.objs.size]) = [p1].zip u1 ++ [(pv, Value.ref s.heap.objs.size)] := List.zip_append (l₁ := [p1]) hl1.symm
      rw [e2] at z
      exact z
    · subst ex eH
      obtain ⟨t, h, q⟩ := hb f cdv A outer s2 _ _ Q E (hr.deeper _) (hq p hp)
      exact ⟨t, h.nox, q⟩
  · exact absurd rfl e
end
section
variable {X : Cx} {k j : Nat} {C : Addr} {m : Str} {sp : Sp} {pos apos : Pos} {e o : Expr} {es : List Expr} {ta : TE} {t : TA}
theorem run_okR {pins : List (Addr × Obj)} {σ : L2.St} {H : Hp} {s : Shared} {Q : VK} {us : List Value} {vs : List V} {f : Addr}
    (F : OkR X.prog X.w X.K X.mg X.base k f sp) (hr : Rm k X.A) (I : Inv X pins σ H s) (r : Vals vs us) (h : sp vs H Q E0) :
    wpAny (model X.prog X.w) X.A (call (.ref f) us) (EP X pins σ Q) X.xe s := by
  refine wpAny_call (codeAny_mono (F X.A X.stack s H us vs Q E0 hr I.env0 r h) ?_)
  intro res s' hq
  match res, hq with
  | .error e, hq => exact False.elim hq
  | .ok (.ret u), hq => exact I.after hq
  | .ok .next, hq => exact False.elim hq
  | .ok .brk, hq => exact False.elim hq
  | .ok .cont, hq => exact False.elim hq
theorem pe_mtS {pl : Sem Bool} (c : MetS X.prog X.w X.K X.mg X.base k C m sp) (hr : Rm j X.A) (hk : k ≤ j) (he : PE X o ta) (ha : PA X (e :: es) t)
    (hst : starEach (e :: es) X.env = (false, eval e X.env) :: starEach es X.env := by rfl)
    (hpl : (backTo pos (starEach es X.env)).any (·.1) = false := by rfl)
    (ht : eval (.Call (.Attribute o m apos) (e :: es) [] pos) X.env = (do
      let v ← eval o X.env
      standAt apos.atName
      let (g, l) ← holding [v] (getMethod v m pl)
      callWith pos g l (backTo pos (starEach (e :: es) X.env)) (backToKw pos (keywordEach [] X.env))) := by rfl) :
    PE X (.Call (.Attribute o m apos) (e :: es) [] pos) (tMeth C m sp [] E0 ta t) := by
  obtain ⟨f, hc, hm, ok⟩ := c.ex
  constructor
  intro pins s σ H Q I h
  refine PySem.W.methodCall_KW (pl := pl) (thn (he.run pins s σ H _ I h) ?_) ht
  rintro u s1 ⟨y, H1, I1, ry, a, dx, fs, ey, ea, l, q⟩
  subst ey
  have eu : u = Value.ref a := ry
  subst eu
  refine getmeth_ok I1 ea hc hm l ?_
  refine PySem.W.callWith_K (first := [.ref a]) (h₀ := X.base) I.ok.mod.kin hm.kp (thn (ha.run pos pins s1 σ H1 _ I1 q) ?_) hst hpl
  rintro us s2 ⟨vs, H2, I2, r, q2⟩
  rw [List.append_nil] at q2
  exact ⟨I2.kIn, run_okR (us := .ref a :: us) (vs := .ref a :: vs) (fun A out s H us vs Q E hr => ok A out s H us vs Q E hr) (hr.mono hk) I2 (.cons rfl r) q2⟩
theorem pe_mtS0 {pl : Sem Bool} (c : MetS X.prog X.w X.K X.mg X.base k C m sp) (hr : Rm j X.A) (hk : k ≤ j) (he : PE X o ta)
    (ht : eval (.Call (.Attribute o m apos) [] [] pos) X.env = (do
      let v ← eval o X.env
      standAt apos.atName
      let (g, l) ← holding [v] (getMethod v m pl)
      callWith pos g l (backTo pos (starEach [] X.env)) (backToKw pos (keywordEach [] X.env))) := by rfl) :
    PE X (.Call (.Attribute o m apos) [] [] pos) (tMeth C m sp [] E0 ta tNil) := by
  obtain ⟨f, hc, hm, ok⟩ := c.ex
  constructor
  intro pins s σ H Q I h
  refine PySem.W.methodCall_KW (pl := pl) (thn (he.run pins s σ H _ I h) ?_) ht
  rintro u s1 ⟨y, H1, I1, ry, a, dx, fs, ey, ea, l, q⟩
  subst ey
  have eu : u = Value.ref a := ry
  subst eu
  refine getmeth_ok I1 ea hc hm l ?_
  exact PySem.W.callWith_K0 (first := [.ref a]) I1.kIn hm.kp (run_okR (us := [.ref a]) (vs := [.ref a]) ok (hr.mono hk) I1 (.cons rfl .nil) q)
end
end Eu
set_option Elab.async false
set_option linter.all false
set_option maxRecDepth 100000
set_option maxHeartbeats 4000000
/-! Form sets as sorted lists of pairs. -/
namespace Fs
open PySem
abbrev Pr := Int × Str
def Srt (S : List Pr) : Prop := S.Pairwise fun a b => a.1 < b.1
def ins (p : Pr) : List Pr → List Pr
  | [] => [p]
  | q :: r => if p.1 < q.1 then p :: q :: r else if p.1 = q.1 then p :: r else q :: ins p r
def canon (xs : List Pr) : List Pr := xs.foldr ins []
theorem lk_cons (q : Pr) (r : List Pr) (k : Int) : (q :: r).lookup k = if k = q.1 then some q.2 else r.lookup k := by
  rw [List.lookup_cons]
  by_cases h : k = q.1
  · subst h; simp
  · rw [if_neg h, show (k == q.1) = false from beq_eq_false_iff_ne.mpr h]
theorem lk_ins (p : Pr) : ∀ (S : List Pr) (k : Int), (ins p S).lookup k = if k = p.1 then some p.2 else S.lookup k
  | [], k => by
    show ([p] : List Pr).lookup k = _
    rw [lk_cons]
  | q :: r, k => by
    unfold ins
    split
    · rw [lk_cons]
    · split
      · rename_i h1 h2
        rw [lk_cons, lk_cons]
        by_cases h : k = p.1
        · simp [h]
        · rw [if_neg h, if_neg h, if_neg (by rw [← h2]; exact h)]
      · rename_i h1 h2
        rw [lk_cons, lk_ins p r, lk_cons]
        by_cases h : k = p.1
        · subst h
          rw [if_neg (by omega), if_pos rfl, if_pos rfl]
        · rw [if_neg h, if_neg h]
theorem mem_ins {p x : Pr} : ∀ {S : List Pr}, x ∈ ins p S → x = p ∨ x ∈ S
  | [], h => by
    have : x ∈ [p] := h
    simp at this
    exact .inl this
  | q :: r, h => by
    unfold ins at h
    split at h
    · rcases List.mem_cons.mp h with h | h
      · exact .inl h
      · exact .inr h
    · split at h
      · rcases List.mem_cons.mp h with h | h
        · exact .inl h
        · exact .inr (List.mem_cons_of_mem _ h)
      · rcases List.mem_cons.mp h with h | h
        · exact .inr (by rw [h]; exact List.mem_cons_self)
        · rcases mem_ins h with h | h
          · exact .inl h
          · exact .inr (List.mem_cons_of_mem _ h)
theorem srt_ins {p : Pr} : ∀ {S : List Pr}, Srt S → Srt (ins p S)
  | [], _ => List.pairwise_singleton _ _
  | q :: r, h => by
    have h' := List.pairwise_cons.mp h
    unfold ins
    split
    · rename_i h1
      refine List.pairwise_cons.mpr ⟨fun x hx => ?_, h⟩
      rcases List.mem_cons.mp hx with e | hx
      · rw [e]; exact h1
      · exact Int.lt_trans h1 (h'.1 x hx)
    · split
      · rename_i h1 h2
        refine List.pairwise_cons.mpr ⟨fun x hx => ?_, h'.2⟩
        rw [h2]
        exact h'.1 x hx
      · rename_i h1 h2
        refine List.pairwise_cons.mpr ⟨fun x hx => ?_, srt_ins h'.2⟩
        rcases mem_ins hx with e | hx
        · rw [e]; omega
        · exact h'.1 x hx
theorem srt_canon : ∀ xs : List Pr, Srt (canon xs)
  | [] => List.Pairwise.nil
  | p :: r => srt_ins (srt_canon r)
theorem lk_canon (k : Int) : ∀ xs : List Pr, (canon xs).lookup k = xs.lookup k
  | [] => rfl
  | p :: r => by
    show (ins p (canon r)).lookup k = _
    rw [lk_ins, lk_canon k r, lk_cons]
theorem mem_canon {x : Pr} : ∀ {xs : List Pr}, x ∈ canon xs → x ∈ xs
  | [], h => h
  | p :: r, h => by
    rcases mem_ins (show x ∈ ins p (canon r) from h) with e | h
    · rw [e]; exact List.mem_cons_self
    · exact List.mem_cons_of_mem _ (mem_canon h)
theorem lk_none {S : List Pr} {k : Int} (h : ∀ x ∈ S, x.1 ≠ k) : S.lookup k = none := by
  induction S with
  | nil => rfl
  | cons q r ih =>
    rw [lk_cons, if_neg (fun e => h q List.mem_cons_self e.symm)]
    exact ih fun x hx => h x (List.mem_cons_of_mem _ hx)
theorem lk_mem {S : List Pr} {k : Int} {v : Str} (h : S.lookup k = some v) : (k, v) ∈ S := by
  induction S with
  | nil => cases h
  | cons q r ih =>
    rw [lk_cons] at h
    split at h
    · rename_i e
      cases h
      subst e
      exact List.mem_cons_self
    · exact List.mem_cons_of_mem _ (ih h)
theorem srt_ext : ∀ {S T : List Pr}, Srt S → Srt T → (∀ k, S.lookup k = T.lookup k) → S = T
  | [], [], _, _, _ => rfl
  | [], q :: r, _, _, h => by
    have := h q.1
    rw [lk_cons, if_pos rfl] at this
    cases this
  | q :: r, [], _, _, h => by
    have := h q.1
    rw [lk_cons, if_pos rfl] at this
    cases this
  | q :: r, q' :: r', hs, ht, h => by
    have hs' := List.pairwise_cons.mp hs
    have ht' := List.pairwise_cons.mp ht
    have e1 : q.1 = q'.1 := by
      by_cases h1 : q.1 < q'.1
      · have := h q.1
        rw [lk_cons, if_pos rfl, lk_none (S := q' :: r') (k := q.1) (fun x hx => by
          rcases List.mem_cons.mp hx with e | hx
          · rw [e]; omega
          · have := ht'.1 x hx; omega)] at this
        cases this
      · by_cases h2 : q'.1 < q.1
        · have := h q'.1
          rw [lk_cons q' r', if_pos rfl, lk_none (S := q :: r) (k := q'.1) (fun x hx => by
            rcases List.mem_cons.mp hx with e | hx
            · rw [e]; omega
            · have := hs'.1 x hx; omega)] at this
          cases this
        · omega
    have e2 : q.2 = q'.2 := by
      have := h q.1
      rw [lk_cons, if_pos rfl, lk_cons, if_pos e1] at this
      exact Option.some.inj this
    have e : q = q' := Prod.ext e1 e2
    subst e
    refine congrArg (q :: ·) (srt_ext hs'.2 ht'.2 fun k => ?_)
    by_cases hk : k = q.1
    · rw [lk_none (S := r) fun x hx => by have := hs'.1 x hx; omega, lk_none (S := r') fun x hx => by have := ht'.1 x hx; omega]
    · have := h k
      rwa [lk_cons, lk_cons, if_neg hk, if_neg hk] at this
theorem canon_srt {S : List Pr} (h : Srt S) : canon S = S := srt_ext (srt_canon S) h fun k => lk_canon k S
/-- keys all different -/
def Nd (m : List Pr) : Prop := (m.map (·.1)).Nodup
theorem Srt.nd {S : List Pr} (h : Srt S) : Nd S := by
  unfold Nd
  rw [List.nodup_iff_pairwise_ne, List.pairwise_map]
  exact h.imp fun h => by omega
theorem lk_of_mem : ∀ {m : List Pr} {x : Pr}, Nd m → x ∈ m → m.lookup x.1 = some x.2
  | q :: r, x, hn, hx => by
    have hn' := List.nodup_cons.mp (show (q.1 :: r.map (·.1)).Nodup from hn)
    rw [lk_cons]
    rcases List.mem_cons.mp hx with e | hx
    · rw [e, if_pos rfl]
    · have ne : x.1 ≠ q.1 := fun e => hn'.1 (by rw [← e]; exact List.mem_map_of_mem hx)
      rw [if_neg ne]
      exact lk_of_mem hn'.2 hx
theorem Nd.list : ∀ {m : List Pr}, Nd m → m.Nodup
  | [], _ => List.nodup_nil
  | q :: r, h => by
    have h' := List.nodup_cons.mp (show (q.1 :: r.map (·.1)).Nodup from h)
    exact List.nodup_cons.mpr ⟨fun hq => h'.1 (List.mem_map_of_mem hq), Nd.list h'.2⟩
theorem perm_of_lk {m S : List Pr} (h1 : Nd m) (h2 : Nd S) (h : ∀ k, m.lookup k = S.lookup k) : m.Perm S := by
  have n1 : m.Nodup := Nd.list h1
  have n2 : S.Nodup := Nd.list h2
  rw [List.perm_ext_iff_of_nodup n1 n2]
  intro x
  constructor
  · intro hx
    have := lk_of_mem h1 hx
    rw [h] at this
    exact lk_mem this
  · intro hx
    have := lk_of_mem h2 hx
    rw [← h] at this
    exact lk_mem this
theorem Perm.lk {m S : List Pr} (p : m.Perm S) (h : Nd m) (k : Int) : m.lookup k = S.lookup k := by
  have h2 : Nd S := (List.Perm.nodup_iff (p.map (fun x : Pr => x.1))).mp h
  cases e : S.lookup k with
  | some v => exact lk_of_mem h (p.mem_iff.mpr (lk_mem e))
  | none =>
    cases e' : m.lookup k with
    | none => rfl
    | some v =>
      have := lk_of_mem h2 (p.mem_iff.mp (lk_mem e'))
      rw [e] at this
      cases this
/-! ### operations -/
def hasK (S : List Pr) (k : Int) : Bool := (S.lookup k).isSome
def orS (a b : List Pr) : List Pr := canon (a ++ b)
def subS (a b : List Pr) : List Pr := a.filter fun p => !hasK b p.1
def keptS (a b : List Pr) : List Pr := a.filter fun p => hasK b p.1
def andS (a b : List Pr) : List Pr := if a.length < b.length then keptS a b else keptS b a
def xorS (a b : List Pr) : List Pr := orS (subS a b) (subS b a)
theorem srt_filter {f : Pr → Bool} {S : List Pr} (h : Srt S) : Srt (S.filter f) := List.Pairwise.filter _ h
theorem lk_filter {f : Int → Bool} (k : Int) : ∀ S : List Pr, (S.filter fun p => f p.1).lookup k = if f k = true then S.lookup k else none
  | [] => by split <;> rfl
  | q :: r => by
    rw [List.filter_cons]
    by_cases h : f q.1 = true
    · rw [if_pos h, lk_cons, lk_cons, lk_filter k r]
      by_cases e : k = q.1
      · subst e; simp [h]
      · simp [e]
    · rw [if_neg h, lk_filter k r, lk_cons]
      by_cases e : k = q.1
      · subst e; simp [h]
      · simp [e]
theorem lk_append (a b : List Pr) (k : Int) : (a ++ b).lookup k = (a.lookup k).or (b.lookup k) := List.lookup_append ..
theorem lk_or (a b : List Pr) (k : Int) : (orS a b).lookup k = (a.lookup k).or (b.lookup k) := by unfold orS; rw [lk_canon, lk_append]
theorem lk_sub (a b : List Pr) (k : Int) : (subS a b).lookup k = if (b.lookup k).isSome then none else a.lookup k := by
  unfold subS
  rw [lk_filter (f := fun k => !hasK b k)]
  unfold hasK
  cases (b.lookup k) <;> rfl
theorem lk_kept (a b : List Pr) (k : Int) : (keptS a b).lookup k = if (b.lookup k).isSome then a.lookup k else none := by
  unfold keptS
  rw [lk_filter (f := fun k => hasK b k)]
  rfl
theorem srt_or (a b : List Pr) : Srt (orS a b) := srt_canon _
theorem srt_sub {a b : List Pr} (h : Srt a) : Srt (subS a b) := srt_filter h
theorem srt_kept {a b : List Pr} (h : Srt a) : Srt (keptS a b) := srt_filter h
theorem srt_and {a b : List Pr} (h : Srt a) (h' : Srt b) : Srt (andS a b) := by unfold andS; split <;> exact srt_filter (by assumption)
theorem lk_xor (a b : List Pr) (k : Int) : (xorS a b).lookup k = if (a.lookup k).isSome then (if (b.lookup k).isSome then none else a.lookup k) else b.lookup k := by
  unfold xorS
  rw [lk_or, lk_sub, lk_sub]
  cases a.lookup k <;> cases b.lookup k <;> rfl
/-! ### a dict filled -/
/-- d[k] = v -/
def put (m : List Pr) (k : Int) (v : Str) : List Pr := if hasK m k then m.map (fun q => if q.1 = k then (k, v) else q) else m ++ [(k, v)]
theorem lk_map_put (k : Int) (v : Str) (j : Int) : ∀ m : List Pr, (m.map fun q => if q.1 = k then (k, v) else q).lookup j = (m.lookup j).map fun x => if j = k then v else x
  | [] => rfl
  | q :: r => by
    rw [List.map_cons, lk_cons, lk_cons, lk_map_put k v j r]
    by_cases e : q.1 = k
    · rw [if_pos e]
      by_cases ej : j = k
      · subst ej
        rw [if_pos rfl, if_pos e.symm]
        simp
      · rw [if_neg ej, if_neg (by rw [e]; exact ej)]
    · rw [if_neg e]
      by_cases ej : j = q.1
      · rw [if_pos ej, if_pos ej]
        simp [show ¬ j = k from fun h => e (by rw [← ej]; exact h)]
      · rw [if_neg ej, if_neg ej]
theorem lk_put (m : List Pr) (k : Int) (v : Str) (j : Int) : (put m k v).lookup j = if j = k then some v else m.lookup j := by
  unfold put hasK
  cases h : m.lookup k with
  | some x =>
    show (if true = true then _ else _ : List Pr).lookup j = _
    rw [if_pos rfl, lk_map_put]
    by_cases e : j = k
    · subst e; rw [h]; simp
    · rw [if_neg e]
      simp [e]
  | none =>
    show (if false = true then _ else _ : List Pr).lookup j = _
    rw [if_neg Bool.false_ne_true, lk_append, lk_cons]
    by_cases e : j = k
    · subst e; rw [h]; simp
    · rw [if_neg e, if_neg e]
      cases m.lookup j <;> rfl
theorem nd_put {m : List Pr} (k : Int) (v : Str) (h : Nd m) : Nd (put m k v) := by
  unfold put
  split
  · unfold Nd
    rw [List.map_map]
    have : (fun p : Pr => p.1) ∘ (fun q : Pr => if q.1 = k then (k, v) else q) = fun p : Pr => p.1 := by
      funext q
      show (if q.1 = k then (k, v) else q).1 = q.1
      split
      · rename_i e; exact e.symm
      · rfl
    rw [this]
    exact h
  · rename_i hk
    unfold Nd
    rw [List.map_append]
    refine List.nodup_append.mpr ⟨h, by simp, ?_⟩
    intro a ha b hb e
    have hb' : b = k := by simpa using hb
    subst hb'
    subst e
    obtain ⟨q, hq, rfl⟩ := List.mem_map.mp ha
    unfold hasK at hk
    rw [lk_of_mem h hq] at hk
    exact hk rfl
theorem len_put (m : List Pr) (k : Int) (v : Str) : (put m k v).length ≤ m.length + 1 := by
  unfold put
  split
  · rw [List.length_map]; omega
  · rw [List.length_append]; exact Nat.le_refl _
/-- {k: v for k, v in reversed(xs)} -/
def fillR (xs : List Pr) : List Pr := xs.foldr (fun p m => put m p.1 p.2) []
theorem fillR_nd : ∀ xs : List Pr, Nd (fillR xs)
  | [] => List.nodup_nil
  | p :: r => nd_put _ _ (fillR_nd r)
theorem fillR_lk (k : Int) : ∀ xs : List Pr, (fillR xs).lookup k = xs.lookup k
  | [] => rfl
  | p :: r => by
    show (put (fillR r) p.1 p.2).lookup k = _
    rw [lk_put, fillR_lk k r, lk_cons]
theorem fillR_len : ∀ xs : List Pr, (fillR xs).length ≤ xs.length
  | [] => Nat.le_refl _
  | p :: r => Nat.le_trans (len_put _ _ _) (Nat.succ_le_succ (fillR_len r))
theorem fillR_perm (xs : List Pr) : (fillR xs).Perm (canon xs) := perm_of_lk (fillR_nd xs) (srt_canon xs).nd fun k => by rw [fillR_lk, lk_canon]
end Fs
set_option Elab.async false
set_option linter.all false
set_option maxRecDepth 100000
set_option maxHeartbeats 4000000
/-! Sorted lists of pairs. -/
namespace Fg
open PySem
variable {α : Type}
def Srt (S : List (Int × α)) : Prop := S.Pairwise fun a b => a.1 < b.1
def ins (p : (Int × α)) : List (Int × α) → List (Int × α)
  | [] => [p]
  | q :: r => if p.1 < q.1 then p :: q :: r else if p.1 = q.1 then p :: r else q :: ins p r
def canon (xs : List (Int × α)) : List (Int × α) := xs.foldr ins []
theorem lk_cons (q : (Int × α)) (r : List (Int × α)) (k : Int) : (q :: r).lookup k = if k = q.1 then some q.2 else r.lookup k := by
  rw [List.lookup_cons]
  by_cases h : k = q.1
  · subst h; simp
  · rw [if_neg h, show (k == q.1) = false from beq_eq_false_iff_ne.mpr h]
theorem lk_ins (p : (Int × α)) : ∀ (S : List (Int × α)) (k : Int), (ins p S).lookup k = if k = p.1 then some p.2 else S.lookup k
  | [], k => by
    show ([p] : List (Int × α)).lookup k = _
    rw [lk_cons]
  | q :: r, k => by
    unfold ins
    split
    · rw [lk_cons]
    · split
      · rename_i h1 h2
        rw [lk_cons, lk_cons]
        by_cases h : k = p.1
        · simp [h]
        · rw [if_neg h, if_neg h, if_neg (by rw [← h2]; exact h)]
      · rename_i h1 h2
        rw [lk_cons, lk_ins p r, lk_cons]
        by_cases h : k = p.1
        · subst h
          rw [if_neg (by omega), if_pos rfl, if_pos rfl]
        · rw [if_neg h, if_neg h]
theorem mem_ins {p x : (Int × α)} : ∀ {S : List (Int × α)}, x ∈ ins p S → x = p ∨ x ∈ S
  | [], h => by
    have : x ∈ [p] := h
    simp at this
    exact .inl this
  | q :: r, h => by
    unfold ins at h
    split at h
    · rcases List.mem_cons.mp h with h | h
      · exact .inl h
      · exact .inr h
    · split at h
      · rcases List.mem_cons.mp h with h | h
        · exact .inl h
        · exact .inr (List.mem_cons_of_mem _ h)
      · rcases List.mem_cons.mp h with h | h
        · exact .inr (by rw [h]; exact List.mem_cons_self)
        · rcases mem_ins h with h | h
          · exact .inl h
          · exact .inr (List.mem_cons_of_mem _ h)
theorem srt_ins {p : (Int × α)} : ∀ {S : List (Int × α)}, Srt S → Srt (ins p S)
  | [], _ => List.pairwise_singleton _ _
  | q :: r, h => by
    have h' := List.pairwise_cons.mp h
    unfold ins
    split
    · rename_i h1
      refine List.pairwise_cons.mpr ⟨fun x hx => ?_, h⟩
      rcases List.mem_cons.mp hx with e | hx
      · rw [e]; exact h1
      · exact Int.lt_trans h1 (h'.1 x hx)
    · split
      · rename_i h1 h2
        refine List.pairwise_cons.mpr ⟨fun x hx => ?_, h'.2⟩
        rw [h2]
        exact h'.1 x hx
      · rename_i h1 h2
        refine List.pairwise_cons.mpr ⟨fun x hx => ?_, srt_ins h'.2⟩
        rcases mem_ins hx with e | hx
        · rw [e]; omega
        · exact h'.1 x hx
theorem srt_canon : ∀ xs : List (Int × α), Srt (canon xs)
  | [] => List.Pairwise.nil
  | p :: r => srt_ins (srt_canon r)
theorem lk_canon (k : Int) : ∀ xs : List (Int × α), (canon xs).lookup k = xs.lookup k
  | [] => rfl
  | p :: r => by
    show (ins p (canon r)).lookup k = _
    rw [lk_ins, lk_canon k r, lk_cons]
theorem mem_canon {x : (Int × α)} : ∀ {xs : List (Int × α)}, x ∈ canon xs → x ∈ xs
  | [], h => h
  | p :: r, h => by
    rcases mem_ins (show x ∈ ins p (canon r) from h) with e | h
    · rw [e]; exact List.mem_cons_self
    · exact List.mem_cons_of_mem _ (mem_canon h)
theorem lk_none {S : List (Int × α)} {k : Int} (h : ∀ x ∈ S, x.1 ≠ k) : S.lookup k = none := by
  induction S with
  | nil => rfl
  | cons q r ih =>
    rw [lk_cons, if_neg (fun e => h q List.mem_cons_self e.symm)]
    exact ih fun x hx => h x (List.mem_cons_of_mem _ hx)
theorem lk_mem {S : List (Int × α)} {k : Int} {v : α} (h : S.lookup k = some v) : (k, v) ∈ S := by
  induction S with
  | nil => cases h
  | cons q r ih =>
    rw [lk_cons] at h
    split at h
    · rename_i e
      cases h
      subst e
      exact List.mem_cons_self
    · exact List.mem_cons_of_mem _ (ih h)
theorem srt_ext : ∀ {S T : List (Int × α)}, Srt S → Srt T → (∀ k, S.lookup k = T.lookup k) → S = T
  | [], [], _, _, _ => rfl
  | [], q :: r, _, _, h => by
    have := h q.1
    rw [lk_cons, if_pos rfl] at this
    cases this
  | q :: r, [], _, _, h => by
    have := h q.1
    rw [lk_cons, if_pos rfl] at this
    cases this
  | q :: r, q' :: r', hs, ht, h => by
    have hs' := List.pairwise_cons.mp hs
    have ht' := List.pairwise_cons.mp ht
    have e1 : q.1 = q'.1 := by
      by_cases h1 : q.1 < q'.1
      · have := h q.1
        rw [lk_cons, if_pos rfl, lk_none (S := q' :: r') (k := q.1) (fun x hx => by
          rcases List.mem_cons.mp hx with e | hx
          · rw [e]; omega
          · have := ht'.1 x hx; omega)] at this
        cases this
      · by_cases h2 : q'.1 < q.1
        · have := h q'.1
          rw [lk_cons q' r', if_pos rfl, lk_none (S := q :: r) (k := q'.1) (fun x hx => by
            rcases List.mem_cons.mp hx with e | hx
            · rw [e]; omega
            · have := hs'.1 x hx; omega)] at this
          cases this
        · omega
    have e2 : q.2 = q'.2 := by
      have := h q.1
      rw [lk_cons, if_pos rfl, lk_cons, if_pos e1] at this
      exact Option.some.inj this
    have e : q = q' := Prod.ext e1 e2
    subst e
    refine congrArg (q :: ·) (srt_ext hs'.2 ht'.2 fun k => ?_)
    by_cases hk : k = q.1
    · rw [lk_none (S := r) fun x hx => by have := hs'.1 x hx; omega, lk_none (S := r') fun x hx => by have := ht'.1 x hx; omega]
    · have := h k
      rwa [lk_cons, lk_cons, if_neg hk, if_neg hk] at this
theorem canon_srt {S : List (Int × α)} (h : Srt S) : canon S = S := srt_ext (srt_canon S) h fun k => lk_canon k S
/-- keys all different -/
def Nd (m : List (Int × α)) : Prop := (m.map (·.1)).Nodup
theorem Srt.nd {S : List (Int × α)} (h : Srt S) : Nd S := by
  unfold Nd
  rw [List.nodup_iff_pairwise_ne, List.pairwise_map]
  exact h.imp fun h => by omega
theorem lk_of_mem : ∀ {m : List (Int × α)} {x : (Int × α)}, Nd m → x ∈ m → m.lookup x.1 = some x.2
  | q :: r, x, hn, hx => by
    have hn' := List.nodup_cons.mp (show (q.1 :: r.map (·.1)).Nodup from hn)
    rw [lk_cons]
    rcases List.mem_cons.mp hx with e | hx
    · rw [e, if_pos rfl]
    · have ne : x.1 ≠ q.1 := fun e => hn'.1 (by rw [← e]; exact List.mem_map_of_mem hx)
      rw [if_neg ne]
      exact lk_of_mem hn'.2 hx
theorem Nd.list : ∀ {m : List (Int × α)}, Nd m → m.Nodup
  | [], _ => List.nodup_nil
  | q :: r, h => by
    have h' := List.nodup_cons.mp (show (q.1 :: r.map (·.1)).Nodup from h)
    exact List.nodup_cons.mpr ⟨fun hq => h'.1 (List.mem_map_of_mem hq), Nd.list h'.2⟩
theorem perm_of_lk {m S : List (Int × α)} (h1 : Nd m) (h2 : Nd S) (h : ∀ k, m.lookup k = S.lookup k) : m.Perm S := by
  have n1 : m.Nodup := Nd.list h1
  have n2 : S.Nodup := Nd.list h2
  rw [List.perm_ext_iff_of_nodup n1 n2]
  intro x
  constructor
  · intro hx
    have := lk_of_mem h1 hx
    rw [h] at this
    exact lk_mem this
  · intro hx
    have := lk_of_mem h2 hx
    rw [← h] at this
    exact lk_mem this
theorem Perm.lk {m S : List (Int × α)} (p : m.Perm S) (h : Nd m) (k : Int) : m.lookup k = S.lookup k := by
  have h2 : Nd S := (List.Perm.nodup_iff (p.map (fun x : (Int × α) => x.1))).mp h
  cases e : S.lookup k with
  | some v => exact lk_of_mem h (p.mem_iff.mpr (lk_mem e))
  | none =>
    cases e' : m.lookup k with
    | none => rfl
    | some v =>
      have := lk_of_mem h2 (p.mem_iff.mp (lk_mem e'))
      rw [e] at this
      cases this
/-! ### operations -/
def hasK (S : List (Int × α)) (k : Int) : Bool := (S.lookup k).isSome
def orS (a b : List (Int × α)) : List (Int × α) := canon (a ++ b)
def subS (a b : List (Int × α)) : List (Int × α) := a.filter fun p => !hasK b p.1
def keptS (a b : List (Int × α)) : List (Int × α) := a.filter fun p => hasK b p.1
def andS (a b : List (Int × α)) : List (Int × α) := if a.length < b.length then keptS a b else keptS b a
def xorS (a b : List (Int × α)) : List (Int × α) := orS (subS a b) (subS b a)
theorem srt_filter {f : (Int × α) → Bool} {S : List (Int × α)} (h : Srt S) : Srt (S.filter f) := List.Pairwise.filter _ h
theorem lk_filter {f : Int → Bool} (k : Int) : ∀ S : List (Int × α), (S.filter fun p => f p.1).lookup k = if f k = true then S.lookup k else none
  | [] => by split <;> rfl
  | q :: r => by
    rw [List.filter_cons]
    by_cases h : f q.1 = true
    · rw [if_pos h, lk_cons, lk_cons, lk_filter k r]
      by_cases e : k = q.1
      · subst e; simp [h]
      · simp [e]
    · rw [if_neg h, lk_filter k r, lk_cons]
      by_cases e : k = q.1
      · subst e; simp [h]
      · simp [e]
theorem lk_append (a b : List (Int × α)) (k : Int) : (a ++ b).lookup k = (a.lookup k).or (b.lookup k) := List.lookup_append ..
theorem lk_or (a b : List (Int × α)) (k : Int) : (orS a b).lookup k = (a.lookup k).or (b.lookup k) := by unfold orS; rw [lk_canon, lk_append]
theorem lk_sub (a b : List (Int × α)) (k : Int) : (subS a b).lookup k = if (b.lookup k).isSome then none else a.lookup k := by
  unfold subS
  rw [lk_filter (f := fun k => !hasK b k)]
  unfold hasK
  cases (b.lookup k) <;> rfl
theorem lk_kept (a b : List (Int × α)) (k : Int) : (keptS a b).lookup k = if (b.lookup k).isSome then a.lookup k else none := by
  unfold keptS
  rw [lk_filter (f := fun k => hasK b k)]
  rfl
theorem srt_or (a b : List (Int × α)) : Srt (orS a b) := srt_canon _
theorem srt_sub {a b : List (Int × α)} (h : Srt a) : Srt (subS a b) := srt_filter h
theorem srt_kept {a b : List (Int × α)} (h : Srt a) : Srt (keptS a b) := srt_filter h
theorem srt_and {a b : List (Int × α)} (h : Srt a) (h' : Srt b) : Srt (andS a b) := by unfold andS; split <;> exact srt_filter (by assumption)
theorem lk_xor (a b : List (Int × α)) (k : Int) : (xorS a b).lookup k = if (a.lookup k).isSome then (if (b.lookup k).isSome then none else a.lookup k) else b.lookup k := by
  unfold xorS
  rw [lk_or, lk_sub, lk_sub]
  cases a.lookup k <;> cases b.lookup k <;> rfl
/-! ### a dict filled -/
/-- d[k] = v -/
def put (m : List (Int × α)) (k : Int) (v : α) : List (Int × α) := if hasK m k then m.map (fun q => if q.1 = k then (k, v) else q) else m ++ [(k, v)]
theorem lk_map_put (k : Int) (v : α) (j : Int) : ∀ m : List (Int × α), (m.map fun q => if q.1 = k then (k, v) else q).lookup j = (m.lookup j).map fun x => if j = k then v else x
  | [] => rfl
  | q :: r => by
    rw [List.map_cons, lk_cons, lk_cons, lk_map_put k v j r]
    by_cases e : q.1 = k
    · rw [if_pos e]
      by_cases ej : j = k
      · subst ej
        rw [if_pos rfl, if_pos e.symm]
        simp
      · rw [if_neg ej, if_neg (by rw [e]; exact ej)]
    · rw [if_neg e]
      by_cases ej : j = q.1
      · rw [if_pos ej, if_pos ej]
        simp [show ¬ j = k from fun h => e (by rw [← ej]; exact h)]
      · rw [if_neg ej, if_neg ej]
theorem lk_put (m : List (Int × α)) (k : Int) (v : α) (j : Int) : (put m k v).lookup j = if j = k then some v else m.lookup j := by
  unfold put hasK
  cases h : m.lookup k with
  | some x =>
    show (if true = true then _ else _ : List (Int × α)).lookup j = _
    rw [if_pos rfl, lk_map_put]
    by_cases e : j = k
    · subst e; rw [h]; simp
    · rw [if_neg e]
      simp [e]
  | none =>
    show (if false = true then _ else _ : List (Int × α)).lookup j = _
    rw [if_neg Bool.false_ne_true, lk_append, lk_cons]
    by_cases e : j = k
    · subst e; rw [h]; simp
    · rw [if_neg e, if_neg e]
      cases m.lookup j <;> rfl
theorem nd_put {m : List (Int × α)} (k : Int) (v : α) (h : Nd m) : Nd (put m k v) := by
  unfold put
  split
  · unfold Nd
    rw [List.map_map]
    have : (fun p : (Int × α) => p.1) ∘ (fun q : (Int × α) => if q.1 = k then (k, v) else q) = fun p : (Int × α) => p.1 := by
      funext q
      show (if q.1 = k then (k, v) else q).1 = q.1
      split
      · rename_i e; exact e.symm
      · rfl
    rw [this]
    exact h
  · rename_i hk
    unfold Nd
    rw [List.map_append]
    refine List.nodup_append.mpr ⟨h, by simp, ?_⟩
    intro a ha b hb e
    have hb' : b = k := by simpa using hb
    subst hb'
    subst e
    obtain ⟨q, hq, rfl⟩ := List.mem_map.mp ha
    unfold hasK at hk
    rw [lk_of_mem h hq] at hk
    exact hk rfl
theorem len_put (m : List (Int × α)) (k : Int) (v : α) : (put m k v).length ≤ m.length + 1 := by
  unfold put
  split
  · rw [List.length_map]; omega
  · rw [List.length_append]; exact Nat.le_refl _
/-- {k: v for k, v in reversed(xs)} -/
def fillR (xs : List (Int × α)) : List (Int × α) := xs.foldr (fun p m => put m p.1 p.2) []
theorem fillR_nd : ∀ xs : List (Int × α), Nd (fillR xs)
  | [] => List.nodup_nil
  | p :: r => nd_put _ _ (fillR_nd r)
theorem fillR_lk (k : Int) : ∀ xs : List (Int × α), (fillR xs).lookup k = xs.lookup k
  | [] => rfl
  | p :: r => by
    show (put (fillR r) p.1 p.2).lookup k = _
    rw [lk_put, fillR_lk k r, lk_cons]
theorem fillR_len : ∀ xs : List (Int × α), (fillR xs).length ≤ xs.length
  | [] => Nat.le_refl _
  | p :: r => Nat.le_trans (len_put _ _ _) (Nat.succ_le_succ (fillR_len r))
theorem fillR_perm (xs : List (Int × α)) : (fillR xs).Perm (canon xs) := perm_of_lk (fillR_nd xs) (srt_canon xs).nd fun k => by rw [fillR_lk, lk_canon]
end Fg
set_option Elab.async false
set_option linter.all false
set_option maxRecDepth 100000
set_option maxHeartbeats 4000000
/-! Form dicts as sorted lists of triples. -/
namespace Fd
open PySem
open Fs (Pr)
abbrev Tv := Str × Int
abbrev Tr := Int × Tv
def fm (t : Tr) : Pr := (t.1, t.2.1)
def am (t : Tr) : Int × Int := (t.1, t.2.2)
theorem lk_mapk {α β : Type} (g : Int → α → β) (k : Int) : ∀ S : List (Int × α), (S.map fun t => (t.1, g t.1 t.2)).lookup k = (S.lookup k).map (g k)
  | [] => rfl
  | q :: r => by
    rw [List.map_cons, Fg.lk_cons, Fg.lk_cons, lk_mapk g k r]
    by_cases e : k = q.1
    · rw [if_pos e, if_pos e, e]; rfl
    · rw [if_neg e, if_neg e]
theorem lk_fm (k : Int) (S : List Tr) : (S.map fm).lookup k = (S.lookup k).map (·.1) := lk_mapk (fun _ p => p.1) k S
theorem lk_am (k : Int) (S : List Tr) : (S.map am).lookup k = (S.lookup k).map (·.2) := lk_mapk (fun _ p => p.2) k S
theorem srt_mapk {α β : Type} (g : Int → α → β) {S : List (Int × α)} (h : Fg.Srt S) : Fg.Srt (S.map fun t => (t.1, g t.1 t.2)) := by
  unfold Fg.Srt
  rw [List.pairwise_map]
  exact h
theorem srt_fm {S : List Tr} (h : Fg.Srt S) : Fs.Srt (S.map fm) := srt_mapk (fun _ (p : Tv) => p.1) h
theorem srt_am {S : List Tr} (h : Fg.Srt S) : Fg.Srt (S.map am) := srt_mapk (fun _ (p : Tv) => p.2) h
theorem nd_fm {S : List Tr} : Fs.Nd (S.map fm) ↔ Fg.Nd S := by
  unfold Fs.Nd Fg.Nd
  rw [List.map_map]
  exact Iff.rfl
theorem nd_am {S : List Tr} : Fg.Nd (S.map am) ↔ Fg.Nd S := by
  unfold Fg.Nd
  rw [List.map_map]
  exact Iff.rfl
theorem lk_some_of_mem {α : Type} {xs : List (Int × α)} {t : Int × α} (h : t ∈ xs) : (xs.lookup t.1).isSome = true := by
  induction xs with
  | nil => cases h
  | cons q r ih =>
    rw [Fg.lk_cons]
    by_cases e : t.1 = q.1
    · rw [if_pos e]; rfl
    · rw [if_neg e]
      rcases List.mem_cons.mp h with h | h
      · exact absurd (by rw [h]) e
      · exact ih h
theorem lk_rev_some {α : Type} (xs : List (Int × α)) (k : Int) : (xs.reverse.lookup k).isSome = (xs.lookup k).isSome := by
  have go : ∀ (xs ys : List (Int × α)), (∀ t, t ∈ xs → t ∈ ys) → (xs.lookup k).isSome = true → (ys.lookup k).isSome = true := fun xs ys h e => by
    obtain ⟨v, hv⟩ := Option.isSome_iff_exists.mp e
    exact lk_some_of_mem (t := (k, v)) (h _ (Fg.lk_mem hv))
  rw [Bool.eq_iff_iff]
  exact ⟨go _ _ fun t h => List.mem_reverse.mp h, go _ _ fun t h => List.mem_reverse.mpr h⟩
/-- FormDict(xs): first forms, last values -/
def lastV (xs : List Tr) (k : Int) (v : Int) : Int := ((xs.reverse.lookup k).map (·.2)).getD v
def dictOf (xs : List Tr) : List Tr := (Fg.canon xs).map fun t => (t.1, (t.2.1, lastV xs t.1 t.2.2))
theorem lk_dictOf (xs : List Tr) (k : Int) : (dictOf xs).lookup k = (xs.lookup k).map fun p => (p.1, lastV xs k p.2) := by
  unfold dictOf
  rw [lk_mapk (fun k (p : Tv) => (p.1, lastV xs k p.2)), Fg.lk_canon]
theorem srt_dictOf (xs : List Tr) : Fg.Srt (dictOf xs) := srt_mapk (fun k (p : Tv) => (p.1, lastV xs k p.2)) (Fg.srt_canon xs)
theorem fm_dictOf (xs : List Tr) : (dictOf xs).map fm = Fs.canon (xs.map fm) := by
  refine Fs.srt_ext (srt_fm (srt_dictOf xs)) (Fs.srt_canon _) fun k => ?_
  rw [lk_fm, lk_dictOf, Fs.lk_canon, lk_fm, Option.map_map]
  rfl
theorem am_dictOf (xs : List Tr) : (Fg.fillR (xs.map am).reverse).Perm ((dictOf xs).map am) := by
  refine Fg.perm_of_lk (Fg.fillR_nd _) (srt_am (srt_dictOf xs)).nd fun k => ?_
  rw [Fg.fillR_lk, lk_am, lk_dictOf, ← List.map_reverse, lk_am, Option.map_map]
  have := lk_rev_some xs k
  unfold lastV
  cases h1 : xs.reverse.lookup k <;> cases h2 : xs.lookup k <;> rw [h1, h2] at this <;> first | rfl | cases this
theorem mem_dictOf {xs : List Tr} {t : Tr} (h : t ∈ dictOf xs) : (∃ a ∈ xs, a.1 = t.1 ∧ a.2.1 = t.2.1) ∧ ∃ b ∈ xs, b.2.2 = t.2.2 := by
  unfold dictOf at h
  obtain ⟨u, hu, rfl⟩ := List.mem_map.mp h
  have hu' := Fg.mem_canon hu
  refine ⟨⟨u, hu', rfl, rfl⟩, ?_⟩
  unfold lastV
  cases e : xs.reverse.lookup u.1 with
  | none => exact ⟨u, hu', rfl⟩
  | some p => exact ⟨(u.1, p), List.mem_reverse.mp (Fg.lk_mem e), rfl⟩
/-! ### operations -/
def orD (a b : List Tr) : List Tr := dictOf (a ++ b)
theorem lk_rev {a : List Tr} (h : Fg.Nd a) (k : Int) : a.reverse.lookup k = a.lookup k := by
  have p := List.reverse_perm a
  exact Fg.Perm.lk p ((List.Perm.nodup_iff (p.map (fun x : Tr => x.1))).mpr h) k
def orV : Option Tv → Option Tv → Option Tv
  | some p, some q => some (p.1, q.2)
  | some p, none => some p
  | none, o => o
theorem lk_orD {a b : List Tr} (ha : Fg.Nd a) (hb : Fg.Nd b) (k : Int) : (orD a b).lookup k = orV (a.lookup k) (b.lookup k) := by
  unfold orD
  rw [lk_dictOf, Fg.lk_append]
  unfold lastV
  rw [List.reverse_append, Fg.lk_append, lk_rev ha, lk_rev hb]
  cases a.lookup k <;> cases b.lookup k <;> rfl
def subD (a : List Tr) (s : List Pr) : List Tr := a.filter fun t => !Fs.hasK s t.1
def keptD (a : List Tr) (s : List Pr) : List Tr := a.filter fun t => Fs.hasK s t.1
def lookD (s : List Pr) (d : List Tr) : List Tr := (s.filter fun p => Fg.hasK d p.1).map fun p => (p.1, (p.2, ((d.lookup p.1).map (·.2)).getD 0))
theorem dictOf_srt {S : List Tr} (h : Fg.Srt S) : dictOf S = S := by
  refine Fg.srt_ext (srt_dictOf S) h fun k => ?_
  rw [lk_dictOf]
  unfold lastV
  rw [lk_rev h.nd]
  cases S.lookup k <;> rfl
theorem srt_lookD {s : List Pr} {d : List Tr} (h : Fs.Srt s) : Fg.Srt (lookD s d) := srt_mapk (fun k (z : Str) => (z, ((d.lookup k).map (fun p : Tv => p.2)).getD 0)) (Fs.srt_filter h)
theorem lk_lookD (s : List Pr) (d : List Tr) (k : Int) : (lookD s d).lookup k = match s.lookup k, d.lookup k with
    | some z, some p => some (z, p.2)
    | _, _ => none := by
  unfold lookD
  rw [lk_mapk (fun k (z : Str) => (z, ((d.lookup k).map (·.2)).getD 0)), Fs.lk_filter (f := fun k => Fg.hasK d k)]
  unfold Fg.hasK
  cases d.lookup k <;> cases s.lookup k <;> rfl
theorem lk_keptD (a : List Tr) (s : List Pr) (k : Int) : (keptD a s).lookup k = if (s.lookup k).isSome then a.lookup k else none := by
  unfold keptD
  rw [Fg.lk_filter (f := fun k => Fs.hasK s k)]
  rfl
theorem lk_subD (a : List Tr) (s : List Pr) (k : Int) : (subD a s).lookup k = if (s.lookup k).isSome then none else a.lookup k := by
  unfold subD
  rw [Fg.lk_filter (f := fun k => !Fs.hasK s k)]
  unfold Fs.hasK
  cases (s.lookup k) <;> rfl
theorem orD_nil {S : List Tr} (h : Fg.Srt S) : orD [] S = S := dictOf_srt h
end Fd
set_option Elab.async false
set_option linter.all false
set_option maxRecDepth 100000
set_option maxHeartbeats 4000000
namespace Eu
open PySem PySem.Spec PyProof.Rows L2
open C8 (pe_gc pss_cut)
/-- the builtins' names are the builtins' -/
structure Bl (mg : Str → Option Value) : Prop where
  len : mg "len" = none
  abs : mg "abs" = none
  isinstance : mg "isinstance" = none
  int : mg "int" = none
  bool : mg "bool" = none
  str : mg "str" = none
  tuple : mg "tuple" = none
  all : mg "all" = none
  any : mg "any" = none
  repr : mg "repr" = none
  range : mg "range" = none
  max : mg "max" = none
  min : mg "min" = none
  list : mg "list" = none
  dict : mg "dict" = none
  set : mg "set" = none
  sorted : mg "sorted" = none
  reversed : mg "reversed" = none
  enumerate : mg "enumerate" = none
  zip : mg "zip" = none
  sum : mg "sum" = none
  type : mg "type" = none
/-! ### things -/
def tyD : PyData → String
  | .none => "NoneType"
  | .bool _ => "bool"
  | .int _ => "int"
  | .str _ => "str"
  | .list _ => "list"
  | .tuple _ => "tuple"
  | .dict _ => "dict"
/-- data, or a dict at the top -/
def Th (K : PySem.W.Frag) (H : Hp) (x : V) (d : PyData) : Prop := Dp K H x d ∨ ∃ a z, x = .ref a ∧ H a = some (.dK [(Sum.inl 0, .str z)]) ∧ d = .dict [(.int 0, .str z)]
theorem Th.same {K : PySem.W.Frag} {H H' : Hp} {x : V} {d : PyData} (h : Th K H x d) (s : Same H H') : Th K H' x d := by
  rcases h with h | ⟨a, z, e, h, e'⟩
  · exact .inl (Same.dp s h)
  · exact .inr ⟨a, z, e, s _ _ h, e'⟩
theorem tyx_dp {K : PySem.W.Frag} {H : Hp} : ∀ {d : PyData} {x : V}, Dp K H x d → TyX K H x (.type (tyD d))
  | .none, _, .non => .base .non
  | .bool _, _, .bl b => .base (.bl b)
  | .int _, _, .int i => .base (.int i)
  | .str _, _, .str z => .base (.str z)
  | .list _, _, .lst h _ => by
    rcases h with (h | ⟨o, h⟩) | ⟨o, its, n, h, hc, _⟩
    · exact .base (.lst h)
    · exact .base (.frz h)
    · exact .kList h hc
  | .tuple _, _, .tup h _ => by
    rcases h with (h | ⟨o, h⟩) | ⟨o, its, n, h, hc, _⟩
    · exact .base (.tup h)
    · exact .fTuple h
    · exact .kTuple h hc
theorem tyx_th {K : PySem.W.Frag} {H : Hp} {d : PyData} {x : V} (h : Th K H x d) : TyX K H x (.type (tyD d)) := by
  rcases h with h | ⟨a, z, rfl, h, rfl⟩
  · exact tyx_dp h
  · exact .base (.dK h)
def isI : PyData → Bool
  | .int _ => true
  | .bool _ => true
  | _ => false
def isB : PyData → Bool
  | .bool _ => true
  | _ => false
def isS : PyData → Bool
  | .str _ => true
  | _ => false
def isT : PyData → Bool
  | .tuple _ => true
  | _ => false
theorem kit_int : ∀ d : PyData, kitB (tyD d) "int" = some (isI d)
  | .none => (by decide +kernel : kitB "NoneType" "int" = some false)
  | .bool _ => (by decide +kernel : kitB "bool" "int" = some true)
  | .int _ => (by decide +kernel : kitB "int" "int" = some true)
  | .str _ => (by decide +kernel : kitB "str" "int" = some false)
  | .list _ => (by decide +kernel : kitB "list" "int" = some false)
  | .tuple _ => (by decide +kernel : kitB "tuple" "int" = some false)
  | .dict _ => (by decide +kernel : kitB "dict" "int" = some false)
theorem kit_bool : ∀ d : PyData, kitB (tyD d) "bool" = some (isB d)
  | .none => (by decide +kernel : kitB "NoneType" "bool" = some false)
  | .bool _ => (by decide +kernel : kitB "bool" "bool" = some true)
  | .int _ => (by decide +kernel : kitB "int" "bool" = some false)
  | .str _ => (by decide +kernel : kitB "str" "bool" = some false)
  | .list _ => (by decide +kernel : kitB "list" "bool" = some false)
  | .tuple _ => (by decide +kernel : kitB "tuple" "bool" = some false)
  | .dict _ => (by decide +kernel : kitB "dict" "bool" = some false)
theorem kit_str : ∀ d : PyData, kitB (tyD d) "str" = some (isS d)
  | .none => (by decide +kernel : kitB "NoneType" "str" = some false)
  | .bool _ => (by decide +kernel : kitB "bool" "str" = some false)
  | .int _ => (by decide +kernel : kitB "int" "str" = some false)
  | .str _ => (by decide +kernel : kitB "str" "str" = some true)
  | .list _ => (by decide +kernel : kitB "list" "str" = some false)
  | .tuple _ => (by decide +kernel : kitB "tuple" "str" = some false)
  | .dict _ => (by decide +kernel : kitB "dict" "str" = some false)
theorem kit_tuple : ∀ d : PyData, kitB (tyD d) "tuple" = some (isT d)
  | .none => (by decide +kernel : kitB "NoneType" "tuple" = some false)
  | .bool _ => (by decide +kernel : kitB "bool" "tuple" = some false)
  | .int _ => (by decide +kernel : kitB "int" "tuple" = some false)
  | .str _ => (by decide +kernel : kitB "str" "tuple" = some false)
  | .list _ => (by decide +kernel : kitB "list" "tuple" = some false)
  | .tuple _ => (by decide +kernel : kitB "tuple" "tuple" = some true)
  | .dict _ => (by decide +kernel : kitB "dict" "tuple" = some false)

/-! ### what the functions tell -/
def whole : PyData → Bool
  | .int _ => true
  | _ => false
def between (lo hi : Int) : PyData → Bool
  | .int i => decide (lo ≤ i) && decide (i ≤ hi)
  | _ => false
def letter (c : Nat) : Bool := decide (97 ≤ c) && decide (c ≤ 122)
def letters (z : Str) : Bool := z.cps.toList.all letter
def kept : List Str := ["keys", "look", "self"]
def nameS (z : Str) : Bool := decide (1 ≤ z.length) && decide (z.length ≤ 4) && letters z && !(kept.contains z)
def nameD : PyData → Bool
  | .str z => nameS z
  | _ => false
def valueD : PyData → Bool
  | .int i => decide (i.natAbs < 10 ^ 40)
  | _ => false
def elemD : PyData → Bool
  | .tuple [k, n] => between 0 999999 k && nameD n
  | _ => false
def entryD : PyData → Bool
  | .tuple [k, n, v] => between 0 999999 k && nameD n && valueD v
  | _ => false
/-- a def of one thing that tells a bool -/
def spB (K : PySem.W.Frag) (f : PyData → Bool) : Sp := fun vs H Q _ => ∃ (x : V) (d : PyData), vs = [x] ∧ Th K H x d ∧ Small d ∧ ∀ H', Same H H' → Q (.bl (f d)) H'
/-- .. within bounds -/
def spR (K : PySem.W.Frag) : Sp := fun vs H Q _ => ∃ (x : V) (d : PyData) (lo hi : Int), vs = [x, .int lo, .int hi] ∧ Th K H x d ∧ Small d ∧ ∀ H', Same H H' → Q (.bl (between lo hi d)) H'
def spLetters : Sp := fun vs H Q _ => ∃ z : Str, vs = [.str z] ∧ z.length ≤ 100000 ∧ ∀ H', Same H H' → Q (.bl (letters z)) H'
theorem th_str {K : PySem.W.Frag} {H : Hp} {x : V} {z : Str} (h : Th K H x (.str z)) : x = .str z := by
  rcases h with h | ⟨a, z, e, h, e'⟩
  · cases h; rfl
  · cases e'
theorem th_int {K : PySem.W.Frag} {H : Hp} {x : V} {i : Int} (h : Th K H x (.int i)) : x = .int i := by
  rcases h with h | ⟨a, z, e, h, e'⟩
  · cases h; rfl
  · cases e'
theorem th_tuple {K : PySem.W.Frag} {H : Hp} {x : V} {ds : List PyData} (h : Th K H x (.tuple ds)) : ∃ a xs, x = .ref a ∧ SqT K H a xs ∧ DpAll K H xs ds := by
  rcases h with h | ⟨a, z, e, h, e'⟩
  · cases h with
    | tup h1 h2 => exact ⟨_, _, rfl, h1, h2⟩
  · cases e'
theorem dpAll_len {K : PySem.W.Frag} {H : Hp} : ∀ {xs : List V} {ds : List PyData}, DpAll K H xs ds → xs.length = ds.length
  | _, _, .nil => rfl
  | _, _, .cons _ h => congrArg (· + 1) (dpAll_len h)
theorem in_kept (z : Str) : inV (.str z) (kept.map V.str) = kept.contains z := by
  unfold inV kept
  simp only [List.map_cons, List.map_nil, List.any_cons, List.any_nil, List.contains_cons, List.contains_nil, eqV]
  congr 1
  · exact BEq.comm
  congr 1
  · exact BEq.comm
  congr 1
  exact BEq.comm
theorem len2 {α : Type} : ∀ {l : List α}, l.length = 2 → ∃ a b, l = [a, b]
  | [a, b], _ => ⟨a, b, rfl⟩
theorem len3 {α : Type} : ∀ {l : List α}, l.length = 3 → ∃ a b c, l = [a, b, c]
  | [a, b, c], _ => ⟨a, b, c, rfl⟩
theorem elem_no : ∀ {ds : List PyData}, ¬ ds.length = 2 → elemD (.tuple ds) = false
  | [], _ => rfl
  | [_], _ => rfl
  | [_, _], h => absurd rfl h
  | _ :: _ :: _ :: _, _ => rfl
theorem entry_no : ∀ {ds : List PyData}, ¬ ds.length = 3 → entryD (.tuple ds) = false
  | [], _ => rfl
  | [_], _ => rfl
  | [_, _], _ => rfl
  | [_, _, _], h => absurd rfl h
  | _ :: _ :: _ :: _ :: _, _ => rfl
theorem len_line {n : Nat} (h : n ≤ 100000) : n ≤ sizeLine := Nat.le_of_lt (Nat.lt_of_le_of_lt h (by decide))

/-! ### the bag -/
def Bag (H : Hp) (b : Addr) (n : Nat) : Prop := ∃ far mix cnt : Int, H b = some (.lst [.int far, .int mix, .int cnt]) ∧
  0 ≤ far ∧ 0 ≤ mix ∧ mix < 2305843009213693951 ∧ 0 ≤ cnt ∧ cnt ≤ n
theorem Bag.mono {H : Hp} {b : Addr} {n m : Nat} (h : Bag H b n) (l : n ≤ m) : Bag H b m := by
  obtain ⟨f, x, c, e, h1, h2, h3, h4, h5⟩ := h
  exact ⟨f, x, c, e, h1, h2, h3, h4, by omega⟩
theorem Bag.same {H H' : Hp} {b : Addr} {n : Nat} (h : Bag H b n) (s : Same H H') : Bag H' b n := by
  obtain ⟨f, x, c, e, h1⟩ := h
  exact ⟨f, x, c, s _ _ e, h1⟩
theorem Bag.some {H : Hp} {b : Addr} {n : Nat} (h : Bag H b n) : ∃ o, H b = some o := by
  obtain ⟨f, x, c, e, h1⟩ := h
  exact ⟨_, e⟩

def spTake : Sp := fun vs H Q _ => ∃ (b : Addr) (m : Int) (n : Nat), vs = [.ref b, .int m] ∧ 0 < m ∧ m < 1073741824 ∧ Bag H b n ∧ n ≤ 1000000 ∧
  ∀ (d : Int) (H' : Hp), 0 ≤ d → d < m → But b H H' → Bag H' b (n + 1) → Q (.int d) H'

def spBag (K : PySem.W.Frag) : Sp := fun vs H Q _ => ∃ (a : Addr) (ns : List Int) (i : Int), vs = [.ref a, .int i] ∧ SqL K H a (ns.map V.int) ∧ 0 ≤ i ∧ i ≤ 1000 ∧
  ∀ (p : Addr) (H' : Hp), Same H H' → H p = none → Bag H' p 0 → Q (.ref p) H'
theorem but_new {b p : Addr} {H : Hp} {o : HO} (h : H p = none) : But b H (upd H p o) := But.of_same (same_new h)
theorem Bag.new {b p : Addr} {H : Hp} {o : HO} {n : Nat} (h : Bag H b n) (e : H p = none) : Bag (upd H p o) b n := h.same (same_new e)
theorem Bag.ne {b p : Addr} {H : Hp} {n : Nat} (h : Bag H b n) (e : H p = none) : p ≠ b := fun z => by
  obtain ⟨o, ho⟩ := h.some
  rw [z, ho] at e
  cases e
theorem But.at {b c : Addr} {H H' : Hp} {o : HO} (h : But b H H') (n : c ≠ b) (e : H c = some o) : H' c = some o := by
  have := h c o (by rw [hid_ne n]; exact e)
  rw [hid_ne n] at this
  exact this
theorem But.put {b p : Addr} {H H' : Hp} {o : HO} (h : But b H H') (n : H p = none) : But b H (L2.upd H' p o) := fun c u e => by
  obtain ⟨nb, e'⟩ := hid_some e
  rw [hid_ne nb, upd_ne (ne_of_none e' n)]
  exact h.at nb e'
theorem Bag.put {b p : Addr} {H : Hp} {o : HO} {n : Nat} (h : Bag H b n) (e : p ≠ b) : Bag (upd H p o) b n := by
  obtain ⟨f, x, c, h1, h2⟩ := h
  exact ⟨f, x, c, by rw [upd_ne e.symm]; exact h1, h2⟩
theorem But.back {b : Addr} {H H1 H2 : Hp} (h : But b H1 H2) (s : Same H H1) (n : H b = none) : Same H H2 := fun c o e =>
  h.at (ne_of_none e n) (s c o e)
theorem Th.out {K : PySem.W.Frag} {b : Addr} {H : Hp} {x : V} {d : PyData} (h : Th K (hid H b) x d) : Th K H x d := h.same hid_same
end Eu
set_option Elab.async false
set_option linter.all false
set_option maxRecDepth 100000
set_option maxHeartbeats 4000000
namespace Eu
open PySem PySem.Spec PyProof.Rows L2
/-- item by item -/
def Rel2 {α : Type} (R : α → V → Hp → Prop) (H : Hp) (xs : List α) (ys : List V) : Prop := xs.length = ys.length ∧ ∀ (i : Nat) (x : α) (y : V), xs[i]? = some x → ys[i]? = some y → R x y H
theorem Rel2.snoc {α : Type} {R : α → V → Hp → Prop} {H : Hp} {xs : List α} {ys : List V} {x : α} {y : V} (h : Rel2 R H xs ys) (r : R x y H) : Rel2 R H (xs ++ [x]) (ys ++ [y]) := by
  obtain ⟨hl, h⟩ := h
  refine ⟨by simp [hl], fun i a b ea eb => ?_⟩
  by_cases hi : i < xs.length
  · rw [List.getElem?_append_left hi] at ea
    rw [List.getElem?_append_left (by omega)] at eb
    exact h i a b ea eb
  · have hi' : i = xs.length := by
      have := (List.getElem?_eq_some_iff.mp ea).1
      rw [List.length_append, List.length_singleton] at this
      omega
    subst hi'
    rw [List.getElem?_append_right (Nat.le_refl _)] at ea
    rw [List.getElem?_append_right (by omega)] at eb
    simp at ea
    simp [hl] at eb
    subst ea eb
    exact r
section
variable {α : Type} {J : It} {xs : List α} {Y : α → Hp → V → Hp → Prop} {S : Hp → Prop} {g : TG}
/-- a comprehension without a test: each item gives something new that R tells -/
theorem lc_rel {te : TE} {vs : List Nat} {σ : L2.St} {H1 : Hp} {D : Addr} {Qd : Hp → Prop} (o : Over J xs Y S) (R : α → V → Hp → Prop)
    (nD : H1 D = none) (hn : xs.length ≤ sizeLine) (hS : ∀ H, Same H1 H → S H)
    (hR : ∀ x y H H' acc, H D = some (.lst acc) → R x y H → But D H H' → R x y H')
    (hs : ∀ x ∈ xs, ∀ H v H' (Nx : V → Hp → Prop), Same H1 H → Y x H v H' → (∀ y H'', Same H H'' → R x y H'' → Nx y H'') →
      g v (wipe σ vs) H' fun σ2 H2 => wipe σ2 vs = wipe σ vs ∧ te σ2 H2 fun y H4 => Nx y H4)
    (hg : ∀ (v : V) (σ : L2.St) (H : Hp) (A B : L2.St → Hp → Prop), (∀ σ H, A σ H → B σ H) → g v σ H A → g v σ H B)
    (hd : ∀ H ys, Same H1 H → H D = some (.lst ys) → Rel2 R H xs ys → Qd H) :
    ∃ W : Nat → Nat → Hp → Prop, (∃ m, W 0 m (upd H1 D (.lst []))) ∧ ∀ i m H, W i m H → (J.stop i H ∧ Qd H) ∨ (J.go i H ∧
      ∃ Nx : Hp → Prop, (∀ H', Nx H' → ∃ m', m' < m ∧ W (i + 1) m' H') ∧ ∀ x H', J.yld i H x H' → g x (wipe σ vs) H' fun σ2 H2 => wipe σ2 vs = wipe σ vs ∧ tYes σ2 H2 fun b H3 =>
        if b = true then te σ2 H3 fun y H4 => ∃ acc, H4 D = some (.lst acc) ∧ acc.length < sizeLine ∧ Nx (upd H4 D (.lst (acc ++ [y]))) else Nx H3) := by
  refine lc_over o (fun i H => Same H1 H ∧ ∃ ys, H D = some (.lst ys) ∧ Rel2 R H (xs.take i) ys) ⟨same_new nD, [], upd_same, ?_⟩ (fun i H _ p => hS H p.1) ?_ ?_
  · exact ⟨rfl, fun i x y e => by simp at e⟩
  · rintro i x H v H' e ⟨s, ys, hD, hr⟩ y
    have hi := (List.getElem?_eq_some_iff.mp e).1
    have key := hs x (List.mem_of_getElem? e) H v H' (fun y H4 => ∃ acc, H4 D = some (.lst acc) ∧ acc.length < sizeLine ∧
      (Same H1 (upd H4 D (.lst (acc ++ [y]))) ∧ ∃ ys, (upd H4 D (.lst (acc ++ [y]))) D = some (.lst ys) ∧ Rel2 R (upd H4 D (.lst (acc ++ [y]))) (xs.take (i + 1)) ys)) s y ?_
    · refine hg _ _ _ _ _ ?_ key
      rintro σ2 H2 ⟨w, q⟩
      exact ⟨w, lc_yes q⟩
    · intro y H4 s4 r
      have hD4 := s4 _ _ hD
      refine ⟨ys, hD4, ?_, fun b u z => ?_, _, upd_same, ?_⟩
      · have := hr.1
        rw [List.length_take] at this
        omega
      · rw [upd_ne (ne_of_none z nD)]
        exact s4 _ _ (s _ _ z)
      · rw [List.take_add_one, e]
        refine Rel2.snoc ⟨hr.1, fun j a b ea eb => ?_⟩ (hR _ _ _ _ _ hD4 r But.upd)
        exact hR _ _ _ _ _ hD (hr.2 j a b ea eb) ((But.of_same s4).trans But.upd)
  · rintro H ⟨s, ys, hD, hr⟩
    rw [List.take_length] at hr
    exact hd H ys s hD hr
end
/-- a dict read while it is locked, and then opened again -/
theorem same_open {H H' : Hp} {d : Addr} {od : Obj} {u : HO} (hd : H d = some u) (s : Same (upd H d (.frz od u)) H') : Same H (upd H' d u) := fun c o e => by
  by_cases hc : c = d
  · subst hc
    rw [hd] at e
    rw [upd_same]
    exact e
  · rw [upd_ne hc]
    exact s _ _ (by rw [upd_ne hc]; exact e)
end Eu
set_option Elab.async false
set_option linter.all false
set_option maxRecDepth 100000
set_option maxHeartbeats 4000000
namespace Eu
open PySem PySem.Spec PyProof.Rows L2
section
variable {X : Cx}
/-- d.update(o), another dict -/
def rUpdate : V → List V → Hp → VK → Prop := fun x vs H Q => ∃ (d o : Addr) (kvs more : List (Key × V)), x = .ref d ∧ vs = [.ref o] ∧ H d = some (.dK kvs) ∧ Rd H o (.dK more) ∧ d ≠ o ∧ kvs.length + more.length ≤ sizeLine ∧
  Q .non (upd H d (.dK (mergeK kvs more)))
theorem mt_update : MtR X "dict.update" rUpdate := by
  intro pins s σ H x vs v us Q I rx rv h
  obtain ⟨d, o, kvs, more, rfl, rfl, hd, ho, hne, hz, q⟩ := h
  cases rx
  obtain ⟨u, rfl, ru⟩ := vals1 rv
  cases ru
  obtain ⟨z1, lo1, vs1, rel1, dd1⟩ := dk_of I.hok hd
  obtain ⟨z2, lo2, vs2, rel2, dd2⟩ := dk_rd I.hok ho
  have hl : (mergeK kvs more).length ≤ sizeLine := Nat.le_trans (length_mergeK more kvs) hz
  refine call_meetsIn PySem.F.slot_dict_update dd1.typeIs PySem.F.entry_dict_update (PySem.F.args_dict_update_2 _ _) (meets_dict_update (mixKind X.prog X.w) d o hne lo2)
    ⟨vs1, vs2, dd1, dd2, by rw [← rel1.length, ← rel2.length]; exact hz, fun h' dd' _ hs => ?_⟩
  have he : ∃ q, h'.get? d = some q := let ⟨q, _, _, hq, _⟩ := dd'; ⟨q, hq⟩
  exact ⟨.non, _, d_write I (by rw [hd]; exact True.intro) hs he (dk_new hl lo1 (KV.merge rel2 rel1) dd'), rfl, q⟩
theorem call_dictPK {K : PySem.W.Frag} (hcalm : X.calm = true) (h : X.K = K := by rfl) : CallR X (.type "dict") (fun xs H Q => ∃ (a : Addr) (ps : List Addr) (kvs : List (Key × V)), xs = [.ref a] ∧ SqL K H a (ps.map V.ref) ∧ Paired (fun p kv => SqT K H p [kV kv.1, kv.2]) ps kvs ∧
    ∀ p, H p = none → Q (.ref p) (upd H p (.dK (mergeK [] kvs)))) := by
  subst h
  exact call_dictP hcalm
theorem sl_listK {K : PySem.W.Frag} (h : X.K = K := by rfl) : SlR X (rSlL K) := by subst h; exact sl_list
end
section
variable {α : Type} {J : It} {xs : List α} {Y : α → Hp → V → Hp → Prop} {S : Hp → Prop} {g : TG}
/-- a comprehension: the items with f give something new that R tells -/
theorem lc_relF {tt : TT} {te : TE} {vs : List Nat} {σ : L2.St} {H1 : Hp} {D : Addr} {Qd : Hp → Prop} (o : Over J xs Y S) (f : α → Bool) (R : α → V → Hp → Prop)
    (nD : H1 D = none) (hn : xs.length ≤ sizeLine) (hS : ∀ H, Same H1 H → S H)
    (hR : ∀ x y H H' acc, H D = some (.lst acc) → R x y H → But D H H' → R x y H')
    (hs : ∀ x ∈ xs, ∀ H v H' (Nx : Option V → Hp → Prop), Same H1 H → Y x H v H' → (∀ y H'', f x = true → Same H H'' → R x y H'' → Nx (some y) H'') → (∀ H'', f x = false → Same H H'' → Nx none H'') →
      g v (wipe σ vs) H' fun σ2 H2 => wipe σ2 vs = wipe σ vs ∧ tt σ2 H2 fun b H3 => if b = true then te σ2 H3 fun y H4 => Nx (some y) H4 else Nx none H3)
    (hd : ∀ H ys, Same H1 H → H D = some (.lst ys) → Rel2 R H (xs.filter f) ys → Qd H) :
    ∃ W : Nat → Nat → Hp → Prop, (∃ m, W 0 m (upd H1 D (.lst []))) ∧ ∀ i m H, W i m H → (J.stop i H ∧ Qd H) ∨ (J.go i H ∧
      ∃ Nx : Hp → Prop, (∀ H', Nx H' → ∃ m', m' < m ∧ W (i + 1) m' H') ∧ ∀ x H', J.yld i H x H' → g x (wipe σ vs) H' fun σ2 H2 => wipe σ2 vs = wipe σ vs ∧ tt σ2 H2 fun b H3 =>
        if b = true then te σ2 H3 fun y H4 => ∃ acc, H4 D = some (.lst acc) ∧ acc.length < sizeLine ∧ Nx (upd H4 D (.lst (acc ++ [y]))) else Nx H3) := by
  refine lc_over o (fun i H => Same H1 H ∧ ∃ ys, H D = some (.lst ys) ∧ Rel2 R H ((xs.take i).filter f) ys) ⟨same_new nD, [], upd_same, ?_⟩ (fun i H _ p => hS H p.1) ?_ ?_
  · exact ⟨rfl, fun i x y e => by simp at e⟩
  · rintro i x H v H' e ⟨s, ys, hD, hr⟩ y
    have hi := (List.getElem?_eq_some_iff.mp e).1
    refine hs x (List.mem_of_getElem? e) H v H' (fun oy H4 => match oy with
      | some y => ∃ acc, H4 D = some (.lst acc) ∧ acc.length < sizeLine ∧ (Same H1 (upd H4 D (.lst (acc ++ [y]))) ∧ ∃ ys, (upd H4 D (.lst (acc ++ [y]))) D = some (.lst ys) ∧ Rel2 R (upd H4 D (.lst (acc ++ [y]))) ((xs.take (i + 1)).filter f) ys)
      | none => Same H1 H4 ∧ ∃ ys, H4 D = some (.lst ys) ∧ Rel2 R H4 ((xs.take (i + 1)).filter f) ys) s y ?_ ?_
    · intro y H4 hf s4 r
      have hD4 := s4 _ _ hD
      refine ⟨ys, hD4, ?_, fun b u z => ?_, _, upd_same, ?_⟩
      · have h1 := hr.1
        have h2 := List.length_filter_le f (xs.take i)
        rw [List.length_take] at h2
        omega
      · rw [upd_ne (ne_of_none z nD)]
        exact s4 _ _ (s _ _ z)
      · rw [List.take_add_one, e, List.filter_append]
        have : (Option.toList (some x)).filter f = [x] := by
          show [x].filter f = [x]
          rw [List.filter_cons, if_pos hf]
          rfl
        rw [this]
        refine Rel2.snoc ⟨hr.1, fun j a b ea eb => ?_⟩ (hR _ _ _ _ _ hD4 r But.upd)
        exact hR _ _ _ _ _ hD (hr.2 j a b ea eb) ((But.of_same s4).trans But.upd)
    · intro H4 hf s4
      refine ⟨s.trans s4, ys, s4 _ _ hD, ?_⟩
      rw [List.take_add_one, e, List.filter_append]
      have : (Option.toList (some x)).filter f = [] := by
        show [x].filter f = []
        rw [List.filter_cons, if_neg (by rw [hf]; exact Bool.false_ne_true)]
        rfl
      rw [this, List.append_nil]
      exact ⟨hr.1, fun j a b ea eb => hR _ _ _ _ _ hD (hr.2 j a b ea eb) (But.of_same s4)⟩
  · rintro H ⟨s, ys, hD, hr⟩
    rw [List.take_length] at hr
    exact hd H ys s hD hr
end
end Eu
set_option Elab.async false
set_option linter.all false
set_option maxRecDepth 100000
set_option maxHeartbeats 4000000
namespace Eu
open PySem PySem.Spec PyProof.Rows L2

/-! ### a op b of two classes of one's own -/
/-- both have the operator, none has the reflected one, the right one is no subclass of the left one -/
structure TwoC (K : PySem.W.Frag) (C C2 : Addr) (nm : String) : Prop where
  ne : C ≠ C2
  sf : PySem.W.selfFirst K C = true
  sf2 : PySem.W.selfFirst K C2 = true
  hs2 : ∃ f2 : Addr, PySem.W.findIn K (.ref C2) (PySem.dunder nm) = some (some (.ref f2))
  hr : PySem.W.findIn K (.ref C) (PySem.dunderR nm) = some none
  hr2 : PySem.W.findIn K (.ref C2) (PySem.dunderR nm) = some none
  sub : PySem.W.subIn K (.ref C2) (.ref C) = some false
section
open PySem.W
variable {prog : Program} {w : World} {A : Around} {E : Value → Shared → Prop} {s : Shared} {K : PySem.W.Frag} {x C C2 L f : Addr} {h₀ : Heap} {m : Str → Option Value} {ox : Obj} {od : Option Obj}
theorem binop_K2 {op : Operator} {b : Value} {Q : Value → Shared → Prop} (F : Fr h₀ L s.heap m) (X₀ : K.In h₀) (I : InstAt s.heap x ox C od) (hb : Looks (model prog w) s.heap (typeOf b) (.ref C2)) (T : TwoC K C C2 op.info.2)
    (hs : findIn K (.ref C) (PySem.dunder op.info.2) = some (some (.ref f))) (hf : isFn K (.ref f) = true)
    (h : wpAny (model prog w) A (call (.ref f) [.ref x, b]) (PySem.W.CmpBack Q) E s) : wpAny (model prog w) A (binaryOp op (.ref x) b) Q E s := by
  have X := X₀.keeps F.keep
  obtain ⟨cd, rest, hcd, hm⟩ := ksp_first T.sf
  obtain ⟨cd2, rest2, hcd2, hm2⟩ := ksp_first T.sf2
  obtain ⟨f2, hs2⟩ := T.hs2
  have hr := T.hr
  have hr2 := T.hr2
  rcases hi : op.info with ⟨sym, nm'⟩
  rw [hi] at hs hs2 hr hr2
  dsimp only at hs hs2 hr hr2
  have one := ksp_try X I hs hf h
  obtain ⟨hh, g, d, tt, os⟩ := s
  have L1 : Looks (model prog w) hh (typeOf (.ref x)) (.ref C) := I.type
  have L2 : Looks (model prog w) hh (typeOf b) (.ref C2) := hb
  have L3 : Looks (model prog w) hh (fillsNumberSlot (.ref C) nm') true := fills_K X hcd hm hs
  have L4 : Looks (model prog w) hh (fillsNumberSlot (.ref C2) nm') true := fills_K X hcd2 hm2 hs2
  have L5 : Looks (model prog w) hh (isSubtype (.ref C2) (.ref C)) false := looks_subIn X T.sub
  have L6 : Looks (model prog w) hh (numberSlotInPython (.ref C) nm') true := ksp_inPy X hs hr (.inl rfl)
  have L7 : Looks (model prog w) hh (numberSlotInPython (.ref C2) nm') true := ksp_inPy X hs2 hr2 (.inl rfl)
  have hne : (Value.ref C == Value.ref C2) = false := Bool.eq_false_iff.mpr fun q => by cases beq_iff_eq.mp q; exact T.ne rfl
  simp only [binaryOp, hi]
  refine wpAny_holding (wpAny_bind ?_)
  unfold binaryOp1
  refine wpAny_bind (L1.at (wpAny_bind (L2.at (wpAny_bind (L3.at ?_)))))
  simp only [hne, Bool.false_eq_true, if_false]
  ksp_lk
  refine wpAny_mono one (fun r s' hr' => ?_) fun _ _ e => e
  obtain ⟨v, rfl, hq⟩ := hr'
  ksp_lk
  exact hq
end
section
variable {X : Cx} {k j : Nat} {C C2 : Addr} {sp : Sp} {dvs : List V}
/-- a op b, a of the class at C, b of that at C2 -/
def rOwn2 (C C2 : Addr) (sp : Sp) (dvs : List V) : R2 := fun x y H Q => ∃ a b dx dy fs gs, x = .ref a ∧ y = .ref b ∧ H a = some (.ins C dx fs) ∧ H b = some (.ins C2 dy gs) ∧
  sp ([x, y] ++ dvs) H (fun v H' => (∀ u, RelV v u → u ≠ .notImplemented) ∧ Q v H') E0
theorem op_own2 {op : Operator} {m : Str} (e : PySem.dunder op.info.2 = m) (c : Met X.prog X.w X.K X.mg X.base k C m sp dvs) (hr : Rm j X.A) (hk : k ≤ j) (T : TwoC X.K C C2 op.info.2) :
    OpR X (binaryOp op) (rOwn2 C C2 sp dvs) := by
  subst e
  obtain ⟨f, fd, ps, ds, hc, hm, o, b', d⟩ := c.ex
  intro pins s σ H x y v u Q I rx ry h
  obtain ⟨a, b, dx, dy, fs, gs, rfl, rfl, ha, hb, q⟩ := h
  cases rx
  cases ry
  obtain ⟨od, J⟩ := inst_of I ha
  obtain ⟨od2, J2⟩ := inst_of I hb
  obtain ⟨m, fr⟩ := I.fr
  refine binop_K2 fr I.ok.mod.kin J J2.type T hm.at_ hm.fn ?_
  refine wpAny_mono (run_ok (us := [.ref a, .ref b]) (vs := [.ref a, .ref b]) o (hr.mono hk) b' d pass0 I (.cons rfl (.cons rfl .nil)) q) ?_ (fun _ _ z => z)
  rintro r s' ⟨z, H', I', rz, nz, q'⟩
  have := nz r rz
  unfold PySem.W.CmpBack
  cases r <;> first | exact absurd rfl this | exact ⟨z, H', I', rz, q'⟩

/-! ### o[k], by the class's own __getitem__ -/
def rOwnIx (C : Addr) (sp : Sp) (dvs : List V) : R2 := fun x y H Q => ∃ a dx fs, x = .ref a ∧ H a = some (.ins C dx fs) ∧ sp ([x, y] ++ dvs) H Q E0
/-- a method is a def -/
def FnI (K : PySem.W.Frag) (C : Addr) (m : Str) : Prop := ∀ f, PySem.W.findIn K (.ref C) m = some (some (.ref f)) → PySem.W.fnIn K f = true
theorem Dm.fni {K : PySem.W.Frag} {C : Addr} {m qual : Str} {st : Stmt} {dvs : List V} (D : Dm K C m qual st dvs) : FnI K C m := fun f e => by
  obtain ⟨f', oc, od, dV, kV, doc, pm, an, cdv, ct, osl, l, cd, me, dd⟩ := D.ex
  have e2 := me.at_
  rw [e] at e2
  cases e2
  unfold PySem.W.fnIn
  rw [l]
end
section
variable {X : Cx} {k j : Nat} {C : Addr} {sp : Sp} {dvs : List V} {a b : Expr} {ta tb : TE} {pos : Pos}
/-- o[k] -/
theorem pe_ownIx (c : Met X.prog X.w X.K X.mg X.base k C "__getitem__" sp dvs) (hF : FnI X.K C "__getitem__") (hr : Rm j X.A) (hk : k + 1 ≤ j) (ha : PE X a ta) (hb : PE X b tb)
    (hs : ∀ o i, subscripted b true o i = runValue (.builtin "lifetime.subscript" ⟨[o, i], []⟩) := by intro _ _; rfl) : PE X (.Subscript a b pos) (tOp (rOwnIx C sp dvs) ta tb) := by
  obtain ⟨f, fd, ps, ds, hc, hm, o, b', d⟩ := c.ex
  refine ⟨fun pins s σ H Q I h => ?_⟩
  refine Subscript_ (binT ha hb I h fun v u s2 x y H2 I2 rx ry q => ?_)
  obtain ⟨a', dx, fs, rfl, hx, q⟩ := q
  cases rx
  obtain ⟨od, J⟩ := inst_of I2 hx
  obtain ⟨m, fr⟩ := I2.fr
  have hfn : PySem.W.fnIn X.K f = true := hF f hm.at_
  refine PySem.W.sub_K fr I2.ok.mod.kin J hm.at_ hfn hm.fn ?_ (hs _ _)
  exact run_in1 (us := [.ref a', u]) (vs := [.ref a', y]) o (hr.mono hk) b' d I2 (.cons rfl (.cons ry .nil)) q
end

theorem pe_fldK {X : Cx} {K : PySem.W.Frag} {e : Expr} {f : Str} {ta : TE} {pos : Pos} (he : PE X e ta) (hb : attributeBase e f X.env (eval e X.env) = eval e X.env) (h : X.K = K := by rfl) : PE X (.Attribute e f pos) (tFld K ta f) := by
  subst h
  exact pe_fld he hb
/-! ### C.m(..), m a staticmethod -/
structure Sta (P : Program) (w : World) (K : PySem.W.Frag) (mg : Str → Option Value) (base : Heap) (k : Nat) (C : Addr) (m : Str) (ps : List Str) (sp : Sp) : Prop where
  ex : ∃ (mc : Value) (p f : Addr) (fd : FuncData), ClX.CRead K C mc ∧ PySem.W.findCls K (.ref C) mc m = some (.get (.builtin "staticmethod.__get__") (.ref p) .none (.ref C)) ∧
    (∃ rest, PySem.W.recIn K p "staticmethod" = some (.ref f :: rest)) ∧ PySem.W.keepIn K (.ref f) = true ∧ Ok P w K mg base CX0 k f fd ps sp ∧
    (∀ (s : Shared) (us : List Value) (ws : List Value) (ks : List Str), K.In s.heap → us.length + ws.length = ps.length → ks = ps.drop us.length → BindsTo s fd ⟨us, ks.zip ws⟩ (ps.zip (us ++ ws)))
def tStat (C : Addr) (sp : Sp) (ta : TE) (t tk : TA) : TE := fun σ H Q => ta σ H fun x H1 => x = .ref C ∧ t σ H1 fun vs H2 => tk σ H2 fun zs H3 => sp (vs ++ zs) H3 Q E0
section
variable {X : Cx} {k j : Nat} {C : Addr} {m : Str} {sp : Sp} {ps : List Str} {pos apos : Pos} {e o : Expr} {es : List Expr} {kws : List Keyword} {ta : TE} {t tk : TA}
theorem run_stat {pins : List (Addr × Obj)} {σ : L2.St} {H : Hp} {s : Shared} {Q : VK} {us ws : List Value} {vs zs : List V} {ks : List Str} {f : Addr} {fd : FuncData}
    (o : Ok X.prog X.w X.K X.mg X.base CX0 k f fd ps sp) (hr : Rm k X.A) (I : Inv X pins σ H s) (r : Vals vs us) (rz : Vals zs ws)
    (hb : us.length + ws.length = ps.length → BindsTo s fd ⟨us, ks.zip ws⟩ (ps.zip (us ++ ws))) (h : sp (vs ++ zs) H Q E0) :
    wpAny (model X.prog X.w) X.A (call (.ref f) us (ks.zip ws)) (EP X pins σ Q) X.xe s := by
  have rr := r.append rz
  have hl : us.length + ws.length = ps.length := by
    rw [← List.length_append, ← rr.length]
    exact o.len _ _ _ _ h
  refine wpAny_call (codeAny_mono (o.go X.A X.stack s H ⟨us, ks.zip ws⟩ (us ++ ws) (vs ++ zs) Q E0 hr I.env0 (hb hl) rr h) ?_)
  intro res s' hq
  match res, hq with
  | .error e, hq => exact False.elim hq
  | .ok (.ret u), hq => exact I.after hq
  | .ok .next, hq => exact False.elim hq
  | .ok .brk, hq => exact False.elim hq
  | .ok .cont, hq => exact False.elim hq
theorem pe_stat {pl : Sem Bool} (c : Sta X.prog X.w X.K X.mg X.base k C m ps sp) (hr : Rm j X.A) (hk : k ≤ j) (he : PE X o ta) (ha : PA X (e :: es) t)
    (hst : starEach (e :: es) X.env = (false, eval e X.env) :: starEach es X.env := by rfl)
    (hpl : (backTo pos (starEach es X.env)).any (·.1) = false := by rfl)
    (ht : eval (.Call (.Attribute o m apos) (e :: es) [] pos) X.env = (do
      let v ← eval o X.env
      standAt apos.atName
      let (g, l) ← holding [v] (getMethod v m pl)
      callWith pos g l (backTo pos (starEach (e :: es) X.env)) (backToKw pos (keywordEach [] X.env))) := by rfl) :
    PE X (.Call (.Attribute o m apos) (e :: es) [] pos) (tStat C sp ta t tNil) := by
  obtain ⟨mc, p, f, fd, cr, at_, ⟨rest, rc⟩, kp, ok, b⟩ := c.ex
  constructor
  intro pins s σ H Q I h
  refine PySem.W.methodCall_KW (pl := pl) (thn (he.run pins s σ H _ I h) ?_) ht
  rintro u s1 ⟨y, H1, I1, ry, ey, q⟩
  subst ey
  have eu : u = Value.ref C := ry
  subst eu
  refine PySem.W.method_cls I1.kIn cr.ga (PySem.W.cls_bind I1.kIn cr.rd at_ (wpAny_call (PySem.W.sm_get (s := { s1 with toks := s1.toks + 1 }) I1.kIn rc (PySem.W.handed_on rfl ?_))))
  have I1' := I1.tok (s1.toks + 1)
  refine PySem.W.callWith_K (first := []) (h₀ := X.base) I.ok.mod.kin kp (thn (ha.run pos pins _ σ H1 _ I1' q) ?_) hst hpl
  rintro us s2 ⟨vs, H2, I2, r, q2⟩
  exact ⟨I2.kIn, run_stat (us := us) (ws := []) (zs := []) (ks := []) ok (hr.mono hk) I2 r .nil (fun hl => b _ us [] [] I2.kIn hl (by
    have hl' : us.length = ps.length := hl
    rw [hl', List.drop_length])) q2⟩
/-- C.m(e, .., k = v, ..) -/
theorem pe_statK {pl : Sem Bool} {ks : List Str} {n : Nat} (c : Sta X.prog X.w X.K X.mg X.base k C m ps sp) (hr : Rm j X.A) (hk : k ≤ j) (he : PE X o ta) (ha : PA X (e :: es) t) (hkw : PK X kws tk)
    (hn : (e :: es).length = n) (hd : ps.drop n = ks)
    (hst : starEach (e :: es) X.env = (false, eval e X.env) :: starEach es X.env := by rfl)
    (hall : (backToKw pos (keywordEach kws X.env)).all (·.1.isSome) = true := by rfl) (hks : (backToKw pos (keywordEach kws X.env)).filterMap (·.1) = ks := by rfl)
    (hpl : ((backTo pos (starEach (e :: es) X.env)).any (·.1) || (backToKw pos (keywordEach kws X.env)).any (·.1.isNone)) = false := by rfl)
    (ht : eval (.Call (.Attribute o m apos) (e :: es) kws pos) X.env = (do
      let v ← eval o X.env
      standAt apos.atName
      let (g, l) ← holding [v] (getMethod v m pl)
      callWith pos g l (backTo pos (starEach (e :: es) X.env)) (backToKw pos (keywordEach kws X.env))) := by rfl) :
    PE X (.Call (.Attribute o m apos) (e :: es) kws pos) (fun σ H Q => ta σ H fun x H1 => x = .ref C ∧ t σ H1 fun vs H2 => tk σ H2 fun zs H3 => vs.length = n ∧ sp (vs ++ zs) H3 Q E0) := by
  obtain ⟨mc, p, f, fd, cr, at_, ⟨rest, rc⟩, kp, ok, b⟩ := c.ex
  constructor
  intro pins s σ H Q I h
  refine PySem.W.methodCall_KW (pl := pl) (thn (he.run pins s σ H _ I h) ?_) ht
  rintro u s1 ⟨y, H1, I1, ry, ey, q⟩
  subst ey
  have eu : u = Value.ref C := ry
  subst eu
  refine PySem.W.method_cls I1.kIn cr.ga (PySem.W.cls_bind I1.kIn cr.rd at_ (wpAny_call (PySem.W.sm_get (s := { s1 with toks := s1.toks + 1 }) I1.kIn rc (PySem.W.handed_on rfl ?_))))
  have I1' := I1.tok (s1.toks + 1)
  refine PySem.W.callWith_KW (first := []) (h₀ := X.base) I.ok.mod.kin kp hall (thn (ha.run pos pins _ σ H1 _ I1' q) fun us s2 ⟨vs, H2, I2, r, q2⟩ => ?_) hpl hst
  refine thn (hkw.run pos pins s2 σ H2 _ I2 q2) fun ws s3 ⟨zs, H3, I3, rz, l1, q3⟩ => ⟨I3.kIn, ?_⟩
  rw [hks]
  exact run_stat (us := us) (ws := ws) ok (hr.mono hk) I3 r rz (fun hl => b _ us ws ks I3.kIn hl (by rw [← r.length, l1, hd])) q3
end
end Eu
set_option Elab.async false
set_option linter.all false
set_option maxRecDepth 100000
set_option maxHeartbeats 4000000
namespace Eu
open PySem PySem.Spec PyProof.Rows L2
open Fs
/-! ### form sets in the heap -/
def enc (p : Pr) : Key × V := (.inl p.1, .str p.2)
/-- an element whose key is one of D -/
def OkP (D : List Int) (p : Pr) : Prop := p.1 ∈ D ∧ 0 ≤ p.1 ∧ p.1 ≤ 999999 ∧ nameS p.2 = true
/-- a form set: sorted by keys, all keys in D -/
structure Good (D : List Int) (S : List Pr) : Prop where
  srt : Srt S
  ok : ∀ p ∈ S, OkP D p
  few : D.length ≤ 60
def FS (C : Addr) (D : List Int) (H : Hp) (x : V) (S : List Pr) : Prop := Good D S ∧ ∃ a dx d m, x = .ref a ∧ H a = some (.ins C dx [("forms", .ref d)]) ∧ H d = some (.dK (m.map enc)) ∧ List.Perm m S
theorem FS.same {C : Addr} {D : List Int} {H H' : Hp} {x : V} {S : List Pr} (h : FS C D H x S) (s : Same H H') : FS C D H' x S := by
  obtain ⟨g, a, dx, d, m, e, h1, h2, h3⟩ := h
  exact ⟨g, a, dx, d, m, e, s _ _ h1, s _ _ h2, h3⟩
theorem FS.but {C b : Addr} {D : List Int} {H H' : Hp} {x : V} {S : List Pr} {o : HO} (h : FS C D H x S) (s : But b H H') (hb : H b = some o) (n1 : ∀ C dx fs, o ≠ .ins C dx fs) (n2 : ∀ kvs, o ≠ .dK kvs) : FS C D H' x S := by
  obtain ⟨g, a, dx, d, m, e, h1, h2, h3⟩ := h
  refine ⟨g, a, dx, d, m, e, s.at (fun z => ?_) h1, s.at (fun z => ?_) h2, h3⟩
  · rw [z, hb] at h1
    exact n1 _ _ _ (Option.some.inj h1)
  · rw [z, hb] at h2
    exact n2 _ (Option.some.inj h2)
theorem len_of_nodup : ∀ {l m : List Int}, l.Nodup → (∀ x ∈ l, x ∈ m) → l.length ≤ m.length
  | [], _, _, _ => Nat.zero_le _
  | a :: l, m, hn, h => by
    have hn' := List.nodup_cons.mp hn
    have ha := h a List.mem_cons_self
    have := len_of_nodup (l := l) (m := m.erase a) hn'.2 fun x hx => (List.mem_erase_of_ne (fun e => hn'.1 (by rw [← e]; exact hx))).mpr (h x (List.mem_cons_of_mem _ hx))
    rw [List.length_erase_of_mem ha] at this
    have : 0 < m.length := List.length_pos_of_mem ha
    rw [List.length_cons]
    omega
theorem Good.len {D : List Int} {S : List Pr} (g : Good D S) : S.length ≤ 60 := by
  have := len_of_nodup (l := S.map fun p : Pr => p.1) (m := D) g.srt.nd fun k hk => by
    obtain ⟨p, hp, rfl⟩ := List.mem_map.mp hk
    exact (g.ok p hp).1
  rw [List.length_map] at this
  exact Nat.le_trans this g.few
theorem Good.canon {D : List Int} {xs : List Pr} (h : ∀ p ∈ xs, OkP D p) (f : D.length ≤ 60) : Good D (canon xs) := ⟨srt_canon _, fun p hp => h p (mem_canon hp), f⟩
theorem Good.or {D : List Int} {S T : List Pr} (a : Good D S) (b : Good D T) : Good D (orS S T) :=
  Good.canon (fun p hp => (List.mem_append.mp hp).elim (a.ok p) (b.ok p)) a.few
theorem Good.filter {D : List Int} {S : List Pr} {f : Pr → Bool} (a : Good D S) : Good D (S.filter f) := ⟨srt_filter a.srt, fun p hp => a.ok p (List.mem_filter.mp hp).1, a.few⟩
/-! ### lists of elements -/
abbrev vals (ts : List (Addr × Pr)) : List V := ts.map fun q => V.ref q.1
abbrev prs (ts : List (Addr × Pr)) : List Pr := ts.map (·.2)
def ElT (K : PySem.W.Frag) (H : Hp) (q : Addr × Pr) : Prop := SqT K H q.1 [.int q.2.1, .str q.2.2]
/-- a list or a tuple of elements -/
def Els (K : PySem.W.Frag) (D : List Int) (H : Hp) (a : Addr) (ts : List (Addr × Pr)) : Prop :=
  (SqL K H a (vals ts) ∨ SqT K H a (vals ts)) ∧ ∀ q ∈ ts, ElT K H q ∧ OkP D q.2
theorem Els.same {K : PySem.W.Frag} {D : List Int} {H H' : Hp} {a : Addr} {ts : List (Addr × Pr)} (h : Els K D H a ts) (s : Same H H') : Els K D H' a ts :=
  ⟨h.1.imp (fun z => s.seq z) (fun z => Same.tup s z), fun q hq => ⟨Same.tup s (h.2 q hq).1, (h.2 q hq).2⟩⟩
theorem small_el {D : List Int} {p : Pr} (h : OkP D p) : Small (.tuple [.int p.1, .str p.2]) ∧ elemD (.tuple [.int p.1, .str p.2]) = true := by
  obtain ⟨_, h0, h1, hn⟩ := h
  have hn' := hn
  unfold nameS at hn'
  simp only [Bool.and_eq_true, decide_eq_true_eq] at hn'
  obtain ⟨⟨⟨n1, n2⟩, n3⟩, n4⟩ := hn'
  refine ⟨⟨?_, ?_⟩, ?_⟩
  · show 1921 + 2 + (10 * p.2.length + 2 + 2 + 0) + 3 ≤ 100000
    omega
  · show (decide (p.1.natAbs.log2 < 1920) && ((p.2.cps.toList.all fun c => decide (c < 1114112)) && true)) = true
    have e1 : p.1.natAbs.log2 < 1920 := by
      by_cases hz : p.1.natAbs = 0
      · rw [hz]; decide
      · have := (Nat.log2_lt hz (k := 20)).mpr (by omega)
        omega
    rw [decide_eq_true e1, Bool.true_and, Bool.and_true, List.all_eq_true]
    intro c hc
    have := List.all_eq_true.mp (show p.2.cps.toList.all letter = true from n3) c hc
    unfold letter at this
    simp only [Bool.and_eq_true, decide_eq_true_eq] at this
    exact decide_eq_true (by omega)
  · show (between 0 999999 (.int p.1) && nameD (.str p.2)) = true
    show ((decide (0 ≤ p.1) && decide (p.1 ≤ 999999)) && nameS p.2) = true
    rw [decide_eq_true h0, decide_eq_true h1, hn]
    rfl
theorem dp_el {K : PySem.W.Frag} {H : Hp} {q : Addr × Pr} (h : ElT K H q) : Dp K H (.ref q.1) (.tuple [.int q.2.1, .str q.2.2]) := .tup h (.cons (.int _) (.cons (.str _) .nil))
theorem over_map {α β : Type} {J : It} {xs : List α} {f : α → β} {Y : β → Hp → V → Hp → Prop} {S : Hp → Prop} (o : Over J (xs.map f) Y S) : Over J xs (fun x => Y (f x)) S where
  go := fun i x H e s => o.go i (f x) H (by rw [List.getElem?_map, e]; rfl) s
  st := fun H s => by have := o.st H s; rwa [List.length_map] at this
  yl := fun i x H v H' e s y => o.yl i (f x) H v H' (by rw [List.getElem?_map, e]; rfl) s y
/-! ### dicts of elements -/
theorem any_enc (m : List Pr) (k : Int) : ((m.map enc).any fun kv => decide (kv.1 = Sum.inl k)) = hasK m k := by
  induction m with
  | nil => rfl
  | cons q r ih =>
    rw [List.map_cons, List.any_cons, ih]
    unfold hasK
    rw [lk_cons]
    by_cases e : k = q.1
    · subst e
      simp [enc]
    · rw [if_neg e, show decide ((enc q).1 = Sum.inl k) = false from decide_eq_false (fun z => e (Sum.inl.inj z).symm)]
      rfl
theorem val_enc (m : List Pr) (k : Int) : valV (m.map enc) (Sum.inl k) = (m.lookup k).map V.str := by
  induction m with
  | nil => rfl
  | cons q r ih =>
    rw [lk_cons]
    by_cases e : k = q.1
    · subst e
      rw [if_pos rfl, List.map_cons]
      exact valV_pos (p := enc q) rfl
    · rw [if_neg e, ← ih, List.map_cons]
      unfold valV
      rw [List.find?_cons, show decide ((enc q).1 = Sum.inl k) = false from decide_eq_false (fun z => e (Sum.inl.inj z).symm)]
theorem put_enc (m : List Pr) (k : Int) (v : Str) : putK (m.map enc) (Sum.inl k) (.str v) = (put m k v).map enc := by
  unfold putK put
  rw [any_enc]
  split
  · rw [List.map_map, List.map_map]
    apply List.map_congr_left
    intro q _
    show (if (enc q).1 = Sum.inl k then ((enc q).1, V.str v) else enc q) = enc (if q.1 = k then (k, v) else q)
    by_cases e : q.1 = k
    · rw [if_pos e, if_pos (show (enc q).1 = Sum.inl k from congrArg Sum.inl e)]
      show (Sum.inl q.1, V.str v) = enc (k, v)
      rw [e]; rfl
    · rw [if_neg e, if_neg (show ¬ (enc q).1 = Sum.inl k from fun z => e (Sum.inl.inj z))]
  · rw [List.map_append]
    rfl
theorem merge_fill : ∀ xs : List Pr, mergeK [] (xs.reverse.map enc) = (fillR xs).map enc
  | [] => rfl
  | p :: r => by
    rw [List.reverse_cons, List.map_append]
    show mergeK [] (r.reverse.map enc ++ [enc p]) = (put (fillR r) p.1 p.2).map enc
    rw [merge_snoc, merge_fill r]
    exact put_enc _ _ _
/-! ### what the functions of a form set tell -/
def spCheck (K : PySem.W.Frag) : Sp := fun vs H Q _ => ∃ (D : List Int) (a : Addr) (ts : List (Addr × Pr)), vs = [.ref a] ∧ Els K D H a ts ∧ ∀ H', Same H H' → Q .non H'
def spInit (K : PySem.W.Frag) (C : Addr) : Sp := fun vs H Q _ => ∃ (D : List Int) (x dx a : Addr) (ts : List (Addr × Pr)), vs = [.ref x, .ref a] ∧ H x = some (.ins C dx []) ∧ Els K D H a ts ∧ ts.length ≤ 1000 ∧ D.length ≤ 60 ∧
  ∀ H', But x H H' → FS C D H' (.ref x) (canon (prs ts)) → Q .non H'
def spMembers (C : Addr) : Sp := fun vs H Q _ => ∃ (D : List Int) (x : V) (S : List Pr), vs = [x] ∧ FS C D H x S ∧
  ∀ (p : Addr) (ts : List (Addr × Pr)) (H' : Hp), Same H H' → H' p = some (.lst (vals ts)) → prs ts = S → (∀ q ∈ ts, H' q.1 = some (.tup [.int q.2.1, .str q.2.2])) → Q (.ref p) H'
def hasD (S : List Pr) : PyData → Bool
  | .int k => hasK S k
  | _ => false
def spHas (K : PySem.W.Frag) (C : Addr) : Sp := fun vs H Q _ => ∃ (D : List Int) (x y : V) (S : List Pr) (d : PyData), vs = [x, y] ∧ FS C D H x S ∧ Th K H y d ∧ Small d ∧ ∀ H', Same H H' → Q (.bl (hasD S d)) H'
def spBin (C : Addr) (f : List Pr → List Pr → List Pr) : Sp := fun vs H Q _ => ∃ (D : List Int) (x y : V) (S T : List Pr), vs = [x, y] ∧ FS C D H x S ∧ FS C D H y T ∧ ∀ z H', Same H H' → FS C D H' z (f S T) → Q z H'
def spLen (C : Addr) : Sp := fun vs H Q _ => ∃ (D : List Int) (x : V) (S : List Pr), vs = [x] ∧ FS C D H x S ∧ ∀ H', Same H H' → Q (.int (S.length : Int)) H'
/-- == is told of equal ones alone -/
def spSame (C : Addr) : Sp := fun vs H Q _ => ∃ (D : List Int) (x y : V) (S : List Pr), vs = [x, y] ∧ FS C D H x S ∧ FS C D H y S ∧ ∀ H', Same H H' → Q (.bl true) H'
def spKeys (C : Addr) : Sp := fun vs H Q _ => ∃ (D : List Int) (x y : V) (S T : List Pr), vs = [x, y] ∧ FS C D H x S ∧ FS C D H y T ∧ S.map (·.1) = T.map (·.1) ∧ ∀ H', Same H H' → Q (.bl true) H'
/-- what is known of the class -/
structure Fc (K : PySem.W.Frag) (mg : Str → Option Value) (C : Addr) : Prop where
  g_FormSet : ∃ u, mg "FormSet" = some u ∧ RelV (.ref C) u
  cls : Cls K C
  na : NoAttr K C "forms"
  sf : PySem.W.selfFirst K C = true
  mro : PySem.W.mroIn K C (.type "object") = some true
  ne : PySem.W.findIn K (.ref C) "__ne__" = some (some (.builtin "object.__ne__"))
  ha : PySem.W.findIn K (.ref C) "__class__" = some (some (.builtin "object.__class__"))
  hn : PySem.W.specialIn K (.builtin "object.__class__") "__get__" = some (some (.builtin "getset_descriptor.__get__"))
  htk : PySem.W.takesIn K (.builtin "object.__class__") = some true
theorem kit_self {K : PySem.W.Frag} {t : Value} (h : (t == t) = true := by simp) : PySem.W.kitOne K t t = some true := by
  unfold PySem.W.kitOne
  rw [if_pos h]
theorem op_ownB {X : Cx} {k j : Nat} {C : Addr} {sp : Sp} {dvs : List V} {op : Operator} {m : Str} (e : PySem.dunder op.info.2 = m) (c : Met X.prog X.w X.K X.mg X.base k C m sp dvs) (hr : Rm j X.A) (hk : k ≤ j) (hsf : PySem.W.selfFirst X.K C = true) :
    OpR X (binaryOp op) (rOwn C sp dvs) := by
  subst e
  exact op_own c hr hk hsf
/-! ### how they are used -/
section
variable {K : PySem.W.Frag} {C : Addr} {D : List Int} {H : Hp} {x y : V} {S T : List Pr}
theorem FS.ins (h : FS C D H x S) : ∃ a dx fs, x = .ref a ∧ H a = some (.ins C dx fs) ∧ fs.lookup (("members" : String) : Str) = none ∧ fs.lookup (("kept" : String) : Str) = none ∧ fs.lookup (("joined" : String) : Str) = none ∧ fs.lookup (("equals" : String) : Str) = none := by
  obtain ⟨g, a, dx, d, m, e, h1, h2, h3⟩ := h
  exact ⟨a, dx, _, e, h1, rfl, rfl, rfl, rfl⟩
/-- FormSet(list) -/
theorem use_make {a : Addr} {ts : List (Addr × Pr)} {Q : VK} (e : Els K D H a ts) (l : ts.length ≤ 1000) (f : D.length ≤ 60) (q : ∀ z H', Same H H' → FS C D H' z (canon (prs ts)) → Q z H') :
    ∀ x dx, H x = none → H dx = none → dx ≠ x → spInit K C (.ref x :: ([V.ref a] ++ [])) (upd (upd H dx (.own x)) x (.ins C dx [])) (fun v H2 => v = .non ∧ Q (.ref x) H2) E0 := by
  intro x dx hx hdx ne
  have s1 : Same H (upd H dx (.own x)) := same_new hdx
  have hx1 : (upd H dx (.own x)) x = none := by rw [upd_ne ne.symm]; exact hx
  have s2 := s1.trans (same_new (o := .ins C dx []) hx1)
  refine ⟨D, x, dx, a, ts, rfl, upd_same, e.same s2, l, f, fun H' b fs => ⟨rfl, q _ _ (fun c o z => ?_) fs⟩⟩
  exact b.at (ne_of_none z hx) (s2 _ _ z)
theorem use_bin {f : List Pr → List Pr → List Pr} {Q : VK} (h1 : FS C D H x S) (h2 : FS C D H y T) (q : ∀ z H', Same H H' → FS C D H' z (f S T) → Q z H') : rOwn C (spBin C f) [] x y H Q := by
  obtain ⟨a, dx, fs, rfl, ha, _⟩ := h1.ins
  obtain ⟨b, dy, gs, rfl, hb, _⟩ := h2.ins
  refine ⟨a, b, dx, dy, fs, gs, rfl, rfl, ha, hb, D, _, _, S, T, rfl, h1, h2, fun z H' s fz => ⟨?_, q z H' s fz⟩⟩
  obtain ⟨c, _, _, rfl, _⟩ := fz.ins
  intro u r
  cases r
  exact fun z => nomatch z
theorem use_same {Q : VK} (h1 : FS C D H x S) (h2 : FS C D H y S) (q : ∀ H', Same H H' → Q (.bl true) H') : rOwn C (spSame C) [] x y H Q := by
  obtain ⟨a, dx, fs, rfl, ha, _⟩ := h1.ins
  obtain ⟨b, dy, gs, rfl, hb, _⟩ := h2.ins
  refine ⟨a, b, dx, dy, fs, gs, rfl, rfl, ha, hb, D, _, _, S, rfl, h1, h2, fun H' s => ⟨?_, q H' s⟩⟩
  intro u r
  cases r
  exact fun z => nomatch z
theorem use_ne {Q : VK} (h1 : FS C D H x S) (h2 : FS C D H y S) (q : ∀ H', Same H H' → Q (.bl false) H') : rOwnNe C (spSame C) [] x y H Q := by
  obtain ⟨a, dx, fs, rfl, ha, _⟩ := h1.ins
  obtain ⟨b, dy, gs, rfl, hb, _⟩ := h2.ins
  exact ⟨a, b, dx, dy, fs, gs, rfl, rfl, ha, hb, D, _, _, S, rfl, h1, h2, fun H' s => ⟨true, rfl, q H' s⟩⟩
theorem use_len {Q : VK} (h1 : FS C D H x S) (q : ∀ H', Same H H' → Q (.int (S.length : Int)) H') : rOwnLen C (spLen C) [] [x] H Q := by
  obtain ⟨a, dx, fs, rfl, ha, _⟩ := h1.ins
  have := h1.1.len
  exact ⟨a, dx, fs, rfl, ha, D, _, S, rfl, h1, fun H' s => ⟨_, rfl, Nat.le_trans this (by decide), q H' s⟩⟩
theorem use_in {neg : Bool} {k : Int} {Q : VK} (h1 : FS C D H x S) (hk : 0 ≤ k) (hk' : k ≤ 999999) (q : ∀ H', Same H H' → Q (.bl (if neg then !hasK S k else hasK S k)) H') : rOwnIn C neg (spHas K C) [] (.int k) x H Q := by
  obtain ⟨a, dx, fs, rfl, ha, _⟩ := h1.ins
  refine ⟨a, dx, fs, rfl, ha, D, _, _, S, .int k, rfl, h1, .inl (.int k), ⟨?_, ?_⟩, fun H' s => ⟨_, rfl, q H' s⟩⟩
  · show 1921 ≤ 100000; decide
  · show decide (k.natAbs.log2 < 1920) = true
    refine decide_eq_true ?_
    by_cases hz : k.natAbs = 0
    · rw [hz]; decide
    · have := (Nat.log2_lt hz (k := 20)).mpr (by omega)
      omega
end
end Eu
set_option Elab.async false
set_option linter.all false
set_option maxRecDepth 100000
set_option maxHeartbeats 4000000
namespace Fs
theorem Srt.perm_nd {m S : List Pr} (p : List.Perm m S) (s : Srt S) : Nd m := (List.Perm.nodup_iff (p.map (fun x : Pr => x.1))).mpr s.nd
/-- d.update -/
def mergeP (a l : List Pr) : List Pr := l.foldl (fun m p => put m p.1 p.2) a
theorem nd_merge : ∀ {l a : List Pr}, Nd a → Nd (mergeP a l)
  | [], _, h => h
  | p :: r, a, h => nd_merge (l := r) (nd_put p.1 p.2 h)
theorem lk_merge (k : Int) : ∀ {l a : List Pr}, Nd l → (mergeP a l).lookup k = (l.lookup k).or (a.lookup k)
  | [], _, _ => rfl
  | p :: r, a, h => by
    have h' := List.nodup_cons.mp (show (p.1 :: r.map fun x : Pr => x.1).Nodup from h)
    show (mergeP (put a p.1 p.2) r).lookup k = _
    rw [lk_merge k h'.2, lk_put, lk_cons]
    by_cases e : k = p.1
    · rw [if_pos e, if_pos e]
      have : r.lookup k = none := lk_none fun x hx z => h'.1 (by rw [← e, ← z]; exact List.mem_map_of_mem hx)
      rw [this]
      rfl
    · rw [if_neg e, if_neg e]
theorem mem_merge {x : Pr} : ∀ {l a : List Pr}, x ∈ mergeP a l → x ∈ a ∨ x ∈ l
  | [], _, h => .inl h
  | p :: r, a, h => by
    rcases mem_merge (l := r) (show x ∈ mergeP (put a p.1 p.2) r from h) with h | h
    · unfold put at h
      split at h
      · obtain ⟨q, hq, e⟩ := List.mem_map.mp h
        split at e
        · exact .inr (by rw [← e]; exact List.mem_cons_self)
        · exact .inl (by rw [← e]; exact hq)
      · rcases List.mem_append.mp h with h | h
        · exact .inl h
        · have : x = (p.1, p.2) := by simpa using h
          exact .inr (by rw [this]; exact List.mem_cons_self)
    · exact .inr (List.mem_cons_of_mem _ h)
end Fs
namespace Eu
open PySem PySem.Spec PyProof.Rows L2
open Fs
theorem merge_enc : ∀ (l a : List Pr), mergeK (a.map enc) (l.map enc) = (mergeP a l).map enc
  | [], _ => rfl
  | p :: r, a => by
    show mergeK (putK (a.map enc) (enc p).1 (enc p).2) (r.map enc) = (mergeP (put a p.1 p.2) r).map enc
    rw [← merge_enc r (put a p.1 p.2)]
    congr 1
    exact put_enc a p.1 p.2
theorem mergeP_nd : ∀ {l a : List Pr}, Nd (a ++ l) → mergeP a l = a ++ l
  | [], a, _ => (List.append_nil a).symm
  | p :: r, a, h => by
    have hk : hasK a p.1 = false := by
      unfold hasK
      rw [lk_none (k := p.1) fun x hx z => ?_]
      · rfl
      · have h' := h
        unfold Nd at h'
        rw [List.map_append, List.nodup_append] at h'
        exact h'.2.2 x.1 (List.mem_map_of_mem hx) p.1 (by simp) z
    have e : put a p.1 p.2 = a ++ [p] := by
      unfold put
      rw [hk]
      rfl
    show mergeP (put a p.1 p.2) r = _
    rw [e, mergeP_nd (by rw [List.append_assoc]; exact h), List.append_assoc]
    rfl
/-- a dict of the law's own: the elements S -/
def DS (D : List Int) (H : Hp) (x : V) (S : List Pr) : Prop := Good D S ∧ ∃ d m, x = .ref d ∧ H d = some (.dK (m.map enc)) ∧ List.Perm m S
theorem DS.same {D : List Int} {H H' : Hp} {x : V} {S : List Pr} (h : DS D H x S) (s : Same H H') : DS D H' x S := by
  obtain ⟨g, d, m, e, h2, h3⟩ := h
  exact ⟨g, d, m, e, s _ _ h2, h3⟩
theorem DS.but {b : Addr} {D : List Int} {H H' : Hp} {x : V} {S : List Pr} {o : HO} (h : DS D H x S) (s : But b H H') (hb : H b = some o) (n2 : ∀ kvs, o ≠ .dK kvs) : DS D H' x S := by
  obtain ⟨g, d, m, e, h2, h3⟩ := h
  refine ⟨g, d, m, e, s.at (fun z => ?_) h2, h3⟩
  rw [z, hb] at h2
  exact n2 _ (Option.some.inj h2)
theorem same_put {H H1 : Hp} {a : Addr} {o : HO} (s : Same H H1) (n : H a = none) : Same H (upd H1 a o) := fun c u e => by
  rw [upd_ne (ne_of_none e n)]
  exact s _ _ e
/-- a new pair -/
def NewT (p : Pr) (y : V) (H : Hp) : Prop := ∃ t, y = .ref t ∧ H t = some (.tup [.int p.1, .str p.2])
theorem NewT.stays {Dd : Addr} : ∀ (x : Pr) (y : V) (H H' : Hp) (acc : List V), H Dd = some (.lst acc) → NewT x y H → But Dd H H' → NewT x y H' := by
  rintro x y H H' acc e ⟨t, rfl, ht⟩ b
  exact ⟨t, rfl, b.at (fun z => by rw [z, e] at ht; cases ht) ht⟩
theorem rel_cons {p : Pr} {l : List Pr} {y : V} {ys : List V} {H : Hp} (h : Rel2 NewT H (p :: l) (y :: ys)) : NewT p y H ∧ Rel2 NewT H l ys :=
  ⟨h.2 0 p y rfl rfl, by have := h.1; simp at this; exact this, fun i a b ea eb => h.2 (i + 1) a b (by simpa using ea) (by simpa using eb)⟩
theorem rel_paired {K : PySem.W.Frag} {H : Hp} : ∀ {l : List Pr} {ys : List V}, Rel2 NewT H l ys → ∃ ps : List Addr, ys = ps.map V.ref ∧ Paired (fun p kv => SqT K H p [kV kv.1, kv.2]) ps (l.map enc)
  | [], [], _ => ⟨[], rfl, .nil⟩
  | [], _ :: _, h => by have := h.1; simp at this
  | _ :: _, [], h => by have := h.1; simp at this
  | p :: l, y :: ys, h => by
    obtain ⟨⟨t, e, ht⟩, h'⟩ := rel_cons h
    obtain ⟨ps, e', hp⟩ := rel_paired (K := K) h'
    exact ⟨t :: ps, by rw [e, e']; rfl, .cons (.inl (.inl ht)) hp⟩
/-- dict(list of new pairs) -/
theorem use_dictL {K : PySem.W.Frag} {D : List Int} {H : Hp} {a : Addr} {l : List Pr} {ys : List V} {S : List Pr} {Q : VK} (ha : H a = some (.lst ys)) (hr : Rel2 NewT H l ys) (hp : List.Perm l S) (g : Good D S) (q : ∀ (p : Addr) H', Same H H' → H p = none → DS D H' (.ref p) S → Q (.ref p) H') :
    ∃ (a' : Addr) (ps : List Addr) (kvs : List (Key × V)), [V.ref a] = [.ref a'] ∧ SqL K H a' (ps.map V.ref) ∧ Paired (fun p kv => SqT K H p [kV kv.1, kv.2]) ps kvs ∧ ∀ p, H p = none → Q (.ref p) (upd H p (.dK (mergeK [] kvs))) := by
  obtain ⟨ps, e, hpr⟩ := rel_paired (K := K) hr
  refine ⟨a, ps, _, rfl, .inl (.inl (by rw [← e]; exact ha)), hpr, fun p np => q _ _ (same_new np) np ⟨g, p, l, rfl, ?_, hp⟩⟩
  rw [upd_same]
  congr 2
  have := merge_enc l []
  rw [List.map_nil] at this
  rw [this, mergeP_nd (a := []) (Srt.perm_nd hp g.srt)]
  rfl
end Eu
set_option Elab.async false
set_option linter.all false
set_option maxRecDepth 100000
set_option maxHeartbeats 4000000
namespace Eu
open PySem PySem.Spec PyProof.Rows L2
open C8 (pe_gc pss_cut)
def top (i : Nat) : Stmt := PySem.Challenge.pw_equalunlike_k07_operations_on_dicts.main.body.getD i (.Pass ⟨0, 0, 0, 0⟩)
/-- the module's constants -/
structure Gc (K : PySem.W.Frag) (mg : Str → Option Value) (kw : Addr) : Prop where
  g_LONGEST_NAME : ∃ u, mg "LONGEST_NAME" = some u ∧ RelV (.int 4) u
  g_MOST_KEY : ∃ u, mg "MOST_KEY" = some u ∧ RelV (.int 999999) u
  g_KEPT_WORDS : ∃ u, mg "KEPT_WORDS" = some u ∧ RelV (.ref kw) u
  kw : ∀ H, SqT K H kw (kept.map V.str)
abbrev s_is_integer : Stmt := top 6
theorem sc_is_integer : FnScope ["thing"] ["thing"] (defScope s_is_integer) :=
  ⟨rfl, rfl, rfl, by decide +kernel, rfl, by decide +kernel, by decide +kernel⟩
abbrev s_in_range : Stmt := top 7
theorem sc_in_range : FnScope ["thing", "least", "most"] ["thing", "least", "most"] (defScope s_in_range) :=
  ⟨rfl, rfl, rfl, by decide +kernel, rfl, by decide +kernel, by decide +kernel⟩
abbrev s_is_letters : Stmt := top 8
theorem sc_is_letters : FnScope ["text", "sign"] ["text"] (defScope s_is_letters) :=
  ⟨rfl, rfl, rfl, by decide +kernel, rfl, by decide +kernel, by decide +kernel⟩
abbrev s_is_name : Stmt := top 9
theorem sc_is_name : FnScope ["thing"] ["thing"] (defScope s_is_name) :=
  ⟨rfl, rfl, rfl, by decide +kernel, rfl, by decide +kernel, by decide +kernel⟩
abbrev s_is_key : Stmt := top 10
theorem sc_is_key : FnScope ["thing"] ["thing"] (defScope s_is_key) :=
  ⟨rfl, rfl, rfl, by decide +kernel, rfl, by decide +kernel, by decide +kernel⟩
abbrev s_is_element : Stmt := top 12
theorem sc_is_element : FnScope ["thing"] ["thing"] (defScope s_is_element) :=
  ⟨rfl, rfl, rfl, by decide +kernel, rfl, by decide +kernel, by decide +kernel⟩
section
variable {P : Program} {w : World} {K : PySem.W.Frag} {mg : Str → Option Value} {base : Heap} {kw : Addr}
theorem ok_is_integer (B : Bl mg) (D : Df K mg "is_integer" s_is_integer) : Cal P w K mg base 1 "is_integer" (spB K whole) [] := by
  refine D.cal sc_is_integer (fun _ _ _ _ _ _ us hl => match us, hl with | [_], _ => rfl) (fun vs H Q E h => ?_) (fun f cdv A out s H vs Q E hr h => ?_)
  · obtain ⟨x, d, rfl, _⟩ := h
    rfl
  · obtain ⟨x, d, rfl, h, hc, q⟩ := h
    refine ⟨_, (pss_one (ps_ret (pe_and (pe_callB call_isi (by rfl) B.isinstance (by decide +kernel) (pa_cons (pv 0) (pa_cons (pe_bltn (v := .ty "int") (u := .type "int") (by rfl) B.int (by decide +kernel) rfl) pa_nil))) (pe_one (pe_not (pe_callB call_isi (by rfl) B.isinstance (by decide +kernel) (pa_cons (pv 0) (pa_cons (pe_bltn (v := .ty "bool") (u := .type "bool") (by rfl) B.bool (by decide +kernel) rfl) pa_nil)))))))), ?_⟩
    refine ⟨_, rfl, _, _, _, _, _, rfl, .ty _, tyx_th h, kit_ty (kit_int d), _, rfl, ?_⟩
    have fin : ∀ b : Bool, b = whole d → Q (.bl b) H := fun b e => by rw [e]; exact q H (Same.refl _)
    cases d with
    | int i =>
      refine iteT ?_
      refine ⟨_, rfl, _, _, _, _, _, rfl, .ty _, tyx_th h, kit_ty (kit_bool _), _, rfl, ?_⟩
      exact fin _ rfl
    | bool b =>
      refine iteT ?_
      refine ⟨_, rfl, _, _, _, _, _, rfl, .ty _, tyx_th h, kit_ty (kit_bool _), _, rfl, ?_⟩
      exact fin _ rfl
    | _ => exact iteF (fin _ rfl)
theorem ok_in_range (c_is_integer : Cal P w K mg base 1 "is_integer" (spB K whole) []) (D : Df K mg "in_range" s_in_range) : Cal P w K mg base 2 "in_range" (spR K) [] := by
  refine D.cal sc_in_range (fun _ _ _ _ _ _ us hl => match us, hl with | [_, _, _], _ => rfl) (fun vs H Q E h => ?_) (fun f cdv A out s H vs Q E hr h => ?_)
  · obtain ⟨x, d, lo, hi, rfl, _⟩ := h
    rfl
  · obtain ⟨x, d, lo, hi, rfl, h, hc, q⟩ := h
    refine ⟨_, (pss_one (ps_ret (pe_and (pe_c c_is_integer hr (by decide) (by rfl) (pa_cons (pv 0) pa_nil)) (pe_one (pe_chain op_le op_le (pv 1) (pv 0) (pv 2)))))), ?_⟩
    refine ⟨_, rfl, x, d, rfl, h, hc, fun H1 s1 => ⟨_, rfl, ?_⟩⟩
    cases d with
    | int i =>
      have e : x = .int i := by
        rcases h with h | ⟨a, z, e, h, e'⟩
        · cases h; rfl
        · cases e'
      subst e
      refine iteT ?_
      refine ⟨_, rfl, _, rfl, _, _, rfl, rfl, _, rfl, ?_⟩
      have fin : ∀ b : Bool, b = between lo hi (.int i) → Q (.bl b) H1 := fun b e => by rw [e]; exact q H1 s1
      refine ite2 (fun e => ?_) (fun e => ?_)
      · refine ⟨_, rfl, _, _, rfl, rfl, fin _ ?_⟩
        show decide (i ≤ hi) = (decide (lo ≤ i) && decide (i ≤ hi))
        rw [e]; rfl
      · refine fin _ ?_
        show false = (decide (lo ≤ i) && decide (i ≤ hi))
        rw [eq_false_of_ne_true e]; rfl
    | _ => exact iteF (q H1 s1)
theorem ok_is_letters (B : Bl mg) (D : Df K mg "is_letters" s_is_letters) : Cal P w K mg base 1 "is_letters" spLetters [] := by
  refine D.cal sc_is_letters (fun _ _ _ _ _ _ us hl => match us, hl with | [_], _ => rfl) (fun vs H Q E h => ?_) (fun f cdv A out s H vs Q E hr h => ?_)
  · obtain ⟨z, rfl, _⟩ := h
    rfl
  · obtain ⟨z, rfl, hz, q⟩ := h
    refine ⟨_, (pss_one (ps_ret (pe_callB (cr_all rfl) (by rfl) B.all (by decide +kernel) (pa_cons (pe_lc (own := [("sign", 1)]) (by rfl) sc_is_letters.nd (pi_str (pv 0)) (blkOk_by (own := [("sign", 1)]) (N := ["text", "sign"]) (sc := defScope s_is_letters) (by decide +kernel)) (fun _ _ _ _ _ => (pg_name (i := 1) sc_is_letters.nd rfl (Or.inl rfl))) (fun _ _ _ _ _ => pts_nil) (fun _ _ _ _ _ => (pe_chain op_le_str op_le_str pe_str (pv 1) pe_str))) pa_nil)))), ?_⟩
    refine ⟨_, rfl, z, rfl, fun Dn nD => ?_⟩
    refine lc_pure over_str (fun c => some (.bl (letter c))) nD ?_ (fun _ _ => trivial) ?_ ?_
    · have : z.length = z.cps.toList.length := by simp [Str.length]
      rw [← this]
      exact Nat.le_of_lt (Nat.lt_of_le_of_lt hz (by decide))
    · rintro c hc H0 v H' Nx s0 ⟨rfl, rfl⟩ k
      refine ⟨rfl, ?_⟩
      refine lc_yes ?_
      refine ⟨_, rfl, _, _, rfl, rfl, _, rfl, ?_⟩
      have e1 : (!decide ((⟨#[c]⟩ : Str).cps.toList < ("a" : Str).cps.toList)) = decide (97 ≤ c) := by
        show (!decide ([c] < [97])) = _
        rw [sign_lt]
        by_cases h : 97 ≤ c
        · rw [decide_eq_true h, decide_eq_false (by omega)]; rfl
        · rw [decide_eq_false h, decide_eq_true (by omega)]; rfl
      have e2 : (!decide (("z" : Str).cps.toList < (⟨#[c]⟩ : Str).cps.toList)) = decide (c ≤ 122) := by
        show (!decide ([122] < [c])) = _
        rw [sign_lt]
        by_cases h : c ≤ 122
        · rw [decide_eq_true h, decide_eq_false (by omega)]; rfl
        · rw [decide_eq_false h, decide_eq_true (by omega)]; rfl
      have fin : ∀ b : Bool, b = letter c → Nx (some (.bl b)) H' := fun b e => by rw [e]; exact k H' (Same.refl _)
      rw [e1]
      refine ite2 (fun e => ?_) (fun e => ?_)
      · refine ⟨_, _, rfl, rfl, fin _ ?_⟩
        rw [e2]
        unfold letter
        rw [e]; rfl
      · refine fin _ ?_
        unfold letter
        rw [eq_false_of_ne_true e]; rfl
    · intro H1 s1 hD
      refine ⟨Dn, z.cps.toList.map letter, rfl, .inl (.inl ?_), ?_⟩
      · rw [hD, List.map_map]
        congr 2
        exact congrFun (List.filterMap_eq_map (f := V.bl ∘ letter)) _
      · have e : (z.cps.toList.map letter).all id = letters z := by
          unfold letters
          rw [List.all_map]
          rfl
        rw [e]
        exact q H1 s1
theorem ok_is_name (B : Bl mg) (T : Gc K mg kw) (c_is_letters : Cal P w K mg base 1 "is_letters" spLetters []) (D : Df K mg "is_name" s_is_name) : Cal P w K mg base 2 "is_name" (spB K nameD) [] := by
  refine D.cal sc_is_name (fun _ _ _ _ _ _ us hl => match us, hl with | [_], _ => rfl) (fun vs H Q E h => ?_) (fun f cdv A out s H vs Q E hr h => ?_)
  · obtain ⟨x, d, rfl, _⟩ := h
    rfl
  · obtain ⟨x, d, rfl, h, hc, q⟩ := h
    refine ⟨_, (pss_cons (ps_if (PW.pt (pw_or (pt_not (pt_val (pe_callB call_isi (by rfl) B.isinstance (by decide +kernel) (pa_cons (pv 0) (pa_cons (pe_bltn (v := .ty "str") (u := .type "str") (by rfl) B.str (by decide +kernel) rfl) pa_nil))))) (pw_or1 (pt_not (pt_chain op_le op_le pe_int (pe_callB call_len_str (by rfl) B.len (by decide +kernel) (pa_cons (pv 0) pa_nil)) (pe_gc (by rfl) T.g_LONGEST_NAME))))))
(pss_one (ps_ret pe_bl))
pss_nil)
(pss_one (ps_ret (pe_and (pe_c c_is_letters hr (by decide) (by rfl) (pa_cons (pv 0) pa_nil)) (pe_one (pe_cmpR op_notIn_seq (pv 0) (pe_gc (by rfl) T.g_KEPT_WORDS) (by rfl))))))), ?_⟩
    refine ⟨_, rfl, _, _, _, _, _, rfl, .ty _, tyx_th h, kit_ty (kit_str d), _, rfl, ?_⟩
    by_cases hs : isS d = true
    · obtain ⟨z, rfl⟩ : ∃ z, d = .str z := by
        cases d <;> first | exact ⟨_, rfl⟩ | cases hs
      have e := th_str h
      subst e
      have hz : z.length ≤ 100000 := hc.len
      refine iteF ?_
      refine ⟨_, rfl, z, rfl, len_line hz, _, _, rfl, rfl, _, rfl, ?_⟩
      have fin : ∀ (b : Bool) H', Same H H' → b = nameS z → Q (.bl b) H' := fun b H' s' e => by rw [e]; exact q H' s'
      refine ite2 (fun e => ?_) (fun e => ?_)
      · have e1 : 1 ≤ z.length := by
          have : (1 : Int) ≤ (z.length : Int) := of_decide_eq_true e
          omega
        refine ⟨_, _, rfl, rfl, _, rfl, ?_⟩
        by_cases e2 : z.length ≤ 4
        · rw [show decide ((z.length : Int) ≤ 4) = true from decide_eq_true (by omega)]
          refine iteF ?_
          refine ⟨_, rfl, z, rfl, hz, fun H1 s1 => ⟨_, rfl, ?_⟩⟩
          refine ite2 (fun e => ?_) (fun e => ?_)
          · refine ⟨_, rfl, kw, _, rfl, .inr (T.kw H1), rfl, rfl, fin _ _ s1 ?_⟩
            show (!inV (.str z) (kept.map V.str)) = _
            rw [in_kept]
            unfold nameS
            rw [decide_eq_true e1, decide_eq_true e2, e]
            rfl
          · refine fin _ _ s1 ?_
            unfold nameS
            rw [decide_eq_true e1, decide_eq_true e2, eq_false_of_ne_true e]
            rfl
        · rw [show decide ((z.length : Int) ≤ 4) = false from decide_eq_false (by omega)]
          refine iteT (fin _ _ (Same.refl _) ?_)
          unfold nameS
          rw [decide_eq_false e2, Bool.and_false]
          rfl
      · have e1 : ¬ 1 ≤ z.length := by
          have : ¬ (1 : Int) ≤ (z.length : Int) := of_decide_eq_false (eq_false_of_ne_true e)
          omega
        refine ⟨_, rfl, ?_⟩
        refine iteT (fin _ _ (Same.refl _) ?_)
        unfold nameS
        rw [decide_eq_false e1]
        rfl
    · rw [eq_false_of_ne_true hs]
      refine iteT (iteT ?_)
      have : nameD d = false := by cases d <;> first | rfl | exact absurd rfl hs
      rw [← this]
      exact q H (Same.refl _)
theorem ok_is_key (T : Gc K mg kw) (c_in_range : Cal P w K mg base 2 "in_range" (spR K) []) (D : Df K mg "is_key" s_is_key) : Cal P w K mg base 3 "is_key" (spB K (between 0 999999)) [] := by
  refine D.cal sc_is_key (fun _ _ _ _ _ _ us hl => match us, hl with | [_], _ => rfl) (fun vs H Q E h => ?_) (fun f cdv A out s H vs Q E hr h => ?_)
  · obtain ⟨x, d, rfl, _⟩ := h
    rfl
  · obtain ⟨x, d, rfl, h, hc, q⟩ := h
    refine ⟨_, (pss_one (ps_ret (pe_c c_in_range hr (by decide) (by rfl) (pa_cons (pv 0) (pa_cons pe_int (pa_cons (pe_gc (by rfl) T.g_MOST_KEY) pa_nil)))))), ?_⟩
    exact ⟨_, rfl, x, d, 0, 999999, rfl, h, hc, q⟩
theorem ok_is_element (B : Bl mg) (c_is_key : Cal P w K mg base 3 "is_key" (spB K (between 0 999999)) []) (c_is_name : Cal P w K mg base 2 "is_name" (spB K nameD) []) (D : Df K mg "is_element" s_is_element) : Cal P w K mg base 4 "is_element" (spB K elemD) [] := by
  refine D.cal sc_is_element (fun _ _ _ _ _ _ us hl => match us, hl with | [_], _ => rfl) (fun vs H Q E h => ?_) (fun f cdv A out s H vs Q E hr h => ?_)
  · obtain ⟨x, d, rfl, _⟩ := h
    rfl
  · obtain ⟨x, d, rfl, h, hc, q⟩ := h
    refine ⟨_, (pss_one (ps_ret (pe_and (pe_callB call_isi (by rfl) B.isinstance (by decide +kernel) (pa_cons (pv 0) (pa_cons (pe_bltn (v := .ty "tuple") (u := .type "tuple") (by rfl) B.tuple (by decide +kernel) rfl) pa_nil))) (pe_and (pe_cmpR op_eq (pe_callB call_len_seq (by rfl) B.len (by decide +kernel) (pa_cons (pv 0) pa_nil)) pe_int (nomark _)) (pe_and (pe_c c_is_key hr (by decide) (by rfl) (pa_cons (pe_ix ix_tup (pv 0) pe_int (fun _ _ => rfl)) pa_nil)) (pe_one (pe_c c_is_name hr (by decide) (by rfl) (pa_cons (pe_ix ix_tup (pv 0) pe_int (fun _ _ => rfl)) pa_nil)))))))), ?_⟩
    refine ⟨_, rfl, _, _, _, _, _, rfl, .ty _, tyx_th h, kit_ty (kit_tuple d), _, rfl, ?_⟩
    by_cases hs : isT d = true
    · obtain ⟨ds, rfl⟩ : ∃ ds, d = .tuple ds := by
        cases d <;> first | exact ⟨_, rfl⟩ | cases hs
      obtain ⟨a, xs, rfl, h1, h2⟩ := th_tuple h
      have hl := dpAll_len h2
      refine iteT ?_
      refine ⟨_, rfl, a, xs, rfl, .inr h1, rfl, _, rfl, ?_⟩
      by_cases h2l : ds.length = 2
      · obtain ⟨d1, d2, rfl⟩ := len2 h2l
        cases h2 with
        | cons p1 h2 =>
          cases h2 with
          | cons p2 h2 =>
            cases h2
            rename_i u v
            obtain ⟨k1, k2⟩ := hc.two
            refine iteT ?_
            refine ⟨_, rfl, a, _, 0, u, rfl, rfl, h1, atI_nat (j := 0) rfl, u, d1, rfl, .inl p1, k1, fun H1 s1 => ⟨_, rfl, ?_⟩⟩
            refine ite2 (fun e => ?_) (fun e => ?_)
            · refine ⟨_, rfl, a, _, 1, v, rfl, rfl, Same.tup s1 h1, atI_nat (j := 1) rfl, v, d2, rfl, .inl (Same.dp s1 p2), k2, fun H2 s2 => ?_⟩
              have : nameD d2 = elemD (.tuple [d1, d2]) := by
                show _ = (between 0 999999 d1 && nameD d2)
                rw [e]; rfl
              rw [this]
              exact q H2 (s1.trans s2)
            · have : false = elemD (.tuple [d1, d2]) := by
                show _ = (between 0 999999 d1 && nameD d2)
                rw [eq_false_of_ne_true e]; rfl
              rw [this]
              exact q H1 s1
      · rw [show decide (V.int (xs.length : Nat) = V.int 2) = false from decide_eq_false (fun z => h2l (by rw [← hl]; have := V.int.inj z; omega))]
        refine iteF ?_
        rw [show false = elemD (.tuple ds) from (elem_no h2l).symm]
        exact q H (Same.refl _)
    · rw [eq_false_of_ne_true hs]
      refine iteF ?_
      have : elemD d = false := by cases d <;> first | rfl | exact absurd rfl hs
      rw [← this]
      exact q H (Same.refl _)
end
end Eu
set_option Elab.async false
set_option linter.all false
set_option maxRecDepth 100000
set_option maxHeartbeats 4000000
namespace Eu
open PySem PySem.Spec PyProof.Rows L2
open C8 (pe_gc pss_cut)
abbrev s_l_take : Stmt := top 25
theorem sc_l_take : FnScope ["_law_bag_here", "_law_many", "_law_digit", "_law_mixed"] ["_law_bag_here", "_law_many"] (defScope s_l_take) :=
  ⟨rfl, rfl, rfl, by decide +kernel, rfl, by decide +kernel, by decide +kernel⟩
abbrev s_l_bag : Stmt := top 24
theorem sc_l_bag : FnScope ["_law_script", "_law_at", "_law_cell", "_law_far"] ["_law_script", "_law_at"] (defScope s_l_bag) :=
  ⟨rfl, rfl, rfl, by decide +kernel, rfl, by decide +kernel, by decide +kernel⟩
section
variable {P : Program} {w : World} {K : PySem.W.Frag} {mg : Str → Option Value} {base : Heap} {kw : Addr}
theorem ok_take (D : Df K mg "_law_take" s_l_take) : Cal P w K mg base 1 "_law_take" spTake [] := by
  refine D.cal sc_l_take (fun _ _ _ _ _ _ us hl => match us, hl with | [_, _], _ => rfl) (fun vs H Q E h => ?_) (fun f cdv A out s H vs Q E hr h => ?_)
  · obtain ⟨b, m, n, rfl, _⟩ := h
    rfl
  · obtain ⟨b, m, n, rfl, m0, m1, ⟨far, mix, cnt, hb, f0, x0, x1, c0, c1⟩, hn, q⟩ := h
    refine ⟨_, (pss_cons (ps_if (pt_cmpR op_gt (pe_ix ix_list (pv 0) pe_int (fun _ _ => rfl)) pe_int (nomark _))
(pss_cons (ps_set (i := 2) sc_l_take.nd rfl (Or.inl rfl) (pe_op op_mod (pe_ix ix_list (pv 0) pe_int (fun _ _ => rfl)) (pv 1)))
(pss_cons (ps_asg (pe_op op_fdiv (pe_ix ix_list (pv 0) pe_int (fun _ _ => rfl)) (pv 1)) (pg_sub (pv 0) pe_int set_list))
(pss_one (ps_ret (pv 2)))))
pss_nil)
(pss_cons (ps_asg (pe_op op_add (pe_ix ix_list (pv 0) pe_int (fun _ _ => rfl)) pe_int) (pg_sub (pv 0) pe_int set_list))
(pss_cons (ps_set (i := 3) sc_l_take.nd rfl (Or.inl rfl) (pe_op op_mod (pe_op op_pow (pe_op op_add (pe_ix ix_list (pv 0) pe_int (fun _ _ => rfl)) (pe_op op_mul pe_int (pe_ix ix_list (pv 0) pe_int (fun _ _ => rfl)))) pe_int) pe_int))
(pss_cons (ps_set (i := 3) sc_l_take.nd rfl (Or.inl rfl) (pe_op op_mod (pe_op op_pow (pe_op op_add (pv 3) (pe_op op_mul pe_int (pe_ix ix_list (pv 0) pe_int (fun _ _ => rfl)))) pe_int) pe_int))
(pss_one (ps_ret (pe_op op_mod (pe_op op_fdiv (pv 3) pe_int) (pv 1)))))))), ?_⟩
    have L : SqL K H b [.int far, .int mix, .int cnt] := .inl (.inl hb)
    refine ⟨_, rfl, b, _, 0, _, rfl, rfl, L, atI_nat (j := 0) rfl, _, _, rfl, rfl, _, rfl, ite2 (fun e => ?_) (fun e => ?_)⟩
    · have e' : 0 < far := of_decide_eq_true e
      refine ⟨_, rfl, b, _, 0, _, rfl, rfl, L, atI_nat (j := 0) rfl, _, rfl, _, _, rfl, rfl, m0, ?_⟩
      refine ⟨_, rfl, b, _, 0, _, rfl, rfl, L, atI_nat (j := 0) rfl, _, rfl, _, _, rfl, rfl, ⟨m0, m1⟩, ?_⟩
      refine ⟨_, rfl, b, _, _, 0, rfl, rfl, hb, rfl, ?_⟩
      refine ⟨_, rfl, ?_⟩
      refine q _ _ (Int.emod_nonneg _ (by omega)) (Int.emod_lt_of_pos _ m0) But.upd ⟨far / m, mix, cnt, upd_same, Int.ediv_nonneg f0 (by omega), x0, x1, c0, by omega⟩
    · refine ⟨_, rfl, b, _, 2, _, rfl, rfl, L, atI_nat (j := 2) rfl, _, _, rfl, rfl, ?_⟩
      refine ⟨_, rfl, b, _, _, 2, rfl, rfl, hb, rfl, ?_⟩
      have L' : SqL K (upd H b (.lst [.int far, .int mix, .int (cnt + 1)])) b [.int far, .int mix, .int (cnt + 1)] := .inl (.inl upd_same)
      refine ⟨_, rfl, b, _, 1, _, rfl, rfl, L', atI_nat (j := 1) rfl, _, rfl, b, _, 2, _, rfl, rfl, L', atI_nat (j := 2) rfl, _, _, rfl, rfl, .inl ⟨by decide, by decide⟩, _, _, rfl, rfl, _, _, rfl, rfl, ⟨by decide, by decide, ?_⟩, _, _, rfl, rfl, (show (0 : Int) < 2305843009213693921 by decide), ?_⟩
      · omega
      dsimp only
      generalize hz : (mix + 1000159 * (cnt + 1)) ^ (Int.toNat 3) % 2305843009213693921 = z
      have z0 : 0 ≤ z := by rw [← hz]; exact Int.emod_nonneg _ (by decide)
      have z1 : z < 2305843009213693921 := by rw [← hz]; exact Int.emod_lt_of_pos _ (by decide)
      refine ⟨_, rfl, _, rfl, b, _, 2, _, rfl, rfl, L', atI_nat (j := 2) rfl, _, _, rfl, rfl, .inl ⟨by decide, by decide⟩, _, _, rfl, rfl, _, _, rfl, rfl, ⟨by decide, by decide, ?_⟩, _, _, rfl, rfl, (show (0 : Int) < 2305843009213693951 by decide), ?_⟩
      · omega
      refine ⟨_, rfl, _, _, rfl, rfl, ⟨by decide, by decide⟩, _, rfl, _, _, rfl, rfl, m0, ?_⟩
      exact q _ _ (Int.emod_nonneg _ (by omega)) (Int.emod_lt_of_pos _ m0) But.upd ⟨far, mix, cnt + 1, upd_same, f0, x0, x1, by omega, by omega⟩
theorem ok_bag (B : Bl mg) (D : Df K mg "_law_bag" s_l_bag) : Cal P w K mg base 1 "_law_bag" (spBag K) [] := by
  refine D.cal sc_l_bag (fun _ _ _ _ _ _ us hl => match us, hl with | [_, _], _ => rfl) (fun vs H Q E h => ?_) (fun f cdv A out s H vs Q E hr h => ?_)
  · obtain ⟨a, ns, i, rfl, _⟩ := h
    rfl
  · obtain ⟨a, ns, i, rfl, hS, i0, i1, q⟩ := h
    refine ⟨_, (pss_cut (ps_set (i := 2) sc_l_bag.nd rfl (Or.inl rfl) (pe_ifExp (pt_cmpR op_lt (pv 1) (pe_callB call_len_seq (by rfl) B.len (by decide +kernel) (pa_cons (pv 0) pa_nil)) (nomark _)) (pe_ix ix_list (pv 0) (pv 1) (fun _ _ => rfl)) pe_int))
(pss_cut (ps_set (i := 3) sc_l_bag.nd rfl (Or.inl rfl) (pe_ifExp (pt_cmpR op_ge (pe_callB call_abs (by rfl) B.abs (by decide +kernel) (pa_cons (pv 2) pa_nil)) (pe_op op_pow pe_int pe_int) (nomark _)) (pe_callB call_abs (by rfl) B.abs (by decide +kernel) (pa_cons (pv 2) pa_nil)) pe_int))
(pss_one (ps_ret (pe_lst (pa_cons (pv 3) (pa_cons (pe_op op_mod (pe_op op_mul (pe_op op_add (pe_op op_add (pe_op op_mod (pv 2) pe_int) (pe_op op_mul pe_int (pv 1))) pe_int) pe_int) pe_int) (pa_cons pe_int pa_nil)))))))), ?_⟩
    refine ⟨fun σ H' => ∃ c : Int, σ = [some (.ref a), some (.int i), some (.int c), none] ∧ H' = H, ?_, ?_⟩
    · refine ⟨_, rfl, _, rfl, a, _, rfl, .inl hS, _, _, rfl, rfl, _, rfl, ?_⟩
      refine ite2 (fun e => ?_) (fun e => ?_)
      · have e' : i < ((ns.map V.int).length : Int) := of_decide_eq_true e
        rw [List.length_map] at e'
        have hi : i.toNat < ns.length := by omega
        refine ⟨_, rfl, _, rfl, a, _, i, .int ns[i.toNat], rfl, rfl, hS, ?_, ⟨_, rfl, rfl⟩⟩
        refine at_of (j := i.toNat) (by omega) ?_
        rw [List.getElem?_map, List.getElem?_eq_getElem hi]
        rfl
      · exact ⟨0, rfl, rfl⟩
    · rintro σ H' ⟨c, rfl, rfl⟩
      refine ⟨fun σ H2 => ∃ g : Int, 0 ≤ g ∧ σ = [some (.ref a), some (.int i), some (.int c), some (.int g)] ∧ H2 = H', ?_, ?_⟩
      · refine ⟨_, rfl, _, rfl, _, _, rfl, rfl, ⟨by decide, by decide, by decide⟩, _, _, rfl, rfl, _, rfl, ?_⟩
        refine ite2 (fun e => ?_) (fun e => ?_)
        · refine ⟨_, rfl, _, rfl, ⟨_, ?_, rfl, rfl⟩⟩
          split <;> omega
        · exact ⟨0, Int.le_refl _, rfl, rfl⟩
      · rintro σ H2 ⟨g, g0, rfl, rfl⟩
        refine ⟨_, rfl, _, rfl, _, _, rfl, rfl, (show (0 : Int) < 2305843009213693951 by decide), _, rfl, _, _, rfl, rfl, .inl ⟨by decide, by decide⟩, _, _, rfl, rfl, _, _, rfl, rfl, _, _, rfl, rfl, .inr ⟨by decide, by decide⟩, _, _, rfl, rfl, (show (0 : Int) < 2305843009213693951 by decide), (by show 3 ≤ sizeLine; decide), fun p np => ?_⟩
        refine q p _ (same_new np) np ⟨g, _, 0, upd_same, g0, Int.emod_nonneg _ (by decide), Int.emod_lt_of_pos _ (by decide), by decide, by decide⟩
end
end Eu
set_option Elab.async false
set_option linter.all false
set_option maxRecDepth 100000
set_option maxHeartbeats 4000000
namespace Eu
open PySem PySem.Spec PyProof.Rows L2
open C8 (pe_gc pss_cut)
structure Gv (mg : Str → Option Value) : Prop where
  g_MOST_VALUE : ∃ u, mg "MOST_VALUE" = some u ∧ RelV (.int (10 ^ 40)) u
abbrev s_is_value : Stmt := top 11
theorem sc_is_value : FnScope ["thing"] ["thing"] (defScope s_is_value) :=
  ⟨rfl, rfl, rfl, by decide +kernel, rfl, by decide +kernel, by decide +kernel⟩
abbrev s_is_entry : Stmt := top 13
theorem sc_is_entry : FnScope ["thing"] ["thing"] (defScope s_is_entry) :=
  ⟨rfl, rfl, rfl, by decide +kernel, rfl, by decide +kernel, by decide +kernel⟩
section
variable {P : Program} {w : World} {K : PySem.W.Frag} {mg : Str → Option Value} {base : Heap} {kw : Addr}
theorem ok_is_value (B : Bl mg) (T : Gv mg) (c_is_integer : Cal P w K mg base 1 "is_integer" (spB K whole) []) (D : Df K mg "is_value" s_is_value) : Cal P w K mg base 2 "is_value" (spB K valueD) [] := by
  refine D.cal sc_is_value (fun _ _ _ _ _ _ us hl => match us, hl with | [_], _ => rfl) (fun vs H Q E h => ?_) (fun f cdv A out s H vs Q E hr h => ?_)
  · obtain ⟨x, d, rfl, _⟩ := h
    rfl
  · obtain ⟨x, d, rfl, h, hc, q⟩ := h
    refine ⟨_, (pss_one (ps_ret (pe_and (pe_c c_is_integer hr (by decide) (by rfl) (pa_cons (pv 0) pa_nil)) (pe_one (pe_cmpR op_lt (pe_callB call_abs (by rfl) B.abs (by decide +kernel) (pa_cons (pv 0) pa_nil)) (pe_gc (by rfl) T.g_MOST_VALUE) (nomark _)))))), ?_⟩
    refine ⟨_, rfl, x, d, rfl, h, hc, fun H1 s1 => ⟨_, rfl, ?_⟩⟩
    cases d with
    | int i =>
      have e := th_int h
      subst e
      refine iteT ?_
      refine ⟨_, rfl, _, rfl, _, _, rfl, rfl, ?_⟩
      have e : decide ((if i < 0 then -i else i) < (10 ^ 40 : Int)) = valueD (.int i) := by
        show _ = decide (i.natAbs < 10 ^ 40)
        refine decide_eq_decide.mpr ?_
        split <;> omega
      show Q (.bl (decide ((if i < 0 then -i else i) < (10 ^ 40 : Int)))) H1
      rw [e]
      exact q H1 s1
    | _ => exact iteF (q H1 s1)
theorem ok_is_entry (B : Bl mg) (c_is_element : Cal P w K mg base 4 "is_element" (spB K elemD) []) (c_is_value : Cal P w K mg base 2 "is_value" (spB K valueD) []) (D : Df K mg "is_entry" s_is_entry) : Cal P w K mg base 5 "is_entry" (spB K entryD) [] := by
  refine D.cal sc_is_entry (fun _ _ _ _ _ _ us hl => match us, hl with | [_], _ => rfl) (fun vs H Q E h => ?_) (fun f cdv A out s H vs Q E hr h => ?_)
  · obtain ⟨x, d, rfl, _⟩ := h
    rfl
  · obtain ⟨x, d, rfl, h, hc, q⟩ := h
    refine ⟨_, (pss_one (ps_ret (pe_and (pe_callB call_isi (by rfl) B.isinstance (by decide +kernel) (pa_cons (pv 0) (pa_cons (pe_bltn (v := .ty "tuple") (u := .type "tuple") (by rfl) B.tuple (by decide +kernel) rfl) pa_nil))) (pe_and (pe_cmpR op_eq (pe_callB call_len_seq (by rfl) B.len (by decide +kernel) (pa_cons (pv 0) pa_nil)) pe_int (nomark _)) (pe_and (pe_c c_is_element hr (by decide) (by rfl) (pa_cons (pe_slice sl_tupA (pv 0) po_none (po_some pe_int)) pa_nil)) (pe_one (pe_c c_is_value hr (by decide) (by rfl) (pa_cons (pe_ix ix_tup (pv 0) pe_int (fun _ _ => rfl)) pa_nil)))))))), ?_⟩
    refine ⟨_, rfl, _, _, _, _, _, rfl, .ty _, tyx_th h, kit_ty (kit_tuple d), _, rfl, ?_⟩
    by_cases hs : isT d = true
    · obtain ⟨ds, rfl⟩ : ∃ ds, d = .tuple ds := by
        cases d <;> first | exact ⟨_, rfl⟩ | cases hs
      obtain ⟨a, xs, rfl, h1, h2⟩ := th_tuple h
      have hl := dpAll_len h2
      refine iteT ?_
      refine ⟨_, rfl, a, xs, rfl, .inr h1, rfl, _, rfl, ?_⟩
      by_cases h2l : ds.length = 3
      · obtain ⟨d1, d2, d3, rfl⟩ := len3 h2l
        cases h2 with
        | cons p1 h2 =>
          cases h2 with
          | cons p2 h2 =>
            cases h2 with
            | cons p3 h2 =>
              cases h2
              rename_i u v y
              obtain ⟨k1, k2, k3, k12⟩ := hc.three
              refine iteT ?_
              refine ⟨_, rfl, _, rfl, a, _, rfl, h1, (fun z => absurd z.2 (by show ¬ HT.sIx 3 3 (some 2) = 3; decide)), fun _ p np => ?_⟩
              have s1 := same_new (o := .tup [u, v]) np
              refine ⟨.ref p, .tuple [d1, d2], rfl, .inl (.tup (.inl (.inl upd_same)) (.cons (Same.dp s1 p1) (.cons (Same.dp s1 p2) .nil))), k12, fun H2 s2 => ⟨_, rfl, ?_⟩⟩
              have s12 := s1.trans s2
              refine ite2 (fun e => ?_) (fun e => ?_)
              · refine ⟨_, rfl, a, _, 2, y, rfl, rfl, Same.tup s12 h1, atI_nat (j := 2) rfl, y, d3, rfl, .inl (Same.dp s12 p3), k3, fun H3 s3 => ?_⟩
                have : valueD d3 = entryD (.tuple [d1, d2, d3]) := by
                  show _ = (between 0 999999 d1 && nameD d2 && valueD d3)
                  rw [show (between 0 999999 d1 && nameD d2) = true from e]; rfl
                rw [this]
                exact q H3 (s12.trans s3)
              · have : false = entryD (.tuple [d1, d2, d3]) := by
                  show _ = (between 0 999999 d1 && nameD d2 && valueD d3)
                  rw [show (between 0 999999 d1 && nameD d2) = false from eq_false_of_ne_true e]; rfl
                rw [this]
                exact q H2 s12
      · rw [show decide (V.int (xs.length : Nat) = V.int 3) = false from decide_eq_false (fun z => h2l (by rw [← hl]; have := V.int.inj z; omega))]
        refine iteF ?_
        rw [show false = entryD (.tuple ds) from (entry_no h2l).symm]
        exact q H (Same.refl _)
    · rw [eq_false_of_ne_true hs]
      refine iteF ?_
      have : entryD d = false := by cases d <;> first | rfl | exact absurd rfl hs
      rw [← this]
      exact q H (Same.refl _)
end
end Eu
set_option Elab.async false
set_option linter.all false
set_option maxRecDepth 100000
set_option maxHeartbeats 4000000
namespace Eu
open PySem PySem.Spec PyProof.Rows L2
open C8 (pe_gc pss_cut)
open Fs
theorem hu_of {k : Nat} {A : Around} (r : Rm k A) : A.units + 1 < cLine := by have := r.rm.units; omega
theorem gTup2_mono {K : PySem.W.Frag} {i j n : Nat} : ∀ (v : V) (σ : L2.St) (H : Hp) (A B : L2.St → Hp → Prop), (∀ σ H, A σ H → B σ H) → gTup K n (gCons (gName i) (gCons (gName j) gNil)) v σ H A → gTup K n (gCons (gName i) (gCons (gName j) gNil)) v σ H B := by
  rintro v σ H A B h ⟨a, xs, e, s, l, u, r, e1, u2, r2, e2, z, q⟩
  exact ⟨a, xs, e, s, l, u, r, e1, u2, r2, e2, z, h _ _ q⟩
theorem pg_two {X : Cx} {K : PySem.W.Frag} {i j k : Nat} {x y : Str} {p1 p2 pos : Pos} (hN : X.N.Nodup) (hc : X.calm = true := by rfl) (hi : X.N[i]? = some x := by rfl) (hj : X.N[j]? = some y := by rfl)
    (hx : Loc X.env.scope x := by first | exact Or.inl rfl | exact Or.inr rfl) (hy : Loc X.env.scope y := by first | exact Or.inl rfl | exact Or.inr rfl)
    (fx : X.fn x = true ∨ X.env.scope.names.lookup x = some .local := by first | exact .inl rfl | exact .inr rfl) (fy : X.fn y = true ∨ X.env.scope.names.lookup y = some .local := by first | exact .inl rfl | exact .inr rfl)
    (hs1 : (assignEach [.Name x p1, .Name y p2] X.env).map (·.2) = assign (.Name x p1) X.env :: (assignEach [.Name y p2] X.env).map (·.2) := by rfl)
    (hs2 : (assignEach [.Name y p2] X.env).map (·.2) = assign (.Name y p2) X.env :: (assignEach [] X.env).map (·.2) := by rfl)
    (hn : (assignEach [.Name x p1, .Name y p2] X.env).length = 2 := by rfl) (hst : (assignEach [.Name x p1, .Name y p2] X.env).findIdx? (·.1) = none := by rfl)
    (hK : X.K = K := by rfl) :
    PG X (.Tuple [.Name x p1, .Name y p2] k pos) (gTup K 2 (gCons (gName i) (gCons (gName j) gNil))) := by
  subst hK
  exact pg_tup hc (pgs_cons (pg_name hN hi hx fx) (pgs_cons (pg_name hN hj hy fy) pgs_nil hs2) hs1) hn hst
theorem tyx_seq {K : PySem.W.Frag} {H : Hp} {a : Addr} {xs : List V} (h : SqL K H a xs ∨ SqT K H a xs) : ∃ t, TyX K H (.ref a) t ∧ PySem.W.kitAny K t [.type "list", .type "tuple"] = some true := by
  rcases h with h | h
  · refine ⟨.type "list", ?_, ?_⟩
    · rcases h with (h | ⟨o, h⟩) | ⟨o, its, n, h, hc, _⟩
      · exact .base (.lst h)
      · exact .base (.frz h)
      · exact .kList h hc
    · unfold PySem.W.kitAny
      rw [kit_self]
  · refine ⟨.type "tuple", ?_, ?_⟩
    · rcases h with (h | ⟨o, h⟩) | ⟨o, its, n, h, hc, _⟩
      · exact .base (.tup h)
      · exact .fTuple h
      · exact .kTuple h hc
    · unfold PySem.W.kitAny
      rw [kit_ty (show kitB "tuple" "list" = some false by decide +kernel)]
      unfold PySem.W.kitAny
      rw [kit_self]
theorem sorted_perm {l S : List Pr} (p : List.Perm l S) (h : l.Pairwise fun a b => a.1 ≤ b.1) (s : Srt S) : l = S := by
  have nd : Nd l := (List.Perm.nodup_iff (p.map (fun x : Pr => x.1))).mpr s.nd
  have hs : Srt l := by
    have nd' : l.Pairwise fun a b => a.1 ≠ b.1 := by
      have := List.nodup_iff_pairwise_ne.mp (show (l.map fun x : Pr => x.1).Nodup from nd)
      rwa [List.pairwise_map] at this
    exact (h.and nd').imp fun ⟨a, b⟩ => by omega
  exact srt_ext hs s fun k => Perm.lk p nd k
def decT (H : Hp) : V → Addr × Pr
  | .ref t => match H t with
    | some (.tup (.int i :: .str n :: _)) => (t, (i, n))
    | _ => (t, (0, ""))
  | _ => (0, (0, ""))
theorem decT_of {H : Hp} {t : Addr} {i : Int} {n : Str} {r : List V} (h : H t = some (.tup (.int i :: .str n :: r))) : decT H (.ref t) = (t, (i, n)) := by
  unfold decT
  simp only [h]
abbrev s_check_members : Stmt := top 18
theorem sc_check_members : FnScope ["items", "item"] ["items"] (defScope s_check_members) :=
  ⟨rfl, rfl, rfl, by decide +kernel, rfl, by decide +kernel, by decide +kernel⟩
abbrev s_FormSet___init__ : Stmt := inClass (top 19) 0
theorem sc_FormSet___init__ : FnScope ["self", "given", "key", "form"] ["self", "given"] (defScope s_FormSet___init__) :=
  ⟨rfl, rfl, rfl, by decide +kernel, rfl, by decide +kernel, by decide +kernel⟩
abbrev s_FormSet_members : Stmt := inClass (top 19) 1
theorem sc_FormSet_members : FnScope ["self", "key", "form"] ["self"] (defScope s_FormSet_members) :=
  ⟨rfl, rfl, rfl, by decide +kernel, rfl, by decide +kernel, by decide +kernel⟩
abbrev s_FormSet___contains__ : Stmt := inClass (top 19) 3
theorem sc_FormSet___contains__ : FnScope ["self", "key"] ["self", "key"] (defScope s_FormSet___contains__) :=
  ⟨rfl, rfl, rfl, by decide +kernel, rfl, by decide +kernel, by decide +kernel⟩
abbrev s_FormSet___len__ : Stmt := inClass (top 19) 14
theorem sc_FormSet___len__ : FnScope ["self"] ["self"] (defScope s_FormSet___len__) :=
  ⟨rfl, rfl, rfl, by decide +kernel, rfl, by decide +kernel, by decide +kernel⟩
abbrev s_FormSet___eq__ : Stmt := inClass (top 19) 15
theorem sc_FormSet___eq__ : FnScope ["self", "other"] ["self", "other"] (defScope s_FormSet___eq__) :=
  ⟨rfl, rfl, rfl, by decide +kernel, rfl, by decide +kernel, by decide +kernel⟩
section
variable {P : Program} {w : World} {K : PySem.W.Frag} {mg : Str → Option Value} {base : Heap} {kw C : Addr}
theorem ok_check (B : Bl mg) (c_is_element : Cal P w K mg base 4 "is_element" (spB K elemD) []) (D : Df K mg "check_members" s_check_members) : Cal P w K mg base 5 "check_members" (spCheck K) [] := by
  refine D.cal sc_check_members (fun _ _ _ _ _ _ us hl => match us, hl with | [_], _ => rfl) (fun vs H Q E h => ?_) (fun f cdv A out s H vs Q E hr h => ?_)
  · obtain ⟨_, a, ts, rfl, _⟩ := h
    rfl
  · obtain ⟨D, a, ts, rfl, he, q⟩ := h
    refine ⟨_, (pss_cons (ps_if (pt_not (pt_val (pe_callB call_isiT (by rfl) B.isinstance (by decide +kernel) (pa_cons (pv 0) (pa_cons (pe_tup (pa_cons (pe_bltn (v := .ty "list") (u := .type "list") (by rfl) B.list (by decide +kernel) rfl) (pa_cons (pe_bltn (v := .ty "tuple") (u := .type "tuple") (by rfl) B.tuple (by decide +kernel) rfl) pa_nil))) pa_nil)))))
(pss_one ps_never)
pss_nil)
(pss_one (ps_for PassesOwn.never (by rfl) (pi_or (pi_list (pv 0)) (pi_tup (pv 0))) (pg_name (i := 1) sc_check_members.nd rfl (Or.inl rfl))
(pss_one (ps_if (pt_not (pt_val (pe_c c_is_element hr (by decide) (by rfl) (pa_cons (pv 1) pa_nil))))
(pss_one ps_never)
pss_nil))))), ?_⟩
    refine ⟨_, rfl, by show 2 ≤ sizeLine; decide, fun p np => ?_⟩
    have s1 : Same H (upd H p (.tup [.ty "list", .ty "tuple"])) := same_new np
    have he1 := he.same s1
    obtain ⟨ty, h1, h2⟩ := tyx_seq he1.1
    refine ⟨.ref a, p, _, ty, _, true, rfl, upd_same, .cons (.ty _) (.cons (.ty _) .nil), h1, h2, _, rfl, ?_⟩
    refine iteF ?_
    have body : ∀ {J : It} {Y : (Addr × Pr) → Hp → V → Hp → Prop} {S : Hp → Prop} (o : Over J ts Y S), (∀ q H v H', Y q H v H' → H' = H ∧ v = .ref q.1) → (∀ H', Same (upd H p (.tup [.ty "list", .ty "tuple"])) H' → S H') →
        ∃ W : Nat → Nat → L2.St → Hp → Prop, (∃ m, W 0 m (start ["items", "item"] [V.ref a]) (upd H p (.tup [.ty "list", .ty "tuple"]))) ∧ ∀ i m σ H, W i m σ H → (J.stop i H ∧ Q .non H) ∨ (J.go i H ∧
          ∃ N : L2.St → Hp → Prop, (∀ σ' H', N σ' H' → ∃ m', m' < m ∧ W (i + 1) m' σ' H') ∧
            ∀ x H', J.yld i H x H' → gName 1 x σ H' fun σ2 H2 => tIfS (tNot (tB (tCall (spB K elemD) [] E0 (tCons (tVar 1) tNil)))) tNever tNext { nx := N, ct := N, bk := fun x H' => Q .non H', rt := Q } σ2 H2) := by
      intro J Y S o hY hS
      refine for_over (D := { nx := fun x H' => Q .non H', rt := Q }) o (fun i σ H' => (∃ v, σ = [some (.ref a), v]) ∧ Same (upd H p (.tup [.ty "list", .ty "tuple"])) H') ⟨⟨_, rfl⟩, Same.refl _⟩ (fun i σ H' _ h => hS H' h.2) ?_ ?_
      · rintro i x σ H2 v H3 e ⟨⟨v0, rfl⟩, s2⟩ y
        obtain ⟨rfl, rfl⟩ := hY _ _ _ _ y
        have hx := he1.2 x (List.mem_of_getElem? e)
        obtain ⟨sm, em⟩ := small_el hx.2
        refine ⟨_, rfl, _, _, rfl, .inl (Same.dp s2 (dp_el hx.1)), sm, fun H4 s4 => ⟨_, rfl, ?_⟩⟩
        rw [em]
        exact iteF ⟨⟨_, rfl⟩, s2.trans s4⟩
      · rintro σ H2 ⟨_, s2⟩
        exact q H2 (s1.trans s2)
    rcases he1.1 with hl | hl
    · refine .inl ⟨_, rfl, a, rfl, ⟨_, hl⟩, ?_⟩
      exact body (over_map over_list) (fun _ _ _ _ y => y) (fun H' s => s.seq hl)
    · refine .inr ⟨_, rfl, a, rfl, ⟨_, hl⟩, ?_⟩
      exact body (over_map over_tup) (fun _ _ _ _ y => y) (fun H' s => Same.tup s hl)
theorem ok_init (B : Bl mg) (F : Fc K mg C) (c_check_members : Cal P w K mg base 5 "check_members" (spCheck K) []) {T0 : Addr} (D : Dm K C "__init__" "FormSet.__init__" s_FormSet___init__ [.ref T0])
    (mkC : PySem.W.makesIn K C = true) (kpC : PySem.W.keepIn K (.ref C) = true) (hm : mg "FormSet" = some (.ref C)) :
    Mak P w K mg base 6 "FormSet" C (spInit K C) [] ∧ Mak P w K mg base 6 "FormSet" C (spInit K C) [.ref T0] := by
  refine D.mak1 mkC kpC hm sc_FormSet___init__ (n := 1) rfl (fun _ _ _ _ _ _ _ us its hl hi => ?_) (fun _ _ _ _ _ _ _ us its hl hi => ?_) (fun vs H Q E h => ?_) (fun f cdv A out s H vs Q E hr h => ?_)
  · match us, hl, its, hi with
    | [_, _], _, [_], _ => exact ⟨_, rfl, rfl⟩
  · match us, hl, its, hi with
    | [_], _, [_], _ => exact ⟨_, rfl, rfl⟩
  · obtain ⟨_, x, dx, a, ts, rfl, _⟩ := h
    rfl
  · obtain ⟨D, x, dx, a, ts, rfl, hx, he, hl, hf, q⟩ := h
    refine ⟨_, (pss_cons (ps_expr (pe_c c_check_members hr (by decide) (by rfl) (pa_cons (pv 1) pa_nil)))
(pss_one (ps_fld (pv 0) (pe_dc (own := [("key", 2), ("form", 3)]) (by rfl) sc_FormSet___init__.nd (pi_reversed (by rfl) B.reversed (pa_cons (pe_callTy call_list_of (by rfl) B.list (by decide +kernel) (pa_cons (pv 1) pa_nil)) pa_nil)) (blkOk_by (own := [("key", 2), ("form", 3)]) (N := ["self", "given", "key", "form"]) (sc := defScope s_FormSet___init__) (by decide +kernel)) (fun _ _ _ _ _ => (pg_two (K := K) (i := 2) (j := 3) sc_FormSet___init__.nd)) (fun _ _ _ _ _ => pts_nil) (fun _ _ _ _ _ => (pv 2)) (fun _ _ _ _ _ => (pv 3))) rfl))), ?_⟩
    refine ⟨_, rfl, D, a, ts, rfl, he, fun H1 s1 => ?_⟩
    have he1 := he.same s1
    refine ⟨_, rfl, a, vals ts, rfl, he1.1, fun l nl => ⟨l, vals ts, rfl, .inl (.inl upd_same), fun Dd nD => ?_⟩⟩
    have s2 := s1.trans (same_new (o := .lst (vals ts)) nl)
    have he2 := he.same s2
    have o : Over (Itv K l (vals ts).length) ts.reverse (fun q H v H' => H' = H ∧ v = .ref q.1) (fun H => SqL K H l (vals ts)) := by
      have o0 := over_rev (K := K) (a := l) (xs := vals ts)
      rw [show (vals ts).reverse = ts.reverse.map (fun q => V.ref q.1) from List.map_reverse.symm] at o0
      exact over_map o0
    refine dc_pure o (fun q => enc q.2) nD ?_ (fun H' s' => .inl (.inl (s' _ _ upd_same))) ?_ ?_ gTup2_mono
    · rw [List.length_reverse]
      exact Nat.le_trans hl (by decide)
    · rintro q hq H3 v H4 Nx s3 ⟨rfl, rfl⟩ k
      have hq2 := Same.tup s3 (he2.2 q (List.mem_reverse.mp hq)).1
      exact ⟨_, _, rfl, hq2, rfl, _, _, rfl, _, _, rfl, rfl, rfl, _, rfl, _, rfl, k _ (Same.refl _)⟩
    · intro H3 s3 hD
      have sx := s2.trans s3
      refine ⟨_, rfl, x, C, dx, _, rfl, sx _ _ hx, F.cls, F.na, by decide, ?_⟩
      have nDx : Dd ≠ x := fun e => by
        rw [e, s2 _ _ hx] at nD
        cases nD
      refine q _ (fun c u e => ?_) ⟨Good.canon (fun p hp => ?_) hf, x, dx, Dd, fillR (prs ts), rfl, upd_same, ?_, fillR_perm _⟩
      · obtain ⟨nc, e'⟩ := hid_some e
        rw [hid_ne nc, upd_ne nc]
        exact sx _ _ e'
      · obtain ⟨r, hr, rfl⟩ := List.mem_map.mp hp
        exact (he.2 r hr).2
      · rw [upd_ne nDx, hD, ← merge_fill]
        congr 2
        rw [← List.map_reverse, List.map_map]
        rfl
theorem ok_members (B : Bl mg) (F : Fc K mg C) (D : Dm K C "members" "FormSet.members" s_FormSet_members []) : Met P w K mg base 1 C "members" (spMembers C) [] := by
  refine D.met F.cls sc_FormSet_members (fun _ _ _ _ _ _ us hl => match us, hl with | [_], _ => rfl) (fun vs H Q E h => ?_) (fun f cdv A out s H vs Q E hr h => ?_)
  · obtain ⟨_, x, S, rfl, _⟩ := h
    rfl
  · obtain ⟨D, x, S, rfl, ⟨g, a, dx, d, m, rfl, h1, h2, hp⟩, q⟩ := h
    refine ⟨_, (pss_one (ps_ret (pe_callB cr_sortedTS (by rfl) B.sorted (by decide +kernel) (pa_cons (pe_lock (pe_lc (own := [("key", 1), ("form", 2)]) (by rfl) sc_FormSet_members.nd (pi_items (pe_fld (pv 0) rfl)) (blkOk_by (own := [("key", 1), ("form", 2)]) (N := ["self", "key", "form"]) (sc := defScope s_FormSet_members) (by decide +kernel)) (fun _ _ _ _ _ => (pg_two (K := K) (i := 1) (j := 2) sc_FormSet_members.nd)) (fun _ _ _ _ _ => pts_nil) (fun _ _ _ _ _ => (pe_tup (pa_cons (pv 1) (pa_cons (pv 2) pa_nil)))))) pa_nil)))), ?_⟩
    refine ⟨d, _, h2, trivial, fun od => ?_⟩
    have ha' : (upd H d (.frz od (.dK (m.map enc)))) a = some (.ins C dx [("forms", .ref d)]) := by
      rw [upd_ne (fun e => by rw [e, h2] at h1; cases h1)]
      exact h1
    refine ⟨_, rfl, a, C, dx, _, _, rfl, ha', F.cls, F.na, rfl, d, od, _, rfl, upd_same, fun Dd nD => ?_⟩
    refine lc_rel (over_map (f := enc) over_items) (fun p y H => ∃ t, y = .ref t ∧ H t = some (.tup [.int p.1, .str p.2])) nD ?_ (fun H' s' => s' _ _ upd_same) ?_ ?_ gTup2_mono ?_
    · have := hp.length_eq
      have := g.len
      exact Nat.le_trans (by omega) (show 60 ≤ sizeLine by decide)
    · rintro x y H3 H4 acc e ⟨t, rfl, ht⟩ b
      exact ⟨t, rfl, b.at (fun z => by rw [z, e] at ht; cases ht) ht⟩
    · rintro p hm H3 v H4 Nx s3 ⟨T, rfl, nT, rfl⟩ k
      refine ⟨_, _, rfl, .inl (.inl upd_same), rfl, _, _, rfl, _, _, rfl, rfl, rfl, _, rfl, _, rfl, by show 2 ≤ sizeLine; decide, fun t nt => ?_⟩
      exact k _ _ ((same_new nT).trans (same_new nt)) ⟨t, rfl, upd_same⟩
    · rintro H3 ys s3 hD ⟨hl, hrel⟩
      refine ⟨s3 _ _ upd_same, ?_⟩
      have so := same_open h2 s3
      have hDd : (upd H3 d (.dK (m.map enc))) Dd = some (.lst ys) := by
        rw [upd_ne (fun e => by rw [e, s3 _ _ upd_same] at hD; cases hD)]
        exact hD
      have hrel' : ∀ (i : Nat) (p : Pr) (y : V), m[i]? = some p → ys[i]? = some y → ∃ t, y = .ref t ∧ (upd H3 d (.dK (m.map enc))) t = some (.tup [.int p.1, .str p.2]) := by
        intro i p y ep ey
        obtain ⟨t, e, ht⟩ := hrel i p y ep ey
        refine ⟨t, e, ?_⟩
        rw [upd_ne (fun z => by rw [z, s3 _ _ upd_same] at ht; cases ht)]
        exact ht
      generalize hH5 : upd H3 d (.dK (m.map enc)) = H5 at so hDd hrel'
      have all : ∀ y ∈ ys, ∃ t p, p ∈ m ∧ y = .ref t ∧ H5 t = some (.tup [.int p.1, .str p.2]) := by
        intro y hy
        obtain ⟨i, hi, rfl⟩ := List.getElem_of_mem hy
        have hi' : i < m.length := by omega
        obtain ⟨t, e, ht⟩ := hrel' i m[i] ys[i] (List.getElem?_eq_getElem hi') (List.getElem?_eq_getElem hi)
        exact ⟨t, m[i], List.getElem_mem hi', e, ht⟩
      have dec : ys.map (fun y => (decT H5 y).2) = m := by
        apply List.ext_getElem
        · rw [List.length_map, hl]
        · intro i h1 h2
          rw [List.getElem_map]
          obtain ⟨t, e, ht⟩ := hrel' i m[i] (ys[i]'(by rw [List.length_map] at h1; exact h1)) (List.getElem?_eq_getElem h2) (List.getElem?_eq_getElem _)
          rw [e, decT_of ht]
      refine ⟨Dd, ys, fun y => (decT H5 y).2.1, rfl, .inl (.inl hDd), fun y hy => ?_, fun zs p hz hs np => ?_⟩
      · obtain ⟨t, r, _, rfl, ht⟩ := all y hy
        refine ⟨t, r.2, [], rfl, ?_, fun y hy => by cases hy⟩
        show H5 t = some (HO.tup [V.int (decT H5 (V.ref t)).2.1, V.str r.2])
        rw [decT_of ht]
        exact ht
      · have hal : ∀ z ∈ zs, ∃ t p, p ∈ m ∧ z = .ref t ∧ H5 t = some (.tup [.int p.1, .str p.2]) := fun z hzz => all z (hz.mem_iff.mp hzz)
        refine q p (zs.map (decT H5)) _ (so.trans (same_new np)) ?_ ?_ ?_
        · rw [upd_same]
          congr 2
          show zs = (zs.map (decT H5)).map (fun q => V.ref q.1)
          rw [List.map_map]
          symm
          refine (List.map_congr_left (g := id) fun z hzz => ?_).trans (List.map_id _)
          obtain ⟨t, r, _, rfl, ht⟩ := hal z hzz
          show V.ref (decT H5 (.ref t)).1 = .ref t
          rw [decT_of ht]
        · show (zs.map (decT H5)).map (fun q => q.2) = S
          rw [List.map_map]
          refine sorted_perm ?_ ?_ g.srt
          · have := hz.map (fun y => (decT H5 y).2)
            rw [dec] at this
            exact this.trans hp
          · rw [List.pairwise_map]
            exact hs
        · intro r hr
          obtain ⟨z, hzz, rfl⟩ := List.mem_map.mp hr
          obtain ⟨t, r, _, rfl, ht⟩ := hal z hzz
          rw [decT_of ht]
          exact same_new np _ _ ht
theorem ok_has (F : Fc K mg C) (c_is_integer : Cal P w K mg base 1 "is_integer" (spB K whole) []) (D : Dm K C "__contains__" "FormSet.__contains__" s_FormSet___contains__ []) : Met P w K mg base 2 C "__contains__" (spHas K C) [] := by
  refine D.met F.cls sc_FormSet___contains__ (fun _ _ _ _ _ _ us hl => match us, hl with | [_, _], _ => rfl) (fun vs H Q E h => ?_) (fun f cdv A out s H vs Q E hr h => ?_)
  · obtain ⟨_, x, y, S, d, rfl, _⟩ := h
    rfl
  · obtain ⟨D, x, y, S, dd, rfl, ⟨g, a, dx, d, m, rfl, h1, h2, hp⟩, hy, hc, q⟩ := h
    refine ⟨_, (pss_one (ps_ret (pe_and (pe_c c_is_integer hr (by decide) (by rfl) (pa_cons (pv 1) pa_nil)) (pe_one (pe_cmp (pc_din (hu_of hr) (pv 1) (pe_fld (pv 0) rfl)) rfl))))), ?_⟩
    refine ⟨_, rfl, y, dd, rfl, hy, hc, fun H1 s1 => ⟨_, rfl, ?_⟩⟩
    cases dd with
    | int k =>
      have e := th_int hy
      subst e
      refine iteT ?_
      refine ⟨_, rfl, _, rfl, a, C, dx, _, _, rfl, s1 _ _ h1, F.cls, F.na, rfl, d, _, rfl, .inl ⟨_, Sum.inl k, .inl (s1 _ _ h2), rfl, rfl⟩, ?_⟩
      have nd : Nd m := (List.Perm.nodup_iff (hp.map (fun x : Pr => x.1))).mpr g.srt.nd
      have e2 : (valV (m.map enc) (Sum.inl k)).isSome = hasK S k := by
        rw [val_enc, Option.isSome_map, Perm.lk hp nd k]
        rfl
      rw [e2]
      exact q H1 s1
    | _ => exact iteF (q H1 s1)
theorem ok_len (B : Bl mg) (F : Fc K mg C) (D : Dm K C "__len__" "FormSet.__len__" s_FormSet___len__ []) : Met P w K mg base 1 C "__len__" (spLen C) [] := by
  refine D.met F.cls sc_FormSet___len__ (fun _ _ _ _ _ _ us hl => match us, hl with | [_], _ => rfl) (fun vs H Q E h => ?_) (fun f cdv A out s H vs Q E hr h => ?_)
  · obtain ⟨_, x, S, rfl, _⟩ := h
    rfl
  · obtain ⟨D, x, S, rfl, ⟨g, a, dx, d, m, rfl, h1, h2, hp⟩, q⟩ := h
    refine ⟨_, (pss_one (ps_ret (pe_callB call_lenD (by rfl) B.len (by decide +kernel) (pa_cons (pe_fld (pv 0) rfl) pa_nil)))), ?_⟩
    refine ⟨_, rfl, a, C, dx, _, _, rfl, h1, F.cls, F.na, rfl, d, _, rfl, h2, ?_⟩
    have e : (m.map enc).length = S.length := by rw [List.length_map, hp.length_eq]
    rw [e]
    exact q H (Same.refl _)
theorem keys_perm {m S : List Pr} {ys : List Int} (hp : List.Perm m S) (s : Srt S) (h : ys.Perm (m.map fun p : Pr => p.1)) (hs : ys.Pairwise (· ≤ ·)) : ys = S.map fun p : Pr => p.1 := by
  have p2 : ys.Perm (S.map fun p : Pr => p.1) := h.trans (hp.map _)
  refine p2.eq_of_pairwise (le := fun a b : Int => a ≤ b) (fun a b _ _ h1 h2 => Int.le_antisymm h1 h2) hs ?_
  rw [List.pairwise_map]
  exact s.imp fun h => Int.le_of_lt h
theorem ok_eq (B : Bl mg) (F_FormSet : Fc K mg C) (D : Dm K C "__eq__" "FormSet.__eq__" s_FormSet___eq__ []) : Met P w K mg base 1 C "__eq__" (spSame C) [] := by
  refine D.met F_FormSet.cls sc_FormSet___eq__ (fun _ _ _ _ _ _ us hl => match us, hl with | [_, _], _ => rfl) (fun vs H Q E h => ?_) (fun f cdv A out s H vs Q E hr h => ?_)
  · obtain ⟨_, x, y, S, rfl, _⟩ := h
    rfl
  · obtain ⟨D, x, y, S, rfl, ⟨g, a, dx, d, m, rfl, h1, h2, hp⟩, ⟨g', a', dx', d', m', rfl, h1', h2', hp'⟩, q⟩ := h
    refine ⟨_, (pss_one (ps_ret (pe_and (pe_callB call_isi (by rfl) B.isinstance (by decide +kernel) (pa_cons (pv 1) (pa_cons (pe_gc (by rfl) F_FormSet.g_FormSet) pa_nil))) (pe_one (pe_cmpR (op_eq_dictA hr.rm.units0) (pe_fld (pv 0) rfl) (pe_fld (pv 1) rfl) (nomark _)))))), ?_⟩
    refine ⟨_, rfl, _, _, _, _, _, rfl, .own C, .base (.ins h1' F_FormSet.cls F_FormSet.ha F_FormSet.hn F_FormSet.htk F_FormSet.mro), kit_self, _, rfl, ?_⟩
    refine iteT ?_
    refine ⟨_, rfl, a, C, dx, _, _, rfl, h1, F_FormSet.cls, F_FormSet.na, rfl, _, rfl, a', C, dx', _, _, rfl, h1', F_FormSet.cls, F_FormSet.na, rfl, d, d', _, _, rfl, rfl, h2, h2', ?_, ?_, q H (Same.refl _)⟩
    · rw [List.length_map, List.length_map, hp.length_eq, hp'.length_eq]
    · intro p hm
      obtain ⟨r, hr, rfl⟩ := List.mem_map.mp hm
      refine ⟨?_, rfl⟩
      have nd' : Nd m' := (List.Perm.nodup_iff (hp'.map (fun x : Pr => x.1))).mpr g'.srt.nd
      show valV (m'.map enc) (Sum.inl r.1) = _
      rw [val_enc, lk_of_mem nd' (hp'.mem_iff.mpr (hp.mem_iff.mp hr))]
      rfl
end
end Eu
set_option Elab.async false
set_option linter.all false
set_option maxRecDepth 100000
set_option maxHeartbeats 4000000
namespace Eu
open PySem PySem.Spec PyProof.Rows L2
open Fs (Pr hasK)
open Fd
/-! ### dicts with int keys -/
section
variable {α : Type} (f : α → V)
def encW (p : Int × α) : Key × V := (.inl p.1, f p.2)
theorem any_encW (m : List (Int × α)) (k : Int) : ((m.map (encW f)).any fun kv => decide (kv.1 = Sum.inl k)) = Fg.hasK m k := by
  induction m with
  | nil => rfl
  | cons q r ih =>
    rw [List.map_cons, List.any_cons, ih]
    unfold Fg.hasK
    rw [Fg.lk_cons]
    by_cases e : k = q.1
    · subst e
      simp [encW]
    · rw [if_neg e, show decide ((encW f q).1 = Sum.inl k) = false from decide_eq_false (fun z => e (Sum.inl.inj z).symm)]
      rfl
theorem val_encW (m : List (Int × α)) (k : Int) : valV (m.map (encW f)) (Sum.inl k) = (m.lookup k).map f := by
  induction m with
  | nil => rfl
  | cons q r ih =>
    rw [Fg.lk_cons]
    by_cases e : k = q.1
    · subst e
      rw [if_pos rfl, List.map_cons]
      exact valV_pos (p := encW f q) rfl
    · rw [if_neg e, ← ih, List.map_cons]
      unfold valV
      rw [List.find?_cons, show decide ((encW f q).1 = Sum.inl k) = false from decide_eq_false (fun z => e (Sum.inl.inj z).symm)]
theorem put_encW (m : List (Int × α)) (k : Int) (v : α) : putK (m.map (encW f)) (Sum.inl k) (f v) = (Fg.put m k v).map (encW f) := by
  unfold putK Fg.put
  rw [any_encW]
  split
  · rw [List.map_map, List.map_map]
    apply List.map_congr_left
    intro q _
    show (if (encW f q).1 = Sum.inl k then ((encW f q).1, f v) else encW f q) = encW f (if q.1 = k then (k, v) else q)
    by_cases e : q.1 = k
    · rw [if_pos e, if_pos (show (encW f q).1 = Sum.inl k from congrArg Sum.inl e)]
      show (Sum.inl q.1, f v) = encW f (k, v)
      rw [e]; rfl
    · rw [if_neg e, if_neg (show ¬ (encW f q).1 = Sum.inl k from fun z => e (Sum.inl.inj z))]
  · rw [List.map_append]
    rfl
theorem merge_fillW : ∀ xs : List (Int × α), mergeK [] (xs.reverse.map (encW f)) = (Fg.fillR xs).map (encW f)
  | [] => rfl
  | p :: r => by
    rw [List.reverse_cons, List.map_append]
    show mergeK [] (r.reverse.map (encW f) ++ [encW f p]) = (Fg.put (Fg.fillR r) p.1 p.2).map (encW f)
    rw [merge_snoc, merge_fillW r]
    exact put_encW f _ _ _
/-- all keys unlike: as they are -/
theorem merge_ndW {xs : List (Int × α)} (h : Fg.Nd xs) : mergeK [] (xs.map (encW f)) = xs.map (encW f) := by
  have go : ∀ (ys zs : List (Int × α)), Fg.Nd (zs ++ ys) → mergeK (zs.map (encW f)) (ys.map (encW f)) = (zs ++ ys).map (encW f) := by
    intro ys
    induction ys with
    | nil => intro zs _; rw [List.append_nil]; rfl
    | cons p r ih =>
      intro zs hn
      have hk : Fg.hasK zs p.1 = false := by
        unfold Fg.hasK
        rw [Fg.lk_none (k := p.1) fun x hx z => ?_]
        · rfl
        · have h' := hn
          unfold Fg.Nd at h'
          rw [List.map_append, List.nodup_append] at h'
          exact h'.2.2 x.1 (List.mem_map_of_mem hx) p.1 (by simp) z
      have e : Fg.put zs p.1 p.2 = zs ++ [p] := by
        unfold Fg.put
        rw [hk]
        rfl
      show mergeK (putK (zs.map (encW f)) (encW f p).1 (encW f p).2) (r.map (encW f)) = _
      have e2 : putK (zs.map (encW f)) (encW f p).1 (encW f p).2 = (zs ++ [p]).map (encW f) := by
        rw [← e]
        exact put_encW f zs p.1 p.2
      rw [e2, ih (zs ++ [p]) (by rw [List.append_assoc]; exact hn), List.append_assoc]
      rfl
  exact go xs [] h
end
/-! ### form dicts in the heap -/
def OkT (D : List Int) (t : Tr) : Prop := OkP D (fm t) ∧ t.2.2.natAbs < 10 ^ 40
structure GoodD (D : List Int) (S : List Tr) : Prop where
  srt : Fg.Srt S
  ok : ∀ t ∈ S, OkT D t
  few : D.length ≤ 60
theorem GoodD.fm {D : List Int} {S : List Tr} (g : GoodD D S) : Good D (S.map fm) := ⟨srt_fm g.srt, fun p hp => by
  obtain ⟨t, ht, rfl⟩ := List.mem_map.mp hp
  exact (g.ok t ht).1, g.few⟩
theorem GoodD.len {D : List Int} {S : List Tr} (g : GoodD D S) : S.length ≤ 60 := by
  have := g.fm.len
  rwa [List.length_map] at this
theorem GoodD.dictOf {D : List Int} {xs : List Tr} (h : ∀ t ∈ xs, OkT D t) (f : D.length ≤ 60) : GoodD D (dictOf xs) := by
  refine ⟨srt_dictOf xs, fun t ht => ?_, f⟩
  obtain ⟨⟨a, ha, e1, e2⟩, b, hb, e3⟩ := mem_dictOf ht
  have h1 := (h a ha).1
  unfold Fd.fm at h1
  rw [e1, e2] at h1
  refine ⟨h1, ?_⟩
  rw [← e3]
  exact (h b hb).2
theorem GoodD.or {D : List Int} {S T : List Tr} (a : GoodD D S) (b : GoodD D T) : GoodD D (orD S T) :=
  GoodD.dictOf (fun p hp => (List.mem_append.mp hp).elim (a.ok p) (b.ok p)) a.few
theorem GoodD.filter {D : List Int} {S : List Tr} {f : Tr → Bool} (a : GoodD D S) : GoodD D (S.filter f) := ⟨Fg.srt_filter a.srt, fun p hp => a.ok p (List.mem_filter.mp hp).1, a.few⟩
theorem GoodD.look {D : List Int} {S : List Pr} {T : List Tr} (a : Good D S) (b : GoodD D T) : GoodD D (lookD S T) := by
  refine ⟨srt_lookD a.srt, fun t ht => ?_, a.few⟩
  unfold lookD at ht
  obtain ⟨p, hp, rfl⟩ := List.mem_map.mp ht
  obtain ⟨hp, hk⟩ := List.mem_filter.mp hp
  refine ⟨a.ok p hp, ?_⟩
  show (((T.lookup p.1).map (fun q : Tv => q.2)).getD 0).natAbs < 10 ^ 40
  cases e : T.lookup p.1 with
  | none => exact (by decide)
  | some q => exact (b.ok (p.1, q) (Fg.lk_mem e)).2
def FD (C : Addr) (D : List Int) (H : Hp) (x : V) (S : List Tr) : Prop := GoodD D S ∧ ∃ a dx d e m n, x = .ref a ∧ H a = some (.ins C dx [("forms", .ref d), ("amounts", .ref e)]) ∧ H d = some (.dK (m.map enc)) ∧ H e = some (.dK (n.map (encW V.int))) ∧
  List.Perm m (S.map fm) ∧ List.Perm n (S.map am)
theorem FD.same {C : Addr} {D : List Int} {H H' : Hp} {x : V} {S : List Tr} (h : FD C D H x S) (s : Same H H') : FD C D H' x S := by
  obtain ⟨g, a, dx, d, e, m, n, ex, h1, h2, h3, h4⟩ := h
  exact ⟨g, a, dx, d, e, m, n, ex, s _ _ h1, s _ _ h2, s _ _ h3, h4⟩
theorem FD.but {C b : Addr} {D : List Int} {H H' : Hp} {x : V} {S : List Tr} {o : HO} (h : FD C D H x S) (s : But b H H') (hb : H b = some o) (n1 : ∀ C dx fs, o ≠ .ins C dx fs) (n2 : ∀ kvs, o ≠ .dK kvs) : FD C D H' x S := by
  obtain ⟨g, a, dx, d, e, m, n, ex, h1, h2, h3, h4⟩ := h
  refine ⟨g, a, dx, d, e, m, n, ex, s.at (fun z => ?_) h1, s.at (fun z => ?_) h2, s.at (fun z => ?_) h3, h4⟩
  · rw [z, hb] at h1
    exact n1 _ _ _ (Option.some.inj h1)
  · rw [z, hb] at h2
    exact n2 _ (Option.some.inj h2)
  · rw [z, hb] at h3
    exact n2 _ (Option.some.inj h3)
/-- no attribute of these names but the two -/
theorem FD.ins {C : Addr} {D : List Int} {H : Hp} {x : V} {S : List Tr} (h : FD C D H x S) : ∃ a dx fs, x = .ref a ∧ H a = some (.ins C dx fs) ∧ ∀ m : Str, m ≠ "forms" → m ≠ "amounts" → fs.lookup m = none := by
  obtain ⟨g, a, dx, d, e, m, n, ex, h1, _⟩ := h
  refine ⟨a, dx, _, ex, h1, fun m n1 n2 => ?_⟩
  rw [List.lookup_cons, show (m == ("forms" : Str)) = false from beq_eq_false_iff_ne.mpr n1, List.lookup_cons, show (m == ("amounts" : Str)) = false from beq_eq_false_iff_ne.mpr n2]
  rfl
/-! ### lists of entries -/
abbrev valsT (ts : List (Addr × Tr)) : List V := ts.map fun q => V.ref q.1
abbrev prsT (ts : List (Addr × Tr)) : List Tr := ts.map (·.2)
def tupT (t : Tr) : HO := .tup [.int t.1, .str t.2.1, .int t.2.2]
def EnT (K : PySem.W.Frag) (H : Hp) (q : Addr × Tr) : Prop := SqT K H q.1 [.int q.2.1, .str q.2.2.1, .int q.2.2.2]
/-- a list or a tuple of entries -/
def Ens (K : PySem.W.Frag) (D : List Int) (H : Hp) (a : Addr) (ts : List (Addr × Tr)) : Prop :=
  (SqL K H a (valsT ts) ∨ SqT K H a (valsT ts)) ∧ ∀ q ∈ ts, EnT K H q ∧ OkT D q.2
theorem Ens.same {K : PySem.W.Frag} {D : List Int} {H H' : Hp} {a : Addr} {ts : List (Addr × Tr)} (h : Ens K D H a ts) (s : Same H H') : Ens K D H' a ts :=
  ⟨h.1.imp (fun z => s.seq z) (fun z => Same.tup s z), fun q hq => ⟨Same.tup s (h.2 q hq).1, (h.2 q hq).2⟩⟩
theorem log_small {i : Int} (h : i.natAbs < 10 ^ 40) : i.natAbs.log2 < 1920 := by
  by_cases hz : i.natAbs = 0
  · rw [hz]; decide
  · have := (Nat.log2_lt hz (k := 133)).mpr (Nat.lt_of_lt_of_le h (by decide))
    omega
theorem small_en {D : List Int} {t : Tr} (h : OkT D t) : Small (.tuple [.int t.1, .str t.2.1, .int t.2.2]) ∧ entryD (.tuple [.int t.1, .str t.2.1, .int t.2.2]) = true := by
  obtain ⟨h1, h2⟩ := h
  obtain ⟨⟨s1, s2⟩, s3⟩ := small_el h1
  have s1' : 1921 + 2 + (10 * t.2.1.length + 2 + 2 + 0) + 3 ≤ 100000 := s1
  have s2' : (decide (t.1.natAbs.log2 < 1920) && ((t.2.1.cps.toList.all fun c => decide (c < 1114112)) && true)) = true := s2
  have s3' : (between 0 999999 (.int t.1) && nameD (.str t.2.1)) = true := s3
  have hn := h1.2.2.2
  have hn' : t.2.1.length ≤ 4 := by
    have hn2 : nameS t.2.1 = true := hn
    unfold nameS at hn2
    simp only [Bool.and_eq_true, decide_eq_true_eq] at hn2
    exact hn2.1.1.2
  refine ⟨⟨?_, ?_⟩, ?_⟩
  · show 1921 + 2 + (10 * t.2.1.length + 2 + 2 + (1921 + 2 + 0)) + 3 ≤ 100000
    omega
  · show (decide (t.1.natAbs.log2 < 1920) && ((t.2.1.cps.toList.all fun c => decide (c < 1114112)) && (decide (t.2.2.natAbs.log2 < 1920) && true))) = true
    rw [decide_eq_true (log_small h2)]
    exact s2'
  · show (between 0 999999 (.int t.1) && nameD (.str t.2.1) && decide (t.2.2.natAbs < 10 ^ 40)) = true
    rw [s3', decide_eq_true h2]
    rfl
theorem dp_en {K : PySem.W.Frag} {H : Hp} {q : Addr × Tr} (h : EnT K H q) : Dp K H (.ref q.1) (.tuple [.int q.2.1, .str q.2.2.1, .int q.2.2.2]) := .tup h (.cons (.int _) (.cons (.str _) (.cons (.int _) .nil)))
theorem ens_of {K : PySem.W.Frag} {D : List Int} {H : Hp} {p : Addr} {ts : List (Addr × Tr)} (h : H p = some (.lst (valsT ts))) (ht : ∀ q ∈ ts, H q.1 = some (tupT q.2)) (ok : ∀ q ∈ prsT ts, OkT D q) : Ens K D H p ts :=
  ⟨.inl (.inl (.inl h)), fun q hq => ⟨.inl (.inl (ht q hq)), ok _ (List.mem_map_of_mem hq)⟩⟩
/-! ### what the functions of a form dict tell -/
def spCheckD (K : PySem.W.Frag) : Sp := fun vs H Q _ => ∃ (D : List Int) (a : Addr) (ts : List (Addr × Tr)), vs = [.ref a] ∧ Ens K D H a ts ∧ ∀ H', Same H H' → Q .non H'
def spInitD (K : PySem.W.Frag) (C : Addr) : Sp := fun vs H Q _ => ∃ (D : List Int) (x dx a : Addr) (ts : List (Addr × Tr)), vs = [.ref x, .ref a] ∧ H x = some (.ins C dx []) ∧ Ens K D H a ts ∧ ts.length ≤ 1000 ∧ D.length ≤ 60 ∧
  ∀ H', But x H H' → FD C D H' (.ref x) (dictOf (prsT ts)) → Q .non H'
def spEntries (C : Addr) : Sp := fun vs H Q _ => ∃ (D : List Int) (x : V) (S : List Tr), vs = [x] ∧ FD C D H x S ∧
  ∀ (p : Addr) (ts : List (Addr × Tr)) (H' : Hp), Same H H' → H' p = some (.lst (valsT ts)) → prsT ts = S → (∀ q ∈ ts, H' q.1 = some (tupT q.2)) → Q (.ref p) H'
def hasDD (S : List Tr) : PyData → Bool
  | .int k => Fg.hasK S k
  | _ => false
def spHasD (K : PySem.W.Frag) (C : Addr) : Sp := fun vs H Q _ => ∃ (D : List Int) (x y : V) (S : List Tr) (d : PyData), vs = [x, y] ∧ FD C D H x S ∧ Th K H y d ∧ Small d ∧ ∀ H', Same H H' → Q (.bl (hasDD S d)) H'
/-- d[k], k is there -/
def spItem (C : Addr) : Sp := fun vs H Q _ => ∃ (D : List Int) (x : V) (k : Int) (S : List Tr) (v : Tv), vs = [x, .int k] ∧ FD C D H x S ∧ S.lookup k = some v ∧ ∀ H', Same H H' → Q (.int v.2) H'
def spBinD (C : Addr) (f : List Tr → List Tr → List Tr) : Sp := fun vs H Q _ => ∃ (D : List Int) (x y : V) (S T : List Tr), vs = [x, y] ∧ FD C D H x S ∧ FD C D H y T ∧ ∀ z H', Same H H' → FD C D H' z (f S T) → Q z H'
/-- with a form set -/
def spBinDS (C CS : Addr) (f : List Tr → List Pr → List Tr) : Sp := fun vs H Q _ => ∃ (D : List Int) (x y : V) (S : List Tr) (T : List Pr), vs = [x, y] ∧ FD C D H x S ∧ FS CS D H y T ∧ ∀ z H', Same H H' → FD C D H' z (f S T) → Q z H'
def spKeySet (C CS : Addr) : Sp := fun vs H Q _ => ∃ (D : List Int) (x : V) (S : List Tr), vs = [x] ∧ FD C D H x S ∧ ∀ z H', Same H H' → FS CS D H' z (S.map fm) → Q z H'
def spLooked (C CS : Addr) : Sp := fun vs H Q _ => ∃ (D : List Int) (x y : V) (S : List Pr) (T : List Tr), vs = [x, y] ∧ FS CS D H x S ∧ FD C D H y T ∧ ∀ z H', Same H H' → FD C D H' z (lookD S T) → Q z H'
def spSameD (C : Addr) : Sp := fun vs H Q _ => ∃ (D : List Int) (x y : V) (S : List Tr), vs = [x, y] ∧ FD C D H x S ∧ FD C D H y S ∧ ∀ H', Same H H' → Q (.bl true) H'
/-- what is known of the class -/
structure Fdc (K : PySem.W.Frag) (mg : Str → Option Value) (C : Addr) : Prop where
  g_FormDict : ∃ u, mg "FormDict" = some u ∧ RelV (.ref C) u
  cls : Cls K C
  na : NoAttr K C "forms"
  na2 : NoAttr K C "amounts"
  sf : PySem.W.selfFirst K C = true
  mro : PySem.W.mroIn K C (.type "object") = some true
  ne : PySem.W.findIn K (.ref C) "__ne__" = some (some (.builtin "object.__ne__"))
  ha : PySem.W.findIn K (.ref C) "__class__" = some (some (.builtin "object.__class__"))
  hn : PySem.W.specialIn K (.builtin "object.__class__") "__get__" = some (some (.builtin "getset_descriptor.__get__"))
  htk : PySem.W.takesIn K (.builtin "object.__class__") = some true
/-! ### how they are used -/
section
variable {K : PySem.W.Frag} {C CS : Addr} {D : List Int} {H : Hp} {x y : V} {S T : List Tr} {U : List Pr}
/-- FormDict(list) -/
theorem use_makeD {a : Addr} {ts : List (Addr × Tr)} {Q : VK} (e : Ens K D H a ts) (l : ts.length ≤ 1000) (f : D.length ≤ 60) (q : ∀ z H', Same H H' → FD C D H' z (dictOf (prsT ts)) → Q z H') :
    ∀ x dx, H x = none → H dx = none → dx ≠ x → spInitD K C (.ref x :: ([V.ref a] ++ [])) (upd (upd H dx (.own x)) x (.ins C dx [])) (fun v H2 => v = .non ∧ Q (.ref x) H2) E0 := by
  intro x dx hx hdx ne
  have s1 : Same H (upd H dx (.own x)) := same_new hdx
  have hx1 : (upd H dx (.own x)) x = none := by rw [upd_ne ne.symm]; exact hx
  have s2 := s1.trans (same_new (o := .ins C dx []) hx1)
  refine ⟨D, x, dx, a, ts, rfl, upd_same, e.same s2, l, f, fun H' b fs => ⟨rfl, q _ _ (fun c o z => ?_) fs⟩⟩
  exact b.at (ne_of_none z hx) (s2 _ _ z)
theorem FD.notImpl {z : V} (fz : FD C D H z S) : ∀ u, RelV z u → u ≠ .notImplemented := by
  obtain ⟨c, _, _, rfl, _⟩ := fz.ins
  intro u r
  cases r
  exact fun z => nomatch z
theorem use_binD {f : List Tr → List Tr → List Tr} {Q : VK} (h1 : FD C D H x S) (h2 : FD C D H y T) (q : ∀ z H', Same H H' → FD C D H' z (f S T) → Q z H') : rOwn C (spBinD C f) [] x y H Q := by
  obtain ⟨a, dx, fs, rfl, ha, _⟩ := h1.ins
  obtain ⟨b, dy, gs, rfl, hb, _⟩ := h2.ins
  exact ⟨a, b, dx, dy, fs, gs, rfl, rfl, ha, hb, D, _, _, S, T, rfl, h1, h2, fun z H' s fz => ⟨fz.notImpl, q z H' s fz⟩⟩
theorem use_binDS {f : List Tr → List Pr → List Tr} {Q : VK} (h1 : FD C D H x S) (h2 : FS CS D H y U) (q : ∀ z H', Same H H' → FD C D H' z (f S U) → Q z H') : rOwn2 C CS (spBinDS C CS f) [] x y H Q := by
  obtain ⟨a, dx, fs, rfl, ha, _⟩ := h1.ins
  obtain ⟨b, dy, gs, rfl, hb, _⟩ := h2.ins
  exact ⟨a, b, dx, dy, fs, gs, rfl, rfl, ha, hb, D, _, _, S, U, rfl, h1, h2, fun z H' s fz => ⟨fz.notImpl, q z H' s fz⟩⟩
theorem use_sameD {Q : VK} (h1 : FD C D H x S) (h2 : FD C D H y S) (q : ∀ H', Same H H' → Q (.bl true) H') : rOwn C (spSameD C) [] x y H Q := by
  obtain ⟨a, dx, fs, rfl, ha, _⟩ := h1.ins
  obtain ⟨b, dy, gs, rfl, hb, _⟩ := h2.ins
  refine ⟨a, b, dx, dy, fs, gs, rfl, rfl, ha, hb, D, _, _, S, rfl, h1, h2, fun H' s => ⟨?_, q H' s⟩⟩
  intro u r
  cases r
  exact fun z => nomatch z
theorem use_neD {Q : VK} (h1 : FD C D H x S) (h2 : FD C D H y S) (q : ∀ H', Same H H' → Q (.bl false) H') : rOwnNe C (spSameD C) [] x y H Q := by
  obtain ⟨a, dx, fs, rfl, ha, _⟩ := h1.ins
  obtain ⟨b, dy, gs, rfl, hb, _⟩ := h2.ins
  exact ⟨a, b, dx, dy, fs, gs, rfl, rfl, ha, hb, D, _, _, S, rfl, h1, h2, fun H' s => ⟨true, rfl, q H' s⟩⟩
theorem small_key {k : Int} (hk : 0 ≤ k) (hk' : k ≤ 999999) : Small (.int k) := by
  refine ⟨?_, ?_⟩
  · show 1921 ≤ 100000; decide
  · show decide (k.natAbs.log2 < 1920) = true
    refine decide_eq_true ?_
    by_cases hz : k.natAbs = 0
    · rw [hz]; decide
    · have := (Nat.log2_lt hz (k := 20)).mpr (by omega)
      omega
theorem use_inD {neg : Bool} {k : Int} {Q : VK} (h1 : FD C D H x S) (hk : 0 ≤ k) (hk' : k ≤ 999999) (q : ∀ H', Same H H' → Q (.bl (if neg then !Fg.hasK S k else Fg.hasK S k)) H') : rOwnIn C neg (spHasD K C) [] (.int k) x H Q := by
  obtain ⟨a, dx, fs, rfl, ha, _⟩ := h1.ins
  exact ⟨a, dx, fs, rfl, ha, D, _, _, S, .int k, rfl, h1, .inl (.int k), small_key hk hk', fun H' s => ⟨_, rfl, q H' s⟩⟩
theorem use_item {k : Int} {v : Tv} {Q : VK} (h1 : FD C D H x S) (hv : S.lookup k = some v) (q : ∀ H', Same H H' → Q (.int v.2) H') : rOwnIx C (spItem C) [] x (.int k) H Q := by
  obtain ⟨a, dx, fs, rfl, ha, _⟩ := h1.ins
  exact ⟨a, dx, fs, rfl, ha, D, _, k, S, v, rfl, h1, hv, q⟩
end
end Eu
set_option Elab.async false
set_option linter.all false
set_option maxRecDepth 100000
set_option maxHeartbeats 4000000
namespace Eu
open PySem PySem.Spec PyProof.Rows L2
open C8 (pe_gc pss_cut)
open Fs (Pr hasK)
open Fd
theorem ix_tupK {X : Cx} {K : PySem.W.Frag} (h : X.K = K := by rfl) : IxR X (rIxT K) := by subst h; exact ix_tup
theorem ix_listK {X : Cx} {K : PySem.W.Frag} (h : X.K = K := by rfl) : IxR X (rIxL K) := by subst h; exact ix_list
theorem gTup3_mono {K : PySem.W.Frag} {i j l n : Nat} : ∀ (v : V) (σ : L2.St) (H : Hp) (A B : L2.St → Hp → Prop), (∀ σ H, A σ H → B σ H) → gTup K n (gCons (gName i) (gCons (gName j) (gCons (gName l) gNil))) v σ H A → gTup K n (gCons (gName i) (gCons (gName j) (gCons (gName l) gNil))) v σ H B := by
  rintro v σ H A B h ⟨a, xs, e, s, l, u, r, e1, u2, r2, e2, u3, r3, e3, z, q⟩
  exact ⟨a, xs, e, s, l, u, r, e1, u2, r2, e2, u3, r3, e3, z, h _ _ q⟩
theorem pg_three {X : Cx} {K : PySem.W.Frag} {i j l k : Nat} {x y z : Str} {p1 p2 p3 pos : Pos} (hN : X.N.Nodup) (hc : X.calm = true := by rfl) (hi : X.N[i]? = some x := by rfl) (hj : X.N[j]? = some y := by rfl) (hl : X.N[l]? = some z := by rfl)
    (hx : Loc X.env.scope x := by first | exact Or.inl rfl | exact Or.inr rfl) (hy : Loc X.env.scope y := by first | exact Or.inl rfl | exact Or.inr rfl) (hz : Loc X.env.scope z := by first | exact Or.inl rfl | exact Or.inr rfl)
    (fx : X.fn x = true ∨ X.env.scope.names.lookup x = some .local := by first | exact .inl rfl | exact .inr rfl) (fy : X.fn y = true ∨ X.env.scope.names.lookup y = some .local := by first | exact .inl rfl | exact .inr rfl) (fz : X.fn z = true ∨ X.env.scope.names.lookup z = some .local := by first | exact .inl rfl | exact .inr rfl)
    (hs1 : (assignEach [.Name x p1, .Name y p2, .Name z p3] X.env).map (·.2) = assign (.Name x p1) X.env :: (assignEach [.Name y p2, .Name z p3] X.env).map (·.2) := by rfl)
    (hs2 : (assignEach [.Name y p2, .Name z p3] X.env).map (·.2) = assign (.Name y p2) X.env :: (assignEach [.Name z p3] X.env).map (·.2) := by rfl)
    (hs3 : (assignEach [.Name z p3] X.env).map (·.2) = assign (.Name z p3) X.env :: (assignEach [] X.env).map (·.2) := by rfl)
    (hn : (assignEach [.Name x p1, .Name y p2, .Name z p3] X.env).length = 3 := by rfl) (hst : (assignEach [.Name x p1, .Name y p2, .Name z p3] X.env).findIdx? (·.1) = none := by rfl)
    (hK : X.K = K := by rfl) :
    PG X (.Tuple [.Name x p1, .Name y p2, .Name z p3] k pos) (gTup K 3 (gCons (gName i) (gCons (gName j) (gCons (gName l) gNil)))) := by
  subst hK
  exact pg_tup hc (pgs_cons (pg_name hN hi hx fx) (pgs_cons (pg_name hN hj hy fy) (pgs_cons (pg_name hN hl hz fz) pgs_nil hs3) hs2) hs1) hn hst
theorem SqL.but {K : PySem.W.Frag} {H H' : Hp} {a b : Addr} {xs : List V} {o : HO} (h : SqL K H a xs) (s : But b H H') (hb : H b = some o) (n1 : ∀ ys, o ≠ .lst ys) (n2 : ∀ ob u, o ≠ .frz ob u) : SqL K H' a xs := by
  rcases h with (h | ⟨ob, h⟩) | h
  · exact .inl (.inl (s.at (fun z => by rw [z, hb] at h; exact n1 _ (Option.some.inj h)) h))
  · exact .inl (.inr ⟨ob, s.at (fun z => by rw [z, hb] at h; exact n2 _ _ (Option.some.inj h)) h⟩)
  · exact .inr h
theorem SqT.but {K : PySem.W.Frag} {H H' : Hp} {a b : Addr} {xs : List V} {o : HO} (h : SqT K H a xs) (s : But b H H') (hb : H b = some o) (n1 : ∀ ys, o ≠ .tup ys) (n2 : ∀ ob u, o ≠ .frz ob u) : SqT K H' a xs := by
  rcases h with (h | ⟨ob, h⟩) | h
  · exact .inl (.inl (s.at (fun z => by rw [z, hb] at h; exact n1 _ (Option.some.inj h)) h))
  · exact .inl (.inr ⟨ob, s.at (fun z => by rw [z, hb] at h; exact n2 _ _ (Option.some.inj h)) h⟩)
  · exact .inr h
theorem Ens.but {K : PySem.W.Frag} {D : List Int} {H H' : Hp} {a b : Addr} {ts : List (Addr × Tr)} {C dx : Addr} {fs : List (Str × V)} (h : Ens K D H a ts) (s : But b H H') (hb : H b = some (.ins C dx fs)) : Ens K D H' a ts :=
  ⟨h.1.imp (fun z => SqL.but z s hb (fun _ z => nomatch z) (fun _ _ z => nomatch z)) (fun z => SqT.but z s hb (fun _ z => nomatch z) (fun _ _ z => nomatch z)), fun q hq => ⟨SqT.but (h.2 q hq).1 s hb (fun _ z => nomatch z) (fun _ _ z => nomatch z), (h.2 q hq).2⟩⟩
abbrev s_check_entries : Stmt := top 21
theorem sc_check_entries : FnScope ["items", "item"] ["items"] (defScope s_check_entries) :=
  ⟨rfl, rfl, rfl, by decide +kernel, rfl, by decide +kernel, by decide +kernel⟩
abbrev s_FormDict___init__ : Stmt := inClass (top 22) 0
theorem sc_FormDict___init__ : FnScope ["self", "given", "key", "form", "value"] ["self", "given"] (defScope s_FormDict___init__) :=
  ⟨rfl, rfl, rfl, by decide +kernel, rfl, by decide +kernel, by decide +kernel⟩
abbrev s_FormDict_entries : Stmt := inClass (top 22) 2
theorem sc_FormDict_entries : FnScope ["self", "key", "form"] ["self"] (defScope s_FormDict_entries) :=
  ⟨rfl, rfl, rfl, by decide +kernel, rfl, by decide +kernel, by decide +kernel⟩
abbrev s_FormDict___contains__ : Stmt := inClass (top 22) 4
theorem sc_FormDict___contains__ : FnScope ["self", "key"] ["self", "key"] (defScope s_FormDict___contains__) :=
  ⟨rfl, rfl, rfl, by decide +kernel, rfl, by decide +kernel, by decide +kernel⟩
abbrev s_FormDict___getitem__ : Stmt := inClass (top 22) 6
theorem sc_FormDict___getitem__ : FnScope ["self", "key"] ["self", "key"] (defScope s_FormDict___getitem__) :=
  ⟨rfl, rfl, rfl, by decide +kernel, rfl, by decide +kernel, by decide +kernel⟩
section
variable {P : Program} {w : World} {K : PySem.W.Frag} {mg : Str → Option Value} {base : Heap} {kw C : Addr}
theorem ok_checkD (B : Bl mg) (c_is_entry : Cal P w K mg base 5 "is_entry" (spB K entryD) []) (D : Df K mg "check_entries" s_check_entries) : Cal P w K mg base 6 "check_entries" (spCheckD K) [] := by
  refine D.cal sc_check_entries (fun _ _ _ _ _ _ us hl => match us, hl with | [_], _ => rfl) (fun vs H Q E h => ?_) (fun f cdv A out s H vs Q E hr h => ?_)
  · obtain ⟨_, a, ts, rfl, _⟩ := h
    rfl
  · obtain ⟨D, a, ts, rfl, he, q⟩ := h
    refine ⟨_, (pss_cons (ps_if (pt_not (pt_val (pe_callB call_isiT (by rfl) B.isinstance (by decide +kernel) (pa_cons (pv 0) (pa_cons (pe_tup (pa_cons (pe_bltn (v := .ty "list") (u := .type "list") (by rfl) B.list (by decide +kernel) rfl) (pa_cons (pe_bltn (v := .ty "tuple") (u := .type "tuple") (by rfl) B.tuple (by decide +kernel) rfl) pa_nil))) pa_nil)))))
(pss_one ps_never)
pss_nil)
(pss_one (ps_for PassesOwn.never (by rfl) (pi_or (pi_list (pv 0)) (pi_tup (pv 0))) (pg_name (i := 1) sc_check_entries.nd rfl (Or.inl rfl))
(pss_one (ps_if (pt_not (pt_val (pe_c c_is_entry hr (by decide) (by rfl) (pa_cons (pv 1) pa_nil))))
(pss_one ps_never)
pss_nil))))), ?_⟩
    refine ⟨_, rfl, by show 2 ≤ sizeLine; decide, fun p np => ?_⟩
    have s1 : Same H (upd H p (.tup [.ty "list", .ty "tuple"])) := same_new np
    have he1 := he.same s1
    obtain ⟨ty, h1, h2⟩ := tyx_seq he1.1
    refine ⟨.ref a, p, _, ty, _, true, rfl, upd_same, .cons (.ty _) (.cons (.ty _) .nil), h1, h2, _, rfl, ?_⟩
    refine iteF ?_
    have body : ∀ {J : It} {Y : (Addr × Tr) → Hp → V → Hp → Prop} {S : Hp → Prop} (o : Over J ts Y S), (∀ q H v H', Y q H v H' → H' = H ∧ v = .ref q.1) → (∀ H', Same (upd H p (.tup [.ty "list", .ty "tuple"])) H' → S H') →
        ∃ W : Nat → Nat → L2.St → Hp → Prop, (∃ m, W 0 m (start ["items", "item"] [V.ref a]) (upd H p (.tup [.ty "list", .ty "tuple"]))) ∧ ∀ i m σ H, W i m σ H → (J.stop i H ∧ Q .non H) ∨ (J.go i H ∧
          ∃ N : L2.St → Hp → Prop, (∀ σ' H', N σ' H' → ∃ m', m' < m ∧ W (i + 1) m' σ' H') ∧
            ∀ x H', J.yld i H x H' → gName 1 x σ H' fun σ2 H2 => tIfS (tNot (tB (tCall (spB K entryD) [] E0 (tCons (tVar 1) tNil)))) tNever tNext { nx := N, ct := N, bk := fun x H' => Q .non H', rt := Q } σ2 H2) := by
      intro J Y S o hY hS
      refine for_over (D := { nx := fun x H' => Q .non H', rt := Q }) o (fun i σ H' => (∃ v, σ = [some (.ref a), v]) ∧ Same (upd H p (.tup [.ty "list", .ty "tuple"])) H') ⟨⟨_, rfl⟩, Same.refl _⟩ (fun i σ H' _ h => hS H' h.2) ?_ ?_
      · rintro i x σ H2 v H3 e ⟨⟨v0, rfl⟩, s2⟩ y
        obtain ⟨rfl, rfl⟩ := hY _ _ _ _ y
        have hx := he1.2 x (List.mem_of_getElem? e)
        obtain ⟨sm, em⟩ := small_en hx.2
        refine ⟨_, rfl, _, _, rfl, .inl (Same.dp s2 (dp_en hx.1)), sm, fun H4 s4 => ⟨_, rfl, ?_⟩⟩
        rw [em]
        exact iteF ⟨⟨_, rfl⟩, s2.trans s4⟩
      · rintro σ H2 ⟨_, s2⟩
        exact q H2 (s1.trans s2)
    rcases he1.1 with hl | hl
    · refine .inl ⟨_, rfl, a, rfl, ⟨_, hl⟩, ?_⟩
      exact body (over_map over_list) (fun _ _ _ _ y => y) (fun H' s => s.seq hl)
    · refine .inr ⟨_, rfl, a, rfl, ⟨_, hl⟩, ?_⟩
      exact body (over_map over_tup) (fun _ _ _ _ y => y) (fun H' s => Same.tup s hl)
theorem ok_initD (B : Bl mg) (F : Fdc K mg C) (c_check_entries : Cal P w K mg base 6 "check_entries" (spCheckD K) []) {T0 : Addr} (D : Dm K C "__init__" "FormDict.__init__" s_FormDict___init__ [.ref T0])
    (mkC : PySem.W.makesIn K C = true) (kpC : PySem.W.keepIn K (.ref C) = true) (hm : mg "FormDict" = some (.ref C)) :
    Mak P w K mg base 7 "FormDict" C (spInitD K C) [] ∧ Mak P w K mg base 7 "FormDict" C (spInitD K C) [.ref T0] := by
  refine D.mak1 mkC kpC hm sc_FormDict___init__ (n := 1) rfl (fun _ _ _ _ _ _ _ us its hl hi => ?_) (fun _ _ _ _ _ _ _ us its hl hi => ?_) (fun vs H Q E h => ?_) (fun f cdv A out s H vs Q E hr h => ?_)
  · match us, hl, its, hi with
    | [_, _], _, [_], _ => exact ⟨_, rfl, rfl⟩
  · match us, hl, its, hi with
    | [_], _, [_], _ => exact ⟨_, rfl, rfl⟩
  · obtain ⟨_, x, dx, a, ts, rfl, _⟩ := h
    rfl
  · obtain ⟨D, x, dx, a, ts, rfl, hx, he, hl, hf, q⟩ := h
    refine ⟨_, (pss_cons (ps_expr (pe_c c_check_entries hr (by decide) (by rfl) (pa_cons (pv 1) pa_nil)))
(pss_cons (ps_fld (pv 0) (pe_dc (own := [("key", 2), ("form", 3), ("value", 4)]) (by rfl) sc_FormDict___init__.nd (pi_reversed (by rfl) B.reversed (pa_cons (pe_callTy call_list_of (by rfl) B.list (by decide +kernel) (pa_cons (pv 1) pa_nil)) pa_nil)) (blkOk_by (own := [("key", 2), ("form", 3), ("value", 4)]) (N := ["self", "given", "key", "form", "value"]) (sc := defScope s_FormDict___init__) (by decide +kernel)) (fun _ _ _ _ _ => (pg_three (K := K) (i := 2) (j := 3) (l := 4) sc_FormDict___init__.nd)) (fun _ _ _ _ _ => pts_nil) (fun _ _ _ _ _ => (pv 2)) (fun _ _ _ _ _ => (pv 3))) rfl)
(pss_one (ps_fld (pv 0) (pe_dc (own := [("key", 2), ("form", 3), ("value", 4)]) (by rfl) sc_FormDict___init__.nd (pi_or (pi_list (pv 1)) (pi_tup (pv 1))) (blkOk_by (own := [("key", 2), ("form", 3), ("value", 4)]) (N := ["self", "given", "key", "form", "value"]) (sc := defScope s_FormDict___init__) (by decide +kernel)) (fun _ _ _ _ _ => (pg_three (K := K) (i := 2) (j := 3) (l := 4) sc_FormDict___init__.nd)) (fun _ _ _ _ _ => pts_nil) (fun _ _ _ _ _ => (pv 2)) (fun _ _ _ _ _ => (pv 4))) rfl)))), ?_⟩
    refine ⟨_, rfl, D, a, ts, rfl, he, fun H1 s1 => ?_⟩
    have he1 := he.same s1
    refine ⟨_, rfl, a, valsT ts, rfl, he1.1, fun l nl => ⟨l, valsT ts, rfl, .inl (.inl upd_same), fun Dd nD => ?_⟩⟩
    have s2 := s1.trans (same_new (o := .lst (valsT ts)) nl)
    have he2 := he.same s2
    have o : Over (Itv K l (valsT ts).length) ts.reverse (fun q H v H' => H' = H ∧ v = .ref q.1) (fun H => SqL K H l (valsT ts)) := by
      have o0 := over_rev (K := K) (a := l) (xs := valsT ts)
      rw [show (valsT ts).reverse = ts.reverse.map (fun q => V.ref q.1) from List.map_reverse.symm] at o0
      exact over_map o0
    refine dc_pure o (fun q => enc (fm q.2)) nD ?_ (fun H' s' => .inl (.inl (s' _ _ upd_same))) ?_ ?_ gTup3_mono
    · rw [List.length_reverse]
      exact Nat.le_trans hl (by decide)
    · rintro q hq H3 v H4 Nx s3 ⟨rfl, rfl⟩ k
      have hq2 := Same.tup s3 (he2.2 q (List.mem_reverse.mp hq)).1
      exact ⟨_, _, rfl, hq2, rfl, _, _, rfl, _, _, rfl, _, _, rfl, rfl, rfl, _, rfl, _, rfl, k _ (Same.refl _)⟩
    · intro H3 s3 hD
      have sx := s2.trans s3
      refine ⟨_, rfl, x, C, dx, _, rfl, sx _ _ hx, F.cls, F.na, by decide, ?_⟩
      have nDx : Dd ≠ x := fun e => by
        rw [e, s2 _ _ hx] at nD
        cases nD
      have he3 := he.same sx
      have hx0 : H x ≠ none := by rw [hx]; exact fun z => nomatch z
      have eD : mergeK [] (ts.reverse.map fun q => enc (fm q.2)) = (Fs.fillR ((prsT ts).map fm)).map enc := by
        rw [← merge_fill]
        congr 1
        rw [← List.map_reverse, ← List.map_reverse, List.map_map, List.map_map]
        rfl
      rw [eD] at hD
      generalize hG : upd H3 x (.ins C dx (putF (Str.ofString "forms") (.ref Dd) [])) = G
      have gx : G x = some (.ins C dx [("forms", .ref Dd)]) := by rw [← hG]; exact upd_same
      have gD : G Dd = some (.dK ((Fs.fillR ((prsT ts).map fm)).map enc)) := by rw [← hG, upd_ne nDx]; exact hD
      have gb : But x H G := fun c u e => by
        obtain ⟨nc, e'⟩ := hid_some e
        rw [hid_ne nc, ← hG, upd_ne nc]
        exact sx _ _ e'
      have heG : Ens K D G a ts := he.but gb hx
      have fin : ∀ (De : Addr) (H4 : Hp), G De = none → Same G H4 → H4 De = some (.dK (mergeK [] (ts.map fun q => encW V.int (am q.2)))) → Q .non (upd H4 x (.ins C dx [("forms", .ref Dd), ("amounts", .ref De)])) := by
        intro De H4 nE s4 hE
        have nEx : De ≠ x := fun e => by rw [e, gx] at nE; cases nE
        refine q _ (fun c u e => ?_) ⟨GoodD.dictOf (fun p hp => ?_) hf, x, dx, Dd, De, Fs.fillR ((prsT ts).map fm), Fg.fillR ((prsT ts).map am).reverse, rfl, upd_same, ?_, ?_, ?_, am_dictOf _⟩
        · have := (gb.trans (But.of_same s4)) c u e
          obtain ⟨nc, e'⟩ := hid_some e
          rw [hid_ne nc] at this ⊢
          rw [upd_ne nc]
          exact this
        · obtain ⟨r, hr, rfl⟩ := List.mem_map.mp hp
          exact (he.2 r hr).2
        · rw [upd_ne nDx]
          exact s4 _ _ gD
        · rw [upd_ne nEx, hE, ← merge_fillW, List.reverse_reverse, List.map_map, List.map_map]
          rfl
        · rw [fm_dictOf]
          exact Fs.fillR_perm _
      have step : ∀ q ∈ ts, ∀ (H3 : Hp), Same G H3 → SqT K H3 q.1 [.int q.2.1, .str q.2.2.1, .int q.2.2.2] := fun q hq H3 s3 => Same.tup s3 (heG.2 q hq).1
      rcases heG.1 with hl' | hl'
      · refine .inl ⟨_, rfl, a, rfl, ⟨_, hl'⟩, fun De nE => ?_⟩
        refine dc_pure (over_map (f := fun q : Addr × Tr => V.ref q.1) over_list) (fun q => encW V.int (am q.2)) nE (Nat.le_trans hl (by decide)) (fun H' s' => s'.seq hl') ?_ ?_ gTup3_mono
        · rintro q hq H3 v H4 Nx s3 ⟨rfl, rfl⟩ k
          exact ⟨_, _, rfl, step q hq _ s3, rfl, _, _, rfl, _, _, rfl, _, _, rfl, rfl, rfl, _, rfl, _, rfl, k _ (Same.refl _)⟩
        · intro H4 s4 hE
          exact ⟨_, rfl, x, C, dx, _, rfl, s4 _ _ gx, F.cls, F.na2, (by show 1 < 1000; decide), fin De H4 nE s4 hE⟩
      · refine .inr ⟨_, rfl, a, rfl, ⟨_, hl'⟩, fun De nE => ?_⟩
        refine dc_pure (over_map (f := fun q : Addr × Tr => V.ref q.1) over_tup) (fun q => encW V.int (am q.2)) nE (Nat.le_trans hl (by decide)) (fun H' s' => Same.tup s' hl') ?_ ?_ gTup3_mono
        · rintro q hq H3 v H4 Nx s3 ⟨rfl, rfl⟩ k
          exact ⟨_, _, rfl, step q hq _ s3, rfl, _, _, rfl, _, _, rfl, _, _, rfl, rfl, rfl, _, rfl, _, rfl, k _ (Same.refl _)⟩
        · intro H4 s4 hE
          exact ⟨_, rfl, x, C, dx, _, rfl, s4 _ _ gx, F.cls, F.na2, (by show 1 < 1000; decide), fin De H4 nE s4 hE⟩
def decTT (H : Hp) (v : V) : Addr × Tr := match v with
  | .ref t => match H t with
    | some (.tup [.int k, .str z, .int n]) => (t, (k, (z, n)))
    | _ => (t, (0, ("", 0)))
  | _ => (0, (0, ("", 0)))
theorem decTT_of {H : Hp} {t : Addr} {p : Tr} (h : H t = some (tupT p)) : decTT H (.ref t) = (t, p) := by
  unfold decTT
  simp only [h, tupT]
theorem sorted_permT {l S : List Tr} (h : l.Perm S) (hs : l.Pairwise fun a b => a.1 ≤ b.1) (s : Fg.Srt S) : l = S := by
  have nd : l.Nodup := (h.nodup_iff).mpr s.nd.list
  refine h.eq_of_pairwise (le := fun a b : Tr => a.1 ≤ b.1) (fun a b ha hb h1 h2 => ?_) hs (s.imp fun h => Int.le_of_lt h)
  have e : a.1 = b.1 := Int.le_antisymm h1 h2
  have la := Fg.lk_of_mem s.nd (h.mem_iff.mp ha)
  have lb := Fg.lk_of_mem s.nd (by first | exact hb | exact h.mem_iff.mp hb)
  rw [e, lb] at la
  exact Prod.ext e (Option.some.inj la).symm
theorem ok_entries (B : Bl mg) (F : Fdc K mg C) (D : Dm K C "entries" "FormDict.entries" s_FormDict_entries []) : Met P w K mg base 1 C "entries" (spEntries C) [] := by
  refine D.met F.cls sc_FormDict_entries (fun _ _ _ _ _ _ us hl => match us, hl with | [_], _ => rfl) (fun vs H Q E h => ?_) (fun f cdv A out s H vs Q E hr h => ?_)
  · obtain ⟨_, x, S, rfl, _⟩ := h
    rfl
  · obtain ⟨D, x, S, rfl, ⟨g, a, dx, d, e, m, n, rfl, h1, h2, h3, hp, hq⟩, q⟩ := h
    refine ⟨_, (pss_one (ps_ret (pe_callB cr_sortedTS (by rfl) B.sorted (by decide +kernel) (pa_cons (pe_lock (pe_lc (own := [("key", 1), ("form", 2)]) (by rfl) sc_FormDict_entries.nd (pi_items (pe_fld (pv 0) rfl)) (blkOk_by (own := [("key", 1), ("form", 2)]) (N := ["self", "key", "form"]) (sc := defScope s_FormDict_entries) (by decide +kernel)) (fun _ _ _ _ _ => (pg_two (K := K) (i := 1) (j := 2) sc_FormDict_entries.nd)) (fun _ _ _ _ _ => pts_nil) (fun _ _ _ _ _ => (pe_tup (pa_cons (pv 1) (pa_cons (pv 2) (pa_cons (pe_dget (hu_of hr) (pe_fldK (K := K) (pv 0) rfl) (pv 1) (fun _ _ => rfl)) pa_nil))))))) pa_nil)))), ?_⟩
    refine ⟨d, _, h2, trivial, fun od => ?_⟩
    have hs' : (upd H d (.frz od (.dK (m.map enc)))) a = some (.ins C dx [("forms", .ref d), ("amounts", .ref e)]) := by
      rw [upd_ne (fun e => by rw [e, h2] at h1; cases h1)]
      exact h1
    have rdE : ∀ H3, Same (upd H d (.frz od (.dK (m.map enc)))) H3 → Rd H3 e (.dK (n.map (encW V.int))) := fun H3 s3 => by
      by_cases z : e = d
      · subst z
        have ee : n.map (encW V.int) = m.map enc := HO.dK.inj (Option.some.inj (h3.symm.trans h2))
        rw [ee]
        exact .inr ⟨od, s3 _ _ upd_same⟩
      · exact .inl (s3 _ _ (by rw [upd_ne z]; exact h3))
    refine ⟨_, rfl, a, C, dx, _, _, rfl, hs', F.cls, F.na, rfl, d, od, _, rfl, upd_same, fun Dd nD => ?_⟩
    have ndm : Fs.Nd m := (List.Perm.nodup_iff (hp.map (fun x : Pr => x.1))).mpr (srt_fm g.srt).nd
    have ndn : Fg.Nd n := (List.Perm.nodup_iff (hq.map (fun x : Int × Int => x.1))).mpr (srt_am g.srt).nd
    -- the triple of a pair
    have tri : ∀ p ∈ m, ∃ v, S.lookup p.1 = some (p.2, v) ∧ n.lookup p.1 = some v := by
      intro p hpm
      have h4 := hp.mem_iff.mp hpm
      obtain ⟨t, ht, rfl⟩ := List.mem_map.mp h4
      refine ⟨t.2.2, Fg.lk_of_mem g.srt.nd ht, ?_⟩
      rw [Fg.Perm.lk hq ndn, lk_am]
      show (S.lookup t.1).map _ = _
      rw [Fg.lk_of_mem g.srt.nd ht]
      rfl
    have l1 := g.len
    have l2 := hp.length_eq
    rw [List.length_map] at l2
    refine lc_rel (over_map (f := enc) over_items) (fun p y H => ∃ t v, y = .ref t ∧ H t = some (.tup [.int p.1, .str p.2, .int v]) ∧ S.lookup p.1 = some (p.2, v)) nD ?_ (fun H' s' => s' _ _ upd_same) ?_ ?_ gTup2_mono ?_
    · exact Nat.le_trans (show m.length ≤ 60 by omega) (by decide)
    · rintro x y H3 H4 acc e ⟨t, v, rfl, ht, hv⟩ b
      exact ⟨t, v, rfl, b.at (fun z => by rw [z, e] at ht; cases ht) ht, hv⟩
    · rintro p hm H3 v H4 Nx s3 ⟨T, rfl, nT, rfl⟩ k
      obtain ⟨va, e1, e2⟩ := tri p hm
      have s4 := s3.trans (same_new (o := .tup [.int p.1, .str p.2]) nT)
      refine ⟨_, _, rfl, .inl (.inl upd_same), rfl, _, _, rfl, _, _, rfl, rfl, rfl, _, rfl, _, rfl, ?_⟩
      refine ⟨_, rfl, a, C, dx, _, _, rfl, s4 _ _ hs', F.cls, F.na2, rfl, _, rfl, e, .int va, rfl, .inl ⟨_, Sum.inl p.1, rdE _ s4, rfl, ?_⟩, by show 3 ≤ sizeLine; decide, fun t nt => ?_⟩
      · rw [val_encW, e2]; rfl
      · exact k _ _ ((same_new nT).trans (same_new nt)) ⟨t, va, rfl, upd_same, e1⟩
    · rintro H3 ys s3 hD ⟨hl, hrel⟩
      refine ⟨s3 _ _ upd_same, ?_⟩
      have so := same_open h2 s3
      have hDd : (upd H3 d (.dK (m.map enc))) Dd = some (.lst ys) := by
        rw [upd_ne (fun e => by rw [e, s3 _ _ upd_same] at hD; cases hD)]
        exact hD
      have hrel' : ∀ (i : Nat) (p : Pr) (y : V), m[i]? = some p → ys[i]? = some y → ∃ t v, y = .ref t ∧ (upd H3 d (.dK (m.map enc))) t = some (tupT (p.1, (p.2, v))) ∧ S.lookup p.1 = some (p.2, v) := by
        intro i p y ep ey
        obtain ⟨t, v, e, ht, hv⟩ := hrel i p y ep ey
        refine ⟨t, v, e, ?_, hv⟩
        rw [upd_ne (fun z => by rw [z, s3 _ _ upd_same] at ht; cases ht)]
        exact ht
      generalize hH5 : upd H3 d (.dK (m.map enc)) = H5 at so hDd hrel'
      have all : ∀ y ∈ ys, ∃ t p, y = .ref t ∧ H5 t = some (tupT p) := by
        intro y hy
        obtain ⟨i, hi, rfl⟩ := List.getElem_of_mem hy
        have hi' : i < m.length := by omega
        obtain ⟨t, v, e, ht, _⟩ := hrel' i m[i] ys[i] (List.getElem?_eq_getElem hi') (List.getElem?_eq_getElem hi)
        exact ⟨t, _, e, ht⟩
      have dec : (ys.map (fun y => (decTT H5 y).2)).Perm S := by
        have e1 : (ys.map (fun y => (decTT H5 y).2)).map fm = m := by
          apply List.ext_getElem
          · rw [List.length_map, List.length_map, hl]
          · intro i h1 h2
            rw [List.getElem_map, List.getElem_map]
            obtain ⟨t, v, e, ht, _⟩ := hrel' i m[i] (ys[i]'(by rw [List.length_map, List.length_map] at h1; exact h1)) (List.getElem?_eq_getElem h2) (List.getElem?_eq_getElem _)
            rw [e, decTT_of ht]
            rfl
        have nd1 : Fg.Nd (ys.map (fun y => (decTT H5 y).2)) := by
          rw [← nd_fm, e1]
          exact ndm
        refine (List.perm_ext_iff_of_nodup nd1.list g.srt.nd.list).mpr fun t => ⟨fun ht => ?_, fun ht => ?_⟩
        · obtain ⟨y, hy, rfl⟩ := List.mem_map.mp ht
          obtain ⟨i, hi, rfl⟩ := List.getElem_of_mem hy
          have hi' : i < m.length := by omega
          obtain ⟨t, v, e, ht, hv⟩ := hrel' i m[i] ys[i] (List.getElem?_eq_getElem hi') (List.getElem?_eq_getElem hi)
          rw [e, decTT_of ht]
          exact Fg.lk_mem hv
        · have h4 : fm t ∈ m := hp.mem_iff.mpr (List.mem_map_of_mem ht)
          obtain ⟨i, hi, ei⟩ := List.getElem_of_mem h4
          have hi' : i < ys.length := by omega
          obtain ⟨t', v, e, ht', hv⟩ := hrel' i m[i] ys[i] (List.getElem?_eq_getElem hi) (List.getElem?_eq_getElem hi')
          refine List.mem_map.mpr ⟨ys[i], List.getElem_mem hi', ?_⟩
          rw [e, decTT_of ht']
          rw [ei] at hv
          have := Fg.lk_of_mem g.srt.nd ht
          have e5 : S.lookup t.1 = some (t.2.1, v) := hv
          rw [this] at e5
          show ((m[i].1, (m[i].2, v)) : Tr) = t
          rw [ei]
          have := Option.some.inj e5
          exact Prod.ext rfl this.symm
      refine ⟨Dd, ys, fun y => (decTT H5 y).2.1, rfl, .inl (.inl hDd), fun y hy => ?_, fun zs p hz hs np => ?_⟩
      · obtain ⟨t, r, rfl, ht⟩ := all y hy
        refine ⟨t, r.2.1, [.int r.2.2], rfl, ?_, fun y hy => ?_⟩
        · show H5 t = some (HO.tup [V.int (decTT H5 (V.ref t)).2.1, V.str r.2.1, .int r.2.2])
          rw [decTT_of ht]
          exact ht
        · have : y = .int r.2.2 := by simpa using hy
          exact ⟨_, this⟩
      · have hal : ∀ z ∈ zs, ∃ t p, z = .ref t ∧ H5 t = some (tupT p) := fun z hzz => all z (hz.mem_iff.mp hzz)
        refine q p (zs.map (decTT H5)) _ (so.trans (same_new np)) ?_ ?_ ?_
        · rw [upd_same]
          congr 2
          show zs = (zs.map (decTT H5)).map (fun q => V.ref q.1)
          rw [List.map_map]
          symm
          refine (List.map_congr_left (g := id) fun z hzz => ?_).trans (List.map_id _)
          obtain ⟨t, r, rfl, ht⟩ := hal z hzz
          show V.ref (decTT H5 (.ref t)).1 = .ref t
          rw [decTT_of ht]
        · show (zs.map (decTT H5)).map (fun q => q.2) = S
          rw [List.map_map]
          refine sorted_permT ?_ ?_ g.srt
          · exact (hz.map (fun y => (decTT H5 y).2)).trans dec
          · rw [List.pairwise_map]
            exact hs
        · intro r hr
          obtain ⟨z, hzz, rfl⟩ := List.mem_map.mp hr
          obtain ⟨t, r, rfl, ht⟩ := hal z hzz
          rw [decTT_of ht]
          exact same_new np _ _ ht
theorem ok_hasD (F : Fdc K mg C) (c_is_integer : Cal P w K mg base 1 "is_integer" (spB K whole) []) (D : Dm K C "__contains__" "FormDict.__contains__" s_FormDict___contains__ []) : Met P w K mg base 2 C "__contains__" (spHasD K C) [] := by
  refine D.met F.cls sc_FormDict___contains__ (fun _ _ _ _ _ _ us hl => match us, hl with | [_, _], _ => rfl) (fun vs H Q E h => ?_) (fun f cdv A out s H vs Q E hr h => ?_)
  · obtain ⟨_, x, y, S, d, rfl, _⟩ := h
    rfl
  · obtain ⟨D, x, y, S, dd, rfl, ⟨g, a, dx, d, e, m, n, rfl, h1, h2, h3, hp, hq⟩, hy, hc, q⟩ := h
    refine ⟨_, (pss_one (ps_ret (pe_and (pe_c c_is_integer hr (by decide) (by rfl) (pa_cons (pv 1) pa_nil)) (pe_one (pe_cmp (pc_din (hu_of hr) (pv 1) (pe_fld (pv 0) rfl)) rfl))))), ?_⟩
    refine ⟨_, rfl, y, dd, rfl, hy, hc, fun H1 s1 => ⟨_, rfl, ?_⟩⟩
    cases dd with
    | int k =>
      have e := th_int hy
      subst e
      refine iteT ?_
      refine ⟨_, rfl, _, rfl, a, C, dx, _, _, rfl, s1 _ _ h1, F.cls, F.na, rfl, d, _, rfl, .inl ⟨_, Sum.inl k, .inl (s1 _ _ h2), rfl, rfl⟩, ?_⟩
      have nd : Fs.Nd m := (List.Perm.nodup_iff (hp.map (fun x : Pr => x.1))).mpr (srt_fm g.srt).nd
      have e2 : (valV (m.map enc) (Sum.inl k)).isSome = Fg.hasK S k := by
        rw [val_enc, Option.isSome_map, Fs.Perm.lk hp nd k, lk_fm, Option.isSome_map]
        rfl
      rw [e2]
      exact q H1 s1
    | _ => exact iteF (q H1 s1)
theorem ok_item (F : Fdc K mg C) (m_FormDict___contains__ : Met P w K mg base 2 C "__contains__" (spHasD K C) []) (D : Dm K C "__getitem__" "FormDict.__getitem__" s_FormDict___getitem__ []) : Met P w K mg base 3 C "__getitem__" (spItem C) [] := by
  refine D.met F.cls sc_FormDict___getitem__ (fun _ _ _ _ _ _ us hl => match us, hl with | [_, _], _ => rfl) (fun vs H Q E h => ?_) (fun f cdv A out s H vs Q E hr h => ?_)
  · obtain ⟨_, x, k, S, v, rfl, _⟩ := h
    rfl
  · obtain ⟨D, x, k, S, v, rfl, hx, hv, q⟩ := h
    refine ⟨_, (pss_cons (ps_if (pt_cmpR (op_ownNotIn m_FormDict___contains__ hr (by decide)) (pv 1) (pv 0) (by rfl))
(pss_one ps_never)
pss_nil)
(pss_one (ps_ret (pe_dget (hu_of hr) (pe_fld (pv 0) rfl) (pv 1) (fun _ _ => rfl))))), ?_⟩
    have ok := (hx.1.ok (k, v) (Fg.lk_mem hv)).1
    refine ⟨_, rfl, _, rfl, use_inD (neg := true) hx ok.2.1 ok.2.2.1 fun H1 s1 => ⟨_, rfl, ?_⟩⟩
    have e : (if true = true then !Fg.hasK S k else Fg.hasK S k) = false := by
      unfold Fg.hasK
      rw [hv]
      rfl
    rw [e]
    refine iteF ?_
    obtain ⟨g, a, dx, d, e, m, n, rfl, h1, h2, h3, hp, hq⟩ := hx.same s1
    have ndn : Fg.Nd n := (List.Perm.nodup_iff (hq.map (fun x : Int × Int => x.1))).mpr (srt_am g.srt).nd
    refine ⟨_, rfl, a, C, dx, _, _, rfl, h1, F.cls, F.na2, rfl, _, rfl, e, .int v.2, rfl, .inl ⟨_, Sum.inl k, .inl h3, rfl, ?_⟩, q H1 s1⟩
    rw [val_encW, Fg.Perm.lk hq ndn, lk_am, hv]
    rfl
end
end Eu
set_option Elab.async false
set_option linter.all false
set_option maxRecDepth 100000
set_option maxHeartbeats 4000000
namespace Eu
open PySem PySem.Spec PyProof.Rows L2
open C8 (pe_gc pss_cut)
open Fs (Pr hasK)
open Fd
open StX (pa_star)
/-- a staticmethod, as the top has left it -/
structure Dst (K : PySem.W.Frag) (C : Addr) (m qual : Str) (st : Stmt) : Prop where
  ex : ∃ (mc : Value) (p f : Addr) (oc : Value) (od : Option Addr) (kV doc pm : Value) (an : Option Addr) (cdv ct : Value) (osl : Array (Option Value)),
    ClX.CRead K C mc ∧ PySem.W.findCls K (.ref C) mc m = some (.get (.builtin "staticmethod.__get__") (.ref p) .none (.ref C)) ∧ (∃ rest, PySem.W.recIn K p "staticmethod" = some (.ref f :: rest)) ∧ PySem.W.keepIn K (.ref f) = true ∧
    K.lookup f = some ⟨oc, od, .func (PySem.W.fnOf m qual (defArgs st) (defBody st) (defScope st) .none kV doc pm an cdv ct), osl⟩ ∧ PySem.W.codeIn K cdv qual = true
section
variable {P : Program} {w : World} {K : PySem.W.Frag} {mg : Str → Option Value} {base : Heap}
theorem Dst.sta {C : Addr} {m qual : Str} {st : Stmt} {N ps : List Str} {k : Nat} {sp : Sp} (D : Dst K C m qual st) (S : FnScope N ps (defScope st))
    (hbd : ∀ (kV doc pm : Value) (an : Option Addr) (cdv ct : Value) (us ws : List Value) (ks : List Str), us.length + ws.length = ps.length → ks = ps.drop us.length →
      bindArgs (PySem.W.fnOf m qual (defArgs st) (defBody st) (defScope st) .none kV doc pm an cdv ct) ⟨us, ks.zip ws⟩ = pure (ps.zip (us ++ ws)))
    (len : ∀ vs H Q E, sp vs H Q E → vs.length = ps.length)
    (hb : ∀ (f : Addr) (cdv : Value) (A : Around) (out : List Env) (s : Shared) (H : Hp) (vs : List V) (Q : VK) (E : XK),
      Rm k (A.deeper (envOfC qual (defScope st) s.heap.objs.size f cdv)) → sp vs H Q E →
      ∃ t, PSs (cxOf CX0 P w K mg base N qual (defScope st) f cdv A out s H E).nox (defBody st) t ∧
        t { nx := fun _ H' => Q .non H', rt := Q } (start N vs) H) : Sta P w K mg base (k + 1) C m ps sp := by
  obtain ⟨mc, p, f, oc, od, kV, doc, pm, an, cdv, ct, osl, cr, fc, rc, kp, l, cd⟩ := D.ex
  refine ⟨mc, p, f, _, cr, fc, rc, kp, ok_body l cd S len ?_, fun s us ws ks _ h1 h2 => .of_eq (hbd kV doc pm an cdv ct us ws ks h1 h2)⟩
  intro A out s H vs Q E hr hs
  obtain ⟨t, h, q⟩ := hb f cdv A out s H vs Q E hr hs
  exact ⟨t, h.nox, q⟩
end
abbrev s_FormDict_looked : Stmt := inClass (top 22) 1
theorem sc_FormDict_looked : FnScope ["forms", "source", "key", "form"] ["forms", "source"] (defScope s_FormDict_looked) :=
  ⟨rfl, rfl, rfl, by decide +kernel, rfl, by decide +kernel, by decide +kernel⟩
abbrev s_FormDict___or__ : Stmt := inClass (top 22) 8
theorem sc_FormDict___or__ : FnScope ["self", "other", "first", "last"] ["self", "other"] (defScope s_FormDict___or__) :=
  ⟨rfl, rfl, rfl, by decide +kernel, rfl, by decide +kernel, by decide +kernel⟩
abbrev s_FormDict___sub__ : Stmt := inClass (top 22) 9
theorem sc_FormDict___sub__ : FnScope ["self", "other", "entry"] ["self", "other"] (defScope s_FormDict___sub__) :=
  ⟨rfl, rfl, rfl, by decide +kernel, rfl, by decide +kernel, by decide +kernel⟩
abbrev s_FormDict_kept : Stmt := inClass (top 22) 11
theorem sc_FormDict_kept : FnScope ["self", "other", "entry"] ["self", "other"] (defScope s_FormDict_kept) :=
  ⟨rfl, rfl, rfl, by decide +kernel, rfl, by decide +kernel, by decide +kernel⟩
abbrev s_FormDict_merged : Stmt := inClass (top 22) 10
theorem sc_FormDict_merged : FnScope ["self", "others", "found", "other"] ["self", "others"] (defScope s_FormDict_merged) :=
  ⟨rfl, rfl, rfl, by decide +kernel, rfl, by decide +kernel, by decide +kernel⟩
abbrev s_FormDict_key_set : Stmt := inClass (top 22) 12
theorem sc_FormDict_key_set : FnScope ["self", "key", "form"] ["self"] (defScope s_FormDict_key_set) :=
  ⟨rfl, rfl, rfl, by decide +kernel, rfl, by decide +kernel, by decide +kernel⟩
abbrev s_FormDict___eq__ : Stmt := inClass (top 22) 17
theorem sc_FormDict___eq__ : FnScope ["self", "other"] ["self", "other"] (defScope s_FormDict___eq__) :=
  ⟨rfl, rfl, rfl, by decide +kernel, rfl, by decide +kernel, by decide +kernel⟩
theorem filt_valsT {f : Tr → Bool} (ts : List (Addr × Tr)) : ts.filterMap (fun q => if f q.2 then some (V.ref q.1) else none) = valsT (ts.filter fun q => f q.2) := by
  induction ts with
  | nil => rfl
  | cons q r ih =>
    rw [List.filterMap_cons, List.filter_cons]
    by_cases h : f q.2 = true
    · simp only [h, if_true]
      rw [ih]; rfl
    · simp only [h]
      exact ih
theorem filt_prsT {f : Tr → Bool} (ts : List (Addr × Tr)) : prsT (ts.filter fun q => f q.2) = (prsT ts).filter f := by
  show (ts.filter (f ∘ fun q => q.2)).map (fun q => q.2) = (ts.map fun q => q.2).filter f
  rw [List.filter_map]
/-! ### lists of entries as data -/
def enD (t : Tr) : PyData := .tuple [.int t.1, .str t.2.1, .int t.2.2]
theorem dpAll_tsT {K : PySem.W.Frag} {H : Hp} : ∀ {ts : List (Addr × Tr)}, (∀ q ∈ ts, H q.1 = some (tupT q.2)) → DpAll K H (valsT ts) ((prsT ts).map enD)
  | [], _ => .nil
  | q :: r, h => .cons (.tup (.inl (.inl (h q List.mem_cons_self))) (.cons (.int _) (.cons (.str _) (.cons (.int _) .nil)))) (dpAll_tsT (ts := r) fun q hq => h q (List.mem_cons_of_mem _ hq))
theorem strOk_name {z : Str} (h : nameS z = true) : PyData.strOk z = true := by
  unfold nameS at h
  simp only [Bool.and_eq_true] at h
  have h3 : z.cps.toList.all letter = true := h.1.2
  unfold PyData.strOk
  rw [← Array.all_toList, List.all_eq_true]
  intro c hc
  have := List.all_eq_true.mp h3 c hc
  unfold letter at this
  simp only [Bool.and_eq_true, decide_eq_true_eq] at this
  exact decide_eq_true (by omega)
theorem shaped_ens {S : List Tr} (h : ∀ p ∈ S, nameS p.2.1 = true) : SeqAt.shaped (.list (S.map enD)) = true := by
  have h1 : PyData.canLayAll0 (S.map enD) = true ∧ PyData.depthAll (S.map enD) ≤ 1 := by
    induction S with
    | nil => exact ⟨rfl, Nat.zero_le _⟩
    | cons p r ih =>
      obtain ⟨a, b⟩ := ih fun p hp => h p (List.mem_cons_of_mem _ hp)
      refine ⟨?_, ?_⟩
      · show ((true && (PyData.strOk p.2.1 && (true && true))) && PyData.canLayAll0 (r.map enD)) = true
        rw [a, strOk_name (h p List.mem_cons_self)]
        rfl
      · show max (max 0 (max 0 (max 0 0)) + 1) (PyData.depthAll (r.map enD)) ≤ 1
        omega
  unfold SeqAt.shaped
  rw [Bool.and_eq_true]
  refine ⟨h1.1, decide_eq_true ?_⟩
  show PyData.depthAll (S.map enD) + 1 ≤ 64
  omega
theorem eqv_ens : ∀ S : List Tr, PyData.eqvAll (S.map enD) (S.map enD) = true
  | [] => rfl
  | p :: r => by
    show ((((p.1 == p.1) && ((p.2.1 == p.2.1) && ((p.2.2 == p.2.2) && true)))) && PyData.eqvAll (r.map enD) (r.map enD)) = true
    rw [eqv_ens r]
    simp
theorem GoodD.names {D : List Int} {S : List Tr} (g : GoodD D S) : ∀ p ∈ S, nameS p.2.1 = true := fun p hp => (g.ok p hp).1.2.2.2
section
variable {P : Program} {w : World} {K : PySem.W.Frag} {mg : Str → Option Value} {base : Heap} {kw C CS : Addr}
theorem ok_orD (F_FormDict : Fdc K mg C) (m_FormDict : Mak P w K mg base 7 "FormDict" C (spInitD K C) []) (m_FormDict_entries : Met P w K mg base 1 C "entries" (spEntries C) [])
    (D : Dm K C "__or__" "FormDict.__or__" s_FormDict___or__ []) : Met P w K mg base 9 C "__or__" (spBinD C orD) [] := by
  refine D.met F_FormDict.cls sc_FormDict___or__ (fun _ _ _ _ _ _ us hl => match us, hl with | [_, _], _ => rfl) (fun vs H Q E h => ?_) (fun f cdv A out s H vs Q E hr h => ?_)
  · obtain ⟨_, x, y, S, T, rfl, _⟩ := h
    rfl
  · obtain ⟨D, x, y, S, T, rfl, hx, hy, q⟩ := h
    refine ⟨_, (pss_cons (ps_par (i := 2) (j := 3) (by rfl) sc_FormDict___or__.nd rfl rfl (by decide) rfl rfl (pa_cons (pe_mt0 m_FormDict_entries hr (by decide) (pv 0)) (pa_cons (pe_mt0 m_FormDict_entries hr (by decide) (pv 1)) pa_nil)) (by rfl))
(pss_one (ps_ret (pe_mk m_FormDict hr (by decide) (by rfl) (pa_cons (pe_lst (pa_star (pv 2) (pa_star (pv 3) pa_nil))) pa_nil))))), ?_⟩
    obtain ⟨a, dx, fs, rfl, ha, la⟩ := hx.ins
    obtain ⟨b, dy, gs, rfl, hb, lb⟩ := hy.ins
    refine ⟨_, rfl, a, dx, fs, rfl, ha, la _ (by decide) (by decide), D, _, S, rfl, hx, fun p ts H1 s1 hp ep et => ?_⟩
    refine ⟨_, rfl, b, dy, gs, rfl, s1 _ _ hb, lb _ (by decide) (by decide), D, _, T, rfl, hy.same s1, fun p' ts' H2 s2 hp' ep' et' => ?_⟩
    refine ⟨_, _, rfl, ?_⟩
    have hp2 := s2 _ _ hp
    have l1 := hx.1.len
    have l2 := hy.1.len
    have l3 : ts.length = S.length := by rw [← ep, List.length_map]
    have l4 : ts'.length = T.length := by rw [← ep', List.length_map]
    refine ⟨_, rfl, p, _, rfl, .inr (.inl (.inl hp2)), _, rfl, p', _, rfl, .inr (.inl (.inl hp')), ?_, fun l nl => ?_⟩
    · rw [List.append_nil, List.length_append, List.length_map, List.length_map]
      exact Nat.le_trans (by omega) (show 120 ≤ sizeLine by decide)
    have e : valsT ts ++ (valsT ts' ++ []) = valsT (ts ++ ts') := by rw [List.append_nil]; exact List.map_append.symm
    rw [e]
    have s3 := same_new (o := .lst (valsT (ts ++ ts'))) nl
    have ee : prsT (ts ++ ts') = S ++ T := by rw [← ep, ← ep']; exact List.map_append
    refine use_makeD (D := D) (ts := ts ++ ts') (ens_of upd_same (fun r hr => ?_) fun r hr => ?_) ?_ hx.1.few fun z H' s' fz => ?_
    · rcases List.mem_append.mp hr with hr | hr
      · exact s3 _ _ (s2 _ _ (et r hr))
      · exact s3 _ _ (et' r hr)
    · rw [ee] at hr
      exact (List.mem_append.mp hr).elim (hx.1.ok r) (hy.1.ok r)
    · rw [List.length_append]; omega
    · refine q z H' (s1.trans (s2.trans (s3.trans s'))) ?_
      rw [ee] at fz
      exact fz
theorem ok_subD (F_FormDict : Fdc K mg C) (m_FormDict : Mak P w K mg base 7 "FormDict" C (spInitD K C) []) (m_FormDict_entries : Met P w K mg base 1 C "entries" (spEntries C) []) (m_FormSet___contains__ : Met P w K mg base 2 CS "__contains__" (spHas K CS) [])
    (D : Dm K C "__sub__" "FormDict.__sub__" s_FormDict___sub__ []) : Met P w K mg base 9 C "__sub__" (spBinDS C CS subD) [] := by
  refine D.met F_FormDict.cls sc_FormDict___sub__ (fun _ _ _ _ _ _ us hl => match us, hl with | [_, _], _ => rfl) (fun vs H Q E h => ?_) (fun f cdv A out s H vs Q E hr h => ?_)
  · obtain ⟨_, x, y, S, T, rfl, _⟩ := h
    rfl
  · obtain ⟨D, x, y, S, T, rfl, hx, hy, q⟩ := h
    refine ⟨_, (pss_one (ps_ret (pe_mk m_FormDict hr (by decide) (by rfl) (pa_cons (pe_lc (own := [("entry", 2)]) (by rfl) sc_FormDict___sub__.nd (pi_list (pe_mt0 m_FormDict_entries hr (by decide) (pv 0))) (blkOk_by (own := [("entry", 2)]) (N := ["self", "other", "entry"]) (sc := defScope s_FormDict___sub__) (by decide +kernel)) (fun _ _ _ _ _ => (pg_name (i := 2) sc_FormDict___sub__.nd rfl (Or.inl rfl))) (fun _ _ _ _ _ => (pts_one (pt_cmpR (op_ownNotIn m_FormSet___contains__ hr (by decide)) (pe_ix (ix_tupK (K := K)) (pv 2) pe_int (fun _ _ => rfl)) (pv 1) (by rfl)))) (fun _ _ _ _ _ => (pv 2))) pa_nil)))), ?_⟩
    obtain ⟨a, dx, fs, rfl, ha, la⟩ := hx.ins
    refine ⟨_, rfl, a, dx, fs, rfl, ha, la _ (by decide) (by decide), D, _, S, rfl, hx, fun p ts H1 s1 hp ep et => ?_⟩
    refine ⟨p, rfl, ⟨_, .inl (.inl hp)⟩, fun l nl => ?_⟩
    have l1 := hx.1.len
    have l3 : ts.length = S.length := by rw [← ep, List.length_map]
    have ok1 : ∀ r ∈ ts, OkT D r.2 := fun r hr => hx.1.ok _ (by rw [← ep]; exact List.mem_map_of_mem hr)
    refine lc_pure (over_map over_list) (fun q => if (!hasK T q.2.1) then some (V.ref q.1) else none) nl ?_ (fun H' s' => .inl (.inl (s' _ _ hp))) ?_ ?_
    · exact Nat.le_trans (show ts.length ≤ 60 by omega) (by decide)
    · rintro r hr H3 v H4 Nx s3 ⟨rfl, rfl⟩ k
      refine ⟨rfl, ?_⟩
      have ok := (ok1 r hr).1
      refine ⟨_, rfl, r.1, _, 0, _, rfl, rfl, .inl (.inl (s3 _ _ (et r hr))), atI_nat (j := 0) rfl, _, rfl, use_in (neg := true) ((hy.same s1).same s3) ok.2.1 ok.2.2.1 fun H5 s5 => ⟨_, rfl, ?_⟩⟩
      show if (!hasK T r.2.1) = true then _ else _
      by_cases hk : (!hasK T r.2.1) = true
      · rw [if_pos hk]
        have := k H5 s5
        rw [if_pos hk] at this
        exact ⟨_, rfl, this⟩
      · rw [if_neg hk]
        have := k H5 s5
        rw [if_neg hk] at this
        exact this
    · intro H3 s3 hD
      rw [filt_valsT (f := fun p => !hasK T p.1)] at hD
      refine use_makeD (D := D) (ens_of hD (fun r hr => ?_) fun r hr => ?_) ?_ hx.1.few fun z H' s' fz => ?_
      · exact s3 _ _ (et r (List.mem_filter.mp hr).1)
      · obtain ⟨r', hr', rfl⟩ := List.mem_map.mp hr
        exact ok1 _ (List.mem_filter.mp hr').1
      · exact Nat.le_trans (List.length_filter_le _ _) (by omega)
      · refine q z H' (s1.trans (s3.trans s')) ?_
        rw [filt_prsT (f := fun p => !hasK T p.1), ep, dictOf_srt (Fg.srt_filter hx.1.srt)] at fz
        exact fz
theorem ok_keptD (F_FormDict : Fdc K mg C) (m_FormDict : Mak P w K mg base 7 "FormDict" C (spInitD K C) []) (m_FormDict_entries : Met P w K mg base 1 C "entries" (spEntries C) []) (m_FormSet___contains__ : Met P w K mg base 2 CS "__contains__" (spHas K CS) [])
    (D : Dm K C "kept" "FormDict.kept" s_FormDict_kept []) : Met P w K mg base 9 C "kept" (spBinDS C CS keptD) [] := by
  refine D.met F_FormDict.cls sc_FormDict_kept (fun _ _ _ _ _ _ us hl => match us, hl with | [_, _], _ => rfl) (fun vs H Q E h => ?_) (fun f cdv A out s H vs Q E hr h => ?_)
  · obtain ⟨_, x, y, S, T, rfl, _⟩ := h
    rfl
  · obtain ⟨D, x, y, S, T, rfl, hx, hy, q⟩ := h
    refine ⟨_, (pss_one (ps_ret (pe_mk m_FormDict hr (by decide) (by rfl) (pa_cons (pe_lc (own := [("entry", 2)]) (by rfl) sc_FormDict_kept.nd (pi_list (pe_mt0 m_FormDict_entries hr (by decide) (pv 0))) (blkOk_by (own := [("entry", 2)]) (N := ["self", "other", "entry"]) (sc := defScope s_FormDict_kept) (by decide +kernel)) (fun _ _ _ _ _ => (pg_name (i := 2) sc_FormDict_kept.nd rfl (Or.inl rfl))) (fun _ _ _ _ _ => (pts_one (pt_cmpR (op_ownIn m_FormSet___contains__ hr (by decide)) (pe_ix (ix_tupK (K := K)) (pv 2) pe_int (fun _ _ => rfl)) (pv 1) (by rfl)))) (fun _ _ _ _ _ => (pv 2))) pa_nil)))), ?_⟩
    obtain ⟨a, dx, fs, rfl, ha, la⟩ := hx.ins
    refine ⟨_, rfl, a, dx, fs, rfl, ha, la _ (by decide) (by decide), D, _, S, rfl, hx, fun p ts H1 s1 hp ep et => ?_⟩
    refine ⟨p, rfl, ⟨_, .inl (.inl hp)⟩, fun l nl => ?_⟩
    have l1 := hx.1.len
    have l3 : ts.length = S.length := by rw [← ep, List.length_map]
    have ok1 : ∀ r ∈ ts, OkT D r.2 := fun r hr => hx.1.ok _ (by rw [← ep]; exact List.mem_map_of_mem hr)
    refine lc_pure (over_map over_list) (fun q => if hasK T q.2.1 then some (V.ref q.1) else none) nl ?_ (fun H' s' => .inl (.inl (s' _ _ hp))) ?_ ?_
    · exact Nat.le_trans (show ts.length ≤ 60 by omega) (by decide)
    · rintro r hr H3 v H4 Nx s3 ⟨rfl, rfl⟩ k
      refine ⟨rfl, ?_⟩
      have ok := (ok1 r hr).1
      refine ⟨_, rfl, r.1, _, 0, _, rfl, rfl, .inl (.inl (s3 _ _ (et r hr))), atI_nat (j := 0) rfl, _, rfl, use_in (neg := false) ((hy.same s1).same s3) ok.2.1 ok.2.2.1 fun H5 s5 => ⟨_, rfl, ?_⟩⟩
      show if hasK T r.2.1 = true then _ else _
      by_cases hk : hasK T r.2.1 = true
      · rw [if_pos hk]
        have := k H5 s5
        rw [if_pos hk] at this
        exact ⟨_, rfl, this⟩
      · rw [if_neg hk]
        have := k H5 s5
        rw [if_neg hk] at this
        exact this
    · intro H3 s3 hD
      rw [filt_valsT (f := fun p => hasK T p.1)] at hD
      refine use_makeD (D := D) (ens_of hD (fun r hr => ?_) fun r hr => ?_) ?_ hx.1.few fun z H' s' fz => ?_
      · exact s3 _ _ (et r (List.mem_filter.mp hr).1)
      · obtain ⟨r', hr', rfl⟩ := List.mem_map.mp hr
        exact ok1 _ (List.mem_filter.mp hr').1
      · exact Nat.le_trans (List.length_filter_le _ _) (by omega)
      · refine q z H' (s1.trans (s3.trans s')) ?_
        rw [filt_prsT (f := fun p => hasK T p.1), ep, dictOf_srt (Fg.srt_filter hx.1.srt)] at fz
        exact fz
def joinDs (S : List Tr) (Ts : List (V × List Tr)) : List Tr := Ts.foldl (fun acc r => orD acc r.2) S
def spMergeB (C : Addr) : Sp := fun vs H Q _ => ∃ (D : List Int) (x : V) (p : Addr) (S : List Tr) (Ts : List (V × List Tr)), vs = [x, .ref p] ∧ FD C D H x S ∧ H p = some (.tup (Ts.map (·.1))) ∧ (∀ r ∈ Ts, FD C D H r.1 r.2) ∧
  ∀ z H', Same H H' → FD C D H' z (joinDs S Ts) → Q z H'
def spMerge (C : Addr) : Sp := fun vs H Q E => ∃ x rest, vs = x :: rest ∧ rest.length ≤ sizeLine ∧ ∀ p, H p = none → spMergeB C [x, .ref p] (upd H p (.tup rest)) Q E
theorem ok_merged (F_FormDict : Fdc K mg C) (m_FormDict___or__ : Met P w K mg base 9 C "__or__" (spBinD C orD) []) (D : Dm K C "merged" "FormDict.merged" s_FormDict_merged []) : MetS P w K mg base 10 C "merged" (spMerge C) := by
  refine D.star F_FormDict.cls sc_FormDict_merged (fun _ _ _ _ _ _ us rest hl => match us, rest, hl with | [_], [], _ => rfl | [_], _ :: _, _ => rfl) (fun f cdv A out s H vs Q E hr h => ?_)
  obtain ⟨D, x, p, S, Ts, rfl, hx, hp, hT, q⟩ := h
  refine ⟨_, (pss_cons (ps_set (i := 2) sc_FormDict_merged.nd rfl (Or.inl rfl) (pv 0))
(pss_cons (ps_for PassesOwn.never (by rfl) (pi_tup (pv 1)) (pg_name (i := 3) sc_FormDict_merged.nd rfl (Or.inl rfl))
(pss_one (ps_set (i := 2) sc_FormDict_merged.nd rfl (Or.inl rfl) (pe_op (op_ownB (op := .BitOr) (by decide +kernel) m_FormDict___or__ hr (by decide) F_FormDict.sf) (pv 2) (pv 3)))))
(pss_one (ps_ret (pv 2))))), ?_⟩
  refine ⟨_, rfl, _, rfl, p, rfl, ⟨_, .inl (.inl hp)⟩, ?_⟩
  refine for_over (over_map (f := fun r : V × List Tr => r.1) over_tup) (fun i σ H' => (∃ z v, σ = [some x, some (.ref p), some z, v] ∧ FD C D H' z (joinDs S (Ts.take i))) ∧ Same H H') ⟨⟨_, _, rfl, hx⟩, Same.refl _⟩ (fun i σ H' _ h => .inl (.inl (h.2 _ _ hp))) ?_ ?_
  · rintro i r σ H2 v H3 e ⟨⟨z, v0, rfl, fz⟩, s2⟩ ⟨rfl, rfl⟩
    refine ⟨_, rfl, _, rfl, use_binD fz ((hT r (List.mem_of_getElem? e)).same s2) fun u H4 s4 fu => ?_⟩
    refine ⟨⟨_, _, rfl, ?_⟩, s2.trans s4⟩
    have : joinDs S (Ts.take (i + 1)) = orD (joinDs S (Ts.take i)) r.2 := by
      unfold joinDs
      rw [List.take_add_one, e, List.foldl_append]
      rfl
    rw [this]
    exact fu
  · rintro σ H2 ⟨⟨z, v0, rfl, fz⟩, s2⟩
    rw [List.take_length] at fz
    exact ⟨_, rfl, q z H2 s2 fz⟩
theorem ok_eqD (B : Bl mg) (F_FormDict : Fdc K mg C) (m_FormDict_entries : Met P w K mg base 1 C "entries" (spEntries C) []) (D : Dm K C "__eq__" "FormDict.__eq__" s_FormDict___eq__ []) : Met P w K mg base 2 C "__eq__" (spSameD C) [] := by
  refine D.met F_FormDict.cls sc_FormDict___eq__ (fun _ _ _ _ _ _ us hl => match us, hl with | [_, _], _ => rfl) (fun vs H Q E h => ?_) (fun f cdv A out s H vs Q E hr h => ?_)
  · obtain ⟨_, x, y, S, rfl, _⟩ := h
    rfl
  · obtain ⟨D, x, y, S, rfl, hx, hy, q⟩ := h
    refine ⟨_, (pss_one (ps_ret (pe_and (pe_callB call_isi (by rfl) B.isinstance (by decide +kernel) (pa_cons (pv 1) (pa_cons (pe_gc (by rfl) F_FormDict.g_FormDict) pa_nil))) (pe_one (pe_cmpR (op_eqD hr.rm.units) (pe_mt0 m_FormDict_entries hr (by decide) (pv 0)) (pe_mt0 m_FormDict_entries hr (by decide) (pv 1)) (nomark _)))))), ?_⟩
    obtain ⟨a, dx, fs, rfl, ha, la⟩ := hx.ins
    obtain ⟨b, dy, gs, rfl, hb, lb⟩ := hy.ins
    refine ⟨_, rfl, _, _, _, _, _, rfl, .own C, .base (.ins hb F_FormDict.cls F_FormDict.ha F_FormDict.hn F_FormDict.htk F_FormDict.mro), kit_self, _, rfl, ?_⟩
    refine iteT ?_
    refine ⟨_, rfl, a, dx, fs, rfl, ha, la _ (by decide) (by decide), D, _, S, rfl, hx, fun p ts H1 s1 hp ep et => ?_⟩
    refine ⟨_, rfl, b, dy, gs, rfl, s1 _ _ hb, lb _ (by decide) (by decide), D, _, S, rfl, hy.same s1, fun p' ts' H2 s2 hp' ep' et' => ?_⟩
    have nm := hx.1.names
    refine ⟨.list (S.map enD), .list (S.map enD), .lst (.inl (.inl (s2 _ _ hp))) ?_, .lst (.inl (.inl hp')) ?_, shaped_ens nm, shaped_ens nm, ?_⟩
    · have := dpAll_tsT (K := K) (ts := ts) fun r hr => s2 _ _ (et r hr)
      rw [ep] at this
      exact this
    · have := dpAll_tsT (K := K) (ts := ts') et'
      rw [ep'] at this
      exact this
    · rw [show PyData.eqv (.list (S.map enD)) (.list (S.map enD)) = true from eqv_ens S]
      exact q H2 (s1.trans s2)
end
end Eu
set_option Elab.async false
set_option linter.all false
set_option maxRecDepth 100000
set_option maxHeartbeats 4000000
namespace Eu
open PySem PySem.Spec PyProof.Rows L2
open C8 (pe_gc pss_cut)
open Fs (Pr hasK)
open Fd
theorem els_ofC {K : PySem.W.Frag} {D : List Int} {H : Hp} {p : Addr} {ts : List (Addr × Pr)} (h : H p = some (.lst (vals ts))) (ht : ∀ q ∈ ts, H q.1 = some (.tup [.int q.2.1, .str q.2.2])) (ok : ∀ q ∈ prs ts, OkP D q) : Els K D H p ts :=
  ⟨.inl (.inl (.inl h)), fun q hq => ⟨.inl (.inl (ht q hq)), ok _ (List.mem_map_of_mem hq)⟩⟩
theorem two_split {α : Type} : ∀ {us ws : List α}, us.length + ws.length = 2 → (∃ a b, us = [a, b] ∧ ws = []) ∨ (∃ a b, us = [a] ∧ ws = [b]) ∨ (∃ a b, us = [] ∧ ws = [a, b])
  | [], ws, h => by
    obtain ⟨a, b, e⟩ := len2 (l := ws) (by simpa using h)
    exact .inr (.inr ⟨a, b, rfl, e⟩)
  | [a], [b], _ => .inr (.inl ⟨a, b, rfl, rfl⟩)
  | [a, b], [], _ => .inl ⟨a, b, rfl, rfl⟩
  | [_], [], h => by simp at h
  | [_], _ :: _ :: _, h => by simp at h; omega
  | [_, _], _ :: _, h => by simp at h
  | _ :: _ :: _ :: _, ws, h => by simp at h; omega
theorem rel_ts {H : Hp} : ∀ {l : List Pr} {ys : List V}, Rel2 NewT H l ys → ∃ ts : List (Addr × Pr), vals ts = ys ∧ prs ts = l ∧ ∀ q ∈ ts, H q.1 = some (.tup [.int q.2.1, .str q.2.2])
  | [], [], _ => ⟨[], rfl, rfl, fun q hq => by cases hq⟩
  | [], _ :: _, h => by have := h.1; simp at this
  | _ :: _, [], h => by have := h.1; simp at this
  | p :: l, y :: ys, h => by
    obtain ⟨⟨t, e, ht⟩, h'⟩ := rel_cons h
    obtain ⟨ts, a, b, c⟩ := rel_ts h'
    refine ⟨(t, p) :: ts, by show V.ref t :: vals ts = _; rw [a, e], by show p :: prs ts = _; rw [b], fun q hq => ?_⟩
    rcases List.mem_cons.mp hq with e | hq
    · rw [e]; exact ht
    · exact c q hq
/-- a new triple -/
def NewE (p : Tr) (y : V) (H : Hp) : Prop := ∃ t, y = .ref t ∧ H t = some (tupT p)
theorem NewE.stays {Dd : Addr} : ∀ (x : Tr) (y : V) (H H' : Hp) (acc : List V), H Dd = some (.lst acc) → NewE x y H → But Dd H H' → NewE x y H' := by
  rintro x y H H' acc e ⟨t, rfl, ht⟩ b
  exact ⟨t, rfl, b.at (fun z => by rw [z, e] at ht; cases ht) ht⟩
theorem rel_tsT {H : Hp} : ∀ {l : List Tr} {ys : List V}, Rel2 NewE H l ys → ∃ ts : List (Addr × Tr), valsT ts = ys ∧ prsT ts = l ∧ ∀ q ∈ ts, H q.1 = some (tupT q.2)
  | [], [], _ => ⟨[], rfl, rfl, fun q hq => by cases hq⟩
  | [], _ :: _, h => by have := h.1; simp at this
  | _ :: _, [], h => by have := h.1; simp at this
  | p :: l, y :: ys, h => by
    obtain ⟨t, e, ht⟩ := h.2 0 p y rfl rfl
    have h' : Rel2 NewE H l ys := ⟨by have := h.1; simp at this; exact this, fun i a b ea eb => h.2 (i + 1) a b (by simpa using ea) (by simpa using eb)⟩
    obtain ⟨ts, a, b, c⟩ := rel_tsT h'
    refine ⟨(t, p) :: ts, by show V.ref t :: valsT ts = _; rw [a, e], by show p :: prsT ts = _; rw [b], fun q hq => ?_⟩
    rcases List.mem_cons.mp hq with e | hq
    · rw [e]; exact ht
    · exact c q hq
section
variable {P : Program} {w : World} {K : PySem.W.Frag} {mg : Str → Option Value} {base : Heap} {kw C CS : Addr}
theorem ok_keySet (F_FormDict : Fdc K mg C) (m_FormSet : Mak P w K mg base 6 "FormSet" CS (spInit K CS) []) (D : Dm K C "key_set" "FormDict.key_set" s_FormDict_key_set []) : Met P w K mg base 8 C "key_set" (spKeySet C CS) [] := by
  refine D.met F_FormDict.cls sc_FormDict_key_set (fun _ _ _ _ _ _ us hl => match us, hl with | [_], _ => rfl) (fun vs H Q E h => ?_) (fun f cdv A out s H vs Q E hr h => ?_)
  · obtain ⟨_, x, S, rfl, _⟩ := h
    rfl
  · obtain ⟨D, x, S, rfl, ⟨g, a, dx, d, e, m, n, rfl, h1, h2, h3, hp, hq⟩, q⟩ := h
    refine ⟨_, (pss_one (ps_ret (pe_mk m_FormSet hr (by decide) (by rfl) (pa_cons (pe_lock (pe_lc (own := [("key", 1), ("form", 2)]) (by rfl) sc_FormDict_key_set.nd (pi_items (pe_fld (pv 0) rfl)) (blkOk_by (own := [("key", 1), ("form", 2)]) (N := ["self", "key", "form"]) (sc := defScope s_FormDict_key_set) (by decide +kernel)) (fun _ _ _ _ _ => (pg_two (K := K) (i := 1) (j := 2) sc_FormDict_key_set.nd)) (fun _ _ _ _ _ => pts_nil) (fun _ _ _ _ _ => (pe_tup (pa_cons (pv 1) (pa_cons (pv 2) pa_nil)))))) pa_nil)))), ?_⟩
    refine ⟨d, _, h2, trivial, fun od => ?_⟩
    have hs' : (upd H d (.frz od (.dK (m.map enc)))) a = some (.ins C dx [("forms", .ref d), ("amounts", .ref e)]) := by
      rw [upd_ne (fun e => by rw [e, h2] at h1; cases h1)]
      exact h1
    refine ⟨_, rfl, a, C, dx, _, _, rfl, hs', F_FormDict.cls, F_FormDict.na, rfl, d, od, _, rfl, upd_same, fun Dd nD => ?_⟩
    have l1 := g.len
    have l2 := hp.length_eq
    rw [List.length_map] at l2
    refine lc_rel (over_map (f := enc) over_items) NewT nD (Nat.le_trans (show m.length ≤ 60 by omega) (by decide)) (fun H' s' => s' _ _ upd_same) NewT.stays ?_ gTup2_mono ?_
    · rintro p hm H3 v H4 Nx s3 ⟨T, rfl, nT, rfl⟩ k
      refine ⟨_, _, rfl, .inl (.inl upd_same), rfl, _, _, rfl, _, _, rfl, rfl, rfl, _, rfl, _, rfl, by show 2 ≤ sizeLine; decide, fun t nt => ?_⟩
      exact k _ _ ((same_new nT).trans (same_new nt)) ⟨t, rfl, upd_same⟩
    · rintro H3 ys s3 hD hrel
      refine ⟨s3 _ _ upd_same, ?_⟩
      have so := same_open h2 s3
      have hDd : (upd H3 d (.dK (m.map enc))) Dd = some (.lst ys) := by
        rw [upd_ne (fun e => by rw [e, s3 _ _ upd_same] at hD; cases hD)]
        exact hD
      have hrel5 : Rel2 NewT (upd H3 d (.dK (m.map enc))) m ys := ⟨hrel.1, fun i p y ep ey => by
        obtain ⟨t, e, ht⟩ := hrel.2 i p y ep ey
        exact ⟨t, e, by rw [upd_ne (fun z => by rw [z, s3 _ _ upd_same] at ht; cases ht)]; exact ht⟩⟩
      generalize upd H3 d (.dK (m.map enc)) = H5 at so hDd hrel5
      obtain ⟨ts, e1, e2, e3⟩ := rel_ts hrel5
      have gf := g.fm
      have ec : Fs.canon m = S.map fm := Fs.srt_ext (Fs.srt_canon _) gf.srt fun k => by rw [Fs.lk_canon, Fs.Perm.lk hp (Fs.Srt.perm_nd hp gf.srt)]
      refine use_make (D := D) (ts := ts) (els_ofC (by rw [e1]; exact hDd) e3 fun p hpp => ?_) ?_ g.few fun z H' s' fz => ?_
      · rw [e2] at hpp
        exact gf.ok p (hp.mem_iff.mp hpp)
      · have := congrArg List.length e2
        rw [List.length_map] at this
        omega
      · rw [e2, ec] at fz
        exact q z H' (so.trans s') fz
theorem ok_looked (F_FormDict : Fdc K mg C) (m_FormDict : Mak P w K mg base 7 "FormDict" C (spInitD K C) []) (m_FormSet_members : Met P w K mg base 1 CS "members" (spMembers CS) []) (m_FormDict___contains__ : Met P w K mg base 2 C "__contains__" (spHasD K C) [])
    (m_FormDict___getitem__ : Met P w K mg base 3 C "__getitem__" (spItem C) []) (fi_FormDict : FnI K C "__getitem__") (D : Dst K C "looked" "FormDict.looked" s_FormDict_looked) : Sta P w K mg base 9 C "looked" ["forms", "source"] (spLooked C CS) := by
  refine D.sta sc_FormDict_looked (fun _ _ _ _ _ _ us ws ks hl hk => ?_) (fun vs H Q E h => ?_) (fun f cdv A out s H vs Q E hr h => ?_)
  · rcases two_split hl with ⟨_, _, rfl, rfl⟩ | ⟨_, _, rfl, rfl⟩ | ⟨_, _, rfl, rfl⟩ <;> subst hk <;> rfl
  · obtain ⟨_, x, y, S, T, rfl, _⟩ := h
    rfl
  · obtain ⟨D, x, y, S, T, rfl, hx, hy, q⟩ := h
    refine ⟨_, (pss_one (ps_ret (pe_mk m_FormDict hr (by decide) (by rfl) (pa_cons (pe_lc (own := [("key", 2), ("form", 3)]) (by rfl) sc_FormDict_looked.nd (pi_list (pe_mt0 m_FormSet_members hr (by decide) (pv 0))) (blkOk_by (own := [("key", 2), ("form", 3)]) (N := ["forms", "source", "key", "form"]) (sc := defScope s_FormDict_looked) (by decide +kernel)) (fun _ _ _ _ _ => (pg_two (K := K) (i := 2) (j := 3) sc_FormDict_looked.nd)) (fun _ _ _ _ _ => (pts_one (pt_cmpR (op_ownIn m_FormDict___contains__ hr (by decide)) (pv 2) (pv 1) (by rfl)))) (fun _ _ _ _ _ => (pe_tup (pa_cons (pv 2) (pa_cons (pv 3) (pa_cons (pe_ownIx m_FormDict___getitem__ fi_FormDict hr (by decide) (pv 1) (pv 2)) pa_nil)))))) pa_nil)))), ?_⟩
    obtain ⟨a, dx, fs, rfl, ha, la, _⟩ := hx.ins
    refine ⟨_, rfl, a, dx, fs, rfl, ha, la, D, _, S, rfl, hx, fun p ts H1 s1 hp ep et => ?_⟩
    refine ⟨p, rfl, ⟨_, .inl (.inl hp)⟩, fun l nl => ?_⟩
    have l1 := hx.1.len
    have l3 : ts.length = S.length := by rw [← ep, List.length_map]
    have ok1 : ∀ r ∈ ts, OkP D r.2 := fun r hr => hx.1.ok _ (by rw [← ep]; exact List.mem_map_of_mem hr)
    refine lc_relF (over_map (f := fun q : Addr × Pr => V.ref q.1) over_list) (fun q => Fg.hasK T q.2.1) (fun q y H => NewE (q.2.1, (q.2.2, ((T.lookup q.2.1).map (fun v : Tv => v.2)).getD 0)) y H) nl (Nat.le_trans (show ts.length ≤ 60 by omega) (by decide)) (fun H' s' => .inl (.inl (s' _ _ hp))) (fun q y H H' acc e h b => NewE.stays _ y H H' acc e h b) ?_ ?_
    · rintro r hr0 H3 v H4 Nx s3 ⟨rfl, rfl⟩ k1 k2
      have ok := ok1 r hr0
      refine ⟨_, _, rfl, .inl (.inl (s3 _ _ (et r hr0))), rfl, _, _, rfl, _, _, rfl, rfl, rfl, ?_⟩
      refine ⟨_, rfl, _, rfl, use_inD (neg := false) ((hy.same s1).same s3) ok.2.1 ok.2.2.1 fun H5 s5 => ⟨_, rfl, ?_⟩⟩
      show if Fg.hasK T r.2.1 = true then _ else _
      by_cases hk : Fg.hasK T r.2.1 = true
      · rw [if_pos hk]
        obtain ⟨v, hv⟩ := Option.isSome_iff_exists.mp (show (T.lookup r.2.1).isSome = true from hk)
        refine ⟨_, rfl, _, rfl, _, rfl, _, rfl, use_item (((hy.same s1).same s3).same s5) hv fun H6 s6 => ⟨by show 3 ≤ sizeLine; decide, fun t nt => ?_⟩⟩
        refine k1 _ _ hk (s5.trans (s6.trans (same_new nt))) ⟨t, rfl, ?_⟩
        rw [upd_same, hv]
        rfl
      · rw [if_neg hk]
        exact k2 H5 (eq_false_of_ne_true hk) s5
    · intro H3 ys s3 hD hrel
      have hrel' : Rel2 NewE H3 (lookD S T) ys := by
        have e : lookD S T = (ts.filter fun q => Fg.hasK T q.2.1).map fun q => (q.2.1, (q.2.2, ((T.lookup q.2.1).map (fun v : Tv => v.2)).getD 0)) := by
          unfold lookD
          rw [← ep]
          show ((ts.map fun q => q.2).filter (fun p => Fg.hasK T p.1)).map _ = _
          rw [List.filter_map, List.map_map]
          rfl
        rw [e]
        refine ⟨by rw [List.length_map]; exact hrel.1, fun i p y epi ey => ?_⟩
        rw [List.getElem?_map] at epi
        obtain ⟨r, er, rfl⟩ := Option.map_eq_some_iff.mp epi
        exact hrel.2 i r y er ey
      obtain ⟨us, e1, e2, e3⟩ := rel_tsT hrel'
      have gd := GoodD.look hx.1 hy.1
      refine use_makeD (D := D) (ts := us) (ens_of (by rw [e1]; exact hD) e3 fun t ht => ?_) ?_ hx.1.few fun z H' s' fz => ?_
      · rw [e2] at ht
        exact gd.ok t ht
      · have := congrArg List.length e2
        rw [List.length_map] at this
        have := gd.len
        omega
      · rw [e2, dictOf_srt gd.srt] at fz
        exact q z H' (s1.trans (s3.trans s')) fz
end
end Eu
set_option Elab.async false
set_option linter.all false
set_option maxRecDepth 100000
set_option maxHeartbeats 4000000
namespace Fg
variable {α : Type}
theorem mem_put {m : List (Int × α)} {k : Int} {v : α} {x : Int × α} (h : x ∈ put m k v) : x = (k, v) ∨ x ∈ m := by
  unfold put at h
  split at h
  · obtain ⟨q, hq, e⟩ := List.mem_map.mp h
    split at e
    · exact .inl e.symm
    · exact .inr (by rw [← e]; exact hq)
  · rcases List.mem_append.mp h with h | h
    · exact .inr h
    · exact .inl (by simpa using h)
end Fg
namespace Eu
open PySem PySem.Spec PyProof.Rows L2
open C8 (pe_gc pss_cut)
open Fs (Pr hasK)
open Fd
abbrev s_l_dict : Stmt := top 26
theorem sc_l_dict : FnScope ["_law_bag_here", "_law_many", "_law_forms", "_law_found", "_law_turn"] ["_law_bag_here", "_law_many", "_law_forms"] (defScope s_l_dict) :=
  ⟨rfl, rfl, rfl, by decide +kernel, rfl, by decide +kernel, by decide +kernel⟩
abbrev s_l_set : Stmt := top 27
theorem sc_l_set : FnScope ["_law_bag_here", "_law_many", "_law_found", "_law_turn"] ["_law_bag_here", "_law_many"] (defScope s_l_set) :=
  ⟨rfl, rfl, rfl, by decide +kernel, rfl, by decide +kernel, by decide +kernel⟩
abbrev s_l_entries : Stmt := top 28
theorem sc_l_entries : FnScope ["_law_rows", "_law_key"] ["_law_rows"] (defScope s_l_entries) :=
  ⟨rfl, rfl, rfl, by decide +kernel, rfl, by decide +kernel, by decide +kernel⟩
abbrev s_l_is : Stmt := top 29
theorem sc_l_is : FnScope ["_law_thing", "_law_rows"] ["_law_thing", "_law_rows"] (defScope s_l_is) :=
  ⟨rfl, rfl, rfl, by decide +kernel, rfl, by decide +kernel, by decide +kernel⟩
abbrev s_l_merged : Stmt := top 30
theorem sc_l_merged : FnScope ["_law_some", "_law_found", "_law_rows", "_law_key", "_law_form"] ["_law_some"] (defScope s_l_merged) :=
  ⟨rfl, rfl, rfl, by decide +kernel, rfl, by decide +kernel, by decide +kernel⟩
/-! ### rows: a dict of the law's own, from keys to (form, value) -/
abbrev Rw := Int × (Addr × Tv)
def rf (q : Addr × Tv) : V := .ref q.1
def ct (q : Rw) : Tr := (q.1, q.2.2)
theorem lk_ct (k : Int) (m : List Rw) : (m.map ct).lookup k = (m.lookup k).map (·.2) := lk_mapk (fun _ (p : Addr × Tv) => p.2) k m
theorem nd_ct {m : List Rw} : Fg.Nd (m.map ct) ↔ Fg.Nd m := by
  unfold Fg.Nd
  rw [List.map_map]
  exact Iff.rfl
def RowT (H : Hp) (m : List Rw) : Prop := ∀ q ∈ m, H q.2.1 = some (.tup [.str q.2.2.1, .int q.2.2.2])
def DR (D : List Int) (H : Hp) (x : V) (S : List Tr) : Prop := GoodD D S ∧ ∃ d m, x = .ref d ∧ H d = some (.dK (m.map (encW rf))) ∧ List.Perm (m.map ct) S ∧ RowT H m
theorem DR.same {D : List Int} {H H' : Hp} {x : V} {S : List Tr} (h : DR D H x S) (s : Same H H') : DR D H' x S := by
  obtain ⟨g, d, m, e, h2, h3, h4⟩ := h
  exact ⟨g, d, m, e, s _ _ h2, h3, fun q hq => s _ _ (h4 q hq)⟩
theorem DR.but {b : Addr} {D : List Int} {H H' : Hp} {x : V} {S : List Tr} {o : HO} (h : DR D H x S) (s : But b H H') (hb : H b = some o) (n1 : ∀ xs, o ≠ .tup xs) (n2 : ∀ kvs, o ≠ .dK kvs) : DR D H' x S := by
  obtain ⟨g, d, m, e, h2, h3, h4⟩ := h
  refine ⟨g, d, m, e, s.at (fun z => ?_) h2, h3, fun q hq => s.at (fun z => ?_) (h4 q hq)⟩
  · rw [z, hb] at h2
    exact n2 _ (Option.some.inj h2)
  · have := h4 q hq
    rw [z, hb] at this
    exact n1 _ (Option.some.inj this)
theorem perm_nd {m : List Rw} {S : List Tr} (p : List.Perm (m.map ct) S) (s : Fg.Srt S) : Fg.Nd m := nd_ct.mp ((List.Perm.nodup_iff (p.map (fun x : Tr => x.1))).mpr s.nd)
/-- a key's row -/
theorem row_of {m : List Rw} {S : List Tr} {k : Int} {v : Tv} (p : List.Perm (m.map ct) S) (s : Fg.Srt S) (h : S.lookup k = some v) : ∃ t, m.lookup k = some (t, v) ∧ (k, (t, v)) ∈ m := by
  have e := Fg.Perm.lk p (nd_ct.mpr (perm_nd p s)) k
  rw [lk_ct, h] at e
  obtain ⟨q, e1, e2⟩ := Option.map_eq_some_iff.mp e
  subst e2
  exact ⟨q.1, e1, Fg.lk_mem e1⟩
/-- rows[key] -/
theorem get_row {m : List Rw} {k : Int} {t : Addr} {v : Tv} (h : m.lookup k = some (t, v)) : some (V.ref t) = valV (m.map (encW rf)) (Sum.inl k) := by
  rw [val_encW, h]
  rfl
def spLEntries : Sp := fun vs H Q _ => ∃ (D : List Int) (x : V) (S : List Tr), vs = [x] ∧ DR D H x S ∧
  ∀ (p : Addr) (ts : List (Addr × Tr)) (H' : Hp), Same H H' → H' p = some (.lst (valsT ts)) → prsT ts = S → (∀ q ∈ ts, H' q.1 = some (tupT q.2)) → Q (.ref p) H'
def spLIs (C : Addr) : Sp := fun vs H Q _ => ∃ (D : List Int) (x y : V) (S : List Tr), vs = [x, y] ∧ FD C D H x S ∧ DR D H y S ∧ ∀ H', Same H H' → Q (.bl true) H'
def fourteen : List Int := [0, 1, 2, 3, 4, 5, 6, 7, 8, 9, 10, 11, 12, 13]
theorem mem_fourteen {k : Int} (h0 : 0 ≤ k) (h1 : k < 14) : k ∈ fourteen := by
  unfold fourteen
  simp
  omega
theorem keys_permT {m : List Rw} {S : List Tr} {ys : List Int} (hp : List.Perm (m.map ct) S) (s : Fg.Srt S) (h : ys.Perm (m.map fun p : Rw => p.1)) (hs : ys.Pairwise (· ≤ ·)) : ys = S.map fun p : Tr => p.1 := by
  have p2 : ys.Perm (S.map fun p : Tr => p.1) := by
    have := hp.map (fun p : Tr => p.1)
    rw [List.map_map] at this
    exact h.trans this
  refine p2.eq_of_pairwise (le := fun a b : Int => a ≤ b) (fun a b _ _ h1 h2 => Int.le_antisymm h1 h2) hs ?_
  rw [List.pairwise_map]
  exact s.imp fun h => Int.le_of_lt h
section
variable {P : Program} {w : World} {K : PySem.W.Frag} {mg : Str → Option Value} {base : Heap} {kw C : Addr}
theorem ok_lentries (B : Bl mg) (D : Df K mg "_law_entries" s_l_entries) : Cal P w K mg base 1 "_law_entries" spLEntries [] := by
  refine D.cal sc_l_entries (fun _ _ _ _ _ _ us hl => match us, hl with | [_], _ => rfl) (fun vs H Q E h => ?_) (fun f cdv A out s H vs Q E hr h => ?_)
  · obtain ⟨_, x, S, rfl, _⟩ := h
    rfl
  · obtain ⟨D, x, S, rfl, ⟨g, d, m, rfl, hd, hm, ht⟩, q⟩ := h
    refine ⟨_, (pss_one (ps_ret (pe_lc (own := [("_law_key", 1)]) (by rfl) sc_l_entries.nd (pi_list (pe_callB (call_sortedDI rfl) (by rfl) B.sorted (by decide +kernel) (pa_cons (pv 0) pa_nil))) (blkOk_by (own := [("_law_key", 1)]) (N := ["_law_rows", "_law_key"]) (sc := defScope s_l_entries) (by decide +kernel)) (fun _ _ _ _ _ => (pg_name (i := 1) sc_l_entries.nd rfl (Or.inl rfl))) (fun _ _ _ _ _ => pts_nil) (fun _ _ _ _ _ => (pe_tup (pa_cons (pv 1) (pa_cons (pe_ix (ix_tupK (K := K)) (pe_dget (hu_of hr) (pv 0) (pv 1) (fun _ _ => rfl)) pe_int (fun _ _ => rfl)) (pa_cons (pe_ix (ix_tupK (K := K)) (pe_dget (hu_of hr) (pv 0) (pv 1) (fun _ _ => rfl)) pe_int (fun _ _ => rfl)) pa_nil)))))))), ?_⟩
    have l1 := g.len
    have l2 := hm.length_eq
    rw [List.length_map] at l2
    refine ⟨_, rfl, d, _, m.map (fun p : Rw => p.1), rfl, .inl hd, ?_, ?_, fun ys p' hy hs np => ?_⟩
    · rw [List.map_map, List.map_map]; rfl
    · rw [List.length_map]; omega
    have ek := keys_permT hm g.srt hy hs
    subst ek
    have e : (S.map fun p : Tr => p.1).map V.int = S.map (fun p : Tr => V.int p.1) := by rw [List.map_map]; rfl
    rw [e]
    have s2 := same_new (o := .lst (S.map fun p : Tr => V.int p.1)) np
    refine ⟨p', rfl, ⟨_, .inl (.inl upd_same)⟩, fun Dd nD => ?_⟩
    refine lc_rel (over_map over_list) NewE nD (Nat.le_trans l1 (by decide)) (fun H' s' => .inl (.inl (s' _ _ upd_same))) NewE.stays ?_ gName_mono ?_
    · rintro r hr0 H3 v H4 Nx s3 ⟨rfl, rfl⟩ k
      refine ⟨rfl, ?_⟩
      obtain ⟨t, lt, mt⟩ := row_of hm g.srt (Fg.lk_of_mem g.srt.nd hr0)
      have ht3 := s3 _ _ (s2 _ _ (ht _ mt))
      have hd3 := s3 _ _ (s2 _ _ hd)
      refine ⟨_, rfl, ?_⟩
      refine ⟨_, rfl, _, rfl, d, .ref t, rfl, .inl ⟨_, Sum.inl r.1, .inl hd3, rfl, get_row lt⟩, t, _, 0, _, rfl, rfl, .inl (.inl ht3), atI_nat (j := 0) rfl, ?_⟩
      refine ⟨_, rfl, _, rfl, d, .ref t, rfl, .inl ⟨_, Sum.inl r.1, .inl hd3, rfl, get_row lt⟩, t, _, 1, _, rfl, rfl, .inl (.inl ht3), atI_nat (j := 1) rfl, by show 3 ≤ sizeLine; decide, fun u nu => ?_⟩
      exact k _ _ (same_new nu) ⟨u, rfl, upd_same⟩
    · intro H3 ys s3 hD hrel
      obtain ⟨ts, e1, e2, e3⟩ := rel_tsT hrel
      exact q Dd ts H3 (s2.trans s3) (by rw [e1]; exact hD) e2 e3
theorem ok_lis (B : Bl mg) (F_FormDict : Fdc K mg C) (m_FormDict_entries : Met P w K mg base 1 C "entries" (spEntries C) []) (c_l_entries : Cal P w K mg base 1 "_law_entries" spLEntries []) (D : Df K mg "_law_is" s_l_is) : Cal P w K mg base 2 "_law_is" (spLIs C) [] := by
  refine D.cal sc_l_is (fun _ _ _ _ _ _ us hl => match us, hl with | [_, _], _ => rfl) (fun vs H Q E h => ?_) (fun f cdv A out s H vs Q E hr h => ?_)
  · obtain ⟨_, x, y, S, rfl, _⟩ := h
    rfl
  · obtain ⟨D, x, y, S, rfl, hx, hy, q⟩ := h
    refine ⟨_, (pss_one (ps_ret (pe_and (pe_callB call_isi (by rfl) B.isinstance (by decide +kernel) (pa_cons (pv 0) (pa_cons (pe_gc (by rfl) F_FormDict.g_FormDict) pa_nil))) (pe_one (pe_cmpR (op_eqD hr.rm.units) (pe_mt0 m_FormDict_entries hr (by decide) (pv 0)) (pe_c c_l_entries hr (by decide) (by rfl) (pa_cons (pv 1) pa_nil)) (nomark _)))))), ?_⟩
    obtain ⟨a, dx, fs, rfl, ha, la⟩ := hx.ins
    refine ⟨_, rfl, _, _, _, _, _, rfl, .own C, .base (.ins ha F_FormDict.cls F_FormDict.ha F_FormDict.hn F_FormDict.htk F_FormDict.mro), kit_self, _, rfl, ?_⟩
    refine iteT ?_
    refine ⟨_, rfl, a, dx, fs, rfl, ha, la _ (by decide) (by decide), D, _, S, rfl, hx, fun p ts H1 s1 hp ep et => ?_⟩
    refine ⟨_, rfl, D, _, S, rfl, hy.same s1, fun p' ts' H2 s2 hp' ep' et' => ?_⟩
    have nm := hx.1.names
    refine ⟨.list (S.map enD), .list (S.map enD), .lst (.inl (.inl (s2 _ _ hp))) ?_, .lst (.inl (.inl hp')) ?_, shaped_ens nm, shaped_ens nm, ?_⟩
    · have := dpAll_tsT (K := K) (ts := ts) fun r hr => s2 _ _ (et r hr)
      rw [ep] at this
      exact this
    · have := dpAll_tsT (K := K) (ts := ts') et'
      rw [ep'] at this
      exact this
    · rw [show PyData.eqv (.list (S.map enD)) (.list (S.map enD)) = true from eqv_ens S]
      exact q H2 (s1.trans s2)
/-! ### drawn rows -/
def spLDict : Sp := fun vs H Q _ => ∃ (b lf : Addr) (m : Int) (fs : List Str) (n : Nat), vs = [.ref b, .int m, .ref lf] ∧ 1 ≤ m ∧ m ≤ 12 ∧ H lf = some (.lst (fs.map V.str)) ∧ fs.length = 2 ∧ (∀ z ∈ fs, nameS z = true) ∧ Bag H b n ∧ n ≤ 900000 ∧
  ∀ (x : V) (S : List Tr) (H' : Hp), But b H H' → Bag H' b (n + 60) → DR fourteen H' x S → Q x H'
theorem ok_ldict (B : Bl mg) (c_l_take : Cal P w K mg base 1 "_law_take" spTake []) (D : Df K mg "_law_dict" s_l_dict) : Cal P w K mg base 2 "_law_dict" spLDict [] := by
  refine D.cal sc_l_dict (fun _ _ _ _ _ _ us hl => match us, hl with | [_, _, _], _ => rfl) (fun vs H Q E h => ?_) (fun f cdv A out s H vs Q E hr h => ?_)
  · obtain ⟨b, lf, m, fs, n, rfl, _⟩ := h
    rfl
  · obtain ⟨b, lf, m, fs, n, rfl, m1, m12, hlf, f2, hfs, bag, hn, q⟩ := h
    refine ⟨_, (pss_cons (ps_set (i := 3) sc_l_dict.nd rfl (Or.inl rfl) pe_dnewK)
(pss_cons (ps_for PassesOwn.never (by rfl) (pi_range1 (by rfl) B.range (pa_cons (pe_c c_l_take hr (by decide) (by rfl) (pa_cons (pv 0) (pa_cons (pe_op op_add (pv 1) pe_int) pa_nil))) pa_nil)) (pg_name (i := 4) sc_l_dict.nd rfl (Or.inl rfl))
(pss_one (ps_dput (hu_of hr) (pv 3) (pe_c c_l_take hr (by decide) (by rfl) (pa_cons (pv 0) (pa_cons (pv 1) pa_nil))) (pe_tup (pa_cons (pe_ix ix_list (pv 2) (pe_c c_l_take hr (by decide) (by rfl) (pa_cons (pv 0) (pa_cons pe_int pa_nil))) (fun _ _ => rfl)) (pa_cons (pe_op op_sub (pe_c c_l_take hr (by decide) (by rfl) (pa_cons (pv 0) (pa_cons pe_int pa_nil))) pe_int) pa_nil))) rfl)))
(pss_one (ps_ret (pv 3))))), ?_⟩
    refine fun dj nj => ?_
    have ndb : dj ≠ b := bag.ne nj
    have nfb : lf ≠ b := fun z => by
      obtain ⟨q1, q2, q3, hb, _⟩ := bag
      rw [z, hb] at hlf
      have := congrArg List.length (HO.lst.inj (Option.some.inj hlf))
      rw [List.length_map, f2] at this
      have h32 : (3 : Nat) = 2 := this
      omega
    have bag0 := bag.new (o := .dK []) nj
    refine ⟨_, rfl, _, rfl, _, _, rfl, rfl, b, m + 2, n, rfl, by omega, by omega, bag0, by omega, fun d H1 d0 d1 bu1 bag1 => ?_⟩
    have bu01 : But b H H1 := (But.of_same (same_new nj)).trans bu1
    have hj1 : H1 dj = some (.dK []) := bu1.at ndb upd_same
    refine ⟨d, rfl, by omega, by omega, ?_⟩
    refine for_over over_range (fun i σ H' => (∃ v, σ = [some (.ref b), some (.int m), some (.ref lf), some (.ref dj), v]) ∧ But b H H' ∧ Bag H' b (n + 1 + 3 * i) ∧ ∃ j : List Rw, H' dj = some (.dK (j.map (encW rf))) ∧ Fg.Nd j ∧ j.length ≤ i ∧ RowT H' j ∧ ∀ p ∈ j, OkT fourteen (ct p))
      ⟨⟨_, rfl⟩, bu01, bag1, [], hj1, List.nodup_nil, Nat.le_refl _, (fun r hr => by cases hr), (fun r hr => by cases hr)⟩ (fun _ _ _ _ _ => trivial) ?_ ?_
    · rintro i x σ H2 v H2' hx ⟨⟨v0, rfl⟩, bu2, bag2, j, hj2, nd2, len2, rt2, ok2⟩ ⟨rfl, rfl⟩
      obtain ⟨hi, ex⟩ := nums_at hx
      have hi' : i < 14 := by omega
      have hlf2 := bu2.at nfb hlf
      refine ⟨_, rfl, _, rfl, b, 2, _, rfl, by decide, by decide, bag2, by omega, fun e H3 e0 e1 bu3 bag3 => ?_⟩
      have he : e.toNat < fs.length := by omega
      refine ⟨lf, _, e, .str fs[e.toNat], rfl, rfl, .inl (.inl (bu3.at nfb hlf2)), at_of (j := e.toNat) (by omega) (by rw [List.getElem?_map, List.getElem?_eq_getElem he]; rfl), ?_⟩
      refine ⟨_, rfl, b, 100, _, rfl, by decide, by decide, bag3, by omega, fun va H4 va0 va1 bu4 bag4 => ⟨_, _, rfl, rfl, by show 2 ≤ sizeLine; decide, fun t nt => ?_⟩⟩
      have bu24 := bu3.trans bu4
      have ntb : t ≠ b := bag4.ne nt
      have s4 := same_new (o := .tup [.str fs[e.toNat], .int (va - 50)]) nt
      refine ⟨_, rfl, _, rfl, _, rfl, b, m, _, rfl, by omega, by omega, bag4.new nt, by omega, fun k H5 k0 k1 bu5 bag5 => ?_⟩
      have bu25 : But b H2' H5 := bu24.trans ((But.of_same s4).trans bu5)
      have hj5 := bu25.at ndb hj2
      have ht5 : H5 t = some (.tup [.str fs[e.toNat], .int (va - 50)]) := bu5.at ntb upd_same
      have ntj : t ≠ dj := fun z => by rw [z, hj5] at ht5; cases ht5
      have e6 := put_encW rf j k ((t, (fs[e.toNat], va - 50)) : Addr × Tv)
      refine ⟨dj, _, rfl, .inl ⟨_, Sum.inl k, hj5, rfl, ?_, rfl⟩, ?_⟩
      · rw [List.length_map]
        exact Nat.lt_of_le_of_lt (show j.length ≤ 20 by omega) (by decide)
      · refine ⟨⟨_, rfl⟩, But.put (bu2.trans bu25) nj, (bag5.put ndb).mono (by omega), Fg.put j k (t, (fs[e.toNat], va - 50)), ?_, Fg.nd_put _ _ nd2, ?_, ?_, ?_⟩
        · rw [upd_same, ← e6]; rfl
        · have := Fg.len_put j k ((t, (fs[e.toNat], va - 50)) : Addr × Tv)
          omega
        · intro p hp
          rcases Fg.mem_put hp with hp | hp
          · rw [hp]
            show (upd H5 dj _) t = _
            rw [upd_ne ntj]
            exact ht5
          · have h1 := rt2 p hp
            have n1 : p.2.1 ≠ dj := fun z => by rw [z, hj2] at h1; cases h1
            have n2 : p.2.1 ≠ b := fun z => by
              obtain ⟨f1, f2, f3, f4, _⟩ := bag2
              rw [z, f4] at h1
              cases h1
            rw [upd_ne n1]
            exact bu25.at n2 h1
        · intro p hp
          rcases Fg.mem_put hp with hp | hp
          · rw [hp]
            refine ⟨⟨mem_fourteen (k := k) k0 (by omega), k0, by show k ≤ 999999; omega, hfs _ (List.getElem_mem he)⟩, ?_⟩
            show (va - 50).natAbs < 10 ^ 40
            omega
          · exact ok2 p hp
    · rintro σ H2 ⟨⟨v0, rfl⟩, bu2, bag2, j, hj2, nd2, len2, rt2, ok2⟩
      rw [nums_len] at len2 bag2
      have g : GoodD fourteen (Fg.canon (j.map ct)) := ⟨Fg.srt_canon _, fun p hp => by
        obtain ⟨r, hr, rfl⟩ := List.mem_map.mp (Fg.mem_canon hp)
        exact ok2 r hr, by decide⟩
      exact ⟨_, rfl, q _ (Fg.canon (j.map ct)) H2 bu2 (bag2.mono (by omega)) ⟨g, dj, j, rfl, hj2, Fg.perm_of_lk (nd_ct.mpr nd2) (Fg.srt_canon _).nd fun k => (Fg.lk_canon k _).symm, rt2⟩⟩
def spLSet : Sp := fun vs H Q _ => ∃ (b : Addr) (m : Int) (n : Nat), vs = [.ref b, .int m] ∧ 1 ≤ m ∧ m ≤ 12 ∧ Bag H b n ∧ n ≤ 900000 ∧
  ∀ (x : V) (S : List Pr) (H' : Hp), But b H H' → Bag H' b (n + 60) → DS fourteen H' x S → Q x H'
theorem st_ok : nameS "s" = true ∧ nameS "t" = true := by constructor <;> decide +kernel
theorem ok_lset (B : Bl mg) (c_l_take : Cal P w K mg base 1 "_law_take" spTake []) (D : Df K mg "_law_set" s_l_set) : Cal P w K mg base 2 "_law_set" spLSet [] := by
  refine D.cal sc_l_set (fun _ _ _ _ _ _ us hl => match us, hl with | [_, _], _ => rfl) (fun vs H Q E h => ?_) (fun f cdv A out s H vs Q E hr h => ?_)
  · obtain ⟨b, m, n, rfl, _⟩ := h
    rfl
  · obtain ⟨b, m, n, rfl, m1, m12, bag, hn, q⟩ := h
    refine ⟨_, (pss_cons (ps_set (i := 2) sc_l_set.nd rfl (Or.inl rfl) pe_dnewK)
(pss_cons (ps_for PassesOwn.never (by rfl) (pi_range1 (by rfl) B.range (pa_cons (pe_c c_l_take hr (by decide) (by rfl) (pa_cons (pv 0) (pa_cons (pe_op op_add (pv 1) pe_int) pa_nil))) pa_nil)) (pg_name (i := 3) sc_l_set.nd rfl (Or.inl rfl))
(pss_one (ps_dput (hu_of hr) (pv 2) (pe_c c_l_take hr (by decide) (by rfl) (pa_cons (pv 0) (pa_cons (pv 1) pa_nil))) (pe_ix ix_list (pe_lst (pa_cons pe_str (pa_cons pe_str pa_nil))) (pe_c c_l_take hr (by decide) (by rfl) (pa_cons (pv 0) (pa_cons pe_int pa_nil))) (fun _ _ => rfl)) rfl)))
(pss_one (ps_ret (pv 2))))), ?_⟩
    refine fun dj nj => ?_
    have ndb : dj ≠ b := bag.ne nj
    have bag0 := bag.new (o := .dK []) nj
    refine ⟨_, rfl, _, rfl, _, _, rfl, rfl, b, m + 2, n, rfl, by omega, by omega, bag0, by omega, fun d H1 d0 d1 bu1 bag1 => ?_⟩
    have bu01 : But b H H1 := (But.of_same (same_new nj)).trans bu1
    have hj1 : H1 dj = some (.dK []) := bu1.at ndb upd_same
    refine ⟨d, rfl, by omega, by omega, ?_⟩
    refine for_over over_range (fun i σ H' => (∃ v, σ = [some (.ref b), some (.int m), some (.ref dj), v]) ∧ But b H H' ∧ Bag H' b (n + 1 + 2 * i) ∧ ∃ j : List Pr, H' dj = some (.dK (j.map enc)) ∧ Fs.Nd j ∧ j.length ≤ i ∧ ∀ p ∈ j, OkP fourteen p)
      ⟨⟨_, rfl⟩, bu01, bag1, [], hj1, List.nodup_nil, Nat.le_refl _, fun r hr => by cases hr⟩ (fun _ _ _ _ _ => trivial) ?_ ?_
    · rintro i x σ H2 v H2' hx ⟨⟨v0, rfl⟩, bu2, bag2, j, hj2, nd2, len2, ok2⟩ ⟨rfl, rfl⟩
      obtain ⟨hi, ex⟩ := nums_at hx
      have hi' : i < 14 := by omega
      refine ⟨by show 2 ≤ sizeLine; decide, fun l nl => ?_⟩
      have s2 := same_new (o := .lst [.str "s", .str "t"]) nl
      have nlb : l ≠ b := bag2.ne nl
      refine ⟨_, rfl, b, 2, _, rfl, by decide, by decide, bag2.new nl, by omega, fun e H3 e0 e1 bu3 bag3 => ?_⟩
      have hl3 : H3 l = some (.lst [.str "s", .str "t"]) := bu3.at nlb upd_same
      obtain ⟨z, hz, ez⟩ : ∃ z : Str, nameS z = true ∧ atI [V.str "s", V.str "t"] e = some (.str z) := by
        have : e = 0 ∨ e = 1 := by omega
        rcases this with rfl | rfl
        · exact ⟨"s", st_ok.1, rfl⟩
        · exact ⟨"t", st_ok.2, rfl⟩
      refine ⟨l, _, e, .str z, rfl, rfl, .inl (.inl hl3), ez, ?_⟩
      refine ⟨_, rfl, _, rfl, _, rfl, b, m, _, rfl, by omega, by omega, bag3, by omega, fun k H4 k0 k1 bu4 bag4 => ?_⟩
      have bu24 : But b H2' H4 := (But.of_same s2).trans (bu3.trans bu4)
      have hj4 := bu24.at ndb hj2
      refine ⟨dj, _, rfl, .inl ⟨_, Sum.inl k, hj4, rfl, ?_, rfl⟩, ?_⟩
      · rw [List.length_map]
        exact Nat.lt_of_le_of_lt (show j.length ≤ 20 by omega) (by decide)
      · refine ⟨⟨_, rfl⟩, But.put (bu2.trans bu24) nj, (bag4.put ndb).mono (by omega), Fs.put j k z, by rw [upd_same, put_enc], Fs.nd_put _ _ nd2, ?_, ?_⟩
        · have := Fs.len_put j k z
          omega
        · intro p hp
          rcases Fs.mem_merge (l := [(k, z)]) (a := j) hp with hp | hp
          · exact ok2 p hp
          · have ep : p = (k, z) := by simpa using hp
            rw [ep]
            exact ⟨mem_fourteen k0 (by omega), k0, by show k ≤ 999999; omega, hz⟩
    · rintro σ H2 ⟨⟨v0, rfl⟩, bu2, bag2, j, hj2, nd2, len2, ok2⟩
      rw [nums_len] at len2 bag2
      refine ⟨_, rfl, q _ (Fs.canon j) H2 bu2 (bag2.mono (by omega)) ⟨Good.canon ok2 (by decide), dj, j, rfl, hj2, Fs.perm_of_lk nd2 (Fs.srt_canon _).nd fun k => (Fs.lk_canon k j).symm⟩⟩
end
end Eu
set_option Elab.async false
set_option linter.all false
set_option maxRecDepth 100000
set_option maxHeartbeats 4000000
namespace Eu
open PySem PySem.Spec PyProof.Rows L2
open C8 (pe_gc pss_cut)
open Fs (Pr hasK)
open Fd
def joinTL (Ss : List (List Tr)) : List Tr := Ss.foldl orD []
theorem good_joinTL {D : List Int} (hf : D.length ≤ 60) : ∀ (Ss : List (List Tr)) (a : List Tr), GoodD D a → (∀ S ∈ Ss, GoodD D S) → GoodD D (Ss.foldl orD a)
  | [], _, h, _ => h
  | S :: r, a, h, hs => good_joinTL hf r (orD a S) (h.or (hs S List.mem_cons_self)) fun T hT => hs T (List.mem_cons_of_mem _ hT)
def spLMerged (K : PySem.W.Frag) : Sp := fun vs H Q _ => ∃ (D : List Int) (l : Addr) (xs : List (V × List Tr)), vs = [.ref l] ∧ D.length ≤ 60 ∧ SqL K H l (xs.map (·.1)) ∧ (∀ r ∈ xs, DR D H r.1 r.2) ∧ ∀ z H', Same H H' → DR D H' z (joinTL (xs.map (·.2))) → Q z H'
theorem lk_orV_none (o : Option Tv) : orV o none = o := by cases o <;> rfl
section
variable {P : Program} {w : World} {K : PySem.W.Frag} {mg : Str → Option Value} {base : Heap} {kw C : Addr}
theorem ok_lmerged (D : Df K mg "_law_merged" s_l_merged) : Cal P w K mg base 1 "_law_merged" (spLMerged K) [] := by
  refine D.cal sc_l_merged (fun _ _ _ _ _ _ us hl => match us, hl with | [_], _ => rfl) (fun vs H Q E h => ?_) (fun f cdv A out s H vs Q E hr h => ?_)
  · obtain ⟨_, l, xs, rfl, _⟩ := h
    rfl
  · obtain ⟨D, l, xs, rfl, hf, hl, hxs, q⟩ := h
    refine ⟨_, (pss_cons (ps_set (i := 1) sc_l_merged.nd rfl (Or.inl rfl) pe_dnewK)
(pss_cons (ps_for PassesOwn.never (by rfl) (pi_list (pv 0)) (pg_name (i := 2) sc_l_merged.nd rfl (Or.inl rfl))
(pss_one (ps_lock (ps_for PassesOwn.never (by rfl) (pi_keys (pv 2)) (pg_name (i := 3) sc_l_merged.nd rfl (Or.inl rfl))
(pss_cut (ps_set (i := 4) sc_l_merged.nd rfl (Or.inl rfl) (pe_ifExp (pt_cmp (pc_din (hu_of hr) (pv 3) (pv 1))) (pe_ix ix_tup (pe_dget (hu_of hr) (pv 1) (pv 3) (fun _ _ => rfl)) pe_int (fun _ _ => rfl)) (pe_ix ix_tup (pe_dget (hu_of hr) (pv 2) (pv 3) (fun _ _ => rfl)) pe_int (fun _ _ => rfl))))
(pss_one (ps_dput (hu_of hr) (pv 1) (pv 3) (pe_tup (pa_cons (pv 4) (pa_cons (pe_ix ix_tup (pe_dget (hu_of hr) (pv 2) (pv 3) (fun _ _ => rfl)) pe_int (fun _ _ => rfl)) pa_nil))) rfl)))))))
(pss_one (ps_ret (pv 1))))), ?_⟩
    refine fun dj nj => ?_
    have s0 := same_new (o := .dK []) nj
    refine ⟨_, rfl, l, rfl, ⟨_, s0.seq hl⟩, ?_⟩
    have g0 : GoodD D [] := ⟨List.Pairwise.nil, (fun p hp => by cases hp), hf⟩
    -- the rows
    refine for_over (over_map (f := fun r : V × List Tr => r.1) over_list) (fun i σ H' => (∃ x2 x3 x4, σ = [some (.ref l), some (.ref dj), x2, x3, x4]) ∧ Same H H' ∧ ∃ j : List Rw, H' dj = some (.dK (j.map (encW rf))) ∧ List.Perm (j.map ct) (joinTL ((xs.take i).map (·.2))) ∧ RowT H' j) ⟨⟨_, _, _, rfl⟩, s0, [], upd_same, .nil, (fun q hq => by cases hq)⟩ (fun i σ H' _ p => p.2.1.seq hl) ?_ ?_
    · rintro i r σ H2 v H3 e ⟨⟨x2, x3, x4, rfl⟩, s2, j, hj, hjp, hjt⟩ ⟨rfl, rfl⟩
      obtain ⟨g, d, m, er, hd, hm, hmt⟩ := (hxs r (List.mem_of_getElem? e)).same s2
      have ndj : d ≠ dj := fun z => by
        obtain ⟨g0, d0, m0, er0, hd0, hm0⟩ := hxs r (List.mem_of_getElem? e)
        rw [er] at er0
        cases er0
        rw [z, nj] at hd0
        cases hd0
      have gj : GoodD D (joinTL ((xs.take i).map (·.2))) := good_joinTL hf _ _ g0 fun S hS => by
        obtain ⟨r', hr', rfl⟩ := List.mem_map.mp hS
        exact (hxs r' (List.mem_of_mem_take hr')).1
      have ndm := perm_nd hm g.srt
      have ndJ := perm_nd hjp gj.srt
      have lm : m.length ≤ 60 := by
        have := hm.length_eq
        rw [List.length_map] at this
        have := g.len
        omega
      have lj : j.length ≤ 60 := by
        have := hjp.length_eq
        rw [List.length_map] at this
        have := gj.len
        omega
      refine ⟨d, _, hd, trivial, fun od => ⟨_, rfl, d, od, by rw [er], .inl ⟨_, upd_same, ?_⟩⟩⟩
      have er' : r.1 = .ref d := er
      refine for_over (over_map (f := encW rf) over_keys) (fun k σ H' => (∃ x3 x4, σ = [some (.ref l), some (.ref dj), some (.ref d), x3, x4]) ∧ (∀ c o, c ≠ dj → c ≠ d → H3 c = some o → H' c = some o) ∧ H' d = some (.frz od (.dK (m.map (encW rf)))) ∧
          ∃ j' : List Rw, H' dj = some (.dK (j'.map (encW rf))) ∧ Fg.Nd j' ∧ j'.length ≤ j.length + k ∧ RowT H' j' ∧ ∀ kk, (j'.map ct).lookup kk = orV ((j.map ct).lookup kk) (((m.take k).map ct).lookup kk)) ?_ (fun k σ H' _ p => p.2.2.1) ?_ ?_
      · refine ⟨⟨_, _, by rw [er']; rfl⟩, fun c o n1 n2 h => by rw [upd_ne n2]; exact h, upd_same, j, by rw [upd_ne ndj.symm]; exact hj, ndJ, Nat.le_refl _, fun q hq => ?_, fun kk => (lk_orV_none _).symm⟩
        have := hjt q hq
        rw [upd_ne (fun z => by rw [z, hd] at this; cases this)]
        exact this
      · rintro k p σ H4 v H5 e5 ⟨⟨x3, x4, rfl⟩, keep, hd4, j', hj', nd', len', rt', lk'⟩ ⟨rfl, rfl⟩
        have hk : k < m.length := (List.getElem?_eq_some_iff.mp e5).1
        have hp : p ∈ m := List.mem_of_getElem? e5
        have hnone : ((m.take k).map ct).lookup p.1 = none := by
          rw [lk_ct, Fg.lk_none (S := m.take k) (k := p.1) fun x hx z => ?_]
          · rfl
          · have hn := ndm
            unfold Fg.Nd at hn
            rw [← List.take_append_drop k m, List.map_append, List.nodup_append] at hn
            have hx2 : p ∈ m.drop k := by
              rw [List.mem_iff_getElem?]
              exact ⟨0, by rw [List.getElem?_drop]; exact e5⟩
            exact hn.2.2 x.1 (List.mem_map_of_mem hx) p.1 (List.mem_map_of_mem hx2) z
        have lkJ : (j'.map ct).lookup p.1 = (j.map ct).lookup p.1 := by
          rw [lk' p.1, hnone, lk_orV_none]
        have hmt5 : H5 p.2.1 = some (.tup [.str p.2.2.1, .int p.2.2.2]) := by
          have h1 := hmt p hp
          exact keep _ _ (fun z => by rw [z, hj] at h1; cases h1) (fun z => by rw [z, hd] at h1; cases h1) h1
        have lp : m.lookup p.1 = some (p.2.1, p.2.2) := Fg.lk_of_mem ndm hp
        refine ⟨fun σ H' => σ = [some (.ref l), some (.ref dj), some (.ref d), some (.int p.1), some (.str (((j'.map ct).lookup p.1).elim p.2.2.1 (·.1)))] ∧ H' = H5, ?_, ?_⟩
        · refine ⟨_, rfl, _, rfl, dj, _, rfl, .inl ⟨_, Sum.inl p.1, .inl hj', rfl, rfl⟩, _, rfl, ?_⟩
          rw [val_encW, Option.isSome_map]
          cases ej : j'.lookup p.1 with
          | none =>
            refine iteF ?_
            refine ⟨_, rfl, _, rfl, d, .ref p.2.1, rfl, .inl ⟨_, Sum.inl p.1, .inr ⟨od, hd4⟩, rfl, get_row lp⟩, p.2.1, _, 0, _, rfl, rfl, .inl (.inl hmt5), atI_nat (j := 0) rfl, ?_⟩
            rw [lk_ct, ej]
            exact ⟨rfl, rfl⟩
          | some q =>
            refine iteT ?_
            have hq := rt' (p.1, q) (Fg.lk_mem ej)
            refine ⟨_, rfl, _, rfl, dj, .ref q.1, rfl, .inl ⟨_, Sum.inl p.1, .inl hj', rfl, get_row (t := q.1) (v := q.2) ej⟩, q.1, _, 0, _, rfl, rfl, .inl (.inl hq), atI_nat (j := 0) rfl, ?_⟩
            rw [lk_ct, ej]
            exact ⟨rfl, rfl⟩
        · rintro σ H6 ⟨rfl, rfl⟩
          generalize hz : (((j'.map ct).lookup p.1).elim p.2.2.1 (·.1)) = z
          refine ⟨_, rfl, _, rfl, _, rfl, d, .ref p.2.1, rfl, .inl ⟨_, Sum.inl p.1, .inr ⟨od, hd4⟩, rfl, get_row lp⟩, p.2.1, _, 1, _, rfl, rfl, .inl (.inl hmt5), atI_nat (j := 1) rfl, by show 2 ≤ sizeLine; decide, fun u nu => ?_⟩
          have s6 := same_new (o := .tup [.str z, .int p.2.2.2]) nu
          have hj6 := s6 _ _ hj'
          have nuj : u ≠ dj := fun y => by rw [y, hj'] at nu; cases nu
          have e6 := put_encW rf j' p.1 ((u, (z, p.2.2.2)) : Addr × Tv)
          refine ⟨_, rfl, _, rfl, dj, _, rfl, .inl ⟨_, Sum.inl p.1, hj6, rfl, ?_, rfl⟩, ?_⟩
          · rw [List.length_map]
            exact Nat.lt_of_le_of_lt (show j'.length ≤ 120 by omega) (by decide)
          · refine ⟨⟨_, _, rfl⟩, fun c o n1 n2 h => by rw [upd_ne n1]; exact s6 _ _ (keep c o n1 n2 h), by rw [upd_ne ndj]; exact s6 _ _ hd4, Fg.put j' p.1 (u, (z, p.2.2.2)), ?_, Fg.nd_put _ _ nd', ?_, ?_, fun kk => ?_⟩
            · rw [upd_same, ← e6]; rfl
            · have := Fg.len_put j' p.1 ((u, (z, p.2.2.2)) : Addr × Tv)
              omega
            · intro x hx
              rcases Fg.mem_put hx with hx | hx
              · rw [hx]
                show (upd _ dj _) u = _
                rw [upd_ne nuj, upd_same]
              · have h1 := rt' x hx
                rw [upd_ne (fun y => by rw [y, hj'] at h1; cases h1)]
                exact s6 _ _ h1
            · rw [lk_ct, Fg.lk_put, List.take_add_one, e5, List.map_append, Fg.lk_append]
              have e7 : ((Option.toList (some p)).map ct).lookup kk = if kk = p.1 then some p.2.2 else none := by
                show ([ct p] : List Tr).lookup kk = _
                rw [Fg.lk_cons]
                rfl
              rw [e7]
              by_cases y : kk = p.1
              · rw [if_pos y, if_pos y, y, hnone, ← lkJ]
                show some ((z, p.2.2.2) : Tv) = orV ((j'.map ct).lookup p.1) (some p.2.2)
                rw [← hz]
                cases (j'.map ct).lookup p.1 <;> rfl
              · rw [if_neg y, if_neg y, Option.or_none, ← lk' kk, lk_ct]
      · rintro σ H4 ⟨⟨x3, x4, rfl⟩, keep, hd4, j', hj', nd', _, rt', lk'⟩
        rw [List.take_length] at lk'
        refine ⟨hd4, ⟨_, _, _, rfl⟩, fun c o h => ?_, j', by rw [upd_ne ndj.symm]; exact hj', ?_, fun x hx => ?_⟩
        · by_cases c1 : c = d
          · have hc := s2 _ _ h
            rw [c1, hd] at hc
            rw [c1, upd_same]
            exact hc
          · rw [upd_ne c1]
            exact keep c o (ne_of_none h nj) c1 (s2 _ _ h)
        · rw [List.take_add_one, e, List.map_append]
          have : joinTL ((xs.take i).map (fun r => r.2) ++ List.map (fun r => r.2) (Option.toList (some r))) = orD (joinTL ((xs.take i).map (fun r => r.2))) r.2 := by
            unfold joinTL
            rw [List.foldl_append]
            rfl
          rw [this]
          refine Fg.perm_of_lk (nd_ct.mpr nd') (srt_dictOf _).nd fun kk => ?_
          show (j'.map ct).lookup kk = (orD _ _).lookup kk
          rw [lk' kk, lk_orD gj.srt.nd g.srt.nd, Fg.Perm.lk hjp (nd_ct.mpr ndJ), Fg.Perm.lk hm (nd_ct.mpr ndm)]
        · have h1 := rt' x hx
          rw [upd_ne (fun y => by rw [y, hd4] at h1; cases h1)]
          exact h1
    · rintro σ H2 ⟨⟨x2, x3, x4, rfl⟩, s2, j, hj, hjp, hjt⟩
      rw [List.take_length] at hjp
      refine ⟨_, rfl, q _ H2 s2 ⟨good_joinTL hf _ _ g0 fun S hS => ?_, dj, j, rfl, hj, hjp, hjt⟩⟩
      obtain ⟨r', hr', rfl⟩ := List.mem_map.mp hS
      exact (hxs r' hr').1
end
end Eu
set_option Elab.async false
set_option linter.all false
set_option maxRecDepth 100000
set_option maxHeartbeats 4000000
namespace Eu
open PySem PySem.Spec PyProof.Rows L2
open C8 (pe_gc pss_cut)
open Fs (Pr hasK)
open Fd
abbrev s_l_merges_right : Stmt := top 31
theorem sc_l_merges_right : FnScope ["_law_rows", "_law_made", "_law_first", "_law_found", "_law_k"] ["_law_rows", "_law_made"] (defScope s_l_merges_right) :=
  ⟨rfl, rfl, rfl, by decide +kernel, rfl, by decide +kernel, by decide +kernel⟩
theorem at_least2 {α : Type} : ∀ {l : List α}, 1 < l.length → ∃ a b r, l = a :: b :: r
  | a :: b :: r, _ => ⟨a, b, r, rfl⟩
theorem at_least3 {α : Type} : ∀ {l : List α}, 2 < l.length → ∃ a b c r, l = a :: b :: c :: r
  | a :: b :: c :: r, _ => ⟨a, b, c, r, rfl⟩
theorem at_least4 {α : Type} : ∀ {l : List α}, 3 < l.length → ∃ a b c d r, l = a :: b :: c :: d :: r
  | a :: b :: c :: d :: r, _ => ⟨a, b, c, d, r, rfl⟩
theorem cut_take {xs : List V} {i : Int} {k : Nat} (h : i = (k : Int)) : cutV xs none (some i) = xs.take k := by
  subst h
  unfold cutV
  rw [HT.sIx_none, HT.sIx_nat, List.drop_zero, Nat.sub_zero]
  by_cases hk : k ≤ xs.length
  · rw [Nat.min_eq_left hk]
  · rw [Nat.min_eq_right (by omega), List.take_length, List.take_of_length_le (by omega)]
/-- the list of merged ones so far -/
def JP (C : Addr) (D : List Int) (zs : List (V × V × List Tr)) (j : Nat) (H : Hp) (lf : Addr) : Prop := ∃ fl, H lf = some (.lst fl) ∧ fl.length = min zs.length j ∧ ∀ (i : Nat) (f : V), fl[i]? = some f → FD C D H f (joinTL ((zs.take (i + 1)).map (·.2.2)))
theorem use_merge {C : Addr} {D : List Int} {H : Hp} {x : V} {S : List Tr} {Q : VK} (hx : FD C D H x S) (Ts : List (V × List Tr)) (hT : ∀ r ∈ Ts, FD C D H r.1 r.2) (hl : Ts.length ≤ sizeLine) (q : ∀ z H', Same H H' → FD C D H' z (joinDs S Ts) → Q z H') :
    spMerge C (x :: (Ts.map (·.1) ++ [])) H Q E0 := by
  refine ⟨x, Ts.map (·.1), by rw [List.append_nil], by rw [List.length_map]; exact hl, fun p np => ?_⟩
  have s := same_new (o := .tup (Ts.map (·.1))) np
  exact ⟨D, x, p, S, Ts, rfl, hx.same s, upd_same, fun r hr => (hT r hr).same s, fun z H' s' fz => q z H' (s.trans s') fz⟩
theorem same_putD {H H1 : Hp} {a : Addr} {o : HO} (s : Same H H1) (n : H a = none) : Same H (upd H1 a o) := fun c u e => by
  rw [upd_ne (ne_of_none e n)]
  exact s _ _ e
def spMerges (K : PySem.W.Frag) (C : Addr) : Sp := fun vs H Q _ => ∃ (D : List Int) (lr lm : Addr) (zs : List (V × V × List Tr)), vs = [.ref lr, .ref lm] ∧ 2 ≤ zs.length ∧ zs.length ≤ 4 ∧ SqL K H lr (zs.map (·.1)) ∧ SqL K H lm (zs.map (·.2.1)) ∧
  (∀ r ∈ zs, DR D H r.1 r.2.2 ∧ FD C D H r.2.1 r.2.2) ∧ ∀ H', Same H H' → Q (.bl true) H'
section
variable {P : Program} {w : World} {K : PySem.W.Frag} {mg : Str → Option Value} {base : Heap} {kw C : Addr}
theorem ok_merges (B : Bl mg) (F_FormDict : Fdc K mg C) (c_l_is : Cal P w K mg base 2 "_law_is" (spLIs C) []) (c_l_merged : Cal P w K mg base 1 "_law_merged" (spLMerged K) []) (m_FormDict___or__ : Met P w K mg base 9 C "__or__" (spBinD C orD) []) (m_FormDict___eq__ : Met P w K mg base 2 C "__eq__" (spSameD C) [])
    (m_FormDict_merged : MetS P w K mg base 10 C "merged" (spMerge C)) (D : Df K mg "_law_merges_right" s_l_merges_right) : Cal P w K mg base 11 "_law_merges_right" (spMerges K C) [] := by
  refine D.cal sc_l_merges_right (fun _ _ _ _ _ _ us hl => match us, hl with | [_, _], _ => rfl) (fun vs H Q E h => ?_) (fun f cdv A out s H vs Q E hr h => ?_)
  · obtain ⟨_, lr, lm, zs, rfl, _⟩ := h
    rfl
  · obtain ⟨D, lr, lm, zs, rfl, n2, n5, hr0, hm, hzs, q⟩ := h
    refine ⟨_, (pss_cons (ps_set (i := 2) sc_l_merges_right.nd rfl (Or.inl rfl) (pe_ix ix_list (pv 1) pe_int (fun _ _ => rfl)))
(pss_cons (ps_set (i := 3) sc_l_merges_right.nd rfl (Or.inr rfl) (pe_lst (pa_cons (pe_mtS0 m_FormDict_merged hr (by decide) (pv 2)) (pa_cons (pe_op (op_ownB (op := .BitOr) (by decide +kernel) m_FormDict___or__ hr (by decide) F_FormDict.sf) (pv 2) (pe_ix ix_list (pv 1) pe_int (fun _ _ => rfl))) pa_nil))))
(pss_cons (ps_if (pt_cmpR (op_ownNe m_FormDict___eq__ hr (by decide) F_FormDict.mro F_FormDict.ne) (pe_ix ix_list (pv 3) pe_int (fun _ _ => rfl)) (pe_mtS m_FormDict_merged hr (by decide) (pv 2) (pa_cons (pe_ix ix_list (pv 1) pe_int (fun _ _ => rfl)) pa_nil)) (nomark _))
(pss_one (ps_ret pe_bl))
pss_nil)
(pss_cut (ps_if (pt_cmpR op_gt (pe_callB call_len_seq (by rfl) B.len (by decide +kernel) (pa_cons (pv 1) pa_nil)) pe_int (nomark _))
(pss_one (ps_expr (pe_bm PySem.F.plainAttrs_list PySem.F.slot_list_append PySem.F.type_list_append mt_append (pv 3) (pa_cons (pe_mtS m_FormDict_merged hr (by decide) (pv 2) (pa_cons (pe_ix ix_list (pv 1) pe_int (fun _ _ => rfl)) (pa_cons (pe_ix ix_list (pv 1) pe_int (fun _ _ => rfl)) pa_nil))) pa_nil))))
pss_nil)
(pss_cut (ps_if (pt_cmpR op_gt (pe_callB call_len_seq (by rfl) B.len (by decide +kernel) (pa_cons (pv 1) pa_nil)) pe_int (nomark _))
(pss_one (ps_expr (pe_bm PySem.F.plainAttrs_list PySem.F.slot_list_append PySem.F.type_list_append mt_append (pv 3) (pa_cons (pe_mtS m_FormDict_merged hr (by decide) (pv 2) (pa_cons (pe_ix ix_list (pv 1) pe_int (fun _ _ => rfl)) (pa_cons (pe_ix ix_list (pv 1) pe_int (fun _ _ => rfl)) (pa_cons (pe_ix ix_list (pv 1) pe_int (fun _ _ => rfl)) pa_nil)))) pa_nil))))
pss_nil)
(pss_one (ps_ret (pe_callB (cr_all rfl) (by rfl) B.all (by decide +kernel) (pa_cons (pe_lc (own := [("_law_k", 4)]) (by rfl) sc_l_merges_right.nd (pi_range1 (by rfl) B.range (pa_cons (pe_callB call_len_seq (by rfl) B.len (by decide +kernel) (pa_cons (pv 3) pa_nil)) pa_nil)) (blkOk_by (own := [("_law_k", 4)]) (N := ["_law_rows", "_law_made", "_law_first", "_law_found", "_law_k"]) (sc := defScope s_l_merges_right) (by decide +kernel)) (fun _ _ _ _ _ => (pg_name (i := 4) sc_l_merges_right.nd rfl (Or.inl rfl))) (fun _ _ _ _ _ => pts_nil) (fun _ _ _ _ _ => (pe_c c_l_is hr (by decide) (by rfl) (pa_cons (pe_ix (ix_listK (K := K)) (pv 3) (pv 4) (fun _ _ => rfl)) (pa_cons (pe_c c_l_merged hr (by decide) (by rfl) (pa_cons (pe_slice (sl_listK (K := K)) (pv 0) po_none (po_some (pe_op op_add (pv 4) pe_int))) pa_nil)) pa_nil))))) pa_nil))))))))), ?_⟩
    obtain ⟨z0, z1, rest, ezs⟩ := at_least2 (l := zs) n2
    have hz0 := (hzs z0 (by rw [ezs]; simp)).2
    have hz1 := (hzs z1 (by rw [ezs]; simp)).2
    obtain ⟨a0, dx, gs, ea, ha, la0⟩ := hz0.ins
    have la := la0 "merged" (by decide) (by decide)
    have at0 : atI (zs.map (·.2.1)) 0 = some z0.2.1 := by rw [ezs]; exact atI_nat (j := 0) rfl
    have at1 : atI (zs.map (·.2.1)) 1 = some z1.2.1 := by rw [ezs]; exact atI_nat (j := 1) rfl
    refine ⟨_, rfl, lm, _, 0, z0.2.1, rfl, rfl, hm, at0, ?_⟩
    refine ⟨_, rfl, a0, dx, gs, ea, ha, la, ?_⟩
    refine use_merge hz0 [] (fun r hr => by cases hr) (by decide) fun u0 H1 s1 fu0 => ?_
    refine ⟨_, rfl, _, rfl, lm, _, 1, z1.2.1, rfl, rfl, s1.seq hm, at1, ?_⟩
    refine use_binD (hz0.same s1) (hz1.same s1) fun u1 H2 s2 fu1 => ?_
    refine ⟨by show 2 ≤ sizeLine; decide, fun lf nl => ?_⟩
    have s12 := s1.trans s2
    have nlfH : H lf = none := s12.free nl
    have e0 : orD [] z0.2.2 = z0.2.2 := orD_nil hz0.1.srt
    have st0 : ∃ fl, (upd H2 lf (.lst [u0, u1])) lf = some (.lst fl) ∧ fl.length = min zs.length 2 ∧ ∀ (i : Nat) (f : V), fl[i]? = some f → FD C D (upd H2 lf (.lst [u0, u1])) f (joinTL ((zs.take (i + 1)).map (·.2.2))) := by
      refine ⟨[u0, u1], upd_same, by show 2 = _; omega, fun i f hi => ?_⟩
      match i, hi with
      | 0, hi =>
        have e : u0 = f := Option.some.inj hi
        subst e
        have ej : joinTL ((zs.take (0 + 1)).map (·.2.2)) = orD [] z0.2.2 := by rw [ezs]; rfl
        rw [ej, e0]
        exact (fu0.same s2).same (same_new nl)
      | 1, hi =>
        have e : u1 = f := Option.some.inj hi
        subst e
        have ej : joinTL ((zs.take (1 + 1)).map (·.2.2)) = orD (orD [] z0.2.2) z1.2.2 := by rw [ezs]; rfl
        rw [ej, e0]
        exact fu1.same (same_new nl)
    have s : Same H (upd H2 lf (.lst [u0, u1])) := s12.trans (same_new nl)
    have hl2 : (upd H2 lf (.lst [u0, u1])) lf = some (.lst [u0, u1]) := upd_same
    have fu1' := fu1.same (same_new (o := .lst [u0, u1]) nl)
    generalize upd H2 lf (.lst [u0, u1]) = H1 at st0 s hl2 fu1'
    -- found[1] != first.merged(made[1])
    refine ⟨_, rfl, lf, _, 1, u1, rfl, rfl, .inl (.inl hl2), atI_nat (j := 1) rfl, ?_⟩
    refine ⟨_, rfl, a0, dx, gs, ea, s _ _ ha, la, _, rfl, lm, _, 1, z1.2.1, rfl, rfl, s.seq hm, at1, ?_⟩
    refine use_merge (hz0.same s) [(z1.2.1, z1.2.2)] (fun r hr => ?_) (by show 1 ≤ sizeLine; decide) fun u2 H3 s3 fu2 => ?_
    · have e : r = (z1.2.1, z1.2.2) := by simpa using hr
      rw [e]; exact hz1.same s
    refine use_neD (fu1'.same s3) fu2 fun H4 s4 => ⟨_, rfl, iteF ?_⟩
    have s34 := s3.trans s4
    have st1 : ∃ fl, H4 lf = some (.lst fl) ∧ fl.length = min zs.length 2 ∧ ∀ (i : Nat) (f : V), fl[i]? = some f → FD C D H4 f (joinTL ((zs.take (i + 1)).map (·.2.2))) := by
      obtain ⟨fl, hf, hfl, hall⟩ := st0
      exact ⟨fl, s34 _ _ hf, hfl, fun i f hi => (hall i f hi).same s34⟩
    have s := s.trans s34
    generalize H4 = H1 at st1 s
    obtain ⟨fl, hf, hfl, hall⟩ := st1
    have nlf := nlfH
    refine ⟨fun σ H' => ∃ lf, σ = [some (.ref lr), some (.ref lm), some z0.2.1, some (.ref lf), none] ∧ Same H H' ∧ H lf = none ∧ JP C D zs 3 H' lf, ?_, ?_⟩
    · refine ⟨_, rfl, lm, _, rfl, .inl (s.seq hm), _, _, rfl, rfl, _, rfl, ?_⟩
      rw [List.length_map]
      refine ite2 (fun e => ?_) (fun e => ?_)
      · have e' : 2 < zs.length := by have := of_decide_eq_true e; omega
        obtain ⟨y0, y1, w2, rest2, ez⟩ := at_least3 e'
        cases (ezs.symm.trans ez)
        have fs0 : ∀ r ∈ zs, FD C D H1 r.2.1 r.2.2 := fun r hr => (hzs r hr).2.same s
        have fa := fs0 z0 (by rw [ezs]; simp)
        refine ⟨_, rfl, .inl ⟨rfl, _, .inl (.inl hf)⟩, _, rfl, a0, dx, gs, ea, s _ _ ha, la, _, rfl, lm, _, 1, z1.2.1, rfl, rfl, s.seq hm, (by rw [ezs]; exact atI_nat (j := 1) rfl), _, rfl, lm, _, 2, w2.2.1, rfl, rfl, s.seq hm, (by rw [ezs]; exact atI_nat (j := 2) rfl), ?_⟩
        refine use_merge fa [(z1.2.1, z1.2.2), (w2.2.1, w2.2.2)] (fun r hr => ?_) (by show 2 ≤ sizeLine; decide) fun u H2 s2 fu => ?_
        · simp only [List.mem_cons, List.not_mem_nil, or_false] at hr
          rcases hr with rfl | rfl
          · exact fs0 z1 (by rw [ezs]; simp)
          · exact fs0 w2 (by rw [ezs]; simp)
        · have hf2 := s2 _ _ hf
          have lfl : fl.length = 2 := by rw [hfl]; omega
          refine ⟨lf, fl, u, rfl, rfl, hf2, Nat.lt_of_lt_of_le (show fl.length < 10 by omega) (by decide), ?_⟩
          refine ⟨lf, rfl, same_putD (s.trans s2) nlf, nlf, fl ++ [u], upd_same, ?_, fun i f hi => ?_⟩
          · rw [List.length_append, lfl]; show 2 + 1 = _; omega
          · have go : ∀ {x : V} {S : List Tr}, FD C D H2 x S → FD C D (upd H2 lf (.lst (fl ++ [u]))) x S := fun f => f.but But.upd hf2 (fun _ _ _ z => nomatch z) (fun _ z => nomatch z)
            by_cases hi' : i < fl.length
            · rw [List.getElem?_append_left hi'] at hi
              exact go ((hall i f hi).same s2)
            · have ei : i = 2 := by
                have := (List.getElem?_eq_some_iff.mp hi).1
                rw [List.length_append] at this
                have : i < fl.length + 1 := this
                omega
              subst ei
              rw [List.getElem?_append_right (by omega), lfl] at hi
              have hi2 : u = f := Option.some.inj hi
              subst hi2
              refine go ?_
              have ej : joinTL ((zs.take (2 + 1)).map (·.2.2)) = orD (orD (orD [] z0.2.2) z1.2.2) w2.2.2 := by rw [ezs]; rfl
              rw [ej, e0]
              exact fu
      · have e' : ¬ 2 < zs.length := by have := of_decide_eq_false (eq_false_of_ne_true e); omega
        exact ⟨lf, rfl, s, nlf, fl, hf, by rw [hfl]; omega, hall⟩
    rintro σ H1 ⟨lf, rfl, s, nlf, fl, hf, hfl, hall⟩
    refine ⟨fun σ H' => ∃ lf, σ = [some (.ref lr), some (.ref lm), some z0.2.1, some (.ref lf), none] ∧ Same H H' ∧ H lf = none ∧ JP C D zs 4 H' lf, ?_, ?_⟩
    · refine ⟨_, rfl, lm, _, rfl, .inl (s.seq hm), _, _, rfl, rfl, _, rfl, ?_⟩
      rw [List.length_map]
      refine ite2 (fun e => ?_) (fun e => ?_)
      · have e' : 3 < zs.length := by have := of_decide_eq_true e; omega
        obtain ⟨y0, y1, w2, w3, rest2, ez⟩ := at_least4 e'
        cases (ezs.symm.trans ez)
        have fs0 : ∀ r ∈ zs, FD C D H1 r.2.1 r.2.2 := fun r hr => (hzs r hr).2.same s
        have fa := fs0 z0 (by rw [ezs]; simp)
        refine ⟨_, rfl, .inl ⟨rfl, _, .inl (.inl hf)⟩, _, rfl, a0, dx, gs, ea, s _ _ ha, la, _, rfl, lm, _, 1, z1.2.1, rfl, rfl, s.seq hm, (by rw [ezs]; exact atI_nat (j := 1) rfl), _, rfl, lm, _, 2, w2.2.1, rfl, rfl, s.seq hm, (by rw [ezs]; exact atI_nat (j := 2) rfl), _, rfl, lm, _, 3, w3.2.1, rfl, rfl, s.seq hm, (by rw [ezs]; exact atI_nat (j := 3) rfl), ?_⟩
        refine use_merge fa [(z1.2.1, z1.2.2), (w2.2.1, w2.2.2), (w3.2.1, w3.2.2)] (fun r hr => ?_) (by show 3 ≤ sizeLine; decide) fun u H2 s2 fu => ?_
        · simp only [List.mem_cons, List.not_mem_nil, or_false] at hr
          rcases hr with rfl | rfl | rfl
          · exact fs0 z1 (by rw [ezs]; simp)
          · exact fs0 w2 (by rw [ezs]; simp)
          · exact fs0 w3 (by rw [ezs]; simp)
        · have hf2 := s2 _ _ hf
          have lfl : fl.length = 3 := by rw [hfl]; omega
          refine ⟨lf, fl, u, rfl, rfl, hf2, Nat.lt_of_lt_of_le (show fl.length < 10 by omega) (by decide), ?_⟩
          refine ⟨lf, rfl, same_putD (s.trans s2) nlf, nlf, fl ++ [u], upd_same, ?_, fun i f hi => ?_⟩
          · rw [List.length_append, lfl]; show 3 + 1 = _; omega
          · have go : ∀ {x : V} {S : List Tr}, FD C D H2 x S → FD C D (upd H2 lf (.lst (fl ++ [u]))) x S := fun f => f.but But.upd hf2 (fun _ _ _ z => nomatch z) (fun _ z => nomatch z)
            by_cases hi' : i < fl.length
            · rw [List.getElem?_append_left hi'] at hi
              exact go ((hall i f hi).same s2)
            · have ei : i = 3 := by
                have := (List.getElem?_eq_some_iff.mp hi).1
                rw [List.length_append] at this
                have : i < fl.length + 1 := this
                omega
              subst ei
              rw [List.getElem?_append_right (by omega), lfl] at hi
              have hi2 : u = f := Option.some.inj hi
              subst hi2
              refine go ?_
              have ej : joinTL ((zs.take (3 + 1)).map (·.2.2)) = orD (orD (orD (orD [] z0.2.2) z1.2.2) w2.2.2) w3.2.2 := by rw [ezs]; rfl
              rw [ej, e0]
              exact fu
      · have e' : ¬ 3 < zs.length := by have := of_decide_eq_false (eq_false_of_ne_true e); omega
        exact ⟨lf, rfl, s, nlf, fl, hf, by rw [hfl]; omega, hall⟩
    rintro σ H1 ⟨lf, rfl, s, nlf, fl, hf, hfl, hall⟩
    have hn : fl.length = zs.length := by omega
    refine ⟨_, rfl, lf, _, rfl, .inl (.inl (.inl hf)), _, rfl, by omega, by omega, fun Dd nD => ?_⟩
    refine lc_pure over_range (fun _ => some (.bl true)) nD ?_ (fun _ _ => trivial) ?_ ?_
    · rw [nums_len]
      exact Nat.le_trans (show _ ≤ 10 by omega) (by decide)
    · rintro x hx H3 v H4 Nx s3 ⟨rfl, rfl⟩ kq
      obtain ⟨i, hi⟩ := List.getElem?_of_mem hx
      obtain ⟨hi1, ex⟩ := nums_at hi
      have hi2 : i < fl.length := by omega
      have hfi := hall i fl[i] (List.getElem?_eq_getElem hi2)
      refine ⟨rfl, lc_yes ?_⟩
      refine ⟨_, rfl, _, rfl, lf, _, x, fl[i], rfl, rfl, .inl (.inl (s3 _ _ hf)), at_of (j := i) (by omega) (List.getElem?_eq_getElem hi2), ?_⟩
      refine ⟨_, rfl, _, rfl, _, _, rfl, rfl, _, rfl, lr, _, rfl, (s.trans s3).seq hr0, fun p np => ?_⟩
      have ec : cutV (zs.map (·.1)) none (some (x + 1)) = (((zs.take (i + 1)).map fun r => (r.1, r.2.2)) : List (V × List Tr)).map (·.1) := by
        rw [cut_take (k := i + 1) (by omega), List.map_map, List.map_take]
        rfl
      rw [ec]
      have s4 := same_new (o := .lst ((((zs.take (i + 1)).map fun r => (r.1, r.2.2)) : List (V × List Tr)).map (·.1))) np
      refine ⟨D, p, (zs.take (i + 1)).map fun r => (r.1, r.2.2), rfl, hz0.1.few, .inl (.inl upd_same), fun r hr => ?_, fun z H5 s5 dz => ?_⟩
      · obtain ⟨r', hr', rfl⟩ := List.mem_map.mp hr
        exact ((hzs r' (List.mem_of_mem_take hr')).1.same (s.trans s3)).same s4
      · have em : ((zs.take (i + 1)).map fun r => ((r.1, r.2.2) : V × List Tr)).map (·.2) = (zs.take (i + 1)).map (·.2.2) := by rw [List.map_map]; rfl
        rw [em] at dz
        exact ⟨D, _, _, _, rfl, ((hfi.same s3).same s4).same s5, dz, fun H6 s6 => kq H6 (s4.trans (s5.trans s6))⟩
    · intro H3 s3 hD
      refine ⟨Dd, (nums 0 (Int.toNat ((fl.length : Nat) : Int))).map fun _ => true, rfl, .inl (.inl ?_), ?_⟩
      · rw [hD, List.map_map]
        congr 2
        exact congrFun (List.filterMap_eq_map (f := fun _ => V.bl true)) _
      · have e : ((nums 0 (Int.toNat ((fl.length : Nat) : Int))).map fun _ => true).all id = true := by rw [List.all_map]; exact List.all_eq_true.mpr fun _ _ => rfl
        rw [e]
        exact q H3 (s.trans s3)
end
end Eu
set_option Elab.async false
set_option linter.all false
set_option maxRecDepth 100000
set_option maxHeartbeats 4000000
namespace Eu
open PySem PySem.Spec PyProof.Rows L2
open C8 (pe_gc pss_cut)
open Fs (Pr hasK)
open Fd
abbrev s_l_with_set_right : Stmt := top 32
theorem sc_l_with_set_right : FnScope ["_law_rows", "_law_made", "_law_forms", "_law_keys", "_law_inside", "_law_kept", "_law_less", "_law_looked", "_law_key"] ["_law_rows", "_law_made", "_law_forms", "_law_keys"] (defScope s_l_with_set_right) :=
  ⟨rfl, rfl, rfl, by decide +kernel, rfl, by decide +kernel, by decide +kernel⟩
/-! ### lists of elements as data -/
def elD (p : Pr) : PyData := .tuple [.int p.1, .str p.2]
theorem dpAll_ts {K : PySem.W.Frag} {H : Hp} : ∀ {ts : List (Addr × Pr)}, (∀ q ∈ ts, H q.1 = some (.tup [.int q.2.1, .str q.2.2])) → DpAll K H (vals ts) ((prs ts).map elD)
  | [], _ => .nil
  | q :: r, h => .cons (.tup (.inl (.inl (h q List.mem_cons_self))) (.cons (.int _) (.cons (.str _) .nil))) (dpAll_ts (ts := r) fun q hq => h q (List.mem_cons_of_mem _ hq))
theorem dpAll_rel {K : PySem.W.Frag} {H : Hp} : ∀ {l : List Pr} {ys : List V}, Rel2 NewT H l ys → DpAll K H ys (l.map elD)
  | [], [], _ => .nil
  | [], _ :: _, h => by have := h.1; simp at this
  | _ :: _, [], h => by have := h.1; simp at this
  | p :: l, y :: ys, h => by
    obtain ⟨⟨t, e, ht⟩, h'⟩ := rel_cons h
    subst e
    exact .cons (.tup (.inl (.inl ht)) (.cons (.int _) (.cons (.str _) .nil))) (dpAll_rel h')
theorem shaped_els {S : List Pr} (h : ∀ p ∈ S, nameS p.2 = true) : SeqAt.shaped (.list (S.map elD)) = true := by
  have h1 : PyData.canLayAll0 (S.map elD) = true ∧ PyData.depthAll (S.map elD) ≤ 1 := by
    induction S with
    | nil => exact ⟨rfl, Nat.zero_le _⟩
    | cons p r ih =>
      obtain ⟨a, b⟩ := ih fun p hp => h p (List.mem_cons_of_mem _ hp)
      refine ⟨?_, ?_⟩
      · show ((true && (PyData.strOk p.2 && true)) && PyData.canLayAll0 (r.map elD)) = true
        rw [a, strOk_name (h p List.mem_cons_self)]
        rfl
      · show max (max 0 (max 0 0) + 1) (PyData.depthAll (r.map elD)) ≤ 1
        omega
  unfold SeqAt.shaped
  rw [Bool.and_eq_true]
  refine ⟨h1.1, decide_eq_true ?_⟩
  show PyData.depthAll (S.map elD) + 1 ≤ 64
  omega
theorem eqv_els : ∀ S : List Pr, PyData.eqvAll (S.map elD) (S.map elD) = true
  | [] => rfl
  | p :: r => by
    show ((((p.1 == p.1) && ((p.2 == p.2) && true))) && PyData.eqvAll (r.map elD) (r.map elD)) = true
    rw [eqv_els r]
    simp

/-! ### dicts of rows, just made -/
/-- a new pair: a key and a row -/
def NewR (g : Rw → Tv) (q : Rw) (y : V) (H : Hp) : Prop := ∃ u t, y = .ref u ∧ H u = some (.tup [.int q.1, .ref t]) ∧ H t = some (.tup [.str (g q).1, .int (g q).2])
theorem NewR.stays {Dd : Addr} {g : Rw → Tv} : ∀ (x : Rw) (y : V) (H H' : Hp) (acc : List V), H Dd = some (.lst acc) → NewR g x y H → But Dd H H' → NewR g x y H' := by
  rintro x y H H' acc e ⟨u, t, rfl, hu, ht⟩ b
  exact ⟨u, t, rfl, b.at (fun z => by rw [z, e] at hu; cases hu) hu, b.at (fun z => by rw [z, e] at ht; cases ht) ht⟩
theorem rel_rows {K : PySem.W.Frag} {H : Hp} {g : Rw → Tv} : ∀ {l : List Rw} {ys : List V}, Rel2 (NewR g) H l ys → ∃ (ps : List Addr) (rs : List Rw), ys = ps.map V.ref ∧ rs.map ct = l.map (fun q => (q.1, g q)) ∧ RowT H rs ∧ Paired (fun p kv => SqT K H p [kV kv.1, kv.2]) ps (rs.map (encW rf))
  | [], [], _ => ⟨[], [], rfl, rfl, (fun q hq => by cases hq), .nil⟩
  | [], _ :: _, h => by have := h.1; simp at this
  | _ :: _, [], h => by have := h.1; simp at this
  | p :: l, y :: ys, h => by
    obtain ⟨u, t, e, hu, ht⟩ := h.2 0 p y rfl rfl
    have h' : Rel2 (NewR g) H l ys := ⟨by have := h.1; simp at this; exact this, fun i a b ea eb => h.2 (i + 1) a b (by simpa using ea) (by simpa using eb)⟩
    obtain ⟨ps, rs, e1, e2, e3, e4⟩ := rel_rows (K := K) h'
    refine ⟨u :: ps, (p.1, (t, g p)) :: rs, by rw [e, e1]; rfl, by show ((p.1, g p) : Tr) :: rs.map ct = _; rw [e2]; rfl, fun q hq => ?_, .cons (.inl (.inl hu)) e4⟩
    rcases List.mem_cons.mp hq with e | hq
    · rw [e]; exact ht
    · exact e3 q hq
theorem use_dictR {K : PySem.W.Frag} {D : List Int} {H : Hp} {a : Addr} {g : Rw → Tv} {l : List Rw} {ys : List V} {S : List Tr} (ha : H a = some (.lst ys)) (hr : Rel2 (NewR g) H l ys) (hp : List.Perm (l.map fun q => ((q.1, g q) : Tr)) S) (gd : GoodD D S) :
    ∃ (ps : List Addr) (kvs : List (Key × V)), SqL K H a (ps.map V.ref) ∧ Paired (fun p kv => SqT K H p [kV kv.1, kv.2]) ps kvs ∧ ∀ p, H p = none → DR D (upd H p (.dK (mergeK [] kvs))) (.ref p) S := by
  obtain ⟨ps, rs, e1, e2, e3, e4⟩ := rel_rows (K := K) hr
  have hp' : List.Perm (rs.map ct) S := by rw [e2]; exact hp
  refine ⟨ps, _, .inl (.inl (by rw [← e1]; exact ha)), e4, fun p np => ⟨gd, p, rs, rfl, ?_, hp', fun x hx => same_new np _ _ (e3 x hx)⟩⟩
  rw [upd_same, merge_ndW rf (perm_nd hp' gd.srt)]
theorem lk_filtR {f : Int → Bool} (m : List Rw) (k : Int) : ((m.filter fun q => f q.1).lookup k) = if f k = true then m.lookup k else none := Fg.lk_filter k m
def spWith (C CS : Addr) : Sp := fun vs H Q _ => ∃ (D : List Int) (x y z u : V) (S : List Tr) (T : List Pr), vs = [x, y, z, u] ∧ DR D H x S ∧ FD C D H y S ∧ DS D H z T ∧ FS CS D H u T ∧ ∀ H', Same H H' → Q (.bl true) H'
section
variable {P : Program} {w : World} {K : PySem.W.Frag} {mg : Str → Option Value} {base : Heap} {kw C CS : Addr}
theorem ok_with (B : Bl mg) (F_FormDict : Fdc K mg C) (F_FormSet : Fc K mg CS) (c_l_is : Cal P w K mg base 2 "_law_is" (spLIs C) []) (m_FormDict_kept : Met P w K mg base 9 C "kept" (spBinDS C CS keptD) []) (m_FormDict___sub__ : Met P w K mg base 9 C "__sub__" (spBinDS C CS subD) [])
    (tw_FormDict_sub : TwoC K C CS (Operator.info .Sub).2) (m_FormDict_looked : Sta P w K mg base 9 C "looked" ["forms", "source"] (spLooked C CS)) (m_FormSet_members : Met P w K mg base 1 CS "members" (spMembers CS) []) (m_FormDict_key_set : Met P w K mg base 8 C "key_set" (spKeySet C CS) [])
    (D : Df K mg "_law_with_set_right" s_l_with_set_right) : Cal P w K mg base 11 "_law_with_set_right" (spWith C CS) [] := by
  refine D.cal sc_l_with_set_right (fun _ _ _ _ _ _ us hl => match us, hl with | [_, _, _, _], _ => rfl) (fun vs H Q E h => ?_) (fun f cdv A out s H vs Q E hr h => ?_)
  · obtain ⟨_, x, y, z, u, S, T, rfl, _⟩ := h
    rfl
  · obtain ⟨D, x, y, z, u, S, T, rfl, hR, hy, hF, hu, q⟩ := h
    have hR0 := hR
    have hF0 := hF
    obtain ⟨g, d, m, rfl, hd, hm, hmt⟩ := hR
    obtain ⟨g', d', m', rfl, hd', hm'⟩ := hF
    refine ⟨_, (pss_cons (ps_lock (ps_setLc (i := 4) (own := [("_law_key", 8)]) (by rfl) sc_l_with_set_right.nd rfl rfl (sw_true rfl rfl rfl (by decide +kernel)) (pi_keys (pv 0)) (blkOk_by (own := [("_law_key", 8)]) (N := ["_law_rows", "_law_made", "_law_forms", "_law_keys", "_law_inside", "_law_kept", "_law_less", "_law_looked", "_law_key"]) (sc := defScope s_l_with_set_right) (by decide +kernel)) (fun _ _ _ _ _ => (pg_name (i := 8) sc_l_with_set_right.nd rfl (Or.inl rfl))) (fun _ _ _ _ _ => (pts_one (pt_cmp (pc_din (hu_of hr) (pv 8) (pv 2))))) (fun _ _ _ _ _ => (pv 8))))
(pss_cons (ps_set (i := 5) sc_l_with_set_right.nd rfl (Or.inl rfl) (pe_callTy (call_dictP rfl) (by rfl) B.dict (by decide +kernel) (pa_cons (pe_lc (own := [("_law_key", 8)]) (by rfl) sc_l_with_set_right.nd (pi_list (pv 4)) (blkOk_by (own := [("_law_key", 8)]) (N := ["_law_rows", "_law_made", "_law_forms", "_law_keys", "_law_inside", "_law_kept", "_law_less", "_law_looked", "_law_key"]) (sc := defScope s_l_with_set_right) (by decide +kernel)) (fun _ _ _ _ _ => (pg_name (i := 8) sc_l_with_set_right.nd rfl (Or.inl rfl))) (fun _ _ _ _ _ => pts_nil) (fun _ _ _ _ _ => (pe_tup (pa_cons (pv 8) (pa_cons (pe_dget (hu_of hr) (pv 0) (pv 8) (fun _ _ => rfl)) pa_nil))))) pa_nil)))
(pss_cons (ps_set (i := 6) sc_l_with_set_right.nd rfl (Or.inl rfl) (pe_callTy (call_dictP rfl) (by rfl) B.dict (by decide +kernel) (pa_cons (pe_lock (pe_lc (own := [("_law_key", 8)]) (by rfl) sc_l_with_set_right.nd (pi_keys (pv 0)) (blkOk_by (own := [("_law_key", 8)]) (N := ["_law_rows", "_law_made", "_law_forms", "_law_keys", "_law_inside", "_law_kept", "_law_less", "_law_looked", "_law_key"]) (sc := defScope s_l_with_set_right) (by decide +kernel)) (fun _ _ _ _ _ => (pg_name (i := 8) sc_l_with_set_right.nd rfl (Or.inl rfl))) (fun _ _ _ _ _ => (pts_one (pt_cmp (pc_dnotin (hu_of hr) (pv 8) (pv 2))))) (fun _ _ _ _ _ => (pe_tup (pa_cons (pv 8) (pa_cons (pe_dget (hu_of hr) (pv 0) (pv 8) (fun _ _ => rfl)) pa_nil)))))) pa_nil)))
(pss_cons (ps_set (i := 7) sc_l_with_set_right.nd rfl (Or.inl rfl) (pe_callTy (call_dictP rfl) (by rfl) B.dict (by decide +kernel) (pa_cons (pe_lc (own := [("_law_key", 8)]) (by rfl) sc_l_with_set_right.nd (pi_list (pv 4)) (blkOk_by (own := [("_law_key", 8)]) (N := ["_law_rows", "_law_made", "_law_forms", "_law_keys", "_law_inside", "_law_kept", "_law_less", "_law_looked", "_law_key"]) (sc := defScope s_l_with_set_right) (by decide +kernel)) (fun _ _ _ _ _ => (pg_name (i := 8) sc_l_with_set_right.nd rfl (Or.inl rfl))) (fun _ _ _ _ _ => pts_nil) (fun _ _ _ _ _ => (pe_tup (pa_cons (pv 8) (pa_cons (pe_tup (pa_cons (pe_dget (hu_of hr) (pv 2) (pv 8) (fun _ _ => rfl)) (pa_cons (pe_ix (ix_tupK (K := K)) (pe_dget (hu_of hr) (pv 0) (pv 8) (fun _ _ => rfl)) pe_int (fun _ _ => rfl)) pa_nil))) pa_nil))))) pa_nil)))
(pss_cons (ps_if (PW.pt (pw_or (pt_not (pt_val (pe_c c_l_is hr (by decide) (by rfl) (pa_cons (pe_mt m_FormDict_kept hr (by decide) (pv 1) (pa_cons (pv 3) pa_nil)) (pa_cons (pv 5) pa_nil))))) (pw_or1 (pt_not (pt_val (pe_c c_l_is hr (by decide) (by rfl) (pa_cons (pe_op (op_own2 (op := .Sub) (by decide +kernel) m_FormDict___sub__ hr (by decide) tw_FormDict_sub) (pv 1) (pv 3)) (pa_cons (pv 6) pa_nil))))))))
(pss_one (ps_ret pe_bl))
pss_nil)
(pss_cons (ps_if (pt_not (pt_val (pe_c c_l_is hr (by decide) (by rfl) (pa_cons (pe_stat m_FormDict_looked hr (by decide) (pe_gc (by rfl) F_FormDict.g_FormDict) (pa_cons (pv 3) (pa_cons (pv 1) pa_nil))) (pa_cons (pv 7) pa_nil)))))
(pss_one (ps_ret pe_bl))
pss_nil)
(pss_cons (ps_if (pt_not (pt_val (pe_c c_l_is hr (by decide) (by rfl) (pa_cons (pe_statK (n := 1) m_FormDict_looked hr (by decide) (pe_gc (by rfl) F_FormDict.g_FormDict) (pa_cons (pv 3) pa_nil) (pk_cons (pv 1) pk_nil) rfl rfl) (pa_cons (pv 7) pa_nil)))))
(pss_one (ps_ret pe_bl))
pss_nil)
(pss_one (ps_ret (pe_cmpR (op_eqD hr.rm.units) (pe_mt0 m_FormSet_members hr (by decide) (pe_mt0 m_FormDict_key_set hr (by decide) (pv 1))) (pe_lc (own := [("_law_key", 8)]) (by rfl) sc_l_with_set_right.nd (pi_list (pe_callB (call_sortedDI rfl) (by rfl) B.sorted (by decide +kernel) (pa_cons (pv 0) pa_nil))) (blkOk_by (own := [("_law_key", 8)]) (N := ["_law_rows", "_law_made", "_law_forms", "_law_keys", "_law_inside", "_law_kept", "_law_less", "_law_looked", "_law_key"]) (sc := defScope s_l_with_set_right) (by decide +kernel)) (fun _ _ _ _ _ => (pg_name (i := 8) sc_l_with_set_right.nd rfl (Or.inl rfl))) (fun _ _ _ _ _ => pts_nil) (fun _ _ _ _ _ => (pe_tup (pa_cons (pv 8) (pa_cons (pe_ix (ix_tupK (K := K)) (pe_dget (hu_of hr) (pv 0) (pv 8) (fun _ _ => rfl)) pe_int (fun _ _ => rfl)) pa_nil))))) (nomark _))))))))))), ?_⟩
    have lm : m.length ≤ 60 := by
      have := hm.length_eq
      rw [List.length_map] at this
      have := g.len
      omega
    have ndm := perm_nd hm g.srt
    have ndm' := Fs.Srt.perm_nd hm' g'.srt
    have has : ∀ k, (valV (m'.map enc) (Sum.inl k)).isSome = hasK T k := fun k => by
      rw [val_enc, Option.isSome_map, Fs.Perm.lk hm' ndm']
      rfl
    have rd' : ∀ od H3, Same (upd H d (.frz od (.dK (m.map (encW rf))))) H3 → Rd H3 d' (.dK (m'.map enc)) := fun od H3 s3 => by
      by_cases e : d' = d
      · subst e
        have ee : m'.map enc = m.map (encW rf) := HO.dK.inj (Option.some.inj (hd'.symm.trans hd))
        rw [ee]
        exact .inr ⟨od, s3 _ _ upd_same⟩
      · exact .inl (s3 _ _ (by rw [upd_ne e]; exact hd'))
    -- inside
    refine ⟨d, _, hd, trivial, fun od => ⟨_, rfl, d, od, rfl, .inl ⟨_, upd_same, fun Di nDi => ?_⟩⟩⟩
    refine lc_pure (over_map (f := encW rf) over_keys) (fun q => if hasK T q.1 then some (V.int q.1) else none) nDi (Nat.le_trans lm (by decide)) (fun H' s' => s' _ _ upd_same) ?_ ?_
    · rintro r hr0 H3 v H4 Nx s3 ⟨rfl, rfl⟩ kq
      refine ⟨rfl, ?_⟩
      refine ⟨_, rfl, _, rfl, d', _, rfl, .inl ⟨_, Sum.inl r.1, rd' od _ s3, rfl, rfl⟩, _, rfl, ?_⟩
      rw [has]
      have := kq H4 (Same.refl _)
      refine ite2 (fun hk => ?_) (fun hk => ?_)
      · rw [if_pos hk] at this
        exact ⟨_, rfl, this⟩
      · rw [if_neg hk] at this
        exact this
    intro H1 s1 hDi
    refine ⟨s1 _ _ upd_same, ?_⟩
    have nDid : Di ≠ d := fun z => by rw [z, s1 _ _ upd_same] at hDi; cases hDi
    have so1 : Same H (upd H1 d (.dK (m.map (encW rf)))) := same_open hd s1
    have el : m.filterMap (fun q => if hasK T q.1 then some (V.int q.1) else none) = (m.filter fun q => hasK T q.1).map fun q => V.int q.1 := by
      generalize m = m0
      induction m0 with
      | nil => rfl
      | cons a r ih =>
        rw [List.filterMap_cons, List.filter_cons]
        by_cases h : hasK T a.1 = true
        · simp only [h, if_true]
          rw [ih]; rfl
        · simp only [h]
          exact ih
    have hDi1 : (upd H1 d (.dK (m.map (encW rf)))) Di = some (.lst ((m.filter fun q => hasK T q.1).map fun q => V.int q.1)) := by rw [upd_ne nDid, hDi, el]
    generalize hG1 : upd H1 d (.dK (m.map (encW rf))) = G1 at so1 hDi1
    -- kept
    have pk : List.Perm ((m.filter fun q => hasK T q.1).map fun q => ((q.1, q.2.2) : Tr)) (keptD S T) := by
      have := hm.filter (fun t => hasK T t.1)
      rw [List.filter_map] at this
      exact this
    have pl : List.Perm ((m.filter fun q => !hasK T q.1).map fun q => ((q.1, q.2.2) : Tr)) (subD S T) := by
      have := hm.filter (fun t => !hasK T t.1)
      rw [List.filter_map] at this
      exact this
    have lf : (m.filter fun q => hasK T q.1).length ≤ 60 := Nat.le_trans (List.length_filter_le _ _) lm
    refine ⟨_, rfl, Di, rfl, ⟨_, .inl (.inl hDi1)⟩, fun Dk nDk => ?_⟩
    refine lc_rel (over_map (f := fun q : Rw => V.int q.1) over_list) (NewR fun q => q.2.2) nDk (Nat.le_trans lf (by decide)) (fun H' s' => .inl (.inl (s' _ _ hDi1))) NewR.stays ?_ gName_mono ?_
    · rintro r hr0 H3 v H4 Nx s3 ⟨rfl, rfl⟩ kq
      have hrm := (List.mem_filter.mp hr0).1
      have sr := so1.trans s3
      refine ⟨rfl, _, rfl, _, rfl, _, rfl, d, .ref r.2.1, rfl, .inl ⟨_, Sum.inl r.1, .inl (sr _ _ hd), rfl, get_row (t := r.2.1) (v := r.2.2) (Fg.lk_of_mem ndm hrm)⟩, by show 2 ≤ sizeLine; decide, fun t nt => ?_⟩
      exact kq _ _ (same_new nt) ⟨t, r.2.1, rfl, upd_same, same_new nt _ _ (sr _ _ (hmt r hrm))⟩
    intro H2 ys2 s2 hDk hrel2
    obtain ⟨ps_dk, kvs_dk, e1_dk, e2_dk, e3_dk⟩ := use_dictR (K := K) (D := D) hDk hrel2 pk g.filter
    refine ⟨_, ps_dk, kvs_dk, rfl, e1_dk, e2_dk, fun dk ndk => ?_⟩
    have hkept := e3_dk dk ndk
    have s3 := same_new (o := .dK (mergeK [] kvs_dk)) ndk
    generalize upd _ dk (.dK (mergeK [] kvs_dk)) = H3 at hkept s3
    have s03 := so1.trans (s2.trans s3)
    have hDi3 := s3 _ _ (s2 _ _ hDi1)
    -- less
    have hd3 := s03 _ _ hd
    refine ⟨d, _, hd3, trivial, fun od => ⟨_, rfl, d, od, rfl, .inl ⟨_, upd_same, fun Dl nDl => ?_⟩⟩⟩
    have rd3 : ∀ H5, Same (upd H3 d (.frz od (.dK (m.map (encW rf))))) H5 → Rd H5 d' (.dK (m'.map enc)) := fun H5 s5 => by
      by_cases e : d' = d
      · subst e
        have ee : m'.map enc = m.map (encW rf) := HO.dK.inj (Option.some.inj (hd'.symm.trans hd))
        rw [ee]
        exact .inr ⟨od, s5 _ _ upd_same⟩
      · exact .inl (s5 _ _ (by rw [upd_ne e]; exact s03 _ _ hd'))
    refine lc_relF (over_map (f := encW rf) over_keys) (fun q => !hasK T q.1) (NewR fun q => q.2.2) nDl (Nat.le_trans lm (by decide)) (fun H' s' => s' _ _ upd_same) NewR.stays ?_ ?_
    · rintro r hr0 H5 v H6 Nx s5 ⟨rfl, rfl⟩ k1 k2
      refine ⟨rfl, ?_⟩
      refine ⟨_, rfl, _, rfl, d', _, rfl, .inl ⟨_, Sum.inl r.1, rd3 _ s5, rfl, rfl⟩, _, rfl, ?_⟩
      rw [has]
      have h1 := hmt r hr0
      have ht5 : H6 r.2.1 = some (.tup [.str r.2.2.1, .int r.2.2.2]) := s5 _ _ (by rw [upd_ne (fun z => by rw [z, hd] at h1; cases h1)]; exact s03 _ _ h1)
      refine ite2 (fun hk => ?_) (fun hk => ?_)
      · refine ⟨_, rfl, _, rfl, _, rfl, d, .ref r.2.1, rfl, .inl ⟨_, Sum.inl r.1, .inr ⟨od, s5 _ _ upd_same⟩, rfl, get_row (t := r.2.1) (v := r.2.2) (Fg.lk_of_mem ndm hr0)⟩, by show 2 ≤ sizeLine; decide, fun t nt => ?_⟩
        exact k1 _ _ hk (same_new nt) ⟨t, r.2.1, rfl, upd_same, same_new nt _ _ ht5⟩
      · exact k2 _ (eq_false_of_ne_true hk) (Same.refl _)
    intro H4 ys4 s4 hDl hrel4
    refine ⟨s4 _ _ upd_same, ?_⟩
    have so4 : Same H3 (upd H4 d (.dK (m.map (encW rf)))) := same_open hd3 s4
    have nDld : Dl ≠ d := fun z => by rw [z, s4 _ _ upd_same] at hDl; cases hDl
    have hrel4' : Rel2 (NewR fun q => q.2.2) (upd H4 d (.dK (m.map (encW rf)))) (m.filter fun q => !hasK T q.1) ys4 := ⟨hrel4.1, fun i p y ep ey => by
      obtain ⟨u', t', e, hu', ht'⟩ := hrel4.2 i p y ep ey
      exact ⟨u', t', e, by rw [upd_ne (fun z => by rw [z, s4 _ _ upd_same] at hu'; cases hu')]; exact hu', by rw [upd_ne (fun z => by rw [z, s4 _ _ upd_same] at ht'; cases ht')]; exact ht'⟩⟩
    have hDl4 : (upd H4 d (.dK (m.map (encW rf)))) Dl = some (.lst ys4) := by rw [upd_ne nDld]; exact hDl
    generalize upd H4 d (.dK (m.map (encW rf))) = G4 at so4 hrel4' hDl4
    obtain ⟨ps_dl, kvs_dl, e1_dl, e2_dl, e3_dl⟩ := use_dictR (K := K) (D := D) hDl4 hrel4' pl g.filter
    refine ⟨_, ps_dl, kvs_dl, rfl, e1_dl, e2_dl, fun dl ndl => ?_⟩
    have hless := e3_dl dl ndl
    have s5 := same_new (o := .dK (mergeK [] kvs_dl)) ndl
    generalize upd _ dl (.dK (mergeK [] kvs_dl)) = H5 at hless s5
    have s35 := so4.trans s5
    have s05 := s03.trans s35
    have hDi5 := s35 _ _ hDi3
    -- looked
    have lkT : ∀ {k : Int}, hasK T k = true → ∃ z, T.lookup k = some z ∧ m'.lookup k = some z := fun {k} hk => by
      obtain ⟨z, hz⟩ := Option.isSome_iff_exists.mp (show (T.lookup k).isSome = true from hk)
      exact ⟨z, hz, by rw [Fs.Perm.lk hm' ndm']; exact hz⟩
    refine ⟨_, rfl, Di, rfl, ⟨_, .inl (.inl hDi5)⟩, fun Dq nDq => ?_⟩
    refine lc_rel (over_map (f := fun q : Rw => V.int q.1) over_list) (NewR fun q => (((T.lookup q.1).getD "" : Str), q.2.2.2)) nDq (Nat.le_trans lf (by decide)) (fun H' s' => .inl (.inl (s' _ _ hDi5))) NewR.stays ?_ gName_mono ?_
    · rintro r hr0 H6 v H7 Nx s6 ⟨rfl, rfl⟩ kq
      obtain ⟨hrm, hk⟩ := List.mem_filter.mp hr0
      obtain ⟨z, hz1, hz2⟩ := lkT hk
      have sr := s05.trans s6
      refine ⟨rfl, _, rfl, ?_⟩
      refine ⟨_, rfl, _, rfl, d', .str z, rfl, .inl ⟨_, Sum.inl r.1, .inl (sr _ _ hd'), rfl, by rw [val_enc, hz2]; rfl⟩, ?_⟩
      refine ⟨_, rfl, _, rfl, d, .ref r.2.1, rfl, .inl ⟨_, Sum.inl r.1, .inl (sr _ _ hd), rfl, get_row (t := r.2.1) (v := r.2.2) (Fg.lk_of_mem ndm hrm)⟩, r.2.1, _, 1, _, rfl, rfl, .inl (.inl (sr _ _ (hmt r hrm))), atI_nat (j := 1) rfl, by show 2 ≤ sizeLine; decide, fun t nt => ⟨by show 2 ≤ sizeLine; decide, fun t2 nt2 => ?_⟩⟩
      refine kq _ _ ((same_new nt).trans (same_new nt2)) ⟨t2, t, rfl, upd_same, same_new nt2 _ _ ?_⟩
      rw [upd_same]
      dsimp only
      rw [hz1]
      rfl
    intro H6 ys6 s6 hDq hrel6
    have plk : List.Perm ((m.filter fun q => hasK T q.1).map fun q => ((q.1, (((T.lookup q.1).getD "" : Str), q.2.2.2)) : Tr)) (lookD T S) := by
      have gl := (GoodD.look g' g).srt
      have ndf : Fg.Nd (m.filter fun q => hasK T q.1) := by
        unfold Fg.Nd
        exact List.Nodup.sublist (List.Sublist.map _ List.filter_sublist) ndm
      refine Fg.perm_of_lk (by unfold Fg.Nd; rw [List.map_map]; exact ndf) gl.nd fun k => ?_
      rw [lk_mapk (fun k (p : Addr × Tv) => (((T.lookup k).getD "" : Str), p.2.2)), lk_filtR (f := fun k => hasK T k), lk_lookD]
      have e1 : S.lookup k = (m.lookup k).map (·.2) := by rw [← Fg.Perm.lk hm (nd_ct.mpr ndm), lk_ct]
      rw [e1]
      unfold hasK
      cases T.lookup k <;> cases m.lookup k <;> rfl
    obtain ⟨ps_dq, kvs_dq, e1_dq, e2_dq, e3_dq⟩ := use_dictR (K := K) (D := D) hDq hrel6 plk (GoodD.look g' g)
    refine ⟨_, ps_dq, kvs_dq, rfl, e1_dq, e2_dq, fun dq ndq => ?_⟩
    have hlook := e3_dq dq ndq
    have s7 := same_new (o := .dK (mergeK [] kvs_dq)) ndq
    generalize upd _ dq (.dK (mergeK [] kvs_dq)) = H7 at hlook s7
    have s57 := s6.trans s7
    have s07 := s05.trans s57
    have hkept7 := hkept.same (s35.trans s57)
    have hless7 := hless.same s57
    -- the tests
    have hy7 := hy.same s07
    have hu7 := hu.same s07
    obtain ⟨a, dx, fs, rfl, ha, la⟩ := hy7.ins
    refine ⟨_, rfl, a, dx, fs, rfl, ha, la _ (by decide) (by decide), _, rfl, D, _, _, S, T, rfl, hy7, hu7, fun z1 H8 s8 f1 => ?_⟩
    refine ⟨_, rfl, D, _, _, _, rfl, f1, hkept7.same s8, fun H9 s9 => ⟨_, rfl, iteF ?_⟩⟩
    have s79 := s8.trans s9
    refine ⟨_, rfl, _, rfl, use_binDS (hy7.same s79) (hu7.same s79) fun z2 H10 s10 f2 => ?_⟩
    refine ⟨_, rfl, D, _, _, _, rfl, f2, (hless7.same s79).same s10, fun H11 s11 => ⟨_, rfl, iteF ?_⟩⟩
    have s711 := s79.trans (s10.trans s11)
    refine ⟨rfl, _, rfl, _, rfl, D, _, _, T, S, rfl, hu7.same s711, hy7.same s711, fun z3 H12 s12 f3 => ?_⟩
    refine ⟨_, rfl, D, _, _, _, rfl, f3, (hlook.same s711).same s12, fun H13 s13 => ⟨_, rfl, iteF ?_⟩⟩
    have s713 := s711.trans (s12.trans s13)
    refine ⟨rfl, _, rfl, _, rfl, rfl, D, _, _, T, S, rfl, hu7.same s713, hy7.same s713, fun z4 H14 s14 f4 => ?_⟩
    refine ⟨_, rfl, D, _, _, _, rfl, f4, (hlook.same s713).same s14, fun H15 s15 => ⟨_, rfl, iteF ?_⟩⟩
    have s715 := s713.trans (s14.trans s15)
    -- the keys
    have hy15 := hy7.same s715
    refine ⟨_, rfl, a, dx, fs, rfl, s715 _ _ ha, la _ (by decide) (by decide), D, _, S, rfl, hy15, fun z5 H16 s16 f5 => ?_⟩
    obtain ⟨a5, dx5, fs5, rfl, ha5, la5, _⟩ := f5.ins
    refine ⟨a5, dx5, fs5, rfl, ha5, la5, D, _, S.map fm, rfl, f5, fun p ts H17 s17 hp ep et => ?_⟩
    have s017 := s07.trans (s715.trans (s16.trans s17))
    have l1 := g.len
    refine ⟨_, rfl, d, _, m.map (fun p : Rw => p.1), rfl, .inl (s017 _ _ hd), ?_, ?_, fun ys p' hys hs np => ?_⟩
    · rw [List.map_map, List.map_map]; rfl
    · rw [List.length_map]; omega
    have ek := keys_permT hm g.srt hys hs
    subst ek
    have e : (S.map fun p : Tr => p.1).map V.int = S.map (fun p : Tr => V.int p.1) := by rw [List.map_map]; rfl
    rw [e]
    have s18 := same_new (o := .lst (S.map fun p : Tr => V.int p.1)) np
    refine ⟨p', rfl, ⟨_, .inl (.inl upd_same)⟩, fun Dd nD => ?_⟩
    refine lc_rel (over_map (f := fun p : Tr => V.int p.1) over_list) (fun p y H => NewT (fm p) y H) nD (Nat.le_trans l1 (by decide)) (fun H' s' => .inl (.inl (s' _ _ upd_same))) (fun x y H H' acc e h b => NewT.stays _ y H H' acc e h b) ?_ gName_mono ?_
    · rintro r hr0 H3 v H4 Nx s3 ⟨rfl, rfl⟩ k
      obtain ⟨t, lt, mt⟩ := row_of hm g.srt (Fg.lk_of_mem g.srt.nd hr0)
      have sr := s017.trans (s18.trans s3)
      refine ⟨rfl, _, rfl, _, rfl, _, rfl, d, .ref t, rfl, .inl ⟨_, Sum.inl r.1, .inl (sr _ _ hd), rfl, get_row lt⟩, t, _, 0, _, rfl, rfl, .inl (.inl (sr _ _ (hmt _ mt))), atI_nat (j := 0) rfl, by show 2 ≤ sizeLine; decide, fun u nu => ?_⟩
      exact k _ _ (same_new nu) ⟨u, rfl, upd_same⟩
    · intro H3 ys s3 hD hrel
      have hrel' : Rel2 NewT H3 (S.map fm) ys := ⟨by rw [List.length_map]; exact hrel.1, fun i p y epi ey => by
        rw [List.getElem?_map] at epi
        obtain ⟨r, er, rfl⟩ := Option.map_eq_some_iff.mp epi
        exact hrel.2 i r y er ey⟩
      have s19 := s18.trans s3
      have nm : ∀ r ∈ S.map fm, nameS r.2 = true := fun r hr => (g.fm.ok r hr).2.2.2
      refine ⟨.list ((S.map fm).map elD), .list ((S.map fm).map elD), .lst (.inl (.inl (s19 _ _ hp))) ?_, .lst (.inl (.inl hD)) (dpAll_rel hrel'), shaped_els nm, shaped_els nm, ?_⟩
      · have := dpAll_ts (K := K) (ts := ts) fun r hr => s19 _ _ (et r hr)
        rw [ep] at this
        exact this
      · rw [show PyData.eqv (.list ((S.map fm).map elD)) (.list ((S.map fm).map elD)) = true from eqv_els _]
        exact q H3 (s017.trans s19)
end
end Eu
set_option Elab.async false
set_option linter.all false
set_option maxRecDepth 100000
set_option maxHeartbeats 4000000
namespace Eu
open PySem PySem.Spec PyProof.Rows L2
open C8 (pe_gc pss_cut)
open Fs (Pr hasK)
open Fd
abbrev s_law : Stmt := top 33
theorem sc_law : FnScope ["_law_script", "_law_at", "_law_bag_here", "_law_many", "_law_rows", "_law_turn", "_law_made", "_law_forms", "_law_keys", "_law_one", "_law_some", "_law_key", "_law_k"] ["_law_script"] (defScope s_law) :=
  ⟨rfl, rfl, rfl, by decide +kernel, rfl, by decide +kernel, by decide +kernel⟩
theorem paired_zip {H : Hp} : ∀ {ts : List Addr} {m : List Pr}, Paired (fun (t : Addr) (q : Key × V) => H t = some (.tup [kV q.1, q.2])) ts (m.map enc) →
    vals (ts.zip m) = ts.map V.ref ∧ prs (ts.zip m) = m ∧ ∀ q ∈ ts.zip m, H q.1 = some (.tup [.int q.2.1, .str q.2.2])
  | [], [], _ => ⟨rfl, rfl, fun q hq => by cases hq⟩
  | t :: ts, p :: m, .cons h r => by
    obtain ⟨a, b, c⟩ := paired_zip r
    refine ⟨by show V.ref t :: vals (ts.zip m) = _; rw [a]; rfl, by show p :: prs (ts.zip m) = _; rw [b], fun q hq => ?_⟩
    rcases List.mem_cons.mp (show q ∈ (t, p) :: ts.zip m from hq) with e | hq
    · rw [e]; exact h
    · exact c q hq
theorem rel_zsD {C : Addr} {D : List Int} {H : Hp} : ∀ {xs : List (V × List Tr)} {ys : List V}, Rel2 (fun (r : V × List Tr) y H => FD C D H y r.2) H xs ys →
    ∃ zs : List (V × V × List Tr), zs.map (·.1) = xs.map (·.1) ∧ zs.map (·.2.1) = ys ∧ zs.length = xs.length ∧ ∀ r ∈ zs, (r.1, r.2.2) ∈ xs ∧ FD C D H r.2.1 r.2.2
  | [], [], _ => ⟨[], rfl, rfl, rfl, fun r hr => by cases hr⟩
  | [], _ :: _, h => by have := h.1; simp at this
  | _ :: _, [], h => by have := h.1; simp at this
  | x :: xs, y :: ys, h => by
    have h' : Rel2 (fun (r : V × List Tr) y H => FD C D H y r.2) H xs ys := ⟨by have := h.1; simp at this; exact this, fun i a b ea eb => h.2 (i + 1) a b (by simpa using ea) (by simpa using eb)⟩
    obtain ⟨zs, a, b, c, d⟩ := rel_zsD h'
    refine ⟨(x.1, y, x.2) :: zs, by rw [List.map_cons, List.map_cons, a], by rw [List.map_cons, b], by rw [List.length_cons, List.length_cons, c], fun r hr => ?_⟩
    rcases List.mem_cons.mp hr with e | hr
    · rw [e]; exact ⟨List.mem_cons_self, h.2 0 x y rfl rfl⟩
    · exact ⟨List.mem_cons_of_mem _ (d r hr).1, (d r hr).2⟩
def DLR (H : Hp) (l : Addr) (xs : List (V × List Tr)) : Prop := H l = some (.lst (xs.map (·.1))) ∧ ∀ r ∈ xs, DR fourteen H r.1 r.2
theorem names_ok : (∀ z ∈ (["p", "q"] : List Str), nameS z = true) ∧ (∀ z ∈ (["u", "p"] : List Str), nameS z = true) ∧ (∀ z ∈ (["v", "w"] : List Str), nameS z = true) := by
  refine ⟨?_, ?_, ?_⟩ <;> decide +kernel
/-- FormSet(list(forms.items())) -/
theorem els_items {K : PySem.W.Frag} {H : Hp} {p : Addr} {ts : List Addr} {m T : List Pr} (g : Good fourteen T) (hm : m.Perm T) (hp : H p = some (.lst (ts.map V.ref))) (hpr : Paired (fun (t : Addr) (q : Key × V) => H t = some (.tup [kV q.1, q.2])) ts (m.map enc)) :
    Els K fourteen H p (ts.zip m) ∧ (ts.zip m).length ≤ 1000 ∧ Fs.canon (prs (ts.zip m)) = T := by
  obtain ⟨z1, z2, z3⟩ := paired_zip hpr
  refine ⟨els_ofC (by rw [z1]; exact hp) z3 fun q hq => ?_, ?_, ?_⟩
  · rw [z2] at hq
    exact g.ok q (hm.mem_iff.mp hq)
  · have := congrArg List.length z2
    rw [List.length_map] at this
    have := g.len
    have := hm.length_eq
    omega
  · rw [z2]
    exact Fs.srt_ext (Fs.srt_canon _) g.srt fun k => by rw [Fs.lk_canon, Fs.Perm.lk hm (Fs.Srt.perm_nd hm g.srt)]
/-- FormSet(list), whatever follows -/
theorem use_makeA {K : PySem.W.Frag} {C : Addr} {D : List Int} {H : Hp} {a : Addr} {ts : List (Addr × Pr)} {Q : Addr → Hp → Prop} (e : Els K D H a ts) (l : ts.length ≤ 1000) (f : D.length ≤ 60) (q : ∀ z H', Same H H' → FS C D H' (.ref z) (Fs.canon (prs ts)) → Q z H') :
    ∀ x dx, H x = none → H dx = none → dx ≠ x → spInit K C (.ref x :: ([V.ref a] ++ [])) (upd (upd H dx (.own x)) x (.ins C dx [])) (fun v H2 => v = .non ∧ Q x H2) E0 := by
  intro x dx hx hdx ne
  have s1 : Same H (upd H dx (.own x)) := same_new hdx
  have hx1 : (upd H dx (.own x)) x = none := by rw [upd_ne ne.symm]; exact hx
  have s2 := s1.trans (same_new (o := .ins C dx []) hx1)
  refine ⟨D, x, dx, a, ts, rfl, upd_same, e.same s2, l, f, fun H' b fs => ⟨rfl, q _ _ (fun c o z => ?_) fs⟩⟩
  exact b.at (ne_of_none z hx) (s2 _ _ z)
section
variable {P : Program} {w : World} {K : PySem.W.Frag} {mg : Str → Option Value} {base : Heap} {kw C CS : Addr}
theorem body_law (B : Bl mg) (F_FormDict : Fdc K mg C) (F_FormSet : Fc K mg CS) (c_l_bag : Cal P w K mg base 1 "_law_bag" (spBag K) []) (c_l_take : Cal P w K mg base 1 "_law_take" spTake []) (c_l_dict : Cal P w K mg base 2 "_law_dict" spLDict []) (c_l_set : Cal P w K mg base 2 "_law_set" spLSet [])
    (m_FormSet : Mak P w K mg base 6 "FormSet" CS (spInit K CS) []) (m_FormDict : Mak P w K mg base 7 "FormDict" C (spInitD K C) []) (c_l_entries : Cal P w K mg base 1 "_law_entries" spLEntries []) (m_FormSet___eq__ : Met P w K mg base 1 CS "__eq__" (spSame CS) [])
    (c_l_is : Cal P w K mg base 2 "_law_is" (spLIs C) []) (c_l_merges_right : Cal P w K mg base 11 "_law_merges_right" (spMerges K C) []) (c_l_with_set_right : Cal P w K mg base 11 "_law_with_set_right" (spWith C CS) [])
    (f : Addr) (cdv : Value) (A : Around) (out : List Env) (s : Shared) (H : Hp) (vs : List V) (Q : VK) (E : XK) (hr : Rm 11 (A.deeper (envOfC "law" (defScope s_law) s.heap.objs.size f cdv))) (h : spLaw K vs H Q E) :
    ∃ t, PSs (cxOf CX0 P w K mg base ["_law_script", "_law_at", "_law_bag_here", "_law_many", "_law_rows", "_law_turn", "_law_made", "_law_forms", "_law_keys", "_law_one", "_law_some", "_law_key", "_law_k"] "law" (defScope s_law) f cdv A out s H E).nox (defBody s_law) t ∧
        t { nx := fun _ H' => Q .non H', rt := Q } (start ["_law_script", "_law_at", "_law_bag_here", "_law_many", "_law_rows", "_law_turn", "_law_made", "_law_forms", "_law_keys", "_law_one", "_law_some", "_law_key", "_law_k"] vs) H := by
  obtain ⟨a, ns, rfl, hS, hlen, q⟩ := h
  refine ⟨_, (pss_cons (ps_for PassesOwn.never (by rfl) (pi_range1 (by rfl) B.range (pa_cons (pe_callB (call_max2 rfl) (by rfl) B.max (by decide +kernel) (pa_cons pe_int (pa_cons (pe_callB (call_min2 rfl) (by rfl) B.min (by decide +kernel) (pa_cons pe_int (pa_cons (pe_callB call_len_seq (by rfl) B.len (by decide +kernel) (pa_cons (pv 0) pa_nil)) pa_nil))) pa_nil))) pa_nil)) (pg_name (i := 1) sc_law.nd rfl (Or.inl rfl))
(pss_cons (ps_set (i := 2) sc_law.nd rfl (Or.inl rfl) (pe_c c_l_bag hr (by decide) (by rfl) (pa_cons (pv 0) (pa_cons (pv 1) pa_nil))))
(pss_cons (ps_set (i := 3) sc_law.nd rfl (Or.inl rfl) (pe_ix ix_list (pe_lst (pa_cons pe_int (pa_cons pe_int (pa_cons pe_int pa_nil)))) (pe_c c_l_take hr (by decide) (by rfl) (pa_cons (pv 2) (pa_cons pe_int pa_nil))) (fun _ _ => rfl)))
(pss_cons (ps_set (i := 4) sc_law.nd rfl (Or.inr rfl) (pe_lst (pa_cons (pe_c c_l_dict hr (by decide) (by rfl) (pa_cons (pv 2) (pa_cons (pv 3) (pa_cons (pe_lst (pa_cons pe_str (pa_cons pe_str pa_nil))) pa_nil)))) (pa_cons (pe_c c_l_dict hr (by decide) (by rfl) (pa_cons (pv 2) (pa_cons (pv 3) (pa_cons (pe_lst (pa_cons pe_str (pa_cons pe_str pa_nil))) pa_nil)))) pa_nil))))
(pss_cons (ps_for PassesOwn.never (by rfl) (pi_range1 (by rfl) B.range (pa_cons (pe_c c_l_take hr (by decide) (by rfl) (pa_cons (pv 2) (pa_cons pe_int pa_nil))) pa_nil)) (pg_name (i := 5) sc_law.nd rfl (Or.inl rfl))
(pss_one (ps_expr (pe_bm PySem.F.plainAttrs_list PySem.F.slot_list_append PySem.F.type_list_append mt_append (pv 4) (pa_cons (pe_c c_l_dict hr (by decide) (by rfl) (pa_cons (pv 2) (pa_cons (pv 3) (pa_cons (pe_lst (pa_cons pe_str (pa_cons pe_str pa_nil))) pa_nil)))) pa_nil)))))
(pss_cut (ps_if (pt_cmpR op_eq (pe_c c_l_take hr (by decide) (by rfl) (pa_cons (pv 2) (pa_cons pe_int pa_nil))) pe_int (nomark _))
(pss_one (ps_asg (pe_callTy (call_dictP rfl) (by rfl) B.dict (by decide +kernel) (pa_cons (pe_lock (pe_lc (own := [("_law_key", 11)]) (by rfl) sc_law.nd (pi_keys (pe_ix ix_list (pv 4) pe_int (fun _ _ => rfl))) (blkOk_by (own := [("_law_key", 11)]) (N := ["_law_script", "_law_at", "_law_bag_here", "_law_many", "_law_rows", "_law_turn", "_law_made", "_law_forms", "_law_keys", "_law_one", "_law_some", "_law_key", "_law_k"]) (sc := defScope s_law) (by decide +kernel)) (fun _ _ _ _ _ => (pg_name (i := 11) sc_law.nd rfl (Or.inl rfl))) (fun _ _ _ _ _ => pts_nil) (fun _ _ _ _ _ => (pe_tup (pa_cons (pv 11) (pa_cons (pe_tup (pa_cons pe_str (pa_cons pe_int pa_nil))) pa_nil)))))) pa_nil)) (pg_sub (pv 4) pe_int set_list)))
pss_nil)
(pss_cons (ps_set (i := 6) sc_law.nd rfl (Or.inr rfl) (pe_lc (own := [("_law_one", 9)]) (by rfl) sc_law.nd (pi_list (pv 4)) (blkOk_by (own := [("_law_one", 9)]) (N := ["_law_script", "_law_at", "_law_bag_here", "_law_many", "_law_rows", "_law_turn", "_law_made", "_law_forms", "_law_keys", "_law_one", "_law_some", "_law_key", "_law_k"]) (sc := defScope s_law) (by decide +kernel)) (fun _ _ _ _ _ => (pg_name (i := 9) sc_law.nd rfl (Or.inl rfl))) (fun _ _ _ _ _ => pts_nil) (fun _ _ _ _ _ => (pe_mk m_FormDict hr (by decide) (by rfl) (pa_cons (pe_c c_l_entries hr (by decide) (by rfl) (pa_cons (pv 9) pa_nil)) pa_nil)))))
(pss_cons (ps_if (pt_not (pt_val (pe_c c_l_merges_right hr (by decide) (by rfl) (pa_cons (pv 4) (pa_cons (pv 6) pa_nil)))))
(pss_one (ps_ret pe_bl))
pss_nil)
(pss_cons (ps_for PassesOwn.never (by rfl) (pi_range1 (by rfl) B.range (pa_cons pe_int pa_nil)) (pg_name (i := 5) sc_law.nd rfl (Or.inl rfl))
(pss_cons (ps_set (i := 7) sc_law.nd rfl (Or.inl rfl) (pe_c c_l_set hr (by decide) (by rfl) (pa_cons (pv 2) (pa_cons (pv 3) pa_nil))))
(pss_cons (ps_set (i := 8) sc_law.nd rfl (Or.inl rfl) (pe_mk m_FormSet hr (by decide) (by rfl) (pa_cons (LiI.pe_listItems (by rfl) (pv 7) (by rfl) B.list (by decide +kernel)) pa_nil)))
(pss_cons (ps_for PassesOwn.never (by rfl) (pi_zip (by rfl) B.zip (pa_cons (pv 4) (pa_cons (pv 6) pa_nil))) (pg_tup (by rfl) (pgs_cons (pg_name (i := 9) sc_law.nd rfl (Or.inl rfl)) (pgs_cons (pg_name (i := 10) sc_law.nd rfl (Or.inl rfl)) pgs_nil)))
(pss_one (ps_if (pt_not (pt_val (pe_c c_l_with_set_right hr (by decide) (by rfl) (pa_cons (pv 9) (pa_cons (pv 10) (pa_cons (pv 7) (pa_cons (pv 8) pa_nil)))))))
(pss_one (ps_ret pe_bl))
pss_nil)))
(pss_one (ps_if (pt_cmpR (op_ownNe m_FormSet___eq__ hr (by decide) F_FormSet.mro F_FormSet.ne) (pv 8) (pe_mk m_FormSet hr (by decide) (by rfl) (pa_cons (LiI.pe_listItems (by rfl) (pv 7) (by rfl) B.list (by decide +kernel)) pa_nil)) (nomark _))
(pss_one (ps_ret pe_bl))
pss_nil))))))
(pss_one (ps_if (pt_not (pt_val (pe_callB (cr_all rfl) (by rfl) B.all (by decide +kernel) (pa_cons (pe_lc (own := [("_law_k", 12)]) (by rfl) sc_law.nd (pi_range1 (by rfl) B.range (pa_cons (pe_callB call_len_seq (by rfl) B.len (by decide +kernel) (pa_cons (pv 6) pa_nil)) pa_nil)) (blkOk_by (own := [("_law_k", 12)]) (N := ["_law_script", "_law_at", "_law_bag_here", "_law_many", "_law_rows", "_law_turn", "_law_made", "_law_forms", "_law_keys", "_law_one", "_law_some", "_law_key", "_law_k"]) (sc := defScope s_law) (by decide +kernel)) (fun _ _ _ _ _ => (pg_name (i := 12) sc_law.nd rfl (Or.inl rfl))) (fun _ _ _ _ _ => pts_nil) (fun _ _ _ _ _ => (pe_c c_l_is hr (by decide) (by rfl) (pa_cons (pe_ix (ix_listK (K := K)) (pv 6) (pv 12) (fun _ _ => rfl)) (pa_cons (pe_ix (ix_listK (K := K)) (pv 4) (pv 12) (fun _ _ => rfl)) pa_nil))))) pa_nil))))
(pss_one (ps_ret pe_bl))
pss_nil)))))))))))
(pss_one (ps_ret pe_bl))), ?_⟩
  refine ⟨_, rfl, a, _, rfl, .inl hS, 8, _, rfl, 2, _, rfl, _, rfl, ?_⟩
  obtain ⟨n, hn8, en⟩ : ∃ n : Nat, n ≤ 8 ∧ (if (if (((ns.map V.int).length : Nat) : Int) < 8 then (((ns.map V.int).length : Nat) : Int) else 8) > 2 then (if (((ns.map V.int).length : Nat) : Int) < 8 then (((ns.map V.int).length : Nat) : Int) else 8) else 2) = (n : Int) := by
    generalize (ns.map V.int).length = k
    by_cases h1 : (k : Int) < 8
    · rw [if_pos h1]
      by_cases h2 : (k : Int) > 2
      · rw [if_pos h2]; exact ⟨k, by omega, rfl⟩
      · rw [if_neg h2]; exact ⟨2, by omega, rfl⟩
    · rw [if_neg h1]
      exact ⟨8, by omega, rfl⟩
  rw [en]
  refine ⟨by omega, by omega, for_over over_range (fun i σ H' => (∃ x1 x2 x3 x4 x5 x6 x7 x8 x9 x10, σ = [some (.ref a), x1, x2, x3, x4, x5, x6, x7, x8, x9, x10, none, none]) ∧ Same H H') ⟨⟨none, none, none, none, none, none, none, none, none, none, rfl⟩, Same.refl _⟩ (fun _ _ _ _ _ => trivial) ?_ ?_⟩
  · rintro i x σ H1 v H1' hx ⟨⟨x1, x2, x3, x4, x5, x6, x7, x8, x9, x10, rfl⟩, s1⟩ ⟨rfl, rfl⟩
    obtain ⟨hi, ex⟩ := nums_at hx
    rw [show (((n : Nat) : Int)).toNat = n from Int.toNat_natCast n] at hi
    refine ⟨_, rfl, _, rfl, a, ns, x, rfl, s1.seq hS, by omega, by omega, fun b H2 s2 nb bag => ?_⟩
    have nbH : H b = none := s1.free nb
    have s02 : Same H H2 := s1.trans s2
    -- many
    refine ⟨by show 3 ≤ sizeLine; decide, fun l3 nl3 => ?_⟩
    refine ⟨_, rfl, b, 3, 0, rfl, by decide, by decide, bag.new nl3, by omega, fun dd H3 d0 d1 bu3 bag3 => ?_⟩
    have hl3 : H3 l3 = some (.lst [.int 3, .int 6, .int 10]) := bu3.at (bag.ne nl3) upd_same
    have bu03 : But b H2 H3 := (But.of_same (same_new nl3)).trans bu3
    obtain ⟨m, m1, m12, hm⟩ : ∃ m : Int, 1 ≤ m ∧ m ≤ 12 ∧ atI [V.int 3, V.int 6, V.int 10] dd = some (.int m) := by
      have : dd = 0 ∨ dd = 1 ∨ dd = 2 := by omega
      rcases this with rfl | rfl | rfl
      · exact ⟨3, by decide, by decide, rfl⟩
      · exact ⟨6, by decide, by decide, rfl⟩
      · exact ⟨10, by decide, by decide, rfl⟩
    refine ⟨l3, _, dd, .int m, rfl, rfl, .inl (.inl hl3), hm, ?_⟩
    -- the first two
    refine ⟨_, rfl, _, rfl, by show 2 ≤ sizeLine; decide, fun la nla => ⟨b, la, m, ["p", "q"], _, rfl, m1, m12, upd_same, rfl, names_ok.1, bag3.new nla, by omega, fun y0 S0 H4 bu4 bag4 h0 => ?_⟩⟩
    have bu04 : But b H2 H4 := bu03.trans ((But.of_same (same_new nla)).trans bu4)
    refine ⟨_, rfl, _, rfl, by show 2 ≤ sizeLine; decide, fun lb nlb => ⟨b, lb, m, ["u", "p"], _, rfl, m1, m12, upd_same, rfl, names_ok.2.1, bag4.new nlb, by omega, fun y1 S1 H5 bu5 bag5 h1 => ?_⟩⟩
    have bu05 : But b H2 H5 := bu04.trans ((But.of_same (same_new nlb)).trans bu5)
    have h05 : DR fourteen H5 y0 S0 := by
      obtain ⟨q1, q2, q3, hb, _⟩ := bag4.new (o := .lst [.str "u", .str "p"]) nlb
      exact (h0.same (same_new nlb)).but bu5 hb (fun _ z => nomatch z) (fun _ z => nomatch z)
    refine ⟨by show 2 ≤ sizeLine; decide, fun lf nlf => ?_⟩
    have nfb : lf ≠ b := bag5.ne nlf
    have nlfH : H2 lf = none := bu05.free nfb nlf
    have s6 := same_new (o := .lst [y0, y1]) nlf
    -- more of them
    refine ⟨_, rfl, b, 3, _, rfl, by decide, by decide, bag5.new nlf, by omega, fun t H7 t0 t1 bu7 bag7 => ⟨t, rfl, by omega, by omega, ?_⟩⟩
    obtain ⟨q1, q2, q3, hb6, _⟩ := bag5.new (o := .lst [y0, y1]) nlf
    have st : DLR H7 lf [(y0, S0), (y1, S1)] := by
      refine ⟨bu7.at nfb upd_same, fun r hr => ?_⟩
      rcases List.mem_cons.mp hr with e | hr
      · rw [e]; exact (h05.same s6).but bu7 hb6 (fun _ z => nomatch z) (fun _ z => nomatch z)
      · have e : r = (y1, S1) := by simpa using hr
        rw [e]; exact (h1.same s6).but bu7 hb6 (fun _ z => nomatch z) (fun _ z => nomatch z)
    have bu07 : But b H2 H7 := bu05.trans ((But.of_same s6).trans bu7)
    refine for_over over_range (fun i σ H' => (∃ v, σ = [some (.ref a), some (.int x), some (.ref b), some (.int m), some (.ref lf), v, x6, x7, x8, x9, x10, none, none]) ∧ But b H2 H' ∧ Bag H' b (130 + 60 * i) ∧ ∃ xs, DLR H' lf xs ∧ xs.length = 2 + i) ⟨⟨_, rfl⟩, bu07, bag7.mono (by omega), _, st, rfl⟩ (fun _ _ _ _ _ => trivial) ?_ ?_
    · rintro i xx σ H8 v H8' hxx ⟨⟨v0, rfl⟩, bu8, bag8, xs, ⟨hl8, hall⟩, lx⟩ ⟨rfl, rfl⟩
      obtain ⟨hi2, exx⟩ := nums_at hxx
      have hi' : i < 2 := by omega
      refine ⟨_, rfl, .inl ⟨rfl, _, .inl (.inl hl8)⟩, ?_⟩
      refine ⟨_, rfl, _, rfl, by show 2 ≤ sizeLine; decide, fun lc nlc => ⟨b, lc, m, ["v", "w"], _, rfl, m1, m12, upd_same, rfl, names_ok.2.2, bag8.new nlc, by omega, fun y2 S2 H9 bu9 bag9 h2 => ?_⟩⟩
      have s8 := same_new (o := .lst [.str "v", .str "w"]) nlc
      have bu89 := (But.of_same (b := b) s8).trans bu9
      have hl9 : H9 lf = some (.lst (xs.map (·.1))) := bu89.at nfb hl8
      refine ⟨lf, _, y2, rfl, rfl, hl9, by rw [List.length_map]; exact Nat.lt_of_lt_of_le (show xs.length < 10 by omega) (by decide), ?_⟩
      obtain ⟨p1, p2, p3, hb8, _⟩ := bag8
      refine ⟨⟨_, rfl⟩, But.put (bu8.trans bu89) nlfH, (bag9.put nfb).mono (by omega), xs ++ [(y2, S2)], ⟨?_, fun r hr => ?_⟩, by rw [List.length_append, lx]; rfl⟩
      · rw [upd_same, List.map_append]; rfl
      · have go : ∀ {x : V} {S : List Tr}, DR fourteen H9 x S → DR fourteen (upd H9 lf (.lst (xs.map (·.1) ++ [y2]))) x S := fun f => f.but But.upd hl9 (fun _ z => nomatch z) (fun _ z => nomatch z)
        rcases List.mem_append.mp hr with hr | hr
        · exact go ((hall r hr).but bu89 hb8 (fun _ z => nomatch z) (fun _ z => nomatch z))
        · have e : r = (y2, S2) := by simpa using hr
          rw [e]; exact go h2
    rintro σ H8 ⟨⟨v0, rfl⟩, bu8, bag8, xs, hDL, lx⟩
    rw [nums_len] at lx bag8
    have lx2 : 2 ≤ xs.length := by omega
    have lx5 : xs.length ≤ 4 := by omega
    refine ⟨fun σ H' => (∃ v, σ = [some (.ref a), some (.int x), some (.ref b), some (.int m), some (.ref lf), v, x6, x7, x8, x9, x10, none, none]) ∧ But b H2 H' ∧ Bag H' b 400 ∧ ∃ xs, DLR H' lf xs ∧ 2 ≤ xs.length ∧ xs.length ≤ 4, ?_, ?_⟩
    · refine ⟨_, rfl, b, 4, _, rfl, by decide, by decide, bag8, by omega, fun t H9 t0 t1 bu9 bag9 => ⟨rfl, _, rfl, ?_⟩⟩
      obtain ⟨p1, p2, p3, hb8, _⟩ := bag8
      have hDL9 : DLR H9 lf xs := ⟨bu9.at nfb hDL.1, fun r hr => (hDL.2 r hr).but bu9 hb8 (fun _ z => nomatch z) (fun _ z => nomatch z)⟩
      refine ite2 (fun e => ?_) (fun e => ?_)
      · obtain ⟨r0, r1, rest, ex⟩ := at_least2 (l := xs) (by omega)
        subst ex
        obtain ⟨hl9, hall⟩ := hDL9
        obtain ⟨g, d, mm, er, hd, hmm, hmt⟩ := hall r0 (by simp)
        have nld : lf ≠ d := fun z => by rw [z, hd] at hl9; cases hl9
        have l1 := g.len
        have l2 := hmm.length_eq
        rw [List.length_map] at l2
        refine ⟨d, _, hd, trivial, fun od => ⟨_, rfl, lf, _, 0, r0.1, rfl, rfl, .inl (.inl (by rw [upd_ne nld]; exact hl9)), atI_nat (j := 0) rfl, d, od, er, .inl ⟨_, upd_same, fun Dd nD => ?_⟩⟩⟩
        refine lc_rel (over_map (f := encW rf) over_keys) (NewR fun _ => (("same", 7) : Tv)) nD (Nat.le_trans (show mm.length ≤ 60 by omega) (by decide)) (fun H' s' => s' _ _ upd_same) NewR.stays ?_ gName_mono ?_
        · rintro r hr0 H10 v H11 Nx s10 ⟨rfl, rfl⟩ kq
          refine ⟨rfl, _, rfl, by show 2 ≤ sizeLine; decide, fun t nt => ⟨by show 2 ≤ sizeLine; decide, fun t2 nt2 => ?_⟩⟩
          exact kq _ _ ((same_new nt).trans (same_new nt2)) ⟨t2, t, rfl, upd_same, same_new nt2 _ _ upd_same⟩
        · intro H10 ys s10 hD hrel
          refine ⟨s10 _ _ upd_same, ?_⟩
          have so := same_open hd s10
          have nDd : Dd ≠ d := fun e => by rw [e, s10 _ _ upd_same] at hD; cases hD
          have hrel5 : Rel2 (NewR fun _ => (("same", 7) : Tv)) (upd H10 d (.dK (mm.map (encW rf)))) mm ys := ⟨hrel.1, fun i p y ep ey => by
            obtain ⟨u', t', e, hu', ht'⟩ := hrel.2 i p y ep ey
            exact ⟨u', t', e, by rw [upd_ne (fun z => by rw [z, s10 _ _ upd_same] at hu'; cases hu')]; exact hu', by rw [upd_ne (fun z => by rw [z, s10 _ _ upd_same] at ht'; cases ht')]; exact ht'⟩⟩
          have hD5 : (upd H10 d (.dK (mm.map (encW rf)))) Dd = some (.lst ys) := by rw [upd_ne nDd]; exact hD
          generalize upd H10 d (.dK (mm.map (encW rf))) = G10 at so hrel5 hD5
          have gS : GoodD fourteen (r0.2.map fun p => ((p.1, ("same", 7)) : Tr)) := by
            refine ⟨srt_mapk (fun _ (_ : Tv) => (("same", 7) : Tv)) g.srt, fun p hp => ?_, g.few⟩
            obtain ⟨p0, hp0, rfl⟩ := List.mem_map.mp hp
            have o := (g.ok p0 hp0).1
            exact ⟨⟨o.1, o.2.1, o.2.2.1, (show nameS "same" = true by decide +kernel)⟩, (show (7 : Int).natAbs < 10 ^ 40 by decide)⟩
          have pS : List.Perm (mm.map fun q => ((q.1, (("same", 7) : Tv)) : Tr)) (r0.2.map fun p => ((p.1, ("same", 7)) : Tr)) := by
            have := hmm.map (fun p : Tr => ((p.1, ("same", 7)) : Tr))
            rw [List.map_map] at this
            exact this
          obtain ⟨ps, kvs, e1, e2, e3⟩ := use_dictR (K := K) (D := fourteen) hD5 hrel5 pS gS
          refine ⟨_, ps, kvs, rfl, e1, e2, fun dl ndl => ?_⟩
          have hnew := e3 dl ndl
          have s11 := same_new (o := .dK (mergeK [] kvs)) ndl
          generalize upd _ dl (.dK (mergeK [] kvs)) = H11 at hnew s11
          have s911 := so.trans s11
          have hl11 := s911 _ _ hl9
          have hix : ixN ((r0 :: r1 :: rest).map (fun x : V × List Tr => x.1)).length 1 = some 1 := by
            rw [List.length_map, List.length_cons, List.length_cons]
            unfold ixN
            simp
            omega
          refine ⟨_, rfl, lf, _, _, 1, rfl, rfl, hl11, hix, ?_⟩
          have bu911 : But b H9 H11 := But.of_same s911
          refine ⟨⟨_, rfl⟩, But.put ((bu8.trans bu9).trans bu911) nlfH, ((bag9.same s911).put nfb).mono (by omega), r0 :: (.ref dl, r0.2.map fun p => ((p.1, ("same", 7)) : Tr)) :: rest, ⟨upd_same, fun r hr => ?_⟩, ?_, ?_⟩
          · have go : ∀ {x : V} {S : List Tr}, DR fourteen H11 x S → DR fourteen (upd H11 lf (.lst (((r0 :: r1 :: rest).map (fun x : V × List Tr => x.1)).set 1 (.ref dl)))) x S := fun f => f.but But.upd hl11 (fun _ z => nomatch z) (fun _ z => nomatch z)
            rcases List.mem_cons.mp hr with e | hr
            · rw [e]; exact go ((hall r0 (by simp)).same s911)
            · rcases List.mem_cons.mp hr with e | hr
              · rw [e]; exact go hnew
              · exact go ((hall r (List.mem_cons_of_mem _ (List.mem_cons_of_mem _ hr))).same s911)
          · exact lx2
          · exact lx5
      · exact ⟨⟨_, rfl⟩, bu8.trans bu9, bag9.mono (by omega), xs, hDL9, lx2, lx5⟩
    rintro σ H9 ⟨⟨v1, rfl⟩, bu9, bag9, xs, hDL, lx2, lx5⟩
    -- made
    refine ⟨_, rfl, lf, rfl, ⟨_, .inl (.inl hDL.1)⟩, fun Dd nD => ?_⟩
    refine lc_rel (over_map (f := fun r : V × List Tr => r.1) over_list) (fun r y H => FD C fourteen H y r.2) nD (Nat.le_trans lx5 (by decide)) (fun H' s' => .inl (.inl (s' _ _ hDL.1))) (fun r y H H' acc e h b => h.but b e (fun _ _ _ z => nomatch z) (fun _ z => nomatch z)) ?_ gName_mono ?_
    · rintro r hr0 H10 v H11 Nx s10 ⟨rfl, rfl⟩ kq
      have hr10 := (hDL.2 r hr0).same s10
      refine ⟨rfl, _, rfl, fourteen, _, r.2, rfl, hr10, fun p ts H12 s12 hp ep et => ?_⟩
      refine use_makeD (D := fourteen) (ts := ts) (ens_of hp et fun t ht => ?_) ?_ hr10.1.few fun z H13 s13 fz => ?_
      · rw [ep] at ht
        exact hr10.1.ok t ht
      · have := congrArg List.length ep
        rw [List.length_map] at this
        have := hr10.1.len
        omega
      · rw [ep, dictOf_srt hr10.1.srt] at fz
        exact kq z H13 (s12.trans s13) fz
    intro H10 ys s10 hD hrel
    obtain ⟨zs, e1, e2, e3, hzs⟩ := rel_zsD hrel
    have hlr : H10 lf = some (.lst (zs.map (·.1))) := by rw [e1]; exact s10 _ _ hDL.1
    have hlm : H10 Dd = some (.lst (zs.map (·.2.1))) := by rw [e2]; exact hD
    have both : ∀ r ∈ zs, DR fourteen H10 r.1 r.2.2 ∧ FD C fourteen H10 r.2.1 r.2.2 := fun r hr => ⟨(hDL.2 _ (hzs r hr).1).same s10, (hzs r hr).2⟩
    have bag10 := bag9.same s10
    have nDb : Dd ≠ b := bag9.ne nD
    refine ⟨_, rfl, _, rfl, fourteen, lf, Dd, zs, rfl, by omega, by omega, .inl (.inl hlr), .inl (.inl hlm), both, fun H11 s11 => ⟨_, rfl, iteF ?_⟩⟩
    have bu011 : But b H2 H11 := bu9.trans (But.of_same (s10.trans s11))
    -- two turns
    refine ⟨2, rfl, by decide, by decide, for_over over_range (fun j σ H' => (∃ x5 x7 x8 x9 x10, σ = [some (.ref a), some (.int x), some (.ref b), some (.int m), some (.ref lf), x5, some (.ref Dd), x7, x8, x9, x10, none, none]) ∧ But b H2 H' ∧ Bag H' b (400 + 100 * j) ∧ H' lf = some (.lst (zs.map (·.1))) ∧ H' Dd = some (.lst (zs.map (·.2.1))) ∧ ∀ r ∈ zs, DR fourteen H' r.1 r.2.2 ∧ FD C fourteen H' r.2.1 r.2.2)
      ⟨⟨_, _, _, _, _, rfl⟩, bu011, bag10.same s11, s11 _ _ hlr, s11 _ _ hlm, fun r hr => ⟨(both r hr).1.same s11, (both r hr).2.same s11⟩⟩ (fun _ _ _ _ _ => trivial) ?_ ?_⟩
    · rintro j y σ H12 v H12' hy ⟨⟨y5, y7, y8, y9, y10, rfl⟩, bu12, bag12, hlr12, hlm12, both12⟩ ⟨rfl, rfl⟩
      obtain ⟨hj, ey⟩ := nums_at hy
      have hj' : j < 2 := hj
      refine ⟨_, rfl, _, rfl, b, m, _, rfl, m1, m12, bag12, by omega, fun zf T H13 bu13 bag13 hF => ?_⟩
      obtain ⟨p1, p2, p3, hb12, _⟩ := bag12
      have hlr13 := bu13.at nfb hlr12
      have hlm13 := bu13.at nDb hlm12
      have both13 : ∀ r ∈ zs, DR fourteen H13 r.1 r.2.2 ∧ FD C fourteen H13 r.2.1 r.2.2 := fun r hr => ⟨(both12 r hr).1.but bu13 hb12 (fun _ z => nomatch z) (fun _ z => nomatch z), (both12 r hr).2.but bu13 hb12 (fun _ _ _ z => nomatch z) (fun _ z => nomatch z)⟩
      have hF0 := hF
      obtain ⟨g, d, mm, rfl, hd, hmm⟩ := hF
      refine ⟨_, rfl, d, _, rfl, hd, fun H14 p ts keep np nts nin hp hpr => ?_⟩
      obtain ⟨k1, k2, k3⟩ := els_items (K := K) g hmm hp hpr
      have s14 : Same H13 H14 := keep
      refine use_makeA (C := CS) (D := fourteen) k1 k2 g.few fun zk H15 s15 fk => ?_
      rw [k3] at fk
      have s1315 := s14.trans s15
      refine ⟨_, rfl, _, rfl, lf, Dd, _, _, rfl, .inl (.inl (s1315 _ _ hlr13)), .inl (.inl (s1315 _ _ hlm13)), ?_⟩
      refine for_over over_zip (fun k σ H' => (∃ x9 x10, σ = [some (.ref a), some (.int x), some (.ref b), some (.int m), some (.ref lf), some (.int y), some (.ref Dd), some (.ref d), some (.ref zk), x9, x10, none, none]) ∧ Same H15 H') ⟨⟨_, _, rfl⟩, Same.refl _⟩ (fun k σ H' _ p => ⟨.inl (.inl ((s1315.trans p.2) _ _ hlr13)), .inl (.inl ((s1315.trans p.2) _ _ hlm13))⟩) ?_ ?_
      · rintro k pr σ H16 v H17 hk ⟨⟨z9, z10, rfl⟩, s16⟩ ⟨Tt, rfl, nT, rfl⟩
        obtain ⟨hk1, hk2⟩ := List.getElem?_zip_eq_some.mp hk
        rw [List.getElem?_map] at hk1 hk2
        obtain ⟨r, er, er1⟩ := Option.map_eq_some_iff.mp hk1
        rw [er] at hk2
        have er2 : r.2.1 = pr.2 := by simpa using hk2
        have hrz : r ∈ zs := List.mem_of_getElem? er
        have s17 := s16.trans (same_new (o := .tup [pr.1, pr.2]) nT)
        have s1317 := s1315.trans s17
        refine ⟨_, _, rfl, .inl (.inl upd_same), rfl, _, _, rfl, _, _, rfl, rfl, ?_⟩
        refine ⟨_, rfl, _, rfl, _, rfl, _, rfl, fourteen, _, _, _, _, r.2.2, T, rfl, ?_, ?_, hF0.same s1317, fk.same s17, fun H18 s18 => ⟨_, rfl, iteF ⟨⟨_, _, rfl⟩, s17.trans s18⟩⟩⟩
        · have := (both13 r hrz).1.same s1317
          rw [er1] at this
          exact this
        · have := (both13 r hrz).2.same s1317
          rw [er2] at this
          exact this
      · rintro σ H16 ⟨⟨z9, z10, rfl⟩, s16⟩
        have hF16 := hF0.same (s1315.trans s16)
        obtain ⟨g', d', mm', ed, hd', hmm'⟩ := hF16
        refine ⟨_, rfl, _, rfl, d', _, ed, hd', fun H17 p' ts' keep' np' nts' nin' hp' hpr' => ?_⟩
        obtain ⟨k1', k2', k3'⟩ := els_items (K := K) g' hmm' hp' hpr'
        have s17 : Same H16 H17 := keep'
        refine use_makeA (C := CS) (D := fourteen) k1' k2' g.few fun zk' H18 s18 fk' => ?_
        rw [k3'] at fk'
        have s1518 := s16.trans (s17.trans s18)
        refine use_ne (fk.same s1518) fk' fun H19 s19 => ⟨_, rfl, iteF ?_⟩
        have s1319 := s1315.trans (s1518.trans s19)
        exact ⟨⟨_, _, _, _, _, rfl⟩, bu12.trans (bu13.trans (But.of_same s1319)), (bag13.same s1319).mono (by omega), s1319 _ _ hlr13, s1319 _ _ hlm13, fun r hr => ⟨(both13 r hr).1.same s1319, (both13 r hr).2.same s1319⟩⟩
    · rintro σ H12 ⟨⟨y5, y7, y8, y9, y10, rfl⟩, bu12, bag12, hlr12, hlm12, both12⟩
      have s012 : Same H H12 := bu12.back s02 nbH
      have at1 : ∀ (i : Nat) (h : i < zs.length), (zs.map (·.1))[i]? = some zs[i].1 := fun i h => by rw [List.getElem?_map, List.getElem?_eq_getElem h]; rfl
      have at2 : ∀ (i : Nat) (h : i < zs.length), (zs.map (·.2.1))[i]? = some zs[i].2.1 := fun i h => by rw [List.getElem?_map, List.getElem?_eq_getElem h]; rfl
      have len2' : (zs.map (·.2.1)).length = zs.length := List.length_map ..
      refine ⟨_, rfl, Dd, _, rfl, .inl (.inl (.inl hlm12)), _, rfl, by omega, by omega, fun De nE => ?_⟩
      refine lc_pure over_range (fun _ => some (.bl true)) nE ?_ (fun _ _ => trivial) ?_ ?_
      · rw [nums_len]
        exact Nat.le_trans (show _ ≤ 10 by omega) (by decide)
      · rintro y hy H13 v H14 Nx s13 ⟨rfl, rfl⟩ kq
        obtain ⟨j, hj⟩ := List.getElem?_of_mem hy
        obtain ⟨hj1, ey⟩ := nums_at hj
        have hj' : j < zs.length := by omega
        have bj := both12 zs[j] (List.getElem_mem hj')
        refine ⟨rfl, lc_yes ?_⟩
        refine ⟨_, rfl, _, rfl, Dd, _, y, zs[j].2.1, rfl, rfl, .inl (.inl (s13 _ _ hlm12)), at_of (j := j) (by omega) (at2 j hj'), ?_⟩
        refine ⟨_, rfl, _, rfl, lf, _, y, zs[j].1, rfl, rfl, .inl (.inl (s13 _ _ hlr12)), at_of (j := j) (by omega) (at1 j hj'), ?_⟩
        exact ⟨fourteen, _, _, zs[j].2.2, rfl, bj.2.same s13, bj.1.same s13, fun G1 g1 => kq G1 g1⟩
      · intro H13 s13 hE
        refine ⟨De, (nums 0 (Int.toNat (((zs.map (·.2.1)).length : Nat) : Int))).map fun _ => true, rfl, .inl (.inl ?_), ?_⟩
        · rw [hE, List.map_map]
          congr 2
          exact congrFun (List.filterMap_eq_map (f := fun _ => V.bl true)) _
        · have e : ((nums 0 (Int.toNat (((zs.map (·.2.1)).length : Nat) : Int))).map fun _ => true).all id = true := by rw [List.all_map]; exact List.all_eq_true.mpr fun _ _ => rfl
          rw [e]
          refine ⟨_, rfl, iteF ?_⟩
          exact ⟨⟨_, _, _, _, _, _, _, _, _, _, rfl⟩, s012.trans s13⟩
  · rintro σ H1 ⟨⟨x1, x2, x3, x4, x5, x6, x7, x8, x9, x10, rfl⟩, s1⟩
    exact q _
end
end Eu
set_option Elab.async false
set_option linter.all false
set_option maxRecDepth 100000
set_option maxHeartbeats 4000000
namespace Eu
open PySem PySem.Spec PyProof.Rows L2
theorem tops_mk {l : PySem.W.OpenLaw} {w : World} {K : PySem.W.Frag} {h : Heap} {mg : Str → Option Value} {fa : Addr}
    {f1 : Addr} {oc1 kV1 dc1 pm1 cd1 ct1 : Value} {od1 an1 : Option Addr} {sl1 : Array (Option Value)}
    {f2 : Addr} {oc2 kV2 dc2 pm2 cd2 ct2 : Value} {od2 an2 : Option Addr} {sl2 : Array (Option Value)}
    {f3 : Addr} {oc3 kV3 dc3 pm3 cd3 ct3 : Value} {od3 an3 : Option Addr} {sl3 : Array (Option Value)}
    {f4 : Addr} {oc4 kV4 dc4 pm4 cd4 ct4 : Value} {od4 an4 : Option Addr} {sl4 : Array (Option Value)}
    {f5 : Addr} {oc5 kV5 dc5 pm5 cd5 ct5 : Value} {od5 an5 : Option Addr} {sl5 : Array (Option Value)}
    {f6 : Addr} {oc6 kV6 dc6 pm6 cd6 ct6 : Value} {od6 an6 : Option Addr} {sl6 : Array (Option Value)}
    {f7 : Addr} {oc7 kV7 dc7 pm7 cd7 ct7 : Value} {od7 an7 : Option Addr} {sl7 : Array (Option Value)}
    {f8 : Addr} {oc8 kV8 dc8 pm8 cd8 ct8 : Value} {od8 an8 : Option Addr} {sl8 : Array (Option Value)}
    {f9 : Addr} {oc9 kV9 dc9 pm9 cd9 ct9 : Value} {od9 an9 : Option Addr} {sl9 : Array (Option Value)}
    {f10 : Addr} {oc10 kV10 dc10 pm10 cd10 ct10 : Value} {od10 an10 : Option Addr} {sl10 : Array (Option Value)}
    {f11 : Addr} {oc11 kV11 dc11 pm11 cd11 ct11 : Value} {od11 an11 : Option Addr} {sl11 : Array (Option Value)}
    {f12 : Addr} {oc12 kV12 dc12 pm12 cd12 ct12 : Value} {od12 an12 : Option Addr} {sl12 : Array (Option Value)}
    {f13 : Addr} {oc13 kV13 dc13 pm13 cd13 ct13 : Value} {od13 an13 : Option Addr} {sl13 : Array (Option Value)}
    {f14 : Addr} {oc14 kV14 dc14 pm14 cd14 ct14 : Value} {od14 an14 : Option Addr} {sl14 : Array (Option Value)}
    {f15 : Addr} {oc15 kV15 dc15 pm15 cd15 ct15 : Value} {od15 an15 : Option Addr} {sl15 : Array (Option Value)}
    {f16 : Addr} {oc16 kV16 dc16 pm16 cd16 ct16 : Value} {od16 an16 : Option Addr} {sl16 : Array (Option Value)}
    {f17 : Addr} {oc17 kV17 dc17 pm17 cd17 ct17 : Value} {od17 an17 : Option Addr} {sl17 : Array (Option Value)}
    {f18 : Addr} {oc18 kV18 dc18 pm18 cd18 ct18 : Value} {od18 an18 : Option Addr} {sl18 : Array (Option Value)}
    {f19 : Addr} {oc19 kV19 dc19 pm19 cd19 ct19 : Value} {od19 an19 : Option Addr} {sl19 : Array (Option Value)}
    {f20 : Addr} {oc20 kV20 dc20 pm20 cd20 ct20 : Value} {od20 an20 : Option Addr} {sl20 : Array (Option Value)}
    {gt1 : Tok}
    {gt2 : Tok}
    {gt3 : Tok}
    {ta1 : Addr} {td1 : Option Addr} {tn1 : Nat} {ts1 : Array (Option Value)} {tk1_0 tk1_1 tk1_2 : Tok}
    {C1 : Addr}
    {mf1_1 : Addr} {moc1_1 mkV1_1 mdc1_1 mpm1_1 mcd1_1 mct1_1 : Value} {mod1_1 man1_1 : Option Addr} {msl1_1 : Array (Option Value)}
    {dT1 dE1 : Addr} {ded1 dee1 : Option Addr} {den1 dem1 : Nat} {des1 deo1 : Array (Option Value)}
    {mf1_2 : Addr} {moc1_2 mkV1_2 mdc1_2 mpm1_2 mcd1_2 mct1_2 : Value} {mod1_2 man1_2 : Option Addr} {msl1_2 : Array (Option Value)}
    {mf1_3 : Addr} {moc1_3 mkV1_3 mdc1_3 mpm1_3 mcd1_3 mct1_3 : Value} {mod1_3 man1_3 : Option Addr} {msl1_3 : Array (Option Value)}
    {mf1_4 : Addr} {moc1_4 mkV1_4 mdc1_4 mpm1_4 mcd1_4 mct1_4 : Value} {mod1_4 man1_4 : Option Addr} {msl1_4 : Array (Option Value)}
    {C2 : Addr}
    {mf2_1 : Addr} {moc2_1 mkV2_1 mdc2_1 mpm2_1 mcd2_1 mct2_1 : Value} {mod2_1 man2_1 : Option Addr} {msl2_1 : Array (Option Value)}
    {dT2 dE2 : Addr} {ded2 dee2 : Option Addr} {den2 dem2 : Nat} {des2 deo2 : Array (Option Value)}
    {mf2_2 : Addr} {moc2_2 mkV2_2 mdc2_2 mpm2_2 mcd2_2 mct2_2 : Value} {mod2_2 man2_2 : Option Addr} {msl2_2 : Array (Option Value)}
    {mf2_3 : Addr} {moc2_3 mkV2_3 mdc2_3 mpm2_3 mcd2_3 mct2_3 : Value} {mod2_3 man2_3 : Option Addr} {msl2_3 : Array (Option Value)}
    {mf2_4 : Addr} {moc2_4 mkV2_4 mdc2_4 mpm2_4 mcd2_4 mct2_4 : Value} {mod2_4 man2_4 : Option Addr} {msl2_4 : Array (Option Value)}
    {mf2_5 : Addr} {moc2_5 mkV2_5 mdc2_5 mpm2_5 mcd2_5 mct2_5 : Value} {mod2_5 man2_5 : Option Addr} {msl2_5 : Array (Option Value)}
    {mf2_6 : Addr} {moc2_6 mkV2_6 mdc2_6 mpm2_6 mcd2_6 mct2_6 : Value} {mod2_6 man2_6 : Option Addr} {msl2_6 : Array (Option Value)}
    {mf2_7 : Addr} {moc2_7 mkV2_7 mdc2_7 mpm2_7 mcd2_7 mct2_7 : Value} {mod2_7 man2_7 : Option Addr} {msl2_7 : Array (Option Value)}
    {mf2_8 : Addr} {moc2_8 mkV2_8 mdc2_8 mpm2_8 mcd2_8 mct2_8 : Value} {mod2_8 man2_8 : Option Addr} {msl2_8 : Array (Option Value)}
    {mf2_9 : Addr} {moc2_9 mkV2_9 mdc2_9 mpm2_9 mcd2_9 mct2_9 : Value} {mod2_9 man2_9 : Option Addr} {msl2_9 : Array (Option Value)}
    {mf2_10 : Addr} {moc2_10 mkV2_10 mdc2_10 mpm2_10 mcd2_10 mct2_10 : Value} {mod2_10 man2_10 : Option Addr} {msl2_10 : Array (Option Value)}
    {spa1 sfn1 : Addr} {srs1 : List Value} {soc1 skV1 sdc1 spm1 scd1 sct1 : Value} {sod1 san1 : Option Addr} {ssl1 : Array (Option Value)}
    {tf1 : Addr}
    (X : K.In h) (G : h.Ns mainGlobals mg) (hfa : mg "law" = some (.ref fa))
    (a1 : PySem.W.nsIn K mainGlobals "is_integer" = some (some (.ref f1)))
    (l1 : K.lookup f1 = some ⟨oc1, od1, .func (PySem.W.fnOf "is_integer" "is_integer" (defArgs s_is_integer) (defBody s_is_integer) (defScope s_is_integer) .none kV1 dc1 pm1 an1 cd1 ct1), sl1⟩)
    (c1 : PySem.W.codeIn K cd1 "is_integer" = true) (k1 : PySem.W.keepIn K (.ref f1) = true)
    (a2 : PySem.W.nsIn K mainGlobals "in_range" = some (some (.ref f2)))
    (l2 : K.lookup f2 = some ⟨oc2, od2, .func (PySem.W.fnOf "in_range" "in_range" (defArgs s_in_range) (defBody s_in_range) (defScope s_in_range) .none kV2 dc2 pm2 an2 cd2 ct2), sl2⟩)
    (c2 : PySem.W.codeIn K cd2 "in_range" = true) (k2 : PySem.W.keepIn K (.ref f2) = true)
    (a3 : PySem.W.nsIn K mainGlobals "is_letters" = some (some (.ref f3)))
    (l3 : K.lookup f3 = some ⟨oc3, od3, .func (PySem.W.fnOf "is_letters" "is_letters" (defArgs s_is_letters) (defBody s_is_letters) (defScope s_is_letters) .none kV3 dc3 pm3 an3 cd3 ct3), sl3⟩)
    (c3 : PySem.W.codeIn K cd3 "is_letters" = true) (k3 : PySem.W.keepIn K (.ref f3) = true)
    (a4 : PySem.W.nsIn K mainGlobals "is_name" = some (some (.ref f4)))
    (l4 : K.lookup f4 = some ⟨oc4, od4, .func (PySem.W.fnOf "is_name" "is_name" (defArgs s_is_name) (defBody s_is_name) (defScope s_is_name) .none kV4 dc4 pm4 an4 cd4 ct4), sl4⟩)
    (c4 : PySem.W.codeIn K cd4 "is_name" = true) (k4 : PySem.W.keepIn K (.ref f4) = true)
    (a5 : PySem.W.nsIn K mainGlobals "is_key" = some (some (.ref f5)))
    (l5 : K.lookup f5 = some ⟨oc5, od5, .func (PySem.W.fnOf "is_key" "is_key" (defArgs s_is_key) (defBody s_is_key) (defScope s_is_key) .none kV5 dc5 pm5 an5 cd5 ct5), sl5⟩)
    (c5 : PySem.W.codeIn K cd5 "is_key" = true) (k5 : PySem.W.keepIn K (.ref f5) = true)
    (a6 : PySem.W.nsIn K mainGlobals "is_value" = some (some (.ref f6)))
    (l6 : K.lookup f6 = some ⟨oc6, od6, .func (PySem.W.fnOf "is_value" "is_value" (defArgs s_is_value) (defBody s_is_value) (defScope s_is_value) .none kV6 dc6 pm6 an6 cd6 ct6), sl6⟩)
    (c6 : PySem.W.codeIn K cd6 "is_value" = true) (k6 : PySem.W.keepIn K (.ref f6) = true)
    (a7 : PySem.W.nsIn K mainGlobals "is_element" = some (some (.ref f7)))
    (l7 : K.lookup f7 = some ⟨oc7, od7, .func (PySem.W.fnOf "is_element" "is_element" (defArgs s_is_element) (defBody s_is_element) (defScope s_is_element) .none kV7 dc7 pm7 an7 cd7 ct7), sl7⟩)
    (c7 : PySem.W.codeIn K cd7 "is_element" = true) (k7 : PySem.W.keepIn K (.ref f7) = true)
    (a8 : PySem.W.nsIn K mainGlobals "is_entry" = some (some (.ref f8)))
    (l8 : K.lookup f8 = some ⟨oc8, od8, .func (PySem.W.fnOf "is_entry" "is_entry" (defArgs s_is_entry) (defBody s_is_entry) (defScope s_is_entry) .none kV8 dc8 pm8 an8 cd8 ct8), sl8⟩)
    (c8 : PySem.W.codeIn K cd8 "is_entry" = true) (k8 : PySem.W.keepIn K (.ref f8) = true)
    (a9 : PySem.W.nsIn K mainGlobals "check_members" = some (some (.ref f9)))
    (l9 : K.lookup f9 = some ⟨oc9, od9, .func (PySem.W.fnOf "check_members" "check_members" (defArgs s_check_members) (defBody s_check_members) (defScope s_check_members) .none kV9 dc9 pm9 an9 cd9 ct9), sl9⟩)
    (c9 : PySem.W.codeIn K cd9 "check_members" = true) (k9 : PySem.W.keepIn K (.ref f9) = true)
    (a10 : PySem.W.nsIn K mainGlobals "check_entries" = some (some (.ref f10)))
    (l10 : K.lookup f10 = some ⟨oc10, od10, .func (PySem.W.fnOf "check_entries" "check_entries" (defArgs s_check_entries) (defBody s_check_entries) (defScope s_check_entries) .none kV10 dc10 pm10 an10 cd10 ct10), sl10⟩)
    (c10 : PySem.W.codeIn K cd10 "check_entries" = true) (k10 : PySem.W.keepIn K (.ref f10) = true)
    (a11 : PySem.W.nsIn K mainGlobals "_law_bag" = some (some (.ref f11)))
    (l11 : K.lookup f11 = some ⟨oc11, od11, .func (PySem.W.fnOf "_law_bag" "_law_bag" (defArgs s_l_bag) (defBody s_l_bag) (defScope s_l_bag) .none kV11 dc11 pm11 an11 cd11 ct11), sl11⟩)
    (c11 : PySem.W.codeIn K cd11 "_law_bag" = true) (k11 : PySem.W.keepIn K (.ref f11) = true)
    (a12 : PySem.W.nsIn K mainGlobals "_law_take" = some (some (.ref f12)))
    (l12 : K.lookup f12 = some ⟨oc12, od12, .func (PySem.W.fnOf "_law_take" "_law_take" (defArgs s_l_take) (defBody s_l_take) (defScope s_l_take) .none kV12 dc12 pm12 an12 cd12 ct12), sl12⟩)
    (c12 : PySem.W.codeIn K cd12 "_law_take" = true) (k12 : PySem.W.keepIn K (.ref f12) = true)
    (a13 : PySem.W.nsIn K mainGlobals "_law_dict" = some (some (.ref f13)))
    (l13 : K.lookup f13 = some ⟨oc13, od13, .func (PySem.W.fnOf "_law_dict" "_law_dict" (defArgs s_l_dict) (defBody s_l_dict) (defScope s_l_dict) .none kV13 dc13 pm13 an13 cd13 ct13), sl13⟩)
    (c13 : PySem.W.codeIn K cd13 "_law_dict" = true) (k13 : PySem.W.keepIn K (.ref f13) = true)
    (a14 : PySem.W.nsIn K mainGlobals "_law_set" = some (some (.ref f14)))
    (l14 : K.lookup f14 = some ⟨oc14, od14, .func (PySem.W.fnOf "_law_set" "_law_set" (defArgs s_l_set) (defBody s_l_set) (defScope s_l_set) .none kV14 dc14 pm14 an14 cd14 ct14), sl14⟩)
    (c14 : PySem.W.codeIn K cd14 "_law_set" = true) (k14 : PySem.W.keepIn K (.ref f14) = true)
    (a15 : PySem.W.nsIn K mainGlobals "_law_entries" = some (some (.ref f15)))
    (l15 : K.lookup f15 = some ⟨oc15, od15, .func (PySem.W.fnOf "_law_entries" "_law_entries" (defArgs s_l_entries) (defBody s_l_entries) (defScope s_l_entries) .none kV15 dc15 pm15 an15 cd15 ct15), sl15⟩)
    (c15 : PySem.W.codeIn K cd15 "_law_entries" = true) (k15 : PySem.W.keepIn K (.ref f15) = true)
    (a16 : PySem.W.nsIn K mainGlobals "_law_is" = some (some (.ref f16)))
    (l16 : K.lookup f16 = some ⟨oc16, od16, .func (PySem.W.fnOf "_law_is" "_law_is" (defArgs s_l_is) (defBody s_l_is) (defScope s_l_is) .none kV16 dc16 pm16 an16 cd16 ct16), sl16⟩)
    (c16 : PySem.W.codeIn K cd16 "_law_is" = true) (k16 : PySem.W.keepIn K (.ref f16) = true)
    (a17 : PySem.W.nsIn K mainGlobals "_law_merged" = some (some (.ref f17)))
    (l17 : K.lookup f17 = some ⟨oc17, od17, .func (PySem.W.fnOf "_law_merged" "_law_merged" (defArgs s_l_merged) (defBody s_l_merged) (defScope s_l_merged) .none kV17 dc17 pm17 an17 cd17 ct17), sl17⟩)
    (c17 : PySem.W.codeIn K cd17 "_law_merged" = true) (k17 : PySem.W.keepIn K (.ref f17) = true)
    (a18 : PySem.W.nsIn K mainGlobals "_law_merges_right" = some (some (.ref f18)))
    (l18 : K.lookup f18 = some ⟨oc18, od18, .func (PySem.W.fnOf "_law_merges_right" "_law_merges_right" (defArgs s_l_merges_right) (defBody s_l_merges_right) (defScope s_l_merges_right) .none kV18 dc18 pm18 an18 cd18 ct18), sl18⟩)
    (c18 : PySem.W.codeIn K cd18 "_law_merges_right" = true) (k18 : PySem.W.keepIn K (.ref f18) = true)
    (a19 : PySem.W.nsIn K mainGlobals "_law_with_set_right" = some (some (.ref f19)))
    (l19 : K.lookup f19 = some ⟨oc19, od19, .func (PySem.W.fnOf "_law_with_set_right" "_law_with_set_right" (defArgs s_l_with_set_right) (defBody s_l_with_set_right) (defScope s_l_with_set_right) .none kV19 dc19 pm19 an19 cd19 ct19), sl19⟩)
    (c19 : PySem.W.codeIn K cd19 "_law_with_set_right" = true) (k19 : PySem.W.keepIn K (.ref f19) = true)
    (a20 : PySem.W.nsIn K mainGlobals "law" = some (some (.ref f20)))
    (l20 : K.lookup f20 = some ⟨oc20, od20, .func (PySem.W.fnOf "law" "law" (defArgs s_law) (defBody s_law) (defScope s_law) .none kV20 dc20 pm20 an20 cd20 ct20), sl20⟩)
    (c20 : PySem.W.codeIn K cd20 "law" = true) (k20 : PySem.W.keepIn K (.ref f20) = true)
    (g1 : PySem.W.nsIn K mainGlobals "LONGEST_NAME" = some (some (.int 4 gt1)))
    (g2 : PySem.W.nsIn K mainGlobals "MOST_KEY" = some (some (.int 999999 gt2)))
    (g3 : PySem.W.nsIn K mainGlobals "MOST_VALUE" = some (some (.int (10 ^ 40) gt3)))
    (h1 : PySem.W.nsIn K mainGlobals "KEPT_WORDS" = some (some (.ref ta1)))
    (j1 : K.lookup ta1 = some ⟨.type "tuple", td1, .seq #[.str "keys" tk1_0, .str "look" tk1_1, .str "self" tk1_2] tn1, ts1⟩)
    (aC1 : PySem.W.nsIn K mainGlobals "FormSet" = some (some (.ref C1)))
    (ma1_1 : PySem.W.findIn K (.ref C1) "__init__" = some (some (.ref mf1_1))) (mi1_1 : PySem.W.isFn K (.ref mf1_1) = true)
    (ml1_1 : K.lookup mf1_1 = some ⟨moc1_1, mod1_1, .func (PySem.W.fnOf "__init__" "FormSet.__init__" (defArgs s_FormSet___init__) (defBody s_FormSet___init__) (defScope s_FormSet___init__) (.ref dT1) mkV1_1 mdc1_1 mpm1_1 man1_1 mcd1_1 mct1_1), msl1_1⟩)
    (mc1_1 : PySem.W.codeIn K mcd1_1 "FormSet.__init__" = true) (mk1_1 : PySem.W.keepIn K (.ref mf1_1) = true)
    (dt1 : K.lookup dT1 = some ⟨.type "tuple", ded1, .seq #[.ref dE1] den1, des1⟩) (de1 : K.lookup dE1 = some ⟨.type "tuple", dee1, .seq #[] dem1, deo1⟩)
    (ma1_2 : PySem.W.findIn K (.ref C1) "members" = some (some (.ref mf1_2))) (mi1_2 : PySem.W.isFn K (.ref mf1_2) = true)
    (ml1_2 : K.lookup mf1_2 = some ⟨moc1_2, mod1_2, .func (PySem.W.fnOf "members" "FormSet.members" (defArgs s_FormSet_members) (defBody s_FormSet_members) (defScope s_FormSet_members) .none mkV1_2 mdc1_2 mpm1_2 man1_2 mcd1_2 mct1_2), msl1_2⟩)
    (mc1_2 : PySem.W.codeIn K mcd1_2 "FormSet.members" = true) (mk1_2 : PySem.W.keepIn K (.ref mf1_2) = true)
    (ma1_3 : PySem.W.findIn K (.ref C1) "__contains__" = some (some (.ref mf1_3))) (mi1_3 : PySem.W.isFn K (.ref mf1_3) = true)
    (ml1_3 : K.lookup mf1_3 = some ⟨moc1_3, mod1_3, .func (PySem.W.fnOf "__contains__" "FormSet.__contains__" (defArgs s_FormSet___contains__) (defBody s_FormSet___contains__) (defScope s_FormSet___contains__) .none mkV1_3 mdc1_3 mpm1_3 man1_3 mcd1_3 mct1_3), msl1_3⟩)
    (mc1_3 : PySem.W.codeIn K mcd1_3 "FormSet.__contains__" = true) (mk1_3 : PySem.W.keepIn K (.ref mf1_3) = true)
    (ma1_4 : PySem.W.findIn K (.ref C1) "__eq__" = some (some (.ref mf1_4))) (mi1_4 : PySem.W.isFn K (.ref mf1_4) = true)
    (ml1_4 : K.lookup mf1_4 = some ⟨moc1_4, mod1_4, .func (PySem.W.fnOf "__eq__" "FormSet.__eq__" (defArgs s_FormSet___eq__) (defBody s_FormSet___eq__) (defScope s_FormSet___eq__) .none mkV1_4 mdc1_4 mpm1_4 man1_4 mcd1_4 mct1_4), msl1_4⟩)
    (mc1_4 : PySem.W.codeIn K mcd1_4 "FormSet.__eq__" = true) (mk1_4 : PySem.W.keepIn K (.ref mf1_4) = true)
    (pg1 : PySem.W.plainGet K C1 Str.empty = true)
    (hd1 : PySem.W.hasDictIn K C1 = true)
    (po1 : PySem.W.plainOver K C1 = true)
    (sa1 : PySem.W.findIn K (.ref C1) "__setattr__" = some (some (.builtin "object.__setattr__")))
    (mk1 : PySem.W.makesIn K C1 = true)
    (kc1 : PySem.W.keepIn K (.ref C1) = true)
    (na1_1 : PySem.W.findIn K (.ref C1) "forms" = some none)
    (sf1 : PySem.W.selfFirst K C1 = true)
    (mr1 : PySem.W.mroIn K C1 (.type "object") = some true)
    (ne1 : PySem.W.findIn K (.ref C1) "__ne__" = some (some (.builtin "object.__ne__")))
    (ha1 : PySem.W.findIn K (.ref C1) "__class__" = some (some (.builtin "object.__class__")))
    (hn1 : PySem.W.specialIn K (.builtin "object.__class__") "__get__" = some (some (.builtin "getset_descriptor.__get__")))
    (ht1 : PySem.W.takesIn K (.builtin "object.__class__") = some true)
    (aC2 : PySem.W.nsIn K mainGlobals "FormDict" = some (some (.ref C2)))
    (ma2_1 : PySem.W.findIn K (.ref C2) "__init__" = some (some (.ref mf2_1))) (mi2_1 : PySem.W.isFn K (.ref mf2_1) = true)
    (ml2_1 : K.lookup mf2_1 = some ⟨moc2_1, mod2_1, .func (PySem.W.fnOf "__init__" "FormDict.__init__" (defArgs s_FormDict___init__) (defBody s_FormDict___init__) (defScope s_FormDict___init__) (.ref dT2) mkV2_1 mdc2_1 mpm2_1 man2_1 mcd2_1 mct2_1), msl2_1⟩)
    (mc2_1 : PySem.W.codeIn K mcd2_1 "FormDict.__init__" = true) (mk2_1 : PySem.W.keepIn K (.ref mf2_1) = true)
    (dt2 : K.lookup dT2 = some ⟨.type "tuple", ded2, .seq #[.ref dE2] den2, des2⟩) (de2 : K.lookup dE2 = some ⟨.type "tuple", dee2, .seq #[] dem2, deo2⟩)
    (ma2_2 : PySem.W.findIn K (.ref C2) "entries" = some (some (.ref mf2_2))) (mi2_2 : PySem.W.isFn K (.ref mf2_2) = true)
    (ml2_2 : K.lookup mf2_2 = some ⟨moc2_2, mod2_2, .func (PySem.W.fnOf "entries" "FormDict.entries" (defArgs s_FormDict_entries) (defBody s_FormDict_entries) (defScope s_FormDict_entries) .none mkV2_2 mdc2_2 mpm2_2 man2_2 mcd2_2 mct2_2), msl2_2⟩)
    (mc2_2 : PySem.W.codeIn K mcd2_2 "FormDict.entries" = true) (mk2_2 : PySem.W.keepIn K (.ref mf2_2) = true)
    (ma2_3 : PySem.W.findIn K (.ref C2) "__contains__" = some (some (.ref mf2_3))) (mi2_3 : PySem.W.isFn K (.ref mf2_3) = true)
    (ml2_3 : K.lookup mf2_3 = some ⟨moc2_3, mod2_3, .func (PySem.W.fnOf "__contains__" "FormDict.__contains__" (defArgs s_FormDict___contains__) (defBody s_FormDict___contains__) (defScope s_FormDict___contains__) .none mkV2_3 mdc2_3 mpm2_3 man2_3 mcd2_3 mct2_3), msl2_3⟩)
    (mc2_3 : PySem.W.codeIn K mcd2_3 "FormDict.__contains__" = true) (mk2_3 : PySem.W.keepIn K (.ref mf2_3) = true)
    (ma2_4 : PySem.W.findIn K (.ref C2) "__getitem__" = some (some (.ref mf2_4))) (mi2_4 : PySem.W.isFn K (.ref mf2_4) = true)
    (ml2_4 : K.lookup mf2_4 = some ⟨moc2_4, mod2_4, .func (PySem.W.fnOf "__getitem__" "FormDict.__getitem__" (defArgs s_FormDict___getitem__) (defBody s_FormDict___getitem__) (defScope s_FormDict___getitem__) .none mkV2_4 mdc2_4 mpm2_4 man2_4 mcd2_4 mct2_4), msl2_4⟩)
    (mc2_4 : PySem.W.codeIn K mcd2_4 "FormDict.__getitem__" = true) (mk2_4 : PySem.W.keepIn K (.ref mf2_4) = true)
    (ma2_5 : PySem.W.findIn K (.ref C2) "__or__" = some (some (.ref mf2_5))) (mi2_5 : PySem.W.isFn K (.ref mf2_5) = true)
    (ml2_5 : K.lookup mf2_5 = some ⟨moc2_5, mod2_5, .func (PySem.W.fnOf "__or__" "FormDict.__or__" (defArgs s_FormDict___or__) (defBody s_FormDict___or__) (defScope s_FormDict___or__) .none mkV2_5 mdc2_5 mpm2_5 man2_5 mcd2_5 mct2_5), msl2_5⟩)
    (mc2_5 : PySem.W.codeIn K mcd2_5 "FormDict.__or__" = true) (mk2_5 : PySem.W.keepIn K (.ref mf2_5) = true)
    (ma2_6 : PySem.W.findIn K (.ref C2) "__sub__" = some (some (.ref mf2_6))) (mi2_6 : PySem.W.isFn K (.ref mf2_6) = true)
    (ml2_6 : K.lookup mf2_6 = some ⟨moc2_6, mod2_6, .func (PySem.W.fnOf "__sub__" "FormDict.__sub__" (defArgs s_FormDict___sub__) (defBody s_FormDict___sub__) (defScope s_FormDict___sub__) .none mkV2_6 mdc2_6 mpm2_6 man2_6 mcd2_6 mct2_6), msl2_6⟩)
    (mc2_6 : PySem.W.codeIn K mcd2_6 "FormDict.__sub__" = true) (mk2_6 : PySem.W.keepIn K (.ref mf2_6) = true)
    (ma2_7 : PySem.W.findIn K (.ref C2) "kept" = some (some (.ref mf2_7))) (mi2_7 : PySem.W.isFn K (.ref mf2_7) = true)
    (ml2_7 : K.lookup mf2_7 = some ⟨moc2_7, mod2_7, .func (PySem.W.fnOf "kept" "FormDict.kept" (defArgs s_FormDict_kept) (defBody s_FormDict_kept) (defScope s_FormDict_kept) .none mkV2_7 mdc2_7 mpm2_7 man2_7 mcd2_7 mct2_7), msl2_7⟩)
    (mc2_7 : PySem.W.codeIn K mcd2_7 "FormDict.kept" = true) (mk2_7 : PySem.W.keepIn K (.ref mf2_7) = true)
    (ma2_8 : PySem.W.findIn K (.ref C2) "merged" = some (some (.ref mf2_8))) (mi2_8 : PySem.W.isFn K (.ref mf2_8) = true)
    (ml2_8 : K.lookup mf2_8 = some ⟨moc2_8, mod2_8, .func (PySem.W.fnOf "merged" "FormDict.merged" (defArgs s_FormDict_merged) (defBody s_FormDict_merged) (defScope s_FormDict_merged) .none mkV2_8 mdc2_8 mpm2_8 man2_8 mcd2_8 mct2_8), msl2_8⟩)
    (mc2_8 : PySem.W.codeIn K mcd2_8 "FormDict.merged" = true) (mk2_8 : PySem.W.keepIn K (.ref mf2_8) = true)
    (ma2_9 : PySem.W.findIn K (.ref C2) "key_set" = some (some (.ref mf2_9))) (mi2_9 : PySem.W.isFn K (.ref mf2_9) = true)
    (ml2_9 : K.lookup mf2_9 = some ⟨moc2_9, mod2_9, .func (PySem.W.fnOf "key_set" "FormDict.key_set" (defArgs s_FormDict_key_set) (defBody s_FormDict_key_set) (defScope s_FormDict_key_set) .none mkV2_9 mdc2_9 mpm2_9 man2_9 mcd2_9 mct2_9), msl2_9⟩)
    (mc2_9 : PySem.W.codeIn K mcd2_9 "FormDict.key_set" = true) (mk2_9 : PySem.W.keepIn K (.ref mf2_9) = true)
    (ma2_10 : PySem.W.findIn K (.ref C2) "__eq__" = some (some (.ref mf2_10))) (mi2_10 : PySem.W.isFn K (.ref mf2_10) = true)
    (ml2_10 : K.lookup mf2_10 = some ⟨moc2_10, mod2_10, .func (PySem.W.fnOf "__eq__" "FormDict.__eq__" (defArgs s_FormDict___eq__) (defBody s_FormDict___eq__) (defScope s_FormDict___eq__) .none mkV2_10 mdc2_10 mpm2_10 man2_10 mcd2_10 mct2_10), msl2_10⟩)
    (mc2_10 : PySem.W.codeIn K mcd2_10 "FormDict.__eq__" = true) (mk2_10 : PySem.W.keepIn K (.ref mf2_10) = true)
    (pg2 : PySem.W.plainGet K C2 Str.empty = true)
    (hd2 : PySem.W.hasDictIn K C2 = true)
    (po2 : PySem.W.plainOver K C2 = true)
    (sa2 : PySem.W.findIn K (.ref C2) "__setattr__" = some (some (.builtin "object.__setattr__")))
    (mk2 : PySem.W.makesIn K C2 = true)
    (kc2 : PySem.W.keepIn K (.ref C2) = true)
    (na1_2 : PySem.W.findIn K (.ref C2) "forms" = some none)
    (na2_2 : PySem.W.findIn K (.ref C2) "amounts" = some none)
    (sf2 : PySem.W.selfFirst K C2 = true)
    (mr2 : PySem.W.mroIn K C2 (.type "object") = some true)
    (ne2 : PySem.W.findIn K (.ref C2) "__ne__" = some (some (.builtin "object.__ne__")))
    (ha2 : PySem.W.findIn K (.ref C2) "__class__" = some (some (.builtin "object.__class__")))
    (hn2 : PySem.W.specialIn K (.builtin "object.__class__") "__get__" = some (some (.builtin "getset_descriptor.__get__")))
    (ht2 : PySem.W.takesIn K (.builtin "object.__class__") = some true)
    (srd1 : PySem.W.readsIn K C2 (.type "type") = true) (sga1 : PySem.W.specialIn K (.ref C2) "__getattribute__" = some (some (.builtin "type.__getattribute__")))
    (sfc1 : PySem.W.findCls K (.ref C2) (.type "type") "looked" = some (.get (.builtin "staticmethod.__get__") (.ref spa1) .none (.ref C2))) (src1 : PySem.W.recIn K spa1 "staticmethod" = some (.ref sfn1 :: srs1))
    (skp1 : PySem.W.keepIn K (.ref sfn1) = true) (slk1 : K.lookup sfn1 = some ⟨soc1, sod1, .func (PySem.W.fnOf "looked" "FormDict.looked" (defArgs s_FormDict_looked) (defBody s_FormDict_looked) (defScope s_FormDict_looked) .none skV1 sdc1 spm1 san1 scd1 sct1), ssl1⟩) (sce1 : PySem.W.codeIn K scd1 "FormDict.looked" = true)
    (tw1_1 : PySem.W.findIn K (.ref C1) "__sub__" = some (some (.ref tf1))) (tw2_1 : PySem.W.findIn K (.ref C2) "__rsub__" = some none) (tw3_1 : PySem.W.findIn K (.ref C1) "__rsub__" = some none) (tw4_1 : PySem.W.subIn K (.ref C1) (.ref C2) = some false) (tw5_1 : PySem.W.subIn K (.ref C2) (.ref C2) = some true)
    (z1 : PySem.W.nsIn K mainGlobals "len" = some none)
    (z2 : PySem.W.nsIn K mainGlobals "abs" = some none)
    (z3 : PySem.W.nsIn K mainGlobals "isinstance" = some none)
    (z4 : PySem.W.nsIn K mainGlobals "int" = some none)
    (z5 : PySem.W.nsIn K mainGlobals "bool" = some none)
    (z6 : PySem.W.nsIn K mainGlobals "str" = some none)
    (z7 : PySem.W.nsIn K mainGlobals "tuple" = some none)
    (z8 : PySem.W.nsIn K mainGlobals "all" = some none)
    (z9 : PySem.W.nsIn K mainGlobals "any" = some none)
    (z10 : PySem.W.nsIn K mainGlobals "repr" = some none)
    (z11 : PySem.W.nsIn K mainGlobals "range" = some none)
    (z12 : PySem.W.nsIn K mainGlobals "max" = some none)
    (z13 : PySem.W.nsIn K mainGlobals "min" = some none)
    (z14 : PySem.W.nsIn K mainGlobals "list" = some none)
    (z15 : PySem.W.nsIn K mainGlobals "dict" = some none)
    (z16 : PySem.W.nsIn K mainGlobals "set" = some none)
    (z17 : PySem.W.nsIn K mainGlobals "sorted" = some none)
    (z18 : PySem.W.nsIn K mainGlobals "reversed" = some none)
    (z19 : PySem.W.nsIn K mainGlobals "enumerate" = some none)
    (z20 : PySem.W.nsIn K mainGlobals "zip" = some none)
    (z21 : PySem.W.nsIn K mainGlobals "sum" = some none)
    (z22 : PySem.W.nsIn K mainGlobals "type" = some none) :
    ∃ fd : FuncData, (∀ (s : Shared) (u : Value), BindsTo s fd ⟨[u], []⟩ [("_law_script", u)]) ∧
      ∀ base : Heap, K.In base → base.Ns mainGlobals mg → Ok l.prog w K mg base CX0 12 fa fd ["_law_script"] (spLaw K) := by
  have D_is_integer : Df K mg "is_integer" s_is_integer := df_mk X G a1 l1 c1 k1
  have D_in_range : Df K mg "in_range" s_in_range := df_mk X G a2 l2 c2 k2
  have D_is_letters : Df K mg "is_letters" s_is_letters := df_mk X G a3 l3 c3 k3
  have D_is_name : Df K mg "is_name" s_is_name := df_mk X G a4 l4 c4 k4
  have D_is_key : Df K mg "is_key" s_is_key := df_mk X G a5 l5 c5 k5
  have D_is_value : Df K mg "is_value" s_is_value := df_mk X G a6 l6 c6 k6
  have D_is_element : Df K mg "is_element" s_is_element := df_mk X G a7 l7 c7 k7
  have D_is_entry : Df K mg "is_entry" s_is_entry := df_mk X G a8 l8 c8 k8
  have D_check_members : Df K mg "check_members" s_check_members := df_mk X G a9 l9 c9 k9
  have D_check_entries : Df K mg "check_entries" s_check_entries := df_mk X G a10 l10 c10 k10
  have D_l_bag : Df K mg "_law_bag" s_l_bag := df_mk X G a11 l11 c11 k11
  have D_l_take : Df K mg "_law_take" s_l_take := df_mk X G a12 l12 c12 k12
  have D_l_dict : Df K mg "_law_dict" s_l_dict := df_mk X G a13 l13 c13 k13
  have D_l_set : Df K mg "_law_set" s_l_set := df_mk X G a14 l14 c14 k14
  have D_l_entries : Df K mg "_law_entries" s_l_entries := df_mk X G a15 l15 c15 k15
  have D_l_is : Df K mg "_law_is" s_l_is := df_mk X G a16 l16 c16 k16
  have D_l_merged : Df K mg "_law_merged" s_l_merged := df_mk X G a17 l17 c17 k17
  have D_l_merges_right : Df K mg "_law_merges_right" s_l_merges_right := df_mk X G a18 l18 c18 k18
  have D_l_with_set_right : Df K mg "_law_with_set_right" s_l_with_set_right := df_mk X G a19 l19 c19 k19
  have D_law : Df K mg "law" s_law := df_mk X G a20 l20 c20 k20
  have G_LONGEST_NAME : ∃ u, mg "LONGEST_NAME" = some u ∧ RelV (.int 4) u := ⟨_, PySem.W.mg_of X G g1, _, rfl⟩
  have G_MOST_KEY : ∃ u, mg "MOST_KEY" = some u ∧ RelV (.int 999999) u := ⟨_, PySem.W.mg_of X G g2, _, rfl⟩
  have G_MOST_VALUE : ∃ u, mg "MOST_VALUE" = some u ∧ RelV (.int (10 ^ 40)) u := ⟨_, PySem.W.mg_of X G g3, _, rfl⟩
  have G_KEPT_WORDS : ∃ u, mg "KEPT_WORDS" = some u ∧ RelV (.ref ta1) u := ⟨_, PySem.W.mg_of X G h1, rfl⟩
  have S_KEPT_WORDS : ∀ H, SqT K H ta1 [.str "keys", .str "look", .str "self"] := fun H => .inr ⟨_, _, _, j1, rfl, rfl, (by show 3 ≤ sizeLine; decide), .cons ⟨_, rfl⟩ (.cons ⟨_, rfl⟩ (.cons ⟨_, rfl⟩ (.nil)))⟩
  have E_FormSet : ∀ H, SqT K H dE1 [] := fun H => .inr ⟨_, _, _, de1, rfl, rfl, (by show 0 ≤ sizeLine; decide), .nil⟩
  have D_FormSet___init__ : Dm K C1 "__init__" "FormSet.__init__" s_FormSet___init__ [.ref dE1] := ⟨mf1_1, _, _, _, _, _, _, _, _, _, _, ml1_1, mc1_1, ⟨ma1_1, mi1_1, mk1_1⟩, .inr ⟨by simp, dT1, _, [.ref dE1], _, rfl, dt1, rfl, .cons rfl .nil⟩⟩
  have D_FormSet_members : Dm K C1 "members" "FormSet.members" s_FormSet_members [] := ⟨mf1_2, _, _, _, _, _, _, _, _, _, _, ml1_2, mc1_2, ⟨ma1_2, mi1_2, mk1_2⟩, .inl ⟨rfl, rfl⟩⟩
  have D_FormSet___contains__ : Dm K C1 "__contains__" "FormSet.__contains__" s_FormSet___contains__ [] := ⟨mf1_3, _, _, _, _, _, _, _, _, _, _, ml1_3, mc1_3, ⟨ma1_3, mi1_3, mk1_3⟩, .inl ⟨rfl, rfl⟩⟩
  have D_FormSet___eq__ : Dm K C1 "__eq__" "FormSet.__eq__" s_FormSet___eq__ [] := ⟨mf1_4, _, _, _, _, _, _, _, _, _, _, ml1_4, mc1_4, ⟨ma1_4, mi1_4, mk1_4⟩, .inl ⟨rfl, rfl⟩⟩
  have M_FormSet : mg "FormSet" = some (.ref C1) := PySem.W.mg_of X G aC1
  have F_FormSet : Fc K mg C1 := ⟨⟨_, M_FormSet, rfl⟩, ⟨pg1, hd1, po1, sa1⟩, na1_1, sf1, mr1, ne1, ha1, hn1, ht1⟩
  have E_FormDict : ∀ H, SqT K H dE2 [] := fun H => .inr ⟨_, _, _, de2, rfl, rfl, (by show 0 ≤ sizeLine; decide), .nil⟩
  have D_FormDict___init__ : Dm K C2 "__init__" "FormDict.__init__" s_FormDict___init__ [.ref dE2] := ⟨mf2_1, _, _, _, _, _, _, _, _, _, _, ml2_1, mc2_1, ⟨ma2_1, mi2_1, mk2_1⟩, .inr ⟨by simp, dT2, _, [.ref dE2], _, rfl, dt2, rfl, .cons rfl .nil⟩⟩
  have D_FormDict_entries : Dm K C2 "entries" "FormDict.entries" s_FormDict_entries [] := ⟨mf2_2, _, _, _, _, _, _, _, _, _, _, ml2_2, mc2_2, ⟨ma2_2, mi2_2, mk2_2⟩, .inl ⟨rfl, rfl⟩⟩
  have D_FormDict___contains__ : Dm K C2 "__contains__" "FormDict.__contains__" s_FormDict___contains__ [] := ⟨mf2_3, _, _, _, _, _, _, _, _, _, _, ml2_3, mc2_3, ⟨ma2_3, mi2_3, mk2_3⟩, .inl ⟨rfl, rfl⟩⟩
  have D_FormDict___getitem__ : Dm K C2 "__getitem__" "FormDict.__getitem__" s_FormDict___getitem__ [] := ⟨mf2_4, _, _, _, _, _, _, _, _, _, _, ml2_4, mc2_4, ⟨ma2_4, mi2_4, mk2_4⟩, .inl ⟨rfl, rfl⟩⟩
  have D_FormDict___or__ : Dm K C2 "__or__" "FormDict.__or__" s_FormDict___or__ [] := ⟨mf2_5, _, _, _, _, _, _, _, _, _, _, ml2_5, mc2_5, ⟨ma2_5, mi2_5, mk2_5⟩, .inl ⟨rfl, rfl⟩⟩
  have D_FormDict___sub__ : Dm K C2 "__sub__" "FormDict.__sub__" s_FormDict___sub__ [] := ⟨mf2_6, _, _, _, _, _, _, _, _, _, _, ml2_6, mc2_6, ⟨ma2_6, mi2_6, mk2_6⟩, .inl ⟨rfl, rfl⟩⟩
  have D_FormDict_kept : Dm K C2 "kept" "FormDict.kept" s_FormDict_kept [] := ⟨mf2_7, _, _, _, _, _, _, _, _, _, _, ml2_7, mc2_7, ⟨ma2_7, mi2_7, mk2_7⟩, .inl ⟨rfl, rfl⟩⟩
  have D_FormDict_merged : Dm K C2 "merged" "FormDict.merged" s_FormDict_merged [] := ⟨mf2_8, _, _, _, _, _, _, _, _, _, _, ml2_8, mc2_8, ⟨ma2_8, mi2_8, mk2_8⟩, .inl ⟨rfl, rfl⟩⟩
  have D_FormDict_key_set : Dm K C2 "key_set" "FormDict.key_set" s_FormDict_key_set [] := ⟨mf2_9, _, _, _, _, _, _, _, _, _, _, ml2_9, mc2_9, ⟨ma2_9, mi2_9, mk2_9⟩, .inl ⟨rfl, rfl⟩⟩
  have D_FormDict___eq__ : Dm K C2 "__eq__" "FormDict.__eq__" s_FormDict___eq__ [] := ⟨mf2_10, _, _, _, _, _, _, _, _, _, _, ml2_10, mc2_10, ⟨ma2_10, mi2_10, mk2_10⟩, .inl ⟨rfl, rfl⟩⟩
  have M_FormDict : mg "FormDict" = some (.ref C2) := PySem.W.mg_of X G aC2
  have F_FormDict : Fdc K mg C2 := ⟨⟨_, M_FormDict, rfl⟩, ⟨pg2, hd2, po2, sa2⟩, na1_2, na2_2, sf2, mr2, ne2, ha2, hn2, ht2⟩
  have D_FormDict_looked : Dst K C2 "looked" "FormDict.looked" s_FormDict_looked := ⟨.type "type", spa1, sfn1, _, _, _, _, _, _, _, _, _, ⟨srd1, sga1⟩, sfc1, ⟨_, src1⟩, skp1, slk1, sce1⟩
  have tw_FormDict_sub : TwoC K C2 C1 (Operator.info .Sub).2 := by
    have e1 : PySem.dunder (Operator.info .Sub).2 = ("__sub__" : Str) := by decide +kernel
    have e2 : PySem.dunderR (Operator.info .Sub).2 = ("__rsub__" : Str) := by decide +kernel
    refine ⟨fun e => ?_, F_FormDict.sf, F_FormSet.sf, ⟨tf1, by rw [e1]; exact tw1_1⟩, by rw [e2]; exact tw2_1, by rw [e2]; exact tw3_1, tw4_1⟩
    rw [← e, tw5_1] at tw4_1
    cases tw4_1
  have m0 : ∀ {x : Str}, PySem.W.nsIn K mainGlobals x = some none → mg x = none := fun e => PySem.W.mg_none_of X G e
  have B : Bl mg := ⟨m0 z1, m0 z2, m0 z3, m0 z4, m0 z5, m0 z6, m0 z7, m0 z8, m0 z9, m0 z10, m0 z11, m0 z12, m0 z13, m0 z14, m0 z15, m0 z16, m0 z17, m0 z18, m0 z19, m0 z20, m0 z21, m0 z22⟩
  have T : Gc K mg ta1 := ⟨G_LONGEST_NAME, G_MOST_KEY, G_KEPT_WORDS, S_KEPT_WORDS⟩
  have Tv : Gv mg := ⟨G_MOST_VALUE⟩
  refine law_fn D_law hfa sc_law (fun _ _ _ _ _ _ us hl => match us, hl with | [_], _ => rfl) (fun vs H Q E h => ?_) ?_
  · obtain ⟨a, ns, rfl, _⟩ := h
    rfl
  · intro base hb1 hb2 f cdv A out s H vs Q E hr hs
    have c1 := ok_is_integer (P := l.prog) (w := w) (base := base) B D_is_integer
    have c2 := ok_in_range c1 D_in_range
    have c3 := ok_is_letters (P := l.prog) (w := w) (base := base) B D_is_letters
    have c4 := ok_is_name B T c3 D_is_name
    have c5 := ok_is_key T c2 D_is_key
    have c6 := ok_is_element B c5 c4 D_is_element
    have c6v := ok_is_value B Tv c1 D_is_value
    have c6e := ok_is_entry B c6 c6v D_is_entry
    have c7 := ok_check B c6 D_check_members
    have c7d := ok_checkD B c6e D_check_entries
    obtain ⟨mk, mk0⟩ := ok_init B F_FormSet c7 D_FormSet___init__ mk1 kc1 M_FormSet
    obtain ⟨mkD, mkD0⟩ := ok_initD B F_FormDict c7d D_FormDict___init__ mk2 kc2 M_FormDict
    have m1 := ok_members (P := l.prog) (w := w) (base := base) B F_FormSet D_FormSet_members
    have m2 := ok_has F_FormSet c1 D_FormSet___contains__
    have m3 := ok_eq (P := l.prog) (w := w) (base := base) B F_FormSet D_FormSet___eq__
    have n1 := ok_entries (P := l.prog) (w := w) (base := base) B F_FormDict D_FormDict_entries
    have n2 := ok_hasD F_FormDict c1 D_FormDict___contains__
    have n3 := ok_item F_FormDict n2 D_FormDict___getitem__
    have n4 := ok_orD F_FormDict mkD n1 D_FormDict___or__
    have n5 := ok_subD F_FormDict mkD n1 m2 D_FormDict___sub__
    have n6 := ok_keptD F_FormDict mkD n1 m2 D_FormDict_kept
    have n7 := ok_merged F_FormDict n4 D_FormDict_merged
    have n8 := ok_keySet F_FormDict mk D_FormDict_key_set
    have n9 := ok_eqD B F_FormDict n1 D_FormDict___eq__
    have n10 := ok_looked F_FormDict mkD m1 n2 n3 D_FormDict___getitem__.fni D_FormDict_looked
    have c8 := ok_bag (P := l.prog) (w := w) (base := base) B D_l_bag
    have c9 := ok_take (P := l.prog) (w := w) (base := base) D_l_take
    have c10 := ok_ldict B c9 D_l_dict
    have c11 := ok_lset B c9 D_l_set
    have c12 := ok_lentries (P := l.prog) (w := w) (base := base) B D_l_entries
    have c13 := ok_lis B F_FormDict n1 c12 D_l_is
    have c14 := ok_lmerged (P := l.prog) (w := w) (base := base) D_l_merged
    have c15 := ok_merges B F_FormDict c13 c14 n4 n9 n7 D_l_merges_right
    have c16 := ok_with B F_FormDict F_FormSet c13 n6 n5 tw_FormDict_sub n10 m1 n8 D_l_with_set_right
    exact body_law B F_FormDict F_FormSet c8 c9 c10 c11 mk mkD c12 m3 c13 c15 c16 f cdv A out s H vs Q E hr hs
end Eu
open PySem PySem.W PyProof.Rows
set_option maxRecDepth 100000 in
set_option maxHeartbeats 0 in
theorem PySem.Challenge.cw_equalunlike_k07_operations_on_dicts_holds : PySem.Challenge.rw_equalunlike_k07_operations_on_dicts.Holds := by
  w_on; o_law; k_head; (case hw => w_witness2)
  k_fill
  refine Eu.walk_ok (l := PySem.Challenge.rw_equalunlike_k07_operations_on_dicts) (k := 12) (x := "_law_script") rfl rfl ⟨⟨rfl, by decide, by decide⟩, rfl⟩ (fun w h Y => PySem.W.kIn_of Y) ?F
  case F =>
    intro w mg fa h KX G hmg
    refine' Eu.tops_mk KX G hmg ?a1 ?l1 ?c1 ?k1 ?a2 ?l2 ?c2 ?k2 ?a3 ?l3 ?c3 ?k3 ?a4 ?l4 ?c4 ?k4 ?a5 ?l5 ?c5 ?k5 ?a6 ?l6 ?c6 ?k6 ?a7 ?l7 ?c7 ?k7 ?a8 ?l8 ?c8 ?k8 ?a9 ?l9 ?c9 ?k9 ?a10 ?l10 ?c10 ?k10 ?a11 ?l11 ?c11 ?k11 ?a12 ?l12 ?c12 ?k12 ?a13 ?l13 ?c13 ?k13 ?a14 ?l14 ?c14 ?k14 ?a15 ?l15 ?c15 ?k15 ?a16 ?l16 ?c16 ?k16 ?a17 ?l17 ?c17 ?k17 ?a18 ?l18 ?c18 ?k18 ?a19 ?l19 ?c19 ?k19 ?a20 ?l20 ?c20 ?k20 ?g1 ?g2 ?g3 ?h1 ?j1 ?aC1 ?ma1_1 ?mi1_1 ?ml1_1 ?mc1_1 ?mk1_1 ?dt1 ?de1 ?ma1_2 ?mi1_2 ?ml1_2 ?mc1_2 ?mk1_2 ?ma1_3 ?mi1_3 ?ml1_3 ?mc1_3 ?mk1_3 ?ma1_4 ?mi1_4 ?ml1_4 ?mc1_4 ?mk1_4 ?pg1 ?hd1 ?po1 ?sa1 ?mk1 ?kc1 ?na1_1 ?sf1 ?mr1 ?ne1 ?ha1 ?hn1 ?ht1 ?aC2 ?ma2_1 ?mi2_1 ?ml2_1 ?mc2_1 ?mk2_1 ?dt2 ?de2 ?ma2_2 ?mi2_2 ?ml2_2 ?mc2_2 ?mk2_2 ?ma2_3 ?mi2_3 ?ml2_3 ?mc2_3 ?mk2_3 ?ma2_4 ?mi2_4 ?ml2_4 ?mc2_4 ?mk2_4 ?ma2_5 ?mi2_5 ?ml2_5 ?mc2_5 ?mk2_5 ?ma2_6 ?mi2_6 ?ml2_6 ?mc2_6 ?mk2_6 ?ma2_7 ?mi2_7 ?ml2_7 ?mc2_7 ?mk2_7 ?ma2_8 ?mi2_8 ?ml2_8 ?mc2_8 ?mk2_8 ?ma2_9 ?mi2_9 ?ml2_9 ?mc2_9 ?mk2_9 ?ma2_10 ?mi2_10 ?ml2_10 ?mc2_10 ?mk2_10 ?pg2 ?hd2 ?po2 ?sa2 ?mk2 ?kc2 ?na1_2 ?na2_2 ?sf2 ?mr2 ?ne2 ?ha2 ?hn2 ?ht2 ?srd1 ?sga1 ?sfc1 ?src1 ?skp1 ?slk1 ?sce1 ?tw1_1 ?tw2_1 ?tw3_1 ?tw4_1 ?tw5_1 ?z1 ?z2 ?z3 ?z4 ?z5 ?z6 ?z7 ?z8 ?z9 ?z10 ?z11 ?z12 ?z13 ?z14 ?z15 ?z16 ?z17 ?z18 ?z19 ?z20 ?z21 ?z22
    (case a1 => k_is); (case l1 => k_is); (case c1 => k_is); (case k1 => k_is); (case a2 => k_is); (case l2 => k_is)
    (case c2 => k_is); (case k2 => k_is); (case a3 => k_is); (case l3 => k_is); (case c3 => k_is); (case k3 => k_is)
    (case a4 => k_is); (case l4 => k_is); (case c4 => k_is); (case k4 => k_is); (case a5 => k_is); (case l5 => k_is)
    (case c5 => k_is); (case k5 => k_is); (case a6 => k_is); (case l6 => k_is); (case c6 => k_is); (case k6 => k_is)
    (case a7 => k_is); (case l7 => k_is); (case c7 => k_is); (case k7 => k_is); (case a8 => k_is); (case l8 => k_is)
    (case c8 => k_is); (case k8 => k_is); (case a9 => k_is); (case l9 => k_is); (case c9 => k_is); (case k9 => k_is)
    (case a10 => k_is); (case l10 => k_is); (case c10 => k_is); (case k10 => k_is); (case a11 => k_is); (case l11 => k_is)
    (case c11 => k_is); (case k11 => k_is); (case a12 => k_is); (case l12 => k_is); (case c12 => k_is); (case k12 => k_is)
    (case a13 => k_is); (case l13 => k_is); (case c13 => k_is); (case k13 => k_is); (case a14 => k_is); (case l14 => k_is)
    (case c14 => k_is); (case k14 => k_is); (case a15 => k_is); (case l15 => k_is); (case c15 => k_is); (case k15 => k_is)
    (case a16 => k_is); (case l16 => k_is); (case c16 => k_is); (case k16 => k_is); (case a17 => k_is); (case l17 => k_is)
    (case c17 => k_is); (case k17 => k_is); (case a18 => k_is); (case l18 => k_is); (case c18 => k_is); (case k18 => k_is)
    (case a19 => k_is); (case l19 => k_is); (case c19 => k_is); (case k19 => k_is); (case a20 => k_is); (case l20 => k_is)
    (case c20 => k_is); (case k20 => k_is); (case g1 => k_is); (case g2 => k_is); (case g3 => k_is); (case h1 => k_is)
    (case j1 => k_is); (case aC1 => k_is); (case ma1_1 => k_is); (case mi1_1 => k_is); (case ml1_1 => k_is); (case mc1_1 => k_is)
    (case mk1_1 => k_is); (case dt1 => k_is); (case de1 => k_is); (case ma1_2 => k_is); (case mi1_2 => k_is); (case ml1_2 => k_is)
    (case mc1_2 => k_is); (case mk1_2 => k_is); (case ma1_3 => k_is); (case mi1_3 => k_is); (case ml1_3 => k_is); (case mc1_3 => k_is)
    (case mk1_3 => k_is); (case ma1_4 => k_is); (case mi1_4 => k_is); (case ml1_4 => k_is); (case mc1_4 => k_is); (case mk1_4 => k_is)
    (case pg1 => k_is); (case hd1 => k_is); (case po1 => k_is); (case sa1 => k_is); (case mk1 => k_is); (case kc1 => k_is)
    (case na1_1 => k_is); (case sf1 => k_is); (case mr1 => k_is); (case ne1 => k_is); (case ha1 => k_is); (case hn1 => k_is)
    (case ht1 => k_is); (case aC2 => k_is); (case ma2_1 => k_is); (case mi2_1 => k_is); (case ml2_1 => k_is); (case mc2_1 => k_is)
    (case mk2_1 => k_is); (case dt2 => k_is); (case de2 => k_is); (case ma2_2 => k_is); (case mi2_2 => k_is); (case ml2_2 => k_is)
    (case mc2_2 => k_is); (case mk2_2 => k_is); (case ma2_3 => k_is); (case mi2_3 => k_is); (case ml2_3 => k_is); (case mc2_3 => k_is)
    (case mk2_3 => k_is); (case ma2_4 => k_is); (case mi2_4 => k_is); (case ml2_4 => k_is); (case mc2_4 => k_is); (case mk2_4 => k_is)
    (case ma2_5 => k_is); (case mi2_5 => k_is); (case ml2_5 => k_is); (case mc2_5 => k_is); (case mk2_5 => k_is); (case ma2_6 => k_is)
    (case mi2_6 => k_is); (case ml2_6 => k_is); (case mc2_6 => k_is); (case mk2_6 => k_is); (case ma2_7 => k_is); (case mi2_7 => k_is)
    (case ml2_7 => k_is); (case mc2_7 => k_is); (case mk2_7 => k_is); (case ma2_8 => k_is); (case mi2_8 => k_is); (case ml2_8 => k_is)
    (case mc2_8 => k_is); (case mk2_8 => k_is); (case ma2_9 => k_is); (case mi2_9 => k_is); (case ml2_9 => k_is); (case mc2_9 => k_is)
    (case mk2_9 => k_is); (case ma2_10 => k_is); (case mi2_10 => k_is); (case ml2_10 => k_is); (case mc2_10 => k_is); (case mk2_10 => k_is)
    (case pg2 => k_is); (case hd2 => k_is); (case po2 => k_is); (case sa2 => k_is); (case mk2 => k_is); (case kc2 => k_is)
    (case na1_2 => k_is); (case na2_2 => k_is); (case sf2 => k_is); (case mr2 => k_is); (case ne2 => k_is); (case ha2 => k_is)
    (case hn2 => k_is); (case ht2 => k_is); (case srd1 => k_is); (case sga1 => k_is); (case sfc1 => k_is); (case src1 => k_is)
    (case skp1 => k_is); (case slk1 => k_is); (case sce1 => k_is); (case tw1_1 => k_is); (case tw2_1 => k_is); (case tw3_1 => k_is)
    (case tw4_1 => k_is); (case tw5_1 => k_is); (case z1 => k_is); (case z2 => k_is); (case z3 => k_is); (case z4 => k_is)
    (case z5 => k_is); (case z6 => k_is); (case z7 => k_is); (case z8 => k_is); (case z9 => k_is); (case z10 => k_is)
    (case z11 => k_is); (case z12 => k_is); (case z13 => k_is); (case z14 => k_is); (case z15 => k_is); (case z16 => k_is)
    (case z17 => k_is); (case z18 => k_is); (case z19 => k_is); (case z20 => k_is); (case z21 => k_is); (case z22 => k_is)
