import PyProof.Rows.All
import Wide.All
import OpenK.AllK
import Wide.FinOn
import PyProof.ReprRoads
import HandS.ForMost
import HandS.IsInst
import HandS.Codes
import HandS.Star
import HandS.FStr
import HandS.TupAny
import KE.KDictWalk
import HandS.Defaults
import HandS.DictComp
import HandS.Sort
import HandS.Rev
import KE.KSortTupG
import HandS.More
import PyProof.InstNe
import HandS.Style
import HandS.WordsDict
import KE.KEqSeq
import PySem.Challenge.RW_equalunlike_k05_whole_laws_of_sets_with
set_option Elab.async false
set_option linter.all false
set_option maxRecDepth 100000
set_option maxHeartbeats 4000000
/-! A layer of ours: defs that are called where no repr is under way. -/
namespace Eu
open PySem PySem.Spec PyProof.Rows L2

/-- room, and no repr under way -/
structure Rm (k : Nat) (A : Around) : Prop where
  rm : Room k A
  gd : A.guards = some []
theorem Rm.mono {j k : Nat} {A : Around} (r : Rm k A) (h : j ≤ k) : Rm j A := ⟨r.rm.mono h, r.gd⟩
theorem Rm.deeper {k : Nat} {A : Around} (r : Rm (k + 1) A) (v : Env) : Rm k (A.deeper v) := ⟨r.rm.deeper v, r.gd⟩
theorem Rm.in1 {k : Nat} {A : Around} (r : Rm (k + 1) A) : Rm k A.in1 := ⟨r.rm.in1, r.gd⟩

/-- a def that keeps a promise wherever no repr is under way -/
structure Ok (P : Program) (w : World) (K : PySem.W.Frag) (mg : Str → Option Value)
    (base : Heap) (CX : CXT) (k : Nat) (f : Addr) (fd : FuncData) (ps : List Str) (sp : Sp) : Prop where
  len : ∀ vs H Q E, sp vs H Q E → vs.length = ps.length
  go : ∀ (A : Around) (out : List Env) (s : Shared) (H : Hp) (ar : Args) (us : List Value) (vs : List V) (Q : VK) (E : XK),
    Rm k A → Env0 P w K mg base A out s H → BindsTo s fd ar (ps.zip us) → Vals vs us → sp vs H Q E →
    codeAny (model P w) A (.call (.ref f) ar) (CR CX out P w H s Q E) s

section
variable {P : Program} {w : World} {K : PySem.W.Frag} {mg : Str → Option Value} {base : Heap} {CX : CXT}
theorem Ok.mono {j k : Nat} {f : Addr} {fd : FuncData} {ps : List Str} {sp : Sp}
    (o : Ok P w K mg base CX j f fd ps sp) (h : j ≤ k) : Ok P w K mg base CX k f fd ps sp :=
  ⟨o.len, fun A out s H ar us vs Q E r => o.go A out s H ar us vs Q E (r.mono h)⟩
theorem Ok.imp {k : Nat} {f : Addr} {fd : FuncData} {ps : List Str} {sp sp' : Sp}
    (o : Ok P w K mg base CX k f fd ps sp) (h : ∀ vs H Q E, sp' vs H Q E → sp vs H Q E) :
    Ok P w K mg base CX k f fd ps sp' :=
  ⟨fun vs H Q E q => o.len vs H Q E (h _ _ _ _ q),
   fun A out s H ar us vs Q E r e b v q => o.go A out s H ar us vs Q E r e b v (h _ _ _ _ q)⟩

/-- a def by its body -/
theorem ok_body {k : Nat} {f : Addr} {nm qual : Str} {pr : Arguments} {body : List Stmt} {sc : Scope}
    {dV kV doc pm cdv ct oc : Value} {an od : Option Addr} {osl : Array (Option Value)} {N ps : List Str} {sp : Sp}
    (lk : K.lookup f = some ⟨oc, od, .func (PySem.W.fnOf nm qual pr body sc dV kV doc pm an cdv ct), osl⟩)
    (hcd : PySem.W.codeIn K cdv qual = true) (S : FnScope N ps sc)
    (len : ∀ vs H Q E, sp vs H Q E → vs.length = ps.length)
    (hb : ∀ (A : Around) (out : List Env) (s : Shared) (H : Hp) (vs : List V) (Q : VK) (E : XK),
      Rm k (A.deeper (envOfC qual sc s.heap.objs.size f cdv)) → sp vs H Q E →
      ∃ t, PSs (cxOf CX P w K mg base N qual sc f cdv A out s H E) body t ∧
        t { nx := fun _ H' => Q .non H', rt := Q } (start N vs) H) :
    Ok P w K mg base CX (k + 1) f (PySem.W.fnOf nm qual pr body sc dV kV doc pm an cdv ct) ps sp := by
  constructor
  · exact len
  intro A out s H ar us vs Q E hr e0 bt rl hsp
  have keep : ∀ b o, base.get? b = some o → s.heap.get? b = some o := fun b o e => (e0.bs b o e).1
  have KX : K.In s.heap := e0.mod.kin.keeps keep
  have hkind : ∀ y ∈ ps.zip us, sc.names.lookup y.1 = some .local ∨
      (sc.names.lookup y.1 = some .cell ∧ ((cellsFrom (s.heap.objs.size + 1) sc.names []).lookup y.1).isSome = true) := by
    rintro ⟨n, v⟩ hy
    cases S.par n (List.of_mem_zip hy).1 with
    | inl q => exact .inl q
    | inr q => exact .inr ⟨q, PySem.W.cellsFrom_some _ _ _ (.inl q)⟩
  apply codeAny_call_function hr.rm.depth (KX _ _ lk) rfl S.co S.gen rfl (PySem.W.codeRec_of KX hcd)
  apply bt
  apply wpAny_newFunctionEnv_cells S.kind hkind
  intro env he s1 x
  subst he
  refine ⟨(e0.mod.nolimit.keeps keep).keeps x.toInCall.keep, codeAny_func ?_⟩
  obtain ⟨t, ht, hq⟩ := hb A out s H vs Q E (hr.deeper _) hsp
  have J := inv_start (CX := CX) (E := E) (f := f) (cd := cdv) (qual := qual) S hr.rm.hd e0 (len _ _ _ _ hsp) rl x
  refine wpAny_mono (ht.run [] s1 (start N vs) H _ J hq) ?_ (fun e s' hs => hs)
  intro fl s' hs
  cases fl with
  | ret u =>
    obtain ⟨v, σ', H', J', rv, q⟩ := hs
    exact ⟨v, H', J'.os, J'.bare, J'.base, J'.hok, rv, q⟩
  | next =>
    obtain ⟨σ', H', J', q⟩ := hs
    exact ⟨V.non, H', J'.os, J'.bare, J'.base, J'.hok, rfl, q⟩
  | brk =>
    obtain ⟨_, _, _, q⟩ := hs
    exact False.elim q
  | cont =>
    obtain ⟨_, _, _, q⟩ := hs
    exact False.elim q
end

section
variable {X : Cx} {CX : CXT} {k : Nat} {f : Addr} {fd : FuncData} {ps : List Str} {sp : Sp} {dvs : List V} {ds : List Value} {E : XK}
/-- the callee runs -/
theorem run_ok {pins : List (Addr × Obj)} {σ : L2.St} {H : Hp} {s : Shared} {Q : VK} {us : List Value} {vs : List V}
    (o : Ok X.prog X.w X.K X.mg X.base CX k f fd ps sp) (hr : Rm k X.A) (hb : Binds X.K fd ps ds) (hd : Vals dvs ds)
    (hx : Passes CX X E) (I : Inv X pins σ H s) (r : Vals vs us) (h : sp (vs ++ dvs) H Q E) :
    wpAny (model X.prog X.w) X.A (call (.ref f) us) (EP X pins σ Q) X.xe s := by
  have rr := r.append hd
  have hl : (us ++ ds).length = ps.length := rr.length ▸ o.len _ _ _ _ h
  refine wpAny_call (codeAny_mono (o.go X.A X.stack s H ⟨us, []⟩ (us ++ ds) (vs ++ dvs) Q E hr I.env0 (hb s us I.kIn hl) rr h) ?_)
  intro res s' hq
  match res, hq with
  | .error e, hq => exact hx pins σ H s e s' I hq
  | .ok (.ret u), hq => exact I.after hq
  | .ok .next, hq => exact False.elim hq
  | .ok .brk, hq => exact False.elim hq
  | .ok .cont, hq => exact False.elim hq
end
end Eu
set_option Elab.async false
set_option linter.all false
set_option maxRecDepth 100000
set_option maxHeartbeats 4000000
namespace Eu
open PySem PySem.Spec PyProof.Rows L2

/-! ### defs called by their names -/
structure Cal (P : Program) (w : World) (K : PySem.W.Frag) (mg : Str → Option Value) (base : Heap)
    (k : Nat) (x : Str) (sp : Sp) (dvs : List V) : Prop where
  ex : ∃ (f : Addr) (fd : FuncData) (ps : List Str) (ds : List Value),
    Ok P w K mg base CX0 k f fd ps sp ∧ mg x = some (.ref f) ∧
    PySem.W.keepIn K (.ref f) = true ∧ Binds K fd ps ds ∧ Vals dvs ds

/-- a def of the top, as it stands behind the top's run -/
structure Df (K : PySem.W.Frag) (mg : Str → Option Value) (x : Str) (st : Stmt) : Prop where
  ex : ∃ (f : Addr) (oc : Value) (od : Option Addr) (kV doc pm : Value) (an : Option Addr) (cdv ct : Value) (osl : Array (Option Value)),
    K.lookup f = some ⟨oc, od, .func (PySem.W.fnOf x x (defArgs st) (defBody st) (defScope st) .none kV doc pm an cdv ct), osl⟩ ∧
    PySem.W.codeIn K cdv x = true ∧ PySem.W.keepIn K (.ref f) = true ∧ mg x = some (.ref f)

theorem df_mk {K : PySem.W.Frag} {h : Heap} {mg : Str → Option Value} {x : Str} {st : Stmt} (X : K.In h) (G : h.Ns mainGlobals mg)
    {f : Addr} {oc : Value} {od an : Option Addr} {osl : Array (Option Value)} {kV doc pm cdv ct : Value}
    (a : PySem.W.nsIn K mainGlobals x = some (some (.ref f)))
    (l : K.lookup f = some ⟨oc, od, .func (PySem.W.fnOf x x (defArgs st) (defBody st) (defScope st) .none kV doc pm an cdv ct), osl⟩)
    (c : PySem.W.codeIn K cdv x = true) (k : PySem.W.keepIn K (.ref f) = true) : Df K mg x st :=
  ⟨f, oc, od, kV, doc, pm, an, cdv, ct, osl, l, c, k, PySem.W.mg_of X G a⟩

section
variable {P : Program} {w : World} {K : PySem.W.Frag} {mg : Str → Option Value} {base : Heap}
theorem Df.cal {x : Str} {st : Stmt} {N ps : List Str} {k : Nat} {sp : Sp} (D : Df K mg x st) (S : FnScope N ps (defScope st))
    (hbd : ∀ (kV doc pm : Value) (an : Option Addr) (cdv ct : Value) (us : List Value), us.length = ps.length →
      bindArgs (PySem.W.fnOf x x (defArgs st) (defBody st) (defScope st) .none kV doc pm an cdv ct) ⟨us, []⟩ = pure (ps.zip us))
    (len : ∀ vs H Q E, sp vs H Q E → vs.length = ps.length)
    (hb : ∀ (f : Addr) (cdv : Value) (A : Around) (out : List Env) (s : Shared) (H : Hp) (vs : List V) (Q : VK) (E : XK),
      Rm k (A.deeper (envOfC x (defScope st) s.heap.objs.size f cdv)) → sp vs H Q E →
      ∃ t, PSs (cxOf CX0 P w K mg base N x (defScope st) f cdv A out s H E).nox (defBody st) t ∧
        t { nx := fun _ H' => Q .non H', rt := Q } (start N vs) H) : Cal P w K mg base (k + 1) x sp [] := by
  obtain ⟨f, oc, od, kV, doc, pm, an, cdv, ct, osl, l, c, kp, m⟩ := D.ex
  refine ⟨f, _, ps, [], ok_body l c S len ?_, m, kp, .all (hbd kV doc pm an cdv ct), .nil⟩
  intro A out s H vs Q E hr hs
  obtain ⟨t, h, q⟩ := hb f cdv A out s H vs Q E hr hs
  exact ⟨t, h.nox, q⟩
end

section
variable {X : Cx} {k j : Nat} {x : Str} {sp : Sp} {dvs : List V} {p pos : Pos} {e : Expr} {es : List Expr} {t : TA}
theorem pe_c (c : Cal X.prog X.w X.K X.mg X.base k x sp dvs) (hr : Rm j X.A) (hk : k ≤ j) (hg : Gl X x) (ha : PA X (e :: es) t)
    (hdb : (x == ("__debug__" : Str)) = false := by decide)
    (he : starEach (e :: es) X.env = (false, eval e X.env) :: starEach es X.env := by rfl)
    (hpl : (backTo pos (starEach es X.env)).any (·.1) = false := by rfl) :
    PE X (.Call (.Name x p) (e :: es) [] pos) (tCall sp dvs E0 t) := by
  obtain ⟨f, fd, ps, ds, o, hm, kp, b, d⟩ := c.ex
  constructor
  intro pins s σ H Q I h
  apply wpAny_Call_Name_kw
  apply ld_glob I hg hm _ hdb
  refine PySem.W.callWith_K (h₀ := X.base) I.ok.mod.kin kp (thn (ha.run pos pins s σ H _ I h) ?_) he hpl
  rintro us s1 ⟨vs, H1, I1, r, q⟩
  exact ⟨I1.kIn, run_ok o (hr.mono hk) b d pass0 I1 r q⟩
theorem pe_c0 (c : Cal X.prog X.w X.K X.mg X.base k x sp dvs) (hr : Rm j X.A) (hk : k ≤ j) (hg : Gl X x)
    (hdb : (x == ("__debug__" : Str)) = false := by decide) :
    PE X (.Call (.Name x p) [] [] pos) (tCall sp dvs E0 tNil) := by
  obtain ⟨f, fd, ps, ds, o, hm, kp, b, d⟩ := c.ex
  constructor
  intro pins s σ H Q I h
  apply wpAny_Call_Name_kw
  apply ld_glob I hg hm _ hdb
  exact PySem.W.callWith_K0 I.kIn kp (run_ok (us := []) o (hr.mono hk) b d pass0 I .nil h)
end

/-! ### repr of data -/
section
variable {X : Cx}
def rRepr (K : PySem.W.Frag) : List V → Hp → VK → Prop := fun xs H Q =>
  ∃ (x : V) (d : PyData), xs = [x] ∧ Dp K H x d ∧ d.showable = true ∧ d.depth ≤ 60 ∧ d.shown.length ≤ sizeLine ∧ Q (.str d.shown) H
mutual
theorem noDict {K : PySem.W.Frag} {H : Hp} : ∀ {d : PyData} {v : V}, Dp K H v d → d.hasDict = false
  | .none, _, _ => rfl
  | .bool _, _, _ => rfl
  | .int _, _, _ => rfl
  | .str _, _, _ => rfl
  | .list ds, _, .lst _ h => noDicts h
  | .tuple ds, _, .tup _ h => noDicts h
theorem noDicts {K : PySem.W.Frag} {H : Hp} : ∀ {ds : List PyData} {vs : List V}, DpAll K H vs ds → PyData.hasDictAll ds = false
  | [], _, _ => rfl
  | d :: ds, _, .cons h1 h2 => by
    show (d.hasDict || PyData.hasDictAll ds) = false
    rw [noDict h1, noDicts h2]
    rfl
end
theorem call_repr {j : Nat} (hr : Rm j X.A) : CallR X (.builtin "repr") (rRepr X.K) := by
  intro pins s σ H xs us Q I r h
  obtain ⟨x, d, rfl, hd, hs, hdp, hz, q⟩ := h
  obtain ⟨u, rfl, rx⟩ := vals1 r
  have hu := hr.rm.un
  cases hd with
  | non =>
    cases rx
    exact PySem.P.repr_of_none ⟨.str _, H, I.tok _, ⟨_, rfl⟩, q⟩
  | bl b =>
    cases rx
    exact PySem.P.repr_of_bool ⟨.str _, H, I.tok _, ⟨_, rfl⟩, q⟩
  | int i =>
    obtain ⟨t, rfl⟩ := rx
    exact PySem.P.repr_of_int (of_decide_eq_true hs) ⟨.str _, H, I.tok _, ⟨_, rfl⟩, q⟩
  | str y =>
    obtain ⟨t, rfl⟩ := rx
    exact PySem.P.repr_of_str ⟨.str _, H, I.tok _, ⟨_, rfl⟩, q⟩ hz
  | @lst a ys ds h1 h2 =>
    cases (show u = Value.ref a from rx)
    obtain ⟨as, rd⟩ := Dp.reads I _ _ _ (Dp.lst h1 h2) (show RelV (.ref a) (.ref a) from rfl)
    refine repr_of_reads' rd hs (PyData.noDict_hsm (noDict (Dp.lst h1 h2))) hr.gd (by omega) (fun _ _ z => z) ?_ hz
    intro h' u tk hk
    exact ⟨.str _, H, I.kept hk, ⟨_, rfl⟩, q⟩
  | @tup a ys ds h1 h2 =>
    cases (show u = Value.ref a from rx)
    obtain ⟨as, rd⟩ := Dp.reads I _ _ _ (Dp.tup h1 h2) (show RelV (.ref a) (.ref a) from rfl)
    refine repr_of_reads' rd hs (PyData.noDict_hsm (noDict (Dp.tup h1 h2))) hr.gd (by omega) (fun _ _ z => z) ?_ hz
    intro h' u tk hk
    exact ⟨.str _, H, I.kept hk, ⟨_, rfl⟩, q⟩
end
end Eu
set_option Elab.async false
set_option linter.all false
set_option maxRecDepth 100000
set_option maxHeartbeats 4000000
namespace Eu
open PySem PySem.Spec PyProof.Rows L2

/-! ### how long a repr may be -/
mutual
def cost : PyData → Nat
  | .none => 4
  | .bool _ => 5
  | .int _ => 1921
  | .str x => 10 * x.length + 2
  | .list xs => costs xs + 3
  | .tuple xs => costs xs + 3
  | .dict kvs => costKv kvs + 2
def costs : List PyData → Nat
  | [] => 0
  | x :: xs => cost x + 2 + costs xs
def costKv : List (PyData × PyData) → Nat
  | [] => 0
  | (k, v) :: r => cost k + 2 + cost v + 2 + costKv r
end
mutual
def fine : PyData → Bool
  | .none | .bool _ => true
  | .str x => x.cps.toList.all fun c => decide (c < 1114112)
  | .int i => decide (i.natAbs.log2 < 1920)
  | .list xs | .tuple xs => fines xs
  | .dict kvs => fineKv kvs
def fines : List PyData → Bool
  | [] => true
  | x :: xs => fine x && fines xs
def fineKv : List (PyData × PyData) → Bool
  | [] => true
  | (k, v) :: r => fine k && fine v && fineKv r
end
theorem listText_le (ts : List Str) : (listText ts).length ≤ piled ts + 3 := by
  unfold listText
  rw [strLen_append]
  have e2 : ((("]" : String) : Str)).length = 1 := rfl
  have e1 : ((("[" : String) : Str)).length = 1 := rfl
  cases ts with
  | nil => show (("[" : String) : Str).length + _ ≤ _; omega
  | cons t r =>
    show (textFrom 1 ((("[" : String) : Str) ++ ((if 0 > 0 then ", " else "" : String) : Str) ++ t) r).length + _ ≤ _
    rw [textFrom_length_pos _ _ _ (by decide), strLen_append, strLen_append, piled_cons]
    have e3 : (((if 0 > 0 then ", " else "" : String) : Str)).length = 0 := rfl
    omega
theorem joined_le (ts : List Str) : (Str.join ", " ts).length ≤ piled ts := by
  by_cases h : ts = []
  · subst h; decide
  · have := join_length_add ts h
    omega
theorem tupleText_le (ts : List Str) : (tupleText ts).length ≤ piled ts + 3 := by
  unfold tupleText
  rw [strLen_append, strLen_append]
  have e1 : ((("(" : String) : Str)).length = 1 := rfl
  have e3 : (((if ts.length == 1 then ",)" else ")" : String) : Str)).length ≤ 2 := by split <;> decide +kernel
  have := joined_le ts
  omega
theorem dictText_le (ts : List Str) : (dictText ts).length ≤ piled ts + 2 := by
  unfold dictText
  rw [strLen_append, strLen_append]
  have e1 : ((("{" : String) : Str)).length = 1 := rfl
  have e3 : ((("}" : String) : Str)).length = 1 := rfl
  have := joined_le ts
  omega
mutual
theorem shown_le : ∀ d : PyData, fine d = true → d.shown.length ≤ cost d
  | .none, _ => by decide +kernel
  | .bool b, _ => by cases b <;> decide +kernel
  | .int i, h => by
    have h' : i.natAbs.log2 < 1920 := of_decide_eq_true h
    have := int_text_length_le (a := i) (k := 1920) (by decide) h'
    show (Str.ofString (toString i)).length ≤ 1921
    rw [PySem.ofString_length]
    exact this
  | .str x, h => by
    refine StrLaws.reprText_len x fun c hc => ?_
    have h' : c < 1114112 := of_decide_eq_true (List.all_eq_true.mp h c hc)
    exact Nat.lt_of_lt_of_le h' (by decide)
  | .list xs, h => by
    have := listText_le (PyData.shownAll xs)
    have := shownAll_le xs h
    show (listText (PyData.shownAll xs)).length ≤ costs xs + 3
    omega
  | .tuple xs, h => by
    have := tupleText_le (PyData.shownAll xs)
    have := shownAll_le xs h
    show (tupleText (PyData.shownAll xs)).length ≤ costs xs + 3
    omega
  | .dict kvs, h => by
    have := dictText_le (PyData.shownKv kvs)
    have := shownKv_le kvs h
    show (dictText (PyData.shownKv kvs)).length ≤ costKv kvs + 2
    omega
theorem shownAll_le : ∀ xs : List PyData, fines xs = true → piled (PyData.shownAll xs) ≤ costs xs
  | [], _ => Nat.le_refl _
  | x :: xs, h => by
    have h' : (fine x && fines xs) = true := h
    rw [Bool.and_eq_true] at h'
    have a := shown_le x h'.1
    have b := shownAll_le xs h'.2
    show piled (x.shown :: PyData.shownAll xs) ≤ cost x + 2 + costs xs
    rw [piled_cons]
    omega
theorem shownKv_le : ∀ kvs : List (PyData × PyData), fineKv kvs = true → piled (PyData.shownKv kvs) ≤ costKv kvs
  | [], _ => Nat.le_refl _
  | (k, v) :: r, h => by
    have h' : (fine k && fine v && fineKv r) = true := h
    rw [Bool.and_eq_true, Bool.and_eq_true] at h'
    have a := shown_le k h'.1.1
    have b := shown_le v h'.1.2
    have c := shownKv_le r h'.2
    show piled ((k.shown ++ ": " ++ v.shown) :: PyData.shownKv r) ≤ cost k + 2 + cost v + 2 + costKv r
    have e : (((": " : String) : Str)).length = 2 := rfl
    rw [piled_cons, strLen_append, strLen_append, e]
    omega
end
mutual
theorem fine_showable : ∀ d : PyData, fine d = true → d.showable = true
  | .none, _ => rfl
  | .bool _, _ => rfl
  | .int i, h => h
  | .str _, _ => rfl
  | .list xs, h => fines_showable xs h
  | .tuple xs, h => fines_showable xs h
  | .dict kvs, h => fineKv_showable kvs h
theorem fines_showable : ∀ xs : List PyData, fines xs = true → PyData.showableAll xs = true
  | [], _ => rfl
  | x :: xs, h => by
    have h' : (fine x && fines xs) = true := h
    rw [Bool.and_eq_true] at h'
    show (x.showable && PyData.showableAll xs) = true
    rw [fine_showable x h'.1, fines_showable xs h'.2]
    rfl
theorem fineKv_showable : ∀ kvs : List (PyData × PyData), fineKv kvs = true → PyData.showableKv kvs = true
  | [], _ => rfl
  | (k, v) :: r, h => by
    have h' : (fine k && fine v && fineKv r) = true := h
    rw [Bool.and_eq_true, Bool.and_eq_true] at h'
    show (k.showable && v.showable && PyData.showableKv r) = true
    rw [fine_showable k h'.1.1, fine_showable v h'.1.2, fineKv_showable r h'.2]
    rfl
end

/-- small data -/
def Small (d : PyData) : Prop := cost d ≤ 100000 ∧ fine d = true
theorem Small.two {a b : PyData} (h : Small (.tuple [a, b])) : Small a ∧ Small b := by
  obtain ⟨h1, h2⟩ := h
  have h1' : cost a + 2 + (cost b + 2 + 0) + 3 ≤ 100000 := h1
  have h2' : (fine a && (fine b && true)) = true := h2
  rw [Bool.and_eq_true, Bool.and_eq_true] at h2'
  exact ⟨⟨by omega, h2'.1⟩, ⟨by omega, h2'.2.1⟩⟩
theorem Small.three {a b c : PyData} (h : Small (.tuple [a, b, c])) : Small a ∧ Small b ∧ Small c ∧ Small (.tuple [a, b]) := by
  obtain ⟨h1, h2⟩ := h
  have h1' : cost a + 2 + (cost b + 2 + (cost c + 2 + 0)) + 3 ≤ 100000 := h1
  have h2' : (fine a && (fine b && (fine c && true))) = true := h2
  rw [Bool.and_eq_true, Bool.and_eq_true, Bool.and_eq_true] at h2'
  refine ⟨⟨by omega, h2'.1⟩, ⟨by omega, h2'.2.1⟩, ⟨by omega, h2'.2.2.1⟩, ?_, ?_⟩
  · show cost a + 2 + (cost b + 2 + 0) + 3 ≤ 100000
    omega
  · show (fine a && (fine b && true)) = true
    rw [h2'.1, h2'.2.1]; rfl
theorem Small.len {z : Str} (h : Small (.str z)) : z.length ≤ 100000 := by
  have : 10 * z.length + 2 ≤ 100000 := h.1
  omega
/-! ### heaps that grow -/
theorem same_new {H : Hp} {p : Addr} {o : HO} (h : H p = none) : Same H (upd H p o) := fun b x e => by
  rw [upd_ne (ne_of_none e h)]
  exact e
theorem Same.tup {K : PySem.W.Frag} {H H' : Hp} {a : Addr} {xs : List V} (e : Same H H') (h : SqT K H a xs) : SqT K H' a xs := by
  rcases h with (h | ⟨o, h⟩) | h
  · exact .inl (.inl (e _ _ h))
  · exact .inl (.inr ⟨o, e _ _ h⟩)
  · exact .inr h
mutual
theorem Same.dp {K : PySem.W.Frag} {H H' : Hp} (e : Same H H') : ∀ {d : PyData} {v : V}, Dp K H v d → Dp K H' v d
  | .none, _, .non => .non
  | .bool _, _, .bl b => .bl b
  | .int _, _, .int i => .int i
  | .str _, _, .str x => .str x
  | .list ds, _, .lst h1 h2 => .lst (e.seq h1) (Same.dps e h2)
  | .tuple ds, _, .tup h1 h2 => .tup (Same.tup e h1) (Same.dps e h2)
theorem Same.dps {K : PySem.W.Frag} {H H' : Hp} (e : Same H H') : ∀ {ds : List PyData} {vs : List V}, DpAll K H vs ds → DpAll K H' vs ds
  | [], _, .nil => .nil
  | d :: ds, _, .cons h1 h2 => .cons (Same.dp e h1) (Same.dps e h2)
end
/-- without the object at b -/
def hid (H : Hp) (b : Addr) : Hp := fun c => if c = b then none else H c
theorem hid_at {H : Hp} {b : Addr} : hid H b b = none := if_pos rfl
theorem hid_ne {H : Hp} {b c : Addr} (h : c ≠ b) : hid H b c = H c := if_neg h
theorem hid_some {H : Hp} {b c : Addr} {o : HO} (h : hid H b c = some o) : c ≠ b ∧ H c = some o := by
  by_cases e : c = b
  · rw [e, hid_at] at h; cases h
  · rw [hid_ne e] at h; exact ⟨e, h⟩
theorem hid_same {H : Hp} {b : Addr} : Same (hid H b) H := fun c o h => (hid_some h).2
theorem hid_upd {H : Hp} {b : Addr} {o : HO} : hid (upd H b o) b = hid H b := by
  funext c
  by_cases e : c = b
  · rw [e, hid_at, hid_at]
  · rw [hid_ne e, hid_ne e, upd_ne e]
/-- all but b stays -/
def But (b : Addr) (H H' : Hp) : Prop := Same (hid H b) (hid H' b)
theorem But.refl {b : Addr} {H : Hp} : But b H H := Same.refl _
theorem But.trans {b : Addr} {H H1 H2 : Hp} (p : But b H H1) (q : But b H1 H2) : But b H H2 := Same.trans p q
theorem But.of_same {b : Addr} {H H' : Hp} (h : Same H H') : But b H H' := fun c o e => by
  obtain ⟨n, e'⟩ := hid_some e
  rw [hid_ne n]
  exact h c o e'
theorem But.upd {b : Addr} {H : Hp} {o : HO} : But b H (upd H b o) := by
  unfold But
  rw [hid_upd]
  exact Same.refl _
theorem But.free {b : Addr} {H H' : Hp} (h : But b H H') {l : Addr} (n : l ≠ b) (e : H' l = none) : H l = none := by
  have := Same.free h (l := l) (by rw [hid_ne n]; exact e)
  rw [hid_ne n] at this
  exact this
end Eu
set_option Elab.async false
set_option linter.all false
set_option maxRecDepth 100000
set_option maxHeartbeats 4000000
namespace Eu
open PySem PySem.Spec PyProof.Rows L2

/-- an iterator that gives the items xs one by one, as Y says, while S holds -/
structure Over {α : Type} (J : It) (xs : List α) (Y : α → Hp → V → Hp → Prop) (S : Hp → Prop) : Prop where
  go : ∀ i x H, xs[i]? = some x → S H → J.go i H
  st : ∀ H, S H → J.stop xs.length H
  yl : ∀ i x H v H', xs[i]? = some x → S H → J.yld i H v H' → Y x H v H'

theorem over_list {K : PySem.W.Frag} {a : Addr} {xs : List V} : Over (Itl K a) xs (fun x H v H' => H' = H ∧ v = x) (fun H => SqL K H a xs) where
  go := fun i x H e s => ⟨xs, x, s, e⟩
  st := fun H s => ⟨xs, s, Nat.le_refl _⟩
  yl := fun i x H v H' e s y => ⟨y.1, Option.some.inj ((y.2 xs s).symm.trans e)⟩
theorem over_tup {K : PySem.W.Frag} {a : Addr} {xs : List V} : Over (Itt K a) xs (fun x H v H' => H' = H ∧ v = x) (fun H => SqT K H a xs) where
  go := fun i x H e s => ⟨xs, x, s, e⟩
  st := fun H s => ⟨xs, s, Nat.le_refl _⟩
  yl := fun i x H v H' e s y => ⟨y.1, Option.some.inj ((y.2 xs s).symm.trans e)⟩
theorem over_str {z : Str} : Over (Its z) z.cps.toList (fun c H v H' => H' = H ∧ v = .str ⟨#[c]⟩) (fun _ => True) where
  go := fun i x H e _ => by
    have := (List.getElem?_eq_some_iff.mp e).1
    show i < z.cps.size
    simpa using this
  st := fun H _ => by
    show z.cps.size ≤ z.cps.toList.length
    simp
  yl := fun i x H v H' e _ y => by
    obtain ⟨y1, c, y2, y3⟩ := y
    refine ⟨y1, ?_⟩
    rw [← Array.getElem?_toList, e] at y2
    cases y2
    exact y3
theorem over_rev {K : PySem.W.Frag} {a : Addr} {xs : List V} : Over (Itv K a xs.length) xs.reverse (fun x H v H' => H' = H ∧ v = x) (fun H => SqL K H a xs) where
  go := fun i x H e s => by
    have hi := (List.getElem?_eq_some_iff.mp e).1
    rw [List.length_reverse] at hi
    rw [List.getElem?_reverse hi] at e
    exact ⟨hi, xs, x, s, e⟩
  st := fun H s => by
    show xs.length ≤ xs.reverse.length
    rw [List.length_reverse]
    exact Nat.le_refl _
  yl := fun i x H v H' e s y => by
    have hi := (List.getElem?_eq_some_iff.mp e).1
    rw [List.length_reverse] at hi
    rw [List.getElem?_reverse hi] at e
    exact ⟨y.1, Option.some.inj ((y.2 xs s).symm.trans e)⟩
/-- lo, lo + 1, .. -/
def nums (lo : Int) (n : Nat) : List Int := (List.range n).map fun i : Nat => lo + (i : Int)
theorem nums_len (lo : Int) (n : Nat) : (nums lo n).length = n := by unfold nums; rw [List.length_map, List.length_range]
theorem nums_at {lo : Int} {n i : Nat} {x : Int} (h : (nums lo n)[i]? = some x) : i < n ∧ x = lo + (i : Int) := by
  have hi := (List.getElem?_eq_some_iff.mp h).1
  rw [nums_len] at hi
  refine ⟨hi, ?_⟩
  unfold nums at h
  rw [List.getElem?_map, List.getElem?_range hi] at h
  exact (Option.some.inj h).symm
theorem over_range {lo : Int} {n : Nat} : Over (Itr lo n) (nums lo n) (fun x H v H' => H' = H ∧ v = .int x) (fun _ => True) where
  go := fun i x H e _ => (nums_at e).1
  st := fun H _ => by
    show n ≤ (nums lo n).length
    rw [nums_len]
    exact Nat.le_refl _
  yl := fun i x H v H' e _ y => ⟨y.1, by rw [y.2, (nums_at e).2]⟩
/-- d.items() -/
theorem over_items {d : Addr} {o : Obj} {kvs : List (Key × V)} : Over (Iti d o kvs) kvs (fun p H v H' => ∃ T, v = .ref T ∧ H T = none ∧ H' = upd H T (.tup [kV p.1, p.2])) (fun H => H d = some (.frz o (.dK kvs))) where
  go := fun i x H e s => ⟨s, (List.getElem?_eq_some_iff.mp e).1⟩
  st := fun H s => ⟨s, Nat.le_refl _⟩
  yl := fun i x H v H' e s y => by
    obtain ⟨T, k, u, y1, y2, y3, y4⟩ := y
    rw [e] at y1
    cases y1
    exact ⟨T, y2, y3, y4⟩
theorem over_keys {d : Addr} {o : Obj} {kvs : List (Key × V)} : Over (Itk d o kvs) kvs (fun p H v H' => H' = H ∧ v = kV p.1) (fun H => H d = some (.frz o (.dK kvs))) where
  go := fun i x H e s => ⟨s, (List.getElem?_eq_some_iff.mp e).1⟩
  st := fun H s => ⟨s, Nat.le_refl _⟩
  yl := fun i x H v H' e s y => by
    obtain ⟨y0, k, u, y1, y2⟩ := y
    rw [e] at y1
    cases y1
    exact ⟨y0, y2⟩
/-- enumerate(list) -/
theorem over_enum {K : PySem.W.Frag} {a : Addr} {xs : List V} : Over (Ite K a) xs.zipIdx (fun p H v H' => ∃ T, v = .ref T ∧ H T = none ∧ H' = upd H T (.tup [.int (p.2 : Nat), p.1])) (fun H => SqL K H a xs) where
  go := fun i x H e s => by
    rw [List.getElem?_zipIdx] at e
    cases h : xs[i]? with
    | none => rw [h] at e; cases e
    | some y => exact ⟨xs, y, s, h⟩
  st := fun H s => ⟨xs, s, by rw [List.length_zipIdx]; exact Nat.le_refl _⟩
  yl := fun i x H v H' e s y => by
    obtain ⟨T, u, y1, y2, y3, y4⟩ := y
    have := y4 xs s
    rw [List.getElem?_zipIdx, this] at e
    cases e
    refine ⟨T, y1, y2, ?_⟩
    rw [y3]
    simp
/-- zip of two lists -/
theorem over_zip {K : PySem.W.Frag} {a b : Addr} {xs ys : List V} : Over (Itz K a b) (xs.zip ys) (fun p H v H' => ∃ T, v = .ref T ∧ H T = none ∧ H' = upd H T (.tup [p.1, p.2])) (fun H => SqL K H a xs ∧ SqL K H b ys) where
  go := fun i p H e s => by
    obtain ⟨h1, h2⟩ := List.getElem?_zip_eq_some.mp e
    exact ⟨xs, ys, p.1, p.2, s.1, s.2, h1, h2⟩
  st := fun H s => ⟨xs, ys, s.1, s.2, by rw [List.length_zip]; omega⟩
  yl := fun i p H v H' e s y => by
    obtain ⟨T, u, u', y1, y2, y3, y4, y5⟩ := y
    obtain ⟨h1, h2⟩ := List.getElem?_zip_eq_some.mp e
    have e1 := Option.some.inj ((y4 xs s.1).symm.trans h1)
    have e2 := Option.some.inj ((y5 ys s.2).symm.trans h2)
    subst e1 e2
    exact ⟨T, y1, y2, y3⟩

theorem sign_lt (c d : Nat) : decide (([c] : List Nat) < [d]) = decide (c < d) := by
  refine decide_eq_decide.mpr ⟨fun h => ?_, fun h => List.Lex.rel h⟩
  cases h with
  | rel h => exact h
  | cons h => cases h
/-- a comprehension without a test -/
theorem lc_yes {σ : L2.St} {H : Hp} {A B : Hp → Prop} (h : A H) : tYes σ H (fun b H3 => if b = true then A H3 else B H3) := by
  show if true = true then A H else B H
  rw [if_pos rfl]
  exact h
section
variable {α : Type} {J : It} {xs : List α} {Y : α → Hp → V → Hp → Prop} {S : Hp → Prop} {g : TG}
/-- a for loop by an invariant -/
theorem for_over {tb : TS} {D : Ends} {σ : L2.St} {H : Hp} (o : Over J xs Y S) (Pv : Nat → L2.St → Hp → Prop) (h0 : Pv 0 σ H)
    (hS : ∀ i σ H, i ≤ xs.length → Pv i σ H → S H)
    (hs : ∀ i x σ H v H', xs[i]? = some x → Pv i σ H → Y x H v H' → g v σ H' fun σ2 H2 => tb { D with nx := Pv (i + 1), ct := Pv (i + 1), bk := D.nx } σ2 H2)
    (hd : ∀ σ H, Pv xs.length σ H → D.nx σ H) :
    ∃ W : Nat → Nat → L2.St → Hp → Prop, (∃ m, W 0 m σ H) ∧ ∀ i m σ H, W i m σ H → (J.stop i H ∧ D.nx σ H) ∨ (J.go i H ∧
      ∃ N : L2.St → Hp → Prop, (∀ σ' H', N σ' H' → ∃ m', m' < m ∧ W (i + 1) m' σ' H') ∧
        ∀ x H', J.yld i H x H' → g x σ H' fun σ2 H2 => tb { D with nx := N, ct := N, bk := D.nx } σ2 H2) := by
  refine ⟨fun i m σ H => m = xs.length - i ∧ i ≤ xs.length ∧ Pv i σ H, ⟨xs.length, rfl, Nat.zero_le _, h0⟩, ?_⟩
  rintro i m σ H ⟨rfl, hi, p⟩
  have s := hS i σ H hi p
  by_cases hl : i < xs.length
  · have e : xs[i]? = some xs[i] := List.getElem?_eq_getElem hl
    refine .inr ⟨o.go i _ H e s, Pv (i + 1), fun σ' H' p' => ⟨xs.length - (i + 1), by omega, rfl, hl, p'⟩, fun v H' y => ?_⟩
    exact hs i _ σ H v H' e p (o.yl i _ H v H' e s y)
  · have e : i = xs.length := by omega
    subst e
    exact .inl ⟨o.st H s, hd σ H p⟩
/-- a comprehension by an invariant -/
theorem lc_over {tt : TT} {te : TE} {vs : List Nat} {σ : L2.St} {H1 : Hp} {D : Addr} {Qd : Hp → Prop} (o : Over J xs Y S) (Pv : Nat → Hp → Prop)
    (h0 : Pv 0 (upd H1 D (.lst []))) (hS : ∀ i H, i ≤ xs.length → Pv i H → S H)
    (hs : ∀ i x H v H', xs[i]? = some x → Pv i H → Y x H v H' → g v (wipe σ vs) H' fun σ2 H2 => wipe σ2 vs = wipe σ vs ∧ tt σ2 H2 fun b H3 =>
      if b = true then te σ2 H3 fun y H4 => ∃ acc, H4 D = some (.lst acc) ∧ acc.length < sizeLine ∧ Pv (i + 1) (upd H4 D (.lst (acc ++ [y]))) else Pv (i + 1) H3)
    (hd : ∀ H, Pv xs.length H → Qd H) :
    ∃ W : Nat → Nat → Hp → Prop, (∃ m, W 0 m (upd H1 D (.lst []))) ∧ ∀ i m H, W i m H → (J.stop i H ∧ Qd H) ∨ (J.go i H ∧
      ∃ Nx : Hp → Prop, (∀ H', Nx H' → ∃ m', m' < m ∧ W (i + 1) m' H') ∧ ∀ x H', J.yld i H x H' → g x (wipe σ vs) H' fun σ2 H2 => wipe σ2 vs = wipe σ vs ∧ tt σ2 H2 fun b H3 =>
        if b = true then te σ2 H3 fun y H4 => ∃ acc, H4 D = some (.lst acc) ∧ acc.length < sizeLine ∧ Nx (upd H4 D (.lst (acc ++ [y]))) else Nx H3) := by
  refine ⟨fun i m H => m = xs.length - i ∧ i ≤ xs.length ∧ Pv i H, ⟨xs.length, rfl, Nat.zero_le _, h0⟩, ?_⟩
  rintro i m H ⟨rfl, hi, p⟩
  have s := hS i H hi p
  by_cases hl : i < xs.length
  · have e : xs[i]? = some xs[i] := List.getElem?_eq_getElem hl
    refine .inr ⟨o.go i _ H e s, Pv (i + 1), fun H' p' => ⟨xs.length - (i + 1), by omega, rfl, hl, p'⟩, fun v H' y => ?_⟩
    exact hs i _ H v H' e p (o.yl i _ H v H' e s y)
  · have e : i = xs.length := by omega
    subst e
    exact .inl ⟨o.st H s, hd H p⟩
theorem take_map_succ {β : Type} {f : α → Option β} {i : Nat} {x : α} (e : xs[i]? = some x) :
    (xs.take (i + 1)).filterMap f = (xs.take i).filterMap f ++ (f x).toList := by
  rw [List.take_add_one, e, List.filterMap_append]
  cases h : f x <;> simp [h]
/-- a comprehension whose element (and test) changes nothing that stood: the i-th item gives f x -/
theorem lc_pure {tt : TT} {te : TE} {vs : List Nat} {σ : L2.St} {H1 : Hp} {D : Addr} {Qd : Hp → Prop} (o : Over J xs Y S) (f : α → Option V)
    (nD : H1 D = none) (hn : xs.length ≤ sizeLine) (hS : ∀ H, Same H1 H → S H)
    (hs : ∀ x ∈ xs, ∀ H v H' (Nx : Option V → Hp → Prop), Same H1 H → Y x H v H' → (∀ H'', Same H H'' → Nx (f x) H'') →
      g v (wipe σ vs) H' fun σ2 H2 => wipe σ2 vs = wipe σ vs ∧ tt σ2 H2 fun b H3 => if b = true then te σ2 H3 fun y H4 => Nx (some y) H4 else Nx none H3)
    (hd : ∀ H, Same H1 H → H D = some (.lst (xs.filterMap f)) → Qd H) :
    ∃ W : Nat → Nat → Hp → Prop, (∃ m, W 0 m (upd H1 D (.lst []))) ∧ ∀ i m H, W i m H → (J.stop i H ∧ Qd H) ∨ (J.go i H ∧
      ∃ Nx : Hp → Prop, (∀ H', Nx H' → ∃ m', m' < m ∧ W (i + 1) m' H') ∧ ∀ x H', J.yld i H x H' → g x (wipe σ vs) H' fun σ2 H2 => wipe σ2 vs = wipe σ vs ∧ tt σ2 H2 fun b H3 =>
        if b = true then te σ2 H3 fun y H4 => ∃ acc, H4 D = some (.lst acc) ∧ acc.length < sizeLine ∧ Nx (upd H4 D (.lst (acc ++ [y]))) else Nx H3) := by
  refine lc_over o (fun i H => Same H1 H ∧ H D = some (.lst ((xs.take i).filterMap f))) ⟨same_new nD, upd_same⟩ (fun i H _ p => hS H p.1) ?_ ?_
  · rintro i x H v H' e ⟨s, hD⟩ y
    have hi := (List.getElem?_eq_some_iff.mp e).1
    refine hs x (List.mem_of_getElem? e) H v H' (fun oy H4 => match oy with
      | some y => ∃ acc, H4 D = some (.lst acc) ∧ acc.length < sizeLine ∧ (Same H1 (upd H4 D (.lst (acc ++ [y]))) ∧ (upd H4 D (.lst (acc ++ [y]))) D = some (.lst ((xs.take (i + 1)).filterMap f)))
      | none => Same H1 H4 ∧ H4 D = some (.lst ((xs.take (i + 1)).filterMap f))) s y ?_
    intro H4 s4
    cases hf : f x with
    | none =>
      refine ⟨s.trans s4, ?_⟩
      rw [s4 _ _ hD, take_map_succ e, hf]
      simp
    | some y =>
      refine ⟨_, s4 _ _ hD, ?_, fun b u z => ?_, ?_⟩
      · have := List.length_filterMap_le f (xs.take i)
        rw [List.length_take] at this
        omega
      · rw [upd_ne (ne_of_none z nD)]
        exact s4 _ _ (s _ _ z)
      · rw [upd_same, take_map_succ e, hf]
        rfl
  · rintro H ⟨s, hD⟩
    rw [List.take_length] at hD
    exact hd H s hD
end
end Eu
set_option Elab.async false
set_option linter.all false
set_option maxRecDepth 100000
set_option maxHeartbeats 4000000
namespace Eu
open PySem PySem.Spec PyProof.Rows L2
/-- a text n times -/
def repS (z : Str) (n : Nat) : Str := ⟨(List.replicate n z.cps.toList).flatten.toArray⟩
theorem repS_len (z : Str) (n : Nat) : (repS z n).length = n * z.length := by
  show (List.replicate n z.cps.toList).flatten.toArray.size = n * z.cps.size
  rw [List.size_toArray]
  simp [List.length_flatten]
theorem repS_fold (z : Str) (n : Nat) : (⟨(List.replicate n z.cps).foldl (· ++ ·) #[]⟩ : Str) = repS z n := by
  have gen : ∀ (n : Nat) (acc : Array Nat), ((List.replicate n z.cps).foldl (· ++ ·) acc).toList = acc.toList ++ (List.replicate n z.cps.toList).flatten := by
    intro n
    induction n with
    | zero => intro acc; simp
    | succ n ih =>
      intro acc
      rw [List.replicate_succ, List.foldl_cons, ih, List.replicate_succ, List.flatten_cons, Array.toList_append, List.append_assoc]
  have e := gen n #[]
  unfold repS
  congr 1
  apply Array.ext'
  rw [e]
  simp
section
variable {X : Cx}
def rRepS : R2 := fun x y H Q => ∃ (z : Str) (k : Int), x = .str z ∧ y = .int k ∧ 0 ≤ k ∧ k ≤ 10000 ∧ z.length ≤ 1000 ∧ Q (.str (repS z k.toNat)) H
theorem op_rep_str : OpR X (binaryOp .Mult) rRepS := by
  intro pins s σ H x y v u Q I rx ry h
  obtain ⟨z, k, rfl, rfl, k0, k1, hz, q⟩ := h
  obtain ⟨t, rfl⟩ := rx
  obtain ⟨t', rfl⟩ := ry
  have hl := sizeLine_eq
  have fin : ∀ m : Str, m = repS z k.toNat → EP X pins σ Q (.str m s.toks) { s with toks := s.toks + 1 } := fun m e => by
    rw [e]
    exact ⟨.str _, H, I.tok _, ⟨_, rfl⟩, q⟩
  have hm : z.length * k.toNat ≤ 10000000 := by
    have : k.toNat ≤ 10000 := by omega
    calc z.length * k.toNat ≤ 1000 * 10000 := Nat.mul_le_mul hz this
      _ = 10000000 := by decide
  refine PySem.P.mul_str (by rw [decide_eq_false (by omega), decide_eq_false (by omega)]; rfl) ?_ ?_ ?_
  · intro h1 h2
    have : (1000 : Int) ≤ (2 ^ 63 - 1) / k := by
      apply Int.le_ediv_of_mul_le (by omega)
      omega
    omega
  · intro h1 h2
    unfold Builtin.Str.tooLong
    exact decide_eq_false (by omega)
  · split
    · rename_i h1
      have e : k = 0 := by omega
      subst e
      exact ⟨by decide, fin _ rfl⟩
    · split
      · rename_i h1 h2
        refine ⟨.str z, H, I, ⟨_, rfl⟩, ?_⟩
        have e : repS z k.toNat = z := by
          rw [Bool.or_eq_true, beq_iff_eq, beq_iff_eq] at h2
          rcases h2 with e | e
          · subst e
            show (⟨(List.replicate 1 z.cps.toList).flatten.toArray⟩ : Str) = z
            simp
          · have ez : z.cps = #[] := Array.eq_empty_of_size_eq_zero e
            unfold repS
            obtain ⟨zc⟩ := z
            have ez' : zc = #[] := ez
            subst ez'
            simp
        rw [e] at q
        exact q
      · refine ⟨?_, fin _ (repS_fold z _)⟩
        rw [repS_fold, repS_len, Nat.mul_comm]
        omega
end
end Eu
set_option Elab.async false
set_option linter.all false
set_option maxRecDepth 100000
set_option maxHeartbeats 4000000
namespace Eu
open PySem PySem.Spec PyProof.Rows L2

/-! ### the law's own call -/
section
variable {P : Program} {w : World} {K : PySem.W.Frag} {mg mb : Str → Option Value} {k : Nat} {fa a : Addr} {fd : FuncData} {x : Str}
  {sp : Sp} {s1 : Shared} {vs : List Value} {ns : List Int}
/-- what the caller wants -/
abbrev Wish (s1 : Shared) : Result → Shared → Prop := fun r s' =>
  r = .ok (.ret (.bool true)) ∧ OldK s1.heap s'.heap ∧ s'.os = s1.os ∧ AllBare s'.gens

theorem call_core (KX : K.In s1.heap) (hns : s1.heap.Ns mainGlobals mg) (hb : s1.heap.Ns builtinsNs mb)
    (hbb : ∀ x : Str, x ≠ "__name__" → mb x = bootBuiltins x) (hlim : s1.heap.NoLimit) (hg : s1.gens = #[])
    (ha : s1.heap.get? a = some { cls := .type "list", data := .seq vs.toArray }) (hr : Rm k callerA)
    (F : ∀ base : Heap, K.In base → base.Ns mainGlobals mg → Ok P w K mg base CX0 k fa fd [x] sp)
    (hbind : ∀ (s : Shared) (u : Value), BindsTo s fd ⟨[u], []⟩ [(x, u)])
    (H : Hp) (hO : Only H) (hok : HOk P w H s1.heap) (hA : ∀ b, H b ≠ none → b = a) (hK : H a ≠ none → K.lookup a = none)
    (hsp : sp [.ref a] H (fun v _ => v = .bl true) fun _ _ _ => False) :
    codeAny (model P w) callerA (.call (.ref fa) ⟨[.ref a], []⟩) (Wish s1) s1 := by
  have only_a : ∀ {b : Addr} {u : HO}, H b = some u → b = a := fun {b u} e => hA b (by rw [e]; exact fun z => nomatch z)
  have dict_free : ∀ {b : Addr} {o : Obj} {es : Array DictEntry} {ep : Nat}, s1.heap.get? b = some o → o.data = .dict es ep → H b = none := by
    intro b o es ep e d
    cases q : H b with
    | none => rfl
    | some u =>
      have e' := only_a q
      subst e'
      rw [ha] at e
      cases e
      have : Data.seq vs.toArray _ = Data.dict es ep := d
      cases this
  have ns_keep : ∀ {b : Addr} {m : Str → Option Value}, s1.heap.Ns b m → (hidT s1.heap H).Ns b m := by
    rintro b m ⟨o, es, ep, e, d, r⟩
    exact ⟨o, es, ep, hidT_get e (dict_free e d), d, r⟩
  have kb : K.In (hidT s1.heap H) := by
    intro b o e
    refine hidT_get (KX b o e) ?_
    cases q : H b with
    | none => rfl
    | some u =>
      have e' := only_a q
      subst e'
      have := hK (by rw [q]; exact fun z => nomatch z)
      rw [this] at e
      cases e
  have lim : (hidT s1.heap H).NoLimit := by
    obtain ⟨mc, h1, h2⟩ := hlim
    exact ⟨mc, ns_keep h1, h2⟩
  have md : Mod K mg (hidT s1.heap H) := ⟨kb, ns_keep hns, ⟨mb, ns_keep hb, hbb⟩, lim⟩
  have e0 : Env0 P w K mg (hidT s1.heap H) callerA [] s1 H := by
    refine ⟨rfl, md, fun b o e => of_hidT e, Nat.le_of_eq (hidT_size _ _), trivial, ?_, hok, .of_eq hg⟩
    intro b hb
    cases hb
  have run := (F _ kb (ns_keep hns)).go callerA [] s1 H ⟨[.ref a], []⟩ [.ref a] [.ref a] _ _ hr e0 (hbind s1 (.ref a)) (.cons rfl .nil) hsp
  refine codeAny_mono run ?_
  intro r s' h
  match r, h with
  | .error e, h => exact False.elim h
  | .ok .next, h => exact False.elim h
  | .ok .brk, h => exact False.elim h
  | .ok .cont, h => exact False.elim h
  | .ok (.ret u), h =>
    obtain ⟨v, H', os, bare, un, hok', r', q⟩ := h
    have q' : v = .bl true := q
    subst q'
    have r2 : u = Value.bool true := r'
    subst r2
    refine ⟨rfl, OldK.of_keep ?_, os, bare⟩
    intro b o e
    cases q : H b with
    | none => exact un.keep b o e q (fun z => by cases z) (fun z => by cases z)
    | some u =>
      cases hO b with
      | inl z => rw [q] at z; cases z
      | inr z =>
        obtain ⟨ob, xs, z⟩ := z
        have z2 := un.frzs b ob _ z
        have e1 := (hok b _ z).1
        rw [e] at e1
        cases e1
        exact (hok' b _ z2).1

theorem call_law (KX : K.In s1.heap) (hns : s1.heap.Ns mainGlobals mg) (hb : s1.heap.Ns builtinsNs mb)
    (hbb : ∀ x : Str, x ≠ "__name__" → mb x = bootBuiltins x) (hlim : s1.heap.NoLimit) (hg : s1.gens = #[])
    (ha : s1.heap.get? a = some { cls := .type "list", data := .seq vs.toArray }) (hi : IntsAre vs ns) (hl : ns.length ≤ sizeLine) (hr : Rm k callerA)
    (F : ∀ base : Heap, K.In base → base.Ns mainGlobals mg → Ok P w K mg base CX0 k fa fd [x] sp)
    (hbind : ∀ (s : Shared) (u : Value), BindsTo s fd ⟨[u], []⟩ [(x, u)])
    (hsp : ∀ H : Hp, SqL K H a (ns.map V.int) → sp [.ref a] H (fun v _ => v = .bl true) fun _ _ _ => False) :
    codeAny (model P w) callerA (.call (.ref fa) ⟨[.ref a], []⟩) (Wish s1) s1 := by
  have rv := vals_ints hi
  have lenV := hi.length
  cases hk : K.lookup a with
  | some o =>
    have e := KX a o hk
    rw [ha] at e
    cases e
    refine call_core KX hns hb hbb hlim hg ha hr F hbind (fun _ => none) (fun _ => .inl rfl) ?_ (fun b z => absurd rfl z) (fun z => absurd rfl z) (hsp _ ?_)
    · intro b u z
      cases z
    · refine .inr ⟨_, vs.toArray, _, hk, rfl, rfl, rfl, ?_, ?_⟩
      · rw [List.size_toArray, lenV]; exact hl
      · rw [show vs.toArray.toList = vs from rfl]; exact rv
  | none =>
    let o : Obj := { cls := .type "list", data := .seq vs.toArray }
    let H : Hp := fun b => if b = a then some (.frz o (.lst (ns.map V.int))) else none
    have Ha : H a = some (.frz o (.lst (ns.map V.int))) := if_pos rfl
    have Hn : ∀ {b}, b ≠ a → H b = none := fun hb => if_neg hb
    refine call_core KX hns hb hbb hlim hg ha hr F hbind H ?_ ?_ ?_ (fun _ => hk) (hsp _ (.inl (.inr ⟨o, Ha⟩)))
    · intro b
      by_cases e : b = a
      · subst e; exact .inr ⟨_, _, Ha⟩
      · exact .inl (Hn e)
    · intro b u z
      by_cases e : b = a
      · subst e
        rw [Ha] at z
        cases z
        refine ⟨ha, ?_, vs, _, rv, ha⟩
        rw [List.length_map]; exact hl
      · rw [Hn e] at z
        cases z
    · intro b z
      by_cases e : b = a
      · exact e
      · exact absurd (Hn e) z
end
/-- a law's promise: any script of at most 63 ints, True comes out -/
def spLaw (K : PySem.W.Frag) : Sp := fun vs H Q _ => ∃ (a : Addr) (ns : List Int), vs = [.ref a] ∧ SqL K H a (ns.map V.int) ∧ ns.length ≤ 63 ∧ ∀ H', Q (.bl true) H'
theorem walk_ok {l : PySem.W.OpenLaw} {k : Nat} {q : Program} {loose : List Str} {XP : (Str → Option Value) → Heap → Prop} {YP : World → Heap → Prop}
    {d : DefRec} {K : Params → PySem.W.Frag} {x : Str} (hn : l.most = some 63) (hdf : d.params.defaults = []) (hr : Rm k callerA)
    (hY : ∀ (w : World) (h : Heap), YP w h → (K w.params).In h)
    (F : ∀ (w : World) (mg : Str → Option Value) (fa : Addr) (h : Heap), (K w.params).In h → h.Ns mainGlobals mg → mg d.name = some (.ref fa) →
      ∃ fd : FuncData, (∀ (s : Shared) (u : Value), BindsTo s fd ⟨[u], []⟩ [(x, u)]) ∧
        ∀ base : Heap, (K w.params).In base → base.Ns mainGlobals mg → Ok l.prog w (K w.params) mg base CX0 k fa fd [x] (spLaw (K w.params))) :
    PySem.W.WalkO q loose XP YP l.row.toRowW d [] (fun f vs => PySem.call f vs) := by
  refine Att.attach_call hn hdf ?_
  intro w s0 s1 mg mb fa o pm cd doc a vs ns G Y ho hd hcd hmg hobj hints hlen hg
  have KX := hY w _ Y
  obtain ⟨fd, hb, hF⟩ := F w mg fa _ KX G.T.g hmg
  exact call_law KX G.T.g G.T.b G.T.builtins G.T.nolimit hg hobj hints (Nat.le_trans hlen (by decide)) hr hF hb fun H hS => ⟨a, ns, rfl, hS, hlen, fun _ => rfl⟩
/-- from a def's place to what walk_ok wants -/
theorem law_fn {P : Program} {w : World} {K : PySem.W.Frag} {mg : Str → Option Value} {k : Nat} {x : Str} {st : Stmt} {N : List Str} {sp : Sp} {nm : Str} {fa : Addr}
    (D : Df K mg nm st) (hfa : mg nm = some (.ref fa)) (S : FnScope N [x] (defScope st))
    (hbd : ∀ (kV doc pm : Value) (an : Option Addr) (cdv ct : Value) (us : List Value), us.length = 1 →
      bindArgs (PySem.W.fnOf nm nm (defArgs st) (defBody st) (defScope st) .none kV doc pm an cdv ct) ⟨us, []⟩ = pure ([x].zip us))
    (len : ∀ vs H Q E, sp vs H Q E → vs.length = 1)
    (hb : ∀ (base : Heap), K.In base → base.Ns mainGlobals mg → ∀ (f : Addr) (cdv : Value) (A : Around) (out : List Env) (s : Shared) (H : Hp) (vs : List V) (Q : VK) (E : XK),
      Rm k (A.deeper (envOfC nm (defScope st) s.heap.objs.size f cdv)) → sp vs H Q E →
      ∃ t, PSs (cxOf CX0 P w K mg base N nm (defScope st) f cdv A out s H E).nox (defBody st) t ∧
        t { nx := fun _ H' => Q .non H', rt := Q } (start N vs) H) :
    ∃ fd : FuncData, (∀ (s : Shared) (u : Value), BindsTo s fd ⟨[u], []⟩ [(x, u)]) ∧
      ∀ base : Heap, K.In base → base.Ns mainGlobals mg → Ok P w K mg base CX0 (k + 1) fa fd [x] sp := by
  obtain ⟨f, oc, od, kV, doc, pm, an, cdv, ct, osl, l, c, kp, m⟩ := D.ex
  have e := hfa.symm.trans m
  cases e
  refine ⟨_, fun s u => .of_eq (hbd kV doc pm an cdv ct [u] rfl), fun base h1 h2 => ok_body l c S len ?_⟩
  intro A out s H vs Q E hr hs
  obtain ⟨t, h, q⟩ := hb base h1 h2 fa cdv A out s H vs Q E hr hs
  exact ⟨t, h.nox, q⟩

/-! ### repr of a dict with one entry -/
section
variable {X : Cx}
def rReprD : List V → Hp → VK → Prop := fun xs H Q =>
  ∃ (a : Addr) (i : Int) (z : Str), xs = [.ref a] ∧ H a = some (.dK [(Sum.inl i, .str z)]) ∧ fine (.dict [(.int i, .str z)]) = true ∧ z.length ≤ 100000 ∧ Q (.str (PyData.dict [(.int i, .str z)]).shown) H
theorem call_reprD {j : Nat} (hr : Rm j X.A) : CallR X (.builtin "repr") rReprD := by
  intro pins s σ H xs us Q I r h
  obtain ⟨a, i, z, rfl, ha, hf, hz, q⟩ := h
  obtain ⟨u, rfl, rx⟩ := vals1 r
  have hu := hr.rm.un
  cases (show u = Value.ref a from rx)
  obtain ⟨_, hsys, vs, kv, dof⟩ := (show ObjOk X.prog X.w H s.heap a (.dK [(Sum.inl i, .str z)]) from I.hok a _ ha)
  cases kv with
  | @cons p q1 ps qs h1 h2 =>
    cases h2
    obtain ⟨k0, v0⟩ := q1
    obtain ⟨e1, t, e2⟩ := h1
    simp only at e1 e2
    subst e1 e2
    obtain ⟨es, ep, ⟨o, ho, hc, hd⟩, hsz, hat⟩ := PySem.Heap.DictOf.raw dof
    have h0 : 0 < es.size := by rw [hsz]; exact Nat.one_pos
    obtain ⟨hk, hv⟩ := hat 0 h0 _ _ rfl
    have hkey : ∃ t', es[0].key = Value.int i t' := by
      rcases keyIs_shape (show keyIs (Sum.inl i) es[0].key = true from hk) with ⟨i', t', e, e'⟩ | ⟨x, t', e, e'⟩
      · cases e; exact ⟨t', e'⟩
      · cases e
    obtain ⟨t', hkey⟩ := hkey
    have el : es.toList = [es[0]] := by
      apply List.ext_getElem
      · simpa using hsz
      · intro n h1 h2
        have : n = 0 := by simpa using h2
        subst this
        simp
    have rd : Reads s.heap (.ref a) (.dict [(.int i, .str z)]) (a :: [] ++ []) := by
      refine Reads.dict ho hc.1 hd ?_ ?_
      · rw [el]
        show ReadsAll s.heap [es[0].key] [.int i] ([] ++ [])
        rw [hkey]
        exact .cons (.int _ _) .nil
      · rw [el]
        show ReadsAll s.heap [es[0].val] [.str z] ([] ++ [])
        rw [hv]
        exact .cons (.str _ _) .nil
    have hsm : sysModules ∉ a :: [] ++ [] := by
      intro hm
      have : sysModules = a := by simpa using hm
      rw [this] at hsys
      simp at hsys
    have hlen : (PyData.dict [(.int i, .str z)]).shown.length ≤ sizeLine := by
      have := shown_le _ hf
      have e : cost (.dict [(.int i, .str z)]) = 1921 + 2 + (10 * z.length + 2) + 2 + 0 + 2 := rfl
      rw [sizeLine_eq]
      omega
    refine repr_of_reads' rd (fine_showable _ hf) (fun _ => hsm) hr.gd ?_ (fun _ _ z => z) ?_ hlen
    · show X.A.units + (max (max 0 0) 0 + 1 + 1) < cLine
      omega
    · intro h' u tk hk
      exact ⟨.str _, H, I.kept hk, ⟨_, rfl⟩, q⟩
end
/-! ### items of lists of data -/
theorem dpAll_at {K : PySem.W.Frag} {H : Hp} : ∀ {xs : List V} {ds : List PyData}, DpAll K H xs ds → ∀ {n : Nat}, n < ds.length → ∃ x d, xs[n]? = some x ∧ d ∈ ds ∧ Dp K H x d
  | _, _, .nil, n, h => absurd h (Nat.not_lt_zero _)
  | _, _, .cons h1 _, 0, _ => ⟨_, _, rfl, List.mem_cons_self, h1⟩
  | _, _, .cons _ h2, n + 1, h => by
    obtain ⟨x, d, e, m, p⟩ := dpAll_at h2 (n := n) (by simpa using h)
    exact ⟨x, d, by simpa using e, List.mem_cons_of_mem _ m, p⟩
theorem dp_item {K : PySem.W.Frag} {H : Hp} {xs : List V} {ds : List PyData} (h : DpAll K H xs ds) {i : Int} (h0 : 0 ≤ i) (h1 : i < (ds.length : Int)) :
    ∃ x d, atI xs i = some x ∧ d ∈ ds ∧ Dp K H x d := by
  obtain ⟨x, d, e, m, p⟩ := dpAll_at h (n := i.toNat) (by omega)
  exact ⟨x, d, at_of (j := i.toNat) (by omega) e, m, p⟩
end Eu
set_option Elab.async false
set_option linter.all false
set_option maxRecDepth 100000
set_option maxHeartbeats 4000000
namespace Eu
open PySem PySem.Spec PyProof.Rows L2

/-! ### methods, and objects made -/
theorem Rm.make {k : Nat} {A : Around} (r : Rm (k + 1) A) (C : Addr) (us : List Value) (kw : List (Str × Value)) : Rm k (A.under (.builtin "type.__call__" ⟨.ref C :: us, kw⟩)) := by
  refine ⟨r.rm.make C us kw, ?_⟩
  have e : (Code.builtin "type.__call__" ⟨.ref C :: us, kw⟩).guards = [] := by
    first | rfl | simp [Code.guards, Code.isGuard, guardIds]
  show pushGuards (Code.builtin "type.__call__" ⟨.ref C :: us, kw⟩).guards A.guards = some []
  rw [e, r.gd]
  rfl

structure Met (P : Program) (w : World) (K : PySem.W.Frag) (mg : Str → Option Value) (base : Heap) (k : Nat) (C : Addr) (m : Str) (sp : Sp) (dvs : List V) : Prop where
  ex : ∃ (f : Addr) (fd : FuncData) (ps : List Str) (ds : List Value), Cls K C ∧ Meth K C m f ∧ Ok P w K mg base CX0 k f fd ps sp ∧ Binds K fd ps ds ∧ Vals dvs ds
structure Mak (P : Program) (w : World) (K : PySem.W.Frag) (mg : Str → Option Value) (base : Heap) (k : Nat) (x : Str) (C : Addr) (sp : Sp) (dvs : List V) : Prop where
  ex : ∃ (f : Addr) (fd : FuncData) (ps : List Str) (ds : List Value), Mk K C f ∧ Ok P w K mg base CX0 k f fd ps sp ∧ mg x = some (.ref C) ∧ Binds K fd ps ds ∧ Vals dvs ds
/-- a method of the class at C, as the top has left it -/
structure Dm (K : PySem.W.Frag) (C : Addr) (m qual : Str) (st : Stmt) (dvs : List V) : Prop where
  ex : ∃ (f : Addr) (oc : Value) (od : Option Addr) (dV kV doc pm : Value) (an : Option Addr) (cdv ct : Value) (osl : Array (Option Value)),
    K.lookup f = some ⟨oc, od, .func (PySem.W.fnOf m qual (defArgs st) (defBody st) (defScope st) dV kV doc pm an cdv ct), osl⟩ ∧
    PySem.W.codeIn K cdv qual = true ∧ Meth K C m f ∧ DflV K dV dvs

section
variable {P : Program} {w : World} {K : PySem.W.Frag} {mg : Str → Option Value} {base : Heap}
theorem Dm.met {C : Addr} {m qual : Str} {st : Stmt} {N ps : List Str} {k : Nat} {sp : Sp} (D : Dm K C m qual st []) (c : Cls K C) (S : FnScope N ps (defScope st))
    (hbd : ∀ (kV doc pm : Value) (an : Option Addr) (cdv ct : Value) (us : List Value), us.length = ps.length →
      bindArgs (PySem.W.fnOf m qual (defArgs st) (defBody st) (defScope st) .none kV doc pm an cdv ct) ⟨us, []⟩ = pure (ps.zip us))
    (len : ∀ vs H Q E, sp vs H Q E → vs.length = ps.length)
    (hb : ∀ (f : Addr) (cdv : Value) (A : Around) (out : List Env) (s : Shared) (H : Hp) (vs : List V) (Q : VK) (E : XK),
      Rm k (A.deeper (envOfC qual (defScope st) s.heap.objs.size f cdv)) → sp vs H Q E →
      ∃ t, PSs (cxOf CX0 P w K mg base N qual (defScope st) f cdv A out s H E).nox (defBody st) t ∧
        t { nx := fun _ H' => Q .non H', rt := Q } (start N vs) H) : Met P w K mg base (k + 1) C m sp [] := by
  obtain ⟨f, oc, od, dV, kV, doc, pm, an, cdv, ct, osl, l, cd, me, dd⟩ := D.ex
  rcases dd with ⟨_, e⟩ | ⟨e, _⟩
  · subst e
    refine ⟨f, _, ps, [], c, me, ok_body l cd S len ?_, .all (hbd kV doc pm an cdv ct), .nil⟩
    intro A out s H vs Q E hr hs
    obtain ⟨t, h, q⟩ := hb f cdv A out s H vs Q E hr hs
    exact ⟨t, h.nox, q⟩
  · exact absurd rfl e
/-- an __init__ with one default (the last parameter): called with n values, or with all but the last -/
theorem Dm.mak1 {C : Addr} {x qual : Str} {st : Stmt} {N ps : List Str} {k n : Nat} {sp : Sp} {dv : V} (D : Dm K C "__init__" qual st [dv]) (mkC : PySem.W.makesIn K C = true) (kpC : PySem.W.keepIn K (.ref C) = true) (hm : mg x = some (.ref C))
    (S : FnScope N ps (defScope st)) (hn : n + 1 = ps.length)
    (hall : ∀ (T : Addr) (kV doc pm : Value) (an : Option Addr) (cdv ct : Value) (us its : List Value), us.length = n + 1 → its.length = 1 →
      ∃ k, bindArgs (PySem.W.fnOf "__init__" qual (defArgs st) (defBody st) (defScope st) (.ref T) kV doc pm an cdv ct) ⟨us, []⟩ = seqItems? (.ref T) >>= k ∧ k (some its.toArray) = pure (ps.zip (us ++ its.drop 1)))
    (hone : ∀ (T : Addr) (kV doc pm : Value) (an : Option Addr) (cdv ct : Value) (us its : List Value), us.length = n → its.length = 1 →
      ∃ k, bindArgs (PySem.W.fnOf "__init__" qual (defArgs st) (defBody st) (defScope st) (.ref T) kV doc pm an cdv ct) ⟨us, []⟩ = seqItems? (.ref T) >>= k ∧ k (some its.toArray) = pure (ps.zip (us ++ its.drop 0)))
    (len : ∀ vs H Q E, sp vs H Q E → vs.length = ps.length)
    (hb : ∀ (f : Addr) (cdv : Value) (A : Around) (out : List Env) (s : Shared) (H : Hp) (vs : List V) (Q : VK) (E : XK),
      Rm k (A.deeper (envOfC qual (defScope st) s.heap.objs.size f cdv)) → sp vs H Q E →
      ∃ t, PSs (cxOf CX0 P w K mg base N qual (defScope st) f cdv A out s H E).nox (defBody st) t ∧
        t { nx := fun _ H' => Q .non H', rt := Q } (start N vs) H) : Mak P w K mg base (k + 1) x C sp [] ∧ Mak P w K mg base (k + 1) x C sp [dv] := by
  obtain ⟨f, oc, od, dV, kV, doc, pm, an, cdv, ct, osl, l, cd, me, dd⟩ := D.ex
  have F : FunD K "__init__" qual (defArgs st) (defBody st) (defScope st) [dv] [] f (PySem.W.fnOf "__init__" qual (defArgs st) (defBody st) (defScope st) dV kV doc pm an cdv ct) :=
    ⟨⟨oc, od, dV, kV, doc, pm, an, cdv, ct, osl, rfl, l, cd, dd, .inl rfl⟩, me.kp⟩
  obtain ⟨d1, v1, b1⟩ := F.binds1 (n + 1) 1 (by simp) (by simpa using hn) hall
  obtain ⟨d2, v2, b2⟩ := F.binds1 n 0 (by simp) (by simpa using hn) hone
  have o : Ok P w K mg base CX0 (k + 1) f (PySem.W.fnOf "__init__" qual (defArgs st) (defBody st) (defScope st) dV kV doc pm an cdv ct) ps sp := by
    refine ok_body l cd S len ?_
    intro A out s H vs Q E hr hs
    obtain ⟨t, h, q⟩ := hb f cdv A out s H vs Q E hr hs
    exact ⟨t, h.nox, q⟩
  have M : Mk K C f := ⟨mkC, me.at_, me.fn, kpC⟩
  exact ⟨⟨f, _, ps, d1, M, o, hm, b1, v1⟩, ⟨f, _, ps, d2, M, o, hm, b2, v2⟩⟩
end

section
variable {X : Cx} {k j : Nat} {C f : Addr} {fd : FuncData} {ps : List Str} {x m : Str} {sp : Sp} {dvs : List V} {ds : List Value} {p pos apos : Pos} {e o : Expr} {es : List Expr} {ta : TE} {t : TA}
theorem pe_mt {pl : Sem Bool} (c : Met X.prog X.w X.K X.mg X.base k C m sp dvs) (hr : Rm j X.A) (hk : k ≤ j) (he : PE X o ta) (ha : PA X (e :: es) t)
    (hst : starEach (e :: es) X.env = (false, eval e X.env) :: starEach es X.env := by rfl)
    (hpl : (backTo pos (starEach es X.env)).any (·.1) = false := by rfl)
    (ht : eval (.Call (.Attribute o m apos) (e :: es) [] pos) X.env = (do
      let v ← eval o X.env
      standAt apos.atName
      let (g, l) ← holding [v] (getMethod v m pl)
      callWith pos g l (backTo pos (starEach (e :: es) X.env)) (backToKw pos (keywordEach [] X.env))) := by rfl) :
    PE X (.Call (.Attribute o m apos) (e :: es) [] pos) (tMeth C m sp dvs E0 ta t) := by
  obtain ⟨f, fd, ps, ds, hc, hm, ok, b, d⟩ := c.ex
  constructor
  intro pins s σ H Q I h
  refine PySem.W.methodCall_KW (pl := pl) (thn (he.run pins s σ H _ I h) ?_) ht
  rintro u s1 ⟨y, H1, I1, ry, a, dx, fs, ey, ea, l, q⟩
  subst ey
  have eu : u = Value.ref a := ry
  subst eu
  refine getmeth_ok I1 ea hc hm l ?_
  refine PySem.W.callWith_K (first := [.ref a]) (h₀ := X.base) I.ok.mod.kin hm.kp (thn (ha.run pos pins s1 σ H1 _ I1 q) ?_) hst hpl
  rintro us s2 ⟨vs, H2, I2, r, q2⟩
  exact ⟨I2.kIn, run_ok (us := .ref a :: us) (vs := .ref a :: vs) ok (hr.mono hk) b d pass0 I2 (.cons rfl r) q2⟩
theorem pe_mt0 {pl : Sem Bool} (c : Met X.prog X.w X.K X.mg X.base k C m sp dvs) (hr : Rm j X.A) (hk : k ≤ j) (he : PE X o ta)
    (ht : eval (.Call (.Attribute o m apos) [] [] pos) X.env = (do
      let v ← eval o X.env
      standAt apos.atName
      let (g, l) ← holding [v] (getMethod v m pl)
      callWith pos g l (backTo pos (starEach [] X.env)) (backToKw pos (keywordEach [] X.env))) := by rfl) :
    PE X (.Call (.Attribute o m apos) [] [] pos) (tMeth C m sp dvs E0 ta tNil) := by
  obtain ⟨f, fd, ps, ds, hc, hm, ok, b, d⟩ := c.ex
  constructor
  intro pins s σ H Q I h
  refine PySem.W.methodCall_KW (pl := pl) (thn (he.run pins s σ H _ I h) ?_) ht
  rintro u s1 ⟨y, H1, I1, ry, a, dx, fs, ey, ea, l, q⟩
  subst ey
  have eu : u = Value.ref a := ry
  subst eu
  refine getmeth_ok I1 ea hc hm l ?_
  exact PySem.W.callWith_K0 (first := [.ref a]) I1.kIn hm.kp (run_ok (us := [.ref a]) (vs := [.ref a]) ok (hr.mono hk) b d pass0 I1 (.cons rfl .nil) q)
theorem run_mk {pins : List (Addr × Obj)} {σ : L2.St} {H : Hp} {s : Shared} {Q : VK} {us : List Value} {vs : List V} (M : Mk X.K C f) (o : Ok X.prog X.w X.K X.mg X.base CX0 k f fd ps sp)
    (hr : Rm (k + 1) X.A) (hb : Binds X.K fd ps ds) (hd : Vals dvs ds) (I : Inv X pins σ H s) (r : Vals vs us)
    (h : ∀ x dx, H x = none → H dx = none → dx ≠ x → sp (.ref x :: (vs ++ dvs)) (upd (upd H dx (.own x)) x (.ins C dx [])) (fun v H2 => v = .non ∧ Q (.ref x) H2) E0) :
    wpAny (model X.prog X.w) X.A (call (.ref C) us) (EP X pins σ Q) X.xe s := by
  have hq := h (s.heap.objs.size + 1) s.heap.objs.size (I.hok.fresh (Nat.le_succ _)) (I.hok.fresh (Nat.le_refl _)) (Nat.ne_of_lt (Nat.lt_succ_self _))
  have I2 := Inv.made (C := C) I
  have rr : Vals (V.ref (s.heap.objs.size + 1) :: (vs ++ dvs)) (Value.ref (s.heap.objs.size + 1) :: (us ++ ds)) := .cons rfl (r.append hd)
  have hl : (Value.ref (s.heap.objs.size + 1) :: us ++ ds).length = ps.length := by
    have e := rr.length
    rw [o.len _ _ _ _ hq] at e
    exact e.symm
  have b2 := hb _ (Value.ref (s.heap.objs.size + 1) :: us) I2.kIn hl
  have go := o.go _ X.stack _ _ ⟨Value.ref (s.heap.objs.size + 1) :: us, []⟩ (Value.ref (s.heap.objs.size + 1) :: (us ++ ds)) _ _ E0 (hr.make C us []) (I2.env0.make C us []) b2 rr hq
  refine wpAny_call (make_map (f := f) I.kIn M.makes M.init (beq_iff_eq.mp M.fn) (codeAny_mono go ?_))
  intro res s' hq'
  match res, hq' with
  | .error e, hq' => exact False.elim hq'
  | .ok .next, hq' => exact False.elim hq'
  | .ok .brk, hq' => exact False.elim hq'
  | .ok .cont, hq' => exact False.elim hq'
  | .ok (.ret u), hq' =>
    obtain ⟨v, H', I3, rv, ev, q3⟩ := I2.after hq'
    subst ev
    exact ⟨rv, ⟨V.ref (s.heap.objs.size + 1), H', I3, rfl, q3⟩⟩
theorem pe_mk (c : Mak X.prog X.w X.K X.mg X.base k x C sp dvs) (hr : Rm j X.A) (hk : k + 1 ≤ j) (hg : Gl X x) (ha : PA X (e :: es) t)
    (hdb : (x == ("__debug__" : Str)) = false := by decide)
    (he : starEach (e :: es) X.env = (false, eval e X.env) :: starEach es X.env := by rfl)
    (hpl : (backTo pos (starEach es X.env)).any (·.1) = false := by rfl) :
    PE X (.Call (.Name x p) (e :: es) [] pos) (tMake C sp dvs E0 t) := by
  obtain ⟨f, fd, ps, ds, M, o, hm, b, d⟩ := c.ex
  constructor
  intro pins s σ H Q I h
  apply wpAny_Call_Name_kw
  apply ld_glob I hg hm _ hdb
  refine PySem.W.callWith_K (h₀ := X.base) I.ok.mod.kin M.kp (thn (ha.run pos pins s σ H _ I h) ?_) he hpl
  rintro us s1 ⟨vs, H1, I1, r, q⟩
  exact ⟨I1.kIn, run_mk M o (hr.mono hk) b d I1 r q⟩
theorem pe_mk0 (c : Mak X.prog X.w X.K X.mg X.base k x C sp dvs) (hr : Rm j X.A) (hk : k + 1 ≤ j) (hg : Gl X x)
    (hdb : (x == ("__debug__" : Str)) = false := by decide) : PE X (.Call (.Name x p) [] [] pos) (tMake C sp dvs E0 tNil) := by
  obtain ⟨f, fd, ps, ds, M, o, hm, b, d⟩ := c.ex
  constructor
  intro pins s σ H Q I h
  apply wpAny_Call_Name_kw
  apply ld_glob I hg hm _ hdb
  exact PySem.W.callWith_K0 I.kIn M.kp (run_mk (us := []) M o (hr.mono hk) b d I .nil h)

/-! ### operators that a class defines -/
/-- the callee runs one unit deeper -/
theorem run_in1 {pins : List (Addr × Obj)} {σ : L2.St} {H : Hp} {s : Shared} {Q : VK} {us : List Value} {vs : List V}
    (o : Ok X.prog X.w X.K X.mg X.base CX0 k f fd ps sp) (hr : Rm (k + 1) X.A) (hb : Binds X.K fd ps ds) (hd : Vals dvs ds)
    (I : Inv X pins σ H s) (r : Vals vs us) (h : sp (vs ++ dvs) H Q E0) :
    wpAny (model X.prog X.w) X.A.in1 (call (.ref f) us) (EP X pins σ Q) X.xe s := by
  have rr := r.append hd
  have hl : (us ++ ds).length = ps.length := rr.length ▸ o.len _ _ _ _ h
  refine wpAny_call (codeAny_mono (o.go X.A.in1 X.stack s H ⟨us, []⟩ (us ++ ds) (vs ++ dvs) Q E0 hr.in1 I.env0.in1 (hb s us I.kIn hl) rr h) ?_)
  intro res s' hq
  match res, hq with
  | .error e, hq => exact False.elim hq
  | .ok (.ret u), hq => exact I.after hq
  | .ok .next, hq => exact False.elim hq
  | .ok .brk, hq => exact False.elim hq
  | .ok .cont, hq => exact False.elim hq
theorem inst_of {pins : List (Addr × Obj)} {σ : L2.St} {H : Hp} {s : Shared} {a dx : Addr} {fs : List (Str × V)} (I : Inv X pins σ H s) (e : H a = some (.ins C dx fs)) :
    ∃ od, PySem.W.InstAt s.heap a (PySem.W.instObj C dx) C (some od) := by
  obtain ⟨mA, O, _⟩ := ins_get I.hok e
  obtain ⟨od, J, _⟩ := O.look
  exact ⟨od, J⟩
/-- a op b, both of the class at C -/
def rOwn (C : Addr) (sp : Sp) (dvs : List V) : R2 := fun x y H Q => ∃ a b dx dy fs gs, x = .ref a ∧ y = .ref b ∧ H a = some (.ins C dx fs) ∧ H b = some (.ins C dy gs) ∧
  sp ([x, y] ++ dvs) H (fun v H' => (∀ u, RelV v u → u ≠ .notImplemented) ∧ Q v H') E0
theorem op_own {op : Operator} (c : Met X.prog X.w X.K X.mg X.base k C (PySem.dunder op.info.2) sp dvs) (hr : Rm j X.A) (hk : k ≤ j) (hsf : PySem.W.selfFirst X.K C = true) :
    OpR X (binaryOp op) (rOwn C sp dvs) := by
  obtain ⟨f, fd, ps, ds, hc, hm, o, b', d⟩ := c.ex
  intro pins s σ H x y v u Q I rx ry h
  obtain ⟨a, b, dx, dy, fs, gs, rfl, rfl, ha, hb, q⟩ := h
  cases rx
  cases ry
  obtain ⟨od, J⟩ := inst_of I ha
  obtain ⟨od2, J2⟩ := inst_of I hb
  obtain ⟨m, fr⟩ := I.fr
  refine PySem.W.binop_K fr I.ok.mod.kin J J2.type hsf hm.at_ hm.fn ?_
  refine wpAny_mono (run_ok (us := [.ref a, .ref b]) (vs := [.ref a, .ref b]) o (hr.mono hk) b' d pass0 I (.cons rfl (.cons rfl .nil)) q) ?_ (fun _ _ z => z)
  rintro r s' ⟨z, H', I', rz, nz, q'⟩
  have := nz r rz
  unfold PySem.W.CmpBack
  cases r <;> first | exact absurd rfl this | exact ⟨z, H', I', rz, q'⟩
/-- x in a, x not in a -/
def rOwnIn (C : Addr) (neg : Bool) (sp : Sp) (dvs : List V) : R2 := fun x y H Q => ∃ b dy gs, y = .ref b ∧ H b = some (.ins C dy gs) ∧
  sp ([y, x] ++ dvs) H (fun v H' => ∃ t, v = .bl t ∧ Q (.bl (if neg then !t else t)) H') E0
theorem op_ownIn (c : Met X.prog X.w X.K X.mg X.base k C "__contains__" sp dvs) (hr : Rm j X.A) (hk : k ≤ j) : OpR X (compareOp .In) (rOwnIn C false sp dvs) := by
  obtain ⟨f, fd, ps, ds, hc, hm, o, b', d⟩ := c.ex
  intro pins s σ H x y v u Q I rx ry h
  obtain ⟨b, dy, gs, rfl, hb, q⟩ := h
  cases ry
  obtain ⟨od, J⟩ := inst_of I hb
  obtain ⟨m, fr⟩ := I.fr
  refine PySem.W.in_K fr I.ok.mod.kin J hm.at_ hm.fn ?_
  refine wpAny_mono (run_ok (us := [.ref b, v]) (vs := [.ref b, x]) o (hr.mono hk) b' d pass0 I (.cons rfl (.cons rx .nil)) q) ?_ (fun _ _ z => z)
  rintro r s' ⟨z, H', I', rz, t, rfl, q'⟩
  cases rz
  exact wpAny_truthy_bool ⟨.bl t, H', I', rfl, q'⟩
theorem op_ownNotIn (c : Met X.prog X.w X.K X.mg X.base k C "__contains__" sp dvs) (hr : Rm j X.A) (hk : k ≤ j) : OpR X (compareOp .NotIn) (rOwnIn C true sp dvs) := by
  obtain ⟨f, fd, ps, ds, hc, hm, o, b', d⟩ := c.ex
  intro pins s σ H x y v u Q I rx ry h
  obtain ⟨b, dy, gs, rfl, hb, q⟩ := h
  cases ry
  obtain ⟨od, J⟩ := inst_of I hb
  obtain ⟨m, fr⟩ := I.fr
  refine PySem.W.notIn_K fr I.ok.mod.kin J hm.at_ hm.fn ?_
  refine wpAny_mono (run_ok (us := [.ref b, v]) (vs := [.ref b, x]) o (hr.mono hk) b' d pass0 I (.cons rfl (.cons rx .nil)) q) ?_ (fun _ _ z => z)
  rintro r s' ⟨z, H', I', rz, t, rfl, q'⟩
  cases rz
  exact wpAny_truthy_bool ⟨.bl (!t), H', I', rfl, q'⟩
/-- len(a) -/
def rOwnLen (C : Addr) (sp : Sp) (dvs : List V) : List V → Hp → VK → Prop := fun xs H Q => ∃ a dx fs, xs = [.ref a] ∧ H a = some (.ins C dx fs) ∧
  sp ([.ref a] ++ dvs) H (fun v H' => ∃ n : Nat, v = .int (n : Int) ∧ n ≤ sizeLine ∧ Q (.int (n : Int)) H') E0
theorem call_ownLen (c : Met X.prog X.w X.K X.mg X.base k C "__len__" sp dvs) (hr : Rm j X.A) (hk : k + 1 ≤ j) : CallR X (.builtin "len") (rOwnLen C sp dvs) := by
  obtain ⟨f, fd, ps, ds, hc, hm, o, b', d⟩ := c.ex
  intro pins s σ H xs us Q I r h
  obtain ⟨a, dx, fs, rfl, ha, q⟩ := h
  obtain ⟨u, rfl, ru⟩ := vals1 r
  cases ru
  obtain ⟨od, J⟩ := inst_of I ha
  obtain ⟨m, fr⟩ := I.fr
  refine PySem.W.len_K fr I.ok.mod.kin J hm.at_ hm.fn ?_
  refine wpAny_mono (run_in1 (us := [.ref a]) (vs := [.ref a]) o (hr.mono hk) b' d I (.cons rfl .nil) q) ?_ (fun _ _ z => z)
  rintro r s' ⟨z, H', I', rz, n, rfl, hn, q'⟩
  obtain ⟨t, rfl⟩ := rz
  have := sizeLine_eq
  exact ⟨⟨by omega, by omega⟩, .int _, H', I'.tok _, ⟨_, rfl⟩, q'⟩
/-- a == b, both of the class at C -/
theorem op_ownEq (c : Met X.prog X.w X.K X.mg X.base k C "__eq__" sp dvs) (hr : Rm j X.A) (hk : k ≤ j) : OpR X (compareOp .Eq) (rOwn C sp dvs) := by
  obtain ⟨f, fd, ps, ds, hc, hm, o, b', d⟩ := c.ex
  intro pins s σ H x y v u Q I rx ry h
  obtain ⟨a, b, dx, dy, fs, gs, rfl, rfl, ha, hb, q⟩ := h
  cases rx
  cases ry
  obtain ⟨od, J⟩ := inst_of I ha
  obtain ⟨od2, J2⟩ := inst_of I hb
  obtain ⟨m, fr⟩ := I.fr
  refine PySem.W.cmp_ofEq (PySem.W.cmp_K hr.rm.units0 fr I.ok.mod.kin J J2.type ?_ hm.at_ hm.fn ?_)
  · unfold PySem.W.notFirst
    simp
  refine wpAny_mono (run_ok (us := [.ref a, .ref b]) (vs := [.ref a, .ref b]) o (hr.mono hk) b' d pass0 I (.cons rfl (.cons rfl .nil)) q) ?_ (fun _ _ z => z)
  rintro r s' ⟨z, H', I', rz, nz, q'⟩
  have := nz r rz
  unfold PySem.W.CmpBack
  cases r <;> first | exact absurd rfl this | exact ⟨z, H', I', rz, q'⟩
end
end Eu
set_option Elab.async false
set_option linter.all false
set_option maxRecDepth 100000
set_option maxHeartbeats 4000000
namespace Eu
open PySem PySem.Spec PyProof.Rows L2

/-! ### sorted of tuples (int, text, ints ..) by their first items -/
def shp (i : Nat) : Bool := i == 1
theorem tups_of {h : Heap} {shape : Nat → Bool} : ∀ {vs : List Value}, (∀ v ∈ vs, ∃ f, TupOf h shape v f) → ∃ fs, TupsOf h shape vs fs
  | [], _ => ⟨[], .nil⟩
  | v :: vs, hv => by
    obtain ⟨f, hf⟩ := hv v List.mem_cons_self
    obtain ⟨fs, hfs⟩ := tups_of (vs := vs) fun u hu => hv u (List.mem_cons_of_mem _ hu)
    exact ⟨f :: fs, .cons hf hfs⟩
theorem ints_items : ∀ {xs : List V} {us : List Value} {i : Nat}, Vals xs us → (∀ x ∈ xs, ∃ n, x = V.int n) → 2 ≤ i → ∃ l, tupItems shp i us = some l
  | _, _, _, .nil, _, _ => ⟨[], rfl⟩
  | x :: xs, u :: us, i, .cons r t, h, hi => by
    obtain ⟨n, rfl⟩ := h x List.mem_cons_self
    obtain ⟨tk, rfl⟩ := r
    obtain ⟨l, e⟩ := ints_items (i := i + 1) t (fun y hy => h y (List.mem_cons_of_mem _ hy)) (by omega)
    refine ⟨Sum.inl n :: l, ?_⟩
    show (if shp i = true then none else (tupItems shp (i + 1) us).map (Sum.inl n :: ·)) = _
    rw [if_neg (by unfold shp; simp; omega), e]
    rfl
/-- x is a tuple with the first item k x, then a text, then ints -/
def TupK (H : Hp) (k : V → Int) (x : V) : Prop := ∃ (t : Addr) (z : Str) (r : List V), x = .ref t ∧ H t = some (.tup (.int (k x) :: .str z :: r)) ∧ ∀ y ∈ r, ∃ n, y = V.int n
theorem key_of {X : Cx} {pins : List (Addr × Obj)} {σ : L2.St} {H : Hp} {s : Shared} {k : V → Int} {u : Value} (I : Inv X pins σ H s) (h : TupK H k (backV u)) (hu : ∃ a, u = .ref a) :
    (∃ f, TupOf s.heap shp u f) ∧ ∃ l, PyProof.Rows.G.tupKeyC s.heap shp u = some (Sum.inl (k (backV u)) :: l) := by
  obtain ⟨a, rfl⟩ := hu
  obtain ⟨t, z, r, e, ht, hr⟩ := h
  cases e
  obtain ⟨_, its, rv, o, ho, hc, n, hd⟩ := I.hok _ _ ht
  cases rv with
  | cons r1 rv =>
    cases rv with
    | cons r2 rv =>
      obtain ⟨t1, rfl⟩ := r1
      obtain ⟨t2, rfl⟩ := r2
      rename_i us
      obtain ⟨l, el⟩ := ints_items (i := 2) rv hr (Nat.le_refl _)
      refine ⟨⟨_, a, o, _, n, rfl, ho, hc, hd, rfl, fun _ => ⟨_, _, rfl⟩, fun q => by cases q⟩, Sum.inr z.cps.toList :: l, ?_⟩
      unfold PyProof.Rows.G.tupKeyC
      have ht : PyProof.Rows.G.isTupObj s.heap (.ref a) = true := by
        unfold PyProof.Rows.G.isTupObj
        simp only [ho, hc]
        rfl
      rw [if_pos ht]
      unfold tupKey
      simp only [ho, hd]
      show (if shp 0 = true then none else (tupItems shp 1 (.str z t2 :: us)).map (Sum.inl (k (backV (.ref a))) :: ·)) = _
      rw [if_neg (by decide)]
      show ((if shp 1 = true then (tupItems shp 2 us).map (Sum.inr z.cps.toList :: ·) else none).map (Sum.inl (k (backV (.ref a))) :: ·)) = _
      rw [if_pos (show shp 1 = true from rfl), el]
      rfl
def rSortedTS (K : PySem.W.Frag) : List V → Hp → VK → Prop := fun vs H Q => ∃ (a : Addr) (xs : List V) (k : V → Int), vs = [V.ref a] ∧ SqL K H a xs ∧ (∀ x ∈ xs, TupK H k x) ∧
  ∀ (ys : List V) (p : Addr), ys.Perm xs → ys.Pairwise (fun x y => k x ≤ k y) → H p = none → Q (.ref p) (upd H p (.lst ys))
section
variable {X : Cx}
theorem cr_sortedTS : CallR X (.builtin "sorted") (rSortedTS X.K) := by
  intro pins s σ H vs us Q I r h
  obtain ⟨a, xs, k, rfl, hs, hx, q⟩ := h
  obtain ⟨its, rv, hl, hz⟩ := I.list hs
  obtain ⟨u, rfl, ru⟩ := vals1 r
  cases (show u = Value.ref a from ru)
  obtain ⟨e1, e2⟩ := refs_back rv fun x m => by
    obtain ⟨t, _, _, e, _⟩ := hx x m
    exact ⟨t, e⟩
  have hk : ∀ v ∈ its, (∃ f, TupOf s.heap shp v f) ∧ ∃ l, PyProof.Rows.G.tupKeyC s.heap shp v = some (Sum.inl (k (backV v)) :: l) := fun v hv =>
    key_of I (hx _ (by rw [e1]; exact List.mem_map.mpr ⟨v, hv, rfl⟩)) (e2 v hv)
  obtain ⟨fs, ht⟩ := tups_of fun v hv => (hk v hv).1
  refine PyProof.Rows.G.sorted_tups (shape := shp) hl.isList ht (fun v hv => ?_) (by rw [← rv.length]; exact hz) ?_
  · obtain ⟨l, e⟩ := (hk v hv).2
    exact ⟨_, e⟩
  · intro st' hp hso hst
    have pl : (arrOf st').toList.Perm (its.zip its) := by
      have := hp.toList
      rwa [pairsOf_toList] at this
    have eq12 : ∀ p ∈ (arrOf st').toList, p.1 = p.2 ∧ p.1 ∈ its := fun p hm => mem_zip_self (pl.mem_iff.mp hm)
    have outP : ((arrOf st').toList.map (·.2)).Perm its := by
      have := pl.map (·.2)
      rwa [show (its.zip its).map (·.2) = its from List.map_snd_zip (Nat.le_refl _)] at this
    have oe : ((arrOf st').map (·.2)).toList = (arrOf st').toList.map (·.2) := by simp
    have h3 : ∀ v ∈ (arrOf st').toList.map (·.2), ∃ a, v = Value.ref a := fun v hv => e2 v (outP.mem_iff.mp hv)
    obtain ⟨n, hn⟩ := sortedAll_at s.heap its ((arrOf st').map (·.2))
    have hd : s.heap.objs.size ≤ s.heap.objs.size + 1 := Nat.le_succ _
    have perm : (((arrOf st').toList.map (·.2)).map backV).Perm xs := by
      rw [e1]
      exact outP.map backV
    refine ⟨.ref (s.heap.objs.size + 1), upd H (s.heap.objs.size + 1) (.lst (((arrOf st').toList.map (·.2)).map backV)), I.laid (t' := s.toks) (fun b o e => sortedAll_old e) hd ⟨?_, (arrOf st').toList.map (·.2), n, vals_back h3, ?_⟩, rfl, q _ _ perm ?_ (I.hok.fresh hd)⟩
    · rw [perm.length_eq]
      exact hz
    · rw [hn]
      congr 2
      rw [← oe]
    · rw [List.pairwise_iff_getElem]
      intro i j hi hj hij
      have hjs : j < (arrOf st').size := by simpa using hj
      have his : i < (arrOf st').size := by omega
      have hle := hso i j (Nat.le_of_lt hij) (by
        have e := pl.length_eq
        rw [Array.length_toList, List.length_zip, Nat.min_self] at e
        rw [pairsOf_size, ← e]
        exact hjs)
      have kk : ∀ n (hn : n < (arrOf st').size), ∃ l, KK (PyProof.Rows.G.tupKindC s.heap shp) (arrOf st') n = (Sum.inl (k (backV (arrOf st')[n].2)) :: l : List (Int ⊕ List Nat)) := by
        intro n hn
        obtain ⟨c1, c2⟩ := eq12 (arrOf st')[n] (by simp)
        obtain ⟨l, e⟩ := (hk _ c2).2
        refine ⟨l, ?_⟩
        unfold KK
        rw [Array.getElem?_eq_getElem hn]
        show (PyProof.Rows.G.tupKeyC s.heap shp (arrOf st')[n].1).getD [] = _
        rw [e, c1]
        rfl
      obtain ⟨l1, k1⟩ := kk i his
      obtain ⟨l2, k2⟩ := kk j hjs
      rw [k1, k2] at hle
      have hle' : (decide (k (backV (arrOf st')[j].2) < k (backV (arrOf st')[i].2)) || (!decide (k (backV (arrOf st')[i].2) < k (backV (arrOf st')[j].2)) && lexLt itemOrd l2 l1)) = false := hle
      rw [Bool.or_eq_false_iff] at hle'
      have := of_decide_eq_false hle'.1
      simp only [List.getElem_map, Array.getElem_toList]
      omega
end
end Eu
set_option Elab.async false
set_option linter.all false
set_option maxRecDepth 100000
set_option maxHeartbeats 4000000
namespace Eu
open PySem PySem.Spec PyProof.Rows L2
/-! ### dict comprehensions -/
section
variable {α : Type} {J : It} {xs : List α} {Y : α → Hp → V → Hp → Prop} {S : Hp → Prop} {g : TG}
theorem dc_over {tt : TT} {tk tv : TE} {vs : List Nat} {σ : L2.St} {H1 : Hp} {D : Addr} {Qd : Hp → Prop} (o : Over J xs Y S) (Pv : Nat → Hp → Prop)
    (h0 : Pv 0 (upd H1 D (.dK []))) (hS : ∀ i H, i ≤ xs.length → Pv i H → S H)
    (hs : ∀ i x H v H', xs[i]? = some x → Pv i H → Y x H v H' → g v (wipe σ vs) H' fun σ2 H2 => wipe σ2 vs = wipe σ vs ∧ tt σ2 H2 fun b H3 =>
      if b = true then tk σ2 H3 fun y H4 => tv σ2 H4 fun z H5 => ∃ kvs k, y = kV k ∧ H5 D = some (.dK kvs) ∧ kvs.length < sizeLine ∧ Pv (i + 1) (upd H5 D (.dK (putK kvs k z))) else Pv (i + 1) H3)
    (hd : ∀ H, Pv xs.length H → Qd H) :
    ∃ W : Nat → Nat → Hp → Prop, (∃ m, W 0 m (upd H1 D (.dK []))) ∧ ∀ i m H, W i m H → (J.stop i H ∧ Qd H) ∨ (J.go i H ∧
      ∃ Nx : Hp → Prop, (∀ H', Nx H' → ∃ m', m' < m ∧ W (i + 1) m' H') ∧ ∀ x H', J.yld i H x H' → g x (wipe σ vs) H' fun σ2 H2 => wipe σ2 vs = wipe σ vs ∧ tt σ2 H2 fun b H3 =>
        if b = true then tk σ2 H3 fun y H4 => tv σ2 H4 fun z H5 => ∃ kvs k, y = kV k ∧ H5 D = some (.dK kvs) ∧ kvs.length < sizeLine ∧ Nx (upd H5 D (.dK (putK kvs k z))) else Nx H3) := by
  refine ⟨fun i m H => m = xs.length - i ∧ i ≤ xs.length ∧ Pv i H, ⟨xs.length, rfl, Nat.zero_le _, h0⟩, ?_⟩
  rintro i m H ⟨rfl, hi, p⟩
  have s := hS i H hi p
  by_cases hl : i < xs.length
  · have e : xs[i]? = some xs[i] := List.getElem?_eq_getElem hl
    refine .inr ⟨o.go i _ H e s, Pv (i + 1), fun H' p' => ⟨xs.length - (i + 1), by omega, rfl, hl, p'⟩, fun v H' y => ?_⟩
    exact hs i _ H v H' e p (o.yl i _ H v H' e s y)
  · have e : i = xs.length := by omega
    subst e
    exact .inl ⟨o.st H s, hd H p⟩
theorem length_merge : ∀ (more kvs : List (Key × V)), (mergeK kvs more).length ≤ kvs.length + more.length
  | [], kvs => Nat.le_refl _
  | q :: r, kvs => by
    have := length_merge r (putK kvs q.1 q.2)
    have := length_putK kvs q.1 q.2
    show (mergeK (putK kvs q.1 q.2) r).length ≤ kvs.length + (r.length + 1)
    omega
theorem merge_snoc (kvs more : List (Key × V)) (q : Key × V) : mergeK kvs (more ++ [q]) = putK (mergeK kvs more) q.1 q.2 := by
  unfold mergeK
  rw [List.foldl_append]
  rfl
/-- a dict comprehension without a test whose parts change nothing that stood: the i-th item gives f x -/
theorem dc_pure {tk tv : TE} {vs : List Nat} {σ : L2.St} {H1 : Hp} {D : Addr} {Qd : Hp → Prop} (o : Over J xs Y S) (f : α → Key × V)
    (nD : H1 D = none) (hn : xs.length ≤ sizeLine) (hS : ∀ H, Same H1 H → S H)
    (hs : ∀ x ∈ xs, ∀ H v H' (Nx : V → V → Hp → Prop), Same H1 H → Y x H v H' → (∀ H'', Same H H'' → Nx (kV (f x).1) (f x).2 H'') →
      g v (wipe σ vs) H' fun σ2 H2 => wipe σ2 vs = wipe σ vs ∧ tk σ2 H2 fun y H4 => tv σ2 H4 fun z H5 => Nx y z H5)
    (hd : ∀ H, Same H1 H → H D = some (.dK (mergeK [] (xs.map f))) → Qd H) (hg : ∀ (v : V) (σ : L2.St) (H : Hp) (A B : L2.St → Hp → Prop), (∀ σ H, A σ H → B σ H) → g v σ H A → g v σ H B) :
    ∃ W : Nat → Nat → Hp → Prop, (∃ m, W 0 m (upd H1 D (.dK []))) ∧ ∀ i m H, W i m H → (J.stop i H ∧ Qd H) ∨ (J.go i H ∧
      ∃ Nx : Hp → Prop, (∀ H', Nx H' → ∃ m', m' < m ∧ W (i + 1) m' H') ∧ ∀ x H', J.yld i H x H' → g x (wipe σ vs) H' fun σ2 H2 => wipe σ2 vs = wipe σ vs ∧ tYes σ2 H2 fun b H3 =>
        if b = true then tk σ2 H3 fun y H4 => tv σ2 H4 fun z H5 => ∃ kvs k, y = kV k ∧ H5 D = some (.dK kvs) ∧ kvs.length < sizeLine ∧ Nx (upd H5 D (.dK (putK kvs k z))) else Nx H3) := by
  refine dc_over o (fun i H => Same H1 H ∧ H D = some (.dK (mergeK [] ((xs.take i).map f)))) ⟨same_new nD, upd_same⟩ (fun i H _ p => hS H p.1) ?_ ?_
  · rintro i x H v H' e ⟨s, hD⟩ y
    have hi := (List.getElem?_eq_some_iff.mp e).1
    have key := hs x (List.mem_of_getElem? e) H v H' (fun y z H5 => ∃ kvs k, y = kV k ∧ H5 D = some (.dK kvs) ∧ kvs.length < sizeLine ∧
      (Same H1 (upd H5 D (.dK (putK kvs k z))) ∧ (upd H5 D (.dK (putK kvs k z))) D = some (.dK (mergeK [] ((xs.take (i + 1)).map f))))) s y ?_
    · refine hg _ _ _ _ _ ?_ key
      rintro σ2 H2 ⟨w, q⟩
      exact ⟨w, lc_yes q⟩
    · intro H4 s4
      refine ⟨_, _, rfl, s4 _ _ hD, ?_, fun b u z => ?_, ?_⟩
      · have := length_merge ((xs.take i).map f) []
        rw [List.length_map, List.length_take] at this
        have h0 : ([] : List (Key × V)).length = 0 := rfl
        omega
      · rw [upd_ne (ne_of_none z nD)]
        exact s4 _ _ (s _ _ z)
      · rw [upd_same, List.take_add_one, e, List.map_append]
        show _ = some (HO.dK (mergeK [] ((xs.take i).map f ++ [f x])))
        rw [merge_snoc]
  · rintro H ⟨s, hD⟩
    rw [List.take_length] at hD
    exact hd H s hD
end
/-- targets: names and pairs of names let what is wanted grow -/
theorem gName_mono {i : Nat} : ∀ (v : V) (σ : L2.St) (H : Hp) (A B : L2.St → Hp → Prop), (∀ σ H, A σ H → B σ H) → gName i v σ H A → gName i v σ H B := fun v σ H A B h k => h _ _ k

/-! ### what may be a list or a tuple -/
section
variable {X : Cx} {tg it : Expr} {w1 w2 : TI}
theorem pi_or (a : PI X tg it w1) (b : PI X tg it w2) : PI X tg it (fun σ H R => w1 σ H R ∨ w2 σ H R) :=
  ⟨fun pins s σ H R I h => h.elim (a.run pins s σ H R I) (b.run pins s σ H R I)⟩
end
end Eu
set_option Elab.async false
set_option linter.all false
set_option maxRecDepth 100000
set_option maxHeartbeats 4000000
namespace Eu
open PySem PySem.Spec PyProof.Rows L2

/-! ### != of a class that has __eq__ alone -/
section
variable {prog : Program} {w : World} {A : Around} {E : Value → Shared → Prop} {s : Shared} {K : PySem.W.Frag} {x C f : Addr} {ox : Obj} {od : Option Obj} {b : Value}
theorem ne_entry (hu : A.units < cLine) (X : K.In s.heap) (I : PySem.W.InstAt s.heap x ox C od) (hs : PySem.W.findIn K (.ref C) "__eq__" = some (some (.ref f))) (hf : PySem.W.isFn K (.ref f) = true) {Q : Fin → Shared → Prop}
    (h : wpAny (model prog w) A (call (.ref f) [.ref x, b]) (fun v s' => ∃ t, v = .bool t ∧ Q (.done (.ret (.bool (!t)))) s') E s) :
    wpAny (model prog w) A (Builtin.«object.__ne__» ⟨[.ref x, b], []⟩) Q E s := by
  unfold Builtin.«object.__ne__»
  refine wpAny_bind (m := slotArgs "__ne__" 1 ⟨[.ref x, b], []⟩) (wpAny_pure ?_)
  refine wpAny_bind (wpAny_cRoomFor hu ?_)
  refine wpAny_bind (PySem.W.ifBound_K X I hs hf (wpAny_mono h ?_ fun _ _ e => e))
  rintro v s' ⟨t, rfl, q⟩
  exact wpAny_bind (wpAny_truthy_bool (wpAny_pure q))
theorem ne_K {L : Addr} {h₀ : Heap} {m : Str → Option Value} {tb : Value} {Q : Value → Shared → Prop} (hu : A.units + 1 < cLine) (FR : Fr h₀ L s.heap m) (X₀ : K.In h₀) (I : PySem.W.InstAt s.heap x ox C od)
    (hb : PySem.W.Looks (model prog w) s.heap (typeOf b) (.ref C))
    (hm : PySem.W.mroIn K C (.type "object") = some true) (hn : PySem.W.findIn K (.ref C) "__ne__" = some (some (.builtin "object.__ne__")))
    (hs : PySem.W.findIn K (.ref C) "__eq__" = some (some (.ref f))) (hf : PySem.W.isFn K (.ref f) = true)
    (h : wpAny (model prog w) A.in1 (call (.ref f) [.ref x, b]) (fun v s' => ∃ t, v = .bool t ∧ Q (.bool (!t)) s') E s) :
    wpAny (model prog w) A (richCompare .NotEq (.ref x) b) Q E s := by
  have X := X₀.keeps FR.keep
  have one : wpAny (model prog w) A (tryCompare (.ref x) "__ne__" b) (fun r s' => ∃ v, r = some v ∧ Q v s') E s := by
    unfold tryCompare
    simp only [callSpecialIfBound?, bindSpecialIfBound?]
    refine wpAny_bind (wpAny_holding (wpAny_bind (wpAny_bind (wpAny_bind (I.type.here ((PySem.W.looks_findIn X hn).here ?_))))))
    refine wpAny_bind (wpAny_askSetting (wpAny_ite ?_))
    have fin : wpAny (model prog w) A (call (.builtin "object.__ne__") ([.ref x] ++ [b]) >>= fun v => pure (some v)) (fun r s' => ∃ v, r = some v ∧ v ≠ .notImplemented ∧ Q v s') E s := by
      refine wpAny_bind (wpAny_call (codeAny_call_builtin PySem.F.cmp_object.ne.plain PySem.F.cmpEntry_ne (PySem.W.check_slot PySem.F.cmpKind_ne PySem.F.cmpSplit_ne (I.type.andThen (PySem.W.looks_mroIn X hm)) (F.cmpArgs_ne _ _) ?_)))
      refine ne_entry (A := A.in1) hu X I hs hf (wpAny_mono h ?_ fun _ _ e => e)
      rintro v s' ⟨t, rfl, q⟩
      exact ⟨t, rfl, wpAny_pure ⟨_, rfl, (fun z => nomatch z), q⟩⟩
    simp only [PySem.F.cmp_object.ne.bind]
    split
    · refine wpAny_bind (wpAny_pure (wpAny_pure ?_))
      exact wpAny_mono fin (fun r s' z => by obtain ⟨v, rfl, nv, q⟩ := z; cases v <;> first | exact absurd rfl nv | exact wpAny_pure ⟨_, rfl, q⟩) fun _ _ e => e
    · refine wpAny_tryCatch (wpAny_bind (wpAny_pure (wpAny_pure ?_)))
      exact wpAny_mono fin (fun r s' z => by obtain ⟨v, rfl, nv, q⟩ := z; cases v <;> first | exact absurd rfl nv | exact wpAny_pure ⟨_, rfl, q⟩) fun _ _ e => e
  unfold richCompare
  simp only [oneThing_ref]
  refine wpAny_holding (wpAny_bind (wpAny_cRoomFor (Nat.lt_of_succ_lt hu) ?_))
  refine wpAny_bind (I.type.here (wpAny_bind (hb.here ?_)))
  rw [show (Value.ref C != Value.ref C) = false from by simp]
  simp only [Bool.false_eq_true, if_false]
  refine wpAny_bind (wpAny_pure ?_)
  simp only [Bool.false_eq_true, if_false]
  refine wpAny_bind (wpAny_mono one (fun r s' z => ?_) fun _ _ e => e)
  obtain ⟨v, rfl, hq⟩ := z
  exact wpAny_pure hq
end
section
variable {X : Cx} {k j : Nat} {C : Addr} {sp : Sp} {dvs : List V}
/-- a != b, both of the class at C -/
def rOwnNe (C : Addr) (sp : Sp) (dvs : List V) : R2 := fun x y H Q => ∃ a b dx dy fs gs, x = .ref a ∧ y = .ref b ∧ H a = some (.ins C dx fs) ∧ H b = some (.ins C dy gs) ∧
  sp ([x, y] ++ dvs) H (fun v H' => ∃ t, v = .bl t ∧ Q (.bl (!t)) H') E0
theorem op_ownNe (c : Met X.prog X.w X.K X.mg X.base k C "__eq__" sp dvs) (hr : Rm j X.A) (hk : k + 1 ≤ j) (hm : PySem.W.mroIn X.K C (.type "object") = some true)
    (hn : PySem.W.findIn X.K (.ref C) "__ne__" = some (some (.builtin "object.__ne__"))) : OpR X (compareOp .NotEq) (rOwnNe C sp dvs) := by
  obtain ⟨f, fd, ps, ds, hc, me, o, b', d⟩ := c.ex
  intro pins s σ H x y v u Q I rx ry h
  obtain ⟨a, b, dx, dy, fs, gs, rfl, rfl, ha, hb, q⟩ := h
  cases rx
  cases ry
  obtain ⟨od, J⟩ := inst_of I ha
  obtain ⟨od2, J2⟩ := inst_of I hb
  obtain ⟨m, fr⟩ := I.fr
  refine PySem.W.cmp_ofNotEq (ne_K (tb := .ref C) (by have := hr.rm.units; omega) fr I.ok.mod.kin J J2.type hm hn me.at_ me.fn ?_)
  refine wpAny_mono (run_in1 (us := [.ref a, .ref b]) (vs := [.ref a, .ref b]) o (hr.mono hk) b' d I (.cons rfl (.cons rfl .nil)) q) ?_ (fun _ _ z => z)
  rintro r s' ⟨z, H', I', rz, t, rfl, q'⟩
  cases rz
  exact ⟨t, rfl, .bl (!t), H', I', rfl, q'⟩
end

/-! ### methods with *others -/
def OkR (P : Program) (w : World) (K : PySem.W.Frag) (mg : Str → Option Value) (base : Heap) (k : Nat) (f : Addr) (sp : Sp) : Prop :=
  ∀ (A : Around) (out : List Env) (s : Shared) (H : Hp) (us : List Value) (vs : List V) (Q : VK) (E : XK),
    Rm k A → Env0 P w K mg base A out s H → Vals vs us → sp vs H Q E → codeAny (model P w) A (.call (.ref f) ⟨us, []⟩) (CR CX0 out P w H s Q E) s
structure MetS (P : Program) (w : World) (K : PySem.W.Frag) (mg : Str → Option Value) (base : Heap) (k : Nat) (C : Addr) (m : Str) (sp : Sp) : Prop where
  ex : ∃ f : Addr, Cls K C ∧ Meth K C m f ∧ OkR P w K mg base k f sp
section
variable {P : Program} {w : World} {K : PySem.W.Frag} {mg : Str → Option Value} {base : Heap}
/-- a method (self, *rest) -/
theorem Dm.star {C : Addr} {m qual p1 pv : Str} {st : Stmt} {N : List Str} {k : Nat} {sp : Sp} (D : Dm K C m qual st []) (c : Cls K C) (S : FnScope N [p1, pv] (defScope st))
    (hbd : ∀ (kV doc pm : Value) (an : Option Addr) (cdv ct : Value) (us rest : List Value), us.length = [p1].length →
      bindArgs (PySem.W.fnOf m qual (defArgs st) (defBody st) (defScope st) .none kV doc pm an cdv ct) ⟨us ++ rest, []⟩ = (newTuple rest >>= fun t => pure ([p1].zip us ++ [(pv, t)])))
    (hb : ∀ (f : Addr) (cdv : Value) (A : Around) (out : List Env) (s : Shared) (H : Hp) (vs : List V) (Q : VK) (E : XK),
      Rm k (A.deeper (envOfC qual (defScope st) s.heap.objs.size f cdv)) → sp vs H Q E →
      ∃ t, PSs (cxOf CX0 P w K mg base N qual (defScope st) f cdv A out s H E).nox (defBody st) t ∧
        t { nx := fun _ H' => Q .non H', rt := Q } (start N vs) H) :
    MetS P w K mg base (k + 1) C m (fun vs H Q E => ∃ x rest, vs = x :: rest ∧ rest.length ≤ sizeLine ∧ ∀ p, H p = none → sp [x, .ref p] (upd H p (.tup rest)) Q E) := by
  obtain ⟨f, oc, od, dV, kV, doc, pm, an, cdv, ct, osl, l, cd, me, dd⟩ := D.ex
  rcases dd with ⟨_, e⟩ | ⟨e, _⟩
  · subst e
    refine ⟨f, c, me, ?_⟩
    intro A outer s H us vs Q E hr e0 r hsp
    obtain ⟨x, rest, ev, hz, hq⟩ := hsp
    subst ev
    obtain ⟨u1, u2, eu, r1, r2⟩ := StX.vals_split (ws := [x]) (rest := rest) r
    subst eu
    have hn : H s.heap.objs.size = Option.none := e0.hok.fresh (Nat.le_refl _)
    have hl1 : u1.length = [p1].length := by rw [← r1.length]; rfl
    have hl2 : u2.length ≤ sizeLine := by rw [← r2.length]; exact hz
    refine StX.run_bnd l cd S hr.rm e0 (G := fun xs H2 => ∃ p, H p = Option.none ∧ xs = [x, V.ref p] ∧ H2 = upd H p (.tup rest)) (fun A' Ex Q' h => ?_) fun s2 H2 xs ⟨p, hp, ex, eH⟩ hr' => ?_
    · rw [hbd kV doc pm an cdv ct u1 u2 hl1]
      refine wpAny_bind (wpAny_newTuple (wpAny_pure ?_) hl2)
      have new : ObjOk P w (upd H s.heap.objs.size (.tup rest)) (s.heap.push ({ cls := .type "tuple", data := .seq u2.toArray } : Obj)) s.heap.objs.size (.tup rest) := ⟨hz, u2, r2, ⟨_, Heap.get?_push_size _ rfl, rfl, _, rfl⟩⟩
      have un := StX.un_laid (fs := frs outer) (s := s) (o := ({ cls := .type "tuple", data := .seq u2.toArray } : Obj)) (u := .tup rest) hn
      have z := h _ _ ([x] ++ [V.ref s.heap.objs.size]) (u1 ++ [Value.ref s.heap.objs.size]) (StX.env0_laid e0 new) un rfl (fun e s' z => False.elim z) (r1.append (.cons rfl .nil)) rfl ⟨_, hn, rfl, rfl⟩
      have e2 : [p1, pv].zip (u1 ++ [Value.ref s.heap.objs.size]) = [p1].zip u1 ++ [(pv, Value.ref s.heap.objs.size)] := List.zip_append (l₁ := [p1]) hl1.symm
      rw [e2] at z
      exact z
    · subst ex eH
      obtain ⟨t, h, q⟩ := hb f cdv A outer s2 _ _ Q E (hr.deeper _) (hq p hp)
      exact ⟨t, h.nox, q⟩
  · exact absurd rfl e
end
section
variable {X : Cx} {k j : Nat} {C : Addr} {m : Str} {sp : Sp} {pos apos : Pos} {e o : Expr} {es : List Expr} {ta : TE} {t : TA}
theorem run_okR {pins : List (Addr × Obj)} {σ : L2.St} {H : Hp} {s : Shared} {Q : VK} {us : List Value} {vs : List V} {f : Addr}
    (F : OkR X.prog X.w X.K X.mg X.base k f sp) (hr : Rm k X.A) (I : Inv X pins σ H s) (r : Vals vs us) (h : sp vs H Q E0) :
    wpAny (model X.prog X.w) X.A (call (.ref f) us) (EP X pins σ Q) X.xe s := by
  refine wpAny_call (codeAny_mono (F X.A X.stack s H us vs Q E0 hr I.env0 r h) ?_)
  intro res s' hq
  match res, hq with
  | .error e, hq => exact False.elim hq
  | .ok (.ret u), hq => exact I.after hq
  | .ok .next, hq => exact False.elim hq
  | .ok .brk, hq => exact False.elim hq
  | .ok .cont, hq => exact False.elim hq
theorem pe_mtS {pl : Sem Bool} (c : MetS X.prog X.w X.K X.mg X.base k C m sp) (hr : Rm j X.A) (hk : k ≤ j) (he : PE X o ta) (ha : PA X (e :: es) t)
    (hst : starEach (e :: es) X.env = (false, eval e X.env) :: starEach es X.env := by rfl)
    (hpl : (backTo pos (starEach es X.env)).any (·.1) = false := by rfl)
    (ht : eval (.Call (.Attribute o m apos) (e :: es) [] pos) X.env = (do
      let v ← eval o X.env
      standAt apos.atName
      let (g, l) ← holding [v] (getMethod v m pl)
      callWith pos g l (backTo pos (starEach (e :: es) X.env)) (backToKw pos (keywordEach [] X.env))) := by rfl) :
    PE X (.Call (.Attribute o m apos) (e :: es) [] pos) (tMeth C m sp [] E0 ta t) := by
  obtain ⟨f, hc, hm, ok⟩ := c.ex
  constructor
  intro pins s σ H Q I h
  refine PySem.W.methodCall_KW (pl := pl) (thn (he.run pins s σ H _ I h) ?_) ht
  rintro u s1 ⟨y, H1, I1, ry, a, dx, fs, ey, ea, l, q⟩
  subst ey
  have eu : u = Value.ref a := ry
  subst eu
  refine getmeth_ok I1 ea hc hm l ?_
  refine PySem.W.callWith_K (first := [.ref a]) (h₀ := X.base) I.ok.mod.kin hm.kp (thn (ha.run pos pins s1 σ H1 _ I1 q) ?_) hst hpl
  rintro us s2 ⟨vs, H2, I2, r, q2⟩
  rw [List.append_nil] at q2
  exact ⟨I2.kIn, run_okR (us := .ref a :: us) (vs := .ref a :: vs) (fun A out s H us vs Q E hr => ok A out s H us vs Q E hr) (hr.mono hk) I2 (.cons rfl r) q2⟩
theorem pe_mtS0 {pl : Sem Bool} (c : MetS X.prog X.w X.K X.mg X.base k C m sp) (hr : Rm j X.A) (hk : k ≤ j) (he : PE X o ta)
    (ht : eval (.Call (.Attribute o m apos) [] [] pos) X.env = (do
      let v ← eval o X.env
      standAt apos.atName
      let (g, l) ← holding [v] (getMethod v m pl)
      callWith pos g l (backTo pos (starEach [] X.env)) (backToKw pos (keywordEach [] X.env))) := by rfl) :
    PE X (.Call (.Attribute o m apos) [] [] pos) (tMeth C m sp [] E0 ta tNil) := by
  obtain ⟨f, hc, hm, ok⟩ := c.ex
  constructor
  intro pins s σ H Q I h
  refine PySem.W.methodCall_KW (pl := pl) (thn (he.run pins s σ H _ I h) ?_) ht
  rintro u s1 ⟨y, H1, I1, ry, a, dx, fs, ey, ea, l, q⟩
  subst ey
  have eu : u = Value.ref a := ry
  subst eu
  refine getmeth_ok I1 ea hc hm l ?_
  exact PySem.W.callWith_K0 (first := [.ref a]) I1.kIn hm.kp (run_okR (us := [.ref a]) (vs := [.ref a]) ok (hr.mono hk) I1 (.cons rfl .nil) q)
end
end Eu
set_option Elab.async false
set_option linter.all false
set_option maxRecDepth 100000
set_option maxHeartbeats 4000000
/-! Form sets as sorted lists of pairs. -/
namespace Fs
open PySem
abbrev Pr := Int × Str
def Srt (S : List Pr) : Prop := S.Pairwise fun a b => a.1 < b.1
def ins (p : Pr) : List Pr → List Pr
  | [] => [p]
  | q :: r => if p.1 < q.1 then p :: q :: r else if p.1 = q.1 then p :: r else q :: ins p r
def canon (xs : List Pr) : List Pr := xs.foldr ins []
theorem lk_cons (q : Pr) (r : List Pr) (k : Int) : (q :: r).lookup k = if k = q.1 then some q.2 else r.lookup k := by
  rw [List.lookup_cons]
  by_cases h : k = q.1
  · subst h; simp
  · rw [if_neg h, show (k == q.1) = false from beq_eq_false_iff_ne.mpr h]
theorem lk_ins (p : Pr) : ∀ (S : List Pr) (k : Int), (ins p S).lookup k = if k = p.1 then some p.2 else S.lookup k
  | [], k => by
    show ([p] : List Pr).lookup k = _
    rw [lk_cons]
  | q :: r, k => by
    unfold ins
    split
    · rw [lk_cons]
    · split
      · rename_i h1 h2
        rw [lk_cons, lk_cons]
        by_cases h : k = p.1
        · simp [h]
        · rw [if_neg h, if_neg h, if_neg (by rw [← h2]; exact h)]
      · rename_i h1 h2
        rw [lk_cons, lk_ins p r, lk_cons]
        by_cases h : k = p.1
        · subst h
          rw [if_neg (by omega), if_pos rfl, if_pos rfl]
        · rw [if_neg h, if_neg h]
theorem mem_ins {p x : Pr} : ∀ {S : List Pr}, x ∈ ins p S → x = p ∨ x ∈ S
  | [], h => by
    have : x ∈ [p] := h
    simp at this
    exact .inl this
  | q :: r, h => by
    unfold ins at h
    split at h
    · rcases List.mem_cons.mp h with h | h
      · exact .inl h
      · exact .inr h
    · split at h
      · rcases List.mem_cons.mp h with h | h
        · exact .inl h
        · exact .inr (List.mem_cons_of_mem _ h)
      · rcases List.mem_cons.mp h with h | h
        · exact .inr (by rw [h]; exact List.mem_cons_self)
        · rcases mem_ins h with h | h
          · exact .inl h
          · exact .inr (List.mem_cons_of_mem _ h)
theorem srt_ins {p : Pr} : ∀ {S : List Pr}, Srt S → Srt (ins p S)
  | [], _ => List.pairwise_singleton _ _
  | q :: r, h => by
    have h' := List.pairwise_cons.mp h
    unfold ins
    split
    · rename_i h1
      refine List.pairwise_cons.mpr ⟨fun x hx => ?_, h⟩
      rcases List.mem_cons.mp hx with e | hx
      · rw [e]; exact h1
      · exact Int.lt_trans h1 (h'.1 x hx)
    · split
      · rename_i h1 h2
        refine List.pairwise_cons.mpr ⟨fun x hx => ?_, h'.2⟩
        rw [h2]
        exact h'.1 x hx
      · rename_i h1 h2
        refine List.pairwise_cons.mpr ⟨fun x hx => ?_, srt_ins h'.2⟩
        rcases mem_ins hx with e | hx
        · rw [e]; omega
        · exact h'.1 x hx
theorem srt_canon : ∀ xs : List Pr, Srt (canon xs)
  | [] => List.Pairwise.nil
  | p :: r => srt_ins (srt_canon r)
theorem lk_canon (k : Int) : ∀ xs : List Pr, (canon xs).lookup k = xs.lookup k
  | [] => rfl
  | p :: r => by
    show (ins p (canon r)).lookup k = _
    rw [lk_ins, lk_canon k r, lk_cons]
theorem mem_canon {x : Pr} : ∀ {xs : List Pr}, x ∈ canon xs → x ∈ xs
  | [], h => h
  | p :: r, h => by
    rcases mem_ins (show x ∈ ins p (canon r) from h) with e | h
    · rw [e]; exact List.mem_cons_self
    · exact List.mem_cons_of_mem _ (mem_canon h)
theorem lk_none {S : List Pr} {k : Int} (h : ∀ x ∈ S, x.1 ≠ k) : S.lookup k = none := by
  induction S with
  | nil => rfl
  | cons q r ih =>
    rw [lk_cons, if_neg (fun e => h q List.mem_cons_self e.symm)]
    exact ih fun x hx => h x (List.mem_cons_of_mem _ hx)
theorem lk_mem {S : List Pr} {k : Int} {v : Str} (h : S.lookup k = some v) : (k, v) ∈ S := by
  induction S with
  | nil => cases h
  | cons q r ih =>
    rw [lk_cons] at h
    split at h
    · rename_i e
      cases h
      subst e
      exact List.mem_cons_self
    · exact List.mem_cons_of_mem _ (ih h)
theorem srt_ext : ∀ {S T : List Pr}, Srt S → Srt T → (∀ k, S.lookup k = T.lookup k) → S = T
  | [], [], _, _, _ => rfl
  | [], q :: r, _, _, h => by
    have := h q.1
    rw [lk_cons, if_pos rfl] at this
    cases this
  | q :: r, [], _, _, h => by
    have := h q.1
    rw [lk_cons, if_pos rfl] at this
    cases this
  | q :: r, q' :: r', hs, ht, h => by
    have hs' := List.pairwise_cons.mp hs
    have ht' := List.pairwise_cons.mp ht
    have e1 : q.1 = q'.1 := by
      by_cases h1 : q.1 < q'.1
      · have := h q.1
        rw [lk_cons, if_pos rfl, lk_none (S := q' :: r') (k := q.1) (fun x hx => by
          rcases List.mem_cons.mp hx with e | hx
          · rw [e]; omega
          · have := ht'.1 x hx; omega)] at this
        cases this
      · by_cases h2 : q'.1 < q.1
        · have := h q'.1
          rw [lk_cons q' r', if_pos rfl, lk_none (S := q :: r) (k := q'.1) (fun x hx => by
            rcases List.mem_cons.mp hx with e | hx
            · rw [e]; omega
            · have := hs'.1 x hx; omega)] at this
          cases this
        · omega
    have e2 : q.2 = q'.2 := by
      have := h q.1
      rw [lk_cons, if_pos rfl, lk_cons, if_pos e1] at this
      exact Option.some.inj this
    have e : q = q' := Prod.ext e1 e2
    subst e
    refine congrArg (q :: ·) (srt_ext hs'.2 ht'.2 fun k => ?_)
    by_cases hk : k = q.1
    · rw [lk_none (S := r) fun x hx => by have := hs'.1 x hx; omega, lk_none (S := r') fun x hx => by have := ht'.1 x hx; omega]
    · have := h k
      rwa [lk_cons, lk_cons, if_neg hk, if_neg hk] at this
theorem canon_srt {S : List Pr} (h : Srt S) : canon S = S := srt_ext (srt_canon S) h fun k => lk_canon k S
/-- keys all different -/
def Nd (m : List Pr) : Prop := (m.map (·.1)).Nodup
theorem Srt.nd {S : List Pr} (h : Srt S) : Nd S := by
  unfold Nd
  rw [List.nodup_iff_pairwise_ne, List.pairwise_map]
  exact h.imp fun h => by omega
theorem lk_of_mem : ∀ {m : List Pr} {x : Pr}, Nd m → x ∈ m → m.lookup x.1 = some x.2
  | q :: r, x, hn, hx => by
    have hn' := List.nodup_cons.mp (show (q.1 :: r.map (·.1)).Nodup from hn)
    rw [lk_cons]
    rcases List.mem_cons.mp hx with e | hx
    · rw [e, if_pos rfl]
    · have ne : x.1 ≠ q.1 := fun e => hn'.1 (by rw [← e]; exact List.mem_map_of_mem hx)
      rw [if_neg ne]
      exact lk_of_mem hn'.2 hx
theorem Nd.list : ∀ {m : List Pr}, Nd m → m.Nodup
  | [], _ => List.nodup_nil
  | q :: r, h => by
    have h' := List.nodup_cons.mp (show (q.1 :: r.map (·.1)).Nodup from h)
    exact List.nodup_cons.mpr ⟨fun hq => h'.1 (List.mem_map_of_mem hq), Nd.list h'.2⟩
theorem perm_of_lk {m S : List Pr} (h1 : Nd m) (h2 : Nd S) (h : ∀ k, m.lookup k = S.lookup k) : m.Perm S := by
  have n1 : m.Nodup := Nd.list h1
  have n2 : S.Nodup := Nd.list h2
  rw [List.perm_ext_iff_of_nodup n1 n2]
  intro x
  constructor
  · intro hx
    have := lk_of_mem h1 hx
    rw [h] at this
    exact lk_mem this
  · intro hx
    have := lk_of_mem h2 hx
    rw [← h] at this
    exact lk_mem this
theorem Perm.lk {m S : List Pr} (p : m.Perm S) (h : Nd m) (k : Int) : m.lookup k = S.lookup k := by
  have h2 : Nd S := (List.Perm.nodup_iff (p.map (fun x : Pr => x.1))).mp h
  cases e : S.lookup k with
  | some v => exact lk_of_mem h (p.mem_iff.mpr (lk_mem e))
  | none =>
    cases e' : m.lookup k with
    | none => rfl
    | some v =>
      have := lk_of_mem h2 (p.mem_iff.mp (lk_mem e'))
      rw [e] at this
      cases this
/-! ### operations -/
def hasK (S : List Pr) (k : Int) : Bool := (S.lookup k).isSome
def orS (a b : List Pr) : List Pr := canon (a ++ b)
def subS (a b : List Pr) : List Pr := a.filter fun p => !hasK b p.1
def keptS (a b : List Pr) : List Pr := a.filter fun p => hasK b p.1
def andS (a b : List Pr) : List Pr := if a.length < b.length then keptS a b else keptS b a
def xorS (a b : List Pr) : List Pr := orS (subS a b) (subS b a)
theorem srt_filter {f : Pr → Bool} {S : List Pr} (h : Srt S) : Srt (S.filter f) := List.Pairwise.filter _ h
theorem lk_filter {f : Int → Bool} (k : Int) : ∀ S : List Pr, (S.filter fun p => f p.1).lookup k = if f k = true then S.lookup k else none
  | [] => by split <;> rfl
  | q :: r => by
    rw [List.filter_cons]
    by_cases h : f q.1 = true
    · rw [if_pos h, lk_cons, lk_cons, lk_filter k r]
      by_cases e : k = q.1
      · subst e; simp [h]
      · simp [e]
    · rw [if_neg h, lk_filter k r, lk_cons]
      by_cases e : k = q.1
      · subst e; simp [h]
      · simp [e]
theorem lk_append (a b : List Pr) (k : Int) : (a ++ b).lookup k = (a.lookup k).or (b.lookup k) := List.lookup_append ..
theorem lk_or (a b : List Pr) (k : Int) : (orS a b).lookup k = (a.lookup k).or (b.lookup k) := by unfold orS; rw [lk_canon, lk_append]
theorem lk_sub (a b : List Pr) (k : Int) : (subS a b).lookup k = if (b.lookup k).isSome then none else a.lookup k := by
  unfold subS
  rw [lk_filter (f := fun k => !hasK b k)]
  unfold hasK
  cases (b.lookup k) <;> rfl
theorem lk_kept (a b : List Pr) (k : Int) : (keptS a b).lookup k = if (b.lookup k).isSome then a.lookup k else none := by
  unfold keptS
  rw [lk_filter (f := fun k => hasK b k)]
  rfl
theorem srt_or (a b : List Pr) : Srt (orS a b) := srt_canon _
theorem srt_sub {a b : List Pr} (h : Srt a) : Srt (subS a b) := srt_filter h
theorem srt_kept {a b : List Pr} (h : Srt a) : Srt (keptS a b) := srt_filter h
theorem srt_and {a b : List Pr} (h : Srt a) (h' : Srt b) : Srt (andS a b) := by unfold andS; split <;> exact srt_filter (by assumption)
theorem lk_xor (a b : List Pr) (k : Int) : (xorS a b).lookup k = if (a.lookup k).isSome then (if (b.lookup k).isSome then none else a.lookup k) else b.lookup k := by
  unfold xorS
  rw [lk_or, lk_sub, lk_sub]
  cases a.lookup k <;> cases b.lookup k <;> rfl
/-! ### a dict filled -/
/-- d[k] = v -/
def put (m : List Pr) (k : Int) (v : Str) : List Pr := if hasK m k then m.map (fun q => if q.1 = k then (k, v) else q) else m ++ [(k, v)]
theorem lk_map_put (k : Int) (v : Str) (j : Int) : ∀ m : List Pr, (m.map fun q => if q.1 = k then (k, v) else q).lookup j = (m.lookup j).map fun x => if j = k then v else x
  | [] => rfl
  | q :: r => by
    rw [List.map_cons, lk_cons, lk_cons, lk_map_put k v j r]
    by_cases e : q.1 = k
    · rw [if_pos e]
      by_cases ej : j = k
      · subst ej
        rw [if_pos rfl, if_pos e.symm]
        simp
      · rw [if_neg ej, if_neg (by rw [e]; exact ej)]
    · rw [if_neg e]
      by_cases ej : j = q.1
      · rw [if_pos ej, if_pos ej]
        simp [show ¬ j = k from fun h => e (by rw [← ej]; exact h)]
      · rw [if_neg ej, if_neg ej]
theorem lk_put (m : List Pr) (k : Int) (v : Str) (j : Int) : (put m k v).lookup j = if j = k then some v else m.lookup j := by
  unfold put hasK
  cases h : m.lookup k with
  | some x =>
    show (if true = true then _ else _ : List Pr).lookup j = _
    rw [if_pos rfl, lk_map_put]
    by_cases e : j = k
    · subst e; rw [h]; simp
    · rw [if_neg e]
      simp [e]
  | none =>
    show (if false = true then _ else _ : List Pr).lookup j = _
    rw [if_neg Bool.false_ne_true, lk_append, lk_cons]
    by_cases e : j = k
    · subst e; rw [h]; simp
    · rw [if_neg e, if_neg e]
      cases m.lookup j <;> rfl
theorem nd_put {m : List Pr} (k : Int) (v : Str) (h : Nd m) : Nd (put m k v) := by
  unfold put
  split
  · unfold Nd
    rw [List.map_map]
    have : (fun p : Pr => p.1) ∘ (fun q : Pr => if q.1 = k then (k, v) else q) = fun p : Pr => p.1 := by
      funext q
      show (if q.1 = k then (k, v) else q).1 = q.1
      split
      · rename_i e; exact e.symm
      · rfl
    rw [this]
    exact h
  · rename_i hk
    unfold Nd
    rw [List.map_append]
    refine List.nodup_append.mpr ⟨h, by simp, ?_⟩
    intro a ha b hb e
    have hb' : b = k := by simpa using hb
    subst hb'
    subst e
    obtain ⟨q, hq, rfl⟩ := List.mem_map.mp ha
    unfold hasK at hk
    rw [lk_of_mem h hq] at hk
    exact hk rfl
theorem len_put (m : List Pr) (k : Int) (v : Str) : (put m k v).length ≤ m.length + 1 := by
  unfold put
  split
  · rw [List.length_map]; omega
  · rw [List.length_append]; exact Nat.le_refl _
/-- {k: v for k, v in reversed(xs)} -/
def fillR (xs : List Pr) : List Pr := xs.foldr (fun p m => put m p.1 p.2) []
theorem fillR_nd : ∀ xs : List Pr, Nd (fillR xs)
  | [] => List.nodup_nil
  | p :: r => nd_put _ _ (fillR_nd r)
theorem fillR_lk (k : Int) : ∀ xs : List Pr, (fillR xs).lookup k = xs.lookup k
  | [] => rfl
  | p :: r => by
    show (put (fillR r) p.1 p.2).lookup k = _
    rw [lk_put, fillR_lk k r, lk_cons]
theorem fillR_len : ∀ xs : List Pr, (fillR xs).length ≤ xs.length
  | [] => Nat.le_refl _
  | p :: r => Nat.le_trans (len_put _ _ _) (Nat.succ_le_succ (fillR_len r))
theorem fillR_perm (xs : List Pr) : (fillR xs).Perm (canon xs) := perm_of_lk (fillR_nd xs) (srt_canon xs).nd fun k => by rw [fillR_lk, lk_canon]
end Fs
set_option Elab.async false
set_option linter.all false
set_option maxRecDepth 100000
set_option maxHeartbeats 4000000
namespace Eu
open PySem PySem.Spec PyProof.Rows L2
open C8 (pe_gc pss_cut)
/-- the builtins' names are the builtins' -/
structure Bl (mg : Str → Option Value) : Prop where
  len : mg "len" = none
  abs : mg "abs" = none
  isinstance : mg "isinstance" = none
  int : mg "int" = none
  bool : mg "bool" = none
  str : mg "str" = none
  tuple : mg "tuple" = none
  all : mg "all" = none
  any : mg "any" = none
  repr : mg "repr" = none
  range : mg "range" = none
  max : mg "max" = none
  min : mg "min" = none
  list : mg "list" = none
  dict : mg "dict" = none
  set : mg "set" = none
  sorted : mg "sorted" = none
  reversed : mg "reversed" = none
  enumerate : mg "enumerate" = none
  zip : mg "zip" = none
  sum : mg "sum" = none
  type : mg "type" = none
/-! ### things -/
def tyD : PyData → String
  | .none => "NoneType"
  | .bool _ => "bool"
  | .int _ => "int"
  | .str _ => "str"
  | .list _ => "list"
  | .tuple _ => "tuple"
  | .dict _ => "dict"
/-- data, or a dict at the top -/
def Th (K : PySem.W.Frag) (H : Hp) (x : V) (d : PyData) : Prop := Dp K H x d ∨ ∃ a z, x = .ref a ∧ H a = some (.dK [(Sum.inl 0, .str z)]) ∧ d = .dict [(.int 0, .str z)]
theorem Th.same {K : PySem.W.Frag} {H H' : Hp} {x : V} {d : PyData} (h : Th K H x d) (s : Same H H') : Th K H' x d := by
  rcases h with h | ⟨a, z, e, h, e'⟩
  · exact .inl (Same.dp s h)
  · exact .inr ⟨a, z, e, s _ _ h, e'⟩
theorem tyx_dp {K : PySem.W.Frag} {H : Hp} : ∀ {d : PyData} {x : V}, Dp K H x d → TyX K H x (.type (tyD d))
  | .none, _, .non => .base .non
  | .bool _, _, .bl b => .base (.bl b)
  | .int _, _, .int i => .base (.int i)
  | .str _, _, .str z => .base (.str z)
  | .list _, _, .lst h _ => by
    rcases h with (h | ⟨o, h⟩) | ⟨o, its, n, h, hc, _⟩
    · exact .base (.lst h)
    · exact .base (.frz h)
    · exact .kList h hc
  | .tuple _, _, .tup h _ => by
    rcases h with (h | ⟨o, h⟩) | ⟨o, its, n, h, hc, _⟩
    · exact .base (.tup h)
    · exact .fTuple h
    · exact .kTuple h hc
theorem tyx_th {K : PySem.W.Frag} {H : Hp} {d : PyData} {x : V} (h : Th K H x d) : TyX K H x (.type (tyD d)) := by
  rcases h with h | ⟨a, z, rfl, h, rfl⟩
  · exact tyx_dp h
  · exact .base (.dK h)
def isI : PyData → Bool
  | .int _ => true
  | .bool _ => true
  | _ => false
def isB : PyData → Bool
  | .bool _ => true
  | _ => false
def isS : PyData → Bool
  | .str _ => true
  | _ => false
def isT : PyData → Bool
  | .tuple _ => true
  | _ => false
theorem kit_int : ∀ d : PyData, kitB (tyD d) "int" = some (isI d)
  | .none => (by decide +kernel : kitB "NoneType" "int" = some false)
  | .bool _ => (by decide +kernel : kitB "bool" "int" = some true)
  | .int _ => (by decide +kernel : kitB "int" "int" = some true)
  | .str _ => (by decide +kernel : kitB "str" "int" = some false)
  | .list _ => (by decide +kernel : kitB "list" "int" = some false)
  | .tuple _ => (by decide +kernel : kitB "tuple" "int" = some false)
  | .dict _ => (by decide +kernel : kitB "dict" "int" = some false)
theorem kit_bool : ∀ d : PyData, kitB (tyD d) "bool" = some (isB d)
  | .none => (by decide +kernel : kitB "NoneType" "bool" = some false)
  | .bool _ => (by decide +kernel : kitB "bool" "bool" = some true)
  | .int _ => (by decide +kernel : kitB "int" "bool" = some false)
  | .str _ => (by decide +kernel : kitB "str" "bool" = some false)
  | .list _ => (by decide +kernel : kitB "list" "bool" = some false)
  | .tuple _ => (by decide +kernel : kitB "tuple" "bool" = some false)
  | .dict _ => (by decide +kernel : kitB "dict" "bool" = some false)
theorem kit_str : ∀ d : PyData, kitB (tyD d) "str" = some (isS d)
  | .none => (by decide +kernel : kitB "NoneType" "str" = some false)
  | .bool _ => (by decide +kernel : kitB "bool" "str" = some false)
  | .int _ => (by decide +kernel : kitB "int" "str" = some false)
  | .str _ => (by decide +kernel : kitB "str" "str" = some true)
  | .list _ => (by decide +kernel : kitB "list" "str" = some false)
  | .tuple _ => (by decide +kernel : kitB "tuple" "str" = some false)
  | .dict _ => (by decide +kernel : kitB "dict" "str" = some false)
theorem kit_tuple : ∀ d : PyData, kitB (tyD d) "tuple" = some (isT d)
  | .none => (by decide +kernel : kitB "NoneType" "tuple" = some false)
  | .bool _ => (by decide +kernel : kitB "bool" "tuple" = some false)
  | .int _ => (by decide +kernel : kitB "int" "tuple" = some false)
  | .str _ => (by decide +kernel : kitB "str" "tuple" = some false)
  | .list _ => (by decide +kernel : kitB "list" "tuple" = some false)
  | .tuple _ => (by decide +kernel : kitB "tuple" "tuple" = some true)
  | .dict _ => (by decide +kernel : kitB "dict" "tuple" = some false)

/-! ### what the functions tell -/
def whole : PyData → Bool
  | .int _ => true
  | _ => false
def between (lo hi : Int) : PyData → Bool
  | .int i => decide (lo ≤ i) && decide (i ≤ hi)
  | _ => false
def letter (c : Nat) : Bool := decide (97 ≤ c) && decide (c ≤ 122)
def letters (z : Str) : Bool := z.cps.toList.all letter
def kept : List Str := ["keys", "look", "self"]
def nameS (z : Str) : Bool := decide (1 ≤ z.length) && decide (z.length ≤ 4) && letters z && !(kept.contains z)
def nameD : PyData → Bool
  | .str z => nameS z
  | _ => false
def valueD : PyData → Bool
  | .int i => decide (i.natAbs < 10 ^ 40)
  | _ => false
def elemD : PyData → Bool
  | .tuple [k, n] => between 0 999999 k && nameD n
  | _ => false
def entryD : PyData → Bool
  | .tuple [k, n, v] => between 0 999999 k && nameD n && valueD v
  | _ => false
/-- a def of one thing that tells a bool -/
def spB (K : PySem.W.Frag) (f : PyData → Bool) : Sp := fun vs H Q _ => ∃ (x : V) (d : PyData), vs = [x] ∧ Th K H x d ∧ Small d ∧ ∀ H', Same H H' → Q (.bl (f d)) H'
/-- .. within bounds -/
def spR (K : PySem.W.Frag) : Sp := fun vs H Q _ => ∃ (x : V) (d : PyData) (lo hi : Int), vs = [x, .int lo, .int hi] ∧ Th K H x d ∧ Small d ∧ ∀ H', Same H H' → Q (.bl (between lo hi d)) H'
def spLetters : Sp := fun vs H Q _ => ∃ z : Str, vs = [.str z] ∧ z.length ≤ 100000 ∧ ∀ H', Same H H' → Q (.bl (letters z)) H'
theorem th_str {K : PySem.W.Frag} {H : Hp} {x : V} {z : Str} (h : Th K H x (.str z)) : x = .str z := by
  rcases h with h | ⟨a, z, e, h, e'⟩
  · cases h; rfl
  · cases e'
theorem th_int {K : PySem.W.Frag} {H : Hp} {x : V} {i : Int} (h : Th K H x (.int i)) : x = .int i := by
  rcases h with h | ⟨a, z, e, h, e'⟩
  · cases h; rfl
  · cases e'
theorem th_tuple {K : PySem.W.Frag} {H : Hp} {x : V} {ds : List PyData} (h : Th K H x (.tuple ds)) : ∃ a xs, x = .ref a ∧ SqT K H a xs ∧ DpAll K H xs ds := by
  rcases h with h | ⟨a, z, e, h, e'⟩
  · cases h with
    | tup h1 h2 => exact ⟨_, _, rfl, h1, h2⟩
  · cases e'
theorem dpAll_len {K : PySem.W.Frag} {H : Hp} : ∀ {xs : List V} {ds : List PyData}, DpAll K H xs ds → xs.length = ds.length
  | _, _, .nil => rfl
  | _, _, .cons _ h => congrArg (· + 1) (dpAll_len h)
theorem in_kept (z : Str) : inV (.str z) (kept.map V.str) = kept.contains z := by
  unfold inV kept
  simp only [List.map_cons, List.map_nil, List.any_cons, List.any_nil, List.contains_cons, List.contains_nil, eqV]
  congr 1
  · exact BEq.comm
  congr 1
  · exact BEq.comm
  congr 1
  exact BEq.comm
theorem len2 {α : Type} : ∀ {l : List α}, l.length = 2 → ∃ a b, l = [a, b]
  | [a, b], _ => ⟨a, b, rfl⟩
theorem len3 {α : Type} : ∀ {l : List α}, l.length = 3 → ∃ a b c, l = [a, b, c]
  | [a, b, c], _ => ⟨a, b, c, rfl⟩
theorem elem_no : ∀ {ds : List PyData}, ¬ ds.length = 2 → elemD (.tuple ds) = false
  | [], _ => rfl
  | [_], _ => rfl
  | [_, _], h => absurd rfl h
  | _ :: _ :: _ :: _, _ => rfl
theorem entry_no : ∀ {ds : List PyData}, ¬ ds.length = 3 → entryD (.tuple ds) = false
  | [], _ => rfl
  | [_], _ => rfl
  | [_, _], _ => rfl
  | [_, _, _], h => absurd rfl h
  | _ :: _ :: _ :: _ :: _, _ => rfl
theorem len_line {n : Nat} (h : n ≤ 100000) : n ≤ sizeLine := Nat.le_of_lt (Nat.lt_of_le_of_lt h (by decide))

/-! ### the bag -/
def Bag (H : Hp) (b : Addr) (n : Nat) : Prop := ∃ far mix cnt : Int, H b = some (.lst [.int far, .int mix, .int cnt]) ∧
  0 ≤ far ∧ 0 ≤ mix ∧ mix < 2305843009213693951 ∧ 0 ≤ cnt ∧ cnt ≤ n
theorem Bag.mono {H : Hp} {b : Addr} {n m : Nat} (h : Bag H b n) (l : n ≤ m) : Bag H b m := by
  obtain ⟨f, x, c, e, h1, h2, h3, h4, h5⟩ := h
  exact ⟨f, x, c, e, h1, h2, h3, h4, by omega⟩
theorem Bag.same {H H' : Hp} {b : Addr} {n : Nat} (h : Bag H b n) (s : Same H H') : Bag H' b n := by
  obtain ⟨f, x, c, e, h1⟩ := h
  exact ⟨f, x, c, s _ _ e, h1⟩
theorem Bag.some {H : Hp} {b : Addr} {n : Nat} (h : Bag H b n) : ∃ o, H b = some o := by
  obtain ⟨f, x, c, e, h1⟩ := h
  exact ⟨_, e⟩

def spTake : Sp := fun vs H Q _ => ∃ (b : Addr) (m : Int) (n : Nat), vs = [.ref b, .int m] ∧ 0 < m ∧ m < 1073741824 ∧ Bag H b n ∧ n ≤ 1000000 ∧
  ∀ (d : Int) (H' : Hp), 0 ≤ d → d < m → But b H H' → Bag H' b (n + 1) → Q (.int d) H'

def spBag (K : PySem.W.Frag) : Sp := fun vs H Q _ => ∃ (a : Addr) (ns : List Int) (i : Int), vs = [.ref a, .int i] ∧ SqL K H a (ns.map V.int) ∧ 0 ≤ i ∧ i ≤ 1000 ∧
  ∀ (p : Addr) (H' : Hp), Same H H' → H p = none → Bag H' p 0 → Q (.ref p) H'
theorem but_new {b p : Addr} {H : Hp} {o : HO} (h : H p = none) : But b H (upd H p o) := But.of_same (same_new h)
theorem Bag.new {b p : Addr} {H : Hp} {o : HO} {n : Nat} (h : Bag H b n) (e : H p = none) : Bag (upd H p o) b n := h.same (same_new e)
theorem Bag.ne {b p : Addr} {H : Hp} {n : Nat} (h : Bag H b n) (e : H p = none) : p ≠ b := fun z => by
  obtain ⟨o, ho⟩ := h.some
  rw [z, ho] at e
  cases e
theorem But.at {b c : Addr} {H H' : Hp} {o : HO} (h : But b H H') (n : c ≠ b) (e : H c = some o) : H' c = some o := by
  have := h c o (by rw [hid_ne n]; exact e)
  rw [hid_ne n] at this
  exact this
theorem But.put {b p : Addr} {H H' : Hp} {o : HO} (h : But b H H') (n : H p = none) : But b H (L2.upd H' p o) := fun c u e => by
  obtain ⟨nb, e'⟩ := hid_some e
  rw [hid_ne nb, upd_ne (ne_of_none e' n)]
  exact h.at nb e'
theorem Bag.put {b p : Addr} {H : Hp} {o : HO} {n : Nat} (h : Bag H b n) (e : p ≠ b) : Bag (upd H p o) b n := by
  obtain ⟨f, x, c, h1, h2⟩ := h
  exact ⟨f, x, c, by rw [upd_ne e.symm]; exact h1, h2⟩
theorem But.back {b : Addr} {H H1 H2 : Hp} (h : But b H1 H2) (s : Same H H1) (n : H b = none) : Same H H2 := fun c o e =>
  h.at (ne_of_none e n) (s c o e)
theorem Th.out {K : PySem.W.Frag} {b : Addr} {H : Hp} {x : V} {d : PyData} (h : Th K (hid H b) x d) : Th K H x d := h.same hid_same
end Eu
set_option Elab.async false
set_option linter.all false
set_option maxRecDepth 100000
set_option maxHeartbeats 4000000
namespace Eu
open PySem PySem.Spec PyProof.Rows L2
/-- item by item -/
def Rel2 {α : Type} (R : α → V → Hp → Prop) (H : Hp) (xs : List α) (ys : List V) : Prop := xs.length = ys.length ∧ ∀ (i : Nat) (x : α) (y : V), xs[i]? = some x → ys[i]? = some y → R x y H
theorem Rel2.snoc {α : Type} {R : α → V → Hp → Prop} {H : Hp} {xs : List α} {ys : List V} {x : α} {y : V} (h : Rel2 R H xs ys) (r : R x y H) : Rel2 R H (xs ++ [x]) (ys ++ [y]) := by
  obtain ⟨hl, h⟩ := h
  refine ⟨by simp [hl], fun i a b ea eb => ?_⟩
  by_cases hi : i < xs.length
  · rw [List.getElem?_append_left hi] at ea
    rw [List.getElem?_append_left (by omega)] at eb
    exact h i a b ea eb
  · have hi' : i = xs.length := by
      have := (List.getElem?_eq_some_iff.mp ea).1
      rw [List.length_append, List.length_singleton] at this
      omega
    subst hi'
    rw [List.getElem?_append_right (Nat.le_refl _)] at ea
    rw [List.getElem?_append_right (by omega)] at eb
    simp at ea
    simp [hl] at eb
    subst ea eb
    exact r
section
variable {α : Type} {J : It} {xs : List α} {Y : α → Hp → V → Hp → Prop} {S : Hp → Prop} {g : TG}
/-- a comprehension without a test: each item gives something new that R tells -/
theorem lc_rel {te : TE} {vs : List Nat} {σ : L2.St} {H1 : Hp} {D : Addr} {Qd : Hp → Prop} (o : Over J xs Y S) (R : α → V → Hp → Prop)
    (nD : H1 D = none) (hn : xs.length ≤ sizeLine) (hS : ∀ H, Same H1 H → S H)
    (hR : ∀ x y H H' acc, H D = some (.lst acc) → R x y H → But D H H' → R x y H')
    (hs : ∀ x ∈ xs, ∀ H v H' (Nx : V → Hp → Prop), Same H1 H → Y x H v H' → (∀ y H'', Same H H'' → R x y H'' → Nx y H'') →
      g v (wipe σ vs) H' fun σ2 H2 => wipe σ2 vs = wipe σ vs ∧ te σ2 H2 fun y H4 => Nx y H4)
    (hg : ∀ (v : V) (σ : L2.St) (H : Hp) (A B : L2.St → Hp → Prop), (∀ σ H, A σ H → B σ H) → g v σ H A → g v σ H B)
    (hd : ∀ H ys, Same H1 H → H D = some (.lst ys) → Rel2 R H xs ys → Qd H) :
    ∃ W : Nat → Nat → Hp → Prop, (∃ m, W 0 m (upd H1 D (.lst []))) ∧ ∀ i m H, W i m H → (J.stop i H ∧ Qd H) ∨ (J.go i H ∧
      ∃ Nx : Hp → Prop, (∀ H', Nx H' → ∃ m', m' < m ∧ W (i + 1) m' H') ∧ ∀ x H', J.yld i H x H' → g x (wipe σ vs) H' fun σ2 H2 => wipe σ2 vs = wipe σ vs ∧ tYes σ2 H2 fun b H3 =>
        if b = true then te σ2 H3 fun y H4 => ∃ acc, H4 D = some (.lst acc) ∧ acc.length < sizeLine ∧ Nx (upd H4 D (.lst (acc ++ [y]))) else Nx H3) := by
  refine lc_over o (fun i H => Same H1 H ∧ ∃ ys, H D = some (.lst ys) ∧ Rel2 R H (xs.take i) ys) ⟨same_new nD, [], upd_same, ?_⟩ (fun i H _ p => hS H p.1) ?_ ?_
  · exact ⟨rfl, fun i x y e => by simp at e⟩
  · rintro i x H v H' e ⟨s, ys, hD, hr⟩ y
    have hi := (List.getElem?_eq_some_iff.mp e).1
    have key := hs x (List.mem_of_getElem? e) H v H' (fun y H4 => ∃ acc, H4 D = some (.lst acc) ∧ acc.length < sizeLine ∧
      (Same H1 (upd H4 D (.lst (acc ++ [y]))) ∧ ∃ ys, (upd H4 D (.lst (acc ++ [y]))) D = some (.lst ys) ∧ Rel2 R (upd H4 D (.lst (acc ++ [y]))) (xs.take (i + 1)) ys)) s y ?_
    · refine hg _ _ _ _ _ ?_ key
      rintro σ2 H2 ⟨w, q⟩
      exact ⟨w, lc_yes q⟩
    · intro y H4 s4 r
      have hD4 := s4 _ _ hD
      refine ⟨ys, hD4, ?_, fun b u z => ?_, _, upd_same, ?_⟩
      · have := hr.1
        rw [List.length_take] at this
        omega
      · rw [upd_ne (ne_of_none z nD)]
        exact s4 _ _ (s _ _ z)
      · rw [List.take_add_one, e]
        refine Rel2.snoc ⟨hr.1, fun j a b ea eb => ?_⟩ (hR _ _ _ _ _ hD4 r But.upd)
        exact hR _ _ _ _ _ hD (hr.2 j a b ea eb) ((But.of_same s4).trans But.upd)
  · rintro H ⟨s, ys, hD, hr⟩
    rw [List.take_length] at hr
    exact hd H ys s hD hr
end
/-- a dict read while it is locked, and then opened again -/
theorem same_open {H H' : Hp} {d : Addr} {od : Obj} {u : HO} (hd : H d = some u) (s : Same (upd H d (.frz od u)) H') : Same H (upd H' d u) := fun c o e => by
  by_cases hc : c = d
  · subst hc
    rw [hd] at e
    rw [upd_same]
    exact e
  · rw [upd_ne hc]
    exact s _ _ (by rw [upd_ne hc]; exact e)
end Eu
set_option Elab.async false
set_option linter.all false
set_option maxRecDepth 100000
set_option maxHeartbeats 4000000
namespace Eu
open PySem PySem.Spec PyProof.Rows L2
open Fs
/-! ### form sets in the heap -/
def enc (p : Pr) : Key × V := (.inl p.1, .str p.2)
/-- an element whose key is one of D -/
def OkP (D : List Int) (p : Pr) : Prop := p.1 ∈ D ∧ 0 ≤ p.1 ∧ p.1 ≤ 999999 ∧ nameS p.2 = true
/-- a form set: sorted by keys, all keys in D -/
structure Good (D : List Int) (S : List Pr) : Prop where
  srt : Srt S
  ok : ∀ p ∈ S, OkP D p
  few : D.length ≤ 60
def FS (C : Addr) (D : List Int) (H : Hp) (x : V) (S : List Pr) : Prop := Good D S ∧ ∃ a dx d m, x = .ref a ∧ H a = some (.ins C dx [("forms", .ref d)]) ∧ H d = some (.dK (m.map enc)) ∧ List.Perm m S
theorem FS.same {C : Addr} {D : List Int} {H H' : Hp} {x : V} {S : List Pr} (h : FS C D H x S) (s : Same H H') : FS C D H' x S := by
  obtain ⟨g, a, dx, d, m, e, h1, h2, h3⟩ := h
  exact ⟨g, a, dx, d, m, e, s _ _ h1, s _ _ h2, h3⟩
theorem FS.but {C b : Addr} {D : List Int} {H H' : Hp} {x : V} {S : List Pr} {o : HO} (h : FS C D H x S) (s : But b H H') (hb : H b = some o) (n1 : ∀ C dx fs, o ≠ .ins C dx fs) (n2 : ∀ kvs, o ≠ .dK kvs) : FS C D H' x S := by
  obtain ⟨g, a, dx, d, m, e, h1, h2, h3⟩ := h
  refine ⟨g, a, dx, d, m, e, s.at (fun z => ?_) h1, s.at (fun z => ?_) h2, h3⟩
  · rw [z, hb] at h1
    exact n1 _ _ _ (Option.some.inj h1)
  · rw [z, hb] at h2
    exact n2 _ (Option.some.inj h2)
theorem len_of_nodup : ∀ {l m : List Int}, l.Nodup → (∀ x ∈ l, x ∈ m) → l.length ≤ m.length
  | [], _, _, _ => Nat.zero_le _
  | a :: l, m, hn, h => by
    have hn' := List.nodup_cons.mp hn
    have ha := h a List.mem_cons_self
    have := len_of_nodup (l := l) (m := m.erase a) hn'.2 fun x hx => (List.mem_erase_of_ne (fun e => hn'.1 (by rw [← e]; exact hx))).mpr (h x (List.mem_cons_of_mem _ hx))
    rw [List.length_erase_of_mem ha] at this
    have : 0 < m.length := List.length_pos_of_mem ha
    rw [List.length_cons]
    omega
theorem Good.len {D : List Int} {S : List Pr} (g : Good D S) : S.length ≤ 60 := by
  have := len_of_nodup (l := S.map fun p : Pr => p.1) (m := D) g.srt.nd fun k hk => by
    obtain ⟨p, hp, rfl⟩ := List.mem_map.mp hk
    exact (g.ok p hp).1
  rw [List.length_map] at this
  exact Nat.le_trans this g.few
theorem Good.canon {D : List Int} {xs : List Pr} (h : ∀ p ∈ xs, OkP D p) (f : D.length ≤ 60) : Good D (canon xs) := ⟨srt_canon _, fun p hp => h p (mem_canon hp), f⟩
theorem Good.or {D : List Int} {S T : List Pr} (a : Good D S) (b : Good D T) : Good D (orS S T) :=
  Good.canon (fun p hp => (List.mem_append.mp hp).elim (a.ok p) (b.ok p)) a.few
theorem Good.filter {D : List Int} {S : List Pr} {f : Pr → Bool} (a : Good D S) : Good D (S.filter f) := ⟨srt_filter a.srt, fun p hp => a.ok p (List.mem_filter.mp hp).1, a.few⟩
/-! ### lists of elements -/
abbrev vals (ts : List (Addr × Pr)) : List V := ts.map fun q => V.ref q.1
abbrev prs (ts : List (Addr × Pr)) : List Pr := ts.map (·.2)
def ElT (K : PySem.W.Frag) (H : Hp) (q : Addr × Pr) : Prop := SqT K H q.1 [.int q.2.1, .str q.2.2]
/-- a list or a tuple of elements -/
def Els (K : PySem.W.Frag) (D : List Int) (H : Hp) (a : Addr) (ts : List (Addr × Pr)) : Prop :=
  (SqL K H a (vals ts) ∨ SqT K H a (vals ts)) ∧ ∀ q ∈ ts, ElT K H q ∧ OkP D q.2
theorem Els.same {K : PySem.W.Frag} {D : List Int} {H H' : Hp} {a : Addr} {ts : List (Addr × Pr)} (h : Els K D H a ts) (s : Same H H') : Els K D H' a ts :=
  ⟨h.1.imp (fun z => s.seq z) (fun z => Same.tup s z), fun q hq => ⟨Same.tup s (h.2 q hq).1, (h.2 q hq).2⟩⟩
theorem small_el {D : List Int} {p : Pr} (h : OkP D p) : Small (.tuple [.int p.1, .str p.2]) ∧ elemD (.tuple [.int p.1, .str p.2]) = true := by
  obtain ⟨_, h0, h1, hn⟩ := h
  have hn' := hn
  unfold nameS at hn'
  simp only [Bool.and_eq_true, decide_eq_true_eq] at hn'
  obtain ⟨⟨⟨n1, n2⟩, n3⟩, n4⟩ := hn'
  refine ⟨⟨?_, ?_⟩, ?_⟩
  · show 1921 + 2 + (10 * p.2.length + 2 + 2 + 0) + 3 ≤ 100000
    omega
  · show (decide (p.1.natAbs.log2 < 1920) && ((p.2.cps.toList.all fun c => decide (c < 1114112)) && true)) = true
    have e1 : p.1.natAbs.log2 < 1920 := by
      by_cases hz : p.1.natAbs = 0
      · rw [hz]; decide
      · have := (Nat.log2_lt hz (k := 20)).mpr (by omega)
        omega
    rw [decide_eq_true e1, Bool.true_and, Bool.and_true, List.all_eq_true]
    intro c hc
    have := List.all_eq_true.mp (show p.2.cps.toList.all letter = true from n3) c hc
    unfold letter at this
    simp only [Bool.and_eq_true, decide_eq_true_eq] at this
    exact decide_eq_true (by omega)
  · show (between 0 999999 (.int p.1) && nameD (.str p.2)) = true
    show ((decide (0 ≤ p.1) && decide (p.1 ≤ 999999)) && nameS p.2) = true
    rw [decide_eq_true h0, decide_eq_true h1, hn]
    rfl
theorem dp_el {K : PySem.W.Frag} {H : Hp} {q : Addr × Pr} (h : ElT K H q) : Dp K H (.ref q.1) (.tuple [.int q.2.1, .str q.2.2]) := .tup h (.cons (.int _) (.cons (.str _) .nil))
theorem over_map {α β : Type} {J : It} {xs : List α} {f : α → β} {Y : β → Hp → V → Hp → Prop} {S : Hp → Prop} (o : Over J (xs.map f) Y S) : Over J xs (fun x => Y (f x)) S where
  go := fun i x H e s => o.go i (f x) H (by rw [List.getElem?_map, e]; rfl) s
  st := fun H s => by have := o.st H s; rwa [List.length_map] at this
  yl := fun i x H v H' e s y => o.yl i (f x) H v H' (by rw [List.getElem?_map, e]; rfl) s y
/-! ### dicts of elements -/
theorem any_enc (m : List Pr) (k : Int) : ((m.map enc).any fun kv => decide (kv.1 = Sum.inl k)) = hasK m k := by
  induction m with
  | nil => rfl
  | cons q r ih =>
    rw [List.map_cons, List.any_cons, ih]
    unfold hasK
    rw [lk_cons]
    by_cases e : k = q.1
    · subst e
      simp [enc]
    · rw [if_neg e, show decide ((enc q).1 = Sum.inl k) = false from decide_eq_false (fun z => e (Sum.inl.inj z).symm)]
      rfl
theorem val_enc (m : List Pr) (k : Int) : valV (m.map enc) (Sum.inl k) = (m.lookup k).map V.str := by
  induction m with
  | nil => rfl
  | cons q r ih =>
    rw [lk_cons]
    by_cases e : k = q.1
    · subst e
      rw [if_pos rfl, List.map_cons]
      exact valV_pos (p := enc q) rfl
    · rw [if_neg e, ← ih, List.map_cons]
      unfold valV
      rw [List.find?_cons, show decide ((enc q).1 = Sum.inl k) = false from decide_eq_false (fun z => e (Sum.inl.inj z).symm)]
theorem put_enc (m : List Pr) (k : Int) (v : Str) : putK (m.map enc) (Sum.inl k) (.str v) = (put m k v).map enc := by
  unfold putK put
  rw [any_enc]
  split
  · rw [List.map_map, List.map_map]
    apply List.map_congr_left
    intro q _
    show (if (enc q).1 = Sum.inl k then ((enc q).1, V.str v) else enc q) = enc (if q.1 = k then (k, v) else q)
    by_cases e : q.1 = k
    · rw [if_pos e, if_pos (show (enc q).1 = Sum.inl k from congrArg Sum.inl e)]
      show (Sum.inl q.1, V.str v) = enc (k, v)
      rw [e]; rfl
    · rw [if_neg e, if_neg (show ¬ (enc q).1 = Sum.inl k from fun z => e (Sum.inl.inj z))]
  · rw [List.map_append]
    rfl
theorem merge_fill : ∀ xs : List Pr, mergeK [] (xs.reverse.map enc) = (fillR xs).map enc
  | [] => rfl
  | p :: r => by
    rw [List.reverse_cons, List.map_append]
    show mergeK [] (r.reverse.map enc ++ [enc p]) = (put (fillR r) p.1 p.2).map enc
    rw [merge_snoc, merge_fill r]
    exact put_enc _ _ _
/-! ### what the functions of a form set tell -/
def spCheck (K : PySem.W.Frag) : Sp := fun vs H Q _ => ∃ (D : List Int) (a : Addr) (ts : List (Addr × Pr)), vs = [.ref a] ∧ Els K D H a ts ∧ ∀ H', Same H H' → Q .non H'
def spInit (K : PySem.W.Frag) (C : Addr) : Sp := fun vs H Q _ => ∃ (D : List Int) (x dx a : Addr) (ts : List (Addr × Pr)), vs = [.ref x, .ref a] ∧ H x = some (.ins C dx []) ∧ Els K D H a ts ∧ ts.length ≤ 1000 ∧ D.length ≤ 60 ∧
  ∀ H', But x H H' → FS C D H' (.ref x) (canon (prs ts)) → Q .non H'
def spMembers (C : Addr) : Sp := fun vs H Q _ => ∃ (D : List Int) (x : V) (S : List Pr), vs = [x] ∧ FS C D H x S ∧
  ∀ (p : Addr) (ts : List (Addr × Pr)) (H' : Hp), Same H H' → H' p = some (.lst (vals ts)) → prs ts = S → (∀ q ∈ ts, H' q.1 = some (.tup [.int q.2.1, .str q.2.2])) → Q (.ref p) H'
def hasD (S : List Pr) : PyData → Bool
  | .int k => hasK S k
  | _ => false
def spHas (K : PySem.W.Frag) (C : Addr) : Sp := fun vs H Q _ => ∃ (D : List Int) (x y : V) (S : List Pr) (d : PyData), vs = [x, y] ∧ FS C D H x S ∧ Th K H y d ∧ Small d ∧ ∀ H', Same H H' → Q (.bl (hasD S d)) H'
def spBin (C : Addr) (f : List Pr → List Pr → List Pr) : Sp := fun vs H Q _ => ∃ (D : List Int) (x y : V) (S T : List Pr), vs = [x, y] ∧ FS C D H x S ∧ FS C D H y T ∧ ∀ z H', Same H H' → FS C D H' z (f S T) → Q z H'
def spLen (C : Addr) : Sp := fun vs H Q _ => ∃ (D : List Int) (x : V) (S : List Pr), vs = [x] ∧ FS C D H x S ∧ ∀ H', Same H H' → Q (.int (S.length : Int)) H'
/-- == is told of equal ones alone -/
def spSame (C : Addr) : Sp := fun vs H Q _ => ∃ (D : List Int) (x y : V) (S : List Pr), vs = [x, y] ∧ FS C D H x S ∧ FS C D H y S ∧ ∀ H', Same H H' → Q (.bl true) H'
def spKeys (C : Addr) : Sp := fun vs H Q _ => ∃ (D : List Int) (x y : V) (S T : List Pr), vs = [x, y] ∧ FS C D H x S ∧ FS C D H y T ∧ S.map (·.1) = T.map (·.1) ∧ ∀ H', Same H H' → Q (.bl true) H'
/-- what is known of the class -/
structure Fc (K : PySem.W.Frag) (mg : Str → Option Value) (C : Addr) : Prop where
  g_FormSet : ∃ u, mg "FormSet" = some u ∧ RelV (.ref C) u
  cls : Cls K C
  na : NoAttr K C "forms"
  sf : PySem.W.selfFirst K C = true
  mro : PySem.W.mroIn K C (.type "object") = some true
  ne : PySem.W.findIn K (.ref C) "__ne__" = some (some (.builtin "object.__ne__"))
  ha : PySem.W.findIn K (.ref C) "__class__" = some (some (.builtin "object.__class__"))
  hn : PySem.W.specialIn K (.builtin "object.__class__") "__get__" = some (some (.builtin "getset_descriptor.__get__"))
  htk : PySem.W.takesIn K (.builtin "object.__class__") = some true
theorem kit_self {K : PySem.W.Frag} {t : Value} (h : (t == t) = true := by simp) : PySem.W.kitOne K t t = some true := by
  unfold PySem.W.kitOne
  rw [if_pos h]
theorem op_ownB {X : Cx} {k j : Nat} {C : Addr} {sp : Sp} {dvs : List V} {op : Operator} {m : Str} (e : PySem.dunder op.info.2 = m) (c : Met X.prog X.w X.K X.mg X.base k C m sp dvs) (hr : Rm j X.A) (hk : k ≤ j) (hsf : PySem.W.selfFirst X.K C = true) :
    OpR X (binaryOp op) (rOwn C sp dvs) := by
  subst e
  exact op_own c hr hk hsf
/-! ### how they are used -/
section
variable {K : PySem.W.Frag} {C : Addr} {D : List Int} {H : Hp} {x y : V} {S T : List Pr}
theorem FS.ins (h : FS C D H x S) : ∃ a dx fs, x = .ref a ∧ H a = some (.ins C dx fs) ∧ fs.lookup (("members" : String) : Str) = none ∧ fs.lookup (("kept" : String) : Str) = none ∧ fs.lookup (("joined" : String) : Str) = none ∧ fs.lookup (("equals" : String) : Str) = none := by
  obtain ⟨g, a, dx, d, m, e, h1, h2, h3⟩ := h
  exact ⟨a, dx, _, e, h1, rfl, rfl, rfl, rfl⟩
/-- FormSet(list) -/
theorem use_make {a : Addr} {ts : List (Addr × Pr)} {Q : VK} (e : Els K D H a ts) (l : ts.length ≤ 1000) (f : D.length ≤ 60) (q : ∀ z H', Same H H' → FS C D H' z (canon (prs ts)) → Q z H') :
    ∀ x dx, H x = none → H dx = none → dx ≠ x → spInit K C (.ref x :: ([V.ref a] ++ [])) (upd (upd H dx (.own x)) x (.ins C dx [])) (fun v H2 => v = .non ∧ Q (.ref x) H2) E0 := by
  intro x dx hx hdx ne
  have s1 : Same H (upd H dx (.own x)) := same_new hdx
  have hx1 : (upd H dx (.own x)) x = none := by rw [upd_ne ne.symm]; exact hx
  have s2 := s1.trans (same_new (o := .ins C dx []) hx1)
  refine ⟨D, x, dx, a, ts, rfl, upd_same, e.same s2, l, f, fun H' b fs => ⟨rfl, q _ _ (fun c o z => ?_) fs⟩⟩
  exact b.at (ne_of_none z hx) (s2 _ _ z)
theorem use_bin {f : List Pr → List Pr → List Pr} {Q : VK} (h1 : FS C D H x S) (h2 : FS C D H y T) (q : ∀ z H', Same H H' → FS C D H' z (f S T) → Q z H') : rOwn C (spBin C f) [] x y H Q := by
  obtain ⟨a, dx, fs, rfl, ha, _⟩ := h1.ins
  obtain ⟨b, dy, gs, rfl, hb, _⟩ := h2.ins
  refine ⟨a, b, dx, dy, fs, gs, rfl, rfl, ha, hb, D, _, _, S, T, rfl, h1, h2, fun z H' s fz => ⟨?_, q z H' s fz⟩⟩
  obtain ⟨c, _, _, rfl, _⟩ := fz.ins
  intro u r
  cases r
  exact fun z => nomatch z
theorem use_same {Q : VK} (h1 : FS C D H x S) (h2 : FS C D H y S) (q : ∀ H', Same H H' → Q (.bl true) H') : rOwn C (spSame C) [] x y H Q := by
  obtain ⟨a, dx, fs, rfl, ha, _⟩ := h1.ins
  obtain ⟨b, dy, gs, rfl, hb, _⟩ := h2.ins
  refine ⟨a, b, dx, dy, fs, gs, rfl, rfl, ha, hb, D, _, _, S, rfl, h1, h2, fun H' s => ⟨?_, q H' s⟩⟩
  intro u r
  cases r
  exact fun z => nomatch z
theorem use_ne {Q : VK} (h1 : FS C D H x S) (h2 : FS C D H y S) (q : ∀ H', Same H H' → Q (.bl false) H') : rOwnNe C (spSame C) [] x y H Q := by
  obtain ⟨a, dx, fs, rfl, ha, _⟩ := h1.ins
  obtain ⟨b, dy, gs, rfl, hb, _⟩ := h2.ins
  exact ⟨a, b, dx, dy, fs, gs, rfl, rfl, ha, hb, D, _, _, S, rfl, h1, h2, fun H' s => ⟨true, rfl, q H' s⟩⟩
theorem use_len {Q : VK} (h1 : FS C D H x S) (q : ∀ H', Same H H' → Q (.int (S.length : Int)) H') : rOwnLen C (spLen C) [] [x] H Q := by
  obtain ⟨a, dx, fs, rfl, ha, _⟩ := h1.ins
  have := h1.1.len
  exact ⟨a, dx, fs, rfl, ha, D, _, S, rfl, h1, fun H' s => ⟨_, rfl, Nat.le_trans this (by decide), q H' s⟩⟩
theorem use_in {neg : Bool} {k : Int} {Q : VK} (h1 : FS C D H x S) (hk : 0 ≤ k) (hk' : k ≤ 999999) (q : ∀ H', Same H H' → Q (.bl (if neg then !hasK S k else hasK S k)) H') : rOwnIn C neg (spHas K C) [] (.int k) x H Q := by
  obtain ⟨a, dx, fs, rfl, ha, _⟩ := h1.ins
  refine ⟨a, dx, fs, rfl, ha, D, _, _, S, .int k, rfl, h1, .inl (.int k), ⟨?_, ?_⟩, fun H' s => ⟨_, rfl, q H' s⟩⟩
  · show 1921 ≤ 100000; decide
  · show decide (k.natAbs.log2 < 1920) = true
    refine decide_eq_true ?_
    by_cases hz : k.natAbs = 0
    · rw [hz]; decide
    · have := (Nat.log2_lt hz (k := 20)).mpr (by omega)
      omega
end
end Eu
set_option Elab.async false
set_option linter.all false
set_option maxRecDepth 100000
set_option maxHeartbeats 4000000
namespace Eu
open PySem PySem.Spec PyProof.Rows L2
open C8 (pe_gc pss_cut)
def top (i : Nat) : Stmt := PySem.Challenge.pw_equalunlike_k05_whole_laws_of_sets_with.main.body.getD i (.Pass ⟨0, 0, 0, 0⟩)
/-- the module's constants -/
structure Gc (K : PySem.W.Frag) (mg : Str → Option Value) (kw : Addr) : Prop where
  g_LONGEST_NAME : ∃ u, mg "LONGEST_NAME" = some u ∧ RelV (.int 4) u
  g_MOST_KEY : ∃ u, mg "MOST_KEY" = some u ∧ RelV (.int 999999) u
  g_KEPT_WORDS : ∃ u, mg "KEPT_WORDS" = some u ∧ RelV (.ref kw) u
  kw : ∀ H, SqT K H kw (kept.map V.str)
abbrev s_is_integer : Stmt := top 5
theorem sc_is_integer : FnScope ["thing"] ["thing"] (defScope s_is_integer) :=
  ⟨rfl, rfl, rfl, by decide +kernel, rfl, by decide +kernel, by decide +kernel⟩
abbrev s_in_range : Stmt := top 6
theorem sc_in_range : FnScope ["thing", "least", "most"] ["thing", "least", "most"] (defScope s_in_range) :=
  ⟨rfl, rfl, rfl, by decide +kernel, rfl, by decide +kernel, by decide +kernel⟩
abbrev s_is_letters : Stmt := top 7
theorem sc_is_letters : FnScope ["text", "sign"] ["text"] (defScope s_is_letters) :=
  ⟨rfl, rfl, rfl, by decide +kernel, rfl, by decide +kernel, by decide +kernel⟩
abbrev s_is_name : Stmt := top 8
theorem sc_is_name : FnScope ["thing"] ["thing"] (defScope s_is_name) :=
  ⟨rfl, rfl, rfl, by decide +kernel, rfl, by decide +kernel, by decide +kernel⟩
abbrev s_is_key : Stmt := top 9
theorem sc_is_key : FnScope ["thing"] ["thing"] (defScope s_is_key) :=
  ⟨rfl, rfl, rfl, by decide +kernel, rfl, by decide +kernel, by decide +kernel⟩
abbrev s_is_element : Stmt := top 10
theorem sc_is_element : FnScope ["thing"] ["thing"] (defScope s_is_element) :=
  ⟨rfl, rfl, rfl, by decide +kernel, rfl, by decide +kernel, by decide +kernel⟩
section
variable {P : Program} {w : World} {K : PySem.W.Frag} {mg : Str → Option Value} {base : Heap} {kw : Addr}
theorem ok_is_integer (B : Bl mg) (D : Df K mg "is_integer" s_is_integer) : Cal P w K mg base 1 "is_integer" (spB K whole) [] := by
  refine D.cal sc_is_integer (fun _ _ _ _ _ _ us hl => match us, hl with | [_], _ => rfl) (fun vs H Q E h => ?_) (fun f cdv A out s H vs Q E hr h => ?_)
  · obtain ⟨x, d, rfl, _⟩ := h
    rfl
  · obtain ⟨x, d, rfl, h, hc, q⟩ := h
    refine ⟨_, (pss_one (ps_ret (pe_and (pe_callB call_isi (by rfl) B.isinstance (by decide +kernel) (pa_cons (pv 0) (pa_cons (pe_bltn (v := .ty "int") (u := .type "int") (by rfl) B.int (by decide +kernel) rfl) pa_nil))) (pe_one (pe_not (pe_callB call_isi (by rfl) B.isinstance (by decide +kernel) (pa_cons (pv 0) (pa_cons (pe_bltn (v := .ty "bool") (u := .type "bool") (by rfl) B.bool (by decide +kernel) rfl) pa_nil)))))))), ?_⟩
    refine ⟨_, rfl, _, _, _, _, _, rfl, .ty _, tyx_th h, kit_ty (kit_int d), _, rfl, ?_⟩
    have fin : ∀ b : Bool, b = whole d → Q (.bl b) H := fun b e => by rw [e]; exact q H (Same.refl _)
    cases d with
    | int i =>
      refine iteT ?_
      refine ⟨_, rfl, _, _, _, _, _, rfl, .ty _, tyx_th h, kit_ty (kit_bool _), _, rfl, ?_⟩
      exact fin _ rfl
    | bool b =>
      refine iteT ?_
      refine ⟨_, rfl, _, _, _, _, _, rfl, .ty _, tyx_th h, kit_ty (kit_bool _), _, rfl, ?_⟩
      exact fin _ rfl
    | _ => exact iteF (fin _ rfl)
theorem ok_in_range (c_is_integer : Cal P w K mg base 1 "is_integer" (spB K whole) []) (D : Df K mg "in_range" s_in_range) : Cal P w K mg base 2 "in_range" (spR K) [] := by
  refine D.cal sc_in_range (fun _ _ _ _ _ _ us hl => match us, hl with | [_, _, _], _ => rfl) (fun vs H Q E h => ?_) (fun f cdv A out s H vs Q E hr h => ?_)
  · obtain ⟨x, d, lo, hi, rfl, _⟩ := h
    rfl
  · obtain ⟨x, d, lo, hi, rfl, h, hc, q⟩ := h
    refine ⟨_, (pss_one (ps_ret (pe_and (pe_c c_is_integer hr (by decide) (by rfl) (pa_cons (pv 0) pa_nil)) (pe_one (pe_chain op_le op_le (pv 1) (pv 0) (pv 2)))))), ?_⟩
    refine ⟨_, rfl, x, d, rfl, h, hc, fun H1 s1 => ⟨_, rfl, ?_⟩⟩
    cases d with
    | int i =>
      have e : x = .int i := by
        rcases h with h | ⟨a, z, e, h, e'⟩
        · cases h; rfl
        · cases e'
      subst e
      refine iteT ?_
      refine ⟨_, rfl, _, rfl, _, _, rfl, rfl, _, rfl, ?_⟩
      have fin : ∀ b : Bool, b = between lo hi (.int i) → Q (.bl b) H1 := fun b e => by rw [e]; exact q H1 s1
      refine ite2 (fun e => ?_) (fun e => ?_)
      · refine ⟨_, rfl, _, _, rfl, rfl, fin _ ?_⟩
        show decide (i ≤ hi) = (decide (lo ≤ i) && decide (i ≤ hi))
        rw [e]; rfl
      · refine fin _ ?_
        show false = (decide (lo ≤ i) && decide (i ≤ hi))
        rw [eq_false_of_ne_true e]; rfl
    | _ => exact iteF (q H1 s1)
theorem ok_is_letters (B : Bl mg) (D : Df K mg "is_letters" s_is_letters) : Cal P w K mg base 1 "is_letters" spLetters [] := by
  refine D.cal sc_is_letters (fun _ _ _ _ _ _ us hl => match us, hl with | [_], _ => rfl) (fun vs H Q E h => ?_) (fun f cdv A out s H vs Q E hr h => ?_)
  · obtain ⟨z, rfl, _⟩ := h
    rfl
  · obtain ⟨z, rfl, hz, q⟩ := h
    refine ⟨_, (pss_one (ps_ret (pe_callB (cr_all rfl) (by rfl) B.all (by decide +kernel) (pa_cons (pe_lc (own := [("sign", 1)]) (by rfl) sc_is_letters.nd (pi_str (pv 0)) (blkOk_by (own := [("sign", 1)]) (N := ["text", "sign"]) (sc := defScope s_is_letters) (by decide +kernel)) (fun _ _ _ _ _ => (pg_name (i := 1) sc_is_letters.nd rfl (Or.inl rfl))) (fun _ _ _ _ _ => pts_nil) (fun _ _ _ _ _ => (pe_chain op_le_str op_le_str pe_str (pv 1) pe_str))) pa_nil)))), ?_⟩
    refine ⟨_, rfl, z, rfl, fun Dn nD => ?_⟩
    refine lc_pure over_str (fun c => some (.bl (letter c))) nD ?_ (fun _ _ => trivial) ?_ ?_
    · have : z.length = z.cps.toList.length := by simp [Str.length]
      rw [← this]
      exact Nat.le_of_lt (Nat.lt_of_le_of_lt hz (by decide))
    · rintro c hc H0 v H' Nx s0 ⟨rfl, rfl⟩ k
      refine ⟨rfl, ?_⟩
      refine lc_yes ?_
      refine ⟨_, rfl, _, _, rfl, rfl, _, rfl, ?_⟩
      have e1 : (!decide ((⟨#[c]⟩ : Str).cps.toList < ("a" : Str).cps.toList)) = decide (97 ≤ c) := by
        show (!decide ([c] < [97])) = _
        rw [sign_lt]
        by_cases h : 97 ≤ c
        · rw [decide_eq_true h, decide_eq_false (by omega)]; rfl
        · rw [decide_eq_false h, decide_eq_true (by omega)]; rfl
      have e2 : (!decide (("z" : Str).cps.toList < (⟨#[c]⟩ : Str).cps.toList)) = decide (c ≤ 122) := by
        show (!decide ([122] < [c])) = _
        rw [sign_lt]
        by_cases h : c ≤ 122
        · rw [decide_eq_true h, decide_eq_false (by omega)]; rfl
        · rw [decide_eq_false h, decide_eq_true (by omega)]; rfl
      have fin : ∀ b : Bool, b = letter c → Nx (some (.bl b)) H' := fun b e => by rw [e]; exact k H' (Same.refl _)
      rw [e1]
      refine ite2 (fun e => ?_) (fun e => ?_)
      · refine ⟨_, _, rfl, rfl, fin _ ?_⟩
        rw [e2]
        unfold letter
        rw [e]; rfl
      · refine fin _ ?_
        unfold letter
        rw [eq_false_of_ne_true e]; rfl
    · intro H1 s1 hD
      refine ⟨Dn, z.cps.toList.map letter, rfl, .inl (.inl ?_), ?_⟩
      · rw [hD, List.map_map]
        congr 2
        exact congrFun (List.filterMap_eq_map (f := V.bl ∘ letter)) _
      · have e : (z.cps.toList.map letter).all id = letters z := by
          unfold letters
          rw [List.all_map]
          rfl
        rw [e]
        exact q H1 s1
theorem ok_is_name (B : Bl mg) (T : Gc K mg kw) (c_is_letters : Cal P w K mg base 1 "is_letters" spLetters []) (D : Df K mg "is_name" s_is_name) : Cal P w K mg base 2 "is_name" (spB K nameD) [] := by
  refine D.cal sc_is_name (fun _ _ _ _ _ _ us hl => match us, hl with | [_], _ => rfl) (fun vs H Q E h => ?_) (fun f cdv A out s H vs Q E hr h => ?_)
  · obtain ⟨x, d, rfl, _⟩ := h
    rfl
  · obtain ⟨x, d, rfl, h, hc, q⟩ := h
    refine ⟨_, (pss_cons (ps_if (PW.pt (pw_or (pt_not (pt_val (pe_callB call_isi (by rfl) B.isinstance (by decide +kernel) (pa_cons (pv 0) (pa_cons (pe_bltn (v := .ty "str") (u := .type "str") (by rfl) B.str (by decide +kernel) rfl) pa_nil))))) (pw_or1 (pt_not (pt_chain op_le op_le pe_int (pe_callB call_len_str (by rfl) B.len (by decide +kernel) (pa_cons (pv 0) pa_nil)) (pe_gc (by rfl) T.g_LONGEST_NAME))))))
(pss_one (ps_ret pe_bl))
pss_nil)
(pss_one (ps_ret (pe_and (pe_c c_is_letters hr (by decide) (by rfl) (pa_cons (pv 0) pa_nil)) (pe_one (pe_cmpR op_notIn_seq (pv 0) (pe_gc (by rfl) T.g_KEPT_WORDS) (by rfl))))))), ?_⟩
    refine ⟨_, rfl, _, _, _, _, _, rfl, .ty _, tyx_th h, kit_ty (kit_str d), _, rfl, ?_⟩
    by_cases hs : isS d = true
    · obtain ⟨z, rfl⟩ : ∃ z, d = .str z := by
        cases d <;> first | exact ⟨_, rfl⟩ | cases hs
      have e := th_str h
      subst e
      have hz : z.length ≤ 100000 := hc.len
      refine iteF ?_
      refine ⟨_, rfl, z, rfl, len_line hz, _, _, rfl, rfl, _, rfl, ?_⟩
      have fin : ∀ (b : Bool) H', Same H H' → b = nameS z → Q (.bl b) H' := fun b H' s' e => by rw [e]; exact q H' s'
      refine ite2 (fun e => ?_) (fun e => ?_)
      · have e1 : 1 ≤ z.length := by
          have : (1 : Int) ≤ (z.length : Int) := of_decide_eq_true e
          omega
        refine ⟨_, _, rfl, rfl, _, rfl, ?_⟩
        by_cases e2 : z.length ≤ 4
        · rw [show decide ((z.length : Int) ≤ 4) = true from decide_eq_true (by omega)]
          refine iteF ?_
          refine ⟨_, rfl, z, rfl, hz, fun H1 s1 => ⟨_, rfl, ?_⟩⟩
          refine ite2 (fun e => ?_) (fun e => ?_)
          · refine ⟨_, rfl, kw, _, rfl, .inr (T.kw H1), rfl, rfl, fin _ _ s1 ?_⟩
            show (!inV (.str z) (kept.map V.str)) = _
            rw [in_kept]
            unfold nameS
            rw [decide_eq_true e1, decide_eq_true e2, e]
            rfl
          · refine fin _ _ s1 ?_
            unfold nameS
            rw [decide_eq_true e1, decide_eq_true e2, eq_false_of_ne_true e]
            rfl
        · rw [show decide ((z.length : Int) ≤ 4) = false from decide_eq_false (by omega)]
          refine iteT (fin _ _ (Same.refl _) ?_)
          unfold nameS
          rw [decide_eq_false e2, Bool.and_false]
          rfl
      · have e1 : ¬ 1 ≤ z.length := by
          have : ¬ (1 : Int) ≤ (z.length : Int) := of_decide_eq_false (eq_false_of_ne_true e)
          omega
        refine ⟨_, rfl, ?_⟩
        refine iteT (fin _ _ (Same.refl _) ?_)
        unfold nameS
        rw [decide_eq_false e1]
        rfl
    · rw [eq_false_of_ne_true hs]
      refine iteT (iteT ?_)
      have : nameD d = false := by cases d <;> first | rfl | exact absurd rfl hs
      rw [← this]
      exact q H (Same.refl _)
theorem ok_is_key (T : Gc K mg kw) (c_in_range : Cal P w K mg base 2 "in_range" (spR K) []) (D : Df K mg "is_key" s_is_key) : Cal P w K mg base 3 "is_key" (spB K (between 0 999999)) [] := by
  refine D.cal sc_is_key (fun _ _ _ _ _ _ us hl => match us, hl with | [_], _ => rfl) (fun vs H Q E h => ?_) (fun f cdv A out s H vs Q E hr h => ?_)
  · obtain ⟨x, d, rfl, _⟩ := h
    rfl
  · obtain ⟨x, d, rfl, h, hc, q⟩ := h
    refine ⟨_, (pss_one (ps_ret (pe_c c_in_range hr (by decide) (by rfl) (pa_cons (pv 0) (pa_cons pe_int (pa_cons (pe_gc (by rfl) T.g_MOST_KEY) pa_nil)))))), ?_⟩
    exact ⟨_, rfl, x, d, 0, 999999, rfl, h, hc, q⟩
theorem ok_is_element (B : Bl mg) (c_is_key : Cal P w K mg base 3 "is_key" (spB K (between 0 999999)) []) (c_is_name : Cal P w K mg base 2 "is_name" (spB K nameD) []) (D : Df K mg "is_element" s_is_element) : Cal P w K mg base 4 "is_element" (spB K elemD) [] := by
  refine D.cal sc_is_element (fun _ _ _ _ _ _ us hl => match us, hl with | [_], _ => rfl) (fun vs H Q E h => ?_) (fun f cdv A out s H vs Q E hr h => ?_)
  · obtain ⟨x, d, rfl, _⟩ := h
    rfl
  · obtain ⟨x, d, rfl, h, hc, q⟩ := h
    refine ⟨_, (pss_one (ps_ret (pe_and (pe_callB call_isi (by rfl) B.isinstance (by decide +kernel) (pa_cons (pv 0) (pa_cons (pe_bltn (v := .ty "tuple") (u := .type "tuple") (by rfl) B.tuple (by decide +kernel) rfl) pa_nil))) (pe_and (pe_cmpR op_eq (pe_callB call_len_seq (by rfl) B.len (by decide +kernel) (pa_cons (pv 0) pa_nil)) pe_int (nomark _)) (pe_and (pe_c c_is_key hr (by decide) (by rfl) (pa_cons (pe_ix ix_tup (pv 0) pe_int (fun _ _ => rfl)) pa_nil)) (pe_one (pe_c c_is_name hr (by decide) (by rfl) (pa_cons (pe_ix ix_tup (pv 0) pe_int (fun _ _ => rfl)) pa_nil)))))))), ?_⟩
    refine ⟨_, rfl, _, _, _, _, _, rfl, .ty _, tyx_th h, kit_ty (kit_tuple d), _, rfl, ?_⟩
    by_cases hs : isT d = true
    · obtain ⟨ds, rfl⟩ : ∃ ds, d = .tuple ds := by
        cases d <;> first | exact ⟨_, rfl⟩ | cases hs
      obtain ⟨a, xs, rfl, h1, h2⟩ := th_tuple h
      have hl := dpAll_len h2
      refine iteT ?_
      refine ⟨_, rfl, a, xs, rfl, .inr h1, rfl, _, rfl, ?_⟩
      by_cases h2l : ds.length = 2
      · obtain ⟨d1, d2, rfl⟩ := len2 h2l
        cases h2 with
        | cons p1 h2 =>
          cases h2 with
          | cons p2 h2 =>
            cases h2
            rename_i u v
            obtain ⟨k1, k2⟩ := hc.two
            refine iteT ?_
            refine ⟨_, rfl, a, _, 0, u, rfl, rfl, h1, atI_nat (j := 0) rfl, u, d1, rfl, .inl p1, k1, fun H1 s1 => ⟨_, rfl, ?_⟩⟩
            refine ite2 (fun e => ?_) (fun e => ?_)
            · refine ⟨_, rfl, a, _, 1, v, rfl, rfl, Same.tup s1 h1, atI_nat (j := 1) rfl, v, d2, rfl, .inl (Same.dp s1 p2), k2, fun H2 s2 => ?_⟩
              have : nameD d2 = elemD (.tuple [d1, d2]) := by
                show _ = (between 0 999999 d1 && nameD d2)
                rw [e]; rfl
              rw [this]
              exact q H2 (s1.trans s2)
            · have : false = elemD (.tuple [d1, d2]) := by
                show _ = (between 0 999999 d1 && nameD d2)
                rw [eq_false_of_ne_true e]; rfl
              rw [this]
              exact q H1 s1
      · rw [show decide (V.int (xs.length : Nat) = V.int 2) = false from decide_eq_false (fun z => h2l (by rw [← hl]; have := V.int.inj z; omega))]
        refine iteF ?_
        rw [show false = elemD (.tuple ds) from (elem_no h2l).symm]
        exact q H (Same.refl _)
    · rw [eq_false_of_ne_true hs]
      refine iteF ?_
      have : elemD d = false := by cases d <;> first | rfl | exact absurd rfl hs
      rw [← this]
      exact q H (Same.refl _)
end
end Eu
set_option Elab.async false
set_option linter.all false
set_option maxRecDepth 100000
set_option maxHeartbeats 4000000
namespace Eu
open PySem PySem.Spec PyProof.Rows L2
open C8 (pe_gc pss_cut)
abbrev s_l_take : Stmt := top 18
theorem sc_l_take : FnScope ["_law_bag_here", "_law_many", "_law_digit", "_law_mixed"] ["_law_bag_here", "_law_many"] (defScope s_l_take) :=
  ⟨rfl, rfl, rfl, by decide +kernel, rfl, by decide +kernel, by decide +kernel⟩
abbrev s_l_bag : Stmt := top 17
theorem sc_l_bag : FnScope ["_law_script", "_law_at", "_law_cell", "_law_far"] ["_law_script", "_law_at"] (defScope s_l_bag) :=
  ⟨rfl, rfl, rfl, by decide +kernel, rfl, by decide +kernel, by decide +kernel⟩
section
variable {P : Program} {w : World} {K : PySem.W.Frag} {mg : Str → Option Value} {base : Heap} {kw : Addr}
theorem ok_take (D : Df K mg "_law_take" s_l_take) : Cal P w K mg base 1 "_law_take" spTake [] := by
  refine D.cal sc_l_take (fun _ _ _ _ _ _ us hl => match us, hl with | [_, _], _ => rfl) (fun vs H Q E h => ?_) (fun f cdv A out s H vs Q E hr h => ?_)
  · obtain ⟨b, m, n, rfl, _⟩ := h
    rfl
  · obtain ⟨b, m, n, rfl, m0, m1, ⟨far, mix, cnt, hb, f0, x0, x1, c0, c1⟩, hn, q⟩ := h
    refine ⟨_, (pss_cons (ps_if (pt_cmpR op_gt (pe_ix ix_list (pv 0) pe_int (fun _ _ => rfl)) pe_int (nomark _))
(pss_cons (ps_set (i := 2) sc_l_take.nd rfl (Or.inl rfl) (pe_op op_mod (pe_ix ix_list (pv 0) pe_int (fun _ _ => rfl)) (pv 1)))
(pss_cons (ps_asg (pe_op op_fdiv (pe_ix ix_list (pv 0) pe_int (fun _ _ => rfl)) (pv 1)) (pg_sub (pv 0) pe_int set_list))
(pss_one (ps_ret (pv 2)))))
pss_nil)
(pss_cons (ps_asg (pe_op op_add (pe_ix ix_list (pv 0) pe_int (fun _ _ => rfl)) pe_int) (pg_sub (pv 0) pe_int set_list))
(pss_cons (ps_set (i := 3) sc_l_take.nd rfl (Or.inl rfl) (pe_op op_mod (pe_op op_pow (pe_op op_add (pe_ix ix_list (pv 0) pe_int (fun _ _ => rfl)) (pe_op op_mul pe_int (pe_ix ix_list (pv 0) pe_int (fun _ _ => rfl)))) pe_int) pe_int))
(pss_cons (ps_set (i := 3) sc_l_take.nd rfl (Or.inl rfl) (pe_op op_mod (pe_op op_pow (pe_op op_add (pv 3) (pe_op op_mul pe_int (pe_ix ix_list (pv 0) pe_int (fun _ _ => rfl)))) pe_int) pe_int))
(pss_one (ps_ret (pe_op op_mod (pe_op op_fdiv (pv 3) pe_int) (pv 1)))))))), ?_⟩
    have L : SqL K H b [.int far, .int mix, .int cnt] := .inl (.inl hb)
    refine ⟨_, rfl, b, _, 0, _, rfl, rfl, L, atI_nat (j := 0) rfl, _, _, rfl, rfl, _, rfl, ite2 (fun e => ?_) (fun e => ?_)⟩
    · have e' : 0 < far := of_decide_eq_true e
      refine ⟨_, rfl, b, _, 0, _, rfl, rfl, L, atI_nat (j := 0) rfl, _, rfl, _, _, rfl, rfl, m0, ?_⟩
      refine ⟨_, rfl, b, _, 0, _, rfl, rfl, L, atI_nat (j := 0) rfl, _, rfl, _, _, rfl, rfl, ⟨m0, m1⟩, ?_⟩
      refine ⟨_, rfl, b, _, _, 0, rfl, rfl, hb, rfl, ?_⟩
      refine ⟨_, rfl, ?_⟩
      refine q _ _ (Int.emod_nonneg _ (by omega)) (Int.emod_lt_of_pos _ m0) But.upd ⟨far / m, mix, cnt, upd_same, Int.ediv_nonneg f0 (by omega), x0, x1, c0, by omega⟩
    · refine ⟨_, rfl, b, _, 2, _, rfl, rfl, L, atI_nat (j := 2) rfl, _, _, rfl, rfl, ?_⟩
      refine ⟨_, rfl, b, _, _, 2, rfl, rfl, hb, rfl, ?_⟩
      have L' : SqL K (upd H b (.lst [.int far, .int mix, .int (cnt + 1)])) b [.int far, .int mix, .int (cnt + 1)] := .inl (.inl upd_same)
      refine ⟨_, rfl, b, _, 1, _, rfl, rfl, L', atI_nat (j := 1) rfl, _, rfl, b, _, 2, _, rfl, rfl, L', atI_nat (j := 2) rfl, _, _, rfl, rfl, .inl ⟨by decide, by decide⟩, _, _, rfl, rfl, _, _, rfl, rfl, ⟨by decide, by decide, ?_⟩, _, _, rfl, rfl, (show (0 : Int) < 2305843009213693921 by decide), ?_⟩
      · omega
      dsimp only
      generalize hz : (mix + 1000159 * (cnt + 1)) ^ (Int.toNat 3) % 2305843009213693921 = z
      have z0 : 0 ≤ z := by rw [← hz]; exact Int.emod_nonneg _ (by decide)
      have z1 : z < 2305843009213693921 := by rw [← hz]; exact Int.emod_lt_of_pos _ (by decide)
      refine ⟨_, rfl, _, rfl, b, _, 2, _, rfl, rfl, L', atI_nat (j := 2) rfl, _, _, rfl, rfl, .inl ⟨by decide, by decide⟩, _, _, rfl, rfl, _, _, rfl, rfl, ⟨by decide, by decide, ?_⟩, _, _, rfl, rfl, (show (0 : Int) < 2305843009213693951 by decide), ?_⟩
      · omega
      refine ⟨_, rfl, _, _, rfl, rfl, ⟨by decide, by decide⟩, _, rfl, _, _, rfl, rfl, m0, ?_⟩
      exact q _ _ (Int.emod_nonneg _ (by omega)) (Int.emod_lt_of_pos _ m0) But.upd ⟨far, mix, cnt + 1, upd_same, f0, x0, x1, by omega, by omega⟩
theorem ok_bag (B : Bl mg) (D : Df K mg "_law_bag" s_l_bag) : Cal P w K mg base 1 "_law_bag" (spBag K) [] := by
  refine D.cal sc_l_bag (fun _ _ _ _ _ _ us hl => match us, hl with | [_, _], _ => rfl) (fun vs H Q E h => ?_) (fun f cdv A out s H vs Q E hr h => ?_)
  · obtain ⟨a, ns, i, rfl, _⟩ := h
    rfl
  · obtain ⟨a, ns, i, rfl, hS, i0, i1, q⟩ := h
    refine ⟨_, (pss_cut (ps_set (i := 2) sc_l_bag.nd rfl (Or.inl rfl) (pe_ifExp (pt_cmpR op_lt (pv 1) (pe_callB call_len_seq (by rfl) B.len (by decide +kernel) (pa_cons (pv 0) pa_nil)) (nomark _)) (pe_ix ix_list (pv 0) (pv 1) (fun _ _ => rfl)) pe_int))
(pss_cut (ps_set (i := 3) sc_l_bag.nd rfl (Or.inl rfl) (pe_ifExp (pt_cmpR op_ge (pe_callB call_abs (by rfl) B.abs (by decide +kernel) (pa_cons (pv 2) pa_nil)) (pe_op op_pow pe_int pe_int) (nomark _)) (pe_callB call_abs (by rfl) B.abs (by decide +kernel) (pa_cons (pv 2) pa_nil)) pe_int))
(pss_one (ps_ret (pe_lst (pa_cons (pv 3) (pa_cons (pe_op op_mod (pe_op op_mul (pe_op op_add (pe_op op_add (pe_op op_mod (pv 2) pe_int) (pe_op op_mul pe_int (pv 1))) pe_int) pe_int) pe_int) (pa_cons pe_int pa_nil)))))))), ?_⟩
    refine ⟨fun σ H' => ∃ c : Int, σ = [some (.ref a), some (.int i), some (.int c), none] ∧ H' = H, ?_, ?_⟩
    · refine ⟨_, rfl, _, rfl, a, _, rfl, .inl hS, _, _, rfl, rfl, _, rfl, ?_⟩
      refine ite2 (fun e => ?_) (fun e => ?_)
      · have e' : i < ((ns.map V.int).length : Int) := of_decide_eq_true e
        rw [List.length_map] at e'
        have hi : i.toNat < ns.length := by omega
        refine ⟨_, rfl, _, rfl, a, _, i, .int ns[i.toNat], rfl, rfl, hS, ?_, ⟨_, rfl, rfl⟩⟩
        refine at_of (j := i.toNat) (by omega) ?_
        rw [List.getElem?_map, List.getElem?_eq_getElem hi]
        rfl
      · exact ⟨0, rfl, rfl⟩
    · rintro σ H' ⟨c, rfl, rfl⟩
      refine ⟨fun σ H2 => ∃ g : Int, 0 ≤ g ∧ σ = [some (.ref a), some (.int i), some (.int c), some (.int g)] ∧ H2 = H', ?_, ?_⟩
      · refine ⟨_, rfl, _, rfl, _, _, rfl, rfl, ⟨by decide, by decide, by decide⟩, _, _, rfl, rfl, _, rfl, ?_⟩
        refine ite2 (fun e => ?_) (fun e => ?_)
        · refine ⟨_, rfl, _, rfl, ⟨_, ?_, rfl, rfl⟩⟩
          split <;> omega
        · exact ⟨0, Int.le_refl _, rfl, rfl⟩
      · rintro σ H2 ⟨g, g0, rfl, rfl⟩
        refine ⟨_, rfl, _, rfl, _, _, rfl, rfl, (show (0 : Int) < 2305843009213693951 by decide), _, rfl, _, _, rfl, rfl, .inl ⟨by decide, by decide⟩, _, _, rfl, rfl, _, _, rfl, rfl, _, _, rfl, rfl, .inr ⟨by decide, by decide⟩, _, _, rfl, rfl, (show (0 : Int) < 2305843009213693951 by decide), (by show 3 ≤ sizeLine; decide), fun p np => ?_⟩
        refine q p _ (same_new np) np ⟨g, _, 0, upd_same, g0, Int.emod_nonneg _ (by decide), Int.emod_lt_of_pos _ (by decide), by decide, by decide⟩
end
end Eu
set_option Elab.async false
set_option linter.all false
set_option maxRecDepth 100000
set_option maxHeartbeats 4000000
namespace Eu
open PySem PySem.Spec PyProof.Rows L2
open C8 (pe_gc pss_cut)
open Fs
theorem hu_of {k : Nat} {A : Around} (r : Rm k A) : A.units + 1 < cLine := by have := r.rm.units; omega
theorem gTup2_mono {K : PySem.W.Frag} {i j n : Nat} : ∀ (v : V) (σ : L2.St) (H : Hp) (A B : L2.St → Hp → Prop), (∀ σ H, A σ H → B σ H) → gTup K n (gCons (gName i) (gCons (gName j) gNil)) v σ H A → gTup K n (gCons (gName i) (gCons (gName j) gNil)) v σ H B := by
  rintro v σ H A B h ⟨a, xs, e, s, l, u, r, e1, u2, r2, e2, z, q⟩
  exact ⟨a, xs, e, s, l, u, r, e1, u2, r2, e2, z, h _ _ q⟩
theorem pg_two {X : Cx} {K : PySem.W.Frag} {i j k : Nat} {x y : Str} {p1 p2 pos : Pos} (hN : X.N.Nodup) (hc : X.calm = true := by rfl) (hi : X.N[i]? = some x := by rfl) (hj : X.N[j]? = some y := by rfl)
    (hx : Loc X.env.scope x := by first | exact Or.inl rfl | exact Or.inr rfl) (hy : Loc X.env.scope y := by first | exact Or.inl rfl | exact Or.inr rfl)
    (fx : X.fn x = true ∨ X.env.scope.names.lookup x = some .local := by first | exact .inl rfl | exact .inr rfl) (fy : X.fn y = true ∨ X.env.scope.names.lookup y = some .local := by first | exact .inl rfl | exact .inr rfl)
    (hs1 : (assignEach [.Name x p1, .Name y p2] X.env).map (·.2) = assign (.Name x p1) X.env :: (assignEach [.Name y p2] X.env).map (·.2) := by rfl)
    (hs2 : (assignEach [.Name y p2] X.env).map (·.2) = assign (.Name y p2) X.env :: (assignEach [] X.env).map (·.2) := by rfl)
    (hn : (assignEach [.Name x p1, .Name y p2] X.env).length = 2 := by rfl) (hst : (assignEach [.Name x p1, .Name y p2] X.env).findIdx? (·.1) = none := by rfl)
    (hK : X.K = K := by rfl) :
    PG X (.Tuple [.Name x p1, .Name y p2] k pos) (gTup K 2 (gCons (gName i) (gCons (gName j) gNil))) := by
  subst hK
  exact pg_tup hc (pgs_cons (pg_name hN hi hx fx) (pgs_cons (pg_name hN hj hy fy) pgs_nil hs2) hs1) hn hst
theorem tyx_seq {K : PySem.W.Frag} {H : Hp} {a : Addr} {xs : List V} (h : SqL K H a xs ∨ SqT K H a xs) : ∃ t, TyX K H (.ref a) t ∧ PySem.W.kitAny K t [.type "list", .type "tuple"] = some true := by
  rcases h with h | h
  · refine ⟨.type "list", ?_, ?_⟩
    · rcases h with (h | ⟨o, h⟩) | ⟨o, its, n, h, hc, _⟩
      · exact .base (.lst h)
      · exact .base (.frz h)
      · exact .kList h hc
    · unfold PySem.W.kitAny
      rw [kit_self]
  · refine ⟨.type "tuple", ?_, ?_⟩
    · rcases h with (h | ⟨o, h⟩) | ⟨o, its, n, h, hc, _⟩
      · exact .base (.tup h)
      · exact .fTuple h
      · exact .kTuple h hc
    · unfold PySem.W.kitAny
      rw [kit_ty (show kitB "tuple" "list" = some false by decide +kernel)]
      unfold PySem.W.kitAny
      rw [kit_self]
theorem sorted_perm {l S : List Pr} (p : List.Perm l S) (h : l.Pairwise fun a b => a.1 ≤ b.1) (s : Srt S) : l = S := by
  have nd : Nd l := (List.Perm.nodup_iff (p.map (fun x : Pr => x.1))).mpr s.nd
  have hs : Srt l := by
    have nd' : l.Pairwise fun a b => a.1 ≠ b.1 := by
      have := List.nodup_iff_pairwise_ne.mp (show (l.map fun x : Pr => x.1).Nodup from nd)
      rwa [List.pairwise_map] at this
    exact (h.and nd').imp fun ⟨a, b⟩ => by omega
  exact srt_ext hs s fun k => Perm.lk p nd k
def decT (H : Hp) : V → Addr × Pr
  | .ref t => match H t with
    | some (.tup (.int i :: .str n :: _)) => (t, (i, n))
    | _ => (t, (0, ""))
  | _ => (0, (0, ""))
theorem decT_of {H : Hp} {t : Addr} {i : Int} {n : Str} {r : List V} (h : H t = some (.tup (.int i :: .str n :: r))) : decT H (.ref t) = (t, (i, n)) := by
  unfold decT
  simp only [h]
abbrev s_check_members : Stmt := top 14
theorem sc_check_members : FnScope ["items", "item"] ["items"] (defScope s_check_members) :=
  ⟨rfl, rfl, rfl, by decide +kernel, rfl, by decide +kernel, by decide +kernel⟩
abbrev s_FormSet___init__ : Stmt := inClass (top 15) 0
theorem sc_FormSet___init__ : FnScope ["self", "given", "key", "form"] ["self", "given"] (defScope s_FormSet___init__) :=
  ⟨rfl, rfl, rfl, by decide +kernel, rfl, by decide +kernel, by decide +kernel⟩
abbrev s_FormSet_members : Stmt := inClass (top 15) 1
theorem sc_FormSet_members : FnScope ["self", "key", "form"] ["self"] (defScope s_FormSet_members) :=
  ⟨rfl, rfl, rfl, by decide +kernel, rfl, by decide +kernel, by decide +kernel⟩
abbrev s_FormSet___contains__ : Stmt := inClass (top 15) 3
theorem sc_FormSet___contains__ : FnScope ["self", "key"] ["self", "key"] (defScope s_FormSet___contains__) :=
  ⟨rfl, rfl, rfl, by decide +kernel, rfl, by decide +kernel, by decide +kernel⟩
abbrev s_FormSet___len__ : Stmt := inClass (top 15) 14
theorem sc_FormSet___len__ : FnScope ["self"] ["self"] (defScope s_FormSet___len__) :=
  ⟨rfl, rfl, rfl, by decide +kernel, rfl, by decide +kernel, by decide +kernel⟩
abbrev s_FormSet_equals : Stmt := inClass (top 15) 13
theorem sc_FormSet_equals : FnScope ["self", "other"] ["self", "other"] (defScope s_FormSet_equals) :=
  ⟨rfl, rfl, rfl, by decide +kernel, rfl, by decide +kernel, by decide +kernel⟩
abbrev s_FormSet___eq__ : Stmt := inClass (top 15) 15
theorem sc_FormSet___eq__ : FnScope ["self", "other"] ["self", "other"] (defScope s_FormSet___eq__) :=
  ⟨rfl, rfl, rfl, by decide +kernel, rfl, by decide +kernel, by decide +kernel⟩
section
variable {P : Program} {w : World} {K : PySem.W.Frag} {mg : Str → Option Value} {base : Heap} {kw C : Addr}
theorem ok_check (B : Bl mg) (c_is_element : Cal P w K mg base 4 "is_element" (spB K elemD) []) (D : Df K mg "check_members" s_check_members) : Cal P w K mg base 5 "check_members" (spCheck K) [] := by
  refine D.cal sc_check_members (fun _ _ _ _ _ _ us hl => match us, hl with | [_], _ => rfl) (fun vs H Q E h => ?_) (fun f cdv A out s H vs Q E hr h => ?_)
  · obtain ⟨_, a, ts, rfl, _⟩ := h
    rfl
  · obtain ⟨D, a, ts, rfl, he, q⟩ := h
    refine ⟨_, (pss_cons (ps_if (pt_not (pt_val (pe_callB call_isiT (by rfl) B.isinstance (by decide +kernel) (pa_cons (pv 0) (pa_cons (pe_tup (pa_cons (pe_bltn (v := .ty "list") (u := .type "list") (by rfl) B.list (by decide +kernel) rfl) (pa_cons (pe_bltn (v := .ty "tuple") (u := .type "tuple") (by rfl) B.tuple (by decide +kernel) rfl) pa_nil))) pa_nil)))))
(pss_one ps_never)
pss_nil)
(pss_one (ps_for PassesOwn.never (by rfl) (pi_or (pi_list (pv 0)) (pi_tup (pv 0))) (pg_name (i := 1) sc_check_members.nd rfl (Or.inl rfl))
(pss_one (ps_if (pt_not (pt_val (pe_c c_is_element hr (by decide) (by rfl) (pa_cons (pv 1) pa_nil))))
(pss_one ps_never)
pss_nil))))), ?_⟩
    refine ⟨_, rfl, by show 2 ≤ sizeLine; decide, fun p np => ?_⟩
    have s1 : Same H (upd H p (.tup [.ty "list", .ty "tuple"])) := same_new np
    have he1 := he.same s1
    obtain ⟨ty, h1, h2⟩ := tyx_seq he1.1
    refine ⟨.ref a, p, _, ty, _, true, rfl, upd_same, .cons (.ty _) (.cons (.ty _) .nil), h1, h2, _, rfl, ?_⟩
    refine iteF ?_
    have body : ∀ {J : It} {Y : (Addr × Pr) → Hp → V → Hp → Prop} {S : Hp → Prop} (o : Over J ts Y S), (∀ q H v H', Y q H v H' → H' = H ∧ v = .ref q.1) → (∀ H', Same (upd H p (.tup [.ty "list", .ty "tuple"])) H' → S H') →
        ∃ W : Nat → Nat → L2.St → Hp → Prop, (∃ m, W 0 m (start ["items", "item"] [V.ref a]) (upd H p (.tup [.ty "list", .ty "tuple"]))) ∧ ∀ i m σ H, W i m σ H → (J.stop i H ∧ Q .non H) ∨ (J.go i H ∧
          ∃ N : L2.St → Hp → Prop, (∀ σ' H', N σ' H' → ∃ m', m' < m ∧ W (i + 1) m' σ' H') ∧
            ∀ x H', J.yld i H x H' → gName 1 x σ H' fun σ2 H2 => tIfS (tNot (tB (tCall (spB K elemD) [] E0 (tCons (tVar 1) tNil)))) tNever tNext { nx := N, ct := N, bk := fun x H' => Q .non H', rt := Q } σ2 H2) := by
      intro J Y S o hY hS
      refine for_over (D := { nx := fun x H' => Q .non H', rt := Q }) o (fun i σ H' => (∃ v, σ = [some (.ref a), v]) ∧ Same (upd H p (.tup [.ty "list", .ty "tuple"])) H') ⟨⟨_, rfl⟩, Same.refl _⟩ (fun i σ H' _ h => hS H' h.2) ?_ ?_
      · rintro i x σ H2 v H3 e ⟨⟨v0, rfl⟩, s2⟩ y
        obtain ⟨rfl, rfl⟩ := hY _ _ _ _ y
        have hx := he1.2 x (List.mem_of_getElem? e)
        obtain ⟨sm, em⟩ := small_el hx.2
        refine ⟨_, rfl, _, _, rfl, .inl (Same.dp s2 (dp_el hx.1)), sm, fun H4 s4 => ⟨_, rfl, ?_⟩⟩
        rw [em]
        exact iteF ⟨⟨_, rfl⟩, s2.trans s4⟩
      · rintro σ H2 ⟨_, s2⟩
        exact q H2 (s1.trans s2)
    rcases he1.1 with hl | hl
    · refine .inl ⟨_, rfl, a, rfl, ⟨_, hl⟩, ?_⟩
      exact body (over_map over_list) (fun _ _ _ _ y => y) (fun H' s => s.seq hl)
    · refine .inr ⟨_, rfl, a, rfl, ⟨_, hl⟩, ?_⟩
      exact body (over_map over_tup) (fun _ _ _ _ y => y) (fun H' s => Same.tup s hl)
theorem ok_init (B : Bl mg) (F : Fc K mg C) (c_check_members : Cal P w K mg base 5 "check_members" (spCheck K) []) {T0 : Addr} (D : Dm K C "__init__" "FormSet.__init__" s_FormSet___init__ [.ref T0])
    (mkC : PySem.W.makesIn K C = true) (kpC : PySem.W.keepIn K (.ref C) = true) (hm : mg "FormSet" = some (.ref C)) :
    Mak P w K mg base 6 "FormSet" C (spInit K C) [] ∧ Mak P w K mg base 6 "FormSet" C (spInit K C) [.ref T0] := by
  refine D.mak1 mkC kpC hm sc_FormSet___init__ (n := 1) rfl (fun _ _ _ _ _ _ _ us its hl hi => ?_) (fun _ _ _ _ _ _ _ us its hl hi => ?_) (fun vs H Q E h => ?_) (fun f cdv A out s H vs Q E hr h => ?_)
  · match us, hl, its, hi with
    | [_, _], _, [_], _ => exact ⟨_, rfl, rfl⟩
  · match us, hl, its, hi with
    | [_], _, [_], _ => exact ⟨_, rfl, rfl⟩
  · obtain ⟨_, x, dx, a, ts, rfl, _⟩ := h
    rfl
  · obtain ⟨D, x, dx, a, ts, rfl, hx, he, hl, hf, q⟩ := h
    refine ⟨_, (pss_cons (ps_expr (pe_c c_check_members hr (by decide) (by rfl) (pa_cons (pv 1) pa_nil)))
(pss_one (ps_fld (pv 0) (pe_dc (own := [("key", 2), ("form", 3)]) (by rfl) sc_FormSet___init__.nd (pi_reversed (by rfl) B.reversed (pa_cons (pe_callTy call_list_of (by rfl) B.list (by decide +kernel) (pa_cons (pv 1) pa_nil)) pa_nil)) (blkOk_by (own := [("key", 2), ("form", 3)]) (N := ["self", "given", "key", "form"]) (sc := defScope s_FormSet___init__) (by decide +kernel)) (fun _ _ _ _ _ => (pg_two (K := K) (i := 2) (j := 3) sc_FormSet___init__.nd)) (fun _ _ _ _ _ => pts_nil) (fun _ _ _ _ _ => (pv 2)) (fun _ _ _ _ _ => (pv 3))) rfl))), ?_⟩
    refine ⟨_, rfl, D, a, ts, rfl, he, fun H1 s1 => ?_⟩
    have he1 := he.same s1
    refine ⟨_, rfl, a, vals ts, rfl, he1.1, fun l nl => ⟨l, vals ts, rfl, .inl (.inl upd_same), fun Dd nD => ?_⟩⟩
    have s2 := s1.trans (same_new (o := .lst (vals ts)) nl)
    have he2 := he.same s2
    have o : Over (Itv K l (vals ts).length) ts.reverse (fun q H v H' => H' = H ∧ v = .ref q.1) (fun H => SqL K H l (vals ts)) := by
      have o0 := over_rev (K := K) (a := l) (xs := vals ts)
      rw [show (vals ts).reverse = ts.reverse.map (fun q => V.ref q.1) from List.map_reverse.symm] at o0
      exact over_map o0
    refine dc_pure o (fun q => enc q.2) nD ?_ (fun H' s' => .inl (.inl (s' _ _ upd_same))) ?_ ?_ gTup2_mono
    · rw [List.length_reverse]
      exact Nat.le_trans hl (by decide)
    · rintro q hq H3 v H4 Nx s3 ⟨rfl, rfl⟩ k
      have hq2 := Same.tup s3 (he2.2 q (List.mem_reverse.mp hq)).1
      exact ⟨_, _, rfl, hq2, rfl, _, _, rfl, _, _, rfl, rfl, rfl, _, rfl, _, rfl, k _ (Same.refl _)⟩
    · intro H3 s3 hD
      have sx := s2.trans s3
      refine ⟨_, rfl, x, C, dx, _, rfl, sx _ _ hx, F.cls, F.na, by decide, ?_⟩
      have nDx : Dd ≠ x := fun e => by
        rw [e, s2 _ _ hx] at nD
        cases nD
      refine q _ (fun c u e => ?_) ⟨Good.canon (fun p hp => ?_) hf, x, dx, Dd, fillR (prs ts), rfl, upd_same, ?_, fillR_perm _⟩
      · obtain ⟨nc, e'⟩ := hid_some e
        rw [hid_ne nc, upd_ne nc]
        exact sx _ _ e'
      · obtain ⟨r, hr, rfl⟩ := List.mem_map.mp hp
        exact (he.2 r hr).2
      · rw [upd_ne nDx, hD, ← merge_fill]
        congr 2
        rw [← List.map_reverse, List.map_map]
        rfl
theorem ok_members (B : Bl mg) (F : Fc K mg C) (D : Dm K C "members" "FormSet.members" s_FormSet_members []) : Met P w K mg base 1 C "members" (spMembers C) [] := by
  refine D.met F.cls sc_FormSet_members (fun _ _ _ _ _ _ us hl => match us, hl with | [_], _ => rfl) (fun vs H Q E h => ?_) (fun f cdv A out s H vs Q E hr h => ?_)
  · obtain ⟨_, x, S, rfl, _⟩ := h
    rfl
  · obtain ⟨D, x, S, rfl, ⟨g, a, dx, d, m, rfl, h1, h2, hp⟩, q⟩ := h
    refine ⟨_, (pss_one (ps_ret (pe_callB cr_sortedTS (by rfl) B.sorted (by decide +kernel) (pa_cons (pe_lock (pe_lc (own := [("key", 1), ("form", 2)]) (by rfl) sc_FormSet_members.nd (pi_items (pe_fld (pv 0) rfl)) (blkOk_by (own := [("key", 1), ("form", 2)]) (N := ["self", "key", "form"]) (sc := defScope s_FormSet_members) (by decide +kernel)) (fun _ _ _ _ _ => (pg_two (K := K) (i := 1) (j := 2) sc_FormSet_members.nd)) (fun _ _ _ _ _ => pts_nil) (fun _ _ _ _ _ => (pe_tup (pa_cons (pv 1) (pa_cons (pv 2) pa_nil)))))) pa_nil)))), ?_⟩
    refine ⟨d, _, h2, trivial, fun od => ?_⟩
    have ha' : (upd H d (.frz od (.dK (m.map enc)))) a = some (.ins C dx [("forms", .ref d)]) := by
      rw [upd_ne (fun e => by rw [e, h2] at h1; cases h1)]
      exact h1
    refine ⟨_, rfl, a, C, dx, _, _, rfl, ha', F.cls, F.na, rfl, d, od, _, rfl, upd_same, fun Dd nD => ?_⟩
    refine lc_rel (over_map (f := enc) over_items) (fun p y H => ∃ t, y = .ref t ∧ H t = some (.tup [.int p.1, .str p.2])) nD ?_ (fun H' s' => s' _ _ upd_same) ?_ ?_ gTup2_mono ?_
    · have := hp.length_eq
      have := g.len
      exact Nat.le_trans (by omega) (show 60 ≤ sizeLine by decide)
    · rintro x y H3 H4 acc e ⟨t, rfl, ht⟩ b
      exact ⟨t, rfl, b.at (fun z => by rw [z, e] at ht; cases ht) ht⟩
    · rintro p hm H3 v H4 Nx s3 ⟨T, rfl, nT, rfl⟩ k
      refine ⟨_, _, rfl, .inl (.inl upd_same), rfl, _, _, rfl, _, _, rfl, rfl, rfl, _, rfl, _, rfl, by show 2 ≤ sizeLine; decide, fun t nt => ?_⟩
      exact k _ _ ((same_new nT).trans (same_new nt)) ⟨t, rfl, upd_same⟩
    · rintro H3 ys s3 hD ⟨hl, hrel⟩
      refine ⟨s3 _ _ upd_same, ?_⟩
      have so := same_open h2 s3
      have hDd : (upd H3 d (.dK (m.map enc))) Dd = some (.lst ys) := by
        rw [upd_ne (fun e => by rw [e, s3 _ _ upd_same] at hD; cases hD)]
        exact hD
      have hrel' : ∀ (i : Nat) (p : Pr) (y : V), m[i]? = some p → ys[i]? = some y → ∃ t, y = .ref t ∧ (upd H3 d (.dK (m.map enc))) t = some (.tup [.int p.1, .str p.2]) := by
        intro i p y ep ey
        obtain ⟨t, e, ht⟩ := hrel i p y ep ey
        refine ⟨t, e, ?_⟩
        rw [upd_ne (fun z => by rw [z, s3 _ _ upd_same] at ht; cases ht)]
        exact ht
      generalize hH5 : upd H3 d (.dK (m.map enc)) = H5 at so hDd hrel'
      have all : ∀ y ∈ ys, ∃ t p, p ∈ m ∧ y = .ref t ∧ H5 t = some (.tup [.int p.1, .str p.2]) := by
        intro y hy
        obtain ⟨i, hi, rfl⟩ := List.getElem_of_mem hy
        have hi' : i < m.length := by omega
        obtain ⟨t, e, ht⟩ := hrel' i m[i] ys[i] (List.getElem?_eq_getElem hi') (List.getElem?_eq_getElem hi)
        exact ⟨t, m[i], List.getElem_mem hi', e, ht⟩
      have dec : ys.map (fun y => (decT H5 y).2) = m := by
        apply List.ext_getElem
        · rw [List.length_map, hl]
        · intro i h1 h2
          rw [List.getElem_map]
          obtain ⟨t, e, ht⟩ := hrel' i m[i] (ys[i]'(by rw [List.length_map] at h1; exact h1)) (List.getElem?_eq_getElem h2) (List.getElem?_eq_getElem _)
          rw [e, decT_of ht]
      refine ⟨Dd, ys, fun y => (decT H5 y).2.1, rfl, .inl (.inl hDd), fun y hy => ?_, fun zs p hz hs np => ?_⟩
      · obtain ⟨t, r, _, rfl, ht⟩ := all y hy
        refine ⟨t, r.2, [], rfl, ?_, fun y hy => by cases hy⟩
        show H5 t = some (HO.tup [V.int (decT H5 (V.ref t)).2.1, V.str r.2])
        rw [decT_of ht]
        exact ht
      · have hal : ∀ z ∈ zs, ∃ t p, p ∈ m ∧ z = .ref t ∧ H5 t = some (.tup [.int p.1, .str p.2]) := fun z hzz => all z (hz.mem_iff.mp hzz)
        refine q p (zs.map (decT H5)) _ (so.trans (same_new np)) ?_ ?_ ?_
        · rw [upd_same]
          congr 2
          show zs = (zs.map (decT H5)).map (fun q => V.ref q.1)
          rw [List.map_map]
          symm
          refine (List.map_congr_left (g := id) fun z hzz => ?_).trans (List.map_id _)
          obtain ⟨t, r, _, rfl, ht⟩ := hal z hzz
          show V.ref (decT H5 (.ref t)).1 = .ref t
          rw [decT_of ht]
        · show (zs.map (decT H5)).map (fun q => q.2) = S
          rw [List.map_map]
          refine sorted_perm ?_ ?_ g.srt
          · have := hz.map (fun y => (decT H5 y).2)
            rw [dec] at this
            exact this.trans hp
          · rw [List.pairwise_map]
            exact hs
        · intro r hr
          obtain ⟨z, hzz, rfl⟩ := List.mem_map.mp hr
          obtain ⟨t, r, _, rfl, ht⟩ := hal z hzz
          rw [decT_of ht]
          exact same_new np _ _ ht
theorem ok_has (F : Fc K mg C) (c_is_integer : Cal P w K mg base 1 "is_integer" (spB K whole) []) (D : Dm K C "__contains__" "FormSet.__contains__" s_FormSet___contains__ []) : Met P w K mg base 2 C "__contains__" (spHas K C) [] := by
  refine D.met F.cls sc_FormSet___contains__ (fun _ _ _ _ _ _ us hl => match us, hl with | [_, _], _ => rfl) (fun vs H Q E h => ?_) (fun f cdv A out s H vs Q E hr h => ?_)
  · obtain ⟨_, x, y, S, d, rfl, _⟩ := h
    rfl
  · obtain ⟨D, x, y, S, dd, rfl, ⟨g, a, dx, d, m, rfl, h1, h2, hp⟩, hy, hc, q⟩ := h
    refine ⟨_, (pss_one (ps_ret (pe_and (pe_c c_is_integer hr (by decide) (by rfl) (pa_cons (pv 1) pa_nil)) (pe_one (pe_cmp (pc_din (hu_of hr) (pv 1) (pe_fld (pv 0) rfl)) rfl))))), ?_⟩
    refine ⟨_, rfl, y, dd, rfl, hy, hc, fun H1 s1 => ⟨_, rfl, ?_⟩⟩
    cases dd with
    | int k =>
      have e := th_int hy
      subst e
      refine iteT ?_
      refine ⟨_, rfl, _, rfl, a, C, dx, _, _, rfl, s1 _ _ h1, F.cls, F.na, rfl, d, _, rfl, .inl ⟨_, Sum.inl k, .inl (s1 _ _ h2), rfl, rfl⟩, ?_⟩
      have nd : Nd m := (List.Perm.nodup_iff (hp.map (fun x : Pr => x.1))).mpr g.srt.nd
      have e2 : (valV (m.map enc) (Sum.inl k)).isSome = hasK S k := by
        rw [val_enc, Option.isSome_map, Perm.lk hp nd k]
        rfl
      rw [e2]
      exact q H1 s1
    | _ => exact iteF (q H1 s1)
theorem ok_len (B : Bl mg) (F : Fc K mg C) (D : Dm K C "__len__" "FormSet.__len__" s_FormSet___len__ []) : Met P w K mg base 1 C "__len__" (spLen C) [] := by
  refine D.met F.cls sc_FormSet___len__ (fun _ _ _ _ _ _ us hl => match us, hl with | [_], _ => rfl) (fun vs H Q E h => ?_) (fun f cdv A out s H vs Q E hr h => ?_)
  · obtain ⟨_, x, S, rfl, _⟩ := h
    rfl
  · obtain ⟨D, x, S, rfl, ⟨g, a, dx, d, m, rfl, h1, h2, hp⟩, q⟩ := h
    refine ⟨_, (pss_one (ps_ret (pe_callB call_lenD (by rfl) B.len (by decide +kernel) (pa_cons (pe_fld (pv 0) rfl) pa_nil)))), ?_⟩
    refine ⟨_, rfl, a, C, dx, _, _, rfl, h1, F.cls, F.na, rfl, d, _, rfl, h2, ?_⟩
    have e : (m.map enc).length = S.length := by rw [List.length_map, hp.length_eq]
    rw [e]
    exact q H (Same.refl _)
theorem keys_perm {m S : List Pr} {ys : List Int} (hp : List.Perm m S) (s : Srt S) (h : ys.Perm (m.map fun p : Pr => p.1)) (hs : ys.Pairwise (· ≤ ·)) : ys = S.map fun p : Pr => p.1 := by
  have p2 : ys.Perm (S.map fun p : Pr => p.1) := h.trans (hp.map _)
  refine p2.eq_of_pairwise (le := fun a b : Int => a ≤ b) (fun a b _ _ h1 h2 => Int.le_antisymm h1 h2) hs ?_
  rw [List.pairwise_map]
  exact s.imp fun h => Int.le_of_lt h
theorem ok_equals (B : Bl mg) (F : Fc K mg C) (D : Dm K C "equals" "FormSet.equals" s_FormSet_equals []) : Met P w K mg base 1 C "equals" (spKeys C) [] := by
  refine D.met F.cls sc_FormSet_equals (fun _ _ _ _ _ _ us hl => match us, hl with | [_, _], _ => rfl) (fun vs H Q E h => ?_) (fun f cdv A out s H vs Q E hr h => ?_)
  · obtain ⟨_, x, y, S, T, rfl, _⟩ := h
    rfl
  · obtain ⟨D, x, y, S, T, rfl, ⟨g, a, dx, d, m, rfl, h1, h2, hp⟩, ⟨g', a', dx', d', m', rfl, h1', h2', hp'⟩, ek, q⟩ := h
    refine ⟨_, (pss_one (ps_ret (pe_cmpR (op_eqD hr.rm.units) (pe_callB (call_sortedDI rfl) (by rfl) B.sorted (by decide +kernel) (pa_cons (pe_fld (pv 0) rfl) pa_nil)) (pe_callB (call_sortedDI rfl) (by rfl) B.sorted (by decide +kernel) (pa_cons (pe_fld (pv 1) rfl) pa_nil)) (nomark _)))), ?_⟩
    have l1 := g.len
    have l2 := g'.len
    have l3 := hp.length_eq
    have l4 := hp'.length_eq
    refine ⟨_, rfl, a, C, dx, _, _, rfl, h1, F.cls, F.na, rfl, d, _, m.map (fun p : Pr => p.1), rfl, .inl h2, ?_, ?_, fun ys p hy hs np => ?_⟩
    · rw [List.map_map, List.map_map]; rfl
    · rw [List.length_map]; omega
    have s1 := same_new (o := .lst (ys.map V.int)) np
    refine ⟨_, rfl, a', C, dx', _, _, rfl, s1 _ _ h1', F.cls, F.na, rfl, d', _, m'.map (fun p : Pr => p.1), rfl, .inl (s1 _ _ h2'), ?_, ?_, fun ys' p' hy' hs' np' => ?_⟩
    · rw [List.map_map, List.map_map]; rfl
    · rw [List.length_map]; omega
    have s2 := same_new (o := .lst (ys'.map V.int)) np'
    have e1 := keys_perm hp g.srt hy hs
    have e2 := keys_perm hp' g'.srt hy' hs'
    have e3 : ys' = ys := by rw [e1, e2, ← ek]
    have dpI : ∀ (H : Hp) (zs : List Int), DpAll K H (zs.map V.int) (zs.map PyData.int) := fun H zs => by
      induction zs with
      | nil => exact .nil
      | cons z r ih => exact .cons (.int z) ih
    refine ⟨.list (ys.map .int), .list (ys'.map .int), .lst (.inl (.inl (s2 _ _ upd_same))) (dpI _ _), .lst (.inl (.inl upd_same)) (dpI _ _), ?_, ?_, ?_⟩
    · exact PySem.W.ke_shaped_ints _
    · exact PySem.W.ke_shaped_ints _
    · subst e3
      have : PyData.eqv (.list (ys'.map .int)) (.list (ys'.map .int)) = true := by
        show PyData.eqvAll (ys'.map .int) (ys'.map .int) = true
        generalize ys' = l
        induction l with
        | nil => rfl
        | cons z r ih =>
          show ((z == z) && PyData.eqvAll (r.map .int) (r.map .int)) = true
          rw [ih]; simp
      rw [this]
      exact q _ (s1.trans s2)
theorem ok_eq (B : Bl mg) (F_FormSet : Fc K mg C) (D : Dm K C "__eq__" "FormSet.__eq__" s_FormSet___eq__ []) : Met P w K mg base 1 C "__eq__" (spSame C) [] := by
  refine D.met F_FormSet.cls sc_FormSet___eq__ (fun _ _ _ _ _ _ us hl => match us, hl with | [_, _], _ => rfl) (fun vs H Q E h => ?_) (fun f cdv A out s H vs Q E hr h => ?_)
  · obtain ⟨_, x, y, S, rfl, _⟩ := h
    rfl
  · obtain ⟨D, x, y, S, rfl, ⟨g, a, dx, d, m, rfl, h1, h2, hp⟩, ⟨g', a', dx', d', m', rfl, h1', h2', hp'⟩, q⟩ := h
    refine ⟨_, (pss_one (ps_ret (pe_and (pe_callB call_isi (by rfl) B.isinstance (by decide +kernel) (pa_cons (pv 1) (pa_cons (pe_gc (by rfl) F_FormSet.g_FormSet) pa_nil))) (pe_one (pe_cmpR (op_eq_dictA hr.rm.units0) (pe_fld (pv 0) rfl) (pe_fld (pv 1) rfl) (nomark _)))))), ?_⟩
    refine ⟨_, rfl, _, _, _, _, _, rfl, .own C, .base (.ins h1' F_FormSet.cls F_FormSet.ha F_FormSet.hn F_FormSet.htk F_FormSet.mro), kit_self, _, rfl, ?_⟩
    refine iteT ?_
    refine ⟨_, rfl, a, C, dx, _, _, rfl, h1, F_FormSet.cls, F_FormSet.na, rfl, _, rfl, a', C, dx', _, _, rfl, h1', F_FormSet.cls, F_FormSet.na, rfl, d, d', _, _, rfl, rfl, h2, h2', ?_, ?_, q H (Same.refl _)⟩
    · rw [List.length_map, List.length_map, hp.length_eq, hp'.length_eq]
    · intro p hm
      obtain ⟨r, hr, rfl⟩ := List.mem_map.mp hm
      refine ⟨?_, rfl⟩
      have nd' : Nd m' := (List.Perm.nodup_iff (hp'.map (fun x : Pr => x.1))).mpr g'.srt.nd
      show valV (m'.map enc) (Sum.inl r.1) = _
      rw [val_enc, lk_of_mem nd' (hp'.mem_iff.mpr (hp.mem_iff.mp hr))]
      rfl
end
end Eu
set_option Elab.async false
set_option linter.all false
set_option maxRecDepth 100000
set_option maxHeartbeats 4000000
namespace Eu
open PySem PySem.Spec PyProof.Rows L2
open C8 (pe_gc pss_cut)
open Fs
open StX (pa_star)
theorem ix_tupK {X : Cx} {K : PySem.W.Frag} (h : X.K = K := by rfl) : IxR X (rIxT K) := by subst h; exact ix_tup
theorem ix_listK {X : Cx} {K : PySem.W.Frag} (h : X.K = K := by rfl) : IxR X (rIxL K) := by subst h; exact ix_list
abbrev s_FormSet___or__ : Stmt := inClass (top 15) 5
theorem sc_FormSet___or__ : FnScope ["self", "other", "first", "last"] ["self", "other"] (defScope s_FormSet___or__) :=
  ⟨rfl, rfl, rfl, by decide +kernel, rfl, by decide +kernel, by decide +kernel⟩
abbrev s_FormSet___sub__ : Stmt := inClass (top 15) 7
theorem sc_FormSet___sub__ : FnScope ["self", "other", "element"] ["self", "other"] (defScope s_FormSet___sub__) :=
  ⟨rfl, rfl, rfl, by decide +kernel, rfl, by decide +kernel, by decide +kernel⟩
abbrev s_FormSet_kept : Stmt := inClass (top 15) 10
theorem sc_FormSet_kept : FnScope ["self", "other", "element"] ["self", "other"] (defScope s_FormSet_kept) :=
  ⟨rfl, rfl, rfl, by decide +kernel, rfl, by decide +kernel, by decide +kernel⟩
abbrev s_FormSet___and__ : Stmt := inClass (top 15) 6
theorem sc_FormSet___and__ : FnScope ["self", "other"] ["self", "other"] (defScope s_FormSet___and__) :=
  ⟨rfl, rfl, rfl, by decide +kernel, rfl, by decide +kernel, by decide +kernel⟩
abbrev s_FormSet___xor__ : Stmt := inClass (top 15) 8
theorem sc_FormSet___xor__ : FnScope ["self", "other"] ["self", "other"] (defScope s_FormSet___xor__) :=
  ⟨rfl, rfl, rfl, by decide +kernel, rfl, by decide +kernel, by decide +kernel⟩
abbrev s_FormSet_joined : Stmt := inClass (top 15) 9
theorem sc_FormSet_joined : FnScope ["self", "others", "found", "other"] ["self", "others"] (defScope s_FormSet_joined) :=
  ⟨rfl, rfl, rfl, by decide +kernel, rfl, by decide +kernel, by decide +kernel⟩
/-- a list of elements just made -/
theorem els_of {K : PySem.W.Frag} {D : List Int} {H : Hp} {p : Addr} {ts : List (Addr × Pr)} (h : H p = some (.lst (vals ts))) (ht : ∀ q ∈ ts, H q.1 = some (.tup [.int q.2.1, .str q.2.2])) (ok : ∀ q ∈ prs ts, OkP D q) : Els K D H p ts :=
  ⟨.inl (.inl (.inl h)), fun q hq => ⟨.inl (.inl (ht q hq)), ok _ (List.mem_map_of_mem hq)⟩⟩
theorem filt_vals {f : Pr → Bool} (ts : List (Addr × Pr)) : ts.filterMap (fun q => if f q.2 then some (V.ref q.1) else none) = vals (ts.filter fun q => f q.2) := by
  induction ts with
  | nil => rfl
  | cons q r ih =>
    rw [List.filterMap_cons, List.filter_cons]
    by_cases h : f q.2 = true
    · simp only [h, if_true]
      rw [ih]; rfl
    · simp only [h]
      exact ih
theorem filt_prs {f : Pr → Bool} (ts : List (Addr × Pr)) : prs (ts.filter fun q => f q.2) = (prs ts).filter f := by
  show (ts.filter (f ∘ fun q => q.2)).map (fun q => q.2) = (ts.map fun q => q.2).filter f
  rw [List.filter_map]
section
variable {P : Program} {w : World} {K : PySem.W.Frag} {mg : Str → Option Value} {base : Heap} {kw C : Addr}
theorem ok_or (F_FormSet : Fc K mg C) (m_FormSet : Mak P w K mg base 6 "FormSet" C (spInit K C) []) (m_FormSet_members : Met P w K mg base 1 C "members" (spMembers C) [])
    (D : Dm K C "__or__" "FormSet.__or__" s_FormSet___or__ []) : Met P w K mg base 8 C "__or__" (spBin C orS) [] := by
  refine D.met F_FormSet.cls sc_FormSet___or__ (fun _ _ _ _ _ _ us hl => match us, hl with | [_, _], _ => rfl) (fun vs H Q E h => ?_) (fun f cdv A out s H vs Q E hr h => ?_)
  · obtain ⟨_, x, y, S, T, rfl, _⟩ := h
    rfl
  · obtain ⟨D, x, y, S, T, rfl, hx, hy, q⟩ := h
    refine ⟨_, (pss_cons (ps_par (i := 2) (j := 3) (by rfl) sc_FormSet___or__.nd rfl rfl (by decide) rfl rfl (pa_cons (pe_mt0 m_FormSet_members hr (by decide) (pv 0)) (pa_cons (pe_mt0 m_FormSet_members hr (by decide) (pv 1)) pa_nil)) (by rfl))
(pss_one (ps_ret (pe_mk m_FormSet hr (by decide) (by rfl) (pa_cons (pe_lst (pa_star (pv 2) (pa_star (pv 3) pa_nil))) pa_nil))))), ?_⟩
    obtain ⟨a, dx, fs, rfl, ha, la, _⟩ := hx.ins
    obtain ⟨b, dy, gs, rfl, hb, lb, _⟩ := hy.ins
    refine ⟨_, rfl, a, dx, fs, rfl, ha, la, D, _, S, rfl, hx, fun p ts H1 s1 hp ep et => ?_⟩
    refine ⟨_, rfl, b, dy, gs, rfl, s1 _ _ hb, lb, D, _, T, rfl, hy.same s1, fun p' ts' H2 s2 hp' ep' et' => ?_⟩
    refine ⟨_, _, rfl, ?_⟩
    have hp2 := s2 _ _ hp
    have l1 := hx.1.len
    have l2 := hy.1.len
    have l3 : ts.length = S.length := by rw [← ep, List.length_map]
    have l4 : ts'.length = T.length := by rw [← ep', List.length_map]
    refine ⟨_, rfl, p, _, rfl, .inr (.inl (.inl hp2)), _, rfl, p', _, rfl, .inr (.inl (.inl hp')), ?_, fun l nl => ?_⟩
    · rw [List.append_nil, List.length_append, List.length_map, List.length_map]
      exact Nat.le_trans (by omega) (show 120 ≤ sizeLine by decide)
    have e : vals ts ++ (vals ts' ++ []) = vals (ts ++ ts') := by rw [List.append_nil]; exact List.map_append.symm
    rw [e]
    have s3 := same_new (o := .lst (vals (ts ++ ts'))) nl
    have ee : prs (ts ++ ts') = S ++ T := by rw [← ep, ← ep']; exact List.map_append
    refine use_make (D := D) (ts := ts ++ ts') (els_of upd_same (fun r hr => ?_) fun r hr => ?_) ?_ hx.1.few fun z H' s' fz => ?_
    · rcases List.mem_append.mp hr with hr | hr
      · exact s3 _ _ (s2 _ _ (et r hr))
      · exact s3 _ _ (et' r hr)
    · rw [ee] at hr
      exact (List.mem_append.mp hr).elim (hx.1.ok r) (hy.1.ok r)
    · rw [List.length_append]; omega
    · refine q z H' (s1.trans (s2.trans (s3.trans s'))) ?_
      rw [ee] at fz
      exact fz
theorem ok_sub (F_FormSet : Fc K mg C) (m_FormSet : Mak P w K mg base 6 "FormSet" C (spInit K C) []) (m_FormSet_members : Met P w K mg base 1 C "members" (spMembers C) []) (m_FormSet___contains__ : Met P w K mg base 2 C "__contains__" (spHas K C) [])
    (D : Dm K C "__sub__" "FormSet.__sub__" s_FormSet___sub__ []) : Met P w K mg base 8 C "__sub__" (spBin C subS) [] := by
  refine D.met F_FormSet.cls sc_FormSet___sub__ (fun _ _ _ _ _ _ us hl => match us, hl with | [_, _], _ => rfl) (fun vs H Q E h => ?_) (fun f cdv A out s H vs Q E hr h => ?_)
  · obtain ⟨_, x, y, S, T, rfl, _⟩ := h
    rfl
  · obtain ⟨D, x, y, S, T, rfl, hx, hy, q⟩ := h
    refine ⟨_, (pss_one (ps_ret (pe_mk m_FormSet hr (by decide) (by rfl) (pa_cons (pe_lc (own := [("element", 2)]) (by rfl) sc_FormSet___sub__.nd (pi_list (pe_mt0 m_FormSet_members hr (by decide) (pv 0))) (blkOk_by (own := [("element", 2)]) (N := ["self", "other", "element"]) (sc := defScope s_FormSet___sub__) (by decide +kernel)) (fun _ _ _ _ _ => (pg_name (i := 2) sc_FormSet___sub__.nd rfl (Or.inl rfl))) (fun _ _ _ _ _ => (pts_one (pt_cmpR (op_ownNotIn m_FormSet___contains__ hr (by decide)) (pe_ix (ix_tupK (K := K)) (pv 2) pe_int (fun _ _ => rfl)) (pv 1) (by rfl)))) (fun _ _ _ _ _ => (pv 2))) pa_nil)))), ?_⟩
    obtain ⟨a, dx, fs, rfl, ha, la, _⟩ := hx.ins
    refine ⟨_, rfl, a, dx, fs, rfl, ha, la, D, _, S, rfl, hx, fun p ts H1 s1 hp ep et => ?_⟩
    refine ⟨p, rfl, ⟨_, .inl (.inl hp)⟩, fun l nl => ?_⟩
    have l1 := hx.1.len
    have l3 : ts.length = S.length := by rw [← ep, List.length_map]
    have ok1 : ∀ r ∈ ts, OkP D r.2 := fun r hr => hx.1.ok _ (by rw [← ep]; exact List.mem_map_of_mem hr)
    refine lc_pure (over_map over_list) (fun q => if (!hasK T q.2.1) then some (V.ref q.1) else none) nl ?_ (fun H' s' => .inl (.inl (s' _ _ hp))) ?_ ?_
    · exact Nat.le_trans (show ts.length ≤ 60 by omega) (by decide)
    · rintro r hr H3 v H4 Nx s3 ⟨rfl, rfl⟩ k
      refine ⟨rfl, ?_⟩
      have ok := ok1 r hr
      refine ⟨_, rfl, r.1, _, 0, _, rfl, rfl, .inl (.inl (s3 _ _ (et r hr))), atI_nat (j := 0) rfl, _, rfl, use_in (neg := true) ((hy.same s1).same s3) ok.2.1 ok.2.2.1 fun H5 s5 => ⟨_, rfl, ?_⟩⟩
      show if (!hasK T r.2.1) = true then _ else _
      by_cases hk : (!hasK T r.2.1) = true
      · rw [if_pos hk]
        have := k H5 s5
        rw [if_pos hk] at this
        exact ⟨_, rfl, this⟩
      · rw [if_neg hk]
        have := k H5 s5
        rw [if_neg hk] at this
        exact this
    · intro H3 s3 hD
      rw [filt_vals (f := fun p => !hasK T p.1)] at hD
      refine use_make (D := D) (els_of hD (fun r hr => ?_) fun r hr => ?_) ?_ hx.1.few fun z H' s' fz => ?_
      · exact s3 _ _ (et r (List.mem_filter.mp hr).1)
      · obtain ⟨r', hr', rfl⟩ := List.mem_map.mp hr
        exact ok1 _ (List.mem_filter.mp hr').1
      · exact Nat.le_trans (List.length_filter_le _ _) (by omega)
      · refine q z H' (s1.trans (s3.trans s')) ?_
        rw [filt_prs (f := fun p => !hasK T p.1), ep, canon_srt (srt_filter hx.1.srt)] at fz
        exact fz
theorem ok_kept (F_FormSet : Fc K mg C) (m_FormSet : Mak P w K mg base 6 "FormSet" C (spInit K C) []) (m_FormSet_members : Met P w K mg base 1 C "members" (spMembers C) []) (m_FormSet___contains__ : Met P w K mg base 2 C "__contains__" (spHas K C) [])
    (D : Dm K C "kept" "FormSet.kept" s_FormSet_kept []) : Met P w K mg base 8 C "kept" (spBin C keptS) [] := by
  refine D.met F_FormSet.cls sc_FormSet_kept (fun _ _ _ _ _ _ us hl => match us, hl with | [_, _], _ => rfl) (fun vs H Q E h => ?_) (fun f cdv A out s H vs Q E hr h => ?_)
  · obtain ⟨_, x, y, S, T, rfl, _⟩ := h
    rfl
  · obtain ⟨D, x, y, S, T, rfl, hx, hy, q⟩ := h
    refine ⟨_, (pss_one (ps_ret (pe_mk m_FormSet hr (by decide) (by rfl) (pa_cons (pe_lc (own := [("element", 2)]) (by rfl) sc_FormSet_kept.nd (pi_list (pe_mt0 m_FormSet_members hr (by decide) (pv 0))) (blkOk_by (own := [("element", 2)]) (N := ["self", "other", "element"]) (sc := defScope s_FormSet_kept) (by decide +kernel)) (fun _ _ _ _ _ => (pg_name (i := 2) sc_FormSet_kept.nd rfl (Or.inl rfl))) (fun _ _ _ _ _ => (pts_one (pt_cmpR (op_ownIn m_FormSet___contains__ hr (by decide)) (pe_ix (ix_tupK (K := K)) (pv 2) pe_int (fun _ _ => rfl)) (pv 1) (by rfl)))) (fun _ _ _ _ _ => (pv 2))) pa_nil)))), ?_⟩
    obtain ⟨a, dx, fs, rfl, ha, la, _⟩ := hx.ins
    refine ⟨_, rfl, a, dx, fs, rfl, ha, la, D, _, S, rfl, hx, fun p ts H1 s1 hp ep et => ?_⟩
    refine ⟨p, rfl, ⟨_, .inl (.inl hp)⟩, fun l nl => ?_⟩
    have l1 := hx.1.len
    have l3 : ts.length = S.length := by rw [← ep, List.length_map]
    have ok1 : ∀ r ∈ ts, OkP D r.2 := fun r hr => hx.1.ok _ (by rw [← ep]; exact List.mem_map_of_mem hr)
    refine lc_pure (over_map over_list) (fun q => if hasK T q.2.1 then some (V.ref q.1) else none) nl ?_ (fun H' s' => .inl (.inl (s' _ _ hp))) ?_ ?_
    · exact Nat.le_trans (show ts.length ≤ 60 by omega) (by decide)
    · rintro r hr H3 v H4 Nx s3 ⟨rfl, rfl⟩ k
      refine ⟨rfl, ?_⟩
      have ok := ok1 r hr
      refine ⟨_, rfl, r.1, _, 0, _, rfl, rfl, .inl (.inl (s3 _ _ (et r hr))), atI_nat (j := 0) rfl, _, rfl, use_in (neg := false) ((hy.same s1).same s3) ok.2.1 ok.2.2.1 fun H5 s5 => ⟨_, rfl, ?_⟩⟩
      show if hasK T r.2.1 = true then _ else _
      by_cases hk : hasK T r.2.1 = true
      · rw [if_pos hk]
        have := k H5 s5
        rw [if_pos hk] at this
        exact ⟨_, rfl, this⟩
      · rw [if_neg hk]
        have := k H5 s5
        rw [if_neg hk] at this
        exact this
    · intro H3 s3 hD
      rw [filt_vals (f := fun p => hasK T p.1)] at hD
      refine use_make (D := D) (els_of hD (fun r hr => ?_) fun r hr => ?_) ?_ hx.1.few fun z H' s' fz => ?_
      · exact s3 _ _ (et r (List.mem_filter.mp hr).1)
      · obtain ⟨r', hr', rfl⟩ := List.mem_map.mp hr
        exact ok1 _ (List.mem_filter.mp hr').1
      · exact Nat.le_trans (List.length_filter_le _ _) (by omega)
      · refine q z H' (s1.trans (s3.trans s')) ?_
        rw [filt_prs (f := fun p => hasK T p.1), ep, canon_srt (srt_filter hx.1.srt)] at fz
        exact fz
theorem ok_and (B : Bl mg) (F_FormSet : Fc K mg C) (m_FormSet_kept : Met P w K mg base 8 C "kept" (spBin C keptS) []) (m_FormSet___len__ : Met P w K mg base 1 C "__len__" (spLen C) [])
    (D : Dm K C "__and__" "FormSet.__and__" s_FormSet___and__ []) : Met P w K mg base 9 C "__and__" (spBin C andS) [] := by
  refine D.met F_FormSet.cls sc_FormSet___and__ (fun _ _ _ _ _ _ us hl => match us, hl with | [_, _], _ => rfl) (fun vs H Q E h => ?_) (fun f cdv A out s H vs Q E hr h => ?_)
  · obtain ⟨_, x, y, S, T, rfl, _⟩ := h
    rfl
  · obtain ⟨D, x, y, S, T, rfl, hx, hy, q⟩ := h
    refine ⟨_, (pss_one (ps_ret (pe_ifExp (pt_cmpR op_lt (pe_callB (call_ownLen m_FormSet___len__ hr (by decide)) (by rfl) B.len (by decide +kernel) (pa_cons (pv 0) pa_nil)) (pe_callB (call_ownLen m_FormSet___len__ hr (by decide)) (by rfl) B.len (by decide +kernel) (pa_cons (pv 1) pa_nil)) (nomark _)) (pe_mt m_FormSet_kept hr (by decide) (pv 0) (pa_cons (pv 1) pa_nil)) (pe_mt m_FormSet_kept hr (by decide) (pv 1) (pa_cons (pv 0) pa_nil))))), ?_⟩
    refine ⟨_, rfl, ?_⟩
    dsimp only [tNil]
    refine use_len hx fun H1 s1 => ⟨_, rfl, ?_⟩
    dsimp only [tNil]
    refine use_len (hy.same s1) fun H2 s2 => ?_
    have s12 := s1.trans s2
    obtain ⟨a, dx, fs, rfl, ha, _, la, _⟩ := hx.ins
    obtain ⟨b, dy, gs, rfl, hb, _, lb, _⟩ := hy.ins
    refine ⟨_, _, rfl, rfl, _, rfl, ite2 (fun e => ?_) (fun e => ?_)⟩
    · have e' : S.length < T.length := by have := of_decide_eq_true e; omega
      refine ⟨_, rfl, a, dx, fs, rfl, s12 _ _ ha, la, _, rfl, D, _, _, S, T, rfl, hx.same s12, hy.same s12, fun z H' s' fz => ?_⟩
      refine q z H' (s12.trans s') ?_
      unfold andS
      rw [if_pos e']
      exact fz
    · have e' : ¬ S.length < T.length := by have := of_decide_eq_false (eq_false_of_ne_true e); omega
      refine ⟨_, rfl, b, dy, gs, rfl, s12 _ _ hb, lb, _, rfl, D, _, _, T, S, rfl, hy.same s12, hx.same s12, fun z H' s' fz => ?_⟩
      refine q z H' (s12.trans s') ?_
      unfold andS
      rw [if_neg e']
      exact fz
theorem ok_xor (F_FormSet : Fc K mg C) (m_FormSet___or__ : Met P w K mg base 8 C "__or__" (spBin C orS) []) (m_FormSet___sub__ : Met P w K mg base 8 C "__sub__" (spBin C subS) [])
    (D : Dm K C "__xor__" "FormSet.__xor__" s_FormSet___xor__ []) : Met P w K mg base 9 C "__xor__" (spBin C xorS) [] := by
  refine D.met F_FormSet.cls sc_FormSet___xor__ (fun _ _ _ _ _ _ us hl => match us, hl with | [_, _], _ => rfl) (fun vs H Q E h => ?_) (fun f cdv A out s H vs Q E hr h => ?_)
  · obtain ⟨_, x, y, S, T, rfl, _⟩ := h
    rfl
  · obtain ⟨D, x, y, S, T, rfl, hx, hy, q⟩ := h
    refine ⟨_, (pss_one (ps_ret (pe_op (op_ownB (op := .BitOr) (by decide +kernel) m_FormSet___or__ hr (by decide) F_FormSet.sf) (pe_op (op_ownB (op := .Sub) (by decide +kernel) m_FormSet___sub__ hr (by decide) F_FormSet.sf) (pv 0) (pv 1)) (pe_op (op_ownB (op := .Sub) (by decide +kernel) m_FormSet___sub__ hr (by decide) F_FormSet.sf) (pv 1) (pv 0))))), ?_⟩
    refine ⟨_, rfl, _, rfl, use_bin hx hy fun z H1 s1 fz => ?_⟩
    refine ⟨_, rfl, _, rfl, use_bin (hy.same s1) (hx.same s1) fun z' H2 s2 fz' => ?_⟩
    exact use_bin (fz.same s2) fz' fun u H3 s3 fu => q u H3 (s1.trans (s2.trans s3)) fu
def joinS (S : List Pr) (Ts : List (V × List Pr)) : List Pr := Ts.foldl (fun acc r => orS acc r.2) S
def spJoinB (C : Addr) : Sp := fun vs H Q _ => ∃ (D : List Int) (x : V) (p : Addr) (S : List Pr) (Ts : List (V × List Pr)), vs = [x, .ref p] ∧ FS C D H x S ∧ H p = some (.tup (Ts.map (·.1))) ∧ (∀ r ∈ Ts, FS C D H r.1 r.2) ∧
  ∀ z H', Same H H' → FS C D H' z (joinS S Ts) → Q z H'
def spJoin (C : Addr) : Sp := fun vs H Q E => ∃ x rest, vs = x :: rest ∧ rest.length ≤ sizeLine ∧ ∀ p, H p = none → spJoinB C [x, .ref p] (upd H p (.tup rest)) Q E
theorem ok_joined (F_FormSet : Fc K mg C) (m_FormSet___or__ : Met P w K mg base 8 C "__or__" (spBin C orS) []) (D : Dm K C "joined" "FormSet.joined" s_FormSet_joined []) : MetS P w K mg base 9 C "joined" (spJoin C) := by
  refine D.star F_FormSet.cls sc_FormSet_joined (fun _ _ _ _ _ _ us rest hl => match us, rest, hl with | [_], [], _ => rfl | [_], _ :: _, _ => rfl) (fun f cdv A out s H vs Q E hr h => ?_)
  obtain ⟨D, x, p, S, Ts, rfl, hx, hp, hT, q⟩ := h
  refine ⟨_, (pss_cons (ps_set (i := 2) sc_FormSet_joined.nd rfl (Or.inl rfl) (pv 0))
(pss_cons (ps_for PassesOwn.never (by rfl) (pi_tup (pv 1)) (pg_name (i := 3) sc_FormSet_joined.nd rfl (Or.inl rfl))
(pss_one (ps_set (i := 2) sc_FormSet_joined.nd rfl (Or.inl rfl) (pe_op (op_ownB (op := .BitOr) (by decide +kernel) m_FormSet___or__ hr (by decide) F_FormSet.sf) (pv 2) (pv 3)))))
(pss_one (ps_ret (pv 2))))), ?_⟩
  refine ⟨_, rfl, _, rfl, p, rfl, ⟨_, .inl (.inl hp)⟩, ?_⟩
  refine for_over (over_map (f := fun r : V × List Pr => r.1) over_tup) (fun i σ H' => (∃ z v, σ = [some x, some (.ref p), some z, v] ∧ FS C D H' z (joinS S (Ts.take i))) ∧ Same H H') ⟨⟨_, _, rfl, hx⟩, Same.refl _⟩ (fun i σ H' _ h => .inl (.inl (h.2 _ _ hp))) ?_ ?_
  · rintro i r σ H2 v H3 e ⟨⟨z, v0, rfl, fz⟩, s2⟩ ⟨rfl, rfl⟩
    refine ⟨_, rfl, _, rfl, use_bin fz ((hT r (List.mem_of_getElem? e)).same s2) fun u H4 s4 fu => ?_⟩
    refine ⟨⟨_, _, rfl, ?_⟩, s2.trans s4⟩
    have : joinS S (Ts.take (i + 1)) = orS (joinS S (Ts.take i)) r.2 := by
      unfold joinS
      rw [List.take_add_one, e, List.foldl_append]
      rfl
    rw [this]
    exact fu
  · rintro σ H2 ⟨⟨z, v0, rfl, fz⟩, s2⟩
    rw [List.take_length] at fz
    exact ⟨_, rfl, q z H2 s2 fz⟩
end
end Eu
set_option Elab.async false
set_option linter.all false
set_option maxRecDepth 100000
set_option maxHeartbeats 4000000
namespace Fs
/-! ### laws of form sets -/
theorem srt_xor (a b : List Pr) : Srt (xorS a b) := srt_or _ _
theorem has_and (a b : List Pr) (k : Int) : ((andS a b).lookup k).isSome = ((a.lookup k).isSome && (b.lookup k).isSome) := by
  unfold andS
  split
  · rw [lk_kept]; cases a.lookup k <;> cases b.lookup k <;> rfl
  · rw [lk_kept]; cases a.lookup k <;> cases b.lookup k <;> rfl
theorem has_or (a b : List Pr) (k : Int) : ((orS a b).lookup k).isSome = ((a.lookup k).isSome || (b.lookup k).isSome) := by
  rw [lk_or]; cases a.lookup k <;> cases b.lookup k <;> rfl
theorem has_sub (a b : List Pr) (k : Int) : ((subS a b).lookup k).isSome = ((a.lookup k).isSome && !(b.lookup k).isSome) := by
  rw [lk_sub]; cases a.lookup k <;> cases b.lookup k <;> rfl
theorem has_kept (a b : List Pr) (k : Int) : ((keptS a b).lookup k).isSome = ((a.lookup k).isSome && (b.lookup k).isSome) := by
  rw [lk_kept]; cases a.lookup k <;> cases b.lookup k <;> rfl
theorem has_xor (a b : List Pr) (k : Int) : ((xorS a b).lookup k).isSome = ((a.lookup k).isSome != (b.lookup k).isSome) := by
  rw [lk_xor]; cases a.lookup k <;> cases b.lookup k <;> rfl
theorem lk_blank (k : Int) : ∀ S : List Pr, (S.map fun p : Pr => ((p.1, ("" : String)) : Int × String)).lookup k = (S.lookup k).map fun _ => ""
  | [] => rfl
  | q :: r => by
    rw [List.map_cons, List.lookup_cons, List.lookup_cons, lk_blank k r]
    cases k == q.1 <;> rfl
theorem keys_ext : ∀ {S T : List Pr}, Srt S → Srt T → (∀ k, (S.lookup k).isSome = (T.lookup k).isSome) → S.map (fun p : Pr => p.1) = T.map (fun p : Pr => p.1) := by
  intro S T hs ht h
  have e : (S.map fun p : Pr => ((p.1, PySem.Str.ofString "") : Pr)) = (T.map fun p : Pr => ((p.1, PySem.Str.ofString "") : Pr)) := by
    have lk : ∀ (k : Int) (S : List Pr), (S.map fun p : Pr => ((p.1, PySem.Str.ofString "") : Pr)).lookup k = (S.lookup k).map fun _ => PySem.Str.ofString "" := by
      intro k S
      induction S with
      | nil => rfl
      | cons q r ih =>
        rw [List.map_cons, lk_cons, lk_cons, ih]
        split <;> rfl
    refine srt_ext ?_ ?_ fun k => ?_
    · unfold Srt; rw [List.pairwise_map]; exact hs
    · unfold Srt; rw [List.pairwise_map]; exact ht
    · rw [lk, lk]
      have := h k
      cases h1 : S.lookup k <;> cases h2 : T.lookup k <;> rw [h1, h2] at this <;> first | rfl | cases this
  have := congrArg (List.map fun p : Pr => p.1) e
  rwa [List.map_map, List.map_map] at this
/-- sorted, whatever it is made of -/
theorem srt_o {a b : List Pr} : Srt (orS a b) := srt_or _ _
section
variable {A B C : List Pr} (hA : Srt A) (hB : Srt B) (hC : Srt C)
include hA hB hC
theorem eq1 : orS A (subS B A) = orS A B := by
  refine srt_ext (by first | assumption | exact srt_or _ _ | exact srt_xor _ _ | exact srt_sub (by first | assumption | exact srt_or _ _ | exact srt_sub (by assumption)) | exact srt_kept (by first | assumption | exact srt_or _ _ | exact srt_kept (by assumption))) (by first | assumption | exact srt_or _ _ | exact srt_xor _ _ | exact srt_sub (by first | assumption | exact srt_or _ _ | exact srt_sub (by assumption)) | exact srt_kept (by first | assumption | exact srt_or _ _ | exact srt_kept (by assumption))) fun k => ?_
  simp only [lk_or, lk_sub, lk_kept, lk_xor]
  cases List.lookup k A <;> cases List.lookup k B <;> cases List.lookup k C <;> rfl
theorem eq2 : subS A (subS A B) = keptS A B := by
  refine srt_ext (by first | assumption | exact srt_or _ _ | exact srt_xor _ _ | exact srt_sub (by first | assumption | exact srt_or _ _ | exact srt_sub (by assumption)) | exact srt_kept (by first | assumption | exact srt_or _ _ | exact srt_kept (by assumption))) (by first | assumption | exact srt_or _ _ | exact srt_xor _ _ | exact srt_sub (by first | assumption | exact srt_or _ _ | exact srt_sub (by assumption)) | exact srt_kept (by first | assumption | exact srt_or _ _ | exact srt_kept (by assumption))) fun k => ?_
  simp only [lk_or, lk_sub, lk_kept, lk_xor]
  cases List.lookup k A <;> cases List.lookup k B <;> cases List.lookup k C <;> rfl
theorem eq4 : orS (keptS A B) A = A := by
  refine srt_ext (by first | assumption | exact srt_or _ _ | exact srt_xor _ _ | exact srt_sub (by first | assumption | exact srt_or _ _ | exact srt_sub (by assumption)) | exact srt_kept (by first | assumption | exact srt_or _ _ | exact srt_kept (by assumption))) (by first | assumption | exact srt_or _ _ | exact srt_xor _ _ | exact srt_sub (by first | assumption | exact srt_or _ _ | exact srt_sub (by assumption)) | exact srt_kept (by first | assumption | exact srt_or _ _ | exact srt_kept (by assumption))) fun k => ?_
  simp only [lk_or, lk_sub, lk_kept, lk_xor]
  cases List.lookup k A <;> cases List.lookup k B <;> cases List.lookup k C <;> rfl
theorem eq5 : keptS (orS A B) A = A := by
  refine srt_ext (by first | assumption | exact srt_or _ _ | exact srt_xor _ _ | exact srt_sub (by first | assumption | exact srt_or _ _ | exact srt_sub (by assumption)) | exact srt_kept (by first | assumption | exact srt_or _ _ | exact srt_kept (by assumption))) (by first | assumption | exact srt_or _ _ | exact srt_xor _ _ | exact srt_sub (by first | assumption | exact srt_or _ _ | exact srt_sub (by assumption)) | exact srt_kept (by first | assumption | exact srt_or _ _ | exact srt_kept (by assumption))) fun k => ?_
  simp only [lk_or, lk_sub, lk_kept, lk_xor]
  cases List.lookup k A <;> cases List.lookup k B <;> cases List.lookup k C <;> rfl
theorem eq6 : orS (orS A B) C = orS A (orS B C) := by
  refine srt_ext (by first | assumption | exact srt_or _ _ | exact srt_xor _ _ | exact srt_sub (by first | assumption | exact srt_or _ _ | exact srt_sub (by assumption)) | exact srt_kept (by first | assumption | exact srt_or _ _ | exact srt_kept (by assumption))) (by first | assumption | exact srt_or _ _ | exact srt_xor _ _ | exact srt_sub (by first | assumption | exact srt_or _ _ | exact srt_sub (by assumption)) | exact srt_kept (by first | assumption | exact srt_or _ _ | exact srt_kept (by assumption))) fun k => ?_
  simp only [lk_or, lk_sub, lk_kept, lk_xor]
  cases List.lookup k A <;> cases List.lookup k B <;> cases List.lookup k C <;> rfl
theorem eq8 : keptS (keptS A B) C = keptS A (keptS B C) := by
  refine srt_ext (by first | assumption | exact srt_or _ _ | exact srt_xor _ _ | exact srt_sub (by first | assumption | exact srt_or _ _ | exact srt_sub (by assumption)) | exact srt_kept (by first | assumption | exact srt_or _ _ | exact srt_kept (by assumption))) (by first | assumption | exact srt_or _ _ | exact srt_xor _ _ | exact srt_sub (by first | assumption | exact srt_or _ _ | exact srt_sub (by assumption)) | exact srt_kept (by first | assumption | exact srt_or _ _ | exact srt_kept (by assumption))) fun k => ?_
  simp only [lk_or, lk_sub, lk_kept, lk_xor]
  cases List.lookup k A <;> cases List.lookup k B <;> cases List.lookup k C <;> rfl
theorem eq9 : subS (subS A B) C = subS A (orS B C) := by
  refine srt_ext (by first | assumption | exact srt_or _ _ | exact srt_xor _ _ | exact srt_sub (by first | assumption | exact srt_or _ _ | exact srt_sub (by assumption)) | exact srt_kept (by first | assumption | exact srt_or _ _ | exact srt_kept (by assumption))) (by first | assumption | exact srt_or _ _ | exact srt_xor _ _ | exact srt_sub (by first | assumption | exact srt_or _ _ | exact srt_sub (by assumption)) | exact srt_kept (by first | assumption | exact srt_or _ _ | exact srt_kept (by assumption))) fun k => ?_
  simp only [lk_or, lk_sub, lk_kept, lk_xor]
  cases List.lookup k A <;> cases List.lookup k B <;> cases List.lookup k C <;> rfl
theorem eq10 : subS (orS A B) C = orS (subS A C) (subS B C) := by
  refine srt_ext (by first | assumption | exact srt_or _ _ | exact srt_xor _ _ | exact srt_sub (by first | assumption | exact srt_or _ _ | exact srt_sub (by assumption)) | exact srt_kept (by first | assumption | exact srt_or _ _ | exact srt_kept (by assumption))) (by first | assumption | exact srt_or _ _ | exact srt_xor _ _ | exact srt_sub (by first | assumption | exact srt_or _ _ | exact srt_sub (by assumption)) | exact srt_kept (by first | assumption | exact srt_or _ _ | exact srt_kept (by assumption))) fun k => ?_
  simp only [lk_or, lk_sub, lk_kept, lk_xor]
  cases List.lookup k A <;> cases List.lookup k B <;> cases List.lookup k C <;> rfl
theorem eq11 : xorS A B = xorS B A := by
  refine srt_ext (by first | assumption | exact srt_or _ _ | exact srt_xor _ _ | exact srt_sub (by first | assumption | exact srt_or _ _ | exact srt_sub (by assumption)) | exact srt_kept (by first | assumption | exact srt_or _ _ | exact srt_kept (by assumption))) (by first | assumption | exact srt_or _ _ | exact srt_xor _ _ | exact srt_sub (by first | assumption | exact srt_or _ _ | exact srt_sub (by assumption)) | exact srt_kept (by first | assumption | exact srt_or _ _ | exact srt_kept (by assumption))) fun k => ?_
  simp only [lk_or, lk_sub, lk_kept, lk_xor]
  cases List.lookup k A <;> cases List.lookup k B <;> cases List.lookup k C <;> rfl
theorem eq13 : andS A A = A := by
  unfold andS
  rw [if_neg (Nat.lt_irrefl _)]
  refine srt_ext (by first | assumption | exact srt_or _ _ | exact srt_xor _ _ | exact srt_sub (by first | assumption | exact srt_or _ _ | exact srt_sub (by assumption)) | exact srt_kept (by first | assumption | exact srt_or _ _ | exact srt_kept (by assumption))) (by first | assumption | exact srt_or _ _ | exact srt_xor _ _ | exact srt_sub (by first | assumption | exact srt_or _ _ | exact srt_sub (by assumption)) | exact srt_kept (by first | assumption | exact srt_or _ _ | exact srt_kept (by assumption))) fun k => ?_
  simp only [lk_or, lk_sub, lk_kept, lk_xor]
  cases List.lookup k A <;> cases List.lookup k B <;> cases List.lookup k C <;> rfl
theorem eq14 : orS A A = A := by
  refine srt_ext (by first | assumption | exact srt_or _ _ | exact srt_xor _ _ | exact srt_sub (by first | assumption | exact srt_or _ _ | exact srt_sub (by assumption)) | exact srt_kept (by first | assumption | exact srt_or _ _ | exact srt_kept (by assumption))) (by first | assumption | exact srt_or _ _ | exact srt_xor _ _ | exact srt_sub (by first | assumption | exact srt_or _ _ | exact srt_sub (by assumption)) | exact srt_kept (by first | assumption | exact srt_or _ _ | exact srt_kept (by assumption))) fun k => ?_
  simp only [lk_or, lk_sub, lk_kept, lk_xor]
  cases List.lookup k A <;> cases List.lookup k B <;> cases List.lookup k C <;> rfl
theorem eq15 : subS A A = [] := by
  have h0 : Srt ([] : List Pr) := List.Pairwise.nil
  refine srt_ext (srt_sub hA) h0 fun k => ?_
  rw [lk_sub]
  cases A.lookup k <;> rfl
end
theorem turn_ne {A B : List Pr} (h : A.length ≠ B.length) : andS A B = andS B A := by
  unfold andS
  by_cases h1 : A.length < B.length
  · rw [if_pos h1, if_neg (by omega)]
  · rw [if_neg h1, if_pos (by omega)]
theorem turn_eq {A B : List Pr} (h : A.length = B.length) : andS A B = keptS B A := by
  unfold andS
  rw [if_neg (by omega)]
end Fs
namespace Eu
open PySem PySem.Spec PyProof.Rows L2
open Fs
theorem Good.sub {D : List Int} {S T : List Pr} (a : Good D S) : Good D (subS S T) := a.filter
theorem Good.kept {D : List Int} {S T : List Pr} (a : Good D S) : Good D (keptS S T) := a.filter
/-! ### expressions of form sets -/
/-- t gives a new value that is the form set S, and changes nothing -/
def Ev (C : Addr) (D : List Int) (Pv : Hp → Prop) (t : TE) (σ : L2.St) (S : List Pr) : Prop := ∀ H (Q : VK), Pv H → (∀ z H', Same H H' → FS C D H' z S → Q z H') → t σ H Q
def Stays (Pv : Hp → Prop) : Prop := ∀ H H', Same H H' → Pv H → Pv H'
section
variable {K : PySem.W.Frag} {C : Addr} {D : List Int} {Pv : Hp → Prop} {t t1 t2 t3 : TE} {σ : L2.St} {S T U : List Pr}
theorem ev_var {i : Nat} {x : V} (h : ∀ H, Pv H → FS C D H x S) (e : σ[i]? = some (some x)) : Ev C D Pv (tVar i) σ S := fun H Q p q => ⟨x, e, q x H (Same.refl _) (h H p)⟩
theorem ev_op {f : List Pr → List Pr → List Pr} (st : Stays Pv) (h1 : Ev C D Pv t1 σ S) (h2 : Ev C D Pv t2 σ T) : Ev C D Pv (tOp (rOwn C (spBin C f) []) t1 t2) σ (f S T) := fun H Q p q =>
  h1 H _ p fun x H1 s1 fx => h2 H1 _ (st _ _ s1 p) fun y H2 s2 fy => use_bin (fx.same s2) fy fun z H3 s3 fz => q z H3 (s1.trans (s2.trans s3)) fz
theorem ev_kept (st : Stays Pv) (h1 : Ev C D Pv t1 σ S) (h2 : Ev C D Pv t2 σ T) : Ev C D Pv (tMeth C "kept" (spBin C keptS) [] E0 t1 (tCons t2 tNil)) σ (keptS S T) := fun H Q p q =>
  h1 H _ p fun x H1 s1 fx => by
    obtain ⟨a, dx, fs, rfl, ha, _, la, _⟩ := fx.ins
    exact ⟨a, dx, fs, rfl, ha, la, h2 H1 _ (st _ _ s1 p) fun y H2 s2 fy => ⟨D, _, _, S, T, rfl, fx.same s2, fy, fun z H3 s3 fz => q z H3 (s1.trans (s2.trans s3)) fz⟩⟩
end
/-! ### pairs that are due -/
def Pair (C : Addr) (D : List Int) (R : List Pr → List Pr → Prop) (H : Hp) (y : V) : Prop := ∃ t z1 z2 S T, y = .ref t ∧ H t = some (.tup [z1, z2]) ∧ FS C D H z1 S ∧ FS C D H z2 T ∧ R S T
def Due (C : Addr) (D : List Int) (R : List Pr → List Pr → Prop) (H : Hp) (l : Addr) : Prop := ∃ ys, H l = some (.lst ys) ∧ ys.length ≤ 40 ∧ ∀ y ∈ ys, Pair C D R H y
section
variable {K : PySem.W.Frag} {C l : Addr} {D : List Int} {R : List Pr → List Pr → Prop} {Pv : Hp → Prop} {t t1 t2 t3 : TE} {σ : L2.St} {S T U : List Pr} {H H' : Hp}
theorem Pair.same {y : V} (h : Pair C D R H y) (s : Same H H') : Pair C D R H' y := by
  obtain ⟨t, z1, z2, S, T, e, ht, f1, f2, r⟩ := h
  exact ⟨t, z1, z2, S, T, e, s _ _ ht, f1.same s, f2.same s, r⟩
theorem Pair.put {y : V} {xs ys : List V} (h : Pair C D R H y) (hl : H l = some (.lst xs)) : Pair C D R (upd H l (.lst ys)) y := by
  obtain ⟨t, z1, z2, S, T, e, ht, f1, f2, r⟩ := h
  have b : But l H (upd H l (.lst ys)) := But.upd
  exact ⟨t, z1, z2, S, T, e, b.at (fun z => by rw [z, hl] at ht; cases ht) ht, f1.but b hl (fun _ _ _ z => nomatch z) (fun _ z => nomatch z), f2.but b hl (fun _ _ _ z => nomatch z) (fun _ z => nomatch z), r⟩
theorem Due.same (h : Due C D R H l) (s : Same H H') : Due C D R H' l := by
  obtain ⟨ys, h1, h2, h3⟩ := h
  exact ⟨ys, s _ _ h1, h2, fun y hy => (h3 y hy).same s⟩
/-- a pair laid -/
theorem use_pair {Q : VK} (st : Stays Pv) (h1 : Ev C D Pv t1 σ S) (h2 : Ev C D Pv t2 σ T) (r : R S T) (p : Pv H) (q : ∀ y H', Same H H' → Pair C D R H' y → Q y H') : tTup (tCons t1 (tCons t2 tNil)) σ H Q :=
  h1 H _ p fun x H1 s1 fx => h2 H1 _ (st _ _ s1 p) fun y H2 s2 fy => ⟨by show 2 ≤ sizeLine; decide, fun u nu =>
    have s3 := same_new (o := .tup [x, y]) nu
    q _ _ (s1.trans (s2.trans s3)) ⟨u, x, y, S, T, rfl, upd_same, (fx.same s2).same s3, fy.same s3, r⟩⟩
/-- due.append((.., ..)); n: how many there may be -/
theorem use_append {i : Nat} {Q : VK} (st : Stays Pv) (e : σ[i]? = some (some (.ref l))) (h1 : Ev C D Pv t1 σ S) (h2 : Ev C D Pv t2 σ T) (r : R S T) (p : Pv H) (hp : ∀ (H : Hp) ys zs, Pv H → H l = some (.lst ys) → Pv (upd H l (.lst zs)))
    (n : Nat) (hn : n < 40) (d : ∃ ys, H l = some (.lst ys) ∧ ys.length = n ∧ ∀ y ∈ ys, Pair C D R H y)
    (q : ∀ H', Pv H' → (∃ ys, H' l = some (.lst ys) ∧ ys.length = n + 1 ∧ ∀ y ∈ ys, Pair C D R H' y) → Q .non H') : tBM K "list" rAppend (tVar i) (tCons (tTup (tCons t1 (tCons t2 tNil))) tNil) σ H Q := by
  obtain ⟨ys, hl, hy, hall⟩ := d
  refine ⟨_, e, ?_, use_pair st h1 h2 r p fun y H1 s1 py => ?_⟩
  · exact .inl ⟨rfl, ys, .inl (.inl hl)⟩
  · have hl1 := s1 _ _ hl
    refine ⟨l, ys, y, rfl, rfl, hl1, Nat.lt_of_le_of_lt (show ys.length ≤ 40 by omega) (by decide), q _ (hp _ _ _ (st _ _ s1 p) hl1) ⟨_, upd_same, by rw [List.length_append, hy]; rfl, fun z hz => ?_⟩⟩
    rcases List.mem_append.mp hz with hz | hz
    · exact ((hall z hz).same s1).put hl1
    · have : z = y := by simpa using hz
      subst this
      exact py.put hl1
/-- .. told with what stays -/
theorem use_append' {i : Nat} {Q : VK} (st : Stays Pv) (e : σ[i]? = some (some (.ref l))) (h1 : Ev C D Pv t1 σ S) (h2 : Ev C D Pv t2 σ T) (r : R S T) (p : Pv H) (hp : ∀ (H : Hp) ys zs, Pv H → H l = some (.lst ys) → Pv (upd H l (.lst zs)))
    (n : Nat) (hn : n < 40) (d : ∃ ys, H l = some (.lst ys) ∧ ys.length = n ∧ ∀ y ∈ ys, Pair C D R H y)
    (q : ∀ H', Pv H' → (∃ ys, H' l = some (.lst ys) ∧ ys.length = n + 1 ∧ ∀ y ∈ ys, Pair C D R H' y) → But l H H' → Q .non H') : tBM K "list" rAppend (tVar i) (tCons (tTup (tCons t1 (tCons t2 tNil))) tNil) σ H Q := by
  obtain ⟨ys, hl, hy, hall⟩ := d
  refine ⟨_, e, ?_, use_pair st h1 h2 r p fun y H1 s1 py => ?_⟩
  · exact .inl ⟨rfl, ys, .inl (.inl hl)⟩
  · have hl1 := s1 _ _ hl
    refine ⟨l, ys, y, rfl, rfl, hl1, Nat.lt_of_le_of_lt (show ys.length ≤ 40 by omega) (by decide), q _ (hp _ _ _ (st _ _ s1 p) hl1) ⟨_, upd_same, by rw [List.length_append, hy]; rfl, fun z hz => ?_⟩ ((But.of_same s1).trans But.upd)⟩
    rcases List.mem_append.mp hz with hz | hz
    · exact ((hall z hz).same s1).put hl1
    · have : z = y := by simpa using hz
      subst this
      exact py.put hl1
end
end Eu
set_option Elab.async false
set_option linter.all false
set_option maxRecDepth 100000
set_option maxHeartbeats 4000000
namespace Eu
open PySem PySem.Spec PyProof.Rows L2
open C8 (pe_gc pss_cut)
open Fs
abbrev s_l_equations : Stmt := top 20
theorem sc_l_equations : FnScope ["_law_a", "_law_b", "_law_c", "_law_due", "_law_one", "_law_other"] ["_law_a", "_law_b", "_law_c"] (defScope s_l_equations) :=
  ⟨rfl, rfl, rfl, by decide +kernel, rfl, by decide +kernel, by decide +kernel⟩
abbrev s_l_keys : Stmt := top 21
theorem sc_l_keys : FnScope ["_law_a", "_law_b", "_law_c", "_law_due", "_law_one", "_law_other"] ["_law_a", "_law_b", "_law_c"] (defScope s_l_keys) :=
  ⟨rfl, rfl, rfl, by decide +kernel, rfl, by decide +kernel, by decide +kernel⟩
abbrev s_l_turned : Stmt := top 22
theorem sc_l_turned : FnScope ["_law_a", "_law_b", "_law_one", "_law_other"] ["_law_a", "_law_b"] (defScope s_l_turned) :=
  ⟨rfl, rfl, rfl, by decide +kernel, rfl, by decide +kernel, by decide +kernel⟩
theorem ev_joined {C : Addr} {D : List Int} {Pv : Hp → Prop} {t1 t2 t3 : TE} {σ : L2.St} {S T U : List Pr} (st : Stays Pv) (h1 : Ev C D Pv t1 σ S) (h2 : Ev C D Pv t2 σ T) (h3 : Ev C D Pv t3 σ U) :
    Ev C D Pv (tMeth C "joined" (spJoin C) [] E0 t1 (tCons t2 (tCons t3 tNil))) σ (orS (orS S T) U) := fun H Q p q =>
  h1 H _ p fun x H1 s1 fx => by
    obtain ⟨a, dx, fs, rfl, ha, _, _, la, _⟩ := fx.ins
    refine ⟨a, dx, fs, rfl, ha, la, h2 H1 _ (st _ _ s1 p) fun y H2 s2 fy => h3 H2 _ (st _ _ (s1.trans s2) p) fun z H3 s3 fz => ⟨_, [y, z], rfl, by show 2 ≤ sizeLine; decide, fun u nu => ?_⟩⟩
    have s4 := same_new (o := .tup [y, z]) nu
    refine ⟨D, _, u, S, [(y, T), (z, U)], rfl, ((fx.same s2).same s3).same s4, upd_same, fun r hr => ?_, fun w H5 s5 fw => q w H5 (s1.trans (s2.trans (s3.trans (s4.trans s5)))) fw⟩
    rcases List.mem_cons.mp hr with e | hr
    · rw [e]; exact (fy.same s3).same s4
    · have e : r = (z, U) := by simpa using hr
      rw [e]; exact fz.same s4
theorem seq_drop {t : TE} {b : TS} {D : Ends} {σ : L2.St} {H : Hp} (h : t σ H fun _ H1 => b D σ H1) : tSeq (tDrop t) b D σ H := h
theorem seq_lst1 {i : Nat} {t : TE} {b : TS} {D : Ends} {σ : L2.St} {H : Hp} (h : t σ H fun y H1 => 1 ≤ sizeLine ∧ ∀ p, H1 p = none → b D (σ.set i (some (.ref p))) (upd H1 p (.lst [y]))) :
    tSeq (tAsg (tLst (tCons t tNil)) (gName i)) b D σ H := h
theorem seq_cat3 {i : Nat} {l : Addr} {t1 t2 t3 : TE} {b : TS} {D : Ends} {σ : L2.St} {H : Hp} (e : σ[i]? = some (some (.ref l)))
    (h : t1 σ H fun y1 H1 => t2 σ H1 fun y2 H2 => t3 σ H2 fun y3 H3 => 3 ≤ sizeLine ∧ ∀ p, H3 p = none → rCat (.ref l) (.ref p) (upd H3 p (.lst [y1, y2, y3])) fun v H4 => b D (σ.set i (some v)) H4) :
    tSeq (tAsg (tOp rCat (tVar i) (tLst (tCons t1 (tCons t2 (tCons t3 tNil))))) (gName i)) b D σ H := ⟨_, e, h⟩
/-- three form sets -/
def Tri (C : Addr) (D : List Int) (a b c : V) (A B Z : List Pr) (H : Hp) : Prop := FS C D H a A ∧ FS C D H b B ∧ FS C D H c Z
theorem tri_stays {C : Addr} {D : List Int} {a b c : V} {A B Z : List Pr} : Stays (Tri C D a b c A B Z) := fun H H' s p => ⟨p.1.same s, p.2.1.same s, p.2.2.same s⟩
theorem tri_put {C l : Addr} {D : List Int} {a b c : V} {A B Z : List Pr} : ∀ (H : Hp) (ys zs : List V), Tri C D a b c A B Z H → H l = some (.lst ys) → Tri C D a b c A B Z (upd H l (.lst zs)) := fun H ys zs p hl =>
  have b : But l H (upd H l (.lst zs)) := But.upd
  have go : ∀ {x : V} {S : List Pr}, FS C D H x S → FS C D (upd H l (.lst zs)) x S := fun f => f.but b hl (fun _ _ _ z => nomatch z) (fun _ z => nomatch z)
  ⟨go p.1, go p.2.1, go p.2.2⟩
def spTri (C : Addr) : Sp := fun vs H Q _ => ∃ (D : List Int) (a b c : V) (A B Z : List Pr), vs = [a, b, c] ∧ Tri C D a b c A B Z H ∧ ∀ H', Same H H' → Q (.bl true) H'
section
variable {P : Program} {w : World} {K : PySem.W.Frag} {mg : Str → Option Value} {base : Heap} {kw C : Addr}

theorem ok_l_equations (B : Bl mg) (F_FormSet : Fc K mg C) {T0 : Addr} (hT0 : ∀ H, SqT K H T0 []) (m0_FormSet : Mak P w K mg base 6 "FormSet" C (spInit K C) [.ref T0]) (m_FormSet___or__ : Met P w K mg base 8 C "__or__" (spBin C orS) []) (m_FormSet___sub__ : Met P w K mg base 8 C "__sub__" (spBin C subS) [])
    (m_FormSet_kept : Met P w K mg base 8 C "kept" (spBin C keptS) []) (m_FormSet___and__ : Met P w K mg base 9 C "__and__" (spBin C andS) []) (m_FormSet___xor__ : Met P w K mg base 9 C "__xor__" (spBin C xorS) []) (m_FormSet_joined : MetS P w K mg base 9 C "joined" (spJoin C))
    (m_FormSet_equals : Met P w K mg base 1 C "equals" (spKeys C) []) (m_FormSet___len__ : Met P w K mg base 1 C "__len__" (spLen C) []) (m_FormSet___eq__ : Met P w K mg base 1 C "__eq__" (spSame C) [])
    (D : Df K mg "_law_equations" s_l_equations) : Cal P w K mg base 10 "_law_equations" (spTri C) [] := by
  refine D.cal sc_l_equations (fun _ _ _ _ _ _ us hl => match us, hl with | [_, _, _], _ => rfl) (fun vs H Q E h => ?_) (fun f cdv A out s H vs Q E hr h => ?_)
  · obtain ⟨_, a, b, c, A, B, Z, rfl, _⟩ := h
    rfl
  · obtain ⟨D, a, b, c, SA, SB, SC, rfl, h, q⟩ := h
    refine ⟨_, (pss_cons (ps_set (i := 3) sc_l_equations.nd rfl (Or.inl rfl) (pe_lst (pa_cons (pe_tup (pa_cons (pe_op (op_ownB (op := .BitOr) (by decide +kernel) m_FormSet___or__ hr (by decide) F_FormSet.sf) (pv 0) (pe_op (op_ownB (op := .Sub) (by decide +kernel) m_FormSet___sub__ hr (by decide) F_FormSet.sf) (pv 1) (pv 0))) (pa_cons (pe_op (op_ownB (op := .BitOr) (by decide +kernel) m_FormSet___or__ hr (by decide) F_FormSet.sf) (pv 0) (pv 1)) pa_nil))) pa_nil)))
(pss_cons (ps_expr (pe_bm PySem.F.plainAttrs_list PySem.F.slot_list_append PySem.F.type_list_append mt_append (pv 3) (pa_cons (pe_tup (pa_cons (pe_op (op_ownB (op := .Sub) (by decide +kernel) m_FormSet___sub__ hr (by decide) F_FormSet.sf) (pv 0) (pe_op (op_ownB (op := .Sub) (by decide +kernel) m_FormSet___sub__ hr (by decide) F_FormSet.sf) (pv 0) (pv 1))) (pa_cons (pe_mt m_FormSet_kept hr (by decide) (pv 0) (pa_cons (pv 1) pa_nil)) pa_nil))) pa_nil)))
(pss_cons (ps_expr (pe_bm PySem.F.plainAttrs_list PySem.F.slot_list_append PySem.F.type_list_append mt_append (pv 3) (pa_cons (pe_tup (pa_cons (pe_op (op_ownB (op := .BitOr) (by decide +kernel) m_FormSet___or__ hr (by decide) F_FormSet.sf) (pe_op (op_ownB (op := .Sub) (by decide +kernel) m_FormSet___sub__ hr (by decide) F_FormSet.sf) (pv 0) (pv 1)) (pe_op (op_ownB (op := .Sub) (by decide +kernel) m_FormSet___sub__ hr (by decide) F_FormSet.sf) (pv 1) (pv 0))) (pa_cons (pe_op (op_ownB (op := .BitXor) (by decide +kernel) m_FormSet___xor__ hr (by decide) F_FormSet.sf) (pv 0) (pv 1)) pa_nil))) pa_nil)))
(pss_cons (ps_expr (pe_bm PySem.F.plainAttrs_list PySem.F.slot_list_append PySem.F.type_list_append mt_append (pv 3) (pa_cons (pe_tup (pa_cons (pe_op (op_ownB (op := .BitOr) (by decide +kernel) m_FormSet___or__ hr (by decide) F_FormSet.sf) (pe_mt m_FormSet_kept hr (by decide) (pv 0) (pa_cons (pv 1) pa_nil)) (pv 0)) (pa_cons (pv 0) pa_nil))) pa_nil)))
(pss_cons (ps_expr (pe_bm PySem.F.plainAttrs_list PySem.F.slot_list_append PySem.F.type_list_append mt_append (pv 3) (pa_cons (pe_tup (pa_cons (pe_mt m_FormSet_kept hr (by decide) (pe_op (op_ownB (op := .BitOr) (by decide +kernel) m_FormSet___or__ hr (by decide) F_FormSet.sf) (pv 0) (pv 1)) (pa_cons (pv 0) pa_nil)) (pa_cons (pv 0) pa_nil))) pa_nil)))
(pss_cons (ps_expr (pe_bm PySem.F.plainAttrs_list PySem.F.slot_list_append PySem.F.type_list_append mt_append (pv 3) (pa_cons (pe_tup (pa_cons (pe_op (op_ownB (op := .BitOr) (by decide +kernel) m_FormSet___or__ hr (by decide) F_FormSet.sf) (pe_op (op_ownB (op := .BitOr) (by decide +kernel) m_FormSet___or__ hr (by decide) F_FormSet.sf) (pv 0) (pv 1)) (pv 2)) (pa_cons (pe_op (op_ownB (op := .BitOr) (by decide +kernel) m_FormSet___or__ hr (by decide) F_FormSet.sf) (pv 0) (pe_op (op_ownB (op := .BitOr) (by decide +kernel) m_FormSet___or__ hr (by decide) F_FormSet.sf) (pv 1) (pv 2))) pa_nil))) pa_nil)))
(pss_cons (ps_expr (pe_bm PySem.F.plainAttrs_list PySem.F.slot_list_append PySem.F.type_list_append mt_append (pv 3) (pa_cons (pe_tup (pa_cons (pe_op (op_ownB (op := .BitOr) (by decide +kernel) m_FormSet___or__ hr (by decide) F_FormSet.sf) (pe_op (op_ownB (op := .BitOr) (by decide +kernel) m_FormSet___or__ hr (by decide) F_FormSet.sf) (pv 0) (pv 1)) (pv 2)) (pa_cons (pe_mtS m_FormSet_joined hr (by decide) (pv 0) (pa_cons (pv 1) (pa_cons (pv 2) pa_nil))) pa_nil))) pa_nil)))
(pss_cons (ps_expr (pe_bm PySem.F.plainAttrs_list PySem.F.slot_list_append PySem.F.type_list_append mt_append (pv 3) (pa_cons (pe_tup (pa_cons (pe_mt m_FormSet_kept hr (by decide) (pe_mt m_FormSet_kept hr (by decide) (pv 0) (pa_cons (pv 1) pa_nil)) (pa_cons (pv 2) pa_nil)) (pa_cons (pe_mt m_FormSet_kept hr (by decide) (pv 0) (pa_cons (pe_mt m_FormSet_kept hr (by decide) (pv 1) (pa_cons (pv 2) pa_nil)) pa_nil)) pa_nil))) pa_nil)))
(pss_cons (ps_expr (pe_bm PySem.F.plainAttrs_list PySem.F.slot_list_append PySem.F.type_list_append mt_append (pv 3) (pa_cons (pe_tup (pa_cons (pe_op (op_ownB (op := .Sub) (by decide +kernel) m_FormSet___sub__ hr (by decide) F_FormSet.sf) (pe_op (op_ownB (op := .Sub) (by decide +kernel) m_FormSet___sub__ hr (by decide) F_FormSet.sf) (pv 0) (pv 1)) (pv 2)) (pa_cons (pe_op (op_ownB (op := .Sub) (by decide +kernel) m_FormSet___sub__ hr (by decide) F_FormSet.sf) (pv 0) (pe_op (op_ownB (op := .BitOr) (by decide +kernel) m_FormSet___or__ hr (by decide) F_FormSet.sf) (pv 1) (pv 2))) pa_nil))) pa_nil)))
(pss_cons (ps_expr (pe_bm PySem.F.plainAttrs_list PySem.F.slot_list_append PySem.F.type_list_append mt_append (pv 3) (pa_cons (pe_tup (pa_cons (pe_op (op_ownB (op := .Sub) (by decide +kernel) m_FormSet___sub__ hr (by decide) F_FormSet.sf) (pe_op (op_ownB (op := .BitOr) (by decide +kernel) m_FormSet___or__ hr (by decide) F_FormSet.sf) (pv 0) (pv 1)) (pv 2)) (pa_cons (pe_op (op_ownB (op := .BitOr) (by decide +kernel) m_FormSet___or__ hr (by decide) F_FormSet.sf) (pe_op (op_ownB (op := .Sub) (by decide +kernel) m_FormSet___sub__ hr (by decide) F_FormSet.sf) (pv 0) (pv 2)) (pe_op (op_ownB (op := .Sub) (by decide +kernel) m_FormSet___sub__ hr (by decide) F_FormSet.sf) (pv 1) (pv 2))) pa_nil))) pa_nil)))
(pss_cons (ps_expr (pe_bm PySem.F.plainAttrs_list PySem.F.slot_list_append PySem.F.type_list_append mt_append (pv 3) (pa_cons (pe_tup (pa_cons (pe_op (op_ownB (op := .BitXor) (by decide +kernel) m_FormSet___xor__ hr (by decide) F_FormSet.sf) (pv 0) (pv 1)) (pa_cons (pe_op (op_ownB (op := .BitXor) (by decide +kernel) m_FormSet___xor__ hr (by decide) F_FormSet.sf) (pv 1) (pv 0)) pa_nil))) pa_nil)))
(pss_cons (ps_expr (pe_bm PySem.F.plainAttrs_list PySem.F.slot_list_append PySem.F.type_list_append mt_append (pv 3) (pa_cons (pe_tup (pa_cons (pe_op (op_ownB (op := .BitAnd) (by decide +kernel) m_FormSet___and__ hr (by decide) F_FormSet.sf) (pv 0) (pv 1)) (pa_cons (pe_ifExp (pt_cmpR op_lt (pe_callB (call_ownLen m_FormSet___len__ hr (by decide)) (by rfl) B.len (by decide +kernel) (pa_cons (pv 0) pa_nil)) (pe_callB (call_ownLen m_FormSet___len__ hr (by decide)) (by rfl) B.len (by decide +kernel) (pa_cons (pv 1) pa_nil)) (nomark _)) (pe_mt m_FormSet_kept hr (by decide) (pv 0) (pa_cons (pv 1) pa_nil)) (pe_mt m_FormSet_kept hr (by decide) (pv 1) (pa_cons (pv 0) pa_nil))) pa_nil))) pa_nil)))
(pss_cons (ps_set (i := 3) sc_l_equations.nd rfl (Or.inl rfl) (pe_op op_cat (pv 3) (pe_lst (pa_cons (pe_tup (pa_cons (pe_op (op_ownB (op := .BitAnd) (by decide +kernel) m_FormSet___and__ hr (by decide) F_FormSet.sf) (pv 0) (pv 0)) (pa_cons (pv 0) pa_nil))) (pa_cons (pe_tup (pa_cons (pe_op (op_ownB (op := .BitOr) (by decide +kernel) m_FormSet___or__ hr (by decide) F_FormSet.sf) (pv 0) (pv 0)) (pa_cons (pv 0) pa_nil))) (pa_cons (pe_tup (pa_cons (pe_op (op_ownB (op := .Sub) (by decide +kernel) m_FormSet___sub__ hr (by decide) F_FormSet.sf) (pv 0) (pv 0)) (pa_cons (pe_mk0 m0_FormSet hr (by decide) (by rfl)) pa_nil))) pa_nil))))))
(pss_one (ps_ret (pe_callB (cr_all rfl) (by rfl) B.all (by decide +kernel) (pa_cons (pe_lc (own := [("_law_one", 4), ("_law_other", 5)]) (by rfl) sc_l_equations.nd (pi_list (pv 3)) (blkOk_by (own := [("_law_one", 4), ("_law_other", 5)]) (N := ["_law_a", "_law_b", "_law_c", "_law_due", "_law_one", "_law_other"]) (sc := defScope s_l_equations) (by decide +kernel)) (fun _ _ _ _ _ => (pg_two (K := K) (i := 4) (j := 5) sc_l_equations.nd)) (fun _ _ _ _ _ => pts_nil) (fun _ _ _ _ _ => (pe_and (pe_cmpR (op_ownEq m_FormSet___eq__ hr (by decide)) (pv 4) (pv 5) (nomark _)) (pe_one (pe_not (pe_cmpR (op_ownNe m_FormSet___eq__ hr (by decide) F_FormSet.mro F_FormSet.ne) (pv 4) (pv 5) (nomark _))))))) pa_nil))))))))))))))))), ?_⟩
    have hA := h.1.1.srt
    have hB := h.2.1.1.srt
    have hC := h.2.2.1.srt
    have few := h.1.1.few
    have st : Stays (Tri C D a b c SA SB SC) := tri_stays
    have va : ∀ σ : L2.St, σ[0]? = some (some a) → Ev C D (Tri C D a b c SA SB SC) (tVar 0) σ SA := fun σ e => ev_var (fun H p => p.1) e
    have vb : ∀ σ : L2.St, σ[1]? = some (some b) → Ev C D (Tri C D a b c SA SB SC) (tVar 1) σ SB := fun σ e => ev_var (fun H p => p.2.1) e
    have vc : ∀ σ : L2.St, σ[2]? = some (some c) → Ev C D (Tri C D a b c SA SB SC) (tVar 2) σ SC := fun σ e => ev_var (fun H p => p.2.2) e
    refine seq_lst1 (use_pair (R := fun S T => S = T) st (ev_op st (va [some a, some b, some c, none, none, none] rfl) (ev_op st (vb [some a, some b, some c, none, none, none] rfl) (va [some a, some b, some c, none, none, none] rfl))) (ev_op st (va [some a, some b, some c, none, none, none] rfl) (vb [some a, some b, some c, none, none, none] rfl)) (eq1 hA hB hC) h fun y H1 s1 py => ⟨by decide, fun l nl => ?_⟩)
    have s1' := s1.trans (same_new (o := .lst [y]) nl)
    have p1 := st _ _ s1' h
    have d1 : ∃ ys, (upd H1 l (.lst [y])) l = some (.lst ys) ∧ ys.length = 1 ∧ ∀ z ∈ ys, Pair C D (fun S T => S = T) (upd H1 l (.lst [y])) z := ⟨[y], upd_same, rfl, fun z hz => by
      have : z = y := by simpa using hz
      subst this
      exact py.same (same_new nl)⟩
    have k1 : But l H (upd H1 l (.lst [y])) := But.of_same s1'
    have nlH : H l = none := Same.free s1 nl
    generalize hH1 : upd H1 l (.lst [y]) = G1 at p1 d1 k1 ⊢
    refine seq_drop (use_append' (R := fun S T => S = T) st rfl (ev_op st (va [some a, some b, some c, some (.ref l), none, none] rfl) (ev_op st (va [some a, some b, some c, some (.ref l), none, none] rfl) (vb [some a, some b, some c, some (.ref l), none, none] rfl))) (ev_kept st (va [some a, some b, some c, some (.ref l), none, none] rfl) (vb [some a, some b, some c, some (.ref l), none, none] rfl)) (eq2 hA hB hC) p1 tri_put 1 (by decide) d1 fun G2 p2 d2 b2 => ?_)
    have k2 := k1.trans b2
    skip
    refine seq_drop (use_append' (R := fun S T => S = T) st rfl (ev_op st (ev_op st (va [some a, some b, some c, some (.ref l), none, none] rfl) (vb [some a, some b, some c, some (.ref l), none, none] rfl)) (ev_op st (vb [some a, some b, some c, some (.ref l), none, none] rfl) (va [some a, some b, some c, some (.ref l), none, none] rfl))) (ev_op st (va [some a, some b, some c, some (.ref l), none, none] rfl) (vb [some a, some b, some c, some (.ref l), none, none] rfl)) rfl p2 tri_put 2 (by decide) d2 fun G3 p3 d3 b3 => ?_)
    have k3 := k2.trans b3
    skip
    refine seq_drop (use_append' (R := fun S T => S = T) st rfl (ev_op st (ev_kept st (va [some a, some b, some c, some (.ref l), none, none] rfl) (vb [some a, some b, some c, some (.ref l), none, none] rfl)) (va [some a, some b, some c, some (.ref l), none, none] rfl)) (va [some a, some b, some c, some (.ref l), none, none] rfl) (eq4 hA hB hC) p3 tri_put 3 (by decide) d3 fun G4 p4 d4 b4 => ?_)
    have k4 := k3.trans b4
    skip
    refine seq_drop (use_append' (R := fun S T => S = T) st rfl (ev_kept st (ev_op st (va [some a, some b, some c, some (.ref l), none, none] rfl) (vb [some a, some b, some c, some (.ref l), none, none] rfl)) (va [some a, some b, some c, some (.ref l), none, none] rfl)) (va [some a, some b, some c, some (.ref l), none, none] rfl) (eq5 hA hB hC) p4 tri_put 4 (by decide) d4 fun G5 p5 d5 b5 => ?_)
    have k5 := k4.trans b5
    skip
    refine seq_drop (use_append' (R := fun S T => S = T) st rfl (ev_op st (ev_op st (va [some a, some b, some c, some (.ref l), none, none] rfl) (vb [some a, some b, some c, some (.ref l), none, none] rfl)) (vc [some a, some b, some c, some (.ref l), none, none] rfl)) (ev_op st (va [some a, some b, some c, some (.ref l), none, none] rfl) (ev_op st (vb [some a, some b, some c, some (.ref l), none, none] rfl) (vc [some a, some b, some c, some (.ref l), none, none] rfl))) (eq6 hA hB hC) p5 tri_put 5 (by decide) d5 fun G6 p6 d6 b6 => ?_)
    have k6 := k5.trans b6
    skip
    refine seq_drop (use_append' (R := fun S T => S = T) st rfl (ev_op st (ev_op st (va [some a, some b, some c, some (.ref l), none, none] rfl) (vb [some a, some b, some c, some (.ref l), none, none] rfl)) (vc [some a, some b, some c, some (.ref l), none, none] rfl)) (ev_joined st (va [some a, some b, some c, some (.ref l), none, none] rfl) (vb [some a, some b, some c, some (.ref l), none, none] rfl) (vc [some a, some b, some c, some (.ref l), none, none] rfl)) rfl p6 tri_put 6 (by decide) d6 fun G7 p7 d7 b7 => ?_)
    have k7 := k6.trans b7
    skip
    refine seq_drop (use_append' (R := fun S T => S = T) st rfl (ev_kept st (ev_kept st (va [some a, some b, some c, some (.ref l), none, none] rfl) (vb [some a, some b, some c, some (.ref l), none, none] rfl)) (vc [some a, some b, some c, some (.ref l), none, none] rfl)) (ev_kept st (va [some a, some b, some c, some (.ref l), none, none] rfl) (ev_kept st (vb [some a, some b, some c, some (.ref l), none, none] rfl) (vc [some a, some b, some c, some (.ref l), none, none] rfl))) (eq8 hA hB hC) p7 tri_put 7 (by decide) d7 fun G8 p8 d8 b8 => ?_)
    have k8 := k7.trans b8
    skip
    refine seq_drop (use_append' (R := fun S T => S = T) st rfl (ev_op st (ev_op st (va [some a, some b, some c, some (.ref l), none, none] rfl) (vb [some a, some b, some c, some (.ref l), none, none] rfl)) (vc [some a, some b, some c, some (.ref l), none, none] rfl)) (ev_op st (va [some a, some b, some c, some (.ref l), none, none] rfl) (ev_op st (vb [some a, some b, some c, some (.ref l), none, none] rfl) (vc [some a, some b, some c, some (.ref l), none, none] rfl))) (eq9 hA hB hC) p8 tri_put 8 (by decide) d8 fun G9 p9 d9 b9 => ?_)
    have k9 := k8.trans b9
    skip
    refine seq_drop (use_append' (R := fun S T => S = T) st rfl (ev_op st (ev_op st (va [some a, some b, some c, some (.ref l), none, none] rfl) (vb [some a, some b, some c, some (.ref l), none, none] rfl)) (vc [some a, some b, some c, some (.ref l), none, none] rfl)) (ev_op st (ev_op st (va [some a, some b, some c, some (.ref l), none, none] rfl) (vc [some a, some b, some c, some (.ref l), none, none] rfl)) (ev_op st (vb [some a, some b, some c, some (.ref l), none, none] rfl) (vc [some a, some b, some c, some (.ref l), none, none] rfl))) (eq10 hA hB hC) p9 tri_put 9 (by decide) d9 fun G10 p10 d10 b10 => ?_)
    have k10 := k9.trans b10
    skip
    refine seq_drop (use_append' (R := fun S T => S = T) st rfl (ev_op st (va [some a, some b, some c, some (.ref l), none, none] rfl) (vb [some a, some b, some c, some (.ref l), none, none] rfl)) (ev_op st (vb [some a, some b, some c, some (.ref l), none, none] rfl) (va [some a, some b, some c, some (.ref l), none, none] rfl)) (eq11 hA hB hC) p10 tri_put 10 (by decide) d10 fun G11 p11 d11 b11 => ?_)
    have k11 := k10.trans b11
    skip
    refine seq_drop (use_append' (R := fun S T => S = T) st rfl (ev_op st (va [some a, some b, some c, some (.ref l), none, none] rfl) (vb [some a, some b, some c, some (.ref l), none, none] rfl)) ?_ rfl p11 tri_put 11 (by decide) d11 fun G12 p12 d12 b12 => ?_)
    · intro H0 Q0 p0 q0
      refine ⟨_, rfl, ?_⟩
      dsimp only [tNil]
      refine use_len p0.1 fun H1 s1 => ⟨_, rfl, ?_⟩
      dsimp only [tNil]
      refine use_len (p0.2.1.same s1) fun H2 s2 => ?_
      have s12 := s1.trans s2
      obtain ⟨a', dx, fs, ea, ha, _, la, _⟩ := p0.1.ins
      obtain ⟨b', dy, gs, eb, hb, _, lb, _⟩ := p0.2.1.ins
      refine ⟨_, _, rfl, rfl, _, rfl, ite2 (fun e => ?_) (fun e => ?_)⟩
      · have e' : SA.length < SB.length := by have := of_decide_eq_true e; omega
        refine ev_kept st (va [some a, some b, some c, some (.ref l), none, none] rfl) (vb [some a, some b, some c, some (.ref l), none, none] rfl) H2 _ (st _ _ s12 p0) fun z H' s' fz => q0 z H' (s12.trans s') ?_
        unfold andS
        rw [if_pos e']
        exact fz
      · have e' : ¬ SA.length < SB.length := by have := of_decide_eq_false (eq_false_of_ne_true e); omega
        refine ev_kept st (vb [some a, some b, some c, some (.ref l), none, none] rfl) (va [some a, some b, some c, some (.ref l), none, none] rfl) H2 _ (st _ _ s12 p0) fun z H' s' fz => q0 z H' (s12.trans s') ?_
        unfold andS
        rw [if_neg e']
        exact fz
    have k12 := k11.trans b12
    obtain ⟨ys, hl, hn, hall⟩ := d12
    have ev0 : Ev C D (Tri C D a b c SA SB SC) (tMake C (spInit K C) [.ref T0] E0 tNil) [some a, some b, some c, some (.ref l), none, none] [] := fun H0 Q0 p0 q0 =>
      use_make (a := T0) (ts := []) ⟨.inr (hT0 _), fun q hq => by cases hq⟩ (by decide) few fun z H' s' fz => q0 z H' s' fz
    refine seq_cat3 (l := l) rfl ?_
    refine use_pair (R := fun S T => S = T) st (ev_op st (va [some a, some b, some c, some (.ref l), none, none] rfl) (va [some a, some b, some c, some (.ref l), none, none] rfl)) (va [some a, some b, some c, some (.ref l), none, none] rfl) (eq13 hA hB hC) p12 fun y1 J1 t1 q1 => ?_
    refine use_pair (R := fun S T => S = T) st (ev_op st (va [some a, some b, some c, some (.ref l), none, none] rfl) (va [some a, some b, some c, some (.ref l), none, none] rfl)) (va [some a, some b, some c, some (.ref l), none, none] rfl) (eq14 hA hB hC) (st _ _ t1 p12) fun y2 J2 t2 q2 => ?_
    refine use_pair (R := fun S T => S = T) st (ev_op st (va [some a, some b, some c, some (.ref l), none, none] rfl) (va [some a, some b, some c, some (.ref l), none, none] rfl)) ev0 (eq15 hA hB hC) (st _ _ (t1.trans t2) p12) fun y3 J3 t3 q3 => ⟨by decide, fun u nu => ?_⟩
    have t4 := same_new (o := .lst [y1, y2, y3]) nu
    have tt := t1.trans (t2.trans (t3.trans t4))
    refine ⟨l, u, ys, _, rfl, rfl, tt _ _ hl, upd_same, Nat.le_trans (show ys.length + 3 ≤ 40 by omega) (by decide), fun v nv => ?_⟩
    have t5 := same_new (o := .lst (ys ++ [y1, y2, y3])) nv
    have all2 : ∀ y ∈ ys ++ [y1, y2, y3], Pair C D (fun S T => S = T) (upd (upd J3 u (.lst [y1, y2, y3])) v (.lst (ys ++ [y1, y2, y3]))) y := by
      intro y hy
      rcases List.mem_append.mp hy with hy | hy
      · exact (hall y hy).same (tt.trans t5)
      · rcases List.mem_cons.mp hy with e | hy
        · rw [e]; exact q1.same (t2.trans (t3.trans (t4.trans t5)))
        · rcases List.mem_cons.mp hy with e | hy
          · rw [e]; exact q2.same (t3.trans (t4.trans t5))
          · have e : y = y3 := by simpa using hy
            rw [e]; exact q3.same (t4.trans t5)
    have kk := k12.trans (But.of_same (tt.trans t5))
    have hlen : (ys ++ [y1, y2, y3]).length ≤ 40 := by rw [List.length_append]; show ys.length + 3 ≤ 40; omega
    have hv : (upd (upd J3 u (.lst [y1, y2, y3])) v (.lst (ys ++ [y1, y2, y3]))) v = some (.lst (ys ++ [y1, y2, y3])) := upd_same
    generalize hW : upd (upd J3 u (.lst [y1, y2, y3])) v (.lst (ys ++ [y1, y2, y3])) = W at all2 kk hv ⊢
    generalize ys ++ [y1, y2, y3] = zs at all2 hlen hv
    refine ⟨_, rfl, v, rfl, ⟨_, .inl (.inl hv)⟩, fun Dd nD => ?_⟩
    refine lc_pure over_list (fun _ => some (.bl true)) nD (Nat.le_trans hlen (by decide)) (fun H' s' => .inl (.inl (s' _ _ hv))) ?_ ?_
    · rintro y hy H3 v3 H4 Nx s3 ⟨rfl, rfl⟩ kq
      obtain ⟨t, z1, z2, S, T, rfl, ht, f1, f2, rfl⟩ := all2 v3 hy
      refine ⟨t, _, rfl, .inl (.inl (s3 _ _ ht)), rfl, _, _, rfl, _, _, rfl, rfl, rfl, lc_yes ?_⟩
      refine ⟨_, rfl, _, rfl, use_same (f1.same s3) (f2.same s3) fun H5 s5 => ⟨_, rfl, iteT ?_⟩⟩
      refine ⟨_, rfl, _, rfl, use_ne ((f1.same s3).same s5) ((f2.same s3).same s5) fun H6 s6 => ⟨_, rfl, ?_⟩⟩
      exact kq H6 (s5.trans s6)
    · intro H3 s3 hD
      refine ⟨Dd, zs.map fun _ => true, rfl, .inl (.inl ?_), ?_⟩
      · rw [hD, List.map_map]
        congr 2
        exact congrFun (List.filterMap_eq_map (f := fun _ => V.bl true)) _
      · have e : (zs.map fun _ => true).all id = true := by rw [List.all_map]; exact List.all_eq_true.mpr fun _ _ => rfl
        rw [e]
        exact q H3 ((kk.back (Same.refl _) nlH).trans s3)
theorem ok_l_keys (B : Bl mg) (F_FormSet : Fc K mg C) {T0 : Addr} (hT0 : ∀ H, SqT K H T0 []) (m0_FormSet : Mak P w K mg base 6 "FormSet" C (spInit K C) [.ref T0]) (m_FormSet___or__ : Met P w K mg base 8 C "__or__" (spBin C orS) []) (m_FormSet___sub__ : Met P w K mg base 8 C "__sub__" (spBin C subS) [])
    (m_FormSet_kept : Met P w K mg base 8 C "kept" (spBin C keptS) []) (m_FormSet___and__ : Met P w K mg base 9 C "__and__" (spBin C andS) []) (m_FormSet___xor__ : Met P w K mg base 9 C "__xor__" (spBin C xorS) []) (m_FormSet_joined : MetS P w K mg base 9 C "joined" (spJoin C))
    (m_FormSet_equals : Met P w K mg base 1 C "equals" (spKeys C) []) (m_FormSet___len__ : Met P w K mg base 1 C "__len__" (spLen C) []) (m_FormSet___eq__ : Met P w K mg base 1 C "__eq__" (spSame C) [])
    (D : Df K mg "_law_keys" s_l_keys) : Cal P w K mg base 10 "_law_keys" (spTri C) [] := by
  refine D.cal sc_l_keys (fun _ _ _ _ _ _ us hl => match us, hl with | [_, _, _], _ => rfl) (fun vs H Q E h => ?_) (fun f cdv A out s H vs Q E hr h => ?_)
  · obtain ⟨_, a, b, c, A, B, Z, rfl, _⟩ := h
    rfl
  · obtain ⟨D, a, b, c, SA, SB, SC, rfl, h, q⟩ := h
    refine ⟨_, (pss_cons (ps_set (i := 3) sc_l_keys.nd rfl (Or.inl rfl) (pe_lst (pa_cons (pe_tup (pa_cons (pe_op (op_ownB (op := .BitOr) (by decide +kernel) m_FormSet___or__ hr (by decide) F_FormSet.sf) (pv 0) (pv 1)) (pa_cons (pe_op (op_ownB (op := .BitOr) (by decide +kernel) m_FormSet___or__ hr (by decide) F_FormSet.sf) (pv 1) (pv 0)) pa_nil))) pa_nil)))
(pss_cons (ps_expr (pe_bm PySem.F.plainAttrs_list PySem.F.slot_list_append PySem.F.type_list_append mt_append (pv 3) (pa_cons (pe_tup (pa_cons (pe_op (op_ownB (op := .BitAnd) (by decide +kernel) m_FormSet___and__ hr (by decide) F_FormSet.sf) (pv 0) (pv 1)) (pa_cons (pe_op (op_ownB (op := .BitAnd) (by decide +kernel) m_FormSet___and__ hr (by decide) F_FormSet.sf) (pv 1) (pv 0)) pa_nil))) pa_nil)))
(pss_cons (ps_expr (pe_bm PySem.F.plainAttrs_list PySem.F.slot_list_append PySem.F.type_list_append mt_append (pv 3) (pa_cons (pe_tup (pa_cons (pe_mt m_FormSet_kept hr (by decide) (pv 0) (pa_cons (pv 1) pa_nil)) (pa_cons (pe_mt m_FormSet_kept hr (by decide) (pv 1) (pa_cons (pv 0) pa_nil)) pa_nil))) pa_nil)))
(pss_cons (ps_expr (pe_bm PySem.F.plainAttrs_list PySem.F.slot_list_append PySem.F.type_list_append mt_append (pv 3) (pa_cons (pe_tup (pa_cons (pe_op (op_ownB (op := .BitAnd) (by decide +kernel) m_FormSet___and__ hr (by decide) F_FormSet.sf) (pv 0) (pe_op (op_ownB (op := .BitOr) (by decide +kernel) m_FormSet___or__ hr (by decide) F_FormSet.sf) (pv 1) (pv 2))) (pa_cons (pe_op (op_ownB (op := .BitOr) (by decide +kernel) m_FormSet___or__ hr (by decide) F_FormSet.sf) (pe_op (op_ownB (op := .BitAnd) (by decide +kernel) m_FormSet___and__ hr (by decide) F_FormSet.sf) (pv 0) (pv 1)) (pe_op (op_ownB (op := .BitAnd) (by decide +kernel) m_FormSet___and__ hr (by decide) F_FormSet.sf) (pv 0) (pv 2))) pa_nil))) pa_nil)))
(pss_cons (ps_expr (pe_bm PySem.F.plainAttrs_list PySem.F.slot_list_append PySem.F.type_list_append mt_append (pv 3) (pa_cons (pe_tup (pa_cons (pe_op (op_ownB (op := .BitOr) (by decide +kernel) m_FormSet___or__ hr (by decide) F_FormSet.sf) (pv 0) (pe_op (op_ownB (op := .BitAnd) (by decide +kernel) m_FormSet___and__ hr (by decide) F_FormSet.sf) (pv 1) (pv 2))) (pa_cons (pe_op (op_ownB (op := .BitAnd) (by decide +kernel) m_FormSet___and__ hr (by decide) F_FormSet.sf) (pe_op (op_ownB (op := .BitOr) (by decide +kernel) m_FormSet___or__ hr (by decide) F_FormSet.sf) (pv 0) (pv 1)) (pe_op (op_ownB (op := .BitOr) (by decide +kernel) m_FormSet___or__ hr (by decide) F_FormSet.sf) (pv 0) (pv 2))) pa_nil))) pa_nil)))
(pss_cons (ps_expr (pe_bm PySem.F.plainAttrs_list PySem.F.slot_list_append PySem.F.type_list_append mt_append (pv 3) (pa_cons (pe_tup (pa_cons (pe_op (op_ownB (op := .BitXor) (by decide +kernel) m_FormSet___xor__ hr (by decide) F_FormSet.sf) (pe_op (op_ownB (op := .BitXor) (by decide +kernel) m_FormSet___xor__ hr (by decide) F_FormSet.sf) (pv 0) (pv 1)) (pv 2)) (pa_cons (pe_op (op_ownB (op := .BitXor) (by decide +kernel) m_FormSet___xor__ hr (by decide) F_FormSet.sf) (pv 0) (pe_op (op_ownB (op := .BitXor) (by decide +kernel) m_FormSet___xor__ hr (by decide) F_FormSet.sf) (pv 1) (pv 2))) pa_nil))) pa_nil)))
(pss_cons (ps_expr (pe_bm PySem.F.plainAttrs_list PySem.F.slot_list_append PySem.F.type_list_append mt_append (pv 3) (pa_cons (pe_tup (pa_cons (pe_op (op_ownB (op := .BitXor) (by decide +kernel) m_FormSet___xor__ hr (by decide) F_FormSet.sf) (pe_op (op_ownB (op := .BitXor) (by decide +kernel) m_FormSet___xor__ hr (by decide) F_FormSet.sf) (pv 0) (pv 1)) (pv 1)) (pa_cons (pv 0) pa_nil))) pa_nil)))
(pss_cons (ps_expr (pe_bm PySem.F.plainAttrs_list PySem.F.slot_list_append PySem.F.type_list_append mt_append (pv 3) (pa_cons (pe_tup (pa_cons (pe_op (op_ownB (op := .BitXor) (by decide +kernel) m_FormSet___xor__ hr (by decide) F_FormSet.sf) (pv 0) (pv 1)) (pa_cons (pe_op (op_ownB (op := .Sub) (by decide +kernel) m_FormSet___sub__ hr (by decide) F_FormSet.sf) (pe_op (op_ownB (op := .BitOr) (by decide +kernel) m_FormSet___or__ hr (by decide) F_FormSet.sf) (pv 0) (pv 1)) (pe_op (op_ownB (op := .BitAnd) (by decide +kernel) m_FormSet___and__ hr (by decide) F_FormSet.sf) (pv 0) (pv 1))) pa_nil))) pa_nil)))
(pss_one (ps_ret (pe_callB (cr_all rfl) (by rfl) B.all (by decide +kernel) (pa_cons (pe_lc (own := [("_law_one", 4), ("_law_other", 5)]) (by rfl) sc_l_keys.nd (pi_list (pv 3)) (blkOk_by (own := [("_law_one", 4), ("_law_other", 5)]) (N := ["_law_a", "_law_b", "_law_c", "_law_due", "_law_one", "_law_other"]) (sc := defScope s_l_keys) (by decide +kernel)) (fun _ _ _ _ _ => (pg_two (K := K) (i := 4) (j := 5) sc_l_keys.nd)) (fun _ _ _ _ _ => pts_nil) (fun _ _ _ _ _ => (pe_and (pe_mt m_FormSet_equals hr (by decide) (pv 4) (pa_cons (pv 5) pa_nil)) (pe_one (pe_cmpR op_eq (pe_callB (call_ownLen m_FormSet___len__ hr (by decide)) (by rfl) B.len (by decide +kernel) (pa_cons (pv 4) pa_nil)) (pe_callB (call_ownLen m_FormSet___len__ hr (by decide)) (by rfl) B.len (by decide +kernel) (pa_cons (pv 5) pa_nil)) (nomark _)))))) pa_nil)))))))))))), ?_⟩
    have hA := h.1.1.srt
    have hB := h.2.1.1.srt
    have hC := h.2.2.1.srt
    have few := h.1.1.few
    have st : Stays (Tri C D a b c SA SB SC) := tri_stays
    have va : ∀ σ : L2.St, σ[0]? = some (some a) → Ev C D (Tri C D a b c SA SB SC) (tVar 0) σ SA := fun σ e => ev_var (fun H p => p.1) e
    have vb : ∀ σ : L2.St, σ[1]? = some (some b) → Ev C D (Tri C D a b c SA SB SC) (tVar 1) σ SB := fun σ e => ev_var (fun H p => p.2.1) e
    have vc : ∀ σ : L2.St, σ[2]? = some (some c) → Ev C D (Tri C D a b c SA SB SC) (tVar 2) σ SC := fun σ e => ev_var (fun H p => p.2.2) e
    refine seq_lst1 (use_pair (R := fun S T => S.map (fun p : Pr => p.1) = T.map (fun p : Pr => p.1)) st (ev_op st (va [some a, some b, some c, none, none, none] rfl) (vb [some a, some b, some c, none, none, none] rfl)) (ev_op st (vb [some a, some b, some c, none, none, none] rfl) (va [some a, some b, some c, none, none, none] rfl)) (keys_ext (srt_or _ _) (srt_or _ _) fun k => by rw [has_or, has_or, Bool.or_comm]) h fun y H1 s1 py => ⟨by decide, fun l nl => ?_⟩)
    have s1' := s1.trans (same_new (o := .lst [y]) nl)
    have p1 := st _ _ s1' h
    have d1 : ∃ ys, (upd H1 l (.lst [y])) l = some (.lst ys) ∧ ys.length = 1 ∧ ∀ z ∈ ys, Pair C D (fun S T => S.map (fun p : Pr => p.1) = T.map (fun p : Pr => p.1)) (upd H1 l (.lst [y])) z := ⟨[y], upd_same, rfl, fun z hz => by
      have : z = y := by simpa using hz
      subst this
      exact py.same (same_new nl)⟩
    have k1 : But l H (upd H1 l (.lst [y])) := But.of_same s1'
    have nlH : H l = none := Same.free s1 nl
    generalize hH1 : upd H1 l (.lst [y]) = G1 at p1 d1 k1 ⊢
    refine seq_drop (use_append' (R := fun S T => S.map (fun p : Pr => p.1) = T.map (fun p : Pr => p.1)) st rfl (ev_op st (va [some a, some b, some c, some (.ref l), none, none] rfl) (vb [some a, some b, some c, some (.ref l), none, none] rfl)) (ev_op st (vb [some a, some b, some c, some (.ref l), none, none] rfl) (va [some a, some b, some c, some (.ref l), none, none] rfl)) (keys_ext (srt_and hA hB) (srt_and hB hA) fun k => by rw [has_and, has_and, Bool.and_comm]) p1 tri_put 1 (by decide) d1 fun G2 p2 d2 b2 => ?_)
    have k2 := k1.trans b2
    skip
    refine seq_drop (use_append' (R := fun S T => S.map (fun p : Pr => p.1) = T.map (fun p : Pr => p.1)) st rfl (ev_kept st (va [some a, some b, some c, some (.ref l), none, none] rfl) (vb [some a, some b, some c, some (.ref l), none, none] rfl)) (ev_kept st (vb [some a, some b, some c, some (.ref l), none, none] rfl) (va [some a, some b, some c, some (.ref l), none, none] rfl)) (keys_ext (srt_kept hA) (srt_kept hB) fun k => by rw [has_kept, has_kept, Bool.and_comm]) p2 tri_put 2 (by decide) d2 fun G3 p3 d3 b3 => ?_)
    have k3 := k2.trans b3
    skip
    refine seq_drop (use_append' (R := fun S T => S.map (fun p : Pr => p.1) = T.map (fun p : Pr => p.1)) st rfl (ev_op st (va [some a, some b, some c, some (.ref l), none, none] rfl) (ev_op st (vb [some a, some b, some c, some (.ref l), none, none] rfl) (vc [some a, some b, some c, some (.ref l), none, none] rfl))) (ev_op st (ev_op st (va [some a, some b, some c, some (.ref l), none, none] rfl) (vb [some a, some b, some c, some (.ref l), none, none] rfl)) (ev_op st (va [some a, some b, some c, some (.ref l), none, none] rfl) (vc [some a, some b, some c, some (.ref l), none, none] rfl))) (keys_ext (srt_and hA (srt_or _ _)) (srt_or _ _) fun k => by rw [has_and, has_or, has_or, has_and, has_and, Bool.and_or_distrib_left]) p3 tri_put 3 (by decide) d3 fun G4 p4 d4 b4 => ?_)
    have k4 := k3.trans b4
    skip
    refine seq_drop (use_append' (R := fun S T => S.map (fun p : Pr => p.1) = T.map (fun p : Pr => p.1)) st rfl (ev_op st (va [some a, some b, some c, some (.ref l), none, none] rfl) (ev_op st (vb [some a, some b, some c, some (.ref l), none, none] rfl) (vc [some a, some b, some c, some (.ref l), none, none] rfl))) (ev_op st (ev_op st (va [some a, some b, some c, some (.ref l), none, none] rfl) (vb [some a, some b, some c, some (.ref l), none, none] rfl)) (ev_op st (va [some a, some b, some c, some (.ref l), none, none] rfl) (vc [some a, some b, some c, some (.ref l), none, none] rfl))) (keys_ext (srt_or _ _) (srt_and (srt_or _ _) (srt_or _ _)) fun k => by rw [has_and, has_or, has_or, has_or, has_and, Bool.or_and_distrib_left]) p4 tri_put 4 (by decide) d4 fun G5 p5 d5 b5 => ?_)
    have k5 := k4.trans b5
    skip
    refine seq_drop (use_append' (R := fun S T => S.map (fun p : Pr => p.1) = T.map (fun p : Pr => p.1)) st rfl (ev_op st (ev_op st (va [some a, some b, some c, some (.ref l), none, none] rfl) (vb [some a, some b, some c, some (.ref l), none, none] rfl)) (vc [some a, some b, some c, some (.ref l), none, none] rfl)) (ev_op st (va [some a, some b, some c, some (.ref l), none, none] rfl) (ev_op st (vb [some a, some b, some c, some (.ref l), none, none] rfl) (vc [some a, some b, some c, some (.ref l), none, none] rfl))) (keys_ext (srt_xor _ _) (srt_xor _ _) fun k => by rw [has_xor, has_xor, has_xor, has_xor]; cases (SA.lookup k).isSome <;> cases (SB.lookup k).isSome <;> cases (SC.lookup k).isSome <;> rfl) p5 tri_put 5 (by decide) d5 fun G6 p6 d6 b6 => ?_)
    have k6 := k5.trans b6
    skip
    refine seq_drop (use_append' (R := fun S T => S.map (fun p : Pr => p.1) = T.map (fun p : Pr => p.1)) st rfl (ev_op st (ev_op st (va [some a, some b, some c, some (.ref l), none, none] rfl) (vb [some a, some b, some c, some (.ref l), none, none] rfl)) (vb [some a, some b, some c, some (.ref l), none, none] rfl)) (va [some a, some b, some c, some (.ref l), none, none] rfl) (keys_ext (srt_xor _ _) hA fun k => by rw [has_xor, has_xor]; cases (SA.lookup k).isSome <;> cases (SB.lookup k).isSome <;> rfl) p6 tri_put 6 (by decide) d6 fun G7 p7 d7 b7 => ?_)
    have k7 := k6.trans b7
    skip
    refine seq_drop (use_append' (R := fun S T => S.map (fun p : Pr => p.1) = T.map (fun p : Pr => p.1)) st rfl (ev_op st (va [some a, some b, some c, some (.ref l), none, none] rfl) (vb [some a, some b, some c, some (.ref l), none, none] rfl)) (ev_op st (ev_op st (va [some a, some b, some c, some (.ref l), none, none] rfl) (vb [some a, some b, some c, some (.ref l), none, none] rfl)) (ev_op st (va [some a, some b, some c, some (.ref l), none, none] rfl) (vb [some a, some b, some c, some (.ref l), none, none] rfl))) (keys_ext (srt_xor _ _) (srt_sub (srt_or _ _)) fun k => by rw [has_xor, has_sub, has_or, has_and]; cases (SA.lookup k).isSome <;> cases (SB.lookup k).isSome <;> rfl) p7 tri_put 7 (by decide) d7 fun G8 p8 d8 b8 => ?_)
    have k8 := k7.trans b8
    obtain ⟨zs, hv, hn, all2⟩ := d8
    have hlen : zs.length ≤ 40 := by omega
    refine ⟨_, rfl, l, rfl, ⟨_, .inl (.inl hv)⟩, fun Dd nD => ?_⟩
    refine lc_pure over_list (fun _ => some (.bl true)) nD (Nat.le_trans hlen (by decide)) (fun H' s' => .inl (.inl (s' _ _ hv))) ?_ ?_
    · rintro y hy H3 v3 H4 Nx s3 ⟨rfl, rfl⟩ kq
      obtain ⟨t, z1, z2, S, T, rfl, ht, f1, f2, hk⟩ := all2 v3 hy
      refine ⟨t, _, rfl, .inl (.inl (s3 _ _ ht)), rfl, _, _, rfl, _, _, rfl, rfl, rfl, lc_yes ?_⟩
      have f1' := f1.same s3
      have f2' := f2.same s3
      obtain ⟨a', dx, fs, rfl, ha, _, _, _, la⟩ := f1'.ins
      refine ⟨_, rfl, a', dx, fs, rfl, ha, la, _, rfl, D, _, _, S, T, rfl, f1', f2', hk, fun H5 s5 => ⟨_, rfl, iteT ?_⟩⟩
      refine ⟨_, rfl, ?_⟩
      dsimp only [tNil]
      refine use_len (f1'.same s5) fun H6 s6 => ⟨_, rfl, ?_⟩
      dsimp only [tNil]
      refine use_len ((f2'.same s5).same s6) fun H7 s7 => ?_
      have e : S.length = T.length := by
        have := congrArg List.length hk
        rwa [List.length_map, List.length_map] at this
      rw [e]
      refine ⟨rfl, ?_⟩
      rw [decide_eq_true rfl]
      exact kq H7 (s5.trans (s6.trans s7))
    · intro H3 s3 hD
      refine ⟨Dd, zs.map fun _ => true, rfl, .inl (.inl ?_), ?_⟩
      · rw [hD, List.map_map]
        congr 2
        exact congrFun (List.filterMap_eq_map (f := fun _ => V.bl true)) _
      · have e : (zs.map fun _ => true).all id = true := by rw [List.all_map]; exact List.all_eq_true.mpr fun _ _ => rfl
        rw [e]
        exact q H3 ((k8.back (Same.refl _) nlH).trans s3)
end
end Eu
set_option Elab.async false
set_option linter.all false
set_option maxRecDepth 100000
set_option maxHeartbeats 4000000
namespace Eu
open PySem PySem.Spec PyProof.Rows L2
open C8 (pe_gc pss_cut)
open Fs
abbrev s_l_set : Stmt := top 19
theorem sc_l_set : FnScope ["_law_bag_here", "_law_many", "_law_form", "_law_found", "_law_turn"] ["_law_bag_here", "_law_many", "_law_form"] (defScope s_l_set) :=
  ⟨rfl, rfl, rfl, by decide +kernel, rfl, by decide +kernel, by decide +kernel⟩
def spTwo (C : Addr) : Sp := fun vs H Q _ => ∃ (D : List Int) (a b : V) (A B : List Pr), vs = [a, b] ∧ FS C D H a A ∧ FS C D H b B ∧ ∀ H', Same H H' → Q (.bl true) H'
def nine : List Int := [0, 1, 2, 3, 4, 5, 6, 7, 8]
/-- a form whose names with x and y behind are names -/
def FormOk (z : Str) : Prop := z.length ≤ 1 ∧ nameS (z ++ ⟨#[120]⟩) = true ∧ nameS (z ++ ⟨#[121]⟩) = true
def spSet (C : Addr) : Sp := fun vs H Q _ => ∃ (b : Addr) (m : Int) (z : Str) (n : Nat), vs = [.ref b, .int m, .str z] ∧ 1 ≤ m ∧ m ≤ 9 ∧ FormOk z ∧ Bag H b n ∧ n ≤ 900000 ∧
  ∀ (x : V) (S : List Pr) (H' : Hp), But b H H' → Bag H' b (n + 40) → FS C nine H' x S → Q x H'
section
variable {P : Program} {w : World} {K : PySem.W.Frag} {mg : Str → Option Value} {base : Heap} {kw C : Addr}
theorem ok_turned (B : Bl mg) (F_FormSet : Fc K mg C) (m_FormSet_kept : Met P w K mg base 8 C "kept" (spBin C keptS) []) (m_FormSet___and__ : Met P w K mg base 9 C "__and__" (spBin C andS) [])
    (m_FormSet___len__ : Met P w K mg base 1 C "__len__" (spLen C) []) (m_FormSet___eq__ : Met P w K mg base 1 C "__eq__" (spSame C) []) (D : Df K mg "_law_turned" s_l_turned) : Cal P w K mg base 10 "_law_turned" (spTwo C) [] := by
  refine D.cal sc_l_turned (fun _ _ _ _ _ _ us hl => match us, hl with | [_, _], _ => rfl) (fun vs H Q E h => ?_) (fun f cdv A out s H vs Q E hr h => ?_)
  · obtain ⟨_, a, b, A, B, rfl, _⟩ := h
    rfl
  · obtain ⟨D, a, b, SA, SB, rfl, ha, hb, q⟩ := h
    refine ⟨_, (pss_cons (ps_par (i := 2) (j := 3) (by rfl) sc_l_turned.nd rfl rfl (by decide) rfl rfl (pa_cons (pe_op (op_ownB (op := .BitAnd) (by decide +kernel) m_FormSet___and__ hr (by decide) F_FormSet.sf) (pv 0) (pv 1)) (pa_cons (pe_op (op_ownB (op := .BitAnd) (by decide +kernel) m_FormSet___and__ hr (by decide) F_FormSet.sf) (pv 1) (pv 0)) pa_nil)) (by rfl))
(pss_cons (ps_if (pt_cmpR op_ne (pe_callB (call_ownLen m_FormSet___len__ hr (by decide)) (by rfl) B.len (by decide +kernel) (pa_cons (pv 0) pa_nil)) (pe_callB (call_ownLen m_FormSet___len__ hr (by decide)) (by rfl) B.len (by decide +kernel) (pa_cons (pv 1) pa_nil)) (nomark _))
(pss_one (ps_ret (pe_cmpR (op_ownEq m_FormSet___eq__ hr (by decide)) (pv 2) (pv 3) (nomark _))))
pss_nil)
(pss_one (ps_ret (pe_and (pe_cmpR (op_ownEq m_FormSet___eq__ hr (by decide)) (pv 2) (pe_mt m_FormSet_kept hr (by decide) (pv 1) (pa_cons (pv 0) pa_nil)) (nomark _)) (pe_one (pe_cmpR (op_ownEq m_FormSet___eq__ hr (by decide)) (pv 3) (pe_mt m_FormSet_kept hr (by decide) (pv 0) (pa_cons (pv 1) pa_nil)) (nomark _)))))))), ?_⟩
    refine ⟨_, rfl, _, rfl, use_bin ha hb fun x H1 s1 fx => ?_⟩
    refine ⟨_, rfl, _, rfl, use_bin (hb.same s1) (ha.same s1) fun y H2 s2 fy => ⟨_, _, rfl, ?_⟩⟩
    have s12 := s1.trans s2
    have fx2 := fx.same s2
    have ha2 := ha.same s12
    have hb2 := hb.same s12
    refine ⟨_, rfl, ?_⟩
    dsimp only [tNil]
    refine use_len ha2 fun H3 s3 => ⟨_, rfl, ?_⟩
    dsimp only [tNil]
    refine use_len (hb2.same s3) fun H4 s4 => ?_
    have s34 := s3.trans s4
    refine ⟨rfl, _, rfl, ite2 (fun e => ?_) (fun e => ?_)⟩
    · have ne : SA.length ≠ SB.length := fun z => by rw [z] at e; simp at e
      refine ⟨_, rfl, _, rfl, ?_⟩
      rw [turn_ne ne] at fx2
      exact use_same (fx2.same s34) (fy.same s34) fun H5 s5 => q H5 (s12.trans (s34.trans s5))
    · have ee : SA.length = SB.length := by
        by_cases z : SA.length = SB.length
        · exact z
        · exfalso
          refine e ?_
          simp
          omega
      rw [turn_eq ee] at fx2
      rw [turn_eq ee.symm] at fy
      have st : Stays (fun H => FS C D H a SA ∧ FS C D H b SB) := fun H H' s p => ⟨p.1.same s, p.2.same s⟩
      have pp : FS C D H4 a SA ∧ FS C D H4 b SB := ⟨ha2.same s34, hb2.same s34⟩
      refine ⟨_, rfl, ?_⟩
      refine ev_kept (Pv := fun H => FS C D H a SA ∧ FS C D H b SB) (σ := [some a, some b, some x, some y]) st (ev_var (fun H p => p.2) rfl) (ev_var (fun H p => p.1) rfl) H4 _ pp fun u H5 s5 fu => ?_
      refine use_same ((fx2.same s34).same s5) fu fun H6 s6 => ⟨_, rfl, iteT ?_⟩
      refine ⟨_, rfl, ?_⟩
      have s56 := s5.trans s6
      refine ev_kept (Pv := fun H => FS C D H a SA ∧ FS C D H b SB) (σ := [some a, some b, some x, some y]) st (ev_var (fun H p => p.1) rfl) (ev_var (fun H p => p.2) rfl) H6 _ (st _ _ s56 pp) fun u H7 s7 fu => ?_
      exact use_same (((fy.same s34).same s56).same s7) fu fun H8 s8 => q H8 (s12.trans (s34.trans (s56.trans (s7.trans s8))))
theorem ok_set (B : Bl mg) (F_FormSet : Fc K mg C) (c_l_take : Cal P w K mg base 1 "_law_take" spTake []) (m_FormSet : Mak P w K mg base 6 "FormSet" C (spInit K C) []) (D : Df K mg "_law_set" s_l_set) : Cal P w K mg base 8 "_law_set" (spSet C) [] := by
  refine D.cal sc_l_set (fun _ _ _ _ _ _ us hl => match us, hl with | [_, _, _], _ => rfl) (fun vs H Q E h => ?_) (fun f cdv A out s H vs Q E hr h => ?_)
  · obtain ⟨b, m, z, n, rfl, _⟩ := h
    rfl
  · obtain ⟨b, m, z, n, rfl, m1, m9, hz, bag, hn, q⟩ := h
    refine ⟨_, (pss_cons (ps_set (i := 3) sc_l_set.nd rfl (Or.inl rfl) (pe_lst pa_nil))
(pss_cons (ps_for PassesOwn.never (by rfl) (pi_range1 (by rfl) B.range (pa_cons (pe_c c_l_take hr (by decide) (by rfl) (pa_cons (pv 0) (pa_cons (pe_op op_add (pv 1) pe_int) pa_nil))) pa_nil)) (pg_name (i := 4) sc_l_set.nd rfl (Or.inl rfl))
(pss_one (ps_expr (pe_bm PySem.F.plainAttrs_list PySem.F.slot_list_append PySem.F.type_list_append mt_append (pv 3) (pa_cons (pe_tup (pa_cons (pe_c c_l_take hr (by decide) (by rfl) (pa_cons (pv 0) (pa_cons (pv 1) pa_nil))) (pa_cons (pe_op op_add_str (pv 2) (pe_ix ix_str pe_str (pe_c c_l_take hr (by decide) (by rfl) (pa_cons (pv 0) (pa_cons pe_int pa_nil))) (fun _ _ => rfl))) pa_nil))) pa_nil)))))
(pss_one (ps_ret (pe_mk m_FormSet hr (by decide) (by rfl) (pa_cons (pv 3) pa_nil)))))), ?_⟩
    refine ⟨by show 0 ≤ sizeLine; decide, fun l nl => ?_⟩
    have nlb : l ≠ b := bag.ne nl
    have bag0 := bag.new (o := .lst []) nl
    refine ⟨_, rfl, _, rfl, _, _, rfl, rfl, b, m + 2, n, rfl, by omega, by omega, bag0, by omega, fun d H1 d0 d1 bu1 bag1 => ?_⟩
    have bu01 : But b H H1 := (But.of_same (same_new nl)).trans bu1
    have hl1 : H1 l = some (.lst []) := bu1.at nlb upd_same
    refine ⟨d, rfl, by omega, by omega, ?_⟩
    refine for_over over_range (fun i σ H' => (∃ v, σ = [some (.ref b), some (.int m), some (.str z), some (.ref l), v]) ∧ But b H H' ∧ Bag H' b (n + 1 + 2 * i) ∧ ∃ ts : List (Addr × Pr), H' l = some (.lst (vals ts)) ∧ ts.length = i ∧ ∀ r ∈ ts, H' r.1 = some (.tup [.int r.2.1, .str r.2.2]) ∧ OkP nine r.2)
      ⟨⟨_, rfl⟩, bu01, bag1, [], hl1, rfl, fun r hr => by cases hr⟩ (fun _ _ _ _ _ => trivial) ?_ ?_
    · rintro i x σ H2 v H2' hx ⟨⟨v0, rfl⟩, bu2, bag2, ts, hl2, lt, hts⟩ ⟨rfl, rfl⟩
      obtain ⟨hi, ex⟩ := nums_at hx
      have hi' : i < 11 := by omega
      refine ⟨_, rfl, .inl ⟨rfl, _, .inl (.inl hl2)⟩, ?_⟩
      refine ⟨_, rfl, _, rfl, b, m, _, rfl, by omega, by omega, bag2, by omega, fun k H3 k0 k1 bu3 bag3 => ?_⟩
      refine ⟨_, rfl, _, rfl, b, 2, _, rfl, by decide, by decide, bag3, by omega, fun e H4 e0 e1 bu4 bag4 => ?_⟩
      have bu34 := bu3.trans bu4
      have keep : ∀ {c : Addr} {o : HO}, c ≠ b → H2' c = some o → H4 c = some o := fun nc h => bu34.at nc h
      have hk : OkP nine (k, z ++ ⟨#[120]⟩) ∧ OkP nine (k, z ++ ⟨#[121]⟩) := by
        have : k ∈ nine := by
          have : k = 0 ∨ k = 1 ∨ k = 2 ∨ k = 3 ∨ k = 4 ∨ k = 5 ∨ k = 6 ∨ k = 7 ∨ k = 8 := by omega
          unfold nine
          simp
          omega
        exact ⟨⟨this, k0, by show k ≤ 999999; omega, hz.2.1⟩, ⟨this, k0, by show k ≤ 999999; omega, hz.2.2⟩⟩
      have fin : ∀ (y : Str), OkP nine (k, y) → ∀ (t : Addr), H4 t = none → (upd H4 t (.tup [.int k, .str y])) l = some (.lst (vals ts)) ∧ (vals ts).length < sizeLine ∧
          (But b H (upd (upd H4 t (.tup [.int k, .str y])) l (.lst (vals ts ++ [.ref t]))) ∧ Bag (upd (upd H4 t (.tup [.int k, .str y])) l (.lst (vals ts ++ [.ref t]))) b (n + 1 + 2 * (i + 1)) ∧
            ∃ us : List (Addr × Pr), (upd (upd H4 t (.tup [.int k, .str y])) l (.lst (vals ts ++ [.ref t]))) l = some (.lst (vals us)) ∧ us.length = i + 1 ∧ ∀ r ∈ us, (upd (upd H4 t (.tup [.int k, .str y])) l (.lst (vals ts ++ [.ref t]))) r.1 = some (.tup [.int r.2.1, .str r.2.2]) ∧ OkP nine r.2) := by
        intro y hy t nt
        have hl4 : H4 l = some (.lst (vals ts)) := keep nlb hl2
        have ntl : l ≠ t := fun z => by rw [← z, hl4] at nt; cases nt
        have hl5 : (upd H4 t (.tup [.int k, .str y])) l = some (.lst (vals ts)) := by rw [upd_ne ntl]; exact hl4
        have bagt : t ≠ b := bag4.ne nt
        have len : (vals ts).length = i := by rw [List.length_map, lt]
        refine ⟨hl5, by rw [len]; exact Nat.lt_of_lt_of_le (show i < 12 by omega) (by decide), ?_, ?_, ts ++ [(t, (k, y))], ?_, ?_, ?_⟩
        · have bb : But b H H4 := bu2.trans bu34
          refine But.put (But.trans bb (But.of_same (same_new nt))) nl
        · exact ((bag4.put bagt).put nlb).mono (by omega)
        · rw [upd_same]
          congr 2
          show vals ts ++ [V.ref t] = (ts ++ [(t, (k, y))]).map (fun q => V.ref q.1)
          rw [List.map_append]
          rfl
        · rw [List.length_append, lt]; rfl
        · intro r hr
          rcases List.mem_append.mp hr with hr | hr
          · obtain ⟨h1, h2⟩ := hts r hr
            refine ⟨?_, h2⟩
            have n1 : r.1 ≠ l := fun z => by rw [z, hl2] at h1; cases h1
            have n2 : r.1 ≠ b := fun z => by
              obtain ⟨o, ho⟩ := bag2.some
              obtain ⟨f1, f2, f3, f4, _⟩ := bag2
              rw [z, f4] at h1
              cases h1
            have h4 := keep n2 h1
            rw [upd_ne n1, upd_ne (fun z => by rw [z, nt] at h4; cases h4)]
            exact h4
          · have e : r = (t, (k, y)) := by simpa using hr
            subst e
            refine ⟨?_, hy⟩
            rw [upd_ne (fun z => ntl z.symm), upd_same]
      have lz := hz.1
      have e01 : e = 0 ∨ e = 1 := by omega
      rcases e01 with rfl | rfl
      · refine ⟨"xy", 0, 120, rfl, rfl, by decide, rfl, z, _, rfl, rfl, Nat.le_trans (show z.length + 1 ≤ 2 by omega) (by decide), by show 2 ≤ sizeLine; decide, fun t nt => ?_⟩
        obtain ⟨g1, g2, g3, g4, g5⟩ := fin _ hk.1 t nt
        exact ⟨l, _, _, rfl, rfl, g1, g2, ⟨_, rfl⟩, g3, g4, g5⟩
      · refine ⟨"xy", 1, 121, rfl, rfl, by decide, rfl, z, _, rfl, rfl, Nat.le_trans (show z.length + 1 ≤ 2 by omega) (by decide), by show 2 ≤ sizeLine; decide, fun t nt => ?_⟩
        obtain ⟨g1, g2, g3, g4, g5⟩ := fin _ hk.2 t nt
        exact ⟨l, _, _, rfl, rfl, g1, g2, ⟨_, rfl⟩, g3, g4, g5⟩
    · rintro σ H2 ⟨⟨v0, rfl⟩, bu2, bag2, ts, hl2, lt, hts⟩
      refine ⟨_, rfl, ?_⟩
      rw [nums_len] at lt bag2
      have lt' : ts.length ≤ 11 := by omega
      refine use_make (D := nine) (els_of hl2 (fun r hr => (hts r hr).1) fun p hp => ?_) (by omega) (by decide) fun u H3 s3 fu => ?_
      · obtain ⟨r, hr, rfl⟩ := List.mem_map.mp hp
        exact (hts r hr).2
      · exact q u _ H3 (bu2.trans (But.of_same s3)) ((bag2.same s3).mono (by omega)) fu
end
end Eu
set_option Elab.async false
set_option linter.all false
set_option maxRecDepth 100000
set_option maxHeartbeats 4000000
namespace Eu
open PySem PySem.Spec PyProof.Rows L2
open C8 (pe_gc pss_cut)
open Fs
abbrev s_law : Stmt := top 23
theorem sc_law : FnScope ["_law_script", "_law_at", "_law_bag_here", "_law_many", "_law_some", "_law_k", "_law_one", "_law_two", "_law_three", "_law_form"] ["_law_script"] (defScope s_law) :=
  ⟨rfl, rfl, rfl, by decide +kernel, rfl, by decide +kernel, by decide +kernel⟩
section
variable {P : Program} {w : World} {K : PySem.W.Frag} {mg : Str → Option Value} {base : Heap} {kw C : Addr}
theorem form_ok : ∀ z ∈ (["p", "q", "r"] : List Str), FormOk z := by
  intro z hz
  have : z = "p" ∨ z = "q" ∨ z = "r" := by simpa using hz
  rcases this with rfl | rfl | rfl
  · exact ⟨by decide +kernel, by decide +kernel, by decide +kernel⟩
  · exact ⟨by decide +kernel, by decide +kernel, by decide +kernel⟩
  · exact ⟨by decide +kernel, by decide +kernel, by decide +kernel⟩
theorem body_law (B : Bl mg) (c_l_take : Cal P w K mg base 1 "_law_take" spTake []) (c_l_bag : Cal P w K mg base 1 "_law_bag" (spBag K) []) (c_l_set : Cal P w K mg base 8 "_law_set" (spSet C) [])
    (c_l_equations : Cal P w K mg base 10 "_law_equations" (spTri C) []) (c_l_keys : Cal P w K mg base 10 "_law_keys" (spTri C) []) (c_l_turned : Cal P w K mg base 10 "_law_turned" (spTwo C) [])
    (f : Addr) (cdv : Value) (A : Around) (out : List Env) (s : Shared) (H : Hp) (vs : List V) (Q : VK) (E : XK) (hr : Rm 10 (A.deeper (envOfC "law" (defScope s_law) s.heap.objs.size f cdv))) (h : spLaw K vs H Q E) :
    ∃ t, PSs (cxOf CX0 P w K mg base ["_law_script", "_law_at", "_law_bag_here", "_law_many", "_law_some", "_law_k", "_law_one", "_law_two", "_law_three", "_law_form"] "law" (defScope s_law) f cdv A out s H E).nox (defBody s_law) t ∧
        t { nx := fun _ H' => Q .non H', rt := Q } (start ["_law_script", "_law_at", "_law_bag_here", "_law_many", "_law_some", "_law_k", "_law_one", "_law_two", "_law_three", "_law_form"] vs) H := by
  obtain ⟨a, ns, rfl, hS, hlen, q⟩ := h
  refine ⟨_, (pss_cons (ps_for PassesOwn.never (by rfl) (pi_range1 (by rfl) B.range (pa_cons (pe_callB (call_max2 rfl) (by rfl) B.max (by decide +kernel) (pa_cons pe_int (pa_cons (pe_callB (call_min2 rfl) (by rfl) B.min (by decide +kernel) (pa_cons pe_int (pa_cons (pe_callB call_len_seq (by rfl) B.len (by decide +kernel) (pa_cons (pv 0) pa_nil)) pa_nil))) pa_nil))) pa_nil)) (pg_name (i := 1) sc_law.nd rfl (Or.inl rfl))
(pss_cons (ps_set (i := 2) sc_law.nd rfl (Or.inr rfl) (pe_c c_l_bag hr (by decide) (by rfl) (pa_cons (pv 0) (pa_cons (pv 1) pa_nil))))
(pss_cons (ps_set (i := 3) sc_law.nd rfl (Or.inr rfl) (pe_ix ix_list (pe_lst (pa_cons pe_int (pa_cons pe_int (pa_cons pe_int pa_nil)))) (pe_c c_l_take hr (by decide) (by rfl) (pa_cons (pv 2) (pa_cons pe_int pa_nil))) (fun _ _ => rfl)))
(pss_cons (ps_setLc (i := 4) (own := [("_law_form", 9)]) (by rfl) sc_law.nd rfl rfl (sw_true rfl rfl rfl (by decide +kernel)) (pi_list (pe_lst (pa_cons pe_str (pa_cons pe_str (pa_cons pe_str pa_nil))))) (blkOk_by (own := [("_law_form", 9)]) (N := ["_law_script", "_law_at", "_law_bag_here", "_law_many", "_law_some", "_law_k", "_law_one", "_law_two", "_law_three", "_law_form"]) (sc := defScope s_law) (by decide +kernel)) (fun _ _ _ _ _ => (pg_name (i := 9) sc_law.nd rfl (Or.inl rfl))) (fun _ _ _ _ _ => pts_nil) (fun _ _ _ _ _ => (pe_c c_l_set hr (by decide) (by rfl) (pa_cons (pv 2) (pa_cons (pv 3) (pa_cons (pv 9) pa_nil))))))
(pss_one (ps_for PassesOwn.never (by rfl) (pi_range1 (by rfl) B.range (pa_cons pe_int pa_nil)) (pg_name (i := 5) sc_law.nd rfl (Or.inl rfl))
(pss_cons (ps_par3 (i := 6) (j := 7) (l := 8) (by rfl) sc_law.nd rfl rfl rfl (by decide) (by decide) (by decide) rfl rfl rfl (pa_cons (pe_ix ix_list (pv 4) (pv 5) (fun _ _ => rfl)) (pa_cons (pe_ix ix_list (pv 4) (pe_op op_mod (pe_op op_add (pv 5) pe_int) pe_int) (fun _ _ => rfl)) (pa_cons (pe_ix ix_list (pv 4) (pe_op op_mod (pe_op op_add (pv 5) pe_int) pe_int) (fun _ _ => rfl)) pa_nil))) (by rfl))
(pss_cons (ps_if (PW.pt (pw_or (pt_not (pt_val (pe_c c_l_equations hr (by decide) (by rfl) (pa_cons (pv 6) (pa_cons (pv 7) (pa_cons (pv 8) pa_nil)))))) (pw_or1 (pt_not (pt_val (pe_c c_l_equations hr (by decide) (by rfl) (pa_cons (pv 6) (pa_cons (pv 8) (pa_cons (pv 7) pa_nil)))))))))
(pss_one (ps_ret pe_bl))
pss_nil)
(pss_one (ps_if (PW.pt (pw_or (pt_not (pt_val (pe_c c_l_keys hr (by decide) (by rfl) (pa_cons (pv 6) (pa_cons (pv 7) (pa_cons (pv 8) pa_nil)))))) (pw_or1 (pt_not (pt_val (pe_c c_l_turned hr (by decide) (by rfl) (pa_cons (pv 6) (pa_cons (pv 7) pa_nil))))))))
(pss_one (ps_ret pe_bl))
pss_nil))))))))))
(pss_one (ps_ret pe_bl))), ?_⟩
  refine ⟨_, rfl, a, _, rfl, .inl hS, 6, _, rfl, 2, _, rfl, _, rfl, ?_⟩
  obtain ⟨n, hn6, en⟩ : ∃ n : Nat, n ≤ 6 ∧ (if (if (((ns.map V.int).length : Nat) : Int) < 6 then (((ns.map V.int).length : Nat) : Int) else 6) > 2 then (if (((ns.map V.int).length : Nat) : Int) < 6 then (((ns.map V.int).length : Nat) : Int) else 6) else 2) = (n : Int) := by
    generalize (ns.map V.int).length = k
    by_cases h1 : (k : Int) < 6
    · rw [if_pos h1]
      by_cases h2 : (k : Int) > 2
      · rw [if_pos h2]; exact ⟨k, by omega, rfl⟩
      · rw [if_neg h2]; exact ⟨2, by omega, rfl⟩
    · rw [if_neg h1]
      exact ⟨6, by omega, rfl⟩
  rw [en]
  refine ⟨by omega, by omega, for_over over_range (fun i σ H' => ∃ x1 x2 x3 x4 x5 x6 x7 x8, σ = [some (.ref a), x1, x2, x3, x4, x5, x6, x7, x8, none] ∧ Same H H') ⟨none, none, none, none, none, none, none, none, rfl, Same.refl _⟩ (fun _ _ _ _ _ => trivial) ?_ ?_⟩
  · rintro i x σ H1 v H1' hx ⟨x1, x2, x3, x4, x5, x6, x7, x8, rfl, s1⟩ ⟨rfl, rfl⟩
    obtain ⟨hi, ex⟩ := nums_at hx
    rw [show (((n : Nat) : Int)).toNat = n from Int.toNat_natCast n] at hi
    refine ⟨_, rfl, _, rfl, a, ns, x, rfl, s1.seq hS, by omega, by omega, fun b H2 s2 nb bag => ?_⟩
    have nbH : H b = none := s1.free nb
    have s02 : Same H H2 := s1.trans s2
    -- how many keys
    refine ⟨by show 3 ≤ sizeLine; decide, fun l3 nl3 => ?_⟩
    have n3b : l3 ≠ b := bag.ne nl3
    refine ⟨_, rfl, b, 3, 0, rfl, by decide, by decide, bag.new nl3, by decide, fun d H3 d0 d1 bu3 bag3 => ?_⟩
    have hl3 : H3 l3 = some (.lst [.int 4, .int 6, .int 9]) := bu3.at n3b upd_same
    have bu03 : But b H2 H3 := (But.of_same (same_new nl3)).trans bu3
    obtain ⟨m, m1, m9, hm⟩ : ∃ m : Int, 1 ≤ m ∧ m ≤ 9 ∧ atI [V.int 4, V.int 6, V.int 9] d = some (.int m) := by
      have : d = 0 ∨ d = 1 ∨ d = 2 := by omega
      rcases this with rfl | rfl | rfl
      · exact ⟨4, by decide, by decide, rfl⟩
      · exact ⟨6, by decide, by decide, rfl⟩
      · exact ⟨9, by decide, by decide, rfl⟩
    refine ⟨l3, _, d, .int m, rfl, rfl, .inl (.inl hl3), hm, ?_⟩
    -- the three sets
    refine ⟨by show 3 ≤ sizeLine; decide, fun lf nlf => ⟨lf, rfl, ⟨_, .inl (.inl upd_same)⟩, fun Dd nD => ?_⟩⟩
    have nfb : lf ≠ b := bag3.ne nlf
    have bagf := bag3.new (o := .lst [.str "p", .str "q", .str "r"]) nlf
    have nDb : Dd ≠ b := bagf.ne nD
    have nDf : Dd ≠ lf := fun z => by rw [z, upd_same] at nD; cases nD
    have o : Over (Itl K lf) (["p", "q", "r"] : List Str) (fun z H v H' => H' = H ∧ v = .str z) (fun H => SqL K H lf [.str "p", .str "q", .str "r"]) := over_map (f := V.str) over_list
    generalize hHf : upd H3 lf (.lst [.str "p", .str "q", .str "r"]) = Hf at nD bagf
    have hlf : Hf lf = some (.lst [.str "p", .str "q", .str "r"]) := by rw [← hHf]; exact upd_same
    have bu0f : But b H2 Hf := bu03.trans (by rw [← hHf]; exact But.of_same (same_new nlf))
    refine lc_over o (fun j H' => But b H2 H' ∧ H' lf = some (.lst [.str "p", .str "q", .str "r"]) ∧ Bag H' b (1 + 40 * j) ∧ ∃ xs : List V, H' Dd = some (.lst xs) ∧ xs.length = j ∧ ∀ x ∈ xs, ∃ S, FS C nine H' x S) ?_ (fun j H' _ p => .inl (.inl p.2.1)) ?_ ?_
    · refine ⟨bu0f.trans (But.of_same (same_new nD)), same_new nD _ _ hlf, bagf.new nD, [], upd_same, rfl, fun x hx => by cases hx⟩
    · rintro j z H4 v H5 hz ⟨bu4, hlf4, bag4, xs, hD4, hxl, hxs⟩ ⟨rfl, rfl⟩
      have hj : j < 3 := (List.getElem?_eq_some_iff.mp hz).1
      refine ⟨rfl, lc_yes ?_⟩
      refine ⟨_, rfl, _, rfl, _, rfl, b, m, z, _, rfl, m1, m9, form_ok z (List.mem_of_getElem? hz), bag4, by omega, fun y S H6 bu6 bag6 fy => ?_⟩
      have hD6 : H6 Dd = some (.lst xs) := bu6.at nDb hD4
      obtain ⟨q1, q2, q3, hb4, _⟩ := bag4
      refine ⟨xs, hD6, Nat.lt_of_lt_of_le (show xs.length < 4 by omega) (by decide), ?_, ?_, ?_, xs ++ [y], upd_same, ?_, ?_⟩
      · refine But.put (bu4.trans bu6) ?_
        exact bu0f.free nDb nD
      · rw [upd_ne nDf.symm]
        exact bu6.at nfb hlf4
      · exact (bag6.put nDb).mono (by omega)
      · rw [List.length_append, hxl]; rfl
      · have go : ∀ {x : V} {S : List Pr}, FS C nine H6 x S → FS C nine (upd H6 Dd (.lst (xs ++ [y]))) x S := fun f => f.but But.upd hD6 (fun _ _ _ z => nomatch z) (fun _ z => nomatch z)
        intro x hx
        rcases List.mem_append.mp hx with hx | hx
        · obtain ⟨S', fx⟩ := hxs x hx
          exact ⟨S', go (fx.but bu6 hb4 (fun _ _ _ z => nomatch z) (fun _ z => nomatch z))⟩
        · have e : x = y := by simpa using hx
          subst e
          exact ⟨S, go fy⟩
    · rintro H4 ⟨bu4, _, bag4, xs, hD4, hxl, hxs⟩
      have hxl3 : xs.length = 3 := hxl
      obtain ⟨y0, y1, y2, rfl⟩ := len3 hxl3
      obtain ⟨S0, f0⟩ := hxs y0 (by simp)
      obtain ⟨S1, f1⟩ := hxs y1 (by simp)
      obtain ⟨S2, f2⟩ := hxs y2 (by simp)
      have s04 : Same H H4 := bu4.back s02 nbH
      refine ⟨3, rfl, by decide, by decide, for_over over_range (fun j σ H' => ∃ z5 z6 z7 z8, σ = [some (.ref a), some (.int x), some (.ref b), some (.int m), some (.ref Dd), z5, z6, z7, z8, none] ∧ Same H4 H') ⟨_, _, _, _, rfl, Same.refl _⟩ (fun _ _ _ _ _ => trivial) ?_ ?_⟩
      · rintro j y σ H5 v H5' hy ⟨z5, z6, z7, z8, rfl, s5⟩ ⟨rfl, rfl⟩
        obtain ⟨hj, ey⟩ := nums_at hy
        have hj' : j < 3 := hj
        have hD5 := s5 _ _ hD4
        have three : ∀ {u0 u1 u2 : V} {U0 U1 U2 : List Pr}, FS C nine H5' u0 U0 → FS C nine H5' u1 U1 → FS C nine H5' u2 U2 → atI [y0, y1, y2] y = some u0 → atI [y0, y1, y2] ((y + 1) % 3) = some u1 → atI [y0, y1, y2] ((y + 2) % 3) = some u2 → True := fun _ _ _ _ _ _ => trivial
        obtain ⟨u0, u1, u2, U0, U1, U2, g0, g1, g2, e0, e1, e2⟩ : ∃ (u0 u1 u2 : V) (U0 U1 U2 : List Pr), FS C nine H5' u0 U0 ∧ FS C nine H5' u1 U1 ∧ FS C nine H5' u2 U2 ∧ atI [y0, y1, y2] y = some u0 ∧ atI [y0, y1, y2] ((y + 1) % 3) = some u1 ∧ atI [y0, y1, y2] ((y + 2) % 3) = some u2 := by
          have : y = 0 ∨ y = 1 ∨ y = 2 := by omega
          rcases this with rfl | rfl | rfl
          · exact ⟨y0, y1, y2, S0, S1, S2, f0.same s5, f1.same s5, f2.same s5, rfl, rfl, rfl⟩
          · exact ⟨y1, y2, y0, S1, S2, S0, f1.same s5, f2.same s5, f0.same s5, rfl, rfl, rfl⟩
          · exact ⟨y2, y0, y1, S2, S0, S1, f2.same s5, f0.same s5, f1.same s5, rfl, rfl, rfl⟩
        refine ⟨_, rfl, _, rfl, Dd, _, y, u0, rfl, rfl, .inl (.inl hD5), e0, ?_⟩
        refine ⟨_, rfl, _, rfl, _, _, rfl, rfl, _, _, rfl, rfl, (show (0 : Int) < 3 by decide), Dd, _, _, u1, rfl, rfl, .inl (.inl hD5), e1, ?_⟩
        refine ⟨_, rfl, _, rfl, _, _, rfl, rfl, _, _, rfl, rfl, (show (0 : Int) < 3 by decide), Dd, _, _, u2, rfl, rfl, .inl (.inl hD5), e2, ?_⟩
        refine ⟨_, _, _, rfl, ?_⟩
        refine ⟨_, rfl, _, rfl, _, rfl, nine, _, _, _, U0, U1, U2, rfl, ⟨g0, g1, g2⟩, fun H6 s6 => ⟨_, rfl, ?_⟩⟩
        refine iteF ?_
        refine ⟨_, rfl, _, rfl, _, rfl, nine, _, _, _, U0, U2, U1, rfl, ⟨g0.same s6, g2.same s6, g1.same s6⟩, fun H7 s7 => ⟨_, rfl, ?_⟩⟩
        have s67 := s6.trans s7
        refine iteF ?_
        refine ⟨_, rfl, _, rfl, _, rfl, nine, _, _, _, U0, U1, U2, rfl, ⟨g0.same s67, g1.same s67, g2.same s67⟩, fun H8 s8 => ⟨_, rfl, ?_⟩⟩
        have s68 := s67.trans s8
        refine iteF ?_
        refine ⟨_, rfl, _, rfl, nine, _, _, U0, U1, rfl, g0.same s68, g1.same s68, fun H9 s9 => ⟨_, rfl, ?_⟩⟩
        refine iteF ?_
        exact ⟨_, _, _, _, rfl, s5.trans (s68.trans s9)⟩
      · rintro σ H5 ⟨z5, z6, z7, z8, rfl, s5⟩
        exact ⟨_, _, _, _, _, _, _, _, rfl, s04.trans s5⟩
  · rintro σ H1 ⟨x1, x2, x3, x4, x5, x6, x7, x8, rfl, s1⟩
    exact q _
end
end Eu
set_option Elab.async false
set_option linter.all false
set_option maxRecDepth 100000
set_option maxHeartbeats 4000000
namespace Eu
open PySem PySem.Spec PyProof.Rows L2
theorem tops_mk {l : PySem.W.OpenLaw} {w : World} {K : PySem.W.Frag} {h : Heap} {mg : Str → Option Value} {fa : Addr}
    {f1 : Addr} {oc1 kV1 dc1 pm1 cd1 ct1 : Value} {od1 an1 : Option Addr} {sl1 : Array (Option Value)}
    {f2 : Addr} {oc2 kV2 dc2 pm2 cd2 ct2 : Value} {od2 an2 : Option Addr} {sl2 : Array (Option Value)}
    {f3 : Addr} {oc3 kV3 dc3 pm3 cd3 ct3 : Value} {od3 an3 : Option Addr} {sl3 : Array (Option Value)}
    {f4 : Addr} {oc4 kV4 dc4 pm4 cd4 ct4 : Value} {od4 an4 : Option Addr} {sl4 : Array (Option Value)}
    {f5 : Addr} {oc5 kV5 dc5 pm5 cd5 ct5 : Value} {od5 an5 : Option Addr} {sl5 : Array (Option Value)}
    {f6 : Addr} {oc6 kV6 dc6 pm6 cd6 ct6 : Value} {od6 an6 : Option Addr} {sl6 : Array (Option Value)}
    {f7 : Addr} {oc7 kV7 dc7 pm7 cd7 ct7 : Value} {od7 an7 : Option Addr} {sl7 : Array (Option Value)}
    {f8 : Addr} {oc8 kV8 dc8 pm8 cd8 ct8 : Value} {od8 an8 : Option Addr} {sl8 : Array (Option Value)}
    {f9 : Addr} {oc9 kV9 dc9 pm9 cd9 ct9 : Value} {od9 an9 : Option Addr} {sl9 : Array (Option Value)}
    {f10 : Addr} {oc10 kV10 dc10 pm10 cd10 ct10 : Value} {od10 an10 : Option Addr} {sl10 : Array (Option Value)}
    {f11 : Addr} {oc11 kV11 dc11 pm11 cd11 ct11 : Value} {od11 an11 : Option Addr} {sl11 : Array (Option Value)}
    {f12 : Addr} {oc12 kV12 dc12 pm12 cd12 ct12 : Value} {od12 an12 : Option Addr} {sl12 : Array (Option Value)}
    {f13 : Addr} {oc13 kV13 dc13 pm13 cd13 ct13 : Value} {od13 an13 : Option Addr} {sl13 : Array (Option Value)}
    {f14 : Addr} {oc14 kV14 dc14 pm14 cd14 ct14 : Value} {od14 an14 : Option Addr} {sl14 : Array (Option Value)}
    {gt1 : Tok}
    {gt2 : Tok}
    {ta1 : Addr} {td1 : Option Addr} {tn1 : Nat} {ts1 : Array (Option Value)} {tk1_0 tk1_1 tk1_2 : Tok}
    {C1 : Addr}
    {mf1_1 : Addr} {moc1_1 mkV1_1 mdc1_1 mpm1_1 mcd1_1 mct1_1 : Value} {mod1_1 man1_1 : Option Addr} {msl1_1 : Array (Option Value)}
    {dT1 dE1 : Addr} {ded1 dee1 : Option Addr} {den1 dem1 : Nat} {des1 deo1 : Array (Option Value)}
    {mf1_2 : Addr} {moc1_2 mkV1_2 mdc1_2 mpm1_2 mcd1_2 mct1_2 : Value} {mod1_2 man1_2 : Option Addr} {msl1_2 : Array (Option Value)}
    {mf1_3 : Addr} {moc1_3 mkV1_3 mdc1_3 mpm1_3 mcd1_3 mct1_3 : Value} {mod1_3 man1_3 : Option Addr} {msl1_3 : Array (Option Value)}
    {mf1_4 : Addr} {moc1_4 mkV1_4 mdc1_4 mpm1_4 mcd1_4 mct1_4 : Value} {mod1_4 man1_4 : Option Addr} {msl1_4 : Array (Option Value)}
    {mf1_5 : Addr} {moc1_5 mkV1_5 mdc1_5 mpm1_5 mcd1_5 mct1_5 : Value} {mod1_5 man1_5 : Option Addr} {msl1_5 : Array (Option Value)}
    {mf1_6 : Addr} {moc1_6 mkV1_6 mdc1_6 mpm1_6 mcd1_6 mct1_6 : Value} {mod1_6 man1_6 : Option Addr} {msl1_6 : Array (Option Value)}
    {mf1_7 : Addr} {moc1_7 mkV1_7 mdc1_7 mpm1_7 mcd1_7 mct1_7 : Value} {mod1_7 man1_7 : Option Addr} {msl1_7 : Array (Option Value)}
    {mf1_8 : Addr} {moc1_8 mkV1_8 mdc1_8 mpm1_8 mcd1_8 mct1_8 : Value} {mod1_8 man1_8 : Option Addr} {msl1_8 : Array (Option Value)}
    {mf1_9 : Addr} {moc1_9 mkV1_9 mdc1_9 mpm1_9 mcd1_9 mct1_9 : Value} {mod1_9 man1_9 : Option Addr} {msl1_9 : Array (Option Value)}
    {mf1_10 : Addr} {moc1_10 mkV1_10 mdc1_10 mpm1_10 mcd1_10 mct1_10 : Value} {mod1_10 man1_10 : Option Addr} {msl1_10 : Array (Option Value)}
    {mf1_11 : Addr} {moc1_11 mkV1_11 mdc1_11 mpm1_11 mcd1_11 mct1_11 : Value} {mod1_11 man1_11 : Option Addr} {msl1_11 : Array (Option Value)}
    {mf1_12 : Addr} {moc1_12 mkV1_12 mdc1_12 mpm1_12 mcd1_12 mct1_12 : Value} {mod1_12 man1_12 : Option Addr} {msl1_12 : Array (Option Value)}
    (X : K.In h) (G : h.Ns mainGlobals mg) (hfa : mg "law" = some (.ref fa))
    (a1 : PySem.W.nsIn K mainGlobals "is_integer" = some (some (.ref f1)))
    (l1 : K.lookup f1 = some ⟨oc1, od1, .func (PySem.W.fnOf "is_integer" "is_integer" (defArgs s_is_integer) (defBody s_is_integer) (defScope s_is_integer) .none kV1 dc1 pm1 an1 cd1 ct1), sl1⟩)
    (c1 : PySem.W.codeIn K cd1 "is_integer" = true) (k1 : PySem.W.keepIn K (.ref f1) = true)
    (a2 : PySem.W.nsIn K mainGlobals "in_range" = some (some (.ref f2)))
    (l2 : K.lookup f2 = some ⟨oc2, od2, .func (PySem.W.fnOf "in_range" "in_range" (defArgs s_in_range) (defBody s_in_range) (defScope s_in_range) .none kV2 dc2 pm2 an2 cd2 ct2), sl2⟩)
    (c2 : PySem.W.codeIn K cd2 "in_range" = true) (k2 : PySem.W.keepIn K (.ref f2) = true)
    (a3 : PySem.W.nsIn K mainGlobals "is_letters" = some (some (.ref f3)))
    (l3 : K.lookup f3 = some ⟨oc3, od3, .func (PySem.W.fnOf "is_letters" "is_letters" (defArgs s_is_letters) (defBody s_is_letters) (defScope s_is_letters) .none kV3 dc3 pm3 an3 cd3 ct3), sl3⟩)
    (c3 : PySem.W.codeIn K cd3 "is_letters" = true) (k3 : PySem.W.keepIn K (.ref f3) = true)
    (a4 : PySem.W.nsIn K mainGlobals "is_name" = some (some (.ref f4)))
    (l4 : K.lookup f4 = some ⟨oc4, od4, .func (PySem.W.fnOf "is_name" "is_name" (defArgs s_is_name) (defBody s_is_name) (defScope s_is_name) .none kV4 dc4 pm4 an4 cd4 ct4), sl4⟩)
    (c4 : PySem.W.codeIn K cd4 "is_name" = true) (k4 : PySem.W.keepIn K (.ref f4) = true)
    (a5 : PySem.W.nsIn K mainGlobals "is_key" = some (some (.ref f5)))
    (l5 : K.lookup f5 = some ⟨oc5, od5, .func (PySem.W.fnOf "is_key" "is_key" (defArgs s_is_key) (defBody s_is_key) (defScope s_is_key) .none kV5 dc5 pm5 an5 cd5 ct5), sl5⟩)
    (c5 : PySem.W.codeIn K cd5 "is_key" = true) (k5 : PySem.W.keepIn K (.ref f5) = true)
    (a6 : PySem.W.nsIn K mainGlobals "is_element" = some (some (.ref f6)))
    (l6 : K.lookup f6 = some ⟨oc6, od6, .func (PySem.W.fnOf "is_element" "is_element" (defArgs s_is_element) (defBody s_is_element) (defScope s_is_element) .none kV6 dc6 pm6 an6 cd6 ct6), sl6⟩)
    (c6 : PySem.W.codeIn K cd6 "is_element" = true) (k6 : PySem.W.keepIn K (.ref f6) = true)
    (a7 : PySem.W.nsIn K mainGlobals "check_members" = some (some (.ref f7)))
    (l7 : K.lookup f7 = some ⟨oc7, od7, .func (PySem.W.fnOf "check_members" "check_members" (defArgs s_check_members) (defBody s_check_members) (defScope s_check_members) .none kV7 dc7 pm7 an7 cd7 ct7), sl7⟩)
    (c7 : PySem.W.codeIn K cd7 "check_members" = true) (k7 : PySem.W.keepIn K (.ref f7) = true)
    (a8 : PySem.W.nsIn K mainGlobals "_law_bag" = some (some (.ref f8)))
    (l8 : K.lookup f8 = some ⟨oc8, od8, .func (PySem.W.fnOf "_law_bag" "_law_bag" (defArgs s_l_bag) (defBody s_l_bag) (defScope s_l_bag) .none kV8 dc8 pm8 an8 cd8 ct8), sl8⟩)
    (c8 : PySem.W.codeIn K cd8 "_law_bag" = true) (k8 : PySem.W.keepIn K (.ref f8) = true)
    (a9 : PySem.W.nsIn K mainGlobals "_law_take" = some (some (.ref f9)))
    (l9 : K.lookup f9 = some ⟨oc9, od9, .func (PySem.W.fnOf "_law_take" "_law_take" (defArgs s_l_take) (defBody s_l_take) (defScope s_l_take) .none kV9 dc9 pm9 an9 cd9 ct9), sl9⟩)
    (c9 : PySem.W.codeIn K cd9 "_law_take" = true) (k9 : PySem.W.keepIn K (.ref f9) = true)
    (a10 : PySem.W.nsIn K mainGlobals "_law_set" = some (some (.ref f10)))
    (l10 : K.lookup f10 = some ⟨oc10, od10, .func (PySem.W.fnOf "_law_set" "_law_set" (defArgs s_l_set) (defBody s_l_set) (defScope s_l_set) .none kV10 dc10 pm10 an10 cd10 ct10), sl10⟩)
    (c10 : PySem.W.codeIn K cd10 "_law_set" = true) (k10 : PySem.W.keepIn K (.ref f10) = true)
    (a11 : PySem.W.nsIn K mainGlobals "_law_equations" = some (some (.ref f11)))
    (l11 : K.lookup f11 = some ⟨oc11, od11, .func (PySem.W.fnOf "_law_equations" "_law_equations" (defArgs s_l_equations) (defBody s_l_equations) (defScope s_l_equations) .none kV11 dc11 pm11 an11 cd11 ct11), sl11⟩)
    (c11 : PySem.W.codeIn K cd11 "_law_equations" = true) (k11 : PySem.W.keepIn K (.ref f11) = true)
    (a12 : PySem.W.nsIn K mainGlobals "_law_keys" = some (some (.ref f12)))
    (l12 : K.lookup f12 = some ⟨oc12, od12, .func (PySem.W.fnOf "_law_keys" "_law_keys" (defArgs s_l_keys) (defBody s_l_keys) (defScope s_l_keys) .none kV12 dc12 pm12 an12 cd12 ct12), sl12⟩)
    (c12 : PySem.W.codeIn K cd12 "_law_keys" = true) (k12 : PySem.W.keepIn K (.ref f12) = true)
    (a13 : PySem.W.nsIn K mainGlobals "_law_turned" = some (some (.ref f13)))
    (l13 : K.lookup f13 = some ⟨oc13, od13, .func (PySem.W.fnOf "_law_turned" "_law_turned" (defArgs s_l_turned) (defBody s_l_turned) (defScope s_l_turned) .none kV13 dc13 pm13 an13 cd13 ct13), sl13⟩)
    (c13 : PySem.W.codeIn K cd13 "_law_turned" = true) (k13 : PySem.W.keepIn K (.ref f13) = true)
    (a14 : PySem.W.nsIn K mainGlobals "law" = some (some (.ref f14)))
    (l14 : K.lookup f14 = some ⟨oc14, od14, .func (PySem.W.fnOf "law" "law" (defArgs s_law) (defBody s_law) (defScope s_law) .none kV14 dc14 pm14 an14 cd14 ct14), sl14⟩)
    (c14 : PySem.W.codeIn K cd14 "law" = true) (k14 : PySem.W.keepIn K (.ref f14) = true)
    (g1 : PySem.W.nsIn K mainGlobals "LONGEST_NAME" = some (some (.int 4 gt1)))
    (g2 : PySem.W.nsIn K mainGlobals "MOST_KEY" = some (some (.int 999999 gt2)))
    (h1 : PySem.W.nsIn K mainGlobals "KEPT_WORDS" = some (some (.ref ta1)))
    (j1 : K.lookup ta1 = some ⟨.type "tuple", td1, .seq #[.str "keys" tk1_0, .str "look" tk1_1, .str "self" tk1_2] tn1, ts1⟩)
    (aC1 : PySem.W.nsIn K mainGlobals "FormSet" = some (some (.ref C1)))
    (ma1_1 : PySem.W.findIn K (.ref C1) "__init__" = some (some (.ref mf1_1))) (mi1_1 : PySem.W.isFn K (.ref mf1_1) = true)
    (ml1_1 : K.lookup mf1_1 = some ⟨moc1_1, mod1_1, .func (PySem.W.fnOf "__init__" "FormSet.__init__" (defArgs s_FormSet___init__) (defBody s_FormSet___init__) (defScope s_FormSet___init__) (.ref dT1) mkV1_1 mdc1_1 mpm1_1 man1_1 mcd1_1 mct1_1), msl1_1⟩)
    (mc1_1 : PySem.W.codeIn K mcd1_1 "FormSet.__init__" = true) (mk1_1 : PySem.W.keepIn K (.ref mf1_1) = true)
    (dt1 : K.lookup dT1 = some ⟨.type "tuple", ded1, .seq #[.ref dE1] den1, des1⟩) (de1 : K.lookup dE1 = some ⟨.type "tuple", dee1, .seq #[] dem1, deo1⟩)
    (ma1_2 : PySem.W.findIn K (.ref C1) "members" = some (some (.ref mf1_2))) (mi1_2 : PySem.W.isFn K (.ref mf1_2) = true)
    (ml1_2 : K.lookup mf1_2 = some ⟨moc1_2, mod1_2, .func (PySem.W.fnOf "members" "FormSet.members" (defArgs s_FormSet_members) (defBody s_FormSet_members) (defScope s_FormSet_members) .none mkV1_2 mdc1_2 mpm1_2 man1_2 mcd1_2 mct1_2), msl1_2⟩)
    (mc1_2 : PySem.W.codeIn K mcd1_2 "FormSet.members" = true) (mk1_2 : PySem.W.keepIn K (.ref mf1_2) = true)
    (ma1_3 : PySem.W.findIn K (.ref C1) "__contains__" = some (some (.ref mf1_3))) (mi1_3 : PySem.W.isFn K (.ref mf1_3) = true)
    (ml1_3 : K.lookup mf1_3 = some ⟨moc1_3, mod1_3, .func (PySem.W.fnOf "__contains__" "FormSet.__contains__" (defArgs s_FormSet___contains__) (defBody s_FormSet___contains__) (defScope s_FormSet___contains__) .none mkV1_3 mdc1_3 mpm1_3 man1_3 mcd1_3 mct1_3), msl1_3⟩)
    (mc1_3 : PySem.W.codeIn K mcd1_3 "FormSet.__contains__" = true) (mk1_3 : PySem.W.keepIn K (.ref mf1_3) = true)
    (ma1_4 : PySem.W.findIn K (.ref C1) "__or__" = some (some (.ref mf1_4))) (mi1_4 : PySem.W.isFn K (.ref mf1_4) = true)
    (ml1_4 : K.lookup mf1_4 = some ⟨moc1_4, mod1_4, .func (PySem.W.fnOf "__or__" "FormSet.__or__" (defArgs s_FormSet___or__) (defBody s_FormSet___or__) (defScope s_FormSet___or__) .none mkV1_4 mdc1_4 mpm1_4 man1_4 mcd1_4 mct1_4), msl1_4⟩)
    (mc1_4 : PySem.W.codeIn K mcd1_4 "FormSet.__or__" = true) (mk1_4 : PySem.W.keepIn K (.ref mf1_4) = true)
    (ma1_5 : PySem.W.findIn K (.ref C1) "__and__" = some (some (.ref mf1_5))) (mi1_5 : PySem.W.isFn K (.ref mf1_5) = true)
    (ml1_5 : K.lookup mf1_5 = some ⟨moc1_5, mod1_5, .func (PySem.W.fnOf "__and__" "FormSet.__and__" (defArgs s_FormSet___and__) (defBody s_FormSet___and__) (defScope s_FormSet___and__) .none mkV1_5 mdc1_5 mpm1_5 man1_5 mcd1_5 mct1_5), msl1_5⟩)
    (mc1_5 : PySem.W.codeIn K mcd1_5 "FormSet.__and__" = true) (mk1_5 : PySem.W.keepIn K (.ref mf1_5) = true)
    (ma1_6 : PySem.W.findIn K (.ref C1) "__sub__" = some (some (.ref mf1_6))) (mi1_6 : PySem.W.isFn K (.ref mf1_6) = true)
    (ml1_6 : K.lookup mf1_6 = some ⟨moc1_6, mod1_6, .func (PySem.W.fnOf "__sub__" "FormSet.__sub__" (defArgs s_FormSet___sub__) (defBody s_FormSet___sub__) (defScope s_FormSet___sub__) .none mkV1_6 mdc1_6 mpm1_6 man1_6 mcd1_6 mct1_6), msl1_6⟩)
    (mc1_6 : PySem.W.codeIn K mcd1_6 "FormSet.__sub__" = true) (mk1_6 : PySem.W.keepIn K (.ref mf1_6) = true)
    (ma1_7 : PySem.W.findIn K (.ref C1) "__xor__" = some (some (.ref mf1_7))) (mi1_7 : PySem.W.isFn K (.ref mf1_7) = true)
    (ml1_7 : K.lookup mf1_7 = some ⟨moc1_7, mod1_7, .func (PySem.W.fnOf "__xor__" "FormSet.__xor__" (defArgs s_FormSet___xor__) (defBody s_FormSet___xor__) (defScope s_FormSet___xor__) .none mkV1_7 mdc1_7 mpm1_7 man1_7 mcd1_7 mct1_7), msl1_7⟩)
    (mc1_7 : PySem.W.codeIn K mcd1_7 "FormSet.__xor__" = true) (mk1_7 : PySem.W.keepIn K (.ref mf1_7) = true)
    (ma1_8 : PySem.W.findIn K (.ref C1) "joined" = some (some (.ref mf1_8))) (mi1_8 : PySem.W.isFn K (.ref mf1_8) = true)
    (ml1_8 : K.lookup mf1_8 = some ⟨moc1_8, mod1_8, .func (PySem.W.fnOf "joined" "FormSet.joined" (defArgs s_FormSet_joined) (defBody s_FormSet_joined) (defScope s_FormSet_joined) .none mkV1_8 mdc1_8 mpm1_8 man1_8 mcd1_8 mct1_8), msl1_8⟩)
    (mc1_8 : PySem.W.codeIn K mcd1_8 "FormSet.joined" = true) (mk1_8 : PySem.W.keepIn K (.ref mf1_8) = true)
    (ma1_9 : PySem.W.findIn K (.ref C1) "kept" = some (some (.ref mf1_9))) (mi1_9 : PySem.W.isFn K (.ref mf1_9) = true)
    (ml1_9 : K.lookup mf1_9 = some ⟨moc1_9, mod1_9, .func (PySem.W.fnOf "kept" "FormSet.kept" (defArgs s_FormSet_kept) (defBody s_FormSet_kept) (defScope s_FormSet_kept) .none mkV1_9 mdc1_9 mpm1_9 man1_9 mcd1_9 mct1_9), msl1_9⟩)
    (mc1_9 : PySem.W.codeIn K mcd1_9 "FormSet.kept" = true) (mk1_9 : PySem.W.keepIn K (.ref mf1_9) = true)
    (ma1_10 : PySem.W.findIn K (.ref C1) "equals" = some (some (.ref mf1_10))) (mi1_10 : PySem.W.isFn K (.ref mf1_10) = true)
    (ml1_10 : K.lookup mf1_10 = some ⟨moc1_10, mod1_10, .func (PySem.W.fnOf "equals" "FormSet.equals" (defArgs s_FormSet_equals) (defBody s_FormSet_equals) (defScope s_FormSet_equals) .none mkV1_10 mdc1_10 mpm1_10 man1_10 mcd1_10 mct1_10), msl1_10⟩)
    (mc1_10 : PySem.W.codeIn K mcd1_10 "FormSet.equals" = true) (mk1_10 : PySem.W.keepIn K (.ref mf1_10) = true)
    (ma1_11 : PySem.W.findIn K (.ref C1) "__len__" = some (some (.ref mf1_11))) (mi1_11 : PySem.W.isFn K (.ref mf1_11) = true)
    (ml1_11 : K.lookup mf1_11 = some ⟨moc1_11, mod1_11, .func (PySem.W.fnOf "__len__" "FormSet.__len__" (defArgs s_FormSet___len__) (defBody s_FormSet___len__) (defScope s_FormSet___len__) .none mkV1_11 mdc1_11 mpm1_11 man1_11 mcd1_11 mct1_11), msl1_11⟩)
    (mc1_11 : PySem.W.codeIn K mcd1_11 "FormSet.__len__" = true) (mk1_11 : PySem.W.keepIn K (.ref mf1_11) = true)
    (ma1_12 : PySem.W.findIn K (.ref C1) "__eq__" = some (some (.ref mf1_12))) (mi1_12 : PySem.W.isFn K (.ref mf1_12) = true)
    (ml1_12 : K.lookup mf1_12 = some ⟨moc1_12, mod1_12, .func (PySem.W.fnOf "__eq__" "FormSet.__eq__" (defArgs s_FormSet___eq__) (defBody s_FormSet___eq__) (defScope s_FormSet___eq__) .none mkV1_12 mdc1_12 mpm1_12 man1_12 mcd1_12 mct1_12), msl1_12⟩)
    (mc1_12 : PySem.W.codeIn K mcd1_12 "FormSet.__eq__" = true) (mk1_12 : PySem.W.keepIn K (.ref mf1_12) = true)
    (pg1 : PySem.W.plainGet K C1 Str.empty = true)
    (hd1 : PySem.W.hasDictIn K C1 = true)
    (po1 : PySem.W.plainOver K C1 = true)
    (sa1 : PySem.W.findIn K (.ref C1) "__setattr__" = some (some (.builtin "object.__setattr__")))
    (mk1 : PySem.W.makesIn K C1 = true)
    (kc1 : PySem.W.keepIn K (.ref C1) = true)
    (na1_1 : PySem.W.findIn K (.ref C1) "forms" = some none)
    (sf1 : PySem.W.selfFirst K C1 = true)
    (mr1 : PySem.W.mroIn K C1 (.type "object") = some true)
    (ne1 : PySem.W.findIn K (.ref C1) "__ne__" = some (some (.builtin "object.__ne__")))
    (ha1 : PySem.W.findIn K (.ref C1) "__class__" = some (some (.builtin "object.__class__")))
    (hn1 : PySem.W.specialIn K (.builtin "object.__class__") "__get__" = some (some (.builtin "getset_descriptor.__get__")))
    (ht1 : PySem.W.takesIn K (.builtin "object.__class__") = some true)
    (z1 : PySem.W.nsIn K mainGlobals "len" = some none)
    (z2 : PySem.W.nsIn K mainGlobals "abs" = some none)
    (z3 : PySem.W.nsIn K mainGlobals "isinstance" = some none)
    (z4 : PySem.W.nsIn K mainGlobals "int" = some none)
    (z5 : PySem.W.nsIn K mainGlobals "bool" = some none)
    (z6 : PySem.W.nsIn K mainGlobals "str" = some none)
    (z7 : PySem.W.nsIn K mainGlobals "tuple" = some none)
    (z8 : PySem.W.nsIn K mainGlobals "all" = some none)
    (z9 : PySem.W.nsIn K mainGlobals "any" = some none)
    (z10 : PySem.W.nsIn K mainGlobals "repr" = some none)
    (z11 : PySem.W.nsIn K mainGlobals "range" = some none)
    (z12 : PySem.W.nsIn K mainGlobals "max" = some none)
    (z13 : PySem.W.nsIn K mainGlobals "min" = some none)
    (z14 : PySem.W.nsIn K mainGlobals "list" = some none)
    (z15 : PySem.W.nsIn K mainGlobals "dict" = some none)
    (z16 : PySem.W.nsIn K mainGlobals "set" = some none)
    (z17 : PySem.W.nsIn K mainGlobals "sorted" = some none)
    (z18 : PySem.W.nsIn K mainGlobals "reversed" = some none)
    (z19 : PySem.W.nsIn K mainGlobals "enumerate" = some none)
    (z20 : PySem.W.nsIn K mainGlobals "zip" = some none)
    (z21 : PySem.W.nsIn K mainGlobals "sum" = some none)
    (z22 : PySem.W.nsIn K mainGlobals "type" = some none) :
    ∃ fd : FuncData, (∀ (s : Shared) (u : Value), BindsTo s fd ⟨[u], []⟩ [("_law_script", u)]) ∧
      ∀ base : Heap, K.In base → base.Ns mainGlobals mg → Ok l.prog w K mg base CX0 11 fa fd ["_law_script"] (spLaw K) := by
  have D_is_integer : Df K mg "is_integer" s_is_integer := df_mk X G a1 l1 c1 k1
  have D_in_range : Df K mg "in_range" s_in_range := df_mk X G a2 l2 c2 k2
  have D_is_letters : Df K mg "is_letters" s_is_letters := df_mk X G a3 l3 c3 k3
  have D_is_name : Df K mg "is_name" s_is_name := df_mk X G a4 l4 c4 k4
  have D_is_key : Df K mg "is_key" s_is_key := df_mk X G a5 l5 c5 k5
  have D_is_element : Df K mg "is_element" s_is_element := df_mk X G a6 l6 c6 k6
  have D_check_members : Df K mg "check_members" s_check_members := df_mk X G a7 l7 c7 k7
  have D_l_bag : Df K mg "_law_bag" s_l_bag := df_mk X G a8 l8 c8 k8
  have D_l_take : Df K mg "_law_take" s_l_take := df_mk X G a9 l9 c9 k9
  have D_l_set : Df K mg "_law_set" s_l_set := df_mk X G a10 l10 c10 k10
  have D_l_equations : Df K mg "_law_equations" s_l_equations := df_mk X G a11 l11 c11 k11
  have D_l_keys : Df K mg "_law_keys" s_l_keys := df_mk X G a12 l12 c12 k12
  have D_l_turned : Df K mg "_law_turned" s_l_turned := df_mk X G a13 l13 c13 k13
  have D_law : Df K mg "law" s_law := df_mk X G a14 l14 c14 k14
  have G_LONGEST_NAME : ∃ u, mg "LONGEST_NAME" = some u ∧ RelV (.int 4) u := ⟨_, PySem.W.mg_of X G g1, _, rfl⟩
  have G_MOST_KEY : ∃ u, mg "MOST_KEY" = some u ∧ RelV (.int 999999) u := ⟨_, PySem.W.mg_of X G g2, _, rfl⟩
  have G_KEPT_WORDS : ∃ u, mg "KEPT_WORDS" = some u ∧ RelV (.ref ta1) u := ⟨_, PySem.W.mg_of X G h1, rfl⟩
  have S_KEPT_WORDS : ∀ H, SqT K H ta1 [.str "keys", .str "look", .str "self"] := fun H => .inr ⟨_, _, _, j1, rfl, rfl, (by show 3 ≤ sizeLine; decide), .cons ⟨_, rfl⟩ (.cons ⟨_, rfl⟩ (.cons ⟨_, rfl⟩ (.nil)))⟩
  have E_FormSet : ∀ H, SqT K H dE1 [] := fun H => .inr ⟨_, _, _, de1, rfl, rfl, (by show 0 ≤ sizeLine; decide), .nil⟩
  have D_FormSet___init__ : Dm K C1 "__init__" "FormSet.__init__" s_FormSet___init__ [.ref dE1] := ⟨mf1_1, _, _, _, _, _, _, _, _, _, _, ml1_1, mc1_1, ⟨ma1_1, mi1_1, mk1_1⟩, .inr ⟨by simp, dT1, _, [.ref dE1], _, rfl, dt1, rfl, .cons rfl .nil⟩⟩
  have D_FormSet_members : Dm K C1 "members" "FormSet.members" s_FormSet_members [] := ⟨mf1_2, _, _, _, _, _, _, _, _, _, _, ml1_2, mc1_2, ⟨ma1_2, mi1_2, mk1_2⟩, .inl ⟨rfl, rfl⟩⟩
  have D_FormSet___contains__ : Dm K C1 "__contains__" "FormSet.__contains__" s_FormSet___contains__ [] := ⟨mf1_3, _, _, _, _, _, _, _, _, _, _, ml1_3, mc1_3, ⟨ma1_3, mi1_3, mk1_3⟩, .inl ⟨rfl, rfl⟩⟩
  have D_FormSet___or__ : Dm K C1 "__or__" "FormSet.__or__" s_FormSet___or__ [] := ⟨mf1_4, _, _, _, _, _, _, _, _, _, _, ml1_4, mc1_4, ⟨ma1_4, mi1_4, mk1_4⟩, .inl ⟨rfl, rfl⟩⟩
  have D_FormSet___and__ : Dm K C1 "__and__" "FormSet.__and__" s_FormSet___and__ [] := ⟨mf1_5, _, _, _, _, _, _, _, _, _, _, ml1_5, mc1_5, ⟨ma1_5, mi1_5, mk1_5⟩, .inl ⟨rfl, rfl⟩⟩
  have D_FormSet___sub__ : Dm K C1 "__sub__" "FormSet.__sub__" s_FormSet___sub__ [] := ⟨mf1_6, _, _, _, _, _, _, _, _, _, _, ml1_6, mc1_6, ⟨ma1_6, mi1_6, mk1_6⟩, .inl ⟨rfl, rfl⟩⟩
  have D_FormSet___xor__ : Dm K C1 "__xor__" "FormSet.__xor__" s_FormSet___xor__ [] := ⟨mf1_7, _, _, _, _, _, _, _, _, _, _, ml1_7, mc1_7, ⟨ma1_7, mi1_7, mk1_7⟩, .inl ⟨rfl, rfl⟩⟩
  have D_FormSet_joined : Dm K C1 "joined" "FormSet.joined" s_FormSet_joined [] := ⟨mf1_8, _, _, _, _, _, _, _, _, _, _, ml1_8, mc1_8, ⟨ma1_8, mi1_8, mk1_8⟩, .inl ⟨rfl, rfl⟩⟩
  have D_FormSet_kept : Dm K C1 "kept" "FormSet.kept" s_FormSet_kept [] := ⟨mf1_9, _, _, _, _, _, _, _, _, _, _, ml1_9, mc1_9, ⟨ma1_9, mi1_9, mk1_9⟩, .inl ⟨rfl, rfl⟩⟩
  have D_FormSet_equals : Dm K C1 "equals" "FormSet.equals" s_FormSet_equals [] := ⟨mf1_10, _, _, _, _, _, _, _, _, _, _, ml1_10, mc1_10, ⟨ma1_10, mi1_10, mk1_10⟩, .inl ⟨rfl, rfl⟩⟩
  have D_FormSet___len__ : Dm K C1 "__len__" "FormSet.__len__" s_FormSet___len__ [] := ⟨mf1_11, _, _, _, _, _, _, _, _, _, _, ml1_11, mc1_11, ⟨ma1_11, mi1_11, mk1_11⟩, .inl ⟨rfl, rfl⟩⟩
  have D_FormSet___eq__ : Dm K C1 "__eq__" "FormSet.__eq__" s_FormSet___eq__ [] := ⟨mf1_12, _, _, _, _, _, _, _, _, _, _, ml1_12, mc1_12, ⟨ma1_12, mi1_12, mk1_12⟩, .inl ⟨rfl, rfl⟩⟩
  have M_FormSet : mg "FormSet" = some (.ref C1) := PySem.W.mg_of X G aC1
  have F_FormSet : Fc K mg C1 := ⟨⟨_, M_FormSet, rfl⟩, ⟨pg1, hd1, po1, sa1⟩, na1_1, sf1, mr1, ne1, ha1, hn1, ht1⟩
  have m0 : ∀ {x : Str}, PySem.W.nsIn K mainGlobals x = some none → mg x = none := fun e => PySem.W.mg_none_of X G e
  have B : Bl mg := ⟨m0 z1, m0 z2, m0 z3, m0 z4, m0 z5, m0 z6, m0 z7, m0 z8, m0 z9, m0 z10, m0 z11, m0 z12, m0 z13, m0 z14, m0 z15, m0 z16, m0 z17, m0 z18, m0 z19, m0 z20, m0 z21, m0 z22⟩
  have T : Gc K mg ta1 := ⟨G_LONGEST_NAME, G_MOST_KEY, G_KEPT_WORDS, S_KEPT_WORDS⟩
  refine law_fn D_law hfa sc_law (fun _ _ _ _ _ _ us hl => match us, hl with | [_], _ => rfl) (fun vs H Q E h => ?_) ?_
  · obtain ⟨a, ns, rfl, _⟩ := h
    rfl
  · intro base hb1 hb2 f cdv A out s H vs Q E hr hs
    have c1 := ok_is_integer (P := l.prog) (w := w) (base := base) B D_is_integer
    have c2 := ok_in_range c1 D_in_range
    have c3 := ok_is_letters (P := l.prog) (w := w) (base := base) B D_is_letters
    have c4 := ok_is_name B T c3 D_is_name
    have c5 := ok_is_key T c2 D_is_key
    have c6 := ok_is_element B c5 c4 D_is_element
    have c7 := ok_check B c6 D_check_members
    obtain ⟨mk, mk0⟩ := ok_init B F_FormSet c7 D_FormSet___init__ mk1 kc1 M_FormSet
    have m1 := ok_members (P := l.prog) (w := w) (base := base) B F_FormSet D_FormSet_members
    have m2 := ok_has F_FormSet c1 D_FormSet___contains__
    have m3 := ok_len (P := l.prog) (w := w) (base := base) B F_FormSet D_FormSet___len__
    have m4 := ok_equals (P := l.prog) (w := w) (base := base) B F_FormSet D_FormSet_equals
    have m5 := ok_eq (P := l.prog) (w := w) (base := base) B F_FormSet D_FormSet___eq__
    have m6 := ok_or F_FormSet mk m1 D_FormSet___or__
    have m7 := ok_sub F_FormSet mk m1 m2 D_FormSet___sub__
    have m8 := ok_kept F_FormSet mk m1 m2 D_FormSet_kept
    have m9 := ok_and B F_FormSet m8 m3 D_FormSet___and__
    have m10 := ok_xor F_FormSet m6 m7 D_FormSet___xor__
    have m11 := ok_joined F_FormSet m6 D_FormSet_joined
    have c8 := ok_bag (P := l.prog) (w := w) (base := base) B D_l_bag
    have c9 := ok_take (P := l.prog) (w := w) (base := base) D_l_take
    have c10 := ok_set B F_FormSet c9 mk D_l_set
    have c11 := ok_l_equations B F_FormSet E_FormSet mk0 m6 m7 m8 m9 m10 m11 m4 m3 m5 D_l_equations
    have c12 := ok_l_keys B F_FormSet E_FormSet mk0 m6 m7 m8 m9 m10 m11 m4 m3 m5 D_l_keys
    have c13 := ok_turned B F_FormSet m8 m9 m3 m5 D_l_turned
    exact body_law B c9 c8 c10 c11 c12 c13 f cdv A out s H vs Q E hr hs
end Eu
open PySem PySem.W PyProof.Rows
set_option maxRecDepth 100000 in
set_option maxHeartbeats 0 in
theorem PySem.Challenge.cw_equalunlike_k05_whole_laws_of_sets_with_holds : PySem.Challenge.rw_equalunlike_k05_whole_laws_of_sets_with.Holds := by
  w_on; o_law; k_head; (case hw => w_witness2)
  k_fill
  refine Eu.walk_ok (l := PySem.Challenge.rw_equalunlike_k05_whole_laws_of_sets_with) (k := 11) (x := "_law_script") rfl rfl ⟨⟨rfl, by decide, by decide⟩, rfl⟩ (fun w h Y => PySem.W.kIn_of Y) ?F
  case F =>
    intro w mg fa h KX G hmg
    refine' Eu.tops_mk KX G hmg ?a1 ?l1 ?c1 ?k1 ?a2 ?l2 ?c2 ?k2 ?a3 ?l3 ?c3 ?k3 ?a4 ?l4 ?c4 ?k4 ?a5 ?l5 ?c5 ?k5 ?a6 ?l6 ?c6 ?k6 ?a7 ?l7 ?c7 ?k7 ?a8 ?l8 ?c8 ?k8 ?a9 ?l9 ?c9 ?k9 ?a10 ?l10 ?c10 ?k10 ?a11 ?l11 ?c11 ?k11 ?a12 ?l12 ?c12 ?k12 ?a13 ?l13 ?c13 ?k13 ?a14 ?l14 ?c14 ?k14 ?g1 ?g2 ?h1 ?j1 ?aC1 ?ma1_1 ?mi1_1 ?ml1_1 ?mc1_1 ?mk1_1 ?dt1 ?de1 ?ma1_2 ?mi1_2 ?ml1_2 ?mc1_2 ?mk1_2 ?ma1_3 ?mi1_3 ?ml1_3 ?mc1_3 ?mk1_3 ?ma1_4 ?mi1_4 ?ml1_4 ?mc1_4 ?mk1_4 ?ma1_5 ?mi1_5 ?ml1_5 ?mc1_5 ?mk1_5 ?ma1_6 ?mi1_6 ?ml1_6 ?mc1_6 ?mk1_6 ?ma1_7 ?mi1_7 ?ml1_7 ?mc1_7 ?mk1_7 ?ma1_8 ?mi1_8 ?ml1_8 ?mc1_8 ?mk1_8 ?ma1_9 ?mi1_9 ?ml1_9 ?mc1_9 ?mk1_9 ?ma1_10 ?mi1_10 ?ml1_10 ?mc1_10 ?mk1_10 ?ma1_11 ?mi1_11 ?ml1_11 ?mc1_11 ?mk1_11 ?ma1_12 ?mi1_12 ?ml1_12 ?mc1_12 ?mk1_12 ?pg1 ?hd1 ?po1 ?sa1 ?mk1 ?kc1 ?na1_1 ?sf1 ?mr1 ?ne1 ?ha1 ?hn1 ?ht1 ?z1 ?z2 ?z3 ?z4 ?z5 ?z6 ?z7 ?z8 ?z9 ?z10 ?z11 ?z12 ?z13 ?z14 ?z15 ?z16 ?z17 ?z18 ?z19 ?z20 ?z21 ?z22
    (case a1 => k_is); (case l1 => k_is); (case c1 => k_is); (case k1 => k_is); (case a2 => k_is); (case l2 => k_is)
    (case c2 => k_is); (case k2 => k_is); (case a3 => k_is); (case l3 => k_is); (case c3 => k_is); (case k3 => k_is)
    (case a4 => k_is); (case l4 => k_is); (case c4 => k_is); (case k4 => k_is); (case a5 => k_is); (case l5 => k_is)
    (case c5 => k_is); (case k5 => k_is); (case a6 => k_is); (case l6 => k_is); (case c6 => k_is); (case k6 => k_is)
    (case a7 => k_is); (case l7 => k_is); (case c7 => k_is); (case k7 => k_is); (case a8 => k_is); (case l8 => k_is)
    (case c8 => k_is); (case k8 => k_is); (case a9 => k_is); (case l9 => k_is); (case c9 => k_is); (case k9 => k_is)
    (case a10 => k_is); (case l10 => k_is); (case c10 => k_is); (case k10 => k_is); (case a11 => k_is); (case l11 => k_is)
    (case c11 => k_is); (case k11 => k_is); (case a12 => k_is); (case l12 => k_is); (case c12 => k_is); (case k12 => k_is)
    (case a13 => k_is); (case l13 => k_is); (case c13 => k_is); (case k13 => k_is); (case a14 => k_is); (case l14 => k_is)
    (case c14 => k_is); (case k14 => k_is); (case g1 => k_is); (case g2 => k_is); (case h1 => k_is); (case j1 => k_is)
    (case aC1 => k_is); (case ma1_1 => k_is); (case mi1_1 => k_is); (case ml1_1 => k_is); (case mc1_1 => k_is); (case mk1_1 => k_is)
    (case dt1 => k_is); (case de1 => k_is); (case ma1_2 => k_is); (case mi1_2 => k_is); (case ml1_2 => k_is); (case mc1_2 => k_is)
    (case mk1_2 => k_is); (case ma1_3 => k_is); (case mi1_3 => k_is); (case ml1_3 => k_is); (case mc1_3 => k_is); (case mk1_3 => k_is)
    (case ma1_4 => k_is); (case mi1_4 => k_is); (case ml1_4 => k_is); (case mc1_4 => k_is); (case mk1_4 => k_is); (case ma1_5 => k_is)
    (case mi1_5 => k_is); (case ml1_5 => k_is); (case mc1_5 => k_is); (case mk1_5 => k_is); (case ma1_6 => k_is); (case mi1_6 => k_is)
    (case ml1_6 => k_is); (case mc1_6 => k_is); (case mk1_6 => k_is); (case ma1_7 => k_is); (case mi1_7 => k_is); (case ml1_7 => k_is)
    (case mc1_7 => k_is); (case mk1_7 => k_is); (case ma1_8 => k_is); (case mi1_8 => k_is); (case ml1_8 => k_is); (case mc1_8 => k_is)
    (case mk1_8 => k_is); (case ma1_9 => k_is); (case mi1_9 => k_is); (case ml1_9 => k_is); (case mc1_9 => k_is); (case mk1_9 => k_is)
    (case ma1_10 => k_is); (case mi1_10 => k_is); (case ml1_10 => k_is); (case mc1_10 => k_is); (case mk1_10 => k_is); (case ma1_11 => k_is)
    (case mi1_11 => k_is); (case ml1_11 => k_is); (case mc1_11 => k_is); (case mk1_11 => k_is); (case ma1_12 => k_is); (case mi1_12 => k_is)
    (case ml1_12 => k_is); (case mc1_12 => k_is); (case mk1_12 => k_is); (case pg1 => k_is); (case hd1 => k_is); (case po1 => k_is)
    (case sa1 => k_is); (case mk1 => k_is); (case kc1 => k_is); (case na1_1 => k_is); (case sf1 => k_is); (case mr1 => k_is)
    (case ne1 => k_is); (case ha1 => k_is); (case hn1 => k_is); (case ht1 => k_is); (case z1 => k_is); (case z2 => k_is)
    (case z3 => k_is); (case z4 => k_is); (case z5 => k_is); (case z6 => k_is); (case z7 => k_is); (case z8 => k_is)
    (case z9 => k_is); (case z10 => k_is); (case z11 => k_is); (case z12 => k_is); (case z13 => k_is); (case z14 => k_is)
    (case z15 => k_is); (case z16 => k_is); (case z17 => k_is); (case z18 => k_is); (case z19 => k_is); (case z20 => k_is)
    (case z21 => k_is); (case z22 => k_is)
