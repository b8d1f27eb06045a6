import PyProof.Rows.All
import Wide.All
import OpenK.AllK
import Wide.FinOn
import PyProof.ReprRoads
import HandS.ForMost
import HandS.IsInst
import HandS.Codes
import HandS.Star
import HandS.FStr
import HandS.TupAny
import KE.KDictWalk
import PySem.Challenge.RW_equalunlike_k01_names_and_elements_known
set_option Elab.async false
set_option linter.all false
set_option maxRecDepth 100000
set_option maxHeartbeats 4000000
/-! A layer of ours: defs that are called where no repr is under way. -/
namespace Eu
open PySem PySem.Spec PyProof.Rows L2

/-- room, and no repr under way -/
structure Rm (k : Nat) (A : Around) : Prop where
  rm : Room k A
  gd : A.guards = some []
theorem Rm.mono {j k : Nat} {A : Around} (r : Rm k A) (h : j ≤ k) : Rm j A := ⟨r.rm.mono h, r.gd⟩
theorem Rm.deeper {k : Nat} {A : Around} (r : Rm (k + 1) A) (v : Env) : Rm k (A.deeper v) := ⟨r.rm.deeper v, r.gd⟩
theorem Rm.in1 {k : Nat} {A : Around} (r : Rm (k + 1) A) : Rm k A.in1 := ⟨r.rm.in1, r.gd⟩

/-- a def that keeps a promise wherever no repr is under way -/
structure Ok (P : Program) (w : World) (K : PySem.W.Frag) (mg : Str → Option Value)
    (base : Heap) (CX : CXT) (k : Nat) (f : Addr) (fd : FuncData) (ps : List Str) (sp : Sp) : Prop where
  len : ∀ vs H Q E, sp vs H Q E → vs.length = ps.length
  go : ∀ (A : Around) (out : List Env) (s : Shared) (H : Hp) (ar : Args) (us : List Value) (vs : List V) (Q : VK) (E : XK),
    Rm k A → Env0 P w K mg base A out s H → BindsTo s fd ar (ps.zip us) → Vals vs us → sp vs H Q E →
    codeAny (model P w) A (.call (.ref f) ar) (CR CX out P w H s Q E) s

section
variable {P : Program} {w : World} {K : PySem.W.Frag} {mg : Str → Option Value} {base : Heap} {CX : CXT}
theorem Ok.mono {j k : Nat} {f : Addr} {fd : FuncData} {ps : List Str} {sp : Sp}
    (o : Ok P w K mg base CX j f fd ps sp) (h : j ≤ k) : Ok P w K mg base CX k f fd ps sp :=
  ⟨o.len, fun A out s H ar us vs Q E r => o.go A out s H ar us vs Q E (r.mono h)⟩
theorem Ok.imp {k : Nat} {f : Addr} {fd : FuncData} {ps : List Str} {sp sp' : Sp}
    (o : Ok P w K mg base CX k f fd ps sp) (h : ∀ vs H Q E, sp' vs H Q E → sp vs H Q E) :
    Ok P w K mg base CX k f fd ps sp' :=
  ⟨fun vs H Q E q => o.len vs H Q E (h _ _ _ _ q),
   fun A out s H ar us vs Q E r e b v q => o.go A out s H ar us vs Q E r e b v (h _ _ _ _ q)⟩

/-- a def by its body -/
theorem ok_body {k : Nat} {f : Addr} {nm qual : Str} {pr : Arguments} {body : List Stmt} {sc : Scope}
    {dV kV doc pm cdv ct oc : Value} {an od : Option Addr} {osl : Array (Option Value)} {N ps : List Str} {sp : Sp}
    (lk : K.lookup f = some ⟨oc, od, .func (PySem.W.fnOf nm qual pr body sc dV kV doc pm an cdv ct), osl⟩)
    (hcd : PySem.W.codeIn K cdv qual = true) (S : FnScope N ps sc)
    (len : ∀ vs H Q E, sp vs H Q E → vs.length = ps.length)
    (hb : ∀ (A : Around) (out : List Env) (s : Shared) (H : Hp) (vs : List V) (Q : VK) (E : XK),
      Rm k (A.deeper (envOfC qual sc s.heap.objs.size f cdv)) → sp vs H Q E →
      ∃ t, PSs (cxOf CX P w K mg base N qual sc f cdv A out s H E) body t ∧
        t { nx := fun _ H' => Q .non H', rt := Q } (start N vs) H) :
    Ok P w K mg base CX (k + 1) f (PySem.W.fnOf nm qual pr body sc dV kV doc pm an cdv ct) ps sp := by
  constructor
  · exact len
  intro A out s H ar us vs Q E hr e0 bt rl hsp
  have keep : ∀ b o, base.get? b = some o → s.heap.get? b = some o := fun b o e => (e0.bs b o e).1
  have KX : K.In s.heap := e0.mod.kin.keeps keep
  have hkind : ∀ y ∈ ps.zip us, sc.names.lookup y.1 = some .local ∨
      (sc.names.lookup y.1 = some .cell ∧ ((cellsFrom (s.heap.objs.size + 1) sc.names []).lookup y.1).isSome = true) := by
    rintro ⟨n, v⟩ hy
    cases S.par n (List.of_mem_zip hy).1 with
    | inl q => exact .inl q
    | inr q => exact .inr ⟨q, PySem.W.cellsFrom_some _ _ _ (.inl q)⟩
  apply codeAny_call_function hr.rm.depth (KX _ _ lk) rfl S.co S.gen rfl (PySem.W.codeRec_of KX hcd)
  apply bt
  apply wpAny_newFunctionEnv_cells S.kind hkind
  intro env he s1 x
  subst he
  refine ⟨(e0.mod.nolimit.keeps keep).keeps x.toInCall.keep, codeAny_func ?_⟩
  obtain ⟨t, ht, hq⟩ := hb A out s H vs Q E (hr.deeper _) hsp
  have J := inv_start (CX := CX) (E := E) (f := f) (cd := cdv) (qual := qual) S hr.rm.hd e0 (len _ _ _ _ hsp) rl x
  refine wpAny_mono (ht.run [] s1 (start N vs) H _ J hq) ?_ (fun e s' hs => hs)
  intro fl s' hs
  cases fl with
  | ret u =>
    obtain ⟨v, σ', H', J', rv, q⟩ := hs
    exact ⟨v, H', J'.os, J'.bare, J'.base, J'.hok, rv, q⟩
  | next =>
    obtain ⟨σ', H', J', q⟩ := hs
    exact ⟨V.non, H', J'.os, J'.bare, J'.base, J'.hok, rfl, q⟩
  | brk =>
    obtain ⟨_, _, _, q⟩ := hs
    exact False.elim q
  | cont =>
    obtain ⟨_, _, _, q⟩ := hs
    exact False.elim q
end

section
variable {X : Cx} {CX : CXT} {k : Nat} {f : Addr} {fd : FuncData} {ps : List Str} {sp : Sp} {dvs : List V} {ds : List Value} {E : XK}
/-- the callee runs -/
theorem run_ok {pins : List (Addr × Obj)} {σ : L2.St} {H : Hp} {s : Shared} {Q : VK} {us : List Value} {vs : List V}
    (o : Ok X.prog X.w X.K X.mg X.base CX k f fd ps sp) (hr : Rm k X.A) (hb : Binds X.K fd ps ds) (hd : Vals dvs ds)
    (hx : Passes CX X E) (I : Inv X pins σ H s) (r : Vals vs us) (h : sp (vs ++ dvs) H Q E) :
    wpAny (model X.prog X.w) X.A (call (.ref f) us) (EP X pins σ Q) X.xe s := by
  have rr := r.append hd
  have hl : (us ++ ds).length = ps.length := rr.length ▸ o.len _ _ _ _ h
  refine wpAny_call (codeAny_mono (o.go X.A X.stack s H ⟨us, []⟩ (us ++ ds) (vs ++ dvs) Q E hr I.env0 (hb s us I.kIn hl) rr h) ?_)
  intro res s' hq
  match res, hq with
  | .error e, hq => exact hx pins σ H s e s' I hq
  | .ok (.ret u), hq => exact I.after hq
  | .ok .next, hq => exact False.elim hq
  | .ok .brk, hq => exact False.elim hq
  | .ok .cont, hq => exact False.elim hq
end
end Eu
set_option Elab.async false
set_option linter.all false
set_option maxRecDepth 100000
set_option maxHeartbeats 4000000
namespace Eu
open PySem PySem.Spec PyProof.Rows L2

/-! ### defs called by their names -/
structure Cal (P : Program) (w : World) (K : PySem.W.Frag) (mg : Str → Option Value) (base : Heap)
    (k : Nat) (x : Str) (sp : Sp) (dvs : List V) : Prop where
  ex : ∃ (f : Addr) (fd : FuncData) (ps : List Str) (ds : List Value),
    Ok P w K mg base CX0 k f fd ps sp ∧ mg x = some (.ref f) ∧
    PySem.W.keepIn K (.ref f) = true ∧ Binds K fd ps ds ∧ Vals dvs ds

/-- a def of the top, as it stands behind the top's run -/
structure Df (K : PySem.W.Frag) (mg : Str → Option Value) (x : Str) (st : Stmt) : Prop where
  ex : ∃ (f : Addr) (oc : Value) (od : Option Addr) (kV doc pm : Value) (an : Option Addr) (cdv ct : Value) (osl : Array (Option Value)),
    K.lookup f = some ⟨oc, od, .func (PySem.W.fnOf x x (defArgs st) (defBody st) (defScope st) .none kV doc pm an cdv ct), osl⟩ ∧
    PySem.W.codeIn K cdv x = true ∧ PySem.W.keepIn K (.ref f) = true ∧ mg x = some (.ref f)

theorem df_mk {K : PySem.W.Frag} {h : Heap} {mg : Str → Option Value} {x : Str} {st : Stmt} (X : K.In h) (G : h.Ns mainGlobals mg)
    {f : Addr} {oc : Value} {od an : Option Addr} {osl : Array (Option Value)} {kV doc pm cdv ct : Value}
    (a : PySem.W.nsIn K mainGlobals x = some (some (.ref f)))
    (l : K.lookup f = some ⟨oc, od, .func (PySem.W.fnOf x x (defArgs st) (defBody st) (defScope st) .none kV doc pm an cdv ct), osl⟩)
    (c : PySem.W.codeIn K cdv x = true) (k : PySem.W.keepIn K (.ref f) = true) : Df K mg x st :=
  ⟨f, oc, od, kV, doc, pm, an, cdv, ct, osl, l, c, k, PySem.W.mg_of X G a⟩

section
variable {P : Program} {w : World} {K : PySem.W.Frag} {mg : Str → Option Value} {base : Heap}
theorem Df.cal {x : Str} {st : Stmt} {N ps : List Str} {k : Nat} {sp : Sp} (D : Df K mg x st) (S : FnScope N ps (defScope st))
    (hbd : ∀ (kV doc pm : Value) (an : Option Addr) (cdv ct : Value) (us : List Value), us.length = ps.length →
      bindArgs (PySem.W.fnOf x x (defArgs st) (defBody st) (defScope st) .none kV doc pm an cdv ct) ⟨us, []⟩ = pure (ps.zip us))
    (len : ∀ vs H Q E, sp vs H Q E → vs.length = ps.length)
    (hb : ∀ (f : Addr) (cdv : Value) (A : Around) (out : List Env) (s : Shared) (H : Hp) (vs : List V) (Q : VK) (E : XK),
      Rm k (A.deeper (envOfC x (defScope st) s.heap.objs.size f cdv)) → sp vs H Q E →
      ∃ t, PSs (cxOf CX0 P w K mg base N x (defScope st) f cdv A out s H E).nox (defBody st) t ∧
        t { nx := fun _ H' => Q .non H', rt := Q } (start N vs) H) : Cal P w K mg base (k + 1) x sp [] := by
  obtain ⟨f, oc, od, kV, doc, pm, an, cdv, ct, osl, l, c, kp, m⟩ := D.ex
  refine ⟨f, _, ps, [], ok_body l c S len ?_, m, kp, .all (hbd kV doc pm an cdv ct), .nil⟩
  intro A out s H vs Q E hr hs
  obtain ⟨t, h, q⟩ := hb f cdv A out s H vs Q E hr hs
  exact ⟨t, h.nox, q⟩
end

section
variable {X : Cx} {k j : Nat} {x : Str} {sp : Sp} {dvs : List V} {p pos : Pos} {e : Expr} {es : List Expr} {t : TA}
theorem pe_c (c : Cal X.prog X.w X.K X.mg X.base k x sp dvs) (hr : Rm j X.A) (hk : k ≤ j) (hg : Gl X x) (ha : PA X (e :: es) t)
    (hdb : (x == ("__debug__" : Str)) = false := by decide)
    (he : starEach (e :: es) X.env = (false, eval e X.env) :: starEach es X.env := by rfl)
    (hpl : (backTo pos (starEach es X.env)).any (·.1) = false := by rfl) :
    PE X (.Call (.Name x p) (e :: es) [] pos) (tCall sp dvs E0 t) := by
  obtain ⟨f, fd, ps, ds, o, hm, kp, b, d⟩ := c.ex
  constructor
  intro pins s σ H Q I h
  apply wpAny_Call_Name_kw
  apply ld_glob I hg hm _ hdb
  refine PySem.W.callWith_K (h₀ := X.base) I.ok.mod.kin kp (thn (ha.run pos pins s σ H _ I h) ?_) he hpl
  rintro us s1 ⟨vs, H1, I1, r, q⟩
  exact ⟨I1.kIn, run_ok o (hr.mono hk) b d pass0 I1 r q⟩
theorem pe_c0 (c : Cal X.prog X.w X.K X.mg X.base k x sp dvs) (hr : Rm j X.A) (hk : k ≤ j) (hg : Gl X x)
    (hdb : (x == ("__debug__" : Str)) = false := by decide) :
    PE X (.Call (.Name x p) [] [] pos) (tCall sp dvs E0 tNil) := by
  obtain ⟨f, fd, ps, ds, o, hm, kp, b, d⟩ := c.ex
  constructor
  intro pins s σ H Q I h
  apply wpAny_Call_Name_kw
  apply ld_glob I hg hm _ hdb
  exact PySem.W.callWith_K0 I.kIn kp (run_ok (us := []) o (hr.mono hk) b d pass0 I .nil h)
end

/-! ### repr of data -/
section
variable {X : Cx}
def rRepr (K : PySem.W.Frag) : List V → Hp → VK → Prop := fun xs H Q =>
  ∃ (x : V) (d : PyData), xs = [x] ∧ Dp K H x d ∧ d.showable = true ∧ d.depth ≤ 60 ∧ d.shown.length ≤ sizeLine ∧ Q (.str d.shown) H
mutual
theorem noDict {K : PySem.W.Frag} {H : Hp} : ∀ {d : PyData} {v : V}, Dp K H v d → d.hasDict = false
  | .none, _, _ => rfl
  | .bool _, _, _ => rfl
  | .int _, _, _ => rfl
  | .str _, _, _ => rfl
  | .list ds, _, .lst _ h => noDicts h
  | .tuple ds, _, .tup _ h => noDicts h
theorem noDicts {K : PySem.W.Frag} {H : Hp} : ∀ {ds : List PyData} {vs : List V}, DpAll K H vs ds → PyData.hasDictAll ds = false
  | [], _, _ => rfl
  | d :: ds, _, .cons h1 h2 => by
    show (d.hasDict || PyData.hasDictAll ds) = false
    rw [noDict h1, noDicts h2]
    rfl
end
theorem call_repr {j : Nat} (hr : Rm j X.A) : CallR X (.builtin "repr") (rRepr X.K) := by
  intro pins s σ H xs us Q I r h
  obtain ⟨x, d, rfl, hd, hs, hdp, hz, q⟩ := h
  obtain ⟨u, rfl, rx⟩ := vals1 r
  have hu := hr.rm.un
  cases hd with
  | non =>
    cases rx
    exact PySem.P.repr_of_none ⟨.str _, H, I.tok _, ⟨_, rfl⟩, q⟩
  | bl b =>
    cases rx
    exact PySem.P.repr_of_bool ⟨.str _, H, I.tok _, ⟨_, rfl⟩, q⟩
  | int i =>
    obtain ⟨t, rfl⟩ := rx
    exact PySem.P.repr_of_int (of_decide_eq_true hs) ⟨.str _, H, I.tok _, ⟨_, rfl⟩, q⟩
  | str y =>
    obtain ⟨t, rfl⟩ := rx
    exact PySem.P.repr_of_str ⟨.str _, H, I.tok _, ⟨_, rfl⟩, q⟩ hz
  | @lst a ys ds h1 h2 =>
    cases (show u = Value.ref a from rx)
    obtain ⟨as, rd⟩ := Dp.reads I _ _ _ (Dp.lst h1 h2) (show RelV (.ref a) (.ref a) from rfl)
    refine repr_of_reads' rd hs (PyData.noDict_hsm (noDict (Dp.lst h1 h2))) hr.gd (by omega) (fun _ _ z => z) ?_ hz
    intro h' u tk hk
    exact ⟨.str _, H, I.kept hk, ⟨_, rfl⟩, q⟩
  | @tup a ys ds h1 h2 =>
    cases (show u = Value.ref a from rx)
    obtain ⟨as, rd⟩ := Dp.reads I _ _ _ (Dp.tup h1 h2) (show RelV (.ref a) (.ref a) from rfl)
    refine repr_of_reads' rd hs (PyData.noDict_hsm (noDict (Dp.tup h1 h2))) hr.gd (by omega) (fun _ _ z => z) ?_ hz
    intro h' u tk hk
    exact ⟨.str _, H, I.kept hk, ⟨_, rfl⟩, q⟩
end
end Eu
set_option Elab.async false
set_option linter.all false
set_option maxRecDepth 100000
set_option maxHeartbeats 4000000
namespace Eu
open PySem PySem.Spec PyProof.Rows L2

/-! ### how long a repr may be -/
mutual
def cost : PyData → Nat
  | .none => 4
  | .bool _ => 5
  | .int _ => 1921
  | .str x => 10 * x.length + 2
  | .list xs => costs xs + 3
  | .tuple xs => costs xs + 3
  | .dict kvs => costKv kvs + 2
def costs : List PyData → Nat
  | [] => 0
  | x :: xs => cost x + 2 + costs xs
def costKv : List (PyData × PyData) → Nat
  | [] => 0
  | (k, v) :: r => cost k + 2 + cost v + 2 + costKv r
end
mutual
def fine : PyData → Bool
  | .none | .bool _ => true
  | .str x => x.cps.toList.all fun c => decide (c < 1114112)
  | .int i => decide (i.natAbs.log2 < 1920)
  | .list xs | .tuple xs => fines xs
  | .dict kvs => fineKv kvs
def fines : List PyData → Bool
  | [] => true
  | x :: xs => fine x && fines xs
def fineKv : List (PyData × PyData) → Bool
  | [] => true
  | (k, v) :: r => fine k && fine v && fineKv r
end
theorem listText_le (ts : List Str) : (listText ts).length ≤ piled ts + 3 := by
  unfold listText
  rw [strLen_append]
  have e2 : ((("]" : String) : Str)).length = 1 := rfl
  have e1 : ((("[" : String) : Str)).length = 1 := rfl
  cases ts with
  | nil => show (("[" : String) : Str).length + _ ≤ _; omega
  | cons t r =>
    show (textFrom 1 ((("[" : String) : Str) ++ ((if 0 > 0 then ", " else "" : String) : Str) ++ t) r).length + _ ≤ _
    rw [textFrom_length_pos _ _ _ (by decide), strLen_append, strLen_append, piled_cons]
    have e3 : (((if 0 > 0 then ", " else "" : String) : Str)).length = 0 := rfl
    omega
theorem joined_le (ts : List Str) : (Str.join ", " ts).length ≤ piled ts := by
  by_cases h : ts = []
  · subst h; decide
  · have := join_length_add ts h
    omega
theorem tupleText_le (ts : List Str) : (tupleText ts).length ≤ piled ts + 3 := by
  unfold tupleText
  rw [strLen_append, strLen_append]
  have e1 : ((("(" : String) : Str)).length = 1 := rfl
  have e3 : (((if ts.length == 1 then ",)" else ")" : String) : Str)).length ≤ 2 := by split <;> decide +kernel
  have := joined_le ts
  omega
theorem dictText_le (ts : List Str) : (dictText ts).length ≤ piled ts + 2 := by
  unfold dictText
  rw [strLen_append, strLen_append]
  have e1 : ((("{" : String) : Str)).length = 1 := rfl
  have e3 : ((("}" : String) : Str)).length = 1 := rfl
  have := joined_le ts
  omega
mutual
theorem shown_le : ∀ d : PyData, fine d = true → d.shown.length ≤ cost d
  | .none, _ => by decide +kernel
  | .bool b, _ => by cases b <;> decide +kernel
  | .int i, h => by
    have h' : i.natAbs.log2 < 1920 := of_decide_eq_true h
    have := int_text_length_le (a := i) (k := 1920) (by decide) h'
    show (Str.ofString (toString i)).length ≤ 1921
    rw [PySem.ofString_length]
    exact this
  | .str x, h => by
    refine StrLaws.reprText_len x fun c hc => ?_
    have h' : c < 1114112 := of_decide_eq_true (List.all_eq_true.mp h c hc)
    exact Nat.lt_of_lt_of_le h' (by decide)
  | .list xs, h => by
    have := listText_le (PyData.shownAll xs)
    have := shownAll_le xs h
    show (listText (PyData.shownAll xs)).length ≤ costs xs + 3
    omega
  | .tuple xs, h => by
    have := tupleText_le (PyData.shownAll xs)
    have := shownAll_le xs h
    show (tupleText (PyData.shownAll xs)).length ≤ costs xs + 3
    omega
  | .dict kvs, h => by
    have := dictText_le (PyData.shownKv kvs)
    have := shownKv_le kvs h
    show (dictText (PyData.shownKv kvs)).length ≤ costKv kvs + 2
    omega
theorem shownAll_le : ∀ xs : List PyData, fines xs = true → piled (PyData.shownAll xs) ≤ costs xs
  | [], _ => Nat.le_refl _
  | x :: xs, h => by
    have h' : (fine x && fines xs) = true := h
    rw [Bool.and_eq_true] at h'
    have a := shown_le x h'.1
    have b := shownAll_le xs h'.2
    show piled (x.shown :: PyData.shownAll xs) ≤ cost x + 2 + costs xs
    rw [piled_cons]
    omega
theorem shownKv_le : ∀ kvs : List (PyData × PyData), fineKv kvs = true → piled (PyData.shownKv kvs) ≤ costKv kvs
  | [], _ => Nat.le_refl _
  | (k, v) :: r, h => by
    have h' : (fine k && fine v && fineKv r) = true := h
    rw [Bool.and_eq_true, Bool.and_eq_true] at h'
    have a := shown_le k h'.1.1
    have b := shown_le v h'.1.2
    have c := shownKv_le r h'.2
    show piled ((k.shown ++ ": " ++ v.shown) :: PyData.shownKv r) ≤ cost k + 2 + cost v + 2 + costKv r
    have e : (((": " : String) : Str)).length = 2 := rfl
    rw [piled_cons, strLen_append, strLen_append, e]
    omega
end
mutual
theorem fine_showable : ∀ d : PyData, fine d = true → d.showable = true
  | .none, _ => rfl
  | .bool _, _ => rfl
  | .int i, h => h
  | .str _, _ => rfl
  | .list xs, h => fines_showable xs h
  | .tuple xs, h => fines_showable xs h
  | .dict kvs, h => fineKv_showable kvs h
theorem fines_showable : ∀ xs : List PyData, fines xs = true → PyData.showableAll xs = true
  | [], _ => rfl
  | x :: xs, h => by
    have h' : (fine x && fines xs) = true := h
    rw [Bool.and_eq_true] at h'
    show (x.showable && PyData.showableAll xs) = true
    rw [fine_showable x h'.1, fines_showable xs h'.2]
    rfl
theorem fineKv_showable : ∀ kvs : List (PyData × PyData), fineKv kvs = true → PyData.showableKv kvs = true
  | [], _ => rfl
  | (k, v) :: r, h => by
    have h' : (fine k && fine v && fineKv r) = true := h
    rw [Bool.and_eq_true, Bool.and_eq_true] at h'
    show (k.showable && v.showable && PyData.showableKv r) = true
    rw [fine_showable k h'.1.1, fine_showable v h'.1.2, fineKv_showable r h'.2]
    rfl
end

/-- small data -/
def Small (d : PyData) : Prop := cost d ≤ 100000 ∧ fine d = true
theorem Small.two {a b : PyData} (h : Small (.tuple [a, b])) : Small a ∧ Small b := by
  obtain ⟨h1, h2⟩ := h
  have h1' : cost a + 2 + (cost b + 2 + 0) + 3 ≤ 100000 := h1
  have h2' : (fine a && (fine b && true)) = true := h2
  rw [Bool.and_eq_true, Bool.and_eq_true] at h2'
  exact ⟨⟨by omega, h2'.1⟩, ⟨by omega, h2'.2.1⟩⟩
theorem Small.three {a b c : PyData} (h : Small (.tuple [a, b, c])) : Small a ∧ Small b ∧ Small c ∧ Small (.tuple [a, b]) := by
  obtain ⟨h1, h2⟩ := h
  have h1' : cost a + 2 + (cost b + 2 + (cost c + 2 + 0)) + 3 ≤ 100000 := h1
  have h2' : (fine a && (fine b && (fine c && true))) = true := h2
  rw [Bool.and_eq_true, Bool.and_eq_true, Bool.and_eq_true] at h2'
  refine ⟨⟨by omega, h2'.1⟩, ⟨by omega, h2'.2.1⟩, ⟨by omega, h2'.2.2.1⟩, ?_, ?_⟩
  · show cost a + 2 + (cost b + 2 + 0) + 3 ≤ 100000
    omega
  · show (fine a && (fine b && true)) = true
    rw [h2'.1, h2'.2.1]; rfl
theorem Small.len {z : Str} (h : Small (.str z)) : z.length ≤ 100000 := by
  have : 10 * z.length + 2 ≤ 100000 := h.1
  omega
/-! ### heaps that grow -/
theorem same_new {H : Hp} {p : Addr} {o : HO} (h : H p = none) : Same H (upd H p o) := fun b x e => by
  rw [upd_ne (ne_of_none e h)]
  exact e
theorem Same.tup {K : PySem.W.Frag} {H H' : Hp} {a : Addr} {xs : List V} (e : Same H H') (h : SqT K H a xs) : SqT K H' a xs := by
  rcases h with (h | ⟨o, h⟩) | h
  · exact .inl (.inl (e _ _ h))
  · exact .inl (.inr ⟨o, e _ _ h⟩)
  · exact .inr h
mutual
theorem Same.dp {K : PySem.W.Frag} {H H' : Hp} (e : Same H H') : ∀ {d : PyData} {v : V}, Dp K H v d → Dp K H' v d
  | .none, _, .non => .non
  | .bool _, _, .bl b => .bl b
  | .int _, _, .int i => .int i
  | .str _, _, .str x => .str x
  | .list ds, _, .lst h1 h2 => .lst (e.seq h1) (Same.dps e h2)
  | .tuple ds, _, .tup h1 h2 => .tup (Same.tup e h1) (Same.dps e h2)
theorem Same.dps {K : PySem.W.Frag} {H H' : Hp} (e : Same H H') : ∀ {ds : List PyData} {vs : List V}, DpAll K H vs ds → DpAll K H' vs ds
  | [], _, .nil => .nil
  | d :: ds, _, .cons h1 h2 => .cons (Same.dp e h1) (Same.dps e h2)
end
/-- without the object at b -/
def hid (H : Hp) (b : Addr) : Hp := fun c => if c = b then none else H c
theorem hid_at {H : Hp} {b : Addr} : hid H b b = none := if_pos rfl
theorem hid_ne {H : Hp} {b c : Addr} (h : c ≠ b) : hid H b c = H c := if_neg h
theorem hid_some {H : Hp} {b c : Addr} {o : HO} (h : hid H b c = some o) : c ≠ b ∧ H c = some o := by
  by_cases e : c = b
  · rw [e, hid_at] at h; cases h
  · rw [hid_ne e] at h; exact ⟨e, h⟩
theorem hid_same {H : Hp} {b : Addr} : Same (hid H b) H := fun c o h => (hid_some h).2
theorem hid_upd {H : Hp} {b : Addr} {o : HO} : hid (upd H b o) b = hid H b := by
  funext c
  by_cases e : c = b
  · rw [e, hid_at, hid_at]
  · rw [hid_ne e, hid_ne e, upd_ne e]
/-- all but b stays -/
def But (b : Addr) (H H' : Hp) : Prop := Same (hid H b) (hid H' b)
theorem But.refl {b : Addr} {H : Hp} : But b H H := Same.refl _
theorem But.trans {b : Addr} {H H1 H2 : Hp} (p : But b H H1) (q : But b H1 H2) : But b H H2 := Same.trans p q
theorem But.of_same {b : Addr} {H H' : Hp} (h : Same H H') : But b H H' := fun c o e => by
  obtain ⟨n, e'⟩ := hid_some e
  rw [hid_ne n]
  exact h c o e'
theorem But.upd {b : Addr} {H : Hp} {o : HO} : But b H (upd H b o) := by
  unfold But
  rw [hid_upd]
  exact Same.refl _
theorem But.free {b : Addr} {H H' : Hp} (h : But b H H') {l : Addr} (n : l ≠ b) (e : H' l = none) : H l = none := by
  have := Same.free h (l := l) (by rw [hid_ne n]; exact e)
  rw [hid_ne n] at this
  exact this
end Eu
set_option Elab.async false
set_option linter.all false
set_option maxRecDepth 100000
set_option maxHeartbeats 4000000
namespace Eu
open PySem PySem.Spec PyProof.Rows L2

/-- an iterator that gives the items xs one by one, as Y says, while S holds -/
structure Over {α : Type} (J : It) (xs : List α) (Y : α → Hp → V → Hp → Prop) (S : Hp → Prop) : Prop where
  go : ∀ i x H, xs[i]? = some x → S H → J.go i H
  st : ∀ H, S H → J.stop xs.length H
  yl : ∀ i x H v H', xs[i]? = some x → S H → J.yld i H v H' → Y x H v H'

theorem over_list {K : PySem.W.Frag} {a : Addr} {xs : List V} : Over (Itl K a) xs (fun x H v H' => H' = H ∧ v = x) (fun H => SqL K H a xs) where
  go := fun i x H e s => ⟨xs, x, s, e⟩
  st := fun H s => ⟨xs, s, Nat.le_refl _⟩
  yl := fun i x H v H' e s y => ⟨y.1, Option.some.inj ((y.2 xs s).symm.trans e)⟩
theorem over_tup {K : PySem.W.Frag} {a : Addr} {xs : List V} : Over (Itt K a) xs (fun x H v H' => H' = H ∧ v = x) (fun H => SqT K H a xs) where
  go := fun i x H e s => ⟨xs, x, s, e⟩
  st := fun H s => ⟨xs, s, Nat.le_refl _⟩
  yl := fun i x H v H' e s y => ⟨y.1, Option.some.inj ((y.2 xs s).symm.trans e)⟩
theorem over_str {z : Str} : Over (Its z) z.cps.toList (fun c H v H' => H' = H ∧ v = .str ⟨#[c]⟩) (fun _ => True) where
  go := fun i x H e _ => by
    have := (List.getElem?_eq_some_iff.mp e).1
    show i < z.cps.size
    simpa using this
  st := fun H _ => by
    show z.cps.size ≤ z.cps.toList.length
    simp
  yl := fun i x H v H' e _ y => by
    obtain ⟨y1, c, y2, y3⟩ := y
    refine ⟨y1, ?_⟩
    rw [← Array.getElem?_toList, e] at y2
    cases y2
    exact y3
theorem over_rev {K : PySem.W.Frag} {a : Addr} {xs : List V} : Over (Itv K a xs.length) xs.reverse (fun x H v H' => H' = H ∧ v = x) (fun H => SqL K H a xs) where
  go := fun i x H e s => by
    have hi := (List.getElem?_eq_some_iff.mp e).1
    rw [List.length_reverse] at hi
    rw [List.getElem?_reverse hi] at e
    exact ⟨hi, xs, x, s, e⟩
  st := fun H s => by
    show xs.length ≤ xs.reverse.length
    rw [List.length_reverse]
    exact Nat.le_refl _
  yl := fun i x H v H' e s y => by
    have hi := (List.getElem?_eq_some_iff.mp e).1
    rw [List.length_reverse] at hi
    rw [List.getElem?_reverse hi] at e
    exact ⟨y.1, Option.some.inj ((y.2 xs s).symm.trans e)⟩
/-- lo, lo + 1, .. -/
def nums (lo : Int) (n : Nat) : List Int := (List.range n).map fun i : Nat => lo + (i : Int)
theorem nums_len (lo : Int) (n : Nat) : (nums lo n).length = n := by unfold nums; rw [List.length_map, List.length_range]
theorem nums_at {lo : Int} {n i : Nat} {x : Int} (h : (nums lo n)[i]? = some x) : i < n ∧ x = lo + (i : Int) := by
  have hi := (List.getElem?_eq_some_iff.mp h).1
  rw [nums_len] at hi
  refine ⟨hi, ?_⟩
  unfold nums at h
  rw [List.getElem?_map, List.getElem?_range hi] at h
  exact (Option.some.inj h).symm
theorem over_range {lo : Int} {n : Nat} : Over (Itr lo n) (nums lo n) (fun x H v H' => H' = H ∧ v = .int x) (fun _ => True) where
  go := fun i x H e _ => (nums_at e).1
  st := fun H _ => by
    show n ≤ (nums lo n).length
    rw [nums_len]
    exact Nat.le_refl _
  yl := fun i x H v H' e _ y => ⟨y.1, by rw [y.2, (nums_at e).2]⟩
/-- d.items() -/
theorem over_items {d : Addr} {o : Obj} {kvs : List (Key × V)} : Over (Iti d o kvs) kvs (fun p H v H' => ∃ T, v = .ref T ∧ H T = none ∧ H' = upd H T (.tup [kV p.1, p.2])) (fun H => H d = some (.frz o (.dK kvs))) where
  go := fun i x H e s => ⟨s, (List.getElem?_eq_some_iff.mp e).1⟩
  st := fun H s => ⟨s, Nat.le_refl _⟩
  yl := fun i x H v H' e s y => by
    obtain ⟨T, k, u, y1, y2, y3, y4⟩ := y
    rw [e] at y1
    cases y1
    exact ⟨T, y2, y3, y4⟩
theorem over_keys {d : Addr} {o : Obj} {kvs : List (Key × V)} : Over (Itk d o kvs) kvs (fun p H v H' => H' = H ∧ v = kV p.1) (fun H => H d = some (.frz o (.dK kvs))) where
  go := fun i x H e s => ⟨s, (List.getElem?_eq_some_iff.mp e).1⟩
  st := fun H s => ⟨s, Nat.le_refl _⟩
  yl := fun i x H v H' e s y => by
    obtain ⟨y0, k, u, y1, y2⟩ := y
    rw [e] at y1
    cases y1
    exact ⟨y0, y2⟩
/-- enumerate(list) -/
theorem over_enum {K : PySem.W.Frag} {a : Addr} {xs : List V} : Over (Ite K a) xs.zipIdx (fun p H v H' => ∃ T, v = .ref T ∧ H T = none ∧ H' = upd H T (.tup [.int (p.2 : Nat), p.1])) (fun H => SqL K H a xs) where
  go := fun i x H e s => by
    rw [List.getElem?_zipIdx] at e
    cases h : xs[i]? with
    | none => rw [h] at e; cases e
    | some y => exact ⟨xs, y, s, h⟩
  st := fun H s => ⟨xs, s, by rw [List.length_zipIdx]; exact Nat.le_refl _⟩
  yl := fun i x H v H' e s y => by
    obtain ⟨T, u, y1, y2, y3, y4⟩ := y
    have := y4 xs s
    rw [List.getElem?_zipIdx, this] at e
    cases e
    refine ⟨T, y1, y2, ?_⟩
    rw [y3]
    simp
/-- zip of two lists -/
theorem over_zip {K : PySem.W.Frag} {a b : Addr} {xs ys : List V} : Over (Itz K a b) (xs.zip ys) (fun p H v H' => ∃ T, v = .ref T ∧ H T = none ∧ H' = upd H T (.tup [p.1, p.2])) (fun H => SqL K H a xs ∧ SqL K H b ys) where
  go := fun i p H e s => by
    obtain ⟨h1, h2⟩ := List.getElem?_zip_eq_some.mp e
    exact ⟨xs, ys, p.1, p.2, s.1, s.2, h1, h2⟩
  st := fun H s => ⟨xs, ys, s.1, s.2, by rw [List.length_zip]; omega⟩
  yl := fun i p H v H' e s y => by
    obtain ⟨T, u, u', y1, y2, y3, y4, y5⟩ := y
    obtain ⟨h1, h2⟩ := List.getElem?_zip_eq_some.mp e
    have e1 := Option.some.inj ((y4 xs s.1).symm.trans h1)
    have e2 := Option.some.inj ((y5 ys s.2).symm.trans h2)
    subst e1 e2
    exact ⟨T, y1, y2, y3⟩

theorem sign_lt (c d : Nat) : decide (([c] : List Nat) < [d]) = decide (c < d) := by
  refine decide_eq_decide.mpr ⟨fun h => ?_, fun h => List.Lex.rel h⟩
  cases h with
  | rel h => exact h
  | cons h => cases h
/-- a comprehension without a test -/
theorem lc_yes {σ : L2.St} {H : Hp} {A B : Hp → Prop} (h : A H) : tYes σ H (fun b H3 => if b = true then A H3 else B H3) := by
  show if true = true then A H else B H
  rw [if_pos rfl]
  exact h
section
variable {α : Type} {J : It} {xs : List α} {Y : α → Hp → V → Hp → Prop} {S : Hp → Prop} {g : TG}
/-- a for loop by an invariant -/
theorem for_over {tb : TS} {D : Ends} {σ : L2.St} {H : Hp} (o : Over J xs Y S) (Pv : Nat → L2.St → Hp → Prop) (h0 : Pv 0 σ H)
    (hS : ∀ i σ H, i ≤ xs.length → Pv i σ H → S H)
    (hs : ∀ i x σ H v H', xs[i]? = some x → Pv i σ H → Y x H v H' → g v σ H' fun σ2 H2 => tb { D with nx := Pv (i + 1), ct := Pv (i + 1), bk := D.nx } σ2 H2)
    (hd : ∀ σ H, Pv xs.length σ H → D.nx σ H) :
    ∃ W : Nat → Nat → L2.St → Hp → Prop, (∃ m, W 0 m σ H) ∧ ∀ i m σ H, W i m σ H → (J.stop i H ∧ D.nx σ H) ∨ (J.go i H ∧
      ∃ N : L2.St → Hp → Prop, (∀ σ' H', N σ' H' → ∃ m', m' < m ∧ W (i + 1) m' σ' H') ∧
        ∀ x H', J.yld i H x H' → g x σ H' fun σ2 H2 => tb { D with nx := N, ct := N, bk := D.nx } σ2 H2) := by
  refine ⟨fun i m σ H => m = xs.length - i ∧ i ≤ xs.length ∧ Pv i σ H, ⟨xs.length, rfl, Nat.zero_le _, h0⟩, ?_⟩
  rintro i m σ H ⟨rfl, hi, p⟩
  have s := hS i σ H hi p
  by_cases hl : i < xs.length
  · have e : xs[i]? = some xs[i] := List.getElem?_eq_getElem hl
    refine .inr ⟨o.go i _ H e s, Pv (i + 1), fun σ' H' p' => ⟨xs.length - (i + 1), by omega, rfl, hl, p'⟩, fun v H' y => ?_⟩
    exact hs i _ σ H v H' e p (o.yl i _ H v H' e s y)
  · have e : i = xs.length := by omega
    subst e
    exact .inl ⟨o.st H s, hd σ H p⟩
/-- a comprehension by an invariant -/
theorem lc_over {tt : TT} {te : TE} {vs : List Nat} {σ : L2.St} {H1 : Hp} {D : Addr} {Qd : Hp → Prop} (o : Over J xs Y S) (Pv : Nat → Hp → Prop)
    (h0 : Pv 0 (upd H1 D (.lst []))) (hS : ∀ i H, i ≤ xs.length → Pv i H → S H)
    (hs : ∀ i x H v H', xs[i]? = some x → Pv i H → Y x H v H' → g v (wipe σ vs) H' fun σ2 H2 => wipe σ2 vs = wipe σ vs ∧ tt σ2 H2 fun b H3 =>
      if b = true then te σ2 H3 fun y H4 => ∃ acc, H4 D = some (.lst acc) ∧ acc.length < sizeLine ∧ Pv (i + 1) (upd H4 D (.lst (acc ++ [y]))) else Pv (i + 1) H3)
    (hd : ∀ H, Pv xs.length H → Qd H) :
    ∃ W : Nat → Nat → Hp → Prop, (∃ m, W 0 m (upd H1 D (.lst []))) ∧ ∀ i m H, W i m H → (J.stop i H ∧ Qd H) ∨ (J.go i H ∧
      ∃ Nx : Hp → Prop, (∀ H', Nx H' → ∃ m', m' < m ∧ W (i + 1) m' H') ∧ ∀ x H', J.yld i H x H' → g x (wipe σ vs) H' fun σ2 H2 => wipe σ2 vs = wipe σ vs ∧ tt σ2 H2 fun b H3 =>
        if b = true then te σ2 H3 fun y H4 => ∃ acc, H4 D = some (.lst acc) ∧ acc.length < sizeLine ∧ Nx (upd H4 D (.lst (acc ++ [y]))) else Nx H3) := by
  refine ⟨fun i m H => m = xs.length - i ∧ i ≤ xs.length ∧ Pv i H, ⟨xs.length, rfl, Nat.zero_le _, h0⟩, ?_⟩
  rintro i m H ⟨rfl, hi, p⟩
  have s := hS i H hi p
  by_cases hl : i < xs.length
  · have e : xs[i]? = some xs[i] := List.getElem?_eq_getElem hl
    refine .inr ⟨o.go i _ H e s, Pv (i + 1), fun H' p' => ⟨xs.length - (i + 1), by omega, rfl, hl, p'⟩, fun v H' y => ?_⟩
    exact hs i _ H v H' e p (o.yl i _ H v H' e s y)
  · have e : i = xs.length := by omega
    subst e
    exact .inl ⟨o.st H s, hd H p⟩
theorem take_map_succ {β : Type} {f : α → Option β} {i : Nat} {x : α} (e : xs[i]? = some x) :
    (xs.take (i + 1)).filterMap f = (xs.take i).filterMap f ++ (f x).toList := by
  rw [List.take_add_one, e, List.filterMap_append]
  cases h : f x <;> simp [h]
/-- a comprehension whose element (and test) changes nothing that stood: the i-th item gives f x -/
theorem lc_pure {tt : TT} {te : TE} {vs : List Nat} {σ : L2.St} {H1 : Hp} {D : Addr} {Qd : Hp → Prop} (o : Over J xs Y S) (f : α → Option V)
    (nD : H1 D = none) (hn : xs.length ≤ sizeLine) (hS : ∀ H, Same H1 H → S H)
    (hs : ∀ x ∈ xs, ∀ H v H' (Nx : Option V → Hp → Prop), Same H1 H → Y x H v H' → (∀ H'', Same H H'' → Nx (f x) H'') →
      g v (wipe σ vs) H' fun σ2 H2 => wipe σ2 vs = wipe σ vs ∧ tt σ2 H2 fun b H3 => if b = true then te σ2 H3 fun y H4 => Nx (some y) H4 else Nx none H3)
    (hd : ∀ H, Same H1 H → H D = some (.lst (xs.filterMap f)) → Qd H) :
    ∃ W : Nat → Nat → Hp → Prop, (∃ m, W 0 m (upd H1 D (.lst []))) ∧ ∀ i m H, W i m H → (J.stop i H ∧ Qd H) ∨ (J.go i H ∧
      ∃ Nx : Hp → Prop, (∀ H', Nx H' → ∃ m', m' < m ∧ W (i + 1) m' H') ∧ ∀ x H', J.yld i H x H' → g x (wipe σ vs) H' fun σ2 H2 => wipe σ2 vs = wipe σ vs ∧ tt σ2 H2 fun b H3 =>
        if b = true then te σ2 H3 fun y H4 => ∃ acc, H4 D = some (.lst acc) ∧ acc.length < sizeLine ∧ Nx (upd H4 D (.lst (acc ++ [y]))) else Nx H3) := by
  refine lc_over o (fun i H => Same H1 H ∧ H D = some (.lst ((xs.take i).filterMap f))) ⟨same_new nD, upd_same⟩ (fun i H _ p => hS H p.1) ?_ ?_
  · rintro i x H v H' e ⟨s, hD⟩ y
    have hi := (List.getElem?_eq_some_iff.mp e).1
    refine hs x (List.mem_of_getElem? e) H v H' (fun oy H4 => match oy with
      | some y => ∃ acc, H4 D = some (.lst acc) ∧ acc.length < sizeLine ∧ (Same H1 (upd H4 D (.lst (acc ++ [y]))) ∧ (upd H4 D (.lst (acc ++ [y]))) D = some (.lst ((xs.take (i + 1)).filterMap f)))
      | none => Same H1 H4 ∧ H4 D = some (.lst ((xs.take (i + 1)).filterMap f))) s y ?_
    intro H4 s4
    cases hf : f x with
    | none =>
      refine ⟨s.trans s4, ?_⟩
      rw [s4 _ _ hD, take_map_succ e, hf]
      simp
    | some y =>
      refine ⟨_, s4 _ _ hD, ?_, fun b u z => ?_, ?_⟩
      · have := List.length_filterMap_le f (xs.take i)
        rw [List.length_take] at this
        omega
      · rw [upd_ne (ne_of_none z nD)]
        exact s4 _ _ (s _ _ z)
      · rw [upd_same, take_map_succ e, hf]
        rfl
  · rintro H ⟨s, hD⟩
    rw [List.take_length] at hD
    exact hd H s hD
end
end Eu
set_option Elab.async false
set_option linter.all false
set_option maxRecDepth 100000
set_option maxHeartbeats 4000000
namespace Eu
open PySem PySem.Spec PyProof.Rows L2
/-- a text n times -/
def repS (z : Str) (n : Nat) : Str := ⟨(List.replicate n z.cps.toList).flatten.toArray⟩
theorem repS_len (z : Str) (n : Nat) : (repS z n).length = n * z.length := by
  show (List.replicate n z.cps.toList).flatten.toArray.size = n * z.cps.size
  rw [List.size_toArray]
  simp [List.length_flatten]
theorem repS_fold (z : Str) (n : Nat) : (⟨(List.replicate n z.cps).foldl (· ++ ·) #[]⟩ : Str) = repS z n := by
  have gen : ∀ (n : Nat) (acc : Array Nat), ((List.replicate n z.cps).foldl (· ++ ·) acc).toList = acc.toList ++ (List.replicate n z.cps.toList).flatten := by
    intro n
    induction n with
    | zero => intro acc; simp
    | succ n ih =>
      intro acc
      rw [List.replicate_succ, List.foldl_cons, ih, List.replicate_succ, List.flatten_cons, Array.toList_append, List.append_assoc]
  have e := gen n #[]
  unfold repS
  congr 1
  apply Array.ext'
  rw [e]
  simp
section
variable {X : Cx}
def rRepS : R2 := fun x y H Q => ∃ (z : Str) (k : Int), x = .str z ∧ y = .int k ∧ 0 ≤ k ∧ k ≤ 10000 ∧ z.length ≤ 1000 ∧ Q (.str (repS z k.toNat)) H
theorem op_rep_str : OpR X (binaryOp .Mult) rRepS := by
  intro pins s σ H x y v u Q I rx ry h
  obtain ⟨z, k, rfl, rfl, k0, k1, hz, q⟩ := h
  obtain ⟨t, rfl⟩ := rx
  obtain ⟨t', rfl⟩ := ry
  have hl := sizeLine_eq
  have fin : ∀ m : Str, m = repS z k.toNat → EP X pins σ Q (.str m s.toks) { s with toks := s.toks + 1 } := fun m e => by
    rw [e]
    exact ⟨.str _, H, I.tok _, ⟨_, rfl⟩, q⟩
  have hm : z.length * k.toNat ≤ 10000000 := by
    have : k.toNat ≤ 10000 := by omega
    calc z.length * k.toNat ≤ 1000 * 10000 := Nat.mul_le_mul hz this
      _ = 10000000 := by decide
  refine PySem.P.mul_str (by rw [decide_eq_false (by omega), decide_eq_false (by omega)]; rfl) ?_ ?_ ?_
  · intro h1 h2
    have : (1000 : Int) ≤ (2 ^ 63 - 1) / k := by
      apply Int.le_ediv_of_mul_le (by omega)
      omega
    omega
  · intro h1 h2
    unfold Builtin.Str.tooLong
    exact decide_eq_false (by omega)
  · split
    · rename_i h1
      have e : k = 0 := by omega
      subst e
      exact ⟨by decide, fin _ rfl⟩
    · split
      · rename_i h1 h2
        refine ⟨.str z, H, I, ⟨_, rfl⟩, ?_⟩
        have e : repS z k.toNat = z := by
          rw [Bool.or_eq_true, beq_iff_eq, beq_iff_eq] at h2
          rcases h2 with e | e
          · subst e
            show (⟨(List.replicate 1 z.cps.toList).flatten.toArray⟩ : Str) = z
            simp
          · have ez : z.cps = #[] := Array.eq_empty_of_size_eq_zero e
            unfold repS
            obtain ⟨zc⟩ := z
            have ez' : zc = #[] := ez
            subst ez'
            simp
        rw [e] at q
        exact q
      · refine ⟨?_, fin _ (repS_fold z _)⟩
        rw [repS_fold, repS_len, Nat.mul_comm]
        omega
end
end Eu
set_option Elab.async false
set_option linter.all false
set_option maxRecDepth 100000
set_option maxHeartbeats 4000000
namespace Eu
open PySem PySem.Spec PyProof.Rows L2

/-! ### the law's own call -/
section
variable {P : Program} {w : World} {K : PySem.W.Frag} {mg mb : Str → Option Value} {k : Nat} {fa a : Addr} {fd : FuncData} {x : Str}
  {sp : Sp} {s1 : Shared} {vs : List Value} {ns : List Int}
/-- what the caller wants -/
abbrev Wish (s1 : Shared) : Result → Shared → Prop := fun r s' =>
  r = .ok (.ret (.bool true)) ∧ OldK s1.heap s'.heap ∧ s'.os = s1.os ∧ AllBare s'.gens

theorem call_core (KX : K.In s1.heap) (hns : s1.heap.Ns mainGlobals mg) (hb : s1.heap.Ns builtinsNs mb)
    (hbb : ∀ x : Str, x ≠ "__name__" → mb x = bootBuiltins x) (hlim : s1.heap.NoLimit) (hg : s1.gens = #[])
    (ha : s1.heap.get? a = some { cls := .type "list", data := .seq vs.toArray }) (hr : Rm k callerA)
    (F : ∀ base : Heap, K.In base → base.Ns mainGlobals mg → Ok P w K mg base CX0 k fa fd [x] sp)
    (hbind : ∀ (s : Shared) (u : Value), BindsTo s fd ⟨[u], []⟩ [(x, u)])
    (H : Hp) (hO : Only H) (hok : HOk P w H s1.heap) (hA : ∀ b, H b ≠ none → b = a) (hK : H a ≠ none → K.lookup a = none)
    (hsp : sp [.ref a] H (fun v _ => v = .bl true) fun _ _ _ => False) :
    codeAny (model P w) callerA (.call (.ref fa) ⟨[.ref a], []⟩) (Wish s1) s1 := by
  have only_a : ∀ {b : Addr} {u : HO}, H b = some u → b = a := fun {b u} e => hA b (by rw [e]; exact fun z => nomatch z)
  have dict_free : ∀ {b : Addr} {o : Obj} {es : Array DictEntry} {ep : Nat}, s1.heap.get? b = some o → o.data = .dict es ep → H b = none := by
    intro b o es ep e d
    cases q : H b with
    | none => rfl
    | some u =>
      have e' := only_a q
      subst e'
      rw [ha] at e
      cases e
      have : Data.seq vs.toArray _ = Data.dict es ep := d
      cases this
  have ns_keep : ∀ {b : Addr} {m : Str → Option Value}, s1.heap.Ns b m → (hidT s1.heap H).Ns b m := by
    rintro b m ⟨o, es, ep, e, d, r⟩
    exact ⟨o, es, ep, hidT_get e (dict_free e d), d, r⟩
  have kb : K.In (hidT s1.heap H) := by
    intro b o e
    refine hidT_get (KX b o e) ?_
    cases q : H b with
    | none => rfl
    | some u =>
      have e' := only_a q
      subst e'
      have := hK (by rw [q]; exact fun z => nomatch z)
      rw [this] at e
      cases e
  have lim : (hidT s1.heap H).NoLimit := by
    obtain ⟨mc, h1, h2⟩ := hlim
    exact ⟨mc, ns_keep h1, h2⟩
  have md : Mod K mg (hidT s1.heap H) := ⟨kb, ns_keep hns, ⟨mb, ns_keep hb, hbb⟩, lim⟩
  have e0 : Env0 P w K mg (hidT s1.heap H) callerA [] s1 H := by
    refine ⟨rfl, md, fun b o e => of_hidT e, Nat.le_of_eq (hidT_size _ _), trivial, ?_, hok, .of_eq hg⟩
    intro b hb
    cases hb
  have run := (F _ kb (ns_keep hns)).go callerA [] s1 H ⟨[.ref a], []⟩ [.ref a] [.ref a] _ _ hr e0 (hbind s1 (.ref a)) (.cons rfl .nil) hsp
  refine codeAny_mono run ?_
  intro r s' h
  match r, h with
  | .error e, h => exact False.elim h
  | .ok .next, h => exact False.elim h
  | .ok .brk, h => exact False.elim h
  | .ok .cont, h => exact False.elim h
  | .ok (.ret u), h =>
    obtain ⟨v, H', os, bare, un, hok', r', q⟩ := h
    have q' : v = .bl true := q
    subst q'
    have r2 : u = Value.bool true := r'
    subst r2
    refine ⟨rfl, OldK.of_keep ?_, os, bare⟩
    intro b o e
    cases q : H b with
    | none => exact un.keep b o e q (fun z => by cases z) (fun z => by cases z)
    | some u =>
      cases hO b with
      | inl z => rw [q] at z; cases z
      | inr z =>
        obtain ⟨ob, xs, z⟩ := z
        have z2 := un.frzs b ob _ z
        have e1 := (hok b _ z).1
        rw [e] at e1
        cases e1
        exact (hok' b _ z2).1

theorem call_law (KX : K.In s1.heap) (hns : s1.heap.Ns mainGlobals mg) (hb : s1.heap.Ns builtinsNs mb)
    (hbb : ∀ x : Str, x ≠ "__name__" → mb x = bootBuiltins x) (hlim : s1.heap.NoLimit) (hg : s1.gens = #[])
    (ha : s1.heap.get? a = some { cls := .type "list", data := .seq vs.toArray }) (hi : IntsAre vs ns) (hl : ns.length ≤ sizeLine) (hr : Rm k callerA)
    (F : ∀ base : Heap, K.In base → base.Ns mainGlobals mg → Ok P w K mg base CX0 k fa fd [x] sp)
    (hbind : ∀ (s : Shared) (u : Value), BindsTo s fd ⟨[u], []⟩ [(x, u)])
    (hsp : ∀ H : Hp, SqL K H a (ns.map V.int) → sp [.ref a] H (fun v _ => v = .bl true) fun _ _ _ => False) :
    codeAny (model P w) callerA (.call (.ref fa) ⟨[.ref a], []⟩) (Wish s1) s1 := by
  have rv := vals_ints hi
  have lenV := hi.length
  cases hk : K.lookup a with
  | some o =>
    have e := KX a o hk
    rw [ha] at e
    cases e
    refine call_core KX hns hb hbb hlim hg ha hr F hbind (fun _ => none) (fun _ => .inl rfl) ?_ (fun b z => absurd rfl z) (fun z => absurd rfl z) (hsp _ ?_)
    · intro b u z
      cases z
    · refine .inr ⟨_, vs.toArray, _, hk, rfl, rfl, rfl, ?_, ?_⟩
      · rw [List.size_toArray, lenV]; exact hl
      · rw [show vs.toArray.toList = vs from rfl]; exact rv
  | none =>
    let o : Obj := { cls := .type "list", data := .seq vs.toArray }
    let H : Hp := fun b => if b = a then some (.frz o (.lst (ns.map V.int))) else none
    have Ha : H a = some (.frz o (.lst (ns.map V.int))) := if_pos rfl
    have Hn : ∀ {b}, b ≠ a → H b = none := fun hb => if_neg hb
    refine call_core KX hns hb hbb hlim hg ha hr F hbind H ?_ ?_ ?_ (fun _ => hk) (hsp _ (.inl (.inr ⟨o, Ha⟩)))
    · intro b
      by_cases e : b = a
      · subst e; exact .inr ⟨_, _, Ha⟩
      · exact .inl (Hn e)
    · intro b u z
      by_cases e : b = a
      · subst e
        rw [Ha] at z
        cases z
        refine ⟨ha, ?_, vs, _, rv, ha⟩
        rw [List.length_map]; exact hl
      · rw [Hn e] at z
        cases z
    · intro b z
      by_cases e : b = a
      · exact e
      · exact absurd (Hn e) z
end
/-- a law's promise: any script of at most 63 ints, True comes out -/
def spLaw (K : PySem.W.Frag) : Sp := fun vs H Q _ => ∃ (a : Addr) (ns : List Int), vs = [.ref a] ∧ SqL K H a (ns.map V.int) ∧ ns.length ≤ 63 ∧ ∀ H', Q (.bl true) H'
theorem walk_ok {l : PySem.W.OpenLaw} {k : Nat} {q : Program} {loose : List Str} {XP : (Str → Option Value) → Heap → Prop} {YP : World → Heap → Prop}
    {d : DefRec} {K : Params → PySem.W.Frag} {x : Str} (hn : l.most = some 63) (hdf : d.params.defaults = []) (hr : Rm k callerA)
    (hY : ∀ (w : World) (h : Heap), YP w h → (K w.params).In h)
    (F : ∀ (w : World) (mg : Str → Option Value) (fa : Addr) (h : Heap), (K w.params).In h → h.Ns mainGlobals mg → mg d.name = some (.ref fa) →
      ∃ fd : FuncData, (∀ (s : Shared) (u : Value), BindsTo s fd ⟨[u], []⟩ [(x, u)]) ∧
        ∀ base : Heap, (K w.params).In base → base.Ns mainGlobals mg → Ok l.prog w (K w.params) mg base CX0 k fa fd [x] (spLaw (K w.params))) :
    PySem.W.WalkO q loose XP YP l.row.toRowW d [] (fun f vs => PySem.call f vs) := by
  refine Att.attach_call hn hdf ?_
  intro w s0 s1 mg mb fa o pm cd doc a vs ns G Y ho hd hcd hmg hobj hints hlen hg
  have KX := hY w _ Y
  obtain ⟨fd, hb, hF⟩ := F w mg fa _ KX G.T.g hmg
  exact call_law KX G.T.g G.T.b G.T.builtins G.T.nolimit hg hobj hints (Nat.le_trans hlen (by decide)) hr hF hb fun H hS => ⟨a, ns, rfl, hS, hlen, fun _ => rfl⟩
/-- from a def's place to what walk_ok wants -/
theorem law_fn {P : Program} {w : World} {K : PySem.W.Frag} {mg : Str → Option Value} {k : Nat} {x : Str} {st : Stmt} {N : List Str} {sp : Sp} {nm : Str} {fa : Addr}
    (D : Df K mg nm st) (hfa : mg nm = some (.ref fa)) (S : FnScope N [x] (defScope st))
    (hbd : ∀ (kV doc pm : Value) (an : Option Addr) (cdv ct : Value) (us : List Value), us.length = 1 →
      bindArgs (PySem.W.fnOf nm nm (defArgs st) (defBody st) (defScope st) .none kV doc pm an cdv ct) ⟨us, []⟩ = pure ([x].zip us))
    (len : ∀ vs H Q E, sp vs H Q E → vs.length = 1)
    (hb : ∀ (base : Heap), K.In base → base.Ns mainGlobals mg → ∀ (f : Addr) (cdv : Value) (A : Around) (out : List Env) (s : Shared) (H : Hp) (vs : List V) (Q : VK) (E : XK),
      Rm k (A.deeper (envOfC nm (defScope st) s.heap.objs.size f cdv)) → sp vs H Q E →
      ∃ t, PSs (cxOf CX0 P w K mg base N nm (defScope st) f cdv A out s H E).nox (defBody st) t ∧
        t { nx := fun _ H' => Q .non H', rt := Q } (start N vs) H) :
    ∃ fd : FuncData, (∀ (s : Shared) (u : Value), BindsTo s fd ⟨[u], []⟩ [(x, u)]) ∧
      ∀ base : Heap, K.In base → base.Ns mainGlobals mg → Ok P w K mg base CX0 (k + 1) fa fd [x] sp := by
  obtain ⟨f, oc, od, kV, doc, pm, an, cdv, ct, osl, l, c, kp, m⟩ := D.ex
  have e := hfa.symm.trans m
  cases e
  refine ⟨_, fun s u => .of_eq (hbd kV doc pm an cdv ct [u] rfl), fun base h1 h2 => ok_body l c S len ?_⟩
  intro A out s H vs Q E hr hs
  obtain ⟨t, h, q⟩ := hb base h1 h2 fa cdv A out s H vs Q E hr hs
  exact ⟨t, h.nox, q⟩

/-! ### repr of a dict with one entry -/
section
variable {X : Cx}
def rReprD : List V → Hp → VK → Prop := fun xs H Q =>
  ∃ (a : Addr) (i : Int) (z : Str), xs = [.ref a] ∧ H a = some (.dK [(Sum.inl i, .str z)]) ∧ fine (.dict [(.int i, .str z)]) = true ∧ z.length ≤ 100000 ∧ Q (.str (PyData.dict [(.int i, .str z)]).shown) H
theorem call_reprD {j : Nat} (hr : Rm j X.A) : CallR X (.builtin "repr") rReprD := by
  intro pins s σ H xs us Q I r h
  obtain ⟨a, i, z, rfl, ha, hf, hz, q⟩ := h
  obtain ⟨u, rfl, rx⟩ := vals1 r
  have hu := hr.rm.un
  cases (show u = Value.ref a from rx)
  obtain ⟨_, hsys, vs, kv, dof⟩ := (show ObjOk X.prog X.w H s.heap a (.dK [(Sum.inl i, .str z)]) from I.hok a _ ha)
  cases kv with
  | @cons p q1 ps qs h1 h2 =>
    cases h2
    obtain ⟨k0, v0⟩ := q1
    obtain ⟨e1, t, e2⟩ := h1
    simp only at e1 e2
    subst e1 e2
    obtain ⟨es, ep, ⟨o, ho, hc, hd⟩, hsz, hat⟩ := PySem.Heap.DictOf.raw dof
    have h0 : 0 < es.size := by rw [hsz]; exact Nat.one_pos
    obtain ⟨hk, hv⟩ := hat 0 h0 _ _ rfl
    have hkey : ∃ t', es[0].key = Value.int i t' := by
      rcases keyIs_shape (show keyIs (Sum.inl i) es[0].key = true from hk) with ⟨i', t', e, e'⟩ | ⟨x, t', e, e'⟩
      · cases e; exact ⟨t', e'⟩
      · cases e
    obtain ⟨t', hkey⟩ := hkey
    have el : es.toList = [es[0]] := by
      apply List.ext_getElem
      · simpa using hsz
      · intro n h1 h2
        have : n = 0 := by simpa using h2
        subst this
        simp
    have rd : Reads s.heap (.ref a) (.dict [(.int i, .str z)]) (a :: [] ++ []) := by
      refine Reads.dict ho hc.1 hd ?_ ?_
      · rw [el]
        show ReadsAll s.heap [es[0].key] [.int i] ([] ++ [])
        rw [hkey]
        exact .cons (.int _ _) .nil
      · rw [el]
        show ReadsAll s.heap [es[0].val] [.str z] ([] ++ [])
        rw [hv]
        exact .cons (.str _ _) .nil
    have hsm : sysModules ∉ a :: [] ++ [] := by
      intro hm
      have : sysModules = a := by simpa using hm
      rw [this] at hsys
      simp at hsys
    have hlen : (PyData.dict [(.int i, .str z)]).shown.length ≤ sizeLine := by
      have := shown_le _ hf
      have e : cost (.dict [(.int i, .str z)]) = 1921 + 2 + (10 * z.length + 2) + 2 + 0 + 2 := rfl
      rw [sizeLine_eq]
      omega
    refine repr_of_reads' rd (fine_showable _ hf) (fun _ => hsm) hr.gd ?_ (fun _ _ z => z) ?_ hlen
    · show X.A.units + (max (max 0 0) 0 + 1 + 1) < cLine
      omega
    · intro h' u tk hk
      exact ⟨.str _, H, I.kept hk, ⟨_, rfl⟩, q⟩
end
/-! ### items of lists of data -/
theorem dpAll_at {K : PySem.W.Frag} {H : Hp} : ∀ {xs : List V} {ds : List PyData}, DpAll K H xs ds → ∀ {n : Nat}, n < ds.length → ∃ x d, xs[n]? = some x ∧ d ∈ ds ∧ Dp K H x d
  | _, _, .nil, n, h => absurd h (Nat.not_lt_zero _)
  | _, _, .cons h1 _, 0, _ => ⟨_, _, rfl, List.mem_cons_self, h1⟩
  | _, _, .cons _ h2, n + 1, h => by
    obtain ⟨x, d, e, m, p⟩ := dpAll_at h2 (n := n) (by simpa using h)
    exact ⟨x, d, by simpa using e, List.mem_cons_of_mem _ m, p⟩
theorem dp_item {K : PySem.W.Frag} {H : Hp} {xs : List V} {ds : List PyData} (h : DpAll K H xs ds) {i : Int} (h0 : 0 ≤ i) (h1 : i < (ds.length : Int)) :
    ∃ x d, atI xs i = some x ∧ d ∈ ds ∧ Dp K H x d := by
  obtain ⟨x, d, e, m, p⟩ := dpAll_at h (n := i.toNat) (by omega)
  exact ⟨x, d, at_of (j := i.toNat) (by omega) e, m, p⟩
end Eu
set_option Elab.async false
set_option linter.all false
set_option maxRecDepth 100000
set_option maxHeartbeats 4000000
namespace Eu
open PySem PySem.Spec PyProof.Rows L2
def top (i : Nat) : Stmt := PySem.Challenge.pw_equalunlike_k01_names_and_elements_known.main.body.getD i (.Pass ⟨0, 0, 0, 0⟩)

/-- what the builtins' names hold: nothing of the module's own -/
structure Bl (mg : Str → Option Value) : Prop where
  len : mg "len" = none
  abs : mg "abs" = none
  isinstance : mg "isinstance" = none
  int : mg "int" = none
  bool : mg "bool" = none
  str : mg "str" = none
  tuple : mg "tuple" = none
  all : mg "all" = none
  repr : mg "repr" = none
  range : mg "range" = none
  max : mg "max" = none
  min : mg "min" = none

/-! ### the bag -/
def Bag (H : Hp) (b : Addr) (n : Nat) : Prop := ∃ far mix cnt : Int, H b = some (.lst [.int far, .int mix, .int cnt]) ∧
  0 ≤ far ∧ 0 ≤ mix ∧ mix < 2305843009213693951 ∧ 0 ≤ cnt ∧ cnt ≤ n
theorem Bag.mono {H : Hp} {b : Addr} {n m : Nat} (h : Bag H b n) (l : n ≤ m) : Bag H b m := by
  obtain ⟨f, x, c, e, h1, h2, h3, h4, h5⟩ := h
  exact ⟨f, x, c, e, h1, h2, h3, h4, by omega⟩
theorem Bag.same {H H' : Hp} {b : Addr} {n : Nat} (h : Bag H b n) (s : Same H H') : Bag H' b n := by
  obtain ⟨f, x, c, e, h1⟩ := h
  exact ⟨f, x, c, s _ _ e, h1⟩
theorem Bag.some {H : Hp} {b : Addr} {n : Nat} (h : Bag H b n) : ∃ o, H b = some o := by
  obtain ⟨f, x, c, e, h1⟩ := h
  exact ⟨_, e⟩

def spTake : Sp := fun vs H Q _ => ∃ (b : Addr) (m : Int) (n : Nat), vs = [.ref b, .int m] ∧ 0 < m ∧ m < 1073741824 ∧ Bag H b n ∧ n ≤ 1000000 ∧
  ∀ (d : Int) (H' : Hp), 0 ≤ d → d < m → But b H H' → Bag H' b (n + 1) → Q (.int d) H'

abbrev s_l_take : Stmt := top 15
theorem sc_l_take : FnScope ["_law_bag_here", "_law_many", "_law_digit", "_law_mixed"] ["_law_bag_here", "_law_many"] (defScope s_l_take) := ⟨rfl, rfl, rfl, by decide +kernel, rfl, by decide +kernel, by decide +kernel⟩
section
variable {P : Program} {w : World} {K : PySem.W.Frag} {mg : Str → Option Value} {base : Heap}
theorem ok_take (D : Df K mg "_law_take" s_l_take) : Cal P w K mg base 1 "_law_take" spTake [] := by
  refine D.cal sc_l_take (fun _ _ _ _ _ _ us hl => match us, hl with | [_, _], _ => rfl) (fun vs H Q E h => ?_) (fun f cdv A out s H vs Q E hr h => ?_)
  · obtain ⟨b, m, n, rfl, _⟩ := h
    rfl
  · obtain ⟨b, m, n, rfl, m0, m1, ⟨far, mix, cnt, hb, f0, x0, x1, c0, c1⟩, hn, q⟩ := h
    refine ⟨_, (pss_cons (ps_if (pt_cmpR op_gt (pe_ix ix_list (pv 0) pe_int (fun _ _ => rfl)) pe_int (nomark _))
(pss_cons (ps_set (i := 2) sc_l_take.nd rfl (Or.inl rfl) (pe_op op_mod (pe_ix ix_list (pv 0) pe_int (fun _ _ => rfl)) (pv 1)))
(pss_cons (ps_asg (pe_op op_fdiv (pe_ix ix_list (pv 0) pe_int (fun _ _ => rfl)) (pv 1)) (pg_sub (pv 0) pe_int set_list))
(pss_one (ps_ret (pv 2)))))
pss_nil)
(pss_cons (ps_asg (pe_op op_add (pe_ix ix_list (pv 0) pe_int (fun _ _ => rfl)) pe_int) (pg_sub (pv 0) pe_int set_list))
(pss_cons (ps_set (i := 3) sc_l_take.nd rfl (Or.inl rfl) (pe_op op_mod (pe_op op_pow (pe_op op_add (pe_ix ix_list (pv 0) pe_int (fun _ _ => rfl)) (pe_op op_mul pe_int (pe_ix ix_list (pv 0) pe_int (fun _ _ => rfl)))) pe_int) pe_int))
(pss_cons (ps_set (i := 3) sc_l_take.nd rfl (Or.inl rfl) (pe_op op_mod (pe_op op_pow (pe_op op_add (pv 3) (pe_op op_mul pe_int (pe_ix ix_list (pv 0) pe_int (fun _ _ => rfl)))) pe_int) pe_int))
(pss_one (ps_ret (pe_op op_mod (pe_op op_fdiv (pv 3) pe_int) (pv 1)))))))), ?_⟩
    have L : SqL K H b [.int far, .int mix, .int cnt] := .inl (.inl hb)
    refine ⟨_, rfl, b, _, 0, _, rfl, rfl, L, atI_nat (j := 0) rfl, _, _, rfl, rfl, _, rfl, ite2 (fun e => ?_) (fun e => ?_)⟩
    · have e' : 0 < far := of_decide_eq_true e
      refine ⟨_, rfl, b, _, 0, _, rfl, rfl, L, atI_nat (j := 0) rfl, _, rfl, _, _, rfl, rfl, m0, ?_⟩
      refine ⟨_, rfl, b, _, 0, _, rfl, rfl, L, atI_nat (j := 0) rfl, _, rfl, _, _, rfl, rfl, ⟨m0, m1⟩, ?_⟩
      refine ⟨_, rfl, b, _, _, 0, rfl, rfl, hb, rfl, ?_⟩
      refine ⟨_, rfl, ?_⟩
      refine q _ _ (Int.emod_nonneg _ (by omega)) (Int.emod_lt_of_pos _ m0) But.upd ⟨far / m, mix, cnt, upd_same, Int.ediv_nonneg f0 (by omega), x0, x1, c0, by omega⟩
    · refine ⟨_, rfl, b, _, 2, _, rfl, rfl, L, atI_nat (j := 2) rfl, _, _, rfl, rfl, ?_⟩
      refine ⟨_, rfl, b, _, _, 2, rfl, rfl, hb, rfl, ?_⟩
      have L' : SqL K (upd H b (.lst [.int far, .int mix, .int (cnt + 1)])) b [.int far, .int mix, .int (cnt + 1)] := .inl (.inl upd_same)
      refine ⟨_, rfl, b, _, 1, _, rfl, rfl, L', atI_nat (j := 1) rfl, _, rfl, b, _, 2, _, rfl, rfl, L', atI_nat (j := 2) rfl, _, _, rfl, rfl, .inl ⟨by decide, by decide⟩, _, _, rfl, rfl, _, _, rfl, rfl, ⟨by decide, by decide, ?_⟩, _, _, rfl, rfl, (show (0 : Int) < 2305843009213693921 by decide), ?_⟩
      · omega
      dsimp only
      generalize hz : (mix + 1000159 * (cnt + 1)) ^ (Int.toNat 3) % 2305843009213693921 = z
      have z0 : 0 ≤ z := by rw [← hz]; exact Int.emod_nonneg _ (by decide)
      have z1 : z < 2305843009213693921 := by rw [← hz]; exact Int.emod_lt_of_pos _ (by decide)
      refine ⟨_, rfl, _, rfl, b, _, 2, _, rfl, rfl, L', atI_nat (j := 2) rfl, _, _, rfl, rfl, .inl ⟨by decide, by decide⟩, _, _, rfl, rfl, _, _, rfl, rfl, ⟨by decide, by decide, ?_⟩, _, _, rfl, rfl, (show (0 : Int) < 2305843009213693951 by decide), ?_⟩
      · omega
      refine ⟨_, rfl, _, _, rfl, rfl, ⟨by decide, by decide⟩, _, rfl, _, _, rfl, rfl, m0, ?_⟩
      exact q _ _ (Int.emod_nonneg _ (by omega)) (Int.emod_lt_of_pos _ m0) But.upd ⟨far, mix, cnt + 1, upd_same, f0, x0, x1, by omega, by omega⟩
end
end Eu
set_option Elab.async false
set_option linter.all false
set_option maxRecDepth 100000
set_option maxHeartbeats 4000000
namespace Eu
open PySem PySem.Spec PyProof.Rows L2
open C8 (pe_gc)

/-! ### things -/
def tyD : PyData → String
  | .none => "NoneType"
  | .bool _ => "bool"
  | .int _ => "int"
  | .str _ => "str"
  | .list _ => "list"
  | .tuple _ => "tuple"
  | .dict _ => "dict"
/-- data, or a dict at the top -/
def Th (K : PySem.W.Frag) (H : Hp) (x : V) (d : PyData) : Prop := Dp K H x d ∨ ∃ a z, x = .ref a ∧ H a = some (.dK [(Sum.inl 0, .str z)]) ∧ d = .dict [(.int 0, .str z)]
theorem Th.same {K : PySem.W.Frag} {H H' : Hp} {x : V} {d : PyData} (h : Th K H x d) (s : Same H H') : Th K H' x d := by
  rcases h with h | ⟨a, z, e, h, e'⟩
  · exact .inl (Same.dp s h)
  · exact .inr ⟨a, z, e, s _ _ h, e'⟩
theorem tyx_dp {K : PySem.W.Frag} {H : Hp} : ∀ {d : PyData} {x : V}, Dp K H x d → TyX K H x (.type (tyD d))
  | .none, _, .non => .base .non
  | .bool _, _, .bl b => .base (.bl b)
  | .int _, _, .int i => .base (.int i)
  | .str _, _, .str z => .base (.str z)
  | .list _, _, .lst h _ => by
    rcases h with (h | ⟨o, h⟩) | ⟨o, its, n, h, hc, _⟩
    · exact .base (.lst h)
    · exact .base (.frz h)
    · exact .kList h hc
  | .tuple _, _, .tup h _ => by
    rcases h with (h | ⟨o, h⟩) | ⟨o, its, n, h, hc, _⟩
    · exact .base (.tup h)
    · exact .fTuple h
    · exact .kTuple h hc
theorem tyx_th {K : PySem.W.Frag} {H : Hp} {d : PyData} {x : V} (h : Th K H x d) : TyX K H x (.type (tyD d)) := by
  rcases h with h | ⟨a, z, rfl, h, rfl⟩
  · exact tyx_dp h
  · exact .base (.dK h)
def isI : PyData → Bool
  | .int _ => true
  | .bool _ => true
  | _ => false
def isB : PyData → Bool
  | .bool _ => true
  | _ => false
def isS : PyData → Bool
  | .str _ => true
  | _ => false
def isT : PyData → Bool
  | .tuple _ => true
  | _ => false
theorem kit_int : ∀ d : PyData, kitB (tyD d) "int" = some (isI d)
  | .none => (by decide +kernel : kitB "NoneType" "int" = some false)
  | .bool _ => (by decide +kernel : kitB "bool" "int" = some true)
  | .int _ => (by decide +kernel : kitB "int" "int" = some true)
  | .str _ => (by decide +kernel : kitB "str" "int" = some false)
  | .list _ => (by decide +kernel : kitB "list" "int" = some false)
  | .tuple _ => (by decide +kernel : kitB "tuple" "int" = some false)
  | .dict _ => (by decide +kernel : kitB "dict" "int" = some false)
theorem kit_bool : ∀ d : PyData, kitB (tyD d) "bool" = some (isB d)
  | .none => (by decide +kernel : kitB "NoneType" "bool" = some false)
  | .bool _ => (by decide +kernel : kitB "bool" "bool" = some true)
  | .int _ => (by decide +kernel : kitB "int" "bool" = some false)
  | .str _ => (by decide +kernel : kitB "str" "bool" = some false)
  | .list _ => (by decide +kernel : kitB "list" "bool" = some false)
  | .tuple _ => (by decide +kernel : kitB "tuple" "bool" = some false)
  | .dict _ => (by decide +kernel : kitB "dict" "bool" = some false)
theorem kit_str : ∀ d : PyData, kitB (tyD d) "str" = some (isS d)
  | .none => (by decide +kernel : kitB "NoneType" "str" = some false)
  | .bool _ => (by decide +kernel : kitB "bool" "str" = some false)
  | .int _ => (by decide +kernel : kitB "int" "str" = some false)
  | .str _ => (by decide +kernel : kitB "str" "str" = some true)
  | .list _ => (by decide +kernel : kitB "list" "str" = some false)
  | .tuple _ => (by decide +kernel : kitB "tuple" "str" = some false)
  | .dict _ => (by decide +kernel : kitB "dict" "str" = some false)
theorem kit_tuple : ∀ d : PyData, kitB (tyD d) "tuple" = some (isT d)
  | .none => (by decide +kernel : kitB "NoneType" "tuple" = some false)
  | .bool _ => (by decide +kernel : kitB "bool" "tuple" = some false)
  | .int _ => (by decide +kernel : kitB "int" "tuple" = some false)
  | .str _ => (by decide +kernel : kitB "str" "tuple" = some false)
  | .list _ => (by decide +kernel : kitB "list" "tuple" = some false)
  | .tuple _ => (by decide +kernel : kitB "tuple" "tuple" = some true)
  | .dict _ => (by decide +kernel : kitB "dict" "tuple" = some false)

/-! ### what the functions tell -/
def whole : PyData → Bool
  | .int _ => true
  | _ => false
def between (lo hi : Int) : PyData → Bool
  | .int i => decide (lo ≤ i) && decide (i ≤ hi)
  | _ => false
def letter (c : Nat) : Bool := decide (97 ≤ c) && decide (c ≤ 122)
def letters (z : Str) : Bool := z.cps.toList.all letter
def kept : List Str := ["keys", "look", "self"]
def nameS (z : Str) : Bool := decide (1 ≤ z.length) && decide (z.length ≤ 4) && letters z && !(kept.contains z)
def nameD : PyData → Bool
  | .str z => nameS z
  | _ => false
def valueD : PyData → Bool
  | .int i => decide (i.natAbs < 10 ^ 40)
  | _ => false
def elemD : PyData → Bool
  | .tuple [k, n] => between 0 999999 k && nameD n
  | _ => false
def entryD : PyData → Bool
  | .tuple [k, n, v] => between 0 999999 k && nameD n && valueD v
  | _ => false
/-- a def of one thing that tells a bool -/
def spB (K : PySem.W.Frag) (f : PyData → Bool) : Sp := fun vs H Q _ => ∃ (x : V) (d : PyData), vs = [x] ∧ Th K H x d ∧ Small d ∧ ∀ H', Same H H' → Q (.bl (f d)) H'
/-- .. within bounds -/
def spR (K : PySem.W.Frag) : Sp := fun vs H Q _ => ∃ (x : V) (d : PyData) (lo hi : Int), vs = [x, .int lo, .int hi] ∧ Th K H x d ∧ Small d ∧ ∀ H', Same H H' → Q (.bl (between lo hi d)) H'
def spLetters : Sp := fun vs H Q _ => ∃ z : Str, vs = [.str z] ∧ z.length ≤ 100000 ∧ ∀ H', Same H H' → Q (.bl (letters z)) H'
/-- the module's constants -/
structure Gc (K : PySem.W.Frag) (mg : Str → Option Value) (kw : Addr) : Prop where
  g_LONGEST_NAME : ∃ u, mg "LONGEST_NAME" = some u ∧ RelV (.int 4) u
  g_MOST_KEY : ∃ u, mg "MOST_KEY" = some u ∧ RelV (.int 999999) u
  g_MOST_VALUE : ∃ u, mg "MOST_VALUE" = some u ∧ RelV (.int (10 ^ 40)) u
  g_KEPT_WORDS : ∃ u, mg "KEPT_WORDS" = some u ∧ RelV (.ref kw) u
  kw : ∀ H, SqT K H kw (kept.map V.str)

abbrev s_is_integer : Stmt := top 5
theorem sc_is_integer : FnScope ["thing"] ["thing"] (defScope s_is_integer) :=
  ⟨rfl, rfl, rfl, by decide +kernel, rfl, by decide +kernel, by decide +kernel⟩
abbrev s_in_range : Stmt := top 6
theorem sc_in_range : FnScope ["thing", "least", "most"] ["thing", "least", "most"] (defScope s_in_range) :=
  ⟨rfl, rfl, rfl, by decide +kernel, rfl, by decide +kernel, by decide +kernel⟩
abbrev s_is_letters : Stmt := top 7
theorem sc_is_letters : FnScope ["text", "sign"] ["text"] (defScope s_is_letters) :=
  ⟨rfl, rfl, rfl, by decide +kernel, rfl, by decide +kernel, by decide +kernel⟩
abbrev s_is_name : Stmt := top 8
theorem sc_is_name : FnScope ["thing"] ["thing"] (defScope s_is_name) :=
  ⟨rfl, rfl, rfl, by decide +kernel, rfl, by decide +kernel, by decide +kernel⟩
abbrev s_is_key : Stmt := top 9
theorem sc_is_key : FnScope ["thing"] ["thing"] (defScope s_is_key) :=
  ⟨rfl, rfl, rfl, by decide +kernel, rfl, by decide +kernel, by decide +kernel⟩
abbrev s_is_value : Stmt := top 10
theorem sc_is_value : FnScope ["thing"] ["thing"] (defScope s_is_value) :=
  ⟨rfl, rfl, rfl, by decide +kernel, rfl, by decide +kernel, by decide +kernel⟩
abbrev s_is_element : Stmt := top 11
theorem sc_is_element : FnScope ["thing"] ["thing"] (defScope s_is_element) :=
  ⟨rfl, rfl, rfl, by decide +kernel, rfl, by decide +kernel, by decide +kernel⟩
abbrev s_is_entry : Stmt := top 12
theorem sc_is_entry : FnScope ["thing"] ["thing"] (defScope s_is_entry) :=
  ⟨rfl, rfl, rfl, by decide +kernel, rfl, by decide +kernel, by decide +kernel⟩
section
variable {P : Program} {w : World} {K : PySem.W.Frag} {mg : Str → Option Value} {base : Heap} {kw : Addr}
theorem ok_is_integer (B : Bl mg) (D : Df K mg "is_integer" s_is_integer) : Cal P w K mg base 1 "is_integer" (spB K whole) [] := by
  refine D.cal sc_is_integer (fun _ _ _ _ _ _ us hl => match us, hl with | [_], _ => rfl) (fun vs H Q E h => ?_) (fun f cdv A out s H vs Q E hr h => ?_)
  · obtain ⟨x, d, rfl, _⟩ := h
    rfl
  · obtain ⟨x, d, rfl, h, hc, q⟩ := h
    refine ⟨_, (pss_one (ps_ret (pe_and (pe_callB call_isi (by rfl) B.isinstance (by decide +kernel) (pa_cons (pv 0) (pa_cons (pe_bltn (v := .ty "int") (u := .type "int") (by rfl) B.int (by decide +kernel) rfl) pa_nil))) (pe_one (pe_not (pe_callB call_isi (by rfl) B.isinstance (by decide +kernel) (pa_cons (pv 0) (pa_cons (pe_bltn (v := .ty "bool") (u := .type "bool") (by rfl) B.bool (by decide +kernel) rfl) pa_nil)))))))), ?_⟩
    refine ⟨_, rfl, _, _, _, _, _, rfl, .ty _, tyx_th h, kit_ty (kit_int d), _, rfl, ?_⟩
    have fin : ∀ b : Bool, b = whole d → Q (.bl b) H := fun b e => by rw [e]; exact q H (Same.refl _)
    cases d with
    | int i =>
      refine iteT ?_
      refine ⟨_, rfl, _, _, _, _, _, rfl, .ty _, tyx_th h, kit_ty (kit_bool _), _, rfl, ?_⟩
      exact fin _ rfl
    | bool b =>
      refine iteT ?_
      refine ⟨_, rfl, _, _, _, _, _, rfl, .ty _, tyx_th h, kit_ty (kit_bool _), _, rfl, ?_⟩
      exact fin _ rfl
    | _ => exact iteF (fin _ rfl)
theorem ok_in_range (c_is_integer : Cal P w K mg base 1 "is_integer" (spB K whole) []) (D : Df K mg "in_range" s_in_range) : Cal P w K mg base 2 "in_range" (spR K) [] := by
  refine D.cal sc_in_range (fun _ _ _ _ _ _ us hl => match us, hl with | [_, _, _], _ => rfl) (fun vs H Q E h => ?_) (fun f cdv A out s H vs Q E hr h => ?_)
  · obtain ⟨x, d, lo, hi, rfl, _⟩ := h
    rfl
  · obtain ⟨x, d, lo, hi, rfl, h, hc, q⟩ := h
    refine ⟨_, (pss_one (ps_ret (pe_and (pe_c c_is_integer hr (by decide) (by rfl) (pa_cons (pv 0) pa_nil)) (pe_one (pe_chain op_le op_le (pv 1) (pv 0) (pv 2)))))), ?_⟩
    refine ⟨_, rfl, x, d, rfl, h, hc, fun H1 s1 => ⟨_, rfl, ?_⟩⟩
    cases d with
    | int i =>
      have e : x = .int i := by
        rcases h with h | ⟨a, z, e, h, e'⟩
        · cases h; rfl
        · cases e'
      subst e
      refine iteT ?_
      refine ⟨_, rfl, _, rfl, _, _, rfl, rfl, _, rfl, ?_⟩
      have fin : ∀ b : Bool, b = between lo hi (.int i) → Q (.bl b) H1 := fun b e => by rw [e]; exact q H1 s1
      refine ite2 (fun e => ?_) (fun e => ?_)
      · refine ⟨_, rfl, _, _, rfl, rfl, fin _ ?_⟩
        show decide (i ≤ hi) = (decide (lo ≤ i) && decide (i ≤ hi))
        rw [e]; rfl
      · refine fin _ ?_
        show false = (decide (lo ≤ i) && decide (i ≤ hi))
        rw [eq_false_of_ne_true e]; rfl
    | _ => exact iteF (q H1 s1)
theorem ok_is_letters (B : Bl mg) (D : Df K mg "is_letters" s_is_letters) : Cal P w K mg base 1 "is_letters" spLetters [] := by
  refine D.cal sc_is_letters (fun _ _ _ _ _ _ us hl => match us, hl with | [_], _ => rfl) (fun vs H Q E h => ?_) (fun f cdv A out s H vs Q E hr h => ?_)
  · obtain ⟨z, rfl, _⟩ := h
    rfl
  · obtain ⟨z, rfl, hz, q⟩ := h
    refine ⟨_, (pss_one (ps_ret (pe_callB (cr_all rfl) (by rfl) B.all (by decide +kernel) (pa_cons (pe_lc (own := [("sign", 1)]) (by rfl) sc_is_letters.nd (pi_str (pv 0)) (blkOk_by (own := [("sign", 1)]) (N := ["text", "sign"]) (sc := defScope s_is_letters) (by decide +kernel)) (fun _ _ _ _ _ => (pg_name (i := 1) sc_is_letters.nd rfl (Or.inl rfl))) (fun _ _ _ _ _ => pts_nil) (fun _ _ _ _ _ => (pe_chain op_le_str op_le_str pe_str (pv 1) pe_str))) pa_nil)))), ?_⟩
    refine ⟨_, rfl, z, rfl, fun Dn nD => ?_⟩
    refine lc_pure over_str (fun c => some (.bl (letter c))) nD ?_ (fun _ _ => trivial) ?_ ?_
    · have : z.length = z.cps.toList.length := by simp [Str.length]
      rw [← this]
      exact Nat.le_of_lt (Nat.lt_of_le_of_lt hz (by decide))
    · rintro c hc H0 v H' Nx s0 ⟨rfl, rfl⟩ k
      refine ⟨rfl, ?_⟩
      refine lc_yes ?_
      refine ⟨_, rfl, _, _, rfl, rfl, _, rfl, ?_⟩
      have e1 : (!decide ((⟨#[c]⟩ : Str).cps.toList < ("a" : Str).cps.toList)) = decide (97 ≤ c) := by
        show (!decide ([c] < [97])) = _
        rw [sign_lt]
        by_cases h : 97 ≤ c
        · rw [decide_eq_true h, decide_eq_false (by omega)]; rfl
        · rw [decide_eq_false h, decide_eq_true (by omega)]; rfl
      have e2 : (!decide (("z" : Str).cps.toList < (⟨#[c]⟩ : Str).cps.toList)) = decide (c ≤ 122) := by
        show (!decide ([122] < [c])) = _
        rw [sign_lt]
        by_cases h : c ≤ 122
        · rw [decide_eq_true h, decide_eq_false (by omega)]; rfl
        · rw [decide_eq_false h, decide_eq_true (by omega)]; rfl
      have fin : ∀ b : Bool, b = letter c → Nx (some (.bl b)) H' := fun b e => by rw [e]; exact k H' (Same.refl _)
      rw [e1]
      refine ite2 (fun e => ?_) (fun e => ?_)
      · refine ⟨_, _, rfl, rfl, fin _ ?_⟩
        rw [e2]
        unfold letter
        rw [e]; rfl
      · refine fin _ ?_
        unfold letter
        rw [eq_false_of_ne_true e]; rfl
    · intro H1 s1 hD
      refine ⟨Dn, z.cps.toList.map letter, rfl, .inl (.inl ?_), ?_⟩
      · rw [hD, List.map_map]
        congr 2
        exact congrFun (List.filterMap_eq_map (f := V.bl ∘ letter)) _
      · have e : (z.cps.toList.map letter).all id = letters z := by
          unfold letters
          rw [List.all_map]
          rfl
        rw [e]
        exact q H1 s1
end
end Eu
set_option Elab.async false
set_option linter.all false
set_option maxRecDepth 100000
set_option maxHeartbeats 4000000
namespace Eu
open PySem PySem.Spec PyProof.Rows L2
open C8 (pe_gc)

theorem th_str {K : PySem.W.Frag} {H : Hp} {x : V} {z : Str} (h : Th K H x (.str z)) : x = .str z := by
  rcases h with h | ⟨a, z, e, h, e'⟩
  · cases h; rfl
  · cases e'
theorem th_int {K : PySem.W.Frag} {H : Hp} {x : V} {i : Int} (h : Th K H x (.int i)) : x = .int i := by
  rcases h with h | ⟨a, z, e, h, e'⟩
  · cases h; rfl
  · cases e'
theorem th_tuple {K : PySem.W.Frag} {H : Hp} {x : V} {ds : List PyData} (h : Th K H x (.tuple ds)) : ∃ a xs, x = .ref a ∧ SqT K H a xs ∧ DpAll K H xs ds := by
  rcases h with h | ⟨a, z, e, h, e'⟩
  · cases h with
    | tup h1 h2 => exact ⟨_, _, rfl, h1, h2⟩
  · cases e'
theorem dpAll_len {K : PySem.W.Frag} {H : Hp} : ∀ {xs : List V} {ds : List PyData}, DpAll K H xs ds → xs.length = ds.length
  | _, _, .nil => rfl
  | _, _, .cons _ h => congrArg (· + 1) (dpAll_len h)
theorem in_kept (z : Str) : inV (.str z) (kept.map V.str) = kept.contains z := by
  unfold inV kept
  simp only [List.map_cons, List.map_nil, List.any_cons, List.any_nil, List.contains_cons, List.contains_nil, eqV]
  congr 1
  · exact BEq.comm
  congr 1
  · exact BEq.comm
  congr 1
  exact BEq.comm
theorem len2 {α : Type} : ∀ {l : List α}, l.length = 2 → ∃ a b, l = [a, b]
  | [a, b], _ => ⟨a, b, rfl⟩
theorem len3 {α : Type} : ∀ {l : List α}, l.length = 3 → ∃ a b c, l = [a, b, c]
  | [a, b, c], _ => ⟨a, b, c, rfl⟩
theorem elem_no : ∀ {ds : List PyData}, ¬ ds.length = 2 → elemD (.tuple ds) = false
  | [], _ => rfl
  | [_], _ => rfl
  | [_, _], h => absurd rfl h
  | _ :: _ :: _ :: _, _ => rfl
theorem entry_no : ∀ {ds : List PyData}, ¬ ds.length = 3 → entryD (.tuple ds) = false
  | [], _ => rfl
  | [_], _ => rfl
  | [_, _], _ => rfl
  | [_, _, _], h => absurd rfl h
  | _ :: _ :: _ :: _ :: _, _ => rfl
theorem len_line {n : Nat} (h : n ≤ 100000) : n ≤ sizeLine := Nat.le_of_lt (Nat.lt_of_le_of_lt h (by decide))

section
variable {P : Program} {w : World} {K : PySem.W.Frag} {mg : Str → Option Value} {base : Heap} {kw : Addr}
theorem ok_is_name (B : Bl mg) (T : Gc K mg kw) (c_is_letters : Cal P w K mg base 1 "is_letters" spLetters []) (D : Df K mg "is_name" s_is_name) : Cal P w K mg base 2 "is_name" (spB K nameD) [] := by
  refine D.cal sc_is_name (fun _ _ _ _ _ _ us hl => match us, hl with | [_], _ => rfl) (fun vs H Q E h => ?_) (fun f cdv A out s H vs Q E hr h => ?_)
  · obtain ⟨x, d, rfl, _⟩ := h
    rfl
  · obtain ⟨x, d, rfl, h, hc, q⟩ := h
    refine ⟨_, (pss_cons (ps_if (PW.pt (pw_or (pt_not (pt_val (pe_callB call_isi (by rfl) B.isinstance (by decide +kernel) (pa_cons (pv 0) (pa_cons (pe_bltn (v := .ty "str") (u := .type "str") (by rfl) B.str (by decide +kernel) rfl) pa_nil))))) (pw_or1 (pt_not (pt_chain op_le op_le pe_int (pe_callB call_len_str (by rfl) B.len (by decide +kernel) (pa_cons (pv 0) pa_nil)) (pe_gc (by rfl) T.g_LONGEST_NAME))))))
(pss_one (ps_ret pe_bl))
pss_nil)
(pss_one (ps_ret (pe_and (pe_c c_is_letters hr (by decide) (by rfl) (pa_cons (pv 0) pa_nil)) (pe_one (pe_cmpR op_notIn_seq (pv 0) (pe_gc (by rfl) T.g_KEPT_WORDS) (by rfl))))))), ?_⟩
    refine ⟨_, rfl, _, _, _, _, _, rfl, .ty _, tyx_th h, kit_ty (kit_str d), _, rfl, ?_⟩
    by_cases hs : isS d = true
    · obtain ⟨z, rfl⟩ : ∃ z, d = .str z := by
        cases d <;> first | exact ⟨_, rfl⟩ | cases hs
      have e := th_str h
      subst e
      have hz : z.length ≤ 100000 := hc.len
      refine iteF ?_
      refine ⟨_, rfl, z, rfl, len_line hz, _, _, rfl, rfl, _, rfl, ?_⟩
      have fin : ∀ (b : Bool) H', Same H H' → b = nameS z → Q (.bl b) H' := fun b H' s' e => by rw [e]; exact q H' s'
      refine ite2 (fun e => ?_) (fun e => ?_)
      · have e1 : 1 ≤ z.length := by
          have : (1 : Int) ≤ (z.length : Int) := of_decide_eq_true e
          omega
        refine ⟨_, _, rfl, rfl, _, rfl, ?_⟩
        by_cases e2 : z.length ≤ 4
        · rw [show decide ((z.length : Int) ≤ 4) = true from decide_eq_true (by omega)]
          refine iteF ?_
          refine ⟨_, rfl, z, rfl, hz, fun H1 s1 => ⟨_, rfl, ?_⟩⟩
          refine ite2 (fun e => ?_) (fun e => ?_)
          · refine ⟨_, rfl, kw, _, rfl, .inr (T.kw H1), rfl, rfl, fin _ _ s1 ?_⟩
            show (!inV (.str z) (kept.map V.str)) = _
            rw [in_kept]
            unfold nameS
            rw [decide_eq_true e1, decide_eq_true e2, e]
            rfl
          · refine fin _ _ s1 ?_
            unfold nameS
            rw [decide_eq_true e1, decide_eq_true e2, eq_false_of_ne_true e]
            rfl
        · rw [show decide ((z.length : Int) ≤ 4) = false from decide_eq_false (by omega)]
          refine iteT (fin _ _ (Same.refl _) ?_)
          unfold nameS
          rw [decide_eq_false e2, Bool.and_false]
          rfl
      · have e1 : ¬ 1 ≤ z.length := by
          have : ¬ (1 : Int) ≤ (z.length : Int) := of_decide_eq_false (eq_false_of_ne_true e)
          omega
        refine ⟨_, rfl, ?_⟩
        refine iteT (fin _ _ (Same.refl _) ?_)
        unfold nameS
        rw [decide_eq_false e1]
        rfl
    · rw [eq_false_of_ne_true hs]
      refine iteT (iteT ?_)
      have : nameD d = false := by cases d <;> first | rfl | exact absurd rfl hs
      rw [← this]
      exact q H (Same.refl _)
theorem ok_is_key (T : Gc K mg kw) (c_in_range : Cal P w K mg base 2 "in_range" (spR K) []) (D : Df K mg "is_key" s_is_key) : Cal P w K mg base 3 "is_key" (spB K (between 0 999999)) [] := by
  refine D.cal sc_is_key (fun _ _ _ _ _ _ us hl => match us, hl with | [_], _ => rfl) (fun vs H Q E h => ?_) (fun f cdv A out s H vs Q E hr h => ?_)
  · obtain ⟨x, d, rfl, _⟩ := h
    rfl
  · obtain ⟨x, d, rfl, h, hc, q⟩ := h
    refine ⟨_, (pss_one (ps_ret (pe_c c_in_range hr (by decide) (by rfl) (pa_cons (pv 0) (pa_cons pe_int (pa_cons (pe_gc (by rfl) T.g_MOST_KEY) pa_nil)))))), ?_⟩
    exact ⟨_, rfl, x, d, 0, 999999, rfl, h, hc, q⟩
theorem ok_is_value (B : Bl mg) (T : Gc K mg kw) (c_is_integer : Cal P w K mg base 1 "is_integer" (spB K whole) []) (D : Df K mg "is_value" s_is_value) : Cal P w K mg base 2 "is_value" (spB K valueD) [] := by
  refine D.cal sc_is_value (fun _ _ _ _ _ _ us hl => match us, hl with | [_], _ => rfl) (fun vs H Q E h => ?_) (fun f cdv A out s H vs Q E hr h => ?_)
  · obtain ⟨x, d, rfl, _⟩ := h
    rfl
  · obtain ⟨x, d, rfl, h, hc, q⟩ := h
    refine ⟨_, (pss_one (ps_ret (pe_and (pe_c c_is_integer hr (by decide) (by rfl) (pa_cons (pv 0) pa_nil)) (pe_one (pe_cmpR op_lt (pe_callB call_abs (by rfl) B.abs (by decide +kernel) (pa_cons (pv 0) pa_nil)) (pe_gc (by rfl) T.g_MOST_VALUE) (nomark _)))))), ?_⟩
    refine ⟨_, rfl, x, d, rfl, h, hc, fun H1 s1 => ⟨_, rfl, ?_⟩⟩
    cases d with
    | int i =>
      have e := th_int h
      subst e
      refine iteT ?_
      refine ⟨_, rfl, _, rfl, _, _, rfl, rfl, ?_⟩
      have e : decide ((if i < 0 then -i else i) < (10 ^ 40 : Int)) = valueD (.int i) := by
        show _ = decide (i.natAbs < 10 ^ 40)
        refine decide_eq_decide.mpr ?_
        split <;> omega
      show Q (.bl (decide ((if i < 0 then -i else i) < (10 ^ 40 : Int)))) H1
      rw [e]
      exact q H1 s1
    | _ => exact iteF (q H1 s1)
theorem ok_is_element (B : Bl mg) (c_is_key : Cal P w K mg base 3 "is_key" (spB K (between 0 999999)) []) (c_is_name : Cal P w K mg base 2 "is_name" (spB K nameD) []) (D : Df K mg "is_element" s_is_element) : Cal P w K mg base 4 "is_element" (spB K elemD) [] := by
  refine D.cal sc_is_element (fun _ _ _ _ _ _ us hl => match us, hl with | [_], _ => rfl) (fun vs H Q E h => ?_) (fun f cdv A out s H vs Q E hr h => ?_)
  · obtain ⟨x, d, rfl, _⟩ := h
    rfl
  · obtain ⟨x, d, rfl, h, hc, q⟩ := h
    refine ⟨_, (pss_one (ps_ret (pe_and (pe_callB call_isi (by rfl) B.isinstance (by decide +kernel) (pa_cons (pv 0) (pa_cons (pe_bltn (v := .ty "tuple") (u := .type "tuple") (by rfl) B.tuple (by decide +kernel) rfl) pa_nil))) (pe_and (pe_cmpR op_eq (pe_callB call_len_seq (by rfl) B.len (by decide +kernel) (pa_cons (pv 0) pa_nil)) pe_int (nomark _)) (pe_and (pe_c c_is_key hr (by decide) (by rfl) (pa_cons (pe_ix ix_tup (pv 0) pe_int (fun _ _ => rfl)) pa_nil)) (pe_one (pe_c c_is_name hr (by decide) (by rfl) (pa_cons (pe_ix ix_tup (pv 0) pe_int (fun _ _ => rfl)) pa_nil)))))))), ?_⟩
    refine ⟨_, rfl, _, _, _, _, _, rfl, .ty _, tyx_th h, kit_ty (kit_tuple d), _, rfl, ?_⟩
    by_cases hs : isT d = true
    · obtain ⟨ds, rfl⟩ : ∃ ds, d = .tuple ds := by
        cases d <;> first | exact ⟨_, rfl⟩ | cases hs
      obtain ⟨a, xs, rfl, h1, h2⟩ := th_tuple h
      have hl := dpAll_len h2
      refine iteT ?_
      refine ⟨_, rfl, a, xs, rfl, .inr h1, rfl, _, rfl, ?_⟩
      by_cases h2l : ds.length = 2
      · obtain ⟨d1, d2, rfl⟩ := len2 h2l
        cases h2 with
        | cons p1 h2 =>
          cases h2 with
          | cons p2 h2 =>
            cases h2
            rename_i u v
            obtain ⟨k1, k2⟩ := hc.two
            refine iteT ?_
            refine ⟨_, rfl, a, _, 0, u, rfl, rfl, h1, atI_nat (j := 0) rfl, u, d1, rfl, .inl p1, k1, fun H1 s1 => ⟨_, rfl, ?_⟩⟩
            refine ite2 (fun e => ?_) (fun e => ?_)
            · refine ⟨_, rfl, a, _, 1, v, rfl, rfl, Same.tup s1 h1, atI_nat (j := 1) rfl, v, d2, rfl, .inl (Same.dp s1 p2), k2, fun H2 s2 => ?_⟩
              have : nameD d2 = elemD (.tuple [d1, d2]) := by
                show _ = (between 0 999999 d1 && nameD d2)
                rw [e]; rfl
              rw [this]
              exact q H2 (s1.trans s2)
            · have : false = elemD (.tuple [d1, d2]) := by
                show _ = (between 0 999999 d1 && nameD d2)
                rw [eq_false_of_ne_true e]; rfl
              rw [this]
              exact q H1 s1
      · rw [show decide (V.int (xs.length : Nat) = V.int 2) = false from decide_eq_false (fun z => h2l (by rw [← hl]; have := V.int.inj z; omega))]
        refine iteF ?_
        rw [show false = elemD (.tuple ds) from (elem_no h2l).symm]
        exact q H (Same.refl _)
    · rw [eq_false_of_ne_true hs]
      refine iteF ?_
      have : elemD d = false := by cases d <;> first | rfl | exact absurd rfl hs
      rw [← this]
      exact q H (Same.refl _)
theorem ok_is_entry (B : Bl mg) (c_is_element : Cal P w K mg base 4 "is_element" (spB K elemD) []) (c_is_value : Cal P w K mg base 2 "is_value" (spB K valueD) []) (D : Df K mg "is_entry" s_is_entry) : Cal P w K mg base 5 "is_entry" (spB K entryD) [] := by
  refine D.cal sc_is_entry (fun _ _ _ _ _ _ us hl => match us, hl with | [_], _ => rfl) (fun vs H Q E h => ?_) (fun f cdv A out s H vs Q E hr h => ?_)
  · obtain ⟨x, d, rfl, _⟩ := h
    rfl
  · obtain ⟨x, d, rfl, h, hc, q⟩ := h
    refine ⟨_, (pss_one (ps_ret (pe_and (pe_callB call_isi (by rfl) B.isinstance (by decide +kernel) (pa_cons (pv 0) (pa_cons (pe_bltn (v := .ty "tuple") (u := .type "tuple") (by rfl) B.tuple (by decide +kernel) rfl) pa_nil))) (pe_and (pe_cmpR op_eq (pe_callB call_len_seq (by rfl) B.len (by decide +kernel) (pa_cons (pv 0) pa_nil)) pe_int (nomark _)) (pe_and (pe_c c_is_element hr (by decide) (by rfl) (pa_cons (pe_slice sl_tupA (pv 0) po_none (po_some pe_int)) pa_nil)) (pe_one (pe_c c_is_value hr (by decide) (by rfl) (pa_cons (pe_ix ix_tup (pv 0) pe_int (fun _ _ => rfl)) pa_nil)))))))), ?_⟩
    refine ⟨_, rfl, _, _, _, _, _, rfl, .ty _, tyx_th h, kit_ty (kit_tuple d), _, rfl, ?_⟩
    by_cases hs : isT d = true
    · obtain ⟨ds, rfl⟩ : ∃ ds, d = .tuple ds := by
        cases d <;> first | exact ⟨_, rfl⟩ | cases hs
      obtain ⟨a, xs, rfl, h1, h2⟩ := th_tuple h
      have hl := dpAll_len h2
      refine iteT ?_
      refine ⟨_, rfl, a, xs, rfl, .inr h1, rfl, _, rfl, ?_⟩
      by_cases h2l : ds.length = 3
      · obtain ⟨d1, d2, d3, rfl⟩ := len3 h2l
        cases h2 with
        | cons p1 h2 =>
          cases h2 with
          | cons p2 h2 =>
            cases h2 with
            | cons p3 h2 =>
              cases h2
              rename_i u v y
              obtain ⟨k1, k2, k3, k12⟩ := hc.three
              refine iteT ?_
              refine ⟨_, rfl, _, rfl, a, _, rfl, h1, (fun z => absurd z.2 (by show ¬ HT.sIx 3 3 (some 2) = 3; decide)), fun _ p np => ?_⟩
              have s1 := same_new (o := .tup [u, v]) np
              refine ⟨.ref p, .tuple [d1, d2], rfl, .inl (.tup (.inl (.inl upd_same)) (.cons (Same.dp s1 p1) (.cons (Same.dp s1 p2) .nil))), k12, fun H2 s2 => ⟨_, rfl, ?_⟩⟩
              have s12 := s1.trans s2
              refine ite2 (fun e => ?_) (fun e => ?_)
              · refine ⟨_, rfl, a, _, 2, y, rfl, rfl, Same.tup s12 h1, atI_nat (j := 2) rfl, y, d3, rfl, .inl (Same.dp s12 p3), k3, fun H3 s3 => ?_⟩
                have : valueD d3 = entryD (.tuple [d1, d2, d3]) := by
                  show _ = (between 0 999999 d1 && nameD d2 && valueD d3)
                  rw [show (between 0 999999 d1 && nameD d2) = true from e]; rfl
                rw [this]
                exact q H3 (s12.trans s3)
              · have : false = entryD (.tuple [d1, d2, d3]) := by
                  show _ = (between 0 999999 d1 && nameD d2 && valueD d3)
                  rw [show (between 0 999999 d1 && nameD d2) = false from eq_false_of_ne_true e]; rfl
                rw [this]
                exact q H2 s12
      · rw [show decide (V.int (xs.length : Nat) = V.int 3) = false from decide_eq_false (fun z => h2l (by rw [← hl]; have := V.int.inj z; omega))]
        refine iteF ?_
        rw [show false = entryD (.tuple ds) from (entry_no h2l).symm]
        exact q H (Same.refl _)
    · rw [eq_false_of_ne_true hs]
      refine iteF ?_
      have : entryD d = false := by cases d <;> first | rfl | exact absurd rfl hs
      rw [← this]
      exact q H (Same.refl _)
end
end Eu
set_option Elab.async false
set_option linter.all false
set_option maxRecDepth 100000
set_option maxHeartbeats 4000000
namespace Eu
open PySem PySem.Spec PyProof.Rows L2
open C8 (pe_gc)
abbrev s_l_is_whole : Stmt := top 19
theorem sc_l_is_whole : FnScope ["_law_thing_here", "_law_least", "_law_most"] ["_law_thing_here", "_law_least", "_law_most"] (defScope s_l_is_whole) :=
  ⟨rfl, rfl, rfl, by decide +kernel, rfl, by decide +kernel, by decide +kernel⟩
abbrev s_l_is_name : Stmt := top 20
theorem sc_l_is_name : FnScope ["_law_thing_here", "_law_sign"] ["_law_thing_here"] (defScope s_l_is_name) :=
  ⟨rfl, rfl, rfl, by decide +kernel, rfl, by decide +kernel, by decide +kernel⟩
abbrev s_l_is_element : Stmt := top 21
theorem sc_l_is_element : FnScope ["_law_thing_here"] ["_law_thing_here"] (defScope s_l_is_element) :=
  ⟨rfl, rfl, rfl, by decide +kernel, rfl, by decide +kernel, by decide +kernel⟩
abbrev s_l_is_entry : Stmt := top 22
theorem sc_l_is_entry : FnScope ["_law_thing_here"] ["_law_thing_here"] (defScope s_l_is_entry) :=
  ⟨rfl, rfl, rfl, by decide +kernel, rfl, by decide +kernel, by decide +kernel⟩
theorem in_ab (c : Nat) : decide (c ∈ ("abcdefghijklmnopqrstuvwxyz" : Str).cps.toList) = letter c := by
  have e : ("abcdefghijklmnopqrstuvwxyz" : Str).cps.toList = (List.range 26).map (· + 97) := by decide +kernel
  unfold letter
  rw [e]
  by_cases h : 97 ≤ c ∧ c ≤ 122
  · rw [decide_eq_true h.1, decide_eq_true h.2]
    refine decide_eq_true (List.mem_map.mpr ⟨c - 97, List.mem_range.mpr (by omega), by omega⟩)
  · rw [decide_eq_false (fun m => by
      obtain ⟨k, hk, rfl⟩ := List.mem_map.mp m
      have := List.mem_range.mp hk
      omega)]
    symm
    rw [Bool.eq_false_iff]
    intro hh
    rw [Bool.and_eq_true, decide_eq_true_eq, decide_eq_true_eq] at hh
    exact h hh
theorem in_four (n : Nat) : inV (.int (n : Int)) [.int 1, .int 2, .int 3, .int 4] = (decide (1 ≤ n) && decide (n ≤ 4)) := by
  unfold inV
  simp only [List.any_cons, List.any_nil, eqV, Bool.or_false]
  match n with
  | 0 => rfl
  | 1 => rfl
  | 2 => rfl
  | 3 => rfl
  | 4 => rfl
  | n + 5 =>
    rw [show decide (n + 5 ≤ 4) = false from decide_eq_false (by omega), Bool.and_false]
    simp only [Bool.or_eq_false_iff, beq_eq_false_iff_ne, ne_eq]
    omega
/-- the signs that are no letters, as texts -/
def bad (c : Nat) : Option V := if letter c then none else some (.str ⟨#[c]⟩)
theorem dp_strs {K : PySem.W.Frag} {H : Hp} : ∀ l : List Nat, (l.all fun c => decide (c < 1114112)) = true → ∃ ds, DpAll K H (l.filterMap bad) ds ∧ PyData.canLayAll0 ds = true ∧ PyData.depthAll ds = 0 ∧ PyData.eqvAll ds [] = l.all letter
  | [], _ => ⟨[], .nil, rfl, rfl, rfl⟩
  | c :: r, hf => by
    rw [List.all_cons, Bool.and_eq_true] at hf
    obtain ⟨ds, h1, h2, h3, h4⟩ := dp_strs (K := K) (H := H) r hf.2
    cases h : letter c
    · refine ⟨.str ⟨#[c]⟩ :: ds, ?_, ?_, ?_, ?_⟩
      · rw [List.filterMap_cons_some (b := .str ⟨#[c]⟩) (by unfold bad; rw [h]; rfl)]
        exact .cons (.str _) h1
      · show (PyData.canLay0 (.str ⟨#[c]⟩) && PyData.canLayAll0 ds) = true
        rw [h2, Bool.and_true]
        show (#[c] : Array Nat).all (· < 0x110000) = true
        simpa using hf.1
      · show max 0 (PyData.depthAll ds) = 0
        rw [h3]; rfl
      · rw [List.all_cons, h]; rfl
    · refine ⟨ds, ?_, h2, h3, ?_⟩
      · rw [List.filterMap_cons_none (by unfold bad; rw [h]; rfl)]
        exact h1
      · rw [List.all_cons, h, h4]; rfl
theorem value_between (d : PyData) : between (1 - 10 ^ 40) (10 ^ 40 - 1) d = valueD d := by
  cases d with
  | int i =>
    show (decide _ && decide _) = decide (i.natAbs < 10 ^ 40)
    by_cases h : i.natAbs < 10 ^ 40
    · rw [decide_eq_true h, decide_eq_true (by omega), decide_eq_true (by omega)]; rfl
    · rw [decide_eq_false h]
      by_cases h' : (1 - 10 ^ 40 : Int) ≤ i
      · rw [decide_eq_true h', decide_eq_false (by omega)]; rfl
      · rw [decide_eq_false h']; rfl
  | _ => rfl
section
variable {P : Program} {w : World} {K : PySem.W.Frag} {mg : Str → Option Value} {base : Heap} {kw : Addr}
theorem ok_l_is_whole (B : Bl mg) (D : Df K mg "_law_is_whole" s_l_is_whole) : Cal P w K mg base 1 "_law_is_whole" (spR K) [] := by
  refine D.cal sc_l_is_whole (fun _ _ _ _ _ _ us hl => match us, hl with | [_, _, _], _ => rfl) (fun vs H Q E h => ?_) (fun f cdv A out s H vs Q E hr h => ?_)
  · obtain ⟨x, d, lo, hi, rfl, _⟩ := h
    rfl
  · obtain ⟨x, d, lo, hi, rfl, h, hc, q⟩ := h
    refine ⟨_, (pss_one (ps_ret (pe_and (pe_callB call_isi (by rfl) B.isinstance (by decide +kernel) (pa_cons (pv 0) (pa_cons (pe_bltn (v := .ty "int") (u := .type "int") (by rfl) B.int (by decide +kernel) rfl) pa_nil))) (pe_and (pe_not (pe_callB call_isi (by rfl) B.isinstance (by decide +kernel) (pa_cons (pv 0) (pa_cons (pe_bltn (v := .ty "bool") (u := .type "bool") (by rfl) B.bool (by decide +kernel) rfl) pa_nil)))) (pe_one (pe_chain op_le op_le (pv 1) (pv 0) (pv 2))))))), ?_⟩
    refine ⟨_, rfl, _, _, _, _, _, rfl, .ty _, tyx_th h, kit_ty (kit_int d), _, rfl, ?_⟩
    have fin : ∀ b : Bool, b = between lo hi d → Q (.bl b) H := fun b e => by rw [e]; exact q H (Same.refl _)
    cases d with
    | int i =>
      have e := th_int h
      subst e
      refine iteT ?_
      refine ⟨_, rfl, _, _, _, _, _, rfl, .ty _, tyx_th h, kit_ty (kit_bool _), _, rfl, _, rfl, ?_⟩
      refine iteT ?_
      refine ⟨_, rfl, _, rfl, _, _, rfl, rfl, _, rfl, ?_⟩
      refine ite2 (fun e => ?_) (fun e => ?_)
      · refine ⟨_, rfl, _, _, rfl, rfl, fin _ ?_⟩
        show decide (i ≤ hi) = (decide (lo ≤ i) && decide (i ≤ hi))
        rw [e]; rfl
      · refine fin _ ?_
        show false = (decide (lo ≤ i) && decide (i ≤ hi))
        rw [eq_false_of_ne_true e]; rfl
    | bool b =>
      refine iteT ?_
      refine ⟨_, rfl, _, _, _, _, _, rfl, .ty _, tyx_th h, kit_ty (kit_bool _), _, rfl, _, rfl, ?_⟩
      exact iteF (fin _ rfl)
    | _ => exact iteF (fin _ rfl)
theorem ok_l_is_name (B : Bl mg) (D : Df K mg "_law_is_name" s_l_is_name) : Cal P w K mg base 1 "_law_is_name" (spB K nameD) [] := by
  refine D.cal sc_l_is_name (fun _ _ _ _ _ _ us hl => match us, hl with | [_], _ => rfl) (fun vs H Q E h => ?_) (fun f cdv A out s H vs Q E hr h => ?_)
  · obtain ⟨x, d, rfl, _⟩ := h
    rfl
  · obtain ⟨x, d, rfl, h, hc, q⟩ := h
    refine ⟨_, (pss_cons (ps_if (PW.pt (pw_or (pt_not (pt_val (pe_callB call_isi (by rfl) B.isinstance (by decide +kernel) (pa_cons (pv 0) (pa_cons (pe_bltn (v := .ty "str") (u := .type "str") (by rfl) B.str (by decide +kernel) rfl) pa_nil))))) (pw_or (pt_cmpR op_notIn_seq (pe_callB call_len_str (by rfl) B.len (by decide +kernel) (pa_cons (pv 0) pa_nil)) (pe_lst (pa_cons pe_int (pa_cons pe_int (pa_cons pe_int (pa_cons pe_int pa_nil))))) (by rfl)) (pw_or1 (pt_cmpR op_in_seq (pv 0) (pe_lst (pa_cons pe_str (pa_cons pe_str (pa_cons pe_str pa_nil)))) (by rfl))))))
(pss_one (ps_ret pe_bl))
pss_nil)
(pss_one (ps_ret (pe_cmpR (op_eqD hr.rm.units) (pe_lc (own := [("_law_sign", 1)]) (by rfl) sc_l_is_name.nd (pi_str (pv 0)) (blkOk_by (own := [("_law_sign", 1)]) (N := ["_law_thing_here", "_law_sign"]) (sc := defScope s_l_is_name) (by decide +kernel)) (fun _ _ _ _ _ => (pg_name (i := 1) sc_l_is_name.nd rfl (Or.inl rfl))) (fun _ _ _ _ _ => (pts_one (pt_cmpR op_notIn_sign (pv 1) pe_str (by rfl)))) (fun _ _ _ _ _ => (pv 1))) (pe_lst pa_nil) (nomark _))))), ?_⟩
    refine ⟨_, rfl, _, _, _, _, _, rfl, .ty _, tyx_th h, kit_ty (kit_str d), _, rfl, ?_⟩
    by_cases hs : isS d = true
    · obtain ⟨z, rfl⟩ : ∃ z, d = .str z := by
        cases d <;> first | exact ⟨_, rfl⟩ | cases hs
      have e := th_str h
      subst e
      have hz : z.length ≤ 100000 := hc.len
      refine iteF ?_
      refine ⟨_, rfl, z, rfl, len_line hz, (by decide), fun p1 n1 => ?_⟩
      have s1 := same_new (o := .lst [.int 1, .int 2, .int 3, .int 4]) n1
      refine ⟨p1, _, rfl, .inl (.inl (.inl upd_same)), rfl, rfl, _, rfl, ?_⟩
      have fin : ∀ (b : Bool) H', Same H H' → b = nameS z → Q (.bl b) H' := fun b H' s' e => by rw [e]; exact q H' s'
      show if (!inV (.int (z.length : Int)) [.int 1, .int 2, .int 3, .int 4]) = true then _ else _
      rw [in_four]
      by_cases h4 : (decide (1 ≤ z.length) && decide (z.length ≤ 4)) = true
      · rw [h4]
        refine iteF ?_
        refine ⟨_, rfl, (by decide), fun p2 n2 => ?_⟩
        have s2 := s1.trans (same_new (o := .lst [.str "keys", .str "look", .str "self"]) n2)
        refine ⟨p2, _, rfl, .inl (.inl (.inl upd_same)), rfl, rfl, _, rfl, ?_⟩
        show if (inV (.str z) (kept.map V.str)) = true then _ else _
        rw [in_kept]
        by_cases hk : kept.contains z = true
        · rw [hk]
          refine iteT (fin _ _ s2 ?_)
          unfold nameS
          rw [hk, Bool.not_true, Bool.and_false]
        · rw [eq_false_of_ne_true hk]
          refine iteF ?_
          refine ⟨_, rfl, z, rfl, fun Dn nD => ?_⟩
          refine lc_pure over_str bad nD ?_ (fun _ _ => trivial) ?_ ?_
          · have : z.length = z.cps.toList.length := by simp [Str.length]
            rw [← this]
            exact len_line hz
          · rintro c hc H0 v H' Nx s0 ⟨rfl, rfl⟩ k
            refine ⟨rfl, ?_⟩
            refine ⟨_, rfl, c, _, rfl, rfl, _, rfl, ?_⟩
            rw [in_ab]
            have k' := k H' (Same.refl _)
            unfold bad at k'
            cases hl : letter c
            · rw [hl] at k'
              exact iteT ⟨_, rfl, k'⟩
            · rw [hl] at k'
              exact iteF k'
          · intro H3 s3 hD
            refine ⟨Nat.zero_le _, fun p3 n3 => ?_⟩
            obtain ⟨ds, d1, d2, d3, d4⟩ := dp_strs (K := K) (H := upd H3 p3 (.lst [])) z.cps.toList hc.2
            have s4 := same_new (o := .lst []) n3
            refine ⟨.list ds, .list [], .lst (.inl (.inl (s4 _ _ hD))) d1, .lst (.inl (.inl upd_same)) .nil, ?_, rfl, ?_⟩
            · show (PyData.canLayAll0 ds && decide (PyData.depthAll ds + 1 ≤ 64)) = true
              rw [d2, d3]; rfl
            · refine fin _ _ (s2.trans (s3.trans s4)) ?_
              show PyData.eqvAll ds [] = nameS z
              rw [d4]
              unfold nameS
              rw [h4, eq_false_of_ne_true hk, Bool.true_and, Bool.not_false, Bool.and_true]
              rfl
      · rw [eq_false_of_ne_true h4]
        refine iteT (iteT (fin _ _ s1 ?_))
        unfold nameS
        rw [eq_false_of_ne_true h4]
        rfl
    · rw [eq_false_of_ne_true hs]
      refine iteT (iteT ?_)
      have : nameD d = false := by cases d <;> first | rfl | exact absurd rfl hs
      rw [← this]
      exact q H (Same.refl _)
theorem ok_l_is_element (B : Bl mg) (c_l_is_whole : Cal P w K mg base 1 "_law_is_whole" (spR K) []) (c_l_is_name : Cal P w K mg base 1 "_law_is_name" (spB K nameD) []) (D : Df K mg "_law_is_element" s_l_is_element) : Cal P w K mg base 2 "_law_is_element" (spB K elemD) [] := by
  refine D.cal sc_l_is_element (fun _ _ _ _ _ _ us hl => match us, hl with | [_], _ => rfl) (fun vs H Q E h => ?_) (fun f cdv A out s H vs Q E hr h => ?_)
  · obtain ⟨x, d, rfl, _⟩ := h
    rfl
  · obtain ⟨x, d, rfl, h, hc, q⟩ := h
    refine ⟨_, (pss_cons (ps_if (PW.pt (pw_or (pt_not (pt_val (pe_callB call_isi (by rfl) B.isinstance (by decide +kernel) (pa_cons (pv 0) (pa_cons (pe_bltn (v := .ty "tuple") (u := .type "tuple") (by rfl) B.tuple (by decide +kernel) rfl) pa_nil))))) (pw_or1 (pt_cmpR op_ne (pe_callB call_len_seq (by rfl) B.len (by decide +kernel) (pa_cons (pv 0) pa_nil)) pe_int (nomark _)))))
(pss_one (ps_ret pe_bl))
pss_nil)
(pss_one (ps_ret (pe_and (pe_c c_l_is_whole hr (by decide) (by rfl) (pa_cons (pe_ix ix_tup (pv 0) pe_int (fun _ _ => rfl)) (pa_cons pe_int (pa_cons pe_int pa_nil)))) (pe_one (pe_c c_l_is_name hr (by decide) (by rfl) (pa_cons (pe_ix ix_tup (pv 0) pe_int (fun _ _ => rfl)) pa_nil))))))), ?_⟩
    refine ⟨_, rfl, _, _, _, _, _, rfl, .ty _, tyx_th h, kit_ty (kit_tuple d), _, rfl, ?_⟩
    by_cases hs : isT d = true
    · obtain ⟨ds, rfl⟩ : ∃ ds, d = .tuple ds := by
        cases d <;> first | exact ⟨_, rfl⟩ | cases hs
      obtain ⟨a, xs, rfl, h1, h2⟩ := th_tuple h
      have hl := dpAll_len h2
      refine iteF ?_
      refine ⟨_, rfl, a, xs, rfl, .inr h1, rfl, _, rfl, ?_⟩
      by_cases h2l : ds.length = 2
      · obtain ⟨d1, d2, rfl⟩ := len2 h2l
        cases h2 with
        | cons p1 h2 =>
          cases h2 with
          | cons p2 h2 =>
            cases h2
            rename_i u v
            obtain ⟨k1, k2⟩ := hc.two
            refine iteF ?_
            refine ⟨_, rfl, a, _, 0, u, rfl, rfl, h1, atI_nat (j := 0) rfl, u, d1, 0, 999999, rfl, .inl p1, k1, fun H1 s1 => ⟨_, rfl, ?_⟩⟩
            refine ite2 (fun e => ?_) (fun e => ?_)
            · refine ⟨_, rfl, a, _, 1, v, rfl, rfl, Same.tup s1 h1, atI_nat (j := 1) rfl, v, d2, rfl, .inl (Same.dp s1 p2), k2, fun H2 s2 => ?_⟩
              have : nameD d2 = elemD (.tuple [d1, d2]) := by
                show _ = (between 0 999999 d1 && nameD d2)
                rw [e]; rfl
              rw [this]
              exact q H2 (s1.trans s2)
            · have : false = elemD (.tuple [d1, d2]) := by
                show _ = (between 0 999999 d1 && nameD d2)
                rw [eq_false_of_ne_true e]; rfl
              rw [this]
              exact q H1 s1
      · rw [show (!decide (V.int (xs.length : Nat) = V.int 2)) = true from by rw [decide_eq_false (fun z => h2l (by rw [← hl]; have := V.int.inj z; omega))]; rfl]
        refine iteT ?_
        rw [show false = elemD (.tuple ds) from (elem_no h2l).symm]
        exact q H (Same.refl _)
    · rw [eq_false_of_ne_true hs]
      refine iteT (iteT ?_)
      have : elemD d = false := by cases d <;> first | rfl | exact absurd rfl hs
      rw [← this]
      exact q H (Same.refl _)
theorem ok_l_is_entry (B : Bl mg) (c_l_is_whole : Cal P w K mg base 1 "_law_is_whole" (spR K) []) (c_l_is_element : Cal P w K mg base 2 "_law_is_element" (spB K elemD) []) (D : Df K mg "_law_is_entry" s_l_is_entry) : Cal P w K mg base 3 "_law_is_entry" (spB K entryD) [] := by
  refine D.cal sc_l_is_entry (fun _ _ _ _ _ _ us hl => match us, hl with | [_], _ => rfl) (fun vs H Q E h => ?_) (fun f cdv A out s H vs Q E hr h => ?_)
  · obtain ⟨x, d, rfl, _⟩ := h
    rfl
  · obtain ⟨x, d, rfl, h, hc, q⟩ := h
    refine ⟨_, (pss_cons (ps_if (PW.pt (pw_or (pt_not (pt_val (pe_callB call_isi (by rfl) B.isinstance (by decide +kernel) (pa_cons (pv 0) (pa_cons (pe_bltn (v := .ty "tuple") (u := .type "tuple") (by rfl) B.tuple (by decide +kernel) rfl) pa_nil))))) (pw_or (pt_cmpR op_ne (pe_callB call_len_seq (by rfl) B.len (by decide +kernel) (pa_cons (pv 0) pa_nil)) pe_int (nomark _)) (pw_or1 (pt_not (pt_val (pe_c c_l_is_element hr (by decide) (by rfl) (pa_cons (pe_slice sl_tupA (pv 0) po_none (po_some pe_int)) pa_nil))))))))
(pss_one (ps_ret pe_bl))
pss_nil)
(pss_one (ps_ret (pe_c c_l_is_whole hr (by decide) (by rfl) (pa_cons (pe_ix ix_tup (pv 0) pe_int (fun _ _ => rfl)) (pa_cons (pe_op op_sub pe_int (pe_op op_pow pe_int pe_int)) (pa_cons (pe_op op_sub (pe_op op_pow pe_int pe_int) pe_int) pa_nil))))))), ?_⟩
    refine ⟨_, rfl, _, _, _, _, _, rfl, .ty _, tyx_th h, kit_ty (kit_tuple d), _, rfl, ?_⟩
    by_cases hs : isT d = true
    · obtain ⟨ds, rfl⟩ : ∃ ds, d = .tuple ds := by
        cases d <;> first | exact ⟨_, rfl⟩ | cases hs
      obtain ⟨a, xs, rfl, h1, h2⟩ := th_tuple h
      have hl := dpAll_len h2
      refine iteF ?_
      refine ⟨_, rfl, a, xs, rfl, .inr h1, rfl, _, rfl, ?_⟩
      by_cases h2l : ds.length = 3
      · obtain ⟨d1, d2, d3, rfl⟩ := len3 h2l
        cases h2 with
        | cons p1 h2 =>
          cases h2 with
          | cons p2 h2 =>
            cases h2 with
            | cons p3 h2 =>
              cases h2
              rename_i u v y
              obtain ⟨k1, k2, k3, k12⟩ := hc.three
              refine iteF ?_
              refine ⟨_, rfl, _, rfl, a, _, rfl, h1, (fun z => absurd z.2 (by show ¬ HT.sIx 3 3 (some 2) = 3; decide)), fun _ p np => ?_⟩
              have s1 := same_new (o := .tup [u, v]) np
              refine ⟨.ref p, .tuple [d1, d2], rfl, .inl (.tup (.inl (.inl upd_same)) (.cons (Same.dp s1 p1) (.cons (Same.dp s1 p2) .nil))), k12, fun H2 s2 => ⟨_, rfl, ?_⟩⟩
              have s12 := s1.trans s2
              by_cases e : elemD (.tuple [d1, d2]) = true
              · rw [e]
                refine iteF ?_
                refine ⟨_, rfl, a, _, 2, y, rfl, rfl, Same.tup s12 h1, atI_nat (j := 2) rfl, _, _, rfl, rfl, ⟨by decide, by decide, by decide⟩, _, _, rfl, rfl, _, _, rfl, rfl, ⟨by decide, by decide, by decide⟩, _, _, rfl, rfl, y, d3, _, _, rfl, .inl (Same.dp s12 p3), k3, fun H3 s3 => ?_⟩
                have : between (1 - 10 ^ 40) (10 ^ 40 - 1) d3 = entryD (.tuple [d1, d2, d3]) := by
                  show _ = (between 0 999999 d1 && nameD d2 && valueD d3)
                  rw [show (between 0 999999 d1 && nameD d2) = true from e, value_between]; rfl
                show Q (.bl (between (1 - 10 ^ 40) (10 ^ 40 - 1) d3)) H3
                rw [this]
                exact q H3 (s12.trans s3)
              · rw [eq_false_of_ne_true e]
                refine iteT ?_
                have : false = entryD (.tuple [d1, d2, d3]) := by
                  show _ = (between 0 999999 d1 && nameD d2 && valueD d3)
                  rw [show (between 0 999999 d1 && nameD d2) = false from eq_false_of_ne_true e]; rfl
                rw [this]
                exact q H2 s12
      · rw [show (!decide (V.int (xs.length : Nat) = V.int 3)) = true from by rw [decide_eq_false (fun z => h2l (by rw [← hl]; have := V.int.inj z; omega))]; rfl]
        refine iteT (iteT ?_)
        rw [show false = entryD (.tuple ds) from (entry_no h2l).symm]
        exact q H (Same.refl _)
    · rw [eq_false_of_ne_true hs]
      refine iteT (iteT ?_)
      have : entryD d = false := by cases d <;> first | rfl | exact absurd rfl hs
      rw [← this]
      exact q H (Same.refl _)
end
end Eu
set_option Elab.async false
set_option linter.all false
set_option maxRecDepth 100000
set_option maxHeartbeats 4000000
namespace Eu
open PySem PySem.Spec PyProof.Rows L2
open C8 (pe_gc pss_cut)
abbrev s_l_bag : Stmt := top 14
theorem sc_l_bag : FnScope ["_law_script", "_law_at", "_law_cell", "_law_far"] ["_law_script", "_law_at"] (defScope s_l_bag) :=
  ⟨rfl, rfl, rfl, by decide +kernel, rfl, by decide +kernel, by decide +kernel⟩
abbrev s_l_word : Stmt := top 16
theorem sc_l_word : FnScope ["_law_bag_here", "_law_some"] ["_law_bag_here"] (defScope s_l_word) :=
  ⟨rfl, rfl, rfl, by decide +kernel, rfl, by decide +kernel, by decide +kernel⟩
abbrev s_l_number : Stmt := top 17
theorem sc_l_number : FnScope ["_law_bag_here", "_law_some"] ["_law_bag_here"] (defScope s_l_number) :=
  ⟨rfl, rfl, rfl, by decide +kernel, rfl, by decide +kernel, by decide +kernel⟩
def spBag (K : PySem.W.Frag) : Sp := fun vs H Q _ => ∃ (a : Addr) (ns : List Int) (i : Int), vs = [.ref a, .int i] ∧ SqL K H a (ns.map V.int) ∧ 0 ≤ i ∧ i ≤ 1000 ∧
  ∀ (p : Addr) (H' : Hp), Same H H' → H p = none → Bag H' p 0 → Q (.ref p) H'
/-- a drawn thing: n draws at most -/
def spDraw (K : PySem.W.Frag) (n : Nat) : Sp := fun vs H Q _ => ∃ (b : Addr) (m : Nat), vs = [.ref b] ∧ Bag H b m ∧ m ≤ 900000 ∧
  ∀ (x : V) (d : PyData) (H' : Hp), But b H H' → Bag H' b (m + n) → Dp K (hid H' b) x d → cost d ≤ 2000 → fine d = true → d.depth ≤ 1 → Q x H'
def spWord (K : PySem.W.Frag) (n : Nat) : Sp := fun vs H Q _ => ∃ (b : Addr) (m : Nat), vs = [.ref b] ∧ Bag H b m ∧ m ≤ 900000 ∧
  ∀ (z : Str) (H' : Hp), But b H H' → Bag H' b (m + n) → cost (.str z) ≤ 100 → fine (.str z) = true → Q (.str z) H'
theorem but_new {b p : Addr} {H : Hp} {o : HO} (h : H p = none) : But b H (upd H p o) := But.of_same (same_new h)
theorem Bag.new {b p : Addr} {H : Hp} {o : HO} {n : Nat} (h : Bag H b n) (e : H p = none) : Bag (upd H p o) b n := h.same (same_new e)
theorem Bag.ne {b p : Addr} {H : Hp} {n : Nat} (h : Bag H b n) (e : H p = none) : p ≠ b := fun z => by
  obtain ⟨o, ho⟩ := h.some
  rw [z, ho] at e
  cases e
section
variable {P : Program} {w : World} {K : PySem.W.Frag} {mg : Str → Option Value} {base : Heap} {kw : Addr}
theorem ok_bag (B : Bl mg) (D : Df K mg "_law_bag" s_l_bag) : Cal P w K mg base 1 "_law_bag" (spBag K) [] := by
  refine D.cal sc_l_bag (fun _ _ _ _ _ _ us hl => match us, hl with | [_, _], _ => rfl) (fun vs H Q E h => ?_) (fun f cdv A out s H vs Q E hr h => ?_)
  · obtain ⟨a, ns, i, rfl, _⟩ := h
    rfl
  · obtain ⟨a, ns, i, rfl, hS, i0, i1, q⟩ := h
    refine ⟨_, (pss_cut (ps_set (i := 2) sc_l_bag.nd rfl (Or.inl rfl) (pe_ifExp (pt_cmpR op_lt (pv 1) (pe_callB call_len_seq (by rfl) B.len (by decide +kernel) (pa_cons (pv 0) pa_nil)) (nomark _)) (pe_ix ix_list (pv 0) (pv 1) (fun _ _ => rfl)) pe_int))
(pss_cut (ps_set (i := 3) sc_l_bag.nd rfl (Or.inl rfl) (pe_ifExp (pt_cmpR op_ge (pe_callB call_abs (by rfl) B.abs (by decide +kernel) (pa_cons (pv 2) pa_nil)) (pe_op op_pow pe_int pe_int) (nomark _)) (pe_callB call_abs (by rfl) B.abs (by decide +kernel) (pa_cons (pv 2) pa_nil)) pe_int))
(pss_one (ps_ret (pe_lst (pa_cons (pv 3) (pa_cons (pe_op op_mod (pe_op op_mul (pe_op op_add (pe_op op_add (pe_op op_mod (pv 2) pe_int) (pe_op op_mul pe_int (pv 1))) pe_int) pe_int) pe_int) (pa_cons pe_int pa_nil)))))))), ?_⟩
    refine ⟨fun σ H' => ∃ c : Int, σ = [some (.ref a), some (.int i), some (.int c), none] ∧ H' = H, ?_, ?_⟩
    · refine ⟨_, rfl, _, rfl, a, _, rfl, .inl hS, _, _, rfl, rfl, _, rfl, ?_⟩
      refine ite2 (fun e => ?_) (fun e => ?_)
      · have e' : i < ((ns.map V.int).length : Int) := of_decide_eq_true e
        rw [List.length_map] at e'
        have hi : i.toNat < ns.length := by omega
        refine ⟨_, rfl, _, rfl, a, _, i, .int ns[i.toNat], rfl, rfl, hS, ?_, ⟨_, rfl, rfl⟩⟩
        refine at_of (j := i.toNat) (by omega) ?_
        rw [List.getElem?_map, List.getElem?_eq_getElem hi]
        rfl
      · exact ⟨0, rfl, rfl⟩
    · rintro σ H' ⟨c, rfl, rfl⟩
      refine ⟨fun σ H2 => ∃ g : Int, 0 ≤ g ∧ σ = [some (.ref a), some (.int i), some (.int c), some (.int g)] ∧ H2 = H', ?_, ?_⟩
      · refine ⟨_, rfl, _, rfl, _, _, rfl, rfl, ⟨by decide, by decide, by decide⟩, _, _, rfl, rfl, _, rfl, ?_⟩
        refine ite2 (fun e => ?_) (fun e => ?_)
        · refine ⟨_, rfl, _, rfl, ⟨_, ?_, rfl, rfl⟩⟩
          split <;> omega
        · exact ⟨0, Int.le_refl _, rfl, rfl⟩
      · rintro σ H2 ⟨g, g0, rfl, rfl⟩
        refine ⟨_, rfl, _, rfl, _, _, rfl, rfl, (show (0 : Int) < 2305843009213693951 by decide), _, rfl, _, _, rfl, rfl, .inl ⟨by decide, by decide⟩, _, _, rfl, rfl, _, _, rfl, rfl, _, _, rfl, rfl, .inr ⟨by decide, by decide⟩, _, _, rfl, rfl, (show (0 : Int) < 2305843009213693951 by decide), (by show 3 ≤ sizeLine; decide), fun p np => ?_⟩
        refine q p _ (same_new np) np ⟨g, _, 0, upd_same, g0, Int.emod_nonneg _ (by decide), Int.emod_lt_of_pos _ (by decide), by decide, by decide⟩
end
end Eu
set_option Elab.async false
set_option linter.all false
set_option maxRecDepth 100000
set_option maxHeartbeats 4000000
namespace Eu
open PySem PySem.Spec PyProof.Rows L2
open C8 (pe_gc pss_cut)
theorem But.at {b c : Addr} {H H' : Hp} {o : HO} (h : But b H H') (n : c ≠ b) (e : H c = some o) : H' c = some o := by
  have := h c o (by rw [hid_ne n]; exact e)
  rw [hid_ne n] at this
  exact this
theorem But.put {b p : Addr} {H H' : Hp} {o : HO} (h : But b H H') (n : H p = none) : But b H (L2.upd H' p o) := fun c u e => by
  obtain ⟨nb, e'⟩ := hid_some e
  rw [hid_ne nb, upd_ne (ne_of_none e' n)]
  exact h.at nb e'
theorem Bag.put {b p : Addr} {H : Hp} {o : HO} {n : Nat} (h : Bag H b n) (e : p ≠ b) : Bag (upd H p o) b n := by
  obtain ⟨f, x, c, h1, h2⟩ := h
  exact ⟨f, x, c, by rw [upd_ne e.symm]; exact h1, h2⟩
def words1 : List Str := ["a", "z", "ab", "keyz", "key", "look", "keys", "self", "seld", "looks", "abcde", ""]
def words2 : List Str := ["A", "aB", "a1", "a b", "a\n", " a", "a_", "loo", "zzzz"]
theorem words_ok : ((words1 ++ words2).all fun z => decide (cost (.str z) ≤ 100) && fine (.str z)) = true := by decide +kernel
theorem xs_fine (n : Nat) : fine (.str (repS "x" n)) = true := by
  show ((List.replicate n ("x" : Str).cps.toList).flatten.toArray.toList.all fun c => decide (c < 1114112)) = true
  rw [List.all_eq_true]
  intro c hc
  obtain ⟨l, h1, h2⟩ := List.mem_flatten.mp hc
  have e := List.eq_of_mem_replicate h1
  subst e
  have : c = 120 := by
    have : ("x" : Str).cps.toList = [120] := by decide +kernel
    rw [this] at h2
    simpa using h2
  subst this
  decide
theorem item_str {l : List Str} {i : Int} (h0 : 0 ≤ i) (h1 : i < (l.length : Int)) : ∃ z, z ∈ l ∧ atI (l.map V.str) i = some (.str z) := by
  have hi : i.toNat < l.length := by omega
  refine ⟨l[i.toNat], List.getElem_mem hi, at_of (j := i.toNat) (by omega) ?_⟩
  rw [List.getElem?_map, List.getElem?_eq_getElem hi]
  rfl
section
variable {P : Program} {w : World} {K : PySem.W.Frag} {mg : Str → Option Value} {base : Heap} {kw : Addr}
theorem ok_word (c_l_take : Cal P w K mg base 1 "_law_take" spTake []) (D : Df K mg "_law_word" s_l_word) : Cal P w K mg base 2 "_law_word" (spWord K 2) [] := by
  refine D.cal sc_l_word (fun _ _ _ _ _ _ us hl => match us, hl with | [_], _ => rfl) (fun vs H Q E h => ?_) (fun f cdv A out s H vs Q E hr h => ?_)
  · obtain ⟨b, m, rfl, _⟩ := h
    rfl
  · obtain ⟨b, m, rfl, bag, hm, q⟩ := h
    refine ⟨_, (pss_cons (ps_set (i := 1) sc_l_word.nd rfl (Or.inl rfl) (pe_lst (pa_cons pe_str (pa_cons pe_str (pa_cons pe_str (pa_cons pe_str (pa_cons pe_str (pa_cons pe_str (pa_cons pe_str (pa_cons pe_str (pa_cons pe_str (pa_cons pe_str (pa_cons pe_str (pa_cons pe_str pa_nil))))))))))))))
(pss_cons (ps_set (i := 1) sc_l_word.nd rfl (Or.inl rfl) (pe_op op_cat (pv 1) (pe_lst (pa_cons pe_str (pa_cons pe_str (pa_cons pe_str (pa_cons pe_str (pa_cons pe_str (pa_cons pe_str (pa_cons pe_str (pa_cons pe_str (pa_cons pe_str pa_nil))))))))))))
(pss_cons (ps_expr (pe_bm PySem.F.plainAttrs_list PySem.F.slot_list_append PySem.F.type_list_append mt_append (pv 1) (pa_cons (pe_op op_rep_str pe_str (pe_op op_add pe_int (pe_c c_l_take hr (by decide) (by rfl) (pa_cons (pv 0) (pa_cons pe_int pa_nil))))) pa_nil)))
(pss_one (ps_ret (pe_ix ix_list (pv 1) (pe_c c_l_take hr (by decide) (by rfl) (pa_cons (pv 0) (pa_cons pe_int pa_nil))) (fun _ _ => rfl))))))), ?_⟩
    refine ⟨(by show 12 ≤ sizeLine; decide), fun p1 n1 => ?_⟩
    show tSeq _ _ _ [some (.ref b), some (.ref p1)] (upd H p1 (.lst (words1.map V.str)))
    refine ⟨_, rfl, (by show 9 ≤ sizeLine; decide), fun p2 n2 => ?_⟩
    have np : p1 ≠ p2 := fun e => by rw [← e, upd_same] at n2; cases n2
    refine ⟨p1, p2, words1.map V.str, words2.map V.str, rfl, rfl, by rw [upd_ne np, upd_same], upd_same, (by show 21 ≤ sizeLine; decide), fun p3 n3 => ?_⟩
    have bag3 := ((bag.new n1 (o := .lst (words1.map V.str))).new n2 (o := .lst (words2.map V.str))).new n3 (o := .lst (words1.map V.str ++ words2.map V.str))
    have e3 : ∀ c, H c = none → True := fun _ _ => trivial
    have n3b : p3 ≠ b := ((bag.new n1 (o := .lst (words1.map V.str))).new n2 (o := .lst (words2.map V.str))).ne n3
    have n3H : H p3 = none := (same_new n1).free ((same_new n2).free n3)
    have but3 : But b H (upd (upd (upd H p1 (.lst (words1.map V.str))) p2 (.lst (words2.map V.str))) p3 (.lst (words1.map V.str ++ words2.map V.str))) :=
      (but_new n1).trans ((but_new n2).trans (but_new n3))
    refine ⟨.ref p3, rfl, .inl ⟨rfl, _, .inl (.inl upd_same)⟩, _, rfl, b, 6, m, rfl, by decide, by decide, bag3, by omega, fun d H4 d0 d1 bu4 bag4 => ?_⟩
    have h4 : H4 p3 = some (.lst (words1.map V.str ++ words2.map V.str)) := bu4.at n3b upd_same
    refine ⟨_, _, rfl, rfl, _, _, rfl, rfl, by omega, by omega, by decide, p3, _, _, rfl, rfl, h4, (by show 21 < sizeLine; decide), ?_⟩
    refine ⟨.ref p3, rfl, .ref b, rfl, b, 22, m + 1, rfl, by decide, by decide, bag4.put n3b, by omega, fun i H5 i0 i1 bu5 bag5 => ?_⟩
    have h5 : H5 p3 = some (.lst ((words1 ++ words2 ++ [repS "x" (1 + d).toNat]).map V.str)) := bu5.at n3b upd_same
    obtain ⟨z, hz, ha⟩ := item_str (l := words1 ++ words2 ++ [repS "x" (1 + d).toNat]) i0 (by
      rw [List.length_append]
      show i < ((21 + 1 : Nat) : Int)
      omega)
    refine ⟨p3, _, i, .str z, rfl, rfl, .inl (.inl h5), ha, ?_⟩
    have fin : cost (.str z) ≤ 100 ∧ fine (.str z) = true := by
      rcases List.mem_append.mp hz with hz | hz
      · have := List.all_eq_true.mp words_ok z hz
        rw [Bool.and_eq_true, decide_eq_true_eq] at this
        exact this
      · have e : z = repS "x" (1 + d).toNat := by simpa using hz
        subst e
        refine ⟨?_, xs_fine _⟩
        show 10 * (repS "x" (1 + d).toNat).length + 2 ≤ 100
        rw [repS_len]
        rw [show ("x" : Str).length = 1 from rfl]
        omega
    exact q z H5 (((but3.trans bu4).put n3H).trans bu5) bag5 fin.1 fin.2
end
end Eu
set_option Elab.async false
set_option linter.all false
set_option maxRecDepth 100000
set_option maxHeartbeats 4000000
namespace Eu
open PySem PySem.Spec PyProof.Rows L2
open C8 (pe_gc pss_cut)
abbrev s_l_thing : Stmt := top 18
theorem sc_l_thing : FnScope ["_law_bag_here", "_law_word_here", "_law_key", "_law_amount", "_law_way", "_law_some"] ["_law_bag_here"] (defScope s_l_thing) :=
  ⟨rfl, rfl, rfl, by decide +kernel, rfl, by decide +kernel, by decide +kernel⟩
/-- a drawn thing -/
def spThing (K : PySem.W.Frag) (n : Nat) : Sp := fun vs H Q _ => ∃ (b : Addr) (m : Nat), vs = [.ref b] ∧ Bag H b m ∧ m ≤ 800000 ∧
  ∀ (x : V) (d : PyData) (H' : Hp), But b H H' → Bag H' b (m + n) → Th K (hid H' b) x d → cost d ≤ 50000 → fine d = true → d.depth ≤ 4 → Q x H'
def nums1 : List V := [.int 0, .int 1, .int 999999, .int 1000000, .int (-1), .bl true, .bl false, .non, .str "1", .int (10 ^ Int.toNat 40 - 1), .int (1 - 10 ^ Int.toNat 40)]
def numsD : List PyData := [.int 0, .int 1, .int 999999, .int 1000000, .int (-1), .bool true, .bool false, .none, .str "1", .int (10 ^ Int.toNat 40 - 1), .int (1 - 10 ^ Int.toNat 40)]
theorem nums1_dp {K : PySem.W.Frag} {H : Hp} : DpAll K H nums1 numsD :=
  .cons (.int _) (.cons (.int _) (.cons (.int _) (.cons (.int _) (.cons (.int _) (.cons (.bl _) (.cons (.bl _) (.cons .non (.cons (.str _) (.cons (.int _) (.cons (.int _) .nil))))))))))
theorem dpAll_append {K : PySem.W.Frag} {H : Hp} : ∀ {xs ys : List V} {ds es : List PyData}, DpAll K H xs ds → DpAll K H ys es → DpAll K H (xs ++ ys) (ds ++ es)
  | _, _, _, _, .nil, h => h
  | _, _, _, _, .cons h t, k => .cons h (dpAll_append t k)
theorem numsD_ok : (numsD.all fun d => decide (cost d ≤ 2000) && (fine d && decide (d.depth ≤ 1))) = true := by decide +kernel
section
variable {P : Program} {w : World} {K : PySem.W.Frag} {mg : Str → Option Value} {base : Heap} {kw : Addr}
theorem ok_number (c_l_take : Cal P w K mg base 1 "_law_take" spTake []) (D : Df K mg "_law_number" s_l_number) : Cal P w K mg base 2 "_law_number" (spDraw K 2) [] := by
  refine D.cal sc_l_number (fun _ _ _ _ _ _ us hl => match us, hl with | [_], _ => rfl) (fun vs H Q E h => ?_) (fun f cdv A out s H vs Q E hr h => ?_)
  · obtain ⟨b, m, rfl, _⟩ := h
    rfl
  · obtain ⟨b, m, rfl, bag, hm, q⟩ := h
    refine ⟨_, (pss_cons (ps_set (i := 1) sc_l_number.nd rfl (Or.inl rfl) (pe_lst (pa_cons pe_int (pa_cons pe_int (pa_cons pe_int (pa_cons pe_int (pa_cons (pe_un un_neg pe_int) (pa_cons pe_bl (pa_cons pe_bl (pa_cons pe_non (pa_cons pe_str (pa_cons (pe_op op_sub (pe_op op_pow pe_int pe_int) pe_int) (pa_cons (pe_op op_sub pe_int (pe_op op_pow pe_int pe_int)) pa_nil)))))))))))))
(pss_one (ps_ret (pe_ix ix_list (pe_op op_cat (pv 1) (pe_lst (pa_cons pe_int (pa_cons (pe_tup (pa_cons pe_int pa_nil)) (pa_cons (pe_lst (pa_cons pe_int pa_nil)) (pa_cons (pe_c c_l_take hr (by decide) (by rfl) (pa_cons (pv 0) (pa_cons (pe_op op_pow pe_int pe_int) pa_nil))) pa_nil)))))) (pe_c c_l_take hr (by decide) (by rfl) (pa_cons (pv 0) (pa_cons pe_int pa_nil))) (fun _ _ => rfl))))), ?_⟩
    refine ⟨_, rfl, _, _, rfl, rfl, ⟨by decide, by decide, by decide⟩, _, _, rfl, rfl, _, _, rfl, rfl, ⟨by decide, by decide, by decide⟩, _, _, rfl, rfl, (by show 11 ≤ sizeLine; decide), fun p1 n1 => ?_⟩
    have eN : ([V.int 0, V.int 1, V.int 999999, V.int 1000000, V.int (-1), V.bl true, V.bl false, V.non, V.str "1", V.int (10 ^ Int.toNat 40 - 1), V.int (1 - 10 ^ Int.toNat 40)] : List V) = nums1 := rfl
    dsimp only
    rw [eN]
    have b1 := bag.new n1 (o := .lst nums1)
    -- (1,) and [1]
    refine ⟨_, rfl, (by show 1 ≤ sizeLine; decide), fun t nt => ⟨(by show 1 ≤ sizeLine; decide), fun l nl => ?_⟩⟩
    have bt := b1.new nt (o := .tup [.int 1])
    have bl := bt.new nl (o := .lst [.int 1])
    have but1 : But b H (upd (upd (upd H p1 (.lst nums1)) t (.tup [.int 1])) l (.lst [.int 1])) := (but_new n1).trans ((but_new nt).trans (but_new nl))
    have ntb := b1.ne nt
    have nlb := bt.ne nl
    have n1b := bag.ne n1
    have t1 : (upd (upd (upd H p1 (.lst nums1)) t (.tup [.int 1])) l (.lst [.int 1])) t = some (.tup [.int 1]) := same_new nl _ _ upd_same
    have p1' : (upd (upd (upd H p1 (.lst nums1)) t (.tup [.int 1])) l (.lst [.int 1])) p1 = some (.lst nums1) := same_new nl _ _ (same_new nt _ _ upd_same)
    refine ⟨_, rfl, _, _, rfl, rfl, ⟨by decide, by decide, by decide⟩, b, 10 ^ (Int.toNat 6), m, rfl, by decide, by decide, bl, by omega, fun z H2 z0 z1 bu2 bag2 => ?_⟩
    refine ⟨(by show 4 ≤ sizeLine; decide), fun p2 n2 => ?_⟩
    have bag2' := bag2.new n2 (o := .lst [.int 999998, .ref t, .ref l, .int z])
    have h1 : (upd H2 p2 (.lst [.int 999998, .ref t, .ref l, .int z])) p1 = some (.lst nums1) := same_new n2 _ _ (bu2.at n1b p1')
    refine ⟨p1, p2, nums1, _, rfl, rfl, h1, upd_same, (by show 15 ≤ sizeLine; decide), fun p3 n3 => ?_⟩
    have n3b := bag2'.ne n3
    refine ⟨_, rfl, b, 15, m + 1, rfl, by decide, by decide, bag2'.new n3, by omega, fun i H4 i0 i1 bu4 bag4 => ?_⟩
    have h4 := bu4.at n3b upd_same
    have mid : But b (upd (upd (upd H p1 (.lst nums1)) t (.tup [.int 1])) l (.lst [.int 1])) H4 := bu2.trans ((but_new n2).trans ((but_new n3).trans bu4))
    have ht : (hid H4 b) t = some (.tup [.int 1]) := by rw [hid_ne ntb]; exact mid.at ntb t1
    have hl : (hid H4 b) l = some (.lst [.int 1]) := by rw [hid_ne nlb]; exact mid.at nlb upd_same
    have all : DpAll K (hid H4 b) (nums1 ++ [.int 999998, .ref t, .ref l, .int z]) (numsD ++ [.int 999998, .tuple [.int 1], .list [.int 1], .int z]) :=
      dpAll_append nums1_dp (.cons (.int _) (.cons (.tup (.inl (.inl ht)) (.cons (.int _) .nil)) (.cons (.lst (.inl (.inl hl)) (.cons (.int _) .nil)) (.cons (.int _) .nil))))
    obtain ⟨x, d, ha, hd, hx⟩ := dp_item all i0 (by show i < ((11 + 4 : Nat) : Int); omega)
    refine ⟨p3, _, i, x, rfl, rfl, .inl (.inl h4), ha, ?_⟩
    have fin : cost d ≤ 2000 ∧ fine d = true ∧ d.depth ≤ 1 := by
      rcases List.mem_append.mp hd with hd | hd
      · have := List.all_eq_true.mp numsD_ok d hd
        rw [Bool.and_eq_true, Bool.and_eq_true, decide_eq_true_eq, decide_eq_true_eq] at this
        exact this
      · have hz : fine (.int z) = true := by
          show decide (z.natAbs.log2 < 1920) = true
          refine decide_eq_true ?_
          by_cases e : z.natAbs = 0
          · rw [e]; decide
          · exact (Nat.log2_lt e).mpr (Nat.lt_of_lt_of_le (show z.natAbs < 2 ^ 20 by
              have : z < 1000000 := z1
              omega) (Nat.pow_le_pow_right (by decide) (by decide)))
        simp only [List.mem_cons, List.not_mem_nil, or_false] at hd
        rcases hd with e | e | e | e
        · subst e; decide +kernel
        · subst e; decide +kernel
        · subst e; decide +kernel
        · subst e; exact ⟨by show 1921 ≤ 2000; decide, hz, Nat.zero_le _⟩
    exact q x d H4 (but1.trans mid) bag4 hx fin.1 fin.2.1 fin.2.2
theorem ok_thing (c_l_take : Cal P w K mg base 1 "_law_take" spTake []) (c_l_word : Cal P w K mg base 2 "_law_word" (spWord K 2) []) (c_l_number : Cal P w K mg base 2 "_law_number" (spDraw K 2) []) (D : Df K mg "_law_thing" s_l_thing) : Cal P w K mg base 3 "_law_thing" (spThing K 8) [] := by
  refine D.cal sc_l_thing (fun _ _ _ _ _ _ us hl => match us, hl with | [_], _ => rfl) (fun vs H Q E h => ?_) (fun f cdv A out s H vs Q E hr h => ?_)
  · obtain ⟨b, m, rfl, _⟩ := h
    rfl
  · obtain ⟨b, m, rfl, bag, hm, q⟩ := h
    refine ⟨_, (pss_cons (ps_set (i := 1) sc_l_thing.nd rfl (Or.inl rfl) (pe_c c_l_word hr (by decide) (by rfl) (pa_cons (pv 0) pa_nil)))
(pss_cons (ps_par (i := 2) (j := 3) (by rfl) sc_l_thing.nd rfl rfl (by decide) rfl rfl (pa_cons (pe_c c_l_number hr (by decide) (by rfl) (pa_cons (pv 0) pa_nil)) (pa_cons (pe_c c_l_number hr (by decide) (by rfl) (pa_cons (pv 0) pa_nil)) pa_nil)) (by rfl))
(pss_cons (ps_set (i := 4) sc_l_thing.nd rfl (Or.inl rfl) (pe_c c_l_take hr (by decide) (by rfl) (pa_cons (pv 0) (pa_cons pe_int pa_nil))))
(pss_cons (ps_if (pt_cmpR op_lt (pv 4) pe_int (nomark _))
(pss_one (ps_ret (pe_ix ix_list (pe_lst (pa_cons (pv 1) (pa_cons (pv 2) pa_nil))) (pv 4) (fun _ _ => rfl))))
pss_nil)
(pss_cons (ps_if (pt_cmpR op_lt (pv 4) pe_int (nomark _))
(pss_one (ps_ret (pe_tup (pa_cons (pv 2) (pa_cons (pv 1) pa_nil)))))
pss_nil)
(pss_cons (ps_if (pt_cmpR op_lt (pv 4) pe_int (nomark _))
(pss_one (ps_ret (pe_tup (pa_cons (pv 2) (pa_cons (pv 1) (pa_cons (pv 3) pa_nil))))))
pss_nil)
(pss_cons (ps_set (i := 5) sc_l_thing.nd rfl (Or.inl rfl) (pe_lst (pa_cons (pe_lst (pa_cons (pv 2) (pa_cons (pv 1) pa_nil))) (pa_cons (pe_tup (pa_cons (pv 1) (pa_cons (pv 2) pa_nil))) (pa_cons (pe_tup (pa_cons (pv 2) pa_nil)) (pa_cons (pe_tup pa_nil) pa_nil))))))
(pss_cons (ps_if (pt_cmpR op_lt (pv 4) pe_int (nomark _))
(pss_one (ps_ret (pe_ix ix_list (pv 5) (pe_c c_l_take hr (by decide) (by rfl) (pa_cons (pv 0) (pa_cons pe_int pa_nil))) (fun _ _ => rfl))))
pss_nil)
(pss_cons (ps_set (i := 5) sc_l_thing.nd rfl (Or.inl rfl) (pe_lst (pa_cons (pe_tup (pa_cons (pv 2) (pa_cons (pv 1) (pa_cons (pv 3) (pa_cons pe_int pa_nil))))) (pa_cons (pe_lst (pa_cons (pv 2) (pa_cons (pv 1) (pa_cons (pv 3) pa_nil)))) (pa_cons (pe_disp (pps_cons pe_int (pv 1) pps_nil) (by rfl) (by rfl) (fun z => by cases z) (by decide)) pa_nil)))))
(pss_cons (ps_expr (pe_bm PySem.F.plainAttrs_list PySem.F.slot_list_append PySem.F.type_list_append mt_append (pv 5) (pa_cons (pe_tup (pa_cons (pe_tup (pa_cons (pv 2) (pa_cons (pv 1) pa_nil))) (pa_cons (pv 3) pa_nil))) pa_nil)))
(pss_one (ps_ret (pe_ix ix_list (pv 5) (pe_c c_l_take hr (by decide) (by rfl) (pa_cons (pv 0) (pa_cons pe_int pa_nil))) (fun _ _ => rfl)))))))))))))), ?_⟩
    refine ⟨_, rfl, b, m, rfl, bag, by omega, fun z H1 bu1 bag1 zc zf => ?_⟩
    refine ⟨_, rfl, b, m + 2, rfl, bag1, by omega, fun x d H2 bu2 bag2 hx xc xf xd => ?_⟩
    refine ⟨_, rfl, b, m + 2 + 2, rfl, bag2, by omega, fun y e H3 bu3 bag3 hy yc yf yd => ?_⟩
    refine ⟨_, _, rfl, ?_⟩
    refine ⟨_, rfl, b, 14, m + 2 + 2 + 2, rfl, by decide, by decide, bag3, by omega, fun k H4 k0 k1 bu4 bag4 => ?_⟩
    have hx4 : Dp K (hid H4 b) x d := Same.dp (bu3.trans bu4) hx
    have hy4 : Dp K (hid H4 b) y e := Same.dp bu4 hy
    have but4 : But b H H4 := bu1.trans (bu2.trans (bu3.trans bu4))
    have bag8 : ∀ {H'}, Bag H' b (m + 2 + 2 + 2 + 1) → Bag H' b (m + 8) := fun h => h.mono (by omega)
    -- a new object p over a heap H' that has grown
    have dnew : ∀ {H' : Hp} {p : Addr} {o : HO} {v : V} {c : PyData}, Dp K (hid H' b) v c → H' p = none → Dp K (hid (upd H' p o) b) v c := fun h n => Same.dp (but_new n) h
    have hat : ∀ {H' : Hp} {p : Addr} {o : HO}, p ≠ b → (hid (upd H' p o) b) p = some o := fun n => by rw [hid_ne n, upd_same]
    have cz : cost (.str z) ≤ 100 := zc
    have dt2 : ∀ c1 c2 : PyData, cost (.tuple [c1, c2]) = cost c1 + 2 + (cost c2 + 2 + 0) + 3 := fun _ _ => rfl
    have dt3 : ∀ c1 c2 c3 : PyData, cost (.tuple [c1, c2, c3]) = cost c1 + 2 + (cost c2 + 2 + (cost c3 + 2 + 0)) + 3 := fun _ _ _ => rfl
    have f2 : fine (.tuple [d, .str z]) = true := by show (fine d && (fine (.str z) && true)) = true; rw [xf, zf]; rfl
    have f3 : fine (.tuple [d, .str z, e]) = true := by show (fine d && (fine (.str z) && (fine e && true))) = true; rw [xf, zf, yf]; rfl
    refine ⟨_, rfl, _, _, rfl, rfl, _, rfl, ite2 (fun h => ?_) (fun h2 => ?_)⟩
    · have h' : k < 2 := of_decide_eq_true h
      refine ⟨_, rfl, _, rfl, (by show 2 ≤ sizeLine; decide), fun p np => ?_⟩
      have al : DpAll K (hid (upd H4 p (.lst [.str z, x])) b) [.str z, x] [.str z, d] := .cons (.str _) (.cons (dnew hx4 np) .nil)
      obtain ⟨v, c, ha, hc, hv⟩ := dp_item al k0 (by show k < ((2 : Nat) : Int); omega)
      refine ⟨_, rfl, p, _, k, v, rfl, rfl, .inl (.inl upd_same), ha, ?_⟩
      have : cost c ≤ 2000 ∧ fine c = true ∧ c.depth ≤ 4 := by
        simp only [List.mem_cons, List.not_mem_nil, or_false] at hc
        rcases hc with rfl | rfl
        · exact ⟨by omega, zf, Nat.zero_le _⟩
        · exact ⟨xc, xf, by omega⟩
      exact q v c _ (but4.trans (but_new np)) (bag8 (bag4.new np)) (.inl hv) (by omega) this.2.1 this.2.2
    refine ⟨_, rfl, _, _, rfl, rfl, _, rfl, ite2 (fun h => ?_) (fun h6 => ?_)⟩
    · refine ⟨_, rfl, _, rfl, (by show 2 ≤ sizeLine; decide), fun p np => ?_⟩
      have npb := bag4.ne np
      exact q _ (.tuple [d, .str z]) _ (but4.trans (but_new np)) (bag8 (bag4.new np)) (.inl (.tup (.inl (.inl (hat npb))) (.cons (dnew hx4 np) (.cons (.str _) .nil)))) (by rw [dt2]; omega) f2 (by show max d.depth (max 0 0) + 1 ≤ 4; omega)
    refine ⟨_, rfl, _, _, rfl, rfl, _, rfl, ite2 (fun h => ?_) (fun h10 => ?_)⟩
    · refine ⟨_, rfl, _, rfl, _, rfl, (by show 3 ≤ sizeLine; decide), fun p np => ?_⟩
      have npb := bag4.ne np
      exact q _ (.tuple [d, .str z, e]) _ (but4.trans (but_new np)) (bag8 (bag4.new np)) (.inl (.tup (.inl (.inl (hat npb))) (.cons (dnew hx4 np) (.cons (.str _) (.cons (dnew hy4 np) .nil))))) (by rw [dt3]; omega) f3 (by show max d.depth (max 0 (max e.depth 0)) + 1 ≤ 4; omega)
    -- four things in a list
    refine ⟨_, rfl, _, rfl, (by show 2 ≤ sizeLine; decide), fun p1 n1 => ?_⟩
    refine ⟨_, rfl, _, rfl, (by show 2 ≤ sizeLine; decide), fun p2 n2 => ?_⟩
    refine ⟨_, rfl, (by show 1 ≤ sizeLine; decide), fun p3 n3 => ?_⟩
    refine ⟨(by show 0 ≤ sizeLine; decide), fun p4 n4 => ⟨(by show 4 ≤ sizeLine; decide), fun p5 n5 => ?_⟩⟩
    have g1 := bag4.new n1 (o := .lst [x, .str z])
    have g2 := g1.new n2 (o := .tup [.str z, x])
    have g3 := g2.new n3 (o := .tup [x])
    have g4 := g3.new n4 (o := .tup [])
    have g5 := g4.new n5 (o := .lst [.ref p1, .ref p2, .ref p3, .ref p4])
    have b1 := bag4.ne n1
    have b2 := g1.ne n2
    have b3 := g2.ne n3
    have b4 := g3.ne n4
    have b5 := g4.ne n5
    have but5 := (but4.trans (but_new n1 (o := .lst [x, .str z]))).trans ((but_new n2 (o := .tup [.str z, x])).trans ((but_new n3 (o := .tup [x])).trans ((but_new n4 (o := .tup [])).trans (but_new n5 (o := .lst [.ref p1, .ref p2, .ref p3, .ref p4])))))
    have hx5 := dnew (o := .lst [.ref p1, .ref p2, .ref p3, .ref p4]) (dnew (o := .tup []) (dnew (o := .tup [x]) (dnew (o := .tup [.str z, x]) (dnew (o := .lst [x, .str z]) hx4 n1) n2) n3) n4) n5
    have hy5 := dnew (o := .lst [.ref p1, .ref p2, .ref p3, .ref p4]) (dnew (o := .tup []) (dnew (o := .tup [x]) (dnew (o := .tup [.str z, x]) (dnew (o := .lst [x, .str z]) hy4 n1) n2) n3) n4) n5
    have k1' := same_new n5 (o := .lst [.ref p1, .ref p2, .ref p3, .ref p4]) _ _ (same_new n4 (o := .tup []) _ _ (same_new n3 (o := .tup [x]) _ _ (same_new n2 (o := .tup [.str z, x]) _ _ (upd_same (H := H4) (a := p1) (o := .lst [x, .str z])))))
    have k2' := same_new n5 (o := .lst [.ref p1, .ref p2, .ref p3, .ref p4]) _ _ (same_new n4 (o := .tup []) _ _ (same_new n3 (o := .tup [x]) _ _ (upd_same (a := p2) (o := .tup [.str z, x]))))
    have k3' := same_new n5 (o := .lst [.ref p1, .ref p2, .ref p3, .ref p4]) _ _ (same_new n4 (o := .tup []) _ _ (upd_same (a := p3) (o := .tup [x])))
    have k4' := same_new n5 (o := .lst [.ref p1, .ref p2, .ref p3, .ref p4]) _ _ (upd_same (a := p4) (o := .tup []))
    have k5' := upd_same (H := upd (upd (upd (upd H4 p1 (.lst [x, .str z])) p2 (.tup [.str z, x])) p3 (.tup [x])) p4 (.tup [])) (a := p5) (o := .lst [.ref p1, .ref p2, .ref p3, .ref p4])
    generalize upd (upd (upd (upd (upd H4 p1 (.lst [x, .str z])) p2 (.tup [.str z, x])) p3 (.tup [x])) p4 (.tup [])) p5 (.lst [.ref p1, .ref p2, .ref p3, .ref p4]) = H5 at *
    refine ⟨_, rfl, _, _, rfl, rfl, _, rfl, ite2 (fun h => ?_) (fun h12 => ?_)⟩
    · refine ⟨_, rfl, _, rfl, b, 4, m + 2 + 2 + 2 + 1, rfl, by decide, by decide, g5, by omega, fun i H6 i0 i1 bu6 bag6 => ?_⟩
      have at6 : ∀ {p : Addr} {o : HO}, p ≠ b → H5 p = some o → (hid H6 b) p = some o := fun n e => by rw [hid_ne n]; exact bu6.at n e
      have hx6 : Dp K (hid H6 b) x d := Same.dp bu6 hx5
      have al : DpAll K (hid H6 b) [.ref p1, .ref p2, .ref p3, .ref p4] [.list [d, .str z], .tuple [.str z, d], .tuple [d], .tuple []] :=
        .cons (.lst (.inl (.inl (at6 b1 k1'))) (.cons hx6 (.cons (.str _) .nil))) (.cons (.tup (.inl (.inl (at6 b2 k2'))) (.cons (.str _) (.cons hx6 .nil)))
          (.cons (.tup (.inl (.inl (at6 b3 k3'))) (.cons hx6 .nil)) (.cons (.tup (.inl (.inl (at6 b4 k4'))) .nil) .nil)))
      obtain ⟨v, c, ha, hc, hv⟩ := dp_item al i0 (by show i < ((4 : Nat) : Int); omega)
      refine ⟨p5, _, i, v, rfl, rfl, .inl (.inl (bu6.at b5 k5')), ha, ?_⟩
      have : cost c ≤ 50000 ∧ fine c = true ∧ c.depth ≤ 4 := by
        simp only [List.mem_cons, List.not_mem_nil, or_false] at hc
        rcases hc with rfl | rfl | rfl | rfl
        · exact ⟨by show cost d + 2 + (cost (.str z) + 2 + 0) + 3 ≤ 50000; omega, f2, by show max d.depth (max 0 0) + 1 ≤ 4; omega⟩
        · exact ⟨by show cost (.str z) + 2 + (cost d + 2 + 0) + 3 ≤ 50000; omega, by show (fine (.str z) && (fine d && true)) = true; rw [xf, zf]; rfl, by show max 0 (max d.depth 0) + 1 ≤ 4; omega⟩
        · exact ⟨by show cost d + 2 + 0 + 3 ≤ 50000; omega, by show (fine d && true) = true; rw [xf]; rfl, by show max d.depth 0 + 1 ≤ 4; omega⟩
        · exact ⟨by decide, rfl, by decide⟩
      exact q v c _ (but5.trans bu6) (bag6.mono (by omega)) (.inl hv) this.1 this.2.1 this.2.2
    -- four more
    refine ⟨_, rfl, _, rfl, _, rfl, (by show 4 ≤ sizeLine; decide), fun q1 o1 => ?_⟩
    refine ⟨_, rfl, _, rfl, _, rfl, (by show 3 ≤ sizeLine; decide), fun q2 o2 => ?_⟩
    refine fun q3 o3 => ?_
    refine ⟨_, rfl, upd_same, [(Sum.inl 0, .str z)], rfl, (by show 1 ≤ 15; decide), (by show 3 ≤ sizeLine; decide), fun q4 o4 => ?_⟩
    have edict : upd (upd (upd (upd H5 q1 (.tup [x, .str z, y, .int 0])) q2 (.lst [x, .str z, y])) q3 (.dK [])) q3 (.dK (mergeK [] [(Sum.inl 0, .str z)])) = upd (upd (upd H5 q1 (.tup [x, .str z, y, .int 0])) q2 (.lst [x, .str z, y])) q3 (.dK [(Sum.inl 0, .str z)]) := upd_upd
    rw [edict] at o4 ⊢
    have c1 := g5.ne o1
    have j1 := g5.new o1 (o := .tup [x, .str z, y, .int 0])
    have c2 := j1.ne o2
    have j2 := j1.new o2 (o := .lst [x, .str z, y])
    have c3 := j2.ne o3
    have j3 := j2.new o3 (o := .dK [(Sum.inl 0, .str z)])
    have c4 := j3.ne o4
    have j4 := j3.new o4 (o := .lst [.ref q1, .ref q2, .ref q3])
    have but53 := (but_new (b := b) o1 (o := .tup [x, .str z, y, .int 0])).trans ((but_new o2 (o := .lst [x, .str z, y])).trans (but_new o3 (o := .dK [(Sum.inl 0, .str z)])))
    have but56 := but53.trans (but_new o4 (o := .lst [.ref q1, .ref q2, .ref q3]))
    have n4H5 : H5 q4 = none := but53.free c4 o4
    have l1 := same_new o4 (o := .lst [.ref q1, .ref q2, .ref q3]) _ _ (same_new o3 (o := .dK [(Sum.inl 0, .str z)]) _ _ (same_new o2 (o := .lst [x, .str z, y]) _ _ (upd_same (H := H5) (a := q1) (o := .tup [x, .str z, y, .int 0]))))
    have l2 := same_new o4 (o := .lst [.ref q1, .ref q2, .ref q3]) _ _ (same_new o3 (o := .dK [(Sum.inl 0, .str z)]) _ _ (upd_same (a := q2) (o := .lst [x, .str z, y])))
    have l3 := same_new o4 (o := .lst [.ref q1, .ref q2, .ref q3]) _ _ (upd_same (a := q3) (o := .dK [(Sum.inl 0, .str z)]))
    have l4 := upd_same (H := upd (upd (upd H5 q1 (.tup [x, .str z, y, .int 0])) q2 (.lst [x, .str z, y])) q3 (.dK [(Sum.inl 0, .str z)])) (a := q4) (o := .lst [.ref q1, .ref q2, .ref q3])
    generalize upd (upd (upd (upd H5 q1 (.tup [x, .str z, y, .int 0])) q2 (.lst [x, .str z, y])) q3 (.dK [(Sum.inl 0, .str z)])) q4 (.lst [.ref q1, .ref q2, .ref q3]) = H6 at *
    refine ⟨_, rfl, .inl ⟨rfl, _, .inl (.inl l4)⟩, _, rfl, _, rfl, (by show 2 ≤ sizeLine; decide), fun r1 s1 => ?_⟩
    refine ⟨_, rfl, (by show 2 ≤ sizeLine; decide), fun r2 s2 => ?_⟩
    have d1 := j4.ne s1
    have i1 := j4.new s1 (o := .tup [x, .str z])
    have d2 := i1.ne s2
    have i2 := i1.new s2 (o := .tup [.ref r1, y])
    have l4' := same_new s2 (o := .tup [.ref r1, y]) _ _ (same_new s1 (o := .tup [x, .str z]) _ _ l4)
    refine ⟨q4, _, _, rfl, rfl, l4', (by show 3 < sizeLine; decide), ?_⟩
    have m1 : q1 ≠ q4 := fun z => by rw [z, l4] at l1; cases l1
    have m2 : q2 ≠ q4 := fun z => by rw [z, l4] at l2; cases l2
    have m3 : q3 ≠ q4 := fun z => by rw [z, l4] at l3; cases l3
    have w1 : r1 ≠ q4 := fun z => by rw [z, l4] at s1; cases s1
    have w2 : r2 ≠ q4 := fun z => by rw [z, same_new s1 _ _ l4] at s2; cases s2
    have up : ∀ {p : Addr} {o : HO}, H6 p = some o → (upd (upd H6 r1 (.tup [x, .str z])) r2 (.tup [.ref r1, y])) p = some o := fun h => same_new s2 _ _ (same_new s1 _ _ h)
    have bu7 : But b H6 (upd (upd H6 r1 (.tup [x, .str z])) r2 (.tup [.ref r1, y])) := (but_new s1).trans (but_new s2)
    have r1' : (upd (upd H6 r1 (.tup [x, .str z])) r2 (.tup [.ref r1, y])) r1 = some (.tup [x, .str z]) := same_new s2 _ _ upd_same
    have r2' : (upd (upd H6 r1 (.tup [x, .str z])) r2 (.tup [.ref r1, y])) r2 = some (.tup [.ref r1, y]) := upd_same
    generalize upd (upd H6 r1 (.tup [x, .str z])) r2 (.tup [.ref r1, y]) = H7 at *
    refine ⟨_, rfl, _, rfl, b, 4, m + 2 + 2 + 2 + 1, rfl, by decide, by decide, i2.put c4, by omega, fun i H8 i0 i1' bu8 bag8' => ?_⟩
    have at8 : ∀ {p : Addr} {o : HO}, p ≠ b → p ≠ q4 → H7 p = some o → (hid H8 b) p = some o := fun n n' e => by rw [hid_ne n]; exact bu8.at n (by rw [upd_ne n']; exact e)
    have bu58 : But b H5 H8 := ((but56.trans bu7).put n4H5).trans bu8
    have hx8 : Dp K (hid H8 b) x d := Same.dp bu58 hx5
    have hy8 : Dp K (hid H8 b) y e := Same.dp bu58 hy5
    have fe : fine (.tuple [.tuple [d, .str z], e]) = true := by show (fine (.tuple [d, .str z]) && (fine e && true)) = true; rw [f2, yf]; rfl
    have k8 : H8 q4 = some (.lst ([.ref q1, .ref q2, .ref q3] ++ [.ref r2])) := bu8.at c4 upd_same
    have done : ∀ (v : V) (c : PyData), Th K (hid H8 b) v c → cost c ≤ 50000 → fine c = true → c.depth ≤ 4 → Q v H8 := fun v c h1 h2 h3 h4 =>
      q v c H8 (but5.trans bu58) (bag8'.mono (by omega)) h1 h2 h3 h4
    have cases4 : i = 0 ∨ i = 1 ∨ i = 2 ∨ i = 3 := by omega
    rcases cases4 with e0 | e0 | e0 | e0
    · subst e0
      refine ⟨q4, _, 0, .ref q1, rfl, rfl, .inl (.inl k8), atI_nat (j := 0) rfl, ?_⟩
      refine done _ (.tuple [d, .str z, e, .int 0]) (.inl (.tup (.inl (.inl (at8 c1 m1 (up l1)))) (.cons hx8 (.cons (.str _) (.cons hy8 (.cons (.int _) .nil)))))) ?_ ?_ (by show max d.depth (max 0 (max e.depth (max 0 0))) + 1 ≤ 4; omega)
      · show cost d + 2 + (cost (.str z) + 2 + (cost e + 2 + (1921 + 2 + 0))) + 3 ≤ 50000
        omega
      · show (fine d && (fine (.str z) && (fine e && (true && true)))) = true
        rw [xf, zf, yf]; rfl
    · subst e0
      refine ⟨q4, _, 1, .ref q2, rfl, rfl, .inl (.inl k8), atI_nat (j := 1) rfl, ?_⟩
      refine done _ (.list [d, .str z, e]) (.inl (.lst (.inl (.inl (at8 c2 m2 (up l2)))) (.cons hx8 (.cons (.str _) (.cons hy8 .nil))))) ?_ ?_ (by show max d.depth (max 0 (max e.depth 0)) + 1 ≤ 4; omega)
      · show cost d + 2 + (cost (.str z) + 2 + (cost e + 2 + 0)) + 3 ≤ 50000
        omega
      · exact f3
    · subst e0
      refine ⟨q4, _, 2, .ref q3, rfl, rfl, .inl (.inl k8), atI_nat (j := 2) rfl, ?_⟩
      refine done _ (.dict [(.int 0, .str z)]) (.inr ⟨q3, z, rfl, at8 c3 m3 (up l3), rfl⟩) ?_ ?_ (by show max (max 0 0) 0 + 1 ≤ 4; decide)
      · show 1921 + 2 + cost (.str z) + 2 + 0 + 2 ≤ 50000
        omega
      · show (true && fine (.str z) && true) = true
        rw [zf]; rfl
    · subst e0
      refine ⟨q4, _, 3, .ref r2, rfl, rfl, .inl (.inl k8), atI_nat (j := 3) rfl, ?_⟩
      refine done _ (.tuple [.tuple [d, .str z], e]) (.inl (.tup (.inl (.inl (at8 d2 w2 r2'))) (.cons (.tup (.inl (.inl (at8 d1 w1 r1'))) (.cons hx8 (.cons (.str _) .nil))) (.cons hy8 .nil)))) ?_ fe (by show max (max d.depth (max 0 0) + 1) (max e.depth 0) + 1 ≤ 4; omega)
      show (cost d + 2 + (cost (.str z) + 2 + 0) + 3) + 2 + (cost e + 2 + 0) + 3 ≤ 50000
      omega
end
end Eu
set_option Elab.async false
set_option linter.all false
set_option maxRecDepth 100000
set_option maxHeartbeats 4000000
namespace Eu
open PySem PySem.Spec PyProof.Rows L2
open C8 (pe_gc pss_cut)
abbrev s_law : Stmt := top 23
theorem sc_law : FnScope ["_law_script", "_law_at", "_law_bag_here", "_law_turn", "_law_thing_here", "_law_kept", "_law_due", "_law_told"] ["_law_script"] (defScope s_law) :=
  ⟨rfl, rfl, rfl, by decide +kernel, rfl, by decide +kernel, by decide +kernel⟩
theorem But.back {b : Addr} {H H1 H2 : Hp} (h : But b H1 H2) (s : Same H H1) (n : H b = none) : Same H H2 := fun c o e =>
  h.at (ne_of_none e n) (s c o e)
theorem Th.out {K : PySem.W.Frag} {b : Addr} {H : Hp} {x : V} {d : PyData} (h : Th K (hid H b) x d) : Th K H x d := h.same hid_same
/-- repr of a thing -/
def rReprT (K : PySem.W.Frag) : List V → Hp → VK → Prop := fun xs H Q => rRepr K xs H Q ∨ rReprD xs H Q
theorem call_reprT {X : Cx} {j : Nat} (hr : Rm j X.A) : CallR X (.builtin "repr") (rReprT X.K) := CallR.or (call_repr hr) (call_reprD hr)
theorem repr_th {K : PySem.W.Frag} {H : Hp} {x : V} {d : PyData} {Q : VK} (h : Th K H x d) (hc : cost d ≤ 50000) (hf : fine d = true) (hd : d.depth ≤ 4) (q : Q (.str d.shown) H) : rReprT K [x] H Q := by
  rcases h with h | ⟨a, z, rfl, h, rfl⟩
  · refine .inl ⟨x, d, rfl, h, fine_showable d hf, by omega, ?_, q⟩
    have := shown_le d hf
    rw [sizeLine_eq]
    omega
  · refine .inr ⟨a, 0, z, rfl, h, hf, ?_, q⟩
    have : 1921 + 2 + (10 * z.length + 2) + 2 + 0 + 2 ≤ 50000 := hc
    omega
def bools (d : PyData) : List Bool := [nameD d, elemD d, entryD d]
theorem repr_bools {K : PySem.W.Frag} {H : Hp} {p : Addr} {d : PyData} {Q : VK} (h : H p = some (.lst [.bl (nameD d), .bl (elemD d), .bl (entryD d)])) (q : Q (.str (PyData.list [.bool (nameD d), .bool (elemD d), .bool (entryD d)]).shown) H) : rReprT K [.ref p] H Q := by
  refine .inl ⟨_, .list [.bool (nameD d), .bool (elemD d), .bool (entryD d)], rfl, .lst (.inl (.inl h)) (.cons (.bl _) (.cons (.bl _) (.cons (.bl _) .nil))), rfl, (by show max 0 (max 0 (max 0 0)) + 1 ≤ 60; decide), ?_, q⟩
  have := shown_le (.list [.bool (nameD d), .bool (elemD d), .bool (entryD d)]) rfl
  have e : cost (.list [.bool (nameD d), .bool (elemD d), .bool (entryD d)]) = 5 + 2 + (5 + 2 + (5 + 2 + 0)) + 3 := rfl
  rw [sizeLine_eq]
  omega
section
variable {P : Program} {w : World} {K : PySem.W.Frag} {mg : Str → Option Value} {base : Heap} {kw : Addr}
theorem body_law (B : Bl mg) (c_l_bag : Cal P w K mg base 1 "_law_bag" (spBag K) []) (c_l_thing : Cal P w K mg base 3 "_law_thing" (spThing K 8) [])
    (c_l_is_name : Cal P w K mg base 1 "_law_is_name" (spB K nameD) []) (c_l_is_element : Cal P w K mg base 2 "_law_is_element" (spB K elemD) []) (c_l_is_entry : Cal P w K mg base 3 "_law_is_entry" (spB K entryD) [])
    (c_is_name : Cal P w K mg base 2 "is_name" (spB K nameD) []) (c_is_element : Cal P w K mg base 4 "is_element" (spB K elemD) []) (c_is_entry : Cal P w K mg base 5 "is_entry" (spB K entryD) [])
    (f : Addr) (cdv : Value) (A : Around) (out : List Env) (s : Shared) (H : Hp) (vs : List V) (Q : VK) (E : XK)
    (hr : Rm 5 (A.deeper (envOfC "law" (defScope s_law) s.heap.objs.size f cdv))) (h : spLaw K vs H Q E) :
    ∃ t, PSs (cxOf CX0 P w K mg base ["_law_script", "_law_at", "_law_bag_here", "_law_turn", "_law_thing_here", "_law_kept", "_law_due", "_law_told"] "law" (defScope s_law) f cdv A out s H E).nox (defBody s_law) t ∧
        t { nx := fun _ H' => Q .non H', rt := Q } (start ["_law_script", "_law_at", "_law_bag_here", "_law_turn", "_law_thing_here", "_law_kept", "_law_due", "_law_told"] vs) H := by
  obtain ⟨a, ns, rfl, hS, hlen, q⟩ := h
  refine ⟨_, (pss_cons (ps_for PassesOwn.never (by rfl) (pi_range1 (by rfl) B.range (pa_cons (pe_callB (call_max2 rfl) (by rfl) B.max (by decide +kernel) (pa_cons pe_int (pa_cons (pe_callB (call_min2 rfl) (by rfl) B.min (by decide +kernel) (pa_cons pe_int (pa_cons (pe_callB call_len_seq (by rfl) B.len (by decide +kernel) (pa_cons (pv 0) pa_nil)) pa_nil))) pa_nil))) pa_nil)) (pg_name (i := 1) sc_law.nd rfl (Or.inl rfl))
(pss_cons (ps_set (i := 2) sc_law.nd rfl (Or.inl rfl) (pe_c c_l_bag hr (by decide) (by rfl) (pa_cons (pv 0) (pa_cons (pv 1) pa_nil))))
(pss_one (ps_for PassesOwn.never (by rfl) (pi_range1 (by rfl) B.range (pa_cons pe_int pa_nil)) (pg_name (i := 3) sc_law.nd rfl (Or.inl rfl))
(pss_cons (ps_set (i := 4) sc_law.nd rfl (Or.inl rfl) (pe_c c_l_thing hr (by decide) (by rfl) (pa_cons (pv 2) pa_nil)))
(pss_cons (ps_set (i := 5) sc_law.nd rfl (Or.inl rfl) (pe_callB (call_reprT hr) (by rfl) B.repr (by decide +kernel) (pa_cons (pv 4) pa_nil)))
(pss_cons (ps_set (i := 6) sc_law.nd rfl (Or.inl rfl) (pe_lst (pa_cons (pe_c c_l_is_name hr (by decide) (by rfl) (pa_cons (pv 4) pa_nil)) (pa_cons (pe_c c_l_is_element hr (by decide) (by rfl) (pa_cons (pv 4) pa_nil)) (pa_cons (pe_c c_l_is_entry hr (by decide) (by rfl) (pa_cons (pv 4) pa_nil)) pa_nil)))))
(pss_cons (ps_set (i := 7) sc_law.nd rfl (Or.inl rfl) (pe_lst (pa_cons (pe_c c_is_name hr (by decide) (by rfl) (pa_cons (pv 4) pa_nil)) (pa_cons (pe_c c_is_element hr (by decide) (by rfl) (pa_cons (pv 4) pa_nil)) (pa_cons (pe_c c_is_entry hr (by decide) (by rfl) (pa_cons (pv 4) pa_nil)) pa_nil)))))
(pss_one (ps_if (PW.pt (pw_or (pt_cmpR op_ne (pe_callB (call_reprT hr) (by rfl) B.repr (by decide +kernel) (pa_cons (pv 7) pa_nil)) (pe_callB (call_reprT hr) (by rfl) B.repr (by decide +kernel) (pa_cons (pv 6) pa_nil)) (nomark _)) (pw_or1 (pt_cmpR op_ne (pe_callB (call_reprT hr) (by rfl) B.repr (by decide +kernel) (pa_cons (pv 4) pa_nil)) (pv 5) (nomark _)))))
(pss_one (ps_ret pe_bl))
pss_nil))))))))))
(pss_one (ps_ret (pe_and (pe_c c_is_name hr (by decide) (by rfl) (pa_cons pe_str pa_nil)) (pe_and (pe_c c_is_element hr (by decide) (by rfl) (pa_cons (pe_tup (pa_cons pe_int (pa_cons pe_str pa_nil))) pa_nil)) (pe_and (pe_c c_is_entry hr (by decide) (by rfl) (pa_cons (pe_tup (pa_cons pe_int (pa_cons pe_str (pa_cons (pe_un un_neg pe_int) pa_nil)))) pa_nil)) (pe_one (pe_not (pe_c c_is_name hr (by decide) (by rfl) (pa_cons pe_str pa_nil)))))))))), ?_⟩
  refine ⟨_, rfl, a, _, rfl, .inl hS, _, _, rfl, _, _, rfl, _, rfl, ?_⟩
  have hn : ∃ n : Nat, n ≤ 6 ∧ (if (if ((ns.map V.int).length : Int) < 6 then ((ns.map V.int).length : Int) else 6) > 2 then (if ((ns.map V.int).length : Int) < 6 then ((ns.map V.int).length : Int) else 6) else 2) = (n : Int) := by
    generalize ((ns.map V.int).length : Nat) = L
    by_cases h6 : ((L : Nat) : Int) < 6
    · by_cases h2 : ((L : Nat) : Int) > 2
      · exact ⟨L, by omega, by simp [h6, h2]⟩
      · exact ⟨2, by decide, by simp [h6, h2]⟩
    · exact ⟨6, by decide, by simp [h6]⟩
  obtain ⟨n, n6, en⟩ := hn
  rw [en]
  refine ⟨by omega, by omega, for_over over_range (fun i σ H' => ∃ x1 x2 x3 x4 x5 x6 x7, σ = [some (.ref a), x1, x2, x3, x4, x5, x6, x7] ∧ Same H H') ⟨none, none, none, none, none, none, none, rfl, Same.refl _⟩ (fun _ _ _ _ _ => trivial) ?_ ?_⟩
  · rintro i x σ H1 v H1' hx ⟨x1, x2, x3, x4, x5, x6, x7, rfl, s1⟩ ⟨rfl, rfl⟩
    obtain ⟨hi, ex⟩ := nums_at hx
    rw [show (((n : Nat) : Int)).toNat = n from Int.toNat_natCast n] at hi
    refine ⟨_, rfl, _, rfl, a, ns, x, rfl, s1.seq hS, by omega, by omega, fun b H2 s2 nb bag => ?_⟩
    have nbH : H b = none := s1.free nb
    have s02 : Same H H2 := s1.trans s2
    refine ⟨10, rfl, by decide, by decide, for_over over_range (fun j σ H' => ∃ x3 x4 x5 x6 x7, σ = [some (.ref a), some (.int x), some (.ref b), x3, x4, x5, x6, x7] ∧ But b H2 H' ∧ Bag H' b (8 * j)) ⟨_, _, _, _, _, rfl, But.refl, bag⟩ (fun _ _ _ _ _ => trivial) ?_ ?_⟩
    · rintro j y σ H3 v H3' hy ⟨y3, y4, y5, y6, y7, rfl, bu3, bag3⟩ ⟨rfl, rfl⟩
      obtain ⟨hj, ey⟩ := nums_at hy
      have hj' : j < 10 := hj
      refine ⟨_, rfl, b, 8 * j, rfl, bag3, by omega, fun x d H4 bu4 bag4 hx hc hf hd => ?_⟩
      have hx4 : Th K H4 x d := hx.out
      have sm : Small d := ⟨by omega, hf⟩
      refine ⟨_, rfl, repr_th hx4 hc hf hd ?_⟩
      refine ⟨_, rfl, x, d, rfl, hx4, sm, fun H5 s5 => ?_⟩
      refine ⟨_, rfl, x, d, rfl, hx4.same s5, sm, fun H6 s6 => ?_⟩
      refine ⟨_, rfl, x, d, rfl, hx4.same (s5.trans s6), sm, fun H7 s7 => ?_⟩
      refine ⟨(by show 3 ≤ sizeLine; decide), fun p1 n1 => ?_⟩
      have s8 := s5.trans (s6.trans (s7.trans (same_new n1 (o := .lst [.bl (nameD d), .bl (elemD d), .bl (entryD d)]))))
      refine ⟨_, rfl, x, d, rfl, hx4.same s8, sm, fun H9 s9 => ?_⟩
      refine ⟨_, rfl, x, d, rfl, hx4.same (s8.trans s9), sm, fun H10 s10 => ?_⟩
      refine ⟨_, rfl, x, d, rfl, hx4.same (s8.trans (s9.trans s10)), sm, fun H11 s11 => ?_⟩
      refine ⟨(by show 3 ≤ sizeLine; decide), fun p2 n2 => ?_⟩
      have s12 := s9.trans (s10.trans (s11.trans (same_new n2 (o := .lst [.bl (nameD d), .bl (elemD d), .bl (entryD d)]))))
      have l1 := s12 _ _ (upd_same (H := H7) (a := p1) (o := .lst [.bl (nameD d), .bl (elemD d), .bl (entryD d)]))
      refine ⟨_, rfl, repr_bools upd_same ?_⟩
      refine ⟨_, rfl, repr_bools l1 ?_⟩
      refine ⟨rfl, _, rfl, ?_⟩
      rw [decide_eq_true rfl]
      refine iteF ?_
      refine ⟨_, rfl, repr_th (hx4.same (s8.trans s12)) hc hf hd ?_⟩
      refine ⟨_, rfl, rfl, _, rfl, ?_⟩
      rw [decide_eq_true rfl]
      refine iteF ?_
      refine ⟨_, _, _, _, _, rfl, bu3.trans (bu4.trans (But.of_same (s8.trans s12))), (bag4.same (s8.trans s12)).mono (by omega)⟩
    · rintro σ H3 ⟨y3, y4, y5, y6, y7, rfl, bu3, bag3⟩
      exact ⟨_, _, _, _, _, _, _, rfl, bu3.back s02 nbH⟩
  · rintro σ H1 ⟨x1, x2, x3, x4, x5, x6, x7, rfl, s1⟩
    have c1 : nameD (.str "key") = true := by decide +kernel
    have c2 : elemD (.tuple [.int 0, .str "seld"]) = true := by decide +kernel
    have c3 : entryD (.tuple [.int 999999, .str "a", .int (-7)]) = true := by decide +kernel
    have c4 : nameD (.str "self") = false := by decide +kernel
    refine ⟨_, .str "key", rfl, .inl (.str _), (by unfold Small; decide +kernel), fun H2 s2 => ⟨_, rfl, ?_⟩⟩
    rw [c1]
    refine iteT ?_
    refine ⟨(by show 2 ≤ sizeLine; decide), fun p np => ?_⟩
    refine ⟨_, .tuple [.int 0, .str "seld"], rfl, .inl (.tup (.inl (.inl upd_same)) (.cons (.int _) (.cons (.str _) .nil))), (by unfold Small; decide +kernel), fun H3 s3 => ⟨_, rfl, ?_⟩⟩
    rw [c2]
    refine iteT ?_
    refine ⟨_, rfl, (by show 3 ≤ sizeLine; decide), fun p' np' => ?_⟩
    refine ⟨_, .tuple [.int 999999, .str "a", .int (-7)], rfl, .inl (.tup (.inl (.inl upd_same)) (.cons (.int _) (.cons (.str _) (.cons (.int _) .nil)))), (by unfold Small; decide +kernel), fun H4 s4 => ⟨_, rfl, ?_⟩⟩
    rw [c3]
    refine iteT ?_
    refine ⟨_, .str "self", rfl, .inl (.str _), (by unfold Small; decide +kernel), fun H5 s5 => ?_⟩
    rw [c4]
    exact ⟨_, rfl, q _⟩
end
end Eu
set_option Elab.async false
set_option linter.all false
set_option maxRecDepth 100000
set_option maxHeartbeats 4000000
namespace Eu
open PySem PySem.Spec PyProof.Rows L2
theorem tops_mk {l : PySem.W.OpenLaw} {w : World} {K : PySem.W.Frag} {h : Heap} {mg : Str → Option Value} {fa : Addr}
    {f1 : Addr} {oc1 kV1 dc1 pm1 cd1 ct1 : Value} {od1 an1 : Option Addr} {sl1 : Array (Option Value)}
    {f2 : Addr} {oc2 kV2 dc2 pm2 cd2 ct2 : Value} {od2 an2 : Option Addr} {sl2 : Array (Option Value)}
    {f3 : Addr} {oc3 kV3 dc3 pm3 cd3 ct3 : Value} {od3 an3 : Option Addr} {sl3 : Array (Option Value)}
    {f4 : Addr} {oc4 kV4 dc4 pm4 cd4 ct4 : Value} {od4 an4 : Option Addr} {sl4 : Array (Option Value)}
    {f5 : Addr} {oc5 kV5 dc5 pm5 cd5 ct5 : Value} {od5 an5 : Option Addr} {sl5 : Array (Option Value)}
    {f6 : Addr} {oc6 kV6 dc6 pm6 cd6 ct6 : Value} {od6 an6 : Option Addr} {sl6 : Array (Option Value)}
    {f7 : Addr} {oc7 kV7 dc7 pm7 cd7 ct7 : Value} {od7 an7 : Option Addr} {sl7 : Array (Option Value)}
    {f8 : Addr} {oc8 kV8 dc8 pm8 cd8 ct8 : Value} {od8 an8 : Option Addr} {sl8 : Array (Option Value)}
    {f9 : Addr} {oc9 kV9 dc9 pm9 cd9 ct9 : Value} {od9 an9 : Option Addr} {sl9 : Array (Option Value)}
    {f10 : Addr} {oc10 kV10 dc10 pm10 cd10 ct10 : Value} {od10 an10 : Option Addr} {sl10 : Array (Option Value)}
    {f11 : Addr} {oc11 kV11 dc11 pm11 cd11 ct11 : Value} {od11 an11 : Option Addr} {sl11 : Array (Option Value)}
    {f12 : Addr} {oc12 kV12 dc12 pm12 cd12 ct12 : Value} {od12 an12 : Option Addr} {sl12 : Array (Option Value)}
    {f13 : Addr} {oc13 kV13 dc13 pm13 cd13 ct13 : Value} {od13 an13 : Option Addr} {sl13 : Array (Option Value)}
    {f14 : Addr} {oc14 kV14 dc14 pm14 cd14 ct14 : Value} {od14 an14 : Option Addr} {sl14 : Array (Option Value)}
    {f15 : Addr} {oc15 kV15 dc15 pm15 cd15 ct15 : Value} {od15 an15 : Option Addr} {sl15 : Array (Option Value)}
    {f16 : Addr} {oc16 kV16 dc16 pm16 cd16 ct16 : Value} {od16 an16 : Option Addr} {sl16 : Array (Option Value)}
    {f17 : Addr} {oc17 kV17 dc17 pm17 cd17 ct17 : Value} {od17 an17 : Option Addr} {sl17 : Array (Option Value)}
    {f18 : Addr} {oc18 kV18 dc18 pm18 cd18 ct18 : Value} {od18 an18 : Option Addr} {sl18 : Array (Option Value)}
    {gt1 : Tok}
    {gt2 : Tok}
    {gt3 : Tok}
    {ta1 : Addr} {td1 : Option Addr} {tn1 : Nat} {ts1 : Array (Option Value)} {tk1_0 tk1_1 tk1_2 : Tok}
    (X : K.In h) (G : h.Ns mainGlobals mg) (hfa : mg "law" = some (.ref fa))
    (a1 : PySem.W.nsIn K mainGlobals "is_integer" = some (some (.ref f1)))
    (l1 : K.lookup f1 = some ⟨oc1, od1, .func (PySem.W.fnOf "is_integer" "is_integer" (defArgs s_is_integer) (defBody s_is_integer) (defScope s_is_integer) .none kV1 dc1 pm1 an1 cd1 ct1), sl1⟩)
    (c1 : PySem.W.codeIn K cd1 "is_integer" = true) (k1 : PySem.W.keepIn K (.ref f1) = true)
    (a2 : PySem.W.nsIn K mainGlobals "in_range" = some (some (.ref f2)))
    (l2 : K.lookup f2 = some ⟨oc2, od2, .func (PySem.W.fnOf "in_range" "in_range" (defArgs s_in_range) (defBody s_in_range) (defScope s_in_range) .none kV2 dc2 pm2 an2 cd2 ct2), sl2⟩)
    (c2 : PySem.W.codeIn K cd2 "in_range" = true) (k2 : PySem.W.keepIn K (.ref f2) = true)
    (a3 : PySem.W.nsIn K mainGlobals "is_letters" = some (some (.ref f3)))
    (l3 : K.lookup f3 = some ⟨oc3, od3, .func (PySem.W.fnOf "is_letters" "is_letters" (defArgs s_is_letters) (defBody s_is_letters) (defScope s_is_letters) .none kV3 dc3 pm3 an3 cd3 ct3), sl3⟩)
    (c3 : PySem.W.codeIn K cd3 "is_letters" = true) (k3 : PySem.W.keepIn K (.ref f3) = true)
    (a4 : PySem.W.nsIn K mainGlobals "is_name" = some (some (.ref f4)))
    (l4 : K.lookup f4 = some ⟨oc4, od4, .func (PySem.W.fnOf "is_name" "is_name" (defArgs s_is_name) (defBody s_is_name) (defScope s_is_name) .none kV4 dc4 pm4 an4 cd4 ct4), sl4⟩)
    (c4 : PySem.W.codeIn K cd4 "is_name" = true) (k4 : PySem.W.keepIn K (.ref f4) = true)
    (a5 : PySem.W.nsIn K mainGlobals "is_key" = some (some (.ref f5)))
    (l5 : K.lookup f5 = some ⟨oc5, od5, .func (PySem.W.fnOf "is_key" "is_key" (defArgs s_is_key) (defBody s_is_key) (defScope s_is_key) .none kV5 dc5 pm5 an5 cd5 ct5), sl5⟩)
    (c5 : PySem.W.codeIn K cd5 "is_key" = true) (k5 : PySem.W.keepIn K (.ref f5) = true)
    (a6 : PySem.W.nsIn K mainGlobals "is_value" = some (some (.ref f6)))
    (l6 : K.lookup f6 = some ⟨oc6, od6, .func (PySem.W.fnOf "is_value" "is_value" (defArgs s_is_value) (defBody s_is_value) (defScope s_is_value) .none kV6 dc6 pm6 an6 cd6 ct6), sl6⟩)
    (c6 : PySem.W.codeIn K cd6 "is_value" = true) (k6 : PySem.W.keepIn K (.ref f6) = true)
    (a7 : PySem.W.nsIn K mainGlobals "is_element" = some (some (.ref f7)))
    (l7 : K.lookup f7 = some ⟨oc7, od7, .func (PySem.W.fnOf "is_element" "is_element" (defArgs s_is_element) (defBody s_is_element) (defScope s_is_element) .none kV7 dc7 pm7 an7 cd7 ct7), sl7⟩)
    (c7 : PySem.W.codeIn K cd7 "is_element" = true) (k7 : PySem.W.keepIn K (.ref f7) = true)
    (a8 : PySem.W.nsIn K mainGlobals "is_entry" = some (some (.ref f8)))
    (l8 : K.lookup f8 = some ⟨oc8, od8, .func (PySem.W.fnOf "is_entry" "is_entry" (defArgs s_is_entry) (defBody s_is_entry) (defScope s_is_entry) .none kV8 dc8 pm8 an8 cd8 ct8), sl8⟩)
    (c8 : PySem.W.codeIn K cd8 "is_entry" = true) (k8 : PySem.W.keepIn K (.ref f8) = true)
    (a9 : PySem.W.nsIn K mainGlobals "_law_bag" = some (some (.ref f9)))
    (l9 : K.lookup f9 = some ⟨oc9, od9, .func (PySem.W.fnOf "_law_bag" "_law_bag" (defArgs s_l_bag) (defBody s_l_bag) (defScope s_l_bag) .none kV9 dc9 pm9 an9 cd9 ct9), sl9⟩)
    (c9 : PySem.W.codeIn K cd9 "_law_bag" = true) (k9 : PySem.W.keepIn K (.ref f9) = true)
    (a10 : PySem.W.nsIn K mainGlobals "_law_take" = some (some (.ref f10)))
    (l10 : K.lookup f10 = some ⟨oc10, od10, .func (PySem.W.fnOf "_law_take" "_law_take" (defArgs s_l_take) (defBody s_l_take) (defScope s_l_take) .none kV10 dc10 pm10 an10 cd10 ct10), sl10⟩)
    (c10 : PySem.W.codeIn K cd10 "_law_take" = true) (k10 : PySem.W.keepIn K (.ref f10) = true)
    (a11 : PySem.W.nsIn K mainGlobals "_law_word" = some (some (.ref f11)))
    (l11 : K.lookup f11 = some ⟨oc11, od11, .func (PySem.W.fnOf "_law_word" "_law_word" (defArgs s_l_word) (defBody s_l_word) (defScope s_l_word) .none kV11 dc11 pm11 an11 cd11 ct11), sl11⟩)
    (c11 : PySem.W.codeIn K cd11 "_law_word" = true) (k11 : PySem.W.keepIn K (.ref f11) = true)
    (a12 : PySem.W.nsIn K mainGlobals "_law_number" = some (some (.ref f12)))
    (l12 : K.lookup f12 = some ⟨oc12, od12, .func (PySem.W.fnOf "_law_number" "_law_number" (defArgs s_l_number) (defBody s_l_number) (defScope s_l_number) .none kV12 dc12 pm12 an12 cd12 ct12), sl12⟩)
    (c12 : PySem.W.codeIn K cd12 "_law_number" = true) (k12 : PySem.W.keepIn K (.ref f12) = true)
    (a13 : PySem.W.nsIn K mainGlobals "_law_thing" = some (some (.ref f13)))
    (l13 : K.lookup f13 = some ⟨oc13, od13, .func (PySem.W.fnOf "_law_thing" "_law_thing" (defArgs s_l_thing) (defBody s_l_thing) (defScope s_l_thing) .none kV13 dc13 pm13 an13 cd13 ct13), sl13⟩)
    (c13 : PySem.W.codeIn K cd13 "_law_thing" = true) (k13 : PySem.W.keepIn K (.ref f13) = true)
    (a14 : PySem.W.nsIn K mainGlobals "_law_is_whole" = some (some (.ref f14)))
    (l14 : K.lookup f14 = some ⟨oc14, od14, .func (PySem.W.fnOf "_law_is_whole" "_law_is_whole" (defArgs s_l_is_whole) (defBody s_l_is_whole) (defScope s_l_is_whole) .none kV14 dc14 pm14 an14 cd14 ct14), sl14⟩)
    (c14 : PySem.W.codeIn K cd14 "_law_is_whole" = true) (k14 : PySem.W.keepIn K (.ref f14) = true)
    (a15 : PySem.W.nsIn K mainGlobals "_law_is_name" = some (some (.ref f15)))
    (l15 : K.lookup f15 = some ⟨oc15, od15, .func (PySem.W.fnOf "_law_is_name" "_law_is_name" (defArgs s_l_is_name) (defBody s_l_is_name) (defScope s_l_is_name) .none kV15 dc15 pm15 an15 cd15 ct15), sl15⟩)
    (c15 : PySem.W.codeIn K cd15 "_law_is_name" = true) (k15 : PySem.W.keepIn K (.ref f15) = true)
    (a16 : PySem.W.nsIn K mainGlobals "_law_is_element" = some (some (.ref f16)))
    (l16 : K.lookup f16 = some ⟨oc16, od16, .func (PySem.W.fnOf "_law_is_element" "_law_is_element" (defArgs s_l_is_element) (defBody s_l_is_element) (defScope s_l_is_element) .none kV16 dc16 pm16 an16 cd16 ct16), sl16⟩)
    (c16 : PySem.W.codeIn K cd16 "_law_is_element" = true) (k16 : PySem.W.keepIn K (.ref f16) = true)
    (a17 : PySem.W.nsIn K mainGlobals "_law_is_entry" = some (some (.ref f17)))
    (l17 : K.lookup f17 = some ⟨oc17, od17, .func (PySem.W.fnOf "_law_is_entry" "_law_is_entry" (defArgs s_l_is_entry) (defBody s_l_is_entry) (defScope s_l_is_entry) .none kV17 dc17 pm17 an17 cd17 ct17), sl17⟩)
    (c17 : PySem.W.codeIn K cd17 "_law_is_entry" = true) (k17 : PySem.W.keepIn K (.ref f17) = true)
    (a18 : PySem.W.nsIn K mainGlobals "law" = some (some (.ref f18)))
    (l18 : K.lookup f18 = some ⟨oc18, od18, .func (PySem.W.fnOf "law" "law" (defArgs s_law) (defBody s_law) (defScope s_law) .none kV18 dc18 pm18 an18 cd18 ct18), sl18⟩)
    (c18 : PySem.W.codeIn K cd18 "law" = true) (k18 : PySem.W.keepIn K (.ref f18) = true)
    (g1 : PySem.W.nsIn K mainGlobals "LONGEST_NAME" = some (some (.int 4 gt1)))
    (g2 : PySem.W.nsIn K mainGlobals "MOST_KEY" = some (some (.int 999999 gt2)))
    (g3 : PySem.W.nsIn K mainGlobals "MOST_VALUE" = some (some (.int (10 ^ 40) gt3)))
    (h1 : PySem.W.nsIn K mainGlobals "KEPT_WORDS" = some (some (.ref ta1)))
    (j1 : K.lookup ta1 = some ⟨.type "tuple", td1, .seq #[.str "keys" tk1_0, .str "look" tk1_1, .str "self" tk1_2] tn1, ts1⟩)
    (z1 : PySem.W.nsIn K mainGlobals "len" = some none)
    (z2 : PySem.W.nsIn K mainGlobals "abs" = some none)
    (z3 : PySem.W.nsIn K mainGlobals "isinstance" = some none)
    (z4 : PySem.W.nsIn K mainGlobals "int" = some none)
    (z5 : PySem.W.nsIn K mainGlobals "bool" = some none)
    (z6 : PySem.W.nsIn K mainGlobals "str" = some none)
    (z7 : PySem.W.nsIn K mainGlobals "tuple" = some none)
    (z8 : PySem.W.nsIn K mainGlobals "all" = some none)
    (z9 : PySem.W.nsIn K mainGlobals "repr" = some none)
    (z10 : PySem.W.nsIn K mainGlobals "range" = some none)
    (z11 : PySem.W.nsIn K mainGlobals "max" = some none)
    (z12 : PySem.W.nsIn K mainGlobals "min" = some none) :
    ∃ fd : FuncData, (∀ (s : Shared) (u : Value), BindsTo s fd ⟨[u], []⟩ [("_law_script", u)]) ∧
      ∀ base : Heap, K.In base → base.Ns mainGlobals mg → Ok l.prog w K mg base CX0 6 fa fd ["_law_script"] (spLaw K) := by
  have D_is_integer : Df K mg "is_integer" s_is_integer := df_mk X G a1 l1 c1 k1
  have D_in_range : Df K mg "in_range" s_in_range := df_mk X G a2 l2 c2 k2
  have D_is_letters : Df K mg "is_letters" s_is_letters := df_mk X G a3 l3 c3 k3
  have D_is_name : Df K mg "is_name" s_is_name := df_mk X G a4 l4 c4 k4
  have D_is_key : Df K mg "is_key" s_is_key := df_mk X G a5 l5 c5 k5
  have D_is_value : Df K mg "is_value" s_is_value := df_mk X G a6 l6 c6 k6
  have D_is_element : Df K mg "is_element" s_is_element := df_mk X G a7 l7 c7 k7
  have D_is_entry : Df K mg "is_entry" s_is_entry := df_mk X G a8 l8 c8 k8
  have D_l_bag : Df K mg "_law_bag" s_l_bag := df_mk X G a9 l9 c9 k9
  have D_l_take : Df K mg "_law_take" s_l_take := df_mk X G a10 l10 c10 k10
  have D_l_word : Df K mg "_law_word" s_l_word := df_mk X G a11 l11 c11 k11
  have D_l_number : Df K mg "_law_number" s_l_number := df_mk X G a12 l12 c12 k12
  have D_l_thing : Df K mg "_law_thing" s_l_thing := df_mk X G a13 l13 c13 k13
  have D_l_is_whole : Df K mg "_law_is_whole" s_l_is_whole := df_mk X G a14 l14 c14 k14
  have D_l_is_name : Df K mg "_law_is_name" s_l_is_name := df_mk X G a15 l15 c15 k15
  have D_l_is_element : Df K mg "_law_is_element" s_l_is_element := df_mk X G a16 l16 c16 k16
  have D_l_is_entry : Df K mg "_law_is_entry" s_l_is_entry := df_mk X G a17 l17 c17 k17
  have D_law : Df K mg "law" s_law := df_mk X G a18 l18 c18 k18
  have G_LONGEST_NAME : ∃ u, mg "LONGEST_NAME" = some u ∧ RelV (.int 4) u := ⟨_, PySem.W.mg_of X G g1, _, rfl⟩
  have G_MOST_KEY : ∃ u, mg "MOST_KEY" = some u ∧ RelV (.int 999999) u := ⟨_, PySem.W.mg_of X G g2, _, rfl⟩
  have G_MOST_VALUE : ∃ u, mg "MOST_VALUE" = some u ∧ RelV (.int (10 ^ 40)) u := ⟨_, PySem.W.mg_of X G g3, _, rfl⟩
  have G_KEPT_WORDS : ∃ u, mg "KEPT_WORDS" = some u ∧ RelV (.ref ta1) u := ⟨_, PySem.W.mg_of X G h1, rfl⟩
  have S_KEPT_WORDS : ∀ H, SqT K H ta1 [.str "keys", .str "look", .str "self"] := fun H => .inr ⟨_, _, _, j1, rfl, rfl, (by show 3 ≤ sizeLine; decide), .cons ⟨_, rfl⟩ (.cons ⟨_, rfl⟩ (.cons ⟨_, rfl⟩ (.nil)))⟩
  have m0 : ∀ {x : Str}, PySem.W.nsIn K mainGlobals x = some none → mg x = none := fun e => PySem.W.mg_none_of X G e
  have B : Bl mg := ⟨m0 z1, m0 z2, m0 z3, m0 z4, m0 z5, m0 z6, m0 z7, m0 z8, m0 z9, m0 z10, m0 z11, m0 z12⟩
  have T : Gc K mg ta1 := ⟨G_LONGEST_NAME, G_MOST_KEY, G_MOST_VALUE, G_KEPT_WORDS, S_KEPT_WORDS⟩
  refine law_fn D_law hfa sc_law (fun _ _ _ _ _ _ us hl => match us, hl with | [_], _ => rfl) (fun vs H Q E h => ?_) ?_
  · obtain ⟨a, ns, rfl, _⟩ := h
    rfl
  · intro base hb1 hb2 f cdv A out s H vs Q E hr hs
    have c1 := ok_is_integer (P := l.prog) (w := w) (base := base) B D_is_integer
    have c2 := ok_in_range c1 D_in_range
    have c3 := ok_is_letters (P := l.prog) (w := w) (base := base) B D_is_letters
    have c4 := ok_is_name B T c3 D_is_name
    have c5 := ok_is_key T c2 D_is_key
    have c6 := ok_is_value B T c1 D_is_value
    have c7 := ok_is_element B c5 c4 D_is_element
    have c8 := ok_is_entry B c7 c6 D_is_entry
    have c9 := ok_bag (P := l.prog) (w := w) (base := base) B D_l_bag
    have c10 := ok_take (P := l.prog) (w := w) (base := base) D_l_take
    have c11 := ok_word c10 D_l_word
    have c12 := ok_number c10 D_l_number
    have c13 := ok_thing c10 c11 c12 D_l_thing
    have c14 := ok_l_is_whole (P := l.prog) (w := w) (base := base) B D_l_is_whole
    have c15 := ok_l_is_name (P := l.prog) (w := w) (base := base) B D_l_is_name
    have c16 := ok_l_is_element B c14 c15 D_l_is_element
    have c17 := ok_l_is_entry B c14 c16 D_l_is_entry
    exact body_law B c9 c13 c15 c16 c17 c4 c7 c8 f cdv A out s H vs Q E hr hs
end Eu
open PySem PySem.W PyProof.Rows
set_option maxRecDepth 100000 in
set_option maxHeartbeats 0 in
theorem PySem.Challenge.cw_equalunlike_k01_names_and_elements_known_holds : PySem.Challenge.rw_equalunlike_k01_names_and_elements_known.Holds := by
  w_on; o_law; k_head; (case hw => w_witness2)
  k_fill
  refine Eu.walk_ok (l := PySem.Challenge.rw_equalunlike_k01_names_and_elements_known) (k := 6) (x := "_law_script") rfl rfl ⟨⟨rfl, by decide, by decide⟩, rfl⟩ (fun w h Y => PySem.W.kIn_of Y) ?F
  case F =>
    intro w mg fa h KX G hmg
    refine' Eu.tops_mk KX G hmg ?a1 ?l1 ?c1 ?k1 ?a2 ?l2 ?c2 ?k2 ?a3 ?l3 ?c3 ?k3 ?a4 ?l4 ?c4 ?k4 ?a5 ?l5 ?c5 ?k5 ?a6 ?l6 ?c6 ?k6 ?a7 ?l7 ?c7 ?k7 ?a8 ?l8 ?c8 ?k8 ?a9 ?l9 ?c9 ?k9 ?a10 ?l10 ?c10 ?k10 ?a11 ?l11 ?c11 ?k11 ?a12 ?l12 ?c12 ?k12 ?a13 ?l13 ?c13 ?k13 ?a14 ?l14 ?c14 ?k14 ?a15 ?l15 ?c15 ?k15 ?a16 ?l16 ?c16 ?k16 ?a17 ?l17 ?c17 ?k17 ?a18 ?l18 ?c18 ?k18 ?g1 ?g2 ?g3 ?h1 ?j1 ?z1 ?z2 ?z3 ?z4 ?z5 ?z6 ?z7 ?z8 ?z9 ?z10 ?z11 ?z12
    (case a1 => k_is); (case l1 => k_is); (case c1 => k_is); (case k1 => k_is); (case a2 => k_is); (case l2 => k_is)
    (case c2 => k_is); (case k2 => k_is); (case a3 => k_is); (case l3 => k_is); (case c3 => k_is); (case k3 => k_is)
    (case a4 => k_is); (case l4 => k_is); (case c4 => k_is); (case k4 => k_is); (case a5 => k_is); (case l5 => k_is)
    (case c5 => k_is); (case k5 => k_is); (case a6 => k_is); (case l6 => k_is); (case c6 => k_is); (case k6 => k_is)
    (case a7 => k_is); (case l7 => k_is); (case c7 => k_is); (case k7 => k_is); (case a8 => k_is); (case l8 => k_is)
    (case c8 => k_is); (case k8 => k_is); (case a9 => k_is); (case l9 => k_is); (case c9 => k_is); (case k9 => k_is)
    (case a10 => k_is); (case l10 => k_is); (case c10 => k_is); (case k10 => k_is); (case a11 => k_is); (case l11 => k_is)
    (case c11 => k_is); (case k11 => k_is); (case a12 => k_is); (case l12 => k_is); (case c12 => k_is); (case k12 => k_is)
    (case a13 => k_is); (case l13 => k_is); (case c13 => k_is); (case k13 => k_is); (case a14 => k_is); (case l14 => k_is)
    (case c14 => k_is); (case k14 => k_is); (case a15 => k_is); (case l15 => k_is); (case c15 => k_is); (case k15 => k_is)
    (case a16 => k_is); (case l16 => k_is); (case c16 => k_is); (case k16 => k_is); (case a17 => k_is); (case l17 => k_is)
    (case c17 => k_is); (case k17 => k_is); (case a18 => k_is); (case l18 => k_is); (case c18 => k_is); (case k18 => k_is)
    (case g1 => k_is); (case g2 => k_is); (case g3 => k_is); (case h1 => k_is); (case j1 => k_is); (case z1 => k_is)
    (case z2 => k_is); (case z3 => k_is); (case z4 => k_is); (case z5 => k_is); (case z6 => k_is); (case z7 => k_is)
    (case z8 => k_is); (case z9 => k_is); (case z10 => k_is); (case z11 => k_is); (case z12 => k_is)
