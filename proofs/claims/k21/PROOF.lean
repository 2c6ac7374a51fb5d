import PyProof.Rows.All
import Wide.All
import OpenK.AllK
import Wide.FinOn
import HandS.ForMost
import HandS.Wide
import HandS.Flow
import HandS.Defaults
import HandS.Exc
import HandS.ExcOwn
import HandS.TryOnly
import HandS.TryMany
import HandS.WordsExc
import HandS.IsInst
import HandS.Comp
import HandS.Style
import PyProof.P3Eq
import PyProof.ReprRoads
import PyProof.ReprLen
import HandS.SortKw
import KE.DataMinMax
import PySem.Challenge.RW_stacksaw_k21_whole_bars_and_fewest
set_option Elab.async false
set_option linter.all false
set_option maxRecDepth 100000
set_option autoImplicit false
namespace Z
open PySem PySem.Spec PyProof.Rows L2

/-! ## defs under a clear guard (repr needs it) -/
structure FnG (P : Program) (w : World) (K : PySem.W.Frag) (mg : Str → Option Value) (base : Heap) (CX : CXT) (k : Nat) (f : Addr) (fd : FuncData) (ps : List Str) (sp : Sp) : Prop where
  len : ∀ vs H Q E, sp vs H Q E → vs.length = ps.length
  go : ∀ (A : Around) (outer : List Env) (s : Shared) (H : Hp) (args : Args) (us : List Value) (vs : List V) (Q : VK) (E : XK),
    Room k A → A.guards = some [] → Env0 P w K mg base A outer s H → BindsTo s fd args (ps.zip us) → Vals vs us → sp vs H Q E →
    codeAny (model P w) A (.call (.ref f) args) (CR CX outer P w H s Q E) s

section
variable {P : Program} {w : World} {K : PySem.W.Frag} {mg : Str → Option Value} {base : Heap} {CX : CXT}
theorem fnG_of {k : Nat} {f : Addr} {name qual : Str} {params : Arguments} {body : List Stmt} {scope : Scope} {dV kV doc pm cdv ct oc : Value} {an od : Option Addr}
    {osl : Array (Option Value)} {N ps : List Str} {sp : Sp}
    (lk : K.lookup f = some ⟨oc, od, .func (PySem.W.fnOf name qual params body scope dV kV doc pm an cdv ct), osl⟩)
    (hcd : PySem.W.codeIn K cdv qual = true) (S : FnScope N ps scope) (len : ∀ vs H Q E, sp vs H Q E → vs.length = ps.length)
    (hb : ∀ (A : Around) (outer : List Env) (s : Shared) (H : Hp) (vs : List V) (Q : VK) (E : XK),
      Room k (A.deeper (envOfC qual scope s.heap.objs.size f cdv)) → A.guards = some [] → sp vs H Q E →
      ∃ t, PSs (cxOf CX P w K mg base N qual scope f cdv A outer s H E) body t ∧ t { nx := fun _ H' => Q .non H', rt := Q } (start N vs) H) :
    FnG P w K mg base CX (k + 1) f (PySem.W.fnOf name qual params body scope dV kV doc pm an cdv ct) ps sp := by
  constructor
  · exact len
  intro A outer s H args us vs Q E hr hgd e0 hbt rv hsp
  have kIn : K.In s.heap := e0.mod.kin.keeps fun b o e => (e0.bs b o e).1
  have nolim : s.heap.NoLimit := e0.mod.nolimit.keeps fun b o e => (e0.bs b o e).1
  have lv := len vs H Q E hsp
  have kinds : ∀ q ∈ ps.zip us, scope.names.lookup q.1 = some .local ∨ (scope.names.lookup q.1 = some .cell ∧ ((cellsFrom (s.heap.objs.size + 1) scope.names []).lookup q.1).isSome = true) := by
    intro q hq
    obtain ⟨n, v⟩ := q
    cases S.par n (List.of_mem_zip hq).1 with
    | inl z => exact Or.inl z
    | inr z => exact Or.inr ⟨z, PySem.W.cellsFrom_some scope.names _ [] (Or.inl z)⟩
  apply codeAny_call_function hr.depth (kIn _ _ lk) rfl S.co S.gen rfl (PySem.W.codeRec_of kIn hcd) (hbt _ _ _ _ _)
  apply wpAny_newFunctionEnv_cells S.kind kinds
  intro env hv s1 hx
  subst hv
  refine ⟨nolim.keeps hx.toInCall.keep, codeAny_func ?_⟩
  have hI := inv_start (CX := CX) (E := E) (mg := mg) S hr.hd e0 lv rv hx
  obtain ⟨t, hp, ht⟩ := hb A outer s H vs Q E (Room.deeper hr _) hgd hsp
  apply wpAny_mono (hp.run [] s1 _ H _ hI ht)
  · intro fl s' hs
    cases fl with
    | brk => exact absurd hs (fun ⟨_, _, _, z⟩ => z)
    | cont => exact absurd hs (fun ⟨_, _, _, z⟩ => z)
    | next =>
      obtain ⟨σ', H', J, q⟩ := hs
      exact ⟨V.non, H', J.os, J.bare, J.base, J.hok, rfl, q⟩
    | ret u =>
      obtain ⟨v, σ', H', J, rv', q⟩ := hs
      exact ⟨v, H', J.os, J.bare, J.base, J.hok, rv', q⟩
  · intro e s' hs
    exact hs
theorem okG {x qual : Str} {st : Stmt} {f : Addr} {fd : FuncData} {N ps : List Str} {k : Nat} {sp : Sp} (F : Fun K x qual st f fd) (S : FnScope N ps (defScope st)) (len : ∀ vs H Q E, sp vs H Q E → vs.length = ps.length)
    (hb : ∀ (cdv : Value) (A : Around) (outer : List Env) (s : Shared) (H : Hp) (vs : List V) (Q : VK) (E : XK),
      Room k (A.deeper (envOfC qual (defScope st) s.heap.objs.size f cdv)) → A.guards = some [] → sp vs H Q E →
      ∃ t, PSs (cxOf CX P w K mg base N qual (defScope st) f cdv A outer s H E) (defBody st) t ∧ t { nx := fun _ H' => Q .non H', rt := Q } (start N vs) H) :
    FnG P w K mg base CX (k + 1) f fd ps sp := by
  obtain ⟨oc, od, kV, doc, pm, an, cdv, ct, osl, e, lk, hcd⟩ := F.ex
  subst e
  exact fnG_of lk hcd S len (fun A outer s H vs Q E => hb cdv A outer s H vs Q E)
theorem okGD {x qual : Str} {params : Arguments} {body : List Stmt} {scope : Scope} {dvs : List V} {kws : List (Str × V)} {f : Addr} {fd : FuncData} {N ps : List Str} {k : Nat} {sp : Sp}
    (F : FunD K x qual params body scope dvs kws f fd) (S : FnScope N ps scope) (len : ∀ vs H Q E, sp vs H Q E → vs.length = ps.length)
    (hb : ∀ (cdv : Value) (A : Around) (outer : List Env) (s : Shared) (H : Hp) (vs : List V) (Q : VK) (E : XK),
      Room k (A.deeper (envOfC qual scope s.heap.objs.size f cdv)) → A.guards = some [] → sp vs H Q E →
      ∃ t, PSs (cxOf CX P w K mg base N qual scope f cdv A outer s H E) body t ∧ t { nx := fun _ H' => Q .non H', rt := Q } (start N vs) H) :
    FnG P w K mg base CX (k + 1) f fd ps sp := by
  obtain ⟨oc, od, dV, kV, doc, pm, an, cdv, ct, osl, e, lk, hcd, h1, h2⟩ := F.ex
  subst e
  exact fnG_of lk hcd S len (fun A outer s H vs Q E => hb cdv A outer s H vs Q E)
theorem guards_deeper {A : Around} {env : Env} (h : A.guards = some []) : (A.deeper env).guards = some [] := h
end

section
variable {X : Cx} {CX : CXT} {k : Nat} {f C : Addr} {fd : FuncData} {ps : List Str} {sp : Sp} {dvs : List V} {ds : List Value} {E : L2.St → XK} {x m : Str} {p pos apos : Pos} {e o : Expr} {es : List Expr} {ta : TE} {t : TA}
theorem run_fG {pins : List (Addr × Obj)} {σ : L2.St} {H : Hp} {s : Shared} {Q : VK} {us : List Value} {vs : List V} (F : FnG X.prog X.w X.K X.mg X.base CX k f fd ps sp) (hr : Room k X.A) (hG : X.A.guards = some [])
    (hb : Binds X.K fd ps ds) (hd : Vals dvs ds) (hx : PassesAt CX X σ (E σ)) (I : Inv X pins σ H s) (r : Vals vs us) (h : sp (vs ++ dvs) H Q (E σ)) :
    wpAny (model X.prog X.w) X.A (call (.ref f) us) (EP X pins σ Q) X.xe s := by
  have rr := Vals.append r hd
  have ll : (us ++ ds).length = ps.length := rr.length ▸ F.len _ _ _ _ h
  apply wpAny_call
  apply codeAny_mono (F.go X.A X.stack s H ⟨us, []⟩ (us ++ ds) (vs ++ dvs) Q (E σ) hr hG I.env0 (hb s us I.kIn ll) rr h)
  intro res s' hq
  match res, hq with
  | .error e, hq => exact hx pins H s e s' I hq
  | .ok (.ret u), hq => exact I.after hq
/-- f(e, ..): what leaves it may speak of the slots -/
def tCl (sp : Sp) (dvs : List V) (E : L2.St → XK) (t : TA) : TE := fun σ H Q => t σ H fun vs H1 => sp (vs ++ dvs) H1 Q (E σ)
def tMt (C : Addr) (m : Str) (sp : Sp) (dvs : List V) (E : L2.St → XK) (ta : TE) (t : TA) : TE := fun σ H Q => ta σ H fun x H1 => ∃ a dx fs, x = .ref a ∧ H1 a = some (.ins C dx fs) ∧ fs.lookup m = none ∧
  t σ H1 fun vs H2 => sp (x :: (vs ++ dvs)) H2 Q (E σ)
def tMk (C : Addr) (sp : Sp) (dvs : List V) (E : L2.St → XK) (t : TA) : TE := fun σ H Q => t σ H fun vs H1 => ∀ x dx, H1 x = none → H1 dx = none → dx ≠ x →
  sp (.ref x :: (vs ++ dvs)) (upd (upd H1 dx (.own x)) x (.ins C dx [])) (fun v H2 => v = .non ∧ Q (.ref x) H2) (E σ)
theorem pe_cl (F : FnG X.prog X.w X.K X.mg X.base CX k f fd ps sp) (hr : Room k X.A) (hG : X.A.guards = some []) (hg : Gl X x) (hm : X.mg x = some (.ref f)) (hk : PySem.W.keepIn X.K (.ref f) = true)
    (hb : Binds X.K fd ps ds) (hd : Vals dvs ds) (hx : ∀ σ, PassesAt CX X σ (E σ)) (ha : PA X (e :: es) t) (hdb : (x == ("__debug__" : Str)) = false := by decide)
    (he : starEach (e :: es) X.env = (false, eval e X.env) :: starEach es X.env := by rfl) (hpl : (backTo pos (starEach es X.env)).any (·.1) = false := by rfl) :
    PE X (.Call (.Name x p) (e :: es) [] pos) (tCl sp dvs E t) := by
  constructor
  intro pins s σ H Q I h
  apply wpAny_Call_Name_kw
  apply ld_glob I hg hm _ hdb
  apply PySem.W.callWith_K (h₀ := X.base) I.ok.mod.kin hk _ he hpl
  apply thn (ha.run pos pins s σ H _ I h)
  intro us s1 ⟨vs, H1, I1, r, q⟩
  exact ⟨I1.kIn, run_fG F hr hG hb hd (hx σ) I1 r q⟩
theorem pe_cl0 (F : FnG X.prog X.w X.K X.mg X.base CX k f fd ps sp) (hr : Room k X.A) (hG : X.A.guards = some []) (hg : Gl X x) (hm : X.mg x = some (.ref f)) (hk : PySem.W.keepIn X.K (.ref f) = true)
    (hb : Binds X.K fd ps ds) (hd : Vals dvs ds) (hx : ∀ σ, PassesAt CX X σ (E σ)) (hdb : (x == ("__debug__" : Str)) = false := by decide) : PE X (.Call (.Name x p) [] [] pos) (tCl sp dvs E tNil) := by
  constructor
  intro pins s σ H Q I h
  apply wpAny_Call_Name_kw
  apply ld_glob I hg hm _ hdb
  exact PySem.W.callWith_K0 I.kIn hk (run_fG (us := []) F hr hG hb hd (hx σ) I .nil h)
theorem pe_mt {pl : Sem Bool} (he : PE X o ta) (c : Cls X.K C) (hm : Meth X.K C m f) (F : FnG X.prog X.w X.K X.mg X.base CX k f fd ps sp) (hr : Room k X.A) (hG : X.A.guards = some []) (hb : Binds X.K fd ps ds) (hd : Vals dvs ds)
    (hx : ∀ σ, PassesAt CX X σ (E σ)) (ha : PA X (e :: es) t)
    (hst : starEach (e :: es) X.env = (false, eval e X.env) :: starEach es X.env := by rfl) (hpl : (backTo pos (starEach es X.env)).any (·.1) = false := by rfl)
    (ht : eval (.Call (.Attribute o m apos) (e :: es) [] pos) X.env = (do
      let a ← eval o X.env
      standAt apos.atName
      let (g, l) ← holding [a] (getMethod a m pl)
      callWith pos g l (backTo pos (starEach (e :: es) X.env)) (backToKw pos (keywordEach [] X.env))) := by rfl) :
    PE X (.Call (.Attribute o m apos) (e :: es) [] pos) (tMt C m sp dvs E ta t) := by
  constructor
  intro pins s σ H Q I h
  refine PySem.W.methodCall_KW (pl := pl) (thn (he.run pins s σ H _ I h) ?_) ht
  intro u s1 ⟨x, H1, I1, rx, a, dx, fs, ex, ea, l, q⟩
  subst ex
  have eu : u = Value.ref a := rx
  subst eu
  apply getmeth_ok I1 ea c hm l
  refine PySem.W.callWith_K (first := [.ref a]) (h₀ := X.base) I.ok.mod.kin hm.kp ?_ hst hpl
  apply thn (ha.run pos pins s1 σ H1 _ I1 q)
  intro us s2 ⟨vs, H2, I2, r, q2⟩
  exact ⟨I2.kIn, run_fG (us := .ref a :: us) (vs := .ref a :: vs) F hr hG hb hd (hx σ) I2 (.cons rfl r) q2⟩
theorem pe_mt0 {pl : Sem Bool} (he : PE X o ta) (c : Cls X.K C) (hm : Meth X.K C m f) (F : FnG X.prog X.w X.K X.mg X.base CX k f fd ps sp) (hr : Room k X.A) (hG : X.A.guards = some []) (hb : Binds X.K fd ps ds) (hd : Vals dvs ds)
    (hx : ∀ σ, PassesAt CX X σ (E σ))
    (ht : eval (.Call (.Attribute o m apos) [] [] pos) X.env = (do
      let a ← eval o X.env
      standAt apos.atName
      let (g, l) ← holding [a] (getMethod a m pl)
      callWith pos g l (backTo pos (starEach [] X.env)) (backToKw pos (keywordEach [] X.env))) := by rfl) :
    PE X (.Call (.Attribute o m apos) [] [] pos) (tMt C m sp dvs E ta tNil) := by
  constructor
  intro pins s σ H Q I h
  refine PySem.W.methodCall_KW (pl := pl) (thn (he.run pins s σ H _ I h) ?_) ht
  intro u s1 ⟨x, H1, I1, rx, a, dx, fs, ex, ea, l, q⟩
  subst ex
  have eu : u = Value.ref a := rx
  subst eu
  apply getmeth_ok I1 ea c hm l
  exact PySem.W.callWith_K0 (first := [.ref a]) I1.kIn hm.kp (run_fG (us := [.ref a]) (vs := [.ref a]) F hr hG hb hd (hx σ) I1 (.cons rfl .nil) q)
theorem guards_make {A : Around} {C : Addr} {us : List Value} {kw : List (Str × Value)} (h : A.guards = some []) : (A.under (.builtin "type.__call__" ⟨.ref C :: us, kw⟩)).guards = some [] := by
  first
    | exact h
    | simp [Around.under, pushGuards, Code.guards, Code.isGuard, guardIds, h]
theorem run_mkG {pins : List (Addr × Obj)} {σ : L2.St} {H : Hp} {s : Shared} {Q : VK} {us : List Value} {vs : List V} (M : Mk X.K C f) (F : FnG X.prog X.w X.K X.mg X.base CX k f fd ps sp) (hr : Room (k + 1) X.A) (hG : X.A.guards = some [])
    (hb : Binds X.K fd ps ds) (hd : Vals dvs ds) (hx : ∀ pins H s e s', Inv X pins σ H s → CX X.stack H s (E σ) e s' → X.xe e s') (I : Inv X pins σ H s) (r : Vals vs us)
    (h : ∀ x dx, H x = none → H dx = none → dx ≠ x → sp (.ref x :: (vs ++ dvs)) (upd (upd H dx (.own x)) x (.ins C dx [])) (fun v H2 => v = .non ∧ Q (.ref x) H2) (E σ)) :
    wpAny (model X.prog X.w) X.A (call (.ref C) us) (EP X pins σ Q) X.xe s := by
  have n1 : H (s.heap.objs.size + 1) = none := I.hok.fresh (Nat.le_succ _)
  have n2 : H s.heap.objs.size = none := I.hok.fresh (Nat.le_refl _)
  have hq := h (s.heap.objs.size + 1) s.heap.objs.size n1 n2 (Nat.ne_of_lt (Nat.lt_succ_self _))
  have J := Inv.made (C := C) I
  have rr : Vals (V.ref (s.heap.objs.size + 1) :: (vs ++ dvs)) (Value.ref (s.heap.objs.size + 1) :: (us ++ ds)) := Paired.cons rfl (Vals.append r hd)
  have ll : (Value.ref (s.heap.objs.size + 1) :: us ++ ds).length = ps.length := (F.len _ _ _ _ hq) ▸ rr.length.symm
  apply wpAny_call
  apply make_map (f := f) I.kIn M.makes M.init (beq_iff_eq.mp M.fn)
  refine codeAny_mono (F.go _ X.stack _ _ ⟨Value.ref (s.heap.objs.size + 1) :: us, []⟩ (Value.ref (s.heap.objs.size + 1) :: (us ++ ds)) _ _ (E σ) (hr.make C us []) (guards_make hG)
    (J.env0.make C us []) (hb _ (Value.ref (s.heap.objs.size + 1) :: us) J.kIn ll) rr hq) ?_
  intro res s' hq'
  match res, hq' with
  | .error e, hq' => exact hx pins _ _ e s' J hq'
  | .ok (.ret u), hq' =>
    obtain ⟨v, H', I3, rv, ev, q3⟩ := J.after hq'
    subst ev
    exact ⟨rv, ⟨V.ref (s.heap.objs.size + 1), H', I3, rfl, q3⟩⟩
theorem pe_mk (M : Mk X.K C f) (F : FnG X.prog X.w X.K X.mg X.base CX k f fd ps sp) (hr : Room (k + 1) X.A) (hG : X.A.guards = some []) (hg : Gl X x) (hm : X.mg x = some (.ref C)) (hb : Binds X.K fd ps ds) (hd : Vals dvs ds)
    (hx : ∀ σ, PassesAt CX X σ (E σ)) (ha : PA X (e :: es) t) (hdb : (x == ("__debug__" : Str)) = false := by decide)
    (he : starEach (e :: es) X.env = (false, eval e X.env) :: starEach es X.env := by rfl) (hpl : (backTo pos (starEach es X.env)).any (·.1) = false := by rfl) :
    PE X (.Call (.Name x p) (e :: es) [] pos) (tMk C sp dvs E t) := by
  constructor
  intro pins s σ H Q I h
  apply wpAny_Call_Name_kw
  apply ld_glob I hg hm _ hdb
  apply PySem.W.callWith_K (h₀ := X.base) I.ok.mod.kin M.kp _ he hpl
  apply thn (ha.run pos pins s σ H _ I h)
  intro us s1 ⟨vs, H1, I1, r, q⟩
  exact ⟨I1.kIn, run_mkG M F hr hG hb hd (fun pins H s e s' J c => hx σ pins H s e s' J c) I1 r q⟩
theorem pe_mk0 (M : Mk X.K C f) (F : FnG X.prog X.w X.K X.mg X.base CX k f fd ps sp) (hr : Room (k + 1) X.A) (hG : X.A.guards = some []) (hg : Gl X x) (hm : X.mg x = some (.ref C)) (hb : Binds X.K fd ps ds) (hd : Vals dvs ds)
    (hx : ∀ σ, PassesAt CX X σ (E σ)) (hdb : (x == ("__debug__" : Str)) = false := by decide) : PE X (.Call (.Name x p) [] [] pos) (tMk C sp dvs E tNil) := by
  constructor
  intro pins s σ H Q I h
  apply wpAny_Call_Name_kw
  apply ld_glob I hg hm _ hdb
  exact PySem.W.callWith_K0 I.kIn M.kp (run_mkG (us := []) M F hr hG hb hd (fun pins H s e s' J c => hx σ pins H s e s' J c) I .nil h)
end
end Z

namespace Z
open PySem PySem.Spec PyProof.Rows L2

/-! ## data -/
inductive D where
  | non | bl (b : Bool) | int (i : Int) | str (x : Str) | lst (xs : List D) | tup (xs : List D) | dic (kvs : List (Key × D)) | obj (C : Addr) (fs : List (Str × D))

mutual
inductive R (K : PySem.W.Frag) (F : Hp) : V → D → Prop
  | non : R K F .non .non
  | bl (b : Bool) : R K F (.bl b) (.bl b)
  | int (i : Int) : R K F (.int i) (.int i)
  | str (x : Str) : R K F (.str x) (.str x)
  | lst {a : Addr} {vs : List V} {ds : List D} : F a = some (.lst vs) → RA K F vs ds → R K F (.ref a) (.lst ds)
  | tup {a : Addr} {vs : List V} {ds : List D} : SqT K F a vs → RA K F vs ds → R K F (.ref a) (.tup ds)
  | dic {a : Addr} {vs : List (Key × V)} {ds : List (Key × D)} : Rd F a (.dK vs) → RK K F vs ds → R K F (.ref a) (.dic ds)
  | obj {a C dx : Addr} {vs : List (Str × V)} {ds : List (Str × D)} : F a = some (.ins C dx vs) → RS K F vs ds → R K F (.ref a) (.obj C ds)
inductive RA (K : PySem.W.Frag) (F : Hp) : List V → List D → Prop
  | nil : RA K F [] []
  | cons {v : V} {vs : List V} {d : D} {ds : List D} : R K F v d → RA K F vs ds → RA K F (v :: vs) (d :: ds)
inductive RK (K : PySem.W.Frag) (F : Hp) : List (Key × V) → List (Key × D) → Prop
  | nil : RK K F [] []
  | cons {k : Key} {v : V} {vs : List (Key × V)} {d : D} {ds : List (Key × D)} : R K F v d → RK K F vs ds → RK K F ((k, v) :: vs) ((k, d) :: ds)
inductive RS (K : PySem.W.Frag) (F : Hp) : List (Str × V) → List (Str × D) → Prop
  | nil : RS K F [] []
  | cons {k : Str} {v : V} {vs : List (Str × V)} {d : D} {ds : List (Str × D)} : R K F v d → RS K F vs ds → RS K F ((k, v) :: vs) ((k, d) :: ds)
end

section
variable {K : PySem.W.Frag} {F F' F2 H H' H2 : Hp}
theorem same_rd {a : Addr} {u : HO} (e : Same F F') (h : Rd F a u) : Rd F' a u := h.elim (fun z => Or.inl (e _ _ z)) (fun ⟨o, z⟩ => Or.inr ⟨o, e _ _ z⟩)
theorem same_l {a : Addr} {xs : List V} (e : Same F F') (h : SqL K F a xs) : SqL K F' a xs := h.elim (fun z => Or.inl (same_rd e z)) Or.inr
theorem same_t {a : Addr} {xs : List V} (e : Same F F') (h : SqT K F a xs) : SqT K F' a xs := h.elim (fun z => Or.inl (same_rd e z)) Or.inr
mutual
theorem R.mono (e : Same F F') : ∀ {v : V} {d : D}, R K F v d → R K F' v d
  | _, _, .non => .non
  | _, _, .bl b => .bl b
  | _, _, .int i => .int i
  | _, _, .str x => .str x
  | _, _, .lst h r => .lst (e _ _ h) (RA.mono e r)
  | _, _, .tup h r => .tup (same_t e h) (RA.mono e r)
  | _, _, .dic h r => .dic (same_rd e h) (RK.mono e r)
  | _, _, .obj h r => .obj (e _ _ h) (RS.mono e r)
theorem RA.mono (e : Same F F') : ∀ {vs : List V} {ds : List D}, RA K F vs ds → RA K F' vs ds
  | _, _, .nil => .nil
  | _, _, .cons h r => .cons (R.mono e h) (RA.mono e r)
theorem RK.mono (e : Same F F') : ∀ {vs : List (Key × V)} {ds : List (Key × D)}, RK K F vs ds → RK K F' vs ds
  | _, _, .nil => .nil
  | _, _, .cons h r => .cons (R.mono e h) (RK.mono e r)
theorem RS.mono (e : Same F F') : ∀ {vs : List (Str × V)} {ds : List (Str × D)}, RS K F vs ds → RS K F' vs ds
  | _, _, .nil => .nil
  | _, _, .cons h r => .cons (R.mono e h) (RS.mono e r)
end
theorem RA.len : ∀ {vs : List V} {ds : List D}, RA K F vs ds → vs.length = ds.length
  | _, _, .nil => rfl
  | _, _, .cons _ r => congrArg Nat.succ (RA.len r)
theorem RA.get : ∀ {vs : List V} {ds : List D}, RA K F vs ds → ∀ (i : Nat) (d : D), ds[i]? = some d → ∃ v, vs[i]? = some v ∧ R K F v d
  | _, _, .nil, i, d, h => by simp at h
  | _, _, .cons h r, 0, d, e => by
    simp at e
    subst e
    exact ⟨_, rfl, h⟩
  | _, _, .cons h r, i + 1, d, e => by
    simp at e
    obtain ⟨v, h1, h2⟩ := RA.get r i d e
    exact ⟨v, by simpa using h1, h2⟩
theorem RA.getV : ∀ {vs : List V} {ds : List D}, RA K F vs ds → ∀ (i : Nat) (v : V), vs[i]? = some v → ∃ d, ds[i]? = some d ∧ R K F v d
  | _, _, .nil, i, d, h => by simp at h
  | _, _, .cons h r, 0, d, e => by
    simp at e
    subst e
    exact ⟨_, rfl, h⟩
  | _, _, .cons h r, i + 1, d, e => by
    simp at e
    obtain ⟨v, h1, h2⟩ := RA.getV r i d e
    exact ⟨v, by simpa using h1, h2⟩
theorem RA.append : ∀ {vs ws : List V} {ds es : List D}, RA K F vs ds → RA K F ws es → RA K F (vs ++ ws) (ds ++ es)
  | _, _, _, _, .nil, s => s
  | _, _, _, _, .cons h r, s => .cons h (RA.append r s)
theorem RA.take : ∀ {vs : List V} {ds : List D} (n : Nat), RA K F vs ds → RA K F (vs.take n) (ds.take n)
  | _, _, 0, _ => .nil
  | _, _, _ + 1, .nil => .nil
  | _, _, n + 1, .cons h r => .cons h (RA.take n r)
theorem RA.drop : ∀ {vs : List V} {ds : List D} (n : Nat), RA K F vs ds → RA K F (vs.drop n) (ds.drop n)
  | _, _, 0, r => r
  | _, _, _ + 1, .nil => .nil
  | _, _, n + 1, .cons _ r => RA.drop n r
theorem RA.ints : ∀ (ns : List Int), RA K F (ns.map V.int) (ns.map D.int)
  | [] => .nil
  | n :: ns => .cons (.int n) (RA.ints ns)
theorem RA.of_ints : ∀ {vs : List V} {ns : List Int}, RA K F vs (ns.map D.int) → vs = ns.map V.int
  | _, [], .nil => rfl
  | _, n :: ns, .cons (.int _) r => congrArg (V.int n :: ·) (RA.of_ints r)
theorem RA.of_bools : ∀ {vs : List V} {ns : List Bool}, RA K F vs (ns.map D.bl) → vs = ns.map V.bl
  | _, [], .nil => rfl
  | _, n :: ns, .cons (.bl _) r => congrArg (V.bl n :: ·) (RA.of_bools r)
theorem RA.of_strs : ∀ {vs : List V} {ns : List Str}, RA K F vs (ns.map D.str) → vs = ns.map V.str
  | _, [], .nil => rfl
  | _, n :: ns, .cons (.str _) r => congrArg (V.str n :: ·) (RA.of_strs r)
theorem RA.snoc {vs : List V} {ds : List D} {v : V} {d : D} (h : RA K F vs ds) (g : R K F v d) : RA K F (vs ++ [v]) (ds ++ [d]) := h.append (.cons g .nil)
theorem RA.reps {vs : List V} {ds : List D} (h : RA K F vs ds) : ∀ n : Nat, RA K F (List.replicate n vs).flatten (List.replicate n ds).flatten
  | 0 => .nil
  | n + 1 => by
    rw [List.replicate_succ, List.replicate_succ, List.flatten_cons, List.flatten_cons]
    exact h.append (RA.reps h n)
/-- a scalar -/
def sca : D → Bool
  | .non => true
  | .bl _ => true
  | .int _ => true
  | .str _ => true
  | _ => false
theorem R.sca {v : V} {d : D} (h : R K F v d) (s : sca d = true) : R K F' v d := by
  cases h <;> first | exact .non | exact .bl _ | exact .int _ | exact .str _ | cases s

/-- what grows: F to F', the heap around it H to H' -/
structure Gr (F H F' H' : Hp) : Prop where
  f : Same F F'
  h : Same H H'
  s : Same F' H'
  n : ∀ a o, F' a = some o → F a = some o ∨ H a = none
theorem Gr.refl (e : Same F H) : Gr F H F H := ⟨.refl _, .refl _, e, fun _ _ z => Or.inl z⟩
theorem Gr.trans {F3 H3 : Hp} (g : Gr F H F' H') (k : Gr F' H' F3 H3) : Gr F H F3 H3 :=
  ⟨g.f.trans k.f, g.h.trans k.h, k.s, fun a o z => (k.n a o z).elim (fun y => g.n a o y) fun y => Or.inr (g.h.free y)⟩
theorem Gr.no {p : Addr} (g : Gr F H F' H') (h : F p = none) {o : HO} (t : H p = some o) : F' p = none := by
  cases e : F' p with
  | none => rfl
  | some u =>
    rcases g.n p u e with z | z
    · rw [h] at z; cases z
    · rw [t] at z; cases z
/-- from a smaller F -/
def uni (F G : Hp) : Hp := fun a => match F a with
  | some o => some o
  | none => G a
theorem uni_l : Same F (uni F F') := fun a o h => by unfold uni; rw [h]
theorem uni_r (h1 : Same F H) (h2 : Same F' H) : Same F' (uni F F') := fun a o h => by
  unfold uni
  cases e : F a with
  | none => exact h
  | some u =>
    have := h1 a u e
    rw [h2 a o h] at this
    cases this
    rfl
theorem uni_s (h1 : Same F H) (h2 : Same F' H) : Same (uni F F') H := fun a o h => by
  unfold uni at h
  cases e : F a with
  | none => rw [e] at h; exact h2 a o h
  | some u => rw [e] at h; exact h1 a o (e.trans h)
theorem Gr.up {G : Hp} (e : Same F G) (eg : Same G H) (g : Gr F H F' H') : Gr G H (uni G F') H' ∧ Same F' (uni G F') := by
  have a1 : Same G H' := eg.trans g.h
  refine ⟨⟨uni_l, g.h, uni_s a1 g.s, fun a o h => ?_⟩, uni_r a1 g.s⟩
  unfold uni at h
  cases e1 : G a with
  | none =>
    rw [e1] at h
    rcases g.n a o h with z | z
    · rw [e a o z] at e1; cases e1
    · exact Or.inr z
  | some u => rw [e1] at h; exact Or.inl h
/-- a new object -/
theorem same_new {p : Addr} {o : HO} (h : H p = none) : Same H (upd H p o) := fun a u z => by rw [upd_ne (ne_of_none z h)]; exact z
theorem Gr.new {p : Addr} {o : HO} (g : Gr F H F' H') (h : H' p = none) : Gr F H (upd F' p o) (upd H' p o) := by
  have hf : F' p = none := g.s.free h
  refine ⟨g.f.trans (same_new hf), g.h.trans (same_new h), fun a u z => ?_, fun a u z => ?_⟩
  · by_cases e : a = p
    · subst e; rw [upd_same] at z ⊢; exact z
    · rw [upd_ne e] at z ⊢; exact g.s a u z
  · by_cases e : a = p
    · subst e; exact Or.inr (g.h.free h)
    · rw [upd_ne e] at z; exact g.n a u z
theorem Gr.newH {p : Addr} {o : HO} (g : Gr F H F' H') (h : H' p = none) : Gr F H F' (upd H' p o) :=
  ⟨g.f, g.h.trans (same_new h), g.s.trans (same_new h), g.n⟩
end

/-! ## what a reading gives, over data -/
abbrev DE := List (Option D)
def PSl (K : PySem.W.Frag) (F : Hp) (σ : L2.St) (Γ : DE) : Prop := σ.length = Γ.length ∧ ∀ (i : Nat) (d : D), Γ[i]? = some (some d) → ∃ v, σ[i]? = some (some v) ∧ R K F v d
theorem PSl.mono {K : PySem.W.Frag} {F F' : Hp} {σ : L2.St} {Γ : DE} (e : Same F F') (h : PSl K F σ Γ) : PSl K F' σ Γ := ⟨h.1, fun i d z => let ⟨v, a, b⟩ := h.2 i d z; ⟨v, a, b.mono e⟩⟩
def EvD (K : PySem.W.Frag) (te : TE) (Γ : DE) (d : D) : Prop := ∀ (F H : Hp) (σ : L2.St), PSl K F σ Γ → Same F H → ∀ Q : VK, (∀ v F' H', Gr F H F' H' → R K F' v d → Q v H') → te σ H Q
def EvT (K : PySem.W.Frag) (tt : TT) (Γ : DE) (b : Bool) : Prop := ∀ (F H : Hp) (σ : L2.St), PSl K F σ Γ → Same F H → ∀ Q : Bool → Hp → Prop, (∀ H', Same H H' → Q b H') → tt σ H Q
def EvA (K : PySem.W.Frag) (ta : TA) (Γ : DE) (ds : List D) : Prop := ∀ (F H : Hp) (σ : L2.St), PSl K F σ Γ → Same F H → ∀ Q : List V → Hp → Prop, (∀ vs F' H', Gr F H F' H' → RA K F' vs ds → Q vs H') → ta σ H Q
/-- a new list, whose items are data -/
def EvL (K : PySem.W.Frag) (te : TE) (Γ : DE) (ds : List D) : Prop := ∀ (F H : Hp) (σ : L2.St), PSl K F σ Γ → Same F H → ∀ Q : VK, (∀ p vs F' H', Gr F H F' H' → H p = none → F' p = none → H' p = some (.lst vs) → RA K F' vs ds → Q (.ref p) H') → te σ H Q
/-- an operation on two values, a call on values -/
def RvD (K : PySem.W.Frag) (r : R2) (x y z : D) : Prop := ∀ (F H : Hp) (a b : V), Same F H → R K F a x → R K F b y → ∀ Q : VK, (∀ v F' H', Gr F H F' H' → R K F' v z → Q v H') → r a b H Q
def RvL (K : PySem.W.Frag) (r : R2) (x y : D) (ds : List D) : Prop := ∀ (F H : Hp) (a b : V), Same F H → R K F a x → R K F b y → ∀ Q : VK, (∀ p vs F' H', Gr F H F' H' → H p = none → F' p = none → H' p = some (.lst vs) → RA K F' vs ds → Q (.ref p) H') → r a b H Q
def RcD (K : PySem.W.Frag) (r : List V → Hp → VK → Prop) (ds : List D) (z : D) : Prop := ∀ (F H : Hp) (vs : List V), Same F H → RA K F vs ds → ∀ Q : VK, (∀ v F' H', Gr F H F' H' → R K F' v z → Q v H') → r vs H Q
def RcL (K : PySem.W.Frag) (r : List V → Hp → VK → Prop) (ds : List D) (es : List D) : Prop := ∀ (F H : Hp) (vs : List V), Same F H → RA K F vs ds → ∀ Q : VK, (∀ p ws F' H', Gr F H F' H' → H p = none → F' p = none → H' p = some (.lst ws) → RA K F' ws es → Q (.ref p) H') → r vs H Q
def RuD (K : PySem.W.Frag) (r : V → Hp → VK → Prop) (x z : D) : Prop := ∀ (F H : Hp) (a : V), Same F H → R K F a x → ∀ Q : VK, (∀ v F' H', Gr F H F' H' → R K F' v z → Q v H') → r a H Q

section
variable {K : PySem.W.Frag} {Γ : DE} {te ta tb tc : TE} {tt tu : TT} {tr : TA} {d x y z : D} {ds es : List D} {r : R2}
theorem ev_of_l (h : EvL K te Γ ds) : EvD K te Γ (.lst ds) := fun F H σ e s Q q => h F H σ e s Q fun p vs F' H' g h1 h2 h3 h4 => by
  have sf : Same F' (upd F' p (.lst vs)) := same_new h2
  refine q (.ref p) (upd F' p (.lst vs)) H' ⟨g.f.trans sf, g.h, fun a o z => ?_, fun a o z => ?_⟩ (.lst upd_same (h4.mono sf))
  · by_cases e1 : a = p
    · subst e1; rw [upd_same] at z; rw [← z]; exact h3
    · rw [upd_ne e1] at z; exact g.s a o z
  · by_cases e1 : a = p
    · subst e1; exact Or.inr h1
    · rw [upd_ne e1] at z; exact g.n a o z
theorem ev_var {i : Nat} (h : Γ[i]? = some (some d)) : EvD K (tVar i) Γ d := fun F H σ e s Q q => let ⟨v, a, b⟩ := e.2 i d h; ⟨v, a, q v F H (.refl s) b⟩
theorem ev_int {i : Int} : EvD K (tC (.int i)) Γ (.int i) := fun F H σ e s Q q => q _ F H (.refl s) (.int i)
theorem ev_bl {b : Bool} : EvD K (tC (.bl b)) Γ (.bl b) := fun F H σ e s Q q => q _ F H (.refl s) (.bl b)
theorem ev_str {x : Str} : EvD K (tC (.str x)) Γ (.str x) := fun F H σ e s Q q => q _ F H (.refl s) (.str x)
theorem ev_non : EvD K (tC .non) Γ .non := fun F H σ e s Q q => q _ F H (.refl s) .non
theorem ev_op (ha : EvD K ta Γ x) (hb : EvD K tb Γ y) (hr : RvD K r x y z) : EvD K (tOp r ta tb) Γ z := fun F H σ e s Q q =>
  ha F H σ e s _ fun v F1 H1 g r1 => hb F1 H1 σ (e.mono g.f) g.s _ fun w F2 H2 g2 r2 => hr F2 H2 v w g2.s (r1.mono g2.f) r2 Q fun u F3 H3 g3 => q u F3 H3 ((g.trans g2).trans g3)
theorem evl_op (ha : EvD K ta Γ x) (hb : EvD K tb Γ y) (hr : RvL K r x y ds) : EvL K (tOp r ta tb) Γ ds := fun F H σ e s Q q =>
  ha F H σ e s _ fun v F1 H1 g r1 => hb F1 H1 σ (e.mono g.f) g.s _ fun w F2 H2 g2 r2 => hr F2 H2 v w g2.s (r1.mono g2.f) r2 Q fun p vs F3 H3 g3 h1 => q p vs F3 H3 ((g.trans g2).trans g3) ((g.trans g2).h.free h1)
theorem ev_un {ru : V → Hp → VK → Prop} (ha : EvD K ta Γ x) (hr : RuD K ru x z) : EvD K (tUn ru ta) Γ z := fun F H σ e s Q q =>
  ha F H σ e s _ fun v F1 H1 g r1 => hr F1 H1 v g.s r1 Q fun u F3 H3 g3 => q u F3 H3 (g.trans g3)
theorem ea_nil : EvA K tNil Γ [] := fun F H σ e s Q q => q [] F H (.refl s) .nil
theorem ea_cons (ha : EvD K ta Γ d) (hr : EvA K tr Γ ds) : EvA K (tCons ta tr) Γ (d :: ds) := fun F H σ e s Q q =>
  ha F H σ e s _ fun v F1 H1 g r1 => hr F1 H1 σ (e.mono g.f) g.s _ fun vs F2 H2 g2 r2 => q (v :: vs) F2 H2 (g.trans g2) (.cons (r1.mono g2.f) r2)
theorem evl_lst (ha : EvA K tr Γ ds) (hz : ds.length ≤ 1000000) : EvL K (tLst tr) Γ ds := fun F H σ e s Q q => ha F H σ e s _ fun vs F1 H1 g r1 =>
  ⟨Nat.le_trans (r1.len ▸ hz) (by decide), fun p hp => q p vs F1 _ (g.newH hp) (g.h.free hp) (g.s.free hp) upd_same r1⟩
theorem ev_tup (ha : EvA K tr Γ ds) (hz : ds.length ≤ 1000000) : EvD K (tTup tr) Γ (.tup ds) := fun F H σ e s Q q => ha F H σ e s _ fun vs F1 H1 g r1 =>
  ⟨Nat.le_trans (r1.len ▸ hz) (by decide), fun p hp => q (.ref p) _ _ (g.new hp) (.tup (Or.inl (Or.inl upd_same)) (r1.mono (same_new (g.s.free hp))))⟩
theorem ev_cb {rc : List V → Hp → VK → Prop} (ha : EvA K tr Γ ds) (hr : RcD K rc ds z) : EvD K (tCB rc tr) Γ z := fun F H σ e s Q q =>
  ha F H σ e s _ fun vs F1 H1 g r1 => hr F1 H1 vs g.s r1 Q fun v F2 H2 g2 => q v F2 H2 (g.trans g2)
theorem evl_cb {rc : List V → Hp → VK → Prop} (ha : EvA K tr Γ ds) (hr : RcL K rc ds es) : EvL K (tCB rc tr) Γ es := fun F H σ e s Q q =>
  ha F H σ e s _ fun vs F1 H1 g r1 => hr F1 H1 vs g.s r1 Q fun p ws F2 H2 g2 h1 => q p ws F2 H2 (g.trans g2) (g.h.free h1)
/-! tests -/
theorem et_test {b : Bool} (h : EvD K te Γ (.bl b)) : EvT K (tTest te) Γ b := fun F H σ e s Q q => h F H σ e s _ fun v F' H' g r => by
  cases r
  exact ⟨b, rfl, q H' g.h⟩
theorem et_B {b : Bool} (h : EvD K te Γ (.bl b)) : EvT K (tB te) Γ b := fun F H σ e s Q q => h F H σ e s _ fun v F' H' g r => by
  cases r
  exact ⟨b, rfl, q H' g.h⟩
theorem et_and {a b : Bool} (h1 : EvT K tt Γ a) (h2 : a = true → EvT K tu Γ b) : EvT K (tAnd tt tu) Γ (a && b) := fun F H σ e s Q q => h1 F H σ e s _ fun H' g => by
  cases a with
  | true => exact h2 rfl F H' σ e (s.trans g) _ fun H2 g2 => q H2 (g.trans g2)
  | false => exact q H' g
theorem et_or {a b : Bool} (h1 : EvT K tt Γ a) (h2 : a = false → EvT K tu Γ b) : EvT K (tOr tt tu) Γ (a || b) := fun F H σ e s Q q => h1 F H σ e s _ fun H' g => by
  cases a with
  | false => exact h2 rfl F H' σ e (s.trans g) _ fun H2 g2 => q H2 (g.trans g2)
  | true => exact q H' g
theorem et_not {a : Bool} (h1 : EvT K tt Γ a) : EvT K (tNot tt) Γ (!a) := fun F H σ e s Q q => h1 F H σ e s _ fun H' g => q H' g
theorem et_is {a b : Bool} (h : EvT K tt Γ a) (e : a = b) : EvT K tt Γ b := e ▸ h
theorem ev_is (h : EvD K te Γ x) (e : x = y) : EvD K te Γ y := e ▸ h
theorem evl_is (h : EvL K te Γ ds) (e : ds = es) : EvL K te Γ es := e ▸ h
theorem ev_andV {a b : Bool} (h1 : EvD K ta Γ (.bl a)) (h2 : a = true → EvD K tb Γ (.bl b)) : EvD K (tAndV ta tb) Γ (.bl (a && b)) := fun F H σ e s Q q => h1 F H σ e s _ fun v F1 H1 g r => by
  cases r
  refine ⟨a, rfl, ?_⟩
  cases a with
  | true => exact h2 rfl F1 H1 σ (e.mono g.f) g.s _ fun v F2 H2 g2 r2 => q v F2 H2 (g.trans g2) r2
  | false => exact q _ F1 H1 g (.bl _)
theorem ev_orV {a b : Bool} (h1 : EvD K ta Γ (.bl a)) (h2 : a = false → EvD K tb Γ (.bl b)) : EvD K (tOrV ta tb) Γ (.bl (a || b)) := fun F H σ e s Q q => h1 F H σ e s _ fun v F1 H1 g r => by
  cases r
  refine ⟨a, rfl, ?_⟩
  cases a with
  | false => exact h2 rfl F1 H1 σ (e.mono g.f) g.s _ fun v F2 H2 g2 r2 => q v F2 H2 (g.trans g2) r2
  | true => exact q _ F1 H1 g (.bl _)
theorem ev_notV {a : Bool} (h1 : EvD K ta Γ (.bl a)) : EvD K (tNotV ta) Γ (.bl (!a)) := fun F H σ e s Q q => h1 F H σ e s _ fun v F1 H1 g r => by
  cases r
  exact ⟨a, rfl, q _ F1 H1 g (.bl _)⟩
theorem ev_if {b : Bool} (h : EvT K tt Γ b) (h1 : b = true → EvD K ta Γ d) (h2 : b = false → EvD K tb Γ d) : EvD K (tIf tt ta tb) Γ d := fun F H σ e s Q q => h F H σ e s _ fun H' g => by
  have s' : Same F H' := s.trans g
  cases b with
  | true => exact h1 rfl F H' σ e s' Q fun v F2 H2 g2 r => q v F2 H2 ⟨g2.f, g.trans g2.h, g2.s, fun a o z => (g2.n a o z).elim Or.inl fun y => Or.inr (g.free y)⟩ r
  | false => exact h2 rfl F H' σ e s' Q fun v F2 H2 g2 r => q v F2 H2 ⟨g2.f, g.trans g2.h, g2.s, fun a o z => (g2.n a o z).elim Or.inl fun y => Or.inr (g.free y)⟩ r
/-- the two ways by a decided test -/
theorem ev_ite {b : Bool} {d1 d2 : D} (h : EvT K tt Γ b) (h1 : b = true → EvD K ta Γ d1) (h2 : b = false → EvD K tb Γ d2) : EvD K (tIf tt ta tb) Γ (if b = true then d1 else d2) :=
  ev_if h (fun e => by rw [if_pos e]; exact h1 e) (fun e => by rw [if_neg (by rw [e]; decide)]; exact h2 e)
theorem ev_chain {r1 r2 : R2} {b1 b2 : Bool} {x y w : D} (ha : EvD K ta Γ x) (hb : EvD K tb Γ y) (h1 : RvD K r1 x y (.bl b1)) (hc : b1 = true → EvD K tc Γ w) (h2 : b1 = true → RvD K r2 y w (.bl b2)) : EvD K (tChain r1 r2 ta tb tc) Γ (.bl (b1 && b2)) := fun F H σ e s Q q =>
  ha F H σ e s _ fun v F1 H1 g r1 => hb F1 H1 σ (e.mono g.f) g.s _ fun u F2 H2 g2 r2 => h1 F2 H2 v u g2.s (r1.mono g2.f) r2 _ fun z F3 H3 g3 r3 => by
    cases r3
    refine ⟨b1, rfl, ?_⟩
    cases b1 with
    | true => exact hc rfl F3 H3 σ (e.mono (g.f.trans (g2.f.trans g3.f))) g3.s _ fun z2 F4 H4 g4 r4 => h2 rfl F4 H4 u z2 g4.s (r2.mono (g3.f.trans g4.f)) r4 Q fun z3 F5 H5 g5 r5 => q z3 F5 H5 ((((g.trans g2).trans g3).trans g4).trans g5) r5
    | false => exact q _ F3 H3 ((g.trans g2).trans g3) (.bl _)
end
end Z

namespace Z
open PySem PySem.Spec PyProof.Rows L2

/-! ## operators, many kinds in one -/
theorem or_op {X : Cx} {f : Value → Value → Sem Value} {r r' : R2} (h : OpR X f r) (h' : OpR X f r') : OpR X f (fun x y H Q => r x y H Q ∨ r' x y H Q) :=
  fun pins s σ H x y v u Q I rx ry q => q.elim (fun z => h pins s σ H x y v u Q I rx ry z) (fun z => h' pins s σ H x y v u Q I rx ry z)
def rAddI : R2 := rI0 fun i j => .int (i + j)
def rAddT : R2 := fun x y H Q => ∃ i j, x = .str i ∧ y = .str j ∧ i.length + j.length ≤ sizeLine ∧ Q (.str (i ++ j)) H
def rAddU (K : PySem.W.Frag) : R2 := fun x y H Q => rAddI x y H Q ∨ rAddT x y H Q ∨ rCat x y H Q ∨ rCatT K x y H Q
def rMulI : R2 := rI CMulW fun i j => .int (i * j)
def rMulU : R2 := fun x y H Q => rMulI x y H Q ∨ rRep x y H Q
def rSubI : R2 := rI0 fun i j => .int (i - j)
def rDivI : R2 := rI CDivW fun i j => .int (i / j)
def rModI : R2 := rI (fun _ j => 0 < j) fun i j => .int (i % j)
def rPowI : R2 := rI CPow fun i j => .int (i ^ j.toNat)
def rShlI : R2 := rI CPow fun i j => .int (i * 2 ^ j.toNat)
def rLtI : R2 := rI0 fun i j => .bl (decide (i < j))
def rLeI : R2 := rI0 fun i j => .bl (decide (i ≤ j))
def rGtI : R2 := rI0 fun i j => .bl (decide (j < i))
def rGeI : R2 := rI0 fun i j => .bl (decide (j ≤ i))
def rIsNo : R2 := fun x y H Q => y = .non ∧ Q (.bl (decide (x = .non))) H
def rNotNo : R2 := fun x y H Q => y = .non ∧ Q (.bl (!decide (x = .non))) H
def rNegI : V → Hp → VK → Prop := rU fun i => .int (-i)
section
variable {X : Cx}
theorem zo_add : OpR X (binaryOp .Add) (rAddU X.K) := or_op op_add (or_op op_add_str (or_op op_cat op_catT))
theorem zo_mul : OpR X (binaryOp .Mult) rMulU := or_op op_mulW op_rep
theorem zo_sub : OpR X (binaryOp .Sub) rSubI := op_sub
theorem zo_fdiv : OpR X (binaryOp .FloorDiv) rDivI := op_fdivW
theorem zo_mod : OpR X (binaryOp .Mod) rModI := op_mod
theorem zo_pow : OpR X (binaryOp .Pow) rPowI := op_pow
theorem zo_shl : OpR X (binaryOp .LShift) rShlI := op_shl
theorem zo_lt : OpR X (compareOp .Lt) rLtI := op_lt
theorem zo_le : OpR X (compareOp .LtE) rLeI := op_le
theorem zo_gt : OpR X (compareOp .Gt) rGtI := op_gt
theorem zo_ge : OpR X (compareOp .GtE) rGeI := op_ge
theorem zo_isN : OpR X (compareOp .Is) rIsNo := op_isN
theorem zo_notN : OpR X (compareOp .IsNot) rNotNo := op_notN
theorem zo_neg : UnR X (unaryOp .USub) rNegI := un_neg
end
section
variable {K : PySem.W.Frag} {i j : Int}
theorem rv_I0 {g : Int → Int → V} {gd : Int → Int → D} (hg : ∀ F i j, R K F (g i j) (gd i j)) : RvD K (rI0 g) (.int i) (.int j) (gd i j) := fun F H a b s ra rb Q q => by
  cases ra
  cases rb
  exact ⟨i, j, rfl, rfl, q _ F H (.refl s) (hg F i j)⟩
theorem rv_I {C : Int → Int → Prop} {g : Int → Int → V} {gd : Int → Int → D} (hg : ∀ F i j, R K F (g i j) (gd i j)) (hc : C i j) : RvD K (rI C g) (.int i) (.int j) (gd i j) := fun F H a b s ra rb Q q => by
  cases ra
  cases rb
  exact ⟨i, j, rfl, rfl, hc, q _ F H (.refl s) (hg F i j)⟩
theorem rv_add : RvD K (rAddU K) (.int i) (.int j) (.int (i + j)) := fun F H a b s ra rb Q q => Or.inl (rv_I0 (fun _ _ _ => .int _) F H a b s ra rb Q q)
theorem rv_sub : RvD K rSubI (.int i) (.int j) (.int (i - j)) := rv_I0 fun _ _ _ => .int _
theorem rv_mul (hc : CMulW i j) : RvD K rMulU (.int i) (.int j) (.int (i * j)) := fun F H a b s ra rb Q q => Or.inl (rv_I (fun _ _ _ => .int _) hc F H a b s ra rb Q q)
theorem rv_fdiv (hc : CDivW i j) : RvD K rDivI (.int i) (.int j) (.int (i / j)) := rv_I (fun _ _ _ => .int _) hc
theorem rv_mod (hc : 0 < j) : RvD K rModI (.int i) (.int j) (.int (i % j)) := rv_I (C := fun _ j => 0 < j) (fun _ _ _ => .int _) hc
theorem rv_pow (hc : CPow i j) : RvD K rPowI (.int i) (.int j) (.int (i ^ j.toNat)) := rv_I (fun _ _ _ => .int _) hc
theorem rv_shl (hc : CPow i j) : RvD K rShlI (.int i) (.int j) (.int (i * 2 ^ j.toNat)) := rv_I (fun _ _ _ => .int _) hc
theorem rv_lt : RvD K rLtI (.int i) (.int j) (.bl (decide (i < j))) := rv_I0 fun _ _ _ => .bl _
theorem rv_le : RvD K rLeI (.int i) (.int j) (.bl (decide (i ≤ j))) := rv_I0 fun _ _ _ => .bl _
theorem rv_gt : RvD K rGtI (.int i) (.int j) (.bl (decide (j < i))) := rv_I0 fun _ _ _ => .bl _
theorem rv_ge : RvD K rGeI (.int i) (.int j) (.bl (decide (j ≤ i))) := rv_I0 fun _ _ _ => .bl _
theorem ru_neg : RuD K rNegI (.int i) (.int (-i)) := fun F H a s ra Q q => by
  cases ra
  exact ⟨i, rfl, q _ F H (.refl s) (.int _)⟩
theorem rv_addT {x y : Str} (h : x.length + y.length ≤ 1000000) : RvD K (rAddU K) (.str x) (.str y) (.str (x ++ y)) := fun F H a b s ra rb Q q => by
  cases ra
  cases rb
  exact Or.inr (Or.inl ⟨x, y, rfl, rfl, Nat.le_trans h (by decide), q _ F H (.refl s) (.str _)⟩)
theorem rvl_cat {xs ys : List D} (h : xs.length + ys.length ≤ 1000000) : RvL K (rAddU K) (.lst xs) (.lst ys) (xs ++ ys) := fun F H a b s ra rb Q q => by
  cases ra with
  | lst h1 r1 =>
  cases rb with
  | lst h2 r2 =>
  refine Or.inr (Or.inr (Or.inl ⟨_, _, _, _, rfl, rfl, s _ _ h1, s _ _ h2, ?_, fun p hp => q p _ F _ (Gr.newH (.refl s) hp) hp (s.free hp) upd_same (r1.append r2)⟩))
  rw [r1.len, r2.len]
  exact Nat.le_trans h (by decide)
theorem rvl_rep {xs : List D} (h0 : -(2 ^ 63) ≤ i ∧ i < 2 ^ 63) (h : xs.length * i.toNat ≤ 1000000) : RvL K rMulU (.lst xs) (.int i) (List.replicate i.toNat xs).flatten := fun F H a b s ra rb Q q => by
  cases ra with
  | lst h1 r1 =>
  cases rb
  refine Or.inr ⟨_, _, _, rfl, rfl, s _ _ h1, h0.1, h0.2, ?_, fun p hp => q p _ F _ (Gr.newH (.refl s) hp) hp (s.free hp) upd_same (r1.reps _)⟩
  rw [r1.len]
  exact Nat.le_trans h (by decide)
end

/-! ## plain data: == and repr -/
mutual
def toP : D → PyData
  | .non => .none
  | .bl b => .bool b
  | .int i => .int i
  | .str x => .str x
  | .lst xs => .list (toPs xs)
  | .tup xs => .tuple (toPs xs)
  | .dic _ => .none
  | .obj _ _ => .none
def toPs : List D → List PyData
  | [] => []
  | x :: xs => toP x :: toPs xs
end
mutual
/-- neither dicts nor objects within -/
def pla : D → Bool
  | .lst xs => plas xs
  | .tup xs => plas xs
  | .dic _ => false
  | .obj _ _ => false
  | _ => true
def plas : List D → Bool
  | [] => true
  | x :: xs => pla x && plas xs
end
section
variable {K : PySem.W.Frag} {F H : Hp}
mutual
theorem R.dp : ∀ {v : V} {d : D}, R K F v d → pla d = true → Dp K F v (toP d)
  | _, _, .non, _ => .non
  | _, _, .bl b, _ => .bl b
  | _, _, .int i, _ => .int i
  | _, _, .str x, _ => .str x
  | _, _, .lst h r, p => .lst (Or.inl (Or.inl h)) (RA.dp r p)
  | _, _, .tup h r, p => .tup h (RA.dp r p)
  | _, _, .dic h r, p => by simp [pla] at p
  | _, _, .obj h r, p => by simp [pla] at p
theorem RA.dp : ∀ {vs : List V} {ds : List D}, RA K F vs ds → plas ds = true → DpAll K F vs (toPs ds)
  | _, _, .nil, _ => .nil
  | _, _, .cons h r, p => by
    simp only [plas, Bool.and_eq_true] at p
    exact .cons (R.dp h p.1) (RA.dp r p.2)
end
/-- plain, within the lines of == -/
def okD (d : D) : Bool := pla d && SeqAt.shaped (toP d)
theorem okD_p {d : D} (h : okD d = true) : pla d = true := (Bool.and_eq_true_iff.mp h).1
theorem okD_s {d : D} (h : okD d = true) : SeqAt.shaped (toP d) = true := (Bool.and_eq_true_iff.mp h).2
def rEqU (K : PySem.W.Frag) : R2 := fun x y H Q => rEq x y H Q ∨ rEqD K x y H Q
def rNeU (K : PySem.W.Frag) : R2 := fun x y H Q => rNe x y H Q ∨ rNeD K x y H Q
theorem zo_eq {X : Cx} (hu : X.A.units + 64 < cLine) : OpR X (compareOp .Eq) (rEqU X.K) := or_op op_eq (op_eqD hu)
theorem zo_ne {X : Cx} (hu : X.A.units + 64 < cLine) : OpR X (compareOp .NotEq) (rNeU X.K) := or_op op_ne (op_neD hu)
theorem rv_eqD {x y : D} (hx : okD x = true) (hy : okD y = true) : RvD K (rEqU K) x y (.bl (PyData.eqv (toP x) (toP y))) := fun F H a b s ra rb Q q =>
  Or.inr ⟨toP x, toP y, (ra.mono s).dp (okD_p hx), (rb.mono s).dp (okD_p hy), okD_s hx, okD_s hy, q _ F H (.refl s) (.bl _)⟩
theorem rv_neD {x y : D} (hx : okD x = true) (hy : okD y = true) : RvD K (rNeU K) x y (.bl (!PyData.eqv (toP x) (toP y))) := fun F H a b s ra rb Q q =>
  Or.inr ⟨toP x, toP y, (ra.mono s).dp (okD_p hx), (rb.mono s).dp (okD_p hy), okD_s hx, okD_s hy, q _ F H (.refl s) (.bl _)⟩
theorem okD_int (i : Int) : okD (.int i) = true := by simp [okD, pla, toP, SeqAt.shaped, PyData.canLay0, PyData.depth]
theorem okD_bl (i : Bool) : okD (.bl i) = true := by simp [okD, pla, toP, SeqAt.shaped, PyData.canLay0, PyData.depth]
theorem okD_non : okD .non = true := by simp [okD, pla, toP, SeqAt.shaped, PyData.canLay0, PyData.depth]
theorem okD_str {x : Str} (h : PyData.strOk x = true) : okD (.str x) = true := by simp [okD, pla, toP, SeqAt.shaped, PyData.canLay0, PyData.depth, h]
theorem eqv_int (i j : Int) : PyData.eqv (.int i) (.int j) = decide (i = j) := by
  by_cases h : i = j <;> simp [PyData.eqv, h]
theorem eqv_str (i j : Str) : PyData.eqv (.str i) (.str j) = decide (i = j) := by
  by_cases h : i = j <;> simp [PyData.eqv, h]
theorem eqv_bool (i j : Bool) : PyData.eqv (.bool i) (.bool j) = decide (i = j) := by
  cases i <;> cases j <;> simp [PyData.eqv]
theorem eqv_self {d : D} (h : okD d = true) : PyData.eqv (toP d) (toP d) = true := SeqAt.eqv_refl _ (SeqAt.canLay_of_shaped (okD_s h))
theorem rv_eqI {i j : Int} : RvD K (rEqU K) (.int i) (.int j) (.bl (decide (i = j))) := fun F H a b s ra rb Q q => by
  cases ra
  cases rb
  refine Or.inl ⟨rfl, ?_⟩
  rw [show decide (V.int i = V.int j) = decide (i = j) from decide_eq_decide.mpr ⟨fun z => V.int.inj z, fun z => by rw [z]⟩]
  exact q _ F H (.refl s) (.bl _)
theorem rv_neI {i j : Int} : RvD K (rNeU K) (.int i) (.int j) (.bl (!decide (i = j))) := fun F H a b s ra rb Q q => by
  cases ra
  cases rb
  refine Or.inl ⟨rfl, ?_⟩
  rw [show decide (V.int i = V.int j) = decide (i = j) from decide_eq_decide.mpr ⟨fun z => V.int.inj z, fun z => by rw [z]⟩]
  exact q _ F H (.refl s) (.bl _)
theorem rv_eqT {i j : Str} : RvD K (rEqU K) (.str i) (.str j) (.bl (decide (i = j))) := fun F H a b s ra rb Q q => by
  cases ra
  cases rb
  refine Or.inl ⟨rfl, ?_⟩
  rw [show decide (V.str i = V.str j) = decide (i = j) from decide_eq_decide.mpr ⟨fun z => V.str.inj z, fun z => by rw [z]⟩]
  exact q _ F H (.refl s) (.bl _)
theorem rv_neT {i j : Str} : RvD K (rNeU K) (.str i) (.str j) (.bl (!decide (i = j))) := fun F H a b s ra rb Q q => by
  cases ra
  cases rb
  refine Or.inl ⟨rfl, ?_⟩
  rw [show decide (V.str i = V.str j) = decide (i = j) from decide_eq_decide.mpr ⟨fun z => V.str.inj z, fun z => by rw [z]⟩]
  exact q _ F H (.refl s) (.bl _)
theorem rv_eqB {i j : Bool} : RvD K (rEqU K) (.bl i) (.bl j) (.bl (decide (i = j))) := fun F H a b s ra rb Q q => by
  cases ra
  cases rb
  refine Or.inl ⟨rfl, ?_⟩
  rw [show decide (V.bl i = V.bl j) = decide (i = j) from decide_eq_decide.mpr ⟨fun z => V.bl.inj z, fun z => by rw [z]⟩]
  exact q _ F H (.refl s) (.bl _)
theorem rv_eqS {x : D} (h : okD x = true) : RvD K (rEqU K) x x (.bl true) := by
  have h1 := rv_eqD (K := K) h h
  rw [eqv_self h] at h1
  exact h1
theorem rv_neS {x : D} (h : okD x = true) : RvD K (rNeU K) x x (.bl false) := by
  have h1 := rv_neD (K := K) h h
  rw [eqv_self h] at h1
  exact h1
theorem toPs_ints : ∀ ns : List Int, toPs (ns.map D.int) = ns.map PyData.int
  | [] => rfl
  | n :: ns => by simp [toPs, toP, toPs_ints ns]
theorem plas_ints : ∀ ns : List Int, plas (ns.map D.int) = true
  | [] => rfl
  | n :: ns => by simp [plas, pla, plas_ints ns]
theorem lay_ints : ∀ ns : List Int, PyData.canLayAll0 (ns.map PyData.int) = true
  | [] => rfl
  | n :: ns => by simp [PyData.canLayAll0, PyData.canLay0, lay_ints ns]
theorem depth_ints : ∀ ns : List Int, PyData.depthAll (ns.map PyData.int) ≤ 1
  | [] => by simp [PyData.depthAll]
  | n :: ns => by
    have := depth_ints ns
    simp only [List.map_cons, PyData.depthAll, PyData.depth]
    omega
theorem okD_ints (ns : List Int) : okD (.lst (ns.map D.int)) = true := by
  have := depth_ints ns
  simp only [okD, pla, plas_ints, toP, toPs_ints, SeqAt.shaped, PyData.canLay0, lay_ints, PyData.depth, Bool.true_and, Bool.and_true, decide_eq_true_eq]
  omega
end

/-! ## isinstance of data by built-in classes -/
def tyN : D → Option String
  | .non => some "NoneType"
  | .bl _ => some "bool"
  | .int _ => some "int"
  | .str _ => some "str"
  | .lst _ => some "list"
  | .tup _ => some "tuple"
  | .dic _ => some "dict"
  | .obj _ _ => none
theorem ty_x {K : PySem.W.Frag} {F H : Hp} {v : V} {d : D} {t : String} (h : R K F v d) (s : Same F H) (e : tyN d = some t) : TyX K H v (.type t) := by
  cases h <;> simp only [tyN, Option.some.injEq, reduceCtorEq] at e <;> subst e
  · exact .base .non
  · exact .base (.bl _)
  · exact .base (.int _)
  · exact .base (.str _)
  · rename_i h r
    exact .base (.lst (s _ _ h))
  · rename_i h r
    rcases h with (h | ⟨o, h⟩) | ⟨o, its, n, h1, h2, _⟩
    · exact .base (.tup (s _ _ h))
    · exact .fTuple (s _ _ h)
    · exact .kTuple h1 h2
  · rename_i h r
    rcases h with h | ⟨o, h⟩
    · exact .base (.dK (s _ _ h))
    · exact .fDict (s _ _ h)
section
variable {K : PySem.W.Frag} {Γ : DE} {ta : TE} {x : D} {t : String}
theorem ev_isi {c : String} {b : Bool} (ha : EvD K ta Γ x) (e : tyN x = some t) (h : kitB t c = some b) : EvD K (tCB (rIsi K) (tCons ta (tCons (tC (.ty c)) tNil))) Γ (.bl b) := fun F H σ e1 s Q q =>
  ha F H σ e1 s _ fun v F1 H1 g r => ⟨v, .ty c, .type t, .type c, b, rfl, .ty c, ty_x r g.s e, kit_ty h, q _ F1 H1 g (.bl b)⟩
theorem ev_isi2 {c1 c2 : String} {b1 b2 : Bool} (ha : EvD K ta Γ x) (e : tyN x = some t) (h1 : kitB t c1 = some b1) (h2 : kitB t c2 = some b2) :
    EvD K (tCB (rIsiT K) (tCons ta (tCons (tTup (tCons (tC (.ty c1)) (tCons (tC (.ty c2)) tNil))) tNil))) Γ (.bl (b1 || b2)) := fun F H σ e1 s Q q =>
  ha F H σ e1 s _ fun v F1 H1 g r => ⟨by show 2 ≤ sizeLine; decide, fun p hp => by
    refine ⟨v, p, [.ty c1, .ty c2], .type t, [.type c1, .type c2], b1 || b2, rfl, upd_same, .cons (.ty c1) (.cons (.ty c2) .nil), ty_x (r.mono (g.s.trans (same_new hp))) (.refl _) e, ?_, q _ F1 _ (g.newH hp) (.bl _)⟩
    cases b1 with
    | true => exact kitAny_cons (kit_ty h1) (fun z => by cases z) (fun _ => rfl)
    | false =>
      cases b2 with
      | true => exact kitAny_cons (kit_ty h1) (fun _ => kitAny_cons (kit_ty h2) (fun z => by cases z) (fun _ => rfl)) (fun z => by cases z)
      | false => exact kitAny_cons (kit_ty h1) (fun _ => kitAny_cons (kit_ty h2) (fun _ => kitAny_nil) (fun z => by cases z)) (fun z => by cases z)⟩
end
end Z

namespace Z
open PySem PySem.Spec PyProof.Rows L2

/-! ## slots that may change -/
inductive Dt where
  | un | im (d : D) | own (ds : List D) | bx (n : Nat) | scr (ns : List Int)
def mu : Dt → Bool
  | .own _ => true
  | .bx _ => true
  | _ => false
/-- the law's box: a great rest, a cell below a prime, the number of turns (at most n) -/
def BoxO (n : Nat) (o : HO) : Prop := ∃ a c t : Int, o = .lst [.int a, .int c, .int t] ∧ 0 ≤ a ∧ 0 ≤ c ∧ c < 2147483629 ∧ 0 ≤ t ∧ t ≤ n
def SlotR (K : PySem.W.Frag) (F H : Hp) (v : Option (Option V)) : Dt → Prop
  | .un => True
  | .im d => ∃ u, v = some (some u) ∧ R K F u d
  | .own ds => ∃ p vs, v = some (some (.ref p)) ∧ F p = none ∧ H p = some (.lst vs) ∧ RA K F vs ds
  | .bx n => ∃ p o, v = some (some (.ref p)) ∧ F p = none ∧ H p = some o ∧ BoxO n o
  | .scr ns => ∃ a, v = some (some (.ref a)) ∧ SqL K F a (ns.map V.int)
/-- an activation: the heap and the frozen part at its entry, the parameters that it may change -/
structure Bs where
  H0 : Hp
  F0 : Hp
  pins : List (Nat × Addr)
def Bs.M (B : Bs) : List Addr := B.pins.map (·.2)
structure EnvR (K : PySem.W.Frag) (B : Bs) (F H : Hp) (σ : L2.St) (Γ : List Dt) : Prop where
  len : σ.length = Γ.length
  slot : ∀ (i : Nat) (t : Dt), Γ[i]? = some t → SlotR K F H σ[i]? t
  dist : ∀ (i j : Nat) (s t : Dt) (p : Addr), Γ[i]? = some s → Γ[j]? = some t → mu s = true → mu t = true → σ[i]? = some (some (.ref p)) → σ[j]? = some (some (.ref p)) → i = j
  pin : ∀ q ∈ B.pins, σ[q.1]? = some (some (.ref q.2)) ∧ ∃ t, Γ[q.1]? = some t ∧ mu t = true
  mine : ∀ (i : Nat) (t : Dt) (p : Addr), Γ[i]? = some t → mu t = true → σ[i]? = some (some (.ref p)) → p ∈ B.M ∨ B.H0 p = none
  fr : Same F H
  f0 : Same B.F0 F
  keep : ∀ a o, B.H0 a = some o → a ∉ B.M → H a = some o
  there : ∀ a, H a = none → B.H0 a = none
  new : ∀ a o, F a = some o → B.F0 a = some o ∨ B.H0 a = none

section
variable {K : PySem.W.Frag} {B : Bs} {F H F' H' : Hp} {σ σ' : L2.St} {Γ Γ' : List Dt}
theorem SlotR.mono {v : Option (Option V)} {t : Dt} (h : SlotR K F H v t) (g : Gr F H F' H') : SlotR K F' H' v t := by
  cases t with
  | un => trivial
  | im d => obtain ⟨u, a, b⟩ := h; exact ⟨u, a, b.mono g.f⟩
  | own ds => obtain ⟨p, vs, a, b, c, d⟩ := h; exact ⟨p, vs, a, g.no b c, g.h _ _ c, d.mono g.f⟩
  | bx n => obtain ⟨p, o, a, b, c, d⟩ := h; exact ⟨p, o, a, g.no b c, g.h _ _ c, d⟩
  | scr ns => obtain ⟨a, b, c⟩ := h; exact ⟨a, b, same_l g.f c⟩
theorem EnvR.grow (E : EnvR K B F H σ Γ) (g : Gr F H F' H') : EnvR K B F' H' σ Γ where
  len := E.len
  slot := fun i t h => (E.slot i t h).mono g
  dist := E.dist
  pin := E.pin
  mine := E.mine
  fr := g.s
  f0 := E.f0.trans g.f
  keep := fun a o h n => g.h a o (E.keep a o h n)
  there := fun a h => E.there a (g.h.free h)
  new := fun a o h => (g.n a o h).elim (E.new a o) fun z => Or.inr (E.there a z)
/-- the heap grows, the frozen part stays -/
theorem Gr.hOnly (e : Same F H) (h : Same H H') : Gr F H F H' := ⟨.refl _, h, e.trans h, fun _ _ z => Or.inl z⟩
theorem EnvR.pure (E : EnvR K B F H σ Γ) (h : Same H H') : EnvR K B F H' σ Γ := E.grow (Gr.hOnly E.fr h)
/-- a slot gets a value of data -/
theorem EnvR.setI {i : Nat} {v : V} {d : D} {pn : List Nat} (E : EnvR K B F H σ Γ) (hp : ∀ q ∈ B.pins, q.1 ∈ pn) (hi : i ∉ pn) (h : R K F v d) : EnvR K B F H (σ.set i (some v)) (Γ.set i (.im d)) where
  len := by rw [List.length_set, List.length_set]; exact E.len
  slot := fun j t hj => by
    by_cases e : i = j
    · subst e
      have hl : i < Γ.length := by
        have := (List.getElem?_eq_some_iff.mp hj).1
        rw [List.length_set] at this
        exact this
      rw [List.getElem?_set_self hl] at hj
      cases hj
      exact ⟨v, List.getElem?_set_self (by rw [E.len]; exact hl), h⟩
    · rw [List.getElem?_set_ne e] at hj
      rw [List.getElem?_set_ne e]
      exact E.slot j t hj
  dist := fun j k s t p h1 h2 m1 m2 h3 h4 => by
    have nj : ∀ (l : Nat) (r : Dt), (Γ.set i (.im d))[l]? = some r → mu r = true → i ≠ l := fun l r hr m e => by
      subst e
      have hl : i < Γ.length := by
        have := (List.getElem?_eq_some_iff.mp hr).1
        rw [List.length_set] at this
        exact this
      rw [List.getElem?_set_self hl] at hr
      cases hr
      cases m
    have n1 := nj j s h1 m1
    have n2 := nj k t h2 m2
    rw [List.getElem?_set_ne n1] at h1 h3
    rw [List.getElem?_set_ne n2] at h2 h4
    exact E.dist j k s t p h1 h2 m1 m2 h3 h4
  pin := fun q hq => by
    have n : i ≠ q.1 := fun e => hi (e ▸ hp q hq)
    rw [List.getElem?_set_ne n, List.getElem?_set_ne n]
    exact E.pin q hq
  mine := fun j t p h1 m h2 => by
    have n : i ≠ j := fun e => by
      subst e
      have hl : i < Γ.length := by
        have := (List.getElem?_eq_some_iff.mp h1).1
        rw [List.length_set] at this
        exact this
      rw [List.getElem?_set_self hl] at h1
      cases h1
      cases m
    rw [List.getElem?_set_ne n] at h1 h2
    exact E.mine j t p h1 m h2
  fr := E.fr
  f0 := E.f0
  keep := E.keep
  there := E.there
  new := E.new
/-- a slot gets a new object that may change -/
theorem EnvR.setO {i : Nat} {p : Addr} {t : Dt} {pn : List Nat} (E : EnvR K B F H σ Γ) (hp : ∀ q ∈ B.pins, q.1 ∈ pn) (hi : i ∉ pn) (hs : SlotR K F H (some (some (.ref p))) t) (h0 : B.H0 p = none)
    (hn : ∀ (j : Nat) (s : Dt), Γ[j]? = some s → mu s = true → σ[j]? ≠ some (some (.ref p))) : EnvR K B F H (σ.set i (some (.ref p))) (Γ.set i t) where
  len := by rw [List.length_set, List.length_set]; exact E.len
  slot := fun j s hj => by
    by_cases e : i = j
    · subst e
      have hl : i < Γ.length := by
        have := (List.getElem?_eq_some_iff.mp hj).1
        rw [List.length_set] at this
        exact this
      rw [List.getElem?_set_self hl] at hj
      cases hj
      rw [List.getElem?_set_self (by rw [E.len]; exact hl)]
      exact hs
    · rw [List.getElem?_set_ne e] at hj
      rw [List.getElem?_set_ne e]
      exact E.slot j s hj
  dist := fun j k s u q h1 h2 m1 m2 h3 h4 => by
    have old : ∀ (l : Nat) (r : Dt), i ≠ l → (Γ.set i t)[l]? = some r → Γ[l]? = some r := fun l r n h => by rw [List.getElem?_set_ne n] at h; exact h
    have oldσ : ∀ (l : Nat) (r : Option V), i ≠ l → (σ.set i (some (.ref p)))[l]? = some r → σ[l]? = some r := fun l r n h => by rw [List.getElem?_set_ne n] at h; exact h
    by_cases e1 : i = j
    · by_cases e2 : i = k
      · rw [← e1, ← e2]
      · subst e1
        have hl : i < σ.length := by
          have := (List.getElem?_eq_some_iff.mp h3).1
          rw [List.length_set] at this
          exact this
        rw [List.getElem?_set_self hl] at h3
        cases h3
        exact absurd (oldσ k _ e2 h4) (hn k u (old k u e2 h2) m2)
    · by_cases e2 : i = k
      · subst e2
        have hl : i < σ.length := by
          have := (List.getElem?_eq_some_iff.mp h4).1
          rw [List.length_set] at this
          exact this
        rw [List.getElem?_set_self hl] at h4
        cases h4
        exact absurd (oldσ j _ e1 h3) (hn j s (old j s e1 h1) m1)
      · exact E.dist j k s u q (old j s e1 h1) (old k u e2 h2) m1 m2 (oldσ j _ e1 h3) (oldσ k _ e2 h4)
  pin := fun q hq => by
    have n : i ≠ q.1 := fun e => hi (e ▸ hp q hq)
    rw [List.getElem?_set_ne n, List.getElem?_set_ne n]
    exact E.pin q hq
  mine := fun j s q h1 m h2 => by
    by_cases e : i = j
    · subst e
      have hl : i < σ.length := by
        have := (List.getElem?_eq_some_iff.mp h2).1
        rw [List.length_set] at this
        exact this
      rw [List.getElem?_set_self hl] at h2
      cases h2
      exact Or.inr h0
    · rw [List.getElem?_set_ne e] at h1 h2
      exact E.mine j s q h1 m h2
  fr := E.fr
  f0 := E.f0
  keep := E.keep
  there := E.there
  new := E.new
/-- slot i's own object is changed, to what t' tells -/
theorem EnvR.put {i : Nat} {p : Addr} {t t' : Dt} {o : HO} (E : EnvR K B F H σ Γ) (ht : Γ[i]? = some t) (m : mu t = true) (m' : mu t' = true) (hs : σ[i]? = some (some (.ref p))) (hf : F p = none) (hh : H p ≠ none)
    (hn : SlotR K F (upd H p o) (some (some (.ref p))) t') : EnvR K B F (upd H p o) σ (Γ.set i t') where
  len := by rw [List.length_set]; exact E.len
  slot := fun j s hj => by
    have hl : i < Γ.length := (List.getElem?_eq_some_iff.mp ht).1
    by_cases e : i = j
    · subst e
      rw [List.getElem?_set_self hl] at hj
      cases hj
      rw [hs]
      exact hn
    · rw [List.getElem?_set_ne e] at hj
      have h := E.slot j s hj
      have ne : ∀ q, mu s = true → σ[j]? = some (some (.ref q)) → q ≠ p := fun q ms h2 z => by
        subst z
        exact e (E.dist i j t s q ht hj m ms hs h2)
      cases s with
      | un => trivial
      | im d => exact h
      | own ds => obtain ⟨q, vs, a, b, c, d⟩ := h; exact ⟨q, vs, a, b, by rw [upd_ne (ne q rfl a)]; exact c, d⟩
      | bx n => obtain ⟨q, u, a, b, c, d⟩ := h; exact ⟨q, u, a, b, by rw [upd_ne (ne q rfl a)]; exact c, d⟩
      | scr ns => exact h
  dist := fun j k s u q h1 h2 m1 m2 h3 h4 => by
    have hl : i < Γ.length := (List.getElem?_eq_some_iff.mp ht).1
    have old : ∀ (l : Nat) (r : Dt), (Γ.set i t')[l]? = some r → mu r = true → ∃ r', Γ[l]? = some r' ∧ mu r' = true := fun l r h mr => by
      by_cases e : i = l
      · subst e; exact ⟨t, ht, m⟩
      · rw [List.getElem?_set_ne e] at h; exact ⟨r, h, mr⟩
    obtain ⟨s', a1, a2⟩ := old j s h1 m1
    obtain ⟨u', b1, b2⟩ := old k u h2 m2
    exact E.dist j k s' u' q a1 b1 a2 b2 h3 h4
  pin := fun q hq => by
    obtain ⟨a, r, b, c⟩ := E.pin q hq
    have hl : i < Γ.length := (List.getElem?_eq_some_iff.mp ht).1
    refine ⟨a, ?_⟩
    by_cases e : i = q.1
    · rw [← e, List.getElem?_set_self hl]; exact ⟨t', rfl, m'⟩
    · rw [List.getElem?_set_ne e]; exact ⟨r, b, c⟩
  mine := fun j s q h1 ms h2 => by
    by_cases e : i = j
    · subst e; exact E.mine i t q ht m h2
    · rw [List.getElem?_set_ne e] at h1; exact E.mine j s q h1 ms h2
  fr := fun a u h => by
    have : a ≠ p := fun e => by rw [e, hf] at h; cases h
    rw [upd_ne this]; exact E.fr a u h
  f0 := E.f0
  keep := fun a u h n => by
    have : a ≠ p := fun e => by
      subst e
      rcases E.mine i t a ht m hs with z | z
      · exact n z
      · rw [z] at h; cases h
    rw [upd_ne this]; exact E.keep a u h n
  there := fun a h => by
    by_cases e : a = p
    · subst e; rw [upd_same] at h; cases h
    · rw [upd_ne e] at h; exact E.there a h
  new := E.new
/-- the slots as data: with what may change (for scalars), without -/
def vw : List Dt → DE := List.map fun t => match t with
  | .im d => some d
  | .own ds => some (.lst ds)
  | _ => none
def vi : List Dt → DE := List.map fun t => match t with
  | .im d => some d
  | _ => none
theorem EnvR.psl (E : EnvR K B F H σ Γ) : PSl K F σ (vi Γ) := ⟨by unfold vi; rw [List.length_map]; exact E.len, fun i d h => by
  unfold vi at h
  rw [List.getElem?_map] at h
  cases e : Γ[i]? with
  | none => rw [e] at h; cases h
  | some t =>
    rw [e] at h
    have s := E.slot i t e
    cases t <;> simp at h
    subst h
    exact s⟩
open Classical in
noncomputable def thw (F H : Hp) (σ : L2.St) (Γ : List Dt) : Hp := fun a => match F a with
  | some o => some o
  | none => if ∃ (i : Nat) (ds : List D), Γ[i]? = some (.own ds) ∧ σ[i]? = some (some (.ref a)) then H a else none
theorem thw_f : Same F (thw F H σ Γ) := fun a o h => by unfold thw; rw [h]
theorem thw_h (e : Same F H) : Same (thw F H σ Γ) H := fun a o h => by
  unfold thw at h
  split at h
  · rename_i u z
    cases h
    exact e _ _ z
  · split at h
    · exact h
    · cases h
theorem thw_new (E : EnvR K B F H σ Γ) {a : Addr} {o : HO} (h : thw F H σ Γ a = some o) : F a = some o ∨ ∃ (i : Nat) (ds : List D), Γ[i]? = some (.own ds) ∧ σ[i]? = some (some (.ref a)) := by
  unfold thw at h
  split at h
  · rename_i u z
    cases h
    exact Or.inl z
  · split at h
    · rename_i z; exact Or.inr z
    · cases h
theorem EnvR.pslw (E : EnvR K B F H σ Γ) : PSl K (thw F H σ Γ) σ (vw Γ) := ⟨by unfold vw; rw [List.length_map]; exact E.len, fun i d h => by
  unfold vw at h
  rw [List.getElem?_map] at h
  cases e : Γ[i]? with
  | none => rw [e] at h; cases h
  | some t =>
    rw [e] at h
    have s := E.slot i t e
    cases t with
    | im d' =>
      have h' : d' = d := by simpa using h
      subst h'
      obtain ⟨u, a, b⟩ := s
      exact ⟨u, a, b.mono thw_f⟩
    | own ds =>
      have h' : D.lst ds = d := by simpa using h
      subst h'
      obtain ⟨p, vs, a, b, c, r⟩ := s
      refine ⟨_, a, .lst (vs := vs) ?_ (r.mono thw_f)⟩
      unfold thw
      rw [b]
      exact (if_pos ⟨i, ds, e, a⟩).trans c
    | un => simp at h
    | bx n => simp at h
    | scr ns => simp at h⟩

/-! ## what holds behind -/
/-- a value: data, or a new list that may change -/
def TR (K : PySem.W.Frag) (B : Bs) (F H : Hp) (σ : L2.St) (Γ : List Dt) (v : V) : Dt → Prop
  | .im d => R K F v d
  | .own ds => ∃ p vs, v = .ref p ∧ F p = none ∧ B.H0 p = none ∧ H p = some (.lst vs) ∧ RA K F vs ds ∧ ∀ (j : Nat) (s : Dt), Γ[j]? = some s → mu s = true → σ[j]? ≠ some (some (.ref p))
  | .bx n => ∃ p o, v = .ref p ∧ F p = none ∧ B.H0 p = none ∧ H p = some o ∧ BoxO n o ∧ ∀ (j : Nat) (s : Dt), Γ[j]? = some s → mu s = true → σ[j]? ≠ some (some (.ref p))
  | _ => False
end
/-- an exception's class and its fields, as they lie -/
def XR (K : PySem.W.Frag) (F H : Hp) (dd : Option Addr) (fs : List (Str × D)) : Prop := ∃ d vs, dd = some d ∧ H d = some (.xd vs) ∧ RS K F vs fs
structure Po where
  nx : List Dt → Prop
  rt : Dt → List Dt → Prop
  bk : List Dt → Prop := fun _ => False
  ct : List Dt → Prop := fun _ => False
  xc : Value → List (Str × D) → List Dt → Prop := fun _ _ _ => False
abbrev EK := L2.St → XK
def Xw (K : PySem.W.Frag) (E : EK) (B : Bs) (xc : Value → List (Str × D) → List Dt → Prop) : Prop :=
  ∀ (cls : Value) (fs : List (Str × D)) (Γ : List Dt) (dd : Option Addr) (F H : Hp) (σ : L2.St), xc cls fs Γ → EnvR K B F H σ Γ → XR K F H dd fs → E σ cls dd H
def wpE (K : PySem.W.Frag) (E : EK) (te : TE) (Γ : List Dt) (Q : Dt → List Dt → Prop) (xc : Value → List (Str × D) → List Dt → Prop) : Prop :=
  ∀ (B : Bs) (F H : Hp) (σ : L2.St), EnvR K B F H σ Γ → Xw K E B xc → ∀ QQ : VK, (∀ v t Γ' F' H', Q t Γ' → EnvR K B F' H' σ Γ' → Same F F' → TR K B F' H' σ Γ' v t → QQ v H') → te σ H QQ
def wpT (K : PySem.W.Frag) (E : EK) (tt : TT) (Γ : List Dt) (Q : Bool → List Dt → Prop) (xc : Value → List (Str × D) → List Dt → Prop) : Prop :=
  ∀ (B : Bs) (F H : Hp) (σ : L2.St), EnvR K B F H σ Γ → Xw K E B xc → ∀ QQ : Bool → Hp → Prop, (∀ b Γ' F' H', Q b Γ' → EnvR K B F' H' σ Γ' → Same F F' → QQ b H') → tt σ H QQ
def wpA (K : PySem.W.Frag) (E : EK) (ta : TA) (Γ : List Dt) (Q : List D → List Dt → Prop) (xc : Value → List (Str × D) → List Dt → Prop) : Prop :=
  ∀ (B : Bs) (F H : Hp) (σ : L2.St), EnvR K B F H σ Γ → Xw K E B xc → ∀ QQ : List V → Hp → Prop, (∀ vs ds Γ' F' H', Q ds Γ' → EnvR K B F' H' σ Γ' → Same F F' → RA K F' vs ds → QQ vs H') → ta σ H QQ
def wpS (K : PySem.W.Frag) (E : EK) (pn : List Nat) (ts : TS) (Γ : List Dt) (P : Po) : Prop :=
  ∀ (B : Bs) (F H : Hp) (σ : L2.St) (Dn : Ends), (∀ q ∈ B.pins, q.1 ∈ pn) → EnvR K B F H σ Γ → Xw K E B P.xc →
    (∀ Γ' F' H' σ', P.nx Γ' → EnvR K B F' H' σ' Γ' → Same F F' → Dn.nx σ' H') → (∀ Γ' F' H' σ', P.bk Γ' → EnvR K B F' H' σ' Γ' → Same F F' → Dn.bk σ' H') → (∀ Γ' F' H' σ', P.ct Γ' → EnvR K B F' H' σ' Γ' → Same F F' → Dn.ct σ' H') →
    (∀ v t Γ' F' H' σ', P.rt t Γ' → EnvR K B F' H' σ' Γ' → TR K B F' H' σ' Γ' v t → Dn.rt v H') → ts Dn σ H

section
variable {K : PySem.W.Frag} {E : EK} {te ta tb : TE} {tt tu : TT} {tr : TA} {Γ : List Dt} {Q : Dt → List Dt → Prop} {QT : Bool → List Dt → Prop} {QA : List D → List Dt → Prop} {xc : Value → List (Str × D) → List Dt → Prop} {d : D} {ds : List D}
/-- a scalar, whatever is read on the way -/
theorem we_s (h : EvD K te (vw Γ) d) (s : sca d = true) (q : Q (.im d) Γ) : wpE K E te Γ Q xc := fun B F H σ e x QQ k =>
  h _ H σ e.pslw (thw_h e.fr) QQ fun v F' H' g r => k v _ Γ F H' q (e.pure g.h) (.refl _) (R.sca r s)
theorem we_d (h : EvD K te (vi Γ) d) (q : Q (.im d) Γ) : wpE K E te Γ Q xc := fun B F H σ e x QQ k =>
  h F H σ e.psl e.fr QQ fun v F' H' g r => k v _ Γ F' H' q (e.grow g) g.f r
theorem we_l (h : EvL K te (vi Γ) ds) (q : Q (.own ds) Γ) : wpE K E te Γ Q xc := fun B F H σ e x QQ k =>
  h F H σ e.psl e.fr QQ fun p vs F' H' g h1 h2 h3 h4 => k (.ref p) (.own ds) Γ F' H' q (e.grow g) g.f ⟨p, vs, rfl, h2, e.there p h1, h3, h4, fun j s hs m z => by
    have sl := e.slot j s hs
    cases s with
    | own es => obtain ⟨u, ws, a, _, c, _⟩ := sl; rw [z] at a; cases a; rw [h1] at c; cases c
    | bx n => obtain ⟨u, o, a, _, c, _⟩ := sl; rw [z] at a; cases a; rw [h1] at c; cases c
    | un => cases m
    | im _ => cases m
    | scr _ => cases m⟩
theorem wt_p {b : Bool} (h : EvT K tt (vw Γ) b) (q : QT b Γ) : wpT K E tt Γ QT xc := fun B F H σ e x QQ k =>
  h _ H σ e.pslw (thw_h e.fr) QQ fun H' g => k b Γ F H' q (e.pure g) (.refl _)
theorem wa_p (h : EvA K tr (vi Γ) ds) (q : QA ds Γ) : wpA K E tr Γ QA xc := fun B F H σ e x QQ k =>
  h F H σ e.psl e.fr QQ fun vs F' H' g r => k vs ds Γ F' H' q (e.grow g) g.f r
/-- scalars -/
def scas (ds : List D) : Bool := ds.all sca
theorem RA.scas {F F' : Hp} : ∀ {vs : List V} {ds : List D}, RA K F vs ds → scas ds = true → RA K F' vs ds
  | _, _, .nil, _ => .nil
  | _, _, .cons h r, s => by
    have s' := Bool.and_eq_true_iff.mp (show (sca _ && List.all _ sca) = true from s)
    exact .cons (R.sca h s'.1) (RA.scas r s'.2)
theorem wa_s (h : EvA K tr (vw Γ) ds) (s : scas ds = true) (q : QA ds Γ) : wpA K E tr Γ QA xc := fun B F H σ e x QQ k =>
  h _ H σ e.pslw (thw_h e.fr) QQ fun vs F' H' g r => k vs ds Γ F H' q (e.pure g.h) (.refl _) (r.scas s)
theorem we_mono {Q' : Dt → List Dt → Prop} (h : wpE K E te Γ Q' xc) (m : ∀ t Γ', Q' t Γ' → Q t Γ') : wpE K E te Γ Q xc := fun B F H σ e x QQ k =>
  h B F H σ e x QQ fun v t Γ' F' H' q => k v t Γ' F' H' (m t Γ' q)
/-- a new list becomes data -/
theorem EnvR.freeze {B : Bs} {F H : Hp} {σ : L2.St} {v : V} (e : EnvR K B F H σ Γ) (t : TR K B F H σ Γ v (.own ds)) : ∃ F', Same F F' ∧ EnvR K B F' H σ Γ ∧ R K F' v (.lst ds) := by
  obtain ⟨p, vs, rfl, h1, h2, h3, h4, h5⟩ := t
  have sf : Same F (upd F p (.lst vs)) := same_new h1
  refine ⟨upd F p (.lst vs), sf, ?_, .lst upd_same (h4.mono sf)⟩
  refine ⟨e.len, fun i t ht => ?_, e.dist, e.pin, e.mine, fun a o z => ?_, e.f0.trans sf, e.keep, e.there, fun a o z => ?_⟩
  · have s := e.slot i t ht
    cases t with
    | un => trivial
    | im d => obtain ⟨u, a, b⟩ := s; exact ⟨u, a, b.mono sf⟩
    | own es => obtain ⟨q, ws, a, b, c, r⟩ := s; exact ⟨q, ws, a, (upd_ne (fun (z : q = p) => h5 i _ ht rfl (by rw [← z]; exact a))).trans b, c, r.mono sf⟩
    | bx n => obtain ⟨q, o, a, b, c, r⟩ := s; exact ⟨q, o, a, (upd_ne (fun (z : q = p) => h5 i _ ht rfl (by rw [← z]; exact a))).trans b, c, r⟩
    | scr ns => obtain ⟨a, b, c⟩ := s; exact ⟨a, b, same_l sf c⟩
  · by_cases e1 : a = p
    · subst e1; rw [upd_same] at z; rw [← z]; exact h3
    · rw [upd_ne e1] at z; exact e.fr a o z
  · by_cases e1 : a = p
    · subst e1; exact Or.inr h2
    · rw [upd_ne e1] at z; exact e.new a o z
/-- what is made is taken as data -/
def frz (Q : D → List Dt → Prop) : Dt → List Dt → Prop
  | .im d, Γ => Q d Γ
  | .own ds, Γ => Q (.lst ds) Γ
  | _, _ => False
def wpD (K : PySem.W.Frag) (E : EK) (te : TE) (Γ : List Dt) (Q : D → List Dt → Prop) (xc : Value → List (Str × D) → List Dt → Prop) : Prop :=
  ∀ (B : Bs) (F H : Hp) (σ : L2.St), EnvR K B F H σ Γ → Xw K E B xc → ∀ QQ : VK, (∀ v d Γ' F' H', Q d Γ' → EnvR K B F' H' σ Γ' → Same F F' → R K F' v d → QQ v H') → te σ H QQ
theorem wd_e {QD : D → List Dt → Prop} (h : wpE K E te Γ (frz QD) xc) : wpD K E te Γ QD xc := fun B F H σ e x QQ k =>
  h B F H σ e x QQ fun v t Γ' F' H' q e' s' r => by
    cases t with
    | im d => exact k v d Γ' F' H' q e' s' r
    | own ds =>
      obtain ⟨F2, s2, e2, r2⟩ := e'.freeze r
      exact k v _ Γ' F2 H' q e2 (s'.trans s2) r2
    | un => exact q.elim
    | bx _ => exact q.elim
    | scr _ => exact q.elim
theorem we_D {QD : D → List Dt → Prop} (h : wpD K E te Γ QD xc) (m : ∀ d Γ', QD d Γ' → Q (.im d) Γ') : wpE K E te Γ Q xc := fun B F H σ e x QQ k =>
  h B F H σ e x QQ fun v d Γ' F' H' q e' s' r => k v _ Γ' F' H' (m d Γ' q) e' s' r
theorem wd_s {QD : D → List Dt → Prop} (h : EvD K te (vw Γ) d) (s : sca d = true) (q : QD d Γ) : wpD K E te Γ QD xc := fun B F H σ e x QQ k =>
  h _ H σ e.pslw (thw_h e.fr) QQ fun v F' H' g r => k v _ Γ F H' q (e.pure g.h) (.refl _) (R.sca r s)
theorem wd_d {QD : D → List Dt → Prop} (h : EvD K te (vi Γ) d) (q : QD d Γ) : wpD K E te Γ QD xc := fun B F H σ e x QQ k =>
  h F H σ e.psl e.fr QQ fun v F' H' g r => k v _ Γ F' H' q (e.grow g) g.f r
/-! parts, from the left -/
variable {QD : D → List Dt → Prop}
theorem wd_op {r : R2} (ha : wpD K E ta Γ (fun x Γ1 => wpD K E tb Γ1 (fun y Γ2 => ∃ z, RvD K r x y z ∧ QD z Γ2) xc) xc) : wpD K E (tOp r ta tb) Γ QD xc := fun B F H σ e x QQ k =>
  ha B F H σ e x _ fun v dx Γ1 F1 H1 q1 e1 s1 r1 => q1 B F1 H1 σ e1 x _ fun w dy Γ2 F2 H2 ⟨z, hz, q2⟩ e2 s2 r2 => hz F2 H2 v w e2.fr (r1.mono s2) r2 QQ fun u F3 H3 g r3 => k u z Γ2 F3 H3 q2 (e2.grow g) ((s1.trans s2).trans g.f) r3
theorem we_opL {r : R2} (ha : wpD K E ta Γ (fun x Γ1 => wpD K E tb Γ1 (fun y Γ2 => ∃ zs, RvL K r x y zs ∧ Q (.own zs) Γ2) xc) xc) : wpE K E (tOp r ta tb) Γ Q xc := fun B F H σ e x QQ k =>
  ha B F H σ e x _ fun v dx Γ1 F1 H1 q1 e1 s1 r1 => q1 B F1 H1 σ e1 x _ fun w dy Γ2 F2 H2 ⟨z, hz, q2⟩ e2 s2 r2 => hz F2 H2 v w e2.fr (r1.mono s2) r2 QQ fun p vs F3 H3 g h1 h2 h3 h4 =>
    k _ (.own z) Γ2 F3 H3 q2 (e2.grow g) ((s1.trans s2).trans g.f) ⟨p, vs, rfl, h2, e2.there p h1, h3, h4, fun j s hs m zz => by
      have sl := e2.slot j s hs
      cases s with
      | own es => obtain ⟨u, ws, a, _, c, _⟩ := sl; rw [zz] at a; cases a; rw [h1] at c; cases c
      | bx n => obtain ⟨u, o, a, _, c, _⟩ := sl; rw [zz] at a; cases a; rw [h1] at c; cases c
      | un => cases m
      | im _ => cases m
      | scr _ => cases m⟩
theorem wd_un {ru : V → Hp → VK → Prop} (ha : wpD K E ta Γ (fun x Γ1 => ∃ z, RuD K ru x z ∧ QD z Γ1) xc) : wpD K E (tUn ru ta) Γ QD xc := fun B F H σ e x QQ k =>
  ha B F H σ e x _ fun v dx Γ1 F1 H1 ⟨z, hz, q1⟩ e1 s1 r1 => hz F1 H1 v e1.fr r1 QQ fun u F3 H3 g r3 => k u z Γ1 F3 H3 q1 (e1.grow g) (s1.trans g.f) r3
theorem wa_nil (q : QA [] Γ) : wpA K E tNil Γ QA xc := fun B F H σ e x QQ k => k [] [] Γ F H q e (.refl _) .nil
theorem wa_cons (ha : wpD K E ta Γ (fun y Γ1 => wpA K E tr Γ1 (fun ys Γ2 => QA (y :: ys) Γ2) xc) xc) : wpA K E (tCons ta tr) Γ QA xc := fun B F H σ e x QQ k =>
  ha B F H σ e x _ fun v y Γ1 F1 H1 q1 e1 s1 r1 => q1 B F1 H1 σ e1 x _ fun vs ys Γ2 F2 H2 q2 e2 s2 r2 => k (v :: vs) (y :: ys) Γ2 F2 H2 q2 e2 (s1.trans s2) (.cons (r1.mono s2) r2)
theorem we_lst (ha : wpA K E tr Γ (fun ds Γ1 => ds.length ≤ 1000000 ∧ Q (.own ds) Γ1) xc) : wpE K E (tLst tr) Γ Q xc := fun B F H σ e x QQ k =>
  ha B F H σ e x _ fun vs ds Γ1 F1 H1 ⟨z, q1⟩ e1 s1 r1 => ⟨Nat.le_trans (r1.len ▸ z) (by decide), fun p hp => k _ (.own ds) Γ1 F1 _ q1 (e1.pure (same_new hp)) s1 ⟨p, vs, rfl, e1.fr.free hp, e1.there p hp, upd_same, r1, fun j s hs m zz => by
      have sl := e1.slot j s hs
      cases s with
      | own es => obtain ⟨u, ws, a, _, c, _⟩ := sl; rw [zz] at a; cases a; rw [hp] at c; cases c
      | bx n => obtain ⟨u, o, a, _, c, _⟩ := sl; rw [zz] at a; cases a; rw [hp] at c; cases c
      | un => cases m
      | im _ => cases m
      | scr _ => cases m⟩⟩
theorem wd_tup (ha : wpA K E tr Γ (fun ds Γ1 => ds.length ≤ 1000000 ∧ QD (.tup ds) Γ1) xc) : wpD K E (tTup tr) Γ QD xc := fun B F H σ e x QQ k =>
  ha B F H σ e x _ fun vs ds Γ1 F1 H1 ⟨z, q1⟩ e1 s1 r1 => ⟨Nat.le_trans (r1.len ▸ z) (by decide), fun p hp => by
    have g : Gr F1 H1 (upd F1 p (.tup vs)) (upd H1 p (.tup vs)) := (Gr.refl e1.fr).new hp
    exact k _ (.tup ds) Γ1 _ _ q1 (e1.grow g) (s1.trans g.f) (.tup (Or.inl (Or.inl upd_same)) (r1.mono g.f))⟩
theorem wd_cb {rc : List V → Hp → VK → Prop} (ha : wpA K E tr Γ (fun ds Γ1 => ∃ z, RcD K rc ds z ∧ QD z Γ1) xc) : wpD K E (tCB rc tr) Γ QD xc := fun B F H σ e x QQ k =>
  ha B F H σ e x _ fun vs ds Γ1 F1 H1 ⟨z, hz, q1⟩ e1 s1 r1 => hz F1 H1 vs e1.fr r1 QQ fun v F2 H2 g r2 => k v z Γ1 F2 H2 q1 (e1.grow g) (s1.trans g.f) r2
theorem wt_test (h : wpD K E te Γ (fun d Γ1 => ∃ b, d = .bl b ∧ QT b Γ1) xc) : wpT K E (tTest te) Γ QT xc := fun B F H σ e x QQ k =>
  h B F H σ e x _ fun v d Γ1 F1 H1 ⟨b, eb, q⟩ e1 s1 r1 => by
    subst eb
    cases r1
    exact ⟨b, rfl, k b Γ1 F1 H1 q e1 s1⟩
theorem wt_B (h : wpD K E te Γ (fun d Γ1 => ∃ b, d = .bl b ∧ QT b Γ1) xc) : wpT K E (tB te) Γ QT xc := fun B F H σ e x QQ k =>
  h B F H σ e x _ fun v d Γ1 F1 H1 ⟨b, eb, q⟩ e1 s1 r1 => by
    subst eb
    cases r1
    exact ⟨b, rfl, k b Γ1 F1 H1 q e1 s1⟩
theorem wt_and (h : wpT K E tt Γ (fun b Γ1 => (b = true → wpT K E tu Γ1 QT xc) ∧ (b = false → QT false Γ1)) xc) : wpT K E (tAnd tt tu) Γ QT xc := fun B F H σ e x QQ k =>
  h B F H σ e x _ fun b Γ1 F1 H1 q e1 s1 => by
    cases b with
    | true => exact q.1 rfl B F1 H1 σ e1 x QQ fun b2 Γ2 F2 H2 q2 e2 s2 => k b2 Γ2 F2 H2 q2 e2 (s1.trans s2)
    | false => exact k false Γ1 F1 H1 (q.2 rfl) e1 s1
theorem wt_or (h : wpT K E tt Γ (fun b Γ1 => (b = false → wpT K E tu Γ1 QT xc) ∧ (b = true → QT true Γ1)) xc) : wpT K E (tOr tt tu) Γ QT xc := fun B F H σ e x QQ k =>
  h B F H σ e x _ fun b Γ1 F1 H1 q e1 s1 => by
    cases b with
    | false => exact q.1 rfl B F1 H1 σ e1 x QQ fun b2 Γ2 F2 H2 q2 e2 s2 => k b2 Γ2 F2 H2 q2 e2 (s1.trans s2)
    | true => exact k true Γ1 F1 H1 (q.2 rfl) e1 s1
theorem wt_not (h : wpT K E tt Γ (fun b Γ1 => QT (!b) Γ1) xc) : wpT K E (tNot tt) Γ QT xc := fun B F H σ e x QQ k =>
  h B F H σ e x _ fun b Γ1 F1 H1 q e1 s1 => k (!b) Γ1 F1 H1 q e1 s1
theorem wd_if (h : wpT K E tt Γ (fun b Γ1 => (b = true → wpD K E ta Γ1 QD xc) ∧ (b = false → wpD K E tb Γ1 QD xc)) xc) : wpD K E (tIf tt ta tb) Γ QD xc := fun B F H σ e x QQ k =>
  h B F H σ e x _ fun b Γ1 F1 H1 q e1 s1 => by
    cases b with
    | true => exact q.1 rfl B F1 H1 σ e1 x QQ fun v d Γ2 F2 H2 q2 e2 s2 r2 => k v d Γ2 F2 H2 q2 e2 (s1.trans s2) r2
    | false => exact q.2 rfl B F1 H1 σ e1 x QQ fun v d Γ2 F2 H2 q2 e2 s2 r2 => k v d Γ2 F2 H2 q2 e2 (s1.trans s2) r2
end
end Z

namespace Z
open PySem PySem.Spec PyProof.Rows L2

/-! ## frames -/
def mps (σ : L2.St) (Γ : List Dt) : List (Nat × Addr) := (List.range Γ.length).filterMap fun i => match Γ[i]?, σ[i]? with
  | some t, some (some (V.ref p)) => if mu t = true then some (i, p) else none
  | _, _ => none
theorem mps_mem {σ : L2.St} {Γ : List Dt} {i : Nat} {p : Addr} : (i, p) ∈ mps σ Γ ↔ ∃ t, Γ[i]? = some t ∧ mu t = true ∧ σ[i]? = some (some (.ref p)) := by
  unfold mps
  rw [List.mem_filterMap]
  constructor
  · rintro ⟨j, hj, e⟩
    split at e
    · rename_i t q h1 h2
      split at e
      · cases e
        rename_i m
        exact ⟨t, h1, m, h2⟩
      · cases e
    · cases e
  · rintro ⟨t, h1, m, h2⟩
    refine ⟨i, List.mem_range.mpr (List.getElem?_eq_some_iff.mp h1).1, ?_⟩
    rw [h1, h2]
    simp [m]
section
variable {K : PySem.W.Frag} {B : Bs} {F H F' H' : Hp} {σ σ' : L2.St} {Γ Γ' : List Dt}
/-- the state as a new activation -/
theorem EnvR.base (e : EnvR K B F H σ Γ) : EnvR K ⟨H, F, mps σ Γ⟩ F H σ Γ where
  len := e.len
  slot := e.slot
  dist := e.dist
  pin := fun q hq => by
    obtain ⟨i, p⟩ := q
    obtain ⟨t, h1, m, h2⟩ := mps_mem.mp hq
    exact ⟨h2, t, h1, m⟩
  mine := fun i t p h1 m h2 => Or.inl (List.mem_map.mpr ⟨(i, p), mps_mem.mpr ⟨t, h1, m, h2⟩, rfl⟩)
  fr := e.fr
  f0 := .refl _
  keep := fun _ _ h _ => h
  there := fun _ h => h
  new := fun _ _ h => Or.inl h
theorem mine_of (e : EnvR K B F H σ Γ) {a : Addr} (h : a ∈ (mps σ Γ).map (·.2)) : a ∈ B.M ∨ B.H0 a = none := by
  obtain ⟨⟨i, p⟩, hq, rfl⟩ := List.mem_map.mp h
  obtain ⟨t, h1, m, h2⟩ := mps_mem.mp hq
  exact e.mine i t p h1 m h2
/-- .. and back -/
theorem EnvR.back (e : EnvR K B F H σ Γ) (e2 : EnvR K ⟨H, F, mps σ Γ⟩ F' H' σ' Γ') (hs : ∀ q ∈ B.pins, σ'[q.1]? = σ[q.1]?) : EnvR K B F' H' σ' Γ' where
  len := e2.len
  slot := e2.slot
  dist := e2.dist
  pin := fun q hq => by
    obtain ⟨a, t, b, m⟩ := e.pin q hq
    obtain ⟨_, t', b', m'⟩ := e2.pin q (mps_mem.mpr ⟨t, b, m, a⟩)
    exact ⟨(hs q hq).trans a, t', b', m'⟩
  mine := fun i t p h1 m h2 => by
    rcases e2.mine i t p h1 m h2 with z | z
    · exact mine_of e z
    · exact Or.inr (e.there p z)
  fr := e2.fr
  f0 := e.f0.trans e2.f0
  keep := fun a o h n => e2.keep a o (e.keep a o h n) fun z => by
    rcases mine_of e z with y | y
    · exact n y
    · rw [y] at h; cases h
  there := fun a h => e.there a (e2.there a h)
  new := fun a o h => by
    rcases e2.new a o h with z | z
    · exact e.new a o z
    · exact Or.inr (e.there a z)
theorem EnvR.back0 (e : EnvR K B F H σ Γ) (e2 : EnvR K ⟨H, F, mps σ Γ⟩ F' H' σ Γ') : EnvR K B F' H' σ Γ' := e.back e2 fun _ _ => rfl
theorem EnvR.wd {E : EK} {te : TE} {Q : D → List Dt → Prop} {xc : Value → List (Str × D) → List Dt → Prop} (e : EnvR K B F H σ Γ) (h : wpD K E te Γ Q xc) (x : Xw K E B xc) (QQ : VK)
    (k : ∀ v d Γ' F' H', Q d Γ' → EnvR K B F' H' σ Γ' → EnvR K ⟨H, F, mps σ Γ⟩ F' H' σ Γ' → R K F' v d → QQ v H')
    (nx : ∀ cls fs Γ', ¬ xc cls fs Γ') : te σ H QQ :=
  h _ F H σ e.base (fun cls fs Γ' dd F' H' σ' q => absurd q (nx cls fs Γ')) QQ fun v d Γ' F' H' q e2 s2 r => k v d Γ' F' H' q (e.back0 e2) e2 r
end

/-! ## what is walked -/
/-- the iterator gives these data, one a turn -/
def ItD (K : PySem.W.Frag) (F1 : Hp) (J : It) (ds : List D) : Prop := ∀ (F H : Hp), Same F1 F → Same F H → ∀ i : Nat, (i < ds.length → J.go i H) ∧ (ds.length ≤ i → J.stop i H) ∧
  ∀ x H' d, J.yld i H x H' → ds[i]? = some d → ∃ F', Gr F H F' H' ∧ R K F' x d
def EvI (K : PySem.W.Frag) (wi : TI) (Γ : DE) (ds : List D) : Prop := ∀ (F H : Hp) (σ : L2.St), PSl K F σ Γ → Same F H → ∀ Rr : It → Hp → Prop, (∀ J F' H', Gr F H F' H' → ItD K F' J ds → Rr J H') → wi σ H Rr
def wpI (K : PySem.W.Frag) (E : EK) (wi : TI) (Γ : List Dt) (Q : List D → List Dt → Prop) (xc : Value → List (Str × D) → List Dt → Prop) : Prop :=
  ∀ (B : Bs) (F H : Hp) (σ : L2.St), EnvR K B F H σ Γ → Xw K E B xc → ∀ Rr : It → Hp → Prop, (∀ J ds Γ' F' H', Q ds Γ' → EnvR K B F' H' σ Γ' → Same F F' → ItD K F' J ds → Rr J H') → wi σ H Rr
/-- a list, a tuple or a text -/
def iSeq (K : PySem.W.Frag) (tl : TE) : TI := fun σ H Rr => tl σ H fun x H1 => (∃ a xs, x = .ref a ∧ SqL K H1 a xs ∧ Rr (Itl K a) H1) ∨ (∃ a xs, x = .ref a ∧ SqT K H1 a xs ∧ Rr (Itt K a) H1) ∨ ∃ z, x = .str z ∧ Rr (Its z) H1
theorem pi_seq {X : Cx} {tg l : Expr} {tl : TE} (hl : PE X l tl) : PI X tg l (iSeq X.K tl) := by
  constructor
  intro pins s σ H Rr I h
  apply thn (hl.run pins s σ H _ I h)
  rintro v s1 ⟨x, H1, I1, r1, q1⟩
  have lay : ∀ (ob : Obj), Inv X pins σ H1 { s1 with heap := s1.heap.push ob, toks := s1.toks } := fun ob => I1.kept (t' := s1.toks) fun b o e => Heap.get?_push_of_some _ e
  have fp : ∀ b ∈ [s1.heap.objs.size], FpOk X pins H1 b := fun b hb => by
    cases List.mem_singleton.mp hb
    exact I1.fpOk (Nat.le_refl _) (I1.hok.fresh (Nat.le_refl _))
  rcases q1 with ⟨a, xs, rfl, hq, q⟩ | ⟨a, xs, rfl, hq, q⟩ | ⟨z, rfl, q⟩
  · cases r1
    obtain ⟨its, rv, p, hz⟩ := I1.list hq
    exact wpAny_pyIter_list p.isList ⟨_, [s1.heap.objs.size], _, _, H1, rfl, lay _, turn_list a _, ⟨_, Heap.get?_push_size _ rfl, rfl, rfl⟩, fp, q⟩
  · cases r1
    obtain ⟨its, rv, p, hz⟩ := I1.tuple hq
    exact wpAny_pyIter_tuple (show s1.heap.IsTuple a its.toArray from p) ⟨_, [s1.heap.objs.size], _, _, H1, rfl, lay _, turn_tuple a _, ⟨_, Heap.get?_push_size _ rfl, rfl, rfl⟩, fp, q⟩
  · obtain ⟨t, rfl⟩ := r1
    cases ha : z.cps.all (· < 128)
    · exact wpAny_pyIter_wide ha (pi_one (tk := s1.toks) I1 _ (turn_str _ z t "str_iterator" (.inr rfl)) ⟨_, Heap.get?_push_size _ rfl, rfl, rfl⟩ q)
    · exact wpAny_pyIter_ascii ha (pi_one (tk := s1.toks) I1 _ (turn_str _ z t "str_ascii_iterator" (.inl rfl)) ⟨_, Heap.get?_push_size _ rfl, rfl, rfl⟩ q)
section
variable {K : PySem.W.Frag} {E : EK} {te tl : TE} {ta : TA} {wi : TI} {Γ : List Dt} {Γd : DE} {ds : List D} {xc : Value → List (Str × D) → List Dt → Prop}
theorem it_list {F : Hp} {a : Addr} {vs : List V} (h : F a = some (.lst vs)) (r : RA K F vs ds) : ItD K F (Itl K a) ds := fun F2 H s1 s2 i => by
  have hs : SqL K H a vs := Or.inl (Or.inl (s2 _ _ (s1 _ _ h)))
  refine ⟨fun hi => ?_, fun hi => ⟨vs, hs, by rw [r.len]; exact hi⟩, fun x H' d hy hd => ?_⟩
  · have : i < vs.length := by rw [r.len]; exact hi
    exact ⟨vs, vs[i], hs, List.getElem?_eq_getElem this⟩
  · obtain ⟨rfl, f⟩ := hy
    obtain ⟨v, hv, rv⟩ := r.get i d hd
    rw [f _ hs] at hv
    cases hv
    exact ⟨F2, .refl s2, rv.mono s1⟩
theorem it_tup {F : Hp} {a : Addr} {vs : List V} (h : SqT K F a vs) (r : RA K F vs ds) : ItD K F (Itt K a) ds := fun F2 H s1 s2 i => by
  have hs : SqT K H a vs := same_t (s1.trans s2) h
  refine ⟨fun hi => ?_, fun hi => ⟨vs, hs, by rw [r.len]; exact hi⟩, fun x H' d hy hd => ?_⟩
  · have : i < vs.length := by rw [r.len]; exact hi
    exact ⟨vs, vs[i], hs, List.getElem?_eq_getElem this⟩
  · obtain ⟨rfl, f⟩ := hy
    obtain ⟨v, hv, rv⟩ := r.get i d hd
    rw [f _ hs] at hv
    cases hv
    exact ⟨F2, .refl s2, rv.mono s1⟩
def rngD (lo : Int) (n : Nat) : List D := (List.range n).map fun i : Nat => D.int (lo + (i : Int))
theorem rngD_len {lo : Int} {n : Nat} : (rngD lo n).length = n := by unfold rngD; rw [List.length_map, List.length_range]
theorem it_rng {F : Hp} (lo : Int) (n : Nat) : ItD K F (Itr lo n) (rngD lo n) := fun F2 H s1 s2 i => by
  rw [rngD_len]
  refine ⟨fun hi => hi, fun hi => hi, fun x H' d hy hd => ?_⟩
  obtain ⟨rfl, rfl⟩ := hy
  unfold rngD at hd
  rw [List.getElem?_map] at hd
  by_cases hi : i < n
  · rw [List.getElem?_range hi] at hd
    cases hd
    exact ⟨F2, .refl s2, .int _⟩
  · rw [List.getElem?_eq_none (by simp; omega)] at hd
    cases hd
theorem ei_list (h : EvD K tl Γd (.lst ds)) : EvI K (iSeq K tl) Γd ds := fun F H σ e s Rr k => h F H σ e s _ fun v F' H' g r => by
  cases r with
  | lst h1 r1 => exact Or.inl ⟨_, _, rfl, Or.inl (Or.inl (g.s _ _ h1)), k _ F' H' g (it_list h1 r1)⟩
theorem ei_tup (h : EvD K tl Γd (.tup ds)) : EvI K (iSeq K tl) Γd ds := fun F H σ e s Rr k => h F H σ e s _ fun v F' H' g r => by
  cases r with
  | tup h1 r1 => exact Or.inr (Or.inl ⟨_, _, rfl, same_t g.s h1, k _ F' H' g (it_tup h1 r1)⟩)
theorem ei_r1 {n : Int} (h : EvA K ta Γd [.int n]) (hn : -(2 ^ 62) ≤ n ∧ n < 2 ^ 62) : EvI K (iRng1 ta) Γd (rngD 0 n.toNat) := fun F H σ e s Rr k => h F H σ e s _ fun vs F' H' g r => by
  cases r with
  | cons r1 r2 =>
    cases r1
    cases r2
    exact ⟨n, rfl, hn.1, hn.2, k _ F' H' g (it_rng 0 _)⟩
theorem ei_r2 {m n : Int} (h : EvA K ta Γd [.int m, .int n]) (hm : -(2 ^ 62) ≤ m ∧ m < 2 ^ 62) (hn : -(2 ^ 62) ≤ n ∧ n < 2 ^ 62) : EvI K (iRng2 ta) Γd (rngD m (n - m).toNat) := fun F H σ e s Rr k => h F H σ e s _ fun vs F' H' g r => by
  cases r with
  | cons r1 r2 =>
    cases r1
    cases r2 with
    | cons r3 r4 =>
      cases r3
      cases r4
      exact ⟨m, n, rfl, ⟨hm.1, hm.2, hn.1, hn.2⟩, k _ F' H' g (it_rng m _)⟩
variable {QI : List D → List Dt → Prop}
theorem wi_p (h : EvI K wi (vi Γ) ds) (q : QI ds Γ) : wpI K E wi Γ QI xc := fun B F H σ e x Rr k =>
  h F H σ e.psl e.fr Rr fun J F' H' g i => k J ds Γ F' H' q (e.grow g) g.f i
theorem wi_seq (h : wpD K E tl Γ (fun d Γ1 => ∃ es, (d = .lst es ∨ d = .tup es) ∧ QI es Γ1) xc) : wpI K E (iSeq K tl) Γ QI xc := fun B F H σ e x Rr k =>
  h B F H σ e x _ fun v d Γ1 F1 H1 ⟨es, hd, q⟩ e1 s1 r => by
    rcases hd with rfl | rfl
    · cases r with
      | lst h1 r1 => exact Or.inl ⟨_, _, rfl, Or.inl (Or.inl (e1.fr _ _ h1)), k _ es Γ1 F1 H1 q e1 s1 (it_list h1 r1)⟩
    · cases r with
      | tup h1 r1 => exact Or.inr (Or.inl ⟨_, _, rfl, same_t e1.fr h1, k _ es Γ1 F1 H1 q e1 s1 (it_tup h1 r1)⟩)
theorem wi_r1 (h : wpA K E ta Γ (fun ds Γ1 => ∃ n : Int, ds = [.int n] ∧ (-(2 ^ 62) ≤ n ∧ n < 2 ^ 62) ∧ QI (rngD 0 n.toNat) Γ1) xc) : wpI K E (iRng1 ta) Γ QI xc := fun B F H σ e x Rr k =>
  h B F H σ e x _ fun vs ds Γ1 F1 H1 ⟨n, hd, hn, q⟩ e1 s1 r => by
    subst hd
    cases r with
    | cons r1 r2 =>
      cases r1
      cases r2
      exact ⟨n, rfl, hn.1, hn.2, k _ _ Γ1 F1 H1 q e1 s1 (it_rng 0 _)⟩
end

/-! ## targets -/
def wpG (K : PySem.W.Frag) (pn : List Nat) (g : TG) (d : D) (Γ : List Dt) (Q : List Dt → Prop) : Prop :=
  ∀ (B : Bs) (F H : Hp) (σ : L2.St) (v : V), (∀ q ∈ B.pins, q.1 ∈ pn) → EnvR K B F H σ Γ → R K F v d → ∀ QQ : L2.St → Hp → Prop, (∀ Γ' σ', Q Γ' → EnvR K B F H σ' Γ' → (∀ i, i ∈ pn → σ'[i]? = σ[i]?) → QQ σ' H) → g v σ H QQ
def wpGs (K : PySem.W.Frag) (pn : List Nat) (g : TGs) (ds : List D) (Γ : List Dt) (Q : List Dt → Prop) : Prop :=
  ∀ (B : Bs) (F H : Hp) (σ : L2.St) (vs : List V), (∀ q ∈ B.pins, q.1 ∈ pn) → EnvR K B F H σ Γ → RA K F vs ds → ∀ QQ : L2.St → Hp → Prop, (∀ Γ' σ', Q Γ' → EnvR K B F H σ' Γ' → (∀ i, i ∈ pn → σ'[i]? = σ[i]?) → QQ σ' H) → g vs σ H QQ
section
variable {K : PySem.W.Frag} {pn : List Nat} {Γ : List Dt} {d : D} {ds : List D} {Q : List Dt → Prop} {i : Nat} {g : TG} {gs : TGs}
theorem wg_name (hi : i ∉ pn) (q : Q (Γ.set i (.im d))) : wpG K pn (gName i) d Γ Q := fun B F H σ v hp e r QQ k =>
  k _ _ q (e.setI hp hi r) fun j hj => List.getElem?_set_ne (fun (z : i = j) => hi (by rw [z]; exact hj))
theorem wgs_nil (q : Q Γ) : wpGs K pn gNil [] Γ Q := fun B F H σ vs hp e r QQ k => by
  cases r
  exact ⟨rfl, k Γ σ q e fun _ _ => rfl⟩
theorem wgs_cons (h : wpG K pn g d Γ fun Γ1 => wpGs K pn gs ds Γ1 Q) : wpGs K pn (gCons g gs) (d :: ds) Γ Q := fun B F H σ vs hp e r QQ k => by
  cases r with
  | cons r1 r2 => exact ⟨_, _, rfl, h B F H σ _ hp e r1 _ fun Γ1 σ1 q1 e1 s1 => q1 B F H σ1 _ hp e1 r2 QQ fun Γ2 σ2 q2 e2 s2 => k Γ2 σ2 q2 e2 fun j hj => (s2 j hj).trans (s1 j hj)⟩
theorem wg_tup {n : Nat} (hn : ds.length = n) (h : wpGs K pn gs ds Γ Q) : wpG K pn (gTup K n gs) (.tup ds) Γ Q := fun B F H σ v hp e r QQ k => by
  cases r with
  | tup h1 r1 => exact ⟨_, _, rfl, same_t e.fr h1, by rw [r1.len]; exact hn, h B F H σ _ hp e r1 QQ k⟩
end

/-! ## statements -/
section
variable {K : PySem.W.Frag} {E : EK} {pn : List Nat} {te ta tb : TE} {tt : TT} {tr : TA} {t u : TS} {wi : TI} {g : TG} {Γ : List Dt} {P : Po} {i j : Nat} {d : D} {ds : List D}
theorem ws_next (q : P.nx Γ) : wpS K E pn tNext Γ P := fun B F H σ Dn hp e x n b c r => n Γ F H σ q e (.refl _)
theorem ws_brk (q : P.bk Γ) : wpS K E pn tBreak Γ P := fun B F H σ Dn hp e x n b c r => b Γ F H σ q e (.refl _)
theorem ws_cont (q : P.ct Γ) : wpS K E pn tCont Γ P := fun B F H σ Dn hp e x n b c r => c Γ F H σ q e (.refl _)
theorem ws_seq (h : wpS K E pn t Γ { P with nx := fun Γ' => wpS K E pn u Γ' P }) : wpS K E pn (tSeq t u) Γ P := fun B F H σ Dn hp e x n b c r =>
  h B F H σ { Dn with nx := u Dn } hp e x (fun Γ' F' H' σ' q e' s' => q B F' H' σ' Dn hp e' x (fun a1 a2 a3 a4 a5 a6 a7 => n a1 a2 a3 a4 a5 a6 (s'.trans a7)) (fun a1 a2 a3 a4 a5 a6 a7 => b a1 a2 a3 a4 a5 a6 (s'.trans a7)) (fun a1 a2 a3 a4 a5 a6 a7 => c a1 a2 a3 a4 a5 a6 (s'.trans a7)) r) b c r
theorem ws_mono {P' : Po} (h : wpS K E pn t Γ P') (hn : ∀ Γ', P'.nx Γ' → P.nx Γ') (hr : ∀ t Γ', P'.rt t Γ' → P.rt t Γ') (hb : ∀ Γ', P'.bk Γ' → P.bk Γ') (hc : ∀ Γ', P'.ct Γ' → P.ct Γ') (hx : ∀ c f Γ', P'.xc c f Γ' → P.xc c f Γ') : wpS K E pn t Γ P :=
  fun B F H σ Dn hp e x n b c r => h B F H σ Dn hp e (fun cls fs Γ' dd F' H' σ' q => x cls fs Γ' dd F' H' σ' (hx _ _ _ q)) (fun Γ' F' H' σ' q => n Γ' F' H' σ' (hn _ q)) (fun Γ' F' H' σ' q => b Γ' F' H' σ' (hb _ q)) (fun Γ' F' H' σ' q => c Γ' F' H' σ' (hc _ q))
    fun v t Γ' F' H' σ' q => r v t Γ' F' H' σ' (hr _ _ q)
theorem setT {B : Bs} {F H : Hp} {σ : L2.St} {v : V} {w : Dt} (hp : ∀ q ∈ B.pins, q.1 ∈ pn) (hi : i ∉ pn) (e : EnvR K B F H σ Γ) (r : TR K B F H σ Γ v w) : EnvR K B F H (σ.set i (some v)) (Γ.set i w) := by
  cases w with
  | im d => exact e.setI hp hi r
  | own ds =>
    obtain ⟨p, vs, rfl, h1, h2, h3, h4, h5⟩ := r
    exact e.setO hp hi ⟨p, vs, rfl, h1, h3, h4⟩ h2 h5
  | bx n =>
    obtain ⟨p, o, rfl, h1, h2, h3, h4, h5⟩ := r
    exact e.setO hp hi ⟨p, o, rfl, h1, h3, h4⟩ h2 h5
  | un => exact r.elim
  | scr ns => exact r.elim
theorem ws_asg (hi : i ∉ pn) (h : wpE K E te Γ (fun w Γ' => P.nx (Γ'.set i w)) P.xc) : wpS K E pn (tAsg te (gName i)) Γ P := fun B F H σ Dn hp e x n b c r =>
  h B F H σ e x _ fun v w Γ' F' H' q e' s' tr => n _ F' H' _ q (setT hp hi e' tr) s'
theorem ws_asgG (h : wpD K E te Γ (fun d Γ' => wpG K pn g d Γ' P.nx) P.xc) : wpS K E pn (tAsg te g) Γ P := fun B F H σ Dn hp e x n b c r =>
  h B F H σ e x _ fun v d Γ' F' H' q e' s' rr => q B F' H' σ v hp e' rr _ fun Γ2 σ2 q2 e2 _ => n Γ2 F' H' σ2 q2 e2 s'
theorem ws_par (hi : i ∉ pn) (hj : j ∉ pn) (h : wpD K E ta Γ (fun d Γ1 => wpE K E tb Γ1 (fun w Γ2 => mu w = false ∨ True → P.nx ((Γ2.set i (.im d)).set j w)) P.xc) P.xc) : wpS K E pn (tPar i j (tCons ta (tCons tb tNil))) Γ P := fun B F H σ Dn hp e x n b c r =>
  h B F H σ e x _ fun v d Γ1 F1 H1 q1 e1 s1 r1 => q1 B F1 H1 σ e1 x _ fun v2 w Γ2 F2 H2 q2 e2 s2 r2 => ⟨v, v2, rfl, by
    have a := e2.setI hp hi (r1.mono s2)
    refine n _ F2 H2 _ (q2 (Or.inr trivial)) (setT hp hj a ?_) (s1.trans s2)
    have nn : ∀ p, (∀ (k : Nat) (s : Dt), Γ2[k]? = some s → mu s = true → σ[k]? ≠ some (some (.ref p))) → ∀ (k : Nat) (s : Dt), (Γ2.set i (.im d))[k]? = some s → mu s = true → (σ.set i (some v))[k]? ≠ some (some (.ref p)) := fun p f k s hk m => by
      have ne : i ≠ k := fun z => by
        subst z
        have hl : i < Γ2.length := by
          have := (List.getElem?_eq_some_iff.mp hk).1
          rw [List.length_set] at this
          exact this
        rw [List.getElem?_set_self hl] at hk
        cases hk
        cases m
      rw [List.getElem?_set_ne ne] at hk ⊢
      exact f k s hk m
    cases w with
    | im _ => exact r2
    | own ds => obtain ⟨p, vs, a1, h1, h2, h3, h4, h5⟩ := r2; exact ⟨p, vs, a1, h1, h2, h3, h4, nn p h5⟩
    | bx m => obtain ⟨p, o, a1, h1, h2, h3, h4, h5⟩ := r2; exact ⟨p, o, a1, h1, h2, h3, h4, nn p h5⟩
    | un => exact r2.elim
    | scr _ => exact r2.elim⟩
theorem ws_drop (h : wpD K E te Γ (fun _ Γ' => P.nx Γ') P.xc) : wpS K E pn (tDrop te) Γ P := fun B F H σ Dn hp e x n b c r =>
  h B F H σ e x _ fun v d Γ' F' H' q e' s' rr => n Γ' F' H' σ q e' s'
theorem ws_ret (h : wpE K E te Γ P.rt P.xc) : wpS K E pn (tRet te) Γ P := fun B F H σ Dn hp e x n b c r =>
  h B F H σ e x _ fun v w Γ' F' H' q e' s' rr => r v w Γ' F' H' σ q e' rr
theorem ws_retN (q : P.rt (.im .non) Γ) : wpS K E pn tRetN Γ P := fun B F H σ Dn hp e x n b c r => r .non _ Γ F H σ q e .non
/-- return of a slot's own list -/
theorem ws_retO (h : Γ[i]? = some (.own ds)) (hi : i ∉ pn) (q : P.rt (.own ds) (Γ.set i .un)) : wpS K E pn (tRet (tVar i)) Γ P := fun B F H σ Dn hp e x n b c r => by
  obtain ⟨p, vs, a, f, hh, rr⟩ := e.slot i _ h
  have hl : i < Γ.length := (List.getElem?_eq_some_iff.mp h).1
  have old : ∀ (k : Nat) (s : Dt), (Γ.set i .un)[k]? = some s → mu s = true → i ≠ k ∧ Γ[k]? = some s := fun k s hk m => by
    by_cases z : i = k
    · subst z
      rw [List.getElem?_set_self hl] at hk
      cases hk
      cases m
    · rw [List.getElem?_set_ne z] at hk
      exact ⟨z, hk⟩
  have nopin : ∀ z ∈ B.pins, z.1 ≠ i := fun z hz y => hi (y ▸ hp z hz)
  have e2 : EnvR K B F H σ (Γ.set i .un) := by
    refine ⟨by rw [List.length_set]; exact e.len, fun k s hk => ?_, fun k l s1 s2 q1 h1 h2 m1 m2 h3 h4 => ?_, fun z hz => ?_, fun k s q1 h1 m h2 => ?_, e.fr, e.f0, e.keep, e.there, e.new⟩
    · by_cases z : i = k
      · subst z
        rw [List.getElem?_set_self hl] at hk
        cases hk
        trivial
      · rw [List.getElem?_set_ne z] at hk
        exact e.slot k s hk
    · exact e.dist k l s1 s2 q1 (old k s1 h1 m1).2 (old l s2 h2 m2).2 m1 m2 h3 h4
    · obtain ⟨y, t', y2, y3⟩ := e.pin z hz
      exact ⟨y, t', by rw [List.getElem?_set_ne (Ne.symm (nopin z hz))]; exact y2, y3⟩
    · exact e.mine k s q1 (old k s h1 m).2 m h2
  refine ⟨_, a, r _ _ _ F H σ q e2 ⟨p, vs, rfl, f, ?_, hh, rr, fun k s hk m z => (old k s hk m).1 (e.dist i k _ s p h (old k s hk m).2 rfl m a z)⟩⟩
  rcases e.mine i _ p h rfl a with z | z
  · obtain ⟨y, hy, rfl⟩ := List.mem_map.mp z
    obtain ⟨y1, t', y2, y3⟩ := e.pin y hy
    exact absurd (e.dist y.1 i t' _ y.2 y2 h y3 rfl y1 a) (nopin y hy)
  · exact z
theorem ws_if (h : wpT K E tt Γ (fun b Γ1 => (b = true → wpS K E pn t Γ1 P) ∧ (b = false → wpS K E pn u Γ1 P)) P.xc) : wpS K E pn (tIfS tt t u) Γ P := fun B F H σ Dn hp e x n b c r =>
  h B F H σ e x _ fun k Γ1 F1 H1 q e1 s1 => by
    cases k with
    | true => exact q.1 rfl B F1 H1 σ Dn hp e1 x (fun a1 a2 a3 a4 a5 a6 a7 => n a1 a2 a3 a4 a5 a6 (s1.trans a7)) (fun a1 a2 a3 a4 a5 a6 a7 => b a1 a2 a3 a4 a5 a6 (s1.trans a7)) (fun a1 a2 a3 a4 a5 a6 a7 => c a1 a2 a3 a4 a5 a6 (s1.trans a7)) r
    | false => exact q.2 rfl B F1 H1 σ Dn hp e1 x (fun a1 a2 a3 a4 a5 a6 a7 => n a1 a2 a3 a4 a5 a6 (s1.trans a7)) (fun a1 a2 a3 a4 a5 a6 a7 => b a1 a2 a3 a4 a5 a6 (s1.trans a7)) (fun a1 a2 a3 a4 a5 a6 a7 => c a1 a2 a3 a4 a5 a6 (s1.trans a7)) r
/-- xs.append(e) on a slot's own list -/
theorem ws_app (h : wpD K E te Γ (fun d Γ1 => ∃ es, Γ1[i]? = some (.own es) ∧ es.length ≤ 1000000 ∧ P.nx (Γ1.set i (.own (es ++ [d])))) P.xc) (h0 : ∃ es, Γ[i]? = some (.own es)) : wpS K E pn (tDrop (tBM K "list" rAppend (tVar i) (tCons te tNil))) Γ P := fun B F H σ Dn hp e x n b c r => by
  obtain ⟨es0, h0⟩ := h0
  obtain ⟨p, vs, a, f, hh, rr⟩ := e.slot i _ h0
  refine ⟨_, a, Or.inl ⟨rfl, vs, Or.inl (Or.inl hh)⟩, h B F H σ e x _ fun v d Γ1 F1 H1 ⟨es, hes, hz, q⟩ e1 s1 r1 => ?_⟩
  obtain ⟨p1, ws, a1, f1, hh1, rr1⟩ := e1.slot i _ hes
  rw [a] at a1
  cases a1
  refine ⟨p, ws, v, rfl, rfl, hh1, ?_, ?_⟩
  · rw [rr1.len]
    exact Nat.lt_of_le_of_lt hz (by decide)
  · exact n _ F1 _ σ q (e1.put (t := .own es) (t' := .own (es ++ [d])) hes rfl rfl a f1 (by rw [hh1]; exact fun z => by cases z) ⟨p, ws ++ [v], rfl, f1, upd_same, rr1.snoc r1⟩) s1
/-- for -/
theorem ws_for (h : wpI K E wi Γ (fun ds Γ1 => ∃ I : Nat → List Dt → Prop, I 0 Γ1 ∧ (∀ k d Γ2, ds[k]? = some d → I k Γ2 → wpG K pn g d Γ2 fun Γ3 => wpS K E pn t Γ3 { P with nx := I (k + 1), ct := I (k + 1), bk := P.nx }) ∧ ∀ Γ2, I ds.length Γ2 → P.nx Γ2) P.xc) :
    wpS K E pn (tFor wi g t) Γ P := fun B F H σ Dn hp e x n b c r =>
  h B F H σ e x _ fun J ds Γ1 F1 H1 ⟨I, h0, turn, fin⟩ e1 s1 it => by
    refine ⟨fun k m σ' H' => k + m = ds.length ∧ ∃ Γ2 F2, I k Γ2 ∧ EnvR K B F2 H' σ' Γ2 ∧ Same F1 F2, ⟨ds.length, Nat.zero_add _, Γ1, F1, h0, e1, .refl _⟩, ?_⟩
    rintro k m σ' H' ⟨hk, Γ2, F2, i2, e2, s2⟩
    obtain ⟨g1, g2, g3⟩ := it F2 H' s2 e2.fr k
    by_cases lt : k < ds.length
    · refine Or.inr ⟨g1 lt, fun σ'' H'' => ∃ Γ3 F3, I (k + 1) Γ3 ∧ EnvR K B F3 H'' σ'' Γ3 ∧ Same F1 F3, fun σ'' H'' w => ⟨m - 1, by omega, by omega, w⟩, fun y H3 hy => ?_⟩
      obtain ⟨F3, gg, ry⟩ := g3 y H3 ds[k] hy (List.getElem?_eq_getElem lt)
      refine turn k ds[k] Γ2 (List.getElem?_eq_getElem lt) i2 B F3 H3 σ' y hp (e2.grow gg) ry _ fun Γ4 σ4 q4 e4 _ => ?_
      have sf : Same F1 F3 := s2.trans gg.f
      exact q4 B F3 H3 σ4 _ hp e4 x (fun a1 a2 a3 a4 a5 a6 a7 => ⟨a1, a2, a5, a6, sf.trans a7⟩) (fun a1 a2 a3 a4 a5 a6 a7 => n a1 a2 a3 a4 a5 a6 ((s1.trans sf).trans a7)) (fun a1 a2 a3 a4 a5 a6 a7 => ⟨a1, a2, a5, a6, sf.trans a7⟩) r
    · have ek : k = ds.length := by omega
      subst ek
      exact Or.inl ⟨g2 (Nat.le_refl _), n Γ2 F2 H' σ' (fin Γ2 i2) e2 (s1.trans s2)⟩
/-- while: a word and a measure -/
theorem ws_while (I : Nat → List Dt → Prop) (m0 : Nat) (h0 : I m0 Γ) (turn : ∀ m Γ1, I m Γ1 → wpT K E tt Γ1 (fun k Γ2 => (k = true → wpS K E pn t Γ2 { P with nx := fun Γ3 => ∃ m', m' < m ∧ I m' Γ3, ct := fun Γ3 => ∃ m', m' < m ∧ I m' Γ3, bk := P.nx }) ∧ (k = false → P.nx Γ2)) P.xc) :
    wpS K E pn (tWhile tt t) Γ P := fun B F H σ Dn hp e x n b c r => by
  refine ⟨fun m σ' H' => ∃ Γ1 F1, I m Γ1 ∧ EnvR K B F1 H' σ' Γ1 ∧ Same F F1, ⟨m0, Γ, F, h0, e, .refl _⟩, ?_⟩
  rintro m σ' H' ⟨Γ1, F1, i1, e1, s1⟩
  refine turn m Γ1 i1 B F1 H' σ' e1 x _ fun k Γ2 F2 H2 q e2 s2 => ?_
  have sf : Same F F2 := s1.trans s2
  cases k with
  | true =>
    refine ⟨fun σ2 H3 => ∃ m', m' < m ∧ ∃ Γ1 F1, I m' Γ1 ∧ EnvR K B F1 H3 σ2 Γ1 ∧ Same F F1, fun σ2 H3 z => z, ?_⟩
    exact q.1 rfl B F2 H2 σ' _ hp e2 x (fun a1 a2 a3 a4 ⟨m', a5, a5'⟩ a6 a7 => ⟨m', a5, a1, a2, a5', a6, sf.trans a7⟩) (fun a1 a2 a3 a4 a5 a6 a7 => n a1 a2 a3 a4 a5 a6 (sf.trans a7)) (fun a1 a2 a3 a4 ⟨m', a5, a5'⟩ a6 a7 => ⟨m', a5, a1, a2, a5', a6, sf.trans a7⟩) r
  | false => exact n Γ2 F2 H2 σ' (q.2 rfl) e2 sf
end
end Z

namespace Z
open PySem PySem.Spec PyProof.Rows L2

/-! ## pure comprehensions -/
def wipD (Γ : DE) : List Nat → DE
  | [] => Γ
  | v :: vs => (wipD Γ vs).set v none
theorem wipD_len (Γ : DE) : ∀ vs : List Nat, (wipD Γ vs).length = Γ.length
  | [] => rfl
  | v :: vs => by unfold wipD; rw [List.length_set, wipD_len Γ vs]
section
variable {K : PySem.W.Frag} {F H : Hp} {σ σ' : L2.St} {Γ : DE}
theorem psl_wipe (h : PSl K F σ Γ) : ∀ vs : List Nat, PSl K F (wipe σ vs) (wipD Γ vs)
  | [] => h
  | v :: vs => by
    have ih := psl_wipe h vs
    refine ⟨by unfold wipe wipD; rw [List.length_set, List.length_set]; exact ih.1, fun i d e => ?_⟩
    unfold wipD at e
    unfold wipe
    by_cases z : v = i
    · subst z
      have hl : v < (wipD Γ vs).length := by
        have := (List.getElem?_eq_some_iff.mp e).1
        rw [List.length_set] at this
        exact this
      rw [List.getElem?_set_self hl] at e
      cases e
    · rw [List.getElem?_set_ne z] at e ⊢
      exact ih.2 i d e
theorem wipe_get (i : Nat) : ∀ vs : List Nat, i ∉ vs → (wipe σ vs)[i]? = σ[i]?
  | [], _ => rfl
  | v :: vs, h => by
    unfold wipe
    rw [List.getElem?_set_ne (fun (z : v = i) => h (by rw [z]; exact List.mem_cons_self)), wipe_get i vs fun z => h (List.mem_cons_of_mem _ z)]
theorem wipe_in (i : Nat) : ∀ vs : List Nat, i ∈ vs → i < σ.length → (wipe σ vs)[i]? = some none
  | v :: vs, h, hl => by
    unfold wipe
    by_cases z : v = i
    · subst z
      exact List.getElem?_set_self (by rw [wipe_length]; exact hl)
    · rw [List.getElem?_set_ne z]
      exact wipe_in i vs ((List.mem_cons.mp h).resolve_left fun y => z y.symm) hl
theorem wipe_eq {vs : List Nat} (hl : σ'.length = σ.length) (h : ∀ i, i ∉ vs → σ'[i]? = (wipe σ vs)[i]?) : wipe σ' vs = wipe σ vs := by
  apply List.ext_getElem?
  intro i
  by_cases hi : i ∈ vs
  · by_cases hz : i < σ.length
    · rw [wipe_in i vs hi hz, wipe_in i vs hi (by rw [hl]; exact hz)]
    · rw [List.getElem?_eq_none (by rw [wipe_length, hl]; omega), List.getElem?_eq_none (by rw [wipe_length]; omega)]
  · rw [wipe_get i vs hi, h i hi]
def Agr (vs : List Nat) (σ σ' : L2.St) : Prop := σ'.length = σ.length ∧ ∀ i, i ∉ vs → σ'[i]? = σ[i]?
/-- a target, over data: its names are among vs -/
def EvG (K : PySem.W.Frag) (vs : List Nat) (g : TG) (d : D) (Γ Γ' : DE) : Prop := ∀ (F H : Hp) (σ : L2.St) (v : V), PSl K F σ Γ → R K F v d → Same F H → ∀ QQ : L2.St → Hp → Prop, (∀ σ', PSl K F σ' Γ' → Agr vs σ σ' → QQ σ' H) → g v σ H QQ
def EvGs (K : PySem.W.Frag) (vs : List Nat) (g : TGs) (ds : List D) (Γ Γ' : DE) : Prop := ∀ (F H : Hp) (σ : L2.St) (us : List V), PSl K F σ Γ → RA K F us ds → Same F H → ∀ QQ : L2.St → Hp → Prop, (∀ σ', PSl K F σ' Γ' → Agr vs σ σ' → QQ σ' H) → g us σ H QQ
variable {vs : List Nat} {i : Nat} {d : D} {Γ' Γ2 : DE} {g : TG} {gs : TGs} {ds : List D}
theorem eg_name (hi : i ∈ vs) : EvG K vs (gName i) d Γ (Γ.set i (some d)) := fun F H σ v e r s QQ k => k _ ⟨by rw [List.length_set, List.length_set]; exact e.1, fun j d' h => by
  by_cases z : i = j
  · subst z
    have hl : i < Γ.length := by
      have := (List.getElem?_eq_some_iff.mp h).1
      rw [List.length_set] at this
      exact this
    rw [List.getElem?_set_self hl] at h
    cases h
    exact ⟨v, List.getElem?_set_self (by rw [e.1]; exact hl), r⟩
  · rw [List.getElem?_set_ne z] at h ⊢
    exact e.2 j d' h⟩ ⟨List.length_set, fun j hj => List.getElem?_set_ne (fun (z : i = j) => hj (by rw [← z]; exact hi))⟩
theorem egs_nil : EvGs K vs gNil [] Γ Γ := fun F H σ us e r s QQ k => by
  cases r
  exact ⟨rfl, k σ e ⟨rfl, fun _ _ => rfl⟩⟩
theorem egs_cons (h : EvG K vs g d Γ Γ2) (h2 : EvGs K vs gs ds Γ2 Γ') : EvGs K vs (gCons g gs) (d :: ds) Γ Γ' := fun F H σ us e r s QQ k => by
  cases r with
  | cons r1 r2 => exact ⟨_, _, rfl, h F H σ _ e r1 s _ fun σ1 e1 a1 => h2 F H σ1 _ e1 r2 s QQ fun σ2 e2 a2 => k σ2 e2 ⟨a2.1.trans a1.1, fun i hi => (a2.2 i hi).trans (a1.2 i hi)⟩⟩
theorem eg_tup {n : Nat} (hn : ds.length = n) (h : EvGs K vs gs ds Γ Γ') : EvG K vs (gTup K n gs) (.tup ds) Γ Γ' := fun F H σ v e r s QQ k => by
  cases r with
  | tup h1 r1 => exact ⟨_, _, rfl, same_t s h1, by rw [r1.len]; exact hn, h F H σ _ e r1 s QQ k⟩
variable {α : Type} {wi : TI} {tt : TT} {te : TE}
theorem filter_take_succ {p : α → Bool} {ns : List α} {k : Nat} {n : α} (h : ns[k]? = some n) : (ns.take (k + 1)).filter p = (ns.take k).filter p ++ (if p n = true then [n] else []) := by
  rw [List.take_add_one, h, List.filter_append]
  cases e : p n <;> simp [e]
/-- a comprehension: items φ n, kept where b n, each turned into f n -/
theorem evl_lc (ns : List α) (φ : α → D) (G : α → DE) (b : α → Bool) (f : α → D) (hi : EvI K wi Γ (ns.map φ)) (hg : ∀ n, n ∈ ns → EvG K vs g (φ n) (wipD Γ vs) (G n)) (ht : ∀ n, n ∈ ns → EvT K tt (G n) (b n))
    (he : ∀ n, n ∈ ns → b n = true → EvD K te (G n) (f n)) (hz : ns.length ≤ 1000000) : EvL K (tLc wi g tt te vs) Γ ((ns.filter b).map f) := fun F H σ e s Q q =>
  hi F H σ e s _ fun J F1 H1 g1 it D hD => by
    refine ⟨fun k m H' => k + m = ns.length ∧ ∃ F' acc, Gr F1 H1 F' H' ∧ F' D = none ∧ H' D = some (.lst acc) ∧ RA K F' acc (((ns.take k).filter b).map f), ⟨ns.length, Nat.zero_add _, F1, [], Gr.newH (.refl g1.s) hD, g1.s.free hD, upd_same, .nil⟩, ?_⟩
    rintro k m H' ⟨hk, F', acc, gg, fD, hd, ra⟩
    obtain ⟨i1, i2, i3⟩ := it F' H' gg.f gg.s k
    rw [List.length_map] at i1 i2
    by_cases lt : k < ns.length
    · refine Or.inr ⟨i1 lt, fun H'' => ∃ F' acc, Gr F1 H1 F' H'' ∧ F' D = none ∧ H'' D = some (.lst acc) ∧ RA K F' acc (((ns.take (k + 1)).filter b).map f), fun H'' w => ⟨m - 1, by omega, by omega, w⟩, fun x H3 hy => ?_⟩
      have hn : ns[k]? = some ns[k] := List.getElem?_eq_getElem lt
      have mn : ns[k] ∈ ns := List.getElem_mem lt
      obtain ⟨F3, g3, rx⟩ := i3 x H3 (φ ns[k]) hy (by rw [List.getElem?_map, hn]; rfl)
      have ge := gg.trans g3
      have f3 : F3 D = none := g3.no fD hd
      refine hg _ mn F3 H3 (wipe σ vs) x ((psl_wipe e vs).mono (g1.f.trans ge.f)) rx g3.s _ fun σ2 e2 a2 => ?_
      refine ⟨wipe_eq (a2.1.trans (wipe_length σ vs)) a2.2, ?_⟩
      refine ht _ mn F3 H3 σ2 e2 g3.s _ fun H4 s4 => ?_
      have g4 : Gr F3 H3 F3 H4 := Gr.hOnly g3.s s4
      have hd4 : H4 D = some (.lst acc) := s4 _ _ (g3.h _ _ hd)
      cases hb : b ns[k] with
      | false =>
        show ∃ F' acc, Gr F1 H1 F' H4 ∧ _
        refine ⟨F3, acc, ge.trans g4, f3, hd4, ?_⟩
        rw [filter_take_succ hn, hb]
        simp only [Bool.false_eq_true, if_false, List.append_nil]
        exact ra.mono g3.f
      | true =>
        show te σ2 H4 _
        refine he _ mn hb F3 H4 σ2 e2 g4.s _ fun y F5 H5 g5 ry => ?_
        have f5 : F5 D = none := g5.no f3 hd4
        have h5 : H5 D = some (.lst acc) := g5.h _ _ hd4
        have g6 := (ge.trans g4).trans g5
        refine ⟨acc, h5, ?_, F5, acc ++ [y], ⟨g6.f, fun a o z => ?_, fun a o z => ?_, g6.n⟩, f5, upd_same, ?_⟩
        · rw [ra.len, List.length_map]
          refine Nat.lt_of_le_of_lt (Nat.le_trans (List.length_filter_le _ _) (Nat.le_trans (List.length_take_le' _ _) hz)) (by decide)
        · rw [upd_ne (ne_of_none z hD)]
          exact g6.h a o z
        · rw [upd_ne (ne_of_none z f5)]
          exact g5.s a o z
        · rw [filter_take_succ hn, hb]
          simp only [if_true, List.map_append, List.map_cons, List.map_nil]
          exact (ra.mono (g3.f.trans g5.f)).snoc ry
    · have ek : k = ns.length := by omega
      subst ek
      rw [List.take_length] at ra
      exact Or.inl ⟨i2 (Nat.le_refl _), q D acc F' H' (g1.trans gg) (g1.h.free hD) fD hd ra⟩
theorem evl_map (ns : List α) (φ : α → D) (G : α → DE) (f : α → D) (hi : EvI K wi Γ (ns.map φ)) (hg : ∀ n, n ∈ ns → EvG K vs g (φ n) (wipD Γ vs) (G n))
    (he : ∀ n, n ∈ ns → EvD K te (G n) (f n)) (hz : ns.length ≤ 1000000) : EvL K (tLc wi g tYes te vs) Γ (ns.map f) := by
  have h := evl_lc (tt := tYes) ns φ G (fun _ => true) f hi hg (fun n _ F H σ e s Q q => q H (.refl _)) (fun n hn _ => he n hn) hz
  rw [show ns.filter (fun _ => true) = ns from List.filter_eq_self.mpr fun _ _ => rfl] at h
  exact h
end

/-! ## built-ins -/
def rMax2 : List V → Hp → VK → Prop := fun xs H Q => ∃ i j, xs = [.int i, .int j] ∧ Q (.int (if j > i then j else i)) H
def rMin2 : List V → Hp → VK → Prop := fun xs H Q => ∃ i j, xs = [.int i, .int j] ∧ Q (.int (if j < i then j else i)) H
def rInt1 : List V → Hp → VK → Prop := fun xs H Q => (∃ i, xs = [.int i] ∧ Q (.int i) H) ∨ ∃ k, xs = [.bl k] ∧ Q (.int (if k then 1 else 0)) H
def rLenU (K : PySem.W.Frag) : List V → Hp → VK → Prop := fun xs H Q => ∃ x n, xs = [x] ∧ LenV K x H n ∧ Q (.int n) H
def rListU (K : PySem.W.Frag) : List V → Hp → VK → Prop := fun xs H Q => ∃ p ys, xs = [.ref p] ∧ (SqL K H p ys ∨ SqT K H p ys) ∧ ∀ l, H l = none → Q (.ref l) (upd H l (.lst ys))
def rTupU (K : PySem.W.Frag) : List V → Hp → VK → Prop := fun xs H Q => ∃ p ys, xs = [.ref p] ∧ ((SqL K H p ys ∧ ∀ l, H l = none → Q (.ref l) (upd H l (.tup ys))) ∨ (SqT K H p ys ∧ Q (.ref p) H))
def rRepr (K : PySem.W.Frag) : List V → Hp → VK → Prop := fun xs H Q => ∃ x d, xs = [x] ∧ Dp K H x d ∧ d.showable = true ∧ d.shown.length ≤ sizeLine ∧ d.depth ≤ 64 ∧ Q (.str d.shown) H
section
variable {X : Cx}
theorem zc_max2 (hc : X.calm = true) : CallR X (.builtin "max") rMax2 := call_max2 hc
theorem zc_min2 (hc : X.calm = true) : CallR X (.builtin "min") rMin2 := call_min2 hc
theorem zc_int : CallR X (.type "int") rInt1 := call_int1
theorem zc_len : CallR X (.builtin "len") (rLenU X.K) := call_len
theorem zc_list : CallR X (.type "list") (rListU X.K) := call_list_of
theorem zc_tup : CallR X (.type "tuple") (rTupU X.K) := call_tuple_of
mutual
theorem dp_nodict {K : PySem.W.Frag} {H : Hp} : ∀ {v : V} {d : PyData}, Dp K H v d → d.hasDict = false
  | _, _, .non => by simp [PyData.hasDict]
  | _, _, .bl b => by simp [PyData.hasDict]
  | _, _, .int i => by simp [PyData.hasDict]
  | _, _, .str x => by simp [PyData.hasDict]
  | _, _, .lst h r => by simp [PyData.hasDict, dp_nodicts r]
  | _, _, .tup h r => by simp [PyData.hasDict, dp_nodicts r]
theorem dp_nodicts {K : PySem.W.Frag} {H : Hp} : ∀ {vs : List V} {ds : List PyData}, DpAll K H vs ds → PyData.hasDictAll ds = false
  | _, _, .nil => by simp [PyData.hasDictAll]
  | _, _, .cons h r => by simp [PyData.hasDictAll, dp_nodict h, dp_nodicts r]
end
theorem zc_repr (hG : X.A.guards = some []) (hu : X.A.units + 70 < cLine) : CallR X (.builtin "repr") (rRepr X.K) := by
  intro pins s σ H xs us Q I r h
  obtain ⟨x, d, rfl, hd, hs, hz, hdp, q⟩ := h
  obtain ⟨u, rfl, rx⟩ := Vals.one r
  have nd := dp_nodict hd
  obtain ⟨as, hr⟩ := Dp.reads I d x u hd rx
  cases hd with
  | non =>
    cases rx
    exact P.repr_of_none ⟨.str (PyData.shown .none), H, I.tok _, ⟨_, rfl⟩, q⟩
  | bl b =>
    cases rx
    exact P.repr_of_bool ⟨.str (PyData.shown (.bool b)), H, I.tok _, ⟨_, by cases b <;> rfl⟩, q⟩
  | int i =>
    obtain ⟨t, rfl⟩ := rx
    exact P.repr_of_int (by simpa [PyData.showable] using hs) ⟨.str (PyData.shown (.int i)), H, I.tok _, ⟨_, rfl⟩, q⟩
  | str z =>
    obtain ⟨t, rfl⟩ := rx
    exact P.repr_of_str ⟨.str (PyData.shown (.str z)), H, I.tok _, ⟨_, rfl⟩, q⟩ hz
  | lst h1 h2 =>
    cases rx
    exact repr_of_reads' hr hs (fun z => by rw [nd] at z; cases z) hG (by omega) (fun _ _ e => e) (fun h' u tk k => ⟨.str (PyData.shown _), H, I.kept (t' := tk) k, ⟨_, rfl⟩, q⟩) hz
  | tup h1 h2 =>
    cases rx
    exact repr_of_reads' hr hs (fun z => by rw [nd] at z; cases z) hG (by omega) (fun _ _ e => e) (fun h' u tk k => ⟨.str (PyData.shown _), H, I.kept (t' := tk) k, ⟨_, rfl⟩, q⟩) hz
end
section
variable {K : PySem.W.Frag} {i j : Int} {ds : List D} {ns : List Int}
theorem rc_max2 : RcD K rMax2 [.int i, .int j] (.int (if j > i then j else i)) := fun F H vs s r Q q => by
  cases r with
  | cons r1 r2 =>
    cases r1
    cases r2 with
    | cons r3 r4 =>
      cases r3
      cases r4
      exact ⟨i, j, rfl, q _ F H (.refl s) (.int _)⟩
theorem rc_min2 : RcD K rMin2 [.int i, .int j] (.int (if j < i then j else i)) := fun F H vs s r Q q => by
  cases r with
  | cons r1 r2 =>
    cases r1
    cases r2 with
    | cons r3 r4 =>
      cases r3
      cases r4
      exact ⟨i, j, rfl, q _ F H (.refl s) (.int _)⟩
theorem RA.one {F : Hp} {vs : List V} {d : D} (h : RA K F vs [d]) : ∃ v, vs = [v] ∧ R K F v d := by
  cases h with
  | cons r1 r2 =>
    cases r2
    exact ⟨_, rfl, r1⟩
theorem rc_int : RcD K rInt1 [.int i] (.int i) := fun F H vs s r Q q => by
  obtain ⟨v, rfl, r1⟩ := r.one
  cases r1
  exact Or.inl ⟨i, rfl, q _ F H (.refl s) (.int _)⟩
theorem rc_intb {b : Bool} : RcD K rInt1 [.bl b] (.int (if b then 1 else 0)) := fun F H vs s r Q q => by
  obtain ⟨v, rfl, r1⟩ := r.one
  cases r1
  exact Or.inr ⟨b, rfl, q _ F H (.refl s) (.int _)⟩
theorem rc_sum : RcD K (rSum K) [.lst (ns.map D.int)] (.int ns.sum) := fun F H vs s r Q q => by
  obtain ⟨v, rfl, r1⟩ := r.one
  cases r1 with
  | lst h1 h2 =>
    have e := h2.of_ints
    subst e
    exact ⟨_, ns, rfl, Or.inl (Or.inl (s _ _ h1)), q _ F H (.refl s) (.int _)⟩
theorem rc_lenl : RcD K (rLenU K) [.lst ds] (.int (ds.length : Int)) := fun F H vs s r Q q => by
  obtain ⟨v, rfl, r1⟩ := r.one
  cases r1 with
  | lst h1 h2 => exact ⟨_, ds.length, rfl, Or.inl ⟨_, Or.inl (Or.inl (s _ _ h1)), h2.len.symm⟩, q _ F H (.refl s) (.int _)⟩
theorem rc_lent : RcD K (rLenU K) [.tup ds] (.int (ds.length : Int)) := fun F H vs s r Q q => by
  obtain ⟨v, rfl, r1⟩ := r.one
  cases r1 with
  | tup h1 h2 => exact ⟨_, ds.length, rfl, Or.inr ⟨_, same_t s h1, h2.len.symm⟩, q _ F H (.refl s) (.int _)⟩
theorem rc_lens {x : Str} (h : x.length ≤ 1000000) : RcD K (rLenU K) [.str x] (.int (x.length : Int)) := fun F H vs s r Q q => by
  obtain ⟨v, rfl, r1⟩ := r.one
  cases r1
  exact ⟨_, x.length, rfl, ⟨Nat.le_trans h (by decide), rfl⟩, q _ F H (.refl s) (.int _)⟩
theorem rcl_list : RcL K (rListU K) [.lst ds] ds := fun F H vs s r Q q => by
  obtain ⟨v, rfl, r1⟩ := r.one
  cases r1 with
  | lst h1 h2 => exact ⟨_, _, rfl, Or.inl (Or.inl (Or.inl (s _ _ h1))), fun l hl => q l _ F _ (Gr.newH (.refl s) hl) hl (s.free hl) upd_same h2⟩
theorem rcl_listt : RcL K (rListU K) [.tup ds] ds := fun F H vs s r Q q => by
  obtain ⟨v, rfl, r1⟩ := r.one
  cases r1 with
  | tup h1 h2 => exact ⟨_, _, rfl, Or.inr (same_t s h1), fun l hl => q l _ F _ (Gr.newH (.refl s) hl) hl (s.free hl) upd_same h2⟩
theorem rc_tup : RcD K (rTupU K) [.lst ds] (.tup ds) := fun F H vs s r Q q => by
  obtain ⟨v, rfl, r1⟩ := r.one
  cases r1 with
  | lst h1 h2 => exact ⟨_, _, rfl, Or.inl ⟨Or.inl (Or.inl (s _ _ h1)), fun l hl => q _ _ _ (Gr.new (.refl s) hl) (.tup (Or.inl (Or.inl upd_same)) (h2.mono (same_new (s.free hl))))⟩⟩
theorem rc_all {bs : List Bool} : RcD K (rAll K) [.lst (bs.map D.bl)] (.bl (bs.all id)) := fun F H vs s r Q q => by
  obtain ⟨v, rfl, r1⟩ := r.one
  cases r1 with
  | lst h1 h2 =>
    have e := h2.of_bools
    subst e
    exact ⟨_, bs, rfl, Or.inl (Or.inl (s _ _ h1)), q _ F H (.refl s) (.bl _)⟩
theorem rc_any {bs : List Bool} : RcD K (rAny K) [.lst (bs.map D.bl)] (.bl (bs.any id)) := fun F H vs s r Q q => by
  obtain ⟨v, rfl, r1⟩ := r.one
  cases r1 with
  | lst h1 h2 =>
    have e := h2.of_bools
    subst e
    exact ⟨_, bs, rfl, Or.inl (Or.inl (s _ _ h1)), q _ F H (.refl s) (.bl _)⟩
/-- within the lines of repr -/
def okR (d : D) : Prop := (toP d).showable = true ∧ (toP d).shown.length ≤ sizeLine ∧ (toP d).depth ≤ 64
theorem rc_repr {d : D} (h : pla d = true) (h2 : okR d) : RcD K (rRepr K) [d] (.str (toP d).shown) := fun F H vs s r Q q => by
  obtain ⟨v, rfl, r1⟩ := r.one
  exact ⟨v, toP d, rfl, (r1.mono s).dp h, h2.1, h2.2.1, h2.2.2, q _ F H (.refl s) (.str _)⟩
/-- an item -/
theorem rv_ixl {d : D} (h : atI ds i = some d) : RvD K (rIx K) (.lst ds) (.int i) d := fun F H a b s ra rb Q q => by
  cases rb
  cases ra with
  | lst h1 h2 =>
    unfold atI at h
    cases e : ixN ds.length i with
    | none => rw [e] at h; cases h
    | some j =>
      rw [e] at h
      obtain ⟨v, hv, rv⟩ := h2.get j d h
      refine Or.inl ⟨_, _, i, v, rfl, rfl, Or.inl (Or.inl (s _ _ h1)), ?_, q v F H (.refl s) rv⟩
      unfold atI
      rw [h2.len, e]
      exact hv
theorem rv_ixt {d : D} (h : atI ds i = some d) : RvD K (rIx K) (.tup ds) (.int i) d := fun F H a b s ra rb Q q => by
  cases rb
  cases ra with
  | tup h1 h2 =>
    unfold atI at h
    cases e : ixN ds.length i with
    | none => rw [e] at h; cases h
    | some j =>
      rw [e] at h
      obtain ⟨v, hv, rv⟩ := h2.get j d h
      refine Or.inr (Or.inl ⟨_, _, i, v, rfl, rfl, same_t s h1, ?_, q v F H (.refl s) rv⟩)
      unfold atI
      rw [h2.len, e]
      exact hv
end
end Z

namespace Z
open PySem PySem.Spec PyProof.Rows L2

/-! ## promises over data -/
/-- no heap that stood changes; the answer is data -/
def spP (K : PySem.W.Frag) (S : List D → D → Prop) : Sp := fun vs H Q _ => ∃ F ds d, Same F H ∧ RA K F vs ds ∧ S ds d ∧ ∀ v F' H', Gr F H F' H' → R K F' v d → Q v H'
/-- .. and a new list -/
def spN (K : PySem.W.Frag) (S : List D → List D → Prop) : Sp := fun vs H Q _ => ∃ F ds es, Same F H ∧ RA K F vs ds ∧ S ds es ∧ ∀ p ws F' H', Gr F H F' H' → H p = none → F' p = none → H' p = some (.lst ws) → RA K F' ws es → Q (.ref p) H'
/-- what a call does around the box at b -/
structure BxG (F H F' H' : Hp) (b : Addr) (m : Nat) : Prop where
  f : Same F F'
  s : Same F' H'
  n : ∀ a o, F' a = some o → F a = some o ∨ H a = none
  nb : F' b = none
  bx : ∃ o, H' b = some o ∧ BoxO m o
  k : ∀ a o, H a = some o → a ≠ b → H' a = some o
/-- the first argument is the law's box: at most c turns more, the answer is one of Rs -/
def spB (K : PySem.W.Frag) (S : List D → Nat → (D → Prop) → Prop) : Sp := fun vs H Q _ => ∃ b us F ds n c Rs o, vs = .ref b :: us ∧ Same F H ∧ F b = none ∧ H b = some o ∧ BoxO n o ∧ n + c ≤ 8000000 ∧ RA K F us ds ∧ S ds c Rs ∧
  ∀ v d F' H', BxG F H F' H' b (n + c) → R K F' v d → Rs d → Q v H'
/-- script[k], if it is there -/
def spC (K : PySem.W.Frag) : Sp := fun vs H Q _ => ∃ (a : Addr) (ns : List Int) (k : Int), vs = [.ref a, .int k] ∧ (0 ≤ k ∧ k ≤ 1000) ∧ SqL K H a (ns.map V.int) ∧ ∀ i H', Same H H' → Q (.int i) H'
/-- a new box -/
def spX : Sp := fun vs H Q _ => ∃ z : Int, vs = [.int z] ∧ ∀ p H' o, Same H H' → H p = none → H' p = some o → BoxO 0 o → Q (.ref p) H'

section
variable {K : PySem.W.Frag} {Γd : DE} {tr : TA} {te ta tb : TE} {d : D} {ds es dd : List D} {dvs : List V} {E' : EK}
theorem ev_cl0 {S : List D → D → Prop} (ha : EvA K tr Γd ds) (hS : S ds d) : EvD K (tCl (spP K S) [] E' tr) Γd d := fun F H σ e s Q q =>
  ha F H σ e s _ fun vs F1 H1 g r => ⟨F1, ds, d, g.s, by rw [List.append_nil]; exact r, hS, fun v F2 H2 g2 r2 => q v F2 H2 (g.trans g2) r2⟩
theorem ev_cld {S : List D → D → Prop} (ha : EvA K tr Γd ds) (hS : S (ds ++ dd) d) (hd : ∀ F, RA K F dvs dd) : EvD K (tCl (spP K S) dvs E' tr) Γd d := fun F H σ e s Q q =>
  ha F H σ e s _ fun vs F1 H1 g r => ⟨F1, ds ++ dd, d, g.s, r.append (hd F1), hS, fun v F2 H2 g2 r2 => q v F2 H2 (g.trans g2) r2⟩
theorem evl_cl0 {S : List D → List D → Prop} (ha : EvA K tr Γd ds) (hS : S ds es) : EvL K (tCl (spN K S) [] E' tr) Γd es := fun F H σ e s Q q =>
  ha F H σ e s _ fun vs F1 H1 g r => ⟨F1, ds, es, g.s, by rw [List.append_nil]; exact r, hS, fun p ws F2 H2 g2 h1 h2 h3 h4 => q p ws F2 H2 (g.trans g2) (g.h.free h1) h2 h3 h4⟩
variable {E : EK} {Γ : List Dt} {B : Bs} {F H F' H' : Hp} {σ : L2.St} {xc : Value → List (Str × D) → List Dt → Prop} {QD : D → List Dt → Prop} {Q : Dt → List Dt → Prop} {QA : List D → List Dt → Prop} {pn : List Nat} {P : Po} {i : Nat} {n m : Nat} {ns : List Int}
theorem EnvR.box {p : Addr} (e : EnvR K B F H σ Γ) (hi : Γ[i]? = some (.bx n)) (hp : σ[i]? = some (some (.ref p))) (g : BxG F H F' H' p m) : EnvR K B F' H' σ (Γ.set i (.bx m)) := by
  have hl : i < Γ.length := (List.getElem?_eq_some_iff.mp hi).1
  have old : ∀ (k : Nat) (t : Dt), (Γ.set i (.bx m))[k]? = some t → mu t = true → ∃ t', Γ[k]? = some t' ∧ mu t' = true := fun k t h mt => by
    by_cases z : i = k
    · subst z; exact ⟨_, hi, rfl⟩
    · rw [List.getElem?_set_ne z] at h; exact ⟨t, h, mt⟩
  have nof : ∀ q o, F q = none → H q = some o → F' q = none := fun q o h1 h2 => by
    cases z : F' q with
    | none => rfl
    | some u =>
      rcases g.n q u z with y | y
      · rw [h1] at y; cases y
      · rw [h2] at y; cases y
  refine ⟨by rw [List.length_set]; exact e.len, fun k t hk => ?_, fun k l s t q h1 h2 m1 m2 h3 h4 => ?_, fun q hq => ?_, fun k t q h1 mt h2 => ?_, g.s, e.f0.trans g.f, fun a o h nn => ?_, fun a h => ?_, fun a o h => ?_⟩
  · by_cases z : i = k
    · subst z
      rw [List.getElem?_set_self hl] at hk
      cases hk
      obtain ⟨o, h1, h2⟩ := g.bx
      exact ⟨p, o, hp, g.nb, h1, h2⟩
    · rw [List.getElem?_set_ne z] at hk
      have s := e.slot k t hk
      have ne : ∀ q, mu t = true → σ[k]? = some (some (.ref q)) → q ≠ p := fun q mt h2 y => by
        subst y
        exact z (e.dist i k _ t q hi hk rfl mt hp h2)
      cases t with
      | un => trivial
      | im d => obtain ⟨u, a, b⟩ := s; exact ⟨u, a, b.mono g.f⟩
      | own es => obtain ⟨q, vs, a, b, c, r⟩ := s; exact ⟨q, vs, a, nof q _ b c, g.k q _ c (ne q rfl a), r.mono g.f⟩
      | bx n' => obtain ⟨q, o, a, b, c, r⟩ := s; exact ⟨q, o, a, nof q _ b c, g.k q _ c (ne q rfl a), r⟩
      | scr l => obtain ⟨a, b, c⟩ := s; exact ⟨a, b, same_l g.f c⟩
  · obtain ⟨s', a1, a2⟩ := old k s h1 m1
    obtain ⟨t', b1, b2⟩ := old l t h2 m2
    exact e.dist k l s' t' q a1 b1 a2 b2 h3 h4
  · obtain ⟨a, t, b, c⟩ := e.pin q hq
    refine ⟨a, ?_⟩
    by_cases z : i = q.1
    · rw [← z, List.getElem?_set_self hl]; exact ⟨_, rfl, rfl⟩
    · rw [List.getElem?_set_ne z]; exact ⟨t, b, c⟩
  · obtain ⟨t', a1, a2⟩ := old k t h1 mt
    exact e.mine k t' q a1 a2 h2
  · refine g.k a o (e.keep a o h nn) fun z => ?_
    subst z
    rcases e.mine i _ a hi rfl hp with y | y
    · exact nn y
    · rw [y] at h; cases h
  · refine e.there a ?_
    cases z : H a with
    | none => rfl
    | some o =>
      by_cases y : a = p
      · obtain ⟨o2, h1, _⟩ := g.bx
        rw [y, h1] at h; cases h
      · rw [g.k a o z y] at h; cases h
  · rcases g.n a o h with z | z
    · exact e.new a o z
    · exact Or.inr (e.there a z)
theorem wd_box {S : List D → Nat → (D → Prop) → Prop} (h0 : ∃ n, Γ[i]? = some (.bx n)) (h : wpA K E tr Γ (fun ds Γ1 => ∃ m c Rs, Γ1[i]? = some (.bx m) ∧ m + c ≤ 8000000 ∧ S ds c Rs ∧ ∀ d, Rs d → QD d (Γ1.set i (.bx (m + c)))) xc) :
    wpD K E (tCl (spB K S) [] E' (tCons (tVar i) tr)) Γ QD xc := fun B F H σ e x QQ k => by
  obtain ⟨n, h0⟩ := h0
  obtain ⟨p, o, a, f, hh, bo⟩ := e.slot i _ h0
  refine ⟨_, a, h B F H σ e x _ fun vs ds Γ1 F1 H1 ⟨m, c, Rs, hm, hb, hS, q⟩ e1 s1 r1 => ?_⟩
  obtain ⟨p1, o1, a1, f1, hh1, bo1⟩ := e1.slot i _ hm
  rw [a] at a1
  cases a1
  exact ⟨p, vs, F1, ds, m, c, Rs, o1, by rw [List.append_nil], e1.fr, f1, hh1, bo1, hb, r1, hS, fun v d F2 H2 g r2 hd => k v d _ F2 H2 (q d hd) (e1.box hm a g) (s1.trans g.f) r2⟩
theorem wd_cell {kk : Int} (h : Γ[i]? = some (.scr ns)) (ha : EvD K ta (vw Γ) (.int kk)) (h0 : 0 ≤ kk ∧ kk ≤ 1000) (q : ∀ z, QD (.int z) Γ) : wpD K E (tCl (spC K) [] E' (tCons (tVar i) (tCons ta tNil))) Γ QD xc := fun B F H σ e x QQ k => by
  obtain ⟨a, ea, hs⟩ := e.slot i _ h
  exact ⟨_, ea, ha _ H σ e.pslw (thw_h e.fr) _ fun v F1 H1 g r => by
    cases r
    exact ⟨a, ns, kk, rfl, h0, same_l (e.fr.trans g.h) hs, fun z H2 s2 => k _ (.int z) Γ F H2 (q z) (e.pure (g.h.trans s2)) (.refl _) (.int z)⟩⟩
theorem wd_lenscr (h : Γ[i]? = some (.scr ns)) (q : QD (.int (ns.length : Int)) Γ) : wpD K E (tCB (rLenU K) (tCons (tVar i) tNil)) Γ QD xc := fun B F H σ e x QQ k => by
  obtain ⟨a, ea, hs⟩ := e.slot i _ h
  exact ⟨_, ea, _, ns.length, rfl, Or.inl ⟨_, same_l e.fr hs, by rw [List.length_map]⟩, k _ _ Γ F H q e (.refl _) (.int _)⟩
theorem wd_ixscr {kk z : Int} (h : Γ[i]? = some (.scr ns)) (ha : EvD K ta (vw Γ) (.int kk)) (hz : atI ns kk = some z) (q : QD (.int z) Γ) : wpD K E (tOp (rIx K) (tVar i) ta) Γ QD xc := fun B F H σ e x QQ k => by
  obtain ⟨a, ea, hs⟩ := e.slot i _ h
  refine ⟨_, ea, ha _ H σ e.pslw (thw_h e.fr) _ fun v F1 H1 g r => ?_⟩
  cases r
  refine Or.inl ⟨a, _, kk, .int z, rfl, rfl, same_l (e.fr.trans g.h) hs, ?_, k _ (.int z) Γ F H1 q (e.pure g.h) (.refl _) (.int z)⟩
  unfold atI at hz ⊢
  rw [List.length_map]
  cases y : ixN ns.length kk with
  | none => rw [y] at hz; cases hz
  | some j =>
    rw [y] at hz
    show (ns.map V.int)[j]? = _
    rw [List.getElem?_map, show ns[j]? = some z from hz]
    rfl
theorem we_bx (h : wpD K E ta Γ (fun d Γ1 => ∃ z, d = .int z ∧ Q (.bx 0) Γ1) xc) : wpE K E (tCl spX [] E' (tCons ta tNil)) Γ Q xc := fun B F H σ e x QQ k =>
  h B F H σ e x _ fun v d Γ1 F1 H1 ⟨z, hz, q⟩ e1 s1 r1 => by
    subst hz
    cases r1
    exact ⟨z, rfl, fun p H2 o s2 h1 h2 bo => k _ (.bx 0) Γ1 F1 H2 q (e1.pure s2) s1 ⟨p, o, rfl, e1.fr.free h1, e1.there p h1, h2, bo, fun j s hs mm zz => by
      have sl := e1.slot j s hs
      cases s with
      | own es => obtain ⟨u, ws, a, _, c, _⟩ := sl; rw [zz] at a; cases a; rw [h1] at c; cases c
      | bx n => obtain ⟨u, o, a, _, c, _⟩ := sl; rw [zz] at a; cases a; rw [h1] at c; cases c
      | un => cases mm
      | im _ => cases mm
      | scr _ => cases mm⟩⟩
/-- x[k] = e on a slot's own list -/
theorem ws_setO (h0 : ∃ ds, Γ[i]? = some (.own ds)) (h : wpD K E te Γ (fun d Γ1 => ∃ ds kk j, Γ1[i]? = some (.own ds) ∧ EvD K tb (vw Γ1) (.int kk) ∧ ixN ds.length kk = some j ∧ P.nx (Γ1.set i (.own (ds.set j d)))) P.xc) :
    wpS K E pn (tAsg te (gSub (tVar i) tb rSetL)) Γ P := fun B F H σ Dn hp e x n b c r =>
  h B F H σ e x _ fun v d Γ1 F1 H1 ⟨ds, kk, j, hd, hb, hj, q⟩ e1 s1 r1 => by
    obtain ⟨p, vs, a, f, hh, rr⟩ := e1.slot i _ hd
    refine ⟨_, a, hb _ H1 σ e1.pslw (thw_h e1.fr) _ fun w F2 H2 g rw2 => ?_⟩
    cases rw2
    have e2 := e1.pure g.h
    have hh2 : H2 p = some (.lst vs) := g.h _ _ hh
    refine ⟨p, vs, kk, j, rfl, rfl, hh2, by rw [rr.len]; exact hj, ?_⟩
    have rset : ∀ {vs : List V} {ds : List D} (j : Nat), RA K F1 vs ds → RA K F1 (vs.set j v) (ds.set j d) := by
      intro vs
      induction vs with
      | nil => intro ds j h; cases h; exact .nil
      | cons a l ih =>
        intro ds j h
        cases h with
        | cons h1 h2 =>
          cases j with
          | zero => exact .cons r1 h2
          | succ j => exact .cons h1 (ih j h2)
    exact n _ F1 _ σ q (e2.put (t := .own ds) (t' := .own (ds.set j d)) hd rfl rfl a f (by rw [hh2]; exact fun z => by cases z) ⟨p, _, rfl, f, upd_same, rset j rr⟩) s1
end

/-! ## from a promise to the body -/
theorem start_get {N : List Str} {vs : List V} {i : Nat} {v : V} (h : vs[i]? = some v) : (start N vs)[i]? = some (some v) := by
  have hl : i < vs.length := (List.getElem?_eq_some_iff.mp h).1
  unfold L2.start
  rw [List.getElem?_append_left (by rw [List.length_map]; exact hl), List.getElem?_map, h]
  rfl
theorem start_len {N : List Str} {vs : List V} (h : vs.length ≤ N.length) : (start N vs).length = N.length := by
  unfold L2.start
  rw [List.length_append, List.length_map, List.length_replicate]
  omega
def entr (n : Nat) (ts : List Dt) : List Dt := ts ++ List.replicate (n - ts.length) .un
section
variable {K : PySem.W.Frag} {E : EK} {t : TS} {N : List Str} {vs us : List V} {ds : List D} {F H : Hp} {d : D} {Q : VK} {es : List D}
theorem entr_len {n : Nat} {ts : List Dt} (h : ts.length ≤ n) : (entr n ts).length = n := by
  unfold entr
  rw [List.length_append, List.length_replicate]
  omega
theorem env0 (hF : Same F H) (hR : RA K F vs ds) (hn : vs.length ≤ N.length) : EnvR K ⟨H, F, []⟩ F H (start N vs) (entr N.length (ds.map .im)) := by
  have hl : ds.length = vs.length := hR.len.symm
  have cases2 : ∀ (i : Nat) (s : Dt), (entr N.length (ds.map Dt.im))[i]? = some s → (∃ d, ds[i]? = some d ∧ s = .im d) ∨ s = .un := fun i s h => by
    unfold entr at h
    by_cases hi : i < ds.length
    · rw [List.getElem?_append_left (by rw [List.length_map]; exact hi), List.getElem?_map, List.getElem?_eq_getElem hi] at h
      cases h
      exact Or.inl ⟨_, List.getElem?_eq_getElem hi, rfl⟩
    · rw [List.getElem?_append_right (by rw [List.length_map]; omega), List.getElem?_replicate] at h
      split at h
      · cases h; exact Or.inr rfl
      · cases h
  have nomu : ∀ (i : Nat) (s : Dt), (entr N.length (ds.map Dt.im))[i]? = some s → mu s = false := fun i s h => by
    rcases cases2 i s h with ⟨_, _, rfl⟩ | rfl <;> rfl
  refine ⟨?_, fun i s h => ?_, fun i j s u p h1 h2 m1 => ?_, fun q hq => absurd hq List.not_mem_nil, fun i s p h1 m => ?_, hF, .refl _, fun _ _ h _ => h, fun _ h => h, fun _ _ h => Or.inl h⟩
  · rw [start_len hn, entr_len (by rw [List.length_map]; omega)]
  · rcases cases2 i s h with ⟨d, hd, rfl⟩ | rfl
    · obtain ⟨v, hv, r⟩ := hR.get i d hd
      exact ⟨v, start_get hv, r⟩
    · trivial
  · rw [nomu i s h1] at m1; cases m1
  · rw [nomu i s h1] at m; cases m
theorem env0_gr {F' H' : Hp} {σ : L2.St} {Γ : List Dt} (e : EnvR K ⟨H, F, []⟩ F' H' σ Γ) : Gr F H F' H' := ⟨e.f0, fun a o h => e.keep a o h List.not_mem_nil, e.fr, e.new⟩
def noX : Value → List (Str × D) → List Dt → Prop := fun _ _ _ => False
/-- a def that promises data -/
theorem fin_P {S : List D → D → Prop} {E0 : XK} (h : spP K S vs H Q E0) (hn : vs.length ≤ N.length) (body : ∀ ds d, S ds d → wpS K E [] t (entr N.length (ds.map .im)) { nx := fun _ => d = .non, rt := fun t _ => t = .im d ∨ ∃ es, t = .own es ∧ d = .lst es, xc := noX }) :
    t { nx := fun _ H' => Q .non H', rt := Q } (start N vs) H := by
  obtain ⟨F, ds, d, hF, hR, hS, k⟩ := h
  refine body ds d hS ⟨H, F, []⟩ F H _ _ (fun q hq => absurd hq List.not_mem_nil) (env0 hF hR hn) (fun _ _ _ _ _ _ _ z => z.elim) ?_ (fun _ _ _ _ z => z.elim) (fun _ _ _ _ z => z.elim) ?_
  · intro Γ' F' H' σ' hd e s
    rw [hd] at k
    exact k .non F' H' (env0_gr e) .non
  · intro v u Γ' F' H' σ' hd e r
    rcases hd with rfl | ⟨es, rfl, rfl⟩
    · exact k v F' H' (env0_gr e) r
    · obtain ⟨F2, s2, e2, r2⟩ := e.freeze r
      exact k v F2 H' (env0_gr e2) r2
theorem fin_N {S : List D → List D → Prop} {E0 : XK} (h : spN K S vs H Q E0) (hn : vs.length ≤ N.length) (body : ∀ ds es, S ds es → wpS K E [] t (entr N.length (ds.map .im)) { nx := fun _ => False, rt := fun t _ => t = .own es, xc := noX }) :
    t { nx := fun _ H' => Q .non H', rt := Q } (start N vs) H := by
  obtain ⟨F, ds, es, hF, hR, hS, k⟩ := h
  refine body ds es hS ⟨H, F, []⟩ F H _ _ (fun q hq => absurd hq List.not_mem_nil) (env0 hF hR hn) (fun _ _ _ _ _ _ _ z => z.elim) (fun _ _ _ _ z => z.elim) (fun _ _ _ _ z => z.elim) (fun _ _ _ _ z => z.elim) ?_
  intro v u Γ' F' H' σ' hd e r
  subst hd
  obtain ⟨p, ws, rfl, h1, h2, h3, h4, _⟩ := r
  exact k p ws F' H' (env0_gr e) h2 h1 h3 h4
theorem envB {b : Addr} {w : Dt} (hF : Same F H) (fb : F b = none) (hw : SlotR K F H (some (some (.ref b))) w) (mw : mu w = true) (hR : RA K F us ds) (hn : us.length + 1 ≤ N.length) :
    EnvR K ⟨H, F, [(0, b)]⟩ F H (start N (.ref b :: us)) (entr N.length (w :: ds.map .im)) := by
  have hl : ds.length = us.length := hR.len.symm
  have cases2 : ∀ (i : Nat) (s : Dt), (entr N.length (w :: ds.map Dt.im))[i]? = some s → (i = 0 ∧ s = w) ∨ (∃ j d, i = j + 1 ∧ ds[j]? = some d ∧ s = .im d) ∨ s = .un := fun i s h => by
    unfold entr at h
    cases i with
    | zero => cases h; exact Or.inl ⟨rfl, rfl⟩
    | succ j =>
      rw [List.cons_append, List.getElem?_cons_succ] at h
      by_cases hi : j < ds.length
      · rw [List.getElem?_append_left (by rw [List.length_map]; exact hi), List.getElem?_map, List.getElem?_eq_getElem hi] at h
        cases h
        exact Or.inr (Or.inl ⟨j, _, rfl, List.getElem?_eq_getElem hi, rfl⟩)
      · rw [List.getElem?_append_right (by rw [List.length_map]; omega), List.getElem?_replicate] at h
        split at h
        · cases h; exact Or.inr (Or.inr rfl)
        · cases h
  have zero : ∀ (i : Nat) (s : Dt), (entr N.length (w :: ds.map Dt.im))[i]? = some s → mu s = true → i = 0 := fun i s h m => by
    rcases cases2 i s h with ⟨z, _⟩ | ⟨_, _, _, _, rfl⟩ | rfl
    · exact z
    · cases m
    · cases m
  refine ⟨?_, fun i s h => ?_, fun i j s u p h1 h2 m1 m2 _ _ => (zero i s h1 m1).trans (zero j u h2 m2).symm, fun q hq => ?_, fun i s p h1 m h2 => ?_, hF, .refl _, fun _ _ h _ => h, fun _ h => h, fun _ _ h => Or.inl h⟩
  · rw [start_len (by simpa using hn), entr_len (by rw [List.length_cons, List.length_map]; omega)]
  · rcases cases2 i s h with ⟨rfl, rfl⟩ | ⟨j, d, rfl, hd, rfl⟩ | rfl
    · rw [start_get (v := .ref b) rfl]
      exact hw
    · obtain ⟨v, hv, r⟩ := hR.get j d hd
      exact ⟨v, start_get (by simpa using hv), r⟩
    · trivial
  · cases List.mem_singleton.mp hq
    exact ⟨start_get rfl, w, rfl, mw⟩
  · have z := zero i s h1 m
    subst z
    rw [start_get (v := .ref b) rfl] at h2
    cases h2
    exact Or.inl (List.mem_singleton.mpr rfl)
theorem envB_gr {b : Addr} {F' H' : Hp} {σ : L2.St} {Γ : List Dt} {n m : Nat} (e : EnvR K ⟨H, F, [(0, b)]⟩ F' H' σ Γ) (hm : ∃ m, m ≤ n ∧ (Γ[0]? = some (.bx m) ∨ ∃ a c t : Int, Γ[0]? = some (.own [.int a, .int c, .int t]) ∧ BoxO m (.lst [.int a, .int c, .int t]))) : BxG F H F' H' b n := by
  have hp := (e.pin (0, b) (List.mem_singleton.mpr rfl)).1
  obtain ⟨m, hle, hm⟩ := hm
  have up : ∀ o, BoxO m o → BoxO n o := fun o ⟨a, c, t, h1, h2, h3, h4, h5, h6⟩ => ⟨a, c, t, h1, h2, h3, h4, h5, by omega⟩
  have key : F' b = none ∧ ∃ o, H' b = some o ∧ BoxO n o := by
    rcases hm with hm | ⟨a, c, t, hm, bo⟩
    · obtain ⟨p, o, a, f, hh, bo⟩ := e.slot 0 _ hm
      rw [hp] at a
      cases a
      exact ⟨f, o, hh, up o bo⟩
    · obtain ⟨p, ws, a', f, hh, rr⟩ := e.slot 0 _ hm
      rw [hp] at a'
      cases a'
      have : ws = [a, c, t].map V.int := rr.of_ints (ns := [a, c, t])
      subst this
      exact ⟨f, _, hh, up _ bo⟩
  exact ⟨e.f0, e.fr, e.new, key.1, key.2, fun a o h nn => e.keep a o h fun z => nn (List.mem_singleton.mp z)⟩
/-- a def whose first argument is the box -/
theorem fin_B {S : List D → Nat → (D → Prop) → Prop} {E0 : XK} (h : spB K S vs H Q E0) (hn : vs.length ≤ N.length)
    (body : ∀ ds c Rs n, S ds c Rs → n + c ≤ 8000000 → wpS K E [0] t (entr N.length (.bx n :: ds.map .im)) { nx := fun _ => False, rt := fun t Γ' => ∃ d, Rs d ∧ (t = .im d ∨ ∃ es, t = .own es ∧ d = .lst es) ∧ ∃ m, m ≤ n + c ∧ Γ'[0]? = some (.bx m), xc := noX }) :
    t { nx := fun _ H' => Q .non H', rt := Q } (start N vs) H := by
  obtain ⟨b, us, F, ds, n, c, Rs, o, rfl, hF, fb, hb, bo, hc, hR, hS, k⟩ := h
  refine body ds c Rs n hS hc ⟨H, F, [(0, b)]⟩ F H _ _ (fun q hq => by cases List.mem_singleton.mp hq; exact List.mem_singleton.mpr rfl) (envB hF fb ⟨b, o, rfl, fb, hb, bo⟩ rfl hR (by simpa using hn)) (fun _ _ _ _ _ _ _ z => z.elim) (fun _ _ _ _ z => z.elim) (fun _ _ _ _ z => z.elim) (fun _ _ _ _ z => z.elim) ?_
  rintro v u Γ' F' H' σ' ⟨d, hd, hu, m, hm, h0⟩ e r
  rcases hu with rfl | ⟨es, rfl, rfl⟩
  · exact k v d F' H' (envB_gr (m := m) e ⟨m, hm, Or.inl h0⟩) r hd
  · obtain ⟨F2, s2, e2, r2⟩ := e.freeze r
    exact k v _ F2 H' (envB_gr (m := m) e2 ⟨m, hm, Or.inl h0⟩) r2 hd
/-- .. and is looked into -/
theorem fin_T {S : List D → Nat → (D → Prop) → Prop} {E0 : XK} (h : spB K S vs H Q E0) (hn : vs.length ≤ N.length)
    (body : ∀ ds c Rs (n : Nat) (a l u : Int), S ds c Rs → n + c ≤ 8000000 → BoxO n (.lst [.int a, .int l, .int u]) → wpS K E [0] t (entr N.length (.own [.int a, .int l, .int u] :: ds.map .im))
      { nx := fun _ => False, rt := fun t Γ' => ∃ d, Rs d ∧ t = .im d ∧ ∃ a l u : Int, Γ'[0]? = some (.own [.int a, .int l, .int u]) ∧ BoxO (n + c) (.lst [.int a, .int l, .int u]), xc := noX }) :
    t { nx := fun _ H' => Q .non H', rt := Q } (start N vs) H := by
  obtain ⟨b, us, F, ds, n, c, Rs, o, rfl, hF, fb, hb, bo, hc, hR, hS, k⟩ := h
  obtain ⟨a, l, u, rfl, bo'⟩ := id bo
  refine body ds c Rs n a l u hS hc bo ⟨H, F, [(0, b)]⟩ F H _ _ (fun q hq => by cases List.mem_singleton.mp hq; exact List.mem_singleton.mpr rfl)
    (envB hF fb ⟨b, _, rfl, fb, hb, .cons (.int _) (.cons (.int _) (.cons (.int _) .nil))⟩ rfl hR (by simpa using hn)) (fun _ _ _ _ _ _ _ z => z.elim) (fun _ _ _ _ z => z.elim) (fun _ _ _ _ z => z.elim) (fun _ _ _ _ z => z.elim) ?_
  rintro v u' Γ' F' H' σ' ⟨d, hd, rfl, a2, l2, u2, h0, bo2⟩ e r
  exact k v d F' H' (envB_gr (m := n + c) e ⟨n + c, Nat.le_refl _, Or.inr ⟨a2, l2, u2, h0, bo2⟩⟩) r hd
end
end Z

namespace Z
open PySem PySem.Spec PyProof.Rows L2

/-! ## the law's own call -/
section
variable {P : Program} {w : World} {K : PySem.W.Frag} {mg mb : Str → Option Value} {CX : CXT} {k : Nat} {fa a : Addr} {fd : FuncData} {x : Str} {sp : Sp} {s₁ : Shared} {vs : List Value} {ns : List Int}
/-- what is tracked ahead of the law: nothing, or its script, locked -/
structure Ahead (P : Program) (w : World) (K : PySem.W.Frag) (h : Heap) (a : Addr) (ns : List Int) (H : Hp) : Prop where
  only : ∀ b u, H b = some u → b = a ∧ ∃ o, u = .frz o (.lst (ns.map V.int))
  sq : SqL K H a (ns.map V.int)
  ok : HOk P w H h
  no : H a ≠ none → K.lookup a = none
theorem ahead (KX : K.In s₁.heap) (ha : s₁.heap.get? a = some { cls := .type "list", data := .seq vs.toArray }) (hi : IntsAre vs ns) (hl : ns.length ≤ sizeLine) : ∃ H, Ahead P w K s₁.heap a ns H := by
  have rv : Vals (ns.map V.int) vs := vals_ints hi
  cases hk : K.lookup a with
  | some o =>
    have e := KX a o hk
    rw [ha] at e
    cases e
    have nn : ∀ (u : HO), (none : Option HO) ≠ some u := fun u z => by cases z
    refine ⟨fun _ => none, Ahead.mk (fun b u z => absurd z (nn u)) (Or.inr ⟨_, vs.toArray, _, hk, rfl, rfl, rfl, ?_, by simpa using rv⟩) (fun b u z => absurd z (nn u)) (fun z => absurd rfl z)⟩
    rw [List.size_toArray, hi.length]
    exact hl
  | none =>
    have val : ∀ (b : Addr) (u : HO), (if b = a then some (HO.frz { cls := .type "list", data := .seq vs.toArray } (.lst (ns.map V.int))) else none) = some u → b = a ∧ u = HO.frz { cls := .type "list", data := .seq vs.toArray } (.lst (ns.map V.int)) := by
      intro b u z
      split at z
      · rename_i e
        exact ⟨e, (Option.some.inj z).symm⟩
      · cases z
    refine ⟨fun b => if b = a then some (.frz { cls := .type "list", data := .seq vs.toArray } (.lst (ns.map V.int))) else none, Ahead.mk (fun b u z => ?_) (Or.inl (Or.inr ⟨_, if_pos rfl⟩)) (fun b u z => ?_) (fun _ => hk)⟩
    · obtain ⟨e1, e2⟩ := val b u z
      exact ⟨e1, _, e2⟩
    · obtain ⟨e1, e2⟩ := val b u z
      subst e1 e2
      exact ⟨ha, by rw [List.length_map]; exact hl, vs, _, rv, ha⟩
theorem law_cG (KX : K.In s₁.heap) (hns : s₁.heap.Ns mainGlobals mg) (hb : s₁.heap.Ns builtinsNs mb) (hbb : ∀ x : Str, x ≠ "__name__" → mb x = bootBuiltins x) (hlim : s₁.heap.NoLimit) (hg : s₁.gens = #[])
    (ha : s₁.heap.get? a = some { cls := .type "list", data := .seq vs.toArray }) (hi : IntsAre vs ns) (hl : ns.length ≤ sizeLine) (hr : Room k callerA)
    (F : ∀ base : Heap, K.In base → base.Ns mainGlobals mg → FnG P w K mg base CX k fa fd [x] sp) (hbind : ∀ (s : Shared) (u : Value), BindsTo s fd ⟨[u], []⟩ [(x, u)])
    (hsp : ∀ H : Hp, SqL K H a (ns.map V.int) → sp [.ref a] H (fun v _ => v = .bl true) fun _ _ _ => False) (hCX : ∀ H e s', CX [] H s₁ (fun _ _ _ => False) e s' → False) :
    codeAny (model P w) callerA (.call (.ref fa) ⟨[.ref a], []⟩) (fun r s' => r = .ok (.ret (.bool true)) ∧ OldK s₁.heap s'.heap ∧ s'.os = s₁.os ∧ AllBare s'.gens) s₁ := by
  obtain ⟨H, T⟩ := ahead (P := P) (w := w) KX ha hi hl
  have nodict : ∀ {b : Addr} {o : Obj} {es : Array DictEntry} {ep : Nat}, s₁.heap.get? b = some o → o.data = .dict es ep → H b = none := by
    intro b o es ep e d
    cases q : H b with
    | none => rfl
    | some u =>
      rw [(T.only b u q).1, ha] at e
      cases e
      cases d
  have nsB : ∀ {b : Addr} {m : Str → Option Value}, s₁.heap.Ns b m → (hidT s₁.heap H).Ns b m := by
    rintro b m ⟨o, es, ep, e, d, r⟩
    exact ⟨o, es, ep, hidT_get e (nodict e d), d, r⟩
  have kB : K.In (hidT s₁.heap H) := by
    intro b o e
    refine hidT_get (KX b o e) ?_
    cases q : H b with
    | none => rfl
    | some u =>
      have eb := (T.only b u q).1
      rw [eb] at e q
      rw [T.no (by rw [q]; simp)] at e
      cases e
  obtain ⟨mc, l1, l2⟩ := hlim
  have md : Mod K mg (hidT s₁.heap H) := ⟨kB, nsB hns, ⟨mb, nsB hb, hbb⟩, ⟨mc, nsB l1, l2⟩⟩
  have e0 : Env0 P w K mg (hidT s₁.heap H) callerA [] s₁ H := ⟨rfl, md, fun b o e => of_hidT e, Nat.le_of_eq (hidT_size _ _), trivial, fun b z => (List.not_mem_nil z).elim, T.ok, .of_eq hg⟩
  refine codeAny_mono ((F _ kB (nsB hns)).go callerA [] s₁ H ⟨[.ref a], []⟩ [.ref a] [.ref a] _ _ hr rfl e0 (hbind s₁ (.ref a)) (.cons rfl .nil) (hsp H T.sq)) ?_
  intro r s' h
  match r, h with
  | .error e, h => exact (hCX H e s' h).elim
  | .ok (.ret u), h =>
    obtain ⟨v, H', os, bare, un, hok', r', q⟩ := h
    have q' : v = .bl true := q
    subst q'
    cases r'
    refine ⟨rfl, OldK.of_keep fun b o e => ?_, os, bare⟩
    cases q : H b with
    | none => exact un.keep b o e q (fun z => List.not_mem_nil z) (fun z => List.not_mem_nil z)
    | some u =>
      obtain ⟨_, ob, rfl⟩ := T.only b u q
      have z1 := (T.ok b _ q).1
      have z2 := (hok' b _ (un.frzs b ob _ q)).1
      rw [e] at z1
      cases z1
      exact z2
/-- the law's promise: True at every script -/
def spLaw (K : PySem.W.Frag) : Sp := fun vs H Q _ => ∃ (a : Addr) (ns : List Int), vs = [.ref a] ∧ SqL K H a (ns.map V.int) ∧ ns.length ≤ 63 ∧ ∀ H', Q (.bl true) H'
theorem walk_G {l : PySem.W.OpenLaw} {k : Nat} {q : Program} {loose : List Str} {XP : (Str → Option Value) → Heap → Prop} {YP : World → Heap → Prop} {d : DefRec} {K : Params → PySem.W.Frag} {x : Str}
    (hn : l.most = some 63) (hdf : d.params.defaults = []) (hr : Room k callerA) (hY : ∀ (w : World) (h : Heap), YP w h → (K w.params).In h)
    (F : ∀ (w : World) (mg : Str → Option Value) (fa : Addr) (h : Heap), (K w.params).In h → h.Ns mainGlobals mg → mg d.name = some (.ref fa) →
      ∃ fd : FuncData, (∀ (s : Shared) (u : Value), BindsTo s fd ⟨[u], []⟩ [(x, u)]) ∧
        ∀ base : Heap, (K w.params).In base → base.Ns mainGlobals mg → FnG l.prog w (K w.params) mg base (L2.CX l.prog w) k fa fd [x] (spLaw (K w.params))) :
    PySem.W.WalkO q loose XP YP l.row.toRowW d [] (fun f vs => PySem.call f vs) := by
  apply Att.attach_call hn hdf
  intro w s₀ s₁ mg mb fa o pm cd doc a vs ns G Y ho hd hcd hmg hobj hints hlen hg
  have kx := hY w _ Y
  obtain ⟨fd, hb, hF⟩ := F w mg fa _ kx G.T.g hmg
  refine law_cG kx G.T.g G.T.b G.T.builtins G.T.nolimit hg hobj hints (Nat.le_trans hlen (by decide)) hr hF hb (fun H hS => ⟨a, ns, rfl, hS, hlen, fun _ => rfl⟩) ?_
  intro H e s' z
  obtain ⟨_, _, _, _, _, _, _, _, _, _, _, _, z⟩ := z
  exact z
end
section
variable {K : PySem.W.Frag} {E : EK} {t : TS} {N : List Str} {vs : List V} {H : Hp} {Q : VK}
theorem fin_L {E0 : XK} (h : spLaw K vs H Q E0) (hn : vs.length ≤ N.length) (body : ∀ ns : List Int, ns.length ≤ 63 → wpS K E [] t (entr N.length [.scr ns]) { nx := fun _ => False, rt := fun t _ => t = .im (.bl true), xc := noX }) :
    t { nx := fun _ H' => Q .non H', rt := Q } (L2.start N vs) H := by
  obtain ⟨a, ns, rfl, hS, hl, k⟩ := h
  have hn' : 1 ≤ N.length := hn
  -- the part of the heap that is read: all of it
  have e : EnvR K ⟨H, H, []⟩ H H (L2.start N [.ref a]) (entr N.length [.scr ns]) := by
    have cases2 : ∀ (i : Nat) (s : Dt), (entr N.length [Dt.scr ns])[i]? = some s → (i = 0 ∧ s = .scr ns) ∨ s = .un := fun i s h => by
      unfold entr at h
      cases i with
      | zero => cases h; exact Or.inl ⟨rfl, rfl⟩
      | succ j =>
        rw [List.cons_append, List.getElem?_cons_succ, List.nil_append, List.getElem?_replicate] at h
        split at h
        · cases h; exact Or.inr rfl
        · cases h
    have nomu : ∀ (i : Nat) (s : Dt), (entr N.length [Dt.scr ns])[i]? = some s → mu s = false := fun i s h => by
      rcases cases2 i s h with ⟨_, rfl⟩ | rfl <;> rfl
    refine ⟨?_, fun i s h => ?_, fun i j s u p h1 h2 m1 => ?_, fun q hq => absurd hq List.not_mem_nil, fun i s p h1 m => ?_, .refl _, .refl _, fun _ _ h _ => h, fun _ h => h, fun _ _ h => Or.inl h⟩
    · rw [start_len hn, entr_len (by simpa using hn')]
    · rcases cases2 i s h with ⟨rfl, rfl⟩ | rfl
      · exact ⟨a, start_get rfl, hS⟩
      · trivial
    · rw [nomu i s h1] at m1; cases m1
    · rw [nomu i s h1] at m; cases m
  refine body ns hl _ H H _ _ (fun q hq => absurd hq List.not_mem_nil) e (fun _ _ _ _ _ _ _ z => z.elim) (fun _ _ _ _ z => z.elim) (fun _ _ _ _ z => z.elim) (fun _ _ _ _ z => z.elim) ?_
  rintro v u Γ' F' H' σ' rfl e r
  cases r
  exact k H'
/-- script, k: the k-th cell -/
theorem fin_C {E0 : XK} (h : spC K vs H Q E0) (hn : vs.length ≤ N.length) (body : ∀ (ns : List Int) (k : Int), 0 ≤ k ∧ k ≤ 1000 → wpS K E [] t (entr N.length [.scr ns, .im (.int k)]) { nx := fun _ => False, rt := fun t _ => ∃ z, t = .im (.int z), xc := noX }) :
    t { nx := fun _ H' => Q .non H', rt := Q } (L2.start N vs) H := by
  obtain ⟨a, ns, z, rfl, hz, hS, k⟩ := h
  have hn' : 2 ≤ N.length := hn
  have e : EnvR K ⟨H, H, []⟩ H H (L2.start N [.ref a, .int z]) (entr N.length [.scr ns, .im (.int z)]) := by
    have cases2 : ∀ (i : Nat) (s : Dt), (entr N.length [Dt.scr ns, .im (.int z)])[i]? = some s → (i = 0 ∧ s = .scr ns) ∨ (i = 1 ∧ s = .im (.int z)) ∨ s = .un := fun i s h => by
      unfold entr at h
      match i, h with
      | 0, h => cases h; exact Or.inl ⟨rfl, rfl⟩
      | 1, h => cases h; exact Or.inr (Or.inl ⟨rfl, rfl⟩)
      | j + 2, h =>
        rw [List.cons_append, List.getElem?_cons_succ, List.cons_append, List.getElem?_cons_succ, List.nil_append, List.getElem?_replicate] at h
        split at h
        · cases h; exact Or.inr (Or.inr rfl)
        · cases h
    have nomu : ∀ (i : Nat) (s : Dt), (entr N.length [Dt.scr ns, .im (.int z)])[i]? = some s → mu s = false := fun i s h => by
      rcases cases2 i s h with ⟨_, rfl⟩ | ⟨_, rfl⟩ | rfl <;> rfl
    refine ⟨?_, fun i s h => ?_, fun i j s u p h1 h2 m1 => ?_, fun q hq => absurd hq List.not_mem_nil, fun i s p h1 m => ?_, .refl _, .refl _, fun _ _ h _ => h, fun _ h => h, fun _ _ h => Or.inl h⟩
    · rw [start_len hn, entr_len (by simpa using hn')]
    · rcases cases2 i s h with ⟨rfl, rfl⟩ | ⟨rfl, rfl⟩ | rfl
      · exact ⟨a, start_get rfl, hS⟩
      · exact ⟨_, start_get rfl, .int z⟩
      · trivial
    · rw [nomu i s h1] at m1; cases m1
    · rw [nomu i s h1] at m; cases m
  refine body ns z hz _ H H _ _ (fun q hq => absurd hq List.not_mem_nil) e (fun _ _ _ _ _ _ _ z => z.elim) (fun _ _ _ _ z => z.elim) (fun _ _ _ _ z => z.elim) (fun _ _ _ _ z => z.elim) ?_
  rintro v u Γ' F' H' σ' ⟨y, rfl⟩ e r
  cases r
  exact k y H' fun b o hb => e.keep b o hb List.not_mem_nil
/-- the box of a cell -/
theorem fin_X {E0 : XK} (h : spX vs H Q E0) (hn : vs.length ≤ N.length) (body : ∀ z : Int, wpS K E [] t (entr N.length [.im (.int z)]) { nx := fun _ => False, rt := fun t _ => ∃ a c : Int, t = .own [.int a, .int c, .int 0] ∧ 0 ≤ a ∧ 0 ≤ c ∧ c < 2147483629, xc := noX }) :
    t { nx := fun _ H' => Q .non H', rt := Q } (L2.start N vs) H := by
  obtain ⟨z, rfl, k⟩ := h
  refine body z ⟨H, H, []⟩ H H _ _ (fun q hq => absurd hq List.not_mem_nil) (env0 (ds := [.int z]) (.refl _) (.cons (.int z) .nil) hn) (fun _ _ _ _ _ _ _ z => z.elim) (fun _ _ _ _ z => z.elim) (fun _ _ _ _ z => z.elim) (fun _ _ _ _ z => z.elim) ?_
  rintro v u Γ' F' H' σ' ⟨a, c, rfl, h1, h2, h3⟩ e r
  obtain ⟨p, ws, rfl, f1, f2, f3, f4, _⟩ := r
  have : ws = [a, c, 0].map V.int := f4.of_ints (ns := [a, c, 0])
  subst this
  exact k p H' _ (fun b o hb => e.keep b o hb List.not_mem_nil) f2 f3 ⟨a, c, 0, rfl, h1, h2, h3, Int.le_refl _, Int.le_refl _⟩
end
end Z

namespace Z
open PySem PySem.Spec PyProof.Rows L2

/-! ## short words for terms -/
section
variable {X : Cx}
theorem pe_gi {x : Str} {i : Int} {pos : Pos} (hg : Gl X x) (h : ∃ t, X.mg x = some (.int i t)) (hd : (x == ("__debug__" : Str)) = false := by decide) : PE X (.Name x pos) (tC (.int i)) := by
  obtain ⟨t, ht⟩ := h
  exact pe_glob hg ht ⟨t, rfl⟩ hd
theorem pe_gs {x : Str} {i : Str} {pos : Pos} (hg : Gl X x) (h : ∃ t, X.mg x = some (.str i t)) (hd : (x == ("__debug__" : Str)) = false := by decide) : PE X (.Name x pos) (tC (.str i)) := by
  obtain ⟨t, ht⟩ := h
  exact pe_glob hg ht ⟨t, rfl⟩ hd
theorem pz (σ : L2.St) : PassesAt (L2.CX X.prog X.w) X σ E0 := fun pins H s e s' I c => by
  obtain ⟨_, _, _, _, _, _, _, _, _, _, _, _, z⟩ := c
  exact z.elim
theorem hu70 {A : Around} {k : Nat} (h : Room k A) : A.units + 70 < cLine := by have := h.un; omega
def rSlU (K : PySem.W.Frag) : V → Option Int → Option Int → Hp → VK → Prop := fun x lo hi H Q => rSlL K x lo hi H Q ∨ rSlT K x lo hi H Q ∨ rSlS x lo hi H Q
theorem sl_u : L2.SlR X (rSlU X.K) := sl_list.or (sl_tup.or sl_str)
end
theorem cxK {CX : CXT} {P : Program} {w : World} {K : PySem.W.Frag} {mg : Str → Option Value} {base : Heap} {N : List Str} {qual : Str} {scope : Scope} {f : Addr} {cd : Value} {A : Around} {outer : List Env} {s : Shared} {H : Hp} {E : XK} : (cxOf CX P w K mg base N qual scope f cd A outer s H E).K = K := rfl
theorem lenP {K : PySem.W.Frag} {S : List D → D → Prop} {n : Nat} (h : ∀ ds d, S ds d → ds.length = n) {vs : List V} {H : Hp} {Q : VK} {E : XK} (q : spP K S vs H Q E) : vs.length = n := by
  obtain ⟨F, ds, d, _, r, s, _⟩ := q
  rw [r.len]
  exact h ds d s
theorem lenN {K : PySem.W.Frag} {S : List D → List D → Prop} {n : Nat} (h : ∀ ds d, S ds d → ds.length = n) {vs : List V} {H : Hp} {Q : VK} {E : XK} (q : spN K S vs H Q E) : vs.length = n := by
  obtain ⟨F, ds, d, _, r, s, _⟩ := q
  rw [r.len]
  exact h ds d s
theorem lenB {K : PySem.W.Frag} {S : List D → Nat → (D → Prop) → Prop} {n : Nat} (h : ∀ ds c Rs, S ds c Rs → ds.length = n) {vs : List V} {H : Hp} {Q : VK} {E : XK} (q : spB K S vs H Q E) : vs.length = n + 1 := by
  obtain ⟨b, us, F, ds, m, c, Rs, o, rfl, _, _, _, _, _, r, s, _⟩ := q
  rw [List.length_cons, r.len, h ds c Rs s]
theorem lenC {K : PySem.W.Frag} {vs : List V} {H : Hp} {Q : VK} {E : XK} (q : spC K vs H Q E) : vs.length = 2 := by
  obtain ⟨_, _, _, rfl, _⟩ := q
  rfl
theorem lenX {vs : List V} {H : Hp} {Q : VK} {E : XK} (q : spX vs H Q E) : vs.length = 1 := by
  obtain ⟨_, rfl, _⟩ := q
  rfl
theorem lenL {K : PySem.W.Frag} {vs : List V} {H : Hp} {Q : VK} {E : XK} (q : spLaw K vs H Q E) : vs.length = 1 := by
  obtain ⟨_, _, rfl, _⟩ := q
  rfl
section
variable {K : PySem.W.Frag} {PD : D → Prop} {PL : List D → Prop} {PB : Bool → Prop} {Pr : Prop} {r : R2} {x y z : D} {ds es : List D} {i : Int}
theorem x_rv (h : RvD K r x y z) (q : PD z) : ∃ z, RvD K r x y z ∧ PD z := ⟨z, h, q⟩
theorem x_rl (h : RvL K r x y ds) (q : PL ds) : ∃ z, RvL K r x y z ∧ PL z := ⟨ds, h, q⟩
theorem x_rc {rc : List V → Hp → VK → Prop} (h : RcD K rc ds z) (q : PD z) : ∃ z, RcD K rc ds z ∧ PD z := ⟨z, h, q⟩
theorem x_ru {ru : V → Hp → VK → Prop} (h : RuD K ru x z) (q : PD z) : ∃ z, RuD K ru x z ∧ PD z := ⟨z, h, q⟩
theorem x_bl {b : Bool} (q : PB b) : ∃ c, D.bl b = .bl c ∧ PB c := ⟨b, rfl, q⟩
theorem x_len {n : Nat} (h : ds.length ≤ n) (q : Pr) : ds.length ≤ n ∧ Pr := ⟨h, q⟩
theorem x_sl (q : PL es) : ∃ e, (D.lst es = .lst e ∨ D.lst es = .tup e) ∧ PL e := ⟨es, Or.inl rfl, q⟩
theorem x_st (q : PL es) : ∃ e, (D.tup es = .lst e ∨ D.tup es = .tup e) ∧ PL e := ⟨es, Or.inr rfl, q⟩
theorem x_fo {Q2 : D → List Dt → Prop} {Γ : List Dt} (q : Q2 (.lst ds) Γ) : frz Q2 (.own ds) Γ := q
theorem x_fi {Q2 : D → List Dt → Prop} {Γ : List Dt} (q : Q2 x Γ) : frz Q2 (.im x) Γ := q
theorem at_some (h0 : 0 ≤ i) (h1 : i < ds.length) : ∃ d, d ∈ ds ∧ atI ds i = some d := by
  have hl : i.toNat < ds.length := by omega
  refine ⟨ds[i.toNat], List.getElem_mem hl, ?_⟩
  unfold atI ixN
  rw [if_pos h0, if_pos h1]
  exact List.getElem?_eq_getElem hl
/-- an item at an open place: told by what all of them have -/
theorem x_ix (P : D → Prop) (h0 : 0 ≤ i) (h1 : i < ds.length) (hp : ∀ d ∈ ds, P d) (q : ∀ d, P d → PD d) : ∃ z, RvD K (rIx K) (.lst ds) (.int i) z ∧ PD z := by
  obtain ⟨d, hd, e⟩ := at_some h0 h1
  exact ⟨d, rv_ixl e, q d (hp d hd)⟩
theorem x_ixt (P : D → Prop) (h0 : 0 ≤ i) (h1 : i < ds.length) (hp : ∀ d ∈ ds, P d) (q : ∀ d, P d → PD d) : ∃ z, RvD K (rIx K) (.tup ds) (.int i) z ∧ PD z := by
  obtain ⟨d, hd, e⟩ := at_some h0 h1
  exact ⟨d, rv_ixt e, q d (hp d hd)⟩
/-- a, b by a truth -/
theorem rv_ixb {b : Bool} {n m : Int} : RvD K (rIx K) (.lst [.int n, .int m]) (.int (if b = true then 1 else 0)) (.int (if b = true then m else n)) := by
  cases b
  · exact rv_ixl rfl
  · exact rv_ixl rfl
theorem rv_ix0 {n : Int} {ns : List Int} : RvD K (rIx K) (.lst ((n :: ns).map D.int)) (.int 0) (.int n) := by
  refine rv_ixl ?_
  unfold atI ixN
  simp
end
end Z

namespace Z
open PySem PySem.Spec PyProof.Rows L2

/-! ## plain data of small numbers: == and repr -/
mutual
def gI : D → Prop
  | .non => True
  | .bl _ => True
  | .int i => i.natAbs < 10 ^ 70
  | .str x => PyData.strOk x = true
  | .lst xs => gIs xs
  | .tup xs => gIs xs
  | .dic _ => False
  | .obj _ _ => False
def gIs : List D → Prop
  | [] => True
  | x :: xs => gI x ∧ gIs xs
end
mutual
/-- a line for its shown form -/
def wI : D → Nat
  | .non => 5
  | .bl _ => 5
  | .int _ => 71
  | .str x => 10 * x.cps.size + 2
  | .lst xs => wIs xs + 3
  | .tup xs => wIs xs + 3
  | .dic _ => 0
  | .obj _ _ => 0
def wIs : List D → Nat
  | [] => 0
  | x :: xs => wI x + 2 + wIs xs
end
mutual
def dI : D → Nat
  | .lst xs => dIs xs + 1
  | .tup xs => dIs xs + 1
  | _ => 0
def dIs : List D → Nat
  | [] => 0
  | x :: xs => max (dI x) (dIs xs)
end
mutual
theorem gI_pla : ∀ d : D, gI d → pla d = true
  | .non, _ => by simp [pla]
  | .bl _, _ => by simp [pla]
  | .int _, _ => by simp [pla]
  | .str _, _ => by simp [pla]
  | .lst xs, h => by simp only [pla]; exact gI_plas xs (by simpa only [gI] using h)
  | .tup xs, h => by simp only [pla]; exact gI_plas xs (by simpa only [gI] using h)
  | .dic _, h => by simp [gI] at h
  | .obj _ _, h => by simp [gI] at h
theorem gI_plas : ∀ ds : List D, gIs ds → plas ds = true
  | [], _ => by simp [plas]
  | x :: xs, h => by
    simp only [gIs] at h
    simp only [plas, gI_pla x h.1, gI_plas xs h.2, Bool.and_self]
end
mutual
theorem gI_lay : ∀ d : D, gI d → (toP d).canLay0 = true
  | .non, _ => by simp [toP, PyData.canLay0]
  | .bl _, _ => by simp [toP, PyData.canLay0]
  | .int _, _ => by simp [toP, PyData.canLay0]
  | .str x, h => by simp only [toP, PyData.canLay0]; simpa only [gI] using h
  | .lst xs, h => by simp only [toP, PyData.canLay0]; exact gI_lays xs (by simpa only [gI] using h)
  | .tup xs, h => by simp only [toP, PyData.canLay0]; exact gI_lays xs (by simpa only [gI] using h)
  | .dic _, h => by simp [gI] at h
  | .obj _ _, h => by simp [gI] at h
theorem gI_lays : ∀ ds : List D, gIs ds → PyData.canLayAll0 (toPs ds) = true
  | [], _ => by simp [toPs, PyData.canLayAll0]
  | x :: xs, h => by
    simp only [gIs] at h
    simp only [toPs, PyData.canLayAll0, gI_lay x h.1, gI_lays xs h.2, Bool.and_self]
end
mutual
theorem gI_dep : ∀ d : D, gI d → (toP d).depth = dI d
  | .non, _ => by simp [toP, PyData.depth, dI]
  | .bl _, _ => by simp [toP, PyData.depth, dI]
  | .int _, _ => by simp [toP, PyData.depth, dI]
  | .str x, h => by simp [toP, PyData.depth, dI]
  | .lst xs, h => by simp only [toP, PyData.depth, dI]; rw [gI_deps xs (by simpa only [gI] using h)]
  | .tup xs, h => by simp only [toP, PyData.depth, dI]; rw [gI_deps xs (by simpa only [gI] using h)]
  | .dic _, h => by simp [gI] at h
  | .obj _ _, h => by simp [gI] at h
theorem gI_deps : ∀ ds : List D, gIs ds → PyData.depthAll (toPs ds) = dIs ds
  | [], _ => by simp [toPs, PyData.depthAll, dIs]
  | x :: xs, h => by
    simp only [gIs] at h
    simp only [toPs, PyData.depthAll, dIs, gI_dep x h.1, gI_deps xs h.2]
end
theorem log_70 {n : Nat} (h : n < 10 ^ 70) : n.log2 < 1920 := by
  by_cases z : n = 0
  · subst z; decide
  · have : n < 2 ^ 233 := Nat.lt_of_lt_of_le h (by decide)
    have := (Nat.log2_lt z).mpr this
    omega
mutual
theorem gI_sho : ∀ d : D, gI d → (toP d).showable = true
  | .non, _ => by simp [toP, PyData.showable]
  | .bl _, _ => by simp [toP, PyData.showable]
  | .int i, h => by
    simp only [toP, PyData.showable, decide_eq_true_eq]
    exact log_70 (by simpa only [gI] using h)
  | .str x, h => by simp [toP, PyData.showable]
  | .lst xs, h => by simp only [toP, PyData.showable]; exact gI_shos xs (by simpa only [gI] using h)
  | .tup xs, h => by simp only [toP, PyData.showable]; exact gI_shos xs (by simpa only [gI] using h)
  | .dic _, h => by simp [gI] at h
  | .obj _ _, h => by simp [gI] at h
theorem gI_shos : ∀ ds : List D, gIs ds → PyData.showableAll (toPs ds) = true
  | [], _ => by simp [toPs, PyData.showableAll]
  | x :: xs, h => by
    simp only [gIs] at h
    simp only [toPs, PyData.showableAll, gI_sho x h.1, gI_shos xs h.2, Bool.and_self]
end
theorem toPs_len : ∀ ds : List D, (toPs ds).length = ds.length
  | [] => rfl
  | x :: xs => by simp only [toPs, List.length_cons, toPs_len xs]
mutual
theorem gI_shn : ∀ d : D, gI d → (toP d).shown.length ≤ wI d
  | .non, _ => by
    have e : (PyData.shown .none).length = 4 := rfl
    simp only [toP, wI]
    omega
  | .bl b, _ => by
    have e : (PyData.shown (.bool b)).length ≤ 5 := by cases b <;> decide
    simp only [toP, wI]
    omega
  | .int i, h => by
    have e := int_text_length_le10 (k := 70) (by decide) (show i.natAbs < 10 ^ 70 by simpa only [gI] using h)
    simp only [toP, wI]
    show (Str.ofString (toString i)).length ≤ 71
    rw [PySem.ofString_length]
    exact e
  | .str x, h => by
    have h' : PyData.strOk x = true := by simpa only [gI] using h
    have hx : ∀ c ∈ x.cps.toList, c < 16 ^ 8 := fun c hc => by
      unfold PyData.strOk at h'
      have := (Array.all_eq_true'.mp h') c (by simpa using hc)
      have : c < 0x110000 := by simpa using this
      omega
    have e := StrLaws.reprText_len x hx
    have e2 : x.length = x.cps.size := rfl
    simp only [toP, PyData.shown, wI]
    omega
  | .lst xs, h => by
    have h1 := gI_shns xs (by simpa only [gI] using h)
    have h2 := listText_len_le (PyData.shownAll (toPs xs))
    have h3 := PyData.shownAll_length (toPs xs)
    simp only [toP, PyData.shown, wI]
    omega
  | .tup xs, h => by
    have h1 := gI_shns xs (by simpa only [gI] using h)
    have h2 := tupleText_len_le (PyData.shownAll (toPs xs))
    have h3 := PyData.shownAll_length (toPs xs)
    simp only [toP, PyData.shown, wI]
    omega
  | .dic _, h => by simp [gI] at h
  | .obj _ _, h => by simp [gI] at h
theorem gI_shns : ∀ ds : List D, gIs ds → ((PyData.shownAll (toPs ds)).map (·.length)).sum + 2 * (toPs ds).length ≤ wIs ds
  | [], _ => by simp [toPs, PyData.shownAll, wIs]
  | x :: xs, h => by
    simp only [gIs] at h
    have h1 := gI_shn x h.1
    have h2 := gI_shns xs h.2
    simp only [toPs, PyData.shownAll, wIs, List.map_cons, List.sum_cons, List.length_cons]
    omega
end
/-- good for _law_equal -/
def okE (d : D) : Prop := okD d = true ∧ okR d
theorem okE_of {d : D} (h : gI d) (hw : wI d ≤ 16777216) (hd : dI d ≤ 40) : okE d := by
  have hdp := gI_dep d h
  refine ⟨?_, gI_sho d h, Nat.le_trans (gI_shn d h) hw, by rw [hdp]; omega⟩
  have h1 := gI_pla d h
  have h2 := gI_lay d h
  simp only [okD, SeqAt.shaped, h1, h2, hdp, Bool.true_and, decide_eq_true_eq]
  omega
theorem okE_int {i : Int} (h : -(10 ^ 60) ≤ i ∧ i ≤ 10 ^ 60) : okE (.int i) := okE_of (by simp only [gI]; omega) (by simp only [wI]; omega) (by simp only [dI]; omega)
theorem okE_bl {b : Bool} : okE (.bl b) := okE_of (by simp only [gI]) (by simp only [wI]; omega) (by simp only [dI]; omega)
theorem okE_non : okE .non := okE_of (by simp only [gI]) (by simp only [wI]; omega) (by simp only [dI]; omega)
theorem gIs_ints : ∀ {ns : List Int}, (∀ n ∈ ns, -(10 ^ 60) ≤ n ∧ n ≤ 10 ^ 60) → gIs (ns.map D.int)
  | [], _ => by simp [gIs]
  | n :: ns, h => by
    have a := h n List.mem_cons_self
    have b := gIs_ints (ns := ns) fun m hm => h m (List.mem_cons_of_mem _ hm)
    simp only [List.map_cons, gIs, gI]
    exact ⟨by omega, b⟩
theorem wIs_ints : ∀ (ns : List Int), wIs (ns.map D.int) = 73 * ns.length
  | [] => rfl
  | n :: ns => by
    have b := wIs_ints ns
    simp only [List.map_cons, wIs, wI, List.length_cons]
    omega
theorem dIs_ints : ∀ (ns : List Int), dIs (ns.map D.int) = 0
  | [] => rfl
  | n :: ns => by
    have b := dIs_ints ns
    simp only [List.map_cons, dIs, dI]
    omega
theorem okE_ints {ns : List Int} (h : ∀ n ∈ ns, -(10 ^ 60) ≤ n ∧ n ≤ 10 ^ 60) (hl : ns.length ≤ 200000) : okE (.lst (ns.map D.int)) :=
  okE_of (by simp only [gI]; exact gIs_ints h) (by simp only [wI, wIs_ints]; omega) (by simp only [dI, dIs_ints]; omega)
end Z

namespace Z
open PySem PySem.Spec PyProof.Rows L2

/-! ## the frame of a law: cell by cell -/
section
variable {K : PySem.W.Frag} {E E' E2 : EK} {Γ : List Dt} {t u : TS} {ns : List Int} {pn : List Nat} {P : Po}
theorem wi_head {QI : List D → List Dt → Prop} {xc : Value → List (Str × D) → List Dt → Prop} {a b : Int} (h : Γ[0]? = some (.scr ns)) (ha : 0 ≤ a) (hab : a ≤ b) (hb : b ≤ 1000) (q : ∀ n : Nat, (n : Int) ≤ b → QI (rngD 0 n) Γ) :
    wpI K E (iRng1 (tCons (tCB rMax2 (tCons (tC (.int a)) (tCons (tCB rMin2 (tCons (tC (.int b)) (tCons (tCB (rLenU K) (tCons (tVar 0) tNil)) tNil))) tNil))) tNil)) Γ QI xc := by
  refine wi_r1 (wa_cons (wd_cb (wa_cons (wd_d (d := .int a) ev_int ?_))))
  refine wa_cons (wd_cb (wa_cons (wd_d (d := .int b) ev_int ?_)))
  refine wa_cons (wd_lenscr h (wa_nil ⟨_, rc_min2, wa_nil ⟨_, rc_max2, wa_nil ⟨_, rfl, ?_, ?_⟩⟩⟩))
  · constructor <;> (repeat' split) <;> omega
  · refine q _ ?_
    repeat' split
    all_goals omega
def lawP (ns : List Int) (m : Nat) : Po := { nx := fun Γ' => ∃ ts, Γ' = .scr ns :: ts ∧ ts.length = m + 1, rt := fun t _ => t = .im (.bl true), bk := fun _ => False, ct := fun Γ' => ∃ ts, Γ' = .scr ns :: ts ∧ ts.length = m + 1, xc := noX }
theorem ws_lawk {a b : Int} (m : Nat) (ha : 0 ≤ a) (hab : a ≤ b) (hb : b ≤ 1000) (h : ∀ (k : Int) (ts : List Dt), 0 ≤ k → k < b → ts.length = m → wpS K E [] t (.scr ns :: .im (.int k) :: ts) (lawP ns m)) :
    wpS K E [] (tSeq (tFor (iRng1 (tCons (tCB rMax2 (tCons (tC (.int a)) (tCons (tCB rMin2 (tCons (tC (.int b)) (tCons (tCB (rLenU K) (tCons (tVar 0) tNil)) tNil))) tNil))) tNil)) (gName 1) t) (tRet (tC (.bl true)))) (entr (m + 2) [.scr ns])
      { nx := fun _ => False, rt := fun t _ => t = .im (.bl true), xc := noX } := by
  refine ws_seq (ws_for (wi_head (ns := ns) rfl ha hab hb fun n hn => ⟨fun _ Γ' => ∃ ts, Γ' = .scr ns :: ts ∧ ts.length = m + 1, ⟨_, rfl, by simp⟩, ?_, ?_⟩))
  · rintro k d Γ2 hk ⟨ts, rfl, hts⟩
    have hkn : k < n := by
      have := (List.getElem?_eq_some_iff.mp hk).1
      rwa [rngD_len] at this
    have hd : d = .int (k : Int) := by
      unfold rngD at hk
      rw [List.getElem?_map, List.getElem?_range hkn] at hk
      simp only [Option.map_some, Option.some.injEq] at hk
      rw [← hk]
      simp
    subst hd
    refine wg_name (fun z => nomatch z) ?_
    cases ts with
    | nil => simp at hts
    | cons t0 ts =>
      have hts' : ts.length = m := by simpa using hts
      exact ws_mono (h k ts (by omega) (by omega) hts') (fun _ z => z) (fun _ _ z => z) (fun _ z => z.elim) (fun _ z => z) (fun _ _ _ z => z)
  · rintro Γ2 ⟨ts, rfl, hts⟩
    exact ws_ret (we_d (d := .bl true) ev_bl rfl)
theorem ws_box {k : Int} {t2 : Dt} {ts : List Dt} (hk : 0 ≤ k ∧ k ≤ 1000) (h : wpS K E [] u (.scr ns :: .im (.int k) :: .bx 0 :: ts) P) :
    wpS K E [] (tSeq (tAsg (tCl spX [] E' (tCons (tCl (spC K) [] E2 (tCons (tVar 0) (tCons (tVar 1) tNil))) tNil)) (gName 2)) u) (.scr ns :: .im (.int k) :: t2 :: ts) P :=
  ws_seq (ws_asg (fun z => nomatch z) (we_bx (wd_cell (ns := ns) (kk := k) rfl (ev_var rfl) hk fun z => ⟨z, rfl, h⟩)))
/-- a word between two statements -/
theorem ws_cut (M : List Dt → Prop) (h : wpS K E pn t Γ { P with nx := M }) (h2 : ∀ Γ', M Γ' → wpS K E pn u Γ' P) : wpS K E pn (tSeq t u) Γ P :=
  ws_seq (ws_mono h h2 (fun _ _ z => z) (fun _ z => z) (fun _ z => z) (fun _ _ _ z => z))
theorem len_cons {α : Type} {xs : List α} {n : Nat} (h : xs.length = n + 1) : ∃ x ys, xs = x :: ys ∧ ys.length = n := by
  cases xs with
  | nil => cases h
  | cons x ys => exact ⟨x, ys, rfl, Nat.succ.inj h⟩
end
end Z

namespace Z
open PySem PySem.Spec PyProof.Rows L2

/-! ## enumerate, zip -/
def enD (ds : List D) : List D := ds.zipIdx.map fun p => D.tup [.int (p.2 : Int), p.1]
def zpD (xs ys : List D) : List D := (xs.zip ys).map fun p => D.tup [p.1, p.2]
section
variable {K : PySem.W.Frag} {Γd : DE} {ta : TA} {ds es : List D}
theorem it_enum {F : Hp} {a : Addr} {vs : List V} (h : F a = some (.lst vs)) (r : RA K F vs ds) : ItD K F (Ite K a) (enD ds) := fun F2 H s1 s2 i => by
  have hs : SqL K H a vs := Or.inl (Or.inl (s2 _ _ (s1 _ _ h)))
  have hl : (enD ds).length = vs.length := by unfold enD; rw [List.length_map, List.length_zipIdx, r.len]
  rw [hl]
  refine ⟨fun hi => ⟨vs, vs[i], hs, List.getElem?_eq_getElem hi⟩, fun hi => ⟨vs, hs, hi⟩, fun x H' d hy hd => ?_⟩
  obtain ⟨T, y, rfl, hT, rfl, f⟩ := hy
  unfold enD at hd
  rw [List.getElem?_map, List.getElem?_zipIdx] at hd
  cases e : ds[i]? with
  | none => rw [e] at hd; cases hd
  | some d0 =>
    rw [e] at hd
    simp only [Option.map_some, Nat.zero_add, Option.some.injEq] at hd
    subst hd
    obtain ⟨v, hv, rv⟩ := r.get i d0 e
    rw [f _ hs] at hv
    cases hv
    have g : Gr F2 H (upd F2 T (.tup [.int (i : Nat), y])) (upd H T (.tup [.int (i : Nat), y])) := (Gr.refl s2).new hT
    exact ⟨_, g, .tup (Or.inl (Or.inl upd_same)) (.cons (.int _) (.cons ((rv.mono s1).mono g.f) .nil))⟩
theorem ei_enum (h : EvA K ta Γd [.lst ds]) : EvI K (iEnum K ta) Γd (enD ds) := fun F H σ e s Rr k => h F H σ e s _ fun vs F' H' g r => by
  obtain ⟨v, rfl, r1⟩ := r.one
  cases r1 with
  | lst h1 r1 => exact ⟨_, _, rfl, Or.inl (Or.inl (g.s _ _ h1)), k _ F' H' g (it_enum h1 r1)⟩
theorem it_zip {F : Hp} {a b : Addr} {vs ws : List V} (h : F a = some (.lst vs)) (h2 : F b = some (.lst ws)) (r : RA K F vs ds) (r2 : RA K F ws es) : ItD K F (Itz K a b) (zpD ds es) := fun F2 H s1 s2 i => by
  have hs : SqL K H a vs := Or.inl (Or.inl (s2 _ _ (s1 _ _ h)))
  have hs2 : SqL K H b ws := Or.inl (Or.inl (s2 _ _ (s1 _ _ h2)))
  have hl : (zpD ds es).length = min vs.length ws.length := by unfold zpD; rw [List.length_map, List.length_zip, r.len, r2.len]
  rw [hl]
  refine ⟨fun hi => ?_, fun hi => ⟨vs, ws, hs, hs2, by omega⟩, fun x H' d hy hd => ?_⟩
  · have hi1 : i < vs.length := by omega
    have hi2 : i < ws.length := by omega
    exact ⟨vs, ws, vs[i], ws[i], hs, hs2, List.getElem?_eq_getElem hi1, List.getElem?_eq_getElem hi2⟩
  obtain ⟨T, y, z, rfl, hT, rfl, f, f2⟩ := hy
  unfold zpD at hd
  rw [List.getElem?_map] at hd
  cases e : (ds.zip es)[i]? with
  | none => rw [e] at hd; cases hd
  | some p =>
    rw [e] at hd
    cases hd
    have ee := List.getElem?_zip_eq_some.mp e
    obtain ⟨v, hv, rv⟩ := r.get i p.1 ee.1
    obtain ⟨v2, hv2, rv2⟩ := r2.get i p.2 ee.2
    rw [f _ hs] at hv
    rw [f2 _ hs2] at hv2
    cases hv
    cases hv2
    have g : Gr F2 H (upd F2 T (.tup [y, z])) (upd H T (.tup [y, z])) := (Gr.refl s2).new hT
    exact ⟨_, g, .tup (Or.inl (Or.inl upd_same)) (.cons ((rv.mono s1).mono g.f) (.cons ((rv2.mono s1).mono g.f) .nil))⟩
theorem ei_zip (h : EvA K ta Γd [.lst ds, .lst es]) : EvI K (iZip K ta) Γd (zpD ds es) := fun F H σ e s Rr k => h F H σ e s _ fun vs F' H' g r => by
  cases r with
  | cons r1 r2 =>
    obtain ⟨v, rfl, r3⟩ := r2.one
    cases r1 with
    | lst h1 r1 =>
      cases r3 with
      | lst h2 r2 => exact ⟨_, _, _, _, rfl, Or.inl (Or.inl (g.s _ _ h1)), Or.inl (Or.inl (g.s _ _ h2)), k _ F' H' g (it_zip h1 h2 r1 r2)⟩
end

/-! ## max, min of a list -/
def mx : List Int → Int
  | [] => 0
  | n :: ns => ns.foldl max n
def mxD (m : Int) : List Int → Int
  | [] => m
  | n :: ns => ns.foldl max n
theorem foldl_max (n : Int) : ∀ ns : List Int, (ns.foldl max n = n ∨ ns.foldl max n ∈ ns) ∧ n ≤ ns.foldl max n ∧ ∀ y ∈ ns, y ≤ ns.foldl max n := by
  intro ns
  induction ns generalizing n with
  | nil => exact ⟨Or.inl rfl, Int.le_refl _, fun y z => nomatch z⟩
  | cons m ns ih =>
    obtain ⟨a, b, c⟩ := ih (max n m)
    rw [List.foldl_cons]
    refine ⟨?_, by omega, fun y hy => ?_⟩
    · rcases a with a | a
      · rw [a]
        rcases Int.le_total n m with z | z
        · rw [Int.max_eq_right z]; exact Or.inr List.mem_cons_self
        · rw [Int.max_eq_left z]; exact Or.inl rfl
      · exact Or.inr (List.mem_cons_of_mem _ a)
    · rcases List.mem_cons.mp hy with rfl | hy
      · omega
      · exact c y hy
theorem mx_mem {ns : List Int} (h : ns ≠ []) : mx ns ∈ ns := by
  cases ns with
  | nil => exact absurd rfl h
  | cons n ns =>
    rcases (foldl_max n ns).1 with a | a
    · show ns.foldl max n ∈ _
      rw [a]; exact List.mem_cons_self
    · exact List.mem_cons_of_mem _ a
theorem mx_le {ns : List Int} : ∀ y ∈ ns, y ≤ mx ns := by
  cases ns with
  | nil => exact fun y z => nomatch z
  | cons n ns =>
    intro y hy
    rcases List.mem_cons.mp hy with rfl | hy
    · exact (foldl_max y ns).2.1
    · exact (foldl_max n ns).2.2 y hy
theorem mx_is {ns : List Int} {m : Int} (h : m ∈ ns) (h2 : ∀ y ∈ ns, y ≤ m) : m = mx ns := by
  have a := mx_le m h
  have b := h2 _ (mx_mem (List.ne_nil_of_mem h))
  omega
def rMaxDf (K : PySem.W.Frag) : List V → List V → Hp → VK → Prop := fun xs zs H Q => ∃ (a : Addr) (ns : List Int) (m : Int), xs = [.ref a] ∧ zs = [.int m] ∧ SqL K H a (ns.map V.int) ∧ Q (.int (mxD m ns)) H
theorem dpAll_ints {K : PySem.W.Frag} {H : Hp} : ∀ ns : List Int, DpAll K H (ns.map V.int) (ns.map PyData.int)
  | [] => .nil
  | n :: ns => .cons (.int n) (dpAll_ints ns)
theorem alike_ints (ns : List Int) : PySem.W.AlikeAll (ns.map PyData.int) := by
  refine ⟨fun x hx y hy => ?_, fun x hx => ?_⟩
  · obtain ⟨n, _, rfl⟩ := List.mem_map.mp hx
    obtain ⟨m, _, rfl⟩ := List.mem_map.mp hy
    rfl
  · obtain ⟨n, _, rfl⟩ := List.mem_map.mp hx
    exact fun z => nomatch z
theorem cr_maxDf {X : Cx} (hc : X.calm = true) (hu : X.A.units + 70 < cLine) : CallRK X (.builtin "max") [Str.ofString "default"] (rMaxDf X.K) := by
  intro pins s σ H xs zs us ws Q I r rz h
  obtain ⟨a, ns, m, rfl, rfl, hs, q⟩ := h
  obtain ⟨its, rv, hl, _⟩ := I.list hs
  obtain rfl := Vals.ref1 r
  obtain ⟨w1, rfl, t, rfl⟩ := vals1 rz
  obtain ⟨as, ra⟩ := Dp.readsAll I (ns.map PyData.int) (ns.map V.int) its (dpAll_ints ns) rv
  have dz := depth_ints ns
  refine PySem.W.max_list_default (I.ok.hd hc) hl.isList (by simpa using ra) (alike_ints ns) (by omega) (fun z h' tk hk => ?_) (fun y ys i v h' tk bs e hv rd hk => ?_)
  · cases ns with
    | nil => exact ⟨.int m, H, I.kept hk, ⟨t, rfl⟩, q⟩
    | cons n ns => cases z
  · cases ns with
    | nil => cases e
    | cons n ns =>
      rw [List.map_cons] at e
      injection e with e1 e2
      subst e1 e2
      rw [PySem.W.maxD_ints] at rd
      cases rd
      exact ⟨.int (ns.foldl max n), H, I.kept hk, ⟨_, rfl⟩, q⟩
section
variable {K : PySem.W.Frag} {Γd : DE} {ta tk : TA} {ds es : List D} {z : D} {ns : List Int} {m : Int}
def RkD (K : PySem.W.Frag) (rk : List V → List V → Hp → VK → Prop) (ds es : List D) (d : D) : Prop :=
  ∀ (F H : Hp) (vs zs : List V), Same F H → RA K F vs ds → RA K F zs es → ∀ Q : VK, (∀ v F' H', Gr F H F' H' → R K F' v d → Q v H') → rk vs zs H Q
theorem ev_ckw {rk : List V → List V → Hp → VK → Prop} (h : EvA K ta Γd ds) (h2 : EvA K tk Γd es) (hr : RkD K rk ds es z) : EvD K (tCKw rk ta tk) Γd z := fun F H σ e s Q q =>
  h F H σ e s _ fun vs F1 H1 g1 r1 => h2 F1 H1 σ (e.mono g1.f) g1.s _ fun zs F2 H2 g2 r2 => hr F2 H2 vs zs g2.s (r1.mono g2.f) r2 Q fun v F3 H3 g3 r3 => q v F3 H3 ((g1.trans g2).trans g3) r3
theorem rk_max : RkD K (rMaxDf K) [.lst (ns.map D.int)] [.int m] (.int (mxD m ns)) := fun F H vs zs s r rz Q q => by
  obtain ⟨v, rfl, r1⟩ := r.one
  obtain ⟨w, rfl, r2⟩ := rz.one
  cases r2
  cases r1 with
  | lst h1 h2 =>
    have e := h2.of_ints
    subst e
    exact ⟨_, ns, m, rfl, rfl, Or.inl (Or.inl (s _ _ h1)), q _ F H (.refl s) (.int _)⟩
theorem rc_maxl (h : ns ≠ []) : RcD K (rMax K) [.lst (ns.map D.int)] (.int (mx ns)) := fun F H vs s r Q q => by
  obtain ⟨v, rfl, r1⟩ := r.one
  cases r1 with
  | lst h1 h2 =>
    have e := h2.of_ints
    subst e
    exact ⟨_, ns, rfl, Or.inl (Or.inl (s _ _ h1)), List.length_pos_iff.mpr h, fun m hm hy => by rw [mx_is hm hy]; exact q _ F H (.refl s) (.int _)⟩
end
end Z

namespace Z
open PySem PySem.Spec PyProof.Rows L2

/-! ## counts -/
def pw2 (l : Int) : Int := 1 * 2 ^ l.toNat
def over (n l : Int) : Int := if n - pw2 l > 0 then n - pw2 l else 0
def bey (ns : List Int) (l : Int) : Int := (ns.map fun n => over n l).sum
/-- good counts -/
def Cts (ns : List Int) : Prop := ns.length ≤ 600 ∧ ∀ n ∈ ns, 1 ≤ n ∧ n ≤ 1000000000000000000000000000000
theorem pw2_pos (l : Int) : 0 < pw2 l := by
  unfold pw2
  rw [Int.one_mul]
  exact Int.pow_pos (by decide)
theorem over_nn (n l : Int) : 0 ≤ over n l := by unfold over; split <;> omega
theorem over_le (n l : Int) (h : 0 ≤ n) : over n l ≤ n := by have := pw2_pos l; unfold over; split <;> omega
theorem bey_nn : ∀ (ns : List Int) (l : Int), 0 ≤ bey ns l
  | [], l => by simp [bey]
  | n :: ns, l => by
    have a := bey_nn ns l
    have b := over_nn n l
    simp only [bey, List.map_cons, List.sum_cons] at a ⊢
    omega
theorem bey_le : ∀ (ns : List Int) (l b : Int), (∀ n ∈ ns, 1 ≤ n ∧ n ≤ b) → bey ns l ≤ ns.length * b
  | [], l, b, _ => by simp [bey]
  | n :: ns, l, b, h => by
    have a := bey_le ns l b fun m hm => h m (List.mem_cons_of_mem _ hm)
    have h0 := h n List.mem_cons_self
    have c := over_le n l (by omega)
    simp only [bey, List.map_cons, List.sum_cons, List.length_cons] at a ⊢
    have e : ((ns.length + 1 : Nat) : Int) * b = ns.length * b + b := by rw [Int.natCast_add, Int.add_mul]; simp
    rw [e]
    omega
theorem Cts.bey {ns : List Int} (h : Cts ns) (l : Int) : 0 ≤ Z.bey ns l ∧ Z.bey ns l ≤ 600000000000000000000000000000000 := by
  have a := bey_nn ns l
  have b := bey_le ns l _ h.2
  have c := h.1
  have d : (ns.length : Int) * 1000000000000000000000000000000 ≤ 600 * 1000000000000000000000000000000 := Int.mul_le_mul_of_nonneg_right (by omega) (by decide)
  omega
theorem bey_snoc (ns : List Int) (n l : Int) : bey (ns ++ [n]) l = bey ns l + over n l := by
  simp only [bey, List.map_append, List.map_cons, List.map_nil, List.sum_append, List.sum_cons, List.sum_nil]
  omega
theorem bey_take {ns : List Int} {k : Nat} {n : Int} (h : ns[k]? = some n) (l : Int) : bey (ns.take (k + 1)) l = bey (ns.take k) l + over n l := by
  rw [List.take_add_one, h]
  exact bey_snoc _ _ _
theorem pw2_succ (k : Nat) : pw2 (k + 1 : Nat) = pw2 (k : Nat) + pw2 (k : Nat) := by
  simp only [pw2, Int.toNat_natCast, Int.one_mul, Int.pow_succ]
  omega
theorem pw2_one : ∀ l : Nat, pw2 (l : Int) ≤ pw2 ((l + 1 : Nat) : Int) - 1 := fun l => by
  have a := pw2_pos (l : Int)
  rw [pw2_succ]
  omega
theorem over_down (n : Int) (l : Nat) : over n ((l + 1 : Nat) : Int) ≤ over n l := by
  have a := pw2_one l
  unfold over
  split <;> split <;> omega
theorem bey_down : ∀ (ns : List Int) (l : Nat), bey ns ((l + 1 : Nat) : Int) ≤ bey ns l
  | [], l => by simp [bey]
  | n :: ns, l => by
    have a := bey_down ns l
    have b := over_down n l
    simp only [bey, List.map_cons, List.sum_cons] at a ⊢
    omega
theorem bey_less : ∀ (ns : List Int) (l : Nat), 0 < bey ns l → bey ns ((l + 1 : Nat) : Int) + 1 ≤ bey ns l
  | [], l, h => by simp [bey] at h
  | n :: ns, l, h => by
    have a := bey_down ns l
    have b := over_down n l
    have e0 := over_nn n l
    have f0 := bey_nn ns l
    by_cases z : 0 < over n l
    · have c : over n ((l + 1 : Nat) : Int) + 1 ≤ over n l := by
        have a := pw2_one l
        unfold over at z ⊢
        split <;> split <;> (try split at z) <;> omega
      simp only [bey, List.map_cons, List.sum_cons] at a ⊢
      omega
    · have g : 0 < bey ns l := by
        simp only [bey, List.map_cons, List.sum_cons] at h ⊢
        omega
      have c := bey_less ns l g
      simp only [bey, List.map_cons, List.sum_cons] at c ⊢
      omega
theorem bey_anti (ns : List Int) (l k : Nat) : bey ns ((l + k : Nat) : Int) ≤ bey ns l := by
  induction k with
  | zero => exact Int.le_refl _
  | succ k ih => exact Int.le_trans (bey_down ns (l + k)) ih
theorem pw2_100 : pw2 100 = 1267650600228229401496703205376 := by unfold pw2; rfl
theorem bey_100 : ∀ (ns : List Int), (∀ n ∈ ns, 1 ≤ n ∧ n ≤ 1000000000000000000000000000000) → bey ns 100 = 0
  | [], _ => rfl
  | n :: ns, h => by
    have a := bey_100 ns fun m hm => h m (List.mem_cons_of_mem _ hm)
    have b := h n List.mem_cons_self
    have c : over n 100 = 0 := by
      unfold over
      rw [pw2_100, if_neg (by omega)]
    simp only [bey, List.map_cons, List.sum_cons] at a ⊢
    omega
def Rng (ns : List Int) : Prop := ∀ n ∈ ns, 1 ≤ n ∧ n ≤ 1000000000000000000000000000000
/-- the first level at which nothing is above -/
def Top (ns : List Int) (t : Nat) : Prop := (∀ l : Nat, l < t → 0 < bey ns l) ∧ bey ns t = 0 ∧ t ≤ 100
theorem top_ex (ns : List Int) : ∀ m : Nat, m ≤ 100 → bey ns (m : Int) = 0 → ∃ t, Top ns t
  | 0, _, h => ⟨0, fun _ z => absurd z (Nat.not_lt_zero _), h, by decide⟩
  | m + 1, hm, h => by
    by_cases z : bey ns (m : Int) = 0
    · exact top_ex ns m (by omega) z
    · refine ⟨m + 1, fun l hl => ?_, h, hm⟩
      have a := bey_nn ns (m : Int)
      obtain ⟨k, rfl⟩ : ∃ k, m = l + k := ⟨m - l, by omega⟩
      have b := bey_anti ns l k
      omega
open Classical in
noncomputable def top (ns : List Int) : Nat := if h : ∃ t, Top ns t then h.choose else 0
theorem Cts.top {ns : List Int} (h : Cts ns) : Top ns (Z.top ns) := by
  have e : ∃ t, Top ns t := top_ex ns 100 (by decide) (bey_100 ns h.2)
  unfold Z.top
  rw [dif_pos e]
  exact e.choose_spec
theorem top_is {ns : List Int} {k t : Nat} (h : Top ns t) (hk : k ≤ t) : (bey ns (k : Int) = 0 ↔ k = t) ∧ (0 < bey ns (k : Int) ↔ k < t) := by
  by_cases e : k = t
  · subst e
    have := h.2.1
    constructor <;> constructor <;> omega
  · have a := h.1 k (by omega)
    constructor <;> constructor <;> omega
/-- what a level demands -/
def dem (ns : List Int) (s l : Int) : Int := l + (bey ns l + s - 1) / s
noncomputable def demL (ns : List Int) (s : Int) : List Int := (List.range (top ns)).map fun l : Nat => dem ns s (l : Int)
noncomputable def excL (ns : List Int) : List Int := (List.range (top ns)).map fun l : Nat => bey ns (l : Int)
noncomputable def few (ns : List Int) (s : Int) : Int := (demL ns s).foldl max 0
theorem top_uniq {ns : List Int} {t u : Nat} (h : Top ns t) (h2 : Top ns u) : t = u := by
  have a := h.2.1
  have b := h2.2.1
  rcases Nat.lt_trichotomy t u with z | z | z
  · have := h2.1 t z; omega
  · exact z
  · have := h.1 u z; omega
theorem few_is {ns : List Int} {s : Int} {t : Nat} (h : Top ns t) (hr : Rng ns) : few ns s = ((List.range t).map fun l : Nat => dem ns s (l : Int)).foldl max 0 := by
  have e : ∃ t, Top ns t := ⟨t, h⟩
  have : top ns = t := by
    unfold top
    rw [dif_pos e]
    exact top_uniq e.choose_spec h
  unfold few demL
  rw [this]
theorem mxD_few : ∀ {ns : List Int}, (∀ y ∈ ns, 0 ≤ y) → mxD 0 ns = ns.foldl max 0
  | [], _ => rfl
  | n :: ns, h => by
    have := h n List.mem_cons_self
    show ns.foldl max n = (n :: ns).foldl max 0
    rw [List.foldl_cons, Int.max_eq_right this]
theorem ceil_pos {a s : Int} (ha : 0 < a) (hs : 0 < s) : 1 ≤ (a + s - 1) / s ∧ (a + s - 1) / s ≤ a := by
  constructor
  · exact (Int.le_ediv_iff_mul_le hs).mpr (by omega)
  · refine Int.le_of_lt_add_one ((Int.ediv_lt_iff_lt_mul hs).mpr ?_)
    have : a * 1 ≤ a * s := Int.mul_le_mul_of_nonneg_left (by omega) (by omega)
    rw [Int.add_mul]
    omega
theorem demL_mem {ns : List Int} {s y : Int} (h : y ∈ demL ns s) : ∃ l : Nat, l < top ns ∧ y = dem ns s l := by
  unfold demL at h
  obtain ⟨l, hl, rfl⟩ := List.mem_map.mp h
  exact ⟨l, List.mem_range.mp hl, rfl⟩
theorem demL_pos {ns : List Int} {s y : Int} (hc : Cts ns) (hs : 0 < s) (h : y ∈ demL ns s) : 1 ≤ y ∧ y ≤ 600000000000000000000000000000100 := by
  obtain ⟨l, hl, rfl⟩ := demL_mem h
  have a := hc.top.1 l hl
  have b := ceil_pos a hs
  have c := (hc.bey (l : Int)).2
  have d := hc.top.2.2
  unfold dem
  omega
theorem few_bd {ns : List Int} {s : Int} (hc : Cts ns) (hs : 0 < s) : 0 ≤ few ns s ∧ few ns s ≤ 600000000000000000000000000000100 := by
  unfold few
  have h := foldl_max 0 (demL ns s)
  refine ⟨h.2.1, ?_⟩
  rcases h.1 with e | e
  · rw [e]; decide
  · exact (demL_pos hc hs e).2
/-- at most so many -/
theorem few_le {ns : List Int} {s m : Int} (h0 : 0 ≤ m) (h : ∀ l : Nat, l < top ns → dem ns s l ≤ m) : few ns s ≤ m := by
  unfold few
  rcases (foldl_max 0 (demL ns s)).1 with e | e
  · rw [e]; exact h0
  · obtain ⟨l, hl, e2⟩ := demL_mem e
    rw [e2]; exact h l hl
theorem le_few {ns : List Int} {s : Int} {l : Nat} (h : l < top ns) : dem ns s l ≤ few ns s := by
  unfold few
  exact (foldl_max 0 (demL ns s)).2.2 _ (List.mem_map.mpr ⟨l, List.mem_range.mpr h, rfl⟩)
theorem foldl_max_take {xs : List Int} {k : Nat} {x : Int} (h : xs[k]? = some x) : (xs.take (k + 1)).foldl max 0 = max ((xs.take k).foldl max 0) x := by
  rw [List.take_add_one, h, List.foldl_append]
  rfl
theorem demL_get {ns : List Int} {s : Int} {k : Nat} (h : k < top ns) : (demL ns s)[k]? = some (dem ns s k) := by
  unfold demL
  rw [List.getElem?_map, List.getElem?_range h]
  rfl
theorem excL_get {ns : List Int} {k : Nat} (h : k < top ns) : (excL ns)[k]? = some (bey ns k) := by
  unfold excL
  rw [List.getElem?_map, List.getElem?_range h]
  rfl
theorem demL_len (ns : List Int) (s : Int) : (demL ns s).length = top ns := by unfold demL; rw [List.length_map, List.length_range]
theorem excL_len (ns : List Int) : (excL ns).length = top ns := by unfold excL; rw [List.length_map, List.length_range]
/-- the levels that demand the most -/
def tigB (ns : List Int) (s m : Int) (l : Nat) : Bool := decide (dem ns s (l : Int) = m)
noncomputable def tigL (ns : List Int) (s : Int) : List Int := ((List.range (top ns)).filter (tigB ns s (mx (demL ns s)))).map fun l : Nat => (l : Int)
theorem top_is0 {ns : List Int} {t : Nat} (h : Top ns t) : top ns = t := by
  have e : ∃ t, Top ns t := ⟨t, h⟩
  unfold top
  rw [dif_pos e]
  exact top_uniq e.choose_spec h
theorem tigL_is {ns : List Int} {s : Int} {t : Nat} (h : Top ns t) : tigL ns s = ((List.range t).filter (tigB ns s (mx ((List.range t).map fun l : Nat => dem ns s (l : Int))))).map fun l : Nat => (l : Int) := by
  unfold tigL demL
  rw [top_is0 h]
theorem tigL_len {ns : List Int} {s : Int} (h : Cts ns) : (tigL ns s).length ≤ 100 := by
  have := h.top.2.2
  unfold tigL
  rw [List.length_map]
  refine Nat.le_trans (List.length_filter_le _ _) ?_
  rw [List.length_range]
  exact this
theorem tigL_mem {ns : List Int} {s y : Int} (hc : Cts ns) (h : y ∈ tigL ns s) : 0 ≤ y ∧ y ≤ 100 := by
  have := hc.top.2.2
  unfold tigL at h
  obtain ⟨l, hl, rfl⟩ := List.mem_map.mp h
  have := List.mem_range.mp (List.mem_filter.mp hl).1
  omega
theorem demL_enD (ns : List Int) (s : Int) : enD ((demL ns s).map D.int) = (List.range (top ns)).map fun l : Nat => D.tup [.int (l : Int), .int (dem ns s (l : Int))] := by
  unfold enD demL
  rw [List.map_map]
  apply List.ext_getElem?
  intro i
  rw [List.getElem?_map, List.getElem?_zipIdx, List.getElem?_map, List.getElem?_map]
  by_cases hi : i < top ns
  · rw [List.getElem?_range hi]
    simp
  · rw [List.getElem?_eq_none (by simp; omega)]
    rfl
theorem demL_ne {ns : List Int} {s : Int} {l : Nat} (h : l < top ns) : demL ns s ≠ [] := by
  intro e
  have := demL_len ns s
  rw [e] at this
  simp at this
  omega
/-- by stacks of one: what there is to cut -/
theorem bey_0 : ∀ (ns : List Int), (∀ n ∈ ns, 1 ≤ n) → bey ns 0 = ns.sum - ns.length
  | [], _ => rfl
  | n :: ns, h => by
    have a := bey_0 ns fun m hm => h m (List.mem_cons_of_mem _ hm)
    have b := h n List.mem_cons_self
    have c : over n 0 = n - 1 := by
      have e : pw2 0 = 1 := rfl
      unfold over
      rw [e]
      split <;> omega
    simp only [bey, List.map_cons, List.sum_cons, List.length_cons] at a ⊢
    omega
theorem few_one {ns : List Int} (h : Cts ns) : few ns 1 = ns.sum - ns.length := by
  rw [← bey_0 ns fun n hn => (h.2 n hn).1]
  have T := h.top
  have st : ∀ l : Nat, l ≤ top ns → (l : Int) + bey ns l ≤ bey ns 0 := by
    intro l
    induction l with
    | zero => intro _; show ((0 : Nat) : Int) + bey ns ((0 : Nat) : Int) ≤ _; simp
    | succ l ih =>
      intro hl
      have a := ih (by omega)
      have b := bey_less ns l (T.1 l (by omega))
      omega
  have de : ∀ l : Nat, dem ns 1 l = l + bey ns l := fun l => by
    unfold dem
    rw [Int.ediv_one]
    omega
  have n0 := bey_nn ns 0
  refine Int.le_antisymm (few_le n0 fun l hl => by rw [de]; exact st l (by omega)) ?_
  by_cases z : 0 < top ns
  · have := le_few (s := 1) z
    rw [de] at this
    simpa using this
  · have e : top ns = 0 := by omega
    have t := T.2.1
    rw [e] at t
    have t' : bey ns 0 = 0 := t
    have := (few_bd h (s := 1) (by decide)).1
    omega
/-! ### great ones -/
/-- a list or a tuple of them -/
def Sq (x : D) (ns : List Int) : Prop := x = .lst (ns.map D.int) ∨ x = .tup (ns.map D.int)
theorem sq_l {cs : List Int} : Sq (.lst (cs.map D.int)) cs := Or.inl rfl
theorem sq_t {cs : List Int} : Sq (.tup (cs.map D.int)) cs := Or.inr rfl
theorem take_snoc {xs : List Int} {k : Nat} {x : Int} (h : xs[k]? = some x) : (xs.take (k + 1)).map D.int = (xs.take k).map D.int ++ [.int x] := by
  rw [List.take_add_one, h, List.map_append]
  rfl
theorem Cts.great {ns : List Int} (h : Rng ns) (hl : ns.length ≤ 600) : Cts ns := ⟨hl, h⟩
theorem flat_ints (n : Nat) (ns : List Int) : (List.replicate n (ns.map D.int)).flatten = (List.replicate n ns).flatten.map D.int := by
  induction n with
  | zero => rfl
  | succ n ih => simp only [List.replicate_succ, List.flatten_cons, List.map_append, ih]
theorem flat_rng {n : Nat} {ns : List Int} (h : Rng ns) : Rng (List.replicate n ns).flatten := by
  intro x hx
  obtain ⟨l, hl, hx⟩ := List.mem_flatten.mp hx
  rw [(List.mem_replicate.mp hl).2] at hx
  exact h x hx
theorem flat_len (n : Nat) (ns : List Int) : (List.replicate n ns).flatten.length = n * ns.length := by simp
theorem rng_snoc {ns : List Int} {x : Int} (h : Rng ns) (h1 : 1 ≤ x ∧ x ≤ 1000000000000000000000000000000) : Rng (ns ++ [x]) := by
  intro y hy
  rcases List.mem_append.mp hy with hy | hy
  · exact h y hy
  · cases List.mem_singleton.mp hy; exact h1
theorem rng_app {ns ms : List Int} (h : Rng ns) (h1 : Rng ms) : Rng (ns ++ ms) := by
  intro y hy
  rcases List.mem_append.mp hy with hy | hy
  · exact h y hy
  · exact h1 y hy
/-- (xs + [x]) * (600 // (len(xs) + 1)) -/
theorem ev_great {K : PySem.W.Frag} {Γ : DE} {tc : TE} {cs : List Int} {x : Int} (h : EvD K tc Γ (.lst (cs.map D.int))) (hr : Rng cs) (hl : cs.length ≤ 500) (hx : 1 ≤ x ∧ x ≤ 1000000000000000000000000000000) :
    ∃ gs, Cts gs ∧ EvD K (tOp rMulU (tOp (rAddU K) tc (tLst (tCons (tC (V.int x)) tNil))) (tOp rDivI (tC (V.int 600)) (tOp (rAddU K) (tCB (rLenU K) (tCons tc tNil)) (tC (V.int 1))))) Γ (.lst (gs.map D.int)) := by
  have hq : 0 ≤ 600 / ((cs.length : Int) + 1) ∧ 600 / ((cs.length : Int) + 1) ≤ 600 := by
    refine ⟨Int.ediv_nonneg (by decide) (by omega), Int.ediv_le_self _ (by decide)⟩
  have hm : ((cs.length : Int) + 1) * (600 / ((cs.length : Int) + 1)) ≤ 600 := Int.mul_ediv_self_le (by omega)
  have hd : CDivW 600 ((cs.length : Int) + 1) := wide_div (b := 10) (by omega) (by omega) (by decide) (by decide)
  generalize hqq : 600 / ((cs.length : Int) + 1) = q at hq hm
  obtain ⟨qn, rfl⟩ := Int.eq_ofNat_of_zero_le hq.1
  have hm' : (cs.length + 1) * qn ≤ 600 := by
    have : (((cs.length + 1) * qn : Nat) : Int) ≤ 600 := by rw [Int.natCast_mul, Int.natCast_add]; exact hm
    omega
  refine ⟨(List.replicate qn (cs ++ [x])).flatten, Cts.great (flat_rng (rng_snoc hr hx)) ?_, ?_⟩
  · rw [flat_len, List.length_append, Nat.mul_comm]; exact hm'
  · rw [← flat_ints]
    have e2 := rc_lenl (K := K) (ds := cs.map D.int)
    rw [List.length_map] at e2
    have e := evl_op (K := K) (Γ := Γ) (ta := tOp (rAddU K) tc (tLst (tCons (tC (V.int x)) tNil))) (tb := tOp rDivI (tC (V.int 600)) (tOp (rAddU K) (tCB (rLenU K) (tCons tc tNil)) (tC (V.int 1)))) (x := .lst (cs.map D.int ++ [.int x])) (y := .int (qn : Int)) (r := rMulU)
      (ev_of_l (evl_op h (ev_of_l (evl_lst (ea_cons ev_int ea_nil) (by show 1 ≤ 1000000; decide))) (rvl_cat (by simp; omega))))
      (by rw [← hqq]; exact ev_op ev_int (ev_op (ev_cb (ea_cons h ea_nil) e2) ev_int rv_add) (rv_fdiv hd)) (rvl_rep ⟨by omega, by omega⟩ (by simp; omega))
    rw [Int.toNat_natCast] at e
    rw [List.map_append]
    exact ev_of_l e
end Z

namespace Z
open PySem PySem.Spec PyProof.Rows L2

/-! ## the rules, their part of the heap told -/
section
variable {X : Cx} {K : PySem.W.Frag}
theorem oK {op : Value → Value → Sem Value} (r : PySem.W.Frag → R2) (h : X.K = K) (o : OpR X op (r X.K)) : OpR X op (r K) := h ▸ o
theorem cK {f : Value} (r : PySem.W.Frag → List V → Hp → VK → Prop) (h : X.K = K) (o : CallR X f (r X.K)) : CallR X f (r K) := h ▸ o
theorem ckK {f : Value} {ks : List Str} (r : PySem.W.Frag → List V → List V → Hp → VK → Prop) (h : X.K = K) (o : CallRK X f ks (r X.K)) : CallRK X f ks (r K) := h ▸ o
theorem ixK (h : X.K = K) : IxR X (rIx K) := h ▸ ix_seq
theorem slK (h : X.K = K) : L2.SlR X (rSlU K) := h ▸ sl_u
theorem pi_seqK {tg l : Expr} {tl : TE} (h : X.K = K) (hl : PE X l tl) : PI X tg l (iSeq K tl) := h ▸ pi_seq hl
theorem pi_enumK {e : Expr} {ta : TA} {p pos tpos : Pos} {elts : List Expr} {kk : Nat} (h : X.K = K) (hg : Gl X "enumerate") (hm : X.mg "enumerate" = none) (ha : PA X [e] ta) (hs : starEach [e] X.env = [(false, eval e X.env)] := by rfl) :
    PI X (.Tuple elts kk tpos) (.Call (.Name "enumerate" p) [e] [] pos) (iEnum K ta) := h ▸ pi_enum hg hm ha hs
theorem pi_zipK {e e2 : Expr} {ta : TA} {p pos tpos : Pos} {elts : List Expr} {kk : Nat} (h : X.K = K) (hg : Gl X "zip") (hm : X.mg "zip" = none) (ha : PA X [e, e2] ta)
    (hs : starEach [e, e2] X.env = (false, eval e X.env) :: starEach [e2] X.env := by rfl) (hpl : (backTo pos (starEach [e2] X.env)).any (·.1) = false := by rfl) :
    PI X (.Tuple elts kk tpos) (.Call (.Name "zip" p) [e, e2] [] pos) (iZip K ta) := h ▸ pi_zip hg hm ha hs hpl
theorem pg_tupK {es : List Expr} {k : Nat} {t : TGs} {n : Nat} {pos : Pos} (h : X.K = K) (hc : X.calm = true) (hs : PGs X es t)
    (hn : (assignEach es X.env).length = n := by rfl) (hst : (assignEach es X.env).findIdx? (·.1) = none := by rfl) : PG X (.Tuple es k pos) (gTup K n t) := h ▸ pg_tup hc hs hn hst
end
/-! ## a slot's own list becomes data -/
section
variable {K : PySem.W.Frag} {E : EK} {pn : List Nat} {t : TS} {Γ : List Dt} {P : Po} {i : Nat} {ds : List D}
theorem EnvR.letgo {B : Bs} {F H : Hp} {σ : L2.St} (e : EnvR K B F H σ Γ) (h : Γ[i]? = some (.own ds)) (hi : i ∉ pn) (hp : ∀ q ∈ B.pins, q.1 ∈ pn) :
    ∃ v, σ[i]? = some (some v) ∧ EnvR K B F H σ (Γ.set i .un) ∧ TR K B F H σ (Γ.set i .un) v (.own ds) := by
  obtain ⟨p, vs, a, f, hh, rr⟩ := e.slot i _ h
  have hl : i < Γ.length := (List.getElem?_eq_some_iff.mp h).1
  have old : ∀ (k : Nat) (s : Dt), (Γ.set i .un)[k]? = some s → mu s = true → i ≠ k ∧ Γ[k]? = some s := fun k s hk m => by
    by_cases z : i = k
    · subst z
      rw [List.getElem?_set_self hl] at hk
      cases hk
      cases m
    · rw [List.getElem?_set_ne z] at hk
      exact ⟨z, hk⟩
  have nopin : ∀ z ∈ B.pins, z.1 ≠ i := fun z hz y => hi (y ▸ hp z hz)
  have e2 : EnvR K B F H σ (Γ.set i .un) := by
    refine ⟨by rw [List.length_set]; exact e.len, fun k s hk => ?_, fun k l s1 s2 q1 h1 h2 m1 m2 h3 h4 => ?_, fun z hz => ?_, fun k s q1 h1 m h2 => ?_, e.fr, e.f0, e.keep, e.there, e.new⟩
    · by_cases z : i = k
      · subst z
        rw [List.getElem?_set_self hl] at hk
        cases hk
        trivial
      · rw [List.getElem?_set_ne z] at hk
        exact e.slot k s hk
    · exact e.dist k l s1 s2 q1 (old k s1 h1 m1).2 (old l s2 h2 m2).2 m1 m2 h3 h4
    · obtain ⟨y, t', y2, y3⟩ := e.pin z hz
      exact ⟨y, t', by rw [List.getElem?_set_ne (Ne.symm (nopin z hz))]; exact y2, y3⟩
    · exact e.mine k s q1 (old k s h1 m).2 m h2
  refine ⟨_, a, e2, p, vs, rfl, f, ?_, hh, rr, fun k s hk m z => (old k s hk m).1 (e.dist i k _ s p h (old k s hk m).2 rfl m a z)⟩
  rcases e.mine i _ p h rfl a with z | z
  · obtain ⟨y, hy, rfl⟩ := List.mem_map.mp z
    obtain ⟨y1, t', y2, y3⟩ := e.pin y hy
    exact absurd (e.dist y.1 i t' _ y.2 y2 h y3 rfl y1 a) (nopin y hy)
  · exact z
theorem ws_frz (i : Nat) (h : Γ[i]? = some (.own ds)) (hi : i ∉ pn) (q : wpS K E pn t (Γ.set i (.im (.lst ds))) P) : wpS K E pn t Γ P := fun B F H σ Dn hp e x n b c r => by
  obtain ⟨v, hv, e2, tr⟩ := e.letgo h hi hp
  obtain ⟨F2, s2, e3, r3⟩ := e2.freeze tr
  have e4 := e3.setI hp hi r3
  have es : σ.set i (some v) = σ := by
    apply List.ext_getElem?
    intro j
    by_cases z : i = j
    · subst z
      rw [List.getElem?_set_self (List.getElem?_eq_some_iff.mp hv).1, hv]
    · rw [List.getElem?_set_ne z]
  rw [es, List.set_set] at e4
  exact q B F2 H σ Dn hp e4 x (fun a1 a2 a3 a4 a5 a6 a7 => n a1 a2 a3 a4 a5 a6 (s2.trans a7)) (fun a1 a2 a3 a4 a5 a6 a7 => b a1 a2 a3 a4 a5 a6 (s2.trans a7)) (fun a1 a2 a3 a4 a5 a6 a7 => c a1 a2 a3 a4 a5 a6 (s2.trans a7)) r
end
end Z

namespace Z
open PySem PySem.Spec PyProof.Rows L2

/-! ## slices of lists -/
def cutD (xs : List D) (lo hi : Option Int) : List D := (xs.drop (HT.sIx xs.length 0 lo)).take (HT.sIx xs.length xs.length hi - HT.sIx xs.length 0 lo)
theorem cutD_hi (xs : List D) (k : Nat) : cutD xs none (some (k : Int)) = xs.take k := by
  unfold cutD
  rw [HT.sIx_nat, HT.sIx_none]
  show (xs.drop 0).take (min k xs.length - 0) = xs.take k
  rw [List.drop_zero, Nat.sub_zero]
  rcases Nat.le_total k xs.length with h | h
  · rw [Nat.min_eq_left h]
  · rw [Nat.min_eq_right h, List.take_of_length_le (Nat.le_refl _), List.take_of_length_le h]
theorem cutD_lo (xs : List D) (k : Nat) : cutD xs (some (k : Int)) none = xs.drop k := by
  unfold cutD
  rw [HT.sIx_nat, HT.sIx_none]
  rcases Nat.le_total k xs.length with h | h
  · rw [Nat.min_eq_left h]
    exact List.take_of_length_le (by rw [List.length_drop]; exact Nat.le_refl _)
  · rw [Nat.min_eq_right h, List.drop_of_length_le (Nat.le_refl _), List.drop_of_length_le h, List.take_nil]
section
variable {K : PySem.W.Frag} {Γ : DE} {te ta : TE} {tl th : TO} {ds : List D} {lo hi : Option Int}
def EvO (K : PySem.W.Frag) (t : TO) (Γ : DE) (o : Option Int) : Prop := ∀ (F H : Hp) (σ : L2.St), PSl K F σ Γ → Same F H → ∀ Q : Option Int → Hp → Prop, (∀ F' H', Gr F H F' H' → Q o H') → t σ H Q
theorem eo_none : EvO K tNoPart Γ none := fun F H σ e s Q q => q F H (.refl s)
theorem eo_some {i : Int} (h : EvD K ta Γ (.int i)) : EvO K (tPart ta) Γ (some i) := fun F H σ e s Q q => h F H σ e s _ fun v F' H' g r => by
  cases r
  exact ⟨i, rfl, q F' H' g⟩
theorem evl_sl (h : EvD K te Γ (.lst ds)) (hl : EvO K tl Γ lo) (hh : EvO K th Γ hi) : EvL K (tSl (rSlU K) te tl th) Γ (cutD ds lo hi) := fun F H σ e s Q q =>
  h F H σ e s _ fun v F1 H1 g1 r1 => by
    cases r1 with
    | lst h1 ra =>
      refine hl F1 H1 σ (e.mono g1.f) g1.s _ fun F2 H2 g2 => hh F2 H2 σ (e.mono (g1.f.trans g2.f)) g2.s _ fun F3 H3 g3 => ?_
      have g := (g1.trans g2).trans g3
      have hx := g3.s _ _ (g3.f _ _ (g2.f _ _ h1))
      refine Or.inl ⟨_, _, rfl, Or.inl (Or.inl hx), fun p hp => ?_⟩
      have rm := ra.mono (g2.f.trans g3.f)
      refine q p _ F3 _ (Gr.newH g hp) (g.h.free hp) (g3.s.free hp) upd_same ?_
      unfold cutV cutD
      rw [ra.len]
      exact (rm.drop _).take _
theorem evl_slHi {k : Nat} (h : EvD K te Γ (.lst ds)) (h2 : EvD K ta Γ (.int (k : Int))) : EvL K (tSl (rSlU K) te tNoPart (tPart ta)) Γ (ds.take k) := by
  have := evl_sl h (eo_none (K := K)) (eo_some h2)
  rwa [cutD_hi] at this
theorem evl_slLo {k : Nat} (h : EvD K te Γ (.lst ds)) (h2 : EvD K ta Γ (.int (k : Int))) : EvL K (tSl (rSlU K) te (tPart ta) tNoPart) Γ (ds.drop k) := by
  have := evl_sl h (eo_some h2) (eo_none (K := K))
  rwa [cutD_lo] at this
end
/-- x, y, z = a, b, c : data -/
theorem ws_par3 {K : PySem.W.Frag} {E : EK} {pn : List Nat} {Γ : List Dt} {P : Po} {i j l : Nat} {ta : TA} (hi : i ∉ pn) (hj : j ∉ pn) (hl : l ∉ pn)
    (h : wpA K E ta Γ (fun ds Γ1 => ∃ a b c, ds = [a, b, c] ∧ P.nx (((Γ1.set i (.im a)).set j (.im b)).set l (.im c))) P.xc) : wpS K E pn (tPar3 i j l ta) Γ P := fun B F H σ Dn hp e x n b c r =>
  h B F H σ e x _ fun vs ds Γ1 F1 H1 ⟨a, b', c', hd, q⟩ e1 s1 r1 => by
    subst hd
    cases r1 with
    | cons h1 r1 =>
    cases r1 with
    | cons h2 r1 =>
    cases r1 with
    | cons h3 r1 =>
    cases r1
    exact ⟨_, _, _, rfl, n _ F1 H1 _ q (((e1.setI hp hi h1).setI hp hj h2).setI hp hl h3) s1⟩
theorem evl_slLo1 {K : PySem.W.Frag} {Γ : DE} {te ta : TE} {ds : List D} {k : Nat} (h : EvD K te Γ (.lst ds)) (h2 : EvD K ta Γ (.int (k : Int))) : EvL K (tSl (rSlU K) te (tPart (tOp (rAddU K) ta (tC (V.int 1)))) tNoPart) Γ (ds.drop (k + 1)) :=
  evl_slLo h (ev_op h2 ev_int rv_add)
/-! ## lists of ints, told -/
theorem in_map {ns : List Int} : ns.map D.int = ns.map D.int := rfl
theorem in_nil : ([] : List D) = ([] : List Int).map D.int := rfl
theorem in_cons {n : Int} {ds : List D} {ns : List Int} (h : ds = ns.map D.int) : D.int n :: ds = (n :: ns).map D.int := by rw [h]; rfl
theorem in_app {ds es : List D} {ns ms : List Int} (h : ds = ns.map D.int) (h2 : es = ms.map D.int) : ds ++ es = (ns ++ ms).map D.int := by rw [h, h2, List.map_append]
theorem in_take {ds : List D} {ns : List Int} {k : Nat} (h : ds = ns.map D.int) : ds.take k = (ns.take k).map D.int := by rw [h, List.map_take]
theorem in_drop {ds : List D} {ns : List Int} {k : Nat} (h : ds = ns.map D.int) : ds.drop k = (ns.drop k).map D.int := by rw [h, List.map_drop]
theorem sq_of {ds : List D} {ns : List Int} (h : ds = ns.map D.int) : Sq (.lst ds) ns := by rw [h]; exact sq_l
theorem sq_oft {ds : List D} {ns : List Int} (h : ds = ns.map D.int) : Sq (.tup ds) ns := by rw [h]; exact sq_t
theorem eqv_nilD (ns : List Int) : PyData.eqv (toP (.lst (ns.map D.int))) (toP (.lst [])) = decide (ns = []) := by
  cases ns with
  | nil => simp [toP, toPs, PyData.eqv, PyData.eqvAll]
  | cons n ns => simp [toP, toPs, PyData.eqv, PyData.eqvAll]
theorem wd_slP {K : PySem.W.Frag} {E : EK} {Γ : List Dt} {d : D} {r : V → Option Int → Option Int → Hp → VK → Prop} {te : TE} {tl th : TO} {QD : D → List Dt → Prop} {xc : Value → List (Str × D) → List Dt → Prop} (h : EvD K (tSl r te tl th) (vi Γ) d) (q : QD d Γ) : wpD K E (tSl r te tl th) Γ QD xc := wd_d h q
theorem x_rvl {K : PySem.W.Frag} {PD : D → Prop} {r : R2} {x y : D} {ds : List D} (h : RvL K r x y ds) (q : PD (.lst ds)) : ∃ z, RvD K r x y z ∧ PD z := by
  refine ⟨.lst ds, fun F H a b s ra rb Q k => h F H a b s ra rb _ fun p vs F' H' g h1 h2 h3 h4 => ?_, q⟩
  exact k (.ref p) _ H' ⟨g.f.trans (same_new h2), g.h, fun a o z => by
    by_cases e : a = p
    · subst e; rw [upd_same] at z; rw [← z]; exact h3
    · rw [upd_ne e] at z; exact g.s a o z, fun a o z => by
    by_cases e : a = p
    · subst e; exact Or.inr h1
    · rw [upd_ne e] at z; exact g.n a o z⟩ (.lst upd_same (h4.mono (same_new h2)))
/-! ## is None -/
def nonD : D → Bool
  | .non => true
  | _ => false
section
variable {K : PySem.W.Frag} {d : D} {i j : Bool}
theorem R.isN {F : Hp} {v : V} (h : R K F v d) : decide (v = V.non) = nonD d := by
  cases h <;> simp [nonD]
theorem rv_isN : RvD K rIsNo d .non (.bl (nonD d)) := fun F H a b s ra rb Q q => by
  cases rb
  exact ⟨rfl, by rw [ra.isN]; exact q _ F H (.refl s) (.bl _)⟩
theorem rv_notN : RvD K rNotNo d .non (.bl (!nonD d)) := fun F H a b s ra rb Q q => by
  cases rb
  exact ⟨rfl, by rw [ra.isN]; exact q _ F H (.refl s) (.bl _)⟩
theorem rv_neB : RvD K (rNeU K) (.bl i) (.bl j) (.bl (!decide (i = j))) := fun F H a b s ra rb Q q => by
  cases ra
  cases rb
  refine Or.inl ⟨rfl, ?_⟩
  rw [show decide (V.bl i = V.bl j) = decide (i = j) from decide_eq_decide.mpr ⟨fun z => V.bl.inj z, fun z => by rw [z]⟩]
  exact q _ F H (.refl s) (.bl _)
end
end Z

namespace Z
open PySem PySem.Spec PyProof.Rows L2

/-! ## words of this text -/
local macro_rules | `(tactic| walk_at "zsc") => `(tactic| first
  | with_reducible assumption
  | exact Nat.le_of_ble_eq_true rfl
  | omega
  | (simp only [List.length_map, List.length_cons, List.length_nil, List.length_append, List.length_take, List.length_drop, rngD_len]; omega)
  | decide
  | exact okD_int _
  | exact okD_bl _
  | exact okD_non
  | exact okD_ints _
  | (refine cdiv_c ?_ ?_ <;> decide)
  | (split <;> omega)
  | (refine ⟨?_, ?_, ?_⟩ <;> first | omega | decide)
  | (refine ⟨?_, ?_⟩ <;> first | omega | decide))
local macro_rules | `(tactic| walk_at "zn") => `(tactic| dsimp only [List.set_cons_zero, List.set_cons_succ])
local macro_rules | `(tactic| walk_at "zin") => `(tactic| first
  | exact in_map
  | exact in_nil
  | ((with_reducible refine' in_app ?k1 ?k2); (case k1 => walk_at "zin"); (case k2 => walk_at "zin"))
  | ((with_reducible refine' in_take ?k1); (case k1 => walk_at "zin"))
  | ((with_reducible refine' in_drop ?k1); (case k1 => walk_at "zin"))
  | ((with_reducible refine' in_cons ?k1); (case k1 => walk_at "zin")))
local macro_rules | `(tactic| walk_at "zsq") => `(tactic| first | with_reducible assumption | exact sq_l | exact sq_t | ((with_reducible refine' sq_of ?k1); (case k1 => walk_at "zin")) | ((with_reducible refine' sq_oft ?k1); (case k1 => walk_at "zin")))
local macro_rules | `(tactic| walk_at "zok") => `(tactic| first
  | with_reducible assumption
  | exact okE_non
  | exact okE_bl
  | (refine okE_int ?_; first | omega | (constructor <;> omega))
  | (refine okE_ints ?_ ?_; first | with_reducible assumption | omega)
  | (exact okE_of (by simp [gI, gIs]) (by simp [wI, wIs]) (by simp [dI, dIs])))
local macro_rules | `(tactic| walk_at "zrv") => `(tactic| first
  | with_reducible exact rv_add
  | with_reducible exact rv_sub
  | with_reducible exact rv_lt
  | with_reducible exact rv_le
  | with_reducible exact rv_gt
  | with_reducible exact rv_ge
  | with_reducible exact rv_eqI
  | with_reducible exact rv_neI
  | with_reducible exact rv_eqT
  | with_reducible exact rv_neT
  | with_reducible exact rv_eqB
  | with_reducible exact rv_neB
  | with_reducible exact rv_isN
  | with_reducible exact rv_notN
  | ((with_reducible refine' rv_mul ?k1); (case k1 => walk_at "zsc"))
  | ((with_reducible refine' rv_fdiv ?k1); (case k1 => walk_at "zsc"))
  | ((with_reducible refine' rv_mod ?k1); (case k1 => walk_at "zsc"))
  | ((with_reducible refine' rv_pow ?k1); (case k1 => walk_at "zsc"))
  | ((with_reducible refine' rv_shl ?k1); (case k1 => walk_at "zsc"))
  | ((with_reducible refine' rv_addT ?k1); (case k1 => walk_at "zsc"))
  | with_reducible exact rv_ixb
  | with_reducible exact rv_ix0
  | ((with_reducible refine' rv_ixl ?k1); (case k1 => first | rfl | with_reducible assumption))
  | ((with_reducible refine' rv_ixt ?k1); (case k1 => first | rfl | with_reducible assumption))
  | ((with_reducible refine' rv_eqS ?k1); (case k1 => walk_at "zsc"))
  | ((with_reducible refine' rv_neS ?k1); (case k1 => walk_at "zsc"))
  | ((with_reducible refine' rv_eqD ?k1 ?k2); (case k1 => walk_at "zsc"); (case k2 => walk_at "zsc"))
  | ((with_reducible refine' rv_neD ?k1 ?k2); (case k1 => walk_at "zsc"); (case k2 => walk_at "zsc")))
local macro_rules | `(tactic| walk_at "zrvl") => `(tactic| first
  | ((with_reducible refine' rvl_cat ?k1); (case k1 => walk_at "zsc"))
  | ((with_reducible refine' rvl_rep ?k1 ?k2); (case k1 => walk_at "zsc"); (case k2 => walk_at "zsc")))
local macro_rules | `(tactic| walk_at "zrc") => `(tactic| first
  | with_reducible exact rc_max2
  | with_reducible exact rc_min2
  | with_reducible exact rc_sum
  | with_reducible exact rc_int
  | with_reducible exact rc_intb
  | with_reducible exact rc_lenl
  | with_reducible exact rc_lent
  | with_reducible exact rc_all
  | with_reducible exact rc_any
  | with_reducible exact rc_tup)
local macro_rules | `(tactic| walk_at "zev") => `(tactic| first
  | with_reducible exact ev_int
  | with_reducible exact ev_bl
  | with_reducible exact ev_str
  | with_reducible exact ev_non
  | ((with_reducible refine' ev_var ?k1); (case k1 => exact rfl))
  | with_reducible exact ea_nil
  | ((with_reducible refine' ea_cons ?k1 ?k2); (case k1 => walk_at "zev"); (case k2 => walk_at "zev"))
  | ((with_reducible refine' ev_op ?k1 ?k2 ?k3); (case k1 => walk_at "zev"); (case k2 => walk_at "zev"); (case k3 => walk_at "zrv"))
  | ((with_reducible refine' ev_of_l (evl_op ?k1 ?k2 ?k3)); (case k1 => walk_at "zev"); (case k2 => walk_at "zev"); (case k3 => walk_at "zrvl"))
  | ((with_reducible refine' ev_un ?k1 ?k2); (case k1 => walk_at "zev"); (case k2 => with_reducible exact ru_neg))
  | ((with_reducible refine' ev_chain ?k1 ?k2 ?k3 ?k4 ?k5); (case k1 => walk_at "zev"); (case k2 => walk_at "zev"); (case k3 => walk_at "zrv"); (case k4 => (intro _; walk_at "zev")); (case k5 => (intro _; walk_at "zrv")))
  | ((with_reducible refine' ev_andV ?k1 ?k2); (case k1 => walk_at "zev"); (case k2 => (intro hh; first | exact absurd hh (by decide) | walk_at "zev")))
  | ((with_reducible refine' ev_orV ?k1 ?k2); (case k1 => walk_at "zev"); (case k2 => (intro hh; first | exact absurd hh (by decide) | walk_at "zev")))
  | ((with_reducible refine' ev_notV ?k1); (case k1 => walk_at "zev"))
  | ((with_reducible refine' ev_isi ?k1 ?k2 ?k3); (case k1 => walk_at "zev"); (case k2 => first | rfl | with_reducible assumption); (case k3 => decide +kernel))
  | ((with_reducible refine' ev_isi2 ?k1 ?k2 ?k3 ?k4); (case k1 => walk_at "zev"); (case k2 => first | rfl | with_reducible assumption); (case k3 => decide +kernel); (case k4 => decide +kernel))
  | ((with_reducible refine' ev_cl0 ?k1 ?k2); (case k1 => walk_at "zev"); (case k2 => walk_at "zcall"))
  | ((with_reducible refine' ev_of_l (evl_cl0 ?k1 ?k2)); (case k1 => walk_at "zev"); (case k2 => walk_at "zcall"))
  | ((with_reducible refine' ev_cb ?k1 ?k2); (case k1 => walk_at "zev"); (case k2 => walk_at "zrc"))
  | ((with_reducible refine' ev_of_l (evl_cb ?k1 ?k2)); (case k1 => walk_at "zev"); (case k2 => first | with_reducible exact rcl_list | with_reducible exact rcl_listt))
  | ((with_reducible refine' ev_of_l (evl_lst ?k1 ?k2)); (case k1 => walk_at "zev"); (case k2 => walk_at "zsc"))
  | ((with_reducible refine' ev_of_l (evl_slHi ?k1 ?k2)); (case k1 => walk_at "zev"); (case k2 => walk_at "zev"))
  | ((with_reducible refine' ev_of_l (evl_slLo1 ?k1 ?k2)); (case k1 => walk_at "zev"); (case k2 => walk_at "zev"))
  | ((with_reducible refine' ev_tup ?k1 ?k2); (case k1 => walk_at "zev"); (case k2 => walk_at "zsc"))
  | ((with_reducible refine' ev_of_l (evl_map _ _ _ _ ?k1 ?k2 ?k3 ?k4)); (case k1 => walk_at "zei"); (case k2 => (intro _ _; walk_at "zeg")); (case k3 => (intro _ _; walk_at "zev")); (case k4 => walk_at "zsc"))
  | ((with_reducible refine' et_test ?k1); (case k1 => walk_at "zev"))
  | ((with_reducible refine' et_B ?k1); (case k1 => walk_at "zev"))
  | ((with_reducible refine' et_and ?k1 ?k2); (case k1 => walk_at "zev"); (case k2 => (intro hh; first | exact absurd hh (by decide) | walk_at "zev")))
  | ((with_reducible refine' et_or ?k1 ?k2); (case k1 => walk_at "zev"); (case k2 => (intro hh; first | exact absurd hh (by decide) | walk_at "zev")))
  | ((with_reducible refine' et_not ?k1); (case k1 => walk_at "zev")))
local macro_rules | `(tactic| walk_at "zei") => `(tactic| first
  | ((with_reducible refine' ei_list ?k1); (case k1 => walk_at "zev"))
  | ((with_reducible refine' ei_tup ?k1); (case k1 => walk_at "zev"))
  | (refine' ei_r1 ?k1 ?k2; (case k1 => walk_at "zev"); (case k2 => walk_at "zsc"))
  | (refine' ei_r2 ?k1 ?k2 ?k3; (case k1 => walk_at "zev"); (case k2 => walk_at "zsc"); (case k3 => walk_at "zsc")))
local macro_rules | `(tactic| walk_at "zeg") => `(tactic| first
  | ((with_reducible refine' eg_name ?k1); (case k1 => decide))
  | ((with_reducible refine' eg_tup ?k1 ?k2); (case k1 => rfl); (case k2 => walk_at "zegs")))
local macro_rules | `(tactic| walk_at "zegs") => `(tactic| first
  | with_reducible exact egs_nil
  | ((with_reducible refine' egs_cons ?k1 ?k2); (case k1 => walk_at "zeg"); (case k2 => walk_at "zegs")))
/-! ### effects -/
local macro_rules | `(tactic| walk_at "zw") => `(tactic| first
  | ((with_reducible refine' wd_s ?k1 ?k2 ?_); (case k1 => walk_at "zev"); (case k2 => exact rfl))
  | ((with_reducible refine' wd_slP ?k1 ?_); (case k1 => walk_at "zev"))
  | ((with_reducible refine' wa_s ?k1 ?k2 ?_); (case k1 => walk_at "zev"); (case k2 => exact rfl))
  | walk_at "zbox"
  | ((with_reducible refine' wd_op ?_))
  | ((with_reducible refine' wd_un ?_))
  | ((with_reducible refine' wd_cb ?_))
  | ((with_reducible refine' wd_tup ?_))
  | ((with_reducible refine' wa_cons ?_))
  | ((with_reducible refine' wa_nil ?_))
  | ((with_reducible refine' wd_e (we_lst ?_)))
  | ((with_reducible refine' wd_e (we_opL ?_)))
  | ((with_reducible refine' x_rv ?k1 ?_); (case k1 => walk_at "zrv"))
  | ((with_reducible refine' x_rvl ?k1 ?_); (case k1 => walk_at "zrvl"))
  | ((with_reducible refine' x_rl ?k1 ?_); (case k1 => walk_at "zrvl"))
  | ((with_reducible refine' x_rc ?k1 ?_); (case k1 => walk_at "zrc"))
  | ((with_reducible refine' x_ru ?k1 ?_); (case k1 => with_reducible exact ru_neg))
  | ((with_reducible refine' x_bl ?_))
  | ((with_reducible refine' x_len ?k1 ?_); (case k1 => walk_at "zsc"))
  | ((with_reducible refine' x_fo ?_))
  | ((with_reducible refine' x_fi ?_))
  | ((with_reducible refine' x_sl ?_))
  | ((with_reducible refine' x_st ?_))
  | ((with_reducible refine' wt_p ?k1 ?_); (case k1 => walk_at "zev"))
  | ((with_reducible refine' wt_test ?_))
  | ((with_reducible refine' wt_B ?_))
  | ((with_reducible refine' wt_not ?_))
  | ((with_reducible refine' wi_seq ?_))
  | ((with_reducible refine' wi_r1 ?_))
  | ((with_reducible refine' wd_d ?k1 ?_); (case k1 => walk_at "zev")))

def topS (i : Nat) : Stmt := PySem.Challenge.pw_stacksaw_k21_whole_bars_and_fewest.main.body.getD i (.Pass ⟨0, 0, 0, 0⟩)
abbrev s_is_integer : Stmt := topS 6
theorem sc_is_integer : FnScope ["value", "low", "high"] ["value", "low", "high"] (defScope s_is_integer) := ⟨rfl, rfl, rfl, by decide +kernel, rfl, by decide +kernel, by decide +kernel⟩
abbrev s_is_list : Stmt := topS 7
theorem sc_is_list : FnScope ["value", "most"] ["value", "most"] (defScope s_is_list) := ⟨rfl, rfl, rfl, by decide +kernel, rfl, by decide +kernel, by decide +kernel⟩
abbrev s_beyond : Stmt := topS 17
theorem sc_beyond : FnScope ["counts", "level", "number"] ["counts", "level"] (defScope s_beyond) := ⟨rfl, rfl, rfl, by decide +kernel, rfl, by decide +kernel, by decide +kernel⟩
abbrev s_rounded_up : Stmt := topS 18
theorem sc_rounded_up : FnScope ["number", "divisor"] ["number", "divisor"] (defScope s_rounded_up) := ⟨rfl, rfl, rfl, by decide +kernel, rfl, by decide +kernel, by decide +kernel⟩
abbrev s__law_cell : Stmt := topS 28
theorem sc__law_cell : FnScope ["script", "k"] ["script", "k"] (defScope s__law_cell) := ⟨rfl, rfl, rfl, by decide +kernel, rfl, by decide +kernel, by decide +kernel⟩
abbrev s__law_box : Stmt := topS 29
theorem sc__law_box : FnScope ["cell"] ["cell"] (defScope s__law_box) := ⟨rfl, rfl, rfl, by decide +kernel, rfl, by decide +kernel, by decide +kernel⟩
abbrev s__law_take : Stmt := topS 30
theorem sc__law_take : FnScope ["box", "many", "digit", "one", "two"] ["box", "many"] (defScope s__law_take) := ⟨rfl, rfl, rfl, by decide +kernel, rfl, by decide +kernel, by decide +kernel⟩
abbrev s__law_equal : Stmt := topS 31
theorem sc__law_equal : FnScope ["result", "expected"] ["result", "expected"] (defScope s__law_equal) := ⟨rfl, rfl, rfl, by decide +kernel, rfl, by decide +kernel, by decide +kernel⟩
abbrev s__law_excess : Stmt := topS 32
theorem sc__law_excess : FnScope ["counts", "level", "number"] ["counts", "level"] (defScope s__law_excess) := ⟨rfl, rfl, rfl, by decide +kernel, rfl, by decide +kernel, by decide +kernel⟩
abbrev s_are_counts : Stmt := topS 13
theorem sc_are_counts : FnScope ["value", "number"] ["value"] (defScope s_are_counts) := ⟨rfl, rfl, rfl, by decide +kernel, rfl, by decide +kernel, by decide +kernel⟩
abbrev s_check_height : Stmt := topS 15
theorem sc_check_height : FnScope ["stack"] ["stack"] (defScope s_check_height) := ⟨rfl, rfl, rfl, by decide +kernel, rfl, by decide +kernel, by decide +kernel⟩
abbrev s_check_strokes : Stmt := topS 16
theorem sc_check_strokes : FnScope ["strokes", "most"] ["strokes", "most"] (defScope s_check_strokes) := ⟨rfl, rfl, rfl, by decide +kernel, rfl, by decide +kernel, by decide +kernel⟩
abbrev s_excesses : Stmt := topS 19
theorem sc_excesses : FnScope ["counts", "found", "level"] ["counts"] (defScope s_excesses) := ⟨rfl, rfl, rfl, by decide +kernel, rfl, by decide +kernel, by decide +kernel⟩
abbrev s_bars_at : Stmt := topS 23
theorem sc_bars_at : FnScope ["counts", "stack", "strokes", "level"] ["counts", "stack", "strokes", "level"] (defScope s_bars_at) := ⟨rfl, rfl, rfl, by decide +kernel, rfl, by decide +kernel, by decide +kernel⟩
abbrev s__law_fewest : Stmt := topS 33
theorem sc__law_fewest : FnScope ["counts", "stack", "most", "level", "more"] ["counts", "stack"] (defScope s__law_fewest) := ⟨rfl, rfl, rfl, by decide +kernel, rfl, by decide +kernel, by decide +kernel⟩
abbrev s__law_bar : Stmt := topS 34
theorem sc__law_bar : FnScope ["counts", "stack", "strokes", "level"] ["counts", "stack", "strokes"] (defScope s__law_bar) := ⟨rfl, rfl, rfl, by decide +kernel, rfl, by decide +kernel, by decide +kernel⟩
abbrev s__law_numbers : Stmt := topS 35
theorem sc__law_numbers : FnScope ["box", "most", "way", "found", "k", "near", "some"] ["box", "most"] (defScope s__law_numbers) := ⟨rfl, rfl, rfl, by decide +kernel, rfl, by decide +kernel, by decide +kernel⟩
abbrev s_check_counts : Stmt := topS 14
theorem sc_check_counts : FnScope ["counts"] ["counts"] (defScope s_check_counts) := ⟨rfl, rfl, rfl, by decide +kernel, rfl, by decide +kernel, by decide +kernel⟩
abbrev s_demands : Stmt := topS 20
theorem sc_demands : FnScope ["counts", "stack", "level", "more"] ["counts", "stack"] (defScope s_demands) := ⟨rfl, rfl, rfl, by decide +kernel, rfl, by decide +kernel, by decide +kernel⟩
abbrev s_least_bar : Stmt := topS 24
theorem sc_least_bar : FnScope ["counts", "stack", "strokes", "level"] ["counts", "stack", "strokes"] (defScope s_least_bar) := ⟨rfl, rfl, rfl, by decide +kernel, rfl, by decide +kernel, by decide +kernel⟩
abbrev s_fewest_for : Stmt := topS 21
theorem sc_fewest_for : FnScope ["counts", "stack"] ["counts", "stack"] (defScope s_fewest_for) := ⟨rfl, rfl, rfl, by decide +kernel, rfl, by decide +kernel, by decide +kernel⟩
abbrev s_check_all : Stmt := topS 25
theorem sc_check_all : FnScope ["counts", "stack", "strokes"] ["counts", "stack", "strokes"] (defScope s_check_all) := ⟨rfl, rfl, rfl, by decide +kernel, rfl, by decide +kernel, by decide +kernel⟩
abbrev s_fewest : Stmt := topS 22
theorem sc_fewest : FnScope ["counts", "stack"] ["counts", "stack"] (defScope s_fewest) := ⟨rfl, rfl, rfl, by decide +kernel, rfl, by decide +kernel, by decide +kernel⟩
abbrev s_bar : Stmt := topS 26
theorem sc_bar : FnScope ["counts", "stack", "strokes"] ["counts", "stack", "strokes"] (defScope s_bar) := ⟨rfl, rfl, rfl, by decide +kernel, rfl, by decide +kernel, by decide +kernel⟩
abbrev s_law : Stmt := topS 36
theorem sc_law : FnScope ["script", "k", "box", "counts", "stack", "least", "some", "strokes", "result"] ["script"] (defScope s_law) := ⟨rfl, rfl, rfl, by decide +kernel, rfl, by decide +kernel, by decide +kernel⟩
structure Tx (K : PySem.W.Frag) (mg : Str → Option Value) where
  a_is_integer : Addr
  d_is_integer : FuncData
  F_is_integer : Fun K "is_integer" "is_integer" s_is_integer a_is_integer d_is_integer
  b_is_integer : Binds K d_is_integer ["value", "low", "high"] []
  m_is_integer : mg "is_integer" = some (.ref a_is_integer)
  a_is_list : Addr
  d_is_list : FuncData
  F_is_list : Fun K "is_list" "is_list" s_is_list a_is_list d_is_list
  b_is_list : Binds K d_is_list ["value", "most"] []
  m_is_list : mg "is_list" = some (.ref a_is_list)
  a_beyond : Addr
  d_beyond : FuncData
  F_beyond : Fun K "beyond" "beyond" s_beyond a_beyond d_beyond
  b_beyond : Binds K d_beyond ["counts", "level"] []
  m_beyond : mg "beyond" = some (.ref a_beyond)
  a_rounded_up : Addr
  d_rounded_up : FuncData
  F_rounded_up : Fun K "rounded_up" "rounded_up" s_rounded_up a_rounded_up d_rounded_up
  b_rounded_up : Binds K d_rounded_up ["number", "divisor"] []
  m_rounded_up : mg "rounded_up" = some (.ref a_rounded_up)
  a__law_cell : Addr
  d__law_cell : FuncData
  F__law_cell : Fun K "_law_cell" "_law_cell" s__law_cell a__law_cell d__law_cell
  b__law_cell : Binds K d__law_cell ["script", "k"] []
  m__law_cell : mg "_law_cell" = some (.ref a__law_cell)
  a__law_box : Addr
  d__law_box : FuncData
  F__law_box : Fun K "_law_box" "_law_box" s__law_box a__law_box d__law_box
  b__law_box : Binds K d__law_box ["cell"] []
  m__law_box : mg "_law_box" = some (.ref a__law_box)
  a__law_take : Addr
  d__law_take : FuncData
  F__law_take : Fun K "_law_take" "_law_take" s__law_take a__law_take d__law_take
  b__law_take : Binds K d__law_take ["box", "many"] []
  m__law_take : mg "_law_take" = some (.ref a__law_take)
  a__law_equal : Addr
  d__law_equal : FuncData
  F__law_equal : Fun K "_law_equal" "_law_equal" s__law_equal a__law_equal d__law_equal
  b__law_equal : Binds K d__law_equal ["result", "expected"] []
  m__law_equal : mg "_law_equal" = some (.ref a__law_equal)
  a__law_excess : Addr
  d__law_excess : FuncData
  F__law_excess : Fun K "_law_excess" "_law_excess" s__law_excess a__law_excess d__law_excess
  b__law_excess : Binds K d__law_excess ["counts", "level"] []
  m__law_excess : mg "_law_excess" = some (.ref a__law_excess)
  a_are_counts : Addr
  d_are_counts : FuncData
  F_are_counts : Fun K "are_counts" "are_counts" s_are_counts a_are_counts d_are_counts
  b_are_counts : Binds K d_are_counts ["value"] []
  m_are_counts : mg "are_counts" = some (.ref a_are_counts)
  a_check_height : Addr
  d_check_height : FuncData
  F_check_height : Fun K "check_height" "check_height" s_check_height a_check_height d_check_height
  b_check_height : Binds K d_check_height ["stack"] []
  m_check_height : mg "check_height" = some (.ref a_check_height)
  a_check_strokes : Addr
  d_check_strokes : FuncData
  F_check_strokes : Fun K "check_strokes" "check_strokes" s_check_strokes a_check_strokes d_check_strokes
  b_check_strokes : Binds K d_check_strokes ["strokes", "most"] []
  m_check_strokes : mg "check_strokes" = some (.ref a_check_strokes)
  a_excesses : Addr
  d_excesses : FuncData
  F_excesses : Fun K "excesses" "excesses" s_excesses a_excesses d_excesses
  b_excesses : Binds K d_excesses ["counts"] []
  m_excesses : mg "excesses" = some (.ref a_excesses)
  a_bars_at : Addr
  d_bars_at : FuncData
  F_bars_at : Fun K "bars_at" "bars_at" s_bars_at a_bars_at d_bars_at
  b_bars_at : Binds K d_bars_at ["counts", "stack", "strokes", "level"] []
  m_bars_at : mg "bars_at" = some (.ref a_bars_at)
  a__law_fewest : Addr
  d__law_fewest : FuncData
  F__law_fewest : Fun K "_law_fewest" "_law_fewest" s__law_fewest a__law_fewest d__law_fewest
  b__law_fewest : Binds K d__law_fewest ["counts", "stack"] []
  m__law_fewest : mg "_law_fewest" = some (.ref a__law_fewest)
  a__law_bar : Addr
  d__law_bar : FuncData
  F__law_bar : Fun K "_law_bar" "_law_bar" s__law_bar a__law_bar d__law_bar
  b__law_bar : Binds K d__law_bar ["counts", "stack", "strokes"] []
  m__law_bar : mg "_law_bar" = some (.ref a__law_bar)
  a__law_numbers : Addr
  d__law_numbers : FuncData
  F__law_numbers : Fun K "_law_numbers" "_law_numbers" s__law_numbers a__law_numbers d__law_numbers
  b__law_numbers : Binds K d__law_numbers ["box", "most"] []
  m__law_numbers : mg "_law_numbers" = some (.ref a__law_numbers)
  a_check_counts : Addr
  d_check_counts : FuncData
  F_check_counts : Fun K "check_counts" "check_counts" s_check_counts a_check_counts d_check_counts
  b_check_counts : Binds K d_check_counts ["counts"] []
  m_check_counts : mg "check_counts" = some (.ref a_check_counts)
  a_demands : Addr
  d_demands : FuncData
  F_demands : Fun K "demands" "demands" s_demands a_demands d_demands
  b_demands : Binds K d_demands ["counts", "stack"] []
  m_demands : mg "demands" = some (.ref a_demands)
  a_least_bar : Addr
  d_least_bar : FuncData
  F_least_bar : Fun K "least_bar" "least_bar" s_least_bar a_least_bar d_least_bar
  b_least_bar : Binds K d_least_bar ["counts", "stack", "strokes"] []
  m_least_bar : mg "least_bar" = some (.ref a_least_bar)
  a_fewest_for : Addr
  d_fewest_for : FuncData
  F_fewest_for : Fun K "fewest_for" "fewest_for" s_fewest_for a_fewest_for d_fewest_for
  b_fewest_for : Binds K d_fewest_for ["counts", "stack"] []
  m_fewest_for : mg "fewest_for" = some (.ref a_fewest_for)
  a_check_all : Addr
  d_check_all : FuncData
  F_check_all : Fun K "check_all" "check_all" s_check_all a_check_all d_check_all
  b_check_all : Binds K d_check_all ["counts", "stack", "strokes"] []
  m_check_all : mg "check_all" = some (.ref a_check_all)
  a_fewest : Addr
  d_fewest : FuncData
  F_fewest : Fun K "fewest" "fewest" s_fewest a_fewest d_fewest
  b_fewest : Binds K d_fewest ["counts", "stack"] []
  m_fewest : mg "fewest" = some (.ref a_fewest)
  a_bar : Addr
  d_bar : FuncData
  F_bar : Fun K "bar" "bar" s_bar a_bar d_bar
  b_bar : Binds K d_bar ["counts", "stack", "strokes"] []
  m_bar : mg "bar" = some (.ref a_bar)
  a_law : Addr
  d_law : FuncData
  F_law : Fun K "law" "law" s_law a_law d_law
  b_law : Binds K d_law ["script"] []
  m_law : mg "law" = some (.ref a_law)
  n_all : mg "all" = none
  n_bool : mg "bool" = none
  n_enumerate : mg "enumerate" = none
  n_int : mg "int" = none
  n_isinstance : mg "isinstance" = none
  n_len : mg "len" = none
  n_list : mg "list" = none
  n_max : mg "max" = none
  n_min : mg "min" = none
  n_range : mg "range" = none
  n_repr : mg "repr" = none
  n_sum : mg "sum" = none
  n_tuple : mg "tuple" = none
  c_GREATEST_COUNT : ∃ t, mg "GREATEST_COUNT" = some (.int 1000000000000000000000000000000 t)
  c_GREATEST_STACK : ∃ t, mg "GREATEST_STACK" = some (.int 1000000000000000000000000000000 t)
  c_MOST_COUNTS : ∃ t, mg "MOST_COUNTS" = some (.int 600 t)
  c_MOST_STROKES : ∃ t, mg "MOST_STROKES" = some (.int 1000000000000000000000000000000000 t)
/-- an integer from lo to hi -/
def isI : D → Int → Int → Bool
  | .int i, lo, hi => decide (lo ≤ i) && decide (i ≤ hi)
  | _, _, _ => false
inductive S_is_integer : List D → D → Prop
  | mk (x : D) (lo hi : Int) (t : String) (h : tyN x = some t) : S_is_integer [x, .int lo, .int hi] (.bl (isI x lo hi))
local macro_rules | `(tactic| walk_at "zcall") => `(tactic| ((with_reducible refine' S_is_integer.mk _ _ _ _ ?k1); (case k1 => first | rfl | assumption)))

def isLi : D → Int → Bool
  | .lst xs, m => decide ((xs.length : Int) ≤ m)
  | .tup xs, m => decide ((xs.length : Int) ≤ m)
  | _, _ => false
inductive S_is_list : List D → D → Prop
  | mk (x : D) (m : Int) (t : String) (h : tyN x = some t) : S_is_list [x, .int m] (.bl (isLi x m))
local macro_rules | `(tactic| walk_at "zcall") => `(tactic| ((with_reducible refine' S_is_list.mk _ _ _ ?k1); (case k1 => first | rfl | assumption)))

/-! ## counts: of the layer -/

inductive S_beyond : List D → D → Prop
  | l (ns : List Int) (l : Int) (h : 0 ≤ l) (h2 : l ≤ 1000) (h3 : ns.length ≤ 600) : S_beyond [.lst (ns.map D.int), .int l] (.int (bey ns l))
  | t (ns : List Int) (l : Int) (h : 0 ≤ l) (h2 : l ≤ 1000) (h3 : ns.length ≤ 600) : S_beyond [.tup (ns.map D.int), .int l] (.int (bey ns l))
theorem S_beyond_mk (x : D) (ns : List Int) (l : Int) (hx : Sq x ns) (h : 0 ≤ l) (h2 : l ≤ 1000) (h3 : ns.length ≤ 600) : S_beyond [x, .int l] (.int (bey ns l)) := by
  rcases hx with rfl | rfl
  · exact .l ns l h h2 h3
  · exact .t ns l h h2 h3
local macro_rules | `(tactic| walk_at "zcall") => `(tactic| ((with_reducible refine' S_beyond_mk _ _ _ ?k0 ?k1 ?k2 ?k3); (case k0 => walk_at "zsq"); (case k1 => walk_at "zsc"); (case k2 => walk_at "zsc"); (case k3 => walk_at "zsc")))

inductive S_rounded_up : List D → D → Prop
  | mk (a b : Int) (h : 0 < b) (h2 : b ≤ 1000000000000000000000000000000) : S_rounded_up [.int a, .int b] (.int ((a + b - 1) / b))
local macro_rules | `(tactic| walk_at "zcall") => `(tactic| ((with_reducible refine' S_rounded_up.mk _ _ ?k1 ?k2); (case k1 => walk_at "zsc"); (case k2 => walk_at "zsc")))

/-! ## the law's draws -/
theorem cdiv_c {x j : Int} (h : 0 < j) (h2 : j.natAbs.log2 < 9000) : CDivW x j := ⟨h, h2⟩
theorem take_div {m a : Int} (h : 0 < m) (h2 : m ≤ 2 ^ 200) : CDivW a m := wide_div (b := 201) h (by omega) (by decide) (by decide)
theorem take_sq {w : Int} (h : 0 ≤ w) (h2 : w ≤ 8000000) : 0 ≤ 104729 * w * w ∧ 104729 * w * w ≤ 104729 * 8000000 * 8000000 := by
  have a1 : 0 ≤ w * w := Int.mul_nonneg h h
  have a2 : w * w ≤ 8000000 * 8000000 := Int.mul_le_mul h2 h2 h (by decide)
  rw [Int.mul_assoc]
  omega

inductive S__law_take : List D → Nat → (D → Prop) → Prop
  | mk (m : Int) (h : 0 < m) (h2 : m ≤ 2 ^ 200) : S__law_take [.int m] 1 (fun d => ∃ r : Int, d = .int r ∧ 0 ≤ r ∧ r < m)
theorem wd_take {K : PySem.W.Frag} {E E' : EK} {ta : TE} {Γ : List Dt} {QD : D → List Dt → Prop} {xc : Value → List (Str × D) → List Dt → Prop} {i n : Nat} {m : Int} (hi : Γ[i]? = some (.bx n)) (ha : EvD K ta (vw Γ) (.int m)) (h0 : 0 < m) (h1 : m ≤ 2 ^ 200) (hb : n + 1 ≤ 8000000)
    (q : ∀ r : Int, 0 ≤ r → r < m → QD (.int r) (Γ.set i (.bx (n + 1)))) : wpD K E (tCl (spB K S__law_take) [] E' (tCons (tVar i) (tCons ta tNil))) Γ QD xc :=
  wd_box ⟨n, hi⟩ (wa_s (ea_cons ha ea_nil) rfl ⟨n, 1, _, hi, hb, .mk m h0 h1, fun d ⟨r, e, a, b⟩ => by rw [e]; exact q r a b⟩)
local macro_rules | `(tactic| walk_at "zbox") => `(tactic| ((with_reducible refine' wd_take ?k1 ?k2 ?k3 ?k4 ?k5 ?_); (case k1 => exact rfl); (case k2 => walk_at "zev"); (case k3 => walk_at "zsc"); (case k4 => walk_at "zsc"); (case k5 => walk_at "zsc"); intro r' hr1' hr2'))

inductive S__law_equal : List D → D → Prop
  | mk (d : D) (h : okE d) : S__law_equal [d, d] (.bl true)
local macro_rules | `(tactic| walk_at "zcall") => `(tactic| ((with_reducible refine' S__law_equal.mk _ ?k1); (case k1 => walk_at "zok")))

inductive S__law_excess : List D → D → Prop
  | l (ns : List Int) (l : Int) (h : 0 ≤ l) (h2 : l ≤ 1000) (h3 : ns.length ≤ 600) : S__law_excess [.lst (ns.map D.int), .int l] (.int (bey ns l))
local macro_rules | `(tactic| walk_at "zcall") => `(tactic| ((with_reducible refine' S__law_excess.l _ _ ?k1 ?k2 ?k3); (case k1 => walk_at "zsc"); (case k2 => walk_at "zsc"); (case k3 => walk_at "zsc")))

/-- an item's kind is known -/
def kno (x : D) : Bool := (tyN x).isSome
theorem kno_t {x : D} (h : kno x = true) : ∃ t, tyN x = some t := Option.isSome_iff_exists.mp h
def arC : D → Bool
  | .lst xs => decide ((xs.length : Int) ≤ 600) && (xs.all fun x => isI x 1 (1000000000000000000000000000000))
  | .tup xs => decide ((xs.length : Int) ≤ 600) && (xs.all fun x => isI x 1 (1000000000000000000000000000000))
  | _ => false
def itK : D → Bool
  | .lst xs => xs.all kno
  | .tup xs => xs.all kno
  | x => kno x
inductive S_are_counts : List D → D → Prop
  | mk (x : D) (h : itK x = true) : S_are_counts [x] (.bl (arC x))
local macro_rules | `(tactic| walk_at "zcall") => `(tactic| ((with_reducible refine' S_are_counts.mk _ ?k1); (case k1 => first | assumption | rfl | (simp [itK, kno]; done))))

inductive S_check_height : List D → D → Prop
  | mk (s : Int) (h : 1 ≤ s) (h2 : s ≤ 1000000000000000000000000000000) : S_check_height [.int s] .non
local macro_rules | `(tactic| walk_at "zcall") => `(tactic| ((with_reducible refine' S_check_height.mk _ ?k1 ?k2); (case k1 => walk_at "zsc"); (case k2 => walk_at "zsc")))

inductive S_check_strokes : List D → D → Prop
  | mk (s m : Int) (h : 0 ≤ s) (h2 : s ≤ m) : S_check_strokes [.int s, .int m] .non
local macro_rules | `(tactic| walk_at "zcall") => `(tactic| ((with_reducible refine' S_check_strokes.mk _ _ ?k1 ?k2); (case k1 => walk_at "zsc"); (case k2 => walk_at "zsc")))

inductive S_excesses : List D → D → Prop
  | mk (x : D) (ns : List Int) (hx : Sq x ns) (h : Cts ns) : S_excesses [x] (.lst ((excL ns).map D.int))
local macro_rules | `(tactic| walk_at "zcall") => `(tactic| ((with_reducible refine' S_excesses.mk _ _ ?k0 ?k1); (case k0 => walk_at "zsq"); (case k1 => walk_at "zsc")))

/-! ## fewest strokes, compared -/
theorem bey_app (xs ys : List Int) (l : Int) : bey (xs ++ ys) l = bey xs l + bey ys l := by
  simp only [bey, List.map_append, List.sum_append]
theorem top_of_pos {ns : List Int} {l : Nat} (h : Top ns (top ns)) (p : 0 < bey ns l) : l < top ns := by
  refine Nat.lt_of_not_le fun le => ?_
  obtain ⟨j, rfl⟩ : ∃ j, l = top ns + j := ⟨l - top ns, by omega⟩
  have a := bey_anti ns (top ns) j
  have b := h.2.1
  omega
theorem ceil_le {a s m : Int} (hs : 0 < s) : (a + s - 1) / s ≤ m ↔ a ≤ s * m := by
  constructor
  · intro h
    have h1 : (a + s - 1) / s < m + 1 := by omega
    have h2 := (Int.ediv_lt_iff_lt_mul hs).mp h1
    rw [Int.add_mul, Int.mul_comm] at h2
    omega
  · intro h
    refine Int.le_of_lt_add_one ((Int.ediv_lt_iff_lt_mul hs).mpr ?_)
    rw [Int.add_mul, Int.mul_comm]
    omega
/-- m strokes are enough -/
def Eno (ns : List Int) (s m : Int) : Prop := 0 ≤ m ∧ ∀ l : Nat, 0 < bey ns l → bey ns l ≤ s * (m - l)
theorem few_iff {ns : List Int} {s m : Int} (hc : Cts ns) (hs : 0 < s) : few ns s ≤ m ↔ Eno ns s m := by
  constructor
  · intro h
    refine ⟨Int.le_trans (few_bd hc hs).1 h, fun l p => ?_⟩
    have a := le_few (s := s) (top_of_pos hc.top p)
    unfold dem at a
    exact (ceil_le hs).mp (by omega)
  · rintro ⟨h0, h⟩
    refine few_le h0 fun l hl => ?_
    have := (ceil_le (m := m - l) hs).mpr (h l (hc.top.1 l hl))
    unfold dem
    omega
theorem few_eno {ns : List Int} {s : Int} (hc : Cts ns) (hs : 0 < s) : Eno ns s (few ns s) := (few_iff hc hs).mp (Int.le_refl _)
theorem few_mono {xs ys : List Int} {s : Int} (hx : Cts xs) (hy : Cts ys) (hs : 0 < s) (h : ∀ l : Nat, bey xs l ≤ bey ys l) : few xs s ≤ few ys s := by
  refine (few_iff hx hs).mpr ?_
  obtain ⟨a, b⟩ := few_eno hy hs
  exact ⟨a, fun l p => Int.le_trans (h l) (b l (Int.lt_of_lt_of_le p (h l)))⟩
theorem few_congr {xs ys : List Int} {s : Int} (hx : Cts xs) (hy : Cts ys) (hs : 0 < s) (h : ∀ l : Nat, bey xs l = bey ys l) : few xs s = few ys s :=
  Int.le_antisymm (few_mono hx hy hs fun l => Int.le_of_eq (h l)) (few_mono hy hx hs fun l => Int.le_of_eq (h l).symm)
theorem few_sub {xs ys : List Int} {s : Int} (hx : Cts xs) (hy : Cts ys) (hxy : Cts (xs ++ ys)) (hs : 0 < s) : few (xs ++ ys) s ≤ few xs s + few ys s := by
  refine (few_iff hxy hs).mpr ?_
  obtain ⟨a, b⟩ := few_eno hx hs
  obtain ⟨c, d⟩ := few_eno hy hs
  generalize few xs s = p at a b ⊢
  generalize few ys s = q at c d ⊢
  refine ⟨by omega, fun l hp => ?_⟩
  rw [bey_app] at hp ⊢
  have h1 := bey_nn xs l
  have h2 := bey_nn ys l
  have e : s * (p + q - l) = s * (p - l) + s * (q - l) + s * l := by
    rw [← Int.mul_add, ← Int.mul_add]
    congr 1
    omega
  have e1 : s * (p + q - l) = s * (p - l) + s * q := by rw [← Int.mul_add]; congr 1; omega
  have e2 : s * (p + q - l) = s * (q - l) + s * p := by rw [← Int.mul_add]; congr 1; omega
  have f1 : 0 ≤ s * q := Int.mul_nonneg (by omega) c
  have f2 : 0 ≤ s * p := Int.mul_nonneg (by omega) a
  have f3 : 0 ≤ s * (l : Int) := Int.mul_nonneg (by omega) (by omega)
  by_cases z1 : 0 < bey xs l
  · by_cases z2 : 0 < bey ys l
    · have := b l z1
      have := d l z2
      omega
    · have := b l z1
      omega
  · have := d l (by omega)
    omega
theorem few_s {ns : List Int} {s t : Int} (hc : Cts ns) (hs : 0 < s) (h : s ≤ t) : few ns t ≤ few ns s := by
  refine (few_iff hc (by omega)).mpr ?_
  obtain ⟨a, b⟩ := few_eno hc hs
  refine ⟨a, fun l p => ?_⟩
  have c := b l p
  have d : 0 < few ns s - l := by
    refine Int.not_le.mp fun z => ?_
    have : s * (few ns s - l) ≤ 0 := Int.mul_nonpos_of_nonneg_of_nonpos (by omega) z
    omega
  exact Int.le_trans c (Int.mul_le_mul_of_nonneg_right h (by omega))
theorem few_2s {ns : List Int} {s : Int} (hc : Cts ns) (hs : 0 < s) : few ns s ≤ 2 * few ns (2 * s) := by
  refine (few_iff hc hs).mpr ?_
  obtain ⟨a, b⟩ := few_eno hc (s := 2 * s) (by omega)
  refine ⟨by omega, fun l p => ?_⟩
  have c := b l p
  generalize few ns (2 * s) = q at a c ⊢
  have e : s * (2 * q - l) = 2 * s * (q - l) + s * l := by
    rw [Int.mul_comm 2 s, Int.mul_assoc, ← Int.mul_add]
    congr 1
    omega
  have f : 0 ≤ s * (l : Int) := Int.mul_nonneg (by omega) (by omega)
  omega
theorem over_mono {n m : Int} (h : n ≤ m) (l : Int) : over n l ≤ over m l := by
  unfold over
  split <;> split <;> omega
theorem bey_cons (n : Int) (ns : List Int) (l : Int) : bey (n :: ns) l = over n l + bey ns l := by
  simp only [bey, List.map_cons, List.sum_cons]
/-- the two halves of a lath -/
def hlv (n : Int) : List Int := if n > 1 then [n / 2] else []
theorem half_le {n : Int} (h : 1 ≤ n) (l : Nat) : over ((n + 1) / 2) l + bey (hlv n) l ≤ over n l := by
  have p := pw2_pos (l : Int)
  unfold hlv
  split
  · rw [bey_cons]
    unfold over bey
    simp only [List.map_nil, List.sum_nil]
    split <;> split <;> split <;> omega
  · have e : n = 1 := by omega
    subst e
    show over ((1 + 1) / 2) l + bey [] l ≤ over 1 l
    simp [bey]
theorem half_ge {n : Int} (h : 1 ≤ n) (l : Nat) : over n ((l + 1 : Nat) : Int) ≤ over ((n + 1) / 2) l + bey (hlv n) l := by
  have p := pw2_pos (l : Int)
  have e2 := pw2_succ l
  unfold hlv
  split
  · rw [bey_cons]
    unfold over bey
    rw [e2]
    simp only [List.map_nil, List.sum_nil]
    split <;> split <;> split <;> omega
  · have e : n = 1 := by omega
    subst e
    unfold over bey
    rw [e2]
    simp only [List.map_nil, List.sum_nil]
    split <;> split <;> omega
theorem half_0 {n : Int} (h : 1 ≤ n) : over n 0 ≤ over ((n + 1) / 2) 0 + bey (hlv n) 0 + 1 := by
  have e : pw2 0 = 1 := rfl
  unfold hlv
  split
  · rw [bey_cons]
    unfold over bey
    rw [e]
    simp only [List.map_nil, List.sum_nil]
    split <;> split <;> split <;> omega
  · have e : n = 1 := by omega
    subst e
    simp [bey, over, e]
theorem few_split {A B : List Int} {n s : Int} (h1 : Cts (A ++ n :: B)) (h2 : Cts (A ++ (n + 1) / 2 :: B ++ hlv n)) (hs : 0 < s) :
    few (A ++ n :: B) s - 1 ≤ few (A ++ (n + 1) / 2 :: B ++ hlv n) s ∧ few (A ++ (n + 1) / 2 :: B ++ hlv n) s ≤ few (A ++ n :: B) s := by
  have hn : 1 ≤ n := (h1.2 n (by simp)).1
  have ea : ∀ l : Int, bey (A ++ n :: B) l = bey A l + over n l + bey B l := fun l => by rw [bey_app, bey_cons]; omega
  have eb : ∀ l : Int, bey (A ++ (n + 1) / 2 :: B ++ hlv n) l = bey A l + (over ((n + 1) / 2) l + bey (hlv n) l) + bey B l := fun l => by rw [bey_app, bey_app, bey_cons]; omega
  refine ⟨?_, few_mono h2 h1 hs fun l => ?_⟩
  · have key : few (A ++ n :: B) s ≤ few (A ++ (n + 1) / 2 :: B ++ hlv n) s + 1 := by
      refine (few_iff h1 hs).mpr ?_
      obtain ⟨a, b⟩ := few_eno h2 hs
      generalize few (A ++ (n + 1) / 2 :: B ++ hlv n) s = m at a b ⊢
      refine ⟨by omega, fun l p => ?_⟩
      cases l with
      | zero =>
        have h0 := half_0 hn
        have b0 := b 0
        rw [ea] at p ⊢
        rw [eb] at b0
        have e : s * (m + 1 - ((0 : Nat) : Int)) = s * (m - ((0 : Nat) : Int)) + s := by
          rw [show m + 1 - ((0 : Nat) : Int) = (m - ((0 : Nat) : Int)) + 1 by omega, Int.mul_add, Int.mul_one]
        have f : 0 ≤ s * (m - ((0 : Nat) : Int)) := Int.mul_nonneg (by omega) (by omega)
        rw [e]
        show bey A 0 + over n 0 + bey B 0 ≤ _
        have b0' : 0 < bey A 0 + (over ((n + 1) / 2) 0 + bey (hlv n) 0) + bey B 0 → bey A 0 + (over ((n + 1) / 2) 0 + bey (hlv n) 0) + bey B 0 ≤ s * (m - ((0 : Nat) : Int)) := b0
        by_cases z : 0 < bey A 0 + (over ((n + 1) / 2) 0 + bey (hlv n) 0) + bey B 0
        · have := b0' z
          omega
        · omega
      | succ l =>
        have g := half_ge hn l
        have d1 := bey_down A l
        have d2 := bey_down B l
        have bl := b l
        rw [ea] at p ⊢
        rw [eb] at bl
        have c := bl (by omega)
        have e : s * (m + 1 - ((l + 1 : Nat) : Int)) = s * (m - l) := by congr 1; omega
        rw [e]
        omega
    omega
  · rw [ea, eb]
    have := half_le hn l
    omega

/-! ## bars -/
def isBar (ns : List Int) (s m : Int) (l : Int) : Bool := decide (l ≤ m) && decide (s * (m - l) < bey ns l)
noncomputable def lbar (ns : List Int) (s m : Int) : Option Nat := (List.range (top ns)).find? fun l : Nat => isBar ns s m (l : Int)
def optD : Option Nat → D
  | none => .non
  | some l => .int (l : Int)
theorem bar_lt {ns : List Int} {s m : Int} {l : Nat} (hc : Cts ns) (hs : 0 < s) (h : isBar ns s m (l : Int) = true) : l < top ns := by
  have h1 := of_decide_eq_true (Bool.and_eq_true_iff.mp h).1
  have h2 := of_decide_eq_true (Bool.and_eq_true_iff.mp h).2
  refine Nat.lt_of_not_le fun le => ?_
  obtain ⟨j, rfl⟩ : ∃ j, l = top ns + j := ⟨l - top ns, by omega⟩
  have a := bey_anti ns (top ns) j
  have b := hc.top.2.1
  have c : 0 ≤ s * (m - ((top ns + j : Nat) : Int)) := Int.mul_nonneg (by omega) (by omega)
  omega
/-- the first of n levels, found by a walk -/
def Fst (p : Nat → Bool) (o : Option Nat) (n : Nat) : Prop := match o with
  | none => ∀ l, l < n → p l = false
  | some k => k < n ∧ p k = true ∧ ∀ l, l < k → p l = false
theorem find_fst (p : Nat → Bool) (n : Nat) : Fst p ((List.range n).find? p) n := by
  cases h : (List.range n).find? p with
  | none =>
    intro l hl
    have := List.find?_eq_none.mp h l (List.mem_range.mpr hl)
    simpa using this
  | some k =>
    obtain ⟨hk, as, bs, e, hb⟩ := List.find?_eq_some_iff_append.mp h
    have hkn : k < n := List.mem_range.mp (List.mem_of_find?_eq_some h)
    have la : as.length = k := by
      have e1 : (List.range n)[as.length]? = some k := by rw [e, List.getElem?_append_right (Nat.le_refl _)]; simp
      have : as.length < n := by
        have := (List.getElem?_eq_some_iff.mp e1).1
        rwa [List.length_range] at this
      rw [List.getElem?_range this] at e1
      exact Option.some.inj e1
    refine ⟨hkn, hk, fun l hl => ?_⟩
    have hl2 : l < as.length := by omega
    have : as[l]? = some l := by
      have e1 : (List.range n)[l]? = some l := List.getElem?_range (by omega)
      rw [e, List.getElem?_append_left hl2] at e1
      exact e1
    have := hb l (List.mem_of_getElem? this)
    simpa using this
theorem fst_uniq {p : Nat → Bool} {o o2 : Option Nat} {n n2 : Nat} (h : Fst p o n) (h2 : Fst p o2 n2) (c1 : ∀ k, o = some k → k < n2) (c2 : ∀ k, o2 = some k → k < n) : o = o2 := by
  cases o with
  | none =>
    cases o2 with
    | none => rfl
    | some k =>
      have := h k (c2 k rfl)
      rw [h2.2.1] at this
      cases this
  | some j =>
    cases o2 with
    | none =>
      have := h2 j (c1 j rfl)
      rw [h.2.1] at this
      cases this
    | some k =>
      rcases Nat.lt_trichotomy j k with z | z | z
      · have := h2.2.2 j z
        rw [h.2.1] at this
        cases this
      · rw [z]
      · have := h.2.2 k z
        rw [h2.2.1] at this
        cases this
theorem lbar_none {ns : List Int} {s m : Int} (hc : Cts ns) (hs : 0 < s) (hm : 0 ≤ m) : lbar ns s m = none ↔ few ns s ≤ m := by
  have hf := find_fst (fun l : Nat => isBar ns s m (l : Int)) (top ns)
  rw [few_iff hc hs]
  constructor
  · intro e
    have hn : ∀ l, l < top ns → isBar ns s m ((l : Nat) : Int) = false := by
      have : Fst (fun l : Nat => isBar ns s m (l : Int)) none (top ns) := e ▸ hf
      exact this
    refine ⟨hm, fun l p => ?_⟩
    have lt := top_of_pos hc.top p
    have key : ∀ l : Nat, l < top ns → (l : Int) ≤ m → bey ns l ≤ s * (m - l) := fun l lt le => by
      have h := hn l lt
      unfold isBar at h
      rw [decide_eq_true le, Bool.true_and] at h
      have := of_decide_eq_false h
      omega
    by_cases le : (l : Int) ≤ m
    · exact key l lt le
    · obtain ⟨M, rfl⟩ := Int.eq_ofNat_of_zero_le hm
      have k := key M (by omega) (Int.le_refl _)
      have q := hc.top.1 M (by omega)
      rw [Int.sub_self, Int.mul_zero] at k
      omega
  · rintro ⟨_, h⟩
    cases e : lbar ns s m with
    | none => rfl
    | some j =>
      have : Fst (fun l : Nat => isBar ns s m (l : Int)) (some j) (top ns) := e ▸ hf
      have b : isBar ns s m (j : Int) = true := this.2.1
      have p := hc.top.1 j this.1
      have b2 := of_decide_eq_true (Bool.and_eq_true_iff.mp b).2
      have := h j p
      omega
theorem lbar_some {ns : List Int} {s m : Int} {j : Nat} (h : lbar ns s m = some j) : j < top ns ∧ (j : Int) ≤ m ∧ s * (m - j) < bey ns j := by
  have hf := find_fst (fun l : Nat => isBar ns s m (l : Int)) (top ns)
  have : Fst (fun l : Nat => isBar ns s m (l : Int)) (some j) (top ns) := h ▸ hf
  have b : isBar ns s m (j : Int) = true := this.2.1
  exact ⟨this.1, of_decide_eq_true (Bool.and_eq_true_iff.mp b).1, of_decide_eq_true (Bool.and_eq_true_iff.mp b).2⟩

inductive S_bars_at : List D → D → Prop
  | mk (x : D) (ns : List Int) (s m l : Int) (hx : Sq x ns) (h : ns.length ≤ 600) (hs : 1 ≤ s) (hs2 : s ≤ 1000000000000000000000000000000) (hm : -1000 ≤ m) (hm2 : m ≤ 1000000000000000000000000000000000) (hl : 0 ≤ l) (hl2 : l ≤ 1000) : S_bars_at [x, .int s, .int m, .int l] (.bl (isBar ns s m l))
local macro_rules | `(tactic| walk_at "zcall") => `(tactic| ((with_reducible refine' S_bars_at.mk _ _ _ _ _ ?k0 ?k1 ?k2 ?k3 ?k4 ?k5 ?k6 ?k7); (case k0 => walk_at "zsq"); (case k1 => walk_at "zsc"); (case k2 => walk_at "zsc"); (case k3 => walk_at "zsc"); (case k4 => walk_at "zsc"); (case k5 => walk_at "zsc"); (case k6 => walk_at "zsc"); (case k7 => walk_at "zsc")))

inductive S__law_fewest : List D → D → Prop
  | mk (ns : List Int) (s : Int) (h : Cts ns) (hs : 1 ≤ s) (hs2 : s ≤ 1000000000000000000000000000000000) : S__law_fewest [.lst (ns.map D.int), .int s] (.int (few ns s))
local macro_rules | `(tactic| walk_at "zcall") => `(tactic| ((with_reducible refine' S__law_fewest.mk _ _ ?k1 ?k2 ?k3); (case k1 => walk_at "zsc"); (case k2 => walk_at "zsc"); (case k3 => walk_at "zsc")))

inductive S__law_bar : List D → D → Prop
  | mk (ns : List Int) (s m : Int) (h : Cts ns) (hs : 1 ≤ s) (hs2 : s ≤ 1000000000000000000000000000000) (hm : 0 ≤ m) (hm2 : m ≤ 1000000000000000000000000000000000) : S__law_bar [.lst (ns.map D.int), .int s, .int m] (optD (lbar ns s m))
local macro_rules | `(tactic| walk_at "zcall") => `(tactic| ((with_reducible refine' S__law_bar.mk _ _ _ ?k1 ?k2 ?k3 ?k4 ?k5); (case k1 => walk_at "zsc"); (case k2 => walk_at "zsc"); (case k3 => walk_at "zsc"); (case k4 => walk_at "zsc"); (case k5 => walk_at "zsc")))

theorem pow_le98 {r : Int} (h : 0 ≤ r) (h2 : r < 99) : 1 ≤ (1 : Int) * 2 ^ r.toNat ∧ (1 : Int) * 2 ^ r.toNat ≤ 316912650057057350374175801344 := by
  obtain ⟨n, rfl⟩ := Int.eq_ofNat_of_zero_le h
  have a : (1 : Nat) ≤ 2 ^ n := Nat.one_le_two_pow
  have b : 2 ^ n ≤ 2 ^ 98 := Nat.pow_le_pow_right (by decide) (by omega)
  have e : (1 : Int) * 2 ^ (n : Int).toNat = ((2 ^ n : Nat) : Int) := by rw [Int.one_mul, Int.toNat_natCast, Int.natCast_pow]; rfl
  rw [e]
  generalize 2 ^ n = x at a b
  have b' : x ≤ 316912650057057350374175801344 := b
  omega
theorem eqv_nil (ns : List Int) : PyData.eqv (toP (.lst (ns.map D.int))) (toP (.lst [])) = decide (ns = []) := by
  cases ns with
  | nil => simp [toP, toPs, PyData.eqv, PyData.eqvAll]
  | cons n ns => simp [toP, toPs, PyData.eqv, PyData.eqvAll]
theorem okD_nil : okD (.lst []) = true := okD_ints []
inductive S__law_numbers : List D → Nat → (D → Prop) → Prop
  | mk (m : Int) (h : 0 ≤ m) (h2 : m ≤ 1000) : S__law_numbers [.int m] 10000 (fun d => ∃ ns : List Int, d = .lst (ns.map D.int) ∧ Rng ns ∧ ((ns.length : Int) ≤ m ∨ (ns.length : Int) ≤ 4))
theorem wd_numbers {K : PySem.W.Frag} {E E' : EK} {ta : TE} {Γ : List Dt} {QD : D → List Dt → Prop} {xc : Value → List (Str × D) → List Dt → Prop} {i n : Nat} (hi : Γ[i]? = some (.bx n))
    (ha : wpD K E ta Γ (fun d Γ1 => ∃ m n1, d = .int m ∧ (0 ≤ m ∧ m ≤ 1000) ∧ Γ1[i]? = some (.bx n1) ∧ n1 + 10000 ≤ 8000000 ∧ ∀ ns : List Int, Rng ns → ((ns.length : Int) ≤ m ∨ (ns.length : Int) ≤ 4) → QD (.lst (ns.map D.int)) (Γ1.set i (.bx (n1 + 10000)))) xc) :
    wpD K E (tCl (spB K S__law_numbers) [] E' (tCons (tVar i) (tCons ta tNil))) Γ QD xc := by
  refine wd_box ⟨n, hi⟩ (wa_cons ?_)
  intro B F H σ e x QQ k
  refine ha B F H σ e x QQ ?_
  rintro v d Γ1 F1 H1 ⟨m, n1, rfl, hm, h1, h2, q⟩ e1 s1 r1
  refine k v (.int m) Γ1 F1 H1 ?_ e1 s1 r1
  exact wa_nil ⟨n1, 10000, _, h1, h2, .mk m hm.1 hm.2, fun d ⟨ns, hd, hr, hl⟩ => by rw [hd]; exact q ns hr hl⟩

inductive S_check_counts : List D → D → Prop
  | mk (x : D) (h : itK x = true) (h2 : arC x = true) : S_check_counts [x] .non
local macro_rules | `(tactic| walk_at "zcall") => `(tactic| ((with_reducible refine' S_check_counts.mk _ ?k1 ?k2); (case k1 => assumption); (case k2 => assumption)))

inductive S_demands : List D → List D → Prop
  | mk (x : D) (ns : List Int) (s : Int) (hx : Sq x ns) (h : Cts ns) (hs : 1 ≤ s) (hs2 : s ≤ 1000000000000000000000000000000) : S_demands [x, .int s] ((demL ns s).map D.int)
local macro_rules | `(tactic| walk_at "zcall") => `(tactic| ((with_reducible refine' S_demands.mk _ _ _ ?k0 ?k1 ?k2 ?k3); (case k0 => walk_at "zsq"); (case k1 => walk_at "zsc"); (case k2 => walk_at "zsc"); (case k3 => walk_at "zsc")))

inductive S_least_bar : List D → D → Prop
  | mk (x : D) (ns : List Int) (s m : Int) (hx : Sq x ns) (h : Cts ns) (hs : 1 ≤ s) (hs2 : s ≤ 1000000000000000000000000000000) (hm : 0 ≤ m) (hm2 : m ≤ 1000000000000000000000000000000000) : S_least_bar [x, .int s, .int m] (optD (lbar ns s m))
local macro_rules | `(tactic| walk_at "zcall") => `(tactic| ((with_reducible refine' S_least_bar.mk _ _ _ _ ?k0 ?k1 ?k2 ?k3 ?k4 ?k5); (case k0 => walk_at "zsq"); (case k1 => walk_at "zsc"); (case k2 => walk_at "zsc"); (case k3 => walk_at "zsc"); (case k4 => walk_at "zsc"); (case k5 => walk_at "zsc")))

inductive S_fewest_for : List D → D → Prop
  | mk (x : D) (ns : List Int) (s : Int) (hx : Sq x ns) (h : Cts ns) (hs : 1 ≤ s) (hs2 : s ≤ 1000000000000000000000000000000) : S_fewest_for [x, .int s] (.int (few ns s))
local macro_rules | `(tactic| walk_at "zcall") => `(tactic| ((with_reducible refine' S_fewest_for.mk _ _ _ ?k0 ?k1 ?k2 ?k3); (case k0 => walk_at "zsq"); (case k1 => walk_at "zsc"); (case k2 => walk_at "zsc"); (case k3 => walk_at "zsc")))

theorem cts_all {ns : List Int} (h : Cts ns) : (ns.map D.int).all (fun x => isI x 1 (1000000000000000000000000000000)) = true := by
  rw [List.all_map, List.all_eq_true]
  intro n hn
  obtain ⟨a, b⟩ := h.2 n hn
  show (decide (1 ≤ n) && decide (n ≤ 1000000000000000000000000000000)) = true
  rw [decide_eq_true a, decide_eq_true b]
  rfl
theorem cts_l {ns : List Int} (h : Cts ns) : arC (.lst (ns.map D.int)) = true := by
  have h1 : ((ns.map D.int).length : Int) ≤ 600 := by rw [List.length_map]; have := h.1; omega
  simp only [arC, cts_all h, Bool.and_true, decide_eq_true_eq]
  exact h1
theorem cts_t {ns : List Int} (h : Cts ns) : arC (.tup (ns.map D.int)) = true := by
  have h1 : ((ns.map D.int).length : Int) ≤ 600 := by rw [List.length_map]; have := h.1; omega
  simp only [arC, cts_all h, Bool.and_true, decide_eq_true_eq]
  exact h1
theorem kno_ints (ns : List Int) : (ns.map D.int).all kno = true := by
  rw [List.all_map, List.all_eq_true]
  intro n hn
  rfl
theorem sq_itK {x : D} {ns : List Int} (h : Sq x ns) : itK x = true := by
  rcases h with rfl | rfl
  · exact kno_ints ns
  · exact kno_ints ns
theorem sq_arC {x : D} {ns : List Int} (h : Sq x ns) (hc : Cts ns) : arC x = true := by
  rcases h with rfl | rfl
  · exact cts_l hc
  · exact cts_t hc

inductive S_check_all : List D → D → Prop
  | mk (x : D) (ns : List Int) (s m : Int) (hx : Sq x ns) (h : Cts ns) (hs : 1 ≤ s) (hs2 : s ≤ 1000000000000000000000000000000) (hm : 0 ≤ m) (hm2 : m ≤ 1000000000000000000000000000000000) : S_check_all [x, .int s, .int m] .non
local macro_rules | `(tactic| walk_at "zcall") => `(tactic| ((with_reducible refine' S_check_all.mk _ _ _ _ ?k0 ?k1 ?k2 ?k3 ?k4 ?k5); (case k0 => walk_at "zsq"); (case k1 => walk_at "zsc"); (case k2 => walk_at "zsc"); (case k3 => walk_at "zsc"); (case k4 => walk_at "zsc"); (case k5 => walk_at "zsc")))

inductive S_fewest : List D → D → Prop
  | mk (x : D) (ns : List Int) (s : Int) (hx : Sq x ns) (h : Cts ns) (hs : 1 ≤ s) (hs2 : s ≤ 1000000000000000000000000000000) : S_fewest [x, .int s] (.int (few ns s))
local macro_rules | `(tactic| walk_at "zcall") => `(tactic| ((with_reducible refine' S_fewest.mk _ _ _ ?k0 ?k1 ?k2 ?k3); (case k0 => walk_at "zsq"); (case k1 => walk_at "zsc"); (case k2 => walk_at "zsc"); (case k3 => walk_at "zsc")))

inductive S_bar : List D → D → Prop
  | mk (x : D) (ns : List Int) (s m : Int) (hx : Sq x ns) (h : Cts ns) (hs : 1 ≤ s) (hs2 : s ≤ 1000000000000000000000000000000) (hm : 0 ≤ m) (hm2 : m ≤ 1000000000000000000000000000000000) : S_bar [x, .int s, .int m] (optD (lbar ns s m))
local macro_rules | `(tactic| walk_at "zcall") => `(tactic| ((with_reducible refine' S_bar.mk _ _ _ _ ?k0 ?k1 ?k2 ?k3 ?k4 ?k5); (case k0 => walk_at "zsq"); (case k1 => walk_at "zsc"); (case k2 => walk_at "zsc"); (case k3 => walk_at "zsc"); (case k4 => walk_at "zsc"); (case k5 => walk_at "zsc")))
theorem optD_sca (o : Option Nat) : sca (optD o) = true := by cases o <;> rfl

theorem bey_ones (n l : Nat) : bey (List.replicate n 1) l = 0 := by
  have p := pw2_pos (l : Int)
  induction n with
  | zero => rfl
  | succ n ih =>
    rw [List.replicate_succ, bey_cons, ih]
    unfold over
    rw [if_neg (by omega)]
    rfl
theorem rep_flat (n : Nat) (x : Int) : (List.replicate n [D.int x]).flatten = (List.replicate n x).map D.int := by
  induction n with
  | zero => rfl
  | succ n ih => rw [List.replicate_succ, List.flatten_cons, ih, List.replicate_succ]; rfl
theorem cts_ones {n : Nat} (h : n ≤ 600) : Cts (List.replicate n 1) := ⟨by rw [List.length_replicate]; exact h, fun y hy => by rw [(List.mem_replicate.mp hy).2]; decide⟩
theorem lbar_ones {n : Nat} {s : Int} (h : n ≤ 600) (hs : 0 < s) : lbar (List.replicate n 1) s 0 = none :=
  (lbar_none (cts_ones h) hs (by decide)).mpr ((few_iff (cts_ones h) hs).mpr ⟨by decide, fun l p => by rw [bey_ones] at p; cases p⟩)
theorem lbar_two {s : Int} : lbar [2] s 0 = some 0 := by
  have T : Top [2] 1 := ⟨by decide, by decide, by decide⟩
  unfold lbar
  rw [top_is0 T]
  have e : bey [2] 0 = 1 := by decide
  have e2 : isBar [2] s 0 ((0 : Nat) : Int) = true := by
    unfold isBar
    show (decide ((0 : Int) ≤ 0) && decide (s * (0 - 0) < bey [2] 0)) = true
    rw [e, Int.sub_self, Int.mul_zero]
    decide
  show List.find? (fun l : Nat => isBar [2] s 0 (l : Int)) [0] = some 0
  exact List.find?_cons_of_pos (p := fun l : Nat => isBar [2] s 0 (l : Int)) e2
theorem few_pos {ns : List Int} {s x : Int} (hc : Cts ns) (hs : 0 < s) (h : x ∈ ns) (h2 : 2 ≤ x) : 1 ≤ few ns s := by
  refine Int.not_lt.mp fun z => ?_
  obtain ⟨a, b⟩ := (few_iff (m := 0) hc hs).mp (by omega)
  have e : 0 < bey ns ((0 : Nat) : Int) := by
    clear hc z a b
    induction ns with
    | nil => cases h
    | cons n ns ih =>
      have f := bey_nn ns ((0 : Nat) : Int)
      have g := over_nn n ((0 : Nat) : Int)
      rw [bey_cons]
      rcases List.mem_cons.mp h with rfl | h
      · have : over x ((0 : Nat) : Int) = x - 1 := by
          have e : pw2 ((0 : Nat) : Int) = 1 := rfl
          unfold over
          rw [e, if_pos (by omega)]
        omega
      · have := ih h
        omega
  have q := b 0 e
  rw [show (0 : Int) - ((0 : Nat) : Int) = 0 from rfl, Int.mul_zero] at q
  omega

section
variable {P : Program} {w : World} {K : PySem.W.Frag} {mg : Str → Option Value} {base : Heap}
set_option maxHeartbeats 4000000 in
theorem ok_is_integer (T : Tx K mg) : FnG P w K mg base (L2.CX P w) 1 T.a_is_integer T.d_is_integer ["value", "low", "high"] (spP K S_is_integer) := by
  refine okG (N := ["value", "low", "high"]) T.F_is_integer sc_is_integer (fun vs H Q E h => lenP (n := 3) (by intro ds d hS; cases hS <;> rfl) h) (fun cdv A outer s H vs Q E hr hG h => ?_)
  have hn : vs.length ≤ (["value", "low", "high"] : List Str).length := by rw [show vs.length = 3 from lenP (n := 3) (by intro ds d hS; cases hS <;> rfl) h]; decide
  refine ⟨_, (pss_one (ps_ret (pe_and (pe_callB call_isi (by rfl) T.n_isinstance (by decide +kernel) (pa_cons (pv 0) (pa_cons (pe_bltn (v := .ty "int") (by rfl) T.n_int (by decide +kernel) rfl) pa_nil))) (pe_and (pe_not (pe_callB call_isi (by rfl) T.n_isinstance (by decide +kernel) (pa_cons (pv 0) (pa_cons (pe_bltn (v := .ty "bool") (by rfl) T.n_bool (by decide +kernel) rfl) pa_nil)))) (pe_one (pe_chain zo_le zo_le (pv 1) (pv 0) (pv 2))))))), fin_P (E := fun _ => E0) h hn (fun ds d hS => ?_)⟩
  try dsimp only [cxK]
  cases hS with
  | mk x lo hi t h =>
    refine ws_ret (we_s (d := .bl (isI x lo hi)) ?_ rfl (Or.inl rfl))
    cases x with
    | int i =>
      refine ev_is (y := .bl (isI (.int i) lo hi)) (x := .bl (true && (!false && (decide (lo ≤ i) && decide (i ≤ hi))))) ?_ (by simp [isI])
      walk_at "zev"
    | bl b =>
      refine ev_is (y := .bl (isI (.bl b) lo hi)) (x := .bl (true && (!true && false))) ?_ (by simp [isI])
      refine ev_andV ?_ (fun _ => ev_andV ?_ (fun z => ?_))
      · walk_at "zev"
      · walk_at "zev"
      · simp at z
    | non =>
      refine ev_is (y := .bl (isI .non lo hi)) (x := .bl (false && false)) ?_ (by simp [isI])
      refine ev_andV ?_ (fun z => ?_)
      · walk_at "zev"
      · simp at z
    | str z =>
      refine ev_is (y := .bl (isI (.str z) lo hi)) (x := .bl (false && false)) ?_ (by simp [isI])
      refine ev_andV ?_ (fun z => ?_)
      · walk_at "zev"
      · simp at z
    | lst z =>
      refine ev_is (y := .bl (isI (.lst z) lo hi)) (x := .bl (false && false)) ?_ (by simp [isI])
      refine ev_andV ?_ (fun z => ?_)
      · walk_at "zev"
      · simp at z
    | tup z =>
      refine ev_is (y := .bl (isI (.tup z) lo hi)) (x := .bl (false && false)) ?_ (by simp [isI])
      refine ev_andV ?_ (fun z => ?_)
      · walk_at "zev"
      · simp at z
    | dic z =>
      refine ev_is (y := .bl (isI (.dic z) lo hi)) (x := .bl (false && false)) ?_ (by simp [isI])
      refine ev_andV ?_ (fun z => ?_)
      · walk_at "zev"
      · simp at z
    | obj C z => simp [tyN] at h

set_option maxHeartbeats 4000000 in
theorem ok_is_list (T : Tx K mg) : FnG P w K mg base (L2.CX P w) 1 T.a_is_list T.d_is_list ["value", "most"] (spP K S_is_list) := by
  refine okG (N := ["value", "most"]) T.F_is_list sc_is_list (fun vs H Q E h => lenP (n := 2) (by intro ds d hS; cases hS <;> rfl) h) (fun cdv A outer s H vs Q E hr hG h => ?_)
  have hn : vs.length ≤ (["value", "most"] : List Str).length := by rw [show vs.length = 2 from lenP (n := 2) (by intro ds d hS; cases hS <;> rfl) h]; decide
  refine ⟨_, (pss_one (ps_ret (pe_and (pe_callB call_isiT (by rfl) T.n_isinstance (by decide +kernel) (pa_cons (pv 0) (pa_cons (pe_tup (pa_cons (pe_bltn (v := .ty "list") (by rfl) T.n_list (by decide +kernel) rfl) (pa_cons (pe_bltn (v := .ty "tuple") (by rfl) T.n_tuple (by decide +kernel) rfl) pa_nil))) pa_nil))) (pe_one (pe_cmpR zo_le (pe_callB (cK (K := K) rLenU rfl zc_len) (by rfl) T.n_len (by decide +kernel) (pa_cons (pv 0) pa_nil)) (pv 1) (nomark _)))))), fin_P (E := fun _ => E0) h hn (fun ds d hS => ?_)⟩
  try dsimp only [cxK]
  cases hS with
  | mk x m t h =>
    refine ws_ret (we_s (d := .bl (isLi x m)) ?_ rfl (Or.inl rfl))
    cases x with
    | lst xs =>
      refine ev_is (x := .bl ((true || false) && decide ((xs.length : Int) ≤ m))) ?_ (by simp [isLi])
      walk_at "zev"
    | tup xs =>
      refine ev_is (x := .bl ((false || true) && decide ((xs.length : Int) ≤ m))) ?_ (by simp [isLi])
      walk_at "zev"
    | obj C z => simp [tyN] at h
    | _ =>
      refine ev_is (x := .bl ((false || false) && false)) ?_ (by simp [isLi])
      refine ev_andV ?_ (fun z => by simp at z)
      walk_at "zev"

set_option maxHeartbeats 4000000 in
theorem ok_beyond (T : Tx K mg) : FnG P w K mg base (L2.CX P w) 1 T.a_beyond T.d_beyond ["counts", "level"] (spP K S_beyond) := by
  refine okG (N := ["counts", "level", "number"]) T.F_beyond sc_beyond (fun vs H Q E h => lenP (n := 2) (by intro ds d hS; cases hS <;> rfl) h) (fun cdv A outer s H vs Q E hr hG h => ?_)
  have hn : vs.length ≤ (["counts", "level", "number"] : List Str).length := by rw [show vs.length = 2 from lenP (n := 2) (by intro ds d hS; cases hS <;> rfl) h]; decide
  refine ⟨_, (pss_one (ps_ret (pe_callB (cK (K := K) rSum rfl (cr_sum rfl)) (by rfl) T.n_sum (by decide +kernel) (pa_cons (pe_lc (own := [("number", 2)]) rfl sc_beyond.nd (pi_seqK (K := K) rfl (pv 0)) (blkOk_by (N := ["counts", "level", "number"]) (sc := defScope s_beyond) (by decide +kernel)) (fun _ _ _ _ _ => (pg_name (i := 2) sc_beyond.nd rfl (Or.inl rfl))) (fun _ _ _ _ _ => pts_nil) (fun _ _ _ _ _ => (pe_callB (zc_max2 rfl) (by rfl) T.n_max (by decide +kernel) (pa_cons pe_int (pa_cons (pe_op zo_sub (pv 2) (pe_op zo_shl pe_int (pv 1))) pa_nil))))) pa_nil)))), fin_P (E := fun _ => E0) h hn (fun ds d hS => ?_)⟩
  try dsimp only [cxK]
  cases hS with
  | l ns l h h2 h3 =>
    refine ws_ret (we_s (d := .int (bey ns l)) ?_ rfl (Or.inl rfl))
    refine ev_cb (ds := [.lst ((ns.map fun n => over n l).map D.int)]) (ea_cons ?_ ea_nil) rc_sum
    rw [List.map_map]
    have cp : CPow 1 l := ⟨h, by omega, by decide⟩
    refine ev_of_l (evl_map ns D.int _ _ (by walk_at "zei") (fun n _ => by walk_at "zeg") (fun n hn => ?_) (by omega))
    exact ev_is (x := .int (if n - 1 * 2 ^ l.toNat > 0 then n - 1 * 2 ^ l.toNat else 0)) (by walk_at "zev") rfl
  | t ns l h h2 h3 =>
    refine ws_ret (we_s (d := .int (bey ns l)) ?_ rfl (Or.inl rfl))
    refine ev_cb (ds := [.lst ((ns.map fun n => over n l).map D.int)]) (ea_cons ?_ ea_nil) rc_sum
    rw [List.map_map]
    have cp : CPow 1 l := ⟨h, by omega, by decide⟩
    refine ev_of_l (evl_map ns D.int _ _ (by walk_at "zei") (fun n _ => by walk_at "zeg") (fun n hn => ?_) (by omega))
    exact ev_is (x := .int (if n - 1 * 2 ^ l.toNat > 0 then n - 1 * 2 ^ l.toNat else 0)) (by walk_at "zev") rfl

set_option maxHeartbeats 4000000 in
theorem ok_rounded_up (T : Tx K mg) : FnG P w K mg base (L2.CX P w) 1 T.a_rounded_up T.d_rounded_up ["number", "divisor"] (spP K S_rounded_up) := by
  refine okG (N := ["number", "divisor"]) T.F_rounded_up sc_rounded_up (fun vs H Q E h => lenP (n := 2) (by intro ds d hS; cases hS <;> rfl) h) (fun cdv A outer s H vs Q E hr hG h => ?_)
  have hn : vs.length ≤ (["number", "divisor"] : List Str).length := by rw [show vs.length = 2 from lenP (n := 2) (by intro ds d hS; cases hS <;> rfl) h]; decide
  refine ⟨_, (pss_one (ps_ret (pe_op zo_fdiv (pe_op zo_sub (pe_op (oK (K := K) rAddU rfl zo_add) (pv 0) (pv 1)) pe_int) (pv 1)))), fin_P (E := fun _ => E0) h hn (fun ds d hS => ?_)⟩
  try dsimp only [cxK]
  cases hS with
  | mk a b h h2 =>
    have hd : CDivW (a + b - 1) b := wide_div (b := 100) h (by omega) (by decide) (by decide)
    exact ws_ret (we_s (d := .int ((a + b - 1) / b)) (by walk_at "zev") rfl (Or.inl rfl))

set_option maxHeartbeats 4000000 in
theorem ok__law_cell (T : Tx K mg) : FnG P w K mg base (L2.CX P w) 1 T.a__law_cell T.d__law_cell ["script", "k"] (spC K) := by
  refine okG (N := ["script", "k"]) T.F__law_cell sc__law_cell (fun vs H Q E h => lenC h) (fun cdv A outer s H vs Q E hr hG h => ?_)
  have hn : vs.length ≤ (["script", "k"] : List Str).length := by rw [show vs.length = 2 from lenC h]; decide
  refine ⟨_, (pss_cons (ps_if (pt_cmpR zo_lt (pv 1) (pe_callB (cK (K := K) rLenU rfl zc_len) (by rfl) T.n_len (by decide +kernel) (pa_cons (pv 0) pa_nil)) (nomark _)) (pss_one (ps_ret (pe_ix (ixK (K := K) rfl) (pv 0) (pv 1) (fun _ _ => rfl)))) pss_nil) 
      (pss_one (ps_ret (pe_op (oK (K := K) rAddU rfl zo_add) (pe_op zo_mul pe_int (pv 1)) pe_int)))), fin_C (E := fun _ => E0) h hn (fun ns k hk => ?_)⟩
  try dsimp only [cxK]
  refine ws_seq (ws_if ?_)
  refine wt_test (wd_op (wd_s (d := .int k) (by walk_at "zev") rfl ?_))
  refine wd_lenscr (ns := ns) rfl ⟨_, rv_lt, _, rfl, fun z => ?_, fun z => ws_next ?_⟩
  · have lt := of_decide_eq_true z
    obtain ⟨j, rfl⟩ := Int.eq_ofNat_of_zero_le hk.1
    have hj : j < ns.length := by omega
    have hk0 := hk.1
    refine ws_ret (we_D (wd_ixscr (ns := ns) (kk := (j : Int)) (z := ns[j]) rfl (by walk_at "zev") ?_ ⟨_, rfl⟩) fun _ _ q => q)
    unfold atI ixN
    rw [if_pos hk0, if_pos lt]
    simp [hj]
  · refine ws_ret (we_s (d := .int (32452843 * k + 55)) ?_ rfl ⟨_, rfl⟩)
    have hm : CMulW 32452843 k := wide_mul (a := 40) (b := 11) (by decide) (by omega) (by decide) (by decide) (by decide)
    walk_at "zev"

set_option maxHeartbeats 4000000 in
theorem ok__law_box (T : Tx K mg) : FnG P w K mg base (L2.CX P w) 1 T.a__law_box T.d__law_box ["cell"] spX := by
  refine okG (N := ["cell"]) T.F__law_box sc__law_box (fun vs H Q E h => lenX h) (fun cdv A outer s H vs Q E hr hG h => ?_)
  have hn : vs.length ≤ (["cell"] : List Str).length := by rw [show vs.length = 1 from lenX h]; decide
  refine ⟨_, (pss_one (ps_ret (pe_lst (pa_cons (pe_callB (zc_max2 rfl) (by rfl) T.n_max (by decide +kernel) (pa_cons pe_int (pa_cons (pe_op zo_sub (pv 0) (pe_op zo_pow pe_int pe_int)) pa_nil))) (pa_cons (pe_op zo_mod (pv 0) pe_int) (pa_cons pe_int pa_nil)))))), fin_X (K := K) (E := fun _ => E0) h hn (fun z => ?_)⟩
  try dsimp only [cxK]
  have h1 := Int.emod_nonneg z (show (2147483629 : Int) ≠ 0 by decide)
  have h2 := Int.emod_lt_of_pos z (show (0 : Int) < 2147483629 by decide)
  have hp : CPow 10 18 := ⟨by decide, by decide, by decide⟩
  refine ws_ret (we_l (ds := [.int (if z - 10 ^ (18 : Int).toNat > 0 then z - 10 ^ (18 : Int).toNat else 0), .int (z % 2147483629), .int 0]) (evl_lst ?_ (by show 3 ≤ 1000000; decide)) ⟨_, _, rfl, by split <;> omega, h1, h2⟩)
  walk_at "zev"

set_option maxHeartbeats 4000000 in
theorem ok__law_take (T : Tx K mg) : FnG P w K mg base (L2.CX P w) 1 T.a__law_take T.d__law_take ["box", "many"] (spB K S__law_take) := by
  refine okG (N := ["box", "many", "digit", "one", "two"]) T.F__law_take sc__law_take (fun vs H Q E h => lenB (n := 1) (by intro ds c Rs hS; cases hS <;> rfl) h) (fun cdv A outer s H vs Q E hr hG h => ?_)
  have hn : vs.length ≤ (["box", "many", "digit", "one", "two"] : List Str).length := by rw [show vs.length = 2 from lenB (n := 1) (by intro ds c Rs hS; cases hS <;> rfl) h]; decide
  refine ⟨_, (pss_cons (ps_if (pt_cmpR zo_gt (pe_ix (ixK (K := K) rfl) (pv 0) pe_int (fun _ _ => rfl)) pe_int (nomark _)) (pss_cons (ps_set (i := 2) sc__law_take.nd rfl (Or.inl rfl) (pe_op zo_mod (pe_ix (ixK (K := K) rfl) (pv 0) pe_int (fun _ _ => rfl)) (pv 1))) 
      (pss_cons (ps_asg (pe_op zo_fdiv (pe_ix (ixK (K := K) rfl) (pv 0) pe_int (fun _ _ => rfl)) (pv 1)) (pg_sub (pv 0) pe_int set_list)) 
      (pss_one (ps_ret (pv 2))))) pss_nil) 
      (pss_cons (ps_asg (pe_op (oK (K := K) rAddU rfl zo_add) (pe_ix (ixK (K := K) rfl) (pv 0) pe_int (fun _ _ => rfl)) pe_int) (pg_sub (pv 0) pe_int set_list)) 
      (pss_cons (ps_set (i := 3) sc__law_take.nd rfl (Or.inl rfl) (pe_op zo_mod (pe_op zo_pow (pe_op (oK (K := K) rAddU rfl zo_add) (pe_op (oK (K := K) rAddU rfl zo_add) (pe_ix (ixK (K := K) rfl) (pv 0) pe_int (fun _ _ => rfl)) (pe_op zo_mul pe_int (pe_ix (ixK (K := K) rfl) (pv 0) pe_int (fun _ _ => rfl)))) pe_int) pe_int) pe_int)) 
      (pss_cons (ps_set (i := 4) sc__law_take.nd rfl (Or.inl rfl) (pe_op zo_mod (pe_op zo_pow (pe_op (oK (K := K) rAddU rfl zo_add) (pe_op (oK (K := K) rAddU rfl zo_add) (pe_op zo_fdiv (pv 3) pe_int) (pe_op zo_mul (pe_op zo_mul pe_int (pe_ix (ixK (K := K) rfl) (pv 0) pe_int (fun _ _ => rfl))) (pe_ix (ixK (K := K) rfl) (pv 0) pe_int (fun _ _ => rfl)))) pe_int) pe_int) pe_int)) 
      (pss_one (ps_ret (pe_op zo_mod (pe_op (oK (K := K) rAddU rfl zo_add) (pe_op zo_fdiv (pv 3) pe_int) (pe_op zo_mul pe_int (pe_op zo_fdiv (pv 4) pe_int))) (pv 1)))))))), fin_T (E := fun _ => E0) h hn (fun ds c Rs n a l u hS hc hb => ?_)⟩
  try dsimp only [cxK]
  cases hS with
  | mk m h h2 =>
    obtain ⟨a', l', u', e, ha, hl, hl2, hu, hun⟩ := hb
    cases e
    have dm : ∀ x, CDivW x m := fun x => take_div h h2
    have dma := dm a
    refine ws_seq (ws_if (wt_p (b := decide (0 < a)) (by walk_at "zev") ⟨fun z => ?_, fun z => ws_next ?_⟩))
    · refine ws_seq (ws_asg (by decide) (we_s (d := .int (a % m)) (by walk_at "zev") rfl ?_))
      refine ws_seq (ws_setO ⟨_, rfl⟩ (wd_s (d := .int (a / m)) (by walk_at "zev") rfl ⟨_, 0, 0, rfl, by walk_at "zev", rfl, ?_⟩))
      refine ws_ret (we_s (d := .int (a % m)) (by walk_at "zev") rfl ⟨_, ⟨a % m, rfl, Int.emod_nonneg a (by omega), Int.emod_lt_of_pos a h⟩, rfl, a / m, l, u, rfl, ?_⟩)
      exact ⟨_, _, _, rfl, Int.ediv_nonneg ha (by omega), hl, hl2, hu, by omega⟩
    · have q1 := take_sq (w := u + 1) (by omega) (by omega)
      have m1 : CMulW 7919 (u + 1) := wide_mul (a := 20) (b := 30) (by decide) (by omega) (by decide) (by decide) (by decide)
      have p1 : CPow (l + 7919 * (u + 1) + 55) 5 := ⟨by decide, by decide, by omega⟩
      have g1 := Int.emod_nonneg ((l + 7919 * (u + 1) + 55) ^ (5 : Int).toNat) (show (2147483647 : Int) ≠ 0 by decide)
      have g2 := Int.emod_lt_of_pos ((l + 7919 * (u + 1) + 55) ^ (5 : Int).toNat) (show (0 : Int) < 2147483647 by decide)
      refine ws_seq (ws_setO ⟨_, rfl⟩ (wd_s (d := .int (u + 1)) (by walk_at "zev") rfl ⟨_, 2, 2, rfl, by walk_at "zev", rfl, ?_⟩))
      refine ws_seq (ws_asg (by decide) (we_s (d := .int ((l + 7919 * (u + 1) + 55) ^ (5 : Int).toNat % 2147483647)) (by walk_at "zev") rfl ?_))
      generalize (l + 7919 * (u + 1) + 55) ^ (5 : Int).toNat % 2147483647 = one at g1 g2 ⊢
      have m2 : CMulW 104729 (u + 1) := wide_mul (a := 20) (b := 30) (by decide) (by omega) (by decide) (by decide) (by decide)
      have m3 : CMulW (104729 * (u + 1)) (u + 1) := wide_mul (a := 60) (b := 30) (by omega) (by omega) (by decide) (by decide) (by decide)
      have d8 : CDivW one 8 := cdiv_c (by decide) (by decide)
      have p2 : CPow (one / 8 + 104729 * (u + 1) * (u + 1) + 11) 3 := ⟨by decide, by decide, by omega⟩
      refine ws_seq (ws_asg (by decide) (we_s (d := .int ((one / 8 + 104729 * (u + 1) * (u + 1) + 11) ^ (3 : Int).toNat % 2147483587)) (by walk_at "zev") rfl ?_))
      have k1 := Int.emod_nonneg ((one / 8 + 104729 * (u + 1) * (u + 1) + 11) ^ (3 : Int).toNat) (show (2147483587 : Int) ≠ 0 by decide)
      have k2 := Int.emod_lt_of_pos ((one / 8 + 104729 * (u + 1) * (u + 1) + 11) ^ (3 : Int).toNat) (show (0 : Int) < 2147483587 by decide)
      generalize (one / 8 + 104729 * (u + 1) * (u + 1) + 11) ^ (3 : Int).toNat % 2147483587 = two at k1 k2 ⊢
      have d4 : CDivW one 4 := cdiv_c (by decide) (by decide)
      have d5 : CDivW two 4 := cdiv_c (by decide) (by decide)
      have m4 : CMulW 536870909 (two / 4) := wide_mul (a := 40) (b := 40) (by decide) (by omega) (by decide) (by decide) (by decide)
      refine ws_ret (we_s (d := .int ((one / 4 + 536870909 * (two / 4)) % m)) (by walk_at "zev") rfl ⟨_, ⟨_, rfl, Int.emod_nonneg _ (by omega), Int.emod_lt_of_pos _ h⟩, rfl, a, l, u + 1, rfl, ?_⟩)
      exact ⟨_, _, _, rfl, ha, hl, hl2, by omega, by omega⟩

set_option maxHeartbeats 4000000 in
theorem ok__law_equal (T : Tx K mg) : FnG P w K mg base (L2.CX P w) 1 T.a__law_equal T.d__law_equal ["result", "expected"] (spP K S__law_equal) := by
  refine okG (N := ["result", "expected"]) T.F__law_equal sc__law_equal (fun vs H Q E h => lenP (n := 2) (by intro ds d hS; cases hS <;> rfl) h) (fun cdv A outer s H vs Q E hr hG h => ?_)
  have hn : vs.length ≤ (["result", "expected"] : List Str).length := by rw [show vs.length = 2 from lenP (n := 2) (by intro ds d hS; cases hS <;> rfl) h]; decide
  refine ⟨_, (pss_one (ps_ret (pe_and (pe_cmpR (oK (K := K) rEqU rfl (zo_eq hr.units)) (pv 0) (pv 1) (nomark _)) (pe_one (pe_cmpR (oK (K := K) rEqU rfl (zo_eq hr.units)) (pe_callB (cK (K := K) rRepr rfl (zc_repr hG (hu70 hr))) (by rfl) T.n_repr (by decide +kernel) (pa_cons (pv 0) pa_nil)) (pe_callB (cK (K := K) rRepr rfl (zc_repr hG (hu70 hr))) (by rfl) T.n_repr (by decide +kernel) (pa_cons (pv 1) pa_nil)) (nomark _)))))), fin_P (E := fun _ => E0) h hn (fun ds d hS => ?_)⟩
  try dsimp only [cxK]
  cases hS with
  | mk d h =>
    obtain ⟨h, h2⟩ := h
    refine ws_ret (we_s (d := .bl true) ?_ rfl (Or.inl rfl))
    refine ev_is (x := .bl (true && true)) (ev_andV ?_ (fun _ => ?_)) rfl
    · walk_at "zev"
    · have hr := rc_repr (K := K) (okD_p h) h2
      have e := rv_eqT (K := K) (i := (toP d).shown) (j := (toP d).shown)
      rw [decide_eq_true rfl] at e
      exact ev_op (ev_cb (by walk_at "zev") hr) (ev_cb (by walk_at "zev") hr) e

set_option maxHeartbeats 4000000 in
theorem ok__law_excess (T : Tx K mg) : FnG P w K mg base (L2.CX P w) 1 T.a__law_excess T.d__law_excess ["counts", "level"] (spP K S__law_excess) := by
  refine okG (N := ["counts", "level", "number"]) T.F__law_excess sc__law_excess (fun vs H Q E h => lenP (n := 2) (by intro ds d hS; cases hS <;> rfl) h) (fun cdv A outer s H vs Q E hr hG h => ?_)
  have hn : vs.length ≤ (["counts", "level", "number"] : List Str).length := by rw [show vs.length = 2 from lenP (n := 2) (by intro ds d hS; cases hS <;> rfl) h]; decide
  refine ⟨_, (pss_one (ps_ret (pe_callB (cK (K := K) rSum rfl (cr_sum rfl)) (by rfl) T.n_sum (by decide +kernel) (pa_cons (pe_lc (own := [("number", 2)]) rfl sc__law_excess.nd (pi_seqK (K := K) rfl (pv 0)) (blkOk_by (N := ["counts", "level", "number"]) (sc := defScope s__law_excess) (by decide +kernel)) (fun _ _ _ _ _ => (pg_name (i := 2) sc__law_excess.nd rfl (Or.inl rfl))) (fun _ _ _ _ _ => pts_nil) (fun _ _ _ _ _ => (pe_callB (zc_max2 rfl) (by rfl) T.n_max (by decide +kernel) (pa_cons pe_int (pa_cons (pe_op zo_sub (pv 2) (pe_op zo_shl pe_int (pv 1))) pa_nil))))) pa_nil)))), fin_P (E := fun _ => E0) h hn (fun ds d hS => ?_)⟩
  try dsimp only [cxK]
  cases hS with
  | l ns l h h2 h3 =>
    refine ws_ret (we_s (d := .int (bey ns l)) ?_ rfl (Or.inl rfl))
    refine ev_cb (ds := [.lst ((ns.map fun n => over n l).map D.int)]) (ea_cons ?_ ea_nil) rc_sum
    rw [List.map_map]
    have cp : CPow 1 l := ⟨h, by omega, by decide⟩
    refine ev_of_l (evl_map ns D.int _ _ (by walk_at "zei") (fun n _ => by walk_at "zeg") (fun n hn => ?_) (by omega))
    exact ev_is (x := .int (if n - 1 * 2 ^ l.toNat > 0 then n - 1 * 2 ^ l.toNat else 0)) (by walk_at "zev") rfl

set_option maxHeartbeats 4000000 in
theorem ok_are_counts (T : Tx K mg) : FnG P w K mg base (L2.CX P w) 2 T.a_are_counts T.d_are_counts ["value"] (spP K S_are_counts) := by
  refine okG (N := ["value", "number"]) T.F_are_counts sc_are_counts (fun vs H Q E h => lenP (n := 1) (by intro ds d hS; cases hS <;> rfl) h) (fun cdv A outer s H vs Q E hr hG h => ?_)
  have hn : vs.length ≤ (["value", "number"] : List Str).length := by rw [show vs.length = 1 from lenP (n := 1) (by intro ds d hS; cases hS <;> rfl) h]; decide
  refine ⟨_, (pss_one (ps_ret (pe_and (pe_cl (E := fun _ => E0) (ok_is_list T) (hr.mono (by decide)) hG (by rfl) T.m_is_list T.F_is_list.kp T.b_is_list .nil pz (pa_cons (pv 0) (pa_cons (pe_gi (by rfl) T.c_MOST_COUNTS) pa_nil))) (pe_one (pe_callB (cK (K := K) rAll rfl (cr_all rfl)) (by rfl) T.n_all (by decide +kernel) (pa_cons (pe_lc (own := [("number", 1)]) rfl sc_are_counts.nd (pi_seqK (K := K) rfl (pv 0)) (blkOk_by (N := ["value", "number"]) (sc := defScope s_are_counts) (by decide +kernel)) (fun _ _ _ _ _ => (pg_name (i := 1) sc_are_counts.nd rfl (Or.inl rfl))) (fun _ _ _ _ _ => pts_nil) (fun _ _ _ _ _ => (pe_cl (E := fun _ => E0) (ok_is_integer T) (hr.mono (by decide)) hG (by rfl) T.m_is_integer T.F_is_integer.kp T.b_is_integer .nil pz (pa_cons (pv 1) (pa_cons pe_int (pa_cons (pe_gi (by rfl) T.c_GREATEST_COUNT) pa_nil)))))) pa_nil)))))), fin_P (E := fun _ => E0) h hn (fun ds d hS => ?_)⟩
  try dsimp only [cxK]
  cases hS with
  | mk x h =>
    refine ws_ret (we_s (d := .bl (arC x)) ?_ rfl (Or.inl rfl))
    have one : ∀ xs : List D, xs.all kno = true → xs.map (fun x => D.bl (isI x 1 (1000000000000000000000000000000))) = (xs.map fun x => isI x 1 (1000000000000000000000000000000)).map D.bl := fun xs _ => by rw [List.map_map]; rfl
    have al : ∀ xs : List D, (xs.map fun x => isI x 1 (1000000000000000000000000000000)).all id = xs.all fun x => isI x 1 (1000000000000000000000000000000) := fun xs => by rw [List.all_map]; rfl
    cases x with
    | lst xs =>
      refine ev_is (x := .bl (decide ((xs.length : Int) ≤ 600) && (xs.map fun x => isI x 1 (1000000000000000000000000000000)).all id)) ?_ (by rw [al]; rfl)
      refine ev_andV ?_ (fun z => ?_)
      · exact ev_is (x := .bl (isLi (.lst xs) 600)) (by walk_at "zev") rfl
      · have hz : xs.length ≤ 600 := by have := of_decide_eq_true z; omega
        refine ev_cb (ds := [.lst ((xs.map fun x => isI x 1 (1000000000000000000000000000000)).map D.bl)]) (ea_cons ?_ ea_nil) rc_all
        rw [← one xs h]
        refine ev_of_l (evl_map xs id _ _ (by rw [List.map_id]; walk_at "zei") (fun n _ => by walk_at "zeg") (fun n hn => ?_) (by omega))
        obtain ⟨t, ht⟩ := kno_t (List.all_eq_true.mp h n hn)
        have ht' : tyN (id n) = some t := ht
        exact ev_is (x := .bl (isI (id n) 1 (1000000000000000000000000000000))) (by walk_at "zev") rfl
    | tup xs =>
      refine ev_is (x := .bl (decide ((xs.length : Int) ≤ 600) && (xs.map fun x => isI x 1 (1000000000000000000000000000000)).all id)) ?_ (by rw [al]; rfl)
      refine ev_andV ?_ (fun z => ?_)
      · exact ev_is (x := .bl (isLi (.tup xs) 600)) (by walk_at "zev") rfl
      · have hz : xs.length ≤ 600 := by have := of_decide_eq_true z; omega
        refine ev_cb (ds := [.lst ((xs.map fun x => isI x 1 (1000000000000000000000000000000)).map D.bl)]) (ea_cons ?_ ea_nil) rc_all
        rw [← one xs h]
        refine ev_of_l (evl_map xs id _ _ (by rw [List.map_id]; walk_at "zei") (fun n _ => by walk_at "zeg") (fun n hn => ?_) (by omega))
        obtain ⟨t, ht⟩ := kno_t (List.all_eq_true.mp h n hn)
        have ht' : tyN (id n) = some t := ht
        exact ev_is (x := .bl (isI (id n) 1 (1000000000000000000000000000000))) (by walk_at "zev") rfl
    | obj C z => simp [itK, kno, tyN] at h
    | _ =>
      refine ev_is (x := .bl (false && false)) ?_ (by simp [arC])
      refine ev_andV ?_ (fun z => by simp at z)
      first
        | exact ev_is (x := .bl (isLi .non 600)) (by walk_at "zev") rfl
        | exact ev_is (x := .bl (isLi (.bl _) 600)) (by walk_at "zev") rfl
        | exact ev_is (x := .bl (isLi (.int _) 600)) (by walk_at "zev") rfl
        | exact ev_is (x := .bl (isLi (.str _) 600)) (by walk_at "zev") rfl
        | exact ev_is (x := .bl (isLi (.dic _) 600)) (by walk_at "zev") rfl

set_option maxHeartbeats 4000000 in
theorem ok_check_height (T : Tx K mg) : FnG P w K mg base (L2.CX P w) 2 T.a_check_height T.d_check_height ["stack"] (spP K S_check_height) := by
  refine okG (N := ["stack"]) T.F_check_height sc_check_height (fun vs H Q E h => lenP (n := 1) (by intro ds d hS; cases hS <;> rfl) h) (fun cdv A outer s H vs Q E hr hG h => ?_)
  have hn : vs.length ≤ (["stack"] : List Str).length := by rw [show vs.length = 1 from lenP (n := 1) (by intro ds d hS; cases hS <;> rfl) h]; decide
  refine ⟨_, (pss_one (ps_if (pt_not (pt_val (pe_cl (E := fun _ => E0) (ok_is_integer T) (hr.mono (by decide)) hG (by rfl) T.m_is_integer T.F_is_integer.kp T.b_is_integer .nil pz (pa_cons (pv 0) (pa_cons pe_int (pa_cons (pe_gi (by rfl) T.c_GREATEST_STACK) pa_nil)))))) pss_never pss_nil)), fin_P (E := fun _ => E0) h hn (fun ds d hS => ?_)⟩
  try dsimp only [cxK]
  cases hS with
  | mk s h h2 =>
    refine ws_if (wt_p (b := !(isI (.int s) 1 1000000000000000000000000000000)) (et_not (by walk_at "zev")) ⟨fun z => ?_, fun z => ws_next rfl⟩)
    have : isI (.int s) 1 1000000000000000000000000000000 = true := by
      show (decide (1 ≤ s) && decide (s ≤ 1000000000000000000000000000000)) = true
      rw [decide_eq_true h, decide_eq_true h2]
      rfl
    rw [this] at z
    cases z

set_option maxHeartbeats 4000000 in
theorem ok_check_strokes (T : Tx K mg) : FnG P w K mg base (L2.CX P w) 2 T.a_check_strokes T.d_check_strokes ["strokes", "most"] (spP K S_check_strokes) := by
  refine okG (N := ["strokes", "most"]) T.F_check_strokes sc_check_strokes (fun vs H Q E h => lenP (n := 2) (by intro ds d hS; cases hS <;> rfl) h) (fun cdv A outer s H vs Q E hr hG h => ?_)
  have hn : vs.length ≤ (["strokes", "most"] : List Str).length := by rw [show vs.length = 2 from lenP (n := 2) (by intro ds d hS; cases hS <;> rfl) h]; decide
  refine ⟨_, (pss_one (ps_if (pt_not (pt_val (pe_cl (E := fun _ => E0) (ok_is_integer T) (hr.mono (by decide)) hG (by rfl) T.m_is_integer T.F_is_integer.kp T.b_is_integer .nil pz (pa_cons (pv 0) (pa_cons pe_int (pa_cons (pv 1) pa_nil)))))) pss_never pss_nil)), fin_P (E := fun _ => E0) h hn (fun ds d hS => ?_)⟩
  try dsimp only [cxK]
  cases hS with
  | mk s m h h2 =>
    refine ws_if (wt_p (b := !(isI (.int s) 0 m)) (et_not (by walk_at "zev")) ⟨fun z => ?_, fun z => ws_next rfl⟩)
    have : isI (.int s) 0 m = true := by
      show (decide (0 ≤ s) && decide (s ≤ m)) = true
      rw [decide_eq_true h, decide_eq_true h2]
      rfl
    rw [this] at z
    cases z

set_option maxHeartbeats 4000000 in
theorem ok_excesses (T : Tx K mg) : FnG P w K mg base (L2.CX P w) 2 T.a_excesses T.d_excesses ["counts"] (spP K S_excesses) := by
  refine okG (N := ["counts", "found", "level"]) T.F_excesses sc_excesses (fun vs H Q E h => lenP (n := 1) (by intro ds d hS; cases hS <;> rfl) h) (fun cdv A outer s H vs Q E hr hG h => ?_)
  have hn : vs.length ≤ (["counts", "found", "level"] : List Str).length := by rw [show vs.length = 1 from lenP (n := 1) (by intro ds d hS; cases hS <;> rfl) h]; decide
  refine ⟨_, (pss_cons (ps_set (i := 1) sc_excesses.nd rfl (Or.inl rfl) (pe_lst pa_nil)) 
      (pss_cons (ps_set (i := 2) sc_excesses.nd rfl (Or.inl rfl) pe_int) 
      (pss_cons (ps_while (passes_of rfl) (pt_cmpR zo_gt (pe_cl (E := fun _ => E0) (ok_beyond T) (hr.mono (by decide)) hG (by rfl) T.m_beyond T.F_beyond.kp T.b_beyond .nil pz (pa_cons (pv 0) (pa_cons (pv 2) pa_nil))) pe_int (nomark _)) (pss_cons (ps_expr (pe_bm PySem.F.plainAttrs_list PySem.F.slot_list_append PySem.F.type_list_append mt_append (pv 1) (pa_cons (pe_cl (E := fun _ => E0) (ok_beyond T) (hr.mono (by decide)) hG (by rfl) T.m_beyond T.F_beyond.kp T.b_beyond .nil pz (pa_cons (pv 0) (pa_cons (pv 2) pa_nil))) pa_nil))) 
      (pss_one (ps_set (i := 2) sc_excesses.nd rfl (Or.inl rfl) (pe_op (oK (K := K) rAddU rfl zo_add) (pv 2) pe_int))))) 
      (pss_one (ps_ret (pv 1)))))), fin_P (E := fun _ => E0) h hn (fun ds d hS => ?_)⟩
  try dsimp only [cxK]
  cases hS with
  | mk x ns hx h =>
    have T' := h.top
    have hl := h.1
    refine ws_seq (ws_asg (by decide) (we_l (ds := []) (evl_lst ea_nil (by decide)) ?_))
    refine ws_seq (ws_asg (by decide) (we_d (d := .int 0) (by walk_at "zev") ?_))
    refine ws_seq (ws_while (fun m Γ' => ∃ k : Nat, m + k = top ns ∧ Γ' = [.im x, .own (((excL ns).take k).map D.int), .im (.int (k : Int))]) (top ns) ⟨0, by omega, rfl⟩ ?_)
    rintro m _ ⟨k, hk, rfl⟩
    have h100 := T'.2.2
    have ti := top_is T' (k := k) (by omega)
    refine wt_p (b := decide (0 < bey ns (k : Int))) (by walk_at "zev") ⟨fun z => ?_, fun z => ?_⟩
    · have lt := ti.2.mp (of_decide_eq_true z)
      refine ws_seq (ws_app (wd_s (d := .int (bey ns (k : Int))) (by walk_at "zev") rfl ⟨_, rfl, ?_, ?_⟩) ⟨_, rfl⟩)
      · rw [List.length_map, List.length_take]; omega
      · rw [← take_snoc (excL_get lt)]
        refine ws_asg (by decide) (we_d (d := .int ((k : Int) + 1)) (by walk_at "zev") ⟨m - 1, by omega, k + 1, by omega, ?_⟩)
        rfl
    · have ge : k = top ns := by
        have : ¬ (0 < bey ns (k : Int)) := of_decide_eq_false z
        have := mt ti.2.mpr this
        omega
      have e : (excL ns).take k = excL ns := List.take_of_length_le (by rw [excL_len]; omega)
      rw [e]
      exact ws_retO rfl (by decide) (Or.inr ⟨_, rfl, rfl⟩)

set_option maxHeartbeats 4000000 in
theorem ok_bars_at (T : Tx K mg) : FnG P w K mg base (L2.CX P w) 2 T.a_bars_at T.d_bars_at ["counts", "stack", "strokes", "level"] (spP K S_bars_at) := by
  refine okG (N := ["counts", "stack", "strokes", "level"]) T.F_bars_at sc_bars_at (fun vs H Q E h => lenP (n := 4) (by intro ds d hS; cases hS <;> rfl) h) (fun cdv A outer s H vs Q E hr hG h => ?_)
  have hn : vs.length ≤ (["counts", "stack", "strokes", "level"] : List Str).length := by rw [show vs.length = 4 from lenP (n := 4) (by intro ds d hS; cases hS <;> rfl) h]; decide
  refine ⟨_, (pss_one (ps_ret (pe_and (pe_cmpR zo_le (pv 3) (pv 2) (nomark _)) (pe_one (pe_cmpR zo_gt (pe_cl (E := fun _ => E0) (ok_beyond T) (hr.mono (by decide)) hG (by rfl) T.m_beyond T.F_beyond.kp T.b_beyond .nil pz (pa_cons (pv 0) (pa_cons (pv 3) pa_nil))) (pe_op zo_mul (pv 1) (pe_op zo_sub (pv 2) (pv 3))) (nomark _)))))), fin_P (E := fun _ => E0) h hn (fun ds d hS => ?_)⟩
  try dsimp only [cxK]
  cases hS with
  | mk x ns s m l hx h hs hs2 hm hm2 hl hl2 =>
    have cm : CMulW s (m - l) := wide_mul (a := 110) (b := 120) (by omega) (by omega) (by decide) (by decide) (by decide)
    exact ws_ret (we_s (d := .bl (isBar ns s m l)) (by unfold isBar; walk_at "zev") rfl (Or.inl rfl))

set_option maxHeartbeats 4000000 in
theorem ok__law_fewest (T : Tx K mg) : FnG P w K mg base (L2.CX P w) 2 T.a__law_fewest T.d__law_fewest ["counts", "stack"] (spP K S__law_fewest) := by
  refine okG (N := ["counts", "stack", "most", "level", "more"]) T.F__law_fewest sc__law_fewest (fun vs H Q E h => lenP (n := 2) (by intro ds d hS; cases hS <;> rfl) h) (fun cdv A outer s H vs Q E hr hG h => ?_)
  have hn : vs.length ≤ (["counts", "stack", "most", "level", "more"] : List Str).length := by rw [show vs.length = 2 from lenP (n := 2) (by intro ds d hS; cases hS <;> rfl) h]; decide
  refine ⟨_, (pss_cons (ps_set (i := 2) sc__law_fewest.nd rfl (Or.inl rfl) pe_int) 
      (pss_cons (ps_for (passes_of rfl) rfl (pi_range1 (by rfl) T.n_range (pa_cons pe_int pa_nil)) (pg_name (i := 3) sc__law_fewest.nd rfl (Or.inl rfl)) (pss_cons (ps_set (i := 4) sc__law_fewest.nd rfl (Or.inl rfl) (pe_cl (E := fun _ => E0) (ok__law_excess T) (hr.mono (by decide)) hG (by rfl) T.m__law_excess T.F__law_excess.kp T.b__law_excess .nil pz (pa_cons (pv 0) (pa_cons (pv 3) pa_nil)))) 
      (pss_cons (ps_if (pt_cmpR (oK (K := K) rEqU rfl (zo_eq hr.units)) (pv 4) pe_int (nomark _)) (pss_one ps_break) pss_nil) 
      (pss_one (ps_set (i := 2) sc__law_fewest.nd rfl (Or.inl rfl) (pe_callB (zc_max2 rfl) (by rfl) T.n_max (by decide +kernel) (pa_cons (pv 2) (pa_cons (pe_op (oK (K := K) rAddU rfl zo_add) (pv 3) (pe_op zo_fdiv (pe_op zo_sub (pe_op (oK (K := K) rAddU rfl zo_add) (pv 4) (pv 1)) pe_int) (pv 1))) pa_nil)))))))) 
      (pss_one (ps_ret (pv 2))))), fin_P (E := fun _ => E0) h hn (fun ds d hS => ?_)⟩
  try dsimp only [cxK]
  cases hS with
  | mk ns s h hs hs2 =>
    have T' := h.top
    have hl := h.1
    have h100 := T'.2.2
    refine ws_seq (ws_asg (by decide) (we_d (d := .int 0) (by walk_at "zev") ?_))
    refine ws_cut (fun Γ' => ∃ t4 t5, Γ' = [.im (.lst (ns.map D.int)), .im (.int s), .im (.int (few ns s)), t4, t5]) (ws_for (wi_p (ei_r1 (n := 110) (by walk_at "zev") (by decide)) ⟨fun k Γ' => ∃ t4 t5, Γ' = [.im (.lst (ns.map D.int)), .im (.int s), .im (.int (((demL ns s).take k).foldl max 0)), t4, t5] ∧ k ≤ top ns, ⟨_, _, rfl, Nat.zero_le _⟩, ?_, ?_⟩)) ?_
    · rintro k d _ hd ⟨t4, t5, rfl, hk⟩
      have hkn : k < 110 := by
        have := (List.getElem?_eq_some_iff.mp hd).1
        rwa [rngD_len] at this
      have hd' : d = .int (k : Int) := by
        unfold rngD at hd
        rw [List.getElem?_map, List.getElem?_range (by omega)] at hd
        simp only [Option.map_some, Option.some.injEq] at hd
        rw [← hd]
        simp
      subst hd'
      have ti := top_is T' hk
      refine wg_name (by decide) ?_
      refine ws_seq (ws_asg (by decide) (we_d (d := .int (bey ns (k : Int))) (by walk_at "zev") ?_))
      refine ws_seq (ws_if (wt_p (b := decide (bey ns (k : Int) = 0)) (by walk_at "zev") ⟨fun z => ws_brk ?_, fun z => ws_next ?_⟩))
      · have e := ti.1.mp (of_decide_eq_true z)
        refine ⟨.im (.int (k : Int)), .im (.int (bey ns (k : Int))), ?_⟩
        rw [show (demL ns s).take k = demL ns s from List.take_of_length_le (by rw [demL_len]; omega)]
        rfl
      · have lt : k < top ns := by
          have : ¬ (bey ns (k : Int) = 0) := of_decide_eq_false z
          have := mt ti.1.mpr this
          omega
        have hd : CDivW (bey ns (k : Int) + s - 1) s := wide_div (b := 110) (by omega) (by omega) (by decide) (by decide)
        refine ws_asg (by decide) (we_d (d := .int (if (k : Int) + (bey ns (k : Int) + s - 1) / s > ((demL ns s).take k).foldl max 0 then (k : Int) + (bey ns (k : Int) + s - 1) / s else ((demL ns s).take k).foldl max 0)) (by walk_at "zev") ⟨.im (.int (k : Int)), .im (.int (bey ns (k : Int))), ?_, by omega⟩)
        have e := foldl_max_take (demL_get (s := s) lt)
        have e2 : (if (k : Int) + (bey ns (k : Int) + s - 1) / s > ((demL ns s).take k).foldl max 0 then (k : Int) + (bey ns (k : Int) + s - 1) / s else ((demL ns s).take k).foldl max 0) = max (((demL ns s).take k).foldl max 0) (dem ns s k) := by
          unfold dem
          split <;> omega
        rw [e, ← e2]
        rfl
    · rintro _ ⟨t4, t5, rfl, hk⟩
      rw [rngD_len] at hk
      have : (110 : Nat) ≤ 100 := Nat.le_trans hk h100
      omega
    · rintro _ ⟨t4, t5, rfl⟩
      exact ws_ret (we_s (d := .int (few ns s)) (by walk_at "zev") rfl (Or.inl rfl))

set_option maxHeartbeats 4000000 in
theorem ok__law_bar (T : Tx K mg) : FnG P w K mg base (L2.CX P w) 2 T.a__law_bar T.d__law_bar ["counts", "stack", "strokes"] (spP K S__law_bar) := by
  refine okG (N := ["counts", "stack", "strokes", "level"]) T.F__law_bar sc__law_bar (fun vs H Q E h => lenP (n := 3) (by intro ds d hS; cases hS <;> rfl) h) (fun cdv A outer s H vs Q E hr hG h => ?_)
  have hn : vs.length ≤ (["counts", "stack", "strokes", "level"] : List Str).length := by rw [show vs.length = 3 from lenP (n := 3) (by intro ds d hS; cases hS <;> rfl) h]; decide
  refine ⟨_, (pss_cons (ps_for (passes_of rfl) rfl (pi_range1 (by rfl) T.n_range (pa_cons (pe_callB (zc_min2 rfl) (by rfl) T.n_min (by decide +kernel) (pa_cons (pe_op (oK (K := K) rAddU rfl zo_add) (pv 2) pe_int) (pa_cons pe_int pa_nil))) pa_nil)) (pg_name (i := 3) sc__law_bar.nd rfl (Or.inl rfl)) (pss_one (ps_if (pt_cmpR zo_gt (pe_cl (E := fun _ => E0) (ok__law_excess T) (hr.mono (by decide)) hG (by rfl) T.m__law_excess T.F__law_excess.kp T.b__law_excess .nil pz (pa_cons (pv 0) (pa_cons (pv 3) pa_nil))) (pe_op zo_mul (pv 1) (pe_op zo_sub (pv 2) (pv 3))) (nomark _)) (pss_one (ps_ret (pv 3))) pss_nil))) 
      (pss_one (ps_ret pe_non))), fin_P (E := fun _ => E0) h hn (fun ds d hS => ?_)⟩
  try dsimp only [cxK]
  cases hS with
  | mk ns s m h hs hs2 hm hm2 =>
    have h100 := h.top.2.2
    have hl := h.1
    have hf := find_fst (fun l : Nat => isBar ns s m (l : Int)) (top ns)
    have hft : ∀ j, lbar ns s m = some j → j < top ns := fun j hj => by
      have : Fst (fun l : Nat => isBar ns s m (l : Int)) (some j) (top ns) := hj ▸ hf
      exact this.1
    have hfb : ∀ j, lbar ns s m = some j → isBar ns s m (j : Int) = true := fun j hj => by
      have : Fst (fun l : Nat => isBar ns s m (l : Int)) (some j) (top ns) := hj ▸ hf
      exact this.2.1
    have hN : ∃ N : Int, (if (110 : Int) < m + 1 then 110 else m + 1) = N ∧ 0 ≤ N ∧ N ≤ 110 ∧ N ≤ m + 1 ∧ (N = 110 ∨ N = m + 1) := ⟨_, rfl, by split <;> omega⟩
    obtain ⟨N, hNe, hN0, hN1, hN2, hN3⟩ := hN
    have evN : EvA K (tCons (tCB rMin2 (tCons (tOp (rAddU K) (tVar 2) (tC (V.int 1))) (tCons (tC (V.int 110)) tNil))) tNil) (vi [.im (.lst (ns.map D.int)), .im (.int s), .im (.int m), .un]) [.int N] := by
      rw [← hNe]
      walk_at "zev"
    refine ws_seq (ws_for (wi_p (ei_r1 (n := N) evN (by omega)) ⟨fun k Γ' => ∃ t3, Γ' = [.im (.lst (ns.map D.int)), .im (.int s), .im (.int m), t3] ∧ ∀ l, l < k → isBar ns s m (l : Int) = false, ⟨_, rfl, fun l z => absurd z (Nat.not_lt_zero l)⟩, ?_, ?_⟩))
    · rintro k d _ hd ⟨t3, rfl, hk⟩
      have hkn : k < N.toNat := by
        have := (List.getElem?_eq_some_iff.mp hd).1
        rwa [rngD_len] at this
      have hd' : d = .int (k : Int) := by
        unfold rngD at hd
        rw [List.getElem?_map, List.getElem?_range (by omega)] at hd
        simp only [Option.map_some, Option.some.injEq] at hd
        rw [← hd]
        simp
      subst hd'
      refine wg_name (by decide) ?_
      walk_at "zn"
      have cm : CMulW s (m - (k : Int)) := wide_mul (a := 110) (b := 120) (by omega) (by omega) (by decide) (by decide) (by decide)
      have eb : isBar ns s m (k : Int) = decide (s * (m - (k : Int)) < bey ns (k : Int)) := by
        unfold isBar
        rw [decide_eq_true (show (k : Int) ≤ m by omega), Bool.true_and]
      refine ws_if (wt_p (b := decide (s * (m - (k : Int)) < bey ns (k : Int))) (by walk_at "zev") ⟨fun z => ?_, fun z => ws_next ⟨_, rfl, fun l hl => ?_⟩⟩)
      · rw [← eb] at z
        have e : lbar ns s m = some k := by
          refine fst_uniq (n := top ns) (n2 := k + 1) hf ?_ (fun j hj => ?_) (fun j hj => by cases hj; exact bar_lt h (by omega) z)
          · exact ⟨Nat.lt_succ_self k, z, hk⟩
          · refine Nat.lt_of_not_le fun le => ?_
            have : Fst (fun l : Nat => isBar ns s m (l : Int)) (some j) (top ns) := hj ▸ hf
            have q : isBar ns s m (k : Int) = false := this.2.2 k (by omega)
            rw [z] at q
            cases q
        rw [e]
        exact ws_ret (we_s (d := .int (k : Int)) (by walk_at "zev") rfl (Or.inl rfl))
      · rcases Nat.lt_succ_iff_lt_or_eq.mp hl with q | rfl
        · exact hk l q
        · rw [eb]; exact z
    · rintro _ ⟨t3, rfl, hk⟩
      rw [rngD_len] at hk
      have e : lbar ns s m = none := by
        refine fst_uniq (n := top ns) (n2 := N.toNat) hf (fun l hl => hk l hl) (fun j hj => ?_) (fun j hj => nomatch hj)
        have a := hft j hj
        have b := of_decide_eq_true (Bool.and_eq_true_iff.mp (hfb j hj)).1
        omega
      rw [e]
      exact ws_ret (we_s (d := .non) (by walk_at "zev") rfl (Or.inl rfl))

set_option maxHeartbeats 4000000 in
theorem ok__law_numbers (T : Tx K mg) : FnG P w K mg base (L2.CX P w) 2 T.a__law_numbers T.d__law_numbers ["box", "most"] (spB K S__law_numbers) := by
  refine okG (N := ["box", "most", "way", "found", "k", "near", "some"]) T.F__law_numbers sc__law_numbers (fun vs H Q E h => lenB (n := 1) (by intro ds c Rs hS; cases hS <;> rfl) h) (fun cdv A outer s H vs Q E hr hG h => ?_)
  have hn : vs.length ≤ (["box", "most", "way", "found", "k", "near", "some"] : List Str).length := by rw [show vs.length = 2 from lenB (n := 1) (by intro ds c Rs hS; cases hS <;> rfl) h]; decide
  refine ⟨_, (pss_cons (ps_par (i := 2) (j := 3) (by rfl) sc__law_numbers.nd rfl rfl (by decide) rfl rfl (pa_cons (pe_cl (E := fun _ => E0) (ok__law_take T) (hr.mono (by decide)) hG (by rfl) T.m__law_take T.F__law_take.kp T.b__law_take .nil pz (pa_cons (pv 0) (pa_cons pe_int pa_nil))) (pa_cons (pe_lst pa_nil) pa_nil)) (by rfl)) 
      (pss_cons (ps_for (passes_of rfl) rfl (pi_range1 (by rfl) T.n_range (pa_cons (pe_ix (ixK (K := K) rfl) (pe_lst (pa_cons (pe_cl (E := fun _ => E0) (ok__law_take T) (hr.mono (by decide)) hG (by rfl) T.m__law_take T.F__law_take.kp T.b__law_take .nil pz (pa_cons (pv 0) (pa_cons (pe_op (oK (K := K) rAddU rfl zo_add) (pv 1) pe_int) pa_nil))) (pa_cons (pe_op (oK (K := K) rAddU rfl zo_add) pe_int (pe_cl (E := fun _ => E0) (ok__law_take T) (hr.mono (by decide)) hG (by rfl) T.m__law_take T.F__law_take.kp T.b__law_take .nil pz (pa_cons (pv 0) (pa_cons pe_int pa_nil)))) (pa_cons (pv 1) pa_nil)))) (pe_cl (E := fun _ => E0) (ok__law_take T) (hr.mono (by decide)) hG (by rfl) T.m__law_take T.F__law_take.kp T.b__law_take .nil pz (pa_cons (pv 0) (pa_cons pe_int pa_nil))) (fun _ _ => rfl)) pa_nil)) (pg_name (i := 4) sc__law_numbers.nd rfl (Or.inl rfl)) (pss_cons (ps_set (i := 5) sc__law_numbers.nd rfl (Or.inl rfl) (pe_op (oK (K := K) rAddU rfl zo_add) (pe_op zo_sub (pe_op zo_shl pe_int (pe_cl (E := fun _ => E0) (ok__law_take T) (hr.mono (by decide)) hG (by rfl) T.m__law_take T.F__law_take.kp T.b__law_take .nil pz (pa_cons (pv 0) (pa_cons (pe_ix (ixK (K := K) rfl) (pe_lst (pa_cons pe_int (pa_cons pe_int pa_nil))) (pe_callTy zc_int (by rfl) T.n_int (by decide +kernel) (pa_cons (pe_cmpR (oK (K := K) rEqU rfl (zo_eq hr.units)) (pv 2) pe_int (nomark _)) pa_nil)) (fun _ _ => rfl)) pa_nil)))) pe_int) (pe_cl (E := fun _ => E0) (ok__law_take T) (hr.mono (by decide)) hG (by rfl) T.m__law_take T.F__law_take.kp T.b__law_take .nil pz (pa_cons (pv 0) (pa_cons pe_int pa_nil))))) 
      (pss_cons (ps_set (i := 6) sc__law_numbers.nd rfl (Or.inl rfl) (pe_lst (pa_cons (pe_op (oK (K := K) rAddU rfl zo_add) pe_int (pe_cl (E := fun _ => E0) (ok__law_take T) (hr.mono (by decide)) hG (by rfl) T.m__law_take T.F__law_take.kp T.b__law_take .nil pz (pa_cons (pv 0) (pa_cons pe_int pa_nil)))) (pa_cons (pe_op (oK (K := K) rAddU rfl zo_add) pe_int (pe_cl (E := fun _ => E0) (ok__law_take T) (hr.mono (by decide)) hG (by rfl) T.m__law_take T.F__law_take.kp T.b__law_take .nil pz (pa_cons (pv 0) (pa_cons pe_int pa_nil)))) (pa_cons (pe_callB (zc_max2 rfl) (by rfl) T.n_max (by decide +kernel) (pa_cons pe_int (pa_cons (pv 5) pa_nil))) (pa_cons (pe_callB (zc_max2 rfl) (by rfl) T.n_max (by decide +kernel) (pa_cons pe_int (pa_cons (pv 5) pa_nil))) (pa_cons (pe_op (oK (K := K) rAddU rfl zo_add) pe_int (pe_cl (E := fun _ => E0) (ok__law_take T) (hr.mono (by decide)) hG (by rfl) T.m__law_take T.F__law_take.kp T.b__law_take .nil pz (pa_cons (pv 0) (pa_cons (pe_op zo_pow pe_int pe_int) pa_nil)))) pa_nil))))))) 
      (pss_one (ps_expr (pe_bm PySem.F.plainAttrs_list PySem.F.slot_list_append PySem.F.type_list_append mt_append (pv 3) (pa_cons (pe_ifExp (PW.pt (pw_and (pt_cmpR (oK (K := K) rNeU rfl (zo_ne hr.units)) (pv 3) (pe_lst pa_nil) (nomark _)) (pw_and1 (pt_cmpR (oK (K := K) rEqU rfl (zo_eq hr.units)) (pe_cl (E := fun _ => E0) (ok__law_take T) (hr.mono (by decide)) hG (by rfl) T.m__law_take T.F__law_take.kp T.b__law_take .nil pz (pa_cons (pv 0) (pa_cons pe_int pa_nil))) pe_int (nomark _))))) (pe_ix (ixK (K := K) rfl) (pv 3) pe_int (fun _ _ => rfl)) (pe_ix (ixK (K := K) rfl) (pv 6) (pv 2) (fun _ _ => rfl))) pa_nil))))))) 
      (pss_one (ps_ret (pv 3))))), fin_B (E := fun _ => E0) h hn (fun ds c Rs n hS hc => ?_)⟩
  try dsimp only [cxK]
  cases hS with
  | mk m h h2 =>
    refine ws_seq (ws_par (by decide) (by decide) ?_)
    walk_at "zw"
    refine we_l (ds := []) (evl_lst ea_nil (by decide)) (fun _ => ?_)
    refine ws_seq (ws_for ?_)
    repeat walk_at "zw"
    rename_i way hw1 hw2 _ r1 h11 h12 r2 h21 h22 r3 h31 h32
    refine x_ix (fun d => ∃ v : Int, d = .int v ∧ 0 ≤ v ∧ (v ≤ m ∨ v ≤ 4)) h31 (by show r3 < 3; omega) ?_ ?_
    · intro d hd
      simp only [List.mem_cons, List.not_mem_nil, or_false] at hd
      rcases hd with rfl | rfl | rfl
      · exact ⟨_, rfl, by omega, by omega⟩
      · exact ⟨_, rfl, by omega, by omega⟩
      · exact ⟨_, rfl, by omega, by omega⟩
    rintro _ ⟨v, rfl, hv0, hv1⟩
    refine wa_nil ⟨v, rfl, ⟨by omega, by omega⟩, fun k Γ => ∃ (c : Nat) (ns : List Int) (t4 t5 t6 : Dt), Γ = [.bx c, .im (.int m), .im (.int way), .own (ns.map D.int), t4, t5, t6] ∧ c ≤ n + 4 + 8 * k ∧ ns.length = k ∧ Rng ns, ?_, ?_, ?_⟩
    · exact ⟨n + 4, [], .un, .un, .un, rfl, by omega, rfl, fun x hx => by cases hx⟩
    · rintro k d Γ hk ⟨c, ns, t4, t5, t6, rfl, hc4, hl, hr4⟩
      have hkv : k < v.toNat := by
        have := (List.getElem?_eq_some_iff.mp hk).1
        rwa [rngD_len] at this
      refine wg_name (by decide) ?_
      refine ws_seq (ws_asg (by decide) (we_D ?_ fun _ _ q => q))
      repeat walk_at "zw"
      rename_i q1 hq11 hq12 q2 hq21 hq22
      have hb := pow_le98 hq11 (by by_cases e : decide (way = 3) = true <;> simp only [e] at hq12 <;> simp_all <;> omega)
      have hb2 : 0 ≤ (1 : Int) * 2 ^ q1.toNat - 1 + q2 ∧ (1 : Int) * 2 ^ q1.toNat - 1 + q2 ≤ 316912650057057350374175801344 + 2 := by
        generalize (1 : Int) * 2 ^ q1.toNat = y at hb ⊢
        omega
      generalize (1 : Int) * 2 ^ q1.toNat - 1 + q2 = near at hb2 ⊢
      refine ws_seq (ws_asg (by decide) (we_D ?_ fun _ _ q => q))
      have p1 : CPow 10 30 := ⟨by decide, by decide, by decide⟩
      repeat walk_at "zw"
      rename_i u1 hu11 hu12 u2 hu21 hu22 u3 hu31 hu32
      have hu33 : u3 < 1000000000000000000000000000000 := hu32
      have all5 : ∀ d ∈ [D.int (1 + u1), .int (1 + u2), .int (if near > 1 then near else 1), .int (if near > 1 then near else 1), .int (1 + u3)], ∃ y : Int, d = .int y ∧ 1 ≤ y ∧ y ≤ 1000000000000000000000000000000 := by
        intro d hd
        simp only [List.mem_cons, List.not_mem_nil, or_false] at hd
        rcases hd with rfl | rfl | rfl | rfl | rfl
        · exact ⟨_, rfl, by omega, by omega⟩
        · exact ⟨_, rfl, by omega, by omega⟩
        · exact ⟨_, rfl, by split <;> omega, by split <;> omega⟩
        · exact ⟨_, rfl, by split <;> omega, by split <;> omega⟩
        · exact ⟨_, rfl, by omega, by omega⟩
      generalize hsm : [D.int (1 + u1), .int (1 + u2), .int (if near > 1 then near else 1), .int (if near > 1 then near else 1), .int (1 + u3)] = sm at all5 ⊢
      have lsm : sm.length = 5 := by rw [← hsm]; rfl
      refine ws_app (wd_if (wt_and (wt_p (b := !(PyData.eqv (toP (.lst (ns.map D.int))) (toP (.lst [])))) (et_test (ev_op (ev_var rfl) (ev_of_l (evl_lst ea_nil (by decide))) (rv_neD (okD_ints _) okD_nil))) ⟨fun z1 => ?_, fun z1 => ?_⟩))) ⟨_, rfl⟩
      · have hne : ns ≠ [] := by
          rw [eqv_nil] at z1
          intro e
          rw [e] at z1
          cases z1
        repeat walk_at "zw"
        rename_i v4 hv41 hv42
        refine ⟨fun _ => ?_, fun _ => ?_⟩
        · cases ns with
          | nil => exact absurd rfl hne
          | cons n0 ns =>
            refine wd_s (d := .int n0) (ev_op (ev_var rfl) ev_int rv_ix0) rfl ?_
            have h0 := hr4 n0 List.mem_cons_self
            refine ⟨_, rfl, by rw [List.length_map]; omega, c + 6, (n0 :: ns) ++ [n0], .im d, .im (.int near), .im (.lst sm), ?_, by omega, by simp at hl ⊢; omega, ?_⟩
            · rw [List.map_append]; rfl
            · intro x hx
              rcases List.mem_append.mp hx with hx | hx
              · exact hr4 x hx
              · cases List.mem_singleton.mp hx; exact h0
        · obtain ⟨d0, hd0, hat⟩ := at_some (ds := sm) (i := way) hw1 (by omega)
          obtain ⟨y, rfl, hy1, hy2⟩ := all5 d0 hd0
          refine wd_s (d := .int y) (ev_op (ev_var rfl) (ev_var rfl) (rv_ixl hat)) rfl ?_
          refine ⟨_, rfl, by rw [List.length_map]; omega, c + 6, ns ++ [y], .im d, .im (.int near), .im (.lst sm), ?_, by omega, by simp at hl ⊢; omega, ?_⟩
          · rw [List.map_append]; rfl
          · intro x hx
            rcases List.mem_append.mp hx with hx | hx
            · exact hr4 x hx
            · cases List.mem_singleton.mp hx; exact ⟨hy1, hy2⟩
      · refine ⟨fun z2 => (by cases z2), fun _ => ?_⟩
        obtain ⟨d0, hd0, hat⟩ := at_some (ds := sm) (i := way) hw1 (by omega)
        obtain ⟨y, rfl, hy1, hy2⟩ := all5 d0 hd0
        refine wd_s (d := .int y) (ev_op (ev_var rfl) (ev_var rfl) (rv_ixl hat)) rfl ?_
        refine ⟨_, rfl, by rw [List.length_map]; omega, c + 5, ns ++ [y], .im d, .im (.int near), .im (.lst sm), ?_, by omega, by simp at hl ⊢; omega, ?_⟩
        · rw [List.map_append]; rfl
        · intro x hx
          rcases List.mem_append.mp hx with hx | hx
          · exact hr4 x hx
          · cases List.mem_singleton.mp hx; exact ⟨hy1, hy2⟩
    · rintro Γ ⟨c, ns, t4, t5, t6, rfl, hc4, hl, hr4⟩
      rw [rngD_len] at hc4 hl
      exact ws_retO rfl (by decide) ⟨_, ⟨ns, rfl, hr4, by omega⟩, Or.inr ⟨_, rfl, rfl⟩, c, by omega, rfl⟩

set_option maxHeartbeats 4000000 in
theorem ok_check_counts (T : Tx K mg) : FnG P w K mg base (L2.CX P w) 3 T.a_check_counts T.d_check_counts ["counts"] (spP K S_check_counts) := by
  refine okG (N := ["counts"]) T.F_check_counts sc_check_counts (fun vs H Q E h => lenP (n := 1) (by intro ds d hS; cases hS <;> rfl) h) (fun cdv A outer s H vs Q E hr hG h => ?_)
  have hn : vs.length ≤ (["counts"] : List Str).length := by rw [show vs.length = 1 from lenP (n := 1) (by intro ds d hS; cases hS <;> rfl) h]; decide
  refine ⟨_, (pss_one (ps_if (pt_not (pt_val (pe_cl (E := fun _ => E0) (ok_are_counts T) (hr.mono (by decide)) hG (by rfl) T.m_are_counts T.F_are_counts.kp T.b_are_counts .nil pz (pa_cons (pv 0) pa_nil)))) pss_never pss_nil)), fin_P (E := fun _ => E0) h hn (fun ds d hS => ?_)⟩
  try dsimp only [cxK]
  cases hS with
  | mk x h h2 =>
    refine ws_if (wt_p (b := !(arC x)) (et_not (by walk_at "zev")) ⟨fun z => ?_, fun z => ws_next rfl⟩)
    rw [h2] at z
    cases z

set_option maxHeartbeats 4000000 in
theorem ok_demands (T : Tx K mg) : FnG P w K mg base (L2.CX P w) 3 T.a_demands T.d_demands ["counts", "stack"] (spN K S_demands) := by
  refine okG (N := ["counts", "stack", "level", "more"]) T.F_demands sc_demands (fun vs H Q E h => lenN (n := 2) (by intro ds d hS; cases hS <;> rfl) h) (fun cdv A outer s H vs Q E hr hG h => ?_)
  have hn : vs.length ≤ (["counts", "stack", "level", "more"] : List Str).length := by rw [show vs.length = 2 from lenN (n := 2) (by intro ds d hS; cases hS <;> rfl) h]; decide
  refine ⟨_, (pss_one (ps_ret (pe_lc (own := [("level", 2), ("more", 3)]) rfl sc_demands.nd (pi_enumK (K := K) rfl (by rfl) T.n_enumerate (pa_cons (pe_cl (E := fun _ => E0) (ok_excesses T) (hr.mono (by decide)) hG (by rfl) T.m_excesses T.F_excesses.kp T.b_excesses .nil pz (pa_cons (pv 0) pa_nil)) pa_nil)) (blkOk_by (N := ["counts", "stack", "level", "more"]) (sc := defScope s_demands) (by decide +kernel)) (fun _ _ _ _ _ => (pg_tupK (K := K) (n := 2) rfl rfl (pgs_cons (pg_name (i := 2) sc_demands.nd rfl (Or.inl rfl)) (pgs_cons (pg_name (i := 3) sc_demands.nd rfl (Or.inl rfl)) pgs_nil)))) (fun _ _ _ _ _ => pts_nil) (fun _ _ _ _ _ => (pe_op (oK (K := K) rAddU rfl zo_add) (pv 2) (pe_cl (E := fun _ => E0) (ok_rounded_up T) (hr.mono (by decide)) hG (by rfl) T.m_rounded_up T.F_rounded_up.kp T.b_rounded_up .nil pz (pa_cons (pv 3) (pa_cons (pv 1) pa_nil)))))))), fin_N (E := fun _ => E0) h hn (fun ds es hS => ?_)⟩
  try dsimp only [cxK]
  cases hS with
  | mk x ns s hx h hs hs2 =>
    have e : enD ((excL ns).map D.int) = ((List.range (top ns)).map fun l : Nat => (bey ns l, (l : Int))).map fun p => D.tup [.int p.2, .int p.1] := by
      unfold enD excL
      rw [List.map_map, List.map_map]
      apply List.ext_getElem?
      intro i
      rw [List.getElem?_map, List.getElem?_zipIdx, List.getElem?_map, List.getElem?_map]
      by_cases hi : i < top ns
      · rw [List.getElem?_range hi]
        simp
      · rw [List.getElem?_eq_none (by simp; omega)]
        rfl
    have e2 : (demL ns s).map D.int = ((List.range (top ns)).map fun l : Nat => (bey ns l, (l : Int))).map fun p => D.int (p.2 + (p.1 + s - 1) / s) := by
      unfold demL
      rw [List.map_map, List.map_map]
      rfl
    rw [e2]
    have h100 := h.top.2.2
    refine ws_ret (we_l (evl_map ((List.range (top ns)).map fun l : Nat => (bey ns l, (l : Int))) (fun p => D.tup [.int p.2, .int p.1]) _ _ (by rw [← e]; exact ei_enum (by walk_at "zev")) (fun p hp => by walk_at "zeg") (fun p hp => by walk_at "zev") (by rw [List.length_map, List.length_range]; omega)) rfl)

set_option maxHeartbeats 4000000 in
theorem ok_least_bar (T : Tx K mg) : FnG P w K mg base (L2.CX P w) 3 T.a_least_bar T.d_least_bar ["counts", "stack", "strokes"] (spP K S_least_bar) := by
  refine okG (N := ["counts", "stack", "strokes", "level"]) T.F_least_bar sc_least_bar (fun vs H Q E h => lenP (n := 3) (by intro ds d hS; cases hS <;> rfl) h) (fun cdv A outer s H vs Q E hr hG h => ?_)
  have hn : vs.length ≤ (["counts", "stack", "strokes", "level"] : List Str).length := by rw [show vs.length = 3 from lenP (n := 3) (by intro ds d hS; cases hS <;> rfl) h]; decide
  refine ⟨_, (pss_cons (ps_for (passes_of rfl) rfl (pi_range1 (by rfl) T.n_range (pa_cons (pe_callB (cK (K := K) rLenU rfl zc_len) (by rfl) T.n_len (by decide +kernel) (pa_cons (pe_cl (E := fun _ => E0) (ok_excesses T) (hr.mono (by decide)) hG (by rfl) T.m_excesses T.F_excesses.kp T.b_excesses .nil pz (pa_cons (pv 0) pa_nil)) pa_nil)) pa_nil)) (pg_name (i := 3) sc_least_bar.nd rfl (Or.inl rfl)) (pss_one (ps_if (pt_val (pe_cl (E := fun _ => E0) (ok_bars_at T) (hr.mono (by decide)) hG (by rfl) T.m_bars_at T.F_bars_at.kp T.b_bars_at .nil pz (pa_cons (pv 0) (pa_cons (pv 1) (pa_cons (pv 2) (pa_cons (pv 3) pa_nil)))))) (pss_one (ps_ret (pv 3))) pss_nil))) 
      (pss_one (ps_ret pe_non))), fin_P (E := fun _ => E0) h hn (fun ds d hS => ?_)⟩
  try dsimp only [cxK]
  cases hS with
  | mk x ns s m hx h hs hs2 hm hm2 =>
    have h100 := h.top.2.2
    have hl := h.1
    have e2 := rc_lenl (K := K) (ds := (excL ns).map D.int)
    rw [List.length_map, excL_len] at e2
    have hf := find_fst (fun l : Nat => isBar ns s m (l : Int)) (top ns)
    refine ws_seq (ws_for (wi_p (ei_r1 (n := (top ns : Int)) (ea_cons (ev_cb (by walk_at "zev") e2) ea_nil) (by omega)) ⟨fun k Γ' => ∃ t3, Γ' = [.im x, .im (.int s), .im (.int m), t3] ∧ ∀ l, l < k → isBar ns s m (l : Int) = false, ⟨_, rfl, fun l z => absurd z (Nat.not_lt_zero l)⟩, ?_, ?_⟩))
    · rintro k d _ hd ⟨t3, rfl, hk⟩
      have hkn : k < top ns := by
        have := (List.getElem?_eq_some_iff.mp hd).1
        rwa [rngD_len] at this
      have hd' : d = .int (k : Int) := by
        unfold rngD at hd
        rw [List.getElem?_map, List.getElem?_range (by omega)] at hd
        simp only [Option.map_some, Option.some.injEq] at hd
        rw [← hd]
        simp
      subst hd'
      refine wg_name (by decide) ?_
      walk_at "zn"
      refine ws_if (wt_p (b := isBar ns s m (k : Int)) (by walk_at "zev") ⟨fun z => ?_, fun z => ws_next ⟨_, rfl, fun l hl => ?_⟩⟩)
      · have e : lbar ns s m = some k := by
          refine fst_uniq (n := top ns) (n2 := top ns) hf ?_ (fun j hj => ?_) (fun j hj => by cases hj; exact hkn)
          · exact ⟨hkn, z, hk⟩
          · unfold lbar at *
            have : Fst (fun l : Nat => isBar ns s m (l : Int)) (some j) (top ns) := hj ▸ hf
            exact this.1
        rw [e]
        exact ws_ret (we_s (d := .int (k : Int)) (by walk_at "zev") rfl (Or.inl rfl))
      · rcases Nat.lt_succ_iff_lt_or_eq.mp hl with q | rfl
        · exact hk l q
        · exact z
    · rintro _ ⟨t3, rfl, hk⟩
      rw [rngD_len] at hk
      have e : lbar ns s m = none := by
        refine fst_uniq (n := top ns) (n2 := top ns) hf (fun l hl => hk l (by omega)) (fun j hj => ?_) (fun j hj => nomatch hj)
        unfold lbar at *
        have : Fst (fun l : Nat => isBar ns s m (l : Int)) (some j) (top ns) := hj ▸ hf
        exact this.1
      rw [e]
      exact ws_ret (we_s (d := .non) (by walk_at "zev") rfl (Or.inl rfl))

set_option maxHeartbeats 4000000 in
theorem ok_fewest_for (T : Tx K mg) : FnG P w K mg base (L2.CX P w) 4 T.a_fewest_for T.d_fewest_for ["counts", "stack"] (spP K S_fewest_for) := by
  refine okG (N := ["counts", "stack"]) T.F_fewest_for sc_fewest_for (fun vs H Q E h => lenP (n := 2) (by intro ds d hS; cases hS <;> rfl) h) (fun cdv A outer s H vs Q E hr hG h => ?_)
  have hn : vs.length ≤ (["counts", "stack"] : List Str).length := by rw [show vs.length = 2 from lenP (n := 2) (by intro ds d hS; cases hS <;> rfl) h]; decide
  refine ⟨_, (pss_one (ps_ret (pe_callBK (ckK (K := K) rMaxDf rfl (cr_maxDf rfl (hu70 hr))) (by rfl) T.n_max (by decide +kernel) (pa_cons (pe_cl (E := fun _ => E0) (ok_demands T) (hr.mono (by decide)) hG (by rfl) T.m_demands T.F_demands.kp T.b_demands .nil pz (pa_cons (pv 0) (pa_cons (pv 1) pa_nil))) pa_nil) (pk_cons pe_int pk_nil)))), fin_P (E := fun _ => E0) h hn (fun ds d hS => ?_)⟩
  try dsimp only [cxK]
  cases hS with
  | mk x ns s hx h hs hs2 =>
    have e : few ns s = mxD 0 (demL ns s) := (mxD_few fun y hy => by have := demL_pos h (by omega) hy; omega).symm
    rw [e]
    exact ws_ret (we_s (ev_ckw (ds := [.lst ((demL ns s).map D.int)]) (es := [.int 0]) (by walk_at "zev") (by walk_at "zev") rk_max) rfl (Or.inl rfl))

set_option maxHeartbeats 4000000 in
theorem ok_check_all (T : Tx K mg) : FnG P w K mg base (L2.CX P w) 4 T.a_check_all T.d_check_all ["counts", "stack", "strokes"] (spP K S_check_all) := by
  refine okG (N := ["counts", "stack", "strokes"]) T.F_check_all sc_check_all (fun vs H Q E h => lenP (n := 3) (by intro ds d hS; cases hS <;> rfl) h) (fun cdv A outer s H vs Q E hr hG h => ?_)
  have hn : vs.length ≤ (["counts", "stack", "strokes"] : List Str).length := by rw [show vs.length = 3 from lenP (n := 3) (by intro ds d hS; cases hS <;> rfl) h]; decide
  refine ⟨_, (pss_cons (ps_expr (pe_cl (E := fun _ => E0) (ok_check_counts T) (hr.mono (by decide)) hG (by rfl) T.m_check_counts T.F_check_counts.kp T.b_check_counts .nil pz (pa_cons (pv 0) pa_nil))) 
      (pss_cons (ps_expr (pe_cl (E := fun _ => E0) (ok_check_height T) (hr.mono (by decide)) hG (by rfl) T.m_check_height T.F_check_height.kp T.b_check_height .nil pz (pa_cons (pv 1) pa_nil))) 
      (pss_one (ps_expr (pe_cl (E := fun _ => E0) (ok_check_strokes T) (hr.mono (by decide)) hG (by rfl) T.m_check_strokes T.F_check_strokes.kp T.b_check_strokes .nil pz (pa_cons (pv 2) (pa_cons (pe_gi (by rfl) T.c_MOST_STROKES) pa_nil))))))), fin_P (E := fun _ => E0) h hn (fun ds d hS => ?_)⟩
  try dsimp only [cxK]
  cases hS with
  | mk x ns s m hx h hs hs2 hm hm2 =>
    have a1 := sq_itK hx
    have a2 := sq_arC hx h
    refine ws_seq (ws_drop (wd_s (d := .non) (by walk_at "zev") rfl ?_))
    refine ws_seq (ws_drop (wd_s (d := .non) (by walk_at "zev") rfl ?_))
    exact ws_drop (wd_s (d := .non) (by walk_at "zev") rfl rfl)

set_option maxHeartbeats 4000000 in
theorem ok_fewest (T : Tx K mg) : FnG P w K mg base (L2.CX P w) 5 T.a_fewest T.d_fewest ["counts", "stack"] (spP K S_fewest) := by
  refine okG (N := ["counts", "stack"]) T.F_fewest sc_fewest (fun vs H Q E h => lenP (n := 2) (by intro ds d hS; cases hS <;> rfl) h) (fun cdv A outer s H vs Q E hr hG h => ?_)
  have hn : vs.length ≤ (["counts", "stack"] : List Str).length := by rw [show vs.length = 2 from lenP (n := 2) (by intro ds d hS; cases hS <;> rfl) h]; decide
  refine ⟨_, (pss_cons (ps_expr (pe_cl (E := fun _ => E0) (ok_check_counts T) (hr.mono (by decide)) hG (by rfl) T.m_check_counts T.F_check_counts.kp T.b_check_counts .nil pz (pa_cons (pv 0) pa_nil))) 
      (pss_cons (ps_expr (pe_cl (E := fun _ => E0) (ok_check_height T) (hr.mono (by decide)) hG (by rfl) T.m_check_height T.F_check_height.kp T.b_check_height .nil pz (pa_cons (pv 1) pa_nil))) 
      (pss_one (ps_ret (pe_cl (E := fun _ => E0) (ok_fewest_for T) (hr.mono (by decide)) hG (by rfl) T.m_fewest_for T.F_fewest_for.kp T.b_fewest_for .nil pz (pa_cons (pv 0) (pa_cons (pv 1) pa_nil))))))), fin_P (E := fun _ => E0) h hn (fun ds d hS => ?_)⟩
  try dsimp only [cxK]
  cases hS with
  | mk x ns s hx h hs hs2 =>
    have a1 := sq_itK hx
    have a2 := sq_arC hx h
    refine ws_seq (ws_drop (wd_s (d := .non) (by walk_at "zev") rfl ?_))
    refine ws_seq (ws_drop (wd_s (d := .non) (by walk_at "zev") rfl ?_))
    exact ws_ret (we_s (d := .int (few ns s)) (by walk_at "zev") rfl (Or.inl rfl))

set_option maxHeartbeats 4000000 in
theorem ok_bar (T : Tx K mg) : FnG P w K mg base (L2.CX P w) 5 T.a_bar T.d_bar ["counts", "stack", "strokes"] (spP K S_bar) := by
  refine okG (N := ["counts", "stack", "strokes"]) T.F_bar sc_bar (fun vs H Q E h => lenP (n := 3) (by intro ds d hS; cases hS <;> rfl) h) (fun cdv A outer s H vs Q E hr hG h => ?_)
  have hn : vs.length ≤ (["counts", "stack", "strokes"] : List Str).length := by rw [show vs.length = 3 from lenP (n := 3) (by intro ds d hS; cases hS <;> rfl) h]; decide
  refine ⟨_, (pss_cons (ps_expr (pe_cl (E := fun _ => E0) (ok_check_all T) (hr.mono (by decide)) hG (by rfl) T.m_check_all T.F_check_all.kp T.b_check_all .nil pz (pa_cons (pv 0) (pa_cons (pv 1) (pa_cons (pv 2) pa_nil))))) 
      (pss_one (ps_ret (pe_cl (E := fun _ => E0) (ok_least_bar T) (hr.mono (by decide)) hG (by rfl) T.m_least_bar T.F_least_bar.kp T.b_least_bar .nil pz (pa_cons (pv 0) (pa_cons (pv 1) (pa_cons (pv 2) pa_nil))))))), fin_P (E := fun _ => E0) h hn (fun ds d hS => ?_)⟩
  try dsimp only [cxK]
  cases hS with
  | mk x ns s m hx h hs hs2 hm hm2 =>
    refine ws_seq (ws_drop (wd_s (d := .non) (by walk_at "zev") rfl ?_))
    exact ws_ret (we_s (d := optD (lbar ns s m)) (by walk_at "zev") (optD_sca _) (Or.inl rfl))

set_option maxHeartbeats 4000000 in
theorem ok_law (T : Tx K mg) : FnG P w K mg base (L2.CX P w) 6 T.a_law T.d_law ["script"] (spLaw K) := by
  refine okG (N := ["script", "k", "box", "counts", "stack", "least", "some", "strokes", "result"]) T.F_law sc_law (fun vs H Q E h => lenL h) (fun cdv A outer s H vs Q E hr hG h => ?_)
  have hn : vs.length ≤ (["script", "k", "box", "counts", "stack", "least", "some", "strokes", "result"] : List Str).length := by rw [show vs.length = 1 from lenL h]; decide
  refine ⟨_, (pss_cons (ps_for (passes_of rfl) rfl (pi_range1 (by rfl) T.n_range (pa_cons (pe_callB (zc_max2 rfl) (by rfl) T.n_max (by decide +kernel) (pa_cons pe_int (pa_cons (pe_callB (zc_min2 rfl) (by rfl) T.n_min (by decide +kernel) (pa_cons pe_int (pa_cons (pe_callB (cK (K := K) rLenU rfl zc_len) (by rfl) T.n_len (by decide +kernel) (pa_cons (pv 0) pa_nil)) pa_nil))) pa_nil))) pa_nil)) (pg_name (i := 1) sc_law.nd rfl (Or.inl rfl)) (pss_cons (ps_set (i := 2) sc_law.nd rfl (Or.inl rfl) (pe_cl (E := fun _ => E0) (ok__law_box T) (hr.mono (by decide)) hG (by rfl) T.m__law_box T.F__law_box.kp T.b__law_box .nil pz (pa_cons (pe_cl (E := fun _ => E0) (ok__law_cell T) (hr.mono (by decide)) hG (by rfl) T.m__law_cell T.F__law_cell.kp T.b__law_cell .nil pz (pa_cons (pv 0) (pa_cons (pv 1) pa_nil))) pa_nil))) 
      (pss_cons (ps_set (i := 3) sc_law.nd rfl (Or.inl rfl) (pe_op (oK (K := K) rAddU rfl zo_add) (pe_cl (E := fun _ => E0) (ok__law_numbers T) (hr.mono (by decide)) hG (by rfl) T.m__law_numbers T.F__law_numbers.kp T.b__law_numbers .nil pz (pa_cons (pv 2) (pa_cons (pe_ix (ixK (K := K) rfl) (pe_lst (pa_cons pe_int (pa_cons pe_int pa_nil))) (pe_cl (E := fun _ => E0) (ok__law_take T) (hr.mono (by decide)) hG (by rfl) T.m__law_take T.F__law_take.kp T.b__law_take .nil pz (pa_cons (pv 2) (pa_cons pe_int pa_nil))) (fun _ _ => rfl)) pa_nil))) (pe_lst (pa_cons (pe_op (oK (K := K) rAddU rfl zo_add) pe_int (pe_cl (E := fun _ => E0) (ok__law_take T) (hr.mono (by decide)) hG (by rfl) T.m__law_take T.F__law_take.kp T.b__law_take .nil pz (pa_cons (pv 2) (pa_cons pe_int pa_nil)))) pa_nil)))) 
      (pss_cons (ps_set (i := 4) sc_law.nd rfl (Or.inl rfl) (pe_ix (ixK (K := K) rfl) (pe_lst (pa_cons (pe_op (oK (K := K) rAddU rfl zo_add) pe_int (pe_cl (E := fun _ => E0) (ok__law_take T) (hr.mono (by decide)) hG (by rfl) T.m__law_take T.F__law_take.kp T.b__law_take .nil pz (pa_cons (pv 2) (pa_cons pe_int pa_nil)))) (pa_cons (pe_op (oK (K := K) rAddU rfl zo_add) pe_int (pe_cl (E := fun _ => E0) (ok__law_take T) (hr.mono (by decide)) hG (by rfl) T.m__law_take T.F__law_take.kp T.b__law_take .nil pz (pa_cons (pv 2) (pa_cons pe_int pa_nil)))) (pa_cons (pe_op (oK (K := K) rAddU rfl zo_add) pe_int (pe_cl (E := fun _ => E0) (ok__law_take T) (hr.mono (by decide)) hG (by rfl) T.m__law_take T.F__law_take.kp T.b__law_take .nil pz (pa_cons (pv 2) (pa_cons (pe_op zo_pow pe_int pe_int) pa_nil)))) pa_nil)))) (pe_cl (E := fun _ => E0) (ok__law_take T) (hr.mono (by decide)) hG (by rfl) T.m__law_take T.F__law_take.kp T.b__law_take .nil pz (pa_cons (pv 2) (pa_cons pe_int pa_nil))) (fun _ _ => rfl))) 
      (pss_cons (ps_set (i := 5) sc_law.nd rfl (Or.inl rfl) (pe_cl (E := fun _ => E0) (ok_fewest T) (hr.mono (by decide)) hG (by rfl) T.m_fewest T.F_fewest.kp T.b_fewest .nil pz (pa_cons (pv 3) (pa_cons (pv 4) pa_nil)))) 
      (pss_cons (ps_if (PW.pt (pw_or (pt_not (pt_val (pe_cl (E := fun _ => E0) (ok__law_equal T) (hr.mono (by decide)) hG (by rfl) T.m__law_equal T.F__law_equal.kp T.b__law_equal .nil pz (pa_cons (pv 5) (pa_cons (pe_cl (E := fun _ => E0) (ok__law_fewest T) (hr.mono (by decide)) hG (by rfl) T.m__law_fewest T.F__law_fewest.kp T.b__law_fewest .nil pz (pa_cons (pv 3) (pa_cons (pv 4) pa_nil))) pa_nil))))) (pw_or1 (pt_cmpR zo_lt (pv 5) pe_int (nomark _))))) (pss_one (ps_ret pe_bl)) pss_nil) 
      (pss_cons (ps_set (i := 6) sc_law.nd rfl (Or.inl rfl) (pe_lst (pa_cons (pv 5) (pa_cons (pe_op zo_sub (pv 5) pe_int) (pa_cons (pe_op (oK (K := K) rAddU rfl zo_add) (pv 5) pe_int) (pa_cons pe_int (pa_cons (pe_cl (E := fun _ => E0) (ok__law_take T) (hr.mono (by decide)) hG (by rfl) T.m__law_take T.F__law_take.kp T.b__law_take .nil pz (pa_cons (pv 2) (pa_cons (pv 5) pa_nil))) (pa_cons (pe_cl (E := fun _ => E0) (ok__law_take T) (hr.mono (by decide)) hG (by rfl) T.m__law_take T.F__law_take.kp T.b__law_take .nil pz (pa_cons (pv 2) (pa_cons pe_int pa_nil))) (pa_cons (pe_op (oK (K := K) rAddU rfl zo_add) (pv 5) (pe_cl (E := fun _ => E0) (ok__law_take T) (hr.mono (by decide)) hG (by rfl) T.m__law_take T.F__law_take.kp T.b__law_take .nil pz (pa_cons (pv 2) (pa_cons (pe_op zo_pow pe_int pe_int) pa_nil)))) (pa_cons (pe_op zo_pow pe_int pe_int) pa_nil)))))))))) 
      (pss_cons (ps_for (passes_of rfl) rfl (pi_seqK (K := K) rfl (pv 6)) (pg_name (i := 7) sc_law.nd rfl (Or.inl rfl)) (pss_cons (ps_set (i := 8) sc_law.nd rfl (Or.inl rfl) (pe_cl (E := fun _ => E0) (ok_bar T) (hr.mono (by decide)) hG (by rfl) T.m_bar T.F_bar.kp T.b_bar .nil pz (pa_cons (pe_callTy (cK (K := K) rListU rfl zc_list) (by rfl) T.n_list (by decide +kernel) (pa_cons (pv 3) pa_nil)) (pa_cons (pv 4) (pa_cons (pv 7) pa_nil))))) 
      (pss_cons (ps_if (pt_not (pt_val (pe_cl (E := fun _ => E0) (ok__law_equal T) (hr.mono (by decide)) hG (by rfl) T.m__law_equal T.F__law_equal.kp T.b__law_equal .nil pz (pa_cons (pv 8) (pa_cons (pe_cl (E := fun _ => E0) (ok__law_bar T) (hr.mono (by decide)) hG (by rfl) T.m__law_bar T.F__law_bar.kp T.b__law_bar .nil pz (pa_cons (pv 3) (pa_cons (pv 4) (pa_cons (pv 7) pa_nil)))) pa_nil))))) (pss_one (ps_ret pe_bl)) pss_nil) 
      (pss_cons (ps_if (pt_cmpR (oK (K := K) rNeU rfl (zo_ne hr.units)) (pe_cmpR zo_isN (pv 8) pe_non (nomark _)) (pe_cmpR zo_ge (pv 7) (pv 5) (nomark _)) (nomark _)) (pss_one (ps_ret pe_bl)) pss_nil) 
      (pss_one (ps_if (PW.pt (pw_and (pt_cmpR zo_notN (pv 8) pe_non (nomark _)) (pw_and1 (PW.pt (pw_or (pt_cmpR zo_gt (pv 8) (pv 7) (nomark _)) (pw_or1 (pt_cmpR zo_le (pe_cl (E := fun _ => E0) (ok__law_excess T) (hr.mono (by decide)) hG (by rfl) T.m__law_excess T.F__law_excess.kp T.b__law_excess .nil pz (pa_cons (pv 3) (pa_cons (pv 8) pa_nil))) (pe_op zo_mul (pv 4) (pe_op zo_sub (pv 7) (pv 8))) (nomark _)))))))) (pss_one (ps_ret pe_bl)) pss_nil)))))) 
      (pss_one (ps_if (PW.pt (pw_or (pt_cmpR zo_notN (pe_cl (E := fun _ => E0) (ok_bar T) (hr.mono (by decide)) hG (by rfl) T.m_bar T.F_bar.kp T.b_bar .nil pz (pa_cons (pe_op zo_mul (pe_lst (pa_cons pe_int pa_nil)) (pe_op (oK (K := K) rAddU rfl zo_add) pe_int (pv 1))) (pa_cons (pv 4) (pa_cons pe_int pa_nil)))) pe_non (nomark _)) (pw_or (pt_cmpR zo_notN (pe_cl (E := fun _ => E0) (ok_bar T) (hr.mono (by decide)) hG (by rfl) T.m_bar T.F_bar.kp T.b_bar .nil pz (pa_cons (pe_lst pa_nil) (pa_cons (pv 4) (pa_cons pe_int pa_nil)))) pe_non (nomark _)) (pw_or1 (pt_cmpR (oK (K := K) rNeU rfl (zo_ne hr.units)) (pe_cl (E := fun _ => E0) (ok_bar T) (hr.mono (by decide)) hG (by rfl) T.m_bar T.F_bar.kp T.b_bar .nil pz (pa_cons (pe_lst (pa_cons pe_int pa_nil)) (pa_cons (pv 4) (pa_cons pe_int pa_nil)))) pe_int (nomark _)))))) (pss_one (ps_ret pe_bl)) pss_nil)))))))))) 
      (pss_one (ps_ret pe_bl))), fin_L (E := fun _ => E0) h hn (fun ns hns => ?_)⟩
  try dsimp only [cxK]
  refine ws_lawk 7 (by decide) (by decide) (by decide) ?_
  intro k ts hk0 hk1 hts
  obtain ⟨t2, r2, rfl, h2⟩ := len_cons hts
  obtain ⟨t3, r3, rfl, h3⟩ := len_cons h2
  obtain ⟨t4, r4, rfl, h4⟩ := len_cons h3
  obtain ⟨t5, r5, rfl, h5⟩ := len_cons h4
  obtain ⟨t6, r6, rfl, h6⟩ := len_cons h5
  obtain ⟨t7, r7, rfl, h7⟩ := len_cons h6
  obtain ⟨t8, r8, rfl, h8⟩ := len_cons h7
  cases List.eq_nil_of_length_eq_zero h8
  clear hts hn h2 h3 h4 h5 h6 h7 h8
  refine ws_box (by omega) ?_
  refine ws_seq (ws_asg (by decide) (we_D ?_ fun _ _ q => q))
  refine wd_op (wd_numbers rfl ?_)
  repeat walk_at "zw"
  rename_i r1 h11 h12
  refine x_ix (fun d => ∃ v : Int, d = .int v ∧ 0 ≤ v ∧ v ≤ 20) h11 (by show r1 < 2; omega) ?_ ?_
  · intro d hd
    simp only [List.mem_cons, List.not_mem_nil, or_false] at hd
    rcases hd with rfl | rfl <;> exact ⟨_, rfl, by decide, by decide⟩
  rintro _ ⟨v, rfl, hv0, hv1⟩
  refine ⟨v, _, rfl, by omega, rfl, by decide, fun cs0 hr0 hl => ?_⟩
  have hl' : cs0.length ≤ 20 := by omega
  clear hl hns h11 h12
  repeat walk_at "zw"
  rename_i r2 h21 h22
  walk_at "zn"
  have hcm : cs0.map D.int ++ [D.int (2 + r2)] = (cs0 ++ [2 + r2]).map D.int := by rw [List.map_append]; rfl
  rw [hcm]
  have hc : Cts (cs0 ++ [2 + r2]) := ⟨by rw [List.length_append, List.length_singleton]; omega, rng_snoc hr0 ⟨by omega, by omega⟩⟩
  have hmem : (2 + r2) ∈ cs0 ++ [2 + r2] := List.mem_append_right _ (List.mem_singleton.mpr rfl)
  clear hcm
  generalize cs0 ++ [2 + r2] = cs at hc hmem ⊢
  refine ws_seq (ws_asg (by decide) (we_D ?_ fun _ _ q => q))
  have p1 : CPow 10 30 := ⟨by decide, by decide, by decide⟩
  repeat walk_at "zw"
  rename_i u1 hu11 hu12 u2 hu21 hu22 u3 hu31 hu32 u4 hu41 hu42
  have hu33 : u3 < 1000000000000000000000000000000 := hu32
  refine x_ix (fun d => ∃ s : Int, d = .int s ∧ 1 ≤ s ∧ s ≤ 1000000000000000000000000000000) hu41 (by show u4 < 3; omega) ?_ ?_
  · intro d hd
    simp only [List.mem_cons, List.not_mem_nil, or_false] at hd
    rcases hd with rfl | rfl | rfl <;> exact ⟨_, rfl, by omega, by omega⟩
  rintro _ ⟨s, rfl, hs0, hs1⟩
  clear hu11 hu12 hu21 hu22 hu31 hu32 hu33 hu41 hu42
  walk_at "zn"
  have fb := few_bd hc (s := s) (by omega)
  have fp := few_pos hc (s := s) (by omega) hmem (by omega)
  clear hmem h21 h22 hr0 hl'
  refine ws_seq (ws_asg (by decide) (we_d (d := .int (few cs s)) (by walk_at "zev") ?_))
  walk_at "zn"
  have okf : okE (.int (few cs s)) := okE_int (by omega)
  refine' ws_seq (ws_if (wt_p ?h ⟨?f, ?g⟩))
  case h => walk_at "zev"
  case f => intro z; exfalso; simp only [Bool.or_eq_true, decide_eq_true_eq, Bool.not_true, Bool.false_eq_true, false_or] at z; omega
  case g =>
  intro _
  refine ws_next ?_
  refine ws_seq (ws_asg (by decide) (we_D ?_ fun _ _ q => q))
  have p2 : CPow 10 31 := ⟨by decide, by decide, by decide⟩
  have p3 : CPow 10 33 := ⟨by decide, by decide, by decide⟩
  repeat walk_at "zw"
  walk_at "zn"
  rename_i r1 h11 h12 r2 h21 h22 r3 h31 h32
  have h33 : r3 < 10000000000000000000000000000000 := h32
  have hes : ∀ d ∈ [D.int (few cs s), .int (few cs s - 1), .int (few cs s + 1), .int 0, .int r1, .int r2, .int (few cs s + r3), .int (10 ^ Int.toNat 33)], ∃ m : Int, d = .int m ∧ 0 ≤ m ∧ m ≤ 1000000000000000000000000000000000 := by
    intro d hd
    simp only [List.mem_cons, List.not_mem_nil, or_false] at hd
    rcases hd with rfl | rfl | rfl | rfl | rfl | rfl | rfl | rfl
    · exact ⟨_, rfl, by omega, by omega⟩
    · exact ⟨_, rfl, by omega, by omega⟩
    · exact ⟨_, rfl, by omega, by omega⟩
    · exact ⟨_, rfl, by omega, by omega⟩
    · exact ⟨_, rfl, by omega, by omega⟩
    · exact ⟨_, rfl, by omega, by omega⟩
    · exact ⟨_, rfl, by omega, by omega⟩
    · exact ⟨1000000000000000000000000000000000, rfl, by decide, by decide⟩
  clear h11 h12 h21 h22 h31 h32 h33
  generalize [D.int (few cs s), .int (few cs s - 1), .int (few cs s + 1), .int 0, .int r1, .int r2, .int (few cs s + r3), .int (10 ^ Int.toNat 33)] = els at hes ⊢
  refine ws_seq (ws_for (wi_p (ei_list (ev_var rfl)) ⟨fun j Γ' => ∃ t7 t8, Γ' = [.scr ns, .im (.int k), .bx (0 + 1 + 10000 + 1 + 1 + 1 + 1 + 1 + 1 + 1 + 1), .im (.lst (cs.map D.int)), .im (.int s), .im (.int (few cs s)), .im (.lst els), t7, t8], ⟨_, _, rfl⟩, ?_, ?_⟩))
  · rintro j d _ hd ⟨t7, t8, rfl⟩
    obtain ⟨m, rfl, hm0, hm1⟩ := hes d (List.mem_of_getElem? hd)
    refine wg_name (by decide) ?_
    walk_at "zn"
    have hcl := hc.1
    have ln := lbar_none (s := s) hc (by omega) hm0
    have ls := fun j => lbar_some (ns := cs) (s := s) (m := m) (j := j)
    have h100 := hc.top.2.2
    refine ws_seq (ws_asg (by decide) (we_d (d := optD (lbar cs s m)) (by walk_at "zev") ?_))
    walk_at "zn"
    have oko : okE (optD (lbar cs s m)) := by
      cases e : lbar cs s m with
      | none => exact okE_non
      | some j => exact okE_int (by have := ls j e; omega)
    refine ws_seq (ws_if (wt_p (b := !true) (by walk_at "zev") ⟨fun z => (by cases z), fun _ => ws_next ?_⟩))
    cases e : lbar cs s m with
    | none =>
      have le := ln.mp e
      show wpS K (fun x => E0) [] _ [.scr ns, .im (.int k), .bx (0 + 1 + 10000 + 1 + 1 + 1 + 1 + 1 + 1 + 1 + 1), .im (.lst (cs.map D.int)), .im (.int s), .im (.int (few cs s)), .im (.lst els), .im (.int m), .im .non] _
      refine' ws_seq (ws_if (wt_p ?h ⟨?f, ?g⟩))
      case h => walk_at "zev"
      case f => intro z; exfalso; simp [nonD] at z; omega
      case g =>
      intro _
      refine ws_next ?_
      exact ws_if (wt_p (b := (!true) && true) (et_and (et_test (ev_op (ev_var rfl) ev_non rv_notN)) fun z => (by cases z)) ⟨fun z => (by cases z), fun _ => ws_next ⟨_, _, rfl⟩⟩)
    | some j =>
      have lj := ls j e
      have gt : ¬ few cs s ≤ m := fun q => by rw [ln.mpr q] at e; cases e
      have cm : CMulW s (m - (j : Int)) := wide_mul (a := 110) (b := 120) (by omega) (by omega) (by decide) (by decide) (by decide)
      show wpS K (fun x => E0) [] _ [.scr ns, .im (.int k), .bx (0 + 1 + 10000 + 1 + 1 + 1 + 1 + 1 + 1 + 1 + 1), .im (.lst (cs.map D.int)), .im (.int s), .im (.int (few cs s)), .im (.lst els), .im (.int m), .im (.int (j : Int))] _
      refine' ws_seq (ws_if (wt_p ?h ⟨?f, ?g⟩))
      case h => walk_at "zev"
      case f => intro z; exfalso; simp [nonD] at z; omega
      case g =>
      intro _
      refine ws_next ?_
      refine' ws_if (wt_p ?h ⟨?f, ?g⟩)
      case h => walk_at "zev"
      case f => intro z; exfalso; simp only [Bool.and_eq_true, Bool.or_eq_true, decide_eq_true_eq] at z; rcases z.2 with z | z <;> omega
      case g => exact fun _ => ws_next ⟨_, _, rfl⟩
  · rintro _ ⟨t7, t8, rfl⟩
    have e1 : EvD K (tCl (spP K S_bar) [] (fun x => E0) (tCons (tOp rMulU (tLst (tCons (tC (V.int 1)) tNil)) (tOp (rAddU K) (tC (V.int 1)) (tVar 1))) (tCons (tVar 4) (tCons (tC (V.int 0)) tNil))))
        (vw [.scr ns, .im (.int k), .bx (0 + 1 + 10000 + 1 + 1 + 1 + 1 + 1 + 1 + 1 + 1), .im (.lst (cs.map D.int)), .im (.int s), .im (.int (few cs s)), .im (.lst els), t7, t8]) .non := by
      refine ev_is (ev_cl0 (ds := [.lst ((List.replicate (1 + k).toNat [D.int 1]).flatten), .int s, .int 0]) (ea_cons (ev_of_l (evl_op (ev_of_l (evl_lst (ea_cons ev_int ea_nil) (by decide))) (ev_op ev_int (ev_var rfl) rv_add) (rvl_rep (by omega) (by show 1 * (1 + k).toNat ≤ 1000000; omega)))) (ea_cons (ev_var rfl) (ea_cons ev_int ea_nil)))
        (S_bar.mk _ (List.replicate (1 + k).toNat 1) s 0 (by rw [rep_flat]; exact sq_l) (cts_ones (by omega)) (by omega) (by omega) (by decide) (by decide))) ?_
      rw [lbar_ones (by omega) (by omega)]
      rfl
    have e2 : EvD K (tCl (spP K S_bar) [] (fun x => E0) (tCons (tLst tNil) (tCons (tVar 4) (tCons (tC (V.int 0)) tNil))))
        (vw [.scr ns, .im (.int k), .bx (0 + 1 + 10000 + 1 + 1 + 1 + 1 + 1 + 1 + 1 + 1), .im (.lst (cs.map D.int)), .im (.int s), .im (.int (few cs s)), .im (.lst els), t7, t8]) .non := by
      refine ev_is (ev_cl0 (ea_cons (ev_of_l (evl_lst ea_nil (by decide))) (ea_cons (ev_var rfl) (ea_cons ev_int ea_nil))) (S_bar.mk _ [] s 0 (Or.inl rfl) ⟨by decide, by decide⟩ (by omega) (by omega) (by decide) (by decide))) ?_
      rw [show lbar [] s 0 = none from lbar_ones (n := 0) (by decide) (by omega)]
      rfl
    have e3 : EvD K (tCl (spP K S_bar) [] (fun x => E0) (tCons (tLst (tCons (tC (V.int 2)) tNil)) (tCons (tVar 4) (tCons (tC (V.int 0)) tNil))))
        (vw [.scr ns, .im (.int k), .bx (0 + 1 + 10000 + 1 + 1 + 1 + 1 + 1 + 1 + 1 + 1), .im (.lst (cs.map D.int)), .im (.int s), .im (.int (few cs s)), .im (.lst els), t7, t8]) (.int 0) := by
      refine ev_is (ev_cl0 (ea_cons (ev_of_l (evl_lst (ea_cons ev_int ea_nil) (by decide))) (ea_cons (ev_var rfl) (ea_cons ev_int ea_nil))) (S_bar.mk _ [2] s 0 (Or.inl rfl) ⟨by decide, by decide⟩ (by omega) (by omega) (by decide) (by decide))) ?_
      rw [lbar_two]
      rfl
    exact ws_if (wt_p (b := (!true) || ((!true) || (!true))) (et_or (et_test (ev_op e1 ev_non rv_notN)) fun _ => et_or (et_test (ev_op e2 ev_non rv_notN)) fun _ => et_test (ev_op e3 ev_int rv_neI)) ⟨fun z => (by cases z), fun _ => ws_next ⟨_, rfl, rfl⟩⟩)

end
end Z
namespace Z
open PySem PySem.Spec PyProof.Rows L2
set_option maxHeartbeats 4000000 in
theorem all_mk {l : PySem.W.OpenLaw} {w : World} {K : PySem.W.Frag} {h : Heap} {mg : Str → Option Value} {fa : Addr} (X : K.In h) (G : h.Ns mainGlobals mg) (hfa : mg "law" = some (.ref fa))
    {f_is_integer : Addr} {od_is_integer an_is_integer : Option Addr} {sl_is_integer : Array (Option Value)} {oc_is_integer kV_is_integer dc_is_integer pm_is_integer cd_is_integer ct_is_integer : Value}
    {f_is_list : Addr} {od_is_list an_is_list : Option Addr} {sl_is_list : Array (Option Value)} {oc_is_list kV_is_list dc_is_list pm_is_list cd_is_list ct_is_list : Value}
    {f_beyond : Addr} {od_beyond an_beyond : Option Addr} {sl_beyond : Array (Option Value)} {oc_beyond kV_beyond dc_beyond pm_beyond cd_beyond ct_beyond : Value}
    {f_rounded_up : Addr} {od_rounded_up an_rounded_up : Option Addr} {sl_rounded_up : Array (Option Value)} {oc_rounded_up kV_rounded_up dc_rounded_up pm_rounded_up cd_rounded_up ct_rounded_up : Value}
    {f__law_cell : Addr} {od__law_cell an__law_cell : Option Addr} {sl__law_cell : Array (Option Value)} {oc__law_cell kV__law_cell dc__law_cell pm__law_cell cd__law_cell ct__law_cell : Value}
    {f__law_box : Addr} {od__law_box an__law_box : Option Addr} {sl__law_box : Array (Option Value)} {oc__law_box kV__law_box dc__law_box pm__law_box cd__law_box ct__law_box : Value}
    {f__law_take : Addr} {od__law_take an__law_take : Option Addr} {sl__law_take : Array (Option Value)} {oc__law_take kV__law_take dc__law_take pm__law_take cd__law_take ct__law_take : Value}
    {f__law_equal : Addr} {od__law_equal an__law_equal : Option Addr} {sl__law_equal : Array (Option Value)} {oc__law_equal kV__law_equal dc__law_equal pm__law_equal cd__law_equal ct__law_equal : Value}
    {f__law_excess : Addr} {od__law_excess an__law_excess : Option Addr} {sl__law_excess : Array (Option Value)} {oc__law_excess kV__law_excess dc__law_excess pm__law_excess cd__law_excess ct__law_excess : Value}
    {f_are_counts : Addr} {od_are_counts an_are_counts : Option Addr} {sl_are_counts : Array (Option Value)} {oc_are_counts kV_are_counts dc_are_counts pm_are_counts cd_are_counts ct_are_counts : Value}
    {f_check_height : Addr} {od_check_height an_check_height : Option Addr} {sl_check_height : Array (Option Value)} {oc_check_height kV_check_height dc_check_height pm_check_height cd_check_height ct_check_height : Value}
    {f_check_strokes : Addr} {od_check_strokes an_check_strokes : Option Addr} {sl_check_strokes : Array (Option Value)} {oc_check_strokes kV_check_strokes dc_check_strokes pm_check_strokes cd_check_strokes ct_check_strokes : Value}
    {f_excesses : Addr} {od_excesses an_excesses : Option Addr} {sl_excesses : Array (Option Value)} {oc_excesses kV_excesses dc_excesses pm_excesses cd_excesses ct_excesses : Value}
    {f_bars_at : Addr} {od_bars_at an_bars_at : Option Addr} {sl_bars_at : Array (Option Value)} {oc_bars_at kV_bars_at dc_bars_at pm_bars_at cd_bars_at ct_bars_at : Value}
    {f__law_fewest : Addr} {od__law_fewest an__law_fewest : Option Addr} {sl__law_fewest : Array (Option Value)} {oc__law_fewest kV__law_fewest dc__law_fewest pm__law_fewest cd__law_fewest ct__law_fewest : Value}
    {f__law_bar : Addr} {od__law_bar an__law_bar : Option Addr} {sl__law_bar : Array (Option Value)} {oc__law_bar kV__law_bar dc__law_bar pm__law_bar cd__law_bar ct__law_bar : Value}
    {f__law_numbers : Addr} {od__law_numbers an__law_numbers : Option Addr} {sl__law_numbers : Array (Option Value)} {oc__law_numbers kV__law_numbers dc__law_numbers pm__law_numbers cd__law_numbers ct__law_numbers : Value}
    {f_check_counts : Addr} {od_check_counts an_check_counts : Option Addr} {sl_check_counts : Array (Option Value)} {oc_check_counts kV_check_counts dc_check_counts pm_check_counts cd_check_counts ct_check_counts : Value}
    {f_demands : Addr} {od_demands an_demands : Option Addr} {sl_demands : Array (Option Value)} {oc_demands kV_demands dc_demands pm_demands cd_demands ct_demands : Value}
    {f_least_bar : Addr} {od_least_bar an_least_bar : Option Addr} {sl_least_bar : Array (Option Value)} {oc_least_bar kV_least_bar dc_least_bar pm_least_bar cd_least_bar ct_least_bar : Value}
    {f_fewest_for : Addr} {od_fewest_for an_fewest_for : Option Addr} {sl_fewest_for : Array (Option Value)} {oc_fewest_for kV_fewest_for dc_fewest_for pm_fewest_for cd_fewest_for ct_fewest_for : Value}
    {f_check_all : Addr} {od_check_all an_check_all : Option Addr} {sl_check_all : Array (Option Value)} {oc_check_all kV_check_all dc_check_all pm_check_all cd_check_all ct_check_all : Value}
    {f_fewest : Addr} {od_fewest an_fewest : Option Addr} {sl_fewest : Array (Option Value)} {oc_fewest kV_fewest dc_fewest pm_fewest cd_fewest ct_fewest : Value}
    {f_bar : Addr} {od_bar an_bar : Option Addr} {sl_bar : Array (Option Value)} {oc_bar kV_bar dc_bar pm_bar cd_bar ct_bar : Value}
    {f_law : Addr} {od_law an_law : Option Addr} {sl_law : Array (Option Value)} {oc_law kV_law dc_law pm_law cd_law ct_law : Value}
    {t_GREATEST_COUNT : Tok}
    {t_GREATEST_STACK : Tok}
    {t_MOST_COUNTS : Tok}
    {t_MOST_STROKES : Tok}
    (g_is_integer : PySem.W.nsIn K mainGlobals "is_integer" = some (some (.ref f_is_integer)))
    (l_is_integer : K.lookup f_is_integer = some ⟨oc_is_integer, od_is_integer, .func (PySem.W.fnOf "is_integer" "is_integer" (defArgs s_is_integer) (defBody s_is_integer) (defScope s_is_integer) .none kV_is_integer dc_is_integer pm_is_integer an_is_integer cd_is_integer ct_is_integer), sl_is_integer⟩)
    (c_is_integer : PySem.W.codeIn K cd_is_integer "is_integer" = true)
    (k_is_integer : PySem.W.keepIn K (.ref f_is_integer) = true)
    (g_is_list : PySem.W.nsIn K mainGlobals "is_list" = some (some (.ref f_is_list)))
    (l_is_list : K.lookup f_is_list = some ⟨oc_is_list, od_is_list, .func (PySem.W.fnOf "is_list" "is_list" (defArgs s_is_list) (defBody s_is_list) (defScope s_is_list) .none kV_is_list dc_is_list pm_is_list an_is_list cd_is_list ct_is_list), sl_is_list⟩)
    (c_is_list : PySem.W.codeIn K cd_is_list "is_list" = true)
    (k_is_list : PySem.W.keepIn K (.ref f_is_list) = true)
    (g_beyond : PySem.W.nsIn K mainGlobals "beyond" = some (some (.ref f_beyond)))
    (l_beyond : K.lookup f_beyond = some ⟨oc_beyond, od_beyond, .func (PySem.W.fnOf "beyond" "beyond" (defArgs s_beyond) (defBody s_beyond) (defScope s_beyond) .none kV_beyond dc_beyond pm_beyond an_beyond cd_beyond ct_beyond), sl_beyond⟩)
    (c_beyond : PySem.W.codeIn K cd_beyond "beyond" = true)
    (k_beyond : PySem.W.keepIn K (.ref f_beyond) = true)
    (g_rounded_up : PySem.W.nsIn K mainGlobals "rounded_up" = some (some (.ref f_rounded_up)))
    (l_rounded_up : K.lookup f_rounded_up = some ⟨oc_rounded_up, od_rounded_up, .func (PySem.W.fnOf "rounded_up" "rounded_up" (defArgs s_rounded_up) (defBody s_rounded_up) (defScope s_rounded_up) .none kV_rounded_up dc_rounded_up pm_rounded_up an_rounded_up cd_rounded_up ct_rounded_up), sl_rounded_up⟩)
    (c_rounded_up : PySem.W.codeIn K cd_rounded_up "rounded_up" = true)
    (k_rounded_up : PySem.W.keepIn K (.ref f_rounded_up) = true)
    (g__law_cell : PySem.W.nsIn K mainGlobals "_law_cell" = some (some (.ref f__law_cell)))
    (l__law_cell : K.lookup f__law_cell = some ⟨oc__law_cell, od__law_cell, .func (PySem.W.fnOf "_law_cell" "_law_cell" (defArgs s__law_cell) (defBody s__law_cell) (defScope s__law_cell) .none kV__law_cell dc__law_cell pm__law_cell an__law_cell cd__law_cell ct__law_cell), sl__law_cell⟩)
    (c__law_cell : PySem.W.codeIn K cd__law_cell "_law_cell" = true)
    (k__law_cell : PySem.W.keepIn K (.ref f__law_cell) = true)
    (g__law_box : PySem.W.nsIn K mainGlobals "_law_box" = some (some (.ref f__law_box)))
    (l__law_box : K.lookup f__law_box = some ⟨oc__law_box, od__law_box, .func (PySem.W.fnOf "_law_box" "_law_box" (defArgs s__law_box) (defBody s__law_box) (defScope s__law_box) .none kV__law_box dc__law_box pm__law_box an__law_box cd__law_box ct__law_box), sl__law_box⟩)
    (c__law_box : PySem.W.codeIn K cd__law_box "_law_box" = true)
    (k__law_box : PySem.W.keepIn K (.ref f__law_box) = true)
    (g__law_take : PySem.W.nsIn K mainGlobals "_law_take" = some (some (.ref f__law_take)))
    (l__law_take : K.lookup f__law_take = some ⟨oc__law_take, od__law_take, .func (PySem.W.fnOf "_law_take" "_law_take" (defArgs s__law_take) (defBody s__law_take) (defScope s__law_take) .none kV__law_take dc__law_take pm__law_take an__law_take cd__law_take ct__law_take), sl__law_take⟩)
    (c__law_take : PySem.W.codeIn K cd__law_take "_law_take" = true)
    (k__law_take : PySem.W.keepIn K (.ref f__law_take) = true)
    (g__law_equal : PySem.W.nsIn K mainGlobals "_law_equal" = some (some (.ref f__law_equal)))
    (l__law_equal : K.lookup f__law_equal = some ⟨oc__law_equal, od__law_equal, .func (PySem.W.fnOf "_law_equal" "_law_equal" (defArgs s__law_equal) (defBody s__law_equal) (defScope s__law_equal) .none kV__law_equal dc__law_equal pm__law_equal an__law_equal cd__law_equal ct__law_equal), sl__law_equal⟩)
    (c__law_equal : PySem.W.codeIn K cd__law_equal "_law_equal" = true)
    (k__law_equal : PySem.W.keepIn K (.ref f__law_equal) = true)
    (g__law_excess : PySem.W.nsIn K mainGlobals "_law_excess" = some (some (.ref f__law_excess)))
    (l__law_excess : K.lookup f__law_excess = some ⟨oc__law_excess, od__law_excess, .func (PySem.W.fnOf "_law_excess" "_law_excess" (defArgs s__law_excess) (defBody s__law_excess) (defScope s__law_excess) .none kV__law_excess dc__law_excess pm__law_excess an__law_excess cd__law_excess ct__law_excess), sl__law_excess⟩)
    (c__law_excess : PySem.W.codeIn K cd__law_excess "_law_excess" = true)
    (k__law_excess : PySem.W.keepIn K (.ref f__law_excess) = true)
    (g_are_counts : PySem.W.nsIn K mainGlobals "are_counts" = some (some (.ref f_are_counts)))
    (l_are_counts : K.lookup f_are_counts = some ⟨oc_are_counts, od_are_counts, .func (PySem.W.fnOf "are_counts" "are_counts" (defArgs s_are_counts) (defBody s_are_counts) (defScope s_are_counts) .none kV_are_counts dc_are_counts pm_are_counts an_are_counts cd_are_counts ct_are_counts), sl_are_counts⟩)
    (c_are_counts : PySem.W.codeIn K cd_are_counts "are_counts" = true)
    (k_are_counts : PySem.W.keepIn K (.ref f_are_counts) = true)
    (g_check_height : PySem.W.nsIn K mainGlobals "check_height" = some (some (.ref f_check_height)))
    (l_check_height : K.lookup f_check_height = some ⟨oc_check_height, od_check_height, .func (PySem.W.fnOf "check_height" "check_height" (defArgs s_check_height) (defBody s_check_height) (defScope s_check_height) .none kV_check_height dc_check_height pm_check_height an_check_height cd_check_height ct_check_height), sl_check_height⟩)
    (c_check_height : PySem.W.codeIn K cd_check_height "check_height" = true)
    (k_check_height : PySem.W.keepIn K (.ref f_check_height) = true)
    (g_check_strokes : PySem.W.nsIn K mainGlobals "check_strokes" = some (some (.ref f_check_strokes)))
    (l_check_strokes : K.lookup f_check_strokes = some ⟨oc_check_strokes, od_check_strokes, .func (PySem.W.fnOf "check_strokes" "check_strokes" (defArgs s_check_strokes) (defBody s_check_strokes) (defScope s_check_strokes) .none kV_check_strokes dc_check_strokes pm_check_strokes an_check_strokes cd_check_strokes ct_check_strokes), sl_check_strokes⟩)
    (c_check_strokes : PySem.W.codeIn K cd_check_strokes "check_strokes" = true)
    (k_check_strokes : PySem.W.keepIn K (.ref f_check_strokes) = true)
    (g_excesses : PySem.W.nsIn K mainGlobals "excesses" = some (some (.ref f_excesses)))
    (l_excesses : K.lookup f_excesses = some ⟨oc_excesses, od_excesses, .func (PySem.W.fnOf "excesses" "excesses" (defArgs s_excesses) (defBody s_excesses) (defScope s_excesses) .none kV_excesses dc_excesses pm_excesses an_excesses cd_excesses ct_excesses), sl_excesses⟩)
    (c_excesses : PySem.W.codeIn K cd_excesses "excesses" = true)
    (k_excesses : PySem.W.keepIn K (.ref f_excesses) = true)
    (g_bars_at : PySem.W.nsIn K mainGlobals "bars_at" = some (some (.ref f_bars_at)))
    (l_bars_at : K.lookup f_bars_at = some ⟨oc_bars_at, od_bars_at, .func (PySem.W.fnOf "bars_at" "bars_at" (defArgs s_bars_at) (defBody s_bars_at) (defScope s_bars_at) .none kV_bars_at dc_bars_at pm_bars_at an_bars_at cd_bars_at ct_bars_at), sl_bars_at⟩)
    (c_bars_at : PySem.W.codeIn K cd_bars_at "bars_at" = true)
    (k_bars_at : PySem.W.keepIn K (.ref f_bars_at) = true)
    (g__law_fewest : PySem.W.nsIn K mainGlobals "_law_fewest" = some (some (.ref f__law_fewest)))
    (l__law_fewest : K.lookup f__law_fewest = some ⟨oc__law_fewest, od__law_fewest, .func (PySem.W.fnOf "_law_fewest" "_law_fewest" (defArgs s__law_fewest) (defBody s__law_fewest) (defScope s__law_fewest) .none kV__law_fewest dc__law_fewest pm__law_fewest an__law_fewest cd__law_fewest ct__law_fewest), sl__law_fewest⟩)
    (c__law_fewest : PySem.W.codeIn K cd__law_fewest "_law_fewest" = true)
    (k__law_fewest : PySem.W.keepIn K (.ref f__law_fewest) = true)
    (g__law_bar : PySem.W.nsIn K mainGlobals "_law_bar" = some (some (.ref f__law_bar)))
    (l__law_bar : K.lookup f__law_bar = some ⟨oc__law_bar, od__law_bar, .func (PySem.W.fnOf "_law_bar" "_law_bar" (defArgs s__law_bar) (defBody s__law_bar) (defScope s__law_bar) .none kV__law_bar dc__law_bar pm__law_bar an__law_bar cd__law_bar ct__law_bar), sl__law_bar⟩)
    (c__law_bar : PySem.W.codeIn K cd__law_bar "_law_bar" = true)
    (k__law_bar : PySem.W.keepIn K (.ref f__law_bar) = true)
    (g__law_numbers : PySem.W.nsIn K mainGlobals "_law_numbers" = some (some (.ref f__law_numbers)))
    (l__law_numbers : K.lookup f__law_numbers = some ⟨oc__law_numbers, od__law_numbers, .func (PySem.W.fnOf "_law_numbers" "_law_numbers" (defArgs s__law_numbers) (defBody s__law_numbers) (defScope s__law_numbers) .none kV__law_numbers dc__law_numbers pm__law_numbers an__law_numbers cd__law_numbers ct__law_numbers), sl__law_numbers⟩)
    (c__law_numbers : PySem.W.codeIn K cd__law_numbers "_law_numbers" = true)
    (k__law_numbers : PySem.W.keepIn K (.ref f__law_numbers) = true)
    (g_check_counts : PySem.W.nsIn K mainGlobals "check_counts" = some (some (.ref f_check_counts)))
    (l_check_counts : K.lookup f_check_counts = some ⟨oc_check_counts, od_check_counts, .func (PySem.W.fnOf "check_counts" "check_counts" (defArgs s_check_counts) (defBody s_check_counts) (defScope s_check_counts) .none kV_check_counts dc_check_counts pm_check_counts an_check_counts cd_check_counts ct_check_counts), sl_check_counts⟩)
    (c_check_counts : PySem.W.codeIn K cd_check_counts "check_counts" = true)
    (k_check_counts : PySem.W.keepIn K (.ref f_check_counts) = true)
    (g_demands : PySem.W.nsIn K mainGlobals "demands" = some (some (.ref f_demands)))
    (l_demands : K.lookup f_demands = some ⟨oc_demands, od_demands, .func (PySem.W.fnOf "demands" "demands" (defArgs s_demands) (defBody s_demands) (defScope s_demands) .none kV_demands dc_demands pm_demands an_demands cd_demands ct_demands), sl_demands⟩)
    (c_demands : PySem.W.codeIn K cd_demands "demands" = true)
    (k_demands : PySem.W.keepIn K (.ref f_demands) = true)
    (g_least_bar : PySem.W.nsIn K mainGlobals "least_bar" = some (some (.ref f_least_bar)))
    (l_least_bar : K.lookup f_least_bar = some ⟨oc_least_bar, od_least_bar, .func (PySem.W.fnOf "least_bar" "least_bar" (defArgs s_least_bar) (defBody s_least_bar) (defScope s_least_bar) .none kV_least_bar dc_least_bar pm_least_bar an_least_bar cd_least_bar ct_least_bar), sl_least_bar⟩)
    (c_least_bar : PySem.W.codeIn K cd_least_bar "least_bar" = true)
    (k_least_bar : PySem.W.keepIn K (.ref f_least_bar) = true)
    (g_fewest_for : PySem.W.nsIn K mainGlobals "fewest_for" = some (some (.ref f_fewest_for)))
    (l_fewest_for : K.lookup f_fewest_for = some ⟨oc_fewest_for, od_fewest_for, .func (PySem.W.fnOf "fewest_for" "fewest_for" (defArgs s_fewest_for) (defBody s_fewest_for) (defScope s_fewest_for) .none kV_fewest_for dc_fewest_for pm_fewest_for an_fewest_for cd_fewest_for ct_fewest_for), sl_fewest_for⟩)
    (c_fewest_for : PySem.W.codeIn K cd_fewest_for "fewest_for" = true)
    (k_fewest_for : PySem.W.keepIn K (.ref f_fewest_for) = true)
    (g_check_all : PySem.W.nsIn K mainGlobals "check_all" = some (some (.ref f_check_all)))
    (l_check_all : K.lookup f_check_all = some ⟨oc_check_all, od_check_all, .func (PySem.W.fnOf "check_all" "check_all" (defArgs s_check_all) (defBody s_check_all) (defScope s_check_all) .none kV_check_all dc_check_all pm_check_all an_check_all cd_check_all ct_check_all), sl_check_all⟩)
    (c_check_all : PySem.W.codeIn K cd_check_all "check_all" = true)
    (k_check_all : PySem.W.keepIn K (.ref f_check_all) = true)
    (g_fewest : PySem.W.nsIn K mainGlobals "fewest" = some (some (.ref f_fewest)))
    (l_fewest : K.lookup f_fewest = some ⟨oc_fewest, od_fewest, .func (PySem.W.fnOf "fewest" "fewest" (defArgs s_fewest) (defBody s_fewest) (defScope s_fewest) .none kV_fewest dc_fewest pm_fewest an_fewest cd_fewest ct_fewest), sl_fewest⟩)
    (c_fewest : PySem.W.codeIn K cd_fewest "fewest" = true)
    (k_fewest : PySem.W.keepIn K (.ref f_fewest) = true)
    (g_bar : PySem.W.nsIn K mainGlobals "bar" = some (some (.ref f_bar)))
    (l_bar : K.lookup f_bar = some ⟨oc_bar, od_bar, .func (PySem.W.fnOf "bar" "bar" (defArgs s_bar) (defBody s_bar) (defScope s_bar) .none kV_bar dc_bar pm_bar an_bar cd_bar ct_bar), sl_bar⟩)
    (c_bar : PySem.W.codeIn K cd_bar "bar" = true)
    (k_bar : PySem.W.keepIn K (.ref f_bar) = true)
    (g_law : PySem.W.nsIn K mainGlobals "law" = some (some (.ref f_law)))
    (l_law : K.lookup f_law = some ⟨oc_law, od_law, .func (PySem.W.fnOf "law" "law" (defArgs s_law) (defBody s_law) (defScope s_law) .none kV_law dc_law pm_law an_law cd_law ct_law), sl_law⟩)
    (c_law : PySem.W.codeIn K cd_law "law" = true)
    (k_law : PySem.W.keepIn K (.ref f_law) = true)
    (n_all : PySem.W.nsIn K mainGlobals "all" = some none)
    (n_bool : PySem.W.nsIn K mainGlobals "bool" = some none)
    (n_enumerate : PySem.W.nsIn K mainGlobals "enumerate" = some none)
    (n_int : PySem.W.nsIn K mainGlobals "int" = some none)
    (n_isinstance : PySem.W.nsIn K mainGlobals "isinstance" = some none)
    (n_len : PySem.W.nsIn K mainGlobals "len" = some none)
    (n_list : PySem.W.nsIn K mainGlobals "list" = some none)
    (n_max : PySem.W.nsIn K mainGlobals "max" = some none)
    (n_min : PySem.W.nsIn K mainGlobals "min" = some none)
    (n_range : PySem.W.nsIn K mainGlobals "range" = some none)
    (n_repr : PySem.W.nsIn K mainGlobals "repr" = some none)
    (n_sum : PySem.W.nsIn K mainGlobals "sum" = some none)
    (n_tuple : PySem.W.nsIn K mainGlobals "tuple" = some none)
    (v_GREATEST_COUNT : PySem.W.nsIn K mainGlobals "GREATEST_COUNT" = some (some (.int 1000000000000000000000000000000 t_GREATEST_COUNT)))
    (v_GREATEST_STACK : PySem.W.nsIn K mainGlobals "GREATEST_STACK" = some (some (.int 1000000000000000000000000000000 t_GREATEST_STACK)))
    (v_MOST_COUNTS : PySem.W.nsIn K mainGlobals "MOST_COUNTS" = some (some (.int 600 t_MOST_COUNTS)))
    (v_MOST_STROKES : PySem.W.nsIn K mainGlobals "MOST_STROKES" = some (some (.int 1000000000000000000000000000000000 t_MOST_STROKES)))
    : ∃ fd : FuncData, (∀ (s : Shared) (v : Value), BindsTo s fd ⟨[v], []⟩ [("script", v)]) ∧ ∀ base : Heap, K.In base → base.Ns mainGlobals mg → FnG l.prog w K mg base (L2.CX l.prog w) 6 fa fd ["script"] (spLaw K) := by
  have e := hfa.symm.trans (PySem.W.mg_of X G g_law)
  cases e
  have F_is_integer := fun_mk (st := s_is_integer) l_is_integer c_is_integer k_is_integer
  have F_is_list := fun_mk (st := s_is_list) l_is_list c_is_list k_is_list
  have F_beyond := fun_mk (st := s_beyond) l_beyond c_beyond k_beyond
  have F_rounded_up := fun_mk (st := s_rounded_up) l_rounded_up c_rounded_up k_rounded_up
  have F__law_cell := fun_mk (st := s__law_cell) l__law_cell c__law_cell k__law_cell
  have F__law_box := fun_mk (st := s__law_box) l__law_box c__law_box k__law_box
  have F__law_take := fun_mk (st := s__law_take) l__law_take c__law_take k__law_take
  have F__law_equal := fun_mk (st := s__law_equal) l__law_equal c__law_equal k__law_equal
  have F__law_excess := fun_mk (st := s__law_excess) l__law_excess c__law_excess k__law_excess
  have F_are_counts := fun_mk (st := s_are_counts) l_are_counts c_are_counts k_are_counts
  have F_check_height := fun_mk (st := s_check_height) l_check_height c_check_height k_check_height
  have F_check_strokes := fun_mk (st := s_check_strokes) l_check_strokes c_check_strokes k_check_strokes
  have F_excesses := fun_mk (st := s_excesses) l_excesses c_excesses k_excesses
  have F_bars_at := fun_mk (st := s_bars_at) l_bars_at c_bars_at k_bars_at
  have F__law_fewest := fun_mk (st := s__law_fewest) l__law_fewest c__law_fewest k__law_fewest
  have F__law_bar := fun_mk (st := s__law_bar) l__law_bar c__law_bar k__law_bar
  have F__law_numbers := fun_mk (st := s__law_numbers) l__law_numbers c__law_numbers k__law_numbers
  have F_check_counts := fun_mk (st := s_check_counts) l_check_counts c_check_counts k_check_counts
  have F_demands := fun_mk (st := s_demands) l_demands c_demands k_demands
  have F_least_bar := fun_mk (st := s_least_bar) l_least_bar c_least_bar k_least_bar
  have F_fewest_for := fun_mk (st := s_fewest_for) l_fewest_for c_fewest_for k_fewest_for
  have F_check_all := fun_mk (st := s_check_all) l_check_all c_check_all k_check_all
  have F_fewest := fun_mk (st := s_fewest) l_fewest c_fewest k_fewest
  have F_bar := fun_mk (st := s_bar) l_bar c_bar k_bar
  have F_law := fun_mk (st := s_law) l_law c_law k_law
  let T : Tx K mg := {
    a_is_integer := f_is_integer, d_is_integer := _, F_is_integer := F_is_integer, b_is_integer := (F_is_integer.binds (ps := ["value", "low", "high"]) fun _ _ _ _ _ _ us hl => match us, hl with | [_, _, _], _ => rfl), m_is_integer := PySem.W.mg_of X G g_is_integer,
    a_is_list := f_is_list, d_is_list := _, F_is_list := F_is_list, b_is_list := (F_is_list.binds (ps := ["value", "most"]) fun _ _ _ _ _ _ us hl => match us, hl with | [_, _], _ => rfl), m_is_list := PySem.W.mg_of X G g_is_list,
    a_beyond := f_beyond, d_beyond := _, F_beyond := F_beyond, b_beyond := (F_beyond.binds (ps := ["counts", "level"]) fun _ _ _ _ _ _ us hl => match us, hl with | [_, _], _ => rfl), m_beyond := PySem.W.mg_of X G g_beyond,
    a_rounded_up := f_rounded_up, d_rounded_up := _, F_rounded_up := F_rounded_up, b_rounded_up := (F_rounded_up.binds (ps := ["number", "divisor"]) fun _ _ _ _ _ _ us hl => match us, hl with | [_, _], _ => rfl), m_rounded_up := PySem.W.mg_of X G g_rounded_up,
    a__law_cell := f__law_cell, d__law_cell := _, F__law_cell := F__law_cell, b__law_cell := (F__law_cell.binds (ps := ["script", "k"]) fun _ _ _ _ _ _ us hl => match us, hl with | [_, _], _ => rfl), m__law_cell := PySem.W.mg_of X G g__law_cell,
    a__law_box := f__law_box, d__law_box := _, F__law_box := F__law_box, b__law_box := (F__law_box.binds (ps := ["cell"]) fun _ _ _ _ _ _ us hl => match us, hl with | [_], _ => rfl), m__law_box := PySem.W.mg_of X G g__law_box,
    a__law_take := f__law_take, d__law_take := _, F__law_take := F__law_take, b__law_take := (F__law_take.binds (ps := ["box", "many"]) fun _ _ _ _ _ _ us hl => match us, hl with | [_, _], _ => rfl), m__law_take := PySem.W.mg_of X G g__law_take,
    a__law_equal := f__law_equal, d__law_equal := _, F__law_equal := F__law_equal, b__law_equal := (F__law_equal.binds (ps := ["result", "expected"]) fun _ _ _ _ _ _ us hl => match us, hl with | [_, _], _ => rfl), m__law_equal := PySem.W.mg_of X G g__law_equal,
    a__law_excess := f__law_excess, d__law_excess := _, F__law_excess := F__law_excess, b__law_excess := (F__law_excess.binds (ps := ["counts", "level"]) fun _ _ _ _ _ _ us hl => match us, hl with | [_, _], _ => rfl), m__law_excess := PySem.W.mg_of X G g__law_excess,
    a_are_counts := f_are_counts, d_are_counts := _, F_are_counts := F_are_counts, b_are_counts := (F_are_counts.binds (ps := ["value"]) fun _ _ _ _ _ _ us hl => match us, hl with | [_], _ => rfl), m_are_counts := PySem.W.mg_of X G g_are_counts,
    a_check_height := f_check_height, d_check_height := _, F_check_height := F_check_height, b_check_height := (F_check_height.binds (ps := ["stack"]) fun _ _ _ _ _ _ us hl => match us, hl with | [_], _ => rfl), m_check_height := PySem.W.mg_of X G g_check_height,
    a_check_strokes := f_check_strokes, d_check_strokes := _, F_check_strokes := F_check_strokes, b_check_strokes := (F_check_strokes.binds (ps := ["strokes", "most"]) fun _ _ _ _ _ _ us hl => match us, hl with | [_, _], _ => rfl), m_check_strokes := PySem.W.mg_of X G g_check_strokes,
    a_excesses := f_excesses, d_excesses := _, F_excesses := F_excesses, b_excesses := (F_excesses.binds (ps := ["counts"]) fun _ _ _ _ _ _ us hl => match us, hl with | [_], _ => rfl), m_excesses := PySem.W.mg_of X G g_excesses,
    a_bars_at := f_bars_at, d_bars_at := _, F_bars_at := F_bars_at, b_bars_at := (F_bars_at.binds (ps := ["counts", "stack", "strokes", "level"]) fun _ _ _ _ _ _ us hl => match us, hl with | [_, _, _, _], _ => rfl), m_bars_at := PySem.W.mg_of X G g_bars_at,
    a__law_fewest := f__law_fewest, d__law_fewest := _, F__law_fewest := F__law_fewest, b__law_fewest := (F__law_fewest.binds (ps := ["counts", "stack"]) fun _ _ _ _ _ _ us hl => match us, hl with | [_, _], _ => rfl), m__law_fewest := PySem.W.mg_of X G g__law_fewest,
    a__law_bar := f__law_bar, d__law_bar := _, F__law_bar := F__law_bar, b__law_bar := (F__law_bar.binds (ps := ["counts", "stack", "strokes"]) fun _ _ _ _ _ _ us hl => match us, hl with | [_, _, _], _ => rfl), m__law_bar := PySem.W.mg_of X G g__law_bar,
    a__law_numbers := f__law_numbers, d__law_numbers := _, F__law_numbers := F__law_numbers, b__law_numbers := (F__law_numbers.binds (ps := ["box", "most"]) fun _ _ _ _ _ _ us hl => match us, hl with | [_, _], _ => rfl), m__law_numbers := PySem.W.mg_of X G g__law_numbers,
    a_check_counts := f_check_counts, d_check_counts := _, F_check_counts := F_check_counts, b_check_counts := (F_check_counts.binds (ps := ["counts"]) fun _ _ _ _ _ _ us hl => match us, hl with | [_], _ => rfl), m_check_counts := PySem.W.mg_of X G g_check_counts,
    a_demands := f_demands, d_demands := _, F_demands := F_demands, b_demands := (F_demands.binds (ps := ["counts", "stack"]) fun _ _ _ _ _ _ us hl => match us, hl with | [_, _], _ => rfl), m_demands := PySem.W.mg_of X G g_demands,
    a_least_bar := f_least_bar, d_least_bar := _, F_least_bar := F_least_bar, b_least_bar := (F_least_bar.binds (ps := ["counts", "stack", "strokes"]) fun _ _ _ _ _ _ us hl => match us, hl with | [_, _, _], _ => rfl), m_least_bar := PySem.W.mg_of X G g_least_bar,
    a_fewest_for := f_fewest_for, d_fewest_for := _, F_fewest_for := F_fewest_for, b_fewest_for := (F_fewest_for.binds (ps := ["counts", "stack"]) fun _ _ _ _ _ _ us hl => match us, hl with | [_, _], _ => rfl), m_fewest_for := PySem.W.mg_of X G g_fewest_for,
    a_check_all := f_check_all, d_check_all := _, F_check_all := F_check_all, b_check_all := (F_check_all.binds (ps := ["counts", "stack", "strokes"]) fun _ _ _ _ _ _ us hl => match us, hl with | [_, _, _], _ => rfl), m_check_all := PySem.W.mg_of X G g_check_all,
    a_fewest := f_fewest, d_fewest := _, F_fewest := F_fewest, b_fewest := (F_fewest.binds (ps := ["counts", "stack"]) fun _ _ _ _ _ _ us hl => match us, hl with | [_, _], _ => rfl), m_fewest := PySem.W.mg_of X G g_fewest,
    a_bar := f_bar, d_bar := _, F_bar := F_bar, b_bar := (F_bar.binds (ps := ["counts", "stack", "strokes"]) fun _ _ _ _ _ _ us hl => match us, hl with | [_, _, _], _ => rfl), m_bar := PySem.W.mg_of X G g_bar,
    a_law := fa, d_law := _, F_law := F_law, b_law := (F_law.binds (ps := ["script"]) fun _ _ _ _ _ _ us hl => match us, hl with | [_], _ => rfl), m_law := PySem.W.mg_of X G g_law,
    n_all := PySem.W.mg_none_of X G n_all,
    n_bool := PySem.W.mg_none_of X G n_bool,
    n_enumerate := PySem.W.mg_none_of X G n_enumerate,
    n_int := PySem.W.mg_none_of X G n_int,
    n_isinstance := PySem.W.mg_none_of X G n_isinstance,
    n_len := PySem.W.mg_none_of X G n_len,
    n_list := PySem.W.mg_none_of X G n_list,
    n_max := PySem.W.mg_none_of X G n_max,
    n_min := PySem.W.mg_none_of X G n_min,
    n_range := PySem.W.mg_none_of X G n_range,
    n_repr := PySem.W.mg_none_of X G n_repr,
    n_sum := PySem.W.mg_none_of X G n_sum,
    n_tuple := PySem.W.mg_none_of X G n_tuple,
    c_GREATEST_COUNT := ⟨_, PySem.W.mg_of X G v_GREATEST_COUNT⟩,
    c_GREATEST_STACK := ⟨_, PySem.W.mg_of X G v_GREATEST_STACK⟩,
    c_MOST_COUNTS := ⟨_, PySem.W.mg_of X G v_MOST_COUNTS⟩,
    c_MOST_STROKES := ⟨_, PySem.W.mg_of X G v_MOST_STROKES⟩ }
  exact ⟨_, fun s v => .of_eq rfl, fun base _ _ => ok_law T⟩
end Z

open PySem PySem.W PyProof.Rows in
set_option maxRecDepth 100000 in
set_option maxHeartbeats 0 in
theorem PySem.Challenge.cw_stacksaw_k21_whole_bars_and_fewest_holds : PySem.Challenge.rw_stacksaw_k21_whole_bars_and_fewest.Holds := by
  w_on; o_law; k_head; (case hw => w_witness2)
  k_fill
  refine Z.walk_G (l := PySem.Challenge.rw_stacksaw_k21_whole_bars_and_fewest) (x := "script") (k := 6) rfl rfl ⟨rfl, by decide, by decide⟩ (fun w h Y => PySem.W.kIn_of Y) ?F
  case F =>
    intro w mg fa h KX G hmg
    refine' Z.all_mk KX G hmg ?g_is_integer ?l_is_integer ?c_is_integer ?k_is_integer ?g_is_list ?l_is_list ?c_is_list ?k_is_list ?g_beyond ?l_beyond ?c_beyond ?k_beyond ?g_rounded_up ?l_rounded_up ?c_rounded_up ?k_rounded_up ?g__law_cell ?l__law_cell ?c__law_cell ?k__law_cell ?g__law_box ?l__law_box ?c__law_box ?k__law_box ?g__law_take ?l__law_take ?c__law_take ?k__law_take ?g__law_equal ?l__law_equal ?c__law_equal ?k__law_equal ?g__law_excess ?l__law_excess ?c__law_excess ?k__law_excess ?g_are_counts ?l_are_counts ?c_are_counts ?k_are_counts ?g_check_height ?l_check_height ?c_check_height ?k_check_height ?g_check_strokes ?l_check_strokes ?c_check_strokes ?k_check_strokes ?g_excesses ?l_excesses ?c_excesses ?k_excesses ?g_bars_at ?l_bars_at ?c_bars_at ?k_bars_at ?g__law_fewest ?l__law_fewest ?c__law_fewest ?k__law_fewest ?g__law_bar ?l__law_bar ?c__law_bar ?k__law_bar ?g__law_numbers ?l__law_numbers ?c__law_numbers ?k__law_numbers ?g_check_counts ?l_check_counts ?c_check_counts ?k_check_counts ?g_demands ?l_demands ?c_demands ?k_demands ?g_least_bar ?l_least_bar ?c_least_bar ?k_least_bar ?g_fewest_for ?l_fewest_for ?c_fewest_for ?k_fewest_for ?g_check_all ?l_check_all ?c_check_all ?k_check_all ?g_fewest ?l_fewest ?c_fewest ?k_fewest ?g_bar ?l_bar ?c_bar ?k_bar ?g_law ?l_law ?c_law ?k_law ?n_all ?n_bool ?n_enumerate ?n_int ?n_isinstance ?n_len ?n_list ?n_max ?n_min ?n_range ?n_repr ?n_sum ?n_tuple ?v_GREATEST_COUNT ?v_GREATEST_STACK ?v_MOST_COUNTS ?v_MOST_STROKES
    (case g_is_integer => k_is)
    (case l_is_integer => k_is)
    (case c_is_integer => k_is)
    (case k_is_integer => k_is)
    (case g_is_list => k_is)
    (case l_is_list => k_is)
    (case c_is_list => k_is)
    (case k_is_list => k_is)
    (case g_beyond => k_is)
    (case l_beyond => k_is)
    (case c_beyond => k_is)
    (case k_beyond => k_is)
    (case g_rounded_up => k_is)
    (case l_rounded_up => k_is)
    (case c_rounded_up => k_is)
    (case k_rounded_up => k_is)
    (case g__law_cell => k_is)
    (case l__law_cell => k_is)
    (case c__law_cell => k_is)
    (case k__law_cell => k_is)
    (case g__law_box => k_is)
    (case l__law_box => k_is)
    (case c__law_box => k_is)
    (case k__law_box => k_is)
    (case g__law_take => k_is)
    (case l__law_take => k_is)
    (case c__law_take => k_is)
    (case k__law_take => k_is)
    (case g__law_equal => k_is)
    (case l__law_equal => k_is)
    (case c__law_equal => k_is)
    (case k__law_equal => k_is)
    (case g__law_excess => k_is)
    (case l__law_excess => k_is)
    (case c__law_excess => k_is)
    (case k__law_excess => k_is)
    (case g_are_counts => k_is)
    (case l_are_counts => k_is)
    (case c_are_counts => k_is)
    (case k_are_counts => k_is)
    (case g_check_height => k_is)
    (case l_check_height => k_is)
    (case c_check_height => k_is)
    (case k_check_height => k_is)
    (case g_check_strokes => k_is)
    (case l_check_strokes => k_is)
    (case c_check_strokes => k_is)
    (case k_check_strokes => k_is)
    (case g_excesses => k_is)
    (case l_excesses => k_is)
    (case c_excesses => k_is)
    (case k_excesses => k_is)
    (case g_bars_at => k_is)
    (case l_bars_at => k_is)
    (case c_bars_at => k_is)
    (case k_bars_at => k_is)
    (case g__law_fewest => k_is)
    (case l__law_fewest => k_is)
    (case c__law_fewest => k_is)
    (case k__law_fewest => k_is)
    (case g__law_bar => k_is)
    (case l__law_bar => k_is)
    (case c__law_bar => k_is)
    (case k__law_bar => k_is)
    (case g__law_numbers => k_is)
    (case l__law_numbers => k_is)
    (case c__law_numbers => k_is)
    (case k__law_numbers => k_is)
    (case g_check_counts => k_is)
    (case l_check_counts => k_is)
    (case c_check_counts => k_is)
    (case k_check_counts => k_is)
    (case g_demands => k_is)
    (case l_demands => k_is)
    (case c_demands => k_is)
    (case k_demands => k_is)
    (case g_least_bar => k_is)
    (case l_least_bar => k_is)
    (case c_least_bar => k_is)
    (case k_least_bar => k_is)
    (case g_fewest_for => k_is)
    (case l_fewest_for => k_is)
    (case c_fewest_for => k_is)
    (case k_fewest_for => k_is)
    (case g_check_all => k_is)
    (case l_check_all => k_is)
    (case c_check_all => k_is)
    (case k_check_all => k_is)
    (case g_fewest => k_is)
    (case l_fewest => k_is)
    (case c_fewest => k_is)
    (case k_fewest => k_is)
    (case g_bar => k_is)
    (case l_bar => k_is)
    (case c_bar => k_is)
    (case k_bar => k_is)
    (case g_law => k_is)
    (case l_law => k_is)
    (case c_law => k_is)
    (case k_law => k_is)
    (case n_all => k_is)
    (case n_bool => k_is)
    (case n_enumerate => k_is)
    (case n_int => k_is)
    (case n_isinstance => k_is)
    (case n_len => k_is)
    (case n_list => k_is)
    (case n_max => k_is)
    (case n_min => k_is)
    (case n_range => k_is)
    (case n_repr => k_is)
    (case n_sum => k_is)
    (case n_tuple => k_is)
    (case v_GREATEST_COUNT => k_is)
    (case v_GREATEST_STACK => k_is)
    (case v_MOST_COUNTS => k_is)
    (case v_MOST_STROKES => k_is)

